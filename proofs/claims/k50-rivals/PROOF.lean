import PyProof.Rows.All
import Wide.All
import OpenK.AllK
import Wide.FinOn
import PySem.Challenge.RW_meantword_k50_whole_rivals_must_go
import KE.KStateDown
import HandS.ForMost
import HandS.ForExc
import HandS.More
import HandS.Property
import HandS.IsInst
import HandS.Defaults
import HandS.TupAny
import HandS.Conv
import HandS.WideBits
import HandS.Small
import HandS.DictComp
import HandS.ExcInit
import HandS.Codes
import HandS.Head0
import HandS.Head1
import HandS.Head2
import HandS.HeadEnd
import HandS.HeadHook1
import HandS.HeadHook2
import KE.KExcSuper
import KE.KeyNested
import KE.KDictKeyed
import KE.KDictDisplayH
import KE.DataMinMax
import KE.SortData
import HandS.SetFor
import HandS.SetTxtIn
import KE.GoesMore
import HandS.MakeKwOnly
import HandS.SetTxt0
import HandS.Sort
import HandS.SortKw
import HandS.DictTup
import HandS.DictEq
import HandS.TryOnly
import HandS.WordsExc
import HandS.Iter
import PyProof.ListStr
import HandS.Nested
set_option Elab.async false
set_option linter.all false
set_option maxRecDepth 100000
set_option maxHeartbeats 4000000
set_option autoImplicit false
set_option pp.maxSteps 1500
/-! The data layer: slots and mutable objects told as data, readings run on them. -/
namespace MW
open PySem PySem.Spec PyProof.Rows L2
/-- data: nothing in it is ever written -/
inductive D where
  | non | bl (b : Bool) | int (i : Int) | str (x : Str) | ref (a : Addr) | ty (n : String)
  | tup (ds : List D) | lst (ds : List D) | dic (ks : List Str) (ds : List D) | ins (C : Addr) (fs : List Str) (ds : List D)
mutual
def Rep (H : Hp) : D → V → Prop
  | .non, v => v = .non
  | .bl b, v => v = .bl b
  | .int i, v => v = .int i
  | .str x, v => v = .str x
  | .ref a, v => v = .ref a
  | .ty n, v => v = .ty n
  | .tup ds, v => ∃ a vs, v = .ref a ∧ H a = some (.tup vs) ∧ Reps H ds vs
  | .lst ds, v => ∃ a o vs, v = .ref a ∧ H a = some (.frz o (.lst vs)) ∧ Reps H ds vs
  | .dic ks ds, v => ∃ a o kvs, v = .ref a ∧ H a = some (.frz o (.dK kvs)) ∧ kvs.map (·.1) = ks.map Sum.inr ∧ Reps H ds (kvs.map (·.2))
  | .ins C fs ds, v => ∃ a dx vs, v = .ref a ∧ H a = some (.ins C dx (fs.zip vs)) ∧ Reps H ds vs
def Reps (H : Hp) : List D → List V → Prop
  | [], vs => vs = []
  | d :: ds, vs => ∃ v r, vs = v :: r ∧ Rep H d v ∧ Reps H ds r
end
theorem Reps.nil {H : Hp} : Reps H [] [] := rfl
theorem Reps.cons {H : Hp} {d : D} {ds : List D} {v : V} {vs : List V} (h : Rep H d v) (r : Reps H ds vs) : Reps H (d :: ds) (v :: vs) := ⟨v, vs, rfl, h, r⟩
theorem Reps.len {H : Hp} : ∀ {ds : List D} {vs : List V}, Reps H ds vs → vs.length = ds.length
  | [], _, h => by
    have e : _ = [] := h
    rw [e]
    rfl
  | d :: ds, _, h => by
    obtain ⟨v, r, rfl, _, h2⟩ := h
    rw [List.length_cons, List.length_cons, Reps.len h2]
theorem Reps.at {H : Hp} : ∀ {ds : List D} {vs : List V} {i : Nat} {d : D}, Reps H ds vs → ds[i]? = some d → ∃ v, vs[i]? = some v ∧ Rep H d v
  | [], _, _, _, _, e => by simp at e
  | x :: ds, _, 0, d, h, e => by
    obtain ⟨v, r, rfl, h1, h2⟩ := h
    simp at e
    subst e
    exact ⟨v, rfl, h1⟩
  | x :: ds, _, i + 1, d, h, e => by
    obtain ⟨v, r, rfl, h1, h2⟩ := h
    obtain ⟨u, e1, e2⟩ := Reps.at (i := i) h2 (by simpa using e)
    exact ⟨u, by simpa using e1, e2⟩
theorem Reps.app {H : Hp} : ∀ {ds es : List D} {vs ws : List V}, Reps H ds vs → Reps H es ws → Reps H (ds ++ es) (vs ++ ws)
  | [], _, _, _, h, g => by
    have e : _ = [] := h
    subst e
    exact g
  | d :: ds, es, _, ws, h, g => by
    obtain ⟨v, r, rfl, h1, h2⟩ := h
    exact ⟨v, r ++ ws, rfl, h1, Reps.app h2 g⟩
theorem Reps.snoc {H : Hp} {ds : List D} {vs : List V} {d : D} {v : V} (h : Reps H ds vs) (g : Rep H d v) : Reps H (ds ++ [d]) (vs ++ [v]) := h.app (.cons g .nil)
theorem Reps.take {H : Hp} : ∀ (n : Nat) {ds : List D} {vs : List V}, Reps H ds vs → Reps H (ds.take n) (vs.take n)
  | 0, _, _, _ => by simp; exact Reps.nil
  | n + 1, [], _, h => by
    have e : _ = [] := h
    subst e
    exact Reps.nil
  | n + 1, d :: ds, _, h => by
    obtain ⟨v, r, rfl, h1, h2⟩ := h
    exact ⟨v, r.take n, rfl, h1, Reps.take n h2⟩
theorem Reps.drop {H : Hp} : ∀ (n : Nat) {ds : List D} {vs : List V}, Reps H ds vs → Reps H (ds.drop n) (vs.drop n)
  | 0, _, _, h => h
  | n + 1, [], _, h => by
    have e : _ = [] := h
    subst e
    exact Reps.nil
  | n + 1, d :: ds, _, h => by
    obtain ⟨v, r, rfl, h1, h2⟩ := h
    exact Reps.drop n h2
theorem Reps.set {H : Hp} {d : D} {v : V} (g : Rep H d v) : ∀ (i : Nat) {ds : List D} {vs : List V}, Reps H ds vs → Reps H (ds.set i d) (vs.set i v)
  | _, [], _, h => by
    have e : _ = [] := h
    subst e
    exact Reps.nil
  | 0, x :: ds, _, h => by
    obtain ⟨u, r, rfl, h1, h2⟩ := h
    exact ⟨v, r, rfl, g, h2⟩
  | i + 1, x :: ds, _, h => by
    obtain ⟨u, r, rfl, h1, h2⟩ := h
    exact ⟨u, r.set i v, rfl, h1, Reps.set g i h2⟩
theorem Reps.erase {H : Hp} : ∀ (i : Nat) {ds : List D} {vs : List V}, Reps H ds vs → Reps H (ds.eraseIdx i) (vs.eraseIdx i)
  | _, [], _, h => by
    have e : _ = [] := h
    subst e
    exact Reps.nil
  | 0, x :: ds, _, h => by
    obtain ⟨u, r, rfl, h1, h2⟩ := h
    exact h2
  | i + 1, x :: ds, _, h => by
    obtain ⟨u, r, rfl, h1, h2⟩ := h
    exact ⟨u, r.eraseIdx i, rfl, h1, Reps.erase i h2⟩
/-- what stands for good: tuples, locked objects, instances -/
def Stab : HO → Prop
  | .lst _ => False
  | .dK _ => False
  | .dT _ => False
  | .set _ _ => False
  | .ext _ => False
  | _ => True
def Pst (H H' : Hp) : Prop := ∀ a o, Stab o → H a = some o → H' a = some o
theorem Pst.refl (H : Hp) : Pst H H := fun _ _ _ h => h
theorem Pst.trans {H H1 H2 : Hp} (a : Pst H H1) (b : Pst H1 H2) : Pst H H2 := fun x o s h => b x o s (a x o s h)
theorem Pst.same {H H' : Hp} (h : Same H H') : Pst H H' := fun a o _ e => h a o e
theorem Pst.new {H : Hp} {a : Addr} {o : HO} (h : H a = none) : Pst H (upd H a o) := fun b u _ e => by
  rw [upd_ne (ne_of_none e h)]
  exact e
theorem Pst.mut {H : Hp} {a : Addr} {o u : HO} (h : H a = some u) (hu : ¬ Stab u) : Pst H (upd H a o) := fun b w s e => by
  rw [upd_ne (fun z => by
    rw [z, h] at e
    cases e
    exact hu s)]
  exact e
mutual
theorem Rep.mono {H H' : Hp} (p : Pst H H') : ∀ (d : D) (v : V), Rep H d v → Rep H' d v
  | .non, _, h => h
  | .bl _, _, h => h
  | .int _, _, h => h
  | .str _, _, h => h
  | .ref _, _, h => h
  | .ty _, _, h => h
  | .tup ds, v, h => by
    obtain ⟨a, vs, e, ha, hs⟩ := h
    exact ⟨a, vs, e, p a _ trivial ha, Reps.mono p ds vs hs⟩
  | .lst ds, v, h => by
    obtain ⟨a, o, vs, e, ha, hs⟩ := h
    exact ⟨a, o, vs, e, p a _ trivial ha, Reps.mono p ds vs hs⟩
  | .dic ks ds, v, h => by
    obtain ⟨a, o, kvs, e, ha, hk, hs⟩ := h
    exact ⟨a, o, kvs, e, p a _ trivial ha, hk, Reps.mono p ds _ hs⟩
  | .ins C fs ds, v, h => by
    obtain ⟨a, dx, vs, e, ha, hs⟩ := h
    exact ⟨a, dx, vs, e, p a _ trivial ha, Reps.mono p ds vs hs⟩
theorem Reps.mono {H H' : Hp} (p : Pst H H') : ∀ (ds : List D) (vs : List V), Reps H ds vs → Reps H' ds vs
  | [], _, h => h
  | d :: ds, vs, h => by
    obtain ⟨v, r, e, h1, h2⟩ := h
    exact ⟨v, r, e, Rep.mono p d v h1, Reps.mono p ds r h2⟩
end
/-! ### objects that may be written -/
inductive MO where
  | lst (ds : List D)
  | dic (ks : List Str) (ds : List D)
  | abs (φ : Hp → Prop)
def At (H : Hp) (a : Addr) : MO → Prop
  | .lst ds => ∃ vs, H a = some (.lst vs) ∧ Reps H ds vs
  | .dic ks ds => ∃ kvs, H a = some (.dK kvs) ∧ kvs.map (·.1) = ks.map Sum.inr ∧ Reps H ds (kvs.map (·.2))
  | .abs φ => φ H ∧ (∃ u, H a = some u ∧ ¬ Stab u) ∧ ∀ H1 H2, Pst H1 H2 → H1 a = H2 a → φ H1 → φ H2
theorem At.un {H : Hp} {a : Addr} : ∀ {m : MO}, At H a m → ∃ u, H a = some u ∧ ¬ Stab u
  | .lst _, h => by
    obtain ⟨vs, e, _⟩ := h
    exact ⟨_, e, fun z => z⟩
  | .dic _ _, h => by
    obtain ⟨vs, e, _⟩ := h
    exact ⟨_, e, fun z => z⟩
  | .abs _, h => h.2.1
theorem At.mono {H H' : Hp} {a : Addr} (p : Pst H H') (q : ∀ o, H a = some o → H' a = some o) : ∀ {m : MO}, At H a m → At H' a m
  | .lst _, h => by
    obtain ⟨vs, e, r⟩ := h
    exact ⟨vs, q _ e, Reps.mono p _ _ r⟩
  | .dic _ _, h => by
    obtain ⟨vs, e, k, r⟩ := h
    exact ⟨vs, q _ e, k, Reps.mono p _ _ r⟩
  | .abs _, h => by
    obtain ⟨h1, ⟨u, e, s⟩, h3⟩ := h
    exact ⟨h3 _ _ p (by rw [e, q _ e]) h1, ⟨u, q _ e, s⟩, h3⟩
abbrev Env2 := List (Option D)
abbrev Mu := List (Addr × MO)
/-- what a body may count on: the heap at its entry, the objects it may change there -/
structure Cn where
  B : List Addr
  H0 : Hp
structure Sat (c : Cn) (ρ : Env2) (μ : Mu) (σ : L2.St) (H : Hp) : Prop where
  fr : ∀ a o, a ∉ c.B → c.H0 a = some o → H a = some o
  env : ∀ (i : Nat) (d : D), ρ[i]? = some (some d) → ∃ v, σ[i]? = some (some v) ∧ Rep H d v
  len : σ.length = ρ.length
  mu : ∀ p ∈ μ, At H p.1 p.2
  own : ∀ p ∈ μ, c.H0 p.1 = none ∨ p.1 ∈ c.B
  nd : (μ.map (·.1)).Nodup
  dom : ∀ a, H a = none → c.H0 a = none
section
variable {c : Cn} {ρ : Env2} {μ : Mu} {σ : L2.St} {H H' : Hp}
/-- the heap grows -/
theorem Sat.same (S : Sat c ρ μ σ H) (h : Same H H') : Sat c ρ μ σ H' where
  fr := fun a o n e => h a o (S.fr a o n e)
  env := fun i d e => let ⟨v, e1, e2⟩ := S.env i d e; ⟨v, e1, e2.mono (Pst.same h)⟩
  len := S.len
  mu := fun p hp => (S.mu p hp).mono (Pst.same h) fun o e => h _ o e
  own := S.own
  nd := S.nd
  dom := fun a e => S.dom a (h.free e)
theorem Sat.new {a : Addr} {o : HO} (S : Sat c ρ μ σ H) (h : H a = none) : Sat c ρ μ σ (upd H a o) := S.same fun b u e => by
  rw [upd_ne (ne_of_none e h)]
  exact e
theorem Sat.notin {a : Addr} (S : Sat c ρ μ σ H) (h : H a = none) : a ∉ μ.map (·.1) := fun hm => by
  obtain ⟨p, hp, e⟩ := List.mem_map.mp hm
  obtain ⟨u, e2, _⟩ := (S.mu p hp).un
  rw [e, h] at e2
  cases e2
/-- a slot is set -/
theorem Sat.set {i : Nat} {d : D} {v : V} (S : Sat c ρ μ σ H) (r : Rep H d v) : Sat c (ρ.set i (some d)) μ (σ.set i (some v)) H where
  fr := S.fr
  env := fun j d' e => by
    by_cases hj : i = j
    · subst hj
      by_cases hl : i < ρ.length
      · rw [List.getElem?_set_self hl] at e
        cases e
        exact ⟨v, List.getElem?_set_self (by rw [S.len]; exact hl), r⟩
      · rw [List.getElem?_eq_none_iff.mpr (by rw [List.length_set]; omega)] at e
        cases e
    · rw [List.getElem?_set_ne hj] at e
      obtain ⟨u, e1, e2⟩ := S.env j d' e
      exact ⟨u, by rw [List.getElem?_set_ne hj]; exact e1, e2⟩
  len := by rw [List.length_set, List.length_set, S.len]
  mu := S.mu
  own := S.own
  nd := S.nd
  dom := S.dom
/-- forget -/
theorem Sat.drop {ν : Mu} (S : Sat c ρ μ σ H) (h : ν.Sublist μ) : Sat c ρ ν σ H where
  fr := S.fr
  env := S.env
  len := S.len
  mu := fun p hp => S.mu p (h.subset hp)
  own := fun p hp => S.own p (h.subset hp)
  nd := S.nd.sublist (h.map _)
  dom := S.dom
theorem Sat.slots {ρ' : Env2} {σ' : L2.St} (S : Sat c ρ μ σ H) (hl : σ'.length = ρ'.length) (h : ∀ (i : Nat) (d : D), ρ'[i]? = some (some d) → ∃ v, σ'[i]? = some (some v) ∧ Rep H d v) : Sat c ρ' μ σ' H := ⟨S.fr, h, hl, S.mu, S.own, S.nd, S.dom⟩
/-- a new object that may be written -/
theorem Sat.add {a : Addr} {o : HO} {m : MO} (S : Sat c ρ μ σ H) (h : H a = none) (hm : At (upd H a o) a m) : Sat c ρ (μ ++ [(a, m)]) σ (upd H a o) where
  fr := (S.new h).fr
  env := (S.new h).env
  len := S.len
  mu := fun p hp => by
    rcases List.mem_append.mp hp with hp | hp
    · exact (S.new h).mu p hp
    · rw [List.mem_singleton] at hp
      subst hp
      exact hm
  own := fun p hp => by
    rcases List.mem_append.mp hp with hp | hp
    · exact S.own p hp
    · rw [List.mem_singleton] at hp
      subst hp
      exact .inl (S.dom a h)
  nd := by
    rw [List.map_append, List.nodup_append]
    refine ⟨S.nd, by simp, fun x hx y hy e => ?_⟩
    rw [List.map_cons, List.map_nil, List.mem_singleton] at hy
    subst hy
    subst e
    exact S.notin h hx
  dom := (S.new h).dom
theorem nodup_at {l : List (Addr × MO)} {k j : Nat} {p q : Addr × MO} (hn : (l.map (·.1)).Nodup) (hk : l[k]? = some p) (hj : l[j]? = some q) (e : p.1 = q.1) : k = j := by
  have h1 : (l.map (·.1))[k]? = some p.1 := by rw [List.getElem?_map, hk] <;> rfl
  have h2 : (l.map (·.1))[j]? = some p.1 := by rw [List.getElem?_map, hj, e] <;> rfl
  exact nd_ix hn h1 h2
/-- the object at place k is written -/
theorem Sat.put {a : Addr} {o : HO} {m m' : MO} {k : Nat} (S : Sat c ρ μ σ H) (hk : μ[k]? = some (a, m)) (hm : At (upd H a o) a m') : Sat c ρ (μ.set k (a, m')) σ (upd H a o) := by
  have ha := S.mu _ (List.mem_of_getElem? hk)
  obtain ⟨u, hu, hs⟩ := ha.un
  have P : Pst H (upd H a o) := Pst.mut hu hs
  have hkl : k < μ.length := (List.getElem?_eq_some_iff.mp hk).1
  have hd : ∀ b, (upd H a o) b = none → c.H0 b = none := fun b e => by
    by_cases hb : b = a
    · rw [hb, upd_same] at e
      cases e
    · rw [upd_ne hb] at e
      exact S.dom b e
  refine ⟨fun b w n e => ?_, fun i d e => let ⟨v, e1, e2⟩ := S.env i d e; ⟨v, e1, e2.mono P⟩, S.len, fun p hp => ?_, fun p hp => ?_, ?_, hd⟩
  · have hb : b ≠ a := fun z => by
      subst z
      rcases S.own _ (List.mem_of_getElem? hk) with h | h
      · rw [e] at h
        cases h
      · exact n h
    rw [upd_ne hb]
    exact S.fr b w n e
  · obtain ⟨j, hj⟩ := List.getElem?_of_mem hp
    by_cases hjk : k = j
    · subst hjk
      rw [List.getElem?_set_self hkl] at hj
      cases hj
      exact hm
    · rw [List.getElem?_set_ne hjk] at hj
      have hne : p.1 ≠ a := fun z => hjk (nodup_at S.nd hk hj z.symm)
      exact (S.mu p (List.mem_of_getElem? hj)).mono P fun w e => by
        rw [upd_ne hne]
        exact e
  · obtain ⟨j, hj⟩ := List.getElem?_of_mem hp
    by_cases hjk : k = j
    · subst hjk
      rw [List.getElem?_set_self hkl] at hj
      cases hj
      exact S.own (a, m) (List.mem_of_getElem? hk)
    · rw [List.getElem?_set_ne hjk] at hj
      exact S.own p (List.mem_of_getElem? hj)
  · have e : (μ.set k (a, m')).map (·.1) = μ.map (·.1) := by
      rw [List.map_set]
      refine List.ext_getElem? fun j => ?_
      by_cases hjk : k = j
      · subst hjk
        rw [List.getElem?_set_self (by rw [List.length_map]; exact hkl), List.getElem?_map, hk]
        rfl
      · rw [List.getElem?_set_ne hjk]
    rw [e]
    exact S.nd
theorem Sat.perm {ν : Mu} (S : Sat c ρ μ σ H) (h : ν.Perm μ) : Sat c ρ ν σ H where
  fr := S.fr
  env := S.env
  len := S.len
  mu := fun p hp => S.mu p (h.subset hp)
  own := fun p hp => S.own p (h.subset hp)
  nd := (h.map _).nodup_iff.mpr S.nd
  dom := S.dom
/-- the list at place k is locked for good: it is data from here on -/
theorem Sat.lock {a : Addr} {ob : Obj} {u : HO} {m : MO} {k : Nat} (S : Sat c ρ μ σ H) (hk : μ[k]? = some (a, m)) (hu : H a = some u) : Sat c ρ (μ.eraseIdx k) σ (upd H a (.frz ob u)) := by
  have ha := S.mu _ (List.mem_of_getElem? hk)
  obtain ⟨u', hu', hs⟩ := ha.un
  have P : Pst H (upd H a (.frz ob u)) := Pst.mut hu' hs
  have hd : ∀ b, (upd H a (.frz ob u)) b = none → c.H0 b = none := fun b e => by
    by_cases hb : b = a
    · rw [hb, upd_same] at e
      cases e
    · rw [upd_ne hb] at e
      exact S.dom b e
  refine ⟨fun b w n e => ?_, fun i d e => let ⟨v, e1, e2⟩ := S.env i d e; ⟨v, e1, e2.mono P⟩, S.len, fun p hp => ?_, fun p hp => S.own p ((List.eraseIdx_sublist μ k).subset hp), ?_, hd⟩
  · have hb : b ≠ a := fun z => by
      subst z
      rcases S.own _ (List.mem_of_getElem? hk) with h | h
      · rw [e] at h
        cases h
      · exact n h
    rw [upd_ne hb]
    exact S.fr b w n e
  · have hp2 := (List.eraseIdx_sublist μ k).subset hp
    have hne : p.1 ≠ a := fun z => by
      obtain ⟨j, hj⟩ := List.getElem?_of_mem hp
      rw [List.getElem?_eraseIdx] at hj
      split at hj
      · have := nodup_at S.nd hk hj z.symm
        omega
      · have := nodup_at S.nd hk hj z.symm
        omega
    exact (S.mu p hp2).mono P fun w e => by
      rw [upd_ne hne]
      exact e
  · exact S.nd.sublist ((List.eraseIdx_sublist μ k).map _)
end
end MW
/-! Readings run on data. -/
namespace MW
open PySem PySem.Spec PyProof.Rows L2
/-- an expression | a test | arguments | an operation on values | a call of a built-in | a method of one -/
def X (c : Cn) (te : TE) (ρ : Env2) (μ : Mu) (P : D → Mu → Prop) : Prop :=
  ∀ (σ : L2.St) (H : Hp) (Q : VK), Sat c ρ μ σ H → (∀ v H' d μ', Pst H H' → Rep H' d v → Sat c ρ μ' σ H' → P d μ' → Q v H') → te σ H Q
def T (c : Cn) (tt : TT) (ρ : Env2) (μ : Mu) (P : Bool → Mu → Prop) : Prop :=
  ∀ (σ : L2.St) (H : Hp) (Q : Bool → Hp → Prop), Sat c ρ μ σ H → (∀ b H' μ', Pst H H' → Sat c ρ μ' σ H' → P b μ' → Q b H') → tt σ H Q
def AX (c : Cn) (ta : TA) (ρ : Env2) (μ : Mu) (P : List D → Mu → Prop) : Prop :=
  ∀ (σ : L2.St) (H : Hp) (Q : List V → Hp → Prop), Sat c ρ μ σ H → (∀ vs H' ds μ', Pst H H' → Reps H' ds vs → Sat c ρ μ' σ H' → P ds μ' → Q vs H') → ta σ H Q
def RX (c : Cn) (r : R2) (x y : D) (μ : Mu) (P : D → Mu → Prop) : Prop :=
  ∀ (ρ : Env2) (σ : L2.St) (H : Hp) (v w : V) (Q : VK), Sat c ρ μ σ H → Rep H x v → Rep H y w → (∀ u H' d μ', Pst H H' → Rep H' d u → Sat c ρ μ' σ H' → P d μ' → Q u H') → r v w H Q
def UX (c : Cn) (r : V → Hp → VK → Prop) (x : D) (μ : Mu) (P : D → Mu → Prop) : Prop :=
  ∀ (ρ : Env2) (σ : L2.St) (H : Hp) (v : V) (Q : VK), Sat c ρ μ σ H → Rep H x v → (∀ u H' d μ', Pst H H' → Rep H' d u → Sat c ρ μ' σ H' → P d μ' → Q u H') → r v H Q
def KX (c : Cn) (r : List V → Hp → VK → Prop) (ds : List D) (μ : Mu) (P : D → Mu → Prop) : Prop :=
  ∀ (ρ : Env2) (σ : L2.St) (H : Hp) (vs : List V) (Q : VK), Sat c ρ μ σ H → Reps H ds vs → (∀ u H' d μ', Pst H H' → Rep H' d u → Sat c ρ μ' σ H' → P d μ' → Q u H') → r vs H Q
def MX (c : Cn) (r : V → List V → Hp → VK → Prop) (x : D) (ds : List D) (μ : Mu) (P : D → Mu → Prop) : Prop :=
  ∀ (ρ : Env2) (σ : L2.St) (H : Hp) (v : V) (vs : List V) (Q : VK), Sat c ρ μ σ H → Rep H x v → Reps H ds vs → (∀ u H' d μ', Pst H H' → Rep H' d u → Sat c ρ μ' σ H' → P d μ' → Q u H') → r v vs H Q
/-- what follows a statement -/
structure DA where
  nx : Env2 → Mu → Prop
  rt : D → Mu → Prop
  bk : Env2 → Mu → Prop := fun _ _ => False
  ct : Env2 → Mu → Prop := fun _ _ => False
structure DOk (c : Cn) (H0 : Hp) (A : DA) (E : Ends) : Prop where
  nx : ∀ ρ μ σ H, Pst H0 H → Sat c ρ μ σ H → A.nx ρ μ → E.nx σ H
  rt : ∀ ρ μ σ H d v, Pst H0 H → Sat c ρ μ σ H → Rep H d v → A.rt d μ → E.rt v H
  bk : ∀ ρ μ σ H, Pst H0 H → Sat c ρ μ σ H → A.bk ρ μ → E.bk σ H
  ct : ∀ ρ μ σ H, Pst H0 H → Sat c ρ μ σ H → A.ct ρ μ → E.ct σ H
theorem DOk.later {c : Cn} {H0 H1 : Hp} {A : DA} {E : Ends} (k : DOk c H0 A E) (p : Pst H0 H1) : DOk c H1 A E :=
  ⟨fun ρ μ σ H q => k.nx ρ μ σ H (p.trans q), fun ρ μ σ H d v q => k.rt ρ μ σ H d v (p.trans q), fun ρ μ σ H q => k.bk ρ μ σ H (p.trans q), fun ρ μ σ H q => k.ct ρ μ σ H (p.trans q)⟩
def XS (c : Cn) (ts : TS) (ρ : Env2) (μ : Mu) (A : DA) : Prop := ∀ (σ : L2.St) (H : Hp) (E : Ends), Sat c ρ μ σ H → DOk c H A E → ts E σ H
/-- a target; js: the slots that it may set -/
def Only (js : List Nat) (σ σ2 : L2.St) : Prop := σ2.length = σ.length ∧ ∀ i, i ∉ js → σ2[i]? = σ[i]?
theorem Only.refl {js : List Nat} {σ : L2.St} : Only js σ σ := ⟨rfl, fun _ _ => rfl⟩
theorem Only.trans {js ks : List Nat} {σ σ2 σ3 : L2.St} (a : Only js σ σ2) (b : Only ks σ2 σ3) : Only (js ++ ks) σ σ3 :=
  ⟨b.1.trans a.1, fun i h => (b.2 i fun z => h (List.mem_append_right _ z)).trans (a.2 i fun z => h (List.mem_append_left _ z))⟩
def GX (c : Cn) (g : TG) (js : List Nat) (d : D) (ρ : Env2) (μ : Mu) (K : Env2 → Mu → Prop) : Prop :=
  ∀ (σ : L2.St) (H : Hp) (v : V) (Q : L2.St → Hp → Prop), Sat c ρ μ σ H → Rep H d v → (∀ ρ' μ' σ' H', Pst H H' → Sat c ρ' μ' σ' H' → Only js σ σ' → K ρ' μ' → Q σ' H') → g v σ H Q
def GXs (c : Cn) (g : TGs) (js : List Nat) (ds : List D) (ρ : Env2) (μ : Mu) (K : Env2 → Mu → Prop) : Prop :=
  ∀ (σ : L2.St) (H : Hp) (vs : List V) (Q : L2.St → Hp → Prop), Sat c ρ μ σ H → Reps H ds vs → (∀ ρ' μ' σ' H', Pst H H' → Sat c ρ' μ' σ' H' → Only js σ σ' → K ρ' μ' → Q σ' H') → g vs σ H Q
/-- what is walked: the items -/
structure Walk (J : It) (items : List D) (H1 : Hp) : Prop where
  go : ∀ i d H, items[i]? = some d → Pst H1 H → J.go i H
  yld : ∀ i d H x H', items[i]? = some d → Pst H1 H → J.yld i H x H' → Same H H' ∧ Rep H' d x
  stop : ∀ H, Pst H1 H → J.stop items.length H
def IX (c : Cn) (wi : TI) (ρ : Env2) (μ : Mu) (P : List D → Mu → Prop) : Prop :=
  ∀ (σ : L2.St) (H : Hp) (R : It → Hp → Prop), Sat c ρ μ σ H → (∀ J H' items μ', Pst H H' → Sat c ρ μ' σ H' → Walk J items H' → P items μ' → R J H') → wi σ H R

section
variable {c : Cn} {ρ : Env2} {μ : Mu} {P : D → Mu → Prop} {ta tb te : TE}
/-! ### expressions -/
theorem x_var {i : Nat} {d : D} (h : ρ[i]? = some (some d)) (k : P d μ) : X c (tVar i) ρ μ P := fun σ H Q S q => by
  obtain ⟨v, e1, e2⟩ := S.env i d h
  exact ⟨v, e1, q v H d μ (Pst.refl H) e2 S k⟩
theorem x_int {i : Int} (k : P (.int i) μ) : X c (tC (.int i)) ρ μ P := fun σ H Q S q => q _ H (.int i) μ (Pst.refl H) rfl S k
theorem x_bl {b : Bool} (k : P (.bl b) μ) : X c (tC (.bl b)) ρ μ P := fun σ H Q S q => q _ H (.bl b) μ (Pst.refl H) rfl S k
theorem x_non (k : P .non μ) : X c (tC .non) ρ μ P := fun σ H Q S q => q _ H .non μ (Pst.refl H) rfl S k
theorem x_str {x : Str} (k : P (.str x) μ) : X c (tC (.str x)) ρ μ P := fun σ H Q S q => q _ H (.str x) μ (Pst.refl H) rfl S k
theorem x_ref {a : Addr} (k : P (.ref a) μ) : X c (tC (.ref a)) ρ μ P := fun σ H Q S q => q _ H (.ref a) μ (Pst.refl H) rfl S k
theorem x_ty {n : String} (k : P (.ty n) μ) : X c (tC (.ty n)) ρ μ P := fun σ H Q S q => q _ H (.ty n) μ (Pst.refl H) rfl S k
theorem x_op {r : R2} (h : X c ta ρ μ fun x μ1 => X c tb ρ μ1 fun y μ2 => RX c r x y μ2 P) : X c (tOp r ta tb) ρ μ P := fun σ H Q S q =>
  h σ H _ S fun v H1 x μ1 p1 r1 S1 h1 => h1 σ H1 _ S1 fun w H2 y μ2 p2 r2 S2 h2 => h2 ρ σ H2 v w Q S2 (r1.mono p2) r2 fun u H3 d μ3 p3 r3 S3 k => q u H3 d μ3 ((p1.trans p2).trans p3) r3 S3 k
theorem x_un {r : V → Hp → VK → Prop} (h : X c ta ρ μ fun x μ1 => UX c r x μ1 P) : X c (tUn r ta) ρ μ P := fun σ H Q S q =>
  h σ H _ S fun v H1 x μ1 p1 r1 S1 h1 => h1 ρ σ H1 v Q S1 r1 fun u H3 d μ3 p3 r3 S3 k => q u H3 d μ3 (p1.trans p3) r3 S3 k
theorem a_nil {PA : List D → Mu → Prop} (k : PA [] μ) : AX c tNil ρ μ PA := fun σ H Q S q => q [] H [] μ (Pst.refl H) .nil S k
theorem a_cons {PA : List D → Mu → Prop} {t : TA} (h : X c te ρ μ fun d μ1 => AX c t ρ μ1 fun ds μ2 => PA (d :: ds) μ2) : AX c (tCons te t) ρ μ PA := fun σ H Q S q =>
  h σ H _ S fun v H1 d μ1 p1 r1 S1 h1 => h1 σ H1 _ S1 fun vs H2 ds μ2 p2 r2 S2 k => q (v :: vs) H2 (d :: ds) μ2 (p1.trans p2) (.cons (r1.mono p2) r2) S2 k
theorem x_tup {t : TA} (h : AX c t ρ μ fun ds μ1 => ds.length ≤ 100000 ∧ P (.tup ds) μ1) : X c (tTup t) ρ μ P := fun σ H Q S q =>
  h σ H _ S fun vs H1 ds μ1 p1 r1 S1 h1 => ⟨by rw [r1.len]; exact Nat.le_trans h1.1 (by decide), fun p hp => q (.ref p) _ (.tup ds) μ1 (p1.trans (Pst.new hp)) ⟨p, vs, rfl, upd_same, r1.mono (Pst.new hp)⟩ (S1.new hp) h1.2⟩
/-- a new list -/
theorem x_lst {t : TA} (h : AX c t ρ μ fun ds μ1 => ds.length ≤ 100000 ∧ ∀ a, P (.ref a) (μ1 ++ [(a, .lst ds)])) : X c (tLst t) ρ μ P := fun σ H Q S q =>
  h σ H _ S fun vs H1 ds μ1 p1 r1 S1 h1 => ⟨by rw [r1.len]; exact Nat.le_trans h1.1 (by decide), fun p hp => q (.ref p) _ (.ref p) _ (p1.trans (Pst.new hp)) rfl (S1.add hp (m := .lst ds) ⟨vs, upd_same, Reps.mono (Pst.new hp) _ _ r1⟩) (h1.2 p)⟩
theorem x_if {t : TT} (h : T c t ρ μ fun b μ1 => (b = true → X c ta ρ μ1 P) ∧ (b = false → X c tb ρ μ1 P)) : X c (tIf t ta tb) ρ μ P := fun σ H Q S q =>
  h σ H _ S fun b H1 μ1 p1 S1 h1 => by
    cases b with
    | true =>
      show ta σ H1 Q
      exact h1.1 rfl σ H1 Q S1 fun v H2 d μ2 p2 r2 S2 k => q v H2 d μ2 (p1.trans p2) r2 S2 k
    | false =>
      show tb σ H1 Q
      exact h1.2 rfl σ H1 Q S1 fun v H2 d μ2 p2 r2 S2 k => q v H2 d μ2 (p1.trans p2) r2 S2 k
theorem x_andV (h : X c ta ρ μ fun x μ1 => ∃ b, x = .bl b ∧ (b = true → X c tb ρ μ1 P) ∧ (b = false → P (.bl false) μ1)) : X c (tAndV ta tb) ρ μ P := fun σ H Q S q =>
  h σ H _ S fun v H1 x μ1 p1 r1 S1 ⟨b, ex, h1, h2⟩ => by
    subst ex
    have ev : v = .bl b := r1
    subst ev
    refine ⟨b, rfl, ?_⟩
    cases b with
    | true =>
      show tb σ H1 Q
      exact h1 rfl σ H1 Q S1 fun v H2 d μ2 p2 r2 S2 k => q v H2 d μ2 (p1.trans p2) r2 S2 k
    | false => exact q _ H1 (.bl false) μ1 p1 rfl S1 (h2 rfl)
theorem x_orV (h : X c ta ρ μ fun x μ1 => ∃ b, x = .bl b ∧ (b = true → P (.bl true) μ1) ∧ (b = false → X c tb ρ μ1 P)) : X c (tOrV ta tb) ρ μ P := fun σ H Q S q =>
  h σ H _ S fun v H1 x μ1 p1 r1 S1 ⟨b, ex, h1, h2⟩ => by
    subst ex
    have ev : v = .bl b := r1
    subst ev
    refine ⟨b, rfl, ?_⟩
    cases b with
    | false =>
      show tb σ H1 Q
      exact h2 rfl σ H1 Q S1 fun v H2 d μ2 p2 r2 S2 k => q v H2 d μ2 (p1.trans p2) r2 S2 k
    | true => exact q _ H1 (.bl true) μ1 p1 rfl S1 (h1 rfl)
theorem x_notV (h : X c ta ρ μ fun x μ1 => ∃ b, x = .bl b ∧ P (.bl (!b)) μ1) : X c (tNotV ta) ρ μ P := fun σ H Q S q =>
  h σ H _ S fun v H1 x μ1 p1 r1 S1 ⟨b, ex, k⟩ => by
    subst ex
    have ev : v = .bl b := r1
    subst ev
    exact ⟨b, rfl, q _ H1 (.bl (!b)) μ1 p1 rfl S1 k⟩
/-- weaken -/
theorem X.imp {P' : D → Mu → Prop} (h : X c te ρ μ P) (k : ∀ d μ', P d μ' → P' d μ') : X c te ρ μ P' := fun σ H Q S q => h σ H Q S fun v H' d μ' p r S' z => q v H' d μ' p r S' (k d μ' z)
/-- objects that are of no use any more are let go -/
theorem X.let {ν : Mu} (h : X c te ρ μ fun d μ' => ∃ ν, ν.Sublist μ' ∧ P d ν) : X c te ρ μ P := fun σ H Q S q => h σ H Q S fun v H' d μ' p r S' ⟨ν, s, k⟩ => q v H' d ν p r (S'.drop s) k
theorem UX.let {r : V → Hp → VK → Prop} {x : D} (h : UX c r x μ fun d μ' => ∃ ν, ν.Sublist μ' ∧ P d ν) : UX c r x μ P := fun ρ σ H v Q S rx q => h ρ σ H v Q S rx fun u H' d μ' p r S' ⟨ν, s, k⟩ => q u H' d ν p r (S'.drop s) k
theorem KX.let {r : List V → Hp → VK → Prop} {ds : List D} (h : KX c r ds μ fun d μ' => ∃ ν, ν.Sublist μ' ∧ P d ν) : KX c r ds μ P := fun ρ σ H v Q S rx q => h ρ σ H v Q S rx fun u H' d μ' p r S' ⟨ν, s, k⟩ => q u H' d ν p r (S'.drop s) k
/-! ### tests -/
theorem t_test {PT : Bool → Mu → Prop} (h : X c te ρ μ fun d μ1 => ∃ b, d = .bl b ∧ PT b μ1) : T c (tTest te) ρ μ PT := fun σ H Q S q =>
  h σ H _ S fun v H1 x μ1 p1 r1 S1 ⟨b, ex, k⟩ => by
    subst ex
    exact ⟨b, r1, q b H1 μ1 p1 S1 k⟩
theorem t_B {PT : Bool → Mu → Prop} (h : X c te ρ μ fun d μ1 => ∃ b, d = .bl b ∧ PT b μ1) : T c (tB te) ρ μ PT := fun σ H Q S q =>
  h σ H _ S fun v H1 x μ1 p1 r1 S1 ⟨b, ex, k⟩ => by
    subst ex
    exact ⟨b, r1, q b H1 μ1 p1 S1 k⟩
theorem t_and {t u : TT} {PT : Bool → Mu → Prop} (h : T c t ρ μ fun b μ1 => (b = true → T c u ρ μ1 PT) ∧ (b = false → PT false μ1)) : T c (tAnd t u) ρ μ PT := fun σ H Q S q =>
  h σ H _ S fun b H1 μ1 p1 S1 h1 => by
    cases b with
    | true =>
      show u σ H1 Q
      exact h1.1 rfl σ H1 Q S1 fun b H2 μ2 p2 S2 k => q b H2 μ2 (p1.trans p2) S2 k
    | false =>
      show Q false H1
      exact q false H1 μ1 p1 S1 (h1.2 rfl)
theorem t_or {t u : TT} {PT : Bool → Mu → Prop} (h : T c t ρ μ fun b μ1 => (b = true → PT true μ1) ∧ (b = false → T c u ρ μ1 PT)) : T c (tOr t u) ρ μ PT := fun σ H Q S q =>
  h σ H _ S fun b H1 μ1 p1 S1 h1 => by
    cases b with
    | false =>
      show u σ H1 Q
      exact h1.2 rfl σ H1 Q S1 fun b H2 μ2 p2 S2 k => q b H2 μ2 (p1.trans p2) S2 k
    | true =>
      show Q true H1
      exact q true H1 μ1 p1 S1 (h1.1 rfl)
theorem t_not {t : TT} {PT : Bool → Mu → Prop} (h : T c t ρ μ fun b μ1 => PT (!b) μ1) : T c (tNot t) ρ μ PT := fun σ H Q S q =>
  h σ H _ S fun b H1 μ1 p1 S1 k => q (!b) H1 μ1 p1 S1 k
theorem T.imp {t : TT} {PT PT' : Bool → Mu → Prop} (h : T c t ρ μ PT) (k : ∀ b μ', PT b μ' → PT' b μ') : T c t ρ μ PT' := fun σ H Q S q => h σ H Q S fun b H' μ' p S' z => q b H' μ' p S' (k b μ' z)
/-- let go behind a test -/
theorem T.let {t : TT} {PT : Bool → Mu → Prop} (h : T c t ρ μ fun b μ' => ∃ ν, ν.Sublist μ' ∧ PT b ν) : T c t ρ μ PT := fun σ H Q S q => h σ H Q S fun b H' μ' p S' ⟨ν, s, k⟩ => q b H' ν p (S'.drop s) k
/-- a list that is locked for good -/
def tFz (te : TE) : TE := fun σ H Q => te σ H fun v H1 => (∃ a u, v = .ref a ∧ H1 a = some u ∧ Mut (some u) ∧ ∀ o, Q v (upd H1 a (.frz o u)))
theorem x_fz (h : X c te ρ μ fun d μ1 => ∃ a ds k, d = .ref a ∧ μ1[k]? = some (a, .lst ds) ∧ P (.lst ds) (μ1.eraseIdx k)) : X c (tFz te) ρ μ P := fun σ H Q S q =>
  h σ H _ S fun v H1 x μ1 p1 r1 S1 ⟨a, ds, k, ex, hk, z⟩ => by
    subst ex
    have ev : v = .ref a := r1
    obtain ⟨vs, ha, rs⟩ := S1.mu _ (List.mem_of_getElem? hk)
    refine ⟨a, _, ev, ha, trivial, fun o => ?_⟩
    have P1 : Pst H1 (upd H1 a (.frz o (.lst vs))) := Pst.mut ha fun z => z
    exact q v _ (.lst ds) _ (p1.trans P1) ⟨a, o, vs, ev, upd_same, rs.mono P1⟩ (S1.lock hk ha) z
theorem x_fzd (h : X c te ρ μ fun d μ1 => ∃ a ks ds k, d = .ref a ∧ μ1[k]? = some (a, .dic ks ds) ∧ P (.dic ks ds) (μ1.eraseIdx k)) : X c (tFz te) ρ μ P := fun σ H Q S q =>
  h σ H _ S fun v H1 x μ1 p1 r1 S1 ⟨a, ks, ds, k, ex, hk, z⟩ => by
    subst ex
    have ev : v = .ref a := r1
    obtain ⟨kvs, ha, hks, rs⟩ := S1.mu _ (List.mem_of_getElem? hk)
    refine ⟨a, _, ev, ha, trivial, fun o => ?_⟩
    have P1 : Pst H1 (upd H1 a (.frz o (.dK kvs))) := Pst.mut ha fun z => z
    exact q v _ (.dic ks ds) _ (p1.trans P1) ⟨a, o, kvs, ev, upd_same, hks, Reps.mono P1 _ _ rs⟩ (S1.lock hk ha) z
end
section
variable {Y : Cx} {e : Expr} {te : TE}
theorem pe_fz (he : PE Y e te) : PE Y e (tFz te) := ⟨fun pins s σ H Q I h => by
  refine thn (he.run pins s σ H _ I h) fun v s1 ⟨x, H1, I1, r1, a, u, ex, ha, mu, q⟩ => ?_
  obtain ⟨od, I2⟩ := I1.lock ha mu
  exact ⟨x, _, I2, r1, q od⟩⟩
end

/-! ### statements -/
section
variable {c : Cn} {ρ : Env2} {μ : Mu} {A : DA} {te : TE} {t u : TS}
theorem xs_seq (h : XS c t ρ μ { A with nx := fun ρ' μ' => XS c u ρ' μ' A }) : XS c (tSeq t u) ρ μ A := fun σ H E S k =>
  h σ H { E with nx := u E } S ⟨fun ρ' μ' σ' H' p S' z => z σ' H' E S' (k.later p), k.rt, k.bk, k.ct⟩
theorem xs_next (h : A.nx ρ μ) : XS c tNext ρ μ A := fun σ H E S k => k.nx ρ μ σ H (Pst.refl H) S h
theorem xs_ret (h : X c te ρ μ A.rt) : XS c (tRet te) ρ μ A := fun σ H E S k => h σ H _ S fun v H' d μ' p r S' z => k.rt ρ μ' σ H' d v p S' r z
theorem xs_retN (h : A.rt .non μ) : XS c tRetN ρ μ A := fun σ H E S k => k.rt ρ μ σ H .non .non (Pst.refl H) S rfl h
theorem xs_drop (h : X c te ρ μ fun _ μ' => A.nx ρ μ') : XS c (tDrop te) ρ μ A := fun σ H E S k => h σ H _ S fun v H' d μ' p r S' z => k.nx ρ μ' σ H' p S' z
theorem xs_asg {g : TG} {js : List Nat} (h : X c te ρ μ fun d μ1 => GX c g js d ρ μ1 A.nx) : XS c (tAsg te g) ρ μ A := fun σ H E S k =>
  h σ H _ S fun v H1 d μ1 p r S1 z => z σ H1 v _ S1 r fun ρ' μ' σ' H' p' S' _ z' => k.nx ρ' μ' σ' H' (p.trans p') S' z'
theorem xs_if {tt : TT} (h : T c tt ρ μ fun b μ1 => (b = true → XS c t ρ μ1 A) ∧ (b = false → XS c u ρ μ1 A)) : XS c (tIfS tt t u) ρ μ A := fun σ H E S k =>
  h σ H _ S fun b H1 μ1 p S1 z => by
    cases b with
    | true => exact z.1 rfl σ H1 E S1 (k.later p)
    | false => exact z.2 rfl σ H1 E S1 (k.later p)
theorem XS.imp {A' : DA} (h : XS c t ρ μ A) (h1 : ∀ ρ' μ', A.nx ρ' μ' → A'.nx ρ' μ') (h2 : ∀ d μ', A.rt d μ' → A'.rt d μ') (h3 : ∀ ρ' μ', A.bk ρ' μ' → A'.bk ρ' μ') (h4 : ∀ ρ' μ', A.ct ρ' μ' → A'.ct ρ' μ') : XS c t ρ μ A' := fun σ H E S k =>
  h σ H E S ⟨fun ρ' μ' σ' H' p S' z => k.nx ρ' μ' σ' H' p S' (h1 _ _ z), fun ρ' μ' σ' H' d v p S' r z => k.rt ρ' μ' σ' H' d v p S' r (h2 _ _ z), fun ρ' μ' σ' H' p S' z => k.bk ρ' μ' σ' H' p S' (h3 _ _ z), fun ρ' μ' σ' H' p S' z => k.ct ρ' μ' σ' H' p S' (h4 _ _ z)⟩
/-- forget slots and objects ahead of a statement -/
theorem XS.from {ν : Mu} (h : XS c t ρ ν A) (s : ν.Sublist μ) : XS c t ρ μ A := fun σ H E S k => h σ H E (S.drop s) k
/-! ### targets -/
theorem g_name {j : Nat} {d : D} {K : Env2 → Mu → Prop} (h : K (ρ.set j (some d)) μ) : GX c (gName j) [j] d ρ μ K := fun σ H v Q S r q =>
  q _ μ _ H (Pst.refl H) (S.set r) ⟨by rw [List.length_set], fun i hi => List.getElem?_set_ne (fun z => hi (by rw [z]; exact List.mem_singleton.mpr rfl))⟩ h
theorem gs_nil {K : Env2 → Mu → Prop} (h : K ρ μ) : GXs c gNil [] [] ρ μ K := fun σ H vs Q S r q => ⟨r, q ρ μ σ H (Pst.refl H) S Only.refl h⟩
theorem gs_cons {t : TG} {us : TGs} {js ks : List Nat} {d : D} {ds : List D} {K : Env2 → Mu → Prop} (h : GX c t js d ρ μ fun ρ1 μ1 => GXs c us ks ds ρ1 μ1 K) : GXs c (gCons t us) (js ++ ks) (d :: ds) ρ μ K := fun σ H vs Q S r q => by
  obtain ⟨v, vr, e, r1, r2⟩ := r
  refine ⟨v, vr, e, h σ H v _ S r1 fun ρ1 μ1 σ1 H1 p1 S1 o1 z => ?_⟩
  exact z σ1 H1 vr Q S1 (r2.mono p1) fun ρ2 μ2 σ2 H2 p2 S2 o2 z2 => q ρ2 μ2 σ2 H2 (p1.trans p2) S2 (o1.trans o2) z2
theorem g_tup {K' : PySem.W.Frag} {n : Nat} {t : TGs} {js : List Nat} {ds : List D} {K : Env2 → Mu → Prop} (hn : ds.length = n) (h : GXs c t js ds ρ μ K) : GX c (gTup K' n t) js (.tup ds) ρ μ K := fun σ H v Q S r q => by
  obtain ⟨a, vs, e, ha, rs⟩ := r
  exact ⟨a, vs, e, SqT.of ha, by rw [rs.len]; exact hn, h σ H vs Q S rs q⟩
/-! ### loops -/
theorem xs_for {wi : TI} {g : TG} {tb : TS} {js : List Nat} (I : Nat → Env2 → Mu → Prop)
    (h : IX c wi ρ μ fun items μ1 => I 0 ρ μ1 ∧ (∀ i d ρ' μ', items[i]? = some d → I i ρ' μ' → GX c g js d ρ' μ' fun ρ2 μ2 => XS c tb ρ2 μ2 { nx := I (i + 1), ct := I (i + 1), bk := A.nx, rt := A.rt }) ∧ (∀ ρ' μ', I items.length ρ' μ' → A.nx ρ' μ')) :
    XS c (tFor wi g tb) ρ μ A := fun σ H E S k => by
  refine h σ H _ S fun J H1 items μ1 p1 S1 W ⟨i0, hs, hd⟩ => ?_
  refine ⟨fun i m σ' H' => m = items.length - i ∧ i ≤ items.length ∧ Pst H1 H' ∧ ∃ ρ' μ', Sat c ρ' μ' σ' H' ∧ I i ρ' μ', ⟨items.length, rfl, Nat.zero_le _, Pst.refl H1, ρ, μ1, S1, i0⟩, ?_⟩
  rintro i m σ' H' ⟨rfl, hi, p2, ρ', μ', S2, hI⟩
  by_cases hlt : i < items.length
  · have hd' : items[i]? = some items[i] := List.getElem?_eq_getElem hlt
    refine .inr ⟨W.go i _ H' hd' p2, fun σ2 H2 => Pst H1 H2 ∧ ∃ ρ2 μ2, Sat c ρ2 μ2 σ2 H2 ∧ I (i + 1) ρ2 μ2, fun σ2 H2 ⟨p3, ρ2, μ2, S3, hI2⟩ => ⟨items.length - (i + 1), by omega, rfl, hlt, p3, ρ2, μ2, S3, hI2⟩, fun x H2 hy => ?_⟩
    obtain ⟨sm, rx⟩ := W.yld i _ H' x H2 hd' p2 hy
    refine hs i _ ρ' μ' hd' hI σ' H2 x _ (S2.same sm) rx fun ρ3 μ3 σ3 H3 p4 S3 _ z => ?_
    have p5 : Pst H1 H3 := (p2.trans (Pst.same sm)).trans p4
    exact z σ3 H3 _ S3 ⟨fun ρ4 μ4 σ4 H4 p S4 z4 => ⟨p5.trans p, ρ4, μ4, S4, z4⟩, fun ρ4 μ4 σ4 H4 d v p S4 r z4 => k.rt ρ4 μ4 σ4 H4 d v ((p1.trans p5).trans p) S4 r z4, fun ρ4 μ4 σ4 H4 p S4 z4 => k.nx ρ4 μ4 σ4 H4 ((p1.trans p5).trans p) S4 z4, fun ρ4 μ4 σ4 H4 p S4 z4 => ⟨p5.trans p, ρ4, μ4, S4, z4⟩⟩
  · have e : i = items.length := by omega
    subst e
    exact .inl ⟨W.stop H' p2, k.nx ρ' μ' σ' H' (p1.trans p2) S2 (hd ρ' μ' hI)⟩
theorem xs_while {tt : TT} {tb : TS} (I : Nat → Env2 → Mu → Prop) (n0 : Nat) (h0 : I n0 ρ μ)
    (h : ∀ n ρ' μ', I n ρ' μ' → T c tt ρ' μ' fun b μ1 => (b = true → XS c tb ρ' μ1 { nx := fun ρ2 μ2 => ∃ m, m < n ∧ I m ρ2 μ2, ct := fun ρ2 μ2 => ∃ m, m < n ∧ I m ρ2 μ2, bk := A.nx, rt := A.rt }) ∧ (b = false → A.nx ρ' μ1)) :
    XS c (tWhile tt tb) ρ μ A := fun σ H E S k => by
  refine ⟨fun n σ' H' => Pst H H' ∧ ∃ ρ' μ', Sat c ρ' μ' σ' H' ∧ I n ρ' μ', ⟨n0, Pst.refl H, ρ, μ, S, h0⟩, ?_⟩
  rintro n σ' H' ⟨p1, ρ', μ', S1, hI⟩
  refine h n ρ' μ' hI σ' H' _ S1 fun b H2 μ2 p2 S2 z => ?_
  cases b with
  | true =>
    show ∃ N : L2.St → Hp → Prop, _
    refine ⟨fun σ3 H3 => ∃ m, m < n ∧ Pst H H3 ∧ ∃ ρ3 μ3, Sat c ρ3 μ3 σ3 H3 ∧ I m ρ3 μ3, fun σ3 H3 ⟨m, hm, q⟩ => ⟨m, hm, q⟩, ?_⟩
    have p3 := p1.trans p2
    exact z.1 rfl σ' H2 _ S2 ⟨fun ρ4 μ4 σ4 H4 p S4 ⟨m, hm, z4⟩ => ⟨m, hm, p3.trans p, ρ4, μ4, S4, z4⟩, fun ρ4 μ4 σ4 H4 d v p S4 r z4 => k.rt ρ4 μ4 σ4 H4 d v (p3.trans p) S4 r z4, fun ρ4 μ4 σ4 H4 p S4 z4 => k.nx ρ4 μ4 σ4 H4 (p3.trans p) S4 z4, fun ρ4 μ4 σ4 H4 p S4 ⟨m, hm, z4⟩ => ⟨m, hm, p3.trans p, ρ4, μ4, S4, z4⟩⟩
  | false => exact k.nx ρ' μ2 σ' H2 (p1.trans p2) S2 (z.2 rfl)
/-! ### comprehensions -/
def wipe2 (ρ : Env2) : List Nat → Env2
  | [] => ρ
  | v :: vs => (wipe2 ρ vs).set v none
theorem wipe2_length (ρ : Env2) : ∀ vs : List Nat, (wipe2 ρ vs).length = ρ.length
  | [] => rfl
  | v :: vs => by
    unfold wipe2
    rw [List.length_set, wipe2_length ρ vs]
theorem wipe2_some {i : Nat} {d : D} : ∀ {vs : List Nat}, (wipe2 ρ vs)[i]? = some (some d) → ρ[i]? = some (some d) ∧ i ∉ vs
  | [], h => ⟨h, by simp⟩
  | v :: vs, h => by
    unfold wipe2 at h
    by_cases hi : v = i
    · subst hi
      by_cases hv : v < (wipe2 ρ vs).length
      · rw [List.getElem?_set_self hv] at h
        cases h
      · rw [List.getElem?_eq_none (by simpa using hv)] at h
        cases h
    · rw [List.getElem?_set_ne hi] at h
      obtain ⟨h1, h2⟩ := wipe2_some h
      exact ⟨h1, by simp only [List.mem_cons, not_or]; exact ⟨fun e => hi e.symm, h2⟩⟩
theorem wipe_get {σ : L2.St} {i : Nat} : ∀ {vs : List Nat}, i ∉ vs → (wipe σ vs)[i]? = σ[i]?
  | [], _ => rfl
  | v :: vs, h => by
    rw [List.mem_cons, not_or] at h
    unfold wipe
    rw [List.getElem?_set_ne (fun z => h.1 z.symm), wipe_get h.2]
theorem wipe_at {σ : L2.St} {i : Nat} : ∀ {vs : List Nat}, i ∈ vs → (wipe σ vs)[i]? = if i < σ.length then some none else none
  | [], h => by cases h
  | v :: vs, h => by
    unfold wipe
    by_cases hv : v = i
    · subst hv
      by_cases hl : v < σ.length
      · rw [if_pos hl, List.getElem?_set_self (by rw [wipe_length]; exact hl)]
      · rw [if_neg hl, List.getElem?_eq_none (by rw [List.length_set, wipe_length]; omega)]
    · have hm : i ∈ vs := by
        rcases List.mem_cons.mp h with e | e
        · exact absurd e.symm hv
        · exact e
      rw [List.getElem?_set_ne hv, wipe_at hm]
theorem wipe_only {σ σ2 : L2.St} {js vs : List Nat} (h : Only js (wipe σ vs) σ2) (hj : ∀ j ∈ js, j ∈ vs) : wipe σ2 vs = wipe σ vs := by
  have hl : σ2.length = σ.length := by rw [h.1, wipe_length]
  refine List.ext_getElem? fun i => ?_
  by_cases hi : i ∈ vs
  · rw [wipe_at hi, wipe_at hi, hl]
  · rw [wipe_get hi, h.2 i (fun z => hi (hj i z))]
theorem Sat.wipe {σ : L2.St} {H : Hp} (S : Sat c ρ μ σ H) (vs : List Nat) : Sat c (wipe2 ρ vs) μ (L2.wipe σ vs) H :=
  S.slots (by rw [wipe_length, wipe2_length, S.len]) fun i d e => by
    obtain ⟨e1, e2⟩ := wipe2_some e
    obtain ⟨v, e3, r⟩ := S.env i d e1
    exact ⟨v, by rw [wipe_get e2]; exact e3, r⟩
/-- [elt for target in iter if ..]; acc: what is made so far (the new list at a stands ahead of all) -/
theorem x_lc {wi : TI} {g : TG} {tt : TT} {vs js : List Nat} {P : D → Mu → Prop} (I : Nat → List D → Mu → Prop) (hj : ∀ j ∈ js, j ∈ vs)
    (h : IX c wi ρ μ fun items μ1 => items.length ≤ 100000 ∧ I 0 [] μ1 ∧ (∀ i d acc μ2 a, items[i]? = some d → I i acc μ2 → GX c g js d (wipe2 ρ vs) ((a, .lst acc) :: μ2) fun ρ2 μ3 => T c tt ρ2 μ3 fun b μ4 =>
        (b = true → X c te ρ2 μ4 fun y μ5 => ∃ μ6, μ5 = (a, .lst acc) :: μ6 ∧ I (i + 1) (acc ++ [y]) μ6) ∧ (b = false → ∃ μ6, μ4 = (a, .lst acc) :: μ6 ∧ I (i + 1) acc μ6)) ∧
      (∀ acc μ2 a, I items.length acc μ2 → P (.ref a) (μ2 ++ [(a, .lst acc)]))) : X c (tLc wi g tt te vs) ρ μ P := fun σ H Q S q => by
  refine h σ H _ S fun J H1 items μ1 p1 S1 W ⟨hz, i0, hs, hd⟩ => ?_
  intro D hD
  have hgood : ∀ {μ' σ' H'}, Sat c (wipe2 ρ vs) μ' σ' H' → Pst H H' → Sat c ρ μ' σ H' := fun S' p => S'.slots S.len fun i d e => by
    obtain ⟨v, e1, r⟩ := S.env i d e
    exact ⟨v, e1, r.mono p⟩
  refine ⟨fun i m H' => m = items.length - i ∧ i ≤ items.length ∧ Pst H1 H' ∧ ∃ acc μ', acc.length ≤ i ∧ Sat c (wipe2 ρ vs) ((D, .lst acc) :: μ') (L2.wipe σ vs) H' ∧ I i acc μ', ⟨items.length, rfl, Nat.zero_le _, Pst.new hD, [], μ1, Nat.le_refl _, ?_, i0⟩, ?_⟩
  · have S2 := (S1.wipe vs).add hD (m := .lst []) ⟨[], upd_same, Reps.nil⟩
    exact S2.perm (List.perm_append_comm (l₁ := [(D, MO.lst [])]))
  · rintro i m H' ⟨rfl, hi, p2, acc, μ', hacc, S2, hI⟩
    by_cases hlt : i < items.length
    · have hd' : items[i]? = some items[i] := List.getElem?_eq_getElem hlt
      refine .inr ⟨W.go i _ H' hd' p2, fun H2 => Pst H1 H2 ∧ ∃ acc μ', acc.length ≤ i + 1 ∧ Sat c (wipe2 ρ vs) ((D, .lst acc) :: μ') (L2.wipe σ vs) H2 ∧ I (i + 1) acc μ', fun H2 ⟨p3, acc', μ3, ha, S3, hI2⟩ => ⟨items.length - (i + 1), by omega, rfl, hlt, p3, acc', μ3, ha, S3, hI2⟩, fun x H2 hy => ?_⟩
      obtain ⟨sm, rx⟩ := W.yld i _ H' x H2 hd' p2 hy
      refine hs i _ acc μ' D hd' hI (L2.wipe σ vs) H2 x _ (S2.same sm) rx fun ρ3 μ3 σ3 H3 p4 S3 o3 z => ⟨wipe_only o3 hj, ?_⟩
      have p5 : Pst H1 H3 := (p2.trans (Pst.same sm)).trans p4
      have back : ∀ {μ' σ'' H''}, Sat c ρ3 μ' σ'' H'' → Pst H3 H'' → Sat c (wipe2 ρ vs) μ' (L2.wipe σ vs) H'' := fun S' p => S'.slots (by rw [wipe_length, wipe2_length, S.len]) fun i d e => by
        obtain ⟨e1, e2⟩ := wipe2_some e
        obtain ⟨v, e3, r⟩ := S1.env i d e1
        exact ⟨v, by rw [wipe_get e2]; exact e3, r.mono (p5.trans p)⟩
      refine z σ3 H3 _ S3 fun b H4 μ4 p6 S4 z4 => ?_
      cases b with
      | true =>
        show te σ3 H4 _
        refine z4.1 rfl σ3 H4 _ S4 fun y H5 dy μ5 p7 r5 S5 ⟨μ6, e6, hI6⟩ => ?_
        subst e6
        obtain ⟨vs', ha, rs⟩ := S5.mu _ List.mem_cons_self
        have P5 : Pst H5 (upd H5 D (.lst (vs' ++ [y]))) := Pst.mut ha fun z => z
        refine ⟨vs', ha, by rw [rs.len]; exact Nat.lt_of_le_of_lt (Nat.le_trans hacc (Nat.le_of_lt hlt)) (Nat.lt_of_le_of_lt hz (by decide)), ?_⟩
        refine ⟨((p5.trans p6).trans p7).trans P5, acc ++ [dy], μ6, by rw [List.length_append]; simp; exact hacc, ?_, hI6⟩
        have S6 := S5.put (k := 0) (m' := .lst (acc ++ [dy])) (o := .lst (vs' ++ [y])) rfl ⟨vs' ++ [y], upd_same, (rs.mono P5).snoc (r5.mono P5)⟩
        exact back S6 ((p6.trans p7).trans P5)
      | false =>
        obtain ⟨μ6, e6, hI6⟩ := z4.2 rfl
        subst e6
        exact ⟨p5.trans p6, acc, μ6, Nat.le_succ_of_le hacc, back S4 p6, hI6⟩
    · have e : i = items.length := by omega
      subst e
      refine .inl ⟨W.stop H' p2, ?_⟩
      have S3 := hgood S2 (p1.trans p2)
      exact q (.ref D) H' (.ref D) _ (p1.trans p2) rfl (S3.perm (List.perm_append_comm (l₂ := [(D, MO.lst acc)]))) (hd acc μ' D hI)
end
end MW
/-! Operations on data. -/
namespace MW
open PySem PySem.Spec PyProof.Rows L2
/-! ### texts -/
abbrev Wd := List Nat
def tx (l : Wd) : Str := ⟨l.toArray⟩
theorem tx_inj {a b : Wd} (h : tx a = tx b) : a = b := by
  have e : (tx a).cps.toList = (tx b).cps.toList := by rw [h]
  simpa [tx] using e
theorem tx_eq {a b : Wd} : tx a = tx b ↔ a = b := ⟨tx_inj, fun h => by rw [h]⟩
theorem tx_len (l : Wd) : (tx l).length = l.length := by simp [tx, Str.length]
theorem tx_list (l : Wd) : (tx l).cps.toList = l := by simp [tx]
theorem tx_app (a b : Wd) : tx a ++ tx b = tx (a ++ b) := by
  show (⟨a.toArray ++ b.toArray⟩ : Str) = ⟨(a ++ b).toArray⟩
  rw [List.append_toArray]
theorem tx_of (x : Str) : tx x.cps.toList = x := by
  obtain ⟨c⟩ := x
  simp [tx]
theorem dec_eq {p q : Prop} [Decidable p] [Decidable q] (h : p ↔ q) : decide p = decide q := by
  by_cases hp : p
  · rw [decide_eq_true hp, decide_eq_true (h.mp hp)]
  · rw [decide_eq_false hp, decide_eq_false (fun z => hp (h.mpr z))]
section
variable {c : Cn} {μ : Mu} {P : D → Mu → Prop}
/-! ### ints -/
theorem r_I0 {g : Int → Int → Int} {i j : Int} (k : P (.int (g i j)) μ) : RX c (rI0 fun i j => .int (g i j)) (.int i) (.int j) μ P := fun ρ σ H v w Q S r1 r2 q => by
  have e1 : v = .int i := r1
  have e2 : w = .int j := r2
  exact ⟨i, j, e1, e2, q _ H _ μ (Pst.refl H) (by exact rfl) S k⟩
theorem r_I0b {g : Int → Int → Bool} {i j : Int} (k : P (.bl (g i j)) μ) : RX c (rI0 fun i j => .bl (g i j)) (.int i) (.int j) μ P := fun ρ σ H v w Q S r1 r2 q => by
  have e1 : v = .int i := r1
  have e2 : w = .int j := r2
  exact ⟨i, j, e1, e2, q _ H _ μ (Pst.refl H) (by exact rfl) S k⟩
theorem r_I {C : Int → Int → Prop} {g : Int → Int → Int} {i j : Int} (hc : C i j) (k : P (.int (g i j)) μ) : RX c (rI C fun i j => .int (g i j)) (.int i) (.int j) μ P := fun ρ σ H v w Q S r1 r2 q => by
  have e1 : v = .int i := r1
  have e2 : w = .int j := r2
  exact ⟨i, j, e1, e2, hc, q _ H _ μ (Pst.refl H) (by exact rfl) S k⟩
theorem u_neg {i : Int} (k : P (.int (-i)) μ) : UX c (rU fun i => .int (-i)) (.int i) μ P := fun ρ σ H v Q S r1 q => by
  have e1 : v = .int i := r1
  exact ⟨i, e1, q _ H _ μ (Pst.refl H) (by exact rfl) S k⟩
/-! ### ==, != of plain values -/
theorem r_eqI {i j : Int} (k : P (.bl (decide (i = j))) μ) : RX c rEq (.int i) (.int j) μ P := fun ρ σ H v w Q S r1 r2 q => by
  have e1 : v = .int i := r1
  have e2 : w = .int j := r2
  subst e1 e2
  refine ⟨rfl, ?_⟩
  rw [dec_eq (q := i = j) ⟨V.int.inj, fun h => by rw [h]⟩]
  exact q _ H _ μ (Pst.refl H) (by exact rfl) S k
theorem r_neI {i j : Int} (k : P (.bl (!decide (i = j))) μ) : RX c rNe (.int i) (.int j) μ P := fun ρ σ H v w Q S r1 r2 q => by
  have e1 : v = .int i := r1
  have e2 : w = .int j := r2
  subst e1 e2
  refine ⟨rfl, ?_⟩
  rw [dec_eq (q := i = j) ⟨V.int.inj, fun h => by rw [h]⟩]
  exact q _ H _ μ (Pst.refl H) (by exact rfl) S k
theorem r_eqS {i j : Str} (k : P (.bl (decide (i = j))) μ) : RX c rEq (.str i) (.str j) μ P := fun ρ σ H v w Q S r1 r2 q => by
  have e1 : v = .str i := r1
  have e2 : w = .str j := r2
  subst e1 e2
  refine ⟨rfl, ?_⟩
  rw [dec_eq (q := i = j) ⟨V.str.inj, fun h => by rw [h]⟩]
  exact q _ H _ μ (Pst.refl H) (by exact rfl) S k
theorem r_neS {i j : Str} (k : P (.bl (!decide (i = j))) μ) : RX c rNe (.str i) (.str j) μ P := fun ρ σ H v w Q S r1 r2 q => by
  have e1 : v = .str i := r1
  have e2 : w = .str j := r2
  subst e1 e2
  refine ⟨rfl, ?_⟩
  rw [dec_eq (q := i = j) ⟨V.str.inj, fun h => by rw [h]⟩]
  exact q _ H _ μ (Pst.refl H) (by exact rfl) S k
theorem r_neB {i j : Bool} (k : P (.bl (!decide (i = j))) μ) : RX c rNe (.bl i) (.bl j) μ P := fun ρ σ H v w Q S r1 r2 q => by
  have e1 : v = .bl i := r1
  have e2 : w = .bl j := r2
  subst e1 e2
  refine ⟨rfl, ?_⟩
  rw [dec_eq (q := i = j) ⟨V.bl.inj, fun h => by rw [h]⟩]
  exact q _ H _ μ (Pst.refl H) (by exact rfl) S k
theorem r_eqSN {i : Str} (k : P (.bl false) μ) : RX c rEq .non (.str i) μ P := fun ρ σ H v w Q S r1 r2 q => by
  have e1 : v = .non := r1
  have e2 : w = .str i := r2
  subst e1 e2
  exact ⟨rfl, q _ H _ μ (Pst.refl H) (by exact rfl) S k⟩
theorem r_neNS {i : Str} (k : P (.bl true) μ) : RX c rNe .non (.str i) μ P := fun ρ σ H v w Q S r1 r2 q => by
  have e1 : v = .non := r1
  have e2 : w = .str i := r2
  subst e1 e2
  exact ⟨rfl, q _ H _ μ (Pst.refl H) (by exact rfl) S k⟩
/-- is None -/
def D.isN : D → Bool
  | .non => true
  | _ => false
theorem isN_of {H : Hp} : ∀ {d : D} {v : V}, Rep H d v → decide (v = .non) = d.isN
  | .non, v, r => by
    have e : v = .non := r
    subst e
    rfl
  | .bl _, v, r => by
    have e : v = .bl _ := r
    subst e
    rfl
  | .int _, v, r => by
    have e : v = .int _ := r
    subst e
    rfl
  | .str _, v, r => by
    have e : v = .str _ := r
    subst e
    rfl
  | .ref _, v, r => by
    have e : v = .ref _ := r
    subst e
    rfl
  | .ty _, v, r => by
    have e : v = .ty _ := r
    subst e
    rfl
  | .tup _, v, r => by
    obtain ⟨a, _, e, _⟩ := r
    subst e
    rfl
  | .lst _, v, r => by
    obtain ⟨a, _, _, e, _⟩ := r
    subst e
    rfl
  | .dic _ _, v, r => by
    obtain ⟨a, _, _, e, _⟩ := r
    subst e
    rfl
  | .ins _ _ _, v, r => by
    obtain ⟨a, _, _, e, _⟩ := r
    subst e
    rfl
theorem r_isN {d : D} (k : P (.bl d.isN) μ) : RX c (fun x y H Q => y = .non ∧ Q (.bl (decide (x = .non))) H) d .non μ P := fun ρ σ H v w Q S r1 r2 q =>
  ⟨r2, by rw [isN_of r1]; exact q _ H _ μ (Pst.refl H) (by exact rfl) S k⟩
theorem r_notN {d : D} (k : P (.bl (!d.isN)) μ) : RX c (fun x y H Q => y = .non ∧ Q (.bl (!decide (x = .non))) H) d .non μ P := fun ρ σ H v w Q S r1 r2 q =>
  ⟨r2, by rw [isN_of r1]; exact q _ H _ μ (Pst.refl H) (by exact rfl) S k⟩
/-! ### texts -/
theorem r_addS {i j : Wd} (hz : i.length + j.length ≤ 100000) (k : P (.str (tx (i ++ j))) μ) : RX c (fun x y H Q => ∃ i j, x = .str i ∧ y = .str j ∧ i.length + j.length ≤ sizeLine ∧ Q (.str (i ++ j)) H) (.str (tx i)) (.str (tx j)) μ P := fun ρ σ H v w Q S r1 r2 q =>
  ⟨tx i, tx j, r1, r2, by rw [tx_len, tx_len]; exact Nat.le_trans hz (by decide), by rw [tx_app]; exact q _ H _ μ (Pst.refl H) (by exact rfl) S k⟩
theorem r_ixS {l : Wd} {i : Int} {ch : Nat} (hz : l.length ≤ 100000) (ha : atI l i = some ch) (k : P (.str (tx [ch])) μ) : RX c rIxS (.str (tx l)) (.int i) μ P := fun ρ σ H v w Q S r1 r2 q =>
  ⟨tx l, i, ch, r1, r2, by rw [tx_len]; exact Nat.le_trans hz (by decide), by rw [tx_list]; exact ha, q _ H _ μ (Pst.refl H) (by exact rfl) S k⟩
theorem r_inS {ch : Nat} {l : Wd} (k : P (.bl (decide (ch ∈ l))) μ) : RX c (fun x y H Q => ∃ (c : Nat) (z : Str), x = .str ⟨#[c]⟩ ∧ y = .str z ∧ Q (.bl (decide (c ∈ z.cps.toList))) H) (.str (tx [ch])) (.str (tx l)) μ P := fun ρ σ H v w Q S r1 r2 q =>
  ⟨ch, tx l, r1, r2, by rw [dec_eq (q := ch ∈ l) (by rw [tx_list])]; exact q _ H _ μ (Pst.refl H) (by exact rfl) S k⟩
theorem r_notInS {ch : Nat} {l : Wd} (k : P (.bl (!decide (ch ∈ l))) μ) : RX c (fun x y H Q => ∃ (c : Nat) (z : Str), x = .str ⟨#[c]⟩ ∧ y = .str z ∧ Q (.bl (!decide (c ∈ z.cps.toList))) H) (.str (tx [ch])) (.str (tx l)) μ P := fun ρ σ H v w Q S r1 r2 q =>
  ⟨ch, tx l, r1, r2, by rw [dec_eq (q := ch ∈ l) (by rw [tx_list])]; exact q _ H _ μ (Pst.refl H) (by exact rfl) S k⟩
/-! ### subscripts -/
theorem atI_len {α β : Type} {xs : List α} {ys : List β} {i : Int} {x : α} (h : atI xs i = some x) (hl : ys.length = xs.length) : ∃ j : Nat, xs[j]? = some x ∧ atI ys i = ys[j]? := by
  unfold atI at h ⊢
  rw [hl]
  cases e : ixN xs.length i with
  | none =>
    rw [e] at h
    cases h
  | some j =>
    rw [e] at h
    exact ⟨j, h, rfl⟩
theorem Reps.atI {H : Hp} {ds : List D} {vs : List V} {i : Int} {d : D} (h : Reps H ds vs) (e : L2.atI ds i = some d) : ∃ v, L2.atI vs i = some v ∧ Rep H d v := by
  obtain ⟨j, e1, e2⟩ := atI_len e h.len
  obtain ⟨v, e3, r⟩ := h.at e1
  exact ⟨v, e2.trans e3, r⟩
theorem r_ixT {K : PySem.W.Frag} {ds : List D} {i : Int} {d : D} (ha : L2.atI ds i = some d) (k : P d μ) : RX c (rIxT K) (.tup ds) (.int i) μ P := fun ρ σ H v w Q S r1 r2 q => by
  obtain ⟨a, vs, ev, hv, rs⟩ := r1
  obtain ⟨u, e, ru⟩ := rs.atI ha
  exact ⟨a, vs, i, u, ev, r2, SqT.of hv, e, q u H d μ (Pst.refl H) ru S k⟩
theorem r_ixL {K : PySem.W.Frag} {ds : List D} {i : Int} {d : D} (ha : L2.atI ds i = some d) (k : P d μ) : RX c (rIxL K) (.lst ds) (.int i) μ P := fun ρ σ H v w Q S r1 r2 q => by
  obtain ⟨a, o, vs, ev, hv, rs⟩ := r1
  obtain ⟨u, e, ru⟩ := rs.atI ha
  exact ⟨a, vs, i, u, ev, r2, .inl (.inr ⟨o, hv⟩), e, q u H d μ (Pst.refl H) ru S k⟩
theorem r_ixM {K : PySem.W.Frag} {a : Addr} {j : Nat} {ds : List D} {i : Int} {d : D} (hm : μ[j]? = some (a, .lst ds)) (ha : L2.atI ds i = some d) (k : P d μ) : RX c (rIxL K) (.ref a) (.int i) μ P := fun ρ σ H v w Q S r1 r2 q => by
  obtain ⟨vs, hv, rs⟩ := S.mu _ (List.mem_of_getElem? hm)
  obtain ⟨u, e, ru⟩ := rs.atI ha
  exact ⟨a, vs, i, u, r1, r2, SqL.of hv, e, q u H d μ (Pst.refl H) ru S k⟩
/-! ### calls of built-ins -/
theorem k_lenL {K : PySem.W.Frag} {ds : List D} (k : P (.int (ds.length : Nat)) μ) : KX c (fun xs H Q => ∃ p ys, xs = [.ref p] ∧ (SqL K H p ys ∨ SqT K H p ys) ∧ Q (.int (ys.length : Nat)) H) [.lst ds] μ P := fun ρ σ H vs Q S r q => by
  obtain ⟨v, r0, rfl, ⟨a, o, ws, rfl, hv, rs⟩, rfl⟩ := r
  exact ⟨a, ws, rfl, .inl (.inl (.inr ⟨o, hv⟩)), by rw [rs.len]; exact q _ H _ μ (Pst.refl H) (by exact rfl) S k⟩
theorem k_lenT {K : PySem.W.Frag} {ds : List D} (k : P (.int (ds.length : Nat)) μ) : KX c (fun xs H Q => ∃ p ys, xs = [.ref p] ∧ (SqL K H p ys ∨ SqT K H p ys) ∧ Q (.int (ys.length : Nat)) H) [.tup ds] μ P := fun ρ σ H vs Q S r q => by
  obtain ⟨v, r0, rfl, ⟨a, ws, rfl, hv, rs⟩, rfl⟩ := r
  exact ⟨a, ws, rfl, .inr (SqT.of hv), by rw [rs.len]; exact q _ H _ μ (Pst.refl H) (by exact rfl) S k⟩
theorem k_lenM {K : PySem.W.Frag} {a : Addr} {j : Nat} {ds : List D} (hm : μ[j]? = some (a, .lst ds)) (k : P (.int (ds.length : Nat)) μ) : KX c (fun xs H Q => ∃ p ys, xs = [.ref p] ∧ (SqL K H p ys ∨ SqT K H p ys) ∧ Q (.int (ys.length : Nat)) H) [.ref a] μ P := fun ρ σ H vs Q S r q => by
  obtain ⟨v, r0, rfl, rfl, rfl⟩ := r
  obtain ⟨ws, hv, rs⟩ := S.mu _ (List.mem_of_getElem? hm)
  exact ⟨a, ws, rfl, .inl (SqL.of hv), by rw [rs.len]; exact q _ H _ μ (Pst.refl H) (by exact rfl) S k⟩
theorem k_lenS {l : Wd} (hz : l.length ≤ 100000) (k : P (.int (l.length : Nat)) μ) : KX c (fun xs H Q => ∃ z, xs = [.str z] ∧ z.length ≤ sizeLine ∧ Q (.int (z.length : Nat)) H) [.str (tx l)] μ P := fun ρ σ H vs Q S r q => by
  obtain ⟨v, r0, rfl, rfl, rfl⟩ := r
  exact ⟨tx l, rfl, by rw [tx_len]; exact Nat.le_trans hz (by decide), by rw [tx_len]; exact q _ H _ μ (Pst.refl H) (by exact rfl) S k⟩
theorem x_CB {ρ : Env2} {r : List V → Hp → VK → Prop} {ta : TA} (h : AX c ta ρ μ fun ds μ1 => KX c r ds μ1 P) : X c (tCB r ta) ρ μ P := fun σ H Q S q =>
  h σ H _ S fun vs H1 ds μ1 p1 r1 S1 z => z ρ σ H1 vs Q S1 r1 fun u H' d μ' p r' S' k => q u H' d μ' (p1.trans p) r' S' k
theorem x_BM {ρ : Env2} {K : PySem.W.Frag} {T : String} {r : V → List V → Hp → VK → Prop} {to : TE} {ta : TA}
    (h : X c to ρ μ fun x μ1 => (∀ (σ : L2.St) (H : Hp) (v : V), Sat c ρ μ1 σ H → Rep H x v → tyV K T v H) ∧ AX c ta ρ μ1 fun ds μ2 => MX c r x ds μ2 P) : X c (tBM K T r to ta) ρ μ P := fun σ H Q S q =>
  h σ H _ S fun v H1 x μ1 p1 r1 S1 z => ⟨z.1 σ H1 v S1 r1, z.2 σ H1 _ S1 fun vs H2 ds μ2 p2 r2 S2 z2 => z2 ρ σ H2 v vs Q S2 (r1.mono p2) r2 fun u H' d μ' p r' S' k => q u H' d μ' ((p1.trans p2).trans p) r' S' k⟩
/-- xs.append(e) -/
theorem m_app {a : Addr} {j : Nat} {ds : List D} {d : D} (hm : μ[j]? = some (a, .lst ds)) (hz : ds.length < 100000) (k : P .non (μ.set j (a, .lst (ds ++ [d])))) : MX c rAppend (.ref a) [d] μ P := fun ρ σ H v vs Q S r1 r2 q => by
  have ev : v = .ref a := r1
  obtain ⟨w, r0, rfl, rw_, rfl⟩ := r2
  obtain ⟨ws, hv, rs⟩ := S.mu _ (List.mem_of_getElem? hm)
  have P1 : Pst H (upd H a (.lst (ws ++ [w]))) := Pst.mut hv fun z => z
  exact ⟨a, ws, w, ev, rfl, hv, by rw [rs.len]; exact Nat.lt_of_lt_of_le hz (by decide), q _ _ .non _ P1 rfl (S.put (m' := .lst (ds ++ [d])) hm ⟨ws ++ [w], upd_same, Reps.snoc (Reps.mono P1 _ _ rs) (rw_.mono P1)⟩) k⟩
theorem ty_lst {ρ : Env2} {K : PySem.W.Frag} {a : Addr} {j : Nat} {ds : List D} (hm : μ[j]? = some (a, .lst ds)) : ∀ (σ : L2.St) (H : Hp) (v : V), Sat c ρ μ σ H → Rep H (.ref a) v → tyV K "list" v H := fun σ H v S r => by
  have ev : v = .ref a := r
  subst ev
  obtain ⟨ws, hv, rs⟩ := S.mu _ (List.mem_of_getElem? hm)
  exact .inl ⟨rfl, ws, SqL.of hv⟩
theorem ty_lstD {ρ : Env2} {K : PySem.W.Frag} {ds : List D} : ∀ (σ : L2.St) (H : Hp) (v : V), Sat c ρ μ σ H → Rep H (.lst ds) v → tyV K "list" v H := fun σ H v S r => by
  obtain ⟨a, o, ws, rfl, hv, rs⟩ := r
  exact .inl ⟨rfl, ws, .inl (.inr ⟨o, hv⟩)⟩
/-- a list of ints -/
def dI (l : List Int) : List D := l.map .int
def dS (l : List Str) : List D := l.map .str
def dB (l : List Bool) : List D := l.map .bl
theorem reps_dI {H : Hp} : ∀ {l : List Int} {vs : List V}, Reps H (dI l) vs → vs = l.map V.int
  | [], vs, h => h
  | i :: l, vs, h => by
    obtain ⟨v, r, rfl, rfl, h2⟩ := h
    rw [reps_dI h2]
    rfl
theorem reps_dS {H : Hp} : ∀ {l : List Str} {vs : List V}, Reps H (dS l) vs → vs = l.map V.str
  | [], vs, h => h
  | i :: l, vs, h => by
    obtain ⟨v, r, rfl, rfl, h2⟩ := h
    rw [reps_dS h2]
    rfl
theorem reps_dB {H : Hp} : ∀ {l : List Bool} {vs : List V}, Reps H (dB l) vs → vs = l.map V.bl
  | [], vs, h => h
  | i :: l, vs, h => by
    obtain ⟨v, r, rfl, rfl, h2⟩ := h
    rw [reps_dB h2]
    rfl
theorem dS_reps {H : Hp} : ∀ (l : List Str), Reps H (dS l) (l.map V.str)
  | [] => Reps.nil
  | i :: l => .cons rfl (dS_reps l)
theorem dI_reps {H : Hp} : ∀ (l : List Int), Reps H (dI l) (l.map V.int)
  | [] => Reps.nil
  | i :: l => .cons rfl (dI_reps l)
/-- min(xs) -/
theorem k_minM {K : PySem.W.Frag} {a : Addr} {j : Nat} {l : List Int} (hm : μ[j]? = some (a, .lst (dI l))) (hl : 0 < l.length) (k : ∀ m, m ∈ l → (∀ y ∈ l, m ≤ y) → P (.int m) μ) : KX c (rMin K) [.ref a] μ P := fun ρ σ H vs Q S r q => by
  obtain ⟨v, r0, rfl, rfl, rfl⟩ := r
  obtain ⟨ws, hv, rs⟩ := S.mu _ (List.mem_of_getElem? hm)
  have e := reps_dI rs
  subst e
  exact ⟨a, l, rfl, SqL.of hv, hl, fun m h1 h2 => q _ H _ μ (Pst.refl H) (by exact rfl) S (k m h1 h2)⟩
/-- all(xs) -/
theorem k_allM {K : PySem.W.Frag} {a : Addr} {j : Nat} {l : List Bool} (hm : μ[j]? = some (a, .lst (dB l))) (k : P (.bl (l.all id)) μ) : KX c (rAll K) [.ref a] μ P := fun ρ σ H vs Q S r q => by
  obtain ⟨v, r0, rfl, rfl, rfl⟩ := r
  obtain ⟨ws, hv, rs⟩ := S.mu _ (List.mem_of_getElem? hm)
  have e := reps_dB rs
  subst e
  exact ⟨a, l, rfl, SqL.of hv, q _ H _ μ (Pst.refl H) (by exact rfl) S k⟩
/-- tuple(xs) of a list -/
theorem x_tupleM {ρ : Env2} {K : PySem.W.Frag} {te : TE} (h : X c te ρ μ fun d μ1 => ∃ (a : Addr) (j : Nat) (ds : List D), d = .ref a ∧ μ1[j]? = some (a, .lst ds) ∧ P (.tup ds) μ1) : X c (tThen te (kTup K)) ρ μ P := fun σ H Q S q =>
  h σ H _ S fun v H1 d μ1 p1 r1 S1 ⟨a, j, ds, ed, hm, k⟩ => by
    subst ed
    obtain ⟨ws, hv, rs⟩ := S1.mu _ (List.mem_of_getElem? hm)
    exact .inl ⟨a, ws, r1, SqL.of hv, fun p hp => q _ _ (.tup ds) μ1 (p1.trans (Pst.new hp)) ⟨p, ws, rfl, upd_same, Reps.mono (Pst.new hp) _ _ rs⟩ (S1.new hp) k⟩
/-- tuple(xs) of a list that is data -/
theorem x_tupleL {ρ : Env2} {K : PySem.W.Frag} {te : TE} (h : X c te ρ μ fun d μ1 => ∃ ds, d = .lst ds ∧ P (.tup ds) μ1) : X c (tThen te (kTup K)) ρ μ P := fun σ H Q S q =>
  h σ H _ S fun v H1 d μ1 p1 r1 S1 ⟨ds, ed, k⟩ => by
    subst ed
    obtain ⟨a, o, ws, ev, hv, rs⟩ := r1
    exact .inl ⟨a, ws, ev, .inl (.inr ⟨o, hv⟩), fun p hp => q _ _ (.tup ds) μ1 (p1.trans (Pst.new hp)) ⟨p, ws, rfl, upd_same, Reps.mono (Pst.new hp) _ _ rs⟩ (S1.new hp) k⟩
/-- "".join(xs) -/
theorem x_join {ρ : Env2} {K : PySem.W.Frag} {to te : TE} (h : X c to ρ μ fun x μ1 => ∃ s, x = .str s ∧ X c te ρ μ1 fun y μ2 => ∃ (a : Addr) (j : Nat) (l : List Str), y = .ref a ∧ μ2[j]? = some (a, .lst (dS l)) ∧ (l.map (·.length)).sum + l.length * s.length ≤ 16777216 ∧ P (.str (Txt.join s l)) μ2) :
    X c (tM1 (fun x xs H Q => ∃ a p, ∃ ys : List Str, x = .str a ∧ xs = [.ref p] ∧ (SqL K H p (ys.map V.str) ∨ SqT K H p (ys.map V.str)) ∧ (ys.map (·.length)).sum + ys.length * a.length ≤ 16777216 ∧ Q (.str (Txt.join a ys)) H) to te) ρ μ P := fun σ H Q S q =>
  h σ H _ S fun v H1 x μ1 p1 r1 S1 ⟨s, ex, z⟩ => by
    subst ex
    refine ⟨⟨s, r1⟩, z σ H1 _ S1 fun w H2 y μ2 p2 r2 S2 ⟨a, j, l, ey, hm, hz, k⟩ => ?_⟩
    subst ey
    have ew : w = .ref a := r2
    subst ew
    obtain ⟨ws, hv, rs⟩ := S2.mu _ (List.mem_of_getElem? hm)
    have e := reps_dS rs
    subst e
    exact ⟨s, a, l, r1, rfl, .inl (SqL.of hv), hz, q _ H2 _ μ2 (p1.trans p2) (by exact rfl) S2 k⟩
/-! ### own defs, by what they give for data -/
abbrev Spc := List D → (D → Prop) → Prop
def spF (G : Spc) : Sp := fun vs H Q _ => ∃ ds R, Reps H ds vs ∧ G ds R ∧ ∀ d v H', Same H H' → Rep H' d v → R d → Q v H'
theorem x_call {ρ : Env2} {G : Spc} {dvs : List V} {E : XK} {ta : TA} (dd : List D) (hd : ∀ H, Reps H dd dvs) (h : AX c ta ρ μ fun ds μ1 => ∃ R, G (ds ++ dd) R ∧ ∀ d, R d → P d μ1) : X c (tCall (spF G) dvs E ta) ρ μ P := fun σ H Q S q =>
  h σ H _ S fun vs H1 ds μ1 p1 r1 S1 ⟨R, g, k⟩ => ⟨ds ++ dd, R, r1.app (hd H1), g, fun d v H' sm r z => q v H' d μ1 (p1.trans (Pst.same sm)) r (S1.same sm) (k d z)⟩
/-- f(..) without defaults -/
theorem x_call0 {ρ : Env2} {G : Spc} {E : XK} {ta : TA} (h : AX c ta ρ μ fun ds μ1 => ∃ R, G ds R ∧ ∀ d, R d → P d μ1) : X c (tCall (spF G) [] E ta) ρ μ P :=
  x_call [] (fun _ => Reps.nil) fun σ H Q S q => h σ H Q S fun vs H' ds μ' p r S' z => q vs H' ds μ' p r S' (by show ∃ R, G (ds ++ []) R ∧ _; rw [List.append_nil]; exact z)
/-- a field of an instance, by a property | straight -/
theorem zip_look {H : Hp} {f : Str} : ∀ {fs : List Str} {ds : List D} {vs : List V} {d : D}, Reps H ds vs → (fs.zip ds).lookup f = some d → ∃ v, (fs.zip vs).lookup f = some v ∧ Rep H d v
  | [], _, _, _, _, e => by simp at e
  | _ :: _, [], _, _, _, e => by simp at e
  | g :: fs, x :: ds, _, d, h, e => by
    obtain ⟨v, r, rfl, h1, h2⟩ := h
    rw [List.zip_cons_cons] at e ⊢
    rw [List.lookup_cons] at e ⊢
    cases hb : (f == g) with
    | true =>
      rw [hb] at e
      have e2 : x = d := Option.some.inj e
      subst e2
      exact ⟨v, rfl, h1⟩
    | false =>
      rw [hb] at e
      exact zip_look h2 e
theorem x_prop {ρ : Env2} {C : Addr} {f : Str} {E : XK} {te : TE} (h : X c te ρ μ fun d μ1 => ∃ fs ds d', d = .ins C fs ds ∧ (fs.zip ds).lookup f = some d' ∧ P d' μ1) : X c (tProp C (getSp C f) [] E te) ρ μ P := fun σ H Q S q =>
  h σ H _ S fun v H1 d μ1 p1 r1 S1 ⟨fs, ds, d', ed, hl, k⟩ => by
    subst ed
    obtain ⟨a, dx, vs, rfl, ha, rs⟩ := r1
    obtain ⟨u, e1, ru⟩ := zip_look rs hl
    exact ⟨a, dx, _, rfl, ha, a, dx, _, u, rfl, ha, e1, q u H1 d' μ1 p1 ru S1 k⟩
theorem x_fld {ρ : Env2} {K : PySem.W.Frag} {f : Str} {te : TE} (h : X c te ρ μ fun d μ1 => ∃ C fs ds d', d = .ins C fs ds ∧ Cls K C ∧ NoAttr K C f ∧ (fs.zip ds).lookup f = some d' ∧ P d' μ1) : X c (tFld K te f) ρ μ P := fun σ H Q S q =>
  h σ H _ S fun v H1 d μ1 p1 r1 S1 ⟨C, fs, ds, d', ed, hc, hn, hl, k⟩ => by
    subst ed
    obtain ⟨a, dx, vs, rfl, ha, rs⟩ := r1
    obtain ⟨u, e1, ru⟩ := zip_look rs hl
    exact ⟨a, C, dx, _, u, rfl, ha, hc, hn, e1, q u H1 d' μ1 p1 ru S1 k⟩
/-- a def's body that keeps such a promise -/
theorem body_run {G : Spc} {N : List Str} {vs : List V} {H : Hp} {Q : VK} {E : XK} {t : TS} (h : spF G vs H Q E)
    (hb : ∀ ds R, G ds R → XS ⟨[], H⟩ t (ds.map some ++ List.replicate (N.length - ds.length) none) [] { nx := fun _ _ => R .non, rt := fun d _ => R d }) : t { nx := fun _ H' => Q .non H', rt := Q } (start N vs) H := by
  obtain ⟨ds, R, rs, g, k⟩ := h
  have el := rs.len
  refine hb ds R g _ H _ ⟨fun a o _ e => e, fun i d e => ?_, ?_, fun p hp => (nomatch hp), fun p hp => (nomatch hp), List.nodup_nil, fun a e => e⟩ ⟨fun ρ μ σ' H' p S z => ?_, fun ρ μ σ' H' d v p S r z => ?_, fun _ _ _ _ _ _ z => z.elim, fun _ _ _ _ _ _ z => z.elim⟩
  · by_cases hi : i < ds.length
    · rw [List.getElem?_append_left (by rw [List.length_map]; exact hi), List.getElem?_map] at e
      cases hd : ds[i]? with
      | none =>
        rw [hd] at e
        cases e
      | some d' =>
        rw [hd] at e
        have e2 : d' = d := Option.some.inj (Option.some.inj e)
        subst e2
        obtain ⟨v, e3, r⟩ := rs.at hd
        refine ⟨v, ?_, r⟩
        unfold L2.start
        rw [List.getElem?_append_left (by rw [List.length_map, el]; exact hi), List.getElem?_map, e3]
        rfl
    · rw [List.getElem?_append_right (by rw [List.length_map]; omega)] at e
      rw [List.getElem?_replicate] at e
      split at e
      · cases e
      · cases e
  · unfold L2.start
    simp [el]
  · exact k .non .non H' (fun a o e => S.fr a o (by simp) e) rfl z
  · exact k d v H' (fun a o e => S.fr a o (by simp) e) r z
theorem FunD.okF {P' : Program} {w : World} {K : PySem.W.Frag} {mg : Str → Option Value} {base : Heap} {x qual : Str} {params : Arguments} {body : List Stmt} {scope : Scope} {dvs : List V} {kws : List (Str × V)} {f : Addr} {fd : FuncData} {N ps : List Str} {k : Nat} {G : Spc}
    (F : FunD K x qual params body scope dvs kws f fd) (S : FnScope N ps scope) (len : ∀ ds R, G ds R → ds.length = ps.length)
    (hbody : ∀ (cdv : Value) (A : Around) (outer : List Env) (s : Shared) (H : Hp) (E : XK), Room k (A.deeper (envOfC qual scope s.heap.objs.size f cdv)) →
      ∃ t, PSs (cxOf CX0 P' w K mg base N qual scope f cdv A outer s H E).nox body t ∧ ∀ ds R, G ds R → XS ⟨[], H⟩ t (ds.map some ++ List.replicate (N.length - ds.length) none) [] { nx := fun _ _ => R .non, rt := fun d _ => R d }) :
    FnOk P' w K mg base CX0 (k + 1) f fd ps (spF G) := by
  refine F.ok S (fun vs H Q E h => ?_) fun cdv A outer s H vs Q E hr hsp => ?_
  · obtain ⟨ds, R, rs, g, _⟩ := h
    rw [rs.len, len ds R g]
  · obtain ⟨t, h1, h2⟩ := hbody cdv A outer s H E hr
    exact ⟨t, h1.nox, body_run hsp h2⟩
/-! ### what is walked -/
theorem i_tup {ρ : Env2} {K : PySem.W.Frag} {te : TE} {P : List D → Mu → Prop} (h : X c te ρ μ fun d μ1 => ∃ ds, d = .tup ds ∧ P ds μ1) : IX c (iTup K te) ρ μ P := fun σ H R S q =>
  h σ H _ S fun v H1 d μ1 p1 r1 S1 ⟨ds, ed, k⟩ => by
    subst ed
    obtain ⟨a, vs, ev, ha, rs⟩ := r1
    have ok : ∀ H2, Pst H1 H2 → SqT K H2 a vs := fun H2 p => SqT.of (p a _ trivial ha)
    refine ⟨a, ev, ⟨vs, SqT.of ha⟩, q _ H1 ds μ1 p1 S1 ⟨fun i d H2 e p => ?_, fun i d H2 x H3 e p hy => ?_, fun H2 p => ⟨vs, ok H2 p, by rw [rs.len]; exact Nat.le_refl _⟩⟩ k⟩
    · obtain ⟨w, e1, _⟩ := rs.at e
      exact ⟨vs, w, ok H2 p, e1⟩
    · obtain ⟨eh, hx⟩ := hy
      subst eh
      obtain ⟨w, e1, rw_⟩ := rs.at e
      have ew : x = w := Option.some.inj ((hx vs (ok H3 p)).symm.trans e1)
      subst ew
      exact ⟨Same.refl H3, rw_.mono p⟩
theorem i_lst {ρ : Env2} {K : PySem.W.Frag} {te : TE} {P : List D → Mu → Prop} (h : X c te ρ μ fun d μ1 => ∃ ds, d = .lst ds ∧ P ds μ1) : IX c (iList K te) ρ μ P := fun σ H R S q =>
  h σ H _ S fun v H1 d μ1 p1 r1 S1 ⟨ds, ed, k⟩ => by
    subst ed
    obtain ⟨a, o, vs, ev, ha, rs⟩ := r1
    have ok : ∀ H2, Pst H1 H2 → SqL K H2 a vs := fun H2 p => .inl (.inr ⟨o, p a _ trivial ha⟩)
    refine ⟨a, ev, ⟨vs, ok H1 (Pst.refl H1)⟩, q _ H1 ds μ1 p1 S1 ⟨fun i d H2 e p => ?_, fun i d H2 x H3 e p hy => ?_, fun H2 p => ⟨vs, ok H2 p, by rw [rs.len]; exact Nat.le_refl _⟩⟩ k⟩
    · obtain ⟨w, e1, _⟩ := rs.at e
      exact ⟨vs, w, ok H2 p, e1⟩
    · obtain ⟨eh, hx⟩ := hy
      subst eh
      obtain ⟨w, e1, rw_⟩ := rs.at e
      have ew : x = w := Option.some.inj ((hx vs (ok H3 p)).symm.trans e1)
      subst ew
      exact ⟨Same.refl H3, rw_.mono p⟩
/-- lo, lo + 1, .. below hi -/
def rng (lo : Int) (n : Nat) : List D := (List.range n).map fun i => .int (lo + (i : Nat))
theorem rng_len (lo : Int) (n : Nat) : (rng lo n).length = n := by simp [rng]
theorem rng_at {lo : Int} {n i : Nat} {d : D} (h : (rng lo n)[i]? = some d) : i < n ∧ d = .int (lo + (i : Nat)) := by
  unfold rng at h
  rw [List.getElem?_map] at h
  by_cases hi : i < n
  · rw [List.getElem?_range hi] at h
    exact ⟨hi, (Option.some.inj h).symm⟩
  · rw [List.getElem?_eq_none (by rw [List.length_range]; omega)] at h
    cases h
theorem walk_rng {lo : Int} {n : Nat} {H1 : Hp} : Walk (Itr lo n) (rng lo n) H1 where
  go := fun i d H e p => (rng_at e).1
  yld := fun i d H x H' e p hy => by
    obtain ⟨eh, ex⟩ := hy
    subst eh
    rw [(rng_at e).2]
    exact ⟨Same.refl _, ex⟩
  stop := fun H p => by
    rw [rng_len]
    exact Nat.le_refl n
theorem i_rng1 {ρ : Env2} {ta : TA} {P : List D → Mu → Prop} (h : AX c ta ρ μ fun ds μ1 => ∃ n : Int, ds = [.int n] ∧ -1000000 ≤ n ∧ n ≤ 1000000 ∧ P (rng 0 n.toNat) μ1) : IX c (iRng1 ta) ρ μ P := fun σ H R S q =>
  h σ H _ S fun vs H1 ds μ1 p1 r1 S1 ⟨n, ed, h1, h2, k⟩ => by
    subst ed
    obtain ⟨v, r0, rfl, rfl, rfl⟩ := r1
    exact ⟨n, rfl, by omega, by omega, q _ H1 _ μ1 p1 S1 walk_rng k⟩
theorem i_rng2 {ρ : Env2} {ta : TA} {P : List D → Mu → Prop} (h : AX c ta ρ μ fun ds μ1 => ∃ m n : Int, ds = [.int m, .int n] ∧ -1000000 ≤ m ∧ m ≤ 1000000 ∧ -1000000 ≤ n ∧ n ≤ 1000000 ∧ P (rng m (n - m).toNat) μ1) : IX c (iRng2 ta) ρ μ P := fun σ H R S q =>
  h σ H _ S fun vs H1 ds μ1 p1 r1 S1 ⟨m, n, ed, h1, h2, h3, h4, k⟩ => by
    subst ed
    obtain ⟨v, r0, rfl, rfl, w, r1, rfl, rfl, rfl⟩ := r1
    exact ⟨m, n, rfl, ⟨by omega, by omega, by omega, by omega⟩, q _ H1 _ μ1 p1 S1 walk_rng k⟩
/-- a text, sign by sign -/
def sgs (l : Wd) : List D := l.map fun c => .str (tx [c])
end
end MW
/-! The text by places, and what the top leaves. -/
namespace MW
open PySem PySem.Spec PyProof.Rows L2
abbrev P0 : Program := PySem.Challenge.pw_meantword_k50_whole_rivals_must_go
def top (i : Nat) : Stmt := P0.main.body.getD i (.Pass ⟨0, 0, 0, 0⟩)
/-! ### defs by their places -/
/-- the getter of the property m of the class C -/
def gtA (K : PySem.W.Frag) (C m : Str) : Addr := match PySem.W.recIn K (He.ma K (He.ga K C) m) "property" with
  | some (.ref g :: _) => g
  | _ => 0
def initA (K : PySem.W.Frag) (C : Str) : Addr := He.ma K (He.ga K C) "__init__"
structure DefM where
  adr : PySem.W.Frag → Addr
  name : Str
  qual : Str
  params : Arguments
  body : List Stmt
  scope : Scope
  dfl : List He.Dv := []
  kwd : List (Str × He.Dv) := []
  clo : List (Str × Addr) := []
abbrev FnM : Type := Option (Str × Str × Arguments × FuncBody × Scope × Addr × List (Str × Addr) × Addr)
def fnM (K : PySem.W.Frag) (a : Addr) : FnM := match K.lookup a with
  | some ⟨_, _, .func fd, _⟩ => some (fd.name, fd.qualname, fd.params, fd.body, fd.scope, fd.globals, fd.closure.map fun c => (c.1, 0), fd.builtins)
  | _ => none
def DefM.val (d : DefM) : FnM := some (d.name, d.qual, d.params, .stmts d.body, d.scope, mainGlobals, d.clo, builtinsNs)
def DefM.dvs (K : PySem.W.Frag) (d : DefM) : List V := d.dfl.map (He.Dv.v K)
def DefM.kws (K : PySem.W.Frag) (d : DefM) : List (Str × V) := d.kwd.map fun q => (q.1, q.2.v K)
def DefM.ok (K : PySem.W.Frag) (d : DefM) : Bool := PySem.W.keepIn K (.ref (d.adr K)) && (match K.lookup (d.adr K) with
  | some ⟨_, _, .func fd, _⟩ => PySem.W.codeIn K fd.code d.qual && (He.dflB K fd.defaults (d.dvs K) && He.kwdB K fd.kwdefaults (d.kws K))
  | _ => false)
theorem DefM.funD {K : PySem.W.Frag} {d : DefM} (e : fnM K (d.adr K) = d.val) (c : d.ok K = true) (h0 : d.clo = []) : ∃ fd, FunD K d.name d.qual d.params d.body d.scope (d.dvs K) (d.kws K) (d.adr K) fd := by
  obtain ⟨kp, c2⟩ := He.ba c
  unfold fnM at e
  cases q : K.lookup (d.adr K) with
  | none =>
    rw [q] at c2
    cases c2
  | some o =>
    obtain ⟨oc, od, dt, osl⟩ := o
    rw [q] at c2 e
    cases dt with
    | func fd =>
      obtain ⟨n1, n2, n3, n4, n5, n6, n7, n8, n9, n10, n11, n12, n13, n14, n15⟩ := fd
      have e2 : (some (n1, n2, n3, n4, n5, n6, n7.map (fun c => (c.1, 0)), n15) : FnM) = some (d.name, d.qual, d.params, .stmts d.body, d.scope, mainGlobals, d.clo, builtinsNs) := e
      simp only [Option.some.injEq, Prod.mk.injEq] at e2
      obtain ⟨h1, h2, h3, h4, h5, h6, h7, h8⟩ := e2
      rw [h0, List.map_eq_nil_iff] at h7
      subst h1 h2 h3 h4 h5 h6 h7 h8
      have c3 : (PySem.W.codeIn K n13 d.qual && (He.dflB K n8 (d.dvs K) && He.kwdB K n9 (d.kws K))) = true := c2
      obtain ⟨k1, k2⟩ := He.ba c3
      obtain ⟨k3, k4⟩ := He.ba k2
      exact ⟨_, ⟨oc, od, n8, n9, n10, n11, n12, n13, n14, osl, rfl, q, k1, He.dflB_ok k3, He.kwdB_ok k4⟩, kp⟩
    | _ => cases c2
def nm0 : List PySem.Str := ["_wall", "SpellError", "BadSlips", "BadText", "BadEntry", "NoWord", "Clash", "BadLimit", "BadMachine", "BadNumber", "TooMany", "LETTERS", "LONGEST", "DEAREST", "is_integer", "is_text", "is_word", "is_price", "need_text", "Slips", "last_steps", "step_price", "price_lines", "price", "letters_of", "row_of", "state_of", "first_of", "next_worths", "stepped"]
def nm1 : List PySem.Str := ["least_total", "step_of", "word_of", "MOST_LIMIT", "Listener", "first_heard", "heard_step", "heard_word", "heard_state", "MOST_ROWS", "is_machine_row", "Machine", "need_most", "known_letters", "tried_letters", "signs", "first_state", "step_on", "answer_at", "walks", "states", "MOST_WORDS", "DEAREST_OWN", "is_own", "is_entry", "need_entries", "Speller", "place_of", "ranking_of", "meant_word"]
def nm2 : List PySem.Str := ["DEAREST_SLIPS", "need_price", "strength", "beats", "rivals", "_law_begin", "_law_take", "_law_pick", "_law_letters", "_law_string", "_law_prices", "_law_case", "_law_slips", "_law_speller", "_law_is_great", "_law_is_understood"]
def nms : List PySem.Str := nm0 ++ nm1 ++ nm2
abbrev s_is_integer : Stmt := top 16
abbrev s_is_text : Stmt := top 17
abbrev s_is_word : Stmt := top 18
abbrev s_is_price : Stmt := top 19
abbrev s_need_text : Stmt := top 20
abbrev s_last_steps : Stmt := top 22
abbrev s_step_price : Stmt := top 23
abbrev s_price_lines : Stmt := top 24
abbrev s_price : Stmt := top 25
abbrev s_letters_of : Stmt := top 27
abbrev s_row_of : Stmt := top 28
abbrev s_state_of : Stmt := top 29
abbrev s_first_of : Stmt := top 30
abbrev s_next_worths : Stmt := top 31
abbrev s_stepped : Stmt := top 32
abbrev s_least_total : Stmt := top 33
abbrev s_step_of : Stmt := top 34
abbrev s_word_of : Stmt := top 35
abbrev s_need_most : Stmt := top 47
abbrev s_known_letters : Stmt := top 48
abbrev s_tried_letters : Stmt := top 49
abbrev s_signs : Stmt := top 50
abbrev s_first_state : Stmt := top 51
abbrev s_step_on : Stmt := top 52
abbrev s_answer_at : Stmt := top 53
abbrev s_walks : Stmt := top 54
abbrev s_states : Stmt := top 55
abbrev s_is_own : Stmt := top 59
abbrev s_is_entry : Stmt := top 60
abbrev s_need_entries : Stmt := top 61
abbrev s_place_of : Stmt := top 63
abbrev s_ranking_of : Stmt := top 64
abbrev s_need_price : Stmt := top 68
abbrev s_strength : Stmt := top 69
abbrev s_beats : Stmt := top 70
abbrev s_rivals : Stmt := top 71
abbrev s_law_begin : Stmt := top 73
abbrev s_law_take : Stmt := top 74
abbrev s_law_pick : Stmt := top 75
abbrev s_law_letters : Stmt := top 76
abbrev s_law_string : Stmt := top 77
abbrev s_law_prices : Stmt := top 78
abbrev s_law_case : Stmt := top 79
abbrev s_law_slips : Stmt := top 80
abbrev s_law_speller : Stmt := top 81
abbrev s_law_is_great : Stmt := top 82
abbrev s_law_is_understood : Stmt := top 83
abbrev s_law : Stmt := top 84
abbrev s_Slips_init : Stmt := inClass (top 21) 0
abbrev s_Speller_init : Stmt := inClass (top 62) 0
abbrev s_Speller_contains : Stmt := inClass (top 62) 6
abbrev s_Speller_sub : Stmt := inClass (top 62) 9
abbrev s_Speller_ranking : Stmt := inClass (top 62) 12
abbrev s_Slips_extra : Stmt := inClass (top 21) 1
abbrev s_Slips_missing : Stmt := inClass (top 21) 2
abbrev s_Slips_wrong : Stmt := inClass (top 21) 3
abbrev s_Slips_swapped : Stmt := inClass (top 21) 4
abbrev s_Speller_entries : Stmt := inClass (top 62) 1
abbrev s_Speller_slips : Stmt := inClass (top 62) 2
abbrev s_TooMany_init : Stmt := inClass (top 11) 0
def fn0 : List DefM := [
  ⟨fun K => He.ga K "is_integer", "is_integer", "is_integer", defArgs s_is_integer, defBody s_is_integer, defScope s_is_integer, [], [], []⟩,
  ⟨fun K => He.ga K "is_text", "is_text", "is_text", defArgs s_is_text, defBody s_is_text, defScope s_is_text, [], [], []⟩,
  ⟨fun K => He.ga K "is_word", "is_word", "is_word", defArgs s_is_word, defBody s_is_word, defScope s_is_word, [], [], []⟩,
  ⟨fun K => He.ga K "is_price", "is_price", "is_price", defArgs s_is_price, defBody s_is_price, defScope s_is_price, [], [], []⟩,
  ⟨fun K => He.ga K "need_text", "need_text", "need_text", defArgs s_need_text, defBody s_need_text, defScope s_need_text, [], [], []⟩,
  ⟨fun K => He.ga K "last_steps", "last_steps", "last_steps", defArgs s_last_steps, defBody s_last_steps, defScope s_last_steps, [], [], []⟩,
  ⟨fun K => He.ga K "step_price", "step_price", "step_price", defArgs s_step_price, defBody s_step_price, defScope s_step_price, [], [], []⟩,
  ⟨fun K => He.ga K "price_lines", "price_lines", "price_lines", defArgs s_price_lines, defBody s_price_lines, defScope s_price_lines, [], [], []⟩]
def fn1 : List DefM := [
  ⟨fun K => He.ga K "price", "price", "price", defArgs s_price, defBody s_price, defScope s_price, [], [], []⟩,
  ⟨fun K => He.ga K "letters_of", "letters_of", "letters_of", defArgs s_letters_of, defBody s_letters_of, defScope s_letters_of, [], [], []⟩,
  ⟨fun K => He.ga K "row_of", "row_of", "row_of", defArgs s_row_of, defBody s_row_of, defScope s_row_of, [], [], []⟩,
  ⟨fun K => He.ga K "state_of", "state_of", "state_of", defArgs s_state_of, defBody s_state_of, defScope s_state_of, [], [], []⟩,
  ⟨fun K => He.ga K "first_of", "first_of", "first_of", defArgs s_first_of, defBody s_first_of, defScope s_first_of, [], [], []⟩,
  ⟨fun K => He.ga K "next_worths", "next_worths", "next_worths", defArgs s_next_worths, defBody s_next_worths, defScope s_next_worths, [], [], []⟩,
  ⟨fun K => He.ga K "stepped", "stepped", "stepped", defArgs s_stepped, defBody s_stepped, defScope s_stepped, [], [], []⟩,
  ⟨fun K => He.ga K "least_total", "least_total", "least_total", defArgs s_least_total, defBody s_least_total, defScope s_least_total, [], [], []⟩]
def fn2 : List DefM := [
  ⟨fun K => He.ga K "step_of", "step_of", "step_of", defArgs s_step_of, defBody s_step_of, defScope s_step_of, [], [], []⟩,
  ⟨fun K => He.ga K "word_of", "word_of", "word_of", defArgs s_word_of, defBody s_word_of, defScope s_word_of, [], [], []⟩,
  ⟨fun K => He.ga K "need_most", "need_most", "need_most", defArgs s_need_most, defBody s_need_most, defScope s_need_most, [], [], []⟩,
  ⟨fun K => He.ga K "known_letters", "known_letters", "known_letters", defArgs s_known_letters, defBody s_known_letters, defScope s_known_letters, [], [], []⟩,
  ⟨fun K => He.ga K "tried_letters", "tried_letters", "tried_letters", defArgs s_tried_letters, defBody s_tried_letters, defScope s_tried_letters, [], [], []⟩,
  ⟨fun K => He.ga K "signs", "signs", "signs", defArgs s_signs, defBody s_signs, defScope s_signs, [], [], []⟩,
  ⟨fun K => He.ga K "first_state", "first_state", "first_state", defArgs s_first_state, defBody s_first_state, defScope s_first_state, [], [], []⟩,
  ⟨fun K => He.ga K "step_on", "step_on", "step_on", defArgs s_step_on, defBody s_step_on, defScope s_step_on, [], [], []⟩]
def fn3 : List DefM := [
  ⟨fun K => He.ga K "answer_at", "answer_at", "answer_at", defArgs s_answer_at, defBody s_answer_at, defScope s_answer_at, [], [], []⟩,
  ⟨fun K => He.ga K "walks", "walks", "walks", defArgs s_walks, defBody s_walks, defScope s_walks, [], [], []⟩,
  ⟨fun K => He.ga K "states", "states", "states", defArgs s_states, defBody s_states, defScope s_states, [], [("most", .int 2000)], []⟩,
  ⟨fun K => He.ga K "is_own", "is_own", "is_own", defArgs s_is_own, defBody s_is_own, defScope s_is_own, [], [], []⟩,
  ⟨fun K => He.ga K "is_entry", "is_entry", "is_entry", defArgs s_is_entry, defBody s_is_entry, defScope s_is_entry, [], [], []⟩,
  ⟨fun K => He.ga K "need_entries", "need_entries", "need_entries", defArgs s_need_entries, defBody s_need_entries, defScope s_need_entries, [], [], []⟩,
  ⟨fun K => He.ga K "place_of", "place_of", "place_of", defArgs s_place_of, defBody s_place_of, defScope s_place_of, [], [], []⟩,
  ⟨fun K => He.ga K "ranking_of", "ranking_of", "ranking_of", defArgs s_ranking_of, defBody s_ranking_of, defScope s_ranking_of, [], [], []⟩]
def fn4 : List DefM := [
  ⟨fun K => He.ga K "need_price", "need_price", "need_price", defArgs s_need_price, defBody s_need_price, defScope s_need_price, [], [], []⟩,
  ⟨fun K => He.ga K "strength", "strength", "strength", defArgs s_strength, defBody s_strength, defScope s_strength, [], [("most", .int 2000)], []⟩,
  ⟨fun K => He.ga K "beats", "beats", "beats", defArgs s_beats, defBody s_beats, defScope s_beats, [], [], []⟩,
  ⟨fun K => He.ga K "rivals", "rivals", "rivals", defArgs s_rivals, defBody s_rivals, defScope s_rivals, [], [("most", .int 2000)], []⟩,
  ⟨fun K => He.ga K "_law_begin", "_law_begin", "_law_begin", defArgs s_law_begin, defBody s_law_begin, defScope s_law_begin, [], [], []⟩,
  ⟨fun K => He.ga K "_law_take", "_law_take", "_law_take", defArgs s_law_take, defBody s_law_take, defScope s_law_take, [], [], []⟩,
  ⟨fun K => He.ga K "_law_pick", "_law_pick", "_law_pick", defArgs s_law_pick, defBody s_law_pick, defScope s_law_pick, [], [], []⟩,
  ⟨fun K => He.ga K "_law_letters", "_law_letters", "_law_letters", defArgs s_law_letters, defBody s_law_letters, defScope s_law_letters, [], [], []⟩]
def fn5 : List DefM := [
  ⟨fun K => He.ga K "_law_string", "_law_string", "_law_string", defArgs s_law_string, defBody s_law_string, defScope s_law_string, [], [], []⟩,
  ⟨fun K => He.ga K "_law_prices", "_law_prices", "_law_prices", defArgs s_law_prices, defBody s_law_prices, defScope s_law_prices, [], [], []⟩,
  ⟨fun K => He.ga K "_law_case", "_law_case", "_law_case", defArgs s_law_case, defBody s_law_case, defScope s_law_case, [], [], []⟩,
  ⟨fun K => He.ga K "_law_slips", "_law_slips", "_law_slips", defArgs s_law_slips, defBody s_law_slips, defScope s_law_slips, [], [], []⟩,
  ⟨fun K => He.ga K "_law_speller", "_law_speller", "_law_speller", defArgs s_law_speller, defBody s_law_speller, defScope s_law_speller, [], [], []⟩,
  ⟨fun K => He.ga K "_law_is_great", "_law_is_great", "_law_is_great", defArgs s_law_is_great, defBody s_law_is_great, defScope s_law_is_great, [], [], []⟩,
  ⟨fun K => He.ga K "_law_is_understood", "_law_is_understood", "_law_is_understood", defArgs s_law_is_understood, defBody s_law_is_understood, defScope s_law_is_understood, [], [], []⟩,
  ⟨fun K => He.ga K "law", "law", "law", defArgs s_law, defBody s_law, defScope s_law, [], [], []⟩]
def fn6 : List DefM := [
  ⟨fun K => He.ma K (He.ga K "Slips") "__init__", "__init__", "Slips.__init__", defArgs s_Slips_init, defBody s_Slips_init, defScope s_Slips_init, [], [("extra", .int 1), ("missing", .int 1), ("wrong", .int 1), ("swapped", .non)], []⟩,
  ⟨fun K => He.ma K (He.ga K "Speller") "__init__", "__init__", "Speller.__init__", defArgs s_Speller_init, defBody s_Speller_init, defScope s_Speller_init, [.non], [], []⟩,
  ⟨fun K => He.ma K (He.ga K "Speller") "__contains__", "__contains__", "Speller.__contains__", defArgs s_Speller_contains, defBody s_Speller_contains, defScope s_Speller_contains, [], [], []⟩,
  ⟨fun K => He.ma K (He.ga K "Speller") "__sub__", "__sub__", "Speller.__sub__", defArgs s_Speller_sub, defBody s_Speller_sub, defScope s_Speller_sub, [], [], []⟩,
  ⟨fun K => He.ma K (He.ga K "Speller") "ranking", "ranking", "Speller.ranking", defArgs s_Speller_ranking, defBody s_Speller_ranking, defScope s_Speller_ranking, [], [], []⟩,
  ⟨fun K => gtA K "Slips" "extra", "extra", "Slips.extra", defArgs s_Slips_extra, defBody s_Slips_extra, defScope s_Slips_extra, [], [], []⟩,
  ⟨fun K => gtA K "Slips" "missing", "missing", "Slips.missing", defArgs s_Slips_missing, defBody s_Slips_missing, defScope s_Slips_missing, [], [], []⟩,
  ⟨fun K => gtA K "Slips" "wrong", "wrong", "Slips.wrong", defArgs s_Slips_wrong, defBody s_Slips_wrong, defScope s_Slips_wrong, [], [], []⟩]
def fn7 : List DefM := [
  ⟨fun K => gtA K "Slips" "swapped", "swapped", "Slips.swapped", defArgs s_Slips_swapped, defBody s_Slips_swapped, defScope s_Slips_swapped, [], [], []⟩,
  ⟨fun K => gtA K "Speller" "entries", "entries", "Speller.entries", defArgs s_Speller_entries, defBody s_Speller_entries, defScope s_Speller_entries, [], [], []⟩,
  ⟨fun K => gtA K "Speller" "slips", "slips", "Speller.slips", defArgs s_Speller_slips, defBody s_Speller_slips, defScope s_Speller_slips, [], [], []⟩,
  ⟨fun K => initA K "TooMany", "__init__", "TooMany.__init__", defArgs s_TooMany_init, defBody s_TooMany_init, defScope s_TooMany_init, [], [], [("__class__", 0)]⟩]
def fn : List DefM := fn0 ++ fn1 ++ fn2 ++ fn3 ++ fn4 ++ fn5 ++ fn6 ++ fn7
def fa0 : List He.Fa := [.glo "is_integer", .glo "is_text", .glo "is_word", .glo "is_price", .glo "need_text", .glo "last_steps", .glo "step_price", .glo "price_lines", .glo "price", .glo "letters_of", .glo "row_of", .glo "state_of", .glo "first_of", .glo "next_worths", .glo "stepped", .glo "least_total", .glo "step_of", .glo "word_of", .glo "need_most", .glo "known_letters", .glo "tried_letters", .glo "signs", .glo "first_state", .glo "step_on", .glo "answer_at", .glo "walks", .glo "states", .glo "is_own", .glo "is_entry", .glo "need_entries"]
def fa1 : List He.Fa := [.glo "place_of", .glo "ranking_of", .glo "need_price", .glo "strength", .glo "beats", .glo "rivals", .glo "_law_begin", .glo "_law_take", .glo "_law_pick", .glo "_law_letters", .glo "_law_string", .glo "_law_prices", .glo "_law_case", .glo "_law_slips", .glo "_law_speller", .glo "_law_is_great", .glo "_law_is_understood", .glo "law", .glo "Slips", .glo "Speller", .glo "Machine", .glo "Listener", .glo "TooMany", .free "isinstance", .free "all", .free "len", .free "min", .free "sorted", .free "set", .free "enumerate"]
def fa2 : List He.Fa := [.free "tuple", .free "list", .free "range", .free "divmod", .free "abs", .free "int", .free "str", .free "bool", .int "LONGEST" 5, .int "DEAREST" 9, .int "MOST_ROWS" 20000, .int "MOST_WORDS" 4, .int "DEAREST_OWN" 999, .int "DEAREST_SLIPS" 9999, .str "LETTERS" "abcdefghijklmnopqrstuvwxyz", .cls "Speller", .cls "Slips", .mkr "Speller", .mkr "Slips", .noat "Speller" "e_entries", .noat "Speller" "e_slips", .noat "Slips" "z_extra", .noat "Slips" "z_missing", .noat "Slips" "z_wrong", .noat "Slips" "z_swapped", .meth "Speller" "__sub__", .meth "Speller" "__contains__", .meth "Speller" "ranking"]
def fa : List He.Fa := fa0 ++ fa1 ++ fa2
/-! ### which objects are looked at -/
def one (g : Addr → Option Obj) (a : Addr) : List Addr := match g a with
  | some o => He.refsD o
  | none => []
def ofMeth (g : Addr → Option Obj) (m : Addr) : List Addr := m :: (match g m with
  | some ⟨_, _, .func fd, _⟩ => He.refV fd.code ++ He.refV fd.kwdefaults ++ He.refV fd.defaults ++ fd.closure.map (·.2)
  | some ⟨_, _, .fields vs, _⟩ => (vs.toList.flatMap He.refV).flatMap fun f => f :: (match g f with
    | some ⟨_, _, .func fd, _⟩ => He.refV fd.code
    | _ => [])
  | _ => [])
def ofGlob (g : Addr → Option Obj) (a : Addr) : List Addr := a :: (match g a with
  | some ⟨_, _, .func fd, _⟩ => He.refV fd.code ++ He.refV fd.kwdefaults ++ He.refV fd.defaults
  | some ⟨_, _, .cls cd, _⟩ => cd.ns :: (one g cd.ns).flatMap (ofMeth g)
  | _ => [])
def adrs (g : Addr → Option Obj) : List Addr := mainGlobals :: cStatics :: (one g mainGlobals).flatMap (ofGlob g)
def obsM (fa : List He.Fa) (fn : List DefM) (ex : PySem.W.Frag → Bool) (K : PySem.W.Frag) : Bool × List FnM := ((fa.all fun f => f.ok K) && ((fn.all fun d => d.ok K) && ex K), fn.map fun d => fnM K (d.adr K))
def valM (fn : List DefM) : Bool × List FnM := (true, fn.map DefM.val)
def SaysM (fa : List He.Fa) (fn : List DefM) (ex : PySem.W.Frag → Bool) (K : PySem.W.Frag) : Prop := obsM fa fn ex K = valM fn
def obsMG (fa : List He.Fa) (fn : List DefM) (ex : PySem.W.Frag → Bool) (g : Addr → Option Obj) : Bool × List FnM := obsM fa fn ex (He.frG g (adrs g))
def hookM (fa : List He.Fa) (fn : List DefM) (ex : PySem.W.Frag → Bool) : PySem.W.Hook where
  α := Bool × List FnM
  obs := fun s => obsMG fa fn ex s.heap.get?
  val := fun _ => valM fn
  says := fun _ h => ∃ K : PySem.W.Frag, K.In h ∧ SaysM fa fn ex K
  of := fun _ _ e => ⟨_, He.frG_in, e⟩
  keeps := fun _ _ _ ⟨K, hK, c⟩ k => ⟨K, PySem.W.Frag.In.keeps hK k, c⟩
theorem obsMG_eq {fa : List He.Fa} {fn : List DefM} {ex : PySem.W.Frag → Bool} {g : Addr → Option Obj} {s : Shared} (h : ∀ a, g a = s.heap.get? a) : obsMG fa fn ex g = (hookM fa fn ex).obs s := by
  have e : g = s.heap.get? := funext h
  rw [e] <;> rfl
section
variable {fa : List He.Fa} {fn : List DefM} {ex : PySem.W.Frag → Bool} {K : PySem.W.Frag}
theorem SaysM.fact (c : SaysM fa fn ex K) {f : He.Fa} (h : f ∈ fa) : f.ok K = true := by
  have c1 := (He.ba (show ((fa.all fun f => f.ok K) && ((fn.all fun d => d.ok K) && ex K)) = true from congrArg (fun z => z.1) c)).1
  exact List.all_eq_true.mp c1 f h
theorem SaysM.more (c : SaysM fa fn ex K) : ex K = true := by
  have c1 := (He.ba (show ((fa.all fun f => f.ok K) && ((fn.all fun d => d.ok K) && ex K)) = true from congrArg (fun z => z.1) c)).2
  exact (He.ba c1).2
theorem SaysM.def_ (c : SaysM fa fn ex K) (i : Nat) {d : DefM} (h : fn[i]? = some d) (h0 : d.clo = []) : ∃ fd, FunD K d.name d.qual d.params d.body d.scope (d.dvs K) (d.kws K) (d.adr K) fd := by
  have c2 := (He.ba (He.ba (show ((fa.all fun f => f.ok K) && ((fn.all fun d => d.ok K) && ex K)) = true from congrArg (fun z => z.1) c)).2).1
  have e : fn.map (fun d => fnM K (d.adr K)) = fn.map DefM.val := congrArg (fun z => z.2) c
  have e2 : (fn.map fun d => fnM K (d.adr K))[i]? = (fn.map DefM.val)[i]? := by rw [e]
  rw [List.getElem?_map, List.getElem?_map, h] at e2
  exact DefM.funD (Option.some.inj e2) (List.all_eq_true.mp c2 d (List.mem_of_getElem? h)) h0
theorem SaysM.raw (c : SaysM fa fn ex K) (i : Nat) {d : DefM} (h : fn[i]? = some d) : fnM K (d.adr K) = d.val ∧ d.ok K = true := by
  have c2 := (He.ba (He.ba (show ((fa.all fun f => f.ok K) && ((fn.all fun d => d.ok K) && ex K)) = true from congrArg (fun z => z.1) c)).2).1
  have e : fn.map (fun d => fnM K (d.adr K)) = fn.map DefM.val := congrArg (fun z => z.2) c
  have e2 : (fn.map fun d => fnM K (d.adr K))[i]? = (fn.map DefM.val)[i]? := by rw [e]
  rw [List.getElem?_map, List.getElem?_map, h] at e2
  exact ⟨Option.some.inj e2, List.all_eq_true.mp c2 d (List.mem_of_getElem? h)⟩
end
/-! ### more facts -/
def propB (K : PySem.W.Frag) (C f : Str) : Bool := He.eqO (PySem.W.findIn K (.ref (He.ga K C)) f) (some (some (.ref (He.ma K (He.ga K C) f)))) && (He.eqO (PySem.W.specialIn K (.ref (He.ma K (He.ga K C) f)) "__get__") (some (some (.builtin "property.__get__"))) &&
  (decide (PySem.W.takesIn K (.ref (He.ma K (He.ga K C) f)) = some true) && (match PySem.W.recIn K (He.ma K (He.ga K C) f) "property" with
    | some (.ref _ :: _) => true
    | _ => false)))
theorem propB_ok {K : PySem.W.Frag} {C f : Str} (h : propB K C f = true) : PropOf K (He.ga K C) f (He.ma K (He.ga K C) f) (gtA K C f) := by
  obtain ⟨h1, h⟩ := He.ba h
  obtain ⟨h2, h⟩ := He.ba h
  obtain ⟨h3, h4⟩ := He.ba h
  refine ⟨He.eqO_ok h1, He.eqO_ok h2, of_decide_eq_true h3, ?_⟩
  unfold gtA
  split at h4
  · rename_i g r e
    rw [e]
    exact ⟨r, rfl⟩
  · cases h4
/-- an instance of the class, for isinstance -/
def insB (K : PySem.W.Frag) (C : Str) : Bool := He.eqO (PySem.W.findIn K (.ref (He.ga K C)) "__class__") (some (some (.builtin "object.__class__"))) && (He.eqO (PySem.W.specialIn K (.builtin "object.__class__") "__get__") (some (some (.builtin "getset_descriptor.__get__"))) &&
  (decide (PySem.W.takesIn K (.builtin "object.__class__") = some true) && decide (PySem.W.mroIn K (He.ga K C) (.type "object") = some true)))
theorem insB_ok {K : PySem.W.Frag} {C : Str} (h : insB K C = true) (c : Cls K (He.ga K C)) {H : Hp} {a dx : Addr} {fs : List (Str × V)} (e : H a = some (.ins (He.ga K C) dx fs)) : TyX K H (.ref a) (.ref (He.ga K C)) := by
  obtain ⟨h1, h⟩ := He.ba h
  obtain ⟨h2, h⟩ := He.ba h
  obtain ⟨h3, h4⟩ := He.ba h
  exact .base (.ins e c (He.eqO_ok h1) (He.eqO_ok h2) (of_decide_eq_true h3) (of_decide_eq_true h4))
def kitB (K : PySem.W.Frag) (C D : Str) : Bool := decide (PySem.W.kitOne K (.ref (He.ga K C)) (.ref (He.ga K D)) = some false)
/-- TooMany -/
def oexB (K : PySem.W.Frag) (C : Addr) : Bool := (match K.lookup C with
  | some ⟨.type "type", _, .cls cd, sl⟩ => (match cd.mro, sl.toList with
    | .ref C' :: bm, [_, _, _, _, some (.builtin n), _] => decide (C' = C) && (decide (n = "ValueError.__new__") && (cd.hasDict && (!cd.hasDel && PySem.HandSPX.refsVE bm)))
    | _, _ => false)
  | _ => false) && (He.eqO (PySem.W.findIn K (.ref C) "__setattr__") (some (some (.builtin "object.__setattr__"))) && (decide (PySem.W.subIn K (.ref C) (.type "BaseException") = some true) && (decide (PySem.W.typeIn K (.ref C) = some (.type "type")) && PySem.W.keepIn K (.ref C))))
theorem oexB_ok {K : PySem.W.Frag} {C : Addr} (h : oexB K C = true) : OexC K C := by
  obtain ⟨h1, h⟩ := He.ba h
  obtain ⟨h2, h⟩ := He.ba h
  obtain ⟨h3, h⟩ := He.ba h
  obtain ⟨h4, h5⟩ := He.ba h
  refine ⟨?_, He.eqO_ok h2, of_decide_eq_true h3, of_decide_eq_true h4, h5⟩
  split at h1
  · rename_i dd cd sl ho
    split at h1
    · rename_i C' bm k0 k1 k2 k3 n k5 hm hs
      obtain ⟨g1, g⟩ := He.ba h1
      obtain ⟨g2, g⟩ := He.ba g
      obtain ⟨g3, g⟩ := He.ba g
      obtain ⟨g4, g5⟩ := He.ba g
      have e1 := of_decide_eq_true g1
      have e2 := of_decide_eq_true g2
      subst e1 e2
      obtain ⟨nm, bs, mro, ns, qn, hd, sn, sub, ab, col, del⟩ := cd
      dsimp only at hm g3 g4
      subst hm g3
      have hdel : del = false := by
        cases del with
        | false => rfl
        | true => cases g4
      subst hdel
      have hsl : sl = #[k0, k1, k2, k3, some (.builtin "ValueError.__new__"), k5] := by
        obtain ⟨l⟩ := sl
        simp only at hs
        rw [hs]
      subst hsl
      exact ⟨nm, qn, ns, bs, bm, sn, sub, ab, col, dd, k0, k1, k2, k3, k5, ho, g5⟩
    · cases h1
  · cases h1
def tmB (K : PySem.W.Frag) : Bool := oexB K (He.ga K "TooMany") && (decide (PySem.W.exmOne K (.ref (He.ga K "TooMany")) (.ref (He.ga K "TooMany")) = some true) && (He.eqO (PySem.W.nsIn K cStatics "thirdparty.any") (some none)))
/-- own __sub__ with a text, own __contains__ -/
def subB (K : PySem.W.Frag) (C : Str) : Bool := PySem.W.selfFirst K (He.ga K C) && (He.eqO (PySem.W.findIn K (.ref (He.ga K C)) "__sub__") (some (some (.ref (He.ma K (He.ga K C) "__sub__")))) && (PySem.W.isFn K (.ref (He.ma K (He.ga K C) "__sub__")) &&
  (He.eqO (PySem.W.findIn K (.ref (He.ga K C)) "__rsub__") (some none) && (He.eqO (PySem.W.findIn K (.type "str") "__sub__") (some none) && (He.eqO (PySem.W.findIn K (.type "str") "__rsub__") (some none) && decide (PySem.W.subIn K (.type "str") (.ref (He.ga K C)) = some false))))))
def conB (K : PySem.W.Frag) (C : Str) : Bool := He.eqO (PySem.W.findIn K (.ref (He.ga K C)) "__contains__") (some (some (.ref (He.ma K (He.ga K C) "__contains__")))) && PySem.W.isFn K (.ref (He.ma K (He.ga K C) "__contains__"))
/-- TooMany's __init__ -/
def cellB (K : PySem.W.Frag) (f C : Addr) : Bool := match K.lookup f with
  | some ⟨_, _, .func fd, _⟩ => (match fd.closure, fd.code with
    | [(_, cc)], .ref cda => (match K.lookup cc, K.lookup cda with
      | some ⟨_, _, .cell (some (.ref D)), _⟩, some ⟨_, _, .fields vs, _⟩ => decide (D = C) && (match (vs : Array Value)[2]? with
        | some (Value.str file _) => ((P0.main.file : Str) == file)
        | _ => false)
      | _, _ => false)
    | _, _ => false)
  | _ => false
def tmI (K : PySem.W.Frag) : Bool := He.eqO (PySem.W.findIn K (.ref (He.ga K "TooMany")) "__init__") (some (some (.ref (initA K "TooMany")))) && (decide (PySem.W.typeIn K (.ref (initA K "TooMany")) = some (.type "function")) && (cellB K (initA K "TooMany") (He.ga K "TooMany") &&
  ((PySem.W.clsIn K (He.ga K "TooMany")).isSome && (decide (PySem.W.mroIn K (He.ga K "TooMany") (.ref (He.ga K "TooMany")) = some true) && (He.eqO (PySem.W.nsIn K mainGlobals "super") (some none) &&
  (He.eqO (PySem.W.ks_superIn K (He.ga K "TooMany") (He.ga K "TooMany") "__init__") (some (some (.builtin "ValueError.__init__"))) && (decide (PySem.W.subIn K (.ref (He.ga K "TooMany")) (.type "ValueError") = some true) && He.eqO (PySem.W.findIn K (.ref (He.ga K "TooMany")) "most") (some none))))))))
def exB (K : PySem.W.Frag) : Bool := propB K "Slips" "extra" && (propB K "Slips" "missing" && (propB K "Slips" "wrong" && (propB K "Slips" "swapped" && (propB K "Speller" "entries" && (propB K "Speller" "slips" && (insB K "Speller" && (kitB K "Speller" "Machine" && (kitB K "Speller" "Listener" && (tmB K && (subB K "Speller" && (conB K "Speller" && (tmI K))))))))))))
/-- what the top has left -/
structure Tx (K : PySem.W.Frag) (mg : Str → Option Value) : Prop where
  says : SaysM fa fn exB K
  ns : ∃ h : Heap, K.In h ∧ h.Ns mainGlobals mg
section
variable {K : PySem.W.Frag} {mg : Str → Option Value}
theorem Tx.fact (T : Tx K mg) (i : Nat) {f : He.Fa} (h : fa[i]? = some f) : f.ok K = true := T.says.fact (List.mem_of_getElem? h)
theorem Tx.g_is_integer (T : Tx K mg) : mg "is_integer" = some (.ref (He.ga K "is_integer")) := let ⟨_, X, G⟩ := T.ns; He.glo_ok X G (T.fact 0 (f := .glo "is_integer") rfl)
theorem Tx.g_is_text (T : Tx K mg) : mg "is_text" = some (.ref (He.ga K "is_text")) := let ⟨_, X, G⟩ := T.ns; He.glo_ok X G (T.fact 1 (f := .glo "is_text") rfl)
theorem Tx.g_is_word (T : Tx K mg) : mg "is_word" = some (.ref (He.ga K "is_word")) := let ⟨_, X, G⟩ := T.ns; He.glo_ok X G (T.fact 2 (f := .glo "is_word") rfl)
theorem Tx.g_is_price (T : Tx K mg) : mg "is_price" = some (.ref (He.ga K "is_price")) := let ⟨_, X, G⟩ := T.ns; He.glo_ok X G (T.fact 3 (f := .glo "is_price") rfl)
theorem Tx.g_need_text (T : Tx K mg) : mg "need_text" = some (.ref (He.ga K "need_text")) := let ⟨_, X, G⟩ := T.ns; He.glo_ok X G (T.fact 4 (f := .glo "need_text") rfl)
theorem Tx.g_last_steps (T : Tx K mg) : mg "last_steps" = some (.ref (He.ga K "last_steps")) := let ⟨_, X, G⟩ := T.ns; He.glo_ok X G (T.fact 5 (f := .glo "last_steps") rfl)
theorem Tx.g_step_price (T : Tx K mg) : mg "step_price" = some (.ref (He.ga K "step_price")) := let ⟨_, X, G⟩ := T.ns; He.glo_ok X G (T.fact 6 (f := .glo "step_price") rfl)
theorem Tx.g_price_lines (T : Tx K mg) : mg "price_lines" = some (.ref (He.ga K "price_lines")) := let ⟨_, X, G⟩ := T.ns; He.glo_ok X G (T.fact 7 (f := .glo "price_lines") rfl)
theorem Tx.g_price (T : Tx K mg) : mg "price" = some (.ref (He.ga K "price")) := let ⟨_, X, G⟩ := T.ns; He.glo_ok X G (T.fact 8 (f := .glo "price") rfl)
theorem Tx.g_letters_of (T : Tx K mg) : mg "letters_of" = some (.ref (He.ga K "letters_of")) := let ⟨_, X, G⟩ := T.ns; He.glo_ok X G (T.fact 9 (f := .glo "letters_of") rfl)
theorem Tx.g_row_of (T : Tx K mg) : mg "row_of" = some (.ref (He.ga K "row_of")) := let ⟨_, X, G⟩ := T.ns; He.glo_ok X G (T.fact 10 (f := .glo "row_of") rfl)
theorem Tx.g_state_of (T : Tx K mg) : mg "state_of" = some (.ref (He.ga K "state_of")) := let ⟨_, X, G⟩ := T.ns; He.glo_ok X G (T.fact 11 (f := .glo "state_of") rfl)
theorem Tx.g_first_of (T : Tx K mg) : mg "first_of" = some (.ref (He.ga K "first_of")) := let ⟨_, X, G⟩ := T.ns; He.glo_ok X G (T.fact 12 (f := .glo "first_of") rfl)
theorem Tx.g_next_worths (T : Tx K mg) : mg "next_worths" = some (.ref (He.ga K "next_worths")) := let ⟨_, X, G⟩ := T.ns; He.glo_ok X G (T.fact 13 (f := .glo "next_worths") rfl)
theorem Tx.g_stepped (T : Tx K mg) : mg "stepped" = some (.ref (He.ga K "stepped")) := let ⟨_, X, G⟩ := T.ns; He.glo_ok X G (T.fact 14 (f := .glo "stepped") rfl)
theorem Tx.g_least_total (T : Tx K mg) : mg "least_total" = some (.ref (He.ga K "least_total")) := let ⟨_, X, G⟩ := T.ns; He.glo_ok X G (T.fact 15 (f := .glo "least_total") rfl)
theorem Tx.g_step_of (T : Tx K mg) : mg "step_of" = some (.ref (He.ga K "step_of")) := let ⟨_, X, G⟩ := T.ns; He.glo_ok X G (T.fact 16 (f := .glo "step_of") rfl)
theorem Tx.g_word_of (T : Tx K mg) : mg "word_of" = some (.ref (He.ga K "word_of")) := let ⟨_, X, G⟩ := T.ns; He.glo_ok X G (T.fact 17 (f := .glo "word_of") rfl)
theorem Tx.g_need_most (T : Tx K mg) : mg "need_most" = some (.ref (He.ga K "need_most")) := let ⟨_, X, G⟩ := T.ns; He.glo_ok X G (T.fact 18 (f := .glo "need_most") rfl)
theorem Tx.g_known_letters (T : Tx K mg) : mg "known_letters" = some (.ref (He.ga K "known_letters")) := let ⟨_, X, G⟩ := T.ns; He.glo_ok X G (T.fact 19 (f := .glo "known_letters") rfl)
theorem Tx.g_tried_letters (T : Tx K mg) : mg "tried_letters" = some (.ref (He.ga K "tried_letters")) := let ⟨_, X, G⟩ := T.ns; He.glo_ok X G (T.fact 20 (f := .glo "tried_letters") rfl)
theorem Tx.g_signs (T : Tx K mg) : mg "signs" = some (.ref (He.ga K "signs")) := let ⟨_, X, G⟩ := T.ns; He.glo_ok X G (T.fact 21 (f := .glo "signs") rfl)
theorem Tx.g_first_state (T : Tx K mg) : mg "first_state" = some (.ref (He.ga K "first_state")) := let ⟨_, X, G⟩ := T.ns; He.glo_ok X G (T.fact 22 (f := .glo "first_state") rfl)
theorem Tx.g_step_on (T : Tx K mg) : mg "step_on" = some (.ref (He.ga K "step_on")) := let ⟨_, X, G⟩ := T.ns; He.glo_ok X G (T.fact 23 (f := .glo "step_on") rfl)
theorem Tx.g_answer_at (T : Tx K mg) : mg "answer_at" = some (.ref (He.ga K "answer_at")) := let ⟨_, X, G⟩ := T.ns; He.glo_ok X G (T.fact 24 (f := .glo "answer_at") rfl)
theorem Tx.g_walks (T : Tx K mg) : mg "walks" = some (.ref (He.ga K "walks")) := let ⟨_, X, G⟩ := T.ns; He.glo_ok X G (T.fact 25 (f := .glo "walks") rfl)
theorem Tx.g_states (T : Tx K mg) : mg "states" = some (.ref (He.ga K "states")) := let ⟨_, X, G⟩ := T.ns; He.glo_ok X G (T.fact 26 (f := .glo "states") rfl)
theorem Tx.g_is_own (T : Tx K mg) : mg "is_own" = some (.ref (He.ga K "is_own")) := let ⟨_, X, G⟩ := T.ns; He.glo_ok X G (T.fact 27 (f := .glo "is_own") rfl)
theorem Tx.g_is_entry (T : Tx K mg) : mg "is_entry" = some (.ref (He.ga K "is_entry")) := let ⟨_, X, G⟩ := T.ns; He.glo_ok X G (T.fact 28 (f := .glo "is_entry") rfl)
theorem Tx.g_need_entries (T : Tx K mg) : mg "need_entries" = some (.ref (He.ga K "need_entries")) := let ⟨_, X, G⟩ := T.ns; He.glo_ok X G (T.fact 29 (f := .glo "need_entries") rfl)
theorem Tx.g_place_of (T : Tx K mg) : mg "place_of" = some (.ref (He.ga K "place_of")) := let ⟨_, X, G⟩ := T.ns; He.glo_ok X G (T.fact 30 (f := .glo "place_of") rfl)
theorem Tx.g_ranking_of (T : Tx K mg) : mg "ranking_of" = some (.ref (He.ga K "ranking_of")) := let ⟨_, X, G⟩ := T.ns; He.glo_ok X G (T.fact 31 (f := .glo "ranking_of") rfl)
theorem Tx.g_need_price (T : Tx K mg) : mg "need_price" = some (.ref (He.ga K "need_price")) := let ⟨_, X, G⟩ := T.ns; He.glo_ok X G (T.fact 32 (f := .glo "need_price") rfl)
theorem Tx.g_strength (T : Tx K mg) : mg "strength" = some (.ref (He.ga K "strength")) := let ⟨_, X, G⟩ := T.ns; He.glo_ok X G (T.fact 33 (f := .glo "strength") rfl)
theorem Tx.g_beats (T : Tx K mg) : mg "beats" = some (.ref (He.ga K "beats")) := let ⟨_, X, G⟩ := T.ns; He.glo_ok X G (T.fact 34 (f := .glo "beats") rfl)
theorem Tx.g_rivals (T : Tx K mg) : mg "rivals" = some (.ref (He.ga K "rivals")) := let ⟨_, X, G⟩ := T.ns; He.glo_ok X G (T.fact 35 (f := .glo "rivals") rfl)
theorem Tx.g_law_begin (T : Tx K mg) : mg "_law_begin" = some (.ref (He.ga K "_law_begin")) := let ⟨_, X, G⟩ := T.ns; He.glo_ok X G (T.fact 36 (f := .glo "_law_begin") rfl)
theorem Tx.g_law_take (T : Tx K mg) : mg "_law_take" = some (.ref (He.ga K "_law_take")) := let ⟨_, X, G⟩ := T.ns; He.glo_ok X G (T.fact 37 (f := .glo "_law_take") rfl)
theorem Tx.g_law_pick (T : Tx K mg) : mg "_law_pick" = some (.ref (He.ga K "_law_pick")) := let ⟨_, X, G⟩ := T.ns; He.glo_ok X G (T.fact 38 (f := .glo "_law_pick") rfl)
theorem Tx.g_law_letters (T : Tx K mg) : mg "_law_letters" = some (.ref (He.ga K "_law_letters")) := let ⟨_, X, G⟩ := T.ns; He.glo_ok X G (T.fact 39 (f := .glo "_law_letters") rfl)
theorem Tx.g_law_string (T : Tx K mg) : mg "_law_string" = some (.ref (He.ga K "_law_string")) := let ⟨_, X, G⟩ := T.ns; He.glo_ok X G (T.fact 40 (f := .glo "_law_string") rfl)
theorem Tx.g_law_prices (T : Tx K mg) : mg "_law_prices" = some (.ref (He.ga K "_law_prices")) := let ⟨_, X, G⟩ := T.ns; He.glo_ok X G (T.fact 41 (f := .glo "_law_prices") rfl)
theorem Tx.g_law_case (T : Tx K mg) : mg "_law_case" = some (.ref (He.ga K "_law_case")) := let ⟨_, X, G⟩ := T.ns; He.glo_ok X G (T.fact 42 (f := .glo "_law_case") rfl)
theorem Tx.g_law_slips (T : Tx K mg) : mg "_law_slips" = some (.ref (He.ga K "_law_slips")) := let ⟨_, X, G⟩ := T.ns; He.glo_ok X G (T.fact 43 (f := .glo "_law_slips") rfl)
theorem Tx.g_law_speller (T : Tx K mg) : mg "_law_speller" = some (.ref (He.ga K "_law_speller")) := let ⟨_, X, G⟩ := T.ns; He.glo_ok X G (T.fact 44 (f := .glo "_law_speller") rfl)
theorem Tx.g_law_is_great (T : Tx K mg) : mg "_law_is_great" = some (.ref (He.ga K "_law_is_great")) := let ⟨_, X, G⟩ := T.ns; He.glo_ok X G (T.fact 45 (f := .glo "_law_is_great") rfl)
theorem Tx.g_law_is_understood (T : Tx K mg) : mg "_law_is_understood" = some (.ref (He.ga K "_law_is_understood")) := let ⟨_, X, G⟩ := T.ns; He.glo_ok X G (T.fact 46 (f := .glo "_law_is_understood") rfl)
theorem Tx.g_law (T : Tx K mg) : mg "law" = some (.ref (He.ga K "law")) := let ⟨_, X, G⟩ := T.ns; He.glo_ok X G (T.fact 47 (f := .glo "law") rfl)
theorem Tx.g_Slips (T : Tx K mg) : mg "Slips" = some (.ref (He.ga K "Slips")) := let ⟨_, X, G⟩ := T.ns; He.glo_ok X G (T.fact 48 (f := .glo "Slips") rfl)
theorem Tx.g_Speller (T : Tx K mg) : mg "Speller" = some (.ref (He.ga K "Speller")) := let ⟨_, X, G⟩ := T.ns; He.glo_ok X G (T.fact 49 (f := .glo "Speller") rfl)
theorem Tx.g_Machine (T : Tx K mg) : mg "Machine" = some (.ref (He.ga K "Machine")) := let ⟨_, X, G⟩ := T.ns; He.glo_ok X G (T.fact 50 (f := .glo "Machine") rfl)
theorem Tx.g_Listener (T : Tx K mg) : mg "Listener" = some (.ref (He.ga K "Listener")) := let ⟨_, X, G⟩ := T.ns; He.glo_ok X G (T.fact 51 (f := .glo "Listener") rfl)
theorem Tx.g_TooMany (T : Tx K mg) : mg "TooMany" = some (.ref (He.ga K "TooMany")) := let ⟨_, X, G⟩ := T.ns; He.glo_ok X G (T.fact 52 (f := .glo "TooMany") rfl)
theorem Tx.f_isinstance (T : Tx K mg) : mg "isinstance" = none := let ⟨_, X, G⟩ := T.ns; He.free_ok X G (T.fact 53 (f := .free "isinstance") rfl)
theorem Tx.f_all (T : Tx K mg) : mg "all" = none := let ⟨_, X, G⟩ := T.ns; He.free_ok X G (T.fact 54 (f := .free "all") rfl)
theorem Tx.f_len (T : Tx K mg) : mg "len" = none := let ⟨_, X, G⟩ := T.ns; He.free_ok X G (T.fact 55 (f := .free "len") rfl)
theorem Tx.f_min (T : Tx K mg) : mg "min" = none := let ⟨_, X, G⟩ := T.ns; He.free_ok X G (T.fact 56 (f := .free "min") rfl)
theorem Tx.f_sorted (T : Tx K mg) : mg "sorted" = none := let ⟨_, X, G⟩ := T.ns; He.free_ok X G (T.fact 57 (f := .free "sorted") rfl)
theorem Tx.f_set (T : Tx K mg) : mg "set" = none := let ⟨_, X, G⟩ := T.ns; He.free_ok X G (T.fact 58 (f := .free "set") rfl)
theorem Tx.f_enumerate (T : Tx K mg) : mg "enumerate" = none := let ⟨_, X, G⟩ := T.ns; He.free_ok X G (T.fact 59 (f := .free "enumerate") rfl)
theorem Tx.f_tuple (T : Tx K mg) : mg "tuple" = none := let ⟨_, X, G⟩ := T.ns; He.free_ok X G (T.fact 60 (f := .free "tuple") rfl)
theorem Tx.f_list (T : Tx K mg) : mg "list" = none := let ⟨_, X, G⟩ := T.ns; He.free_ok X G (T.fact 61 (f := .free "list") rfl)
theorem Tx.f_range (T : Tx K mg) : mg "range" = none := let ⟨_, X, G⟩ := T.ns; He.free_ok X G (T.fact 62 (f := .free "range") rfl)
theorem Tx.f_divmod (T : Tx K mg) : mg "divmod" = none := let ⟨_, X, G⟩ := T.ns; He.free_ok X G (T.fact 63 (f := .free "divmod") rfl)
theorem Tx.f_abs (T : Tx K mg) : mg "abs" = none := let ⟨_, X, G⟩ := T.ns; He.free_ok X G (T.fact 64 (f := .free "abs") rfl)
theorem Tx.f_int (T : Tx K mg) : mg "int" = none := let ⟨_, X, G⟩ := T.ns; He.free_ok X G (T.fact 65 (f := .free "int") rfl)
theorem Tx.f_str (T : Tx K mg) : mg "str" = none := let ⟨_, X, G⟩ := T.ns; He.free_ok X G (T.fact 66 (f := .free "str") rfl)
theorem Tx.f_bool (T : Tx K mg) : mg "bool" = none := let ⟨_, X, G⟩ := T.ns; He.free_ok X G (T.fact 67 (f := .free "bool") rfl)
theorem Tx.i_LONGEST (T : Tx K mg) : ∃ t, mg "LONGEST" = some (.int 5 t) := let ⟨_, X, G⟩ := T.ns; He.int_ok X G (T.fact 68 (f := .int "LONGEST" 5) rfl)
theorem Tx.i_DEAREST (T : Tx K mg) : ∃ t, mg "DEAREST" = some (.int 9 t) := let ⟨_, X, G⟩ := T.ns; He.int_ok X G (T.fact 69 (f := .int "DEAREST" 9) rfl)
theorem Tx.i_MOST_ROWS (T : Tx K mg) : ∃ t, mg "MOST_ROWS" = some (.int 20000 t) := let ⟨_, X, G⟩ := T.ns; He.int_ok X G (T.fact 70 (f := .int "MOST_ROWS" 20000) rfl)
theorem Tx.i_MOST_WORDS (T : Tx K mg) : ∃ t, mg "MOST_WORDS" = some (.int 4 t) := let ⟨_, X, G⟩ := T.ns; He.int_ok X G (T.fact 71 (f := .int "MOST_WORDS" 4) rfl)
theorem Tx.i_DEAREST_OWN (T : Tx K mg) : ∃ t, mg "DEAREST_OWN" = some (.int 999 t) := let ⟨_, X, G⟩ := T.ns; He.int_ok X G (T.fact 72 (f := .int "DEAREST_OWN" 999) rfl)
theorem Tx.i_DEAREST_SLIPS (T : Tx K mg) : ∃ t, mg "DEAREST_SLIPS" = some (.int 9999 t) := let ⟨_, X, G⟩ := T.ns; He.int_ok X G (T.fact 73 (f := .int "DEAREST_SLIPS" 9999) rfl)
theorem Tx.s_LETTERS (T : Tx K mg) : ∃ t, mg "LETTERS" = some (.str "abcdefghijklmnopqrstuvwxyz" t) := let ⟨_, X, G⟩ := T.ns; He.str_ok X G (T.fact 74 (f := .str "LETTERS" "abcdefghijklmnopqrstuvwxyz") rfl)
theorem Tx.c_Speller (T : Tx K mg) : Cls K (He.ga K "Speller") := He.cls_ok (T.fact 75 (f := .cls "Speller") rfl)
theorem Tx.c_Slips (T : Tx K mg) : Cls K (He.ga K "Slips") := He.cls_ok (T.fact 76 (f := .cls "Slips") rfl)
theorem Tx.mk_Speller (T : Tx K mg) : Mk K (He.ga K "Speller") (He.ma K (He.ga K "Speller") "__init__") := He.mkr_ok (T.fact 77 (f := .mkr "Speller") rfl)
theorem Tx.mk_Slips (T : Tx K mg) : Mk K (He.ga K "Slips") (He.ma K (He.ga K "Slips") "__init__") := He.mkr_ok (T.fact 78 (f := .mkr "Slips") rfl)
theorem Tx.n_e_entries (T : Tx K mg) : NoAttr K (He.ga K "Speller") "e_entries" := He.noat_ok (T.fact 79 (f := .noat "Speller" "e_entries") rfl)
theorem Tx.n_e_slips (T : Tx K mg) : NoAttr K (He.ga K "Speller") "e_slips" := He.noat_ok (T.fact 80 (f := .noat "Speller" "e_slips") rfl)
theorem Tx.n_z_extra (T : Tx K mg) : NoAttr K (He.ga K "Slips") "z_extra" := He.noat_ok (T.fact 81 (f := .noat "Slips" "z_extra") rfl)
theorem Tx.n_z_missing (T : Tx K mg) : NoAttr K (He.ga K "Slips") "z_missing" := He.noat_ok (T.fact 82 (f := .noat "Slips" "z_missing") rfl)
theorem Tx.n_z_wrong (T : Tx K mg) : NoAttr K (He.ga K "Slips") "z_wrong" := He.noat_ok (T.fact 83 (f := .noat "Slips" "z_wrong") rfl)
theorem Tx.n_z_swapped (T : Tx K mg) : NoAttr K (He.ga K "Slips") "z_swapped" := He.noat_ok (T.fact 84 (f := .noat "Slips" "z_swapped") rfl)
theorem Tx.m_sub (T : Tx K mg) : Meth K (He.ga K "Speller") "__sub__" (He.ma K (He.ga K "Speller") "__sub__") := He.meth_ok (T.fact 85 (f := .meth "Speller" "__sub__") rfl)
theorem Tx.m_contains (T : Tx K mg) : Meth K (He.ga K "Speller") "__contains__" (He.ma K (He.ga K "Speller") "__contains__") := He.meth_ok (T.fact 86 (f := .meth "Speller" "__contains__") rfl)
theorem Tx.m_ranking (T : Tx K mg) : Meth K (He.ga K "Speller") "ranking" (He.ma K (He.ga K "Speller") "ranking") := He.meth_ok (T.fact 87 (f := .meth "Speller" "ranking") rfl)
theorem Tx.d_is_integer (T : Tx K mg) : ∃ fd, FunD K "is_integer" "is_integer" (defArgs s_is_integer) (defBody s_is_integer) (defScope s_is_integer) [] [] (He.ga K "is_integer") fd := T.says.def_ 0 rfl rfl
theorem Tx.d_is_text (T : Tx K mg) : ∃ fd, FunD K "is_text" "is_text" (defArgs s_is_text) (defBody s_is_text) (defScope s_is_text) [] [] (He.ga K "is_text") fd := T.says.def_ 1 rfl rfl
theorem Tx.d_is_word (T : Tx K mg) : ∃ fd, FunD K "is_word" "is_word" (defArgs s_is_word) (defBody s_is_word) (defScope s_is_word) [] [] (He.ga K "is_word") fd := T.says.def_ 2 rfl rfl
theorem Tx.d_is_price (T : Tx K mg) : ∃ fd, FunD K "is_price" "is_price" (defArgs s_is_price) (defBody s_is_price) (defScope s_is_price) [] [] (He.ga K "is_price") fd := T.says.def_ 3 rfl rfl
theorem Tx.d_need_text (T : Tx K mg) : ∃ fd, FunD K "need_text" "need_text" (defArgs s_need_text) (defBody s_need_text) (defScope s_need_text) [] [] (He.ga K "need_text") fd := T.says.def_ 4 rfl rfl
theorem Tx.d_last_steps (T : Tx K mg) : ∃ fd, FunD K "last_steps" "last_steps" (defArgs s_last_steps) (defBody s_last_steps) (defScope s_last_steps) [] [] (He.ga K "last_steps") fd := T.says.def_ 5 rfl rfl
theorem Tx.d_step_price (T : Tx K mg) : ∃ fd, FunD K "step_price" "step_price" (defArgs s_step_price) (defBody s_step_price) (defScope s_step_price) [] [] (He.ga K "step_price") fd := T.says.def_ 6 rfl rfl
theorem Tx.d_price_lines (T : Tx K mg) : ∃ fd, FunD K "price_lines" "price_lines" (defArgs s_price_lines) (defBody s_price_lines) (defScope s_price_lines) [] [] (He.ga K "price_lines") fd := T.says.def_ 7 rfl rfl
theorem Tx.d_price (T : Tx K mg) : ∃ fd, FunD K "price" "price" (defArgs s_price) (defBody s_price) (defScope s_price) [] [] (He.ga K "price") fd := T.says.def_ 8 rfl rfl
theorem Tx.d_letters_of (T : Tx K mg) : ∃ fd, FunD K "letters_of" "letters_of" (defArgs s_letters_of) (defBody s_letters_of) (defScope s_letters_of) [] [] (He.ga K "letters_of") fd := T.says.def_ 9 rfl rfl
theorem Tx.d_row_of (T : Tx K mg) : ∃ fd, FunD K "row_of" "row_of" (defArgs s_row_of) (defBody s_row_of) (defScope s_row_of) [] [] (He.ga K "row_of") fd := T.says.def_ 10 rfl rfl
theorem Tx.d_state_of (T : Tx K mg) : ∃ fd, FunD K "state_of" "state_of" (defArgs s_state_of) (defBody s_state_of) (defScope s_state_of) [] [] (He.ga K "state_of") fd := T.says.def_ 11 rfl rfl
theorem Tx.d_first_of (T : Tx K mg) : ∃ fd, FunD K "first_of" "first_of" (defArgs s_first_of) (defBody s_first_of) (defScope s_first_of) [] [] (He.ga K "first_of") fd := T.says.def_ 12 rfl rfl
theorem Tx.d_next_worths (T : Tx K mg) : ∃ fd, FunD K "next_worths" "next_worths" (defArgs s_next_worths) (defBody s_next_worths) (defScope s_next_worths) [] [] (He.ga K "next_worths") fd := T.says.def_ 13 rfl rfl
theorem Tx.d_stepped (T : Tx K mg) : ∃ fd, FunD K "stepped" "stepped" (defArgs s_stepped) (defBody s_stepped) (defScope s_stepped) [] [] (He.ga K "stepped") fd := T.says.def_ 14 rfl rfl
theorem Tx.d_least_total (T : Tx K mg) : ∃ fd, FunD K "least_total" "least_total" (defArgs s_least_total) (defBody s_least_total) (defScope s_least_total) [] [] (He.ga K "least_total") fd := T.says.def_ 15 rfl rfl
theorem Tx.d_step_of (T : Tx K mg) : ∃ fd, FunD K "step_of" "step_of" (defArgs s_step_of) (defBody s_step_of) (defScope s_step_of) [] [] (He.ga K "step_of") fd := T.says.def_ 16 rfl rfl
theorem Tx.d_word_of (T : Tx K mg) : ∃ fd, FunD K "word_of" "word_of" (defArgs s_word_of) (defBody s_word_of) (defScope s_word_of) [] [] (He.ga K "word_of") fd := T.says.def_ 17 rfl rfl
theorem Tx.d_need_most (T : Tx K mg) : ∃ fd, FunD K "need_most" "need_most" (defArgs s_need_most) (defBody s_need_most) (defScope s_need_most) [] [] (He.ga K "need_most") fd := T.says.def_ 18 rfl rfl
theorem Tx.d_known_letters (T : Tx K mg) : ∃ fd, FunD K "known_letters" "known_letters" (defArgs s_known_letters) (defBody s_known_letters) (defScope s_known_letters) [] [] (He.ga K "known_letters") fd := T.says.def_ 19 rfl rfl
theorem Tx.d_tried_letters (T : Tx K mg) : ∃ fd, FunD K "tried_letters" "tried_letters" (defArgs s_tried_letters) (defBody s_tried_letters) (defScope s_tried_letters) [] [] (He.ga K "tried_letters") fd := T.says.def_ 20 rfl rfl
theorem Tx.d_signs (T : Tx K mg) : ∃ fd, FunD K "signs" "signs" (defArgs s_signs) (defBody s_signs) (defScope s_signs) [] [] (He.ga K "signs") fd := T.says.def_ 21 rfl rfl
theorem Tx.d_first_state (T : Tx K mg) : ∃ fd, FunD K "first_state" "first_state" (defArgs s_first_state) (defBody s_first_state) (defScope s_first_state) [] [] (He.ga K "first_state") fd := T.says.def_ 22 rfl rfl
theorem Tx.d_step_on (T : Tx K mg) : ∃ fd, FunD K "step_on" "step_on" (defArgs s_step_on) (defBody s_step_on) (defScope s_step_on) [] [] (He.ga K "step_on") fd := T.says.def_ 23 rfl rfl
theorem Tx.d_answer_at (T : Tx K mg) : ∃ fd, FunD K "answer_at" "answer_at" (defArgs s_answer_at) (defBody s_answer_at) (defScope s_answer_at) [] [] (He.ga K "answer_at") fd := T.says.def_ 24 rfl rfl
theorem Tx.d_walks (T : Tx K mg) : ∃ fd, FunD K "walks" "walks" (defArgs s_walks) (defBody s_walks) (defScope s_walks) [] [] (He.ga K "walks") fd := T.says.def_ 25 rfl rfl
theorem Tx.d_states (T : Tx K mg) : ∃ fd, FunD K "states" "states" (defArgs s_states) (defBody s_states) (defScope s_states) [] [("most", V.int 2000)] (He.ga K "states") fd := T.says.def_ 26 rfl rfl
theorem Tx.d_is_own (T : Tx K mg) : ∃ fd, FunD K "is_own" "is_own" (defArgs s_is_own) (defBody s_is_own) (defScope s_is_own) [] [] (He.ga K "is_own") fd := T.says.def_ 27 rfl rfl
theorem Tx.d_is_entry (T : Tx K mg) : ∃ fd, FunD K "is_entry" "is_entry" (defArgs s_is_entry) (defBody s_is_entry) (defScope s_is_entry) [] [] (He.ga K "is_entry") fd := T.says.def_ 28 rfl rfl
theorem Tx.d_need_entries (T : Tx K mg) : ∃ fd, FunD K "need_entries" "need_entries" (defArgs s_need_entries) (defBody s_need_entries) (defScope s_need_entries) [] [] (He.ga K "need_entries") fd := T.says.def_ 29 rfl rfl
theorem Tx.d_place_of (T : Tx K mg) : ∃ fd, FunD K "place_of" "place_of" (defArgs s_place_of) (defBody s_place_of) (defScope s_place_of) [] [] (He.ga K "place_of") fd := T.says.def_ 30 rfl rfl
theorem Tx.d_ranking_of (T : Tx K mg) : ∃ fd, FunD K "ranking_of" "ranking_of" (defArgs s_ranking_of) (defBody s_ranking_of) (defScope s_ranking_of) [] [] (He.ga K "ranking_of") fd := T.says.def_ 31 rfl rfl
theorem Tx.d_need_price (T : Tx K mg) : ∃ fd, FunD K "need_price" "need_price" (defArgs s_need_price) (defBody s_need_price) (defScope s_need_price) [] [] (He.ga K "need_price") fd := T.says.def_ 32 rfl rfl
theorem Tx.d_strength (T : Tx K mg) : ∃ fd, FunD K "strength" "strength" (defArgs s_strength) (defBody s_strength) (defScope s_strength) [] [("most", V.int 2000)] (He.ga K "strength") fd := T.says.def_ 33 rfl rfl
theorem Tx.d_beats (T : Tx K mg) : ∃ fd, FunD K "beats" "beats" (defArgs s_beats) (defBody s_beats) (defScope s_beats) [] [] (He.ga K "beats") fd := T.says.def_ 34 rfl rfl
theorem Tx.d_rivals (T : Tx K mg) : ∃ fd, FunD K "rivals" "rivals" (defArgs s_rivals) (defBody s_rivals) (defScope s_rivals) [] [("most", V.int 2000)] (He.ga K "rivals") fd := T.says.def_ 35 rfl rfl
theorem Tx.d_law_begin (T : Tx K mg) : ∃ fd, FunD K "_law_begin" "_law_begin" (defArgs s_law_begin) (defBody s_law_begin) (defScope s_law_begin) [] [] (He.ga K "_law_begin") fd := T.says.def_ 36 rfl rfl
theorem Tx.d_law_take (T : Tx K mg) : ∃ fd, FunD K "_law_take" "_law_take" (defArgs s_law_take) (defBody s_law_take) (defScope s_law_take) [] [] (He.ga K "_law_take") fd := T.says.def_ 37 rfl rfl
theorem Tx.d_law_pick (T : Tx K mg) : ∃ fd, FunD K "_law_pick" "_law_pick" (defArgs s_law_pick) (defBody s_law_pick) (defScope s_law_pick) [] [] (He.ga K "_law_pick") fd := T.says.def_ 38 rfl rfl
theorem Tx.d_law_letters (T : Tx K mg) : ∃ fd, FunD K "_law_letters" "_law_letters" (defArgs s_law_letters) (defBody s_law_letters) (defScope s_law_letters) [] [] (He.ga K "_law_letters") fd := T.says.def_ 39 rfl rfl
theorem Tx.d_law_string (T : Tx K mg) : ∃ fd, FunD K "_law_string" "_law_string" (defArgs s_law_string) (defBody s_law_string) (defScope s_law_string) [] [] (He.ga K "_law_string") fd := T.says.def_ 40 rfl rfl
theorem Tx.d_law_prices (T : Tx K mg) : ∃ fd, FunD K "_law_prices" "_law_prices" (defArgs s_law_prices) (defBody s_law_prices) (defScope s_law_prices) [] [] (He.ga K "_law_prices") fd := T.says.def_ 41 rfl rfl
theorem Tx.d_law_case (T : Tx K mg) : ∃ fd, FunD K "_law_case" "_law_case" (defArgs s_law_case) (defBody s_law_case) (defScope s_law_case) [] [] (He.ga K "_law_case") fd := T.says.def_ 42 rfl rfl
theorem Tx.d_law_slips (T : Tx K mg) : ∃ fd, FunD K "_law_slips" "_law_slips" (defArgs s_law_slips) (defBody s_law_slips) (defScope s_law_slips) [] [] (He.ga K "_law_slips") fd := T.says.def_ 43 rfl rfl
theorem Tx.d_law_speller (T : Tx K mg) : ∃ fd, FunD K "_law_speller" "_law_speller" (defArgs s_law_speller) (defBody s_law_speller) (defScope s_law_speller) [] [] (He.ga K "_law_speller") fd := T.says.def_ 44 rfl rfl
theorem Tx.d_law_is_great (T : Tx K mg) : ∃ fd, FunD K "_law_is_great" "_law_is_great" (defArgs s_law_is_great) (defBody s_law_is_great) (defScope s_law_is_great) [] [] (He.ga K "_law_is_great") fd := T.says.def_ 45 rfl rfl
theorem Tx.d_law_is_understood (T : Tx K mg) : ∃ fd, FunD K "_law_is_understood" "_law_is_understood" (defArgs s_law_is_understood) (defBody s_law_is_understood) (defScope s_law_is_understood) [] [] (He.ga K "_law_is_understood") fd := T.says.def_ 46 rfl rfl
theorem Tx.d_law (T : Tx K mg) : ∃ fd, FunD K "law" "law" (defArgs s_law) (defBody s_law) (defScope s_law) [] [] (He.ga K "law") fd := T.says.def_ 47 rfl rfl
theorem Tx.d_Slips_init (T : Tx K mg) : ∃ fd, FunD K "__init__" "Slips.__init__" (defArgs s_Slips_init) (defBody s_Slips_init) (defScope s_Slips_init) [] [("extra", V.int 1), ("missing", V.int 1), ("wrong", V.int 1), ("swapped", V.non)] (He.ma K (He.ga K "Slips") "__init__") fd := T.says.def_ 48 rfl rfl
theorem Tx.d_Speller_init (T : Tx K mg) : ∃ fd, FunD K "__init__" "Speller.__init__" (defArgs s_Speller_init) (defBody s_Speller_init) (defScope s_Speller_init) [V.non] [] (He.ma K (He.ga K "Speller") "__init__") fd := T.says.def_ 49 rfl rfl
theorem Tx.d_Speller_contains (T : Tx K mg) : ∃ fd, FunD K "__contains__" "Speller.__contains__" (defArgs s_Speller_contains) (defBody s_Speller_contains) (defScope s_Speller_contains) [] [] (He.ma K (He.ga K "Speller") "__contains__") fd := T.says.def_ 50 rfl rfl
theorem Tx.d_Speller_sub (T : Tx K mg) : ∃ fd, FunD K "__sub__" "Speller.__sub__" (defArgs s_Speller_sub) (defBody s_Speller_sub) (defScope s_Speller_sub) [] [] (He.ma K (He.ga K "Speller") "__sub__") fd := T.says.def_ 51 rfl rfl
theorem Tx.d_Speller_ranking (T : Tx K mg) : ∃ fd, FunD K "ranking" "Speller.ranking" (defArgs s_Speller_ranking) (defBody s_Speller_ranking) (defScope s_Speller_ranking) [] [] (He.ma K (He.ga K "Speller") "ranking") fd := T.says.def_ 52 rfl rfl
theorem Tx.d_Slips_extra (T : Tx K mg) : ∃ fd, FunD K "extra" "Slips.extra" (defArgs s_Slips_extra) (defBody s_Slips_extra) (defScope s_Slips_extra) [] [] (gtA K "Slips" "extra") fd := T.says.def_ 53 rfl rfl
theorem Tx.d_Slips_missing (T : Tx K mg) : ∃ fd, FunD K "missing" "Slips.missing" (defArgs s_Slips_missing) (defBody s_Slips_missing) (defScope s_Slips_missing) [] [] (gtA K "Slips" "missing") fd := T.says.def_ 54 rfl rfl
theorem Tx.d_Slips_wrong (T : Tx K mg) : ∃ fd, FunD K "wrong" "Slips.wrong" (defArgs s_Slips_wrong) (defBody s_Slips_wrong) (defScope s_Slips_wrong) [] [] (gtA K "Slips" "wrong") fd := T.says.def_ 55 rfl rfl
theorem Tx.d_Slips_swapped (T : Tx K mg) : ∃ fd, FunD K "swapped" "Slips.swapped" (defArgs s_Slips_swapped) (defBody s_Slips_swapped) (defScope s_Slips_swapped) [] [] (gtA K "Slips" "swapped") fd := T.says.def_ 56 rfl rfl
theorem Tx.d_Speller_entries (T : Tx K mg) : ∃ fd, FunD K "entries" "Speller.entries" (defArgs s_Speller_entries) (defBody s_Speller_entries) (defScope s_Speller_entries) [] [] (gtA K "Speller" "entries") fd := T.says.def_ 57 rfl rfl
theorem Tx.d_Speller_slips (T : Tx K mg) : ∃ fd, FunD K "slips" "Speller.slips" (defArgs s_Speller_slips) (defBody s_Speller_slips) (defScope s_Speller_slips) [] [] (gtA K "Speller" "slips") fd := T.says.def_ 58 rfl rfl
theorem Tx.d_TooMany (T : Tx K mg) : fnM K (initA K "TooMany") = DefM.val ⟨fun K => initA K "TooMany", "__init__", "TooMany.__init__", defArgs s_TooMany_init, defBody s_TooMany_init, defScope s_TooMany_init, [], [], [("__class__", 0)]⟩ ∧ DefM.ok K ⟨fun K => initA K "TooMany", "__init__", "TooMany.__init__", defArgs s_TooMany_init, defBody s_TooMany_init, defScope s_TooMany_init, [], [], [("__class__", 0)]⟩ = true := T.says.raw 59 rfl
theorem Tx.x0 (T : Tx K mg) : propB K "Slips" "extra" = true := (He.ba T.says.more).1
theorem Tx.x1 (T : Tx K mg) : propB K "Slips" "missing" = true := (He.ba (He.ba T.says.more).2).1
theorem Tx.x2 (T : Tx K mg) : propB K "Slips" "wrong" = true := (He.ba (He.ba (He.ba T.says.more).2).2).1
theorem Tx.x3 (T : Tx K mg) : propB K "Slips" "swapped" = true := (He.ba (He.ba (He.ba (He.ba T.says.more).2).2).2).1
theorem Tx.x4 (T : Tx K mg) : propB K "Speller" "entries" = true := (He.ba (He.ba (He.ba (He.ba (He.ba T.says.more).2).2).2).2).1
theorem Tx.x5 (T : Tx K mg) : propB K "Speller" "slips" = true := (He.ba (He.ba (He.ba (He.ba (He.ba (He.ba T.says.more).2).2).2).2).2).1
theorem Tx.x6 (T : Tx K mg) : insB K "Speller" = true := (He.ba (He.ba (He.ba (He.ba (He.ba (He.ba (He.ba T.says.more).2).2).2).2).2).2).1
theorem Tx.x7 (T : Tx K mg) : kitB K "Speller" "Machine" = true := (He.ba (He.ba (He.ba (He.ba (He.ba (He.ba (He.ba (He.ba T.says.more).2).2).2).2).2).2).2).1
theorem Tx.x8 (T : Tx K mg) : kitB K "Speller" "Listener" = true := (He.ba (He.ba (He.ba (He.ba (He.ba (He.ba (He.ba (He.ba (He.ba T.says.more).2).2).2).2).2).2).2).2).1
theorem Tx.x9 (T : Tx K mg) : tmB K = true := (He.ba (He.ba (He.ba (He.ba (He.ba (He.ba (He.ba (He.ba (He.ba (He.ba T.says.more).2).2).2).2).2).2).2).2).2).1
theorem Tx.x10 (T : Tx K mg) : subB K "Speller" = true := (He.ba (He.ba (He.ba (He.ba (He.ba (He.ba (He.ba (He.ba (He.ba (He.ba (He.ba T.says.more).2).2).2).2).2).2).2).2).2).2).1
theorem Tx.x11 (T : Tx K mg) : conB K "Speller" = true := (He.ba (He.ba (He.ba (He.ba (He.ba (He.ba (He.ba (He.ba (He.ba (He.ba (He.ba (He.ba T.says.more).2).2).2).2).2).2).2).2).2).2).2).1
theorem Tx.x12 (T : Tx K mg) : tmI K = true := (He.ba (He.ba (He.ba (He.ba (He.ba (He.ba (He.ba (He.ba (He.ba (He.ba (He.ba (He.ba T.says.more).2).2).2).2).2).2).2).2).2).2).2).2
theorem Tx.p_extra (T : Tx K mg) : PropOf K (He.ga K "Slips") "extra" (He.ma K (He.ga K "Slips") "extra") (gtA K "Slips" "extra") := propB_ok T.x0
theorem Tx.p_missing (T : Tx K mg) : PropOf K (He.ga K "Slips") "missing" (He.ma K (He.ga K "Slips") "missing") (gtA K "Slips" "missing") := propB_ok T.x1
theorem Tx.p_wrong (T : Tx K mg) : PropOf K (He.ga K "Slips") "wrong" (He.ma K (He.ga K "Slips") "wrong") (gtA K "Slips" "wrong") := propB_ok T.x2
theorem Tx.p_swapped (T : Tx K mg) : PropOf K (He.ga K "Slips") "swapped" (He.ma K (He.ga K "Slips") "swapped") (gtA K "Slips" "swapped") := propB_ok T.x3
theorem Tx.p_entries (T : Tx K mg) : PropOf K (He.ga K "Speller") "entries" (He.ma K (He.ga K "Speller") "entries") (gtA K "Speller" "entries") := propB_ok T.x4
theorem Tx.p_slips (T : Tx K mg) : PropOf K (He.ga K "Speller") "slips" (He.ma K (He.ga K "Speller") "slips") (gtA K "Speller" "slips") := propB_ok T.x5
end
end MW
set_option maxHeartbeats 0
namespace MW
open PySem PySem.Spec PyProof.Rows L2
abbrev R : PySem.W.OpenRow := PySem.W.OpenLaw.row PySem.Challenge.rw_meantword_k50_whole_rivals_must_go
abbrev hk : PySem.W.Hook := hookM fa fn exB
def ob (s : PySem.W.SharedT) : Bool × List FnM := obsMG fa fn exB (HandSHeadRun.getT s)
theorem ob_eq (s : PySem.W.SharedT) : ob s = hk.obs s.abs := obsMG_eq (HandSHeadRun.getT_eq s)
theorem run (w : World) : HandSHeadRun.RunEq R (PySem.W.view R.prog [84]) hk ob 7000 nms w := by
  intro os
  kernel_rfl
end MW
namespace MW
open PySem PySem.W PySem.Calls PyProof.Rows
/-- the head, but for the walk -/
theorem headed (call : WalkO (view MW.R.prog [84]) MW.nms (XL (view MW.R.prog [84]) []) MW.hk.says MW.R.toRowW (HandSHeadRun.topDef MW.R.prog 84) [] (fun f vs => PySem.call f vs)) : PySem.Challenge.rw_meantword_k50_whole_rivals_must_go.Holds := by
  w_on; o_law
  refine HandSHeadRun.head_any (r := MW.R) (q := view MW.R.prog [84]) (H := MW.hk) (ob := MW.ob) (M := 7000) (loose := MW.nms) (d := HandSHeadRun.topDef MW.R.prog 84) (kwd := []) MW.ob_eq (by kernel_rfl) (fun s => by kernel_rfl) MW.run (by kernel_rfl) (by kernel_rfl) (by kernel_rfl) (by rfl) (by first | assumption | decide +kernel) (by decide +kernel) ⟨rfl, rfl, rfl, rfl, rfl, by decide +kernel⟩ ?hw call
  case hw => w_witness2
end MW
set_option maxHeartbeats 4000000
/-! The plain law: prices, states, small spellers, letters. -/
namespace MW
structure Slp where
  ex : Int
  mi : Int
  wr : Int
  sw : Option Int
structure Spl where
  es : List (List Nat × Int)
  sl : Slp
/-- the least of some ints -/
def lmin : List Int → Int
  | [] => 0
  | x :: r => r.foldl min x
theorem foldl_min_le (r : List Int) : ∀ (x : Int), r.foldl min x ≤ x ∧ ∀ y ∈ r, r.foldl min x ≤ y := by
  induction r with
  | nil => intro x; exact ⟨Int.le_refl _, fun y h => by cases h⟩
  | cons a r ih =>
    intro x
    obtain ⟨h1, h2⟩ := ih (min x a)
    rw [List.foldl_cons]
    refine ⟨Int.le_trans h1 (Int.min_le_left _ _), fun y hy => ?_⟩
    rcases List.mem_cons.mp hy with e | hy
    · subst e
      exact Int.le_trans h1 (Int.min_le_right _ _)
    · exact h2 y hy
theorem foldl_min_mem (r : List Int) : ∀ (x : Int), r.foldl min x = x ∨ r.foldl min x ∈ r := by
  induction r with
  | nil => intro x; exact .inl rfl
  | cons a r ih =>
    intro x
    rw [List.foldl_cons]
    rcases ih (min x a) with h | h
    · rw [h]
      by_cases c : x ≤ a
      · exact .inl (by rw [Int.min_def, if_pos c])
      · exact .inr (by rw [Int.min_def, if_neg c]; exact List.mem_cons_self)
    · exact .inr (List.mem_cons_of_mem _ h)
theorem lmin_mem {l : List Int} (h : l ≠ []) : lmin l ∈ l := by
  cases l with
  | nil => exact absurd rfl h
  | cons x r =>
    rcases foldl_min_mem r x with e | e
    · show r.foldl min x ∈ x :: r
      rw [e]
      exact List.mem_cons_self
    · exact List.mem_cons_of_mem _ e
theorem lmin_le {l : List Int} {y : Int} (h : y ∈ l) : lmin l ≤ y := by
  cases l with
  | nil => cases h
  | cons x r =>
    rcases List.mem_cons.mp h with e | e
    · subst e
      exact (foldl_min_le r y).1
    · exact (foldl_min_le r x).2 y e
theorem lmin_is {l : List Int} {m : Int} (h1 : m ∈ l) (h2 : ∀ y ∈ l, m ≤ y) : m = lmin l :=
  Int.le_antisymm (h2 _ (lmin_mem (by intro e; rw [e] at h1; cases h1))) (lmin_le h1)
theorem lmin_sub {l : List Int} (k : Int) (h : l ≠ []) : lmin (l.map fun x => x - k) = lmin l - k := by
  symm
  refine lmin_is (List.mem_map.mpr ⟨_, lmin_mem h, rfl⟩) fun y hy => ?_
  obtain ⟨x, hx, rfl⟩ := List.mem_map.mp hy
  have := lmin_le hx
  omega
/-! ### the price of the first n letters of a text for the first j letters of a word -/
def sub (s : Slp) (a b : Nat) : Int := if a = b then 0 else s.wr
/-- may the letters before n and before j be two swapped ones? -/
def swp (s : Slp) (w t : List Nat) (n j : Nat) : Option Int :=
  match s.sw with
  | none => none
  | some p => if 2 ≤ n ∧ 2 ≤ j ∧ t.getD (n - 1) 0 = w.getD (j - 2) 0 ∧ t.getD (n - 2) 0 = w.getD (j - 1) 0 ∧ t.getD (n - 1) 0 ≠ t.getD (n - 2) 0 then some p else none
def pr (s : Slp) (w t : List Nat) : Nat → Nat → Int
  | 0, 0 => 0
  | 0, j + 1 => pr s w t 0 j + s.mi
  | n + 1, 0 => pr s w t n 0 + s.ex
  | n + 1, j + 1 => lmin ([pr s w t n (j + 1) + s.ex, pr s w t (n + 1) j + s.mi, pr s w t n j + sub s (w.getD j 0) (t.getD n 0)] ++
      match swp s w t (n + 1) (j + 1) with
      | none => []
      | some p => [pr s w t (n - 1) (j - 1) + p])
termination_by n j => (n, j)
theorem pr_cong (s : Slp) (w : List Nat) {t t' : List Nat} : ∀ n j : Nat, (∀ i, i < n → t.getD i 0 = t'.getD i 0) → pr s w t n j = pr s w t' n j
  | 0, 0, _ => by rw [pr, pr]
  | 0, j + 1, h => by rw [pr, pr, pr_cong s w 0 j h]
  | n + 1, 0, h => by rw [pr, pr, pr_cong s w n 0 fun i hi => h i (Nat.lt_succ_of_lt hi)]
  | n + 1, j + 1, h => by
    have hn : ∀ i, i < n → t.getD i 0 = t'.getD i 0 := fun i hi => h i (Nat.lt_succ_of_lt hi)
    have hn1 : ∀ i, i < n - 1 → t.getD i 0 = t'.getD i 0 := fun i hi => h i (by omega)
    have es : swp s w t (n + 1) (j + 1) = swp s w t' (n + 1) (j + 1) := by
      unfold swp
      cases s.sw with
      | none => rfl
      | some p =>
        have e1 : t.getD (n + 1 - 1) 0 = t'.getD (n + 1 - 1) 0 := h _ (by omega)
        have e2 : t.getD (n + 1 - 2) 0 = t'.getD (n + 1 - 2) 0 := h _ (by omega)
        rw [e1, e2]
    rw [pr, pr, pr_cong s w n (j + 1) hn, pr_cong s w (n + 1) j h, pr_cong s w n j hn, h n (Nat.lt_succ_self n), es, pr_cong s w (n - 1) (j - 1) hn1]
termination_by n j => (n, j)
/-- the price of a text for a word -/
def price (s : Slp) (w t : List Nat) : Int := pr s w t t.length w.length
theorem getD_snoc {t : List Nat} {c : Nat} {i : Nat} (h : i < t.length) : (t ++ [c]).getD i 0 = t.getD i 0 := by
  rw [List.getD_eq_getElem?_getD, List.getD_eq_getElem?_getD, List.getElem?_append_left h]
theorem getD_last {t : List Nat} {c : Nat} : (t ++ [c]).getD t.length 0 = c := by
  rw [List.getD_eq_getElem?_getD, List.getElem?_append_right (Nat.le_refl _), Nat.sub_self]
  rfl
/-- a row's tuple of a word -/
def wrow (s : Slp) (w t : List Nat) : List Int := (List.range (w.length + 1)).map fun j => pr s w t t.length j - s.ex * (t.length : Int)
theorem wrow_len (s : Slp) (w t : List Nat) : (wrow s w t).length = w.length + 1 := by simp [wrow]
theorem wrow_at {s : Slp} {w t : List Nat} {j : Nat} (h : j ≤ w.length) : (wrow s w t)[j]? = some (pr s w t t.length j - s.ex * (t.length : Int)) := by
  unfold wrow
  rw [List.getElem?_map, List.getElem?_range (by omega)]
  rfl
/-- one more letter -/
theorem wrow_step0 (s : Slp) (w t : List Nat) (c : Nat) : pr s w (t ++ [c]) (t ++ [c]).length 0 - s.ex * ((t ++ [c]).length : Int) = pr s w t t.length 0 - s.ex * (t.length : Int) := by
  rw [List.length_append, List.length_singleton, pr, pr_cong s w (t := t ++ [c]) (t' := t) t.length 0 fun i hi => getD_snoc hi, Int.natCast_add, Int.mul_add]
  omega
theorem wrow_step (s : Slp) (w t : List Nat) (c j : Nat) : pr s w (t ++ [c]) (t ++ [c]).length (j + 1) - s.ex * ((t ++ [c]).length : Int) =
    lmin ([pr s w t t.length (j + 1) - s.ex * (t.length : Int), (pr s w (t ++ [c]) (t ++ [c]).length j - s.ex * ((t ++ [c]).length : Int)) + s.mi, pr s w t t.length j - s.ex * (t.length : Int) + (0 - s.ex) + sub s (w.getD j 0) c] ++
      match swp s w (t ++ [c]) (t.length + 1) (j + 1) with
      | none => []
      | some p => [pr s w t (t.length - 1) (j - 1) - s.ex * ((t.length - 1 : Nat) : Int) + p + 2 * (0 - s.ex)]) := by
  have e1 : (t ++ [c]).length = t.length + 1 := by simp
  have h1 : pr s w (t ++ [c]) t.length (j + 1) = pr s w t t.length (j + 1) := pr_cong s w _ _ fun i hi => getD_snoc hi
  have h2 : pr s w (t ++ [c]) t.length j = pr s w t t.length j := pr_cong s w _ _ fun i hi => getD_snoc hi
  have h3 : pr s w (t ++ [c]) (t.length - 1) (j - 1) = pr s w t (t.length - 1) (j - 1) := pr_cong s w _ _ fun i hi => getD_snoc (by omega)
  have h4 : s.ex * ((t.length + 1 : Nat) : Int) = s.ex * (t.length : Int) + s.ex := by rw [Int.natCast_add, Int.mul_add]; simp
  rw [e1]
  conv => lhs; rw [pr]
  rw [h1, h2, h3, getD_last, ← lmin_sub (h := by simp), List.map_append, h4]
  congr 1
  congr 1
  · simp only [List.map_cons, List.map_nil, List.cons.injEq, and_true]
    refine ⟨by omega, by omega, by omega⟩
  · cases e : swp s w (t ++ [c]) (t.length + 1) (j + 1) with
    | none => rfl
    | some p =>
      have hn : 1 ≤ t.length := by
        unfold swp at e
        split at e
        · cases e
        · split at e
          · rename_i h
            omega
          · cases e
      have h5 : s.ex * ((t.length - 1 : Nat) : Int) = s.ex * (t.length : Int) - s.ex := by
        rw [Int.natCast_sub hn, Int.mul_sub]
        simp
      simp only [List.map_cons, List.map_nil, List.cons.injEq, and_true]
      rw [h5]
      omega
/-! ### states -/
/-- the letters of a speller's words -/
def InW (p : Spl) (c : Nat) : Prop := ∃ e ∈ p.es, c ∈ e.1
instance (p : Spl) (c : Nat) : Decidable (InW p c) := inferInstanceAs (Decidable (∃ e ∈ p.es, c ∈ e.1))
abbrev Row := List (List Int)
abbrev Sta := Row × Row × List Nat
def row (p : Spl) (t : List Nat) : Row := p.es.map fun e => wrow p.sl e.1 t
/-- is the text's last letter kept in its state? -/
def keeps (p : Spl) (t : List Nat) : Bool := match p.sl.sw, t.getLast? with
  | some _, some c => decide (InW p c)
  | _, _ => false
def sta (p : Spl) (t : List Nat) : Sta := if keeps p t = true then (row p t, row p t.dropLast, [t.getLast?.getD 0]) else (row p t, [], [])
def tot (p : Spl) (t : List Nat) (e : List Nat × Int) : Int := price p.sl e.1 t + e.2
/-- e stands before f -/
def bef (es : List (List Nat × Int)) (e f : List Nat × Int) : Prop := List.Sublist [e, f] es
def beat (p : Spl) (t : List Nat) (e f : List Nat × Int) : Prop := tot p t e < tot p t f ∨ (tot p t e = tot p t f ∧ bef p.es e f)
/-- a smaller speller's state is told by the larger one's -/
theorem row_small {p q : Spl} (hs : q.sl = p.sl) (he : ∀ e ∈ q.es, e ∈ p.es) {t u : List Nat} (h : row p t = row p u) : row q t = row q u := by
  unfold row at h ⊢
  refine List.map_congr_left fun e hm => ?_
  rw [hs]
  exact List.map_inj_left.mp h e (he e hm)
theorem keeps_iff {p : Spl} {t : List Nat} : keeps p t = true ↔ ∃ x c, p.sl.sw = some x ∧ t.getLast? = some c ∧ InW p c := by
  unfold keeps
  cases h1 : p.sl.sw with
  | none => simp
  | some x =>
    cases h2 : t.getLast? with
    | none => simp
    | some c => simp
theorem sta_small {p q : Spl} (hs : q.sl = p.sl) (he : ∀ e ∈ q.es, e ∈ p.es) {t u : List Nat} (h : sta p t = sta p u) : sta q t = sta q u := by
  have hin : ∀ c, InW q c → InW p c := fun c ⟨e, h1, h2⟩ => ⟨e, he e h1, h2⟩
  unfold sta at h
  by_cases kt : keeps p t = true
  · rw [if_pos kt] at h
    by_cases ku : keeps p u = true
    · rw [if_pos ku] at h
      simp only [Prod.mk.injEq, List.cons.injEq, and_true] at h
      obtain ⟨h1, h2, h3⟩ := h
      obtain ⟨x, c, e1, e2, e3⟩ := keeps_iff.mp kt
      obtain ⟨y, d, f1, f2, f3⟩ := keeps_iff.mp ku
      rw [e2, f2] at h3
      have ecd : c = d := h3
      subst ecd
      have r1 := row_small hs he h1
      have r2 := row_small hs he h2
      unfold sta
      have ek : keeps q t = keeps q u := by
        unfold keeps
        rw [e2, f2]
      rw [ek, r1, r2, e2, f2]
    · rw [if_neg ku] at h
      simp at h
  · rw [if_neg kt] at h
    by_cases ku : keeps p u = true
    · rw [if_pos ku] at h
      simp at h
    · rw [if_neg ku] at h
      simp only [Prod.mk.injEq, and_true] at h
      have n1 : ¬ keeps q t = true := fun z => by
        obtain ⟨x, c, e1, e2, e3⟩ := keeps_iff.mp z
        exact kt (keeps_iff.mpr ⟨x, c, by rw [← hs]; exact e1, e2, hin c e3⟩)
      have n2 : ¬ keeps q u = true := fun z => by
        obtain ⟨x, c, e1, e2, e3⟩ := keeps_iff.mp z
        exact ku (keeps_iff.mpr ⟨x, c, by rw [← hs]; exact e1, e2, hin c e3⟩)
      unfold sta
      rw [if_neg n1, if_neg n2, row_small hs he h]
/-- a state tells the prices but for the length -/
theorem sta_price {p : Spl} {t u : List Nat} (h : sta p t = sta p u) {e : List Nat × Int} (he : e ∈ p.es) : price p.sl e.1 t - p.sl.ex * (t.length : Int) = price p.sl e.1 u - p.sl.ex * (u.length : Int) := by
  have hr : row p t = row p u := by
    have z : (sta p t).1 = (sta p u).1 := by rw [h]
    have g : ∀ t, (sta p t).1 = row p t := fun t => by
      unfold sta
      split <;> rfl
    rw [g, g] at z
    exact z
  have h1 := List.map_inj_left.mp hr e he
  have a1 := wrow_at (s := p.sl) (w := e.1) (t := t) (Nat.le_refl _)
  have a2 := wrow_at (s := p.sl) (w := e.1) (t := u) (Nat.le_refl _)
  rw [h1] at a1
  rw [a1] at a2
  exact Option.some.inj a2
theorem sta_tot {p : Spl} {t u : List Nat} (h : sta p t = sta p u) {e f : List Nat × Int} (he : e ∈ p.es) (hf : f ∈ p.es) : beat p t e f ↔ beat p u e f := by
  have h1 := sta_price h he
  have h2 := sta_price h hf
  unfold beat tot
  constructor
  · rintro (z | ⟨z, b⟩)
    · exact .inl (by omega)
    · exact .inr ⟨by omega, b⟩
  · rintro (z | ⟨z, b⟩)
    · exact .inl (by omega)
    · exact .inr ⟨by omega, b⟩
end MW
section
open MW L2
/-! Common words for the promises. -/
namespace MW
open PySem PySem.Spec PyProof.Rows L2
open C8 (pe_c pe_gc Cal)
/-- binding of a def without defaults -/
abbrev BN (x qual : Str) (st : Stmt) (ps : List Str) : Prop := ∀ (kV doc pm : Value) (an : Option Addr) (cdv ct : Value) (us : List Value), us.length = ps.length → bindArgs (PySem.W.fnOf x qual (defArgs st) (defBody st) (defScope st) .none kV doc pm an cdv ct) ⟨us, []⟩ = pure (ps.zip us)
section
variable {w : World} {K : PySem.W.Frag} {mg : Str → Option Value} {base : Heap}
/-- a def without defaults keeps its promise, by its body -/
theorem mkCal {x : Str} {st : Stmt} {N ps : List Str} {k : Nat} {G : Spc} {f : Addr} (hF : ∃ fd, FunD K x x (defArgs st) (defBody st) (defScope st) [] [] f fd) (hm : mg x = some (.ref f)) (S : FnScope N ps (defScope st)) (hb : BN x x st ps) (len : ∀ ds R, G ds R → ds.length = ps.length)
    (hbody : ∀ (cdv : Value) (A : Around) (outer : List Env) (s : Shared) (H : Hp) (E : XK), Room k (A.deeper (envOfC x (defScope st) s.heap.objs.size f cdv)) →
      ∃ t, PSs (cxOf C8.CX0 P0 w K mg base N x (defScope st) f cdv A outer s H E).nox (defBody st) t ∧ ∀ ds R, G ds R → XS ⟨[], H⟩ t (ds.map some ++ List.replicate (N.length - ds.length) none) [] { nx := fun _ _ => R .non, rt := fun d _ => R d }) :
    Cal P0 w K mg base (k + 1) x (spF G) [] := by
  obtain ⟨fd, F⟩ := hF
  exact ⟨f, fd, ps, [], MW.FunD.okF F S len hbody, hm, F.kp, F.bindsN hb, .nil⟩
/-- a property's getter -/
structure PrC (P : Program) (w : World) (K : PySem.W.Frag) (mg : Str → Option Value) (base : Heap) (C : Addr) (f z : Str) : Prop where
  ex : ∃ (p g : Addr) (fd : FuncData), Cls K C ∧ PropOf K C f p g ∧ FnOk P w K mg base C8.CX0 1 g fd ["self"] (getSp C z) ∧ Binds K fd ["self"] []
theorem pe_P {X : Cx} {C : Addr} {f z : Str} {e : Expr} {ta : TE} {pos : Pos} {j : Nat} (c : PrC X.prog X.w X.K X.mg X.base C f z) (he : PE X e ta) (hr : Room j X.A) (hk : 2 ≤ j) (hab : attributeBase e f X.env (eval e X.env) = eval e X.env := by rfl) : PE X (.Attribute e f pos) (tProp C (getSp C z) [] C8.E0 ta) := by
  obtain ⟨p, g, fd, h1, h2, h3, h4⟩ := c.ex
  exact pe_prop he h1 h2 h3 (hr.mono hk) h4 .nil C8.pass0 hab
theorem mkPr {C g p : Addr} {x qual f : Str} {st : Stmt} {p1 p2 p3 : Pos} (hF : ∃ fd, FunD K x qual (defArgs st) (defBody st) (defScope st) [] [] g fd) (hp : PropOf K C x p g) (S : FnScope ["self"] ["self"] (defScope st)) (hb : BN x qual st ["self"]) (hbd : defBody st = [.Return (some (.Attribute (.Name "self" p1) f p2)) p3]) (c : Cls K C) (n : NoAttr K C f) : PrC P0 w K mg base C x f := by
  obtain ⟨fd, F⟩ := hF
  have hB := F.bindsN hb
  obtain ⟨oc, od, dV, kV, doc, pm, an, cdv, ct, osl, rfl, lk, hcd, _, _⟩ := F.ex
  exact ⟨p, g, _, c, hp, fn_getter lk hcd S rfl hbd c n, hB⟩
end
section
variable {c : Cn} {ρ : Env2} {μ : Mu} {P : D → Mu → Prop}
/-- a op1 b op2 c -/
theorem x_chain {r r' : R2} {ta tb tc : TE} (h : X c ta ρ μ fun x μ1 => X c tb ρ μ1 fun y μ2 => RX c r x y μ2 fun z μ3 => ∃ b, z = .bl b ∧ (b = true → X c tc ρ μ3 fun u μ4 => RX c r' y u μ4 P) ∧ (b = false → P (.bl false) μ3)) : X c (tChain r r' ta tb tc) ρ μ P := fun σ H Q S q =>
  h σ H _ S fun v H1 x μ1 p1 r1 S1 h1 => h1 σ H1 _ S1 fun u H2 y μ2 p2 r2 S2 h2 => h2 ρ σ H2 v u _ S2 (r1.mono p2) r2 fun k H3 z μ3 p3 r3 S3 ⟨b, ez, h3, h4⟩ => by
    subst ez
    have ek : k = .bl b := r3
    subst ek
    refine ⟨b, rfl, ?_⟩
    cases b with
    | true =>
      rw [if_pos rfl]
      exact h3 rfl σ H3 _ S3 fun a H4 d4 μ4 p4 r4 S4 h5 => h5 ρ σ H4 u a Q S4 (r2.mono (p3.trans p4)) r4 fun e H5 d5 μ5 p5 r5 S5 k => q e H5 d5 μ5 ((((p1.trans p2).trans p3).trans p4).trans p5) r5 S5 k
    | false =>
      rw [if_neg Bool.false_ne_true]
      exact q _ H3 (.bl false) μ3 ((p1.trans p2).trans p3) rfl S3 (h4 rfl)
/-! ### slices -/
theorem sIx_of {n d : Nat} {lo : Option Int} {i : Nat} (h : match lo with | none => i = d | some v => (0 ≤ v ∧ (i : Int) = min v (n : Int)) ∨ (v < 0 ∧ (i : Int) = max 0 (v + (n : Int)))) : HT.sIx n d lo = i := by
  cases lo with
  | none => exact h.symm
  | some v =>
    show (if v < 0 then (v + (n : Int)).toNat else min v.toNat n) = i
    split
    · rename_i hv
      rcases h with h | h
      · omega
      · omega
    · rename_i hv
      rcases h with h | h
      · omega
      · omega
/-- place in a text or list -/
def cut {α : Type} (l : List α) (lo hi : Option Int) : List α := (l.drop (HT.sIx l.length 0 lo)).take (HT.sIx l.length l.length hi - HT.sIx l.length 0 lo)
def SX (c : Cn) (r : V → Option Int → Option Int → Hp → VK → Prop) (x : D) (lo hi : Option Int) (μ : Mu) (P : D → Mu → Prop) : Prop :=
  ∀ (ρ : Env2) (σ : L2.St) (H : Hp) (v : V) (Q : VK), Sat c ρ μ σ H → Rep H x v → (∀ u H' d μ', Pst H H' → Rep H' d u → Sat c ρ μ' σ H' → P d μ' → Q u H') → r v lo hi H Q
def OX (c : Cn) (to : TO) (ρ : Env2) (μ : Mu) (P : Option Int → Mu → Prop) : Prop :=
  ∀ (σ : L2.St) (H : Hp) (Q : Option Int → Hp → Prop), Sat c ρ μ σ H → (∀ o H' μ', Pst H H' → Sat c ρ μ' σ H' → P o μ' → Q o H') → to σ H Q
theorem o_none {PO : Option Int → Mu → Prop} (k : PO none μ) : OX c tNoPart ρ μ PO := fun σ H Q S q => q none H μ (Pst.refl H) S k
theorem o_some {PO : Option Int → Mu → Prop} {te : TE} (h : X c te ρ μ fun d μ1 => ∃ i, d = .int i ∧ PO (some i) μ1) : OX c (tPart te) ρ μ PO := fun σ H Q S q => h σ H _ S fun v H' d μ' p r S' ⟨i, e, k⟩ => by
  subst e
  exact ⟨i, r, q (some i) H' μ' p S' k⟩
theorem x_sl {r : V → Option Int → Option Int → Hp → VK → Prop} {te : TE} {tl th : TO} (h : X c te ρ μ fun x μ1 => OX c tl ρ μ1 fun lo μ2 => OX c th ρ μ2 fun hi μ3 => SX c r x lo hi μ3 P) : X c (tSl r te tl th) ρ μ P := fun σ H Q S q =>
  h σ H _ S fun v H1 x μ1 p1 r1 S1 h1 => h1 σ H1 _ S1 fun lo H2 μ2 p2 S2 h2 => h2 σ H2 _ S2 fun hi H3 μ3 p3 S3 h3 => h3 ρ σ H3 v Q S3 (r1.mono (p2.trans p3)) fun u H' d μ' p r S' k => q u H' d μ' (((p1.trans p2).trans p3).trans p) r S' k
theorem s_txt {l : Wd} {lo hi : Option Int} (hz : l.length ≤ 100000) (k : P (.str (tx (cut l lo hi))) μ) : SX c rSlS (.str (tx l)) lo hi μ P := fun ρ σ H v Q S r q => by
  have ev : v = .str (tx l) := r
  refine ⟨tx l, ev, by rw [tx_len]; exact Nat.le_trans hz (by decide), ?_⟩
  have e : cutS (tx l) lo hi = tx (cut l lo hi) := by
    unfold cutS cut
    rw [tx_list, tx_len]
    rfl
  rw [e]
  exact q _ H _ μ (Pst.refl H) (by exact rfl) S k
theorem Reps.cut {H : Hp} {ds : List D} {vs : List V} (h : Reps H ds vs) (lo hi : Option Int) : Reps H (MW.cut ds lo hi) (cutV vs lo hi) := by
  unfold MW.cut cutV
  rw [h.len]
  exact (h.drop _).take _
theorem s_tup {K : PySem.W.Frag} {ds : List D} {lo hi : Option Int} (k : P (.tup (cut ds lo hi)) μ) : SX c (rSlA K) (.tup ds) lo hi μ P := fun ρ σ H v Q S r q => by
  obtain ⟨a, vs, ev, ha, rs⟩ := r
  refine ⟨a, vs, ev, SqT.of ha, fun ⟨h1, h2⟩ => ?_, fun _ p hp => ?_⟩
  · refine q _ H (.tup (MW.cut ds lo hi)) μ (Pst.refl H) ⟨a, vs, rfl, ha, ?_⟩ S k
    have e : cutV vs lo hi = vs := by
      unfold cutV
      rw [h1, h2]
      simp
    have := rs.cut lo hi
    rw [e] at this
    exact this
  · exact q _ _ (.tup (MW.cut ds lo hi)) μ (Pst.new hp) ⟨p, _, rfl, upd_same, Reps.mono (Pst.new hp) _ _ (rs.cut lo hi)⟩ (S.new hp) k
theorem s_lstM {K : PySem.W.Frag} {a : Addr} {j : Nat} {ds : List D} {lo hi : Option Int} (hm : μ[j]? = some (a, .lst ds)) (k : ∀ p, P (.ref p) (μ ++ [(p, .lst (cut ds lo hi))])) : SX c (rSlL K) (.ref a) lo hi μ P := fun ρ σ H v Q S r q => by
  have ev : v = .ref a := r
  obtain ⟨vs, hv, rs⟩ := S.mu _ (List.mem_of_getElem? hm)
  exact ⟨a, vs, ev, SqL.of hv, fun p hp => q _ _ (.ref p) _ (Pst.new hp) rfl (S.add hp (m := .lst (MW.cut ds lo hi)) ⟨_, upd_same, Reps.mono (Pst.new hp) _ _ (rs.cut lo hi)⟩) (k p)⟩
/-! ### texts that are walked -/
theorem i_str {te : TE} {P : List D → Mu → Prop} (h : X c te ρ μ fun d μ1 => ∃ l, d = .str (tx l) ∧ P (sgs l) μ1) : IX c (iStr te) ρ μ P := fun σ H R S q =>
  h σ H _ S fun v H1 d μ1 p1 r1 S1 ⟨l, ed, k⟩ => by
    subst ed
    have ev : v = .str (tx l) := r1
    refine ⟨tx l, ev, q _ H1 (sgs l) μ1 p1 S1 ⟨fun i d H2 e p => ?_, fun i d H2 x H3 e p hy => ?_, fun H2 p => ?_⟩ k⟩
    · have hl : i < l.length := by
        unfold sgs at e
        have := (List.getElem?_eq_some_iff.mp e).1
        simpa using this
      show i < (tx l).cps.size
      simpa [tx] using hl
    · obtain ⟨eh, ch, hc, ex⟩ := hy
      subst eh ex
      unfold sgs at e
      rw [List.getElem?_map] at e
      have hc2 : l[i]? = some ch := by simpa [tx] using hc
      rw [hc2] at e
      have e2 : D.str (tx [ch]) = d := Option.some.inj e
      subst e2
      exact ⟨Same.refl H3, rfl⟩
    · show (tx l).cps.size ≤ (sgs l).length
      simp [tx, sgs]
end
end MW
end
section
open MW L2
/-! Data of the program; the steps of a reading. -/
namespace MW
open PySem PySem.Spec PyProof.Rows L2
open C8 (pe_c pe_gc Cal)
theorem brT {b : Bool} {A B : Prop} (e : b = true) (h : A) : (b = true → A) ∧ (b = false → B) := ⟨fun _ => h, fun z => by rw [e] at z; cases z⟩
theorem brF {b : Bool} {A B : Prop} (e : b = false) (h : B) : (b = true → A) ∧ (b = false → B) := ⟨fun z => (by rw [e] at z; cases z), fun _ => h⟩
theorem brD {p : Prop} [Decidable p] {A B : Prop} (h1 : p → A) (h2 : ¬ p → B) : (decide p = true → A) ∧ (decide p = false → B) := ⟨fun z => h1 (of_decide_eq_true z), fun z => h2 (of_decide_eq_false z)⟩
theorem brN {p : Prop} [Decidable p] {A B : Prop} (h1 : ¬ p → A) (h2 : p → B) : ((!decide p) = true → A) ∧ ((!decide p) = false → B) := ⟨fun z => h1 (by simpa using z), fun z => h2 (by simpa using z)⟩
def optD : Option Int → D
  | none => .non
  | some i => .int i
abbrev slpD (K : PySem.W.Frag) (s : Slp) : D := .ins (He.ga K "Slips") ["z_extra", "z_missing", "z_wrong", "z_swapped"] [.int s.ex, .int s.mi, .int s.wr, optD s.sw]
abbrev entD (e : List Nat × Int) : D := .tup [.str (tx e.1), .int e.2]
abbrev entsD (es : List (List Nat × Int)) : D := .tup (es.map entD)
abbrev splD (K : PySem.W.Frag) (p : Spl) : D := .ins (He.ga K "Speller") ["e_entries", "e_slips"] [entsD p.es, slpD K p.sl]
/-- the small letters -/
def abc : List Nat := [97, 98, 99, 100, 101, 102, 103, 104, 105, 106, 107, 108, 109, 110, 111, 112, 113, 114, 115, 116, 117, 118, 119, 120, 121, 122]
theorem abc_eq : ("abcdefghijklmnopqrstuvwxyz" : Str) = tx abc := by decide +kernel
theorem tx_nil {l : Wd} : (tx l = ("" : Str)) ↔ l = [] := by
  have e : ("" : Str) = tx [] := by decide +kernel
  rw [e, tx_eq]
theorem gI {mg : Str → Option Value} {x : Str} {n : Int} (h : ∃ t, mg x = some (.int n t)) : ∃ u, mg x = some u ∧ RelV (.int n) u := by
  obtain ⟨t, h⟩ := h
  exact ⟨_, h, ⟨t, rfl⟩⟩
theorem gS {mg : Str → Option Value} {x : Str} (h : ∃ t, mg x = some (.str "abcdefghijklmnopqrstuvwxyz" t)) : ∃ u, mg x = some u ∧ RelV (.str (tx abc)) u := by
  obtain ⟨t, h⟩ := h
  exact ⟨_, h, ⟨t, by rw [abc_eq]⟩⟩
section
variable {w : World} {K : PySem.W.Frag} {mg : Str → Option Value} {base : Heap}
theorem Tx.pr_extra (T : Tx K mg) : PrC P0 w K mg base (He.ga K "Slips") "extra" "z_extra" := mkPr T.d_Slips_extra T.p_extra ⟨rfl, rfl, rfl, by decide +kernel, rfl, by decide +kernel, by decide +kernel⟩ (fun _ _ _ _ _ _ us hl => match us, hl with | [_], _ => rfl) rfl T.c_Slips T.n_z_extra
theorem Tx.pr_missing (T : Tx K mg) : PrC P0 w K mg base (He.ga K "Slips") "missing" "z_missing" := mkPr T.d_Slips_missing T.p_missing ⟨rfl, rfl, rfl, by decide +kernel, rfl, by decide +kernel, by decide +kernel⟩ (fun _ _ _ _ _ _ us hl => match us, hl with | [_], _ => rfl) rfl T.c_Slips T.n_z_missing
theorem Tx.pr_wrong (T : Tx K mg) : PrC P0 w K mg base (He.ga K "Slips") "wrong" "z_wrong" := mkPr T.d_Slips_wrong T.p_wrong ⟨rfl, rfl, rfl, by decide +kernel, rfl, by decide +kernel, by decide +kernel⟩ (fun _ _ _ _ _ _ us hl => match us, hl with | [_], _ => rfl) rfl T.c_Slips T.n_z_wrong
theorem Tx.pr_swapped (T : Tx K mg) : PrC P0 w K mg base (He.ga K "Slips") "swapped" "z_swapped" := mkPr T.d_Slips_swapped T.p_swapped ⟨rfl, rfl, rfl, by decide +kernel, rfl, by decide +kernel, by decide +kernel⟩ (fun _ _ _ _ _ _ us hl => match us, hl with | [_], _ => rfl) rfl T.c_Slips T.n_z_swapped
theorem Tx.pr_entries (T : Tx K mg) : PrC P0 w K mg base (He.ga K "Speller") "entries" "e_entries" := mkPr T.d_Speller_entries T.p_entries ⟨rfl, rfl, rfl, by decide +kernel, rfl, by decide +kernel, by decide +kernel⟩ (fun _ _ _ _ _ _ us hl => match us, hl with | [_], _ => rfl) rfl T.c_Speller T.n_e_entries
theorem Tx.pr_slips (T : Tx K mg) : PrC P0 w K mg base (He.ga K "Speller") "slips" "e_slips" := mkPr T.d_Speller_slips T.p_slips ⟨rfl, rfl, rfl, by decide +kernel, rfl, by decide +kernel, by decide +kernel⟩ (fun _ _ _ _ _ _ us hl => match us, hl with | [_], _ => rfl) rfl T.c_Speller T.n_e_slips
end
/-! ### isinstance -/
section
variable {c : Cn} {ρ : Env2} {μ : Mu} {P : D → Mu → Prop} {K : PySem.W.Frag}
theorem UX.of {r : V → Hp → VK → Prop} {x : D} (h : ∀ v H Q, Rep H x v → (∀ u d, Rep H d u → P d μ → Q u H) → r v H Q) : UX c r x μ P := fun ρ σ H v Q S rx q => h v H Q rx fun u d ru k => q u H d μ (Pst.refl H) ru S k
/-- isinstance(x, C): the value's type is told by the datum -/
theorem k_isi {x : D} {cl : V} {dc : D} {u : Value} {t : Value} {b : Bool} (hd : ∀ H v, Rep H dc v → v = cl) (hc : ClsV cl u) (ht : ∀ H v, Rep H x v → TyX K H v t) (hk : PySem.W.kitOne K t u = some b) (k : P (.bl b) μ) : KX c (rIsi K) [x, dc] μ P := fun ρ σ H vs Q S r q => by
  obtain ⟨v, r0, rfl, rv, w, r1, rfl, rw_, rfl⟩ := r
  have e := hd H w rw_
  subst e
  exact ⟨v, w, t, u, b, rfl, hc, ht H v rv, hk, q _ H (.bl b) μ (Pst.refl H) rfl S k⟩
theorem k_isI {i : Int} {n : String} {b : Bool} (hk : L2.kitB "int" n = some b) (k : P (.bl b) μ) : KX c (rIsi K) [.int i, .ty n] μ P := k_isi (cl := .ty n) (u := .type n) (fun _ _ h => h) (.ty n) (fun H v h => by have e : v = .int i := h; subst e; exact .base (.int i)) (kit_ty hk) k
theorem k_isS {i : Str} {n : String} {b : Bool} (hk : L2.kitB "str" n = some b) (k : P (.bl b) μ) : KX c (rIsi K) [.str i, .ty n] μ P := k_isi (cl := .ty n) (u := .type n) (fun _ _ h => h) (.ty n) (fun H v h => by have e : v = .str i := h; subst e; exact .base (.str i)) (kit_ty hk) k
theorem k_isT {ds : List D} {n : String} {b : Bool} (hk : L2.kitB "tuple" n = some b) (k : P (.bl b) μ) : KX c (rIsi K) [.tup ds, .ty n] μ P := k_isi (cl := .ty n) (u := .type n) (fun _ _ h => h) (.ty n) (fun H v h => by obtain ⟨a, vs, rfl, ha, _⟩ := h; exact .base (.tup ha)) (kit_ty hk) k
theorem k_isSpl {mg : Str → Option Value} (T : Tx K mg) {p : Spl} {C : Str} {b : Bool} (hk : PySem.W.kitOne K (.ref (He.ga K "Speller")) (.ref (He.ga K C)) = some b) (k : P (.bl b) μ) : KX c (rIsi K) [splD K p, .ref (He.ga K C)] μ P :=
  k_isi (cl := .ref (He.ga K C)) (u := .ref (He.ga K C)) (fun _ _ h => h) (.own _) (fun H v h => by obtain ⟨a, dx, vs, rfl, ha, _⟩ := h; exact insB_ok T.x6 T.c_Speller ha) hk k
theorem r_ixSE {l : Wd} {i : Int} (hz : l.length ≤ 100000) (h : ∃ ch, L2.atI l i = some ch ∧ P (.str (tx [ch])) μ) : RX c rIxS (.str (tx l)) (.int i) μ P := let ⟨_, e, k⟩ := h; r_ixS hz e k
theorem m_appE {a : Addr} {d : D} (h : ∃ (j : Nat) (ds : List D), μ[j]? = some (a, .lst ds) ∧ ds.length < 100000 ∧ P .non (μ.set j (a, .lst (ds ++ [d])))) : MX c rAppend (.ref a) [d] μ P := let ⟨_, _, e, z, k⟩ := h; m_app e z k
theorem k_lenME {a : Addr} (h : ∃ (j : Nat) (ds : List D), μ[j]? = some (a, .lst ds) ∧ P (.int (ds.length : Nat)) μ) : KX c (fun xs H Q => ∃ p ys, xs = [.ref p] ∧ (SqL K H p ys ∨ SqT K H p ys) ∧ Q (.int (ys.length : Nat)) H) [.ref a] μ P := let ⟨_, _, e, k⟩ := h; k_lenM e k
theorem r_ixME {a : Addr} {i : Int} (h : ∃ (j : Nat) (ds : List D) (d : D), μ[j]? = some (a, .lst ds) ∧ L2.atI ds i = some d ∧ P d μ) : RX c (rIxL K) (.ref a) (.int i) μ P := let ⟨_, _, _, e, e2, k⟩ := h; r_ixM e e2 k
theorem atI_neg {t : Wd} {k : Nat} (h1 : 1 ≤ k) (h2 : k ≤ t.length) : L2.atI t (-(k : Int)) = some (t.getD (t.length - k) 0) := by
  unfold L2.atI L2.ixN
  rw [if_neg (by omega), if_pos (by omega)]
  show t[((-(k : Int) + (t.length : Int))).toNat]? = _
  have e : (-(k : Int) + (t.length : Int)).toNat = t.length - k := by omega
  rw [e, List.getElem?_eq_getElem (by omega), List.getD_eq_getElem?_getD, List.getElem?_eq_getElem (by omega)]
  rfl
theorem atI_nat {α : Type} {t : List α} {k : Nat} : L2.atI t (k : Int) = t[k]? := by
  unfold L2.atI L2.ixN
  rw [if_pos (by omega)]
  by_cases h : k < t.length
  · rw [if_pos (by omega)]
    show t[(k : Int).toNat]? = _
    rw [Int.toNat_natCast]
  · rw [if_neg (by omega), List.getElem?_eq_none (by omega)]
    rfl
theorem tx_neN {l : Wd} (h : l ≠ []) : (!decide (tx l = ("" : Str))) = true := by simpa [tx_nil] using h
theorem tx_eqN {l : Wd} (h : l = []) : (!decide (tx l = ("" : Str))) = false := by simpa [tx_nil] using h
theorem x_varE {i : Nat} (h : ∃ d, ρ[i]? = some (some d) ∧ P d μ) : X c (tVar i) ρ μ P := let ⟨_, e, k⟩ := h; x_var e k
theorem r_ixTE {ds : List D} {i : Int} (h : ∃ d, L2.atI ds i = some d ∧ P d μ) : RX c (rIxT K) (.tup ds) (.int i) μ P := let ⟨_, e, k⟩ := h; r_ixT e k
theorem r_ixLE {ds : List D} {i : Int} (h : ∃ d, L2.atI ds i = some d ∧ P d μ) : RX c (rIxL K) (.lst ds) (.int i) μ P := let ⟨_, e, k⟩ := h; r_ixL e k
theorem k_isIE {i : Int} {n : String} (h : ∃ b, L2.kitB "int" n = some b ∧ P (.bl b) μ) : KX c (rIsi K) [.int i, .ty n] μ P := let ⟨_, e, k⟩ := h; k_isI e k
theorem k_isSE {i : Str} {n : String} (h : ∃ b, L2.kitB "str" n = some b ∧ P (.bl b) μ) : KX c (rIsi K) [.str i, .ty n] μ P := let ⟨_, e, k⟩ := h; k_isS e k
theorem k_isTE {ds : List D} {n : String} (h : ∃ b, L2.kitB "tuple" n = some b ∧ P (.bl b) μ) : KX c (rIsi K) [.tup ds, .ty n] μ P := let ⟨_, e, k⟩ := h; k_isT e k
end
/-! ### == with an empty list or tuple -/
open PySem (PyData)
mutual
def D.py : D → PyData
  | .bl b => .bool b
  | .int i => .int i
  | .str x => .str x
  | .tup ds => .tuple (D.pys ds)
  | .lst ds => .list (D.pys ds)
  | _ => .none
def D.pys : List D → List PyData
  | [] => []
  | d :: ds => D.py d :: D.pys ds
end
mutual
/-- data without dicts and instances, texts of real signs, at most n deep -/
def D.deep : Nat → D → Prop
  | _, .non => True
  | _, .bl _ => True
  | _, .int _ => True
  | _, .str x => PyData.strOk x = true
  | n + 1, .tup ds => D.deeps n ds
  | n + 1, .lst ds => D.deeps n ds
  | _, _ => False
def D.deeps : Nat → List D → Prop
  | _, [] => True
  | n, d :: ds => D.deep n d ∧ D.deeps n ds
end
theorem D.deeps_of {n : Nat} : ∀ {ds : List D}, (∀ d ∈ ds, D.deep n d) → D.deeps n ds
  | [], _ => by
    unfold D.deeps
    trivial
  | d :: ds, h => by
    unfold D.deeps
    exact ⟨h d List.mem_cons_self, D.deeps_of fun x hx => h x (List.mem_cons_of_mem _ hx)⟩
mutual
theorem Rep.dp {K : PySem.W.Frag} {H : Hp} : ∀ (n : Nat) (d : D) (v : V), D.deep n d → Rep H d v → Dp K H v (D.py d) ∧ PyData.canLay0 (D.py d) = true ∧ PyData.depth (D.py d) ≤ n
  | n, .non, v, _, r => by
    have e : v = .non := r
    subst e
    unfold D.py
    exact ⟨.non, by simp [PyData.canLay0], by simp [PyData.depth]⟩
  | n, .bl b, v, _, r => by
    have e : v = .bl b := r
    subst e
    unfold D.py
    exact ⟨.bl b, by simp [PyData.canLay0], by simp [PyData.depth]⟩
  | n, .int i, v, _, r => by
    have e : v = .int i := r
    subst e
    unfold D.py
    exact ⟨.int i, by simp [PyData.canLay0], by simp [PyData.depth]⟩
  | n, .str x, v, h, r => by
    have e : v = .str x := r
    subst e
    unfold D.py
    unfold D.deep at h
    exact ⟨.str x, by simpa [PyData.canLay0] using h, by simp [PyData.depth]⟩
  | 0, .tup ds, v, h, r => by
    unfold D.deep at h
    exact h.elim
  | n + 1, .tup ds, v, h, r => by
    obtain ⟨a, vs, e, ha, rs⟩ := r
    subst e
    unfold D.deep at h
    obtain ⟨h1, h2, h3⟩ := Reps.dp (K := K) n ds vs h rs
    unfold D.py
    exact ⟨.tup (SqT.of ha) h1, by simpa [PyData.canLay0] using h2, by simp only [PyData.depth]; omega⟩
  | 0, .lst ds, v, h, r => by
    unfold D.deep at h
    exact h.elim
  | n + 1, .lst ds, v, h, r => by
    obtain ⟨a, o, vs, e, ha, rs⟩ := r
    subst e
    unfold D.deep at h
    obtain ⟨h1, h2, h3⟩ := Reps.dp (K := K) n ds vs h rs
    unfold D.py
    exact ⟨.lst (.inl (.inr ⟨o, ha⟩)) h1, by simpa [PyData.canLay0] using h2, by simp only [PyData.depth]; omega⟩
  | n, .ref _, v, h, r => by
    unfold D.deep at h
    exact h.elim
  | n, .ty _, v, h, r => by
    unfold D.deep at h
    exact h.elim
  | n, .dic _ _, v, h, r => by
    unfold D.deep at h
    exact h.elim
  | n, .ins _ _ _, v, h, r => by
    unfold D.deep at h
    exact h.elim
theorem Reps.dp {K : PySem.W.Frag} {H : Hp} : ∀ (n : Nat) (ds : List D) (vs : List V), D.deeps n ds → Reps H ds vs → DpAll K H vs (D.pys ds) ∧ PyData.canLayAll0 (D.pys ds) = true ∧ PyData.depthAll (D.pys ds) ≤ n
  | n, [], vs, _, r => by
    have e : vs = [] := r
    subst e
    unfold D.pys
    exact ⟨.nil, by simp [PyData.canLayAll0], by simp [PyData.depthAll]⟩
  | n, d :: ds, vs, h, r => by
    obtain ⟨v, rr, e, r1, r2⟩ := r
    subst e
    unfold D.deeps at h
    obtain ⟨h1, h2, h3⟩ := Rep.dp (K := K) n d v h.1 r1
    obtain ⟨g1, g2, g3⟩ := Reps.dp (K := K) n ds rr h.2 r2
    unfold D.pys
    exact ⟨.cons h1 g1, by simp [PyData.canLayAll0, h2, g2], by simp only [PyData.depthAll]; omega⟩
end
theorem shp {d : PyData} {n : Nat} (h : PyData.canLay0 d = true) (hd : PyData.depth d ≤ n) (hn : n ≤ 64) : SeqAt.shaped d = true := by
  unfold SeqAt.shaped
  rw [h, Bool.true_and]
  exact decide_eq_true (by omega)
theorem eqv_nilL (ds : List D) : PyData.eqv (.list (D.pys ds)) (.list []) = ds.isEmpty := by
  cases ds with
  | nil => rfl
  | cons d r =>
    unfold D.pys
    rfl
theorem eqv_nilT (ds : List D) : PyData.eqv (.tuple (D.pys ds)) (.tuple []) = ds.isEmpty := by
  cases ds with
  | nil => rfl
  | cons d r =>
    unfold D.pys
    rfl
section
variable {c : Cn} {μ : Mu} {P : D → Mu → Prop} {K : PySem.W.Frag}
theorem dp_mut {n : Nat} {H : Hp} {ρ : Env2} {σ : L2.St} {a : Addr} {j : Nat} {ds : List D} (S : Sat c ρ μ σ H) (hm : μ[j]? = some (a, .lst ds)) (hd : D.deeps n ds) : Dp K H (.ref a) (.list (D.pys ds)) ∧ PyData.canLay0 (.list (D.pys ds)) = true ∧ PyData.depth (.list (D.pys ds)) ≤ n + 1 := by
  obtain ⟨vs, hv, rs⟩ := S.mu _ (List.mem_of_getElem? hm)
  obtain ⟨h1, h2, h3⟩ := Reps.dp (K := K) n ds vs hd rs
  exact ⟨.lst (SqL.of hv) h1, by simpa [PyData.canLay0] using h2, by simp only [PyData.depth]; omega⟩
/-- xs != [], xs == [] -/
theorem r_neL0 {n : Nat} {a b : Addr} {i j : Nat} {ds : List D} (hi : μ[i]? = some (a, .lst ds)) (hj : μ[j]? = some (b, .lst [])) (hn : n ≤ 60) (hd : D.deeps n ds) (k : P (.bl (!ds.isEmpty)) μ) : RX c (rNeD K) (.ref a) (.ref b) μ P := fun ρ σ H v w Q S r1 r2 q => by
  have e1 : v = .ref a := r1
  have e2 : w = .ref b := r2
  subst e1 e2
  obtain ⟨h1, h2, h3⟩ := dp_mut (K := K) S hi hd
  obtain ⟨g1, g2, g3⟩ := dp_mut (K := K) (n := 0) S hj (by unfold D.deeps; trivial)
  refine ⟨_, _, h1, g1, shp h2 h3 (by omega), shp g2 g3 (by omega), ?_⟩
  have e : PyData.eqv (.list (D.pys ds)) (.list (D.pys [])) = ds.isEmpty := eqv_nilL ds
  rw [e]
  exact q _ H (.bl (!ds.isEmpty)) μ (Pst.refl H) rfl S k
theorem r_eqL0 {n : Nat} {a b : Addr} {i j : Nat} {ds : List D} (hi : μ[i]? = some (a, .lst ds)) (hj : μ[j]? = some (b, .lst [])) (hn : n ≤ 60) (hd : D.deeps n ds) (k : P (.bl ds.isEmpty) μ) : RX c (rEqD K) (.ref a) (.ref b) μ P := fun ρ σ H v w Q S r1 r2 q => by
  have e1 : v = .ref a := r1
  have e2 : w = .ref b := r2
  subst e1 e2
  obtain ⟨h1, h2, h3⟩ := dp_mut (K := K) S hi hd
  obtain ⟨g1, g2, g3⟩ := dp_mut (K := K) (n := 0) S hj (by unfold D.deeps; trivial)
  refine ⟨_, _, h1, g1, shp h2 h3 (by omega), shp g2 g3 (by omega), ?_⟩
  have e : PyData.eqv (.list (D.pys ds)) (.list (D.pys [])) = ds.isEmpty := eqv_nilL ds
  rw [e]
  exact q _ H (.bl ds.isEmpty) μ (Pst.refl H) rfl S k
/-- a list that is data -/
theorem r_neLd {n : Nat} {b : Addr} {j : Nat} {ds : List D} (hj : μ[j]? = some (b, .lst [])) (hn : n ≤ 60) (hd : D.deeps n ds) (k : P (.bl (!ds.isEmpty)) μ) : RX c (rNeD K) (.lst ds) (.ref b) μ P := fun ρ σ H v w Q S r1 r2 q => by
  have e2 : w = .ref b := r2
  subst e2
  obtain ⟨h1, h2, h3⟩ := Rep.dp (K := K) (n + 1) (.lst ds) v (by unfold D.deep; exact hd) r1
  obtain ⟨g1, g2, g3⟩ := dp_mut (K := K) (n := 0) S hj (by unfold D.deeps; trivial)
  unfold D.py at h1 h2 h3
  refine ⟨_, _, h1, g1, shp h2 h3 (by omega), shp g2 g3 (by omega), ?_⟩
  have e : PyData.eqv (.list (D.pys ds)) (.list (D.pys [])) = ds.isEmpty := eqv_nilL ds
  rw [e]
  exact q _ H (.bl (!ds.isEmpty)) μ (Pst.refl H) rfl S k
/-- t != () -/
theorem r_neT0 {n : Nat} {ds : List D} (hn : n ≤ 60) (hd : D.deeps n ds) (k : P (.bl (!ds.isEmpty)) μ) : RX c (rNeD K) (.tup ds) (.tup []) μ P := fun ρ σ H v w Q S r1 r2 q => by
  obtain ⟨h1, h2, h3⟩ := Rep.dp (K := K) (n + 1) (.tup ds) v (by unfold D.deep; exact hd) r1
  obtain ⟨g1, g2, g3⟩ := Rep.dp (K := K) 1 (.tup []) w (by unfold D.deep D.deeps; trivial) r2
  unfold D.py at h1 h2 h3
  unfold D.py at g1 g2 g3
  refine ⟨_, _, h1, g1, shp h2 h3 (by omega), shp g2 g3 (by omega), ?_⟩
  have e : PyData.eqv (.tuple (D.pys ds)) (.tuple (D.pys [])) = ds.isEmpty := eqv_nilT ds
  rw [e]
  exact q _ H (.bl (!ds.isEmpty)) μ (Pst.refl H) rfl S k
theorem deep_dI : ∀ (l : List Int) (n : Nat), D.deeps n (dI l)
  | [], _ => by
    unfold dI D.deeps
    trivial
  | i :: l, n => by
    show D.deep n (.int i) ∧ D.deeps n (dI l)
    exact ⟨by unfold D.deep; trivial, deep_dI l n⟩
end
section
variable {c : Cn} {ρ : Env2} {μ : Mu} {A : DA}
theorem XS.let {t : TS} (h : XS c t ρ μ { A with nx := fun ρ' μ' => ∃ ν, ν.Sublist μ' ∧ A.nx ρ' ν }) : XS c t ρ μ A := fun σ H E S k =>
  h σ H E S ⟨fun ρ' μ' σ' H' p S' ⟨ν, s, z⟩ => k.nx ρ' ν σ' H' p (S'.drop s) z, k.rt, k.bk, k.ct⟩
theorem XS.letb {t : TS} (h : XS c t ρ μ { A with bk := fun ρ' μ' => ∃ ν, ν.Sublist μ' ∧ A.bk ρ' ν }) : XS c t ρ μ A := fun σ H E S k =>
  h σ H E S ⟨k.nx, k.rt, fun ρ' μ' σ' H' p S' ⟨ν, s, z⟩ => k.bk ρ' ν σ' H' p (S'.drop s) z, k.ct⟩
theorem GX.from {g : TG} {js : List Nat} {d : D} {ν : Mu} {K' : Env2 → Mu → Prop} (h : GX c g js d ρ ν K') (s : ν.Sublist μ) : GX c g js d ρ μ K' := fun σ H v Q S r q => h σ H v Q (S.drop s) r q
theorem GX.imp {g : TG} {js : List Nat} {d : D} {K1 K2 : Env2 → Mu → Prop} (h : GX c g js d ρ μ K1) (k : ∀ ρ' μ', K1 ρ' μ' → K2 ρ' μ') : GX c g js d ρ μ K2 := fun σ H v Q S r q => h σ H v Q S r fun ρ' μ' σ' H' p S' o z => q ρ' μ' σ' H' p S' o (k _ _ z)
theorem IX.imp {wi : TI} {P1 P2 : List D → Mu → Prop} (h : IX c wi ρ μ P1) (k : ∀ d μ', P1 d μ' → P2 d μ') : IX c wi ρ μ P2 := fun σ H R S q => h σ H R S fun J H' items μ' p S' W z => q J H' items μ' p S' W (k _ _ z)
/-- for, whose turns may leave objects behind -/
theorem xs_forS {wi : TI} {g : TG} {tb : TS} {js : List Nat} (I : Nat → Env2 → Mu → Prop)
    (h : IX c wi ρ μ fun items μ1 => (∃ ν, ν.Sublist μ1 ∧ I 0 ρ ν) ∧ (∀ i d ρ' μ', items[i]? = some d → I i ρ' μ' → GX c g js d ρ' μ' fun ρ2 μ2 => XS c tb ρ2 μ2 { nx := fun ρ3 μ3 => ∃ ν, ν.Sublist μ3 ∧ I (i + 1) ρ3 ν, ct := fun ρ3 μ3 => ∃ ν, ν.Sublist μ3 ∧ I (i + 1) ρ3 ν, bk := A.nx, rt := A.rt }) ∧ (∀ ρ' μ', I items.length ρ' μ' → A.nx ρ' μ')) :
    XS c (tFor wi g tb) ρ μ A := by
  refine XS.let (xs_for (js := js) (fun i ρ μ => ∃ ν, ν.Sublist μ ∧ I i ρ ν) (h.imp fun items μ1 z => ⟨z.1, fun i d ρ' μ' hd hI => ?_, fun ρ' μ' hI => ?_⟩))
  · obtain ⟨ν, sν, hI⟩ := hI
    exact ((z.2.1 i d ρ' ν hd hI).from sν).imp fun ρ2 μ2 y => y.imp (fun _ _ q => q) (fun _ _ q => q) (fun _ _ q => ⟨_, List.Sublist.refl _, q⟩) (fun _ _ q => q)
  · obtain ⟨ν, sν, hI⟩ := hI
    exact ⟨ν, sν, z.2.2 ρ' ν hI⟩
theorem xs_whileS {tt : TT} {tb : TS} (I : Nat → Env2 → Mu → Prop) (n0 : Nat) (h0 : I n0 ρ μ)
    (h : ∀ n ρ' μ', I n ρ' μ' → MW.T c tt ρ' μ' fun b μ1 => (b = true → XS c tb ρ' μ1 { nx := fun ρ2 μ2 => ∃ ν m, ν.Sublist μ2 ∧ m < n ∧ I m ρ2 ν, ct := fun ρ2 μ2 => ∃ ν m, ν.Sublist μ2 ∧ m < n ∧ I m ρ2 ν, bk := A.nx, rt := A.rt }) ∧ (b = false → A.nx ρ' μ1)) :
    XS c (tWhile tt tb) ρ μ A := by
  refine XS.let (xs_while (fun n ρ μ => ∃ ν, ν.Sublist μ ∧ I n ρ ν) n0 ⟨μ, List.Sublist.refl _, h0⟩ fun n ρ' μ' hI => ?_)
  obtain ⟨ν, sν, hI⟩ := hI
  intro σ H Q S q
  refine h n ρ' ν hI σ H Q (S.drop sν) fun b H' μ1 p S1 z => q b H' μ1 p S1 ⟨fun hb => (z.1 hb).imp (fun _ _ y => ?_) (fun _ _ y => y) (fun _ _ y => ⟨_, List.Sublist.refl _, y⟩) (fun _ _ y => ?_), fun hb => ⟨μ1, List.Sublist.refl _, z.2 hb⟩⟩
  · obtain ⟨ν, m, s1, hm, y⟩ := y
    exact ⟨m, hm, ν, s1, y⟩
  · obtain ⟨ν, m, s1, hm, y⟩ := y
    exact ⟨m, hm, ν, s1, y⟩
end
end MW
end
section
open MW L2
local macro_rules | `(tactic| walk_at "d1") => `(tactic| first
  | ((with_reducible refine x_varE ?_); refine ⟨_, rfl, ?_⟩)
  | with_reducible refine x_int ?_
  | with_reducible refine x_str ?_
  | with_reducible refine x_bl ?_
  | with_reducible refine x_non ?_
  | with_reducible refine x_ref ?_
  | with_reducible refine x_ty ?_
  | with_reducible refine x_op ?_
  | with_reducible refine x_un ?_
  | with_reducible refine a_nil ?_
  | with_reducible refine a_cons ?_
  | ((with_reducible refine x_tup ?_); walk_at "ad"; refine ⟨by first | exact (by decide) | (simp; done) | omega, ?_⟩)
  | ((with_reducible refine x_lst ?_); walk_at "ad"; refine ⟨by first | exact (by decide) | (simp; done) | omega, fun _ => ?_⟩)
  | with_reducible refine x_if ?_
  | with_reducible refine x_andV ?_
  | with_reducible refine x_orV ?_
  | with_reducible refine x_notV ?_
  | with_reducible refine t_test ?_
  | with_reducible refine t_B ?_
  | with_reducible refine t_yes ?_
  | with_reducible refine r_inS ?_
  | with_reducible refine r_notInS ?_
  | with_reducible refine t_and ?_
  | with_reducible refine t_or ?_
  | with_reducible refine t_not ?_
  | ((with_reducible refine x_fz ?_); walk_at "ad"; (first | refine ⟨_, _, 0, rfl, rfl, ?_⟩ | refine ⟨_, _, 1, rfl, rfl, ?_⟩ | refine ⟨_, _, 2, rfl, rfl, ?_⟩ | refine ⟨_, _, 3, rfl, rfl, ?_⟩))
  | with_reducible refine xs_seq ?_
  | with_reducible refine xs_next ?_
  | with_reducible refine xs_ret ?_
  | with_reducible refine xs_retN ?_
  | with_reducible refine xs_drop ?_
  | with_reducible apply xs_asg
  | with_reducible refine xs_if ?_
  | with_reducible refine g_name ?_
  | with_reducible refine gs_nil ?_
  | with_reducible apply gs_cons
  | ((with_reducible apply g_tup); exact rfl)
  | with_reducible refine x_chain ?_
  | with_reducible refine x_CB ?_
  | with_reducible refine x_call0 ?_
  | with_reducible refine x_sl ?_
  | with_reducible refine o_none ?_
  | with_reducible refine o_some ?_
  | ((with_reducible refine x_prop ?_); walk_at "ad"; refine ⟨_, _, _, rfl, rfl, ?_⟩)
  | with_reducible refine r_I0 ?_
  | with_reducible refine r_I0b ?_
  | with_reducible refine r_eqI ?_
  | with_reducible refine r_neI ?_
  | with_reducible refine r_eqS ?_
  | with_reducible refine r_neS ?_
  | with_reducible refine r_isN ?_
  | with_reducible refine r_notN ?_
  | with_reducible refine u_neg ?_
  | ((with_reducible refine r_ixTE ?_); first | refine ⟨_, ‹_›, ?_⟩ | refine ⟨_, rfl, ?_⟩)
  | ((with_reducible refine r_ixLE ?_); first | refine ⟨_, ‹_›, ?_⟩ | refine ⟨_, rfl, ?_⟩)
  | ((with_reducible refine k_isIE ?_); refine ⟨_, rfl, ?_⟩)
  | ((with_reducible refine k_isSE ?_); refine ⟨_, rfl, ?_⟩)
  | ((with_reducible refine k_isTE ?_); refine ⟨_, rfl, ?_⟩)
  | ((with_reducible refine x_BM ?_); walk_at "ad"; first | refine ⟨ty_lst (j := 0) rfl, ?_⟩ | refine ⟨ty_lst (j := 1) rfl, ?_⟩ | refine ⟨ty_lst (j := 2) rfl, ?_⟩ | refine ⟨ty_lst (j := 3) rfl, ?_⟩)
  | ((with_reducible refine m_appE ?_); (first | refine ⟨0, _, rfl, ?_, ?_⟩ | refine ⟨1, _, rfl, ?_, ?_⟩ | refine ⟨2, _, rfl, ?_, ?_⟩ | refine ⟨3, _, rfl, ?_, ?_⟩); (walk_at "len"))
  | ((with_reducible refine k_lenS ?_ ?_); (walk_at "len"))
  | ((with_reducible refine s_txt ?_ ?_); (walk_at "len"))
  | ((with_reducible refine r_ixSE ?_ ?_); (walk_at "len"); (first | refine ⟨_, ‹_›, ?_⟩ | refine ⟨_, rfl, ?_⟩))
  | with_reducible refine k_lenT ?_
  | with_reducible refine k_lenL ?_
  | ((with_reducible refine k_lenME ?_); (first | refine ⟨0, _, rfl, ?_⟩ | refine ⟨1, _, rfl, ?_⟩ | refine ⟨2, _, rfl, ?_⟩ | refine ⟨3, _, rfl, ?_⟩))
  | ((with_reducible refine r_ixME ?_); (first | refine ⟨0, _, _, rfl, ‹_›, ?_⟩ | refine ⟨1, _, _, rfl, ‹_›, ?_⟩ | refine ⟨2, _, _, rfl, ‹_›, ?_⟩ | refine ⟨0, _, _, rfl, rfl, ?_⟩ | refine ⟨1, _, _, rfl, rfl, ?_⟩ | refine ⟨2, _, _, rfl, rfl, ?_⟩ | refine ⟨3, _, _, rfl, rfl, ?_⟩))
  | ((with_reducible refine x_tupleM ?_); walk_at "ad"; (first | refine ⟨_, 0, _, rfl, rfl, ?_⟩ | refine ⟨_, 1, _, rfl, rfl, ?_⟩ | refine ⟨_, 2, _, rfl, rfl, ?_⟩ | refine ⟨_, 3, _, rfl, rfl, ?_⟩))
  | ((with_reducible refine r_neT0 (n := 0) ?_ ?_ ?_); exact (by decide); exact (deep_dI _ _))
  | ((with_reducible refine x_rev2 ?_); walk_at "ad"; refine ⟨_, _, rfl, ?_⟩)
  | with_reducible refine x_join ?_
  | with_reducible refine i_enumT ?_
  | with_reducible refine i_rng1 ?_
  | with_reducible refine i_rng2 ?_
  | with_reducible refine i_tup ?_
  | with_reducible refine i_lst ?_
  | with_reducible refine i_str ?_
  | refine ⟨_, rfl, ?_⟩
  | ((with_reducible refine brT ?_ ?_); (first | assumption | exact rfl | decide +kernel))
  | ((with_reducible refine brF ?_ ?_); (first | assumption | exact rfl | decide +kernel)))
local macro_rules | `(tactic| walk_at "len") => `(tactic| first | assumption | omega | ((simp only [List.length_append, List.length_cons, List.length_nil, List.length_map, List.length_set]) <;> omega) | (simp; done) | (simp; omega))
local macro_rules | `(tactic| walk_at "ad") => `(tactic| repeat (walk_at "d1"))
local macro_rules | `(tactic| walk_at "sub") => `(tactic| first | exact List.nil_sublist _ | exact List.Sublist.refl _ | (refine List.Sublist.cons₂ _ ?_; walk_at "sub") | (refine List.Sublist.cons _ ?_; walk_at "sub"))
/-! Prices. -/
namespace MW
open PySem PySem.Spec PyProof.Rows L2
open C8 (pe_c pe_gc Cal)
inductive Stp where
  | ex (c : Nat)
  | mi (c : Nat)
  | sa (c : Nat)
  | wr (c d : Nat)
  | sw (c d : Nat)
abbrev stpD : Stp → D
  | .ex c => .tup [.str "extra", .str (tx [c])]
  | .mi c => .tup [.str "missing", .str (tx [c])]
  | .sa c => .tup [.str "same", .str (tx [c])]
  | .wr c d => .tup [.str "wrong", .str (tx [c]), .str (tx [d])]
  | .sw c d => .tup [.str "swapped", .str (tx [c]), .str (tx [d])]
def Stp.cost (s : Slp) : Stp → Int
  | .ex _ => s.ex
  | .mi _ => s.mi
  | .sa _ => 0
  | .wr _ _ => s.wr
  | .sw _ _ => s.sw.getD 0
def Stp.ok (s : Slp) : Stp → Prop
  | .sw _ _ => s.sw ≠ none
  | _ => True
def Stp.less : Stp → Nat
  | .ex _ => 0
  | .sw _ _ => 2
  | _ => 1
def Stp.fewer : Stp → Nat
  | .mi _ => 0
  | .sw _ _ => 2
  | _ => 1
def G_step_price (K : PySem.W.Frag) : Spc := fun ds R => ∃ (s : Slp) (k : Stp), k.ok s ∧ ds = [slpD K s, stpD k] ∧ R = fun d => d = .int (k.cost s)
abbrev N_step_price : List Str := ["slips", "step"]
theorem sc_step_price : FnScope N_step_price ["slips", "step"] (defScope s_step_price) := ⟨rfl, rfl, rfl, by decide +kernel, rfl, by decide +kernel, by decide +kernel⟩
theorem Tx.c_step_price {w : World} {K : PySem.W.Frag} {mg : Str → Option Value} {base : Heap} (T : Tx K mg) : Cal P0 w K mg base 3 "step_price" (spF (G_step_price K)) [] := by
  refine mkCal (k := 2) T.d_step_price T.g_step_price sc_step_price (fun _ _ _ _ _ _ us hl => match us, hl with | [_, _], _ => rfl) (by intro ds R h; obtain ⟨s, k, hk, rfl, rfl⟩ := h; rfl) fun cdv A outer s H E hr => ?_
  have nd := sc_step_price.nd
  refine ⟨_, (pss_cons (ps_if (pt_cmpR op_eq (pe_ix ix_tup (pv 1) pe_int (fun _ _ => rfl)) pe_str (nomark _)) (pss_one (ps_ret pe_int)) pss_nil)
  (pss_cons (ps_if (pt_cmpR op_eq (pe_ix ix_tup (pv 1) pe_int (fun _ _ => rfl)) pe_str (nomark _)) (pss_one (ps_ret (pe_P T.pr_wrong (pv 0) hr (by decide)))) pss_nil)
  (pss_cons (ps_if (pt_cmpR op_eq (pe_ix ix_tup (pv 1) pe_int (fun _ _ => rfl)) pe_str (nomark _)) (pss_one (ps_ret (pe_P T.pr_extra (pv 0) hr (by decide)))) pss_nil)
  (pss_one (ps_ret (pe_ifExp (pt_cmpR op_eq (pe_ix ix_tup (pv 1) pe_int (fun _ _ => rfl)) pe_str (nomark _)) (pe_P T.pr_missing (pv 0) hr (by decide)) (pe_P T.pr_swapped (pv 0) hr (by decide)))))))), ?_⟩
  rintro ds R ⟨s, k, hk, rfl, rfl⟩
  cases k <;> walk_at "ad"
  all_goals try exact rfl
  show optD s.sw = .int (s.sw.getD 0)
  cases e : s.sw with
  | none => exact absurd e hk
  | some x => rfl

/-- the last steps of a price -/
def steps (s : Slp) (w t : Wd) (n j : Nat) : List Stp :=
  (if 0 < n then [.ex (t.getD (n - 1) 0)] else []) ++ (if 0 < j then [.mi (w.getD (j - 1) 0)] else []) ++
  (if 0 < n ∧ 0 < j then [if t.getD (n - 1) 0 = w.getD (j - 1) 0 then .sa (w.getD (j - 1) 0) else .wr (w.getD (j - 1) 0) (t.getD (n - 1) 0)] else []) ++
  (match swp s w t n j with
   | none => []
   | some _ => [.sw (w.getD (j - 2) 0) (w.getD (j - 1) 0)])
abbrev stpT (k : Stp) : D := .tup [stpD k, .int (k.less : Int), .int (k.fewer : Int)]
def G_last_steps (K : PySem.W.Frag) : Spc := fun ds R => ∃ (s : Slp) (w t : Wd), w.length ≤ 100000 ∧ t.length ≤ 100000 ∧ ds = [slpD K s, .str (tx w), .str (tx t)] ∧ R = fun d => d = .lst ((steps s w t t.length w.length).map stpT)
abbrev N_last_steps : List Str := ["slips", "target", "text", "found", "is_same"]
theorem sc_last_steps : FnScope N_last_steps ["slips", "target", "text"] (defScope s_last_steps) := ⟨rfl, rfl, rfl, by decide +kernel, rfl, by decide +kernel, by decide +kernel⟩
theorem Tx.c_last_steps {w : World} {K : PySem.W.Frag} {mg : Str → Option Value} {base : Heap} (T : Tx K mg) : Cal P0 w K mg base 3 "last_steps" (spF (G_last_steps K)) [] := by
  refine mkCal (k := 2) T.d_last_steps T.g_last_steps sc_last_steps (fun _ _ _ _ _ _ us hl => match us, hl with | [_, _, _], _ => rfl) (by intro ds R h; obtain ⟨s, w, t, hw, ht, rfl, rfl⟩ := h; rfl) fun cdv A outer s H E hr => ?_
  have nd := sc_last_steps.nd
  refine ⟨_, (pss_cons (ps_set (i := 3) nd rfl (by first | exact Or.inl rfl | exact Or.inr rfl) (pe_lst pa_nil))
  (pss_cons (ps_if (pt_cmpR op_ne (pv 2) pe_str (nomark _)) (pss_one (ps_expr (pe_bm PySem.F.plainAttrs_list PySem.F.slot_list_append PySem.F.type_list_append mt_append (pv 3) (pa_cons (pe_tup (pa_cons (pe_tup (pa_cons pe_str (pa_cons (pe_ix ix_str (pv 2) (pe_un un_neg pe_int) (fun _ _ => rfl)) pa_nil))) (pa_cons pe_int (pa_cons pe_int pa_nil)))) pa_nil)))) pss_nil)
  (pss_cons (ps_if (pt_cmpR op_ne (pv 1) pe_str (nomark _)) (pss_one (ps_expr (pe_bm PySem.F.plainAttrs_list PySem.F.slot_list_append PySem.F.type_list_append mt_append (pv 3) (pa_cons (pe_tup (pa_cons (pe_tup (pa_cons pe_str (pa_cons (pe_ix ix_str (pv 1) (pe_un un_neg pe_int) (fun _ _ => rfl)) pa_nil))) (pa_cons pe_int (pa_cons pe_int pa_nil)))) pa_nil)))) pss_nil)
  (pss_cons (ps_if (PW.pt (pw_and (pt_cmpR op_ne (pv 2) pe_str (nomark _)) (pw_and1 (pt_cmpR op_ne (pv 1) pe_str (nomark _))))) (pss_cons (ps_set (i := 4) nd rfl (by first | exact Or.inl rfl | exact Or.inr rfl) (pe_cmpR op_eq (pe_ix ix_str (pv 2) (pe_un un_neg pe_int) (fun _ _ => rfl)) (pe_ix ix_str (pv 1) (pe_un un_neg pe_int) (fun _ _ => rfl)) (nomark _)))
  (pss_one (ps_expr (pe_bm PySem.F.plainAttrs_list PySem.F.slot_list_append PySem.F.type_list_append mt_append (pv 3) (pa_cons (pe_tup (pa_cons (pe_ifExp (pt_val (pv 4)) (pe_tup (pa_cons pe_str (pa_cons (pe_ix ix_str (pv 1) (pe_un un_neg pe_int) (fun _ _ => rfl)) pa_nil))) (pe_tup (pa_cons pe_str (pa_cons (pe_ix ix_str (pv 1) (pe_un un_neg pe_int) (fun _ _ => rfl)) (pa_cons (pe_ix ix_str (pv 2) (pe_un un_neg pe_int) (fun _ _ => rfl)) pa_nil))))) (pa_cons pe_int (pa_cons pe_int pa_nil)))) pa_nil))))) pss_nil)
  (pss_cons (ps_if (PW.pt (pw_and (pt_cmpR op_notN (pe_P T.pr_swapped (pv 0) hr (by decide)) pe_non (nomark _)) (pw_and (pt_cmpR op_gt (pe_callB call_len_str (by rfl) T.f_len boot_len (pa_cons (pv 2) pa_nil)) pe_int (nomark _)) (pw_and1 (pt_cmpR op_gt (pe_callB call_len_str (by rfl) T.f_len boot_len (pa_cons (pv 1) pa_nil)) pe_int (nomark _)))))) (pss_one (ps_if (PW.pt (pw_and (pt_cmpR op_eq (pe_ix ix_str (pv 2) (pe_un un_neg pe_int) (fun _ _ => rfl)) (pe_ix ix_str (pv 1) (pe_un un_neg pe_int) (fun _ _ => rfl)) (nomark _)) (pw_and (pt_cmpR op_eq (pe_ix ix_str (pv 2) (pe_un un_neg pe_int) (fun _ _ => rfl)) (pe_ix ix_str (pv 1) (pe_un un_neg pe_int) (fun _ _ => rfl)) (nomark _)) (pw_and1 (pt_cmpR op_ne (pe_ix ix_str (pv 2) (pe_un un_neg pe_int) (fun _ _ => rfl)) (pe_ix ix_str (pv 2) (pe_un un_neg pe_int) (fun _ _ => rfl)) (nomark _)))))) (pss_one (ps_expr (pe_bm PySem.F.plainAttrs_list PySem.F.slot_list_append PySem.F.type_list_append mt_append (pv 3) (pa_cons (pe_tup (pa_cons (pe_tup (pa_cons pe_str (pa_cons (pe_ix ix_str (pv 1) (pe_un un_neg pe_int) (fun _ _ => rfl)) (pa_cons (pe_ix ix_str (pv 1) (pe_un un_neg pe_int) (fun _ _ => rfl)) pa_nil)))) (pa_cons pe_int (pa_cons pe_int pa_nil)))) pa_nil)))) pss_nil)) pss_nil)
  (pss_one (ps_ret (pe_fz (pv 3))))))))), ?_⟩
  rintro ds R ⟨s, w, t, hw, ht, rfl, rfl⟩
  by_cases h1 : t = []
  · have e1 := tx_eqN h1
    have e5 : decide ((1 : Int) < ((t.length : Nat) : Int)) = false := decide_eq_false (by simp [h1])
    have g1 : ¬ (0 < t.length) := by simp [h1]
    have g3 : ¬ (0 < t.length ∧ 0 < w.length) := fun z => g1 z.1
    by_cases h2 : w = []
    · have e2 := tx_eqN h2
      have g2 : ¬ (0 < w.length) := by simp [h2]
      cases e3 : s.sw with
      | none =>
        have e4 : (!(optD s.sw).isN) = false := by rw [e3]; rfl
        have hz : swp s w t t.length w.length = none := by
          unfold swp
          rw [e3]
        walk_at "ad"
        refine (congrArg D.lst ?_ : D.lst _ = D.lst _)
        unfold steps
        rw [hz, if_neg g1, if_neg g2, if_neg g3]
        rfl
      | some x =>
        have e4 : (!(optD s.sw).isN) = true := by rw [e3]; rfl
        have hz : swp s w t t.length w.length = none := by
          unfold swp
          rw [e3]
          exact if_neg fun z => g1 (Nat.lt_of_lt_of_le (by decide) z.1)
        walk_at "ad"
        refine (congrArg D.lst ?_ : D.lst _ = D.lst _)
        unfold steps
        rw [hz, if_neg g1, if_neg g2, if_neg g3]
        rfl
    · have e2 := tx_neN h2
      have g2 : 0 < w.length := List.length_pos_iff.mpr h2
      have i1 : L2.atI w (-(1 : Int)) = some (w.getD (w.length - 1) 0) := atI_neg (k := 1) (Nat.le_refl 1) g2
      cases e3 : s.sw with
      | none =>
        have e4 : (!(optD s.sw).isN) = false := by rw [e3]; rfl
        have hz : swp s w t t.length w.length = none := by
          unfold swp
          rw [e3]
        walk_at "ad"
        refine (congrArg D.lst ?_ : D.lst _ = D.lst _)
        unfold steps
        rw [hz, if_neg g1, if_pos g2, if_neg g3]
        rfl
      | some x =>
        have e4 : (!(optD s.sw).isN) = true := by rw [e3]; rfl
        have hz : swp s w t t.length w.length = none := by
          unfold swp
          rw [e3]
          exact if_neg fun z => g1 (Nat.lt_of_lt_of_le (by decide) z.1)
        walk_at "ad"
        refine (congrArg D.lst ?_ : D.lst _ = D.lst _)
        unfold steps
        rw [hz, if_neg g1, if_pos g2, if_neg g3]
        rfl
  · have e1 := tx_neN h1
    have g1 : 0 < t.length := List.length_pos_iff.mpr h1
    have i1 : L2.atI t (-(1 : Int)) = some (t.getD (t.length - 1) 0) := atI_neg (k := 1) (Nat.le_refl 1) g1
    by_cases h2 : w = []
    · have e2 := tx_eqN h2
      have g2 : ¬ (0 < w.length) := by simp [h2]
      have g3 : ¬ (0 < t.length ∧ 0 < w.length) := fun z => g2 z.2
      have e6 : decide ((1 : Int) < ((w.length : Nat) : Int)) = false := decide_eq_false (by simp [h2])
      cases e3 : s.sw with
      | none =>
        have e4 : (!(optD s.sw).isN) = false := by rw [e3]; rfl
        have hz : swp s w t t.length w.length = none := by
          unfold swp
          rw [e3]
        walk_at "ad"
        refine (congrArg D.lst ?_ : D.lst _ = D.lst _)
        unfold steps
        rw [hz, if_pos g1, if_neg g2, if_neg g3]
        rfl
      | some x =>
        have e4 : (!(optD s.sw).isN) = true := by rw [e3]; rfl
        by_cases h5 : 1 < t.length
        · have e5 : decide ((1 : Int) < ((t.length : Nat) : Int)) = true := decide_eq_true (by omega)
          have hz : swp s w t t.length w.length = none := by
            unfold swp
            rw [e3]
            exact if_neg fun z => g2 (Nat.lt_of_lt_of_le (by decide) z.2.1)
          walk_at "ad"
          refine (congrArg D.lst ?_ : D.lst _ = D.lst _)
          unfold steps
          rw [hz, if_pos g1, if_neg g2, if_neg g3]
          rfl
        · have e5 : decide ((1 : Int) < ((t.length : Nat) : Int)) = false := decide_eq_false (by omega)
          have hz : swp s w t t.length w.length = none := by
            unfold swp
            rw [e3]
            exact if_neg fun z => g2 (Nat.lt_of_lt_of_le (by decide) z.2.1)
          walk_at "ad"
          refine (congrArg D.lst ?_ : D.lst _ = D.lst _)
          unfold steps
          rw [hz, if_pos g1, if_neg g2, if_neg g3]
          rfl
    · have e2 := tx_neN h2
      have g2 : 0 < w.length := List.length_pos_iff.mpr h2
      have g3 := And.intro g1 g2
      have i2 : L2.atI w (-(1 : Int)) = some (w.getD (w.length - 1) 0) := atI_neg (k := 1) (Nat.le_refl 1) g2
      have same : decide (tx [t.getD (t.length - 1) 0] = tx [w.getD (w.length - 1) 0]) = decide (t.getD (t.length - 1) 0 = w.getD (w.length - 1) 0) := dec_eq (by rw [tx_eq, List.cons.injEq]; simp)
      cases e3 : s.sw with
      | none =>
        have e4 : (!(optD s.sw).isN) = false := by rw [e3]; rfl
        by_cases hb : t.getD (t.length - 1) 0 = w.getD (w.length - 1) 0
        · have e7 := same.trans (decide_eq_true hb)
          have hz : swp s w t t.length w.length = none := by
            unfold swp
            rw [e3]
          walk_at "ad"
          refine (congrArg D.lst ?_ : D.lst _ = D.lst _)
          unfold steps
          rw [hz, if_pos g1, if_pos g2, if_pos g3, if_pos hb]
          rfl
        · have e7 := same.trans (decide_eq_false hb)
          have hz : swp s w t t.length w.length = none := by
            unfold swp
            rw [e3]
          walk_at "ad"
          refine (congrArg D.lst ?_ : D.lst _ = D.lst _)
          unfold steps
          rw [hz, if_pos g1, if_pos g2, if_pos g3, if_neg hb]
          rfl
      | some x =>
        have e4 : (!(optD s.sw).isN) = true := by rw [e3]; rfl
        by_cases h5 : 1 < t.length
        · have e5 : decide ((1 : Int) < ((t.length : Nat) : Int)) = true := decide_eq_true (by omega)
          have i3 : L2.atI t (-(2 : Int)) = some (t.getD (t.length - 2) 0) := atI_neg (k := 2) (by decide) h5
          by_cases h6 : 1 < w.length
          · have e6 : decide ((1 : Int) < ((w.length : Nat) : Int)) = true := decide_eq_true (by omega)
            have i4 : L2.atI w (-(2 : Int)) = some (w.getD (w.length - 2) 0) := atI_neg (k := 2) (by decide) h6
            by_cases k1 : t.getD (t.length - 1) 0 = w.getD (w.length - 2) 0
            · have d1 : decide (tx [t.getD (t.length - 1) 0] = tx [w.getD (w.length - 2) 0]) = true := decide_eq_true (by rw [k1])
              by_cases k2 : t.getD (t.length - 2) 0 = w.getD (w.length - 1) 0
              · have d2 : decide (tx [t.getD (t.length - 2) 0] = tx [w.getD (w.length - 1) 0]) = true := decide_eq_true (by rw [k2])
                by_cases k3 : t.getD (t.length - 1) 0 ≠ t.getD (t.length - 2) 0
                · have d3 : (!decide (tx [t.getD (t.length - 1) 0] = tx [t.getD (t.length - 2) 0])) = true := by rw [decide_eq_false (fun z => k3 (List.cons.inj (tx_inj z)).1)]; rfl
                  by_cases hb : t.getD (t.length - 1) 0 = w.getD (w.length - 1) 0
                  · have e7 := same.trans (decide_eq_true hb)
                    have hz : swp s w t t.length w.length = some x := by
                      unfold swp
                      rw [e3]
                      exact if_pos ⟨h5, h6, k1, k2, k3⟩
                    walk_at "ad"
                    refine (congrArg D.lst ?_ : D.lst _ = D.lst _)
                    unfold steps
                    rw [hz, if_pos g1, if_pos g2, if_pos g3, if_pos hb]
                    rfl
                  · have e7 := same.trans (decide_eq_false hb)
                    have hz : swp s w t t.length w.length = some x := by
                      unfold swp
                      rw [e3]
                      exact if_pos ⟨h5, h6, k1, k2, k3⟩
                    walk_at "ad"
                    refine (congrArg D.lst ?_ : D.lst _ = D.lst _)
                    unfold steps
                    rw [hz, if_pos g1, if_pos g2, if_pos g3, if_neg hb]
                    rfl
                · have d3 : (!decide (tx [t.getD (t.length - 1) 0] = tx [t.getD (t.length - 2) 0])) = false := by rw [decide_eq_true (by rw [Classical.not_not.mp k3])]; rfl
                  by_cases hb : t.getD (t.length - 1) 0 = w.getD (w.length - 1) 0
                  · have e7 := same.trans (decide_eq_true hb)
                    have hz : swp s w t t.length w.length = none := by
                      unfold swp
                      rw [e3]
                      exact if_neg fun z => z.2.2.2.2 (Classical.not_not.mp k3)
                    walk_at "ad"
                    refine (congrArg D.lst ?_ : D.lst _ = D.lst _)
                    unfold steps
                    rw [hz, if_pos g1, if_pos g2, if_pos g3, if_pos hb]
                    rfl
                  · have e7 := same.trans (decide_eq_false hb)
                    have hz : swp s w t t.length w.length = none := by
                      unfold swp
                      rw [e3]
                      exact if_neg fun z => z.2.2.2.2 (Classical.not_not.mp k3)
                    walk_at "ad"
                    refine (congrArg D.lst ?_ : D.lst _ = D.lst _)
                    unfold steps
                    rw [hz, if_pos g1, if_pos g2, if_pos g3, if_neg hb]
                    rfl
              · have d2 : decide (tx [t.getD (t.length - 2) 0] = tx [w.getD (w.length - 1) 0]) = false := decide_eq_false (fun z => k2 (List.cons.inj (tx_inj z)).1)
                by_cases hb : t.getD (t.length - 1) 0 = w.getD (w.length - 1) 0
                · have e7 := same.trans (decide_eq_true hb)
                  have hz : swp s w t t.length w.length = none := by
                    unfold swp
                    rw [e3]
                    exact if_neg fun z => k2 z.2.2.2.1
                  walk_at "ad"
                  refine (congrArg D.lst ?_ : D.lst _ = D.lst _)
                  unfold steps
                  rw [hz, if_pos g1, if_pos g2, if_pos g3, if_pos hb]
                  rfl
                · have e7 := same.trans (decide_eq_false hb)
                  have hz : swp s w t t.length w.length = none := by
                    unfold swp
                    rw [e3]
                    exact if_neg fun z => k2 z.2.2.2.1
                  walk_at "ad"
                  refine (congrArg D.lst ?_ : D.lst _ = D.lst _)
                  unfold steps
                  rw [hz, if_pos g1, if_pos g2, if_pos g3, if_neg hb]
                  rfl
            · have d1 : decide (tx [t.getD (t.length - 1) 0] = tx [w.getD (w.length - 2) 0]) = false := decide_eq_false (fun z => k1 (List.cons.inj (tx_inj z)).1)
              by_cases hb : t.getD (t.length - 1) 0 = w.getD (w.length - 1) 0
              · have e7 := same.trans (decide_eq_true hb)
                have hz : swp s w t t.length w.length = none := by
                  unfold swp
                  rw [e3]
                  exact if_neg fun z => k1 z.2.2.1
                walk_at "ad"
                refine (congrArg D.lst ?_ : D.lst _ = D.lst _)
                unfold steps
                rw [hz, if_pos g1, if_pos g2, if_pos g3, if_pos hb]
                rfl
              · have e7 := same.trans (decide_eq_false hb)
                have hz : swp s w t t.length w.length = none := by
                  unfold swp
                  rw [e3]
                  exact if_neg fun z => k1 z.2.2.1
                walk_at "ad"
                refine (congrArg D.lst ?_ : D.lst _ = D.lst _)
                unfold steps
                rw [hz, if_pos g1, if_pos g2, if_pos g3, if_neg hb]
                rfl
          · have e6 : decide ((1 : Int) < ((w.length : Nat) : Int)) = false := decide_eq_false (by omega)
            by_cases hb : t.getD (t.length - 1) 0 = w.getD (w.length - 1) 0
            · have e7 := same.trans (decide_eq_true hb)
              have hz : swp s w t t.length w.length = none := by
                unfold swp
                rw [e3]
                exact if_neg fun z => h6 z.2.1
              walk_at "ad"
              refine (congrArg D.lst ?_ : D.lst _ = D.lst _)
              unfold steps
              rw [hz, if_pos g1, if_pos g2, if_pos g3, if_pos hb]
              rfl
            · have e7 := same.trans (decide_eq_false hb)
              have hz : swp s w t t.length w.length = none := by
                unfold swp
                rw [e3]
                exact if_neg fun z => h6 z.2.1
              walk_at "ad"
              refine (congrArg D.lst ?_ : D.lst _ = D.lst _)
              unfold steps
              rw [hz, if_pos g1, if_pos g2, if_pos g3, if_neg hb]
              rfl
        · have e5 : decide ((1 : Int) < ((t.length : Nat) : Int)) = false := decide_eq_false (by omega)
          by_cases hb : t.getD (t.length - 1) 0 = w.getD (w.length - 1) 0
          · have e7 := same.trans (decide_eq_true hb)
            have hz : swp s w t t.length w.length = none := by
              unfold swp
              rw [e3]
              exact if_neg fun z => h5 z.1
            walk_at "ad"
            refine (congrArg D.lst ?_ : D.lst _ = D.lst _)
            unfold steps
            rw [hz, if_pos g1, if_pos g2, if_pos g3, if_pos hb]
            rfl
          · have e7 := same.trans (decide_eq_false hb)
            have hz : swp s w t t.length w.length = none := by
              unfold swp
              rw [e3]
              exact if_neg fun z => h5 z.1
            walk_at "ad"
            refine (congrArg D.lst ?_ : D.lst _ = D.lst _)
            unfold steps
            rw [hz, if_pos g1, if_pos g2, if_pos g3, if_neg hb]
            rfl

end MW
end
section
open MW L2
local macro_rules | `(tactic| walk_at "d1") => `(tactic| first
  | ((with_reducible refine x_varE ?_); refine ⟨_, rfl, ?_⟩)
  | with_reducible refine x_int ?_
  | with_reducible refine x_str ?_
  | with_reducible refine x_bl ?_
  | with_reducible refine x_non ?_
  | with_reducible refine x_ref ?_
  | with_reducible refine x_ty ?_
  | with_reducible refine x_op ?_
  | with_reducible refine x_un ?_
  | with_reducible refine a_nil ?_
  | with_reducible refine a_cons ?_
  | ((with_reducible refine x_tup ?_); walk_at "ad"; refine ⟨by first | exact (by decide) | (simp; done) | omega, ?_⟩)
  | ((with_reducible refine x_lst ?_); walk_at "ad"; refine ⟨by first | exact (by decide) | (simp; done) | omega, fun _ => ?_⟩)
  | with_reducible refine x_if ?_
  | with_reducible refine x_andV ?_
  | with_reducible refine x_orV ?_
  | with_reducible refine x_notV ?_
  | with_reducible refine t_test ?_
  | with_reducible refine t_B ?_
  | with_reducible refine t_yes ?_
  | with_reducible refine r_inS ?_
  | with_reducible refine r_notInS ?_
  | with_reducible refine t_and ?_
  | with_reducible refine t_or ?_
  | with_reducible refine t_not ?_
  | ((with_reducible refine x_fz ?_); walk_at "ad"; (first | refine ⟨_, _, 0, rfl, rfl, ?_⟩ | refine ⟨_, _, 1, rfl, rfl, ?_⟩ | refine ⟨_, _, 2, rfl, rfl, ?_⟩ | refine ⟨_, _, 3, rfl, rfl, ?_⟩))
  | with_reducible refine xs_seq ?_
  | with_reducible refine xs_next ?_
  | with_reducible refine xs_ret ?_
  | with_reducible refine xs_retN ?_
  | with_reducible refine xs_drop ?_
  | with_reducible apply xs_asg
  | with_reducible refine xs_if ?_
  | with_reducible refine g_name ?_
  | with_reducible refine gs_nil ?_
  | with_reducible apply gs_cons
  | ((with_reducible apply g_tup); exact rfl)
  | with_reducible refine x_chain ?_
  | with_reducible refine x_CB ?_
  | with_reducible refine x_call0 ?_
  | with_reducible refine x_sl ?_
  | with_reducible refine o_none ?_
  | with_reducible refine o_some ?_
  | ((with_reducible refine x_prop ?_); walk_at "ad"; refine ⟨_, _, _, rfl, rfl, ?_⟩)
  | with_reducible refine r_I0 ?_
  | with_reducible refine r_I0b ?_
  | with_reducible refine r_eqI ?_
  | with_reducible refine r_neI ?_
  | with_reducible refine r_eqS ?_
  | with_reducible refine r_neS ?_
  | with_reducible refine r_isN ?_
  | with_reducible refine r_notN ?_
  | with_reducible refine u_neg ?_
  | ((with_reducible refine r_ixTE ?_); first | refine ⟨_, ‹_›, ?_⟩ | refine ⟨_, rfl, ?_⟩)
  | ((with_reducible refine r_ixLE ?_); first | refine ⟨_, ‹_›, ?_⟩ | refine ⟨_, rfl, ?_⟩)
  | ((with_reducible refine k_isIE ?_); refine ⟨_, rfl, ?_⟩)
  | ((with_reducible refine k_isSE ?_); refine ⟨_, rfl, ?_⟩)
  | ((with_reducible refine k_isTE ?_); refine ⟨_, rfl, ?_⟩)
  | ((with_reducible refine x_BM ?_); walk_at "ad"; first | refine ⟨ty_lst (j := 0) rfl, ?_⟩ | refine ⟨ty_lst (j := 1) rfl, ?_⟩ | refine ⟨ty_lst (j := 2) rfl, ?_⟩ | refine ⟨ty_lst (j := 3) rfl, ?_⟩)
  | ((with_reducible refine m_appE ?_); (first | refine ⟨0, _, rfl, ?_, ?_⟩ | refine ⟨1, _, rfl, ?_, ?_⟩ | refine ⟨2, _, rfl, ?_, ?_⟩ | refine ⟨3, _, rfl, ?_, ?_⟩); (walk_at "len"))
  | ((with_reducible refine k_lenS ?_ ?_); (walk_at "len"))
  | ((with_reducible refine s_txt ?_ ?_); (walk_at "len"))
  | ((with_reducible refine r_ixSE ?_ ?_); (walk_at "len"); (first | refine ⟨_, ‹_›, ?_⟩ | refine ⟨_, rfl, ?_⟩))
  | with_reducible refine k_lenT ?_
  | with_reducible refine k_lenL ?_
  | ((with_reducible refine k_lenME ?_); (first | refine ⟨0, _, rfl, ?_⟩ | refine ⟨1, _, rfl, ?_⟩ | refine ⟨2, _, rfl, ?_⟩ | refine ⟨3, _, rfl, ?_⟩))
  | ((with_reducible refine r_ixME ?_); (first | refine ⟨0, _, _, rfl, ‹_›, ?_⟩ | refine ⟨1, _, _, rfl, ‹_›, ?_⟩ | refine ⟨2, _, _, rfl, ‹_›, ?_⟩ | refine ⟨0, _, _, rfl, rfl, ?_⟩ | refine ⟨1, _, _, rfl, rfl, ?_⟩ | refine ⟨2, _, _, rfl, rfl, ?_⟩ | refine ⟨3, _, _, rfl, rfl, ?_⟩))
  | ((with_reducible refine x_tupleM ?_); walk_at "ad"; (first | refine ⟨_, 0, _, rfl, rfl, ?_⟩ | refine ⟨_, 1, _, rfl, rfl, ?_⟩ | refine ⟨_, 2, _, rfl, rfl, ?_⟩ | refine ⟨_, 3, _, rfl, rfl, ?_⟩))
  | ((with_reducible refine r_neT0 (n := 0) ?_ ?_ ?_); exact (by decide); exact (deep_dI _ _))
  | ((with_reducible refine x_rev2 ?_); walk_at "ad"; refine ⟨_, _, rfl, ?_⟩)
  | with_reducible refine x_join ?_
  | with_reducible refine i_enumT ?_
  | with_reducible refine i_rng1 ?_
  | with_reducible refine i_rng2 ?_
  | with_reducible refine i_tup ?_
  | with_reducible refine i_lst ?_
  | with_reducible refine i_str ?_
  | refine ⟨_, rfl, ?_⟩
  | ((with_reducible refine brT ?_ ?_); (first | assumption | exact rfl | decide +kernel))
  | ((with_reducible refine brF ?_ ?_); (first | assumption | exact rfl | decide +kernel)))
local macro_rules | `(tactic| walk_at "len") => `(tactic| first | assumption | omega | ((simp only [List.length_append, List.length_cons, List.length_nil, List.length_map, List.length_set]) <;> omega) | (simp; done) | (simp; omega))
local macro_rules | `(tactic| walk_at "ad") => `(tactic| repeat (walk_at "d1"))
local macro_rules | `(tactic| walk_at "sub") => `(tactic| first | exact List.nil_sublist _ | exact List.Sublist.refl _ | (refine List.Sublist.cons₂ _ ?_; walk_at "sub") | (refine List.Sublist.cons _ ?_; walk_at "sub"))
/-! price_lines, price. -/
namespace MW
open PySem PySem.Spec PyProof.Rows L2
open C8 (pe_c pe_gc Cal)
theorem pr_steps (s : Slp) (w t : Wd) : ∀ n j : Nat, pr s w t n j = if steps s w t n j = [] then 0 else lmin ((steps s w t n j).map fun k => pr s w t (n - k.fewer) (j - k.less) + k.cost s)
  | 0, 0 => by
    have e : steps s w t 0 0 = [] := by
      unfold steps swp
      cases s.sw <;> simp
    rw [e, if_pos rfl, pr]
  | 0, j + 1 => by
    have e : steps s w t 0 (j + 1) = [.mi (w.getD j 0)] := by
      unfold steps swp
      cases s.sw <;> simp
    rw [e, if_neg (by simp), pr]
    rfl
  | n + 1, 0 => by
    have e : steps s w t (n + 1) 0 = [.ex (t.getD n 0)] := by
      unfold steps swp
      cases s.sw <;> simp
    rw [e, if_neg (by simp), pr]
    rfl
  | n + 1, j + 1 => by
    have ne : steps s w t (n + 1) (j + 1) ≠ [] := by
      unfold steps
      simp
    rw [if_neg ne, pr]
    unfold steps
    rw [if_pos (Nat.succ_pos n), if_pos (Nat.succ_pos j), if_pos (And.intro (Nat.succ_pos n) (Nat.succ_pos j))]
    simp only [Nat.add_sub_cancel]
    unfold sub
    cases e : swp s w t (n + 1) (j + 1) with
    | none =>
      by_cases h : t.getD n 0 = w.getD j 0
      · rw [if_pos h, if_pos h.symm]
        rfl
      · rw [if_neg h, if_neg (fun z => h z.symm)]
        rfl
    | some p =>
      have hp : s.sw.getD 0 = p := by
        unfold swp at e
        cases e2 : s.sw with
        | none =>
          rw [e2] at e
          cases e
        | some q =>
          rw [e2] at e
          simp only at e
          split at e
          · exact Option.some.inj e
          · cases e
      subst hp
      by_cases h : t.getD n 0 = w.getD j 0
      · rw [if_pos h, if_pos h.symm]
        rfl
      · rw [if_neg h, if_neg (fun z => h z.symm)]
        rfl
theorem getD_take {l : Wd} {n i : Nat} (h : i < n) : (l.take n).getD i 0 = l.getD i 0 := by
  rw [List.getD_eq_getElem?_getD, List.getD_eq_getElem?_getD, List.getElem?_take_of_lt h]
theorem steps_take {s : Slp} {w t : Wd} {n j : Nat} : steps s (w.take j) (t.take n) n j = steps s w t n j := by
  have a1 : 0 < n → (t.take n).getD (n - 1) 0 = t.getD (n - 1) 0 := fun h => getD_take (by omega)
  have a2 : 0 < n → (t.take n).getD (n - 2) 0 = t.getD (n - 2) 0 := fun h => getD_take (by omega)
  have b1 : 0 < j → (w.take j).getD (j - 1) 0 = w.getD (j - 1) 0 := fun h => getD_take (by omega)
  have b2 : 0 < j → (w.take j).getD (j - 2) 0 = w.getD (j - 2) 0 := fun h => getD_take (by omega)
  unfold steps swp
  by_cases hn : 0 < n
  · rw [a1 hn, a2 hn]
    by_cases hj : 0 < j
    · rw [b1 hj, b2 hj]
    · have e : j = 0 := by omega
      subst e
      cases s.sw <;> simp
  · have e : n = 0 := by omega
    subst e
    by_cases hj : 0 < j
    · rw [b1 hj, b2 hj]
      cases s.sw <;> simp
    · have e : j = 0 := by omega
      subst e
      cases s.sw <;> simp
theorem steps_in {s : Slp} {w t : Wd} {n j : Nat} {k : Stp} (h : k ∈ steps s w t n j) : k.fewer ≤ n ∧ k.less ≤ j ∧ (k.fewer ≠ 0 ∨ k.less ≠ 0) ∧ k.ok s := by
  unfold steps at h
  simp only [List.mem_append] at h
  rcases h with ((h | h) | h) | h
  · split at h
    · rw [List.mem_singleton] at h
      subst h
      rename_i z
      exact ⟨z, Nat.zero_le _, .inl Nat.one_ne_zero, trivial⟩
    · cases h
  · split at h
    · rw [List.mem_singleton] at h
      subst h
      rename_i z
      exact ⟨Nat.zero_le _, z, .inr Nat.one_ne_zero, trivial⟩
    · cases h
  · split at h
    · rename_i z
      rw [List.mem_singleton] at h
      subst h
      split
      · exact ⟨z.1, z.2, .inl Nat.one_ne_zero, trivial⟩
      · exact ⟨z.1, z.2, .inl Nat.one_ne_zero, trivial⟩
    · cases h
  · cases e : swp s w t n j with
    | none =>
      rw [e] at h
      cases h
    | some p =>
      rw [e] at h
      rw [List.mem_singleton] at h
      subst h
      unfold swp at e
      cases e2 : s.sw with
      | none =>
        rw [e2] at e
        cases e
      | some q =>
        rw [e2] at e
        simp only at e
        split at e
        · rename_i z
          exact ⟨z.1, z.2.1, .inl (by show (2 : Nat) ≠ 0; decide), by show s.sw ≠ none; rw [e2]; simp⟩
        · cases e
theorem steps_len (s : Slp) (w t : Wd) (n j : Nat) : (steps s w t n j).length ≤ 4 := by
  have h4 : ∀ o : Option Int, (match o with
    | none => ([] : List Stp)
    | some _ => [.sw (w.getD (j - 2) 0) (w.getD (j - 1) 0)]).length ≤ 1 := fun o => by cases o <;> simp
  have h1 : (if 0 < n then [Stp.ex (t.getD (n - 1) 0)] else []).length ≤ 1 := by split <;> simp
  have h2 : (if 0 < j then [Stp.mi (w.getD (j - 1) 0)] else []).length ≤ 1 := by split <;> simp
  have h3 : (if 0 < n ∧ 0 < j then [if t.getD (n - 1) 0 = w.getD (j - 1) 0 then Stp.sa (w.getD (j - 1) 0) else .wr (w.getD (j - 1) 0) (t.getD (n - 1) 0)] else []).length ≤ 1 := by split <;> simp
  have h5 := h4 (swp s w t n j)
  unfold steps
  rw [List.length_append, List.length_append, List.length_append]
  exact Nat.add_le_add (Nat.add_le_add (Nat.add_le_add h1 h2) h3) h5
theorem cut_to {α : Type} {l : List α} {n : Nat} (h : n ≤ l.length) : cut l none (some (n : Int)) = l.take n := by
  unfold cut
  rw [HT.sIx_nat, HT.sIx_none, Nat.min_eq_left h]
  simp
/-- a line of prices -/
def pline (s : Slp) (w t : Wd) (n k : Nat) : List Int := (List.range k).map fun j => pr s w t n j
theorem pline_succ (s : Slp) (w t : Wd) (n k : Nat) : pline s w t n (k + 1) = pline s w t n k ++ [pr s w t n k] := by
  unfold pline
  rw [List.range_succ, List.map_append]
  rfl
theorem pline_at {s : Slp} {w t : Wd} {n k j : Nat} (h : j < k) : (pline s w t n k)[j]? = some (pr s w t n j) := by
  unfold pline
  rw [List.getElem?_map, List.getElem?_range h]
  rfl
def plines (s : Slp) (w t : Wd) (n : Nat) : List D := (List.range n).map fun i => .lst (dI (pline s w t i (w.length + 1)))
theorem plines_succ (s : Slp) (w t : Wd) (n : Nat) : plines s w t (n + 1) = plines s w t n ++ [.lst (dI (pline s w t n (w.length + 1)))] := by
  unfold plines
  rw [List.range_succ, List.map_append]
  rfl
theorem plines_at {s : Slp} {w t : Wd} {n i : Nat} (h : i < n) : (plines s w t n)[i]? = some (.lst (dI (pline s w t i (w.length + 1)))) := by
  unfold plines
  rw [List.getElem?_map, List.getElem?_range h]
  rfl
theorem plines_len (s : Slp) (w t : Wd) (n : Nat) : (plines s w t n).length = n := by simp [plines]
theorem pline_len (s : Slp) (w t : Wd) (n k : Nat) : (pline s w t n k).length = k := by simp [pline]
theorem dI_app (a : List Int) (i : Int) : dI (a ++ [i]) = dI a ++ [.int i] := by simp [dI]
theorem dI_at {l : List Int} {j : Nat} {i : Int} (h : l[j]? = some i) : (dI l)[j]? = some (.int i) := by
  unfold dI
  rw [List.getElem?_map, h]
  rfl
theorem dI_len (l : List Int) : (dI l).length = l.length := by simp [dI]
theorem rng0_at {n i : Nat} {d : D} (h : (rng 0 n)[i]? = some d) : i < n ∧ d = .int (i : Int) := by
  obtain ⟨h1, h2⟩ := rng_at h
  exact ⟨h1, by rw [h2, Int.zero_add]⟩
theorem map_at {α β : Type} {f : α → β} {l : List α} {i : Nat} {y : β} (h : (l.map f)[i]? = some y) : ∃ x, l[i]? = some x ∧ y = f x := by
  rw [List.getElem?_map] at h
  cases e : l[i]? with
  | none =>
    rw [e] at h
    cases h
  | some x =>
    rw [e] at h
    exact ⟨x, rfl, (Option.some.inj h).symm⟩
theorem take_more {α : Type} {l : List α} {i : Nat} {x : α} (h : l[i]? = some x) : l.take (i + 1) = l.take i ++ [x] := by
  rw [List.take_succ, h]
  rfl
theorem xs_nextS {c : Cn} {ρ : Env2} {μ ν : Mu} {A : DA} (h : A.nx ρ ν) (s : ν.Sublist μ) : XS c tNext ρ μ A := (xs_next h).from s
def G_price_lines (K : PySem.W.Frag) : Spc := fun ds R => ∃ (s : Slp) (w t : Wd), w.length ≤ 10000 ∧ t.length ≤ 10000 ∧ ds = [slpD K s, .str (tx w), .str (tx t)] ∧ R = fun d => d = .lst (plines s w t (t.length + 1))
abbrev N_price_lines : List Str := ["slips", "target", "text", "lines", "typed", "line", "meant", "some", "step", "less", "fewer", "ahead"]
theorem sc_price_lines : FnScope N_price_lines ["slips", "target", "text"] (defScope s_price_lines) := ⟨rfl, rfl, rfl, by decide +kernel, rfl, by decide +kernel, by decide +kernel⟩
theorem Tx.c_price_lines {w : World} {K : PySem.W.Frag} {mg : Str → Option Value} {base : Heap} (T : Tx K mg) : Cal P0 w K mg base 4 "price_lines" (spF (G_price_lines K)) [] := by
  refine mkCal (k := 3) T.d_price_lines T.g_price_lines sc_price_lines (fun _ _ _ _ _ _ us hl => match us, hl with | [_, _, _], _ => rfl) (by intro ds R h; obtain ⟨s, w, t, hw, ht, rfl, rfl⟩ := h; rfl) fun cdv A outer s H E hr => ?_
  have nd := sc_price_lines.nd
  refine ⟨_, (pss_cons (ps_set (i := 3) nd rfl (by first | exact Or.inl rfl | exact Or.inr rfl) (pe_lst pa_nil))
  (pss_cons (ps_for PassesOwn.never rfl (pi_range1 (by rfl) T.f_range (pa_cons (pe_op op_add (pe_callB call_len_str (by rfl) T.f_len boot_len (pa_cons (pv 2) pa_nil)) pe_int) pa_nil)) (pg_name (i := 4) nd rfl (by first | exact Or.inl rfl | exact Or.inr rfl)) (pss_cons (ps_set (i := 5) nd rfl (by first | exact Or.inl rfl | exact Or.inr rfl) (pe_lst pa_nil))
  (pss_cons (ps_for PassesOwn.never rfl (pi_range1 (by rfl) T.f_range (pa_cons (pe_op op_add (pe_callB call_len_str (by rfl) T.f_len boot_len (pa_cons (pv 1) pa_nil)) pe_int) pa_nil)) (pg_name (i := 6) nd rfl (by first | exact Or.inl rfl | exact Or.inr rfl)) (pss_cons (ps_set (i := 7) nd rfl (by first | exact Or.inl rfl | exact Or.inr rfl) (pe_lst pa_nil))
  (pss_cons (ps_for PassesOwn.never rfl (pi_list (pe_c T.c_last_steps hr (by decide) (by rfl) (pa_cons (pv 0) (pa_cons (pe_slice sl_str (pv 1) po_none (po_some (pv 6))) (pa_cons (pe_slice sl_str (pv 2) po_none (po_some (pv 4))) pa_nil))))) (pg_tup rfl (pgs_cons (pg_name (i := 8) nd rfl (by first | exact Or.inl rfl | exact Or.inr rfl)) (pgs_cons (pg_name (i := 9) nd rfl (by first | exact Or.inl rfl | exact Or.inr rfl)) (pgs_cons (pg_name (i := 10) nd rfl (by first | exact Or.inl rfl | exact Or.inr rfl)) pgs_nil)))) (pss_cons (ps_set (i := 11) nd rfl (by first | exact Or.inl rfl | exact Or.inr rfl) (pe_ifExp (pt_cmpR op_eq (pv 10) pe_int (nomark _)) (pe_ix ix_list (pv 5) (pe_op op_sub (pv 6) (pv 9)) (fun _ _ => rfl)) (pe_ix ix_list (pe_ix ix_list (pv 3) (pe_op op_sub (pv 4) (pv 10)) (fun _ _ => rfl)) (pe_op op_sub (pv 6) (pv 9)) (fun _ _ => rfl))))
  (pss_one (ps_expr (pe_bm PySem.F.plainAttrs_list PySem.F.slot_list_append PySem.F.type_list_append mt_append (pv 7) (pa_cons (pe_op op_add (pv 11) (pe_c T.c_step_price hr (by decide) (by rfl) (pa_cons (pv 0) (pa_cons (pv 8) pa_nil)))) pa_nil))))))
  (pss_one (ps_expr (pe_bm PySem.F.plainAttrs_list PySem.F.slot_list_append PySem.F.type_list_append mt_append (pv 5) (pa_cons (pe_ifExp (pt_cmpR (op_neD hr.units) (pv 7) (pe_lst pa_nil) (nomark _)) (pe_callB (cr_min rfl) (by rfl) T.f_min boot_min (pa_cons (pv 7) pa_nil)) pe_int) pa_nil)))))))
  (pss_one (ps_expr (pe_bm PySem.F.plainAttrs_list PySem.F.slot_list_append PySem.F.type_list_append mt_append (pv 3) (pa_cons (pe_fz (pv 5)) pa_nil)))))))
  (pss_one (ps_ret (pe_fz (pv 3)))))), ?_⟩
  rintro ds R ⟨s, w, t, hw, ht, rfl, rfl⟩
  walk_at "ad"
  rename_i a
  refine xs_forS (js := [4]) (fun i ρ μ => ∃ x4 x5 x6 x7 x8 x9 x10 x11 : Option D, ρ = [some (slpD K s), some (.str (tx w)), some (.str (tx t)), some (.ref a), x4, x5, x6, x7, x8, x9, x10, x11] ∧ μ = [(a, .lst (plines s w t i))]) ?_
  walk_at "ad"
  refine ⟨by omega, by omega, ⟨_, List.Sublist.refl _, none, none, none, none, none, none, none, none, rfl, rfl⟩, ?_, ?_⟩
  · intro i d ρ' μ' hd hI
    obtain ⟨x4, x5, x6, x7, x8, x9, x10, x11, rfl, rfl⟩ := hI
    obtain ⟨hi, rfl⟩ := rng0_at hd
    have hi2 : i ≤ t.length := by omega
    walk_at "ad"
    rename_i b
    refine xs_forS (js := [6]) (fun k ρ μ => ∃ x6 x7 x8 x9 x10 x11 : Option D, ρ = [some (slpD K s), some (.str (tx w)), some (.str (tx t)), some (.ref a), some (.int (i : Int)), some (.ref b), x6, x7, x8, x9, x10, x11] ∧ μ = [(a, .lst (plines s w t i)), (b, .lst (dI (pline s w t i k)))]) ?_
    walk_at "ad"
    refine ⟨by omega, by omega, ⟨_, List.Sublist.refl _, x6, x7, x8, x9, x10, x11, rfl, rfl⟩, ?_, ?_⟩
    · intro k d ρ' μ' hd hI
      obtain ⟨x6, x7, x8, x9, x10, x11, rfl, rfl⟩ := hI
      obtain ⟨hk, rfl⟩ := rng0_at hd
      have hk2 : k ≤ w.length := by omega
      walk_at "ad"
      rename_i c
      refine xs_forS (js := [8] ++ ([9] ++ ([10] ++ []))) (fun m ρ μ => ∃ x8 x9 x10 x11 : Option D, ρ = [some (slpD K s), some (.str (tx w)), some (.str (tx t)), some (.ref a), some (.int (i : Int)), some (.ref b), some (.int (k : Int)), some (.ref c), x8, x9, x10, x11] ∧
        μ = [(a, .lst (plines s w t i)), (b, .lst (dI (pline s w t i k))), (c, .lst (dI (((steps s w t i k).take m).map fun y => pr s w t (i - y.fewer) (k - y.less) + y.cost s)))]) ?_
      walk_at "ad"
      refine ⟨_, ⟨s, w.take k, t.take i, by rw [List.length_take]; omega, by rw [List.length_take]; omega, by rw [cut_to hk2, cut_to hi2], rfl⟩, ?_⟩
      rintro _ rfl
      have e : steps s (w.take k) (t.take i) (t.take i).length (w.take k).length = steps s w t i k := by
        rw [List.length_take, List.length_take, Nat.min_eq_left hk2, Nat.min_eq_left hi2, steps_take]
      rw [e]
      refine ⟨_, rfl, ⟨_, List.Sublist.refl _, x8, x9, x10, x11, rfl, rfl⟩, ?_, ?_⟩
      · intro m d ρ' μ' hd hI
        obtain ⟨x8, x9, x10, x11, rfl, rfl⟩ := hI
        obtain ⟨y, hy, rfl⟩ := map_at hd
        obtain ⟨y1, y2, y3, y4⟩ := steps_in (List.mem_of_getElem? hy)
        have fin : dI (((steps s w t i k).take m).map fun y => pr s w t (i - y.fewer) (k - y.less) + y.cost s) ++ [.int (pr s w t (i - y.fewer) (k - y.less) + y.cost s)] = dI (((steps s w t i k).take (m + 1)).map fun y => pr s w t (i - y.fewer) (k - y.less) + y.cost s) := by
          rw [take_more hy, List.map_append, List.map_cons, List.map_nil, dI_app]
        have hl : (dI (((steps s w t i k).take m).map fun y => pr s w t (i - y.fewer) (k - y.less) + y.cost s)).length < 100000 := by
          rw [dI_len, List.length_map, List.length_take]
          have := steps_len s w t i k
          omega
        by_cases hf : y.fewer = 0
        · have e1 : decide ((y.fewer : Int) = 0) = true := decide_eq_true (by omega)
          have i1 : L2.atI (dI (pline s w t i k)) ((k : Int) - (y.less : Int)) = some (.int (pr s w t (i - y.fewer) (k - y.less))) := by
            rw [show (k : Int) - (y.less : Int) = ((k - y.less : Nat) : Int) by omega, atI_nat, hf, Nat.sub_zero]
            exact dI_at (pline_at (by omega))
          walk_at "ad"
          refine ⟨_, ⟨s, y, y4, rfl, rfl⟩, ?_⟩
          rintro _ rfl
          walk_at "ad"
          rw [fin]
          exact ⟨_, List.Sublist.refl _, _, _, _, _, rfl, rfl⟩
        · have e1 : decide ((y.fewer : Int) = 0) = false := decide_eq_false (by omega)
          have i1 : L2.atI (plines s w t i) ((i : Int) - (y.fewer : Int)) = some (.lst (dI (pline s w t (i - y.fewer) (w.length + 1)))) := by
            rw [show (i : Int) - (y.fewer : Int) = ((i - y.fewer : Nat) : Int) by omega, atI_nat]
            exact plines_at (by omega)
          have i2 : L2.atI (dI (pline s w t (i - y.fewer) (w.length + 1))) ((k : Int) - (y.less : Int)) = some (.int (pr s w t (i - y.fewer) (k - y.less))) := by
            rw [show (k : Int) - (y.less : Int) = ((k - y.less : Nat) : Int) by omega, atI_nat]
            exact dI_at (pline_at (by omega))
          walk_at "ad"
          refine ⟨_, ⟨s, y, y4, rfl, rfl⟩, ?_⟩
          rintro _ rfl
          walk_at "ad"
          rw [fin]
          exact ⟨_, List.Sublist.refl _, _, _, _, _, rfl, rfl⟩
      · intro ρ' μ' hI
        obtain ⟨x8, x9, x10, x11, rfl, rfl⟩ := hI
        rw [List.length_map, List.take_length]
        have hl2 : (dI (pline s w t i k)).length < 100000 := by
          rw [dI_len, pline_len]
          omega
        walk_at "ad"
        refine r_neL0 (i := 2) (j := 3) rfl rfl (n := 0) (by decide) (deep_dI _ _) ?_
        have e2 := pr_steps s w t i k
        by_cases hs : steps s w t i k = []
        · rw [if_pos hs] at e2
          rw [hs]
          walk_at "ad"
          rw [pline_succ, dI_app, e2]
          exact ⟨[(a, .lst (plines s w t i)), (b, .lst (dI (pline s w t i k) ++ [.int 0]))], by walk_at "sub", _, _, _, _, _, _, rfl, rfl⟩
        · rw [if_neg hs] at e2
          have e3 : (!(dI (List.map (fun y => pr s w t (i - y.fewer) (k - y.less) + Stp.cost s y) (steps s w t i k))).isEmpty) = true := by
            cases hz : steps s w t i k with
            | nil => exact absurd hz hs
            | cons _ _ => rfl
          walk_at "ad"
          refine k_minM (j := 2) (l := (steps s w t i k).map fun y => pr s w t (i - y.fewer) (k - y.less) + y.cost s) rfl ?_ ?_
          · rw [List.length_map]
            exact List.length_pos_iff.mpr hs
          intro m h1 h2
          have e4 := lmin_is h1 h2
          subst e4
          rw [← e2]
          walk_at "ad"
          rw [pline_succ, dI_app]
          exact ⟨[(a, .lst (plines s w t i)), (b, .lst (dI (pline s w t i k) ++ [.int (pr s w t i k)]))], by walk_at "sub", _, _, _, _, _, _, rfl, rfl⟩
    · intro ρ' μ' hI
      obtain ⟨x6, x7, x8, x9, x10, x11, rfl, rfl⟩ := hI
      rw [rng_len, show ((w.length : Int) + 1).toNat = w.length + 1 by omega]
      have hl : (plines s w t i).length < 100000 := by
        rw [plines_len]
        omega
      walk_at "ad"
      rw [plines_succ]
      exact ⟨_, List.Sublist.refl _, _, _, _, _, _, _, _, _, rfl, rfl⟩
  · intro ρ' μ' hI
    obtain ⟨x4, x5, x6, x7, x8, x9, x10, x11, rfl, rfl⟩ := hI
    walk_at "ad"
    rw [rng_len]
    rfl

end MW
end
section
open MW L2
/-! More rules. -/
namespace MW
open PySem PySem.Spec PyProof.Rows L2
open C8 (pe_c pe_gc Cal)
theorem atI_last {α : Type} {t : List α} (h : 0 < t.length) : L2.atI t (-(1 : Int)) = t[t.length - 1]? := by
  unfold L2.atI L2.ixN
  rw [if_neg (by omega), if_pos (by omega)]
  show t[((-1 : Int) + (t.length : Int)).toNat]? = _
  rw [show ((-1 : Int) + (t.length : Int)).toNat = t.length - 1 by omega]
section
variable {c : Cn} {ρ : Env2} {μ : Mu} {P : D → Mu → Prop}
theorem t_yes {PT : Bool → Mu → Prop} (k : PT true μ) : MW.T c tYes ρ μ PT := fun σ H Q S q => q true H μ (Pst.refl H) S k
/-- [elt for target in iter], the items told by a list, each elt by its item; μ1: the objects behind iter -/
theorem x_map {α : Type} {wi : TI} {g : TG} {te : TE} {vs js : List Nat} (l : List α) (e F : α → D) (μ1 : Mu) (hj : ∀ j ∈ js, j ∈ vs) (hz : l.length ≤ 100000)
    (h : IX c wi ρ μ fun items μ2 => items = l.map e ∧ μ2 = μ1)
    (hs : ∀ (i : Nat) (x : α) (acc : List D) (a : Addr), l[i]? = some x → GX c g js (e x) (wipe2 ρ vs) ((a, .lst acc) :: μ1) fun ρ2 μ3 => X c te ρ2 μ3 fun y μ5 => y = F x ∧ ((a, MO.lst acc) :: μ1).Sublist μ5)
    (hd : ∀ a, P (.ref a) (μ1 ++ [(a, .lst (l.map F))])) : X c (tLc wi g tYes te vs) ρ μ P := by
  refine x_lc (js := js) (fun i acc μ2 => μ2 = μ1 ∧ acc = (l.take i).map F) hj (h.imp fun items μ2 hh => ?_)
  obtain ⟨e1, rfl⟩ := hh
  refine ⟨by rw [e1, List.length_map]; exact hz, ⟨rfl, by simp⟩, ?_, ?_⟩
  · intro i d acc μ3 a hi hI
    obtain ⟨rfl, rfl⟩ := hI
    rw [e1, List.getElem?_map] at hi
    cases hx : l[i]? with
    | none =>
      rw [hx] at hi
      cases hi
    | some x =>
      rw [hx] at hi
      have e2 : e x = d := Option.some.inj hi
      subst e2
      refine (hs i x _ a hx).imp fun ρ2 μ4 hh => ?_
      refine t_yes ⟨fun _ => ?_, fun z => by cases z⟩
      refine X.let (ν := []) (hh.imp fun y μ5 ⟨ey, sl⟩ => ⟨_, sl, ?_⟩)
      refine ⟨_, rfl, rfl, ?_⟩
      rw [List.take_succ, hx, ey, List.map_append]
      rfl
  · intro acc μ3 a hI
    obtain ⟨rfl, rfl⟩ := hI
    have : (l.take items.length).map F = l.map F := by rw [e1, List.length_map, List.take_length]
    rw [this]
    exact hd a
theorem k_allM' {K : PySem.W.Frag} {a : Addr} {α : Type} {l : List α} {F : α → Bool} (j : Nat) (hm : μ[j]? = some (a, .lst (l.map fun x => .bl (F x)))) (k : P (.bl (l.all F)) μ) : KX c (rAll K) [.ref a] μ P := by
  have e : l.map (fun x => D.bl (F x)) = dB (l.map F) := by simp [dB]
  rw [e] at hm
  refine k_allM (l := l.map F) hm ?_
  rw [List.all_map]
  exact k
end
end MW
end
section
open MW L2
local macro_rules | `(tactic| walk_at "d1") => `(tactic| first
  | ((with_reducible refine x_varE ?_); refine ⟨_, rfl, ?_⟩)
  | with_reducible refine x_int ?_
  | with_reducible refine x_str ?_
  | with_reducible refine x_bl ?_
  | with_reducible refine x_non ?_
  | with_reducible refine x_ref ?_
  | with_reducible refine x_ty ?_
  | with_reducible refine x_op ?_
  | with_reducible refine x_un ?_
  | with_reducible refine a_nil ?_
  | with_reducible refine a_cons ?_
  | ((with_reducible refine x_tup ?_); walk_at "ad"; refine ⟨by first | exact (by decide) | (simp; done) | omega, ?_⟩)
  | ((with_reducible refine x_lst ?_); walk_at "ad"; refine ⟨by first | exact (by decide) | (simp; done) | omega, fun _ => ?_⟩)
  | with_reducible refine x_if ?_
  | with_reducible refine x_andV ?_
  | with_reducible refine x_orV ?_
  | with_reducible refine x_notV ?_
  | with_reducible refine t_test ?_
  | with_reducible refine t_B ?_
  | with_reducible refine t_yes ?_
  | with_reducible refine r_inS ?_
  | with_reducible refine r_notInS ?_
  | with_reducible refine t_and ?_
  | with_reducible refine t_or ?_
  | with_reducible refine t_not ?_
  | ((with_reducible refine x_fz ?_); walk_at "ad"; (first | refine ⟨_, _, 0, rfl, rfl, ?_⟩ | refine ⟨_, _, 1, rfl, rfl, ?_⟩ | refine ⟨_, _, 2, rfl, rfl, ?_⟩ | refine ⟨_, _, 3, rfl, rfl, ?_⟩))
  | with_reducible refine xs_seq ?_
  | with_reducible refine xs_next ?_
  | with_reducible refine xs_ret ?_
  | with_reducible refine xs_retN ?_
  | with_reducible refine xs_drop ?_
  | with_reducible apply xs_asg
  | with_reducible refine xs_if ?_
  | with_reducible refine g_name ?_
  | with_reducible refine gs_nil ?_
  | with_reducible apply gs_cons
  | ((with_reducible apply g_tup); exact rfl)
  | with_reducible refine x_chain ?_
  | with_reducible refine x_CB ?_
  | with_reducible refine x_call0 ?_
  | with_reducible refine x_sl ?_
  | with_reducible refine o_none ?_
  | with_reducible refine o_some ?_
  | ((with_reducible refine x_prop ?_); walk_at "ad"; refine ⟨_, _, _, rfl, rfl, ?_⟩)
  | with_reducible refine r_I0 ?_
  | with_reducible refine r_I0b ?_
  | with_reducible refine r_eqI ?_
  | with_reducible refine r_neI ?_
  | with_reducible refine r_eqS ?_
  | with_reducible refine r_neS ?_
  | with_reducible refine r_isN ?_
  | with_reducible refine r_notN ?_
  | with_reducible refine u_neg ?_
  | ((with_reducible refine r_ixTE ?_); first | refine ⟨_, ‹_›, ?_⟩ | refine ⟨_, rfl, ?_⟩)
  | ((with_reducible refine r_ixLE ?_); first | refine ⟨_, ‹_›, ?_⟩ | refine ⟨_, rfl, ?_⟩)
  | ((with_reducible refine k_isIE ?_); refine ⟨_, rfl, ?_⟩)
  | ((with_reducible refine k_isSE ?_); refine ⟨_, rfl, ?_⟩)
  | ((with_reducible refine k_isTE ?_); refine ⟨_, rfl, ?_⟩)
  | ((with_reducible refine x_BM ?_); walk_at "ad"; first | refine ⟨ty_lst (j := 0) rfl, ?_⟩ | refine ⟨ty_lst (j := 1) rfl, ?_⟩ | refine ⟨ty_lst (j := 2) rfl, ?_⟩ | refine ⟨ty_lst (j := 3) rfl, ?_⟩)
  | ((with_reducible refine m_appE ?_); (first | refine ⟨0, _, rfl, ?_, ?_⟩ | refine ⟨1, _, rfl, ?_, ?_⟩ | refine ⟨2, _, rfl, ?_, ?_⟩ | refine ⟨3, _, rfl, ?_, ?_⟩); (walk_at "len"))
  | ((with_reducible refine k_lenS ?_ ?_); (walk_at "len"))
  | ((with_reducible refine s_txt ?_ ?_); (walk_at "len"))
  | ((with_reducible refine r_ixSE ?_ ?_); (walk_at "len"); (first | refine ⟨_, ‹_›, ?_⟩ | refine ⟨_, rfl, ?_⟩))
  | with_reducible refine k_lenT ?_
  | with_reducible refine k_lenL ?_
  | ((with_reducible refine k_lenME ?_); (first | refine ⟨0, _, rfl, ?_⟩ | refine ⟨1, _, rfl, ?_⟩ | refine ⟨2, _, rfl, ?_⟩ | refine ⟨3, _, rfl, ?_⟩))
  | ((with_reducible refine r_ixME ?_); (first | refine ⟨0, _, _, rfl, ‹_›, ?_⟩ | refine ⟨1, _, _, rfl, ‹_›, ?_⟩ | refine ⟨2, _, _, rfl, ‹_›, ?_⟩ | refine ⟨0, _, _, rfl, rfl, ?_⟩ | refine ⟨1, _, _, rfl, rfl, ?_⟩ | refine ⟨2, _, _, rfl, rfl, ?_⟩ | refine ⟨3, _, _, rfl, rfl, ?_⟩))
  | ((with_reducible refine x_tupleM ?_); walk_at "ad"; (first | refine ⟨_, 0, _, rfl, rfl, ?_⟩ | refine ⟨_, 1, _, rfl, rfl, ?_⟩ | refine ⟨_, 2, _, rfl, rfl, ?_⟩ | refine ⟨_, 3, _, rfl, rfl, ?_⟩))
  | ((with_reducible refine r_neT0 (n := 0) ?_ ?_ ?_); exact (by decide); exact (deep_dI _ _))
  | ((with_reducible refine x_rev2 ?_); walk_at "ad"; refine ⟨_, _, rfl, ?_⟩)
  | with_reducible refine x_join ?_
  | with_reducible refine i_enumT ?_
  | with_reducible refine i_rng1 ?_
  | with_reducible refine i_rng2 ?_
  | with_reducible refine i_tup ?_
  | with_reducible refine i_lst ?_
  | with_reducible refine i_str ?_
  | refine ⟨_, rfl, ?_⟩
  | ((with_reducible refine brT ?_ ?_); (first | assumption | exact rfl | decide +kernel))
  | ((with_reducible refine brF ?_ ?_); (first | assumption | exact rfl | decide +kernel)))
local macro_rules | `(tactic| walk_at "len") => `(tactic| first | assumption | omega | ((simp only [List.length_append, List.length_cons, List.length_nil, List.length_map, List.length_set]) <;> omega) | (simp; done) | (simp; omega))
local macro_rules | `(tactic| walk_at "ad") => `(tactic| repeat (walk_at "d1"))
local macro_rules | `(tactic| walk_at "sub") => `(tactic| first | exact List.nil_sublist _ | exact List.Sublist.refl _ | (refine List.Sublist.cons₂ _ ?_; walk_at "sub") | (refine List.Sublist.cons _ ?_; walk_at "sub"))
/-! is_text, need_text, price. -/
namespace MW
open PySem PySem.Spec PyProof.Rows L2
open C8 (pe_c pe_gc Cal)
def Low (t : Wd) : Prop := t.length ≤ 10000 ∧ ∀ c ∈ t, c ∈ abc
def G_is_text (K : PySem.W.Frag) : Spc := fun ds R => ∃ (t : Wd), Low t ∧ ds = [.str (tx t)] ∧ R = fun d => d = .bl true
def G_need_text (K : PySem.W.Frag) : Spc := fun ds R => ∃ (t : Wd), Low t ∧ ds = [.str (tx t)] ∧ R = fun d => d = .non
def G_price (K : PySem.W.Frag) : Spc := fun ds R => ∃ (s : Slp) (w t : Wd), Low w ∧ Low t ∧ ds = [slpD K s, .str (tx w), .str (tx t)] ∧ R = fun d => d = .int (price s w t)
abbrev N_is_text : List Str := ["thing", "sign"]
theorem sc_is_text : FnScope N_is_text ["thing"] (defScope s_is_text) := ⟨rfl, rfl, rfl, by decide +kernel, rfl, by decide +kernel, by decide +kernel⟩
theorem Tx.c_is_text {w : World} {K : PySem.W.Frag} {mg : Str → Option Value} {base : Heap} (T : Tx K mg) : Cal P0 w K mg base 4 "is_text" (spF (G_is_text K)) [] := by
  refine mkCal (k := 3) T.d_is_text T.g_is_text sc_is_text (fun _ _ _ _ _ _ us hl => match us, hl with | [_], _ => rfl) (by intro ds R h; obtain ⟨t, ht, rfl, rfl⟩ := h; rfl) fun cdv A outer s H E hr => ?_
  have nd := sc_is_text.nd
  refine ⟨_, (pss_one (ps_ret (pe_and (pe_callB call_isi (by rfl) T.f_isinstance boot_isinstance (pa_cons (pv 0) (pa_cons (pe_bltn (v := .ty "str") (u := .type "str") (by rfl) T.f_str (by decide +kernel) rfl) pa_nil))) (pe_one (pe_callB (cr_all rfl) (by rfl) T.f_all boot_all (pa_cons (pe_lc (own := [("sign", 1)]) (g := (gName 1)) (tt := tYes) (te := (tOp _ (tVar 1) (tC (.str (tx abc))))) rfl nd (pi_str (pv 0)) (blkOk_by (N := N_is_text) (sc := defScope s_is_text) (by decide +kernel)) (fun _ _ _ _ _ => (pg_name (i := 1) nd rfl (by first | exact Or.inl rfl | exact Or.inr rfl))) (fun _ _ _ _ _ => pts_nil) (fun _ _ _ _ _ => (pe_cmpR op_in_sign (pv 1) (pe_gc (by rfl) (gS T.s_LETTERS)) (by rfl)))) pa_nil)))))), ?_⟩
  rintro ds R ⟨t, ht, rfl, rfl⟩
  obtain ⟨hl, ht⟩ := ht
  walk_at "ad"
  refine x_map (js := [1]) t (fun c => .str (tx [c])) (fun c => .bl (decide (c ∈ abc))) [] (by decide) (by omega) ?_ ?_ ?_
  · walk_at "ad"
    exact ⟨rfl, rfl⟩
  · intro i x acc a hx
    walk_at "ad"
    exact ⟨rfl, List.Sublist.refl _⟩
  intro a
  walk_at "ad"
  refine k_allM' 0 rfl ?_
  show D.bl _ = D.bl true
  congr 1
  rw [List.all_eq_true]
  intro c hc
  exact decide_eq_true (ht c hc)

abbrev N_need_text : List Str := ["thing"]
theorem sc_need_text : FnScope N_need_text ["thing"] (defScope s_need_text) := ⟨rfl, rfl, rfl, by decide +kernel, rfl, by decide +kernel, by decide +kernel⟩
theorem Tx.c_need_text {w : World} {K : PySem.W.Frag} {mg : Str → Option Value} {base : Heap} (T : Tx K mg) : Cal P0 w K mg base 5 "need_text" (spF (G_need_text K)) [] := by
  refine mkCal (k := 4) T.d_need_text T.g_need_text sc_need_text (fun _ _ _ _ _ _ us hl => match us, hl with | [_], _ => rfl) (by intro ds R h; obtain ⟨t, ht, rfl, rfl⟩ := h; rfl) fun cdv A outer s H E hr => ?_
  have nd := sc_need_text.nd
  refine ⟨_, (pss_one (ps_if (pt_not (pt_val (pe_c T.c_is_text hr (by decide) (by rfl) (pa_cons (pv 0) pa_nil)))) (pss_one ps_never) pss_nil)), ?_⟩
  rintro ds R ⟨t, ht, rfl, rfl⟩
  walk_at "ad"
  refine ⟨_, ⟨t, ht, rfl, rfl⟩, ?_⟩
  rintro _ rfl
  walk_at "ad"
  rfl

abbrev N_price : List Str := ["slips", "target", "text"]
theorem sc_price : FnScope N_price ["slips", "target", "text"] (defScope s_price) := ⟨rfl, rfl, rfl, by decide +kernel, rfl, by decide +kernel, by decide +kernel⟩
theorem Tx.c_price {w : World} {K : PySem.W.Frag} {mg : Str → Option Value} {base : Heap} (T : Tx K mg) : Cal P0 w K mg base 6 "price" (spF (G_price K)) [] := by
  refine mkCal (k := 5) T.d_price T.g_price sc_price (fun _ _ _ _ _ _ us hl => match us, hl with | [_, _, _], _ => rfl) (by intro ds R h; obtain ⟨s, w, t, hw, ht, rfl, rfl⟩ := h; rfl) fun cdv A outer s H E hr => ?_
  have nd := sc_price.nd
  refine ⟨_, (pss_cons (ps_expr (pe_c T.c_need_text hr (by decide) (by rfl) (pa_cons (pv 1) pa_nil)))
  (pss_cons (ps_expr (pe_c T.c_need_text hr (by decide) (by rfl) (pa_cons (pv 2) pa_nil)))
  (pss_one (ps_ret (pe_ix ix_list (pe_ix ix_list (pe_c T.c_price_lines hr (by decide) (by rfl) (pa_cons (pv 0) (pa_cons (pv 1) (pa_cons (pv 2) pa_nil)))) (pe_un un_neg pe_int) (fun _ _ => rfl)) (pe_un un_neg pe_int) (fun _ _ => rfl)))))), ?_⟩
  rintro ds R ⟨s, w, t, hw, ht, rfl, rfl⟩
  have i1 : L2.atI (plines s w t (t.length + 1)) (-(1 : Int)) = some (.lst (dI (pline s w t t.length (w.length + 1)))) := by
    rw [atI_last (by rw [plines_len]; omega), plines_len]
    exact plines_at (by omega)
  have i2 : L2.atI (dI (pline s w t t.length (w.length + 1))) (-(1 : Int)) = some (.int (pr s w t t.length w.length)) := by
    rw [atI_last (by rw [dI_len, pline_len]; omega), dI_len, pline_len]
    exact dI_at (pline_at (by omega))
  walk_at "ad"
  refine ⟨_, ⟨w, hw, rfl, rfl⟩, ?_⟩
  rintro _ rfl
  walk_at "ad"
  refine ⟨_, ⟨t, ht, rfl, rfl⟩, ?_⟩
  rintro _ rfl
  walk_at "ad"
  refine ⟨_, ⟨s, w, t, hw.1, ht.1, rfl, rfl⟩, ?_⟩
  rintro _ rfl
  walk_at "ad"
  rfl

end MW
end
section
open MW L2
/-! enumerate(tuple). -/
namespace MW
open PySem PySem.Spec PyProof.Rows L2
open AutoSeq1 (wpAny_loadPart')
/-- the heap behind enumerate(tuple at l) -/
def enT (h : Heap) (l : Addr) : Heap := (h.push { cls := .type "tuple_iterator", data := .fields #[.ref l, .int 0 0] }).push { cls := .type "enumerate", data := .fields #[.none, .bool false, .ref h.objs.size, rawInt 0, .none, .none] }
set_option maxHeartbeats 4000000 in
theorem enT_new (l : Addr) (items : Array Value) (n : Nat) (dct : Option Addr) (sl : Array (Option Value)) :
    Meets (Builtin.«enumerate.__new__» ⟨[.type "enumerate", .ref l], []⟩) (fun _ R s => s.heap.get? l = some { cls := .type "tuple", dict := dct, data := .seq items n, slots := sl } ∧
      R (.ok (.ret (.ref (s.heap.objs.size + 1)))) { s with heap := enT s.heap l }) :=
  .of_wp fun prog w A R s h => by
    obtain ⟨hp, g, d, tk, os⟩ := s
    obtain ⟨hl, h⟩ := h
    have hT : Heap.IsTuple (Shared.heap ⟨hp, g, d, tk, os⟩) l items := ⟨_, hl, rfl, n, rfl⟩
    have hsub := sub_enumerate
    have hz : (hp.push { cls := .type "tuple_iterator", data := .fields #[.ref l, .int 0 0] }).objs.size = hp.objs.size + 1 := Heap.size_push ..
    have h2 : R (.ok (.ret (.ref (hp.push { cls := .type "tuple_iterator", data := .fields #[.ref l, .int 0 0] }).objs.size))) ⟨enT hp l, g, d, tk, os⟩ := by
      rw [hz]
      exact h
    wp_walk using wpAny_loadPart' hl
    refine wpAny_stack_any fun st => wpAny_pure ?_
    split
    · rename_i c _ _ _ _ _
      cases (c == Value.type "enumerate") <;> (wp_walk using wpAny_loadPart' hl, wpAny_pyIter_tuple hT; exact ⟨_, rfl, h2⟩)
    · wp_walk using wpAny_loadPart' hl, wpAny_pyIter_tuple hT
      exact ⟨_, rfl, h2⟩
section
variable {prog : Program} {w : World} {A : Around} {E : Value → Shared → Prop} {s : Shared}
theorem enT_at (h : Heap) (l : Addr) : IsEnum (enT h l) (h.objs.size + 1) h.objs.size 0 .none ∧ (enT h l).IsTupleIter h.objs.size l 0 ∧ ∀ b o, h.get? b = some o → (enT h l).get? b = some o := by
  have hz : (h.push { cls := .type "tuple_iterator", data := .fields #[.ref l, .int 0 0] }).objs.size = h.objs.size + 1 := Heap.size_push ..
  refine ⟨?_, ⟨_, Heap.get?_push_of_some _ (Heap.get?_push_size _ rfl), rfl, rfl⟩, fun b o x => Heap.get?_push_of_some _ (Heap.get?_push_of_some _ x)⟩
  have q := Heap.get?_push_size (h.push { cls := .type "tuple_iterator", data := .fields #[.ref l, .int 0 0] }) (o := { cls := .type "enumerate", data := .fields #[.none, .bool false, .ref h.objs.size, rawInt 0, .none, .none] }) rfl
  rw [hz] at q
  exact q
theorem enT_call {l : Addr} {items : Array Value} {Q : Value → Shared → Prop} (hL : s.heap.IsTuple l items) (h : Q (.ref (s.heap.objs.size + 1)) { s with heap := enT s.heap l }) : wpAny (model prog w) A (call (.type "enumerate") [.ref l]) Q E s := by
  obtain ⟨⟨c, dct, dt, sl⟩, hl, hc, n, hd⟩ := hL
  replace hc : c = .type "tuple" := hc
  replace hd : dt = .seq items n := hd
  subst hc hd
  exact callType_new F.called_enumerate (by decide) (F.typeCall_enumerate_1 _) (F.newCall_enumerate_1 _) (fun obj => F.args_object_init_2 obj _) F.entry_enumerate_new (enT_new l items n dct sl) ⟨hl, ⟨_, (enT_at s.heap l).1, rfl⟩, h⟩
end
/-- the tuple at a, each item in a new pair with its place -/
def IeT (K : PySem.W.Frag) (a : Addr) : It :=
  ⟨fun i H => ∃ (xs : List V) (x : V), SqT K H a xs ∧ xs[i]? = some x, fun i H v H' => ∃ T x, v = .ref T ∧ H T = none ∧ H' = upd H T (.tup [.int (i : Nat), x]) ∧ ∀ xs, SqT K H a xs → xs[i]? = some x, fun i H => ∃ xs : List V, SqT K H a xs ∧ xs.length ≤ i⟩
theorem turnT {P : Program} {w : World} {K : PySem.W.Frag} {elts : List Expr} {kk : Nat} {tpos : Pos} (a e it : Addr) (hai : a ≠ it) :
    Turn P w K (.Tuple elts kk tpos) (IeT K a) [e, it] e (fun i h => (∃ old, IsEnum h e it ((i : Nat) : Int) old) ∧ h.IsTupleIter it a i ∧ e ≠ it ∧ e ≠ a) where
  mem := by simp
  obj := fun i h st b hb => by
    obtain ⟨⟨old, he⟩, ⟨o, ho, hc, hd⟩, _⟩ := st
    rcases List.mem_cons.mp hb with z | z
    · exact z ▸ ⟨_, he, fun v q => nomatch q⟩
    · exact (List.mem_singleton.mp z) ▸ ⟨o, ho, fun v q => by rw [hd] at q; cases q⟩
  keep := fun i h h' st k => ⟨st.1.imp fun old he => k e (by simp) _ he, st.2.1.at fun o q => k it (by simp) o q, st.2.2⟩
  item := by
    intro X hP hw hK hc i pins s σ H E I hf st hg
    subst hP hw hK
    obtain ⟨⟨old, he⟩, hit, hne, hea⟩ := st
    obtain ⟨xs, x, hq, hx⟩ := hg
    obtain ⟨its, rv, p, hz⟩ := I.tuple hq
    obtain ⟨u, hu, ru⟩ := rv.get hx
    have hel : e < s.heap.objs.size := Heap.lt_size he
    have hil : it < s.heap.objs.size := by
      obtain ⟨_, q, _⟩ := hit
      exact Heap.lt_size q
    have hlen : i < its.toArray.size := by
      have := (List.getElem?_eq_some_iff.mp hu).1
      simpa using this
    have D := Draws.tuple (prog := X.prog) (w := X.w) (A := X.A.in1) (by exact I.ok.hd hc) it a hai its.toArray
    refine wpAny_pyNext_enum_itemD D he ⟨hit, p⟩ hlen hne (by simp [hne, hea]) fun y h' tk hy ho hst' hT hsz hk => ?_
    have ey : y = u := by
      have q : its.toArray[i]? = some u := by simpa using hu
      exact Option.some.inj (hy.symm.trans q)
    subst ey
    refine ⟨_, rfl, wpAny_letOwnedTupleGo_enum (s := { s with heap := h', toks := tk + 1 }) ho fun h2 he2 sb => ?_⟩
    have hT2 := (sb.2 _ (Nat.ne_of_gt hel)).trans hT
    have new : ObjOk X.prog X.w (upd H s.heap.objs.size (.tup [.int (i : Nat), x])) h2 s.heap.objs.size (.tup [.int (i : Nat), x]) :=
      ⟨by show 2 ≤ sizeLine; decide, [.int i tk, y], .cons ⟨_, rfl⟩ (.cons ru .nil), ⟨_, hT2, rfl, _, rfl⟩⟩
    have I1 : Inv X pins σ (upd H s.heap.objs.size (.tup [.int (i : Nat), x])) { s with heap := h2, toks := tk + 1 } :=
      I.turnedNew (ch := [e, it]) (fun b ob hb q => (sb.2 b (fun z => hb (by simp [z]))).trans (hk b ob (fun z => hb (by simp [z])) (fun z => hb (by simp [z])) q)) hf (Nat.le_refl _) new
    refine ⟨.ref s.heap.objs.size, _, I1, rfl, ⟨_, x, rfl, I.hok.fresh (Nat.le_refl _), rfl, fun ys hy2 => by rw [I.tuple_inj hy2 hq]; exact hx⟩, ⟨⟨y, ?_⟩, hst'.1.at fun o q => (sb.2 it (Ne.symm hne)).trans q, hne, hea⟩, fun b hb => ?_⟩
    · rw [show ((i + 1 : Nat) : Int) = (i : Int) + 1 by omega]
      exact he2
    · have hb' : b < s.heap.objs.size := by
        rcases List.mem_cons.mp hb with z | z
        · exact z ▸ hel
        · exact (List.mem_singleton.mp z) ▸ hil
      rw [upd_ne (Nat.ne_of_lt hb')]
      exact (hf b hb).1
  done := by
    intro X hP hw hK hc i pins s σ H E I hf st hg
    subst hP hw hK
    obtain ⟨⟨old, he⟩, hit, hne, hea⟩ := st
    obtain ⟨xs, hq, hx⟩ := hg
    obtain ⟨its, rv, p, hz⟩ := I.tuple hq
    obtain ⟨f0, f1, f2, f3, f4, f5⟩ := hf it (by simp)
    have hl := rv.length
    have hT : s.TypeIs (.ref e) "enumerate" := ⟨_, he, rfl⟩
    unfold pyNext
    refine wpAny_bind (wpAny_attempt (wpAny_callSpecial?_slot (name := Str.ofString "__next__") hT F.slot_enumerate_next (wpAny_call_entry F.slot_enumerate_next hT F.entry_enumerate_next ?_ (F.args_enumerate_next_1 _))))
    show wpAny _ _ (field (.ref e) 2 >>= _) _ _ _
    refine wpAny_bind (wpAny_field he rfl (x := .ref it) rfl ?_)
    have hnone : its.toArray[i]? = none := by simp; omega
    refine wpAny_bind (wpAny_nextOf_tuple_end (by exact I.ok.hd hc) hit p hnone fun h' y hx1 hx2 => ?_)
    obtain ⟨o, ho, hco⟩ := hx2
    refine wpAny_bind (wpAny_isInstance (T := "StopIteration") (b := true) ⟨o, ho, hco⟩ isSubtype_stop ?_)
    exact wpAny_pure ⟨rfl, I.turned (t' := s.toks) (fun b ob hb q => hx1 b ob hb q) f0 f1 f3 f4 f5⟩
  self := fun A i s Q E st h => let ⟨⟨_, he⟩, _⟩ := st; wpAny_pyIter_enum he h
def iEnumT (K : PySem.W.Frag) (ta : TA) : TI := fun σ H R => ta σ H fun vs H1 => ∃ a xs, vs = [.ref a] ∧ SqT K H1 a xs ∧ R (IeT K a) H1
theorem pi_enumT {X : Cx} {e : Expr} {ta : TA} {p pos tpos : Pos} {elts : List Expr} {kk : Nat} (hg : Gl X "enumerate") (hm : X.mg "enumerate" = none) (ha : PA X [e] ta) (hs : starEach [e] X.env = [(false, eval e X.env)] := by rfl) :
    PI X (.Tuple elts kk tpos) (.Call (.Name "enumerate" p) [e] [] pos) (iEnumT X.K ta) := by
  refine ⟨fun pins s σ H R I h => ?_⟩
  refine Call_ (ld_blt I hg hm boot_enumerate (PyProof.Rows.callWith_type1 (thn (ha.run pos pins s σ H _ I h) fun us s1 ⟨vs, H1, I1, r1, q1⟩ => ?_) hs rfl))
  obtain ⟨a, xs, ex, hq, q⟩ := q1
  subst ex
  rw [Vals.ref1 r1]
  obtain ⟨its, rv, p', hz⟩ := I1.tuple hq
  obtain ⟨o, ho, _⟩ := id p'
  have hal : a < s1.heap.objs.size := Heap.lt_size ho
  obtain ⟨he, hit, hk⟩ := enT_at s1.heap a
  refine enT_call p' (wpAny_pyIter_enum he ?_)
  have I2 : Inv X pins σ H1 { s1 with heap := enT s1.heap a } := I1.kept (t' := s1.toks) hk
  refine ⟨s1.heap.objs.size + 1, [s1.heap.objs.size + 1, s1.heap.objs.size], _, _, H1, rfl, I2, turnT a (s1.heap.objs.size + 1) s1.heap.objs.size (Nat.ne_of_lt hal), ⟨⟨.none, he⟩, hit, Nat.succ_ne_self _, Nat.ne_of_gt (Nat.lt_succ_of_lt hal)⟩, fun b hb => ?_, q⟩
  have hle : s1.heap.objs.size ≤ b := by
    rcases List.mem_cons.mp hb with z | z
    · exact z ▸ Nat.le_add_right _ _
    · exact (List.mem_singleton.mp z) ▸ Nat.le_refl _
  exact I1.fpOk hle (I1.hok.fresh hle)
/-- the items of enumerate -/
def enD (ds : List D) : List D := (List.range ds.length).map fun i => .tup [.int (i : Nat), ds.getD i .non]
theorem enD_len (ds : List D) : (enD ds).length = ds.length := by simp [enD]
theorem enD_at {ds : List D} {i : Nat} {d : D} (h : (enD ds)[i]? = some d) : ∃ x, ds[i]? = some x ∧ d = .tup [.int (i : Nat), x] := by
  unfold enD at h
  rw [List.getElem?_map] at h
  by_cases hi : i < ds.length
  · rw [List.getElem?_range hi] at h
    refine ⟨ds[i], List.getElem?_eq_getElem hi, ?_⟩
    rw [← Option.some.inj h]
    show D.tup [.int (i : Nat), ds.getD i .non] = _
    rw [List.getD_eq_getElem?_getD, List.getElem?_eq_getElem hi]
    rfl
  · rw [List.getElem?_eq_none (by simpa using hi)] at h
    cases h
theorem i_enumT {c : Cn} {μ : Mu} {ρ : Env2} {K : PySem.W.Frag} {ta : TA} {P : List D → Mu → Prop} (h : AX c ta ρ μ fun ds μ1 => ∃ es, ds = [.tup es] ∧ P (enD es) μ1) : IX c (iEnumT K ta) ρ μ P := fun σ H R S q =>
  h σ H _ S fun vs H1 ds μ1 p1 r1 S1 ⟨es, ed, k⟩ => by
    subst ed
    obtain ⟨v, r0, rfl, ⟨a, us, rfl, ha, rs⟩, rfl⟩ := r1
    have ok : ∀ H2, Pst H1 H2 → SqT K H2 a us := fun H2 p => SqT.of (p a _ trivial ha)
    refine ⟨a, us, rfl, SqT.of ha, q _ H1 _ μ1 p1 S1 ⟨fun i d H2 e p => ?_, fun i d H2 x H3 e p hy => ?_, fun H2 p => ⟨us, ok H2 p, by rw [enD_len, rs.len]; exact Nat.le_refl _⟩⟩ k⟩
    · obtain ⟨y, e1, _⟩ := enD_at e
      obtain ⟨w, e2, _⟩ := rs.at e1
      exact ⟨us, w, ok H2 p, e2⟩
    · obtain ⟨y, e1, rfl⟩ := enD_at e
      obtain ⟨w, e2, rw_⟩ := rs.at e1
      obtain ⟨T, z, rfl, hT, rfl, hz⟩ := hy
      have ez : z = w := Option.some.inj ((hz us (ok H2 p)).symm.trans e2)
      subst ez
      have sm : Same H2 (upd H2 T (.tup [.int (i : Nat), z])) := fun b o e => by rw [upd_ne (ne_of_none e hT)]; exact e
      exact ⟨sm, T, _, rfl, upd_same, .cons rfl (.cons (rw_.mono (p.trans (Pst.same sm))) .nil)⟩
/-! ### x[::-1], a text of two signs -/
def tRev2 (te : TE) : TE := fun σ H Q => te σ H fun x H1 => ∃ a b, x = .str (tx [a, b]) ∧ Q (.str (tx [b, a])) H1
theorem made2 (a b : Nat) (t z : Tok) : sliceMade (tx [a, b]) t none none (some (-1, z)) = Made.str (tx [b, a]) := by
  have e : Builtin.Str.strSliceIndices none none (-1) 2 = [1, 0] := by decide +kernel
  have e2 : slicePicked (tx [a, b]) none none (some (-1, z)) = [1, 0] := e
  unfold sliceMade
  rw [e2]
  rfl
theorem pe_rev2 {X : Cx} {e : Expr} {te : TE} {k : Nat} {p1 p2 p3 pos : Pos} (he : PE X e te) : PE X (.Subscript e (.Slice none none (some (.UnaryOp .USub (.Constant (.int 1) k p1) p2)) p3) pos) (tRev2 te) := by
  refine ⟨fun pins s σ H Q I h => ?_⟩
  refine Subscript_ (thn (he.run pins s σ H _ I h) fun v s1 ⟨x, H1, I1, r1, a, b, ex, q⟩ => ?_)
  subst ex
  obtain ⟨t, rfl⟩ := r1
  have hst : PO X (some (.UnaryOp .USub (.Constant (.int 1) k p1) p2)) (tPart (tUn (rU fun i => .int (-i)) (tC (.int 1)))) := po_some (pe_un un_neg pe_int)
  refine wpAny_Slice (thn (po_none.run pins s1 σ H1 (fun o H2 => o = none ∧ H2 = H1) I1 ⟨rfl, rfl⟩) fun vl s2 ⟨l, H2, I2, pl, el, e2⟩ => ?_)
  subst el e2
  refine thn (po_none.run pins s2 σ H2 (fun o H3 => o = none ∧ H3 = H2) I2 ⟨rfl, rfl⟩) fun vu s3 ⟨u, H3, I3, pu, eu, e3⟩ => ?_
  subst eu e3
  refine thn (hst.run pins s3 σ H3 (fun o H4 => o = some (-1) ∧ H4 = H3) I3 ⟨1, rfl, -1, rfl, rfl, rfl⟩) fun vs s4 ⟨o, H4, I4, ps, eo, e4⟩ => ?_
  subst eo e4
  have I5 : Inv X pins σ H4 { s4 with heap := s4.heap.push { cls := .type "slice", data := .fields #[vl, vu, vs] } } := I4.kept (t' := s4.toks) fun b ob q => Heap.get?_push_of_some _ q
  obtain ⟨l, rfl, hl⟩ := IsPart.raw pl
  obtain ⟨u, rfl, hu⟩ := IsPart.raw pu
  obtain ⟨z, rfl, hz⟩ := IsPart.raw ps
  have el : l = none := by
    cases l with
    | none => rfl
    | some _ => cases hl
  have eu : u = none := by
    cases u with
    | none => rfl
    | some _ => cases hu
  subst el eu
  obtain ⟨zi, zt⟩ : ∃ tk, z = some (-1, tk) := by
    cases z with
    | none => cases hz
    | some p =>
      obtain ⟨p1, p2⟩ := p
      have : p1 = -1 := Option.some.inj hz
      subst this
      exact ⟨p2, rfl⟩
  subst zt
  show wpAny (model X.prog X.w) X.A (subscriptTail e (.Slice none none (some (.UnaryOp .USub (.Constant (.int 1) k p1) p2)) p3) (.str (tx [a, b]) t) (.ref s4.heap.objs.size)) (EP X pins σ Q) X.xe { s4 with heap := s4.heap.push { cls := .type "slice", data := .fields #[partValue none, partValue none, partValue (some (-1, zi))] } }
  refine tail_any (ops := [.str (tx [a, b]) t, .ref s4.heap.objs.size]) (typeIs_str _ _ _) F.slot_str_getitem.lookup ?_ (by with_unfolding_all rfl)
  refine wpAny_getItem_str_slice (l := none) (u := none) (st := some (-1, zi)) ⟨_, Heap.get?_push_size _ rfl, rfl, rfl⟩ rfl ?_
  rw [made2]
  show Made.post (Made.str (tx [b, a])) (EP X pins σ Q) _
  exact ⟨by show 2 ≤ sizeLine; decide, .str (tx [b, a]), H4, I5.tok _, ⟨_, rfl⟩, q⟩
theorem x_rev2 {c : Cn} {ρ : Env2} {μ : Mu} {te : TE} {P : D → Mu → Prop} (h : X c te ρ μ fun d μ1 => ∃ a b, d = .str (tx [a, b]) ∧ P (.str (tx [b, a])) μ1) : X c (tRev2 te) ρ μ P := fun σ H Q S q =>
  h σ H _ S fun v H1 d μ1 p1 r1 S1 ⟨a, b, ed, k⟩ => by
    subst ed
    exact ⟨a, b, r1, q _ H1 (.str (tx [b, a])) μ1 p1 rfl S1 k⟩
end MW
end
section
open MW L2
local macro_rules | `(tactic| walk_at "d1") => `(tactic| first
  | ((with_reducible refine x_varE ?_); refine ⟨_, rfl, ?_⟩)
  | with_reducible refine x_int ?_
  | with_reducible refine x_str ?_
  | with_reducible refine x_bl ?_
  | with_reducible refine x_non ?_
  | with_reducible refine x_ref ?_
  | with_reducible refine x_ty ?_
  | with_reducible refine x_op ?_
  | with_reducible refine x_un ?_
  | with_reducible refine a_nil ?_
  | with_reducible refine a_cons ?_
  | ((with_reducible refine x_tup ?_); walk_at "ad"; refine ⟨by first | exact (by decide) | (simp; done) | omega, ?_⟩)
  | ((with_reducible refine x_lst ?_); walk_at "ad"; refine ⟨by first | exact (by decide) | (simp; done) | omega, fun _ => ?_⟩)
  | with_reducible refine x_if ?_
  | with_reducible refine x_andV ?_
  | with_reducible refine x_orV ?_
  | with_reducible refine x_notV ?_
  | with_reducible refine t_test ?_
  | with_reducible refine t_B ?_
  | with_reducible refine t_yes ?_
  | with_reducible refine r_inS ?_
  | with_reducible refine r_notInS ?_
  | with_reducible refine t_and ?_
  | with_reducible refine t_or ?_
  | with_reducible refine t_not ?_
  | ((with_reducible refine x_fz ?_); walk_at "ad"; (first | refine ⟨_, _, 0, rfl, rfl, ?_⟩ | refine ⟨_, _, 1, rfl, rfl, ?_⟩ | refine ⟨_, _, 2, rfl, rfl, ?_⟩ | refine ⟨_, _, 3, rfl, rfl, ?_⟩))
  | with_reducible refine xs_seq ?_
  | with_reducible refine xs_next ?_
  | with_reducible refine xs_ret ?_
  | with_reducible refine xs_retN ?_
  | with_reducible refine xs_drop ?_
  | with_reducible apply xs_asg
  | with_reducible refine xs_if ?_
  | with_reducible refine g_name ?_
  | with_reducible refine gs_nil ?_
  | with_reducible apply gs_cons
  | ((with_reducible apply g_tup); exact rfl)
  | with_reducible refine x_chain ?_
  | with_reducible refine x_CB ?_
  | with_reducible refine x_call0 ?_
  | with_reducible refine x_sl ?_
  | with_reducible refine o_none ?_
  | with_reducible refine o_some ?_
  | ((with_reducible refine x_prop ?_); walk_at "ad"; refine ⟨_, _, _, rfl, rfl, ?_⟩)
  | with_reducible refine r_I0 ?_
  | with_reducible refine r_I0b ?_
  | with_reducible refine r_eqI ?_
  | with_reducible refine r_neI ?_
  | with_reducible refine r_eqS ?_
  | with_reducible refine r_neS ?_
  | with_reducible refine r_isN ?_
  | with_reducible refine r_notN ?_
  | with_reducible refine u_neg ?_
  | ((with_reducible refine r_ixTE ?_); first | refine ⟨_, ‹_›, ?_⟩ | refine ⟨_, rfl, ?_⟩)
  | ((with_reducible refine r_ixLE ?_); first | refine ⟨_, ‹_›, ?_⟩ | refine ⟨_, rfl, ?_⟩)
  | ((with_reducible refine k_isIE ?_); refine ⟨_, rfl, ?_⟩)
  | ((with_reducible refine k_isSE ?_); refine ⟨_, rfl, ?_⟩)
  | ((with_reducible refine k_isTE ?_); refine ⟨_, rfl, ?_⟩)
  | ((with_reducible refine x_BM ?_); walk_at "ad"; first | refine ⟨ty_lst (j := 0) rfl, ?_⟩ | refine ⟨ty_lst (j := 1) rfl, ?_⟩ | refine ⟨ty_lst (j := 2) rfl, ?_⟩ | refine ⟨ty_lst (j := 3) rfl, ?_⟩)
  | ((with_reducible refine m_appE ?_); (first | refine ⟨0, _, rfl, ?_, ?_⟩ | refine ⟨1, _, rfl, ?_, ?_⟩ | refine ⟨2, _, rfl, ?_, ?_⟩ | refine ⟨3, _, rfl, ?_, ?_⟩); (walk_at "len"))
  | ((with_reducible refine k_lenS ?_ ?_); (walk_at "len"))
  | ((with_reducible refine s_txt ?_ ?_); (walk_at "len"))
  | ((with_reducible refine r_ixSE ?_ ?_); (walk_at "len"); (first | refine ⟨_, ‹_›, ?_⟩ | refine ⟨_, rfl, ?_⟩))
  | with_reducible refine k_lenT ?_
  | with_reducible refine k_lenL ?_
  | ((with_reducible refine k_lenME ?_); (first | refine ⟨0, _, rfl, ?_⟩ | refine ⟨1, _, rfl, ?_⟩ | refine ⟨2, _, rfl, ?_⟩ | refine ⟨3, _, rfl, ?_⟩))
  | ((with_reducible refine r_ixME ?_); (first | refine ⟨0, _, _, rfl, ‹_›, ?_⟩ | refine ⟨1, _, _, rfl, ‹_›, ?_⟩ | refine ⟨2, _, _, rfl, ‹_›, ?_⟩ | refine ⟨0, _, _, rfl, rfl, ?_⟩ | refine ⟨1, _, _, rfl, rfl, ?_⟩ | refine ⟨2, _, _, rfl, rfl, ?_⟩ | refine ⟨3, _, _, rfl, rfl, ?_⟩))
  | ((with_reducible refine x_tupleM ?_); walk_at "ad"; (first | refine ⟨_, 0, _, rfl, rfl, ?_⟩ | refine ⟨_, 1, _, rfl, rfl, ?_⟩ | refine ⟨_, 2, _, rfl, rfl, ?_⟩ | refine ⟨_, 3, _, rfl, rfl, ?_⟩))
  | ((with_reducible refine r_neT0 (n := 0) ?_ ?_ ?_); exact (by decide); exact (deep_dI _ _))
  | ((with_reducible refine x_rev2 ?_); walk_at "ad"; refine ⟨_, _, rfl, ?_⟩)
  | with_reducible refine x_join ?_
  | with_reducible refine i_enumT ?_
  | with_reducible refine i_rng1 ?_
  | with_reducible refine i_rng2 ?_
  | with_reducible refine i_tup ?_
  | with_reducible refine i_lst ?_
  | with_reducible refine i_str ?_
  | refine ⟨_, rfl, ?_⟩
  | ((with_reducible refine brT ?_ ?_); (first | assumption | exact rfl | decide +kernel))
  | ((with_reducible refine brF ?_ ?_); (first | assumption | exact rfl | decide +kernel)))
local macro_rules | `(tactic| walk_at "len") => `(tactic| first | assumption | omega | ((simp only [List.length_append, List.length_cons, List.length_nil, List.length_map, List.length_set]) <;> omega) | (simp; done) | (simp; omega))
local macro_rules | `(tactic| walk_at "ad") => `(tactic| repeat (walk_at "d1"))
local macro_rules | `(tactic| walk_at "sub") => `(tactic| first | exact List.nil_sublist _ | exact List.Sublist.refl _ | (refine List.Sublist.cons₂ _ ?_; walk_at "sub") | (refine List.Sublist.cons _ ?_; walk_at "sub"))
/-! Rows and states. -/
namespace MW
open PySem PySem.Spec PyProof.Rows L2
open C8 (pe_c pe_gc Cal)
/-- a speller as the law makes them -/
structure OkP (p : Spl) : Prop where
  len : p.es.length ≤ 4
  low : ∀ e ∈ p.es, e.1 ≠ [] ∧ e.1.length ≤ 5 ∧ ∀ c ∈ e.1, c ∈ abc
  own : ∀ e ∈ p.es, 0 ≤ e.2 ∧ e.2 ≤ 999
  nd : (p.es.map (·.1)).Nodup
  ex : 1 ≤ p.sl.ex ∧ p.sl.ex ≤ 9
  mi : 1 ≤ p.sl.mi ∧ p.sl.mi ≤ 9
  wr : 1 ≤ p.sl.wr ∧ p.sl.wr ≤ 9
  sw : ∀ x, p.sl.sw = some x → 1 ≤ x ∧ x ≤ 9
theorem OkP.lw {p : Spl} (h : OkP p) {e : List Nat × Int} (he : e ∈ p.es) : Low e.1 := ⟨Nat.le_trans (h.low e he).2.1 (by decide), (h.low e he).2.2⟩
abbrev rowD (r : Row) : D := .tup (r.map fun l => .tup (dI l))
abbrev staD (s : Sta) : D := .tup [rowD s.1, rowD s.2.1, .str (tx s.2.2)]
theorem wrow_pline (s : Slp) (w t : Wd) : (pline s w t t.length (w.length + 1)).map (fun x => D.int (x - s.ex * (t.length : Int))) = dI (wrow s w t) := by
  simp [pline, dI, wrow]
def G_row_of (K : PySem.W.Frag) : Spc := fun ds R => ∃ (p : Spl) (t : Wd), OkP p ∧ Low t ∧ ds = [splD K p, .str (tx t)] ∧ R = fun d => d = rowD (row p t)
/-- what is never looked at -/
def tNevT : TT := fun _ _ _ => False
theorem pt_nev {X : Cx} {e : Expr} : PT X e tNevT := ⟨fun _ _ _ _ _ _ h => h.elim⟩
def tNevE : TE := fun _ _ _ => False
theorem pe_nev {X : Cx} {e : Expr} : PE X e tNevE := ⟨fun _ _ _ _ _ _ h => h.elim⟩
theorem neN (l : List D) (h : l ≠ []) : (!l.isEmpty) = true := by
  cases l with
  | nil => exact absurd rfl h
  | cons _ _ => rfl
def G_state_of0 (K : PySem.W.Frag) : Spc := fun ds R => ∃ (p : Spl), OkP p ∧ ds = [splD K p, .str ""] ∧ R = fun d => d = staD (sta p [])
def G_first_of (K : PySem.W.Frag) : Spc := fun ds R => ∃ (p : Spl), OkP p ∧ ds = [splD K p] ∧ R = fun d => d = staD (sta p [])
theorem sta_nil (p : Spl) : sta p [] = (row p [], [], []) := by
  have h : ¬ keeps p [] = true := fun z => by
    obtain ⟨x, c, e1, e2, e3⟩ := keeps_iff.mp z
    cases e2
  unfold sta
  rw [if_neg h]
abbrev N_row_of : List Str := ["speller", "text", "less", "found", "word", "own", "worth"]
theorem sc_row_of : FnScope N_row_of ["speller", "text"] (defScope s_row_of) := ⟨rfl, rfl, rfl, by decide +kernel, rfl, by decide +kernel, by decide +kernel⟩
theorem Tx.c_row_of {w : World} {K : PySem.W.Frag} {mg : Str → Option Value} {base : Heap} (T : Tx K mg) : Cal P0 w K mg base 6 "row_of" (spF (G_row_of K)) [] := by
  refine mkCal (k := 5) T.d_row_of T.g_row_of sc_row_of (fun _ _ _ _ _ _ us hl => match us, hl with | [_, _], _ => rfl) (by intro ds R h; obtain ⟨p, t, hp, ht, rfl, rfl⟩ := h; rfl) fun cdv A outer s H E hr => ?_
  have nd := sc_row_of.nd
  refine ⟨_, (pss_cons (ps_expr (pe_c T.c_need_text hr (by decide) (by rfl) (pa_cons (pv 1) pa_nil)))
  (pss_cons (ps_set (i := 2) nd rfl (by first | exact Or.inl rfl | exact Or.inr rfl) (pe_op op_mul (pe_P T.pr_extra (pe_P T.pr_slips (pv 0) hr (by decide)) hr (by decide)) (pe_callB call_len_str (by rfl) T.f_len boot_len (pa_cons (pv 1) pa_nil))))
  (pss_cons (ps_set (i := 3) nd rfl (by first | exact Or.inl rfl | exact Or.inr rfl) (pe_lst pa_nil))
  (pss_cons (ps_for PassesOwn.never rfl (pi_tup (pe_P T.pr_entries (pv 0) hr (by decide))) (pg_tup rfl (pgs_cons (pg_name (i := 4) nd rfl (by first | exact Or.inl rfl | exact Or.inr rfl)) (pgs_cons (pg_name (i := 5) nd rfl (by first | exact Or.inl rfl | exact Or.inr rfl)) pgs_nil))) (pss_one (ps_expr (pe_bm PySem.F.plainAttrs_list PySem.F.slot_list_append PySem.F.type_list_append mt_append (pv 3) (pa_cons (pe_tupleOf (by rfl) T.f_tuple (pe_lc (own := [("worth", 6)]) (g := (gName 6)) (tt := tYes) (te := (tOp (rI0 fun i j => .int (i - j)) (tVar 6) (tVar 2))) rfl nd (pi_list (pe_ix ix_list (pe_c T.c_price_lines hr (by decide) (by rfl) (pa_cons (pe_P T.pr_slips (pv 0) hr (by decide)) (pa_cons (pv 4) (pa_cons (pv 1) pa_nil)))) (pe_un un_neg pe_int) (fun _ _ => rfl))) (blkOk_by (N := N_row_of) (sc := defScope s_row_of) (by decide +kernel)) (fun _ _ _ _ _ => (pg_name (i := 6) nd rfl (by first | exact Or.inl rfl | exact Or.inr rfl))) (fun _ _ _ _ _ => pts_nil) (fun _ _ _ _ _ => (pe_op op_sub (pv 6) (pv 2))))) pa_nil)))))
  (pss_one (ps_ret (pe_tupleOf (by rfl) T.f_tuple (pv 3)))))))), ?_⟩
  rintro ds R ⟨p, t, hp, ht, rfl, rfl⟩
  have hc : CMul p.sl.ex ((t.length : Nat) : Int) := .inl ⟨by have := hp.ex; omega, by have := hp.ex; omega⟩
  have htl := ht.1
  walk_at "ad"
  refine ⟨_, ⟨t, ht, rfl, rfl⟩, ?_⟩
  rintro _ rfl
  walk_at "ad"
  refine r_I hc ?_
  walk_at "ad"
  rename_i a
  refine xs_forS (js := [4] ++ ([5] ++ [])) (fun i ρ μ => ∃ x4 x5 x6 : Option D, ρ = [some (splD K p), some (.str (tx t)), some (.int (p.sl.ex * (t.length : Int))), some (.ref a), x4, x5, x6] ∧ μ = [(a, .lst ((p.es.take i).map fun e => .tup (dI (wrow p.sl e.1 t))))]) ?_
  walk_at "ad"
  refine ⟨⟨_, List.Sublist.refl _, none, none, none, rfl, rfl⟩, ?_, ?_⟩
  · intro i d ρ' μ' hd hI
    obtain ⟨x4, x5, x6, rfl, rfl⟩ := hI
    obtain ⟨e, he, rfl⟩ := map_at hd
    have hm := List.mem_of_getElem? he
    have hl : ((p.es.take i).map fun e => D.tup (dI (wrow p.sl e.1 t))).length < 100000 := by
      rw [List.length_map, List.length_take]
      have := hp.len
      omega
    walk_at "ad"
    refine x_tupleM ?_
    refine x_map (js := [6]) (pline p.sl e.1 t t.length (e.1.length + 1)) (fun x => .int x) (fun x => .int (x - p.sl.ex * (t.length : Int))) [(a, .lst ((p.es.take i).map fun e => .tup (dI (wrow p.sl e.1 t))))] (by decide) (by rw [pline_len]; have := (hp.low e hm).2.1; omega) ?_ ?_ ?_
    · have i1 : L2.atI (plines p.sl e.1 t (t.length + 1)) (-(1 : Int)) = some (.lst (dI (pline p.sl e.1 t t.length (e.1.length + 1)))) := by
        rw [atI_last (by rw [plines_len]; omega), plines_len]
        exact plines_at (by omega)
      walk_at "ad"
      refine ⟨_, ⟨p.sl, e.1, t, (hp.lw hm).1, ht.1, rfl, rfl⟩, ?_⟩
      rintro _ rfl
      walk_at "ad"
      exact ⟨rfl, rfl⟩
    · intro j x acc b hx
      walk_at "ad"
      exact ⟨rfl, List.Sublist.refl _⟩
    · intro b
      refine ⟨b, 1, _, rfl, rfl, ?_⟩
      walk_at "ad"
      rw [wrow_pline, take_more he, List.map_append]
      exact ⟨[(a, _)], by walk_at "sub", _, _, _, rfl, rfl⟩
  · intro ρ' μ' hI
    obtain ⟨x4, x5, x6, rfl, rfl⟩ := hI
    rw [List.length_map, List.take_length]
    walk_at "ad"
    unfold row
    exact congrArg D.tup (by rw [List.map_map]; rfl)

abbrev N_state_of : List Str := ["speller", "text", "here"]
theorem sc_state_of : FnScope N_state_of ["speller", "text"] (defScope s_state_of) := ⟨rfl, rfl, rfl, by decide +kernel, rfl, by decide +kernel, by decide +kernel⟩
theorem Tx.c_state_of {w : World} {K : PySem.W.Frag} {mg : Str → Option Value} {base : Heap} (T : Tx K mg) : Cal P0 w K mg base 7 "state_of" (spF (G_state_of0 K)) [] := by
  refine mkCal (k := 6) T.d_state_of T.g_state_of sc_state_of (fun _ _ _ _ _ _ us hl => match us, hl with | [_, _], _ => rfl) (by intro ds R h; obtain ⟨p, hp, rfl, rfl⟩ := h; rfl) fun cdv A outer s H E hr => ?_
  have nd := sc_state_of.nd
  refine ⟨_, (pss_cons (ps_set (i := 2) nd rfl (by first | exact Or.inl rfl | exact Or.inr rfl) (pe_c T.c_row_of hr (by decide) (by rfl) (pa_cons (pv 0) (pa_cons (pv 1) pa_nil))))
  (pss_cons (ps_if (PW.pt (pw_or (pt_cmpR op_isN (pe_P T.pr_swapped (pe_P T.pr_slips (pv 0) hr (by decide)) hr (by decide)) pe_non (nomark _)) (pw_or (pt_cmpR op_eq (pv 1) pe_str (nomark _)) (pw_or1 pt_nev)))) (pss_one (ps_ret (pe_tup (pa_cons (pv 2) (pa_cons (pe_tup pa_nil) (pa_cons pe_str pa_nil)))))) pss_nil)
  (pss_one ps_never))), ?_⟩
  rintro ds R ⟨p, hp, rfl, rfl⟩
  walk_at "ad"
  refine ⟨_, ⟨p, [], hp, ⟨by decide, fun c h => by cases h⟩, by rw [show ("" : Str) = tx [] by decide +kernel], rfl⟩, ?_⟩
  rintro _ rfl
  cases hs : p.sl.sw with
  | none =>
    have e1 : (optD p.sl.sw).isN = true := by rw [hs]; rfl
    walk_at "ad"
    rw [sta_nil, show ("" : Str) = tx [] by decide +kernel]
    rfl
  | some x =>
    have e1 : (optD p.sl.sw).isN = false := by rw [hs]; rfl
    walk_at "ad"
    rw [sta_nil, show ("" : Str) = tx [] by decide +kernel]
    rfl

abbrev N_first_of : List Str := ["speller"]
theorem sc_first_of : FnScope N_first_of ["speller"] (defScope s_first_of) := ⟨rfl, rfl, rfl, by decide +kernel, rfl, by decide +kernel, by decide +kernel⟩
theorem Tx.c_first_of {w : World} {K : PySem.W.Frag} {mg : Str → Option Value} {base : Heap} (T : Tx K mg) : Cal P0 w K mg base 8 "first_of" (spF (G_first_of K)) [] := by
  refine mkCal (k := 7) T.d_first_of T.g_first_of sc_first_of (fun _ _ _ _ _ _ us hl => match us, hl with | [_], _ => rfl) (by intro ds R h; obtain ⟨p, hp, rfl, rfl⟩ := h; rfl) fun cdv A outer s H E hr => ?_
  have nd := sc_first_of.nd
  refine ⟨_, (pss_one (ps_ret (pe_c T.c_state_of hr (by decide) (by rfl) (pa_cons (pv 0) (pa_cons pe_str pa_nil))))), ?_⟩
  rintro ds R ⟨p, hp, rfl, rfl⟩
  walk_at "ad"
  refine ⟨_, ⟨p, hp, rfl, rfl⟩, ?_⟩
  rintro _ rfl
  walk_at "ad"
  rfl

end MW
end
section
open MW L2
local macro_rules | `(tactic| walk_at "d1") => `(tactic| first
  | ((with_reducible refine x_varE ?_); refine ⟨_, rfl, ?_⟩)
  | with_reducible refine x_int ?_
  | with_reducible refine x_str ?_
  | with_reducible refine x_bl ?_
  | with_reducible refine x_non ?_
  | with_reducible refine x_ref ?_
  | with_reducible refine x_ty ?_
  | with_reducible refine x_op ?_
  | with_reducible refine x_un ?_
  | with_reducible refine a_nil ?_
  | with_reducible refine a_cons ?_
  | ((with_reducible refine x_tup ?_); walk_at "ad"; refine ⟨by first | exact (by decide) | (simp; done) | omega, ?_⟩)
  | ((with_reducible refine x_lst ?_); walk_at "ad"; refine ⟨by first | exact (by decide) | (simp; done) | omega, fun _ => ?_⟩)
  | with_reducible refine x_if ?_
  | with_reducible refine x_andV ?_
  | with_reducible refine x_orV ?_
  | with_reducible refine x_notV ?_
  | with_reducible refine t_test ?_
  | with_reducible refine t_B ?_
  | with_reducible refine t_yes ?_
  | with_reducible refine r_inS ?_
  | with_reducible refine r_notInS ?_
  | with_reducible refine t_and ?_
  | with_reducible refine t_or ?_
  | with_reducible refine t_not ?_
  | ((with_reducible refine x_fz ?_); walk_at "ad"; (first | refine ⟨_, _, 0, rfl, rfl, ?_⟩ | refine ⟨_, _, 1, rfl, rfl, ?_⟩ | refine ⟨_, _, 2, rfl, rfl, ?_⟩ | refine ⟨_, _, 3, rfl, rfl, ?_⟩))
  | with_reducible refine xs_seq ?_
  | with_reducible refine xs_next ?_
  | with_reducible refine xs_ret ?_
  | with_reducible refine xs_retN ?_
  | with_reducible refine xs_drop ?_
  | with_reducible apply xs_asg
  | with_reducible refine xs_if ?_
  | with_reducible refine g_name ?_
  | with_reducible refine gs_nil ?_
  | with_reducible apply gs_cons
  | ((with_reducible apply g_tup); exact rfl)
  | with_reducible refine x_chain ?_
  | with_reducible refine x_CB ?_
  | with_reducible refine x_call0 ?_
  | with_reducible refine x_sl ?_
  | with_reducible refine o_none ?_
  | with_reducible refine o_some ?_
  | ((with_reducible refine x_prop ?_); walk_at "ad"; refine ⟨_, _, _, rfl, rfl, ?_⟩)
  | with_reducible refine r_I0 ?_
  | with_reducible refine r_I0b ?_
  | with_reducible refine r_eqI ?_
  | with_reducible refine r_neI ?_
  | with_reducible refine r_eqS ?_
  | with_reducible refine r_neS ?_
  | with_reducible refine r_isN ?_
  | with_reducible refine r_notN ?_
  | with_reducible refine u_neg ?_
  | ((with_reducible refine r_ixTE ?_); first | refine ⟨_, ‹_›, ?_⟩ | refine ⟨_, rfl, ?_⟩)
  | ((with_reducible refine r_ixLE ?_); first | refine ⟨_, ‹_›, ?_⟩ | refine ⟨_, rfl, ?_⟩)
  | ((with_reducible refine k_isIE ?_); refine ⟨_, rfl, ?_⟩)
  | ((with_reducible refine k_isSE ?_); refine ⟨_, rfl, ?_⟩)
  | ((with_reducible refine k_isTE ?_); refine ⟨_, rfl, ?_⟩)
  | ((with_reducible refine x_BM ?_); walk_at "ad"; first | refine ⟨ty_lst (j := 0) rfl, ?_⟩ | refine ⟨ty_lst (j := 1) rfl, ?_⟩ | refine ⟨ty_lst (j := 2) rfl, ?_⟩ | refine ⟨ty_lst (j := 3) rfl, ?_⟩)
  | ((with_reducible refine m_appE ?_); (first | refine ⟨0, _, rfl, ?_, ?_⟩ | refine ⟨1, _, rfl, ?_, ?_⟩ | refine ⟨2, _, rfl, ?_, ?_⟩ | refine ⟨3, _, rfl, ?_, ?_⟩); (walk_at "len"))
  | ((with_reducible refine k_lenS ?_ ?_); (walk_at "len"))
  | ((with_reducible refine s_txt ?_ ?_); (walk_at "len"))
  | ((with_reducible refine r_ixSE ?_ ?_); (walk_at "len"); (first | refine ⟨_, ‹_›, ?_⟩ | refine ⟨_, rfl, ?_⟩))
  | with_reducible refine k_lenT ?_
  | with_reducible refine k_lenL ?_
  | ((with_reducible refine k_lenME ?_); (first | refine ⟨0, _, rfl, ?_⟩ | refine ⟨1, _, rfl, ?_⟩ | refine ⟨2, _, rfl, ?_⟩ | refine ⟨3, _, rfl, ?_⟩))
  | ((with_reducible refine r_ixME ?_); (first | refine ⟨0, _, _, rfl, ‹_›, ?_⟩ | refine ⟨1, _, _, rfl, ‹_›, ?_⟩ | refine ⟨2, _, _, rfl, ‹_›, ?_⟩ | refine ⟨0, _, _, rfl, rfl, ?_⟩ | refine ⟨1, _, _, rfl, rfl, ?_⟩ | refine ⟨2, _, _, rfl, rfl, ?_⟩ | refine ⟨3, _, _, rfl, rfl, ?_⟩))
  | ((with_reducible refine x_tupleM ?_); walk_at "ad"; (first | refine ⟨_, 0, _, rfl, rfl, ?_⟩ | refine ⟨_, 1, _, rfl, rfl, ?_⟩ | refine ⟨_, 2, _, rfl, rfl, ?_⟩ | refine ⟨_, 3, _, rfl, rfl, ?_⟩))
  | ((with_reducible refine r_neT0 (n := 0) ?_ ?_ ?_); exact (by decide); exact (deep_dI _ _))
  | ((with_reducible refine x_rev2 ?_); walk_at "ad"; refine ⟨_, _, rfl, ?_⟩)
  | with_reducible refine x_join ?_
  | with_reducible refine i_enumT ?_
  | with_reducible refine i_rng1 ?_
  | with_reducible refine i_rng2 ?_
  | with_reducible refine i_tup ?_
  | with_reducible refine i_lst ?_
  | with_reducible refine i_str ?_
  | refine ⟨_, rfl, ?_⟩
  | ((with_reducible refine brT ?_ ?_); (first | assumption | exact rfl | decide +kernel))
  | ((with_reducible refine brF ?_ ?_); (first | assumption | exact rfl | decide +kernel)))
local macro_rules | `(tactic| walk_at "len") => `(tactic| first | assumption | omega | ((simp only [List.length_append, List.length_cons, List.length_nil, List.length_map, List.length_set]) <;> omega) | (simp; done) | (simp; omega))
local macro_rules | `(tactic| walk_at "ad") => `(tactic| repeat (walk_at "d1"))
local macro_rules | `(tactic| walk_at "sub") => `(tactic| first | exact List.nil_sublist _ | exact List.Sublist.refl _ | (refine List.Sublist.cons₂ _ ?_; walk_at "sub") | (refine List.Sublist.cons _ ?_; walk_at "sub"))
/-! One more letter. -/
namespace MW
open PySem PySem.Spec PyProof.Rows L2
open C8 (pe_c pe_gc Cal)
/-- what stands in a row -/
def wv (s : Slp) (w t : Wd) (j : Nat) : Int := pr s w t t.length j - s.ex * (t.length : Int)
theorem wrow_wv {s : Slp} {w t : Wd} {j : Nat} (h : j ≤ w.length) : L2.atI (dI (wrow s w t)) (j : Int) = some (.int (wv s w t j)) := by
  rw [atI_nat]
  exact dI_at (wrow_at h)
theorem wrow_take {s : Slp} {w t : Wd} {i : Nat} (h : i ≤ w.length) : (wrow s w t).take (i + 1) = (wrow s w t).take i ++ [wv s w t i] := take_more (wrow_at h)
theorem take_wv {s : Slp} {w t : Wd} {i n : Nat} (h : i ≤ w.length) (hn : i < n) : L2.atI (dI ((wrow s w t).take n)) (i : Int) = some (.int (wv s w t i)) := by
  rw [atI_nat]
  exact dI_at (by rw [List.getElem?_take_of_lt hn]; exact wrow_at h)
theorem wv_step0 (s : Slp) (w t : Wd) (c : Nat) : wv s w (t ++ [c]) 0 = wv s w t 0 := wrow_step0 s w t c
theorem cut_mid {l : Wd} {i : Nat} (h1 : 1 ≤ i) (h2 : i < l.length) : cut l (some ((1 + (i : Int)) - 2)) (some (1 + (i : Int))) = [l.getD (i - 1) 0, l.getD i 0] := by
  unfold cut
  rw [show (1 + (i : Int)) - 2 = ((i - 1 : Nat) : Int) by omega, show (1 + (i : Int)) = ((i + 1 : Nat) : Int) by omega, HT.sIx_nat, HT.sIx_nat, Nat.min_eq_left (by omega), Nat.min_eq_left (by omega), show i + 1 - (i - 1) = 2 by omega]
  refine List.ext_getElem? fun k => ?_
  match k with
  | 0 =>
    rw [List.getElem?_take_of_lt (by decide), List.getElem?_drop, List.getD_eq_getElem?_getD]
    show l[i - 1 + 0]? = some (l[i - 1]?.getD 0)
    rw [Nat.add_zero, List.getElem?_eq_getElem (by omega)]
    rfl
  | 1 =>
    rw [List.getElem?_take_of_lt (by decide), List.getElem?_drop, List.getD_eq_getElem?_getD, List.getD_eq_getElem?_getD]
    show l[i - 1 + 1]? = some (l[i]?.getD 0)
    rw [show i - 1 + 1 = i by omega, List.getElem?_eq_getElem h2]
    rfl
  | k + 2 =>
    rw [List.getElem?_eq_none (by rw [List.length_take, List.length_drop]; omega)]
    rfl
theorem atI_getD {l : Wd} {i : Nat} (h : i < l.length) : L2.atI l ((1 + (i : Int)) - 1) = some (l.getD i 0) := by
  rw [show (1 + (i : Int)) - 1 = ((i : Nat) : Int) by omega, atI_nat, List.getD_eq_getElem?_getD, List.getElem?_eq_getElem h]
  rfl
structure OkS (s : Slp) : Prop where
  ex : 1 ≤ s.ex ∧ s.ex ≤ 9
def G_next_worths (K : PySem.W.Frag) : Spc := fun ds R => ∃ (s : Slp) (w t : Wd) (c : Nat) (aw : List Int) (ty : Wd), OkS s ∧ w.length ≤ 5 ∧
  ((aw = [] ∧ ty = [c] ∧ ∀ j, j < w.length → swp s w (t ++ [c]) (t.length + 1) (j + 1) = none) ∨ (∃ (t0 : Wd) (l : Nat) (x : Int), t = t0 ++ [l] ∧ aw = wrow s w t0 ∧ ty = [l, c] ∧ s.sw = some x)) ∧
  ds = [slpD K s, .str (tx w), .tup (dI (wrow s w t)), .tup (dI aw), .str (tx ty), .int 0, .int (0 - s.ex)] ∧ R = fun d => d = .tup (dI (wrow s w (t ++ [c])))
abbrev N_next_worths : List Str := ["slips", "word", "here", "ahead", "typed", "stay", "move", "found", "j", "some"]
theorem sc_next_worths : FnScope N_next_worths ["slips", "word", "here", "ahead", "typed", "stay", "move"] (defScope s_next_worths) := ⟨rfl, rfl, rfl, by decide +kernel, rfl, by decide +kernel, by decide +kernel⟩
theorem Tx.c_next_worths {w : World} {K : PySem.W.Frag} {mg : Str → Option Value} {base : Heap} (T : Tx K mg) : Cal P0 w K mg base 3 "next_worths" (spF (G_next_worths K)) [] := by
  refine mkCal (k := 2) T.d_next_worths T.g_next_worths sc_next_worths (fun _ _ _ _ _ _ us hl => match us, hl with | [_, _, _, _, _, _, _], _ => rfl) (by intro ds R h; obtain ⟨s, w, t, c, aw, ty, hs, hw, hc, rfl, rfl⟩ := h; rfl) fun cdv A outer s H E hr => ?_
  have nd := sc_next_worths.nd
  refine ⟨_, (pss_cons (ps_set (i := 7) nd rfl (by first | exact Or.inl rfl | exact Or.inr rfl) (pe_lst (pa_cons (pe_ix ix_tup (pv 2) pe_int (fun _ _ => rfl)) pa_nil)))
  (pss_cons (ps_for PassesOwn.never rfl (pi_range2 (by rfl) T.f_range (pa_cons pe_int (pa_cons (pe_op op_add (pe_callB call_len_str (by rfl) T.f_len boot_len (pa_cons (pv 1) pa_nil)) pe_int) pa_nil))) (pg_name (i := 8) nd rfl (by first | exact Or.inl rfl | exact Or.inr rfl)) (pss_cons (ps_set (i := 9) nd rfl (by first | exact Or.inl rfl | exact Or.inr rfl) (pe_lst (pa_cons (pe_op op_add (pe_ix ix_tup (pv 2) (pv 8) (fun _ _ => rfl)) (pv 5)) (pa_cons (pe_op op_add (pe_ix ix_list (pv 7) (pe_op op_sub (pv 8) pe_int) (fun _ _ => rfl)) (pe_P T.pr_missing (pv 0) hr (by decide))) pa_nil))))
  (pss_cons (ps_expr (pe_bm PySem.F.plainAttrs_list PySem.F.slot_list_append PySem.F.type_list_append mt_append (pv 9) (pa_cons (pe_op op_add (pe_op op_add (pe_ix ix_tup (pv 2) (pe_op op_sub (pv 8) pe_int) (fun _ _ => rfl)) (pv 6)) (pe_ifExp (pt_cmpR op_eq (pe_ix ix_str (pv 1) (pe_op op_sub (pv 8) pe_int) (fun _ _ => rfl)) (pe_ix ix_str (pv 4) (pe_un un_neg pe_int) (fun _ _ => rfl)) (nomark _)) pe_int (pe_P T.pr_wrong (pv 0) hr (by decide)))) pa_nil)))
  (pss_cons (ps_if (PW.pt (pw_and (pt_cmpR op_gt (pv 8) pe_int (nomark _)) (pw_and (pt_cmpR (op_neD hr.units) (pv 3) (pe_tup pa_nil) (nomark _)) (pw_and (pt_cmpR op_ne (pe_ix ix_str (pv 4) pe_int (fun _ _ => rfl)) (pe_ix ix_str (pv 4) (pe_un un_neg pe_int) (fun _ _ => rfl)) (nomark _)) (pw_and1 (pt_cmpR op_eq (pe_slice sl_str (pv 1) (po_some (pe_op op_sub (pv 8) pe_int)) (po_some (pv 8))) (pe_rev2 (pv 4)) (nomark _))))))) (pss_one (ps_expr (pe_bm PySem.F.plainAttrs_list PySem.F.slot_list_append PySem.F.type_list_append mt_append (pv 9) (pa_cons (pe_op op_add (pe_op op_add (pe_ix ix_tup (pv 3) (pe_op op_sub (pv 8) pe_int) (fun _ _ => rfl)) (pe_P T.pr_swapped (pv 0) hr (by decide))) (pe_op op_mul pe_int (pv 6))) pa_nil)))) pss_nil)
  (pss_one (ps_expr (pe_bm PySem.F.plainAttrs_list PySem.F.slot_list_append PySem.F.type_list_append mt_append (pv 7) (pa_cons (pe_callB (cr_min rfl) (by rfl) T.f_min boot_min (pa_cons (pv 9) pa_nil)) pa_nil))))))))
  (pss_one (ps_ret (pe_tupleOf (by rfl) T.f_tuple (pv 7)))))), ?_⟩
  rintro ds R ⟨s, w, t, c, aw, ty, hs, hw, hc, rfl, rfl⟩
  have hex := hs.ex
  have h0 : L2.atI (dI (wrow s w t)) (0 : Int) = some (.int (wv s w t 0)) := wrow_wv (j := 0) (Nat.zero_le _)
  walk_at "ad"
  rename_i a
  refine xs_forS (js := [8]) (fun i ρ μ => ∃ x8 x9 : Option D, ρ = [some (slpD K s), some (.str (tx w)), some (.tup (dI (wrow s w t))), some (.tup (dI aw)), some (.str (tx ty)), some (.int 0), some (.int (0 - s.ex)), some (.ref a), x8, x9] ∧ μ = [(a, .lst (dI ((wrow s w (t ++ [c])).take (i + 1))))]) ?_
  have hwl : w.length ≤ 100000 := by omega
  walk_at "ad"
  refine ⟨_, _, rfl, by omega, by omega, by omega, by omega, ⟨_, List.Sublist.refl _, none, none, rfl, ?_⟩, ?_, ?_⟩
  · rw [wrow_take (i := 0) (Nat.zero_le _), wv_step0]
    rfl
  · intro i d ρ' μ' hd hI
    obtain ⟨x8, x9, rfl, rfl⟩ := hI
    obtain ⟨hi, rfl⟩ := rng_at hd
    have hi2 : i < w.length := by omega
    have i1 : L2.atI (dI (wrow s w t)) (1 + (i : Int)) = some (.int (wv s w t (i + 1))) := by
      rw [show (1 + (i : Int)) = ((i + 1 : Nat) : Int) by omega]
      exact wrow_wv (by omega)
    have i2 : L2.atI (dI ((wrow s w (t ++ [c])).take (i + 1))) ((1 + (i : Int)) - 1) = some (.int (wv s w (t ++ [c]) i)) := by
      rw [show (1 + (i : Int)) - 1 = (i : Int) by omega]
      exact take_wv (by omega) (by omega)
    have i3 : L2.atI (dI (wrow s w t)) ((1 + (i : Int)) - 1) = some (.int (wv s w t i)) := by
      rw [show (1 + (i : Int)) - 1 = (i : Int) by omega]
      exact wrow_wv (by omega)
    have i4 := atI_getD hi2
    have hlen : (dI ((wrow s w (t ++ [c])).take (i + 1))).length < 100000 := by
      rw [dI_len, List.length_take, wrow_len]
      omega
    rcases hc with ⟨rfl, rfl, hno⟩ | ⟨t0, l, x, et, rfl, rfl, e3⟩
    · have i5 : L2.atI [c] (-(1 : Int)) = some c := rfl
      have e1 : (!(dI []).isEmpty) = false := rfl
      have hlt : ([c] : Wd).length ≤ 100000 := by simp
      by_cases hj : 1 ≤ i
      · have e2 : decide ((1 : Int) < 1 + (i : Int)) = true := decide_eq_true (by omega)
        by_cases hb : w.getD i 0 = c
        · have f1 : decide (tx [w.getD i 0] = tx [c]) = true := decide_eq_true (by rw [hb])
          have hz : swp s w (t ++ [c]) (t.length + 1) (i + 1) = none := hno i hi2
          have hst : wv s w (t ++ [c]) (i + 1) = lmin [wv s w t (i + 1) + 0, wv s w (t ++ [c]) i + s.mi, wv s w t i + (0 - s.ex) + 0] := by
            unfold wv
            rw [wrow_step, hz]
            unfold sub
            rw [if_pos hb]
            simp
          walk_at "ad"
          refine k_minM (j := 1) (l := [wv s w t (i + 1) + 0, wv s w (t ++ [c]) i + s.mi, wv s w t i + (0 - s.ex) + 0]) rfl (by simp) fun m m1 m2 => ?_
          have e4 := lmin_is m1 m2
          rw [← hst] at e4
          subst e4
          walk_at "ad"
          rw [← dI_app, ← wrow_take (by omega : i + 1 ≤ w.length)]
          exact ⟨[(a, _)], by walk_at "sub", _, _, rfl, rfl⟩
        · have f1 : decide (tx [w.getD i 0] = tx [c]) = false := decide_eq_false (fun z => hb (List.cons.inj (tx_inj z)).1)
          have hz : swp s w (t ++ [c]) (t.length + 1) (i + 1) = none := hno i hi2
          have hst : wv s w (t ++ [c]) (i + 1) = lmin [wv s w t (i + 1) + 0, wv s w (t ++ [c]) i + s.mi, wv s w t i + (0 - s.ex) + s.wr] := by
            unfold wv
            rw [wrow_step, hz]
            unfold sub
            rw [if_neg hb]
            simp
          walk_at "ad"
          refine k_minM (j := 1) (l := [wv s w t (i + 1) + 0, wv s w (t ++ [c]) i + s.mi, wv s w t i + (0 - s.ex) + s.wr]) rfl (by simp) fun m m1 m2 => ?_
          have e4 := lmin_is m1 m2
          rw [← hst] at e4
          subst e4
          walk_at "ad"
          rw [← dI_app, ← wrow_take (by omega : i + 1 ≤ w.length)]
          exact ⟨[(a, _)], by walk_at "sub", _, _, rfl, rfl⟩
      · have e2 : decide ((1 : Int) < 1 + (i : Int)) = false := decide_eq_false (by omega)
        by_cases hb : w.getD i 0 = c
        · have f1 : decide (tx [w.getD i 0] = tx [c]) = true := decide_eq_true (by rw [hb])
          have hz : swp s w (t ++ [c]) (t.length + 1) (i + 1) = none := hno i hi2
          have hst : wv s w (t ++ [c]) (i + 1) = lmin [wv s w t (i + 1) + 0, wv s w (t ++ [c]) i + s.mi, wv s w t i + (0 - s.ex) + 0] := by
            unfold wv
            rw [wrow_step, hz]
            unfold sub
            rw [if_pos hb]
            simp
          walk_at "ad"
          refine k_minM (j := 1) (l := [wv s w t (i + 1) + 0, wv s w (t ++ [c]) i + s.mi, wv s w t i + (0 - s.ex) + 0]) rfl (by simp) fun m m1 m2 => ?_
          have e4 := lmin_is m1 m2
          rw [← hst] at e4
          subst e4
          walk_at "ad"
          rw [← dI_app, ← wrow_take (by omega : i + 1 ≤ w.length)]
          exact ⟨[(a, _)], by walk_at "sub", _, _, rfl, rfl⟩
        · have f1 : decide (tx [w.getD i 0] = tx [c]) = false := decide_eq_false (fun z => hb (List.cons.inj (tx_inj z)).1)
          have hz : swp s w (t ++ [c]) (t.length + 1) (i + 1) = none := hno i hi2
          have hst : wv s w (t ++ [c]) (i + 1) = lmin [wv s w t (i + 1) + 0, wv s w (t ++ [c]) i + s.mi, wv s w t i + (0 - s.ex) + s.wr] := by
            unfold wv
            rw [wrow_step, hz]
            unfold sub
            rw [if_neg hb]
            simp
          walk_at "ad"
          refine k_minM (j := 1) (l := [wv s w t (i + 1) + 0, wv s w (t ++ [c]) i + s.mi, wv s w t i + (0 - s.ex) + s.wr]) rfl (by simp) fun m m1 m2 => ?_
          have e4 := lmin_is m1 m2
          rw [← hst] at e4
          subst e4
          walk_at "ad"
          rw [← dI_app, ← wrow_take (by omega : i + 1 ≤ w.length)]
          exact ⟨[(a, _)], by walk_at "sub", _, _, rfl, rfl⟩
    · have i5 : L2.atI [l, c] (-(1 : Int)) = some c := rfl
      have i6 : L2.atI [l, c] (0 : Int) = some l := rfl
      have hlt : ([l, c] : Wd).length ≤ 100000 := by simp
      have e1 : (!(dI (wrow s w t0)).isEmpty) = true := by
        refine neN _ fun z => ?_
        have q := congrArg List.length z
        rw [dI_len, wrow_len] at q
        simp at q
      have len1 : t.length = t0.length + 1 := by rw [et]; simp
      have ew : pr s w t t0.length (i - 1) = pr s w t0 t0.length (i - 1) := by
        rw [et]
        exact pr_cong s w _ _ fun k hk => getD_snoc hk
      have g0 : (t ++ [c]).getD (t.length + 1 - 1) 0 = c := by
        rw [Nat.add_sub_cancel]
        exact getD_last
      have g1 : (t ++ [c]).getD (t.length + 1 - 2) 0 = l := by
        rw [getD_snoc (by omega), show t.length + 1 - 2 = t0.length by omega, et]
        exact getD_last
      by_cases hj : 1 ≤ i
      · have e2 : decide ((1 : Int) < 1 + (i : Int)) = true := decide_eq_true (by omega)
        by_cases k1 : l = c
        · have d1 : (!decide (tx [l] = tx [c])) = false := by rw [k1]; simp
          by_cases hb : w.getD i 0 = c
          · have f1 : decide (tx [w.getD i 0] = tx [c]) = true := decide_eq_true (by rw [hb])
            have hz : swp s w (t ++ [c]) (t.length + 1) (i + 1) = none := by
              unfold swp
              rw [e3]
              exact if_neg fun z => z.2.2.2.2 (by rw [g0, g1]; exact k1.symm)
            have hst : wv s w (t ++ [c]) (i + 1) = lmin [wv s w t (i + 1) + 0, wv s w (t ++ [c]) i + s.mi, wv s w t i + (0 - s.ex) + 0] := by
              unfold wv
              rw [wrow_step, hz]
              unfold sub
              rw [if_pos hb]
              simp
            walk_at "ad"
            refine k_minM (j := 1) (l := [wv s w t (i + 1) + 0, wv s w (t ++ [c]) i + s.mi, wv s w t i + (0 - s.ex) + 0]) rfl (by simp) fun m m1 m2 => ?_
            have e4 := lmin_is m1 m2
            rw [← hst] at e4
            subst e4
            walk_at "ad"
            rw [← dI_app, ← wrow_take (by omega : i + 1 ≤ w.length)]
            exact ⟨[(a, _)], by walk_at "sub", _, _, rfl, rfl⟩
          · have f1 : decide (tx [w.getD i 0] = tx [c]) = false := decide_eq_false (fun z => hb (List.cons.inj (tx_inj z)).1)
            have hz : swp s w (t ++ [c]) (t.length + 1) (i + 1) = none := by
              unfold swp
              rw [e3]
              exact if_neg fun z => z.2.2.2.2 (by rw [g0, g1]; exact k1.symm)
            have hst : wv s w (t ++ [c]) (i + 1) = lmin [wv s w t (i + 1) + 0, wv s w (t ++ [c]) i + s.mi, wv s w t i + (0 - s.ex) + s.wr] := by
              unfold wv
              rw [wrow_step, hz]
              unfold sub
              rw [if_neg hb]
              simp
            walk_at "ad"
            refine k_minM (j := 1) (l := [wv s w t (i + 1) + 0, wv s w (t ++ [c]) i + s.mi, wv s w t i + (0 - s.ex) + s.wr]) rfl (by simp) fun m m1 m2 => ?_
            have e4 := lmin_is m1 m2
            rw [← hst] at e4
            subst e4
            walk_at "ad"
            rw [← dI_app, ← wrow_take (by omega : i + 1 ≤ w.length)]
            exact ⟨[(a, _)], by walk_at "sub", _, _, rfl, rfl⟩
        · have d1 : (!decide (tx [l] = tx [c])) = true := by rw [decide_eq_false (fun z => k1 (List.cons.inj (tx_inj z)).1)]; rfl
          have d2 : decide (tx (cut w (some ((1 + (i : Int)) - 2)) (some (1 + (i : Int)))) = tx [c, l]) = decide (w.getD (i - 1) 0 = c ∧ w.getD i 0 = l) := by
            rw [cut_mid hj hi2]
            exact dec_eq (by rw [tx_eq]; simp)
          by_cases k4 : w.getD (i - 1) 0 = c ∧ w.getD i 0 = l
          · have d3 := d2.trans (decide_eq_true k4)
            obtain ⟨k2, k3⟩ := k4
            have i7 : L2.atI (dI (wrow s w t0)) ((1 + (i : Int)) - 2) = some (.int (wv s w t0 (i - 1))) := by
              rw [show (1 + (i : Int)) - 2 = ((i - 1 : Nat) : Int) by omega]
              exact wrow_wv (by omega)
            by_cases hb : w.getD i 0 = c
            · have f1 : decide (tx [w.getD i 0] = tx [c]) = true := decide_eq_true (by rw [hb])
              have hz : swp s w (t ++ [c]) (t.length + 1) (i + 1) = some x := by
                unfold swp
                rw [e3]
                exact if_pos ⟨by omega, by omega, by rw [g0]; exact k2.symm, by rw [g1]; exact k3.symm, by rw [g0, g1]; exact fun z => k1 z.symm⟩
              have hst : wv s w (t ++ [c]) (i + 1) = lmin [wv s w t (i + 1) + 0, wv s w (t ++ [c]) i + s.mi, wv s w t i + (0 - s.ex) + 0, wv s w t0 (i - 1) + x + 2 * (0 - s.ex)] := by
                unfold wv
                rw [wrow_step, hz]
                unfold sub
                rw [if_pos hb]
                simp [len1, ew]
              walk_at "ad"
              rw [e3, show optD (some x) = D.int x from rfl]
              walk_at "ad"
              refine r_I (show CMul 2 (0 - s.ex) from .inl ⟨by decide, by decide⟩) ?_
              walk_at "ad"
              refine k_minM (j := 1) (l := [wv s w t (i + 1) + 0, wv s w (t ++ [c]) i + s.mi, wv s w t i + (0 - s.ex) + 0, wv s w t0 (i - 1) + x + 2 * (0 - s.ex)]) rfl (by simp) fun m m1 m2 => ?_
              have e4 := lmin_is m1 m2
              rw [← hst] at e4
              subst e4
              walk_at "ad"
              rw [← dI_app, ← wrow_take (by omega : i + 1 ≤ w.length)]
              exact ⟨[(a, _)], by walk_at "sub", _, _, rfl, rfl⟩
            · have f1 : decide (tx [w.getD i 0] = tx [c]) = false := decide_eq_false (fun z => hb (List.cons.inj (tx_inj z)).1)
              have hz : swp s w (t ++ [c]) (t.length + 1) (i + 1) = some x := by
                unfold swp
                rw [e3]
                exact if_pos ⟨by omega, by omega, by rw [g0]; exact k2.symm, by rw [g1]; exact k3.symm, by rw [g0, g1]; exact fun z => k1 z.symm⟩
              have hst : wv s w (t ++ [c]) (i + 1) = lmin [wv s w t (i + 1) + 0, wv s w (t ++ [c]) i + s.mi, wv s w t i + (0 - s.ex) + s.wr, wv s w t0 (i - 1) + x + 2 * (0 - s.ex)] := by
                unfold wv
                rw [wrow_step, hz]
                unfold sub
                rw [if_neg hb]
                simp [len1, ew]
              walk_at "ad"
              rw [e3, show optD (some x) = D.int x from rfl]
              walk_at "ad"
              refine r_I (show CMul 2 (0 - s.ex) from .inl ⟨by decide, by decide⟩) ?_
              walk_at "ad"
              refine k_minM (j := 1) (l := [wv s w t (i + 1) + 0, wv s w (t ++ [c]) i + s.mi, wv s w t i + (0 - s.ex) + s.wr, wv s w t0 (i - 1) + x + 2 * (0 - s.ex)]) rfl (by simp) fun m m1 m2 => ?_
              have e4 := lmin_is m1 m2
              rw [← hst] at e4
              subst e4
              walk_at "ad"
              rw [← dI_app, ← wrow_take (by omega : i + 1 ≤ w.length)]
              exact ⟨[(a, _)], by walk_at "sub", _, _, rfl, rfl⟩
          · have d3 := d2.trans (decide_eq_false k4)
            by_cases hb : w.getD i 0 = c
            · have f1 : decide (tx [w.getD i 0] = tx [c]) = true := decide_eq_true (by rw [hb])
              have hz : swp s w (t ++ [c]) (t.length + 1) (i + 1) = none := by
                unfold swp
                rw [e3]
                exact if_neg fun z => k4 ⟨by have q := z.2.2.1; rw [g0] at q; exact q.symm, by have q := z.2.2.2.1; rw [g1] at q; exact q.symm⟩
              have hst : wv s w (t ++ [c]) (i + 1) = lmin [wv s w t (i + 1) + 0, wv s w (t ++ [c]) i + s.mi, wv s w t i + (0 - s.ex) + 0] := by
                unfold wv
                rw [wrow_step, hz]
                unfold sub
                rw [if_pos hb]
                simp
              walk_at "ad"
              refine k_minM (j := 1) (l := [wv s w t (i + 1) + 0, wv s w (t ++ [c]) i + s.mi, wv s w t i + (0 - s.ex) + 0]) rfl (by simp) fun m m1 m2 => ?_
              have e4 := lmin_is m1 m2
              rw [← hst] at e4
              subst e4
              walk_at "ad"
              rw [← dI_app, ← wrow_take (by omega : i + 1 ≤ w.length)]
              exact ⟨[(a, _)], by walk_at "sub", _, _, rfl, rfl⟩
            · have f1 : decide (tx [w.getD i 0] = tx [c]) = false := decide_eq_false (fun z => hb (List.cons.inj (tx_inj z)).1)
              have hz : swp s w (t ++ [c]) (t.length + 1) (i + 1) = none := by
                unfold swp
                rw [e3]
                exact if_neg fun z => k4 ⟨by have q := z.2.2.1; rw [g0] at q; exact q.symm, by have q := z.2.2.2.1; rw [g1] at q; exact q.symm⟩
              have hst : wv s w (t ++ [c]) (i + 1) = lmin [wv s w t (i + 1) + 0, wv s w (t ++ [c]) i + s.mi, wv s w t i + (0 - s.ex) + s.wr] := by
                unfold wv
                rw [wrow_step, hz]
                unfold sub
                rw [if_neg hb]
                simp
              walk_at "ad"
              refine k_minM (j := 1) (l := [wv s w t (i + 1) + 0, wv s w (t ++ [c]) i + s.mi, wv s w t i + (0 - s.ex) + s.wr]) rfl (by simp) fun m m1 m2 => ?_
              have e4 := lmin_is m1 m2
              rw [← hst] at e4
              subst e4
              walk_at "ad"
              rw [← dI_app, ← wrow_take (by omega : i + 1 ≤ w.length)]
              exact ⟨[(a, _)], by walk_at "sub", _, _, rfl, rfl⟩
      · have e2 : decide ((1 : Int) < 1 + (i : Int)) = false := decide_eq_false (by omega)
        by_cases hb : w.getD i 0 = c
        · have f1 : decide (tx [w.getD i 0] = tx [c]) = true := decide_eq_true (by rw [hb])
          have hz : swp s w (t ++ [c]) (t.length + 1) (i + 1) = none := by
            unfold swp
            rw [e3]
            exact if_neg fun z => hj (by omega)
          have hst : wv s w (t ++ [c]) (i + 1) = lmin [wv s w t (i + 1) + 0, wv s w (t ++ [c]) i + s.mi, wv s w t i + (0 - s.ex) + 0] := by
            unfold wv
            rw [wrow_step, hz]
            unfold sub
            rw [if_pos hb]
            simp
          walk_at "ad"
          refine k_minM (j := 1) (l := [wv s w t (i + 1) + 0, wv s w (t ++ [c]) i + s.mi, wv s w t i + (0 - s.ex) + 0]) rfl (by simp) fun m m1 m2 => ?_
          have e4 := lmin_is m1 m2
          rw [← hst] at e4
          subst e4
          walk_at "ad"
          rw [← dI_app, ← wrow_take (by omega : i + 1 ≤ w.length)]
          exact ⟨[(a, _)], by walk_at "sub", _, _, rfl, rfl⟩
        · have f1 : decide (tx [w.getD i 0] = tx [c]) = false := decide_eq_false (fun z => hb (List.cons.inj (tx_inj z)).1)
          have hz : swp s w (t ++ [c]) (t.length + 1) (i + 1) = none := by
            unfold swp
            rw [e3]
            exact if_neg fun z => hj (by omega)
          have hst : wv s w (t ++ [c]) (i + 1) = lmin [wv s w t (i + 1) + 0, wv s w (t ++ [c]) i + s.mi, wv s w t i + (0 - s.ex) + s.wr] := by
            unfold wv
            rw [wrow_step, hz]
            unfold sub
            rw [if_neg hb]
            simp
          walk_at "ad"
          refine k_minM (j := 1) (l := [wv s w t (i + 1) + 0, wv s w (t ++ [c]) i + s.mi, wv s w t i + (0 - s.ex) + s.wr]) rfl (by simp) fun m m1 m2 => ?_
          have e4 := lmin_is m1 m2
          rw [← hst] at e4
          subst e4
          walk_at "ad"
          rw [← dI_app, ← wrow_take (by omega : i + 1 ≤ w.length)]
          exact ⟨[(a, _)], by walk_at "sub", _, _, rfl, rfl⟩
  · intro ρ' μ' hI
    obtain ⟨x8, x9, rfl, rfl⟩ := hI
    rw [rng_len]
    walk_at "ad"
    have e : (wrow s w (t ++ [c])).take ((((w.length : Nat) : Int) + 1 - 1).toNat + 1) = wrow s w (t ++ [c]) := List.take_of_length_le (by rw [wrow_len]; omega)
    rw [e]

end MW
end
section
open MW L2
/-! set(text), sorted(set). -/
namespace MW
open PySem PySem.Spec PyProof.Rows L2 PySem.Froz
/-- the set of texts at a: its members l; it can be walked -/
def SetS (P : Program) (w : World) (h : Heap) (a : Addr) (l : List Str) : Prop := ∃ D : SD, h.get? a = some (sObj "set" D) ∧ TxOk P w D l ∧ Ris D.2.2.place.toList ∧ (w.params.followText "set-order" = true ∨ D.2.2.led = true) ∧ l.Nodup
theorem SetS.at {P : Program} {w : World} {h h' : Heap} {a : Addr} {l : List Str} (S : SetS P w h a l) (k : ∀ o, h.get? a = some o → h'.get? a = some o) : SetS P w h' a l := let ⟨D, e, r⟩ := S; ⟨D, k _ e, r⟩
theorem tailTab (ep : Nat) (es1 : Array (Int × Value)) (t2 : SetTable) (wd : Bool) (h : Ris t2.place.toList) : Ris (tailTx ep es1 t2 wd).2.2.place.toList ∧ (tailTx ep es1 t2 wd).2.2.led = t2.led := by
  unfold tailTx
  split
  · exact ⟨relayAll_ris t2 es1 _, relayAll_led t2 es1 _⟩
  · exact ⟨h, rfl⟩
theorem addTab (x : Int) (v : Value) (D : SD) (h : Ris D.2.2.place.toList) : Ris (addTx x v D).2.2.place.toList ∧ (addTx x v D).2.2.led = D.2.2.led := by
  have h1 := layNew_ris D.2.2 D.1 x v h
  have h2 := layNew_led D.2.2 D.1 x v
  have h3 := tailTab D.2.1 (layNew D.2.2 D.1 x v).1 (if (layNew D.2.2 D.1 x v).2.1.plain = true then { (layNew D.2.2 D.1 x v).2.1 with plain := false } else (layNew D.2.2 D.1 x v).2.1) (layNew D.2.2 D.1 x v).2.2.1 (by split <;> exact h1)
  refine ⟨h3.1, h3.2.trans ?_⟩
  split <;> exact h2
section
variable {P : Program} {w : World} {A : Around} {E : Value → Shared → Prop} {s : Shared} {R : Result → Shared → Prop}
/-- one text more, or one that is there -/
theorem addS {a : Addr} {l : List Str} {k : Str} {u : Tok} {Q : Bool → Shared → Prop} (S : SetS P w s.heap a l) (hb : l.length + 1 < scanBound)
    (h : ∀ b h' l', SetS P w h' a l' → (∀ y, y ∈ l' ↔ y = k ∨ y ∈ l) → l'.length ≤ l.length + 1 → Heap.SameBut a s.heap h' → Q b { s with heap := h' }) : wpAny (model P w) A (setAddHashed a (.str k u) (hashStr w k)) Q E s := by
  obtain ⟨D, ho, F, hr, hl, nd⟩ := S
  by_cases hk : k ∈ l
  · obtain ⟨es, ep, t⟩ := D
    have hd : (sObj "set" (es, ep, t)).data = .set es ep t := rfl
    have hb0 : es.size < scanBound := by
      have q : es.size = l.length := F.sz
      omega
    obtain ⟨e0, he0, hp0⟩ := (F.mem k).mp hk
    obtain ⟨j, hj⟩ : ∃ j, List.findIdx? (fun e => (strKind P w).is k e.2) es.toList = some j := by
      cases q : List.findIdx? (fun e => (strKind P w).is k e.2) es.toList with
      | some j => exact ⟨j, rfl⟩
      | none =>
        have z := List.findIdx?_eq_none_iff.mp q e0 he0
        rw [hp0] at z
        cases z
    have fin := h false s.heap l ⟨_, ho, F, hr, hl, nd⟩ (fun y => ⟨.inr, fun z => z.elim (fun e => e ▸ hk) id⟩) (Nat.le_succ _) (Heap.SameBut.refl a s.heap)
    unfold setAddHashed setAddHashedIn
    refine wpAny_holding (wpAny_bind (wpAny_setState_of ho hd F.fit ?_))
    dsimp only
    rw [byScan_of rfl hb0 F.el]
    simp only [↓reduceIte]
    unfold setAddByScan
    refine wpAny_bind ?_
    refine wpAny_bind (wpAny_rule ?_)
    refine wpAny_bind (wpAny_setScan_of (knd := strKind P w) (k := k) (is_str k u) ho hd F.fit F.el ?_)
    rw [hj]
    exact wpAny_pure (wpAny_pure fin)
  · refine add_x ho F hk hb (h true _ (k :: l) ⟨_, get_upd _ ho rfl, add_ok u F, (addTab _ _ D hr).1, hl.imp id fun z => (addTab _ _ D hr).2.trans z, List.nodup_cons.mpr ⟨hk, nd⟩⟩ (fun y => List.mem_cons) (Nat.le_refl _) ?_)
    exact Heap.SameBut.update s.heap a _
/-- the rest of a text's signs -/
theorem loopS {a it : Addr} (hne : a ≠ it) {x : Str} {u : Tok} (hh : A.handled = none) : ∀ (cs : List Nat) (i : Nat) (l : List Str) (s : Shared), x.cps.toList.drop i = cs → SetS P w s.heap a l → s.heap.get? it = some (itObj x u i) → l.length + cs.length < scanBound →
    (∀ h' tk l', SetS P w h' a l' → (∀ y, y ∈ l' ↔ y ∈ l ∨ ∃ c ∈ cs, y = sing c) → l'.length ≤ l.length + cs.length → (∀ b o, b ≠ a → b ≠ it → s.heap.get? b = some o → h'.get? b = some o) → R (.ok (.ret .none)) { s with heap := h', toks := tk }) →
    codeAny (model P w) A (.builtin "set.update.loop" ⟨[.ref a, .ref it], []⟩) R s
  | [], i, l, s, hd, hS, hit, _, h => by
    refine codeAny_builtin PyProof.Rows.F.entry_set_update_loop ?_
    rw [Around.under_plainId PyProof.Rows.F.plain_set_update_loop _]
    show wpAny _ A.in1 (pyNext (.ref it) >>= _) _ _ s
    refine wpAny_bind (end_x (u := u) (by exact hh) hit (at_end hd) ?_)
    have hk : ∀ b o, b ≠ it → s.heap.get? b = some o → (endHeap s.heap it i).get? b = some o := fun b o h2 e => Heap.get?_push_of_some _ (Heap.get?_push_of_some _ (PySem.Heap.get?_update_of_ne _ (Ne.symm h2) e))
    exact wpAny_pure (h (endHeap s.heap it i) s.toks l (hS.at fun o e => hk a o hne e) (fun y => by simp) (Nat.le_refl _) fun b o _ h2 e => hk b o h2 e)
  | c :: r, i, l, s, hd, hS, hit, hb, h => by
    obtain ⟨hx, hd2⟩ := at_of hd
    refine codeAny_builtin PyProof.Rows.F.entry_set_update_loop ?_
    rw [Around.under_plainId PyProof.Rows.F.plain_set_update_loop _]
    show wpAny _ A.in1 (pyNext (.ref it) >>= _) _ _ s
    refine wpAny_bind (next_x (u := u) hit hx ?_)
    refine wpAny_bind (wpAny_holding ?_)
    unfold setAdd
    refine wpAny_holding ?_
    refine wpAny_bind ((strKind P w).pyHash (k := sing c) (is_str _ _) ?_)
    have hb2 : l.length + (r.length + 1) < scanBound := hb
    have S1 : SetS P w (s.heap.update it (fun _ => itObj x u (i + 1))) a l := hS.at fun o e => PySem.Heap.get?_update_of_ne _ (Ne.symm hne) e
    refine addS (s := { s with heap := s.heap.update it (fun _ => itObj x u (i + 1)), toks := s.toks + 1 + 1 }) S1 (by omega) fun b h2 l2 S2 m2 z2 sb => ?_
    have hit2 : h2.get? it = some (itObj x u (i + 1)) := (sb.2 it (Ne.symm hne)).trans (get_upd _ hit rfl)
    refine wpAny_pure ⟨plainId_quiet PyProof.Rows.F.plain_set_update_loop _, loopS hne hh r (i + 1) l2 { s with heap := h2, toks := s.toks + 1 + 1 } hd2 S2 hit2 (by omega) fun h3 tk l3 S3 m3 z3 k3 => ?_⟩
    refine h h3 tk l3 S3 (fun y => ?_) (by show l3.length ≤ l.length + (r.length + 1); omega) fun b o b1 b2 e => k3 b o b1 b2 ((sb.2 b b1).trans (PySem.Heap.get?_update_of_ne _ (Ne.symm b2) e))
    rw [m3 y, m2 y]
    constructor
    · rintro ((e | e) | ⟨d, hd, e⟩)
      · exact .inr ⟨c, List.mem_cons_self, e⟩
      · exact .inl e
      · exact .inr ⟨d, List.mem_cons_of_mem _ hd, e⟩
    · rintro (e | ⟨d, hd, e⟩)
      · exact .inl (.inr e)
      · rcases List.mem_cons.mp hd with q | q
        · exact .inl (.inl (q ▸ e))
        · exact .inr ⟨d, q, e⟩
/-- an empty set, as it is made -/
abbrev emS (w : World) : Obj := { cls := .type "set", dict := none, data := .set #[] 0 (.fresh 0 0 (!w.params.followText "set-order")) }
theorem emS_ok (w : World) {h : Heap} {a : Addr} (e : h.get? a = some (emS w)) : SetS P w h a [] := by
  refine ⟨(#[], 0, .fresh 0 0 (!w.params.followText "set-order")), e, TxOk.nil (by rfl), ?_, ?_, List.nodup_nil⟩
  · exact List.Pairwise.nil
  · cases q : w.params.followText "set-order" with
    | true => exact .inl rfl
    | false => exact .inr rfl
set_option maxRecDepth 100000 in
set_option maxHeartbeats 4000000 in
theorem callS {x : Str} {u : Tok} {Q : Value → Shared → Prop} (hh : A.handled = none) (ha : x.cps.all (· < 128) = true) (hb : x.cps.size < 4000)
    (h : ∀ h' tk l, SetS P w h' s.heap.objs.size l → (∀ y, y ∈ l ↔ ∃ c ∈ x.cps.toList, y = sing c) → l.length ≤ x.cps.size → (∀ b o, s.heap.get? b = some o → h'.get? b = some o) → Q (.ref s.heap.objs.size) { s with heap := h', toks := tk }) :
    wpAny (model P w) A (call (.type "set") [.str x u]) Q E s := by
  obtain ⟨c0, tl, hmro⟩ := F.called_set.mro
  have hmade := F.called_set.made
  have hsub := F.called_set.sub
  have h1 := F.called_set.notType
  have h2 := F.called_set.canCreate
  have hct := F.typeCall_set_1 (.str x u)
  refine wpAny_call (codeAny_of_tree ?_)
  show wpAny _ _ (callAny (.type "set") _) _ _ _
  refine wpAny_pure ⟨Code.quiet_builtin _ (by decide +kernel), codeAny_builtin F.entry_type_call ?_⟩
  rw [Around.under_plain (weight_type_call_type "set" [.str x u] []) rfl]
  repeat (any_goals (first | assumption | wp_step))
  refine codeAny_mono (L2.code_set_led1 (.str x u) (E := E) (Q₁ := fun obj s₁ => obj = .ref s.heap.objs.size ∧ s₁ = { s with heap := s.heap.push (emS w) }) ⟨rfl, rfl⟩) fun r s₁ hr => ?_
  match r, hr with
  | .error e, hr => exact hr
  | .ok .next, hr => exact hr.elim
  | .ok .brk, hr => exact hr.elim
  | .ok .cont, hr => exact hr.elim
  | .ok (.ret obj), hr =>
    obtain ⟨rfl, rfl⟩ := hr
    have hS : (s.heap.push (emS w)).get? s.heap.objs.size = some (emS w) := Heap.get?_push_size _ rfl
    have hT : Shared.TypeIs { s with heap := s.heap.push (emS w) } (.ref s.heap.objs.size) "set" := ⟨_, hS, rfl⟩
    have hz : (s.heap.push (emS w)).objs.size = s.heap.objs.size + 1 := Heap.size_push ..
    have hli := F.called_set.init.lookup
    have hbi := F.called_set.init.bind (.ref s.heap.objs.size)
    repeat (any_goals (first | assumption | wp_step))
    refine codeAny_mono (codeAny_call_builtin (R := wants (fun r s₂ => r = .none ∧ ∃ h' tk l, s₂ = { s with heap := h', toks := tk } ∧ SetS P w h' s.heap.objs.size l ∧ (∀ y, y ∈ l ↔ ∃ c ∈ x.cps.toList, y = sing c) ∧ l.length ≤ x.cps.size ∧
      (∀ b o, s.heap.get? b = some o → h'.get? b = some o)) E) F.called_set.init.plain F.entry_set_init (check_set_init_1 hT ?_)) fun r₂ s₂ hr₂ => ?_
    · have hs1 := PySem.F.sub_str_set
      have hs2 := PySem.F.sub_str_frozenset
      have hne : (Value.type "str" == Value.type "dict") = false := by decide
      unfold Builtin.«set.__init__» noKeywords Builtin.Frozenset.updateFrom
      generalize hPI : pyIter = PI
      wp_walk
      subst hPI
      refine wpAny_pyIter_ascii ha ?_
      refine wpAny_bind (wpAny_runValue ?_)
      have hit : ((s.heap.push (emS w)).push (itObj x u 0)).get? (s.heap.objs.size + 1) = some (itObj x u 0) := by
        rw [← hz]
        exact Heap.get?_push_size _ rfl
      have hS1 : ((s.heap.push (emS w)).push (itObj x u 0)).get? s.heap.objs.size = some (emS w) := Heap.get?_push_of_some _ hS
      have hS2 := emS_ok (P := P) w hS1
      rw [hz]
      refine loopS (P := P) (w := w) (u := u) (x := x) (Nat.ne_of_lt (Nat.lt_succ_self _)) (by simpa using hh) x.cps.toList 0 [] { s with heap := (s.heap.push (emS w)).push (itObj x u 0) } rfl hS2 hit (by simp [scanBound]; omega) fun h' tk l k1 k2 k3 k4 => ?_
      refine wpAny_pure (wpAny_pure ⟨rfl, h', tk, l, rfl, k1, fun y => (k2 y).trans (by simp), by simpa using k3, fun b o e => ?_⟩)
      have hl := Heap.lt_size e
      exact k4 b o (Nat.ne_of_lt hl) (Nat.ne_of_lt (Nat.lt_succ_of_lt hl)) (Heap.get?_push_of_some _ (Heap.get?_push_of_some _ e))
    · match r₂, hr₂ with
      | .error e, hr₂ => exact hr₂
      | .ok .next, hr₂ => exact hr₂.elim
      | .ok .brk, hr₂ => exact hr₂.elim
      | .ok .cont, hr₂ => exact hr₂.elim
      | .ok (.ret r), hr₂ =>
        obtain ⟨rfl, h', tk, l, rfl, k1, k2, k3, k4⟩ := hr₂
        repeat (any_goals (first | assumption | wp_step))
        exact h _ _ _ k1 k2 k3 k4
/-- the texts of the elements -/
def strOf : Value → Str
  | .str x _ => x
  | _ => Str.empty
theorem strs_all : ∀ (l : List Value), (∀ v ∈ l, ∃ k tk, v = Value.str k tk) → StrsAre l (l.map strOf)
  | [], _ => .nil
  | v :: l, h => by
    obtain ⟨k, tk, rfl⟩ := h v List.mem_cons_self
    exact .cons k tk (strs_all l fun u hu => h u (List.mem_cons_of_mem _ hu))
theorem el_str {es : List (Int × Value)} (h : ElemsOf (PySem.strKind P w) es) : ∀ e ∈ es, ∃ k tk, e.2 = Value.str k tk := fun e he => by
  obtain ⟨⟨k, hk, _⟩, _⟩ := h e he
  obtain ⟨t, ht⟩ := Value.isStrOf_shape hk
  exact ⟨k, t, ht⟩
theorem perm_of_sub {α : Type} [BEq α] [LawfulBEq α] : ∀ (l m : List α), l.Nodup → (∀ x ∈ l, x ∈ m) → m.length ≤ l.length → m.Perm l
  | [], m, _, _, hl => by
    have e : m = [] := List.length_eq_zero_iff.mp (Nat.le_zero.mp hl)
    rw [e]
  | x :: l, m, nd, hs, hl => by
    obtain ⟨n1, n2⟩ := List.nodup_cons.mp nd
    have hx : x ∈ m := hs x List.mem_cons_self
    have p := List.perm_cons_erase hx
    have hlen := p.length_eq
    refine p.trans (List.Perm.cons x (perm_of_sub l (m.erase x) n2 (fun y hy => ?_) ?_))
    · have hne : y ≠ x := fun e => n1 (e ▸ hy)
      exact (List.mem_erase_of_ne hne).mpr (hs y (List.mem_cons_of_mem _ hy))
    · rw [List.length_cons] at hlen hl
      omega
theorem sortS {a : Addr} {l : List Str} {Q : Value → Shared → Prop} (S : SetS P w s.heap a l) (hh : A.handled = none) (h64 : l.length < 64)
    (hQ : ∀ s' p (out : Array Value) (c : Nat) (ys : List Str), (∀ b o, s.heap.get? b = some o → s'.heap.get? b = some o) → s'.gens = s.gens → s'.os = s.os → s.heap.objs.size ≤ p →
      s'.heap.get? p = some (seqObj "list" out c) → StrsAre out.toList ys → ys.Perm l → sortedS ys = true → Q (.ref p) s') :
    wpAny (model P w) A (call (.builtin "sorted") [.ref a]) Q E s := by
  obtain ⟨⟨es, ep, t⟩, ho, F, hr, hl, nd⟩ := S
  have hsz : es.size = l.length := F.sz
  refine Calls.call_function_entry kind_sorted plain_sorted entry_sorted (args_sorted1 _) ?_
  unfold Builtin.«sorted»
  refine wpAny_bind (m := checkCount "sorted" 1 1 _) (wpAny_pure ?_)
  refine wpAny_bind (collect_set (A := A.in1) hh ⟨_, ho, rfl, rfl⟩ F.fit (by rw [hsz]; unfold scanBound; omega) hr hl fun s1 vs k1 hz g1 o1 pm => ?_)
  have hvl : vs.length = l.length := by rw [pm.length_eq, List.length_map, Array.length_toList, hsz]
  have hI : StrsAre vs (vs.map strOf) := strs_all vs fun v hv => by
    obtain ⟨e, he, q⟩ := List.mem_map.mp (pm.mem_iff.mp hv)
    obtain ⟨k, tk, h1⟩ := el_str F.el e he
    exact ⟨k, tk, by rw [← q]; exact h1⟩
  have pl : (vs.map strOf).Perm l := by
    refine perm_of_sub l _ nd (fun x hx => ?_) (by rw [List.length_map, hvl]; exact Nat.le_refl _)
    obtain ⟨e, he, q⟩ := (F.mem x).mp hx
    obtain ⟨tk, ht⟩ := Value.isStrOf_shape (show Value.isStrOf x e.2 = true from q)
    refine List.mem_map.mpr ⟨e.2, pm.mem_iff.mpr (List.mem_map.mpr ⟨e, he, rfl⟩), ?_⟩
    rw [ht]
    rfl
  refine wpAny_bind (wpAny_newList ?_ (by rw [hvl, sizeLine_eq]; omega))
  have hoL : (s1.heap.push (seqObj "list" vs.toArray 0)).get? s1.heap.objs.size = some (seqObj "list" vs.toArray 0) := Heap.get?_push_size _ rfl
  refine wpAny_bind (wpAny_holding (wpAny_call_entry slot_list_sort ⟨_, hoL, rfl⟩ entry_list_sort (list_sort_treeK PyProof.Rows.strKind_oneLt hoL hI.keysOf (fun v₁ v₂ rest e => keyKind_strs (by rw [← e]; exact hI)) (by rw [hvl]; exact h64) fun st' hp hs => ⟨_, rfl, ?_⟩) (args_list_sort _)))
  obtain ⟨ys, y1, y2, y3⟩ := sorted_out_str hI hp hs
  obtain ⟨c, hc⟩ := sortedHeap_at (vs := vs) (out := (arrOf st').map (·.2)) hoL
  refine wpAny_pure ⟨_, rfl, hQ _ s1.heap.objs.size _ c ys (fun b u e => ?_) g1 o1 hz hc y1 (y2.trans pl) y3⟩
  have q := k1 b u e
  have hlt := Heap.lt_size q
  show (sortedHeap (s1.heap.push (seqObj "list" vs.toArray 0)) s1.heap.objs.size vs ((arrOf st').map (·.2))).get? b = some u
  rw [sortedHeap_old (Nat.ne_of_lt hlt) (by rw [size_push']; exact Nat.lt_succ_of_lt hlt)]
  exact Heap.get?_push_of_some _ q
end
/-- such a set, tracked -/
def StO (P : Program) (w : World) (a : Addr) (l : List Str) : HO := .ext fun h => SetS P w h a l
def rSetT (P : Program) (w : World) : List V → Hp → VK → Prop := fun xs H Q => ∃ x, xs = [.str x] ∧ x.cps.all (· < 128) = true ∧ x.cps.size < 4000 ∧ ∀ p l, H p = none → (∀ y, y ∈ l ↔ ∃ c ∈ x.cps.toList, y = sing c) → l.length ≤ x.cps.size → l.Nodup → Q (.ref p) (upd H p (StO P w p l))
def rSortT (P : Program) (w : World) : List V → Hp → VK → Prop := fun xs H Q => ∃ a l, xs = [.ref a] ∧ H a = some (StO P w a l) ∧ l.length < 64 ∧ ∀ ys p, ys.Perm l → sortedS ys = true → H p = none → Q (.ref p) (upd H p (.lst (ys.map V.str)))
section
variable {X : Cx}
theorem call_setT (hc : X.calm = true) : CallR X (.type "set") (rSetT X.prog X.w) := by
  intro pins s σ H xs us Q I r h
  obtain ⟨x, rfl, ha, hb, q⟩ := h
  cases r with
  | cons r1 r2 =>
    cases r2
    obtain ⟨t, rfl⟩ := r1
    refine callS (I.ok.hd hc) ha hb fun h' tk l k1 k2 k3 k4 => ?_
    have nd : l.Nodup := by
      obtain ⟨_, _, _, _, _, n⟩ := k1
      exact n
    have he : ∃ u, h'.get? s.heap.objs.size = some u := by
      obtain ⟨D, e, _⟩ := k1
      exact ⟨_, e⟩
    refine ⟨.ref s.heap.objs.size, upd H s.heap.objs.size (StO X.prog X.w s.heap.objs.size l), I.laid (t' := tk) k4 (Nat.le_refl _) ⟨k1, he, fun h1 h2 p k => SetS.at p k⟩, rfl, q _ l (I.hok.fresh (Nat.le_refl _)) k2 k3 nd⟩
theorem call_sortT (hc : X.calm = true) : CallR X (.builtin "sorted") (rSortT X.prog X.w) := by
  intro pins s σ H vs us Q I r h
  obtain ⟨a, l, rfl, ha, h64, q⟩ := h
  have S : SetS X.prog X.w s.heap a l := (I.hok a _ ha).1
  rw [Vals.ref1 r]
  refine sortS S (I.ok.hd hc) h64 fun s' p out c ys k g o hp hg hi hs hm => ?_
  have hlen : (ys.map V.str).length ≤ sizeLine := by rw [List.length_map, hs.length_eq, sizeLine_eq]; omega
  have hn : H p = none := I.hok.fresh hp
  have J : Inv X pins σ (upd H p (.lst (ys.map V.str))) { s with heap := s'.heap, gens := s'.gens, drawn := s'.drawn, toks := s'.toks } :=
    I.call (ch := []) (Un.laid k hp hn) (I.hok.laid k hp ⟨hlen, out.toList, c, vals_of_strs hi, hg⟩) (by rw [g]; exact I.bare) (fun _ z => nomatch z)
  have e : s' = { s with heap := s'.heap, gens := s'.gens, drawn := s'.drawn, toks := s'.toks } := by
    cases s'
    cases s
    cases o
    rfl
  rw [e]
  exact ⟨.ref p, _, J, rfl, q ys p hs hm hn⟩
end
section
variable {c : Cn} {μ : Mu} {P : D → Mu → Prop} {Pg : Program} {w : World}
abbrev setM (Pg : Program) (w : World) (a : Addr) (l : List Str) : MO := .abs fun H => H a = some (StO Pg w a l)
/-- set(text) -/
theorem k_set {x : Wd} (ha : ∀ c ∈ x, c < 128) (hb : x.length < 4000) (k : ∀ a l, (∀ y, y ∈ l ↔ ∃ c ∈ x, y = tx [c]) → l.length ≤ x.length → l.Nodup → P (.ref a) (μ ++ [(a, setM Pg w a l)])) : KX c (rSetT Pg w) [.str (tx x)] μ P := fun ρ σ H vs Q S r q => by
  obtain ⟨v, r0, rfl, rfl, rfl⟩ := r
  refine ⟨tx x, rfl, ?_, by simpa [tx] using hb, fun p l hp k1 k2 nd => ?_⟩
  · simp only [tx, List.all_toArray, List.all_eq_true]
    exact fun c hc => decide_eq_true (ha c hc)
  · refine q _ _ (.ref p) _ (Pst.new hp) rfl (S.add hp (m := setM Pg w p l) ⟨upd_same, ⟨_, upd_same, fun z => z⟩, fun H1 H2 _ e e2 => by show H2 p = _; rw [← e]; exact e2⟩) (k p l (fun y => (k1 y).trans ?_) (by simpa [tx] using k2) nd)
    rw [tx_list]
    exact Iff.rfl
/-- sorted(set) -/
theorem k_sortT {a : Addr} {l : List Str} {j : Nat} (hm : μ[j]? = some (a, setM Pg w a l)) (h64 : l.length < 64) (k : ∀ p ys, ys.Perm l → sortedS ys = true → P (.ref p) (μ ++ [(p, .lst (dS ys))])) : KX c (rSortT Pg w) [.ref a] μ P := fun ρ σ H vs Q S r q => by
  obtain ⟨v, r0, rfl, rfl, rfl⟩ := r
  have hS := (S.mu _ (List.mem_of_getElem? hm)).1
  exact ⟨a, l, rfl, hS, h64, fun ys p h1 h2 hp => q _ _ (.ref p) _ (Pst.new hp) rfl (S.add hp (m := .lst (dS ys)) ⟨_, upd_same, dS_reps ys⟩) (k p ys h1 h2)⟩
end
theorem strict_uniq : ∀ {a b : List Nat}, a.Pairwise (· < ·) → b.Pairwise (· < ·) → (∀ x, x ∈ a ↔ x ∈ b) → a = b
  | [], [], _, _, _ => rfl
  | [], y :: b, _, _, h => by
    have := (h y).mpr List.mem_cons_self
    cases this
  | x :: a, [], _, _, h => by
    have := (h x).mp List.mem_cons_self
    cases this
  | x :: a, y :: b, ha, hb, h => by
    obtain ⟨a1, a2⟩ := List.pairwise_cons.mp ha
    obtain ⟨b1, b2⟩ := List.pairwise_cons.mp hb
    have e : x = y := by
      rcases List.mem_cons.mp ((h x).mp List.mem_cons_self) with e | hx
      · exact e
      · rcases List.mem_cons.mp ((h y).mpr List.mem_cons_self) with e | hy
        · exact e.symm
        · have := a1 y hy
          have := b1 x hx
          omega
    subst e
    rw [strict_uniq a2 b2 fun z => ?_]
    constructor
    · intro hz
      rcases List.mem_cons.mp ((h z).mp (List.mem_cons_of_mem _ hz)) with e | hz2
      · subst e
        exact absurd (a1 z hz) (Nat.lt_irrefl _)
      · exact hz2
    · intro hz
      rcases List.mem_cons.mp ((h z).mpr (List.mem_cons_of_mem _ hz)) with e | hz2
      · subst e
        exact absurd (b1 z hz) (Nat.lt_irrefl _)
      · exact hz2
theorem rising_signs : ∀ (cs : List Nat) (c : Nat), risingS (tx [c]) (cs.map fun c => tx [c]) = true → (c :: cs).Nodup → (c :: cs).Pairwise (· < ·)
  | [], c, _, _ => by simp
  | d :: cs, c, h, nd => by
    unfold risingS at h
    simp only [List.map_cons] at h
    rw [Bool.and_eq_true] at h
    obtain ⟨h1, h2⟩ := h
    obtain ⟨n1, n2⟩ := List.nodup_cons.mp nd
    have ih := rising_signs cs d h2 n2
    have hlt : c < d := by
      simp [tx, ltCps] at h1
      have hne : c ≠ d := fun e => n1 (e ▸ List.mem_cons_self)
      omega
    refine List.pairwise_cons.mpr ⟨fun y hy => ?_, ih⟩
    rcases List.mem_cons.mp hy with e | hy
    · exact e ▸ hlt
    · have := (List.pairwise_cons.mp ih).1 y hy
      omega
/-- signs in ascending order, each once, told by what is in -/
theorem sorted_signs {ys : List Str} {m : Wd} (hs : sortedS ys = true) (nd : ys.Nodup) (hm : m.Pairwise (· < ·)) (h : ∀ y, y ∈ ys ↔ ∃ c ∈ m, y = tx [c]) : ys = m.map fun c => tx [c] := by
  obtain ⟨cs, rfl⟩ : ∃ cs : List Nat, ys = cs.map fun c => tx [c] := by
    have : ∀ l : List Str, (∀ y ∈ l, ∃ c : Nat, y = tx [c]) → ∃ cs : List Nat, l = cs.map fun c => tx [c] := by
      intro l
      induction l with
      | nil => exact fun _ => ⟨[], rfl⟩
      | cons y l ih =>
        intro hy
        obtain ⟨c, rfl⟩ := hy y List.mem_cons_self
        obtain ⟨cs, rfl⟩ := ih fun z hz => hy z (List.mem_cons_of_mem _ hz)
        exact ⟨c :: cs, rfl⟩
    exact this ys fun y hy => let ⟨c, _, e⟩ := (h y).mp hy; ⟨c, e⟩
  have ndc : cs.Nodup := by
    rw [List.Nodup, List.pairwise_map] at nd
    exact nd.imp fun h e => h (by rw [e])
  have hp : cs.Pairwise (· < ·) := by
    cases cs with
    | nil => exact List.Pairwise.nil
    | cons c cs => exact rising_signs cs c hs ndc
  rw [strict_uniq hp hm fun x => ?_]
  constructor
  · intro hx
    obtain ⟨c, hc, e⟩ := (h (tx [x])).mp (List.mem_map.mpr ⟨x, hx, rfl⟩)
    rw [(List.cons.inj (tx_inj e)).1]
    exact hc
  · intro hx
    obtain ⟨c, hc, e⟩ := List.mem_map.mp ((h (tx [x])).mpr ⟨x, hx, rfl⟩)
    rw [← (List.cons.inj (tx_inj e)).1]
    exact hc
end MW
end
section
open MW L2
local macro_rules | `(tactic| walk_at "d1") => `(tactic| first
  | ((with_reducible refine x_varE ?_); refine ⟨_, rfl, ?_⟩)
  | with_reducible refine x_int ?_
  | with_reducible refine x_str ?_
  | with_reducible refine x_bl ?_
  | with_reducible refine x_non ?_
  | with_reducible refine x_ref ?_
  | with_reducible refine x_ty ?_
  | with_reducible refine x_op ?_
  | with_reducible refine x_un ?_
  | with_reducible refine a_nil ?_
  | with_reducible refine a_cons ?_
  | ((with_reducible refine x_tup ?_); walk_at "ad"; refine ⟨by first | exact (by decide) | (simp; done) | omega, ?_⟩)
  | ((with_reducible refine x_lst ?_); walk_at "ad"; refine ⟨by first | exact (by decide) | (simp; done) | omega, fun _ => ?_⟩)
  | with_reducible refine x_if ?_
  | with_reducible refine x_andV ?_
  | with_reducible refine x_orV ?_
  | with_reducible refine x_notV ?_
  | with_reducible refine t_test ?_
  | with_reducible refine t_B ?_
  | with_reducible refine t_yes ?_
  | with_reducible refine r_inS ?_
  | with_reducible refine r_notInS ?_
  | with_reducible refine t_and ?_
  | with_reducible refine t_or ?_
  | with_reducible refine t_not ?_
  | ((with_reducible refine x_fz ?_); walk_at "ad"; (first | refine ⟨_, _, 0, rfl, rfl, ?_⟩ | refine ⟨_, _, 1, rfl, rfl, ?_⟩ | refine ⟨_, _, 2, rfl, rfl, ?_⟩ | refine ⟨_, _, 3, rfl, rfl, ?_⟩))
  | with_reducible refine xs_seq ?_
  | with_reducible refine xs_next ?_
  | with_reducible refine xs_ret ?_
  | with_reducible refine xs_retN ?_
  | with_reducible refine xs_drop ?_
  | with_reducible apply xs_asg
  | with_reducible refine xs_if ?_
  | with_reducible refine g_name ?_
  | with_reducible refine gs_nil ?_
  | with_reducible apply gs_cons
  | ((with_reducible apply g_tup); exact rfl)
  | with_reducible refine x_chain ?_
  | with_reducible refine x_CB ?_
  | with_reducible refine x_call0 ?_
  | with_reducible refine x_sl ?_
  | with_reducible refine o_none ?_
  | with_reducible refine o_some ?_
  | ((with_reducible refine x_prop ?_); walk_at "ad"; refine ⟨_, _, _, rfl, rfl, ?_⟩)
  | with_reducible refine r_I0 ?_
  | with_reducible refine r_I0b ?_
  | with_reducible refine r_eqI ?_
  | with_reducible refine r_neI ?_
  | with_reducible refine r_eqS ?_
  | with_reducible refine r_neS ?_
  | with_reducible refine r_isN ?_
  | with_reducible refine r_notN ?_
  | with_reducible refine u_neg ?_
  | ((with_reducible refine r_ixTE ?_); first | refine ⟨_, ‹_›, ?_⟩ | refine ⟨_, rfl, ?_⟩)
  | ((with_reducible refine r_ixLE ?_); first | refine ⟨_, ‹_›, ?_⟩ | refine ⟨_, rfl, ?_⟩)
  | ((with_reducible refine k_isIE ?_); refine ⟨_, rfl, ?_⟩)
  | ((with_reducible refine k_isSE ?_); refine ⟨_, rfl, ?_⟩)
  | ((with_reducible refine k_isTE ?_); refine ⟨_, rfl, ?_⟩)
  | ((with_reducible refine x_BM ?_); walk_at "ad"; first | refine ⟨ty_lst (j := 0) rfl, ?_⟩ | refine ⟨ty_lst (j := 1) rfl, ?_⟩ | refine ⟨ty_lst (j := 2) rfl, ?_⟩ | refine ⟨ty_lst (j := 3) rfl, ?_⟩)
  | ((with_reducible refine m_appE ?_); (first | refine ⟨0, _, rfl, ?_, ?_⟩ | refine ⟨1, _, rfl, ?_, ?_⟩ | refine ⟨2, _, rfl, ?_, ?_⟩ | refine ⟨3, _, rfl, ?_, ?_⟩); (walk_at "len"))
  | ((with_reducible refine k_lenS ?_ ?_); (walk_at "len"))
  | ((with_reducible refine s_txt ?_ ?_); (walk_at "len"))
  | ((with_reducible refine r_ixSE ?_ ?_); (walk_at "len"); (first | refine ⟨_, ‹_›, ?_⟩ | refine ⟨_, rfl, ?_⟩))
  | with_reducible refine k_lenT ?_
  | with_reducible refine k_lenL ?_
  | ((with_reducible refine k_lenME ?_); (first | refine ⟨0, _, rfl, ?_⟩ | refine ⟨1, _, rfl, ?_⟩ | refine ⟨2, _, rfl, ?_⟩ | refine ⟨3, _, rfl, ?_⟩))
  | ((with_reducible refine r_ixME ?_); (first | refine ⟨0, _, _, rfl, ‹_›, ?_⟩ | refine ⟨1, _, _, rfl, ‹_›, ?_⟩ | refine ⟨2, _, _, rfl, ‹_›, ?_⟩ | refine ⟨0, _, _, rfl, rfl, ?_⟩ | refine ⟨1, _, _, rfl, rfl, ?_⟩ | refine ⟨2, _, _, rfl, rfl, ?_⟩ | refine ⟨3, _, _, rfl, rfl, ?_⟩))
  | ((with_reducible refine x_tupleM ?_); walk_at "ad"; (first | refine ⟨_, 0, _, rfl, rfl, ?_⟩ | refine ⟨_, 1, _, rfl, rfl, ?_⟩ | refine ⟨_, 2, _, rfl, rfl, ?_⟩ | refine ⟨_, 3, _, rfl, rfl, ?_⟩))
  | ((with_reducible refine r_neT0 (n := 0) ?_ ?_ ?_); exact (by decide); exact (deep_dI _ _))
  | ((with_reducible refine x_rev2 ?_); walk_at "ad"; refine ⟨_, _, rfl, ?_⟩)
  | with_reducible refine x_join ?_
  | with_reducible refine i_enumT ?_
  | with_reducible refine i_rng1 ?_
  | with_reducible refine i_rng2 ?_
  | with_reducible refine i_tup ?_
  | with_reducible refine i_lst ?_
  | with_reducible refine i_str ?_
  | refine ⟨_, rfl, ?_⟩
  | ((with_reducible refine brT ?_ ?_); (first | assumption | exact rfl | decide +kernel))
  | ((with_reducible refine brF ?_ ?_); (first | assumption | exact rfl | decide +kernel)))
local macro_rules | `(tactic| walk_at "len") => `(tactic| first | assumption | omega | ((simp only [List.length_append, List.length_cons, List.length_nil, List.length_map, List.length_set]) <;> omega) | (simp; done) | (simp; omega))
local macro_rules | `(tactic| walk_at "ad") => `(tactic| repeat (walk_at "d1"))
local macro_rules | `(tactic| walk_at "sub") => `(tactic| first | exact List.nil_sublist _ | exact List.Sublist.refl _ | (refine List.Sublist.cons₂ _ ?_; walk_at "sub") | (refine List.Sublist.cons _ ?_; walk_at "sub"))
/-! letters_of. -/
namespace MW
open PySem PySem.Spec PyProof.Rows L2
open C8 (pe_c pe_gc Cal)
/-- a call of a built-in class -/
theorem abc_up : abc.Pairwise (· < ·) := by decide
/-- the letters of the words -/
def lets (p : Spl) : Wd := abc.filter fun c => decide (InW p c)
theorem lets_up (p : Spl) : (lets p).Pairwise (· < ·) := abc_up.filter _
theorem lets_mem {p : Spl} (hp : OkP p) {c : Nat} : c ∈ lets p ↔ InW p c := by
  unfold lets
  rw [List.mem_filter]
  constructor
  · exact fun h => of_decide_eq_true h.2
  · exact fun h => ⟨by obtain ⟨e, he, hc⟩ := h; exact (hp.low e he).2.2 c hc, decide_eq_true h⟩
theorem abc_small {c : Nat} (h : c ∈ abc) : c < 128 := by
  have : ∀ c ∈ abc, c < 128 := by decide
  exact this c h
theorem joinL_flat : ∀ l : List Wd, TL.joinL [] l = l.flatten
  | [] => rfl
  | [a] => by simp [TL.joinL]
  | a :: b :: r => by
    have ih := joinL_flat (b :: r)
    unfold TL.joinL
    rw [ih]
    simp
theorem join_tx (l : List Wd) : Txt.join (tx []) (l.map tx) = tx l.flatten := by
  have e := SX.join_S [] l
  rw [joinL_flat] at e
  exact e
theorem nil_tx : ("" : Str) = tx [] := by decide +kernel
theorem flat_one : ∀ l : Wd, (l.map fun c => [c]).flatten = l
  | [] => rfl
  | c :: l => by
    rw [List.map_cons, List.flatten_cons, flat_one l]
    rfl
theorem flat_len {es : List (List Nat × Int)} (h : ∀ e ∈ es, e.1.length ≤ 5) : (es.map (·.1)).flatten.length ≤ 5 * es.length := by
  induction es with
  | nil => simp
  | cons e es ih =>
    have h1 := h e List.mem_cons_self
    have h2 := ih fun x hx => h x (List.mem_cons_of_mem _ hx)
    rw [List.map_cons, List.flatten_cons, List.length_append, List.length_cons]
    omega
theorem sum_len {es : List (List Nat × Int)} (h : ∀ e ∈ es, e.1.length ≤ 5) : ((es.map fun e => tx e.1).map (·.length)).sum ≤ 5 * es.length := by
  induction es with
  | nil => simp
  | cons e es ih =>
    have h1 := h e List.mem_cons_self
    have h2 := ih fun x hx => h x (List.mem_cons_of_mem _ hx)
    rw [List.map_cons, List.map_cons, List.sum_cons, List.length_cons]
    have := tx_len e.1
    omega
theorem sum_one (l : Wd) : ((l.map fun c => tx [c]).map (·.length)).sum = l.length := by
  induction l with
  | nil => rfl
  | cons c l ih =>
    rw [List.map_cons, List.map_cons, List.sum_cons, List.length_cons, ih, tx_len]
    simp
    omega
theorem lets_len (p : Spl) : (lets p).length ≤ 26 := List.length_filter_le _ _
def G_letters_of (K : PySem.W.Frag) : Spc := fun ds R => ∃ (p : Spl), OkP p ∧ ds = [splD K p] ∧ R = fun d => d = .str (tx (lets p))
abbrev N_letters_of : List Str := ["speller", "word", "own"]
theorem sc_letters_of : FnScope N_letters_of ["speller"] (defScope s_letters_of) := ⟨rfl, rfl, rfl, by decide +kernel, rfl, by decide +kernel, by decide +kernel⟩
theorem Tx.c_letters_of {w : World} {K : PySem.W.Frag} {mg : Str → Option Value} {base : Heap} (T : Tx K mg) : Cal P0 w K mg base 3 "letters_of" (spF (G_letters_of K)) [] := by
  refine mkCal (k := 2) T.d_letters_of T.g_letters_of sc_letters_of (fun _ _ _ _ _ _ us hl => match us, hl with | [_], _ => rfl) (by intro ds R h; obtain ⟨p, hp, rfl, rfl⟩ := h; rfl) fun cdv A outer s H E hr => ?_
  have nd := sc_letters_of.nd
  refine ⟨_, (pss_one (ps_ret (pe_join pe_str (pe_callB (call_sortT rfl) (by rfl) T.f_sorted boot_sorted (pa_cons (pe_callTy (call_setT rfl) (by rfl) T.f_set boot_set (pa_cons (pe_join pe_str (pe_lc (own := [("word", 1), ("own", 2)]) (g := (gTup K 2 (gCons (gName 1) (gCons (gName 2) gNil)))) (tt := tYes) (te := (tVar 1)) rfl nd (pi_tup (pe_P T.pr_entries (pv 0) hr (by decide))) (blkOk_by (N := N_letters_of) (sc := defScope s_letters_of) (by decide +kernel)) (fun _ _ _ _ _ => (pg_tup rfl (pgs_cons (pg_name (i := 1) nd rfl (by first | exact Or.inl rfl | exact Or.inr rfl)) (pgs_cons (pg_name (i := 2) nd rfl (by first | exact Or.inl rfl | exact Or.inr rfl)) pgs_nil)))) (fun _ _ _ _ _ => pts_nil) (fun _ _ _ _ _ => (pv 1)))) pa_nil)) pa_nil))))), ?_⟩
  rintro ds R ⟨p, hp, rfl, rfl⟩
  have h5 : ∀ e ∈ p.es, e.1.length ≤ 5 := fun e he => (hp.low e he).2.1
  have hlen := hp.len
  have s1 := sum_len h5
  have s2 := flat_len h5
  walk_at "ad"
  refine x_map (js := [1] ++ ([2] ++ [])) p.es entD (fun e => .str (tx e.1)) [] (by decide) (by omega) ?_ ?_ ?_
  · walk_at "ad"
    exact ⟨rfl, rfl⟩
  · intro i e acc a he
    walk_at "ad"
    exact ⟨rfl, List.Sublist.refl _⟩
  intro a
  refine ⟨a, 0, p.es.map fun e => tx e.1, rfl, by simp [dS], ?_, ?_⟩
  · rw [nil_tx, tx_len, List.length_map]
    simp
    have s3 := s1
    simp at s3
    omega
  have ej : Txt.join ("" : Str) (p.es.map fun e => tx e.1) = tx (p.es.map (·.1)).flatten := by
    rw [nil_tx, ← join_tx, List.map_map]
    rfl
  rw [ej]
  walk_at "ad"
  have low : ∀ c ∈ (p.es.map (·.1)).flatten, InW p c := fun c hc => by
    obtain ⟨w, hw, hc⟩ := List.mem_flatten.mp hc
    obtain ⟨e, he, rfl⟩ := List.mem_map.mp hw
    exact ⟨e, he, hc⟩
  have low2 : ∀ c, InW p c → c ∈ (p.es.map (·.1)).flatten := fun c ⟨e, he, hc⟩ => List.mem_flatten.mpr ⟨e.1, List.mem_map.mpr ⟨e, he, rfl⟩, hc⟩
  refine k_set (fun c hc => abc_small ((List.mem_filter.mp ((lets_mem hp).mpr (low c hc))).1)) (by omega) fun b l m1 m2 nd => ?_
  walk_at "ad"
  refine k_sortT (j := 1) rfl (by omega) fun q ys y1 y2 => ?_
  have ey := sorted_signs y2 (y1.nodup_iff.mpr nd) (lets_up p) fun y => (y1.mem_iff.trans (m1 y)).trans ⟨fun ⟨c, hc, e⟩ => ⟨c, (lets_mem hp).mpr (low c hc), e⟩, fun ⟨c, hc, e⟩ => ⟨c, low2 c ((lets_mem hp).mp hc), e⟩⟩
  refine ⟨q, 2, ys, rfl, rfl, ?_, ?_⟩
  · rw [ey, sum_one, nil_tx, tx_len, List.length_map]
    have := lets_len p
    simp
    omega
  rw [ey]
  show D.str _ = D.str _
  congr 1
  rw [nil_tx, show ((lets p).map fun c => tx [c]) = ((lets p).map fun c => [c]).map tx by rw [List.map_map]; rfl, join_tx, flat_one]

end MW
end
section
open MW L2
local macro_rules | `(tactic| walk_at "d1") => `(tactic| first
  | ((with_reducible refine x_varE ?_); refine ⟨_, rfl, ?_⟩)
  | with_reducible refine x_int ?_
  | with_reducible refine x_str ?_
  | with_reducible refine x_bl ?_
  | with_reducible refine x_non ?_
  | with_reducible refine x_ref ?_
  | with_reducible refine x_ty ?_
  | with_reducible refine x_op ?_
  | with_reducible refine x_un ?_
  | with_reducible refine a_nil ?_
  | with_reducible refine a_cons ?_
  | ((with_reducible refine x_tup ?_); walk_at "ad"; refine ⟨by first | exact (by decide) | (simp; done) | omega, ?_⟩)
  | ((with_reducible refine x_lst ?_); walk_at "ad"; refine ⟨by first | exact (by decide) | (simp; done) | omega, fun _ => ?_⟩)
  | with_reducible refine x_if ?_
  | with_reducible refine x_andV ?_
  | with_reducible refine x_orV ?_
  | with_reducible refine x_notV ?_
  | with_reducible refine t_test ?_
  | with_reducible refine t_B ?_
  | with_reducible refine t_yes ?_
  | with_reducible refine r_inS ?_
  | with_reducible refine r_notInS ?_
  | with_reducible refine t_and ?_
  | with_reducible refine t_or ?_
  | with_reducible refine t_not ?_
  | ((with_reducible refine x_fz ?_); walk_at "ad"; (first | refine ⟨_, _, 0, rfl, rfl, ?_⟩ | refine ⟨_, _, 1, rfl, rfl, ?_⟩ | refine ⟨_, _, 2, rfl, rfl, ?_⟩ | refine ⟨_, _, 3, rfl, rfl, ?_⟩))
  | with_reducible refine xs_seq ?_
  | with_reducible refine xs_next ?_
  | with_reducible refine xs_ret ?_
  | with_reducible refine xs_retN ?_
  | with_reducible refine xs_drop ?_
  | with_reducible apply xs_asg
  | with_reducible refine xs_if ?_
  | with_reducible refine g_name ?_
  | with_reducible refine gs_nil ?_
  | with_reducible apply gs_cons
  | ((with_reducible apply g_tup); exact rfl)
  | with_reducible refine x_chain ?_
  | with_reducible refine x_CB ?_
  | with_reducible refine x_call0 ?_
  | with_reducible refine x_sl ?_
  | with_reducible refine o_none ?_
  | with_reducible refine o_some ?_
  | ((with_reducible refine x_prop ?_); walk_at "ad"; refine ⟨_, _, _, rfl, rfl, ?_⟩)
  | with_reducible refine r_I0 ?_
  | with_reducible refine r_I0b ?_
  | with_reducible refine r_eqI ?_
  | with_reducible refine r_neI ?_
  | with_reducible refine r_eqS ?_
  | with_reducible refine r_neS ?_
  | with_reducible refine r_isN ?_
  | with_reducible refine r_notN ?_
  | with_reducible refine u_neg ?_
  | ((with_reducible refine r_ixTE ?_); first | refine ⟨_, ‹_›, ?_⟩ | refine ⟨_, rfl, ?_⟩)
  | ((with_reducible refine r_ixLE ?_); first | refine ⟨_, ‹_›, ?_⟩ | refine ⟨_, rfl, ?_⟩)
  | ((with_reducible refine k_isIE ?_); refine ⟨_, rfl, ?_⟩)
  | ((with_reducible refine k_isSE ?_); refine ⟨_, rfl, ?_⟩)
  | ((with_reducible refine k_isTE ?_); refine ⟨_, rfl, ?_⟩)
  | ((with_reducible refine x_BM ?_); walk_at "ad"; first | refine ⟨ty_lst (j := 0) rfl, ?_⟩ | refine ⟨ty_lst (j := 1) rfl, ?_⟩ | refine ⟨ty_lst (j := 2) rfl, ?_⟩ | refine ⟨ty_lst (j := 3) rfl, ?_⟩)
  | ((with_reducible refine m_appE ?_); (first | refine ⟨0, _, rfl, ?_, ?_⟩ | refine ⟨1, _, rfl, ?_, ?_⟩ | refine ⟨2, _, rfl, ?_, ?_⟩ | refine ⟨3, _, rfl, ?_, ?_⟩); (walk_at "len"))
  | ((with_reducible refine k_lenS ?_ ?_); (walk_at "len"))
  | ((with_reducible refine s_txt ?_ ?_); (walk_at "len"))
  | ((with_reducible refine r_ixSE ?_ ?_); (walk_at "len"); (first | refine ⟨_, ‹_›, ?_⟩ | refine ⟨_, rfl, ?_⟩))
  | with_reducible refine k_lenT ?_
  | with_reducible refine k_lenL ?_
  | ((with_reducible refine k_lenME ?_); (first | refine ⟨0, _, rfl, ?_⟩ | refine ⟨1, _, rfl, ?_⟩ | refine ⟨2, _, rfl, ?_⟩ | refine ⟨3, _, rfl, ?_⟩))
  | ((with_reducible refine r_ixME ?_); (first | refine ⟨0, _, _, rfl, ‹_›, ?_⟩ | refine ⟨1, _, _, rfl, ‹_›, ?_⟩ | refine ⟨2, _, _, rfl, ‹_›, ?_⟩ | refine ⟨0, _, _, rfl, rfl, ?_⟩ | refine ⟨1, _, _, rfl, rfl, ?_⟩ | refine ⟨2, _, _, rfl, rfl, ?_⟩ | refine ⟨3, _, _, rfl, rfl, ?_⟩))
  | ((with_reducible refine x_tupleM ?_); walk_at "ad"; (first | refine ⟨_, 0, _, rfl, rfl, ?_⟩ | refine ⟨_, 1, _, rfl, rfl, ?_⟩ | refine ⟨_, 2, _, rfl, rfl, ?_⟩ | refine ⟨_, 3, _, rfl, rfl, ?_⟩))
  | ((with_reducible refine r_neT0 (n := 0) ?_ ?_ ?_); exact (by decide); exact (deep_dI _ _))
  | ((with_reducible refine x_rev2 ?_); walk_at "ad"; refine ⟨_, _, rfl, ?_⟩)
  | with_reducible refine x_join ?_
  | with_reducible refine i_enumT ?_
  | with_reducible refine i_rng1 ?_
  | with_reducible refine i_rng2 ?_
  | with_reducible refine i_tup ?_
  | with_reducible refine i_lst ?_
  | with_reducible refine i_str ?_
  | refine ⟨_, rfl, ?_⟩
  | ((with_reducible refine brT ?_ ?_); (first | assumption | exact rfl | decide +kernel))
  | ((with_reducible refine brF ?_ ?_); (first | assumption | exact rfl | decide +kernel)))
local macro_rules | `(tactic| walk_at "len") => `(tactic| first | assumption | omega | ((simp only [List.length_append, List.length_cons, List.length_nil, List.length_map, List.length_set]) <;> omega) | (simp; done) | (simp; omega))
local macro_rules | `(tactic| walk_at "ad") => `(tactic| repeat (walk_at "d1"))
local macro_rules | `(tactic| walk_at "sub") => `(tactic| first | exact List.nil_sublist _ | exact List.Sublist.refl _ | (refine List.Sublist.cons₂ _ ?_; walk_at "sub") | (refine List.Sublist.cons _ ?_; walk_at "sub"))
/-! stepped. -/
namespace MW
open PySem PySem.Spec PyProof.Rows L2
open C8 (pe_c pe_gc Cal)
theorem getLast_snoc (t : Wd) (c : Nat) : (t ++ [c]).getLast? = some c := by simp
theorem snoc_of {t : Wd} {l : Nat} (h : t.getLast? = some l) : ∃ t0, t = t0 ++ [l] := by
  obtain ⟨t0, e⟩ := List.getLast?_eq_some_iff.mp h
  exact ⟨t0, e⟩
theorem swp_two {s : Slp} {w t : Wd} {c n j : Nat} {x : Int} (h : swp s w (t ++ [c]) (t.length + 1) (j + 1) = some x) : s.sw = some x ∧ ∃ t0 l, t = t0 ++ [l] ∧ 1 ≤ j ∧ c = w.getD (j - 1) 0 ∧ l = w.getD j 0 := by
  unfold swp at h
  cases e : s.sw with
  | none =>
    rw [e] at h
    cases h
  | some y =>
    rw [e] at h
    simp only at h
    split at h
    · rename_i z
      obtain ⟨z1, z2, z3, z4, z5⟩ := z
      have hl : t.getLast? = some (t.getD (t.length - 1) 0) := by
        rw [List.getLast?_eq_getElem?, List.getD_eq_getElem?_getD, List.getElem?_eq_getElem (by omega)]
        rfl
      obtain ⟨t0, et⟩ := snoc_of hl
      refine ⟨h, t0, _, et, by omega, ?_, ?_⟩
      · rw [show t.length + 1 - 1 = t.length by omega, getD_last] at z3
        exact z3
      · rw [show t.length + 1 - 2 = t.length - 1 by omega, getD_snoc (by omega)] at z4
        exact z4
    · cases h
theorem sta_shape (p : Spl) (t : Wd) (c : Nat) : ∃ ah ls, sta p t = (row p t, ah, ls) ∧ ((ah = [] ∧ ls = [] ∧ ∀ e ∈ p.es, ∀ j, j < e.1.length → swp p.sl e.1 (t ++ [c]) (t.length + 1) (j + 1) = none) ∨
    (∃ t0 l x, t = t0 ++ [l] ∧ ah = row p t0 ∧ ls = [l] ∧ p.sl.sw = some x)) := by
  by_cases k : keeps p t = true
  · obtain ⟨x, l, h1, h2, h3⟩ := keeps_iff.mp k
    obtain ⟨t0, rfl⟩ := snoc_of h2
    refine ⟨row p t0, [l], ?_, .inr ⟨t0, l, x, rfl, rfl, rfl, h1⟩⟩
    unfold sta
    rw [if_pos k, h2]
    simp
  · refine ⟨[], [], ?_, .inl ⟨rfl, rfl, fun e he j hj => ?_⟩⟩
    · unfold sta
      rw [if_neg k]
    · cases q : swp p.sl e.1 (t ++ [c]) (t.length + 1) (j + 1) with
      | none => rfl
      | some x =>
        obtain ⟨h1, t0, l, et, hj1, e1, e2⟩ := swp_two (n := 0) q
        refine absurd (keeps_iff.mpr ⟨x, l, h1, ?_, e, he, ?_⟩) k
        · rw [et]
          exact getLast_snoc t0 l
        · rw [e2, List.getD_eq_getElem?_getD, List.getElem?_eq_getElem hj]
          exact List.getElem_mem hj
theorem sta_snoc (p : Spl) (t : Wd) (c : Nat) : sta p (t ++ [c]) = if p.sl.sw ≠ none ∧ InW p c then (row p (t ++ [c]), row p t, [c]) else (row p (t ++ [c]), [], []) := by
  by_cases h : p.sl.sw ≠ none ∧ InW p c
  · rw [if_pos h]
    obtain ⟨x, hx⟩ : ∃ x, p.sl.sw = some x := by
      cases e : p.sl.sw with
      | none => exact absurd e h.1
      | some x => exact ⟨x, rfl⟩
    have k : keeps p (t ++ [c]) = true := keeps_iff.mpr ⟨x, c, hx, getLast_snoc t c, h.2⟩
    unfold sta
    rw [if_pos k]
    simp
  · rw [if_neg h]
    have k : ¬ keeps p (t ++ [c]) = true := fun z => by
      obtain ⟨x, d, h1, h2, h3⟩ := keeps_iff.mp z
      rw [getLast_snoc] at h2
      have := Option.some.inj h2
      subst this
      exact h ⟨by rw [h1]; simp, h3⟩
    unfold sta
    rw [if_neg k]
theorem deep_rows (r : Row) : D.deeps 1 (r.map fun l => D.tup (dI l)) := D.deeps_of fun d hd => by
  obtain ⟨l, _, rfl⟩ := List.mem_map.mp hd
  unfold D.deep
  exact deep_dI l 0
theorem row_at {p : Spl} {t : Wd} {i : Nat} {e : List Nat × Int} (h : p.es[i]? = some e) : L2.atI ((row p t).map fun l => D.tup (dI l)) (i : Int) = some (.tup (dI (wrow p.sl e.1 t))) := by
  rw [atI_nat, List.getElem?_map]
  unfold row
  rw [List.getElem?_map, h]
  rfl
theorem en_at {es : List (List Nat × Int)} {i : Nat} {d : D} (h : (enD (es.map entD))[i]? = some d) : ∃ e, es[i]? = some e ∧ d = .tup [.int (i : Nat), entD e] := by
  obtain ⟨x, h1, rfl⟩ := enD_at h
  obtain ⟨e, h2, rfl⟩ := map_at h1
  exact ⟨e, h2, rfl⟩
def G_stepped (K : PySem.W.Frag) : Spc := fun ds R => ∃ (p : Spl) (t : Wd) (c : Nat), OkP p ∧ ds = [splD K p, staD (sta p t), .str (tx [c]), .int 0, .int (0 - p.sl.ex)] ∧ R = fun d => d = staD (sta p (t ++ [c]))
def G_step_of (K : PySem.W.Frag) : Spc := fun ds R => ∃ (p : Spl) (t : Wd) (c : Nat), OkP p ∧ ds = [splD K p, staD (sta p t), .str (tx [c])] ∧ R = fun d => d = staD (sta p (t ++ [c]))
abbrev N_stepped : List Str := ["speller", "stand", "letter", "stay", "move", "here", "ahead", "last", "found", "at", "word", "own", "elder"]
theorem sc_stepped : FnScope N_stepped ["speller", "stand", "letter", "stay", "move"] (defScope s_stepped) := ⟨rfl, rfl, rfl, by decide +kernel, rfl, by decide +kernel, by decide +kernel⟩
theorem Tx.c_stepped {w : World} {K : PySem.W.Frag} {mg : Str → Option Value} {base : Heap} (T : Tx K mg) : Cal P0 w K mg base 4 "stepped" (spF (G_stepped K)) [] := by
  refine mkCal (k := 3) T.d_stepped T.g_stepped sc_stepped (fun _ _ _ _ _ _ us hl => match us, hl with | [_, _, _, _, _], _ => rfl) (by intro ds R h; obtain ⟨p, t, c, hp, rfl, rfl⟩ := h; rfl) fun cdv A outer s H E hr => ?_
  have nd := sc_stepped.nd
  refine ⟨_, (pss_cons (ps_asg (pv 1) (pg_tup rfl (pgs_cons (pg_name (i := 5) nd rfl (by first | exact Or.inl rfl | exact Or.inr rfl)) (pgs_cons (pg_name (i := 6) nd rfl (by first | exact Or.inl rfl | exact Or.inr rfl)) (pgs_cons (pg_name (i := 7) nd rfl (by first | exact Or.inl rfl | exact Or.inr rfl)) pgs_nil)))))
  (pss_cons (ps_set (i := 8) nd rfl (by first | exact Or.inl rfl | exact Or.inr rfl) (pe_lst pa_nil))
  (pss_cons (ps_for PassesOwn.never rfl (pi_enumT (by rfl) T.f_enumerate (pa_cons (pe_P T.pr_entries (pv 0) hr (by decide)) pa_nil)) (pg_tup rfl (pgs_cons (pg_name (i := 9) nd rfl (by first | exact Or.inl rfl | exact Or.inr rfl)) (pgs_cons (pg_tup rfl (pgs_cons (pg_name (i := 10) nd rfl (by first | exact Or.inl rfl | exact Or.inr rfl)) (pgs_cons (pg_name (i := 11) nd rfl (by first | exact Or.inl rfl | exact Or.inr rfl)) pgs_nil))) pgs_nil))) (pss_cons (ps_set (i := 12) nd rfl (by first | exact Or.inl rfl | exact Or.inr rfl) (pe_ifExp (pt_cmpR (op_neD hr.units) (pv 6) (pe_tup pa_nil) (nomark _)) (pe_ix ix_tup (pv 6) (pv 9) (fun _ _ => rfl)) (pe_tup pa_nil)))
  (pss_one (ps_expr (pe_bm PySem.F.plainAttrs_list PySem.F.slot_list_append PySem.F.type_list_append mt_append (pv 8) (pa_cons (pe_c T.c_next_worths hr (by decide) (by rfl) (pa_cons (pe_P T.pr_slips (pv 0) hr (by decide)) (pa_cons (pv 10) (pa_cons (pe_ix ix_tup (pv 5) (pv 9) (fun _ _ => rfl)) (pa_cons (pv 12) (pa_cons (pe_op op_add_str (pv 7) (pv 2)) (pa_cons (pv 3) (pa_cons (pv 4) pa_nil)))))))) pa_nil))))))
  (pss_cons (ps_if (PW.pt (pw_or (pt_cmpR op_isN (pe_P T.pr_swapped (pe_P T.pr_slips (pv 0) hr (by decide)) hr (by decide)) pe_non (nomark _)) (pw_or1 (pt_cmpR op_notIn_sign (pv 2) (pe_c T.c_letters_of hr (by decide) (by rfl) (pa_cons (pv 0) pa_nil)) (by rfl))))) (pss_one (ps_ret (pe_tup (pa_cons (pe_tupleOf (by rfl) T.f_tuple (pv 8)) (pa_cons (pe_tup pa_nil) (pa_cons pe_str pa_nil)))))) pss_nil)
  (pss_one (ps_ret (pe_tup (pa_cons (pe_tupleOf (by rfl) T.f_tuple (pv 8)) (pa_cons (pv 5) (pa_cons (pv 2) pa_nil)))))))))), ?_⟩
  rintro ds R ⟨p, t, c, hp, rfl, rfl⟩
  obtain ⟨ah, ls, hst, hcase⟩ := sta_shape p t c
  rw [hst]
  have ls1 : ls.length + [c].length ≤ 100000 := by
    rcases hcase with ⟨_, rfl, _⟩ | ⟨_, _, _, _, _, rfl, _⟩ <;> simp
  have hlen := hp.len
  walk_at "ad"
  rename_i a
  refine xs_forS (js := [9] ++ (([10] ++ ([11] ++ [])) ++ [])) (fun i ρ μ => ∃ x9 x10 x11 x12 : Option D, ρ = [some (splD K p), some (staD (row p t, ah, ls)), some (.str (tx [c])), some (.int 0), some (.int (0 - p.sl.ex)), some (rowD (row p t)), some (rowD ah), some (.str (tx ls)), some (.ref a), x9, x10, x11, x12] ∧
    μ = [(a, .lst ((p.es.take i).map fun e => .tup (dI (wrow p.sl e.1 (t ++ [c])))))]) ?_
  walk_at "ad"
  refine ⟨⟨_, List.Sublist.refl _, none, none, none, none, rfl, rfl⟩, ?_, ?_⟩
  · intro i d ρ' μ' hd hI
    obtain ⟨x9, x10, x11, x12, rfl, rfl⟩ := hI
    obtain ⟨e, he, rfl⟩ := en_at hd
    have hm := List.mem_of_getElem? he
    have hl : ((p.es.take i).map fun e => D.tup (dI (wrow p.sl e.1 (t ++ [c])))).length < 100000 := by
      rw [List.length_map, List.length_take]
      omega
    have i1 := row_at (t := t) he
    walk_at "ad"
    refine r_neT0 (n := 1) (by decide) (deep_rows ah) ?_
    rcases hcase with ⟨rfl, rfl, hno⟩ | ⟨t0, l, x, et, rfl, rfl, hx⟩
    · have e1 : (!(List.map (fun l => D.tup (dI l)) ([] : Row)).isEmpty) = false := rfl
      walk_at "ad"
      refine r_addS ls1 ?_
      walk_at "ad"
      refine ⟨_, ⟨p.sl, e.1, t, c, [], [c], ⟨hp.ex⟩, (hp.low e hm).2.1, .inl ⟨rfl, rfl, hno e hm⟩, rfl, rfl⟩, ?_⟩
      rintro _ rfl
      walk_at "ad"
      rw [take_more he, List.map_append]
      exact ⟨_, List.Sublist.refl _, _, _, _, _, rfl, rfl⟩
    · have e1 : (!(List.map (fun l => D.tup (dI l)) (row p t0)).isEmpty) = true := neN _ fun z => by
        have q := congrArg List.length z
        rw [List.length_map] at q
        unfold row at q
        rw [List.length_map] at q
        have := List.length_pos_of_mem hm
        simp at q
        rw [q] at this
        simp at this
      have i2 := row_at (t := t0) he
      walk_at "ad"
      refine r_addS ls1 ?_
      walk_at "ad"
      refine ⟨_, ⟨p.sl, e.1, t, c, wrow p.sl e.1 t0, [l, c], ⟨hp.ex⟩, (hp.low e hm).2.1, .inr ⟨t0, l, x, et, rfl, rfl, hx⟩, rfl, rfl⟩, ?_⟩
      rintro _ rfl
      walk_at "ad"
      rw [take_more he, List.map_append]
      exact ⟨_, List.Sublist.refl _, _, _, _, _, rfl, rfl⟩
  · intro ρ' μ' hI
    obtain ⟨x9, x10, x11, x12, rfl, rfl⟩ := hI
    rw [enD_len, List.length_map, List.take_length]
    have er : (p.es.map fun e => D.tup (dI (wrow p.sl e.1 (t ++ [c])))) = (row p (t ++ [c])).map fun l => D.tup (dI l) := by
      unfold row
      rw [List.map_map]
      rfl
    rw [er]
    have es := sta_snoc p t c
    cases hs : p.sl.sw with
    | none =>
      have e1 : (optD p.sl.sw).isN = true := by rw [hs]; rfl
      rw [if_neg (fun z => z.1 hs)] at es
      rw [es]
      walk_at "ad"
      rw [nil_tx]
      rfl
    | some x =>
      have e1 : (optD p.sl.sw).isN = false := by rw [hs]; rfl
      by_cases hc : InW p c
      · have e2 : (!decide (c ∈ lets p)) = false := by
          rw [decide_eq_true ((lets_mem hp).mpr hc)]
          rfl
        rw [if_pos ⟨by rw [hs]; simp, hc⟩] at es
        rw [es]
        walk_at "ad"
        refine ⟨_, ⟨p, hp, rfl, rfl⟩, ?_⟩
        rintro _ rfl
        walk_at "ad"
        rfl
      · have e2 : (!decide (c ∈ lets p)) = true := by
          rw [decide_eq_false (fun z => hc ((lets_mem hp).mp z))]
          rfl
        rw [if_neg (fun z => hc z.2)] at es
        rw [es]
        walk_at "ad"
        refine ⟨_, ⟨p, hp, rfl, rfl⟩, ?_⟩
        rintro _ rfl
        walk_at "ad"
        rw [nil_tx]
        rfl

abbrev N_step_of : List Str := ["speller", "stand", "letter"]
theorem sc_step_of : FnScope N_step_of ["speller", "stand", "letter"] (defScope s_step_of) := ⟨rfl, rfl, rfl, by decide +kernel, rfl, by decide +kernel, by decide +kernel⟩
theorem Tx.c_step_of {w : World} {K : PySem.W.Frag} {mg : Str → Option Value} {base : Heap} (T : Tx K mg) : Cal P0 w K mg base 5 "step_of" (spF (G_step_of K)) [] := by
  refine mkCal (k := 4) T.d_step_of T.g_step_of sc_step_of (fun _ _ _ _ _ _ us hl => match us, hl with | [_, _, _], _ => rfl) (by intro ds R h; obtain ⟨p, t, c, hp, rfl, rfl⟩ := h; rfl) fun cdv A outer s H E hr => ?_
  have nd := sc_step_of.nd
  refine ⟨_, (pss_one (ps_ret (pe_c T.c_stepped hr (by decide) (by rfl) (pa_cons (pv 0) (pa_cons (pv 1) (pa_cons (pv 2) (pa_cons pe_int (pa_cons (pe_op op_sub pe_int (pe_P T.pr_extra (pe_P T.pr_slips (pv 0) hr (by decide)) hr (by decide))) pa_nil)))))))), ?_⟩
  rintro ds R ⟨p, t, c, hp, rfl, rfl⟩
  walk_at "ad"
  refine ⟨_, ⟨p, t, c, hp, rfl, rfl⟩, ?_⟩
  rintro _ rfl
  walk_at "ad"
  rfl

end MW
end
section
open MW L2
/-! Lists of (int, int, text): min, sorted. -/
namespace MW
open PySem PySem.Spec PyProof.Rows L2
open PySem.W (alike alikeAll dataLt dataLt_int dataLt_str dataLt_tuple keyToksAll minD AlikeAll min_list_data)
abbrev Trp := Int × Int × Wd
abbrev tD (x : Trp) : D := .tup [.int x.1, .int x.2.1, .str (tx x.2.2)]
def tP (x : Trp) : PyData := .tuple [.int x.1, .int x.2.1, .str (tx x.2.2)]
/-- the order of such -/
def Tlt (x y : Trp) : Prop := x.1 < y.1 ∨ (x.1 = y.1 ∧ (x.2.1 < y.2.1 ∨ (x.2.1 = y.2.1 ∧ x.2.2 < y.2.2)))
theorem tP_alike (x y : Trp) : alike (tP x) (tP y) = true := by simp [tP, alike, alikeAll]
theorem tP_lt (x y : Trp) : dataLt (tP x) (tP y) = true ↔ Tlt x y := by
  obtain ⟨a, b, w⟩ := x
  obtain ⟨a', b', w'⟩ := y
  unfold tP Tlt
  have e0 : PyProof.Rows.lexLt itemOrd (keyToksAll []) (keyToksAll []) = false := PyProof.Rows.lex_irrefl _
  rw [dataLt_tuple, PySem.W.dataLt_cons (by simp [alike]), PySem.W.dataLt_cons (by simp [alike]), PySem.W.dataLt_cons (by simp [alike]), e0, dataLt_int, dataLt_int, dataLt_str, tx_list, tx_list]
  simp only [PyData.eqv, beq_iff_eq]
  by_cases h1 : a = a'
  · rw [if_pos h1]
    by_cases h2 : b = b'
    · rw [if_pos h2]
      by_cases h3 : tx w = tx w'
      · rw [if_pos h3]
        have := tx_inj h3
        subst this
        simp [h1, h2, List.lt_irrefl]
      · rw [if_neg h3]
        simp [h1, h2]
    · rw [if_neg h2]
      simp [h1, h2]
  · rw [if_neg h1]
    simp [h1]
theorem tP_inj {x y : Trp} (h : tP x = tP y) : x = y := by
  obtain ⟨a, b, w⟩ := x
  obtain ⟨a', b', w'⟩ := y
  unfold tP at h
  simp only [PyData.tuple.injEq, List.cons.injEq, PyData.int.injEq, PyData.str.injEq, and_true] at h
  obtain ⟨h1, h2, h3⟩ := h
  rw [h1, h2, tx_inj h3]
/-- V by V -/
inductive Each (Φ : V → Trp → Prop) : List V → List Trp → Prop
  | nil : Each Φ [] []
  | cons {v : V} {b : Trp} {vs : List V} {bs : List Trp} : Φ v b → Each Φ vs bs → Each Φ (v :: vs) (b :: bs)
theorem Each.at {Φ : V → Trp → Prop} : ∀ {vs : List V} {bs : List Trp} {i : Nat} {v : V}, Each Φ vs bs → vs[i]? = some v → ∃ b, bs[i]? = some b ∧ Φ v b
  | _, _, _, _, .nil, h => by simp at h
  | _, _, 0, _, .cons p r, h => by
    simp at h
    subst h
    exact ⟨_, rfl, p⟩
  | _, _, i + 1, _, .cons p r, h => by
    obtain ⟨b, e, q⟩ := Each.at (i := i) r (by simpa using h)
    exact ⟨b, by simpa using e, q⟩
theorem Each.dp {K : PySem.W.Frag} {H : Hp} {Φ : V → Trp → Prop} (hd : ∀ y b, Φ y b → Dp K H y (tP b)) : ∀ {vs : List V} {bs : List Trp}, Each Φ vs bs → DpAll K H vs (bs.map tP)
  | _, _, .nil => .nil
  | _, _, .cons p r => .cons (hd _ _ p) (Each.dp hd r)
theorem Each.vals {Φ : V → Trp → Prop} : ∀ {vs : List V} {us : List Value} {bs : List Trp}, Each Φ vs bs → Vals vs us → PySem.W.EachIs (fun u b => ∃ y, RelV y u ∧ Φ y b) us bs
  | _, _, _, .nil, .nil => .nil
  | _, _, _, .cons p r, .cons q s => .cons ⟨_, q, p⟩ (Each.vals r s)
theorem Each.back {Φ : V → Trp → Prop} : ∀ {us : List Value} {bs : List Trp}, PySem.W.EachIs (fun u b => ∃ y, RelV y u ∧ Φ y b) us bs → ∃ vs, Vals vs us ∧ Each Φ vs bs
  | _, _, .nil => ⟨[], .nil, .nil⟩
  | _, _, .cons ⟨y, r, p⟩ h => by
    obtain ⟨vs, h1, h2⟩ := Each.back h
    exact ⟨y :: vs, .cons r h1, .cons p h2⟩
def rMinTr (K : PySem.W.Frag) : List V → Hp → VK → Prop := fun vs H Q => ∃ (Φ : V → Trp → Prop) (a : Addr) (xs : List V) (x : Trp) (l : List Trp), vs = [.ref a] ∧ SqL K H a xs ∧ Each Φ xs (x :: l) ∧ (∀ y b, Φ y b → Dp K H y (tP b)) ∧
  ∀ v b, Φ v b → tP b = minD (tP x) (l.map tP) → Q v H
def rSortTr (K : PySem.W.Frag) : List V → Hp → VK → Prop := fun vs H Q => ∃ (Φ : V → Trp → Prop) (a : Addr) (xs : List V) (l : List Trp), vs = [.ref a] ∧ SqL K H a xs ∧ Each Φ xs l ∧ (∀ y b, Φ y b → Dp K H y (tP b)) ∧ l.length ≤ 100000 ∧
  ∀ ys p, Each Φ ys (l.mergeSort (PySem.W.dataLe false tP)) → H p = none → Q (.ref p) (upd H p (.lst ys))
section
variable {X : Cx}
theorem alike_map (l : List Trp) : AlikeAll (l.map tP) := ⟨fun x hx y hy => by
  obtain ⟨a, _, rfl⟩ := List.mem_map.mp hx
  obtain ⟨b, _, rfl⟩ := List.mem_map.mp hy
  exact tP_alike a b, fun x hx => by
  obtain ⟨a, _, rfl⟩ := List.mem_map.mp hx
  unfold tP
  exact fun z => by cases z⟩
theorem depth_tP (x : Trp) : (tP x).depth = 1 := by
  unfold tP
  simp [PyData.depth, PyData.depthAll]
theorem depth_all : ∀ l : List Trp, PyData.depthAll (l.map tP) ≤ 1
  | [] => by simp [PyData.depthAll]
  | x :: l => by
    have ih := depth_all l
    have h := depth_tP x
    simp only [List.map_cons, PyData.depthAll]
    omega
theorem call_minTr (hc : X.calm = true) (hu : X.A.units + 64 < cLine) : CallR X (.builtin "min") (rMinTr X.K) := by
  intro pins s σ H vs us Q I r h
  obtain ⟨Φ, a, xs, x, l, rfl, hs, he, hd, q⟩ := h
  obtain ⟨its, rv, hl, hz⟩ := I.list hs
  rw [Vals.ref1 r]
  obtain ⟨as, hr⟩ := Dp.readsAll I (tP x :: l.map tP) xs its (Each.dp hd he) rv
  have hdep : PyData.depthAll (tP x :: l.map tP) ≤ 1 := depth_all (x :: l)
  refine min_list_data (vs := its.toArray) (I.ok.hd hc) hl.isList hr (alike_map (x :: l)) (by omega) fun i v h' tk bs hi hrd hk => ?_
  have hi2 : its[i]? = some v := by simpa using hi
  obtain ⟨y, hy, ry⟩ : ∃ y, xs[i]? = some y ∧ RelV y v := by
    have hlt := (List.getElem?_eq_some_iff.mp hi2).1
    rw [← rv.length] at hlt
    obtain ⟨u, hu2, ru⟩ := rv.get (List.getElem?_eq_getElem hlt)
    rw [hi2] at hu2
    cases hu2
    exact ⟨xs[i], List.getElem?_eq_getElem hlt, ru⟩
  obtain ⟨b, hb, hp⟩ := Each.at he hy
  have I2 : Inv X pins σ H { s with heap := h', toks := tk } := I.kept (t' := tk) hk
  obtain ⟨cs, hrb⟩ := Dp.reads I2 (tP b) y v (hd y b hp) ry
  have e : tP b = minD (tP x) (l.map tP) := ((PySem.Reads.unique hrb _ _ hrd).1)
  exact ⟨y, H, I2, ry, q y b hp e⟩
theorem call_sortTr (hu : X.A.units + 64 < cLine) : CallR X (.builtin "sorted") (rSortTr X.K) := by
  intro pins s σ H vs us Q I r h
  obtain ⟨Φ, a, xs, l, rfl, hs, he, hd, hz, q⟩ := h
  obtain ⟨its, rv, hl, _⟩ := I.list hs
  rw [Vals.ref1 r]
  have ee := he.vals rv
  have er : PySem.W.EachIs (fun v b => ∃ as, Reads s.heap v (tP b) as) its l := ee.mono fun u b ⟨y, ry, hp⟩ => Dp.reads I (tP b) y u (hd y b hp) ry
  refine PySem.W.sorted_data (enc := tP) hl.isList ee er (PySem.W.AllAlike.of fun b b' => tP_alike b b') (PySem.W.Sortable.tuples fun b => ⟨_, _, rfl⟩) (Nat.le_trans hz (by decide)) (fun b _ => by rw [depth_tP]; omega) fun out ho eo => ?_
  obtain ⟨ys, rys, hys⟩ := Each.back eo
  obtain ⟨ep, he'⟩ := PyProof.Rows.sortedAll_at s.heap its out.toArray
  have hlen : ys.length ≤ sizeLine := by
    rw [rys.length, ho]
    exact Nat.le_trans hz (by decide)
  exact ⟨.ref _, upd H (s.heap.objs.size + 1) (.lst ys), I.laid (t' := s.toks) (fun _ _ => PyProof.Rows.sortedAll_old) (Nat.le_succ _) ⟨hlen, out, ep, rys, he'⟩, rfl, q ys _ hys (I.hok.fresh (Nat.le_succ _))⟩
end
/-! ### the order -/
theorem Tlt_irr (x : Trp) : ¬ Tlt x x := fun h => by
  rcases h with h | ⟨_, h | ⟨_, h⟩⟩
  · omega
  · omega
  · exact List.lt_irrefl _ h
theorem Tlt_trans {x y z : Trp} (h1 : Tlt x y) (h2 : Tlt y z) : Tlt x z := by
  rcases h1 with h1 | ⟨e1, h1⟩
  · rcases h2 with h2 | ⟨e2, _⟩
    · exact .inl (by omega)
    · exact .inl (by omega)
  · rcases h2 with h2 | ⟨e2, h2⟩
    · exact .inl (by omega)
    · refine .inr ⟨by omega, ?_⟩
      rcases h1 with h1 | ⟨f1, h1⟩
      · rcases h2 with h2 | ⟨f2, _⟩
        · exact .inl (by omega)
        · exact .inl (by omega)
      · rcases h2 with h2 | ⟨f2, h2⟩
        · exact .inl (by omega)
        · exact .inr ⟨by omega, List.lt_trans h1 h2⟩
theorem Tlt_tri (x y : Trp) : Tlt x y ∨ x = y ∨ Tlt y x := by
  obtain ⟨a, b, w⟩ := x
  obtain ⟨a', b', w'⟩ := y
  unfold Tlt
  simp only
  rcases Int.lt_trichotomy a a' with h | rfl | h
  · exact .inl (.inl h)
  · rcases Int.lt_trichotomy b b' with h | rfl | h
    · exact .inl (.inr ⟨rfl, .inl h⟩)
    · by_cases h1 : w < w'
      · exact .inl (.inr ⟨rfl, .inr ⟨rfl, h1⟩⟩)
      · by_cases h2 : w' < w
        · exact .inr (.inr (.inr ⟨rfl, .inr ⟨rfl, h2⟩⟩))
        · have : w = w' := List.le_antisymm (List.not_lt.mp h2) (List.not_lt.mp h1)
          subst this
          exact .inr (.inl rfl)
    · exact .inr (.inr (.inr ⟨rfl, .inl h⟩))
  · exact .inr (.inr (.inl h))
theorem Tle_trans {x y z : Trp} (h1 : ¬ Tlt y x) (h2 : ¬ Tlt z y) : ¬ Tlt z x := fun h => by
  rcases Tlt_tri x y with q | rfl | q
  · exact h2 (Tlt_trans h q)
  · exact h2 h
  · exact h1 q
def minT (x : Trp) (l : List Trp) : Trp := l.foldl (fun a y => if dataLt (tP y) (tP a) = true then y else a) x
theorem minT_py : ∀ (l : List Trp) (x : Trp), minD (tP x) (l.map tP) = tP (minT x l)
  | [], _ => rfl
  | y :: l, x => by
    have ih := minT_py l (if dataLt (tP y) (tP x) = true then y else x)
    unfold minD at ih ⊢
    unfold minT at ih ⊢
    rw [List.map_cons, List.foldl_cons, List.foldl_cons, ← ih]
    congr 1
    split <;> rfl
theorem minT_ok : ∀ (l : List Trp) (x : Trp), minT x l ∈ x :: l ∧ ∀ y ∈ x :: l, ¬ Tlt y (minT x l)
  | [], x => ⟨List.mem_cons_self, fun y hy => by
      rcases List.mem_cons.mp hy with e | e
      · subst e
        exact Tlt_irr _
      · cases e⟩
  | z :: l, x => by
    have ih := minT_ok l (if dataLt (tP z) (tP x) = true then z else x)
    have e : minT x (z :: l) = minT (if dataLt (tP z) (tP x) = true then z else x) l := rfl
    rw [e]
    by_cases h : dataLt (tP z) (tP x) = true
    · rw [if_pos h] at ih ⊢
      refine ⟨List.mem_cons_of_mem _ ih.1, fun y hy => ?_⟩
      rcases List.mem_cons.mp hy with e | hy
      · subst e
        exact Tle_trans (ih.2 z List.mem_cons_self) (fun q => Tlt_irr _ (Tlt_trans q ((tP_lt _ _).mp h)))
      · exact ih.2 y hy
    · rw [if_neg h] at ih ⊢
      refine ⟨?_, fun y hy => ?_⟩
      · rcases List.mem_cons.mp ih.1 with e | e
        · rw [e]
          exact List.mem_cons_self
        · exact List.mem_cons_of_mem _ (List.mem_cons_of_mem _ e)
      · rcases List.mem_cons.mp hy with e | hy
        · subst e
          exact ih.2 _ List.mem_cons_self
        · rcases List.mem_cons.mp hy with e | hy
          · subst e
            exact Tle_trans (ih.2 x List.mem_cons_self) (fun q => h ((tP_lt _ _).mpr q))
          · exact ih.2 y (List.mem_cons_of_mem _ hy)
theorem sortT_ok (l : List Trp) : (l.mergeSort (PySem.W.dataLe false tP)).Perm l ∧ (l.mergeSort (PySem.W.dataLe false tP)).Pairwise fun x y => ¬ Tlt y x := by
  refine ⟨List.mergeSort_perm .., ?_⟩
  have h := List.pairwise_mergeSort (le := PySem.W.dataLe false tP) (fun a b c h1 h2 => ?_) (fun a b => ?_) l
  · refine h.imp fun {x y} q => ?_
    have q2 : (!dataLt (tP y) (tP x)) = true := q
    exact fun z => by
      rw [(tP_lt y x).mpr z] at q2
      cases q2
  · have g1 : (!dataLt (tP b) (tP a)) = true := h1
    have g2 : (!dataLt (tP c) (tP b)) = true := h2
    show (!dataLt (tP c) (tP a)) = true
    rw [Bool.not_eq_true'] at g1 g2 ⊢
    have k1 : ¬ Tlt b a := fun z => by
      rw [(tP_lt b a).mpr z] at g1
      cases g1
    have k2 : ¬ Tlt c b := fun z => by
      rw [(tP_lt c b).mpr z] at g2
      cases g2
    cases q : dataLt (tP c) (tP a) with
    | false => rfl
    | true => exact absurd ((tP_lt c a).mp q) (Tle_trans k1 k2)
  · show ((!dataLt (tP b) (tP a)) || (!dataLt (tP a) (tP b))) = true
    cases q : dataLt (tP b) (tP a) with
    | false => rfl
    | true =>
      cases q2 : dataLt (tP a) (tP b) with
      | false => rfl
      | true => exact absurd (Tlt_trans ((tP_lt _ _).mp q) ((tP_lt _ _).mp q2)) (Tlt_irr b)
/-! ### on data -/
section
variable {c : Cn} {μ : Mu} {P : D → Mu → Prop} {K : PySem.W.Frag}
theorem tD_dp {H : Hp} {v : V} {x : Trp} (r : Rep H (tD x) v) : Dp K H v (tP x) := by
  obtain ⟨a, vs, rfl, ha, v1, r1, rfl, rfl, v2, r2, rfl, rfl, v3, r3, rfl, rfl, rfl⟩ := r
  exact .tup (SqT.of ha) (.cons (.int _) (.cons (.int _) (.cons (.str _) .nil)))
theorem each_of {H : Hp} : ∀ {l : List Trp} {vs : List V}, Reps H (l.map tD) vs → Each (fun v b => Rep H (tD b) v) vs l
  | [], vs, h => by
    have e : vs = [] := h
    subst e
    exact .nil
  | x :: l, vs, h => by
    obtain ⟨v, r, rfl, h1, h2⟩ := h
    exact .cons h1 (each_of h2)
theorem of_each {H : Hp} : ∀ {l : List Trp} {vs : List V}, Each (fun v b => Rep H (tD b) v) vs l → Reps H (l.map tD) vs
  | _, _, .nil => Reps.nil
  | _, _, .cons p r => .cons p (of_each r)
theorem k_minTr {a : Addr} {j : Nat} {x : Trp} {l : List Trp} (hm : μ[j]? = some (a, .lst ((x :: l).map tD))) (k : ∀ m, m ∈ x :: l → (∀ y ∈ x :: l, ¬ Tlt y m) → P (tD m) μ) : KX c (rMinTr K) [.ref a] μ P := fun ρ σ H vs Q S r q => by
  obtain ⟨v, r0, rfl, rfl, rfl⟩ := r
  obtain ⟨ws, hv, rs⟩ := S.mu _ (List.mem_of_getElem? hm)
  refine ⟨_, a, ws, x, l, rfl, SqL.of hv, each_of rs, fun y b h => tD_dp h, fun v b h e => ?_⟩
  rw [minT_py] at e
  have eb := tP_inj e
  subst eb
  obtain ⟨m1, m2⟩ := minT_ok l x
  exact q v H _ μ (Pst.refl H) h S (k _ m1 m2)
theorem k_sortTr {a : Addr} {j : Nat} {l : List Trp} (hm : μ[j]? = some (a, .lst (l.map tD))) (hz : l.length ≤ 100000) (k : ∀ (p : Addr) (l' : List Trp), l'.Perm l → (l'.Pairwise fun x y => ¬ Tlt y x) → P (.ref p) (μ ++ [(p, .lst (l'.map tD))])) : KX c (rSortTr K) [.ref a] μ P := fun ρ σ H vs Q S r q => by
  obtain ⟨v, r0, rfl, rfl, rfl⟩ := r
  obtain ⟨ws, hv, rs⟩ := S.mu _ (List.mem_of_getElem? hm)
  obtain ⟨s1, s2⟩ := sortT_ok l
  refine ⟨_, a, ws, l, rfl, SqL.of hv, each_of rs, fun y b h => tD_dp h, hz, fun ys p h hp => ?_⟩
  exact q _ _ (.ref p) _ (Pst.new hp) rfl (S.add hp (m := .lst ((l.mergeSort (PySem.W.dataLe false tP)).map tD)) ⟨_, upd_same, Reps.mono (Pst.new hp) _ _ (of_each h)⟩) (k p _ s1 s2)
end
end MW
end
section
open MW L2
local macro_rules | `(tactic| walk_at "d1") => `(tactic| first
  | ((with_reducible refine x_varE ?_); refine ⟨_, rfl, ?_⟩)
  | with_reducible refine x_int ?_
  | with_reducible refine x_str ?_
  | with_reducible refine x_bl ?_
  | with_reducible refine x_non ?_
  | with_reducible refine x_ref ?_
  | with_reducible refine x_ty ?_
  | with_reducible refine x_op ?_
  | with_reducible refine x_un ?_
  | with_reducible refine a_nil ?_
  | with_reducible refine a_cons ?_
  | ((with_reducible refine x_tup ?_); walk_at "ad"; refine ⟨by first | exact (by decide) | (simp; done) | omega, ?_⟩)
  | ((with_reducible refine x_lst ?_); walk_at "ad"; refine ⟨by first | exact (by decide) | (simp; done) | omega, fun _ => ?_⟩)
  | with_reducible refine x_if ?_
  | with_reducible refine x_andV ?_
  | with_reducible refine x_orV ?_
  | with_reducible refine x_notV ?_
  | with_reducible refine t_test ?_
  | with_reducible refine t_B ?_
  | with_reducible refine t_yes ?_
  | with_reducible refine r_inS ?_
  | with_reducible refine r_notInS ?_
  | with_reducible refine t_and ?_
  | with_reducible refine t_or ?_
  | with_reducible refine t_not ?_
  | ((with_reducible refine x_fz ?_); walk_at "ad"; (first | refine ⟨_, _, 0, rfl, rfl, ?_⟩ | refine ⟨_, _, 1, rfl, rfl, ?_⟩ | refine ⟨_, _, 2, rfl, rfl, ?_⟩ | refine ⟨_, _, 3, rfl, rfl, ?_⟩))
  | with_reducible refine xs_seq ?_
  | with_reducible refine xs_next ?_
  | with_reducible refine xs_ret ?_
  | with_reducible refine xs_retN ?_
  | with_reducible refine xs_drop ?_
  | with_reducible apply xs_asg
  | with_reducible refine xs_if ?_
  | with_reducible refine g_name ?_
  | with_reducible refine gs_nil ?_
  | with_reducible apply gs_cons
  | ((with_reducible apply g_tup); exact rfl)
  | with_reducible refine x_chain ?_
  | with_reducible refine x_CB ?_
  | with_reducible refine x_call0 ?_
  | with_reducible refine x_sl ?_
  | with_reducible refine o_none ?_
  | with_reducible refine o_some ?_
  | ((with_reducible refine x_prop ?_); walk_at "ad"; refine ⟨_, _, _, rfl, rfl, ?_⟩)
  | with_reducible refine r_I0 ?_
  | with_reducible refine r_I0b ?_
  | with_reducible refine r_eqI ?_
  | with_reducible refine r_neI ?_
  | with_reducible refine r_eqS ?_
  | with_reducible refine r_neS ?_
  | with_reducible refine r_isN ?_
  | with_reducible refine r_notN ?_
  | with_reducible refine u_neg ?_
  | ((with_reducible refine r_ixTE ?_); first | refine ⟨_, ‹_›, ?_⟩ | refine ⟨_, rfl, ?_⟩)
  | ((with_reducible refine r_ixLE ?_); first | refine ⟨_, ‹_›, ?_⟩ | refine ⟨_, rfl, ?_⟩)
  | ((with_reducible refine k_isIE ?_); refine ⟨_, rfl, ?_⟩)
  | ((with_reducible refine k_isSE ?_); refine ⟨_, rfl, ?_⟩)
  | ((with_reducible refine k_isTE ?_); refine ⟨_, rfl, ?_⟩)
  | ((with_reducible refine x_BM ?_); walk_at "ad"; first | refine ⟨ty_lst (j := 0) rfl, ?_⟩ | refine ⟨ty_lst (j := 1) rfl, ?_⟩ | refine ⟨ty_lst (j := 2) rfl, ?_⟩ | refine ⟨ty_lst (j := 3) rfl, ?_⟩)
  | ((with_reducible refine m_appE ?_); (first | refine ⟨0, _, rfl, ?_, ?_⟩ | refine ⟨1, _, rfl, ?_, ?_⟩ | refine ⟨2, _, rfl, ?_, ?_⟩ | refine ⟨3, _, rfl, ?_, ?_⟩); (walk_at "len"))
  | ((with_reducible refine k_lenS ?_ ?_); (walk_at "len"))
  | ((with_reducible refine s_txt ?_ ?_); (walk_at "len"))
  | ((with_reducible refine r_ixSE ?_ ?_); (walk_at "len"); (first | refine ⟨_, ‹_›, ?_⟩ | refine ⟨_, rfl, ?_⟩))
  | with_reducible refine k_lenT ?_
  | with_reducible refine k_lenL ?_
  | ((with_reducible refine k_lenME ?_); (first | refine ⟨0, _, rfl, ?_⟩ | refine ⟨1, _, rfl, ?_⟩ | refine ⟨2, _, rfl, ?_⟩ | refine ⟨3, _, rfl, ?_⟩))
  | ((with_reducible refine r_ixME ?_); (first | refine ⟨0, _, _, rfl, ‹_›, ?_⟩ | refine ⟨1, _, _, rfl, ‹_›, ?_⟩ | refine ⟨2, _, _, rfl, ‹_›, ?_⟩ | refine ⟨0, _, _, rfl, rfl, ?_⟩ | refine ⟨1, _, _, rfl, rfl, ?_⟩ | refine ⟨2, _, _, rfl, rfl, ?_⟩ | refine ⟨3, _, _, rfl, rfl, ?_⟩))
  | ((with_reducible refine x_tupleM ?_); walk_at "ad"; (first | refine ⟨_, 0, _, rfl, rfl, ?_⟩ | refine ⟨_, 1, _, rfl, rfl, ?_⟩ | refine ⟨_, 2, _, rfl, rfl, ?_⟩ | refine ⟨_, 3, _, rfl, rfl, ?_⟩))
  | ((with_reducible refine r_neT0 (n := 0) ?_ ?_ ?_); exact (by decide); exact (deep_dI _ _))
  | ((with_reducible refine x_rev2 ?_); walk_at "ad"; refine ⟨_, _, rfl, ?_⟩)
  | with_reducible refine x_join ?_
  | with_reducible refine i_enumT ?_
  | with_reducible refine i_rng1 ?_
  | with_reducible refine i_rng2 ?_
  | with_reducible refine i_tup ?_
  | with_reducible refine i_lst ?_
  | with_reducible refine i_str ?_
  | refine ⟨_, rfl, ?_⟩
  | ((with_reducible refine brT ?_ ?_); (first | assumption | exact rfl | decide +kernel))
  | ((with_reducible refine brF ?_ ?_); (first | assumption | exact rfl | decide +kernel)))
local macro_rules | `(tactic| walk_at "len") => `(tactic| first | assumption | omega | ((simp only [List.length_append, List.length_cons, List.length_nil, List.length_map, List.length_set]) <;> omega) | (simp; done) | (simp; omega))
local macro_rules | `(tactic| walk_at "ad") => `(tactic| repeat (walk_at "d1"))
local macro_rules | `(tactic| walk_at "sub") => `(tactic| first | exact List.nil_sublist _ | exact List.Sublist.refl _ | (refine List.Sublist.cons₂ _ ?_; walk_at "sub") | (refine List.Sublist.cons _ ?_; walk_at "sub"))
/-! Tellers: letters to try, first state, next state, answer. -/
namespace MW
open PySem PySem.Spec PyProof.Rows L2
open C8 (pe_c pe_gc Cal)
section
variable {c : Cn} {ρ : Env2} {μ : Mu} {P : D → Mu → Prop}
/-- [elt for target in iter if test] -/
theorem x_filt {α : Type} {wi : TI} {g : TG} {tt : TT} {te : TE} {vs js : List Nat} (l : List α) (e F : α → D) (pp : α → Bool) (μ1 : Mu) (hj : ∀ j ∈ js, j ∈ vs) (hz : l.length ≤ 100000)
    (h : IX c wi ρ μ fun items μ2 => items = l.map e ∧ μ2 = μ1)
    (hs : ∀ (i : Nat) (x : α) (acc : List D) (a : Addr), l[i]? = some x → GX c g js (e x) (wipe2 ρ vs) ((a, .lst acc) :: μ1) fun ρ2 μ3 => MW.T c tt ρ2 μ3 fun b μ4 => b = pp x ∧ (pp x = true → X c te ρ2 μ4 fun y μ5 => y = F x ∧ ((a, MO.lst acc) :: μ1).Sublist μ5) ∧ (pp x = false → ((a, MO.lst acc) :: μ1).Sublist μ4))
    (hd : ∀ a, P (.ref a) (μ1 ++ [(a, .lst ((l.filter pp).map F))])) : X c (tLc wi g tt te vs) ρ μ P := by
  refine x_lc (js := js) (fun i acc μ2 => μ2 = μ1 ∧ acc = ((l.take i).filter pp).map F) hj (h.imp fun items μ2 hh => ?_)
  obtain ⟨e1, rfl⟩ := hh
  refine ⟨by rw [e1, List.length_map]; exact hz, ⟨rfl, by simp⟩, ?_, ?_⟩
  · intro i d acc μ3 a hi hI
    obtain ⟨rfl, rfl⟩ := hI
    rw [e1, List.getElem?_map] at hi
    cases hx : l[i]? with
    | none =>
      rw [hx] at hi
      cases hi
    | some x =>
      rw [hx] at hi
      have e2 : e x = d := Option.some.inj hi
      subst e2
      refine (hs i x _ a hx).imp fun ρ2 μ4 hh => ?_
      refine T.let ?_
      refine T.imp hh fun b μ5 hb => ?_
      obtain ⟨hb1, hb2, hb3⟩ := hb
      cases q : pp x with
      | true =>
        refine ⟨μ5, List.Sublist.refl _, fun _ => ?_, fun z => by rw [hb1, q] at z; cases z⟩
        refine X.let (ν := []) ((hb2 q).imp fun y μ6 ⟨ey, sl⟩ => ⟨_, sl, ?_⟩)
        refine ⟨_, rfl, rfl, ?_⟩
        rw [List.take_succ, hx, ey, List.filter_append, List.map_append]
        simp [q]
      | false =>
        refine ⟨_, hb3 q, fun z => (by rw [hb1, q] at z; cases z), fun _ => ⟨_, rfl, rfl, ?_⟩⟩
        rw [List.take_succ, hx, List.filter_append, List.map_append]
        simp [q]
  · intro acc μ3 a hI
    obtain ⟨rfl, rfl⟩ := hI
    have : ((l.take items.length).filter pp).map F = (l.filter pp).map F := by rw [e1, List.length_map, List.take_length]
    rw [this]
    exact hd a
end
theorem cut_one {α : Type} (l : List α) : cut l none (some 1) = l.take 1 := by
  unfold cut
  rw [show (1 : Int) = ((1 : Nat) : Int) from rfl, HT.sIx_nat, HT.sIx_none, List.drop_zero, Nat.sub_zero]
  cases l with
  | nil => rfl
  | cons a l => rw [Nat.min_eq_left (by simp)]
/-- the letters that are tried -/
def tried (l : Wd) : Wd := abc.filter fun c => decide (c ∈ l ∨ c ∈ (abc.filter fun d => !decide (d ∈ l)).take 1)
theorem tried_up (l : Wd) : (tried l).Pairwise (· < ·) := abc_up.filter _
theorem tried_mem {l : Wd} (hl : ∀ c ∈ l, c ∈ abc) {c : Nat} : c ∈ tried l ↔ c ∈ l ∨ c ∈ (abc.filter fun d => !decide (d ∈ l)).take 1 := by
  unfold tried
  rw [List.mem_filter, decide_eq_true_eq]
  constructor
  · exact fun h => h.2
  · intro h
    refine ⟨?_, h⟩
    rcases h with h | h
    · exact hl c h
    · exact (List.mem_filter.mp (List.mem_of_mem_take h)).1
theorem tried_len (l : Wd) : (tried l).length ≤ 26 := List.length_filter_le _ _
/-- the letters tried at a speller -/
def sgn (p : Spl) : Wd := tried (lets p)
/-- triples of the entries -/
def trips (es : List (List Nat × Int)) (val : (List Nat × Int) → Int) (n : Nat) : List Trp := (List.range n).map fun i => (val (es.getD i ([], 0)), (i : Int), (es.getD i ([], 0)).1)
theorem trips_succ (es : List (List Nat × Int)) (val : (List Nat × Int) → Int) {n : Nat} {e : List Nat × Int} (h : es[n]? = some e) : trips es val (n + 1) = trips es val n ++ [(val e, (n : Int), e.1)] := by
  unfold trips
  rw [List.range_succ, List.map_append, List.map_cons, List.map_nil, List.getD_eq_getElem?_getD, h]
  rfl
theorem trips_len (es : List (List Nat × Int)) (val : (List Nat × Int) → Int) (n : Nat) : (trips es val n).length = n := by simp [trips]
theorem trips_mem {es : List (List Nat × Int)} {val : (List Nat × Int) → Int} {x : Trp} (h : x ∈ trips es val es.length) : ∃ (i : Nat) (e : List Nat × Int), es[i]? = some e ∧ x = (val e, (i : Int), e.1) := by
  obtain ⟨i, hi, rfl⟩ := List.mem_map.mp h
  have hi := List.mem_range.mp hi
  refine ⟨i, es[i], List.getElem?_eq_getElem hi, ?_⟩
  simp only [List.getD_eq_getElem?_getD, List.getElem?_eq_getElem hi, Option.getD_some]
theorem trips_in {es : List (List Nat × Int)} {val : (List Nat × Int) → Int} {i : Nat} {e : List Nat × Int} (h : es[i]? = some e) : (val e, (i : Int), e.1) ∈ trips es val es.length := by
  have hi := (List.getElem?_eq_some_iff.mp h).1
  refine List.mem_map.mpr ⟨i, List.mem_range.mpr hi, ?_⟩
  simp only [List.getD_eq_getElem?_getD, h, Option.getD_some]
theorem low_ok {w : Wd} (h : ∀ c ∈ w, c ∈ abc) : PyData.strOk (tx w) = true := by
  unfold PyData.strOk
  simp only [tx, List.all_toArray, List.all_eq_true]
  exact fun c hc => decide_eq_true (Nat.lt_trans (abc_small (h c hc)) (by decide))
theorem deep_trips {l : List Trp} (h : ∀ x ∈ l, ∀ c ∈ x.2.2, c ∈ abc) : D.deeps 1 (l.map tD) := D.deeps_of fun d hd => by
  obtain ⟨x, hx, rfl⟩ := List.mem_map.mp hd
  unfold D.deep D.deeps D.deep D.deeps D.deep D.deeps D.deep D.deeps
  exact ⟨trivial, trivial, low_ok (h x hx), trivial⟩
/-- an entry's worth in a row -/
def vt (p : Spl) (t : Wd) (e : List Nat × Int) : Int := wv p.sl e.1 t e.1.length + e.2
/-- no entry stands before e at t -/
def Least (p : Spl) (t : Wd) (e : List Nat × Int) : Prop := ∃ k : Nat, p.es[k]? = some e ∧ ∀ (j : Nat) f, p.es[j]? = some f → vt p t e < vt p t f ∨ (vt p t e = vt p t f ∧ k ≤ j)
def G_known_letters (K : PySem.W.Frag) : Spc := fun ds R => ∃ (p : Spl), OkP p ∧ ds = [splD K p] ∧ R = fun d => d = .str (tx (lets p))
def G_tried_letters (K : PySem.W.Frag) : Spc := fun ds R => ∃ (l : Wd), (∀ c ∈ l, c ∈ abc) ∧ l.length ≤ 26 ∧ ds = [.str (tx l)] ∧ R = fun d => d = .str (tx (tried l))
def G_signs (K : PySem.W.Frag) : Spc := fun ds R => ∃ (p : Spl), OkP p ∧ ds = [splD K p] ∧ R = fun d => d = .str (tx (sgn p))
def G_first_state (K : PySem.W.Frag) : Spc := fun ds R => ∃ (p : Spl), OkP p ∧ ds = [splD K p] ∧ R = fun d => d = staD (sta p [])
def G_step_on (K : PySem.W.Frag) : Spc := fun ds R => ∃ (p : Spl) (t : Wd) (c : Nat), OkP p ∧ ds = [splD K p, staD (sta p t), .str (tx [c])] ∧ R = fun d => d = staD (sta p (t ++ [c]))
def G_least_total (K : PySem.W.Frag) : Spc := fun ds R => ∃ (p : Spl) (t : Wd), OkP p ∧ ds = [splD K p, rowD (row p t)] ∧ R = fun d => (p.es = [] ∧ d = .non) ∨ ∃ e, Least p t e ∧ d = .tup [.int (vt p t e), .str (tx e.1)]
def G_word_of (K : PySem.W.Frag) : Spc := fun ds R => ∃ (p : Spl) (t : Wd), OkP p ∧ ds = [splD K p, staD (sta p t)] ∧ R = fun d => (p.es = [] ∧ d = .non) ∨ ∃ e, Least p t e ∧ d = .str (tx e.1)
def G_answer_at (K : PySem.W.Frag) : Spc := fun ds R => ∃ (p : Spl) (t : Wd), OkP p ∧ ds = [splD K p, staD (sta p t)] ∧ R = fun d => (p.es = [] ∧ d = .non) ∨ ∃ e, Least p t e ∧ d = .str (tx e.1)
theorem sta_1 (p : Spl) (t : Wd) : (sta p t).1 = row p t := by
  unfold sta
  split <;> rfl
abbrev N_known_letters : List Str := ["teller"]
theorem sc_known_letters : FnScope N_known_letters ["teller"] (defScope s_known_letters) := ⟨rfl, rfl, rfl, by decide +kernel, rfl, by decide +kernel, by decide +kernel⟩
theorem Tx.c_known_letters {w : World} {K : PySem.W.Frag} {mg : Str → Option Value} {base : Heap} (T : Tx K mg) : Cal P0 w K mg base 4 "known_letters" (spF (G_known_letters K)) [] := by
  refine mkCal (k := 3) T.d_known_letters T.g_known_letters sc_known_letters (fun _ _ _ _ _ _ us hl => match us, hl with | [_], _ => rfl) (by intro ds R h; obtain ⟨p, hp, rfl, rfl⟩ := h; rfl) fun cdv A outer s H E hr => ?_
  have nd := sc_known_letters.nd
  refine ⟨_, (pss_cons (ps_if (pt_val (pe_callB call_isi (by rfl) T.f_isinstance boot_isinstance (pa_cons (pv 0) (pa_cons (pe_glob (v := .ref (He.ga K "Machine")) (by rfl) T.g_Machine rfl) pa_nil)))) (pss_one (ps_ret (pe_gc (by rfl) (gS T.s_LETTERS)))) pss_nil)
  (pss_one (ps_ret (pe_c T.c_letters_of hr (by decide) (by rfl) (pa_cons (pe_ifExp (pt_val (pe_callB call_isi (by rfl) T.f_isinstance boot_isinstance (pa_cons (pv 0) (pa_cons (pe_glob (v := .ref (He.ga K "Listener")) (by rfl) T.g_Listener rfl) pa_nil)))) pe_nev (pv 0)) pa_nil))))), ?_⟩
  rintro ds R ⟨p, hp, rfl, rfl⟩
  have nM : PySem.W.kitOne K (.ref (He.ga K "Speller")) (.ref (He.ga K "Machine")) = some false := of_decide_eq_true T.x7
  have nL : PySem.W.kitOne K (.ref (He.ga K "Speller")) (.ref (He.ga K "Listener")) = some false := of_decide_eq_true T.x8
  
  walk_at "ad"
  refine k_isSpl T nM ?_
  walk_at "ad"
  refine k_isSpl T nL ?_
  walk_at "ad"
  refine ⟨_, ⟨p, hp, rfl, rfl⟩, ?_⟩
  rintro _ rfl
  walk_at "ad"
  rfl

abbrev N_tried_letters : List Str := ["known", "others", "letter"]
theorem sc_tried_letters : FnScope N_tried_letters ["known"] (defScope s_tried_letters) := ⟨rfl, rfl, rfl, by decide +kernel, rfl, by decide +kernel, by decide +kernel⟩
theorem Tx.c_tried_letters {w : World} {K : PySem.W.Frag} {mg : Str → Option Value} {base : Heap} (T : Tx K mg) : Cal P0 w K mg base 3 "tried_letters" (spF (G_tried_letters K)) [] := by
  refine mkCal (k := 2) T.d_tried_letters T.g_tried_letters sc_tried_letters (fun _ _ _ _ _ _ us hl => match us, hl with | [_], _ => rfl) (by intro ds R h; obtain ⟨l, hl, hn, rfl, rfl⟩ := h; rfl) fun cdv A outer s H E hr => ?_
  have nd := sc_tried_letters.nd
  refine ⟨_, (pss_cons (ps_setLc (i := 1) (own := [("letter", 2)]) (g := (gName 2)) (tt := (tTest (tOp _ (tVar 2) (tVar 0)))) (te := (tVar 2)) rfl nd rfl rfl (sw_true rfl rfl rfl (by decide +kernel)) (pi_str (pe_gc (by rfl) (gS T.s_LETTERS))) (blkOk_by (N := N_tried_letters) (sc := defScope s_tried_letters) (by decide +kernel)) (fun _ _ _ _ _ => (pg_name (i := 2) nd rfl (by first | exact Or.inl rfl | exact Or.inr rfl))) (fun _ _ _ _ _ => (pts_one (pt_cmpR op_notIn_sign (pv 2) (pv 0) (by rfl)))) (fun _ _ _ _ _ => (pv 2)))
  (pss_one (ps_ret (pe_join pe_str (pe_callB (call_sortT rfl) (by rfl) T.f_sorted boot_sorted (pa_cons (pe_callTy (call_setT rfl) (by rfl) T.f_set boot_set (pa_cons (pe_op op_add_str (pv 0) (pe_join pe_str (pe_slice sl_list (pv 1) po_none (po_some pe_int)))) pa_nil)) pa_nil)))))), ?_⟩
  rintro ds R ⟨l, hl, hn, rfl, rfl⟩
  have hab : abc.length = 26 := rfl
  walk_at "ad"
  refine x_filt (js := [2]) abc (fun c => .str (tx [c])) (fun c => .str (tx [c])) (fun c => !decide (c ∈ l)) [] (by decide) (by decide) ?_ ?_ ?_
  · walk_at "ad"
    exact ⟨rfl, rfl⟩
  · intro i x acc a hx
    walk_at "ad"
    refine ⟨rfl, fun _ => ?_, fun _ => List.Sublist.refl _⟩
    walk_at "ad"
    exact ⟨rfl, List.Sublist.refl _⟩
  intro a
  walk_at "ad"
  refine s_lstM (j := 0) rfl fun b => ?_
  have ec : cut ((abc.filter fun d => !decide (d ∈ l)).map fun c => D.str (tx [c])) none (some 1) = dS (((abc.filter fun d => !decide (d ∈ l)).take 1).map fun c => tx [c]) := by
    rw [cut_one, ← List.map_take]
    unfold dS
    rw [List.map_map]
    rfl
  rw [ec]
  refine ⟨b, 1, _, rfl, rfl, ?_, ?_⟩
  · rw [sum_one, nil_tx, tx_len]
    have := List.length_take_le 1 (abc.filter fun d => !decide (d ∈ l))
    simp
    omega
  rw [nil_tx, show (((abc.filter fun d => !decide (d ∈ l)).take 1).map fun c => tx [c]) = (((abc.filter fun d => !decide (d ∈ l)).take 1).map fun c => [c]).map tx by rw [List.map_map]; rfl, join_tx, flat_one]
  have ht := List.length_take_le 1 (abc.filter fun d => !decide (d ∈ l))
  refine r_addS (by omega) ?_
  walk_at "ad"
  refine k_set (fun c hc => ?_) (by rw [List.length_append]; omega) fun q m m1 m2 nd => ?_
  · rcases List.mem_append.mp hc with h | h
    · exact abc_small (hl c h)
    · exact abc_small (List.mem_filter.mp (List.mem_of_mem_take h)).1
  walk_at "ad"
  refine k_sortT (j := 2) rfl (by rw [List.length_append] at m2; omega) fun r ys y1 y2 => ?_
  have ey := sorted_signs y2 (y1.nodup_iff.mpr nd) (tried_up l) fun y => (y1.mem_iff.trans (m1 y)).trans ⟨fun ⟨c, hc, e⟩ => ⟨c, (tried_mem hl).mpr (List.mem_append.mp hc), e⟩, fun ⟨c, hc, e⟩ => ⟨c, List.mem_append.mpr ((tried_mem hl).mp hc), e⟩⟩
  refine ⟨r, 3, ys, rfl, rfl, ?_, ?_⟩
  · rw [ey, sum_one, tx_len, List.length_map]
    have := tried_len l
    simp
    omega
  rw [ey]
  show D.str _ = D.str _
  congr 1
  rw [show ((tried l).map fun c => tx [c]) = ((tried l).map fun c => [c]).map tx by rw [List.map_map]; rfl, join_tx, flat_one]

abbrev N_signs : List Str := ["teller"]
theorem sc_signs : FnScope N_signs ["teller"] (defScope s_signs) := ⟨rfl, rfl, rfl, by decide +kernel, rfl, by decide +kernel, by decide +kernel⟩
theorem Tx.c_signs {w : World} {K : PySem.W.Frag} {mg : Str → Option Value} {base : Heap} (T : Tx K mg) : Cal P0 w K mg base 5 "signs" (spF (G_signs K)) [] := by
  refine mkCal (k := 4) T.d_signs T.g_signs sc_signs (fun _ _ _ _ _ _ us hl => match us, hl with | [_], _ => rfl) (by intro ds R h; obtain ⟨p, hp, rfl, rfl⟩ := h; rfl) fun cdv A outer s H E hr => ?_
  have nd := sc_signs.nd
  refine ⟨_, (pss_one (ps_ret (pe_c T.c_tried_letters hr (by decide) (by rfl) (pa_cons (pe_c T.c_known_letters hr (by decide) (by rfl) (pa_cons (pv 0) pa_nil)) pa_nil)))), ?_⟩
  rintro ds R ⟨p, hp, rfl, rfl⟩
  walk_at "ad"
  refine ⟨_, ⟨p, hp, rfl, rfl⟩, ?_⟩
  rintro _ rfl
  walk_at "ad"
  refine ⟨_, ⟨lets p, fun c hc => (List.mem_filter.mp hc).1, lets_len p, rfl, rfl⟩, ?_⟩
  rintro _ rfl
  walk_at "ad"
  rfl

end MW
end
section
open MW L2
local macro_rules | `(tactic| walk_at "d1") => `(tactic| first
  | ((with_reducible refine x_varE ?_); refine ⟨_, rfl, ?_⟩)
  | with_reducible refine x_int ?_
  | with_reducible refine x_str ?_
  | with_reducible refine x_bl ?_
  | with_reducible refine x_non ?_
  | with_reducible refine x_ref ?_
  | with_reducible refine x_ty ?_
  | with_reducible refine x_op ?_
  | with_reducible refine x_un ?_
  | with_reducible refine a_nil ?_
  | with_reducible refine a_cons ?_
  | ((with_reducible refine x_tup ?_); walk_at "ad"; refine ⟨by first | exact (by decide) | (simp; done) | omega, ?_⟩)
  | ((with_reducible refine x_lst ?_); walk_at "ad"; refine ⟨by first | exact (by decide) | (simp; done) | omega, fun _ => ?_⟩)
  | with_reducible refine x_if ?_
  | with_reducible refine x_andV ?_
  | with_reducible refine x_orV ?_
  | with_reducible refine x_notV ?_
  | with_reducible refine t_test ?_
  | with_reducible refine t_B ?_
  | with_reducible refine t_yes ?_
  | with_reducible refine r_inS ?_
  | with_reducible refine r_notInS ?_
  | with_reducible refine t_and ?_
  | with_reducible refine t_or ?_
  | with_reducible refine t_not ?_
  | ((with_reducible refine x_fz ?_); walk_at "ad"; (first | refine ⟨_, _, 0, rfl, rfl, ?_⟩ | refine ⟨_, _, 1, rfl, rfl, ?_⟩ | refine ⟨_, _, 2, rfl, rfl, ?_⟩ | refine ⟨_, _, 3, rfl, rfl, ?_⟩))
  | with_reducible refine xs_seq ?_
  | with_reducible refine xs_next ?_
  | with_reducible refine xs_ret ?_
  | with_reducible refine xs_retN ?_
  | with_reducible refine xs_drop ?_
  | with_reducible apply xs_asg
  | with_reducible refine xs_if ?_
  | with_reducible refine g_name ?_
  | with_reducible refine gs_nil ?_
  | with_reducible apply gs_cons
  | ((with_reducible apply g_tup); exact rfl)
  | with_reducible refine x_chain ?_
  | with_reducible refine x_CB ?_
  | with_reducible refine x_call0 ?_
  | with_reducible refine x_sl ?_
  | with_reducible refine o_none ?_
  | with_reducible refine o_some ?_
  | ((with_reducible refine x_prop ?_); walk_at "ad"; refine ⟨_, _, _, rfl, rfl, ?_⟩)
  | with_reducible refine r_I0 ?_
  | with_reducible refine r_I0b ?_
  | with_reducible refine r_eqI ?_
  | with_reducible refine r_neI ?_
  | with_reducible refine r_eqS ?_
  | with_reducible refine r_neS ?_
  | with_reducible refine r_isN ?_
  | with_reducible refine r_notN ?_
  | with_reducible refine u_neg ?_
  | ((with_reducible refine r_ixTE ?_); first | refine ⟨_, ‹_›, ?_⟩ | refine ⟨_, rfl, ?_⟩)
  | ((with_reducible refine r_ixLE ?_); first | refine ⟨_, ‹_›, ?_⟩ | refine ⟨_, rfl, ?_⟩)
  | ((with_reducible refine k_isIE ?_); refine ⟨_, rfl, ?_⟩)
  | ((with_reducible refine k_isSE ?_); refine ⟨_, rfl, ?_⟩)
  | ((with_reducible refine k_isTE ?_); refine ⟨_, rfl, ?_⟩)
  | ((with_reducible refine x_BM ?_); walk_at "ad"; first | refine ⟨ty_lst (j := 0) rfl, ?_⟩ | refine ⟨ty_lst (j := 1) rfl, ?_⟩ | refine ⟨ty_lst (j := 2) rfl, ?_⟩ | refine ⟨ty_lst (j := 3) rfl, ?_⟩)
  | ((with_reducible refine m_appE ?_); (first | refine ⟨0, _, rfl, ?_, ?_⟩ | refine ⟨1, _, rfl, ?_, ?_⟩ | refine ⟨2, _, rfl, ?_, ?_⟩ | refine ⟨3, _, rfl, ?_, ?_⟩); (walk_at "len"))
  | ((with_reducible refine k_lenS ?_ ?_); (walk_at "len"))
  | ((with_reducible refine s_txt ?_ ?_); (walk_at "len"))
  | ((with_reducible refine r_ixSE ?_ ?_); (walk_at "len"); (first | refine ⟨_, ‹_›, ?_⟩ | refine ⟨_, rfl, ?_⟩))
  | with_reducible refine k_lenT ?_
  | with_reducible refine k_lenL ?_
  | ((with_reducible refine k_lenME ?_); (first | refine ⟨0, _, rfl, ?_⟩ | refine ⟨1, _, rfl, ?_⟩ | refine ⟨2, _, rfl, ?_⟩ | refine ⟨3, _, rfl, ?_⟩))
  | ((with_reducible refine r_ixME ?_); (first | refine ⟨0, _, _, rfl, ‹_›, ?_⟩ | refine ⟨1, _, _, rfl, ‹_›, ?_⟩ | refine ⟨2, _, _, rfl, ‹_›, ?_⟩ | refine ⟨0, _, _, rfl, rfl, ?_⟩ | refine ⟨1, _, _, rfl, rfl, ?_⟩ | refine ⟨2, _, _, rfl, rfl, ?_⟩ | refine ⟨3, _, _, rfl, rfl, ?_⟩))
  | ((with_reducible refine x_tupleM ?_); walk_at "ad"; (first | refine ⟨_, 0, _, rfl, rfl, ?_⟩ | refine ⟨_, 1, _, rfl, rfl, ?_⟩ | refine ⟨_, 2, _, rfl, rfl, ?_⟩ | refine ⟨_, 3, _, rfl, rfl, ?_⟩))
  | ((with_reducible refine r_neT0 (n := 0) ?_ ?_ ?_); exact (by decide); exact (deep_dI _ _))
  | ((with_reducible refine x_rev2 ?_); walk_at "ad"; refine ⟨_, _, rfl, ?_⟩)
  | with_reducible refine x_join ?_
  | with_reducible refine i_enumT ?_
  | with_reducible refine i_rng1 ?_
  | with_reducible refine i_rng2 ?_
  | with_reducible refine i_tup ?_
  | with_reducible refine i_lst ?_
  | with_reducible refine i_str ?_
  | refine ⟨_, rfl, ?_⟩
  | ((with_reducible refine brT ?_ ?_); (first | assumption | exact rfl | decide +kernel))
  | ((with_reducible refine brF ?_ ?_); (first | assumption | exact rfl | decide +kernel)))
local macro_rules | `(tactic| walk_at "len") => `(tactic| first | assumption | omega | ((simp only [List.length_append, List.length_cons, List.length_nil, List.length_map, List.length_set]) <;> omega) | (simp; done) | (simp; omega))
local macro_rules | `(tactic| walk_at "ad") => `(tactic| repeat (walk_at "d1"))
local macro_rules | `(tactic| walk_at "sub") => `(tactic| first | exact List.nil_sublist _ | exact List.Sublist.refl _ | (refine List.Sublist.cons₂ _ ?_; walk_at "sub") | (refine List.Sublist.cons _ ?_; walk_at "sub"))
namespace MW
open PySem PySem.Spec PyProof.Rows L2
open C8 (pe_c pe_gc Cal)
abbrev N_first_state : List Str := ["teller"]
theorem sc_first_state : FnScope N_first_state ["teller"] (defScope s_first_state) := ⟨rfl, rfl, rfl, by decide +kernel, rfl, by decide +kernel, by decide +kernel⟩
theorem Tx.c_first_state {w : World} {K : PySem.W.Frag} {mg : Str → Option Value} {base : Heap} (T : Tx K mg) : Cal P0 w K mg base 9 "first_state" (spF (G_first_state K)) [] := by
  refine mkCal (k := 8) T.d_first_state T.g_first_state sc_first_state (fun _ _ _ _ _ _ us hl => match us, hl with | [_], _ => rfl) (by intro ds R h; obtain ⟨p, hp, rfl, rfl⟩ := h; rfl) fun cdv A outer s H E hr => ?_
  have nd := sc_first_state.nd
  refine ⟨_, (pss_cons (ps_if (pt_val (pe_callB call_isi (by rfl) T.f_isinstance boot_isinstance (pa_cons (pv 0) (pa_cons (pe_glob (v := .ref (He.ga K "Machine")) (by rfl) T.g_Machine rfl) pa_nil)))) (pss_one (ps_ret pe_int)) pss_nil)
  (pss_one (ps_ret (pe_ifExp (pt_val (pe_callB call_isi (by rfl) T.f_isinstance boot_isinstance (pa_cons (pv 0) (pa_cons (pe_glob (v := .ref (He.ga K "Listener")) (by rfl) T.g_Listener rfl) pa_nil)))) pe_nev (pe_c T.c_first_of hr (by decide) (by rfl) (pa_cons (pv 0) pa_nil)))))), ?_⟩
  rintro ds R ⟨p, hp, rfl, rfl⟩
  have nM : PySem.W.kitOne K (.ref (He.ga K "Speller")) (.ref (He.ga K "Machine")) = some false := of_decide_eq_true T.x7
  have nL : PySem.W.kitOne K (.ref (He.ga K "Speller")) (.ref (He.ga K "Listener")) = some false := of_decide_eq_true T.x8
  
  walk_at "ad"
  refine k_isSpl T nM ?_
  walk_at "ad"
  refine k_isSpl T nL ?_
  walk_at "ad"
  refine ⟨_, ⟨p, hp, rfl, rfl⟩, ?_⟩
  rintro _ rfl
  walk_at "ad"
  rfl

abbrev N_step_on : List Str := ["teller", "stand", "letter"]
theorem sc_step_on : FnScope N_step_on ["teller", "stand", "letter"] (defScope s_step_on) := ⟨rfl, rfl, rfl, by decide +kernel, rfl, by decide +kernel, by decide +kernel⟩
theorem Tx.c_step_on {w : World} {K : PySem.W.Frag} {mg : Str → Option Value} {base : Heap} (T : Tx K mg) : Cal P0 w K mg base 6 "step_on" (spF (G_step_on K)) [] := by
  refine mkCal (k := 5) T.d_step_on T.g_step_on sc_step_on (fun _ _ _ _ _ _ us hl => match us, hl with | [_, _, _], _ => rfl) (by intro ds R h; obtain ⟨p, t, c, hp, rfl, rfl⟩ := h; rfl) fun cdv A outer s H E hr => ?_
  have nd := sc_step_on.nd
  refine ⟨_, (pss_cons (ps_if (pt_val (pe_callB call_isi (by rfl) T.f_isinstance boot_isinstance (pa_cons (pv 0) (pa_cons (pe_glob (v := .ref (He.ga K "Machine")) (by rfl) T.g_Machine rfl) pa_nil)))) (pss_one ps_never) pss_nil)
  (pss_one (ps_ret (pe_ifExp (pt_val (pe_callB call_isi (by rfl) T.f_isinstance boot_isinstance (pa_cons (pv 0) (pa_cons (pe_glob (v := .ref (He.ga K "Listener")) (by rfl) T.g_Listener rfl) pa_nil)))) pe_nev (pe_c T.c_step_of hr (by decide) (by rfl) (pa_cons (pv 0) (pa_cons (pv 1) (pa_cons (pv 2) pa_nil)))))))), ?_⟩
  rintro ds R ⟨p, t, c, hp, rfl, rfl⟩
  have nM : PySem.W.kitOne K (.ref (He.ga K "Speller")) (.ref (He.ga K "Machine")) = some false := of_decide_eq_true T.x7
  have nL : PySem.W.kitOne K (.ref (He.ga K "Speller")) (.ref (He.ga K "Listener")) = some false := of_decide_eq_true T.x8
  
  walk_at "ad"
  refine k_isSpl T nM ?_
  walk_at "ad"
  refine k_isSpl T nL ?_
  walk_at "ad"
  refine ⟨_, ⟨p, t, c, hp, rfl, rfl⟩, ?_⟩
  rintro _ rfl
  walk_at "ad"
  rfl

abbrev N_least_total : List Str := ["speller", "here", "found", "at", "word", "own", "total"]
theorem sc_least_total : FnScope N_least_total ["speller", "here"] (defScope s_least_total) := ⟨rfl, rfl, rfl, by decide +kernel, rfl, by decide +kernel, by decide +kernel⟩
theorem Tx.c_least_total {w : World} {K : PySem.W.Frag} {mg : Str → Option Value} {base : Heap} (T : Tx K mg) : Cal P0 w K mg base 3 "least_total" (spF (G_least_total K)) [] := by
  refine mkCal (k := 2) T.d_least_total T.g_least_total sc_least_total (fun _ _ _ _ _ _ us hl => match us, hl with | [_, _], _ => rfl) (by intro ds R h; obtain ⟨p, t, hp, rfl, rfl⟩ := h; rfl) fun cdv A outer s H E hr => ?_
  have nd := sc_least_total.nd
  refine ⟨_, (pss_cons (ps_set (i := 2) nd rfl (by first | exact Or.inl rfl | exact Or.inr rfl) (pe_lst pa_nil))
  (pss_cons (ps_for PassesOwn.never rfl (pi_enumT (by rfl) T.f_enumerate (pa_cons (pe_P T.pr_entries (pv 0) hr (by decide)) pa_nil)) (pg_tup rfl (pgs_cons (pg_name (i := 3) nd rfl (by first | exact Or.inl rfl | exact Or.inr rfl)) (pgs_cons (pg_tup rfl (pgs_cons (pg_name (i := 4) nd rfl (by first | exact Or.inl rfl | exact Or.inr rfl)) (pgs_cons (pg_name (i := 5) nd rfl (by first | exact Or.inl rfl | exact Or.inr rfl)) pgs_nil))) pgs_nil))) (pss_one (ps_expr (pe_bm PySem.F.plainAttrs_list PySem.F.slot_list_append PySem.F.type_list_append mt_append (pv 2) (pa_cons (pe_tup (pa_cons (pe_op op_add (pe_ix ix_tup (pe_ix ix_tup (pv 1) (pv 3) (fun _ _ => rfl)) (pe_un un_neg pe_int) (fun _ _ => rfl)) (pv 5)) (pa_cons (pv 3) (pa_cons (pv 4) pa_nil)))) pa_nil)))))
  (pss_cons (ps_if (pt_cmpR (op_eqD hr.units) (pv 2) (pe_lst pa_nil) (nomark _)) (pss_one (ps_ret pe_non)) pss_nil)
  (pss_cons (ps_asg (pe_callB (call_minTr rfl hr.units) (by rfl) T.f_min boot_min (pa_cons (pv 2) pa_nil)) (pg_tup rfl (pgs_cons (pg_name (i := 6) nd rfl (by first | exact Or.inl rfl | exact Or.inr rfl)) (pgs_cons (pg_name (i := 3) nd rfl (by first | exact Or.inl rfl | exact Or.inr rfl)) (pgs_cons (pg_name (i := 4) nd rfl (by first | exact Or.inl rfl | exact Or.inr rfl)) pgs_nil)))))
  (pss_one (ps_ret (pe_tup (pa_cons (pv 6) (pa_cons (pv 4) pa_nil))))))))), ?_⟩
  rintro ds R ⟨p, t, hp, rfl, rfl⟩
  have hlen := hp.len
  walk_at "ad"
  rename_i a
  refine xs_forS (js := [3] ++ (([4] ++ ([5] ++ [])) ++ [])) (fun i ρ μ => ∃ x3 x4 x5 x6 : Option D, ρ = [some (splD K p), some (rowD (row p t)), some (.ref a), x3, x4, x5, x6] ∧ μ = [(a, .lst ((trips p.es (vt p t) i).map tD))]) ?_
  walk_at "ad"
  refine ⟨⟨_, List.Sublist.refl _, none, none, none, none, rfl, rfl⟩, ?_, ?_⟩
  · intro i d ρ' μ' hd hI
    obtain ⟨x3, x4, x5, x6, rfl, rfl⟩ := hI
    obtain ⟨e, he, rfl⟩ := en_at hd
    have hi := (List.getElem?_eq_some_iff.mp he).1
    have hl : ((trips p.es (vt p t) i).map tD).length < 100000 := by
      rw [List.length_map, trips_len]
      omega
    have i1 := row_at (t := t) he
    have i2 : L2.atI (dI (wrow p.sl e.1 t)) (-(1 : Int)) = some (.int (wv p.sl e.1 t e.1.length)) := by
      rw [atI_last (by rw [dI_len, wrow_len]; omega), dI_len, wrow_len]
      exact dI_at (wrow_at (Nat.le_refl _))
    walk_at "ad"
    rw [trips_succ p.es (vt p t) he, List.map_append]
    exact ⟨_, List.Sublist.refl _, _, _, _, _, rfl, rfl⟩
  · intro ρ' μ' hI
    obtain ⟨x3, x4, x5, x6, rfl, rfl⟩ := hI
    rw [enD_len, List.length_map]
    walk_at "ad"
    refine r_eqL0 (i := 0) (j := 1) rfl rfl (n := 1) (by decide) (deep_trips fun x hx => ?_) ?_
    · obtain ⟨i, e, he, rfl⟩ := trips_mem hx
      exact (hp.low e (List.mem_of_getElem? he)).2.2
    cases hes : p.es with
    | nil =>
      walk_at "ad"
      exact .inl ⟨rfl, rfl⟩
    | cons e0 es =>
      obtain ⟨x, l, hl⟩ : ∃ x l, trips p.es (vt p t) p.es.length = x :: l := by
        cases q : trips p.es (vt p t) p.es.length with
        | nil =>
          have q2 := congrArg List.length q
          rw [trips_len, hes] at q2
          simp at q2
        | cons x l => exact ⟨x, l, rfl⟩
      rw [← hes, hl]
      walk_at "ad"
      refine k_minTr (j := 0) (x := x) (l := l) rfl fun m m1 m2 => ?_
      walk_at "ad"
      rw [← hl] at m1 m2
      obtain ⟨k, e, he, rfl⟩ := trips_mem m1
      refine .inr ⟨e, ⟨k, he, fun j f hf => ?_⟩, rfl⟩
      have q := m2 _ (trips_in (val := vt p t) hf)
      unfold Tlt at q
      simp only [not_or, not_and] at q
      obtain ⟨q1, q2⟩ := q
      by_cases h : vt p t f = vt p t e
      · have := (q2 h).1
        exact .inr ⟨h.symm, by omega⟩
      · exact .inl (by omega)

abbrev N_word_of : List Str := ["speller", "stand", "found"]
theorem sc_word_of : FnScope N_word_of ["speller", "stand"] (defScope s_word_of) := ⟨rfl, rfl, rfl, by decide +kernel, rfl, by decide +kernel, by decide +kernel⟩
theorem Tx.c_word_of {w : World} {K : PySem.W.Frag} {mg : Str → Option Value} {base : Heap} (T : Tx K mg) : Cal P0 w K mg base 4 "word_of" (spF (G_word_of K)) [] := by
  refine mkCal (k := 3) T.d_word_of T.g_word_of sc_word_of (fun _ _ _ _ _ _ us hl => match us, hl with | [_, _], _ => rfl) (by intro ds R h; obtain ⟨p, t, hp, rfl, rfl⟩ := h; rfl) fun cdv A outer s H E hr => ?_
  have nd := sc_word_of.nd
  refine ⟨_, (pss_cons (ps_set (i := 2) nd rfl (by first | exact Or.inl rfl | exact Or.inr rfl) (pe_c T.c_least_total hr (by decide) (by rfl) (pa_cons (pv 0) (pa_cons (pe_ix ix_tup (pv 1) pe_int (fun _ _ => rfl)) pa_nil))))
  (pss_one (ps_ret (pe_ifExp (pt_cmpR op_isN (pv 2) pe_non (nomark _)) pe_non (pe_ix ix_tup (pv 2) pe_int (fun _ _ => rfl)))))), ?_⟩
  rintro ds R ⟨p, t, hp, rfl, rfl⟩
  walk_at "ad"
  refine ⟨_, ⟨p, t, hp, by rw [sta_1], rfl⟩, ?_⟩
  intro d hd
  walk_at "ad"
  rcases hd with ⟨h1, rfl⟩ | ⟨e, h1, rfl⟩
  · walk_at "ad"
    exact .inl ⟨h1, rfl⟩
  · walk_at "ad"
    exact .inr ⟨e, h1, rfl⟩

abbrev N_answer_at : List Str := ["teller", "stand"]
theorem sc_answer_at : FnScope N_answer_at ["teller", "stand"] (defScope s_answer_at) := ⟨rfl, rfl, rfl, by decide +kernel, rfl, by decide +kernel, by decide +kernel⟩
theorem Tx.c_answer_at {w : World} {K : PySem.W.Frag} {mg : Str → Option Value} {base : Heap} (T : Tx K mg) : Cal P0 w K mg base 5 "answer_at" (spF (G_answer_at K)) [] := by
  refine mkCal (k := 4) T.d_answer_at T.g_answer_at sc_answer_at (fun _ _ _ _ _ _ us hl => match us, hl with | [_, _], _ => rfl) (by intro ds R h; obtain ⟨p, t, hp, rfl, rfl⟩ := h; rfl) fun cdv A outer s H E hr => ?_
  have nd := sc_answer_at.nd
  refine ⟨_, (pss_cons (ps_if (pt_val (pe_callB call_isi (by rfl) T.f_isinstance boot_isinstance (pa_cons (pv 0) (pa_cons (pe_glob (v := .ref (He.ga K "Machine")) (by rfl) T.g_Machine rfl) pa_nil)))) (pss_one ps_never) pss_nil)
  (pss_one (ps_ret (pe_ifExp (pt_val (pe_callB call_isi (by rfl) T.f_isinstance boot_isinstance (pa_cons (pv 0) (pa_cons (pe_glob (v := .ref (He.ga K "Listener")) (by rfl) T.g_Listener rfl) pa_nil)))) pe_nev (pe_c T.c_word_of hr (by decide) (by rfl) (pa_cons (pv 0) (pa_cons (pv 1) pa_nil))))))), ?_⟩
  rintro ds R ⟨p, t, hp, rfl, rfl⟩
  have nM : PySem.W.kitOne K (.ref (He.ga K "Speller")) (.ref (He.ga K "Machine")) = some false := of_decide_eq_true T.x7
  have nL : PySem.W.kitOne K (.ref (He.ga K "Speller")) (.ref (He.ga K "Listener")) = some false := of_decide_eq_true T.x8
  
  walk_at "ad"
  refine k_isSpl T nM ?_
  walk_at "ad"
  refine k_isSpl T nL ?_
  walk_at "ad"
  refine ⟨_, ⟨p, t, hp, rfl, rfl⟩, ?_⟩
  intro d hd
  walk_at "ad"
  exact hd

end MW
end
section
open MW L2
/-! A dict whose keys are nested tuples, all values True. -/
namespace MW
open PySem PySem.Spec PyProof.Rows L2
mutual
/-- the value is such a key, by what is tracked -/
inductive NkV (H : Hp) : NestedKey → V → Prop
  | non : NkV H .none .non
  | int (i : Int) : NkV H (.num i) (.int i)
  | str (x : Str) : NkV H (.text x) (.str x)
  | tup {a : Addr} {xs : List V} {ks : List NestedKey} : H a = some (.tup xs) → NkVs H ks xs → NkV H (.tup ks) (.ref a)
inductive NkVs (H : Hp) : List NestedKey → List V → Prop
  | nil : NkVs H [] []
  | cons {k : NestedKey} {ks : List NestedKey} {v : V} {vs : List V} : NkV H k v → NkVs H ks vs → NkVs H (k :: ks) (v :: vs)
end
mutual
theorem NkV.mono {H H' : Hp} (p : Pst H H') : ∀ (k : NestedKey) (v : V), NkV H k v → NkV H' k v
  | .none, _, h => by cases h; exact .non
  | .num _, _, h => by cases h; exact .int _
  | .text _, _, h => by cases h; exact .str _
  | .tup ks, _, h => by
    cases h with
    | tup h1 h2 => exact .tup (p _ _ trivial h1) (NkVs.mono p ks _ h2)
theorem NkVs.mono {H H' : Hp} (p : Pst H H') : ∀ (ks : List NestedKey) (vs : List V), NkVs H ks vs → NkVs H' ks vs
  | [], _, h => by cases h; exact .nil
  | k :: ks, _, h => by
    cases h with
    | cons h1 h2 => exact .cons (NkV.mono p k _ h1) (NkVs.mono p ks _ h2)
end
section
variable {X : Cx} {pins : List (Addr × Obj)} {σ : L2.St} {H : Hp} {s : Shared}
mutual
theorem NkV.real (I : Inv X pins σ H s) : ∀ (k : NestedKey) (v : V) (u : Value), NkV H k v → RelV v u → NestedIs s.heap k u
  | .none, _, _, h, r => by
    cases h
    cases (show _ = Value.none from r)
    exact .none
  | .num _, _, _, h, r => by
    cases h
    obtain ⟨t, rfl⟩ := r
    exact .int _ t
  | .text _, _, _, h, r => by
    cases h
    obtain ⟨t, rfl⟩ := r
    exact .text _ t
  | .tup ks, _, u, h, r => by
    cases h with
    | @tup a xs _ h1 h2 =>
      obtain rfl : u = Value.ref a := r
      obtain ⟨its, rv, ⟨o, ho, hc, n, hd⟩, _⟩ := I.tuple (show SqT X.K H a xs from SqT.of h1)
      exact .tup ho hc hd (NkVs.real I ks xs its h2 rv)
theorem NkVs.real (I : Inv X pins σ H s) : ∀ (ks : List NestedKey) (vs : List V) (us : List Value), NkVs H ks vs → Vals vs us → NestedAll s.heap ks us
  | [], _, _, h, r => by
    cases h
    cases r
    exact .nil
  | k :: ks, _, _, h, r => by
    cases h with
    | cons h1 h2 =>
      cases r with
      | cons r1 r2 => exact .cons (NkV.real I k _ _ h1 r1) (NkVs.real I ks _ _ h2 r2)
end
end
abbrev Kx := NestedKey × Addr
def kxs (xs : List Kx) : List (NestedKey × Addr × Value) := xs.map fun x => (x.1, x.2, .bool true)
def KdP (P : Program) (w : World) (d : Addr) (xs : List Kx) (h : Heap) : Prop := (d == sysModules) = false ∧ ∃ o es ep, h.get? d = some o ∧ o.ExactDict ∧ o.data = .dict es ep ∧ es.toList = (kxs xs).map (entryOfKey (nestedKind P w)) ∧ (xs.map (·.1)).Nodup
def KdO (P : Program) (w : World) (d : Addr) (xs : List Kx) : HO := .ext (KdP P w d xs)
theorem kxs_fst (xs : List Kx) : (kxs xs).map (·.1) = xs.map (·.1) := by
  unfold kxs
  rw [List.map_map]
  rfl
section
variable {P : Program} {w : World}
theorem KdP.ok {H : Hp} {h : Heap} {d : Addr} {xs : List Kx} (k : KdP P w d xs h) : ObjOk P w H h d (KdO P w d xs) := by
  obtain ⟨h1, o, es, ep, ho, r⟩ := id k
  exact ⟨k, ⟨o, ho⟩, fun h1 h2 ⟨p1, o, es, ep, p2, p3⟩ q => ⟨p1, o, es, ep, q _ p2, p3⟩⟩
theorem KdP.of {h : Heap} {d : Addr} {xs : List Kx} (hd : (d == sysModules) = false) (m : h.DictOfH (nestedKind P w) d (kxs xs)) : KdP P w d xs h := by
  obtain ⟨o, es, ep, h1, h2, h3, h4, h5, h6⟩ := m
  exact ⟨hd, o, es, ep, h1, h2, h3, h4, by rw [← kxs_fst]; exact h6⟩
/-- every key stands -/
def KdK (H : Hp) (xs : List Kx) : Prop := ∀ x ∈ xs, NkV H x.1 (.ref x.2) ∧ x.1.depth ≤ 8
end
section
variable {X : Cx} {pins : List (Addr × Obj)} {σ : L2.St} {H : Hp} {s : Shared}
theorem kd_real {d : Addr} {xs : List Kx} (I : Inv X pins σ H s) (e : H d = some (KdO X.prog X.w d xs)) (hk : KdK H xs) : (d == sysModules) = false ∧ s.heap.DictOfH (nestedKind X.prog X.w) d (kxs xs) := by
  obtain ⟨h0, o, es, ep, h1, h2, h3, h4, h5⟩ := (I.hok d _ e).1
  refine ⟨h0, o, es, ep, h1, h2, h3, h4, fun x hx => ?_, by rw [kxs_fst]; exact h5⟩
  obtain ⟨y, hy, rfl⟩ := List.mem_map.mp hx
  obtain ⟨g1, g2⟩ := hk y hy
  exact ⟨NkV.real I _ _ _ g1 rfl, g2⟩
theorem atKey_kxs (xs : List Kx) (k : NestedKey) : (atKey (kxs xs) k).isSome = xs.any fun x => decide (x.1 = k) := by
  induction xs with
  | nil => rfl
  | cons x xs ih =>
    unfold kxs at ih ⊢
    unfold atKey at ih ⊢
    simp only [List.map_cons, List.find?_cons, List.any_cons]
    by_cases h : x.1 = k
    · simp [h]
    · simp [h]
      simpa using ih
def rNotInKd (P : Program) (w : World) : R2 := fun x y H Q => ∃ k d xs, y = .ref d ∧ NkV H k x ∧ (∃ a, x = .ref a) ∧ k.depth ≤ 8 ∧ H d = some (KdO P w d xs) ∧ KdK H xs ∧ Q (.bl (!xs.any fun z => decide (z.1 = k))) H
theorem op_notInKd (hu : X.A.units + 64 < cLine) : OpR X (compareOp .NotIn) (rNotInKd X.prog X.w) := by
  intro pins s σ H x y v u Q I rx ry h
  obtain ⟨k, d, xs, rfl, hk, ⟨a, rfl⟩, hd, e, kk, q⟩ := h
  cases rx
  cases ry
  obtain ⟨h0, hm⟩ := kd_real I e kk
  show wpAny _ _ (do return Value.bool (!(← contains (.ref d) (.ref a)))) _ _ s
  refine wpAny_bind (wpAny_contains_heap (knd := nestedKind X.prog X.w) (by show X.A.in1.units + 8 < cLine; rw [Around.in1_units]; omega) ⟨NkV.real I _ _ _ hk rfl, hd⟩ h0 hm (wpAny_pure ?_))
  rw [atKey_kxs]
  exact ⟨.bl (!xs.any fun z => decide (z.1 = k)), H, I.tok _, rfl, q⟩
def rSetKd (P : Program) (w : World) : TSet := fun o i v H Q => ∃ k a d xs, o = .ref d ∧ i = .ref a ∧ v = .bl true ∧ NkV H k (.ref a) ∧ k.depth ≤ 8 ∧ H d = some (KdO P w d xs) ∧ KdK H xs ∧ (xs.any fun z => decide (z.1 = k)) = false ∧ xs.length ≤ 100000 ∧ Q (upd H d (KdO P w d (xs ++ [(k, a)])))
theorem set_kd (hu : X.A.units + 64 < cLine) : PSet X (rSetKd X.prog X.w) := by
  intro pins s σ H o i v ov iv u Q I ro ri rv h
  obtain ⟨k, a, d, xs, rfl, rfl, rfl, hk, hd, e, kk, hn, hz, q⟩ := h
  cases ro
  cases ri
  cases rv
  obtain ⟨h0, hm⟩ := kd_real I e kk
  have hnone : atKey (kxs xs) k = none := by
    rw [← Option.not_isSome_iff_eq_none, atKey_kxs, hn]
    exact Bool.false_ne_true
  refine wpAny_setItem_heap (knd := nestedKind X.prog X.w) (hsz := by unfold kxs; rw [List.length_map]; exact Nat.le_trans hz (by decide)) (by show X.A.in1.units + 8 < cLine; rw [Around.in1_units]; omega) ⟨NkV.real I _ _ _ hk rfl, hd⟩ hm fun h' hm' hs => ?_
  rw [storedH_new hnone] at hm'
  have hm2 : h'.DictOfH (nestedKind X.prog X.w) d (kxs (xs ++ [(k, a)])) := by
    unfold kxs at hm' ⊢
    rw [List.map_append]
    exact hm'
  have he : ∃ q, h'.get? d = some q := let ⟨q, _, _, hq, _⟩ := hm2; ⟨q, hq⟩
  exact ⟨_, d_write I (by rw [e]; exact True.intro) hs he (KdP.ok (KdP.of h0 hm2)), q⟩
/-- {k: True} -/
def tKd1 (P : Program) (w : World) (tk : TE) : TE := fun σ H Q => ∀ p, H p = none → tk σ (upd H p (KdO P w p [])) fun x H1 => H1 p = some (KdO P w p []) ∧ ∃ k a, x = .ref a ∧ NkV H1 k x ∧ k.depth ≤ 8 ∧ Q (.ref p) (upd H1 p (KdO P w p [(k, a)]))
theorem kd_empty {P : Program} {w : World} {H : Hp} (h : Heap) (hb : (h.objs.size == sysModules) = false) : KdP P w h.objs.size [] (h.push { cls := .type "dict", data := .dict #[] }) :=
  KdP.of hb (Heap.DictOfH.new h)
theorem pe_kd1 {pos bp : Pos} {kx : Nat} {e : Expr} {tk : TE} (hu : X.A.units + 64 < cLine) (hk : PE X e tk) : PE X (.Dict [some e] [.Constant (.bool true) kx bp] pos) (tKd1 X.prog X.w tk) := by
  refine ⟨fun pins s σ H Q I h => ?_⟩
  have hn := I.hok.fresh (Nat.le_refl s.heap.objs.size)
  have hbig : (s.heap.objs.size == sysModules) = false := (dk_empty (P := X.prog) (w := X.w) (H := upd H s.heap.objs.size (.dK [])) s.heap I.big).2.1
  have I1 := I.laid (a := s.heap.objs.size) (o := KdO X.prog X.w s.heap.objs.size []) (h' := s.heap.push { cls := .type "dict", data := .dict #[] }) (t' := s.toks) (fun _ _ q => Heap.get?_push_of_some _ q) (Nat.le_refl _) (KdP.ok (kd_empty (H := H) s.heap hbig))
  rw [arm_eval_Dict, show (evalEachOpt [some e] X.env).zip ((evalEach [.Constant (.bool true) kx bp] X.env).map fun v => do let x ← v; standAt pos; pure x) = (pairTrees [some e] [.Constant (.bool true) kx bp] X.env pos).map (fun p => (some p.1, p.2)) from zip_pairTrees _ _ _ _ rfl rfl, dictDisplay_pairs (pairTrees [some e] [.Constant (.bool true) kx bp] X.env pos) (by intro z; cases z) (by show 1 < 17; decide)]
  refine wpAny_bind (wpAny_standAt (wpAny_bind (wpAny_subDictH (knd := nestedKind X.prog X.w) (by show X.A.units + 8 < cLine; omega) (by show 1 ≤ 15; decide) ?_)))
  refine pairTrees_cons_walk (thn (hk.run pins _ σ _ _ I1 (h _ hn)) fun u s1 ⟨x, H1, I2, rx, e1, k, a, ex, hk1, hd, q⟩ => ?_)
  subst ex
  obtain rfl : u = Value.ref a := rx
  refine thn ((pe_bl (b := true) (j := kx) (pos := bp)).run pins s1 σ H1 (fun v H2 => v = .bl true ∧ H2 = H1) I2 ⟨rfl, rfl⟩) fun w2 s2 ⟨y, H2, I3, ry, ey, eH⟩ => ?_
  subst ey eH
  obtain rfl : w2 = Value.bool true := ry
  refine pairTrees_nil_walk ?_
  obtain ⟨h0, hm⟩ := kd_real I3 e1 (fun x hx => by cases hx)
  refine ⟨[(k, a, .bool true)], ⟨rfl, rfl, ⟨NkV.real I3 _ _ _ hk1 rfl, hd⟩, trivial⟩, hm, fun h' tk m' hs => wpAny_pure ?_⟩
  have m2 : h'.DictOfH (nestedKind X.prog X.w) s.heap.objs.size (kxs [(k, a)]) := m'
  have he : ∃ q, h'.get? s.heap.objs.size = some q := let ⟨q, _, _, hq, _⟩ := m2; ⟨q, hq⟩
  exact ⟨.ref s.heap.objs.size, _, d_write I3 (by rw [e1]; exact True.intro) hs he (KdP.ok (KdP.of h0 m2)), rfl, q⟩
end
/-! ### on data -/
mutual
def D.nk : D → NestedKey
  | .int i => .num i
  | .str x => .text x
  | .tup ds => .tup (D.nks ds)
  | _ => .none
def D.nks : List D → List NestedKey
  | [] => []
  | d :: ds => D.nk d :: D.nks ds
end
mutual
/-- ints, texts, None, tuples of such -/
def D.isK : D → Prop
  | .non => True
  | .int _ => True
  | .str _ => True
  | .tup ds => D.isKs ds
  | _ => False
def D.isKs : List D → Prop
  | [] => True
  | d :: ds => D.isK d ∧ D.isKs ds
end
mutual
theorem Rep.nk {H : Hp} : ∀ (d : D) (v : V), D.isK d → Rep H d v → NkV H (D.nk d) v
  | .non, v, _, r => by
    have e : v = .non := r
    subst e
    unfold D.nk
    exact .non
  | .int i, v, _, r => by
    have e : v = .int i := r
    subst e
    unfold D.nk
    exact .int i
  | .str x, v, _, r => by
    have e : v = .str x := r
    subst e
    unfold D.nk
    exact .str x
  | .tup ds, v, h, r => by
    obtain ⟨a, vs, rfl, ha, rs⟩ := r
    unfold D.isK at h
    unfold D.nk
    exact .tup ha (Reps.nk ds vs h rs)
  | .bl _, _, h, _ => by
    unfold D.isK at h
    exact h.elim
  | .ref _, _, h, _ => by
    unfold D.isK at h
    exact h.elim
  | .ty _, _, h, _ => by
    unfold D.isK at h
    exact h.elim
  | .lst _, _, h, _ => by
    unfold D.isK at h
    exact h.elim
  | .dic _ _, _, h, _ => by
    unfold D.isK at h
    exact h.elim
  | .ins _ _ _, _, h, _ => by
    unfold D.isK at h
    exact h.elim
theorem Reps.nk {H : Hp} : ∀ (ds : List D) (vs : List V), D.isKs ds → Reps H ds vs → NkVs H (D.nks ds) vs
  | [], vs, _, r => by
    have e : vs = [] := r
    subst e
    unfold D.nks
    exact .nil
  | d :: ds, vs, h, r => by
    obtain ⟨v, w, rfl, r1, r2⟩ := r
    unfold D.isKs at h
    unfold D.nks
    exact .cons (Rep.nk d v h.1 r1) (Reps.nk ds w h.2 r2)
end
section
variable {c : Cn} {ρ : Env2} {μ : Mu} {P : D → Mu → Prop} {Pg : Program} {w : World}
/-- the dict at a has the keys ks -/
abbrev kdM (Pg : Program) (w : World) (a : Addr) (ks : List NestedKey) : MO := .abs fun H => ∃ xs : List Kx, xs.map (·.1) = ks ∧ KdK H xs ∧ H a = some (KdO Pg w a xs)
theorem any_key (xs : List Kx) (k : NestedKey) : (xs.any fun z => decide (z.1 = k)) = decide (k ∈ xs.map (·.1)) := by
  induction xs with
  | nil => simp
  | cons x xs ih =>
    rw [List.any_cons, ih]
    by_cases h : x.1 = k
    · simp [h]
    · have h2 : ¬ k = x.1 := fun z => h z.symm
      simp [h, h2]
theorem KdK.mono {H H' : Hp} {xs : List Kx} (p : Pst H H') (h : KdK H xs) : KdK H' xs := fun x hx => ⟨NkV.mono p _ _ (h x hx).1, (h x hx).2⟩
theorem kd_at {H : Hp} {a : Addr} {ks : List NestedKey} {xs : List Kx} (e1 : xs.map (·.1) = ks) (e2 : KdK H xs) (e3 : H a = some (KdO Pg w a xs)) : At H a (kdM Pg w a ks) :=
  ⟨⟨xs, e1, e2, e3⟩, ⟨_, e3, fun z => z⟩, fun H1 H2 p q ⟨ys, f1, f2, f3⟩ => ⟨ys, f1, f2.mono p, by rw [← q]; exact f3⟩⟩
/-- k not in known -/
theorem r_notKd {d : D} {a : Addr} {j : Nat} {ks : List NestedKey} (hm : μ[j]? = some (a, kdM Pg w a ks)) (hd : D.isK d) (ht : ∃ ds, d = .tup ds) (h8 : (D.nk d).depth ≤ 8) (k : P (.bl (!decide (D.nk d ∈ ks))) μ) : RX c (rNotInKd Pg w) d (.ref a) μ P := fun ρ σ H v u Q S r1 r2 q => by
  have e2 : u = .ref a := r2
  subst e2
  obtain ⟨⟨xs, f1, f2, f3⟩, _⟩ := S.mu _ (List.mem_of_getElem? hm)
  obtain ⟨ds, rfl⟩ := ht
  have hn := Rep.nk _ v hd r1
  obtain ⟨b, vs, rfl, _⟩ := r1
  refine ⟨_, a, xs, rfl, hn, ⟨b, rfl⟩, h8, f3, f2, ?_⟩
  rw [any_key, f1]
  exact q _ H (.bl _) μ (Pst.refl H) rfl S k
/-- a store, by values -/
def SetX (c : Cn) (t : TSet) (o i d : D) (ρ : Env2) (μ : Mu) (K : Mu → Prop) : Prop :=
  ∀ (σ : L2.St) (H : Hp) (vo vi vd : V) (Q : Hp → Prop), Sat c ρ μ σ H → Rep H o vo → Rep H i vi → Rep H d vd → (∀ H' μ', Pst H H' → Sat c ρ μ' σ H' → K μ' → Q H') → t vo vi vd H Q
theorem g_sub {to ti : TE} {t : TSet} {d : D} {K : Env2 → Mu → Prop} (h : X c to ρ μ fun o μ1 => X c ti ρ μ1 fun i μ2 => SetX c t o i d ρ μ2 (K ρ)) : GX c (gSub to ti t) [] d ρ μ K := fun σ H v Q S r q =>
  h σ H _ S fun o H1 od μ1 p1 r1 S1 h1 => h1 σ H1 _ S1 fun i H2 id μ2 p2 r2 S2 h2 => h2 σ H2 o i v _ S2 (r1.mono p2) r2 (r.mono (p1.trans p2)) fun H3 μ3 p3 S3 k => q ρ μ3 σ H3 ((p1.trans p2).trans p3) S3 Only.refl k
/-- known[k] = True, k new -/
theorem s_setKd {d : D} {a : Addr} {j : Nat} {ks : List NestedKey} {K : Mu → Prop} (hm : μ[j]? = some (a, kdM Pg w a ks)) (hd : D.isK d) (ht : ∃ ds, d = .tup ds) (h8 : (D.nk d).depth ≤ 8) (hn : ¬ D.nk d ∈ ks) (hz : ks.length ≤ 100000) (k : K (μ.set j (a, kdM Pg w a (ks ++ [D.nk d])))) : SetX c (rSetKd Pg w) (.ref a) d (.bl true) ρ μ K := fun σ H vo vi vd Q S ro ri rd q => by
  have e1 : vo = .ref a := ro
  have e2 : vd = .bl true := rd
  subst e1 e2
  obtain ⟨⟨xs, f1, f2, f3⟩, _⟩ := S.mu _ (List.mem_of_getElem? hm)
  obtain ⟨ds, rfl⟩ := ht
  have hk := Rep.nk _ vi hd ri
  obtain ⟨b, vs, rfl, _⟩ := ri
  refine ⟨_, b, a, xs, rfl, rfl, rfl, hk, h8, f3, f2, ?_, ?_, ?_⟩
  · rw [any_key, f1]
    exact decide_eq_false hn
  · rw [← f1, List.length_map] at hz
    exact hz
  have P1 : Pst H (upd H a (KdO Pg w a (xs ++ [(D.nk (.tup ds), b)]))) := Pst.mut f3 fun z => z
  refine q _ _ P1 (S.put (m' := kdM Pg w a (ks ++ [D.nk (.tup ds)])) hm (kd_at (xs := xs ++ [(D.nk (.tup ds), b)]) (by rw [List.map_append, f1]; rfl) (fun x hx => ?_) upd_same)) k
  rcases List.mem_append.mp hx with hx | hx
  · exact f2.mono P1 x hx
  · rw [List.mem_singleton] at hx
    subst hx
    exact ⟨NkV.mono P1 _ _ hk, h8⟩
/-- {k: True} -/
theorem x_kd1 {te : TE} (h : ∀ p, X c te ρ (μ ++ [(p, kdM Pg w p [])]) fun d μ1 => ∃ j : Nat, μ1[j]? = some (p, kdM Pg w p []) ∧ D.isK d ∧ (∃ ds, d = .tup ds) ∧ (D.nk d).depth ≤ 8 ∧ P (.ref p) (μ1.set j (p, kdM Pg w p [D.nk d]))) : X c (tKd1 Pg w te) ρ μ P := fun σ H Q S q p hp => by
  refine h p σ _ _ (S.add hp (m := kdM Pg w p []) (kd_at (xs := []) rfl (fun x hx => by cases hx) upd_same)) fun v H1 d μ1 p1 r1 S1 ⟨j, hm, hd, ht, h8, k⟩ => ?_
  obtain ⟨⟨xs, f1, f2, f3⟩, _⟩ := S1.mu _ (List.mem_of_getElem? hm)
  have ex : xs = [] := List.map_eq_nil_iff.mp f1
  subst ex
  obtain ⟨ds, rfl⟩ := ht
  have hk := Rep.nk _ v hd r1
  obtain ⟨b, vs, rfl, _⟩ := r1
  refine ⟨f3, _, b, rfl, hk, h8, ?_⟩
  have P1 : Pst H1 (upd H1 p (KdO Pg w p [(D.nk (.tup ds), b)])) := Pst.mut f3 fun z => z
  refine q (.ref p) _ (.ref p) _ (((Pst.new hp).trans p1).trans P1) rfl (S1.put (m' := kdM Pg w p [D.nk (.tup ds)]) hm (kd_at (xs := [(D.nk (.tup ds), b)]) rfl (fun x hx => ?_) upd_same)) k
  rw [List.mem_singleton] at hx
  subst hx
  exact ⟨NkV.mono P1 _ _ hk, h8⟩
end
end MW
end
section
open MW L2
/-! Plain law: the next state, the walk by breadth. -/
namespace MW
theorem swp_snoc2 (s : Slp) (w t0 : List Nat) (l c j : Nat) : swp s w ((t0 ++ [l]) ++ [c]) ((t0 ++ [l]).length + 1) (j + 1) = match s.sw with
    | none => none
    | some p => if 1 ≤ j ∧ c = w.getD (j - 1) 0 ∧ l = w.getD j 0 ∧ c ≠ l then some p else none := by
  have len1 : (t0 ++ [l]).length = t0.length + 1 := by simp
  have g0 : ((t0 ++ [l]) ++ [c]).getD ((t0 ++ [l]).length + 1 - 1) 0 = c := by
    rw [Nat.add_sub_cancel]
    exact getD_last
  have g1 : ((t0 ++ [l]) ++ [c]).getD ((t0 ++ [l]).length + 1 - 2) 0 = l := by
    rw [getD_snoc (by omega), show (t0 ++ [l]).length + 1 - 2 = t0.length by omega]
    exact getD_last
  unfold swp
  cases s.sw with
  | none => rfl
  | some p =>
    simp only
    rw [g0, g1, len1]
    by_cases h : 1 ≤ j ∧ c = w.getD (j - 1) 0 ∧ l = w.getD j 0 ∧ c ≠ l
    · rw [if_pos h, if_pos ⟨by omega, by omega, h.2.1, h.2.2.1, h.2.2.2⟩]
    · rw [if_neg h, if_neg fun z => h ⟨by omega, z.2.2.1, z.2.2.2.1, z.2.2.2.2⟩]
theorem wrow_eq_wv {s : Slp} {w t u : List Nat} (h : wrow s w t = wrow s w u) {j : Nat} (hj : j ≤ w.length) : wv s w t j = wv s w u j := by
  have a := wrow_at (s := s) (t := t) hj
  have b := wrow_at (s := s) (t := u) hj
  rw [h, b] at a
  exact (Option.some.inj a).symm
theorem wrow_of_wv {s : Slp} {w t u : List Nat} (h : ∀ j, j ≤ w.length → wv s w t j = wv s w u j) : wrow s w t = wrow s w u := by
  unfold wrow
  refine List.map_congr_left fun j hj => ?_
  exact h j (by have := List.mem_range.mp hj; omega)
theorem wv_step (s : Slp) (w t : List Nat) (c j : Nat) : wv s w (t ++ [c]) (j + 1) = lmin ([wv s w t (j + 1), wv s w (t ++ [c]) j + s.mi, wv s w t j + (0 - s.ex) + sub s (w.getD j 0) c] ++
    match swp s w (t ++ [c]) (t.length + 1) (j + 1) with
    | none => []
    | some p => [pr s w t (t.length - 1) (j - 1) - s.ex * ((t.length - 1 : Nat) : Int) + p + 2 * (0 - s.ex)]) := wrow_step s w t c j
/-- the next state -/
theorem sta_next {p : Spl} {t u : List Nat} (h : sta p t = sta p u) (c : Nat) : sta p (t ++ [c]) = sta p (u ++ [c]) := by
  obtain ⟨ah, ls, e1, c1⟩ := sta_shape p t c
  obtain ⟨ah2, ls2, e2, c2⟩ := sta_shape p u c
  rw [e1, e2] at h
  simp only [Prod.mk.injEq] at h
  obtain ⟨hr, ha, hl⟩ := h
  have hrow : ∀ e ∈ p.es, wrow p.sl e.1 t = wrow p.sl e.1 u := fun e he => List.map_inj_left.mp hr e he
  have main : ∀ e ∈ p.es, ∀ j, j ≤ e.1.length → wv p.sl e.1 (t ++ [c]) j = wv p.sl e.1 (u ++ [c]) j := by
    intro e he j
    induction j with
    | zero =>
      intro hj
      rw [wv_step0, wv_step0]
      exact wrow_eq_wv (hrow e he) hj
    | succ j ih =>
      intro hj
      have i1 := wrow_eq_wv (hrow e he) hj
      have i2 := ih (by omega)
      have i3 := wrow_eq_wv (hrow e he) (j := j) (by omega)
      rw [wv_step, wv_step, i1, i2, i3]
      rcases c1 with ⟨a1, l1, n1⟩ | ⟨t0, l, x, rfl, a1, l1, x1⟩
      · rcases c2 with ⟨a2, l2, n2⟩ | ⟨u0, l', x', rfl, a2, l2, x2⟩
        · rw [n1 e he j hj, n2 e he j hj]
        · rw [l1, l2] at hl
          cases hl
      · rcases c2 with ⟨a2, l2, n2⟩ | ⟨u0, l', x', rfl, a2, l2, x2⟩
        · rw [l1, l2] at hl
          cases hl
        · rw [l1, l2] at hl
          have el : l = l' := (List.cons.inj hl).1
          subst el
          have hrow0 : wrow p.sl e.1 t0 = wrow p.sl e.1 u0 := by
            rw [a1, a2] at ha
            exact List.map_inj_left.mp ha e he
          rw [swp_snoc2, swp_snoc2, x1]
          simp only
          by_cases hc : 1 ≤ j ∧ c = e.1.getD (j - 1) 0 ∧ l = e.1.getD j 0 ∧ c ≠ l
          · rw [if_pos hc]
            have q := wrow_eq_wv hrow0 (j := j - 1) (by omega)
            unfold wv at q
            have t1 : (t0 ++ [l]).length - 1 = t0.length := by simp
            have u1 : (u0 ++ [l]).length - 1 = u0.length := by simp
            rw [t1, u1]
            have q1 : pr p.sl e.1 (t0 ++ [l]) t0.length (j - 1) = pr p.sl e.1 t0 t0.length (j - 1) := pr_cong _ _ _ _ fun i hi => getD_snoc hi
            have q2 : pr p.sl e.1 (u0 ++ [l]) u0.length (j - 1) = pr p.sl e.1 u0 u0.length (j - 1) := pr_cong _ _ _ _ fun i hi => getD_snoc hi
            rw [q1, q2, q]
          · rw [if_neg hc]
  have hrow2 : row p (t ++ [c]) = row p (u ++ [c]) := by
    unfold row
    exact List.map_congr_left fun e he => wrow_of_wv (main e he)
  rw [sta_snoc, sta_snoc, hrow2, hr]
/-! ### the walk by breadth -/
abbrev Tx0 := List Nat
/-- the texts found, at: the one that is gone on from, m: its letters that are done -/
structure Bfs (p : Spl) (sg : Tx0) (W : List Tx0) (a m : Nat) : Prop where
  nd : (W.map (sta p)).Nodup
  hd : W[0]? = some []
  over : ∀ t ∈ W, ∀ c ∈ t, c ∈ sg
  cl : ∀ (i : Nat) t, i < a → W[i]? = some t → ∀ c ∈ sg, ∃ t' ∈ W, sta p t' = sta p (t ++ [c]) ∧ t'.length ≤ t.length + 1
  cm : ∀ t, W[a]? = some t → ∀ c ∈ sg.take m, ∃ t' ∈ W, sta p t' = sta p (t ++ [c]) ∧ t'.length ≤ t.length + 1
  mono : ∀ (i j : Nat) t u, i ≤ j → W[i]? = some t → W[j]? = some u → t.length ≤ u.length
  bd : ∀ t, W[a]? = some t → ∀ u ∈ W, u.length ≤ t.length + 1
  len : ∀ (i : Nat) t, W[i]? = some t → t.length ≤ i
theorem Bfs.start (p : Spl) (sg : Tx0) : Bfs p sg [[]] 0 0 where
  nd := by simp
  hd := rfl
  over := fun t ht c hc => by
    rw [List.mem_singleton] at ht
    subst ht
    cases hc
  cl := fun i t hi => absurd hi (Nat.not_lt_zero _)
  cm := fun t _ c hc => by simp at hc
  mono := fun i j t u _ h1 h2 => by
    have e1 := List.mem_of_getElem? h1
    rw [List.mem_singleton] at e1
    subst e1
    exact Nat.zero_le _
  bd := fun t _ u hu => by
    rw [List.mem_singleton] at hu
    subst hu
    exact Nat.zero_le _
  len := fun i t h => by
    have e1 := List.mem_of_getElem? h
    rw [List.mem_singleton] at e1
    subst e1
    exact Nat.zero_le _
section
variable {p : Spl} {sg : Tx0} {W : List Tx0} {a m : Nat}
/-- a letter whose state is known -/
theorem Bfs.old (B : Bfs p sg W a m) {t : Tx0} {c : Nat} (ht : W[a]? = some t) (hc : sg[m]? = some c) (h : sta p (t ++ [c]) ∈ W.map (sta p)) : Bfs p sg W a (m + 1) := by
  refine { B with cm := fun t' ht' d hd => ?_ }
  rw [ht] at ht'
  cases ht'
  rw [List.take_succ, hc] at hd
  rcases List.mem_append.mp hd with hd | hd
  · exact B.cm t ht d hd
  · simp at hd
    subst hd
    obtain ⟨u, hu, e⟩ := List.mem_map.mp h
    exact ⟨u, hu, e, B.bd t ht u hu⟩
/-- .. whose state is new -/
theorem Bfs.new (B : Bfs p sg W a m) {t : Tx0} {c : Nat} (ht : W[a]? = some t) (hc : sg[m]? = some c) (h : sta p (t ++ [c]) ∉ W.map (sta p)) : Bfs p sg (W ++ [t ++ [c]]) a (m + 1) := by
  have ha := (List.getElem?_eq_some_iff.mp ht).1
  have at_ : ∀ (i : Nat) u, (W ++ [t ++ [c]])[i]? = some u → W[i]? = some u ∨ (i = W.length ∧ u = t ++ [c]) := fun i u h => by
    by_cases hi : i < W.length
    · rw [List.getElem?_append_left hi] at h
      exact .inl h
    · rw [List.getElem?_append_right (by omega)] at h
      by_cases hz : i - W.length = 0
      · rw [hz] at h
        simp at h
        exact .inr ⟨by omega, h.symm⟩
      · rw [List.getElem?_eq_none (by simp; omega)] at h
        cases h
  have in_ : ∀ u, u ∈ W → u ∈ W ++ [t ++ [c]] := fun u h => List.mem_append_left _ h
  refine ⟨?_, ?_, fun u hu d hd => ?_, fun i u hi hu d hd => ?_, fun u hu d hd => ?_, fun i j u v hij hu hv => ?_, fun u hu v hv => ?_, fun i u hu => ?_⟩
  · rw [List.map_append, List.nodup_append]
    refine ⟨B.nd, by simp, fun x hx y hy e => ?_⟩
    rw [List.map_cons, List.map_nil, List.mem_singleton] at hy
    subst hy
    subst e
    exact h hx
  · rw [List.getElem?_append_left (by omega)]
    exact B.hd
  · rcases List.mem_append.mp hu with hu | hu
    · exact B.over u hu d hd
    · rw [List.mem_singleton] at hu
      subst hu
      rcases List.mem_append.mp hd with hd | hd
      · exact B.over t (List.mem_of_getElem? ht) d hd
      · rw [List.mem_singleton] at hd
        subst hd
        exact List.mem_of_getElem? hc
  · rcases at_ i u hu with hu | ⟨hu, _⟩
    · obtain ⟨t', h1, h2⟩ := B.cl i u hi hu d hd
      exact ⟨t', in_ _ h1, h2⟩
    · omega
  · rcases at_ a u hu with hu | ⟨hu, _⟩
    · rw [ht] at hu
      cases hu
      rw [List.take_succ, hc] at hd
      rcases List.mem_append.mp hd with hd | hd
      · obtain ⟨t', h1, h2⟩ := B.cm t ht d hd
        exact ⟨t', in_ _ h1, h2⟩
      · simp at hd
        subst hd
        exact ⟨_, List.mem_append_right _ (List.mem_singleton.mpr rfl), rfl, by simp⟩
    · omega
  · rcases at_ i u hu with hu | ⟨hu, eu⟩
    · rcases at_ j v hv with hv | ⟨hv, ev⟩
      · exact B.mono i j u v hij hu hv
      · subst ev
        have := B.bd t ht u (List.mem_of_getElem? hu)
        simpa using this
    · rcases at_ j v hv with hv | ⟨hv, ev⟩
      · have := (List.getElem?_eq_some_iff.mp hv).1
        omega
      · rw [eu, ev]
        exact Nat.le_refl _
  · rcases at_ a u hu with hu | ⟨hu, _⟩
    · rw [ht] at hu
      cases hu
      rcases List.mem_append.mp hv with hv | hv
      · exact B.bd t ht v hv
      · rw [List.mem_singleton] at hv
        subst hv
        simp
    · omega
  · rcases at_ i u hu with hu | ⟨hu, eu⟩
    · exact B.len i u hu
    · have := B.len a t ht
      subst eu
      simp
      omega
/-- on to the next text -/
theorem Bfs.turn (B : Bfs p sg W a sg.length) {t : Tx0} (ht : W[a]? = some t) : Bfs p sg W (a + 1) 0 := by
  refine { B with cl := fun i u hi hu d hd => ?_, cm := fun u _ d hd => by simp at hd, bd := fun u hu v hv => ?_ }
  · by_cases h : i < a
    · exact B.cl i u h hu d hd
    · have e : i = a := by omega
      subst e
      rw [ht] at hu
      cases hu
      exact B.cm t ht d (by rw [List.take_length]; exact hd)
  · have h1 := B.bd t ht v hv
    have h2 := B.mono a (a + 1) t u (Nat.le_succ _) ht hu
    omega
/-- the end: every text has one of its state that is not longer -/
theorem Bfs.all (B : Bfs p sg W W.length 0) : ∀ u : Tx0, (∀ c ∈ u, c ∈ sg) → ∃ t ∈ W, sta p t = sta p u ∧ t.length ≤ u.length := by
  have key : ∀ (n : Nat) (u : Tx0), u.length = n → (∀ c ∈ u, c ∈ sg) → ∃ t ∈ W, sta p t = sta p u ∧ t.length ≤ u.length := by
    intro n
    induction n with
    | zero =>
      intro u hu _
      have e : u = [] := List.length_eq_zero_iff.mp hu
      subst e
      exact ⟨[], List.mem_of_getElem? B.hd, rfl, Nat.le_refl _⟩
    | succ n ih =>
      intro u hu ho
      obtain ⟨v, c, rfl⟩ : ∃ v c, u = v ++ [c] := ⟨u.dropLast, u.getLast (by intro e; rw [e] at hu; cases hu), (List.dropLast_concat_getLast _).symm⟩
      obtain ⟨t, h1, h2, h3⟩ := ih v (by simpa using hu) fun d hd => ho d (List.mem_append_left _ hd)
      obtain ⟨i, hi⟩ := List.getElem?_of_mem h1
      obtain ⟨t', k1, k2, k3⟩ := B.cl i t (List.getElem?_eq_some_iff.mp hi).1 hi c (ho c (List.mem_append_right _ (List.mem_singleton.mpr rfl)))
      refine ⟨t', k1, k2.trans (sta_next h2 c), ?_⟩
      rw [List.length_append, List.length_singleton]
      omega
  exact fun u => key u.length u rfl
end
/-- at most n states -/
def NotMany (p : Spl) (n : Nat) : Prop := ∀ L : List Tx0, (∀ t ∈ L, ∀ c ∈ t, c ∈ sgn p) → (L.map (sta p)).Nodup → L.length ≤ n
/-- texts that stand for all -/
structure Cover (p : Spl) (W : List Tx0) : Prop where
  nd : (W.map (sta p)).Nodup
  over : ∀ t ∈ W, ∀ c ∈ t, c ∈ sgn p
  all : ∀ u : Tx0, (∀ c ∈ u, c ∈ sgn p) → ∃ t ∈ W, sta p t = sta p u ∧ t.length ≤ u.length
  len : ∀ t ∈ W, t.length ≤ W.length
end MW
end
section
open MW L2
/-! Defs that raise; the walk's own exception. -/
namespace MW
open PySem PySem.Spec PyProof.Rows L2
open C8 (pe_c pe_gc Cal)
abbrev SpcX := List D → (D → Prop) → Prop → Prop
/-- a def that may raise the class at C (if Ex) -/
def spX (C : Addr) (G : SpcX) : Sp := fun vs H Q E => ∃ ds R Ex, Reps H ds vs ∧ G ds R Ex ∧ (∀ d v H', Same H H' → Rep H' d v → R d → Q v H') ∧ (Ex → ∀ o H', Same H H' → E (.ref C) o H')
theorem body_runX {C : Addr} {G : SpcX} {N : List Str} {vs : List V} {H : Hp} {Q : VK} {E : XK} {t : TS} (h : spX C G vs H Q E)
    (hb : ∀ ds R Ex, G ds R Ex → (Ex → ∀ o H', Same H H' → E (.ref C) o H') → XS ⟨[], H⟩ t (ds.map some ++ List.replicate (N.length - ds.length) none) [] { nx := fun _ _ => R .non, rt := fun d _ => R d }) : t { nx := fun _ H' => Q .non H', rt := Q } (start N vs) H := by
  obtain ⟨ds, R, Ex, rs, g, k, kx⟩ := h
  exact body_run (G := fun ds' R' => ds' = ds ∧ R' = R) (E := E) ⟨ds, R, rs, ⟨rfl, rfl⟩, k⟩ fun ds' R' ⟨e1, e2⟩ => by
    subst e1 e2
    exact hb _ _ Ex g kx
theorem okFX {P' : Program} {w : World} {K : PySem.W.Frag} {mg : Str → Option Value} {base : Heap} {x qual : Str} {params : Arguments} {body : List Stmt} {scope : Scope} {dvs : List V} {kws : List (Str × V)} {f : Addr} {fd : FuncData} {N ps : List Str} {k : Nat} {C : Addr} {G : SpcX}
    (F : FunD K x qual params body scope dvs kws f fd) (S : FnScope N ps scope) (len : ∀ ds R Ex, G ds R Ex → ds.length = ps.length)
    (hbody : ∀ (cdv : Value) (A : Around) (outer : List Env) (s : Shared) (H : Hp) (E : XK), Room k (A.deeper (envOfC qual scope s.heap.objs.size f cdv)) →
      ∃ t, PSs (cxOf (L2.CX P' w) P' w K mg base N qual scope f cdv A outer s H E) body t ∧ ∀ ds R Ex, G ds R Ex → (Ex → ∀ o H', Same H H' → E (.ref C) o H') → XS ⟨[], H⟩ t (ds.map some ++ List.replicate (N.length - ds.length) none) [] { nx := fun _ _ => R .non, rt := fun d _ => R d }) :
    FnOk P' w K mg base (L2.CX P' w) (k + 1) f fd ps (spX C G) := by
  refine F.ok S (fun vs H Q E h => ?_) fun cdv A outer s H vs Q E hr hsp => ?_
  · obtain ⟨ds, R, Ex, rs, g, _⟩ := h
    rw [rs.len, len ds R Ex g]
  · obtain ⟨t, h1, h2⟩ := hbody cdv A outer s H E hr
    exact ⟨t, h1, body_runX hsp h2⟩
/-- a def that may raise, by its name -/
structure CalX (P : Program) (w : World) (K : PySem.W.Frag) (mg : Str → Option Value) (base : Heap) (k : Nat) (x : Str) (sp : Sp) (dvs : List V) : Prop where
  ex : ∃ (f : Addr) (fd : FuncData) (ps : List Str) (ds : List Value), FnOk P w K mg base (L2.CX P w) k f fd ps sp ∧ mg x = some (.ref f) ∧ PySem.W.keepIn K (.ref f) = true ∧ Binds K fd ps ds ∧ Vals dvs ds
section
variable {w : World} {K : PySem.W.Frag} {mg : Str → Option Value} {base : Heap}
theorem mkCalX {x : Str} {st : Stmt} {N ps : List Str} {k : Nat} {C : Addr} {G : SpcX} {f : Addr} (hF : ∃ fd, FunD K x x (defArgs st) (defBody st) (defScope st) [] [] f fd) (hm : mg x = some (.ref f)) (S : FnScope N ps (defScope st)) (hb : BN x x st ps) (len : ∀ ds R Ex, G ds R Ex → ds.length = ps.length)
    (hbody : ∀ (cdv : Value) (A : Around) (outer : List Env) (s : Shared) (H : Hp) (E : XK), Room k (A.deeper (envOfC x (defScope st) s.heap.objs.size f cdv)) →
      ∃ t, PSs (cxOf (L2.CX P0 w) P0 w K mg base N x (defScope st) f cdv A outer s H E) (defBody st) t ∧ ∀ ds R Ex, G ds R Ex → (Ex → ∀ o H', Same H H' → E (.ref C) o H') → XS ⟨[], H⟩ t (ds.map some ++ List.replicate (N.length - ds.length) none) [] { nx := fun _ _ => R .non, rt := fun d _ => R d }) :
    CalX P0 w K mg base (k + 1) x (spX C G) [] := by
  obtain ⟨fd, F⟩ := hF
  exact ⟨f, fd, ps, [], okFX F S len hbody, hm, F.kp, F.bindsN hb, .nil⟩
end
section
variable {X : Cx} {k j : Nat} {x : Str} {sp : Sp} {dvs : List V} {e : Expr} {es : List Expr} {t : TA} {p pos : Pos}
/-- .. called where it does not raise -/
theorem pe_cX0 (c : CalX X.prog X.w X.K X.mg X.base k x sp dvs) (hr : Room j X.A) (hk : k ≤ j) (hg : Gl X x) (ha : PA X (e :: es) t)
    (hdb : (x == ("__debug__" : Str)) = false := by decide) (he : starEach (e :: es) X.env = (false, eval e X.env) :: starEach es X.env := by rfl) (hpl : (backTo pos (starEach es X.env)).any (·.1) = false := by rfl) :
    PE X (.Call (.Name x p) (e :: es) [] pos) (tCall sp dvs E0 t) := by
  obtain ⟨f, fd, ps, ds, F, hm, kp, b, d⟩ := c.ex
  exact pe_call F (hr.mono hk) hg hm kp b d passL ha hdb he hpl
/-- .. where it may -/
theorem pe_cX {W : WX} (c : CalX X.prog X.w X.K X.mg X.base k x sp []) (tk : Takes X W) (hr : Room j X.A) (hk : k ≤ j) (hg : Gl X x) (ha : PA X (e :: es) t)
    (hdb : (x == ("__debug__" : Str)) = false := by decide) (he : starEach (e :: es) X.env = (false, eval e X.env) :: starEach es X.env := by rfl) (hpl : (backTo pos (starEach es X.env)).any (·.1) = false := by rfl) :
    PE X (.Call (.Name x p) (e :: es) [] pos) (tCallS sp (WE W) t) := by
  obtain ⟨f, fd, ps, ds, F, hm, kp, b, d⟩ := c.ex
  cases d
  exact pe_callS F (hr.mono hk) hg hm kp b (fun σ => passAt tk σ) ha hdb he hpl
end
section
variable {c : Cn} {ρ : Env2} {μ : Mu} {P : D → Mu → Prop} {A : DA}
theorem x_cX0 {C : Addr} {G : SpcX} {dvs : List V} {ta : TA} (dd : List D) (hd : ∀ H, Reps H dd dvs) (h : AX c ta ρ μ fun ds μ1 => ∃ R Ex, G (ds ++ dd) R Ex ∧ ¬ Ex ∧ ∀ d, R d → P d μ1) : X c (tCall (spX C G) dvs E0 ta) ρ μ P := fun σ H Q S q =>
  h σ H _ S fun vs H1 ds μ1 p1 r1 S1 ⟨R, Ex, g, nx, k⟩ => ⟨ds ++ dd, R, Ex, r1.app (hd H1), g, fun d v H' sm r z => q v H' d μ1 (p1.trans (Pst.same sm)) r (S1.same sm) (k d z), fun z => absurd z nx⟩
theorem x_cX {C : Addr} {G : SpcX} {W : WX} {ta : TA} (h : AX c ta ρ μ fun ds μ1 => ∃ R Ex, G ds R Ex ∧ (∀ d, R d → P d μ1) ∧ (Ex → ∀ o σ H', Sat c ρ μ1 σ H' → W (.ref C) o σ H')) : X c (tCallS (spX C G) (WE W) ta) ρ μ P := fun σ H Q S q =>
  h σ H _ S fun vs H1 ds μ1 p1 r1 S1 ⟨R, Ex, g, k, kx⟩ => ⟨ds, R, Ex, r1, g, fun d v H' sm r z => q v H' d μ1 (p1.trans (Pst.same sm)) r (S1.same sm) (k d z), fun z o H' sm => kx z o σ H' (S1.same sm)⟩
/-- what TooMany's __init__ does -/
def spTM (C : Addr) : Sp := fun vs H Q _ => ∃ a y, vs = [.ref a, y] ∧ H a = some (exo a C none) ∧ ∀ dx, H dx = none → dx ≠ a → Q .non (upd (upd H dx (exd dx [("most", y)])) a (exo a C (some dx)))
structure TmOk (P : Program) (w : World) (K : PySem.W.Frag) (mg : Str → Option Value) (base : Heap) : Prop where
  ex : ∃ (f : Addr) (fd : FuncData), FnOk P w K mg base C8.CX0 1 f fd ["self", "most"] (spTM (He.ga K "TooMany")) ∧ Binds K fd ["self", "most"] [] ∧ PySem.W.findIn K (.ref (He.ga K "TooMany")) "__init__" = some (some (.ref f)) ∧ PySem.W.typeIn K (.ref f) = some (.type "function")
  oex : OexC K (He.ga K "TooMany")
  gm : mg "TooMany" = some (.ref (He.ga K "TooMany"))
theorem pmk_tm {X : Cx} {e : Expr} {ta : TA} {p pos : Pos} {j : Nat} (M : TmOk X.prog X.w X.K X.mg X.base) (hr : Room j X.A) (hj : 2 ≤ j) (hg : Gl X "TooMany") (ha : PA X [e] ta)
    (he : starEach [e] X.env = [(false, eval e X.env)] := by rfl) : PMk X (.Call (.Name "TooMany" p) [e] [] pos) (tMkO (He.ga X.K "TooMany") (spTM (He.ga X.K "TooMany")) [] ta) := by
  obtain ⟨f, fd, F, b, i1, i2⟩ := M.ex
  exact pmk_oex M.oex i1 i2 F (hr.mono hj) b .nil C8.pass0 hg M.gm ha (by decide) (by rw [he]; rfl) (by rfl)
/-- raise TooMany(e) -/
def tRz (C : Addr) (W : WX) (ta : TA) : TS := fun _ σ H => tMkO C (spTM C) [] ta σ H fun cls d H' => W cls d σ H'
theorem xs_rz {C : Addr} {W : WX} {ta : TA} (h : AX c ta ρ μ fun ds μ1 => ∃ d, ds = [d] ∧ ∀ o σ H', Sat c ρ μ1 σ H' → W (.ref C) o σ H') : XS c (tRz C W ta) ρ μ A := fun σ H E S k =>
  h σ H _ S fun vs H1 ds μ1 p1 r1 S1 ⟨d, ed, kx⟩ => by
    subst ed
    obtain ⟨v, r0, rfl, rv, rfl⟩ := r1
    refine ⟨(by decide : 1 ≤ 1000), fun a ha => ⟨a, v, rfl, upd_same, fun dx hdx hda => ⟨rfl, dx, [("most", v)], upd_same, ?_, ?_, ?_⟩⟩⟩
    · rw [upd_ne hda, upd_same]
    · rw [upd_ne hda] at hdx
      exact hdx
    · rw [upd_ne hda] at hdx
      refine kx _ _ _ (S1.same fun b o e => ?_)
      have hb1 : b ≠ dx := fun z => by
        rw [z, hdx] at e
        cases e
      have hb2 : b ≠ a := fun z => by
        rw [z, ha] at e
        cases e
      rw [upd_ne hb1, del_ne hb2, upd_ne hb2, upd_ne hb1, upd_ne hb2]
      exact e
/-! ### a, b = x, y | i += e -/
theorem xs_par {i j : Nat} {ta : TA} (h : AX c ta ρ μ fun ds μ1 => ∃ d1 d2, ds = [d1, d2] ∧ A.nx ((ρ.set i (some d1)).set j (some d2)) μ1) : XS c (tPar i j ta) ρ μ A := fun σ H E S k =>
  h σ H _ S fun vs H1 ds μ1 p1 r1 S1 ⟨d1, d2, ed, z⟩ => by
    subst ed
    obtain ⟨v, r0, rfl, rv, u, r2, rfl, ru, rfl⟩ := r1
    exact ⟨v, u, rfl, k.nx _ _ _ H1 p1 ((S1.set rv).set ru) z⟩
theorem xs_aug {i : Nat} {te : TE} {g : Int → Int → Int} (h : ∃ a : Int, ρ[i]? = some (some (.int a)) ∧ X c te ρ μ fun d μ1 => ∃ b : Int, d = .int b ∧ A.nx (ρ.set i (some (.int (g a b)))) μ1) : XS c (tAug i te (ipI g)) ρ μ A := fun σ H E S k => by
  obtain ⟨a, ea, h⟩ := h
  obtain ⟨v, e1, r1⟩ := S.env i _ ea
  refine ⟨v, e1, h σ H _ S fun u H1 d μ1 p1 ru S1 ⟨b, eb, z⟩ => ?_⟩
  subst eb
  have e2 : v = .int a := r1
  have e3 : u = .int b := ru
  exact ⟨a, b, e2, e3, k.nx _ _ _ H1 p1 (S1.set (d := .int (g a b)) rfl) z⟩
end
end MW
end
section
open MW L2
local macro_rules | `(tactic| walk_at "d1") => `(tactic| first
  | ((with_reducible refine x_varE ?_); refine ⟨_, rfl, ?_⟩)
  | with_reducible refine x_int ?_
  | with_reducible refine x_str ?_
  | with_reducible refine x_bl ?_
  | with_reducible refine x_non ?_
  | with_reducible refine x_ref ?_
  | with_reducible refine x_ty ?_
  | with_reducible refine x_op ?_
  | with_reducible refine x_un ?_
  | with_reducible refine a_nil ?_
  | with_reducible refine a_cons ?_
  | ((with_reducible refine x_tup ?_); walk_at "ad"; refine ⟨by first | exact (by decide) | (simp; done) | omega, ?_⟩)
  | ((with_reducible refine x_lst ?_); walk_at "ad"; refine ⟨by first | exact (by decide) | (simp; done) | omega, fun _ => ?_⟩)
  | with_reducible refine x_if ?_
  | with_reducible refine x_andV ?_
  | with_reducible refine x_orV ?_
  | with_reducible refine x_notV ?_
  | with_reducible refine t_test ?_
  | with_reducible refine t_B ?_
  | with_reducible refine t_yes ?_
  | with_reducible refine r_inS ?_
  | with_reducible refine r_notInS ?_
  | with_reducible refine t_and ?_
  | with_reducible refine t_or ?_
  | with_reducible refine t_not ?_
  | ((with_reducible refine x_fz ?_); walk_at "ad"; (first | refine ⟨_, _, 0, rfl, rfl, ?_⟩ | refine ⟨_, _, 1, rfl, rfl, ?_⟩ | refine ⟨_, _, 2, rfl, rfl, ?_⟩ | refine ⟨_, _, 3, rfl, rfl, ?_⟩))
  | with_reducible refine xs_seq ?_
  | with_reducible refine xs_next ?_
  | with_reducible refine xs_ret ?_
  | with_reducible refine xs_retN ?_
  | with_reducible refine xs_drop ?_
  | with_reducible apply xs_asg
  | with_reducible refine xs_if ?_
  | with_reducible refine g_name ?_
  | with_reducible refine gs_nil ?_
  | with_reducible apply gs_cons
  | ((with_reducible apply g_tup); exact rfl)
  | with_reducible refine x_chain ?_
  | with_reducible refine x_CB ?_
  | with_reducible refine x_call0 ?_
  | with_reducible refine x_sl ?_
  | with_reducible refine o_none ?_
  | with_reducible refine o_some ?_
  | ((with_reducible refine x_prop ?_); walk_at "ad"; refine ⟨_, _, _, rfl, rfl, ?_⟩)
  | with_reducible refine r_I0 ?_
  | with_reducible refine r_I0b ?_
  | with_reducible refine r_eqI ?_
  | with_reducible refine r_neI ?_
  | with_reducible refine r_eqS ?_
  | with_reducible refine r_neS ?_
  | with_reducible refine r_isN ?_
  | with_reducible refine r_notN ?_
  | with_reducible refine u_neg ?_
  | ((with_reducible refine r_ixTE ?_); first | refine ⟨_, ‹_›, ?_⟩ | refine ⟨_, rfl, ?_⟩)
  | ((with_reducible refine r_ixLE ?_); first | refine ⟨_, ‹_›, ?_⟩ | refine ⟨_, rfl, ?_⟩)
  | ((with_reducible refine k_isIE ?_); refine ⟨_, rfl, ?_⟩)
  | ((with_reducible refine k_isSE ?_); refine ⟨_, rfl, ?_⟩)
  | ((with_reducible refine k_isTE ?_); refine ⟨_, rfl, ?_⟩)
  | ((with_reducible refine x_BM ?_); walk_at "ad"; first | refine ⟨ty_lst (j := 0) rfl, ?_⟩ | refine ⟨ty_lst (j := 1) rfl, ?_⟩ | refine ⟨ty_lst (j := 2) rfl, ?_⟩ | refine ⟨ty_lst (j := 3) rfl, ?_⟩)
  | ((with_reducible refine m_appE ?_); (first | refine ⟨0, _, rfl, ?_, ?_⟩ | refine ⟨1, _, rfl, ?_, ?_⟩ | refine ⟨2, _, rfl, ?_, ?_⟩ | refine ⟨3, _, rfl, ?_, ?_⟩); (walk_at "len"))
  | ((with_reducible refine k_lenS ?_ ?_); (walk_at "len"))
  | ((with_reducible refine s_txt ?_ ?_); (walk_at "len"))
  | ((with_reducible refine r_ixSE ?_ ?_); (walk_at "len"); (first | refine ⟨_, ‹_›, ?_⟩ | refine ⟨_, rfl, ?_⟩))
  | with_reducible refine k_lenT ?_
  | with_reducible refine k_lenL ?_
  | ((with_reducible refine k_lenME ?_); (first | refine ⟨0, _, rfl, ?_⟩ | refine ⟨1, _, rfl, ?_⟩ | refine ⟨2, _, rfl, ?_⟩ | refine ⟨3, _, rfl, ?_⟩))
  | ((with_reducible refine r_ixME ?_); (first | refine ⟨0, _, _, rfl, ‹_›, ?_⟩ | refine ⟨1, _, _, rfl, ‹_›, ?_⟩ | refine ⟨2, _, _, rfl, ‹_›, ?_⟩ | refine ⟨0, _, _, rfl, rfl, ?_⟩ | refine ⟨1, _, _, rfl, rfl, ?_⟩ | refine ⟨2, _, _, rfl, rfl, ?_⟩ | refine ⟨3, _, _, rfl, rfl, ?_⟩))
  | ((with_reducible refine x_tupleM ?_); walk_at "ad"; (first | refine ⟨_, 0, _, rfl, rfl, ?_⟩ | refine ⟨_, 1, _, rfl, rfl, ?_⟩ | refine ⟨_, 2, _, rfl, rfl, ?_⟩ | refine ⟨_, 3, _, rfl, rfl, ?_⟩))
  | ((with_reducible refine r_neT0 (n := 0) ?_ ?_ ?_); exact (by decide); exact (deep_dI _ _))
  | ((with_reducible refine x_rev2 ?_); walk_at "ad"; refine ⟨_, _, rfl, ?_⟩)
  | with_reducible refine x_join ?_
  | with_reducible refine i_enumT ?_
  | with_reducible refine i_rng1 ?_
  | with_reducible refine i_rng2 ?_
  | with_reducible refine i_tup ?_
  | with_reducible refine i_lst ?_
  | with_reducible refine i_str ?_
  | refine ⟨_, rfl, ?_⟩
  | ((with_reducible refine brT ?_ ?_); (first | assumption | exact rfl | decide +kernel))
  | ((with_reducible refine brF ?_ ?_); (first | assumption | exact rfl | decide +kernel)))
local macro_rules | `(tactic| walk_at "len") => `(tactic| first | assumption | omega | ((simp only [List.length_append, List.length_cons, List.length_nil, List.length_map, List.length_set]) <;> omega) | (simp; done) | (simp; omega))
local macro_rules | `(tactic| walk_at "ad") => `(tactic| repeat (walk_at "d1"))
local macro_rules | `(tactic| walk_at "sub") => `(tactic| first | exact List.nil_sublist _ | exact List.Sublist.refl _ | (refine List.Sublist.cons₂ _ ?_; walk_at "sub") | (refine List.Sublist.cons _ ?_; walk_at "sub"))
/-! walks: the states by breadth. -/
namespace MW
open PySem PySem.Spec PyProof.Rows L2
open C8 (pe_c pe_gc Cal)
/-! ### states as keys -/
theorem nks_map (l : List D) : D.nks l = l.map D.nk := by
  induction l with
  | nil => rfl
  | cons d l ih =>
    unfold D.nks
    rw [ih]
    rfl
theorem isKs_of {l : List D} (h : ∀ d ∈ l, D.isK d) : D.isKs l := by
  induction l with
  | nil =>
    unfold D.isKs
    trivial
  | cons d l ih =>
    unfold D.isKs
    exact ⟨h d List.mem_cons_self, ih fun x hx => h x (List.mem_cons_of_mem _ hx)⟩
theorem dAll_le {n : Nat} {l : List D} (h : ∀ d ∈ l, (D.nk d).depth ≤ n) : NestedKey.depthAll (D.nks l) ≤ n := by
  induction l with
  | nil =>
    unfold D.nks NestedKey.depthAll
    omega
  | cons d l ih =>
    unfold D.nks NestedKey.depthAll
    have h1 := h d List.mem_cons_self
    have h2 := ih fun x hx => h x (List.mem_cons_of_mem _ hx)
    omega
theorem nk_tup (l : List D) : D.nk (.tup l) = .tup (D.nks l) := by
  unfold D.nk
  rfl
theorem depth_tup {n : Nat} {l : List D} (h : ∀ d ∈ l, (D.nk d).depth ≤ n) : (D.nk (.tup l)).depth ≤ n + 1 := by
  rw [nk_tup]
  unfold NestedKey.depth
  have := dAll_le h
  omega
theorem isK_tup {l : List D} (h : ∀ d ∈ l, D.isK d) : D.isK (.tup l) := by
  unfold D.isK
  exact isKs_of h
theorem isK_int (i : Int) : D.isK (.int i) := by
  unfold D.isK
  trivial
theorem isK_str (x : Str) : D.isK (.str x) := by
  unfold D.isK
  trivial
theorem depth_int (i : Int) : (D.nk (.int i)).depth ≤ 0 := by
  unfold D.nk NestedKey.depth
  exact Nat.le_refl _
theorem depth_str (x : Str) : (D.nk (.str x)).depth ≤ 2 := by
  unfold D.nk NestedKey.depth
  exact Nat.zero_le _
theorem isK_dI (l : List Int) : D.isK (.tup (dI l)) := isK_tup fun d hd => by
  obtain ⟨i, _, rfl⟩ := List.mem_map.mp hd
  exact isK_int i
theorem isK_row (r : Row) : D.isK (rowD r) := isK_tup fun d hd => by
  obtain ⟨l, _, rfl⟩ := List.mem_map.mp hd
  exact isK_dI l
theorem isK_sta (s : Sta) : D.isK (staD s) := isK_tup fun d hd => by
  rcases List.mem_cons.mp hd with rfl | hd
  · exact isK_row _
  rcases List.mem_cons.mp hd with rfl | hd
  · exact isK_row _
  rcases List.mem_cons.mp hd with rfl | hd
  · exact isK_str _
  · cases hd
theorem depth_row (r : Row) : (D.nk (rowD r)).depth ≤ 2 := depth_tup (n := 1) fun d hd => by
  obtain ⟨l, _, rfl⟩ := List.mem_map.mp hd
  exact depth_tup (n := 0) fun d hd => by
    obtain ⟨i, _, rfl⟩ := List.mem_map.mp hd
    exact depth_int i
theorem depth_sta (s : Sta) : (D.nk (staD s)).depth ≤ 8 := Nat.le_trans (depth_tup (n := 2) fun d hd => by
  rcases List.mem_cons.mp hd with rfl | hd
  · exact depth_row _
  rcases List.mem_cons.mp hd with rfl | hd
  · exact depth_row _
  rcases List.mem_cons.mp hd with rfl | hd
  · exact depth_str _
  · cases hd) (by decide)
theorem nk_intI {i j : Int} (h : D.nk (.int i) = D.nk (.int j)) : i = j := by
  unfold D.nk at h
  exact NestedKey.num.inj h
theorem map_inj2 {α β : Type} {f : α → β} (hf : ∀ a b, f a = f b → a = b) : ∀ {l m : List α}, l.map f = m.map f → l = m
  | [], [], _ => rfl
  | [], _ :: _, h => by cases h
  | _ :: _, [], h => by cases h
  | a :: l, b :: m, h => by
    rw [List.map_cons, List.map_cons, List.cons.injEq] at h
    rw [hf a b h.1, map_inj2 hf h.2]
theorem nk_tupI {α : Type} {f : α → D} (hf : ∀ a b, D.nk (f a) = D.nk (f b) → a = b) {l m : List α} (h : D.nk (.tup (l.map f)) = D.nk (.tup (m.map f))) : l = m := by
  rw [nk_tup, nk_tup, nks_map, nks_map, List.map_map, List.map_map] at h
  exact map_inj2 hf (NestedKey.tup.inj h)
theorem nk_row {r r' : Row} (h : D.nk (rowD r) = D.nk (rowD r')) : r = r' := nk_tupI (f := fun l : List Int => D.tup (dI l)) (fun _ _ z => nk_tupI (f := D.int) (fun _ _ z => nk_intI z) z) h
theorem nk_sta {s s' : Sta} (h : D.nk (staD s) = D.nk (staD s')) : s = s' := by
  rw [nk_tup, nk_tup, nks_map, nks_map] at h
  have h1 := NestedKey.tup.inj h
  simp only [List.map_cons, List.map_nil, List.cons.injEq, and_true] at h1
  obtain ⟨a, b, c⟩ := h1
  have c2 : tx s.2.2 = tx s'.2.2 := by
    unfold D.nk at c
    exact NestedKey.text.inj c
  obtain ⟨x, y, z⟩ := s
  obtain ⟨x', y', z'⟩ := s'
  have e1 : x = x' := nk_row a
  have e2 : y = y' := nk_row b
  have e3 : z = z' := tx_inj c2
  rw [e1, e2, e3]
/-! ### the promise -/
abbrev itD (p : Spl) (t : Wd) : D := .tup [staD (sta p t), .str (tx t)]
abbrev kyS (p : Spl) (t : Wd) : NestedKey := D.nk (staD (sta p t))
theorem ky_mem {p : Spl} {u : Wd} {W : List Wd} : kyS p u ∈ W.map (kyS p) ↔ sta p u ∈ W.map (sta p) := by
  rw [List.mem_map, List.mem_map]
  exact ⟨fun ⟨t, h, e⟩ => ⟨t, h, nk_sta e⟩, fun ⟨t, h, e⟩ => ⟨t, h, by unfold kyS; rw [e]⟩⟩
def G_walks (K : PySem.W.Frag) : SpcX := fun ds R Ex => ∃ (p : Spl) (n : Nat), OkP p ∧ 1 ≤ n ∧ n ≤ 20000 ∧ ds = [splD K p, .int n] ∧ (R = fun d => ∃ W, d = .lst (W.map (itD p)) ∧ Cover p W ∧ W.length ≤ n) ∧ Ex = ¬ NotMany p n
theorem many_of {p : Spl} {W : List Wd} {a m : Nat} (B : Bfs p (sgn p) W a m) : ¬ NotMany p (W.length - 1) ∨ W = [] := by
  by_cases h : W = []
  · exact .inr h
  · refine .inl fun z => ?_
    have := z W B.over B.nd
    have hl : 0 < W.length := List.length_pos_iff.mpr h
    omega
abbrev N_walks : List Str := ["teller", "most", "found", "tried", "known", "at", "stand", "text", "letter", "goal"]
theorem sc_walks : FnScope N_walks ["teller", "most"] (defScope s_walks) := ⟨rfl, rfl, rfl, by decide +kernel, rfl, by decide +kernel, by decide +kernel⟩
theorem Tx.c_walks {w : World} {K : PySem.W.Frag} {mg : Str → Option Value} {base : Heap} (T : Tx K mg) (M : TmOk P0 w K mg base) : CalX P0 w K mg base 10 "walks" (spX (He.ga K "TooMany") (G_walks K)) [] := by
  refine mkCalX (k := 9) T.d_walks T.g_walks sc_walks (fun _ _ _ _ _ _ us hl => match us, hl with | [_, _], _ => rfl) (by intro ds R Ex h; obtain ⟨p, n, hp, hn1, hn2, rfl, hR, rfl⟩ := h; rfl) fun cdv A outer s H E hr => ?_
  have nd := sc_walks.nd
  refine ⟨_, (pss_cons (ps_par (i := 2) (j := 3) rfl nd rfl rfl (by decide) rfl rfl (pa_cons (pe_lst (pa_cons (pe_tup (pa_cons (pe_c T.c_first_state hr (by decide) (by rfl) (pa_cons (pv 0) pa_nil)) (pa_cons pe_str pa_nil))) pa_nil)) (pa_cons (pe_c T.c_signs hr (by decide) (by rfl) (pa_cons (pv 0) pa_nil)) pa_nil)) (by rfl))
  (pss_cons (ps_par (i := 4) (j := 5) rfl nd rfl rfl (by decide) rfl rfl (pa_cons (pe_kd1 hr.units (pe_ix ix_tup (pe_ix ix_list (pv 2) pe_int (fun _ _ => rfl)) pe_int (fun _ _ => rfl))) (pa_cons pe_int pa_nil)) (by rfl))
  (pss_cons (ps_while (passes_of rfl) (pt_cmpR op_lt (pv 5) (pe_callB call_len_seq (by rfl) T.f_len boot_len (pa_cons (pv 2) pa_nil)) (nomark _)) (pss_cons (ps_asg (pe_ix ix_list (pv 2) (pv 5) (fun _ _ => rfl)) (pg_tup rfl (pgs_cons (pg_name (i := 6) nd rfl (by first | exact Or.inl rfl | exact Or.inr rfl)) (pgs_cons (pg_name (i := 7) nd rfl (by first | exact Or.inl rfl | exact Or.inr rfl)) pgs_nil))))
  (pss_cons (ps_for (passes_of rfl) rfl (pi_str (pv 3)) (pg_name (i := 8) nd rfl (by first | exact Or.inl rfl | exact Or.inr rfl)) (pss_cons (ps_set (i := 9) nd rfl (by first | exact Or.inl rfl | exact Or.inr rfl) (pe_c T.c_step_on hr (by decide) (by rfl) (pa_cons (pv 0) (pa_cons (pv 6) (pa_cons (pv 8) pa_nil)))))
  (pss_one (ps_if (pt_cmpR (op_notInKd hr.units) (pv 9) (pv 4) (by rfl)) (pss_cons (ps_if (pt_cmpR op_eq (pe_callB call_len_seq (by rfl) T.f_len boot_len (pa_cons (pv 2) pa_nil)) (pv 1) (nomark _)) (pss_one (ps_raise (W := fun cls d _ H => E cls d H) rfl (takes_of rfl rfl rfl rfl) (pmk_tm M hr (by decide) (by rfl) (pa_cons (pv 1) pa_nil)))) pss_nil)
  (pss_cons (ps_asg pe_bl (pg_sub (pv 4) (pv 9) (set_kd hr.units)))
  (pss_one (ps_expr (pe_bm PySem.F.plainAttrs_list PySem.F.slot_list_append PySem.F.type_list_append mt_append (pv 2) (pa_cons (pe_tup (pa_cons (pv 9) (pa_cons (pe_op op_add_str (pv 7) (pv 8)) pa_nil))) pa_nil)))))) pss_nil))))
  (pss_one (ps_aug (i := 5) nd rfl (by first | exact Or.inl rfl | exact Or.inr rfl) pe_int ip_add)))))
  (pss_one (ps_ret (pe_fz (pv 2))))))), ?_⟩
  intro ds R Ex hG kx
  obtain ⟨p, n, hp, hn1, hn2, rfl, hR, rfl⟩ := hG
  subst hR
  walk_at "ad"
  refine xs_par ?_
  walk_at "ad"
  refine x_lst ?_
  refine a_cons ?_
  refine x_tup ?_
  walk_at "ad"
  refine ⟨_, ⟨p, hp, rfl, rfl⟩, ?_⟩
  rintro _ rfl
  walk_at "ad"
  refine ⟨by simp, ?_⟩
  walk_at "ad"
  refine ⟨by simp, fun fa => ?_⟩
  walk_at "ad"
  refine ⟨_, ⟨p, hp, rfl, rfl⟩, ?_⟩
  rintro _ rfl
  walk_at "ad"
  refine ⟨_, _, rfl, ?_⟩
  walk_at "ad"
  refine xs_par ?_
  walk_at "ad"
  refine x_kd1 fun ka => ?_
  walk_at "ad"
  refine ⟨1, rfl, isK_sta _, ⟨_, rfl⟩, depth_sta _, ?_⟩
  walk_at "ad"
  refine ⟨_, _, rfl, ?_⟩
  walk_at "ad"
  refine xs_whileS (fun m ρ μ => ∃ (W : List Wd) (a : Nat) (x6 x7 x8 x9 : Option D), m = n - a ∧ Bfs p (sgn p) W a 0 ∧ a ≤ W.length ∧ W.length ≤ n ∧ ρ = [some (splD K p), some (.int n), some (.ref fa), some (.str (tx (sgn p))), some (.ref ka), some (.int (a : Nat)), x6, x7, x8, x9] ∧ μ = [(fa, .lst (W.map (itD p))), (ka, kdM P0 w ka (W.map (kyS p)))]) n ⟨[[]], 0, none, none, none, none, rfl, Bfs.start _ _, Nat.zero_le _, hn1, rfl, rfl⟩ fun m ρ' μ' hI => ?_
  obtain ⟨W, a, x6, x7, x8, x9, rfl, B, ha, hW, rfl, rfl⟩ := hI
  walk_at "ad"
  rw [List.length_map]
  refine brD (fun hlt => ?_) (fun hge => ?_)
  · obtain ⟨t, ht⟩ : ∃ t, W[a]? = some t := ⟨_, List.getElem?_eq_getElem (by omega)⟩
    have i1 : L2.atI (W.map (itD p)) ((a : Nat) : Int) = some (itD p t) := by
      rw [atI_nat, List.getElem?_map, ht]
      rfl
    have tl := B.len a t ht
    walk_at "ad"
    refine xs_forS (js := [8]) (fun i ρ μ => ∃ (W : List Wd) (x8 x9 : Option D), Bfs p (sgn p) W a i ∧ W[a]? = some t ∧ W.length ≤ n ∧ ρ = [some (splD K p), some (.int n), some (.ref fa), some (.str (tx (sgn p))), some (.ref ka), some (.int (a : Nat)), some (staD (sta p t)), some (.str (tx t)), x8, x9] ∧ μ = [(fa, .lst (W.map (itD p))), (ka, kdM P0 w ka (W.map (kyS p)))]) ?_
    walk_at "ad"
    refine ⟨⟨_, List.Sublist.refl _, W, x8, x9, B, ht, hW, rfl, rfl⟩, ?_, ?_⟩
    · intro i d ρ' μ' hd hI
      obtain ⟨W, x8, x9, B, ht, hW, rfl, rfl⟩ := hI
      obtain ⟨c, hc, rfl⟩ : ∃ c, (sgn p)[i]? = some c ∧ d = .str (tx [c]) := by
        unfold sgs at hd
        rw [List.getElem?_map] at hd
        cases q : (sgn p)[i]? with
        | none =>
          rw [q] at hd
          cases hd
        | some c =>
          rw [q] at hd
          exact ⟨c, rfl, (Option.some.inj hd).symm⟩
      walk_at "ad"
      refine ⟨_, ⟨p, t, c, hp, rfl, rfl⟩, ?_⟩
      rintro _ rfl
      walk_at "ad"
      refine r_notKd (j := 1) rfl (isK_sta _) ⟨_, rfl⟩ (depth_sta _) ?_
      walk_at "ad"
      refine brN (fun hnew => ?_) (fun hold => ?_)
      · have hnew2 : sta p (t ++ [c]) ∉ W.map (sta p) := fun z => hnew (ky_mem.mpr z)
        have B2 := B.new ht hc hnew2
        walk_at "ad"
        rw [List.length_map]
        refine brD (fun heq => ?_) (fun hne => ?_)
        · walk_at "ad"
          refine xs_rz ?_
          walk_at "ad"
          refine fun o σ H' S' => kx (fun z => ?_) o H' fun b u e => S'.fr b u (by simp) e
          have := z _ B2.over B2.nd
          rw [List.length_append, List.length_singleton] at this
          omega
        · walk_at "ad"
          refine g_sub ?_
          walk_at "ad"
          refine s_setKd (j := 1) rfl (isK_sta _) ⟨_, rfl⟩ (depth_sta _) hnew (by rw [List.length_map]; omega) ?_
          walk_at "ad"
          refine x_tup ?_
          walk_at "ad"
          refine r_addS (by show t.length + 1 ≤ 100000; omega) ?_
          walk_at "ad"
          refine ⟨by simp, ?_⟩
          walk_at "ad"
          refine ⟨_, List.Sublist.refl _, W ++ [t ++ [c]], _, _, B2, ?_, ?_, rfl, ?_⟩
          · rw [List.getElem?_append_left (List.getElem?_eq_some_iff.mp ht).1]
            exact ht
          · rw [List.length_append, List.length_singleton]
            omega
          · rw [List.map_append, List.map_append]
            rfl
      · have hold2 : sta p (t ++ [c]) ∈ W.map (sta p) := ky_mem.mp hold
        have B2 := B.old ht hc hold2
        walk_at "ad"
        exact ⟨_, List.Sublist.refl _, W, _, _, B2, ht, hW, rfl, rfl⟩
    · intro ρ' μ' hI
      obtain ⟨W, x8, x9, B, ht, hW, rfl, rfl⟩ := hI
      have el : (sgs (sgn p)).length = (sgn p).length := by
        unfold sgs
        rw [List.length_map]
      rw [el] at B
      have hl2 := (List.getElem?_eq_some_iff.mp ht).1
      refine xs_aug ⟨_, rfl, ?_⟩
      walk_at "ad"
      exact ⟨_, n - (a + 1), List.Sublist.refl _, by omega, W, a + 1, _, _, _, _, rfl, B.turn ht, by omega, hW, rfl, rfl⟩
  · have ea : a = W.length := by omega
    rw [ea] at B
    walk_at "ad"
    exact ⟨⟨B.nd, B.over, B.all, fun t ht => by
      obtain ⟨i, hi⟩ := List.getElem?_of_mem ht
      have h1 := B.len i t hi
      have h2 := (List.getElem?_eq_some_iff.mp hi).1
      omega⟩, hW⟩

end MW
end
section
open MW L2
local macro_rules | `(tactic| walk_at "d1") => `(tactic| first
  | ((with_reducible refine x_varE ?_); refine ⟨_, rfl, ?_⟩)
  | with_reducible refine x_int ?_
  | with_reducible refine x_str ?_
  | with_reducible refine x_bl ?_
  | with_reducible refine x_non ?_
  | with_reducible refine x_ref ?_
  | with_reducible refine x_ty ?_
  | with_reducible refine x_op ?_
  | with_reducible refine x_un ?_
  | with_reducible refine a_nil ?_
  | with_reducible refine a_cons ?_
  | ((with_reducible refine x_tup ?_); walk_at "ad"; refine ⟨by first | exact (by decide) | (simp; done) | omega, ?_⟩)
  | ((with_reducible refine x_lst ?_); walk_at "ad"; refine ⟨by first | exact (by decide) | (simp; done) | omega, fun _ => ?_⟩)
  | with_reducible refine x_if ?_
  | with_reducible refine x_andV ?_
  | with_reducible refine x_orV ?_
  | with_reducible refine x_notV ?_
  | with_reducible refine t_test ?_
  | with_reducible refine t_B ?_
  | with_reducible refine t_yes ?_
  | with_reducible refine r_inS ?_
  | with_reducible refine r_notInS ?_
  | with_reducible refine t_and ?_
  | with_reducible refine t_or ?_
  | with_reducible refine t_not ?_
  | ((with_reducible refine x_fz ?_); walk_at "ad"; (first | refine ⟨_, _, 0, rfl, rfl, ?_⟩ | refine ⟨_, _, 1, rfl, rfl, ?_⟩ | refine ⟨_, _, 2, rfl, rfl, ?_⟩ | refine ⟨_, _, 3, rfl, rfl, ?_⟩))
  | with_reducible refine xs_seq ?_
  | with_reducible refine xs_next ?_
  | with_reducible refine xs_ret ?_
  | with_reducible refine xs_retN ?_
  | with_reducible refine xs_drop ?_
  | with_reducible apply xs_asg
  | with_reducible refine xs_if ?_
  | with_reducible refine g_name ?_
  | with_reducible refine gs_nil ?_
  | with_reducible apply gs_cons
  | ((with_reducible apply g_tup); exact rfl)
  | with_reducible refine x_chain ?_
  | with_reducible refine x_CB ?_
  | with_reducible refine x_call0 ?_
  | with_reducible refine x_sl ?_
  | with_reducible refine o_none ?_
  | with_reducible refine o_some ?_
  | ((with_reducible refine x_prop ?_); walk_at "ad"; refine ⟨_, _, _, rfl, rfl, ?_⟩)
  | with_reducible refine r_I0 ?_
  | with_reducible refine r_I0b ?_
  | with_reducible refine r_eqI ?_
  | with_reducible refine r_neI ?_
  | with_reducible refine r_eqS ?_
  | with_reducible refine r_neS ?_
  | with_reducible refine r_isN ?_
  | with_reducible refine r_notN ?_
  | with_reducible refine u_neg ?_
  | ((with_reducible refine r_ixTE ?_); first | refine ⟨_, ‹_›, ?_⟩ | refine ⟨_, rfl, ?_⟩)
  | ((with_reducible refine r_ixLE ?_); first | refine ⟨_, ‹_›, ?_⟩ | refine ⟨_, rfl, ?_⟩)
  | ((with_reducible refine k_isIE ?_); refine ⟨_, rfl, ?_⟩)
  | ((with_reducible refine k_isSE ?_); refine ⟨_, rfl, ?_⟩)
  | ((with_reducible refine k_isTE ?_); refine ⟨_, rfl, ?_⟩)
  | ((with_reducible refine x_BM ?_); walk_at "ad"; first | refine ⟨ty_lst (j := 0) rfl, ?_⟩ | refine ⟨ty_lst (j := 1) rfl, ?_⟩ | refine ⟨ty_lst (j := 2) rfl, ?_⟩ | refine ⟨ty_lst (j := 3) rfl, ?_⟩)
  | ((with_reducible refine m_appE ?_); (first | refine ⟨0, _, rfl, ?_, ?_⟩ | refine ⟨1, _, rfl, ?_, ?_⟩ | refine ⟨2, _, rfl, ?_, ?_⟩ | refine ⟨3, _, rfl, ?_, ?_⟩); (walk_at "len"))
  | ((with_reducible refine k_lenS ?_ ?_); (walk_at "len"))
  | ((with_reducible refine s_txt ?_ ?_); (walk_at "len"))
  | ((with_reducible refine r_ixSE ?_ ?_); (walk_at "len"); (first | refine ⟨_, ‹_›, ?_⟩ | refine ⟨_, rfl, ?_⟩))
  | with_reducible refine k_lenT ?_
  | with_reducible refine k_lenL ?_
  | ((with_reducible refine k_lenME ?_); (first | refine ⟨0, _, rfl, ?_⟩ | refine ⟨1, _, rfl, ?_⟩ | refine ⟨2, _, rfl, ?_⟩ | refine ⟨3, _, rfl, ?_⟩))
  | ((with_reducible refine r_ixME ?_); (first | refine ⟨0, _, _, rfl, ‹_›, ?_⟩ | refine ⟨1, _, _, rfl, ‹_›, ?_⟩ | refine ⟨2, _, _, rfl, ‹_›, ?_⟩ | refine ⟨0, _, _, rfl, rfl, ?_⟩ | refine ⟨1, _, _, rfl, rfl, ?_⟩ | refine ⟨2, _, _, rfl, rfl, ?_⟩ | refine ⟨3, _, _, rfl, rfl, ?_⟩))
  | ((with_reducible refine x_tupleM ?_); walk_at "ad"; (first | refine ⟨_, 0, _, rfl, rfl, ?_⟩ | refine ⟨_, 1, _, rfl, rfl, ?_⟩ | refine ⟨_, 2, _, rfl, rfl, ?_⟩ | refine ⟨_, 3, _, rfl, rfl, ?_⟩))
  | ((with_reducible refine r_neT0 (n := 0) ?_ ?_ ?_); exact (by decide); exact (deep_dI _ _))
  | ((with_reducible refine x_rev2 ?_); walk_at "ad"; refine ⟨_, _, rfl, ?_⟩)
  | with_reducible refine x_join ?_
  | with_reducible refine i_enumT ?_
  | with_reducible refine i_rng1 ?_
  | with_reducible refine i_rng2 ?_
  | with_reducible refine i_tup ?_
  | with_reducible refine i_lst ?_
  | with_reducible refine i_str ?_
  | refine ⟨_, rfl, ?_⟩
  | ((with_reducible refine brT ?_ ?_); (first | assumption | exact rfl | decide +kernel))
  | ((with_reducible refine brF ?_ ?_); (first | assumption | exact rfl | decide +kernel)))
local macro_rules | `(tactic| walk_at "len") => `(tactic| first | assumption | omega | ((simp only [List.length_append, List.length_cons, List.length_nil, List.length_map, List.length_set]) <;> omega) | (simp; done) | (simp; omega))
local macro_rules | `(tactic| walk_at "ad") => `(tactic| repeat (walk_at "d1"))
local macro_rules | `(tactic| walk_at "sub") => `(tactic| first | exact List.nil_sublist _ | exact List.Sublist.refl _ | (refine List.Sublist.cons₂ _ ?_; walk_at "sub") | (refine List.Sublist.cons _ ?_; walk_at "sub"))
/-! Small defs: kinds, places. -/
namespace MW
open PySem PySem.Spec PyProof.Rows L2
open C8 (pe_c pe_gc Cal)
section
variable {c : Cn} {ρ : Env2} {μ : Mu} {P : D → Mu → Prop} {K : PySem.W.Frag}
abbrev txD (w : Wd) : D := .str (tx w)
theorem reps_txD {H : Hp} : ∀ {l : List Wd} {vs : List V}, Reps H (l.map txD) vs → vs = l.map fun w => V.str (tx w)
  | [], vs, h => h
  | i :: l, vs, h => by
    obtain ⟨v, r, rfl, rfl, h2⟩ := h
    rw [reps_txD h2]
    rfl
theorem eqV_str (a b : Wd) : eqV (.str (tx a)) (.str (tx b)) = decide (a = b) := by
  by_cases h : a = b
  · subst h
    simp [eqV]
  · have h2 : tx a ≠ tx b := fun z => h (tx_inj z)
    simp [eqV, h, h2]
theorem flat_txD (l : List Wd) : (l.map fun w => V.str (tx w)).all flatV = true := by
  rw [List.all_eq_true]
  intro v hv
  obtain ⟨w, _, rfl⟩ := List.mem_map.mp hv
  rfl
theorem inV_txD (x : Wd) (l : List Wd) : inV (.str (tx x)) (l.map fun w => V.str (tx w)) = decide (x ∈ l) := by
  unfold inV
  induction l with
  | nil => rfl
  | cons y l ih =>
    rw [List.map_cons, List.any_cons, ih, eqV_str]
    by_cases h : y = x
    · subst h
      simp
    · have h2 : ¬ x = y := fun z => h z.symm
      simp [h, h2]
/-- x in xs, texts -/
theorem r_inTs {neg : Bool} {a : Addr} {j : Nat} {l : List Wd} {x : Wd} (hm : μ[j]? = some (a, .lst (l.map txD))) (k : P (.bl (if neg then !decide (x ∈ l) else decide (x ∈ l))) μ) : RX c (rIn K neg) (.str (tx x)) (.ref a) μ P := fun ρ σ H v w Q S r1 r2 q => by
  have e1 : v = .str (tx x) := r1
  have e2 : w = .ref a := r2
  subst e1 e2
  obtain ⟨vs, hv, rs⟩ := S.mu _ (List.mem_of_getElem? hm)
  have e := reps_txD rs
  subst e
  refine ⟨a, _, rfl, .inl (SqL.of hv), rfl, flat_txD l, ?_⟩
  rw [inV_txD]
  exact q _ H (.bl _) μ (Pst.refl H) rfl S k
/-- xs.index(x), texts -/
theorem m_index {a : Addr} {j i : Nat} {l : List Wd} {x : Wd} (hm : μ[j]? = some (a, .lst (l.map txD))) (hi : l[i]? = some x) (hno : ∀ m, m < i → l[m]? ≠ some x) (k : P (.int (i : Nat)) μ) : MX c (rIndex K) (.ref a) [.str (tx x)] μ P := fun ρ σ H v vs Q S r1 r2 q => by
  have e1 : v = .ref a := r1
  obtain ⟨w, r0, rfl, rw_, rfl⟩ := r2
  have e2 : w = .str (tx x) := rw_
  subst e1 e2
  obtain ⟨ws, hv, rs⟩ := S.mu _ (List.mem_of_getElem? hm)
  have e := reps_txD rs
  subst e
  refine ⟨a, _, _, i, .str (tx x), rfl, rfl, SqL.of hv, rfl, flat_txD l, by rw [List.getElem?_map, hi]; rfl, by rw [eqV_str]; simp, fun m z hm2 hz => ?_, q _ H (.int (i : Nat)) μ (Pst.refl H) rfl S k⟩
  rw [List.getElem?_map] at hz
  cases hl : l[m]? with
  | none =>
    rw [hl] at hz
    cases hz
  | some y =>
    rw [hl] at hz
    have ez : V.str (tx y) = z := Option.some.inj hz
    subst ez
    rw [eqV_str]
    exact decide_eq_false fun e => hno m hm2 (by rw [hl, e])
/-- isinstance(x, (C, ..)) -/
theorem k_isiT {x : D} {cs : List D} {us : List Value} {t : Value} {b : Bool} (hc : ∀ H vs, Reps H cs vs → Paired ClsV vs us) (ht : ∀ H v, Rep H x v → TyX K H v t) (hk : PySem.W.kitAny K t us = some b) (k : P (.bl b) μ) : KX c (rIsiT K) [x, .tup cs] μ P := fun ρ σ H vs Q S r q => by
  obtain ⟨v, r0, rfl, rv, w, r1, rfl, rw_, rfl⟩ := r
  obtain ⟨tp, ws, rfl, hp, rs⟩ := rw_
  exact ⟨v, tp, ws, t, us, b, rfl, hp, hc H ws rs, ht H v rv, hk, q _ H (.bl b) μ (Pst.refl H) rfl S k⟩
end
def G_is_integer (_K : PySem.W.Frag) : Spc := fun ds R => ∃ i : Int, ds = [.int i] ∧ R = fun d => d = .bl true
def G_is_price (_K : PySem.W.Frag) : Spc := fun ds R => ∃ i : Int, 1 ≤ i ∧ i ≤ 9 ∧ ds = [.int i] ∧ R = fun d => d = .bl true
def G_is_word (_K : PySem.W.Frag) : Spc := fun ds R => ∃ w : Wd, w ≠ [] ∧ w.length ≤ 5 ∧ (∀ c ∈ w, c ∈ abc) ∧ ds = [.str (tx w)] ∧ R = fun d => d = .bl true
def G_is_own (_K : PySem.W.Frag) : Spc := fun ds R => ∃ i : Int, 0 ≤ i ∧ i ≤ 999 ∧ ds = [.int i] ∧ R = fun d => d = .bl true
def G_is_entry (_K : PySem.W.Frag) : Spc := fun ds R => ∃ e : List Nat × Int, e.1 ≠ [] ∧ e.1.length ≤ 5 ∧ (∀ c ∈ e.1, c ∈ abc) ∧ 0 ≤ e.2 ∧ e.2 ≤ 999 ∧ ds = [entD e] ∧ R = fun d => d = .bl true
def G_need_most (_K : PySem.W.Frag) : Spc := fun ds R => ∃ i : Int, 1 ≤ i ∧ i ≤ 20000 ∧ ds = [.int i] ∧ R = fun d => d = .non
def G_need_price (_K : PySem.W.Frag) : Spc := fun ds R => ∃ i : Int, 0 ≤ i ∧ i ≤ 9999 ∧ ds = [.int i] ∧ R = fun d => d = .non
def G_place_of (_K : PySem.W.Frag) : Spc := fun ds R => ∃ (es : List (List Nat × Int)) (e : List Nat × Int) (k : Nat), es.length ≤ 4 ∧ (es.map (·.1)).Nodup ∧ es[k]? = some e ∧ ds = [entsD es, .str (tx e.1)] ∧ R = fun d => d = .int (k : Nat)
abbrev N_is_integer : List Str := ["thing"]
theorem sc_is_integer : FnScope N_is_integer ["thing"] (defScope s_is_integer) := ⟨rfl, rfl, rfl, by decide +kernel, rfl, by decide +kernel, by decide +kernel⟩
theorem Tx.c_is_integer {w : World} {K : PySem.W.Frag} {mg : Str → Option Value} {base : Heap} (T : Tx K mg) : Cal P0 w K mg base 3 "is_integer" (spF (G_is_integer K)) [] := by
  refine mkCal (k := 2) T.d_is_integer T.g_is_integer sc_is_integer (fun _ _ _ _ _ _ us hl => match us, hl with | [_], _ => rfl) (by intro ds R h; obtain ⟨i, rfl, rfl⟩ := h; rfl) fun cdv A outer s H E hr => ?_
  have nd := sc_is_integer.nd
  refine ⟨_, (pss_one (ps_ret (pe_and (pe_callB call_isi (by rfl) T.f_isinstance boot_isinstance (pa_cons (pv 0) (pa_cons (pe_bltn (v := .ty "int") (u := .type "int") (by rfl) T.f_int (by decide +kernel) rfl) pa_nil))) (pe_one (pe_not (pe_callB call_isi (by rfl) T.f_isinstance boot_isinstance (pa_cons (pv 0) (pa_cons (pe_bltn (v := .ty "bool") (u := .type "bool") (by rfl) T.f_bool (by decide +kernel) rfl) pa_nil)))))))), ?_⟩
  rintro ds R ⟨i, rfl, rfl⟩
  walk_at "ad"
  show D.bl _ = D.bl true
  congr 1

abbrev N_is_price : List Str := ["thing"]
theorem sc_is_price : FnScope N_is_price ["thing"] (defScope s_is_price) := ⟨rfl, rfl, rfl, by decide +kernel, rfl, by decide +kernel, by decide +kernel⟩
theorem Tx.c_is_price {w : World} {K : PySem.W.Frag} {mg : Str → Option Value} {base : Heap} (T : Tx K mg) : Cal P0 w K mg base 4 "is_price" (spF (G_is_price K)) [] := by
  refine mkCal (k := 3) T.d_is_price T.g_is_price sc_is_price (fun _ _ _ _ _ _ us hl => match us, hl with | [_], _ => rfl) (by intro ds R h; obtain ⟨i, h1, h2, rfl, rfl⟩ := h; rfl) fun cdv A outer s H E hr => ?_
  have nd := sc_is_price.nd
  refine ⟨_, (pss_one (ps_ret (pe_and (pe_c T.c_is_integer hr (by decide) (by rfl) (pa_cons (pv 0) pa_nil)) (pe_one (pe_chain op_le op_le pe_int (pv 0) (pe_gc (by rfl) (gI T.i_DEAREST))))))), ?_⟩
  rintro ds R ⟨i, h1, h2, rfl, rfl⟩
  walk_at "ad"
  refine ⟨_, ⟨i, rfl, rfl⟩, ?_⟩
  rintro _ rfl
  walk_at "ad"
  refine ⟨fun _ => ?_, fun z => absurd (of_decide_eq_false z) (by omega)⟩
  walk_at "ad"
  exact congrArg D.bl (decide_eq_true (by omega))

abbrev N_is_own : List Str := ["thing"]
theorem sc_is_own : FnScope N_is_own ["thing"] (defScope s_is_own) := ⟨rfl, rfl, rfl, by decide +kernel, rfl, by decide +kernel, by decide +kernel⟩
theorem Tx.c_is_own {w : World} {K : PySem.W.Frag} {mg : Str → Option Value} {base : Heap} (T : Tx K mg) : Cal P0 w K mg base 4 "is_own" (spF (G_is_own K)) [] := by
  refine mkCal (k := 3) T.d_is_own T.g_is_own sc_is_own (fun _ _ _ _ _ _ us hl => match us, hl with | [_], _ => rfl) (by intro ds R h; obtain ⟨i, h1, h2, rfl, rfl⟩ := h; rfl) fun cdv A outer s H E hr => ?_
  have nd := sc_is_own.nd
  refine ⟨_, (pss_one (ps_ret (pe_and (pe_c T.c_is_integer hr (by decide) (by rfl) (pa_cons (pv 0) pa_nil)) (pe_one (pe_chain op_le op_le pe_int (pv 0) (pe_gc (by rfl) (gI T.i_DEAREST_OWN))))))), ?_⟩
  rintro ds R ⟨i, h1, h2, rfl, rfl⟩
  walk_at "ad"
  refine ⟨_, ⟨i, rfl, rfl⟩, ?_⟩
  rintro _ rfl
  walk_at "ad"
  refine ⟨fun _ => ?_, fun z => absurd (of_decide_eq_false z) (by omega)⟩
  walk_at "ad"
  exact congrArg D.bl (decide_eq_true (by omega))

abbrev N_need_most : List Str := ["most"]
theorem sc_need_most : FnScope N_need_most ["most"] (defScope s_need_most) := ⟨rfl, rfl, rfl, by decide +kernel, rfl, by decide +kernel, by decide +kernel⟩
theorem Tx.c_need_most {w : World} {K : PySem.W.Frag} {mg : Str → Option Value} {base : Heap} (T : Tx K mg) : Cal P0 w K mg base 4 "need_most" (spF (G_need_most K)) [] := by
  refine mkCal (k := 3) T.d_need_most T.g_need_most sc_need_most (fun _ _ _ _ _ _ us hl => match us, hl with | [_], _ => rfl) (by intro ds R h; obtain ⟨i, h1, h2, rfl, rfl⟩ := h; rfl) fun cdv A outer s H E hr => ?_
  have nd := sc_need_most.nd
  refine ⟨_, (pss_one (ps_if (PW.pt (pw_or (pt_not (pt_val (pe_c T.c_is_integer hr (by decide) (by rfl) (pa_cons (pv 0) pa_nil)))) (pw_or1 (pt_not (pt_chain op_le op_le pe_int (pv 0) (pe_gc (by rfl) (gI T.i_MOST_ROWS))))))) (pss_one ps_never) pss_nil)), ?_⟩
  rintro ds R ⟨i, h1, h2, rfl, rfl⟩
  walk_at "ad"
  refine ⟨_, ⟨i, rfl, rfl⟩, ?_⟩
  rintro _ rfl
  walk_at "ad"
  refine ⟨fun _ => ?_, fun z => absurd (of_decide_eq_false z) (by omega)⟩
  walk_at "ad"
  refine ⟨fun z => absurd z (by simp; omega), fun _ => ?_⟩
  walk_at "ad"
  rfl

abbrev N_need_price : List Str := ["thing"]
theorem sc_need_price : FnScope N_need_price ["thing"] (defScope s_need_price) := ⟨rfl, rfl, rfl, by decide +kernel, rfl, by decide +kernel, by decide +kernel⟩
theorem Tx.c_need_price {w : World} {K : PySem.W.Frag} {mg : Str → Option Value} {base : Heap} (T : Tx K mg) : Cal P0 w K mg base 4 "need_price" (spF (G_need_price K)) [] := by
  refine mkCal (k := 3) T.d_need_price T.g_need_price sc_need_price (fun _ _ _ _ _ _ us hl => match us, hl with | [_], _ => rfl) (by intro ds R h; obtain ⟨i, h1, h2, rfl, rfl⟩ := h; rfl) fun cdv A outer s H E hr => ?_
  have nd := sc_need_price.nd
  refine ⟨_, (pss_one (ps_if (PW.pt (pw_or (pt_not (pt_val (pe_c T.c_is_integer hr (by decide) (by rfl) (pa_cons (pv 0) pa_nil)))) (pw_or1 (pt_not (pt_chain op_le op_le pe_int (pv 0) (pe_gc (by rfl) (gI T.i_DEAREST_SLIPS))))))) (pss_one ps_never) pss_nil)), ?_⟩
  rintro ds R ⟨i, h1, h2, rfl, rfl⟩
  walk_at "ad"
  refine ⟨_, ⟨i, rfl, rfl⟩, ?_⟩
  rintro _ rfl
  walk_at "ad"
  refine ⟨fun _ => ?_, fun z => absurd (of_decide_eq_false z) (by omega)⟩
  walk_at "ad"
  refine ⟨fun z => absurd z (by simp; omega), fun _ => ?_⟩
  walk_at "ad"
  rfl

abbrev N_is_word : List Str := ["thing"]
theorem sc_is_word : FnScope N_is_word ["thing"] (defScope s_is_word) := ⟨rfl, rfl, rfl, by decide +kernel, rfl, by decide +kernel, by decide +kernel⟩
theorem Tx.c_is_word {w : World} {K : PySem.W.Frag} {mg : Str → Option Value} {base : Heap} (T : Tx K mg) : Cal P0 w K mg base 5 "is_word" (spF (G_is_word K)) [] := by
  refine mkCal (k := 4) T.d_is_word T.g_is_word sc_is_word (fun _ _ _ _ _ _ us hl => match us, hl with | [_], _ => rfl) (by intro ds R h; obtain ⟨w, h0, h1, h2, rfl, rfl⟩ := h; rfl) fun cdv A outer s H E hr => ?_
  have nd := sc_is_word.nd
  refine ⟨_, (pss_one (ps_ret (pe_and (pe_c T.c_is_text hr (by decide) (by rfl) (pa_cons (pv 0) pa_nil)) (pe_one (pe_chain op_le op_le pe_int (pe_callB call_len_str (by rfl) T.f_len boot_len (pa_cons (pv 0) pa_nil)) (pe_gc (by rfl) (gI T.i_LONGEST))))))), ?_⟩
  rintro ds R ⟨w, h0, h1, h2, rfl, rfl⟩
  have hl : 0 < w.length := List.length_pos_iff.mpr h0
  walk_at "ad"
  refine ⟨_, ⟨w, ⟨by omega, h2⟩, rfl, rfl⟩, ?_⟩
  rintro _ rfl
  walk_at "ad"
  refine ⟨fun _ => ?_, fun z => absurd (of_decide_eq_false z) (by omega)⟩
  walk_at "ad"
  exact congrArg D.bl (decide_eq_true (by omega))

abbrev N_is_entry : List Str := ["thing"]
theorem sc_is_entry : FnScope N_is_entry ["thing"] (defScope s_is_entry) := ⟨rfl, rfl, rfl, by decide +kernel, rfl, by decide +kernel, by decide +kernel⟩
theorem Tx.c_is_entry {w : World} {K : PySem.W.Frag} {mg : Str → Option Value} {base : Heap} (T : Tx K mg) : Cal P0 w K mg base 6 "is_entry" (spF (G_is_entry K)) [] := by
  refine mkCal (k := 5) T.d_is_entry T.g_is_entry sc_is_entry (fun _ _ _ _ _ _ us hl => match us, hl with | [_], _ => rfl) (by intro ds R h; obtain ⟨e, h0, h1, h2, h3, h4, rfl, rfl⟩ := h; rfl) fun cdv A outer s H E hr => ?_
  have nd := sc_is_entry.nd
  refine ⟨_, (pss_one (ps_ret (pe_and (pe_callB call_isi (by rfl) T.f_isinstance boot_isinstance (pa_cons (pv 0) (pa_cons (pe_bltn (v := .ty "tuple") (u := .type "tuple") (by rfl) T.f_tuple (by decide +kernel) rfl) pa_nil))) (pe_and (pe_cmpR op_eq (pe_callB call_len_seq (by rfl) T.f_len boot_len (pa_cons (pv 0) pa_nil)) pe_int (nomark _)) (pe_and (pe_c T.c_is_word hr (by decide) (by rfl) (pa_cons (pe_ix ix_tup (pv 0) pe_int (fun _ _ => rfl)) pa_nil)) (pe_one (pe_c T.c_is_own hr (by decide) (by rfl) (pa_cons (pe_ix ix_tup (pv 0) pe_int (fun _ _ => rfl)) pa_nil)))))))), ?_⟩
  rintro ds R ⟨e, h0, h1, h2, h3, h4, rfl, rfl⟩
  walk_at "ad"
  refine ⟨_, ⟨e.1, h0, h1, h2, rfl, rfl⟩, ?_⟩
  rintro _ rfl
  walk_at "ad"
  refine ⟨_, ⟨e.2, h3, h4, rfl, rfl⟩, ?_⟩
  rintro _ rfl
  walk_at "ad"
  rfl

abbrev N_place_of : List Str := ["entries", "word", "words", "entry"]
theorem sc_place_of : FnScope N_place_of ["entries", "word"] (defScope s_place_of) := ⟨rfl, rfl, rfl, by decide +kernel, rfl, by decide +kernel, by decide +kernel⟩
theorem Tx.c_place_of {w : World} {K : PySem.W.Frag} {mg : Str → Option Value} {base : Heap} (T : Tx K mg) : Cal P0 w K mg base 3 "place_of" (spF (G_place_of K)) [] := by
  refine mkCal (k := 2) T.d_place_of T.g_place_of sc_place_of (fun _ _ _ _ _ _ us hl => match us, hl with | [_, _], _ => rfl) (by intro ds R h; obtain ⟨es, e, k, h4, nd, hk, rfl, rfl⟩ := h; rfl) fun cdv A outer s H E hr => ?_
  have nd := sc_place_of.nd
  refine ⟨_, (pss_cons (ps_setLc (i := 2) (own := [("entry", 3)]) (g := (gName 3)) (tt := tYes) (te := (tOp (rIxT K) (tVar 3) (tC (.int 0)))) rfl nd rfl rfl (sw_true rfl rfl rfl (by decide +kernel)) (pi_tup (pv 0)) (blkOk_by (N := N_place_of) (sc := defScope s_place_of) (by decide +kernel)) (fun _ _ _ _ _ => (pg_name (i := 3) nd rfl (by first | exact Or.inl rfl | exact Or.inr rfl))) (fun _ _ _ _ _ => pts_nil) (fun _ _ _ _ _ => (pe_ix ix_tup (pv 3) pe_int (fun _ _ => rfl))))
  (pss_cons (ps_if (PW.pt (pw_or (pt_not (pt_val (pe_callB call_isi (by rfl) T.f_isinstance boot_isinstance (pa_cons (pv 1) (pa_cons (pe_bltn (v := .ty "str") (u := .type "str") (by rfl) T.f_str (by decide +kernel) rfl) pa_nil))))) (pw_or1 (pt_cmpR op_notIn_seq (pv 1) (pv 2) (by rfl))))) (pss_one ps_never) pss_nil)
  (pss_one (ps_ret (pe_bm PySem.F.plainAttrs_list PySem.F.slot_list_index PySem.F.type_list_index mt_index (pv 2) (pa_cons (pv 1) pa_nil)))))), ?_⟩
  rintro ds R ⟨es, e, k, h4, nd, hk, rfl, rfl⟩
  walk_at "ad"
  refine x_map (js := [3]) es entD (fun e => txD e.1) [] (by decide) (by omega) ?_ ?_ ?_
  · walk_at "ad"
    exact ⟨rfl, rfl⟩
  · intro i x acc a hx
    walk_at "ad"
    exact ⟨rfl, List.Sublist.refl _⟩
  intro a
  walk_at "ad"
  have em : es.map (fun e => txD e.1) = (es.map (·.1)).map txD := by
    rw [List.map_map]
    rfl
  have hk2 : (es.map (·.1))[k]? = some e.1 := by
    rw [List.getElem?_map, hk]
    rfl
  rw [em]
  refine r_inTs (j := 0) rfl ?_
  rw [if_pos rfl, decide_eq_true (List.mem_of_getElem? hk2)]
  walk_at "ad"
  refine m_index (j := 0) (i := k) rfl hk2 (fun m hm z => ?_) rfl
  have := nd_ix nd z hk2
  omega

end MW
end
section
open MW L2
local macro_rules | `(tactic| walk_at "d1") => `(tactic| first
  | ((with_reducible refine x_varE ?_); refine ⟨_, rfl, ?_⟩)
  | with_reducible refine x_int ?_
  | with_reducible refine x_str ?_
  | with_reducible refine x_bl ?_
  | with_reducible refine x_non ?_
  | with_reducible refine x_ref ?_
  | with_reducible refine x_ty ?_
  | with_reducible refine x_op ?_
  | with_reducible refine x_un ?_
  | with_reducible refine a_nil ?_
  | with_reducible refine a_cons ?_
  | ((with_reducible refine x_tup ?_); walk_at "ad"; refine ⟨by first | exact (by decide) | (simp; done) | omega, ?_⟩)
  | ((with_reducible refine x_lst ?_); walk_at "ad"; refine ⟨by first | exact (by decide) | (simp; done) | omega, fun _ => ?_⟩)
  | with_reducible refine x_if ?_
  | with_reducible refine x_andV ?_
  | with_reducible refine x_orV ?_
  | with_reducible refine x_notV ?_
  | with_reducible refine t_test ?_
  | with_reducible refine t_B ?_
  | with_reducible refine t_yes ?_
  | with_reducible refine r_inS ?_
  | with_reducible refine r_notInS ?_
  | with_reducible refine t_and ?_
  | with_reducible refine t_or ?_
  | with_reducible refine t_not ?_
  | ((with_reducible refine x_fz ?_); walk_at "ad"; (first | refine ⟨_, _, 0, rfl, rfl, ?_⟩ | refine ⟨_, _, 1, rfl, rfl, ?_⟩ | refine ⟨_, _, 2, rfl, rfl, ?_⟩ | refine ⟨_, _, 3, rfl, rfl, ?_⟩))
  | with_reducible refine xs_seq ?_
  | with_reducible refine xs_next ?_
  | with_reducible refine xs_ret ?_
  | with_reducible refine xs_retN ?_
  | with_reducible refine xs_drop ?_
  | with_reducible apply xs_asg
  | with_reducible refine xs_if ?_
  | with_reducible refine g_name ?_
  | with_reducible refine gs_nil ?_
  | with_reducible apply gs_cons
  | ((with_reducible apply g_tup); exact rfl)
  | with_reducible refine x_chain ?_
  | with_reducible refine x_CB ?_
  | with_reducible refine x_call0 ?_
  | with_reducible refine x_sl ?_
  | with_reducible refine o_none ?_
  | with_reducible refine o_some ?_
  | ((with_reducible refine x_prop ?_); walk_at "ad"; refine ⟨_, _, _, rfl, rfl, ?_⟩)
  | with_reducible refine r_I0 ?_
  | with_reducible refine r_I0b ?_
  | with_reducible refine r_eqI ?_
  | with_reducible refine r_neI ?_
  | with_reducible refine r_eqS ?_
  | with_reducible refine r_neS ?_
  | with_reducible refine r_isN ?_
  | with_reducible refine r_notN ?_
  | with_reducible refine u_neg ?_
  | ((with_reducible refine r_ixTE ?_); first | refine ⟨_, ‹_›, ?_⟩ | refine ⟨_, rfl, ?_⟩)
  | ((with_reducible refine r_ixLE ?_); first | refine ⟨_, ‹_›, ?_⟩ | refine ⟨_, rfl, ?_⟩)
  | ((with_reducible refine k_isIE ?_); refine ⟨_, rfl, ?_⟩)
  | ((with_reducible refine k_isSE ?_); refine ⟨_, rfl, ?_⟩)
  | ((with_reducible refine k_isTE ?_); refine ⟨_, rfl, ?_⟩)
  | ((with_reducible refine x_BM ?_); walk_at "ad"; first | refine ⟨ty_lst (j := 0) rfl, ?_⟩ | refine ⟨ty_lst (j := 1) rfl, ?_⟩ | refine ⟨ty_lst (j := 2) rfl, ?_⟩ | refine ⟨ty_lst (j := 3) rfl, ?_⟩)
  | ((with_reducible refine m_appE ?_); (first | refine ⟨0, _, rfl, ?_, ?_⟩ | refine ⟨1, _, rfl, ?_, ?_⟩ | refine ⟨2, _, rfl, ?_, ?_⟩ | refine ⟨3, _, rfl, ?_, ?_⟩); (walk_at "len"))
  | ((with_reducible refine k_lenS ?_ ?_); (walk_at "len"))
  | ((with_reducible refine s_txt ?_ ?_); (walk_at "len"))
  | ((with_reducible refine r_ixSE ?_ ?_); (walk_at "len"); (first | refine ⟨_, ‹_›, ?_⟩ | refine ⟨_, rfl, ?_⟩))
  | with_reducible refine k_lenT ?_
  | with_reducible refine k_lenL ?_
  | ((with_reducible refine k_lenME ?_); (first | refine ⟨0, _, rfl, ?_⟩ | refine ⟨1, _, rfl, ?_⟩ | refine ⟨2, _, rfl, ?_⟩ | refine ⟨3, _, rfl, ?_⟩))
  | ((with_reducible refine r_ixME ?_); (first | refine ⟨0, _, _, rfl, ‹_›, ?_⟩ | refine ⟨1, _, _, rfl, ‹_›, ?_⟩ | refine ⟨2, _, _, rfl, ‹_›, ?_⟩ | refine ⟨0, _, _, rfl, rfl, ?_⟩ | refine ⟨1, _, _, rfl, rfl, ?_⟩ | refine ⟨2, _, _, rfl, rfl, ?_⟩ | refine ⟨3, _, _, rfl, rfl, ?_⟩))
  | ((with_reducible refine x_tupleM ?_); walk_at "ad"; (first | refine ⟨_, 0, _, rfl, rfl, ?_⟩ | refine ⟨_, 1, _, rfl, rfl, ?_⟩ | refine ⟨_, 2, _, rfl, rfl, ?_⟩ | refine ⟨_, 3, _, rfl, rfl, ?_⟩))
  | ((with_reducible refine r_neT0 (n := 0) ?_ ?_ ?_); exact (by decide); exact (deep_dI _ _))
  | ((with_reducible refine x_rev2 ?_); walk_at "ad"; refine ⟨_, _, rfl, ?_⟩)
  | with_reducible refine x_join ?_
  | with_reducible refine i_enumT ?_
  | with_reducible refine i_rng1 ?_
  | with_reducible refine i_rng2 ?_
  | with_reducible refine i_tup ?_
  | with_reducible refine i_lst ?_
  | with_reducible refine i_str ?_
  | refine ⟨_, rfl, ?_⟩
  | ((with_reducible refine brT ?_ ?_); (first | assumption | exact rfl | decide +kernel))
  | ((with_reducible refine brF ?_ ?_); (first | assumption | exact rfl | decide +kernel)))
local macro_rules | `(tactic| walk_at "len") => `(tactic| first | assumption | omega | ((simp only [List.length_append, List.length_cons, List.length_nil, List.length_map, List.length_set]) <;> omega) | (simp; done) | (simp; omega))
local macro_rules | `(tactic| walk_at "ad") => `(tactic| repeat (walk_at "d1"))
local macro_rules | `(tactic| walk_at "sub") => `(tactic| first | exact List.nil_sublist _ | exact List.Sublist.refl _ | (refine List.Sublist.cons₂ _ ?_; walk_at "sub") | (refine List.Sublist.cons _ ?_; walk_at "sub"))
/-! strength, beats. -/
namespace MW
open PySem PySem.Spec PyProof.Rows L2
open C8 (pe_c pe_gc Cal)
section
variable {w : World} {K : PySem.W.Frag} {mg : Str → Option Value} {base : Heap}
/-- a def whose last parameter is most = 2000, keyword-only -/
theorem mkCalK {x : Str} {st : Stmt} {N ps : List Str} {k : Nat} {G : Spc} {f : Addr} (n : Nat) (hF : ∃ fd, FunD K x x (defArgs st) (defBody st) (defScope st) [] [("most", V.int 2000)] f fd) (hm : mg x = some (.ref f)) (S : FnScope N ps (defScope st)) (hn : n + 1 = ps.length)
    (hb : ∀ (D : Addr) (doc pm : Value) (an : Option Addr) (cdv ct : Value) (us ks : List Value), us.length = n → ks.length = 1 → KwChain D ((["most"] : List Str).zip ks) (bindArgs (PySem.W.fnOf x x (defArgs st) (defBody st) (defScope st) .none (.ref D) doc pm an cdv ct) ⟨us, []⟩) (ps.zip (us ++ ks)))
    (len : ∀ ds R, G ds R → ds.length = ps.length)
    (hbody : ∀ (cdv : Value) (A : Around) (outer : List Env) (s : Shared) (H : Hp) (E : XK), Room k (A.deeper (envOfC x (defScope st) s.heap.objs.size f cdv)) →
      ∃ t, PSs (cxOf C8.CX0 P0 w K mg base N x (defScope st) f cdv A outer s H E).nox (defBody st) t ∧ ∀ ds R, G ds R → XS ⟨[], H⟩ t (ds.map some ++ List.replicate (N.length - ds.length) none) [] { nx := fun _ _ => R .non, rt := fun d _ => R d }) :
    Cal P0 w K mg base (k + 1) x (spF G) [.int 2000] := by
  obtain ⟨fd, F⟩ := hF
  obtain ⟨ds, h1, h2⟩ := F.binds0 n (by intro z; cases z) hn hb
  exact ⟨f, fd, ps, ds, MW.FunD.okF F S len hbody, hm, F.kp, h2, h1⟩
end
/-! ### who is the answer -/
def Over (p : Spl) (u : Wd) : Prop := ∀ c ∈ u, c ∈ sgn p
/-- the word at place i comes ahead of the word at place j -/
def Ahead (p : Spl) (u : Wd) (i j : Nat) (f e : List Nat × Int) : Prop := vt p u f < vt p u e ∨ (vt p u f = vt p u e ∧ i < j)
instance (p : Spl) (u : Wd) (i j : Nat) (f e : List Nat × Int) : Decidable (Ahead p u i j f e) := by unfold Ahead; infer_instance
def G_beats (_K : PySem.W.Frag) : Spc := fun ds R => ∃ (p : Spl) (t : Wd) (i j : Nat) (f e : List Nat × Int), OkP p ∧ p.es[i]? = some f ∧ p.es[j]? = some e ∧ ds = [entsD p.es, rowD (row p t), .int (i : Nat), .int (j : Nat)] ∧ R = fun d => d = .bl (decide (Ahead p t i j f e))
theorem least_uniq {p : Spl} (hp : OkP p) {u : Wd} {e f : List Nat × Int} (h : Least p u e) (g : Least p u f) : e = f := by
  obtain ⟨i, hi, h⟩ := h
  obtain ⟨j, hj, g⟩ := g
  have h1 := h j f hj
  have h2 := g i e hi
  have e1 : i = j := by omega
  subst e1
  rw [hi] at hj
  exact Option.some.inj hj
theorem price_wv (s : Slp) (w t : Wd) : wv s w t w.length + s.ex * ((t.length : Nat) : Int) = price s w t := by
  unfold wv price
  omega
/-- what strength gives -/
def Str8 (p : Spl) (e : List Nat × Int) (d : D) : Prop := (d = .non ∧ ∀ u, Over p u → Least p u e) ∨ ∃ t, Over p t ∧ ¬ Least p t e ∧ d = .tup [.int (price p.sl e.1 t), .str (tx t)] ∧ ∀ u, Over p u → ¬ Least p u e → price p.sl e.1 t ≤ price p.sl e.1 u
def G_strength (_K : PySem.W.Frag) : Spc := fun ds R => ∃ (p : Spl) (e : List Nat × Int) (k : Nat), OkP p ∧ p.es[k]? = some e ∧ NotMany p 2000 ∧ ds = [splD _K p, .str (tx e.1), .int 2000] ∧ R = Str8 p e
theorem getElem_take {α : Type} {l : List α} {i : Nat} {x : α} (h : l[i]? = some x) : l.take (i + 1) = l.take i ++ [x] := by
  rw [List.take_succ, h]
  rfl
/-- strength's best so far -/
def Best (p : Spl) (e : List Nat × Int) (W : List Wd) (b : D) : Prop := (b = .non ∧ ∀ u ∈ W, Least p u e) ∨ ∃ t ∈ W, ¬ Least p t e ∧ b = .tup [.int (price p.sl e.1 t), .str (tx t)] ∧ ∀ u ∈ W, ¬ Least p u e → price p.sl e.1 t ≤ price p.sl e.1 u
theorem Best.keep {p : Spl} {e : List Nat × Int} {W : List Wd} {b : D} {x : Wd} (h : Best p e W b) (hx : Least p x e) : Best p e (W ++ [x]) b := by
  rcases h with ⟨h1, h2⟩ | ⟨t, ht, h1, h2, h3⟩
  · refine .inl ⟨h1, fun u hu => ?_⟩
    rcases List.mem_append.mp hu with hu | hu
    · exact h2 u hu
    · rw [List.mem_singleton] at hu
      subst hu
      exact hx
  · refine .inr ⟨t, List.mem_append_left _ ht, h1, h2, fun u hu hn => ?_⟩
    rcases List.mem_append.mp hu with hu | hu
    · exact h3 u hu hn
    · rw [List.mem_singleton] at hu
      subst hu
      exact absurd hx hn
theorem Best.first {p : Spl} {e : List Nat × Int} {W : List Wd} {x : Wd} (h : ∀ u ∈ W, Least p u e) (hx : ¬ Least p x e) : Best p e (W ++ [x]) (.tup [.int (price p.sl e.1 x), .str (tx x)]) := by
  refine .inr ⟨x, List.mem_append_right _ (List.mem_singleton.mpr rfl), hx, rfl, fun u hu hn => ?_⟩
  rcases List.mem_append.mp hu with hu | hu
  · exact absurd (h u hu) hn
  · rw [List.mem_singleton] at hu
    subst hu
    exact Int.le_refl _
theorem Best.less {p : Spl} {e : List Nat × Int} {W : List Wd} {t x : Wd} (h3 : ∀ u ∈ W, ¬ Least p u e → price p.sl e.1 t ≤ price p.sl e.1 u) (hx : ¬ Least p x e) (hl : price p.sl e.1 x < price p.sl e.1 t) : Best p e (W ++ [x]) (.tup [.int (price p.sl e.1 x), .str (tx x)]) := by
  refine .inr ⟨x, List.mem_append_right _ (List.mem_singleton.mpr rfl), hx, rfl, fun u hu hn => ?_⟩
  rcases List.mem_append.mp hu with hu | hu
  · have := h3 u hu hn
    omega
  · rw [List.mem_singleton] at hu
    subst hu
    exact Int.le_refl _
theorem Best.more {p : Spl} {e : List Nat × Int} {W : List Wd} {t x : Wd} (ht : t ∈ W) (h1 : ¬ Least p t e) (h3 : ∀ u ∈ W, ¬ Least p u e → price p.sl e.1 t ≤ price p.sl e.1 u) (hl : ¬ price p.sl e.1 x < price p.sl e.1 t) : Best p e (W ++ [x]) (.tup [.int (price p.sl e.1 t), .str (tx t)]) := by
  refine .inr ⟨t, List.mem_append_left _ ht, h1, rfl, fun u hu hn => ?_⟩
  rcases List.mem_append.mp hu with hu | hu
  · exact h3 u hu hn
  · rw [List.mem_singleton] at hu
    subst hu
    omega
/-- states tell prices and answers -/
theorem vt_sta {p : Spl} {t u : Wd} (h : sta p t = sta p u) {e : List Nat × Int} (he : e ∈ p.es) : wv p.sl e.1 t e.1.length = wv p.sl e.1 u e.1.length := by
  have h2 : row p t = row p u := by
    have := congrArg Prod.fst h
    rwa [sta_1, sta_1] at this
  have h3 : wrow p.sl e.1 t = wrow p.sl e.1 u := List.map_inj_left.mp h2 e he
  exact wrow_eq_wv h3 (Nat.le_refl _)
theorem least_sta {p : Spl} {t u : Wd} (h : sta p t = sta p u) {e : List Nat × Int} (l : Least p t e) : Least p u e := by
  obtain ⟨k, hk, l⟩ := l
  have v : ∀ f ∈ p.es, vt p t f = vt p u f := fun f hf => by
    unfold vt
    rw [vt_sta h hf]
  refine ⟨k, hk, fun j f hf => ?_⟩
  rw [← v e (List.mem_of_getElem? hk), ← v f (List.mem_of_getElem? hf)]
  exact l j f hf
theorem Best.done {p : Spl} {e : List Nat × Int} {W : List Wd} {b : D} (hp : OkP p) (he : e ∈ p.es) (cv : Cover p W) (h : Best p e W b) : Str8 p e b := by
  rcases h with ⟨h1, h2⟩ | ⟨t, ht, h1, h2, h3⟩
  · refine .inl ⟨h1, fun u hu => ?_⟩
    obtain ⟨t, ht, es, _⟩ := cv.all u hu
    exact least_sta es (h2 t ht)
  · refine .inr ⟨t, cv.over t ht, h1, h2, fun u hu hn => ?_⟩
    obtain ⟨t2, ht2, es, hl⟩ := cv.all u hu
    have q1 := h3 t2 ht2 fun z => hn (least_sta es z)
    have q2 := vt_sta es he
    have q3 : p.sl.ex * ((t2.length : Nat) : Int) ≤ p.sl.ex * ((u.length : Nat) : Int) := Int.mul_le_mul_of_nonneg_left (by omega) (by have := hp.ex; omega)
    have q4 := price_wv p.sl e.1 t2
    have q5 := price_wv p.sl e.1 u
    omega
section
variable {c : Cn} {ρ : Env2} {μ : Mu} {A : DA}
/-- for, the items known in the invariant -/
theorem xs_forI0 {wi : TI} {g : TG} {tb : TS} {js : List Nat} (I : List D → Nat → Env2 → Mu → Prop)
    (h : IX c wi ρ μ fun items μ1 => I items 0 ρ μ1 ∧ (∀ i d ρ' μ', items[i]? = some d → I items i ρ' μ' → GX c g js d ρ' μ' fun ρ2 μ2 => XS c tb ρ2 μ2 { nx := I items (i + 1), ct := I items (i + 1), bk := A.nx, rt := A.rt }) ∧ (∀ ρ' μ', I items items.length ρ' μ' → A.nx ρ' μ')) :
    XS c (tFor wi g tb) ρ μ A := fun σ H E S k => by
  refine h σ H _ S fun J H1 items μ1 p1 S1 W ⟨i0, hs, hd⟩ => ?_
  refine ⟨fun i m σ' H' => m = items.length - i ∧ i ≤ items.length ∧ Pst H1 H' ∧ ∃ ρ' μ', Sat c ρ' μ' σ' H' ∧ I items i ρ' μ', ⟨items.length, rfl, Nat.zero_le _, Pst.refl H1, ρ, μ1, S1, i0⟩, ?_⟩
  rintro i m σ' H' ⟨rfl, hi, p2, ρ', μ', S2, hI⟩
  by_cases hlt : i < items.length
  · have hd' : items[i]? = some items[i] := List.getElem?_eq_getElem hlt
    refine .inr ⟨W.go i _ H' hd' p2, fun σ2 H2 => Pst H1 H2 ∧ ∃ ρ2 μ2, Sat c ρ2 μ2 σ2 H2 ∧ I items (i + 1) ρ2 μ2, fun σ2 H2 ⟨p3, ρ2, μ2, S3, hI2⟩ => ⟨items.length - (i + 1), by omega, rfl, hlt, p3, ρ2, μ2, S3, hI2⟩, fun x H2 hy => ?_⟩
    obtain ⟨sm, rx⟩ := W.yld i _ H' x H2 hd' p2 hy
    refine hs i _ ρ' μ' hd' hI σ' H2 x _ (S2.same sm) rx fun ρ3 μ3 σ3 H3 p4 S3 _ z => ?_
    have p5 : Pst H1 H3 := (p2.trans (Pst.same sm)).trans p4
    exact z σ3 H3 _ S3 ⟨fun ρ4 μ4 σ4 H4 p S4 z4 => ⟨p5.trans p, ρ4, μ4, S4, z4⟩, fun ρ4 μ4 σ4 H4 d v p S4 r z4 => k.rt ρ4 μ4 σ4 H4 d v ((p1.trans p5).trans p) S4 r z4, fun ρ4 μ4 σ4 H4 p S4 z4 => k.nx ρ4 μ4 σ4 H4 ((p1.trans p5).trans p) S4 z4, fun ρ4 μ4 σ4 H4 p S4 z4 => ⟨p5.trans p, ρ4, μ4, S4, z4⟩⟩
  · have e : i = items.length := by omega
    subst e
    exact .inl ⟨W.stop H' p2, k.nx ρ' μ' σ' H' (p1.trans p2) S2 (hd ρ' μ' hI)⟩
/-- .. whose turns may leave objects behind -/
theorem xs_forI {wi : TI} {g : TG} {tb : TS} {js : List Nat} (I : List D → Nat → Env2 → Mu → Prop)
    (h : IX c wi ρ μ fun items μ1 => (∃ ν, ν.Sublist μ1 ∧ I items 0 ρ ν) ∧ (∀ i d ρ' μ', items[i]? = some d → I items i ρ' μ' → GX c g js d ρ' μ' fun ρ2 μ2 => XS c tb ρ2 μ2 { nx := fun ρ3 μ3 => ∃ ν, ν.Sublist μ3 ∧ I items (i + 1) ρ3 ν, ct := fun ρ3 μ3 => ∃ ν, ν.Sublist μ3 ∧ I items (i + 1) ρ3 ν, bk := A.nx, rt := A.rt }) ∧ (∀ ρ' μ', I items items.length ρ' μ' → A.nx ρ' μ')) :
    XS c (tFor wi g tb) ρ μ A := by
  refine XS.let (xs_forI0 (js := js) (fun items i ρ μ => ∃ ν, ν.Sublist μ ∧ I items i ρ ν) (h.imp fun items μ1 z => ⟨z.1, fun i d ρ' μ' hd hI => ?_, fun ρ' μ' hI => ?_⟩))
  · obtain ⟨ν, sν, hI⟩ := hI
    exact ((z.2.1 i d ρ' ν hd hI).from sν).imp fun ρ2 μ2 y => y.imp (fun _ _ q => q) (fun _ _ q => q) (fun _ _ q => ⟨_, List.Sublist.refl _, q⟩) (fun _ _ q => q)
  · obtain ⟨ν, sν, hI⟩ := hI
    exact ⟨ν, sν, z.2.2 ρ' ν hI⟩
end
abbrev N_beats : List Str := ["entries", "row", "k", "at", "mine", "other"]
theorem sc_beats : FnScope N_beats ["entries", "row", "k", "at"] (defScope s_beats) := ⟨rfl, rfl, rfl, by decide +kernel, rfl, by decide +kernel, by decide +kernel⟩
theorem Tx.c_beats {w : World} {K : PySem.W.Frag} {mg : Str → Option Value} {base : Heap} (T : Tx K mg) : Cal P0 w K mg base 2 "beats" (spF (G_beats K)) [] := by
  refine mkCal (k := 1) T.d_beats T.g_beats sc_beats (fun _ _ _ _ _ _ us hl => match us, hl with | [_, _, _, _], _ => rfl) (by intro ds R h; obtain ⟨p, t, i, j, f, e, hp, hi, hj, rfl, rfl⟩ := h; rfl) fun cdv A outer s H E hr => ?_
  have nd := sc_beats.nd
  refine ⟨_, (pss_cons (ps_par (i := 4) (j := 5) rfl nd rfl rfl (by decide) rfl rfl (pa_cons (pe_op op_add (pe_ix ix_tup (pe_ix ix_tup (pv 1) (pv 3) (fun _ _ => rfl)) (pe_un un_neg pe_int) (fun _ _ => rfl)) (pe_ix ix_tup (pe_ix ix_tup (pv 0) (pv 3) (fun _ _ => rfl)) pe_int (fun _ _ => rfl))) (pa_cons (pe_op op_add (pe_ix ix_tup (pe_ix ix_tup (pv 1) (pv 2) (fun _ _ => rfl)) (pe_un un_neg pe_int) (fun _ _ => rfl)) (pe_ix ix_tup (pe_ix ix_tup (pv 0) (pv 2) (fun _ _ => rfl)) pe_int (fun _ _ => rfl))) pa_nil)) (by rfl))
  (pss_one (ps_ret (pe_or (pe_cmpR op_lt (pv 5) (pv 4) (nomark _)) (pe_one (pe_and (pe_cmpR op_eq (pv 5) (pv 4) (nomark _)) (pe_one (pe_cmpR op_lt (pv 2) (pv 3) (nomark _))))))))), ?_⟩
  rintro ds R ⟨p, t, i, j, f, e, hp, hi, hj, rfl, rfl⟩
  have at_ : ∀ {k : Nat} {e : List Nat × Int}, p.es[k]? = some e → L2.atI (p.es.map entD) ((k : Nat) : Int) = some (entD e) := fun h => by
    rw [atI_nat, List.getElem?_map, h]
    rfl
  have wl : ∀ e : List Nat × Int, L2.atI (dI (wrow p.sl e.1 t)) (-(1 : Int)) = some (.int (wv p.sl e.1 t e.1.length)) := fun e => by
    rw [atI_last (by rw [dI_len, wrow_len]; omega), dI_len, wrow_len]
    exact dI_at (wrow_at (Nat.le_refl _))
  have i1 := row_at (t := t) hi
  have i2 := row_at (t := t) hj
  have i3 := at_ hi
  have i4 := at_ hj
  have i5 := wl e
  have i6 := wl f
  walk_at "ad"
  refine xs_par ?_
  walk_at "ad"
  refine ⟨_, _, rfl, ?_⟩
  walk_at "ad"
  refine brD (fun h => ?_) (fun h => ?_)
  · exact congrArg D.bl (decide_eq_true (Or.inl h)).symm
  walk_at "ad"
  refine brD (fun h2 => ?_) (fun h2 => ?_)
  · walk_at "ad"
    refine congrArg D.bl (dec_eq ?_)
    unfold Ahead vt
    omega
  · refine congrArg D.bl (decide_eq_false fun z => ?_).symm
    unfold Ahead vt at z
    omega

abbrev N_strength : List Str := ["speller", "word", "most", "at", "best", "here", "text", "worth"]
theorem sc_strength : FnScope N_strength ["speller", "word", "most"] (defScope s_strength) := ⟨rfl, rfl, rfl, by decide +kernel, rfl, by decide +kernel, by decide +kernel⟩
theorem Tx.c_strength {w : World} {K : PySem.W.Frag} {mg : Str → Option Value} {base : Heap} (T : Tx K mg) (M : TmOk P0 w K mg base) : Cal P0 w K mg base 12 "strength" (spF (G_strength K)) [.int 2000] := by
  refine mkCalK (k := 11) 2 T.d_strength T.g_strength sc_strength rfl (fun D doc pm an cdv ct us ks hu hk => match us, ks, hu, hk with | [_, _], [_], _, _ => ⟨_, _, _, _, _, _, rfl, rfl, rfl⟩) (by intro ds R h; obtain ⟨p, e, k, hp, hk, hm, rfl, rfl⟩ := h; rfl) fun cdv A outer s H E hr => ?_
  have nd := sc_strength.nd
  refine ⟨_, (pss_cons (ps_expr (pe_c T.c_need_most hr (by decide) (by rfl) (pa_cons (pv 2) pa_nil)))
  (pss_cons (ps_set (i := 3) nd rfl (by first | exact Or.inl rfl | exact Or.inr rfl) (pe_c T.c_place_of hr (by decide) (by rfl) (pa_cons (pe_P T.pr_entries (pv 0) hr (by decide)) (pa_cons (pv 1) pa_nil))))
  (pss_cons (ps_set (i := 4) nd rfl (by first | exact Or.inl rfl | exact Or.inr rfl) pe_non)
  (pss_cons (ps_for PassesOwn.never rfl (pi_list (pe_cX0 (T.c_walks M) hr (by decide) (by rfl) (pa_cons (pv 0) (pa_cons (pv 2) pa_nil)))) (pg_tup rfl (pgs_cons (pg_name (i := 5) nd rfl (by first | exact Or.inl rfl | exact Or.inr rfl)) (pgs_cons (pg_name (i := 6) nd rfl (by first | exact Or.inl rfl | exact Or.inr rfl)) pgs_nil))) (pss_one (ps_if (pt_cmpR op_ne (pe_c T.c_answer_at hr (by decide) (by rfl) (pa_cons (pv 0) (pa_cons (pv 5) pa_nil))) (pv 1) (nomark _)) (pss_cons (ps_set (i := 7) nd rfl (by first | exact Or.inl rfl | exact Or.inr rfl) (pe_op op_add (pe_ix ix_tup (pe_ix ix_tup (pe_ix ix_tup (pv 5) pe_int (fun _ _ => rfl)) (pv 3) (fun _ _ => rfl)) (pe_un un_neg pe_int) (fun _ _ => rfl)) (pe_op op_mul (pe_P T.pr_extra (pe_P T.pr_slips (pv 0) hr (by decide)) hr (by decide)) (pe_callB call_len_str (by rfl) T.f_len boot_len (pa_cons (pv 6) pa_nil)))))
  (pss_one (ps_set (i := 4) nd rfl (by first | exact Or.inl rfl | exact Or.inr rfl) (pe_ifExp (PW.pt (pw_or (pt_cmpR op_isN (pv 4) pe_non (nomark _)) (pw_or1 (pt_cmpR op_lt (pv 7) (pe_ix ix_tup (pv 4) pe_int (fun _ _ => rfl)) (nomark _))))) (pe_tup (pa_cons (pv 7) (pa_cons (pv 6) pa_nil))) (pv 4))))) pss_nil)))
  (pss_one (ps_ret (pv 4))))))), ?_⟩
  rintro ds R ⟨p, e, k, hp, hk, hm, rfl, rfl⟩
  have h4 := hp.len
  have hes : p.es ≠ [] := fun z => by
    rw [z] at hk
    cases hk
  walk_at "ad"
  refine ⟨_, ⟨2000, by decide, by decide, rfl, rfl⟩, ?_⟩
  rintro _ rfl
  walk_at "ad"
  refine ⟨_, ⟨p.es, e, k, h4, hp.nd, hk, rfl, rfl⟩, ?_⟩
  rintro _ rfl
  walk_at "ad"
  refine xs_forI (js := [5] ++ ([6] ++ [])) (fun items i ρ μ => ∃ (W : List Wd) (b : D) (x5 x6 x7 : Option D), items = W.map (itD p) ∧ Cover p W ∧ W.length ≤ 2000 ∧ Best p e (W.take i) b ∧ ρ = [some (splD K p), some (.str (tx e.1)), some (.int 2000), some (.int (k : Nat)), some b, x5, x6, x7] ∧ μ = []) ?_
  walk_at "ad"
  refine x_cX0 [] (fun _ => Reps.nil) ?_
  walk_at "ad"
  refine ⟨_, _, ⟨p, 2000, hp, by decide, by decide, rfl, rfl, rfl⟩, fun z => z hm, ?_⟩
  rintro _ ⟨W, rfl, cv, hW⟩
  refine ⟨_, rfl, ?_⟩
  refine ⟨⟨_, List.Sublist.refl _, W, .non, none, none, none, rfl, cv, hW, .inl ⟨rfl, fun u hu => by cases hu⟩, rfl, rfl⟩, ?_, ?_⟩
  · intro i d ρ' μ' hd hI
    obtain ⟨W, b, x5, x6, x7, eW, cv, hW, hB, rfl, rfl⟩ := hI
    rw [eW] at hd
    obtain ⟨t, ht, rfl⟩ := map_at hd
    have htl := cv.len t (List.mem_of_getElem? ht)
    have i1 := row_at (t := t) hk
    have i2 : L2.atI (dI (wrow p.sl e.1 t)) (-(1 : Int)) = some (.int (wv p.sl e.1 t e.1.length)) := by
      rw [atI_last (by rw [dI_len, wrow_len]; omega), dI_len, wrow_len]
      exact dI_at (wrow_at (Nat.le_refl _))
    have hc : CMul p.sl.ex ((t.length : Nat) : Int) := .inl ⟨by have := hp.ex; omega, by have := hp.ex; omega⟩
    walk_at "ad"
    refine ⟨_, ⟨p, t, hp, rfl, rfl⟩, ?_⟩
    intro d hd
    obtain ⟨z, _⟩ | ⟨f, hf, rfl⟩ := hd
    · exact absurd z hes
    walk_at "ad"
    refine brN (fun hne => ?_) (fun heq => ?_)
    · have hnl : ¬ Least p t e := fun z => hne (by rw [least_uniq hp hf z])
      walk_at "ad"
      rw [sta_1]
      walk_at "ad"
      refine r_I hc ?_
      walk_at "ad"
      rw [price_wv]
      rcases hB with ⟨rfl, hB⟩ | ⟨t2, ht2, n2, rfl, hB⟩
      · walk_at "ad"
        exact ⟨_, List.Sublist.refl _, W, _, _, _, _, eW, cv, hW, by rw [getElem_take ht]; exact Best.first hB hnl, rfl, rfl⟩
      · walk_at "ad"
        refine brD (fun hl => ?_) (fun hl => ?_)
        · walk_at "ad"
          exact ⟨_, List.Sublist.refl _, W, _, _, _, _, eW, cv, hW, by rw [getElem_take ht]; exact Best.less hB hnl hl, rfl, rfl⟩
        · walk_at "ad"
          exact ⟨_, List.Sublist.refl _, W, _, _, _, _, eW, cv, hW, by rw [getElem_take ht]; exact Best.more ht2 n2 hB hl, rfl, rfl⟩
    · have efe : f = e := by
        have e1 : f.1 = e.1 := tx_inj heq
        obtain ⟨k', hk', _⟩ := hf
        have a1 : (p.es.map (·.1))[k']? = some f.1 := by rw [List.getElem?_map, hk'] <;> rfl
        have a2 : (p.es.map (·.1))[k]? = some f.1 := by rw [List.getElem?_map, hk, e1] <;> rfl
        have a3 := nd_ix hp.nd a1 a2
        rw [a3, hk] at hk'
        exact (Option.some.inj hk').symm
      rw [efe] at hf
      walk_at "ad"
      exact ⟨_, List.Sublist.refl _, W, b, _, _, _, eW, cv, hW, by rw [getElem_take ht]; exact hB.keep hf, rfl, rfl⟩
  · intro ρ' μ' hI
    obtain ⟨W, b, x5, x6, x7, eW, cv, hW, hB, rfl, rfl⟩ := hI
    rw [eW, List.length_map, List.take_length] at hB
    walk_at "ad"
    exact hB.done hp (List.mem_of_getElem? hk) cv

end MW
end
section
open MW L2
/-! Dicts with text keys. -/
namespace MW
open PySem PySem.Spec PyProof.Rows L2
open C8 (pe_c pe_gc Cal)
abbrev AL := List (Str × D)
abbrev dicM (L : AL) : MO := .dic (L.map (·.1)) (L.map (·.2))
abbrev dicD (L : AL) : D := .dic (L.map (·.1)) (L.map (·.2))
def putL (L : AL) (x : Str) (d : D) : AL := if (L.any fun p => decide (p.1 = x)) = true then L.map (fun p => if p.1 = x then (p.1, d) else p) else L ++ [(x, d)]
def getL (L : AL) (x : Str) : Option D := (L.find? fun p => decide (p.1 = x)).map (·.2)
/-- the entries, one by one -/
def DL (H : Hp) : AL → List (Key × V) → Prop
  | [], kvs => kvs = []
  | p :: L, kvs => ∃ v r, kvs = (.inr p.1, v) :: r ∧ Rep H p.2 v ∧ DL H L r
theorem DL.of {H : Hp} : ∀ {L : AL} {kvs : List (Key × V)}, kvs.map (·.1) = (L.map (·.1)).map Sum.inr → Reps H (L.map (·.2)) (kvs.map (·.2)) → DL H L kvs
  | [], kvs, h, _ => by
    have e : kvs = [] := by
      cases kvs with
      | nil => rfl
      | cons a b => cases h
    exact e
  | p :: L, [], h, _ => by cases h
  | p :: L, kv :: kvs, h, r => by
    obtain ⟨v, rr, e, r1, r2⟩ := r
    rw [List.map_cons, List.cons.injEq] at e
    obtain ⟨e1, e2⟩ := e
    subst e2
    rw [List.map_cons, List.map_cons, List.map_cons, List.cons.injEq] at h
    obtain ⟨a, b⟩ := kv
    have e3 : a = .inr p.1 := h.1
    have e4 : b = v := e1
    subst e3 e4
    exact ⟨b, kvs, rfl, r1, DL.of h.2 r2⟩
theorem DL.to {H : Hp} : ∀ {L : AL} {kvs : List (Key × V)}, DL H L kvs → kvs.map (·.1) = (L.map (·.1)).map Sum.inr ∧ Reps H (L.map (·.2)) (kvs.map (·.2))
  | [], kvs, h => by
    have e : kvs = [] := h
    subst e
    exact ⟨rfl, Reps.nil⟩
  | p :: L, kvs, h => by
    obtain ⟨v, r, rfl, r1, r2⟩ := h
    obtain ⟨a, b⟩ := r2.to
    exact ⟨by rw [List.map_cons, List.map_cons, List.map_cons, a], .cons r1 b⟩
theorem DL.len {H : Hp} : ∀ {L : AL} {kvs : List (Key × V)}, DL H L kvs → kvs.length = L.length
  | [], kvs, h => by
    have e : kvs = [] := h
    subst e
    rfl
  | p :: L, kvs, h => by
    obtain ⟨v, r, rfl, r1, r2⟩ := h
    rw [List.length_cons, List.length_cons, r2.len]
theorem DL.mono {H H' : Hp} (p : Pst H H') : ∀ {L : AL} {kvs : List (Key × V)}, DL H L kvs → DL H' L kvs
  | [], kvs, h => h
  | q :: L, kvs, h => by
    obtain ⟨v, r, rfl, r1, r2⟩ := h
    exact ⟨v, r, rfl, r1.mono p, r2.mono p⟩
theorem inr_dec (a b : Str) : decide ((Sum.inr a : Key) = .inr b) = decide (a = b) := dec_eq ⟨Sum.inr.inj, fun h => by rw [h]⟩
theorem DL.get {H : Hp} {x : Str} : ∀ {L : AL} {kvs : List (Key × V)}, DL H L kvs → (∃ d v, getL L x = some d ∧ valV kvs (.inr x) = some v ∧ Rep H d v) ∨ (getL L x = none ∧ valV kvs (.inr x) = none)
  | [], kvs, h => by
    have e : kvs = [] := h
    subst e
    exact .inr ⟨rfl, rfl⟩
  | q :: L, kvs, h => by
    obtain ⟨v, r, rfl, r1, r2⟩ := h
    by_cases hq : q.1 = x
    · refine .inl ⟨q.2, v, ?_, ?_, r1⟩
      · unfold getL
        simp [hq]
      · exact valV_pos (by rw [hq])
    · have e1 : getL (q :: L) x = getL L x := by
        unfold getL
        simp [hq]
      have e2 : valV ((Sum.inr q.1, v) :: r) (.inr x : Key) = valV r (.inr x) := valV_neg (fun z => hq (Sum.inr.inj z))
      rw [e1, e2]
      exact r2.get
theorem DL.any {H : Hp} {x : Str} : ∀ {L : AL} {kvs : List (Key × V)}, DL H L kvs → (kvs.any fun kv => decide (kv.1 = (.inr x : Key))) = L.any fun p => decide (p.1 = x)
  | [], kvs, h => by
    have e : kvs = [] := h
    subst e
    rfl
  | q :: L, kvs, h => by
    obtain ⟨v, r, rfl, r1, r2⟩ := h
    rw [List.any_cons, List.any_cons, r2.any, inr_dec]
theorem DL.repl {H : Hp} {x : Str} {d : D} {u : V} (hu : Rep H d u) : ∀ {L : AL} {kvs : List (Key × V)}, DL H L kvs → DL H (L.map fun p => if p.1 = x then (p.1, d) else p) (kvs.map fun kv => if kv.1 = (.inr x : Key) then (kv.1, u) else kv)
  | [], kvs, h => by
    have e : kvs = [] := h
    subst e
    exact rfl
  | q :: L, kvs, h => by
    obtain ⟨v, r, rfl, r1, r2⟩ := h
    by_cases hq : q.1 = x
    · refine ⟨u, _, ?_, ?_, r2.repl hu⟩
      · simp [hq]
      · simp [hq, hu]
    · refine ⟨v, _, ?_, ?_, r2.repl hu⟩
      · simp [hq]
      · simp [hq, r1]
theorem DL.snoc {H : Hp} {x : Str} {d : D} {u : V} (hu : Rep H d u) : ∀ {L : AL} {kvs : List (Key × V)}, DL H L kvs → DL H (L ++ [(x, d)]) (kvs ++ [(.inr x, u)])
  | [], kvs, h => by
    have e : kvs = [] := h
    subst e
    exact ⟨u, [], rfl, hu, rfl⟩
  | q :: L, kvs, h => by
    obtain ⟨v, r, rfl, r1, r2⟩ := h
    exact ⟨v, _, rfl, r1, r2.snoc hu⟩
theorem DL.put {H : Hp} {x : Str} {d : D} {u : V} (hu : Rep H d u) {L : AL} {kvs : List (Key × V)} (h : DL H L kvs) : DL H (putL L x d) (putK kvs (.inr x) u) := by
  unfold putL putK
  rw [h.any]
  by_cases q : (L.any fun p => decide (p.1 = x)) = true
  · rw [if_pos q, if_pos q]
    exact h.repl hu
  · rw [if_neg q, if_neg q]
    exact h.snoc hu
theorem At.dl {H : Hp} {a : Addr} {L : AL} (h : At H a (dicM L)) : ∃ kvs, H a = some (.dK kvs) ∧ DL H L kvs := by
  obtain ⟨kvs, e, h1, h2⟩ := h
  exact ⟨kvs, e, DL.of h1 h2⟩
theorem DL.at {H : Hp} {a : Addr} {L : AL} {kvs : List (Key × V)} (e : H a = some (.dK kvs)) (h : DL H L kvs) : At H a (dicM L) := by
  obtain ⟨h1, h2⟩ := h.to
  exact ⟨kvs, e, h1, h2⟩
theorem putL_len (L : AL) (x : Str) (d : D) : (putL L x d).length ≤ L.length + 1 := by
  unfold putL
  split
  · rw [List.length_map]
    omega
  · simp
section
variable {c : Cn} {ρ : Env2} {μ : Mu} {P : D → Mu → Prop} {A : DA} {td ty tv tx' : TE}
/-- {} -/
theorem x_dnew (k : ∀ p, P (.ref p) (μ ++ [(p, dicM [])])) : X c tDNewK ρ μ P := fun σ H Q S q p hp =>
  q _ _ (.ref p) _ (Pst.new hp) rfl (S.add hp (m := dicM []) ⟨[], upd_same, rfl, Reps.nil⟩) (k p)
/-- d[x] -/
theorem x_dgetM (h : X c td ρ μ fun o μ1 => X c ty ρ μ1 fun y μ2 => ∃ (a : Addr) (j : Nat) (L : AL) (x : Str) (d : D), o = .ref a ∧ y = .str x ∧ μ2[j]? = some (a, dicM L) ∧ getL L x = some d ∧ P d μ2) : X c (tDGet td ty) ρ μ P := fun σ H Q S q =>
  h σ H _ S fun v H1 o μ1 p1 r1 S1 h1 => h1 σ H1 _ S1 fun u H2 y μ2 p2 r2 S2 ⟨a, j, L, x, d, eo, ey, hm, hx, k⟩ => by
    subst eo ey
    have e1 : v = .ref a := r1
    have e2 : u = .str x := r2
    subst e1 e2
    obtain ⟨kvs, ea, dl⟩ := (S2.mu _ (List.mem_of_getElem? hm)).dl
    rcases dl.get (x := x) with ⟨d', w, g1, g2, g3⟩ | ⟨g1, _⟩
    · rw [hx] at g1
      cases g1
      exact ⟨a, w, rfl, by rw [← g2]; exact DGet.k (k := .inr x) ea, q w H2 d μ2 (p1.trans p2) g3 S2 k⟩
    · rw [hx] at g1
      cases g1
/-- d[x] of a dict that is data -/
theorem x_dgetD (h : X c td ρ μ fun o μ1 => X c ty ρ μ1 fun y μ2 => ∃ (L : AL) (x : Str) (d : D), o = dicD L ∧ y = .str x ∧ getL L x = some d ∧ P d μ2) : X c (tDGet td ty) ρ μ P := fun σ H Q S q =>
  h σ H _ S fun v H1 o μ1 p1 r1 S1 h1 => h1 σ H1 _ S1 fun u H2 y μ2 p2 r2 S2 ⟨L, x, d, eo, ey, hx, k⟩ => by
    subst eo ey
    obtain ⟨a, ob, kvs, e1, ea, hk, rs⟩ := r1.mono p2
    have e2 : u = .str x := r2
    subst e1 e2
    have dl := DL.of hk rs
    rcases dl.get (x := x) with ⟨d', w, g1, g2, g3⟩ | ⟨g1, _⟩
    · rw [hx] at g1
      cases g1
      exact ⟨a, w, rfl, .inl ⟨kvs, .inr x, .inr ⟨ob, ea⟩, rfl, g2.symm⟩, q w H2 d μ2 (p1.trans p2) g3 S2 k⟩
    · rw [hx] at g1
      cases g1
/-- d.get(x, z) -/
theorem x_dget2 (h : X c td ρ μ fun o μ1 => ∃ (a : Addr) (j : Nat) (L : AL), o = .ref a ∧ μ1[j]? = some (a, dicM L) ∧ X c ty ρ μ1 fun y μ2 => X c tx' ρ μ2 fun z μ3 => ∃ (j : Nat) (x : Str), y = .str x ∧ μ3[j]? = some (a, dicM L) ∧ P ((getL L x).getD z) μ3) : X c (tDGet2 td ty tx') ρ μ P := fun σ H Q S q =>
  h σ H _ S fun v H1 o μ1 p1 r1 S1 ⟨a, j0, L, eo, hm0, h1⟩ => by
    subst eo
    have e1 : v = .ref a := r1
    subst e1
    obtain ⟨kvs0, ea0, _⟩ := (S1.mu _ (List.mem_of_getElem? hm0)).dl
    refine ⟨a, rfl, .inl ⟨kvs0, .inl ea0⟩, h1 σ H1 _ S1 fun u H2 y μ2 p2 r2 S2 h2 => h2 σ H2 _ S2 fun w H3 z μ3 p3 r3 S3 ⟨j, x, ey, hm, k⟩ => ?_⟩
    subst ey
    have e2 : u = .str x := r2
    subst e2
    obtain ⟨kvs, ea, dl⟩ := (S3.mu _ (List.mem_of_getElem? hm)).dl
    refine ⟨valV kvs (.inr x), DGet.k (k := .inr x) ea, ?_⟩
    rcases dl.get (x := x) with ⟨d', w', g1, g2, g3⟩ | ⟨g1, g2⟩
    · rw [g2]
      rw [g1] at k
      exact q w' H3 d' μ3 ((p1.trans p2).trans p3) g3 S3 k
    · rw [g2]
      rw [g1] at k
      exact q w H3 z μ3 ((p1.trans p2).trans p3) r3 S3 k
/-- d[x] = e -/
theorem xs_dput (h : X c tv ρ μ fun d μ1 => X c td ρ μ1 fun o μ2 => X c ty ρ μ2 fun y μ3 => ∃ (a : Addr) (j : Nat) (L : AL) (x : Str), o = .ref a ∧ y = .str x ∧ μ3[j]? = some (a, dicM L) ∧ L.length < 100000 ∧ A.nx ρ (μ3.set j (a, dicM (putL L x d)))) : XS c (sDPut td ty tv) ρ μ A := fun σ H E S k =>
  h σ H _ S fun w H1 d μ1 p1 r1 S1 h1 => h1 σ H1 _ S1 fun v H2 o μ2 p2 r2 S2 h2 => h2 σ H2 _ S2 fun u H3 y μ3 p3 r3 S3 ⟨a, j, L, x, eo, ey, hm, hl, z⟩ => by
    subst eo ey
    have e1 : v = .ref a := r2
    have e2 : u = .str x := r3
    subst e1 e2
    obtain ⟨kvs, ea, dl⟩ := (S3.mu _ (List.mem_of_getElem? hm)).dl
    have P1 : Pst H3 (upd H3 a (.dK (putK kvs (.inr x) w))) := Pst.mut ea fun z => z
    refine ⟨a, _, rfl, DPut.k (k := .inr x) ea (by rw [dl.len]; exact Nat.lt_of_lt_of_le hl (by decide)), k.nx _ _ _ _ (((p1.trans p2).trans p3).trans P1) (S3.put (m' := dicM (putL L x d)) hm ?_) z⟩
    exact DL.at upd_same (DL.put ((r1.mono (p2.trans p3)).mono P1) (dl.mono P1))
/-- {k: v for ..} -/
theorem x_dc {tk : TE} {wi : TI} {g : TG} {tt : TT} {vs js : List Nat} (I : List D → Nat → AL → Mu → Prop) (hj : ∀ j ∈ js, j ∈ vs)
    (h : IX c wi ρ μ fun items μ1 => items.length ≤ 100000 ∧ I items 0 [] μ1 ∧ (∀ i d acc μ2 a, items[i]? = some d → I items i acc μ2 → GX c g js d (wipe2 ρ vs) ((a, dicM acc) :: μ2) fun ρ2 μ3 => MW.T c tt ρ2 μ3 fun b μ4 =>
        (b = true → X c tk ρ2 μ4 fun y μ5 => ∃ x, y = .str x ∧ X c tv ρ2 μ5 fun z μ6 => ∃ μ7, μ6 = (a, dicM acc) :: μ7 ∧ I items (i + 1) (putL acc x z) μ7) ∧ (b = false → ∃ μ6, μ4 = (a, dicM acc) :: μ6 ∧ I items (i + 1) acc μ6)) ∧
      (∀ acc μ2 a, I items items.length acc μ2 → P (.ref a) (μ2 ++ [(a, dicM acc)]))) : X c (tDc wi g tt tk tv vs) ρ μ P := fun σ H Q S q => by
  refine h σ H _ S fun J H1 items μ1 p1 S1 W ⟨hz, i0, hs, hd⟩ => ?_
  intro D hD
  have hgood : ∀ {μ' σ' H'}, Sat c (wipe2 ρ vs) μ' σ' H' → Pst H H' → Sat c ρ μ' σ H' := fun S' p => S'.slots S.len fun i d e => by
    obtain ⟨v, e1, r⟩ := S.env i d e
    exact ⟨v, e1, r.mono p⟩
  refine ⟨fun i m H' => m = items.length - i ∧ i ≤ items.length ∧ Pst H1 H' ∧ ∃ acc μ', acc.length ≤ i ∧ Sat c (wipe2 ρ vs) ((D, dicM acc) :: μ') (L2.wipe σ vs) H' ∧ I items i acc μ', ⟨items.length, rfl, Nat.zero_le _, Pst.new hD, [], μ1, Nat.le_refl _, ?_, i0⟩, ?_⟩
  · have S2 := (S1.wipe vs).add hD (m := dicM []) ⟨[], upd_same, rfl, Reps.nil⟩
    exact S2.perm (List.perm_append_comm (l₁ := [(D, dicM [])]))
  · rintro i m H' ⟨rfl, hi, p2, acc, μ', hacc, S2, hI⟩
    by_cases hlt : i < items.length
    · have hd' : items[i]? = some items[i] := List.getElem?_eq_getElem hlt
      refine .inr ⟨W.go i _ H' hd' p2, fun H2 => Pst H1 H2 ∧ ∃ acc μ', acc.length ≤ i + 1 ∧ Sat c (wipe2 ρ vs) ((D, dicM acc) :: μ') (L2.wipe σ vs) H2 ∧ I items (i + 1) acc μ', fun H2 ⟨p3, acc', μ3, ha, S3, hI2⟩ => ⟨items.length - (i + 1), by omega, rfl, hlt, p3, acc', μ3, ha, S3, hI2⟩, fun x H2 hy => ?_⟩
      obtain ⟨sm, rx⟩ := W.yld i _ H' x H2 hd' p2 hy
      refine hs i _ acc μ' D hd' hI (L2.wipe σ vs) H2 x _ (S2.same sm) rx fun ρ3 μ3 σ3 H3 p4 S3 o3 z => ⟨wipe_only o3 hj, ?_⟩
      have p5 : Pst H1 H3 := (p2.trans (Pst.same sm)).trans p4
      have back : ∀ {μ' σ'' H''}, Sat c ρ3 μ' σ'' H'' → Pst H3 H'' → Sat c (wipe2 ρ vs) μ' (L2.wipe σ vs) H'' := fun S' p => S'.slots (by rw [wipe_length, wipe2_length, S.len]) fun i d e => by
        obtain ⟨e1, e2⟩ := wipe2_some e
        obtain ⟨v, e3, r⟩ := S1.env i d e1
        exact ⟨v, by rw [wipe_get e2]; exact e3, r.mono (p5.trans p)⟩
      refine z σ3 H3 _ S3 fun b H4 μ4 p6 S4 z4 => ?_
      cases b with
      | true =>
        show tk σ3 H4 _
        refine z4.1 rfl σ3 H4 _ S4 fun y H5 dy μ5 p7 r5 S5 ⟨ks, ek, zv⟩ => ?_
        subst ek
        have ey : y = .str ks := r5
        subst ey
        refine zv σ3 H5 _ S5 fun u H6 dz μ6 p8 r6 S6 ⟨μ7, e7, hI7⟩ => ?_
        subst e7
        obtain ⟨kvs, ha, dl⟩ := (S6.mu _ List.mem_cons_self).dl
        have P5 : Pst H6 (upd H6 D (.dK (putK kvs (.inr ks) u))) := Pst.mut ha fun z => z
        refine ⟨kvs, .inr ks, rfl, ha, by rw [dl.len]; exact Nat.lt_of_le_of_lt (Nat.le_trans hacc (Nat.le_of_lt hlt)) (Nat.lt_of_le_of_lt hz (by decide)), ?_⟩
        refine ⟨(((p5.trans p6).trans p7).trans p8).trans P5, putL acc ks dz, μ7, Nat.le_trans (putL_len _ _ _) (Nat.succ_le_succ hacc), ?_, hI7⟩
        have S7 := S6.put (k := 0) (m' := dicM (putL acc ks dz)) (o := .dK (putK kvs (.inr ks) u)) rfl (DL.at upd_same (DL.put (r6.mono P5) (dl.mono P5)))
        exact back S7 (((p6.trans p7).trans p8).trans P5)
      | false =>
        obtain ⟨μ6, e6, hI6⟩ := z4.2 rfl
        subst e6
        exact ⟨p5.trans p6, acc, μ6, Nat.le_succ_of_le hacc, back S4 p6, hI6⟩
    · have e : i = items.length := by omega
      subst e
      refine .inl ⟨W.stop H' p2, ?_⟩
      have S3 := hgood S2 (p1.trans p2)
      exact q (.ref D) H' (.ref D) _ (p1.trans p2) rfl (S3.perm (List.perm_append_comm (l₂ := [(D, dicM acc)]))) (hd acc μ' D hI)
end
/-! ### d.keys(), sorted(d.keys()) -/
def keysO (p d : Addr) : HO := .ext fun h => PySem.W.KdlKeysView h p d
section
variable {X : Cx}
def rKeysK : V → List V → Hp → VK → Prop := fun x xs H Q => ∃ (a : Addr) (kvs : List (Key × V)), x = .ref a ∧ xs = [] ∧ H a = some (.dK kvs) ∧ ∀ p, H p = none → Q (.ref p) (upd H p (keysO p a))
theorem mt_keysK : MtR X "dict.keys" rKeysK := by
  intro pins s σ H x xs v us Q I rx rxs h
  obtain ⟨a, kvs, rfl, rfl, ha, q⟩ := h
  cases rx
  cases rxs
  obtain ⟨z, lo, vs, rel, dd⟩ := dk_of I.hok ha
  refine call_meetsIn PySem.F.slot_dict_keys dd.typeIs PySem.F.entry_dict_keys (PySem.F.args_dict_keys_1 _) (PySem.W.kdl_meets_keys (mixKind X.prog X.w) a lo) ⟨⟨vs, dd⟩, ?_⟩
  have hf : H s.heap.objs.size = none := I.hok.fresh (Nat.le_refl _)
  have ok : ObjOk X.prog X.w (upd H s.heap.objs.size (keysO s.heap.objs.size a)) (s.heap.push { cls := .type "dict_keys", data := .fields #[.ref a] }) s.heap.objs.size (keysO s.heap.objs.size a) :=
    ⟨⟨_, Heap.get?_push_size _ rfl, rfl, rfl⟩, ⟨_, Heap.get?_push_size _ rfl⟩, fun h1 h2 x k => let ⟨o, ho, r⟩ := x; ⟨o, k o ho, r⟩⟩
  exact ⟨.ref s.heap.objs.size, upd H s.heap.objs.size (keysO s.heap.objs.size a), I.laid (t' := s.toks) (fun b u e => Heap.get?_push_of_some _ e) (Nat.le_refl _) ok, rfl, q _ hf⟩
def rSortK : List V → Hp → VK → Prop := fun xs H Q => ∃ (p a : Addr) (kvs : List (Key × V)) (ks : List Str), xs = [.ref p] ∧ H p = some (keysO p a) ∧ H a = some (.dK kvs) ∧ kvs.map (·.1) = ks.map Sum.inr ∧ ks.length < 64 ∧
    ∀ (ys : List Str) (q : Addr), ys.Perm ks → H q = none → Q (.ref q) (upd H q (.lst (ys.map V.str)))
theorem cr_sortedK (hcalm : X.calm = true) : CallR X (.builtin "sorted") rSortK := by
  intro pins s σ H xs us Q I r q
  obtain ⟨p, a, kvs, ks, ex, hp, ha, hks, h64, q⟩ := q
  subst ex
  obtain rfl := Vals.ref1 r
  have view : PySem.W.KdlKeysView s.heap p a := (show ObjOk X.prog X.w H s.heap p (keysO p a) from I.hok p _ hp).1
  obtain ⟨z, lo, vs, rel, dd⟩ := dk_of I.hok ha
  obtain ⟨ep, hat⟩ := dd.dictAt
  have hkeys : vs.map (·.1) = ks.map Sum.inr := rel.keys.symm.trans hks
  have hl : vs.length = ks.length := by
    have e := congrArg List.length hkeys
    rw [List.length_map, List.length_map] at e
    exact e
  have h16 : vs.length ≤ sizeLine := by rw [hl, sizeLine_eq]; omega
  refine Calls.call_function_entry PyProof.Rows.kind_sorted PyProof.Rows.plain_sorted PyProof.Rows.entry_sorted (PyProof.Rows.args_sorted1 _) ?_
  unfold Builtin.«sorted»
  refine wpAny_bind (m := checkCount "sorted" 1 1 _) (wpAny_pure ?_)
  refine wpAny_bind (PySem.W.kdu_collect (A := X.A.in1) (PySem.W.kdl_keys (r := p) (knd := mixKind X.prog X.w) (kvs := vs) (ep := ep)) (I.ok.hd hcalm) ⟨view, hat⟩ h16 fun h' tk acc hk hacc => ?_)
  have hal : acc.toList.length = ks.length := by rw [Array.length_toList, hacc.1, hl]
  have hS : StrsAre acc.toList ks := strs_at hal fun j v e => by
    obtain ⟨k, x, e1, e2⟩ := hacc.2 j v (by rw [← Array.getElem?_toList]; exact e)
    have e3 : (vs.map (·.1))[j]? = some k := by rw [List.getElem?_map, e1]; all_goals rfl
    rw [hkeys, List.getElem?_map] at e3
    cases e4 : ks[j]? with
    | none => rw [e4] at e3; cases e3
    | some y =>
      rw [e4] at e3
      have e5 : Sum.inr y = k := Option.some.inj e3
      subst e5
      obtain ⟨t, ev⟩ := Value.isStrOf_shape (x := y) (v := v) e2
      exact ⟨y, t, rfl, ev⟩
  have I1 : Inv X pins σ H { s with heap := h', toks := tk } := I.kept hk
  refine wpAny_bind (wpAny_newList ?_ (by rw [hal, sizeLine_eq]; omega))
  have hoL : (h'.push (seqObj "list" acc.toList.toArray 0)).get? h'.objs.size = some (seqObj "list" acc.toList.toArray 0) := Heap.get?_push_size _ rfl
  show wpAny _ _ _ _ _ { s with heap := h'.push (seqObj "list" acc.toList.toArray 0), toks := tk }
  refine wpAny_bind (wpAny_holding (wpAny_call_entry PyProof.Rows.slot_list_sort ⟨_, hoL, rfl⟩ PyProof.Rows.entry_list_sort
    (list_sort_treeK strKind_oneLt (s := { s with heap := h'.push (seqObj "list" acc.toList.toArray 0), toks := tk }) hoL hS.keysOf (fun v₁ v₂ rest e => keyKind_strs (by rw [← e]; exact hS)) (by rw [hal]; exact h64) fun st' hp hs => ⟨_, rfl, ?_⟩)
    (PyProof.Rows.args_list_sort _)))
  obtain ⟨ys, g1, g2, g3⟩ := sorted_out_str hS hp hs
  obtain ⟨e', he'⟩ := PyProof.Rows.sortedHeap_at (vs := acc.toList) (out := (arrOf st').map (·.2)) hoL
  have hlen : (ys.map V.str).length ≤ sizeLine := by
    rw [List.length_map, g2.length_eq]
    exact Nat.le_trans (Nat.le_of_lt h64) (by decide)
  refine wpAny_pure ⟨_, rfl, .ref h'.objs.size, upd H h'.objs.size (.lst (ys.map V.str)), I1.laid (t' := tk) (fun b u e => ?_) (Nat.le_refl _)
    (show ObjOk X.prog X.w _ _ _ (.lst (ys.map V.str)) from ⟨hlen, ((arrOf st').map (·.2)).toList, e', vals_of_strs g1, by rw [Array.toArray_toList]; exact he'⟩), rfl, q ys _ g2 (I1.hok.fresh (Nat.le_refl _))⟩
  have hb : b < h'.objs.size := Heap.lt_size e
  rw [PyProof.Rows.sortedHeap_old (Nat.ne_of_lt hb) (by rw [size_push']; exact Nat.lt_succ_of_lt hb)]
  exact Heap.get?_push_of_some _ e
end
section
variable {c : Cn} {ρ : Env2} {μ : Mu} {P : D → Mu → Prop} {K : PySem.W.Frag}
abbrev viewM (p a : Addr) : MO := .abs fun H => H p = some (keysO p a)
theorem x_keys {to : TE} (h : X c to ρ μ fun o μ1 => ∃ (a : Addr) (j : Nat) (L : AL), o = .ref a ∧ μ1[j]? = some (a, dicM L) ∧ ∀ p, P (.ref p) (μ1 ++ [(p, viewM p a)])) : X c (tBM0 K "dict" rKeysK to) ρ μ P := fun σ H Q S q =>
  h σ H _ S fun v H1 o μ1 p1 r1 S1 ⟨a, j, L, eo, hm, k⟩ => by
    subst eo
    have e1 : v = .ref a := r1
    subst e1
    obtain ⟨kvs, ea, dl⟩ := (S1.mu _ (List.mem_of_getElem? hm)).dl
    refine ⟨.inr (.inr (.inl ⟨rfl, .inl ⟨kvs, ea⟩⟩)), a, kvs, rfl, rfl, ea, fun p hp => ?_⟩
    exact q _ _ (.ref p) _ (p1.trans (Pst.new hp)) rfl (S1.add hp (m := viewM p a) ⟨upd_same, ⟨_, upd_same, fun z => z⟩, fun H1 H2 _ e z => e.symm.trans z⟩) (k p)
theorem k_sortedK {p a : Addr} {i j : Nat} {L : AL} (hp : μ[i]? = some (p, viewM p a)) (hm : μ[j]? = some (a, dicM L)) (h64 : L.length < 64) (k : ∀ q ys, ys.Perm (L.map (·.1)) → P (.ref q) (μ ++ [(q, .lst (dS ys))])) : KX c rSortK [.ref p] μ P := fun ρ σ H vs Q S r q => by
  obtain ⟨v, r0, rfl, rfl, rfl⟩ := r
  obtain ⟨kvs, ea, dl⟩ := (S.mu _ (List.mem_of_getElem? hm)).dl
  obtain ⟨h1, _⟩ := S.mu _ (List.mem_of_getElem? hp)
  refine ⟨p, a, kvs, L.map (·.1), rfl, h1, ea, dl.to.1, by rw [List.length_map]; exact h64, fun ys b hy hb => ?_⟩
  exact q _ _ (.ref b) _ (Pst.new hb) rfl (S.add hb (m := .lst (dS ys)) ⟨_, upd_same, dS_reps ys⟩) (k b ys hy)
end
end MW
end
section
open MW L2
local macro_rules | `(tactic| walk_at "d1") => `(tactic| first
  | ((with_reducible refine x_varE ?_); refine ⟨_, rfl, ?_⟩)
  | with_reducible refine x_int ?_
  | with_reducible refine x_str ?_
  | with_reducible refine x_bl ?_
  | with_reducible refine x_non ?_
  | with_reducible refine x_ref ?_
  | with_reducible refine x_ty ?_
  | with_reducible refine x_op ?_
  | with_reducible refine x_un ?_
  | with_reducible refine a_nil ?_
  | with_reducible refine a_cons ?_
  | ((with_reducible refine x_tup ?_); walk_at "ad"; refine ⟨by first | exact (by decide) | (simp; done) | omega, ?_⟩)
  | ((with_reducible refine x_lst ?_); walk_at "ad"; refine ⟨by first | exact (by decide) | (simp; done) | omega, fun _ => ?_⟩)
  | with_reducible refine x_if ?_
  | with_reducible refine x_andV ?_
  | with_reducible refine x_orV ?_
  | with_reducible refine x_notV ?_
  | with_reducible refine t_test ?_
  | with_reducible refine t_B ?_
  | with_reducible refine t_yes ?_
  | with_reducible refine r_inS ?_
  | with_reducible refine r_notInS ?_
  | with_reducible refine t_and ?_
  | with_reducible refine t_or ?_
  | with_reducible refine t_not ?_
  | ((with_reducible refine x_fz ?_); walk_at "ad"; (first | refine ⟨_, _, 0, rfl, rfl, ?_⟩ | refine ⟨_, _, 1, rfl, rfl, ?_⟩ | refine ⟨_, _, 2, rfl, rfl, ?_⟩ | refine ⟨_, _, 3, rfl, rfl, ?_⟩))
  | with_reducible refine xs_seq ?_
  | with_reducible refine xs_next ?_
  | with_reducible refine xs_ret ?_
  | with_reducible refine xs_retN ?_
  | with_reducible refine xs_drop ?_
  | with_reducible apply xs_asg
  | with_reducible refine xs_if ?_
  | with_reducible refine g_name ?_
  | with_reducible refine gs_nil ?_
  | with_reducible apply gs_cons
  | ((with_reducible apply g_tup); exact rfl)
  | with_reducible refine x_chain ?_
  | with_reducible refine x_CB ?_
  | with_reducible refine x_call0 ?_
  | with_reducible refine x_sl ?_
  | with_reducible refine o_none ?_
  | with_reducible refine o_some ?_
  | ((with_reducible refine x_prop ?_); walk_at "ad"; refine ⟨_, _, _, rfl, rfl, ?_⟩)
  | with_reducible refine r_I0 ?_
  | with_reducible refine r_I0b ?_
  | with_reducible refine r_eqI ?_
  | with_reducible refine r_neI ?_
  | with_reducible refine r_eqS ?_
  | with_reducible refine r_neS ?_
  | with_reducible refine r_isN ?_
  | with_reducible refine r_notN ?_
  | with_reducible refine u_neg ?_
  | ((with_reducible refine r_ixTE ?_); first | refine ⟨_, ‹_›, ?_⟩ | refine ⟨_, rfl, ?_⟩)
  | ((with_reducible refine r_ixLE ?_); first | refine ⟨_, ‹_›, ?_⟩ | refine ⟨_, rfl, ?_⟩)
  | ((with_reducible refine k_isIE ?_); refine ⟨_, rfl, ?_⟩)
  | ((with_reducible refine k_isSE ?_); refine ⟨_, rfl, ?_⟩)
  | ((with_reducible refine k_isTE ?_); refine ⟨_, rfl, ?_⟩)
  | ((with_reducible refine x_BM ?_); walk_at "ad"; first | refine ⟨ty_lst (j := 0) rfl, ?_⟩ | refine ⟨ty_lst (j := 1) rfl, ?_⟩ | refine ⟨ty_lst (j := 2) rfl, ?_⟩ | refine ⟨ty_lst (j := 3) rfl, ?_⟩)
  | ((with_reducible refine m_appE ?_); (first | refine ⟨0, _, rfl, ?_, ?_⟩ | refine ⟨1, _, rfl, ?_, ?_⟩ | refine ⟨2, _, rfl, ?_, ?_⟩ | refine ⟨3, _, rfl, ?_, ?_⟩); (walk_at "len"))
  | ((with_reducible refine k_lenS ?_ ?_); (walk_at "len"))
  | ((with_reducible refine s_txt ?_ ?_); (walk_at "len"))
  | ((with_reducible refine r_ixSE ?_ ?_); (walk_at "len"); (first | refine ⟨_, ‹_›, ?_⟩ | refine ⟨_, rfl, ?_⟩))
  | with_reducible refine k_lenT ?_
  | with_reducible refine k_lenL ?_
  | ((with_reducible refine k_lenME ?_); (first | refine ⟨0, _, rfl, ?_⟩ | refine ⟨1, _, rfl, ?_⟩ | refine ⟨2, _, rfl, ?_⟩ | refine ⟨3, _, rfl, ?_⟩))
  | ((with_reducible refine r_ixME ?_); (first | refine ⟨0, _, _, rfl, ‹_›, ?_⟩ | refine ⟨1, _, _, rfl, ‹_›, ?_⟩ | refine ⟨2, _, _, rfl, ‹_›, ?_⟩ | refine ⟨0, _, _, rfl, rfl, ?_⟩ | refine ⟨1, _, _, rfl, rfl, ?_⟩ | refine ⟨2, _, _, rfl, rfl, ?_⟩ | refine ⟨3, _, _, rfl, rfl, ?_⟩))
  | ((with_reducible refine x_tupleM ?_); walk_at "ad"; (first | refine ⟨_, 0, _, rfl, rfl, ?_⟩ | refine ⟨_, 1, _, rfl, rfl, ?_⟩ | refine ⟨_, 2, _, rfl, rfl, ?_⟩ | refine ⟨_, 3, _, rfl, rfl, ?_⟩))
  | ((with_reducible refine r_neT0 (n := 0) ?_ ?_ ?_); exact (by decide); exact (deep_dI _ _))
  | ((with_reducible refine x_rev2 ?_); walk_at "ad"; refine ⟨_, _, rfl, ?_⟩)
  | with_reducible refine x_join ?_
  | with_reducible refine i_enumT ?_
  | with_reducible refine i_rng1 ?_
  | with_reducible refine i_rng2 ?_
  | with_reducible refine i_tup ?_
  | with_reducible refine i_lst ?_
  | with_reducible refine i_str ?_
  | refine ⟨_, rfl, ?_⟩
  | ((with_reducible refine brT ?_ ?_); (first | assumption | exact rfl | decide +kernel))
  | ((with_reducible refine brF ?_ ?_); (first | assumption | exact rfl | decide +kernel)))
local macro_rules | `(tactic| walk_at "len") => `(tactic| first | assumption | omega | ((simp only [List.length_append, List.length_cons, List.length_nil, List.length_map, List.length_set]) <;> omega) | (simp; done) | (simp; omega))
local macro_rules | `(tactic| walk_at "ad") => `(tactic| repeat (walk_at "d1"))
local macro_rules | `(tactic| walk_at "sub") => `(tactic| first | exact List.nil_sublist _ | exact List.Sublist.refl _ | (refine List.Sublist.cons₂ _ ?_; walk_at "sub") | (refine List.Sublist.cons _ ?_; walk_at "sub"))
/-! rivals. -/
namespace MW
open PySem PySem.Spec PyProof.Rows L2
open C8 (pe_c pe_gc Cal)
theorem nodup_len {α : Type} [DecidableEq α] : ∀ {l m : List α}, l.Nodup → (∀ x ∈ l, x ∈ m) → l.length ≤ m.length
  | [], m, _, _ => Nat.zero_le _
  | a :: l, m, h, s => by
    obtain ⟨h1, h2⟩ := List.nodup_cons.mp h
    have ha := s a List.mem_cons_self
    have := nodup_len (m := m.erase a) h2 fun x hx => (List.mem_erase_of_ne (fun e => h1 (by rw [← e]; exact hx))).mpr (s x (List.mem_cons_of_mem _ hx))
    rw [List.length_erase_of_mem ha] at this
    have hp : 0 < m.length := List.length_pos_of_mem ha
    rw [List.length_cons]
    omega
theorem any_keys (L : AL) (x : Str) : (L.any fun p => decide (p.1 = x)) = true ↔ x ∈ L.map (·.1) := by
  rw [List.any_eq_true, List.mem_map]
  exact ⟨fun ⟨p, h, e⟩ => ⟨p, h, of_decide_eq_true e⟩, fun ⟨p, h, e⟩ => ⟨p, h, decide_eq_true e⟩⟩
theorem putL_keys (L : AL) (x : Str) (d : D) : (putL L x d).map (·.1) = if x ∈ L.map (·.1) then L.map (·.1) else L.map (·.1) ++ [x] := by
  unfold putL
  by_cases h : x ∈ L.map (·.1)
  · rw [if_pos ((any_keys L x).mpr h), if_pos h, List.map_map]
    refine List.map_congr_left fun p _ => ?_
    show (if p.1 = x then (p.1, d) else p).1 = p.1
    split <;> rfl
  · rw [if_neg (fun z => h ((any_keys L x).mp z)), if_neg h, List.map_append]
    rfl
theorem putL_nd {L : AL} {x : Str} {d : D} (h : (L.map (·.1)).Nodup) : ((putL L x d).map (·.1)).Nodup := by
  rw [putL_keys]
  split
  · exact h
  · rename_i hx
    rw [List.nodup_append]
    refine ⟨h, by simp, fun a ha b hb e => ?_⟩
    rw [List.mem_singleton] at hb
    subst hb
    subst e
    exact hx ha
theorem putL_key {L : AL} {x y : Str} {d : D} : y ∈ (putL L x d).map (·.1) ↔ y ∈ L.map (·.1) ∨ y = x := by
  rw [putL_keys]
  split
  · rename_i h
    exact ⟨.inl, fun z => z.elim id fun e => by rw [e]; exact h⟩
  · rw [List.mem_append, List.mem_singleton]
theorem putL_mem {L : AL} {x : Str} {d : D} {q : Str × D} (h : q ∈ putL L x d) : q ∈ L ∨ q = (x, d) := by
  unfold putL at h
  split at h
  · obtain ⟨p, hp, e⟩ := List.mem_map.mp h
    split at e
    · rename_i hx
      exact .inr (by rw [← e, hx])
    · exact .inl (by rw [← e]; exact hp)
  · rcases List.mem_append.mp h with h | h
    · exact .inl h
    · exact .inr (List.mem_singleton.mp h)
theorem putL_new {L : AL} {x : Str} {d : D} (h : x ∉ L.map (·.1)) : putL L x d = L ++ [(x, d)] := by
  unfold putL
  rw [if_neg fun z => h ((any_keys L x).mp z)]
theorem getL_mem {L : AL} {x : Str} {d : D} (h : getL L x = some d) : (x, d) ∈ L := by
  unfold getL at h
  cases q : L.find? fun p => decide (p.1 = x) with
  | none =>
    rw [q] at h
    cases h
  | some p =>
    rw [q] at h
    have h1 := List.mem_of_find?_eq_some q
    have h2 := List.find?_some q
    have e1 : p.1 = x := of_decide_eq_true h2
    have e2 : p.2 = d := Option.some.inj h
    rw [← e1, ← e2]
    exact h1
theorem getL_some {L : AL} {x : Str} (h : x ∈ L.map (·.1)) : ∃ d, getL L x = some d := by
  unfold getL
  cases q : L.find? fun p => decide (p.1 = x) with
  | none =>
    obtain ⟨p, hp, e⟩ := List.mem_map.mp h
    have := List.find?_eq_none.mp q p hp
    exact absurd (decide_eq_true e) this
  | some p => exact ⟨p.2, rfl⟩
section
variable {c : Cn} {ρ : Env2} {μ : Mu} {P : D → Mu → Prop}
/-- {k: v for target in iter}, the keys differ -/
theorem x_dmap {α : Type} {wi : TI} {g : TG} {tk tv : TE} {vs js : List Nat} (Gd : List α → Mu → Prop) (e F : α → D) (kf : α → Str) (hj : ∀ j ∈ js, j ∈ vs) (hz : ∀ l μ1, Gd l μ1 → l.length ≤ 100000 ∧ (l.map kf).Nodup)
    (h : IX c wi ρ μ fun items μ2 => ∃ l, items = l.map e ∧ Gd l μ2)
    (hs : ∀ (l : List α) (μ1 : Mu) (i : Nat) (x : α) (acc : AL) (a : Addr), Gd l μ1 → l[i]? = some x → GX c g js (e x) (wipe2 ρ vs) ((a, dicM acc) :: μ1) fun ρ2 μ3 => X c tk ρ2 μ3 fun y μ5 => y = .str (kf x) ∧ X c tv ρ2 μ5 fun z μ6 => z = F x ∧ ((a, dicM acc) :: μ1).Sublist μ6)
    (hd : ∀ l μ1 a, Gd l μ1 → P (.ref a) (μ1 ++ [(a, dicM (l.map fun x => (kf x, F x)))])) : X c (tDc wi g tYes tk tv vs) ρ μ P := by
  refine x_dc (js := js) (fun items i acc μ2 => ∃ l, items = l.map e ∧ Gd l μ2 ∧ acc = (l.take i).map fun x => (kf x, F x)) hj (h.imp fun items μ2 hh => ?_)
  obtain ⟨l, e1, hg⟩ := hh
  refine ⟨by rw [e1, List.length_map]; exact (hz l _ hg).1, ⟨l, e1, hg, by simp⟩, ?_, ?_⟩
  · intro i d acc μ3 a hi hI
    obtain ⟨l, e1, hg, rfl⟩ := hI
    have nd := (hz l _ hg).2
    rw [e1, List.getElem?_map] at hi
    cases hx : l[i]? with
    | none =>
      rw [hx] at hi
      cases hi
    | some x =>
      rw [hx] at hi
      have e2 : e x = d := Option.some.inj hi
      subst e2
      refine (hs l _ i x _ a hg hx).imp fun ρ2 μ4 hh => ?_
      refine t_yes ⟨fun _ => ?_, fun z => by cases z⟩
      refine hh.imp fun y μ5 ⟨ey, hv⟩ => ⟨_, ey, ?_⟩
      refine X.let (ν := []) (hv.imp fun z μ6 ⟨ez, sl⟩ => ⟨_, sl, ?_⟩)
      refine ⟨_, rfl, l, e1, hg, ?_⟩
      have hn : kf x ∉ ((l.take i).map fun x => (kf x, F x)).map (·.1) := fun hm => by
        rw [List.map_map, List.mem_map] at hm
        obtain ⟨y, hy, ek⟩ := hm
        obtain ⟨j, hj⟩ := List.getElem?_of_mem hy
        have hji : j < i := by
          have := (List.getElem?_eq_some_iff.mp hj).1
          rw [List.length_take] at this
          omega
        rw [List.getElem?_take_of_lt hji] at hj
        have a1 : (l.map kf)[j]? = some (kf x) := by
          rw [List.getElem?_map, hj]
          exact congrArg some ek
        have a2 : (l.map kf)[i]? = some (kf x) := by
          rw [List.getElem?_map, hx]
          rfl
        have := nd_ix nd a1 a2
        omega
      rw [putL_new hn, List.take_succ, hx, ez, List.map_append]
      rfl
  · intro acc μ3 a hI
    obtain ⟨l, e1, hg, rfl⟩ := hI
    have : ((l.take items.length).map fun x => (kf x, F x)) = l.map fun x => (kf x, F x) := by rw [e1, List.length_map, List.take_length]
    rw [this]
    exact hd l _ a hg
end
/-! ### the foes so far -/
/-- t shows within n that f (at i) comes ahead of e (at k) -/
def Foe (p : Spl) (e : List Nat × Int) (k : Nat) (n : Int) (t : Wd) (i : Nat) (f : List Nat × Int) : Prop := p.es[i]? = some f ∧ i ≠ k ∧ price p.sl e.1 t ≤ n ∧ Ahead p t i k f e
abbrev trpOf (p : Spl) (e : List Nat × Int) (t : Wd) : Trp := (price p.sl e.1 t, ((t.length : Nat) : Int), t)
structure Foes (p : Spl) (e : List Nat × Int) (k : Nat) (n : Int) (S : Wd → Nat → Prop) (L : AL) : Prop where
  good : ∀ q ∈ L, ∃ f i t, Foe p e k n t i f ∧ Over p t ∧ t.length ≤ 2000 ∧ q = (tx f.1, tD (trpOf p e t))
  nd : (L.map (·.1)).Nodup
  all : ∀ t i f, S t i → Foe p e k n t i f → tx f.1 ∈ L.map (·.1)
theorem Foes.mono {p : Spl} {e : List Nat × Int} {k : Nat} {n : Int} {S S' : Wd → Nat → Prop} {L : AL} (h : Foes p e k n S L) (m : ∀ t i f, S' t i → Foe p e k n t i f → S t i) : Foes p e k n S' L := ⟨h.good, h.nd, fun t i f s g => h.all t i f (m t i f s g) g⟩
theorem Foes.len {p : Spl} {e : List Nat × Int} {k : Nat} {n : Int} {S : Wd → Nat → Prop} {L : AL} (h : Foes p e k n S L) (hp : OkP p) : L.length ≤ 4 := by
  have := nodup_len (m := p.es.map fun f => tx f.1) h.nd fun x hx => by
    obtain ⟨q, hq, rfl⟩ := List.mem_map.mp hx
    obtain ⟨f, i, t, g, _, _, rfl⟩ := h.good q hq
    exact List.mem_map.mpr ⟨f, List.mem_of_getElem? g.1, rfl⟩
  rw [List.length_map, List.length_map] at this
  have := hp.len
  omega
theorem Foes.put {p : Spl} {e : List Nat × Int} {k : Nat} {n : Int} {S : Wd → Nat → Prop} {L : AL} {t : Wd} {i : Nat} {f : List Nat × Int} {m : Trp} (hp : OkP p) (h : Foes p e k n S L) (g : Foe p e k n t i f) (ho : Over p t) (hl : t.length ≤ 2000)
    (hm : m = trpOf p e t ∨ getL L (tx f.1) = some (tD m)) : Foes p e k n (fun t' i' => S t' i' ∨ (t' = t ∧ i' = i)) (putL L (tx f.1) (tD m)) := by
  refine ⟨fun q hq => ?_, putL_nd h.nd, fun t' i' f' s g' => putL_key.mpr ?_⟩
  · rcases putL_mem hq with hq | rfl
    · exact h.good q hq
    · rcases hm with rfl | hm
      · exact ⟨f, i, t, g, ho, hl, rfl⟩
      · exact h.good _ (getL_mem hm)
  · rcases s with s | ⟨rfl, rfl⟩
    · exact .inl (h.all t' i' f' s g')
    · have e1 := g.1
      rw [g'.1] at e1
      cases e1
      exact .inr rfl
/-- what rivals gives -/
def Riv8 (p : Spl) (e : List Nat × Int) (k : Nat) (n : Int) (d : D) : Prop := ∃ F : List (Wd × Wd), d = dicD (F.map fun q => (tx q.1, .str (tx q.2))) ∧ (F.map (·.1)).Nodup ∧
  (∀ q ∈ F, ∃ f i, Foe p e k n q.2 i f ∧ f.1 = q.1 ∧ Over p q.2 ∧ q.2.length ≤ 2000) ∧ ∀ u i f, Over p u → Foe p e k n u i f → f.1 ∈ F.map (·.1)
theorem foe_sta {p : Spl} {e : List Nat × Int} {k : Nat} {n : Int} {t u : Wd} {i : Nat} {f : List Nat × Int} (hp : OkP p) (he : p.es[k]? = some e) (h : sta p t = sta p u) (hl : t.length ≤ u.length) (g : Foe p e k n u i f) : Foe p e k n t i f := by
  obtain ⟨g1, g2, g3, g4⟩ := g
  have q2 := vt_sta h (List.mem_of_getElem? he)
  have q6 := vt_sta h (List.mem_of_getElem? g1)
  have q3 : p.sl.ex * ((t.length : Nat) : Int) ≤ p.sl.ex * ((u.length : Nat) : Int) := Int.mul_le_mul_of_nonneg_left (by omega) (by have := hp.ex; omega)
  have q4 := price_wv p.sl e.1 t
  have q5 := price_wv p.sl e.1 u
  refine ⟨g1, g2, by omega, ?_⟩
  unfold Ahead vt at *
  omega
theorem list_of {α β : Type} {R : α → β → Prop} : ∀ {l : List α}, (∀ x ∈ l, ∃ y, R x y) → ∃ m : List β, m.length = l.length ∧ ∀ (i : Nat) x y, l[i]? = some x → m[i]? = some y → R x y
  | [], _ => ⟨[], rfl, fun i x y h => by simp at h⟩
  | a :: l, h => by
    obtain ⟨b, hb⟩ := h a List.mem_cons_self
    obtain ⟨m, h1, h2⟩ := list_of (R := R) (l := l) fun x hx => h x (List.mem_cons_of_mem _ hx)
    refine ⟨b :: m, by simp [h1], fun i x y hx hy => ?_⟩
    cases i with
    | zero =>
      simp at hx hy
      subst hx hy
      exact hb
    | succ i =>
      simp at hx hy
      exact h2 i x y hx hy
/-- the foes' words and pages, in the order of ys -/
theorem foes_list {p : Spl} {e : List Nat × Int} {k : Nat} {n : Int} {S : Wd → Nat → Prop} {L : AL} (h : Foes p e k n S L) {ys : List Str} (hy : ys.Perm (L.map (·.1))) :
    ∃ F : List (Wd × Wd), ys = F.map (fun q => tx q.1) ∧ ∀ q ∈ F, ∃ f i, Foe p e k n q.2 i f ∧ f.1 = q.1 ∧ Over p q.2 ∧ q.2.length ≤ 2000 ∧ getL L (tx q.1) = some (tD (trpOf p e q.2)) := by
  have key : ∀ y ∈ ys, ∃ q : Wd × Wd, y = tx q.1 ∧ ∃ f i, Foe p e k n q.2 i f ∧ f.1 = q.1 ∧ Over p q.2 ∧ q.2.length ≤ 2000 ∧ getL L (tx q.1) = some (tD (trpOf p e q.2)) := fun y hy2 => by
    obtain ⟨d, hd⟩ := getL_some (hy.mem_iff.mp hy2)
    obtain ⟨f, i, t, g, ho, hl, eq⟩ := h.good _ (getL_mem hd)
    cases eq
    exact ⟨(f.1, t), rfl, f, i, g, rfl, ho, hl, hd⟩
  clear hy
  induction ys with
  | nil => exact ⟨[], rfl, fun q hq => by cases hq⟩
  | cons y ys ih =>
    obtain ⟨q, e1, e2⟩ := key y List.mem_cons_self
    obtain ⟨F, f1, f2⟩ := ih fun z hz => key z (List.mem_cons_of_mem _ hz)
    refine ⟨q :: F, by rw [List.map_cons, ← e1, ← f1], fun r hr => ?_⟩
    rcases List.mem_cons.mp hr with rfl | hr
    · exact e2
    · exact f2 r hr
def G_rivals (K : PySem.W.Frag) : Spc := fun ds R => ∃ (p : Spl) (e : List Nat × Int) (k : Nat) (n : Int), OkP p ∧ p.es[k]? = some e ∧ 0 ≤ n ∧ n ≤ 9999 ∧ NotMany p 2000 ∧ ds = [splD K p, .str (tx e.1), .int n, .int 2000] ∧ R = Riv8 p e k n
abbrev N_rivals : List Str := ["speller", "word", "up_to", "most", "at", "found", "here", "text", "worth", "k", "other", "own"]
theorem sc_rivals : FnScope N_rivals ["speller", "word", "up_to", "most"] (defScope s_rivals) := ⟨rfl, rfl, rfl, by decide +kernel, rfl, by decide +kernel, by decide +kernel⟩
theorem Tx.c_rivals {w : World} {K : PySem.W.Frag} {mg : Str → Option Value} {base : Heap} (T : Tx K mg) (M : TmOk P0 w K mg base) : Cal P0 w K mg base 12 "rivals" (spF (G_rivals K)) [.int 2000] := by
  refine mkCalK (k := 11) 3 T.d_rivals T.g_rivals sc_rivals rfl (fun D doc pm an cdv ct us ks hu hk => match us, ks, hu, hk with | [_, _, _], [_], _, _ => ⟨_, _, _, _, _, _, rfl, rfl, rfl⟩) (by intro ds R h; obtain ⟨p, e, k, n, hp, hk, hn0, hn, hm, rfl, rfl⟩ := h; rfl) fun cdv A outer s H E hr => ?_
  have nd := sc_rivals.nd
  refine ⟨_, (pss_cons (ps_expr (pe_c T.c_need_most hr (by decide) (by rfl) (pa_cons (pv 3) pa_nil)))
  (pss_cons (ps_set (i := 4) nd rfl (by first | exact Or.inl rfl | exact Or.inr rfl) (pe_c T.c_place_of hr (by decide) (by rfl) (pa_cons (pe_P T.pr_entries (pv 0) hr (by decide)) (pa_cons (pv 1) pa_nil))))
  (pss_cons (ps_expr (pe_c T.c_need_price hr (by decide) (by rfl) (pa_cons (pv 2) pa_nil)))
  (pss_cons (ps_set (i := 5) nd rfl (by first | exact Or.inl rfl | exact Or.inr rfl) pe_dnewK)
  (pss_cons (ps_for PassesOwn.never rfl (pi_list (pe_cX0 (T.c_walks M) hr (by decide) (by rfl) (pa_cons (pv 0) (pa_cons (pv 3) pa_nil)))) (pg_tup rfl (pgs_cons (pg_name (i := 6) nd rfl (by first | exact Or.inl rfl | exact Or.inr rfl)) (pgs_cons (pg_name (i := 7) nd rfl (by first | exact Or.inl rfl | exact Or.inr rfl)) pgs_nil))) (pss_cons (ps_set (i := 8) nd rfl (by first | exact Or.inl rfl | exact Or.inr rfl) (pe_op op_add (pe_ix ix_tup (pe_ix ix_tup (pe_ix ix_tup (pv 6) pe_int (fun _ _ => rfl)) (pv 4) (fun _ _ => rfl)) (pe_un un_neg pe_int) (fun _ _ => rfl)) (pe_op op_mul (pe_P T.pr_extra (pe_P T.pr_slips (pv 0) hr (by decide)) hr (by decide)) (pe_callB call_len_str (by rfl) T.f_len boot_len (pa_cons (pv 7) pa_nil)))))
  (pss_one (ps_for PassesOwn.never rfl (pi_enumT (by rfl) T.f_enumerate (pa_cons (pe_P T.pr_entries (pv 0) hr (by decide)) pa_nil)) (pg_tup rfl (pgs_cons (pg_name (i := 9) nd rfl (by first | exact Or.inl rfl | exact Or.inr rfl)) (pgs_cons (pg_tup rfl (pgs_cons (pg_name (i := 10) nd rfl (by first | exact Or.inl rfl | exact Or.inr rfl)) (pgs_cons (pg_name (i := 11) nd rfl (by first | exact Or.inl rfl | exact Or.inr rfl)) pgs_nil))) pgs_nil))) (pss_one (ps_if (PW.pt (pw_and (pt_cmpR op_ne (pv 9) (pv 4) (nomark _)) (pw_and (pt_cmpR op_le (pv 8) (pv 2) (nomark _)) (pw_and1 (pt_val (pe_c T.c_beats hr (by decide) (by rfl) (pa_cons (pe_P T.pr_entries (pv 0) hr (by decide)) (pa_cons (pe_ix ix_tup (pv 6) pe_int (fun _ _ => rfl)) (pa_cons (pv 9) (pa_cons (pv 4) pa_nil)))))))))) (pss_one (ps_dput (hu_of hr) (pv 5) (pv 10) (pe_callB (call_minTr rfl hr.units) (by rfl) T.f_min boot_min (pa_cons (pe_lst (pa_cons (pe_dget2 (hu_of hr) (pv 5) (pv 10) (pe_tup (pa_cons (pv 8) (pa_cons (pe_callB call_len_str (by rfl) T.f_len boot_len (pa_cons (pv 7) pa_nil)) (pa_cons (pv 7) pa_nil)))) ⟨rfl, rfl, rfl, rfl⟩) (pa_cons (pe_tup (pa_cons (pv 8) (pa_cons (pe_callB call_len_str (by rfl) T.f_len boot_len (pa_cons (pv 7) pa_nil)) (pa_cons (pv 7) pa_nil)))) pa_nil))) pa_nil)) rfl)) pss_nil))))))
  (pss_one (ps_ret (pe_fz (pe_dc (own := [("other", 10)]) (g := (gName 10)) (tt := tYes) (tk := (tVar 10)) (tv := (tOp (rIxT K) (tDGet (tVar 5) (tVar 10)) (tC (.int 2)))) rfl nd (pi_list (pe_fz (pe_callB (cr_sortedK rfl) (by rfl) T.f_sorted boot_sorted (pa_cons (pe_bm0 PySem.F.plainAttrs_dict PySem.F.slot_dict_keys PySem.F.type_dict_keys mt_keysK (pv 5)) pa_nil)))) (blkOk_by (N := N_rivals) (sc := defScope s_rivals) (by decide +kernel)) (fun _ _ _ _ _ => (pg_name (i := 10) nd rfl (by first | exact Or.inl rfl | exact Or.inr rfl))) (fun _ _ _ _ _ => pts_nil) (fun _ _ _ _ _ => (pv 10)) (fun _ _ _ _ _ => (pe_ix ix_tup (pe_dget (hu_of hr) (pv 5) (pv 10) (fun _ _ => rfl)) pe_int (fun _ _ => rfl)))))))))))), ?_⟩
  rintro ds R ⟨p, e, k, n, hp, hk, hn0, hn, hm, rfl, rfl⟩
  have h4 := hp.len
  walk_at "ad"
  refine ⟨_, ⟨2000, by decide, by decide, rfl, rfl⟩, ?_⟩
  rintro _ rfl
  walk_at "ad"
  refine ⟨_, ⟨p.es, e, k, h4, hp.nd, hk, rfl, rfl⟩, ?_⟩
  rintro _ rfl
  walk_at "ad"
  refine ⟨_, ⟨n, hn0, hn, rfl, rfl⟩, ?_⟩
  rintro _ rfl
  walk_at "ad"
  refine x_dnew fun fa => ?_
  walk_at "ad"
  refine xs_forI (js := [6] ++ ([7] ++ [])) (fun items i ρ μ => ∃ (W : List Wd) (L : AL) (x6 x7 x8 x9 x10 x11 : Option D), items = W.map (itD p) ∧ Cover p W ∧ W.length ≤ 2000 ∧ Foes p e k n (fun t _ => t ∈ W.take i) L ∧ ρ = [some (splD K p), some (.str (tx e.1)), some (.int n), some (.int 2000), some (.int (k : Nat)), some (.ref fa), x6, x7, x8, x9, x10, x11] ∧ μ = [(fa, dicM L)]) ?_
  walk_at "ad"
  refine x_cX0 [] (fun _ => Reps.nil) ?_
  walk_at "ad"
  refine ⟨_, _, ⟨p, 2000, hp, by decide, by decide, rfl, rfl, rfl⟩, fun z => z hm, ?_⟩
  rintro _ ⟨W, rfl, cv, hW⟩
  refine ⟨_, rfl, ?_⟩
  refine ⟨⟨_, List.Sublist.refl _, W, [], none, none, none, none, none, none, rfl, cv, hW, ⟨fun q hq => (by cases hq), List.nodup_nil, fun t i f s => (by simp at s)⟩, rfl, rfl⟩, ?_, ?_⟩
  · intro i d ρ' μ' hd hI
    obtain ⟨W, L, x6, x7, x8, x9, x10, x11, eW, cv, hW, hF, rfl, rfl⟩ := hI
    rw [eW] at hd
    obtain ⟨t, ht, rfl⟩ := map_at hd
    have htm := List.mem_of_getElem? ht
    have htl := cv.len t htm
    have i1 := row_at (t := t) hk
    have i2 : L2.atI (dI (wrow p.sl e.1 t)) (-(1 : Int)) = some (.int (wv p.sl e.1 t e.1.length)) := by
      rw [atI_last (by rw [dI_len, wrow_len]; omega), dI_len, wrow_len]
      exact dI_at (wrow_at (Nat.le_refl _))
    have hc : CMul p.sl.ex ((t.length : Nat) : Int) := .inl ⟨by have := hp.ex; omega, by have := hp.ex; omega⟩
    walk_at "ad"
    rw [sta_1]
    walk_at "ad"
    refine r_I hc ?_
    walk_at "ad"
    rw [price_wv]
    refine xs_forS (js := [9] ++ (([10] ++ ([11] ++ [])) ++ [])) (fun j ρ μ => ∃ (L : AL) (x9 x10 x11 : Option D), Foes p e k n (fun t' i' => t' ∈ W.take i ∨ (t' = t ∧ i' < j)) L ∧ ρ = [some (splD K p), some (.str (tx e.1)), some (.int n), some (.int 2000), some (.int (k : Nat)), some (.ref fa), some (staD (sta p t)), some (.str (tx t)), some (.int (price p.sl e.1 t)), x9, x10, x11] ∧ μ = [(fa, dicM L)]) ?_
    walk_at "ad"
    refine ⟨⟨_, List.Sublist.refl _, L, _, _, _, hF.mono (fun t' i' f s _ => s.elim id fun z => absurd z.2 (Nat.not_lt_zero _)), rfl, rfl⟩, ?_, ?_⟩
    · intro j d ρ' μ' hd hI
      obtain ⟨L, x9, x10, x11, hF, rfl, rfl⟩ := hI
      obtain ⟨f, hf, rfl⟩ := en_at hd
      have skip : ¬ Foe p e k n t j f → Foes p e k n (fun t' i' => t' ∈ W.take i ∨ (t' = t ∧ i' < j + 1)) L := fun z => hF.mono fun t' i' f' s g => by
        rcases s with s | ⟨rfl, s⟩
        · exact .inl s
        · by_cases hij : i' < j
          · exact .inr ⟨rfl, hij⟩
          · have e1 : i' = j := by omega
            subst e1
            have e2 := g.1
            rw [hf] at e2
            cases e2
            exact absurd g z
      walk_at "ad"
      refine brN (fun h1 => ?_) (fun h1 => ?_)
      · walk_at "ad"
        refine brD (fun h2 => ?_) (fun h2 => ?_)
        · walk_at "ad"
          refine ⟨_, ⟨p, t, j, k, f, e, hp, hf, hk, by rw [sta_1] <;> rfl, rfl⟩, ?_⟩
          rintro _ rfl
          walk_at "ad"
          refine brD (fun h3 => ?_) (fun h3 => ?_)
          · have g : Foe p e k n t j f := ⟨hf, fun z => h1 (by rw [z]), h2, h3⟩
            have hg : ∃ m0 : Trp, (getL L (tx f.1)).getD (tD (trpOf p e t)) = tD m0 ∧ (m0 = trpOf p e t ∨ getL L (tx f.1) = some (tD m0)) := by
              cases q : getL L (tx f.1) with
              | none => exact ⟨_, rfl, .inl rfl⟩
              | some d =>
                obtain ⟨f', i', t', g', _, _, eq⟩ := hF.good _ (getL_mem q)
                have ed := (Prod.mk.inj eq).2
                subst ed
                exact ⟨_, rfl, .inr rfl⟩
            obtain ⟨m0, em, hm0⟩ := hg
            have hl4 := hF.len hp
            refine xs_dput ?_
            walk_at "ad"
            refine x_lst ?_
            refine a_cons ?_
            refine x_dget2 ?_
            walk_at "ad"
            refine ⟨fa, 0, L, rfl, rfl, ?_⟩
            walk_at "ad"
            refine ⟨0, _, rfl, rfl, ?_⟩
            have em' : (getL L (tx f.1)).getD (.tup [.int (price p.sl e.1 t), .int ((t.length : Nat) : Int), .str (tx t)]) = tD m0 := em
            rw [em']
            walk_at "ad"
            refine ⟨by simp, fun b => ?_⟩
            walk_at "ad"
            refine k_minTr (j := 1) (x := m0) (l := [trpOf p e t]) rfl fun m m1 m2 => ?_
            walk_at "ad"
            refine ⟨fa, 0, L, _, rfl, rfl, rfl, by omega, ?_⟩
            have hmm : m = trpOf p e t ∨ getL L (tx f.1) = some (tD m) := by
              rcases List.mem_cons.mp m1 with rfl | m1
              · exact hm0
              · exact .inl (List.mem_singleton.mp m1)
            refine ⟨[(fa, dicM (putL L (tx f.1) (tD m)))], by walk_at "sub", _, _, _, _, (hF.put hp g (cv.over t htm) (by omega) hmm).mono fun t' i' f' s g' => ?_, rfl, rfl⟩
            rcases s with s | ⟨rfl, s⟩
            · exact .inl (.inl s)
            · by_cases hij : i' < j
              · exact .inl (.inr ⟨rfl, hij⟩)
              · exact .inr ⟨rfl, by omega⟩
          · walk_at "ad"
            exact ⟨_, List.Sublist.refl _, L, _, _, _, skip fun g => h3 g.2.2.2, rfl, rfl⟩
        · walk_at "ad"
          exact ⟨_, List.Sublist.refl _, L, _, _, _, skip fun g => h2 g.2.2.1, rfl, rfl⟩
      · walk_at "ad"
        exact ⟨_, List.Sublist.refl _, L, _, _, _, skip fun g => g.2.1 (by omega), rfl, rfl⟩
    · intro ρ' μ' hI
      obtain ⟨L, x9, x10, x11, hF, rfl, rfl⟩ := hI
      refine ⟨_, List.Sublist.refl _, W, L, _, _, _, _, _, _, eW, cv, hW, hF.mono fun t' i' f' s g => ?_, rfl, rfl⟩
      rw [getElem_take ht] at s
      rcases List.mem_append.mp s with s | s
      · exact .inl s
      · rw [List.mem_singleton] at s
        refine .inr ⟨s, ?_⟩
        rw [enD_len, List.length_map]
        exact (List.getElem?_eq_some_iff.mp g.1).1
  · intro ρ' μ' hI
    obtain ⟨W, L, x6, x7, x8, x9, x10, x11, eW, cv, hW, hF, rfl, rfl⟩ := hI
    rw [eW, List.length_map, List.take_length] at hF
    walk_at "ad"
    refine x_fzd ?_
    have hl4 := hF.len hp
    refine x_dmap (js := [10]) (fun (F : List (Wd × Wd)) μ1 => (F.map (fun q => tx q.1)).Perm (L.map (·.1)) ∧ (∀ q ∈ F, ∃ f i, Foe p e k n q.2 i f ∧ f.1 = q.1 ∧ Over p q.2 ∧ q.2.length ≤ 2000 ∧ getL L (tx q.1) = some (tD (trpOf p e q.2))) ∧ ∃ v, μ1 = [(fa, dicM L), v]) (fun q => .str (tx q.1)) (fun q => .str (tx q.2)) (fun q => tx q.1) (by decide) ?_ ?_ ?_ ?_
    · intro F μ1 hG
      refine ⟨?_, hG.1.nodup_iff.mpr hF.nd⟩
      have := hG.1.length_eq
      rw [List.length_map, List.length_map] at this
      omega
    · walk_at "ad"
      refine x_fz ?_
      walk_at "ad"
      refine x_keys ?_
      walk_at "ad"
      refine ⟨fa, 0, L, rfl, rfl, fun v => ?_⟩
      walk_at "ad"
      refine k_sortedK (i := 1) (j := 0) rfl rfl (by omega) fun q ys hy => ?_
      obtain ⟨F, eF, hFF⟩ := foes_list hF hy
      refine ⟨q, _, 2, rfl, rfl, _, rfl, F, ?_, ?_, hFF, _, rfl⟩
      · rw [eF]
        unfold dS
        rw [List.map_map]
        rfl
      · rw [← eF]
        exact hy
    · intro F μ1 i x acc a hG hx
      obtain ⟨_, hq, v, rfl⟩ := hG
      obtain ⟨f, i', g, e1, ho, hl, hget⟩ := hq x (List.mem_of_getElem? hx)
      walk_at "ad"
      refine ⟨rfl, ?_⟩
      walk_at "ad"
      refine x_dgetM ?_
      walk_at "ad"
      refine ⟨fa, 1, L, _, _, rfl, rfl, rfl, hget, ?_⟩
      walk_at "ad"
      exact ⟨rfl, List.Sublist.refl _⟩
    · intro F μ1 a hG
      obtain ⟨hy, hq, v, rfl⟩ := hG
      refine ⟨a, _, _, 2, rfl, rfl, ?_⟩
      have nd := hy.nodup_iff.mpr hF.nd
      refine ⟨F, rfl, ?_, fun q hq' => ?_, fun u i f hu g => ?_⟩
      · exact List.pairwise_map.mpr ((List.pairwise_map.mp nd).imp fun hne e => hne (by rw [e]))
      · obtain ⟨f, i, g, e1, ho, hl, _⟩ := hq q hq'
        exact ⟨f, i, g, e1, ho, hl⟩
      · obtain ⟨t, ht, es, hl⟩ := cv.all u hu
        have hm2 := hy.mem_iff.mpr (hF.all t i f ht (foe_sta hp hk es hl g))
        obtain ⟨q, hq', eq⟩ := List.mem_map.mp hm2
        exact List.mem_map.mpr ⟨q, hq', tx_inj eq⟩

end MW
end
section
open MW L2
local macro_rules | `(tactic| walk_at "d1") => `(tactic| first
  | ((with_reducible refine x_varE ?_); refine ⟨_, rfl, ?_⟩)
  | with_reducible refine x_int ?_
  | with_reducible refine x_str ?_
  | with_reducible refine x_bl ?_
  | with_reducible refine x_non ?_
  | with_reducible refine x_ref ?_
  | with_reducible refine x_ty ?_
  | with_reducible refine x_op ?_
  | with_reducible refine x_un ?_
  | with_reducible refine a_nil ?_
  | with_reducible refine a_cons ?_
  | ((with_reducible refine x_tup ?_); walk_at "ad"; refine ⟨by first | exact (by decide) | (simp; done) | omega, ?_⟩)
  | ((with_reducible refine x_lst ?_); walk_at "ad"; refine ⟨by first | exact (by decide) | (simp; done) | omega, fun _ => ?_⟩)
  | with_reducible refine x_if ?_
  | with_reducible refine x_andV ?_
  | with_reducible refine x_orV ?_
  | with_reducible refine x_notV ?_
  | with_reducible refine t_test ?_
  | with_reducible refine t_B ?_
  | with_reducible refine t_yes ?_
  | with_reducible refine r_inS ?_
  | with_reducible refine r_notInS ?_
  | with_reducible refine t_and ?_
  | with_reducible refine t_or ?_
  | with_reducible refine t_not ?_
  | ((with_reducible refine x_fz ?_); walk_at "ad"; (first | refine ⟨_, _, 0, rfl, rfl, ?_⟩ | refine ⟨_, _, 1, rfl, rfl, ?_⟩ | refine ⟨_, _, 2, rfl, rfl, ?_⟩ | refine ⟨_, _, 3, rfl, rfl, ?_⟩))
  | with_reducible refine xs_seq ?_
  | with_reducible refine xs_next ?_
  | with_reducible refine xs_ret ?_
  | with_reducible refine xs_retN ?_
  | with_reducible refine xs_drop ?_
  | with_reducible apply xs_asg
  | with_reducible refine xs_if ?_
  | with_reducible refine g_name ?_
  | with_reducible refine gs_nil ?_
  | with_reducible apply gs_cons
  | ((with_reducible apply g_tup); exact rfl)
  | with_reducible refine x_chain ?_
  | with_reducible refine x_CB ?_
  | with_reducible refine x_call0 ?_
  | with_reducible refine x_sl ?_
  | with_reducible refine o_none ?_
  | with_reducible refine o_some ?_
  | ((with_reducible refine x_prop ?_); walk_at "ad"; refine ⟨_, _, _, rfl, rfl, ?_⟩)
  | with_reducible refine r_I0 ?_
  | with_reducible refine r_I0b ?_
  | with_reducible refine r_eqI ?_
  | with_reducible refine r_neI ?_
  | with_reducible refine r_eqS ?_
  | with_reducible refine r_neS ?_
  | with_reducible refine r_isN ?_
  | with_reducible refine r_notN ?_
  | with_reducible refine u_neg ?_
  | ((with_reducible refine r_ixTE ?_); first | refine ⟨_, ‹_›, ?_⟩ | refine ⟨_, rfl, ?_⟩)
  | ((with_reducible refine r_ixLE ?_); first | refine ⟨_, ‹_›, ?_⟩ | refine ⟨_, rfl, ?_⟩)
  | ((with_reducible refine k_isIE ?_); refine ⟨_, rfl, ?_⟩)
  | ((with_reducible refine k_isSE ?_); refine ⟨_, rfl, ?_⟩)
  | ((with_reducible refine k_isTE ?_); refine ⟨_, rfl, ?_⟩)
  | ((with_reducible refine x_BM ?_); walk_at "ad"; first | refine ⟨ty_lst (j := 0) rfl, ?_⟩ | refine ⟨ty_lst (j := 1) rfl, ?_⟩ | refine ⟨ty_lst (j := 2) rfl, ?_⟩ | refine ⟨ty_lst (j := 3) rfl, ?_⟩)
  | ((with_reducible refine m_appE ?_); (first | refine ⟨0, _, rfl, ?_, ?_⟩ | refine ⟨1, _, rfl, ?_, ?_⟩ | refine ⟨2, _, rfl, ?_, ?_⟩ | refine ⟨3, _, rfl, ?_, ?_⟩); (walk_at "len"))
  | ((with_reducible refine k_lenS ?_ ?_); (walk_at "len"))
  | ((with_reducible refine s_txt ?_ ?_); (walk_at "len"))
  | ((with_reducible refine r_ixSE ?_ ?_); (walk_at "len"); (first | refine ⟨_, ‹_›, ?_⟩ | refine ⟨_, rfl, ?_⟩))
  | with_reducible refine k_lenT ?_
  | with_reducible refine k_lenL ?_
  | ((with_reducible refine k_lenME ?_); (first | refine ⟨0, _, rfl, ?_⟩ | refine ⟨1, _, rfl, ?_⟩ | refine ⟨2, _, rfl, ?_⟩ | refine ⟨3, _, rfl, ?_⟩))
  | ((with_reducible refine r_ixME ?_); (first | refine ⟨0, _, _, rfl, ‹_›, ?_⟩ | refine ⟨1, _, _, rfl, ‹_›, ?_⟩ | refine ⟨2, _, _, rfl, ‹_›, ?_⟩ | refine ⟨0, _, _, rfl, rfl, ?_⟩ | refine ⟨1, _, _, rfl, rfl, ?_⟩ | refine ⟨2, _, _, rfl, rfl, ?_⟩ | refine ⟨3, _, _, rfl, rfl, ?_⟩))
  | ((with_reducible refine x_tupleM ?_); walk_at "ad"; (first | refine ⟨_, 0, _, rfl, rfl, ?_⟩ | refine ⟨_, 1, _, rfl, rfl, ?_⟩ | refine ⟨_, 2, _, rfl, rfl, ?_⟩ | refine ⟨_, 3, _, rfl, rfl, ?_⟩))
  | ((with_reducible refine r_neT0 (n := 0) ?_ ?_ ?_); exact (by decide); exact (deep_dI _ _))
  | ((with_reducible refine x_rev2 ?_); walk_at "ad"; refine ⟨_, _, rfl, ?_⟩)
  | with_reducible refine x_join ?_
  | with_reducible refine i_enumT ?_
  | with_reducible refine i_rng1 ?_
  | with_reducible refine i_rng2 ?_
  | with_reducible refine i_tup ?_
  | with_reducible refine i_lst ?_
  | with_reducible refine i_str ?_
  | refine ⟨_, rfl, ?_⟩
  | ((with_reducible refine brT ?_ ?_); (first | assumption | exact rfl | decide +kernel))
  | ((with_reducible refine brF ?_ ?_); (first | assumption | exact rfl | decide +kernel)))
local macro_rules | `(tactic| walk_at "len") => `(tactic| first | assumption | omega | ((simp only [List.length_append, List.length_cons, List.length_nil, List.length_map, List.length_set]) <;> omega) | (simp; done) | (simp; omega))
local macro_rules | `(tactic| walk_at "ad") => `(tactic| repeat (walk_at "d1"))
local macro_rules | `(tactic| walk_at "sub") => `(tactic| first | exact List.nil_sublist _ | exact List.Sublist.refl _ | (refine List.Sublist.cons₂ _ ?_; walk_at "sub") | (refine List.Sublist.cons _ ?_; walk_at "sub"))
/-! need_entries, ranking_of. -/
namespace MW
open PySem PySem.Spec PyProof.Rows L2
open C8 (pe_c pe_gc Cal)
structure OkE (es : List (List Nat × Int)) : Prop where
  len : es.length ≤ 4
  low : ∀ e ∈ es, e.1 ≠ [] ∧ e.1.length ≤ 5 ∧ ∀ c ∈ e.1, c ∈ abc
  own : ∀ e ∈ es, 0 ≤ e.2 ∧ e.2 ≤ 999
  nd : (es.map (·.1)).Nodup
theorem OkP.e {p : Spl} (h : OkP p) : OkE p.es := ⟨h.len, h.low, h.own, h.nd⟩
section
variable {c : Cn} {ρ : Env2} {μ : Mu} {P : D → Mu → Prop} {K : PySem.W.Frag}
theorem i_enumL {ta : TA} {P : List D → Mu → Prop} (h : AX c ta ρ μ fun ds μ1 => ∃ es, ds = [.lst es] ∧ P (enD es) μ1) : IX c (iEnum K ta) ρ μ P := fun σ H R S q =>
  h σ H _ S fun vs H1 ds μ1 p1 r1 S1 ⟨es, ed, k⟩ => by
    subst ed
    obtain ⟨v, r0, rfl, ⟨a, ob, us, rfl, ha, rs⟩, rfl⟩ := r1
    have ok : ∀ H2, Pst H1 H2 → SqL K H2 a us := fun H2 p => .inl (.inr ⟨ob, p a _ trivial ha⟩)
    refine ⟨a, us, rfl, ok H1 (Pst.refl H1), q _ H1 _ μ1 p1 S1 ⟨fun i d H2 e p => ?_, fun i d H2 x H3 e p hy => ?_, fun H2 p => ⟨us, ok H2 p, by rw [enD_len, rs.len]; exact Nat.le_refl _⟩⟩ k⟩
    · obtain ⟨y, e1, _⟩ := enD_at e
      obtain ⟨w, e2, _⟩ := rs.at e1
      exact ⟨us, w, ok H2 p, e2⟩
    · obtain ⟨y, e1, rfl⟩ := enD_at e
      obtain ⟨w, e2, rw_⟩ := rs.at e1
      obtain ⟨T, z, rfl, hT, rfl, hz⟩ := hy
      have ez : z = w := Option.some.inj ((hz us (ok H2 p)).symm.trans e2)
      subst ez
      have sm : Same H2 (upd H2 T (.tup [.int (i : Nat), z])) := fun b o e => by rw [upd_ne (ne_of_none e hT)]; exact e
      exact ⟨sm, T, _, rfl, upd_same, .cons rfl (.cons (rw_.mono (p.trans (Pst.same sm))) .nil)⟩
/-- xs + ys of two lists -/
theorem r_catM {a b : Addr} {i j : Nat} {ds es : List D} (hi : μ[i]? = some (a, .lst ds)) (hj : μ[j]? = some (b, .lst es)) (hz : ds.length + es.length ≤ 100000) (k : ∀ p, P (.ref p) (μ ++ [(p, .lst (ds ++ es))])) : RX c rCat (.ref a) (.ref b) μ P := fun ρ σ H v w Q S r1 r2 q => by
  have e1 : v = .ref a := r1
  have e2 : w = .ref b := r2
  subst e1 e2
  obtain ⟨vs, hv, rs⟩ := S.mu _ (List.mem_of_getElem? hi)
  obtain ⟨ws, hw, rt⟩ := S.mu _ (List.mem_of_getElem? hj)
  refine ⟨a, b, vs, ws, rfl, rfl, hv, hw, by rw [rs.len, rt.len]; exact Nat.le_trans hz (by decide), fun p hp => ?_⟩
  exact q _ _ (.ref p) _ (Pst.new hp) rfl (S.add hp (m := .lst (ds ++ es)) ⟨_, upd_same, Reps.mono (Pst.new hp) _ _ (rs.app rt)⟩) (k p)
theorem cls2 : ∀ (H : Hp) (vs : List V), Reps H [.ty "list", .ty "tuple"] vs → Paired ClsV vs [.type "list", .type "tuple"] := fun H vs r => by
  obtain ⟨v, r0, rfl, rfl, w, r1, rfl, rfl, rfl⟩ := r
  exact .cons (.ty _) (.cons (.ty _) .nil)
theorem kit_l : PySem.W.kitAny K (.type "list") [.type "list", .type "tuple"] = some true := kitAny_cons (b := true) (kit_ty rfl) (fun z => by cases z) fun _ => rfl
theorem kit_t : PySem.W.kitAny K (.type "tuple") [.type "list", .type "tuple"] = some true := kitAny_cons (b := false) (kit_ty rfl) (fun _ => kitAny_cons (b := true) (kit_ty rfl) (fun z => by cases z) fun _ => rfl) fun z => by cases z
theorem k_isLT {ds : List D} (k : P (.bl true) μ) : KX c (rIsiT K) [.lst ds, .tup [.ty "list", .ty "tuple"]] μ P := k_isiT cls2 (fun H v h => by obtain ⟨a, o, vs, rfl, ha, _⟩ := h; exact .base (.frz ha)) kit_l k
theorem k_isTT {ds : List D} (k : P (.bl true) μ) : KX c (rIsiT K) [.tup ds, .tup [.ty "list", .ty "tuple"]] μ P := k_isiT cls2 (fun H v h => by obtain ⟨a, vs, rfl, ha, _⟩ := h; exact .base (.tup ha)) kit_t k
end
def G_need_entries (_K : PySem.W.Frag) : Spc := fun ds R => ∃ es : List (List Nat × Int), OkE es ∧ ds = [.lst (es.map entD)] ∧ R = fun d => d = .non
def G_need_entriesT (_K : PySem.W.Frag) : Spc := fun ds R => ∃ es : List (List Nat × Int), OkE es ∧ ds = [entsD es] ∧ R = fun d => d = .non
abbrev N_need_entries : List Str := ["entries", "words", "at", "entry"]
theorem sc_need_entries : FnScope N_need_entries ["entries"] (defScope s_need_entries) := ⟨rfl, rfl, rfl, by decide +kernel, rfl, by decide +kernel, by decide +kernel⟩
theorem Tx.c_need_entries {w : World} {K : PySem.W.Frag} {mg : Str → Option Value} {base : Heap} (T : Tx K mg) : Cal P0 w K mg base 7 "need_entries" (spF (G_need_entries K)) [] := by
  refine mkCal (k := 6) T.d_need_entries T.g_need_entries sc_need_entries (fun _ _ _ _ _ _ us hl => match us, hl with | [_], _ => rfl) (by intro ds R h; obtain ⟨es, hp, rfl, rfl⟩ := h; rfl) fun cdv A outer s H E hr => ?_
  have nd := sc_need_entries.nd
  refine ⟨_, (pss_cons (ps_if (pt_not (pt_val (pe_callB call_isiT (by rfl) T.f_isinstance boot_isinstance (pa_cons (pv 0) (pa_cons (pe_tup (pa_cons (pe_bltn (v := .ty "list") (u := .type "list") (by rfl) T.f_list (by decide +kernel) rfl) (pa_cons (pe_bltn (v := .ty "tuple") (u := .type "tuple") (by rfl) T.f_tuple (by decide +kernel) rfl) pa_nil))) pa_nil))))) (pss_one ps_never) pss_nil)
  (pss_cons (ps_set (i := 1) nd rfl (by first | exact Or.inl rfl | exact Or.inr rfl) (pe_lst pa_nil))
  (pss_one (ps_for PassesOwn.never rfl (pi_enum (by rfl) T.f_enumerate (pa_cons (pv 0) pa_nil)) (pg_tup rfl (pgs_cons (pg_name (i := 2) nd rfl (by first | exact Or.inl rfl | exact Or.inr rfl)) (pgs_cons (pg_name (i := 3) nd rfl (by first | exact Or.inl rfl | exact Or.inr rfl)) pgs_nil))) (pss_cons (ps_if (PW.pt (pw_or (pt_cmpR op_eq (pv 2) (pe_gc (by rfl) (gI T.i_MOST_WORDS)) (nomark _)) (pw_or (pt_not (pt_val (pe_c T.c_is_entry hr (by decide) (by rfl) (pa_cons (pv 3) pa_nil)))) (pw_or1 (pt_cmpR op_in_seq (pe_ix ix_tup (pv 3) pe_int (fun _ _ => rfl)) (pv 1) (by rfl)))))) (pss_one ps_never) pss_nil)
  (pss_one (ps_set (i := 1) nd rfl (by first | exact Or.inl rfl | exact Or.inr rfl) (pe_op op_cat (pv 1) (pe_lst (pa_cons (pe_ix ix_tup (pv 3) pe_int (fun _ _ => rfl)) pa_nil)))))))))), ?_⟩
  rintro ds R ⟨es, hp, rfl, rfl⟩
  have h4 := hp.len
  walk_at "ad"
  refine k_isLT ?_
  walk_at "ad"
  rename_i wa
  refine xs_forS (js := [2] ++ ([3] ++ [])) (fun i ρ μ => ∃ (wa : Addr) (x2 x3 : Option D), ρ = [some (.lst (es.map entD)), some (.ref wa), x2, x3] ∧ μ = [(wa, .lst (((es.take i).map (·.1)).map txD))]) ?_
  refine i_enumL ?_
  walk_at "ad"
  refine ⟨⟨_, List.Sublist.refl _, wa, none, none, rfl, rfl⟩, ?_, ?_⟩
  · intro i d ρ' μ' hd hI
    obtain ⟨wa, x2, x3, rfl, rfl⟩ := hI
    obtain ⟨e, he, rfl⟩ := en_at hd
    have hm := List.mem_of_getElem? he
    have hi4 := (List.getElem?_eq_some_iff.mp he).1
    have hni : e.1 ∉ (es.take i).map (·.1) := fun hx => by
      obtain ⟨j, hj⟩ := List.getElem?_of_mem hx
      have hji : j < i := by
        have := (List.getElem?_eq_some_iff.mp hj).1
        rw [List.length_map, List.length_take] at this
        omega
      rw [List.map_take, List.getElem?_take_of_lt hji] at hj
      have a2 : (es.map (·.1))[i]? = some e.1 := by
        rw [List.getElem?_map, he]
        rfl
      have := nd_ix hp.nd hj a2
      omega
    walk_at "ad"
    refine brD (fun z => absurd z (by omega)) (fun _ => ?_)
    walk_at "ad"
    refine ⟨_, ⟨e, (hp.low e hm).1, (hp.low e hm).2.1, (hp.low e hm).2.2, (hp.own e hm).1, (hp.own e hm).2, rfl, rfl⟩, ?_⟩
    rintro _ rfl
    walk_at "ad"
    refine r_inTs (j := 0) rfl ?_
    rw [if_neg Bool.false_ne_true, decide_eq_false hni]
    walk_at "ad"
    rename_i b
    refine r_catM (i := 0) (j := 1) rfl rfl (by simp only [List.length_map, List.length_take, List.length_cons, List.length_nil]; omega) fun q => ?_
    walk_at "ad"
    refine ⟨[(q, _)], by walk_at "sub", q, _, _, rfl, ?_⟩
    rw [getElem_take he, List.map_append, List.map_append]
    rfl
  · intro ρ' μ' hI
    obtain ⟨wa, x2, x3, rfl, rfl⟩ := hI
    walk_at "ad"
    rfl

theorem Tx.c_need_entriesT {w : World} {K : PySem.W.Frag} {mg : Str → Option Value} {base : Heap} (T : Tx K mg) : Cal P0 w K mg base 7 "need_entries" (spF (G_need_entriesT K)) [] := by
  refine mkCal (k := 6) T.d_need_entries T.g_need_entries sc_need_entries (fun _ _ _ _ _ _ us hl => match us, hl with | [_], _ => rfl) (by intro ds R h; obtain ⟨es, hp, rfl, rfl⟩ := h; rfl) fun cdv A outer s H E hr => ?_
  have nd := sc_need_entries.nd
  refine ⟨_, (pss_cons (ps_if (pt_not (pt_val (pe_callB call_isiT (by rfl) T.f_isinstance boot_isinstance (pa_cons (pv 0) (pa_cons (pe_tup (pa_cons (pe_bltn (v := .ty "list") (u := .type "list") (by rfl) T.f_list (by decide +kernel) rfl) (pa_cons (pe_bltn (v := .ty "tuple") (u := .type "tuple") (by rfl) T.f_tuple (by decide +kernel) rfl) pa_nil))) pa_nil))))) (pss_one ps_never) pss_nil)
  (pss_cons (ps_set (i := 1) nd rfl (by first | exact Or.inl rfl | exact Or.inr rfl) (pe_lst pa_nil))
  (pss_one (ps_for PassesOwn.never rfl (pi_enumT (by rfl) T.f_enumerate (pa_cons (pv 0) pa_nil)) (pg_tup rfl (pgs_cons (pg_name (i := 2) nd rfl (by first | exact Or.inl rfl | exact Or.inr rfl)) (pgs_cons (pg_name (i := 3) nd rfl (by first | exact Or.inl rfl | exact Or.inr rfl)) pgs_nil))) (pss_cons (ps_if (PW.pt (pw_or (pt_cmpR op_eq (pv 2) (pe_gc (by rfl) (gI T.i_MOST_WORDS)) (nomark _)) (pw_or (pt_not (pt_val (pe_c T.c_is_entry hr (by decide) (by rfl) (pa_cons (pv 3) pa_nil)))) (pw_or1 (pt_cmpR op_in_seq (pe_ix ix_tup (pv 3) pe_int (fun _ _ => rfl)) (pv 1) (by rfl)))))) (pss_one ps_never) pss_nil)
  (pss_one (ps_set (i := 1) nd rfl (by first | exact Or.inl rfl | exact Or.inr rfl) (pe_op op_cat (pv 1) (pe_lst (pa_cons (pe_ix ix_tup (pv 3) pe_int (fun _ _ => rfl)) pa_nil)))))))))), ?_⟩
  rintro ds R ⟨es, hp, rfl, rfl⟩
  have h4 := hp.len
  walk_at "ad"
  refine k_isTT ?_
  walk_at "ad"
  rename_i wa
  refine xs_forS (js := [2] ++ ([3] ++ [])) (fun i ρ μ => ∃ (wa : Addr) (x2 x3 : Option D), ρ = [some (entsD es), some (.ref wa), x2, x3] ∧ μ = [(wa, .lst (((es.take i).map (·.1)).map txD))]) ?_
  
  walk_at "ad"
  refine ⟨⟨_, List.Sublist.refl _, wa, none, none, rfl, rfl⟩, ?_, ?_⟩
  · intro i d ρ' μ' hd hI
    obtain ⟨wa, x2, x3, rfl, rfl⟩ := hI
    obtain ⟨e, he, rfl⟩ := en_at hd
    have hm := List.mem_of_getElem? he
    have hi4 := (List.getElem?_eq_some_iff.mp he).1
    have hni : e.1 ∉ (es.take i).map (·.1) := fun hx => by
      obtain ⟨j, hj⟩ := List.getElem?_of_mem hx
      have hji : j < i := by
        have := (List.getElem?_eq_some_iff.mp hj).1
        rw [List.length_map, List.length_take] at this
        omega
      rw [List.map_take, List.getElem?_take_of_lt hji] at hj
      have a2 : (es.map (·.1))[i]? = some e.1 := by
        rw [List.getElem?_map, he]
        rfl
      have := nd_ix hp.nd hj a2
      omega
    walk_at "ad"
    refine brD (fun z => absurd z (by omega)) (fun _ => ?_)
    walk_at "ad"
    refine ⟨_, ⟨e, (hp.low e hm).1, (hp.low e hm).2.1, (hp.low e hm).2.2, (hp.own e hm).1, (hp.own e hm).2, rfl, rfl⟩, ?_⟩
    rintro _ rfl
    walk_at "ad"
    refine r_inTs (j := 0) rfl ?_
    rw [if_neg Bool.false_ne_true, decide_eq_false hni]
    walk_at "ad"
    rename_i b
    refine r_catM (i := 0) (j := 1) rfl rfl (by simp only [List.length_map, List.length_take, List.length_cons, List.length_nil]; omega) fun q => ?_
    walk_at "ad"
    refine ⟨[(q, _)], by walk_at "sub", q, _, _, rfl, ?_⟩
    rw [getElem_take he, List.map_append, List.map_append]
    rfl
  · intro ρ' μ' hI
    obtain ⟨wa, x2, x3, rfl, rfl⟩ := hI
    walk_at "ad"
    rfl

end MW
end
section
open MW L2
local macro_rules | `(tactic| walk_at "d1") => `(tactic| first
  | ((with_reducible refine x_varE ?_); refine ⟨_, rfl, ?_⟩)
  | with_reducible refine x_int ?_
  | with_reducible refine x_str ?_
  | with_reducible refine x_bl ?_
  | with_reducible refine x_non ?_
  | with_reducible refine x_ref ?_
  | with_reducible refine x_ty ?_
  | with_reducible refine x_op ?_
  | with_reducible refine x_un ?_
  | with_reducible refine a_nil ?_
  | with_reducible refine a_cons ?_
  | ((with_reducible refine x_tup ?_); walk_at "ad"; refine ⟨by first | exact (by decide) | (simp; done) | omega, ?_⟩)
  | ((with_reducible refine x_lst ?_); walk_at "ad"; refine ⟨by first | exact (by decide) | (simp; done) | omega, fun _ => ?_⟩)
  | with_reducible refine x_if ?_
  | with_reducible refine x_andV ?_
  | with_reducible refine x_orV ?_
  | with_reducible refine x_notV ?_
  | with_reducible refine t_test ?_
  | with_reducible refine t_B ?_
  | with_reducible refine t_yes ?_
  | with_reducible refine r_inS ?_
  | with_reducible refine r_notInS ?_
  | with_reducible refine t_and ?_
  | with_reducible refine t_or ?_
  | with_reducible refine t_not ?_
  | ((with_reducible refine x_fz ?_); walk_at "ad"; (first | refine ⟨_, _, 0, rfl, rfl, ?_⟩ | refine ⟨_, _, 1, rfl, rfl, ?_⟩ | refine ⟨_, _, 2, rfl, rfl, ?_⟩ | refine ⟨_, _, 3, rfl, rfl, ?_⟩))
  | with_reducible refine xs_seq ?_
  | with_reducible refine xs_next ?_
  | with_reducible refine xs_ret ?_
  | with_reducible refine xs_retN ?_
  | with_reducible refine xs_drop ?_
  | with_reducible apply xs_asg
  | with_reducible refine xs_if ?_
  | with_reducible refine g_name ?_
  | with_reducible refine gs_nil ?_
  | with_reducible apply gs_cons
  | ((with_reducible apply g_tup); exact rfl)
  | with_reducible refine x_chain ?_
  | with_reducible refine x_CB ?_
  | with_reducible refine x_call0 ?_
  | with_reducible refine x_sl ?_
  | with_reducible refine o_none ?_
  | with_reducible refine o_some ?_
  | ((with_reducible refine x_prop ?_); walk_at "ad"; refine ⟨_, _, _, rfl, rfl, ?_⟩)
  | with_reducible refine r_I0 ?_
  | with_reducible refine r_I0b ?_
  | with_reducible refine r_eqI ?_
  | with_reducible refine r_neI ?_
  | with_reducible refine r_eqS ?_
  | with_reducible refine r_neS ?_
  | with_reducible refine r_isN ?_
  | with_reducible refine r_notN ?_
  | with_reducible refine u_neg ?_
  | ((with_reducible refine r_ixTE ?_); first | refine ⟨_, ‹_›, ?_⟩ | refine ⟨_, rfl, ?_⟩)
  | ((with_reducible refine r_ixLE ?_); first | refine ⟨_, ‹_›, ?_⟩ | refine ⟨_, rfl, ?_⟩)
  | ((with_reducible refine k_isIE ?_); refine ⟨_, rfl, ?_⟩)
  | ((with_reducible refine k_isSE ?_); refine ⟨_, rfl, ?_⟩)
  | ((with_reducible refine k_isTE ?_); refine ⟨_, rfl, ?_⟩)
  | ((with_reducible refine x_BM ?_); walk_at "ad"; first | refine ⟨ty_lst (j := 0) rfl, ?_⟩ | refine ⟨ty_lst (j := 1) rfl, ?_⟩ | refine ⟨ty_lst (j := 2) rfl, ?_⟩ | refine ⟨ty_lst (j := 3) rfl, ?_⟩)
  | ((with_reducible refine m_appE ?_); (first | refine ⟨0, _, rfl, ?_, ?_⟩ | refine ⟨1, _, rfl, ?_, ?_⟩ | refine ⟨2, _, rfl, ?_, ?_⟩ | refine ⟨3, _, rfl, ?_, ?_⟩); (walk_at "len"))
  | ((with_reducible refine k_lenS ?_ ?_); (walk_at "len"))
  | ((with_reducible refine s_txt ?_ ?_); (walk_at "len"))
  | ((with_reducible refine r_ixSE ?_ ?_); (walk_at "len"); (first | refine ⟨_, ‹_›, ?_⟩ | refine ⟨_, rfl, ?_⟩))
  | with_reducible refine k_lenT ?_
  | with_reducible refine k_lenL ?_
  | ((with_reducible refine k_lenME ?_); (first | refine ⟨0, _, rfl, ?_⟩ | refine ⟨1, _, rfl, ?_⟩ | refine ⟨2, _, rfl, ?_⟩ | refine ⟨3, _, rfl, ?_⟩))
  | ((with_reducible refine r_ixME ?_); (first | refine ⟨0, _, _, rfl, ‹_›, ?_⟩ | refine ⟨1, _, _, rfl, ‹_›, ?_⟩ | refine ⟨2, _, _, rfl, ‹_›, ?_⟩ | refine ⟨0, _, _, rfl, rfl, ?_⟩ | refine ⟨1, _, _, rfl, rfl, ?_⟩ | refine ⟨2, _, _, rfl, rfl, ?_⟩ | refine ⟨3, _, _, rfl, rfl, ?_⟩))
  | ((with_reducible refine x_tupleM ?_); walk_at "ad"; (first | refine ⟨_, 0, _, rfl, rfl, ?_⟩ | refine ⟨_, 1, _, rfl, rfl, ?_⟩ | refine ⟨_, 2, _, rfl, rfl, ?_⟩ | refine ⟨_, 3, _, rfl, rfl, ?_⟩))
  | ((with_reducible refine r_neT0 (n := 0) ?_ ?_ ?_); exact (by decide); exact (deep_dI _ _))
  | ((with_reducible refine x_rev2 ?_); walk_at "ad"; refine ⟨_, _, rfl, ?_⟩)
  | with_reducible refine x_join ?_
  | with_reducible refine i_enumT ?_
  | with_reducible refine i_rng1 ?_
  | with_reducible refine i_rng2 ?_
  | with_reducible refine i_tup ?_
  | with_reducible refine i_lst ?_
  | with_reducible refine i_str ?_
  | refine ⟨_, rfl, ?_⟩
  | ((with_reducible refine brT ?_ ?_); (first | assumption | exact rfl | decide +kernel))
  | ((with_reducible refine brF ?_ ?_); (first | assumption | exact rfl | decide +kernel)))
local macro_rules | `(tactic| walk_at "len") => `(tactic| first | assumption | omega | ((simp only [List.length_append, List.length_cons, List.length_nil, List.length_map, List.length_set]) <;> omega) | (simp; done) | (simp; omega))
local macro_rules | `(tactic| walk_at "ad") => `(tactic| repeat (walk_at "d1"))
local macro_rules | `(tactic| walk_at "sub") => `(tactic| first | exact List.nil_sublist _ | exact List.Sublist.refl _ | (refine List.Sublist.cons₂ _ ?_; walk_at "sub") | (refine List.Sublist.cons _ ?_; walk_at "sub"))
/-! Slips and Speller are made. -/
namespace MW
open PySem PySem.Spec PyProof.Rows L2
open C8 (pe_c pe_gc Cal)
theorem sat_start {N : List Str} {ds : List D} {vs : List V} {H : Hp} (rs : Reps H ds vs) : Sat ⟨[], H⟩ (ds.map some ++ List.replicate (N.length - ds.length) none) [] (start N vs) H := by
  have el := rs.len
  refine ⟨fun a o _ e => e, fun i d e => ?_, ?_, fun p hp => (nomatch hp), fun p hp => (nomatch hp), List.nodup_nil, fun a e => e⟩
  · by_cases hi : i < ds.length
    · rw [List.getElem?_append_left (by rw [List.length_map]; exact hi), List.getElem?_map] at e
      cases hd : ds[i]? with
      | none =>
        rw [hd] at e
        cases e
      | some d' =>
        rw [hd] at e
        have e2 : d' = d := Option.some.inj (Option.some.inj e)
        subst e2
        obtain ⟨v, e3, r⟩ := rs.at hd
        refine ⟨v, ?_, r⟩
        unfold L2.start
        rw [List.getElem?_append_left (by rw [List.length_map, el]; exact hi), List.getElem?_map, e3]
        rfl
    · rw [List.getElem?_append_right (by rw [List.length_map]; omega)] at e
      rw [List.getElem?_replicate] at e
      split at e
      · cases e
      · cases e
  · unfold L2.start
    simp [el]
/-- statements that leave all as it is -/
theorem pre_run {c : Cn} {ρ : Env2} {μ : Mu} {t u : TS} {σ : L2.St} {H : Hp} {E : Ends} (S : Sat c ρ μ σ H) (h : XS c t ρ μ { nx := fun ρ' μ' => ρ' = ρ ∧ μ' = μ, rt := fun _ _ => False }) (k : ∀ σ' H', Sat c ρ μ σ' H' → u E σ' H') : tSeq t u E σ H :=
  h σ H { E with nx := u E } S ⟨fun ρ' μ' σ' H' p S' ⟨e1, e2⟩ => by subst e1 e2; exact k σ' H' S', fun _ _ _ _ _ _ _ _ _ z => z.elim, fun _ _ _ _ _ _ z => z.elim, fun _ _ _ _ _ _ z => z.elim⟩
theorem up2 {H : Hp} {x : Addr} {a b : HO} : upd (upd H x a) x b = upd H x b := by
  funext y
  by_cases h : y = x
  · rw [h, upd_same, upd_same]
  · rw [upd_ne h, upd_ne h, upd_ne h]
def optV : Option Int → V
  | none => .non
  | some i => .int i
theorem rep_opt {H : Hp} (o : Option Int) : Rep H (optD o) (optV o) := by
  cases o with
  | none => exact rfl
  | some i => exact rfl
theorem opt_rep {H : Hp} {o : Option Int} {v : V} (r : Rep H (optD o) v) : v = optV o := by
  cases o with
  | none => exact r
  | some i => exact r
structure OkL (s : Slp) : Prop where
  ex : 1 ≤ s.ex ∧ s.ex ≤ 9
  mi : 1 ≤ s.mi ∧ s.mi ≤ 9
  wr : 1 ≤ s.wr ∧ s.wr ≤ 9
  sw : ∀ x, s.sw = some x → 1 ≤ x ∧ x ≤ 9
/-- what Slips.__init__ does -/
def spSlips (C : Addr) : Sp := fun vs H Q _ => ∃ (x dx : Addr) (s : Slp), vs = [.ref x, .int s.ex, .int s.mi, .int s.wr, optV s.sw] ∧ OkL s ∧ H x = some (.ins C dx []) ∧
  ∀ H', Same H H' → Q .non (upd H' x (.ins C dx [("z_extra", .int s.ex), ("z_missing", .int s.mi), ("z_wrong", .int s.wr), ("z_swapped", optV s.sw)]))
theorem pfa {f g : Str} {v y : V} {r : List (Str × V)} (h : g ≠ f) : putF f v ((g, y) :: r) = (g, y) :: putF f v r := if_neg h
theorem pf_m {a b : V} : putF "z_missing" b [("z_extra", a)] = ([("z_extra", a), ("z_missing", b)] : List (Str × V)) := by
  rw [pfa (by decide +kernel)]
  rfl
theorem pf_w {a b c : V} : putF "z_wrong" c [("z_extra", a), ("z_missing", b)] = ([("z_extra", a), ("z_missing", b), ("z_wrong", c)] : List (Str × V)) := by
  rw [pfa (by decide +kernel), pfa (by decide +kernel)]
  rfl
theorem pf_s {a b c d : V} : putF "z_swapped" d [("z_extra", a), ("z_missing", b), ("z_wrong", c)] = ([("z_extra", a), ("z_missing", b), ("z_wrong", c), ("z_swapped", d)] : List (Str × V)) := by
  rw [pfa (by decide +kernel), pfa (by decide +kernel), pfa (by decide +kernel)]
  rfl
theorem pf_e {a b : V} : putF "e_slips" b [("e_entries", a)] = ([("e_entries", a), ("e_slips", b)] : List (Str × V)) := by
  rw [pfa (by decide +kernel)]
  rfl
mutual
/-- no instance in it is empty -/
def D.full : D → Prop
  | .tup ds => D.fulls ds
  | .lst ds => D.fulls ds
  | .dic _ ds => D.fulls ds
  | .ins _ fs ds => fs ≠ [] ∧ ds ≠ [] ∧ D.fulls ds
  | _ => True
def D.fulls : List D → Prop
  | [] => True
  | d :: ds => D.full d ∧ D.fulls ds
end
section
variable {H : Hp} {x C dx : Addr} {u : HO} (hx : H x = some (.ins C dx []))
include hx
mutual
/-- such data do not see the new instance at x -/
theorem Rep.off : ∀ (d : D) (v : V), D.full d → Rep H d v → Rep (upd H x u) d v
  | .non, _, _, h => h
  | .bl _, _, _, h => h
  | .int _, _, _, h => h
  | .str _, _, _, h => h
  | .ref _, _, _, h => h
  | .ty _, _, _, h => h
  | .tup ds, v, f, h => by
    obtain ⟨a, vs, e, ha, hs⟩ := h
    unfold D.full at f
    refine ⟨a, vs, e, ?_, Reps.off ds vs f hs⟩
    rw [upd_ne (fun z => by rw [z, hx] at ha; cases ha)]
    exact ha
  | .lst ds, v, f, h => by
    obtain ⟨a, o, vs, e, ha, hs⟩ := h
    unfold D.full at f
    refine ⟨a, o, vs, e, ?_, Reps.off ds vs f hs⟩
    rw [upd_ne (fun z => by rw [z, hx] at ha; cases ha)]
    exact ha
  | .dic ks ds, v, f, h => by
    obtain ⟨a, o, kvs, e, ha, hk, hs⟩ := h
    unfold D.full at f
    refine ⟨a, o, kvs, e, ?_, hk, Reps.off ds _ f hs⟩
    rw [upd_ne (fun z => by rw [z, hx] at ha; cases ha)]
    exact ha
  | .ins C' fs ds, v, f, h => by
    obtain ⟨a, dx', vs, e, ha, hs⟩ := h
    unfold D.full at f
    refine ⟨a, dx', vs, e, ?_, Reps.off ds vs f.2.2 hs⟩
    rw [upd_ne (fun z => by
      rw [z, hx] at ha
      have e1 : [] = fs.zip vs := by
        injection ha with ha
        injection ha
      have hl := hs.len
      cases fs with
      | nil => exact f.1 rfl
      | cons g fs =>
        cases vs with
        | nil => exact f.2.1 (List.length_eq_zero_iff.mp hl.symm)
        | cons w vs => cases e1)]
    exact ha
theorem Reps.off : ∀ (ds : List D) (vs : List V), D.fulls ds → Reps H ds vs → Reps (upd H x u) ds vs
  | [], _, _, h => h
  | d :: ds, vs, f, h => by
    obtain ⟨v, r, e, h1, h2⟩ := h
    unfold D.fulls at f
    exact ⟨v, r, e, Rep.off d v f.1 h1, Reps.off ds r f.2 h2⟩
end
end
theorem full_ents (es : List (List Nat × Int)) : D.fulls (es.map entD) := by
  induction es with
  | nil =>
    unfold D.fulls
    trivial
  | cons e es ih =>
    rw [List.map_cons]
    unfold D.fulls
    refine ⟨?_, ih⟩
    unfold D.full D.fulls D.full D.fulls D.full D.fulls
    trivial
/-- what Speller.__init__ does, the slips given; mk: tuple or list -/
def spSpeller (C : Addr) (mk : List D → D) : Sp := fun vs H Q _ => ∃ (x dx : Addr) (ws : List V) (es : List (List Nat × Int)) (d2 : D), vs = .ref x :: ws ∧ Reps H [mk (es.map entD), d2] ws ∧ H x = some (.ins C dx []) ∧ OkE es ∧ d2.isN = false ∧
  ∀ H' u1 u2, Same H H' → Rep H' (entsD es) u1 → Rep H' d2 u2 → Q .non (upd H' x (.ins C dx [("e_entries", u1), ("e_slips", u2)]))
section
variable {c : Cn} {ρ : Env2} {μ : Mu} {P : D → Mu → Prop} {K : PySem.W.Frag}
/-- Slips(extra = .., ..) -/
theorem x_mkSlips {tk : TA} {mv : List V} (h : AX c tk ρ μ fun ds μ1 => ∃ s : Slp, ds = [.int s.ex, .int s.mi, .int s.wr, optD s.sw] ∧ OkL s ∧ P (slpD K s) μ1) : X c (tMakeK (He.ga K "Slips") 0 4 (spSlips (He.ga K "Slips")) (fun vs zs => vs ++ ([] ++ zs)) E0 tNil tk) ρ μ P := fun σ H Q S q => by
  refine h σ H _ S fun zs H1 ds μ1 p1 r1 S1 ⟨s, ed, ok, k⟩ => ?_
  subst ed
  obtain ⟨v1, r0, rfl, e1, v2, r0, rfl, e2, v3, r0, rfl, e3, v4, r0, rfl, e4, rfl⟩ := r1
  have e1 : v1 = .int s.ex := e1
  have e2 : v2 = .int s.mi := e2
  have e3 : v3 = .int s.wr := e3
  have e4 := opt_rep e4
  subst e1 e2 e3 e4
  refine ⟨rfl, rfl, fun x dx hx hdx hne => ⟨x, dx, s, rfl, ok, upd_same, fun H' sm => ⟨rfl, ?_⟩⟩⟩
  have s2 : Same H1 (upd H' x (.ins (He.ga K "Slips") dx [("z_extra", .int s.ex), ("z_missing", .int s.mi), ("z_wrong", .int s.wr), ("z_swapped", optV s.sw)])) := fun b o e => by
    have hb1 : b ≠ x := fun z => by
      rw [z, hx] at e
      cases e
    have hb2 : b ≠ dx := fun z => by
      rw [z, hdx] at e
      cases e
    rw [upd_ne hb1]
    refine sm b o ?_
    rw [upd_ne hb1, upd_ne hb2]
    exact e
  refine q _ _ (slpD K s) μ1 (p1.trans (Pst.same s2)) ⟨x, dx, [.int s.ex, .int s.mi, .int s.wr, optV s.sw], rfl, upd_same, .cons rfl (.cons rfl (.cons rfl (.cons (rep_opt _) .nil)))⟩ (S1.same s2) k
theorem full_slp (s : Slp) : D.full (slpD K s) := by
  obtain ⟨a, b, d, e⟩ := s
  cases e <;> simp [D.full, D.fulls, optD]
/-- Speller(entries, slips) -/
theorem x_mkSpl {ta : TA} {mk : List D → D} (h : AX c ta ρ μ fun ds μ1 => ∃ p : Spl, ds = [mk (p.es.map entD), slpD K p.sl] ∧ OkE p.es ∧ P (splD K p) μ1) : X c (tMake (He.ga K "Speller") (spSpeller (He.ga K "Speller") mk) [] E0 ta) ρ μ P := fun σ H Q S q => by
  refine h σ H _ S fun vs H1 ds μ1 p1 r1 S1 ⟨p, ed, ok, k⟩ x dx hx hdx hne => ?_
  subst ed
  have P0 : Pst H1 (upd (upd H1 dx (.own x)) x (.ins (He.ga K "Speller") dx [])) := (Pst.new hdx).trans (Pst.new (by rw [upd_ne (fun z => hne z.symm)]; exact hx))
  refine ⟨x, dx, _, p.es, slpD K p.sl, by rw [List.append_nil], Reps.mono P0 _ _ r1, upd_same, ok, rfl, fun H' u1 u2 sm ru1 ru2 => ⟨rfl, ?_⟩⟩
  have hx' : H' x = some (.ins (He.ga K "Speller") dx []) := sm x _ upd_same
  have s2 : Same H1 (upd H' x (.ins (He.ga K "Speller") dx [("e_entries", u1), ("e_slips", u2)])) := fun b o e => by
    have hb1 : b ≠ x := fun z => by
      rw [z, hx] at e
      cases e
    have hb2 : b ≠ dx := fun z => by
      rw [z, hdx] at e
      cases e
    rw [upd_ne hb1]
    refine sm b o ?_
    rw [upd_ne hb1, upd_ne hb2]
    exact e
  have f1 : D.full (entsD p.es) := by
    unfold D.full
    exact full_ents _
  exact q _ _ (splD K p) μ1 (p1.trans (Pst.same s2)) ⟨x, dx, [u1, u2], rfl, upd_same, .cons (Rep.off hx' _ _ f1 ru1) (.cons (Rep.off hx' _ _ (full_slp _) ru2) .nil)⟩ (S1.same s2) k
end
abbrev N_Slips_init : List Str := ["self", "extra", "missing", "wrong", "swapped"]
theorem sc_Slips_init : FnScope N_Slips_init ["self", "extra", "missing", "wrong", "swapped"] (defScope s_Slips_init) := ⟨rfl, rfl, rfl, by decide +kernel, rfl, by decide +kernel, by decide +kernel⟩

theorem Tx.i_Slips {w : World} {K : PySem.W.Frag} {mg : Str → Option Value} {base : Heap} (T : Tx K mg) : ∃ fd, FnOk P0 w K mg base C8.CX0 5 (He.ma K (He.ga K "Slips") "__init__") fd ["self", "extra", "missing", "wrong", "swapped"] (spSlips (He.ga K "Slips")) ∧ ∃ mv, KBn K fd ["self", "extra", "missing", "wrong", "swapped"] 1 ["extra", "missing", "wrong", "swapped"] (fun us ws => us ++ (mv ++ ws)) (fun vs zs => vs ++ ([] ++ zs)) := by
  obtain ⟨fd, F⟩ := T.d_Slips_init
  refine ⟨fd, ?_, ?_⟩
  · refine F.ok sc_Slips_init (fun vs H Q E h => ?_) fun cdv A outer s H vs Q E hr hsp => ?_
    · obtain ⟨x, dx, s, rfl, _⟩ := h
      rfl
    have nd := sc_Slips_init.nd
    refine ⟨_, PSs.nox (pss_cons (ps_if (pt_not (pt_val (pe_c T.c_is_price hr (by decide) (by rfl) (pa_cons (pv 1) pa_nil)))) (pss_one ps_never) pss_nil)
  (pss_cons (ps_if (pt_not (pt_val (pe_c T.c_is_price hr (by decide) (by rfl) (pa_cons (pv 2) pa_nil)))) (pss_one ps_never) pss_nil)
  (pss_cons (ps_if (pt_not (pt_val (pe_c T.c_is_price hr (by decide) (by rfl) (pa_cons (pv 3) pa_nil)))) (pss_one ps_never) pss_nil)
  (pss_cons (ps_if (PW.pt (pw_and (pt_cmpR op_notN (pv 4) pe_non (nomark _)) (pw_and1 (pt_not (pt_val (pe_c T.c_is_price hr (by decide) (by rfl) (pa_cons (pv 4) pa_nil))))))) (pss_one ps_never) pss_nil)
  (pss_cons (ps_fld (pv 0) (pv 1) rfl)
  (pss_cons (ps_fld (pv 0) (pv 2) rfl)
  (pss_cons (ps_fld (pv 0) (pv 3) rfl)
  (pss_one (ps_fld (pv 0) (pv 4) rfl))))))))), ?_⟩
    obtain ⟨x, dx, sl, rfl, ok, hx, q⟩ := hsp
    have S0 := sat_start (N := N_Slips_init) (H := H) (ds := [.ref x, .int sl.ex, .int sl.mi, .int sl.wr, optD sl.sw]) (vs := [.ref x, .int sl.ex, .int sl.mi, .int sl.wr, optV sl.sw]) (.cons rfl (.cons rfl (.cons rfl (.cons rfl (.cons (rep_opt _) .nil)))))
    refine pre_run S0 ?_ fun σ1 H1 S1 => pre_run S1 ?_ fun σ2 H2 S2 => pre_run S2 ?_ fun σ3 H3 S3 => pre_run S3 ?_ fun σ4 H4 S4 => ?_
    · walk_at "ad"
      refine ⟨_, ⟨sl.ex, ok.ex.1, ok.ex.2, rfl, rfl⟩, ?_⟩
      rintro _ rfl
      walk_at "ad"
      exact ⟨rfl, rfl⟩
    · walk_at "ad"
      refine ⟨_, ⟨sl.mi, ok.mi.1, ok.mi.2, rfl, rfl⟩, ?_⟩
      rintro _ rfl
      walk_at "ad"
      exact ⟨rfl, rfl⟩
    · walk_at "ad"
      refine ⟨_, ⟨sl.wr, ok.wr.1, ok.wr.2, rfl, rfl⟩, ?_⟩
      rintro _ rfl
      walk_at "ad"
      exact ⟨rfl, rfl⟩
    · cases hs : sl.sw with
      | none =>
        have e1 : (optD sl.sw).isN = true := by rw [hs]; rfl
        walk_at "ad"
        exact ⟨rfl, rfl⟩
      | some i =>
        have e1 : (optD sl.sw).isN = false := by rw [hs]; rfl
        walk_at "ad"
        refine ⟨_, ⟨i, (ok.sw i hs).1, (ok.sw i hs).2, rfl, rfl⟩, ?_⟩
        rintro _ rfl
        walk_at "ad"
        exact ⟨rfl, rfl⟩
    · have hx4 := S4.fr x _ (by simp) hx
      obtain ⟨v0, a0, r0⟩ := S4.env 0 _ rfl
      obtain ⟨v1, a1, r1⟩ := S4.env 1 _ rfl
      obtain ⟨v2, a2, r2⟩ := S4.env 2 _ rfl
      obtain ⟨v3, a3, r3⟩ := S4.env 3 _ rfl
      obtain ⟨v4, a4, r4⟩ := S4.env 4 _ rfl
      have e0 : v0 = .ref x := r0
      have e1 : v1 = .int sl.ex := r1
      have e2 : v2 = .int sl.mi := r2
      have e3 : v3 = .int sl.wr := r3
      have e4 := opt_rep r4
      subst e0 e1 e2 e3 e4
      refine ⟨_, a1, _, a0, x, _, dx, _, rfl, hx4, T.c_Slips, T.n_z_extra, by decide, ?_⟩
      refine ⟨_, a2, _, a0, x, _, dx, _, rfl, upd_same, T.c_Slips, T.n_z_missing, by simp [putF], ?_⟩
      refine ⟨_, a3, _, a0, x, _, dx, _, rfl, upd_same, T.c_Slips, T.n_z_wrong, by show (putF "z_missing" _ [("z_extra", _)]).length < 1000; rw [pf_m]; simp, ?_⟩
      refine ⟨_, a4, _, a0, x, _, dx, _, rfl, upd_same, T.c_Slips, T.n_z_swapped, by show (putF "z_wrong" _ (putF "z_missing" _ [("z_extra", _)])).length < 1000; rw [pf_m, pf_w]; simp, ?_⟩
      have z := q H4 (fun b o e => S4.fr b o (by simp) e)
      show Q .non _
      rw [up2, up2, up2]
      show Q .non (upd H4 x (.ins _ dx (putF "z_swapped" _ (putF "z_wrong" _ (putF "z_missing" _ [("z_extra", _)])))))
      rw [pf_m, pf_w, pf_s]
      exact z
  · exact F.kbinds0 1 ["extra", "missing", "wrong", "swapped"] [] (fun vs ms zs => vs ++ (ms ++ zs)) (by intro z; cases z) (fun q hq => by cases hq) (fun a b c => a.append (b.append c)) (fun D doc pm an cdv ct us mv ws h1 h2 h3 => match us, mv, ws, h1, h2, h3 with | [_], [], [_, _, _, _], _, _, _ => rfl)

abbrev N_Speller_init : List Str := ["self", "entries", "slips"]
theorem sc_Speller_init : FnScope N_Speller_init ["self", "entries", "slips"] (defScope s_Speller_init) := ⟨rfl, rfl, rfl, by decide +kernel, rfl, by decide +kernel, by decide +kernel⟩

theorem Tx.i_SpellerL {w : World} {K : PySem.W.Frag} {mg : Str → Option Value} {base : Heap} (T : Tx K mg) : ∃ fd, FnOk P0 w K mg base C8.CX0 8 (He.ma K (He.ga K "Speller") "__init__") fd ["self", "entries", "slips"] (spSpeller (He.ga K "Speller") D.lst) ∧ FunD K "__init__" "Speller.__init__" (defArgs s_Speller_init) (defBody s_Speller_init) (defScope s_Speller_init) [V.non] [] (He.ma K (He.ga K "Speller") "__init__") fd := by
  obtain ⟨fd, F⟩ := T.d_Speller_init
  refine ⟨fd, ?_, F⟩
  · refine F.ok sc_Speller_init (fun vs H Q E h => ?_) fun cdv A outer s H vs Q E hr hsp => ?_
    · obtain ⟨x, dx, ws, es, d2, rfl, rs, _⟩ := h
      rw [List.length_cons, rs.len]
      rfl
    have nd := sc_Speller_init.nd
    refine ⟨_, PSs.nox (pss_cons (ps_expr (pe_c T.c_need_entries hr (by decide) (by rfl) (pa_cons (pv 1) pa_nil)))
  (pss_cons (ps_fld (pv 0) (pe_tupleOf (by rfl) T.f_tuple (pv 1)) rfl)
  (pss_one (ps_fld (pv 0) (pe_ifExp (pt_cmpR op_isN (pv 2) pe_non (nomark _)) pe_nev (pv 2)) rfl)))), ?_⟩
    obtain ⟨x, dx, ws, es, d2, rfl, rs, hx, ok, hd, q⟩ := hsp
    have S0 := sat_start (N := N_Speller_init) (H := H) (ds := [.ref x, D.lst (es.map entD), d2]) (vs := .ref x :: ws) (.cons rfl rs)
    refine pre_run S0 ?_ fun σ1 H1 S1 => ?_
    · walk_at "ad"
      refine ⟨_, ⟨es, ok, rfl, rfl⟩, ?_⟩
      rintro _ rfl
      walk_at "ad"
      exact ⟨rfl, rfl⟩
    · have hx1 := S1.fr x _ (by simp) hx
      obtain ⟨v0, a0, r0⟩ := S1.env 0 _ rfl
      obtain ⟨v1, a1, r1⟩ := S1.env 1 _ rfl
      obtain ⟨v2, a2, r2⟩ := S1.env 2 _ rfl
      have e0 : v0 = .ref x := r0
      subst e0
      have hv2 : decide (v2 = .non) = false := (isN_of r2).trans hd
      have same : Same H H1 := fun b o e => S1.fr b o (by simp) e
      obtain ⟨a, o, us, rfl, ha, rs1⟩ := r1
      refine ⟨_, a1, .inl ⟨a, us, rfl, .inl (.inr ⟨o, ha⟩), fun p hp => ?_⟩⟩
      have hpx : x ≠ p := fun z => by
        rw [← z, hx1] at hp
        cases hp
      have hx2 : (upd H1 p (.tup us)) x = some (.ins (He.ga K "Speller") dx []) := by
        rw [upd_ne hpx]
        exact hx1
      refine ⟨_, a0, x, _, dx, _, rfl, hx2, T.c_Speller, T.n_e_entries, by decide, ?_⟩
      refine ⟨v2, a2, rfl, _, rfl, ?_⟩
      rw [hv2]
      refine ⟨v2, a2, _, a0, x, _, dx, _, rfl, upd_same, T.c_Speller, T.n_e_slips, by simp [putF], ?_⟩
      have P1 : Pst H1 (upd H1 p (.tup us)) := Pst.new hp
      have z := q (upd H1 p (.tup us)) (.ref p) v2 (fun b o e => by rw [upd_ne (ne_of_none (same b o e) hp)]; exact same b o e) ⟨p, us, rfl, upd_same, Reps.mono P1 _ _ rs1⟩ (r2.mono P1)
      show Q .non _
      rw [up2]
      show Q .non (upd _ x (.ins _ dx (putF "e_slips" _ [("e_entries", _)])))
      rw [pf_e]
      exact z


theorem Tx.i_SpellerT {w : World} {K : PySem.W.Frag} {mg : Str → Option Value} {base : Heap} (T : Tx K mg) : ∃ fd, FnOk P0 w K mg base C8.CX0 8 (He.ma K (He.ga K "Speller") "__init__") fd ["self", "entries", "slips"] (spSpeller (He.ga K "Speller") D.tup) ∧ FunD K "__init__" "Speller.__init__" (defArgs s_Speller_init) (defBody s_Speller_init) (defScope s_Speller_init) [V.non] [] (He.ma K (He.ga K "Speller") "__init__") fd := by
  obtain ⟨fd, F⟩ := T.d_Speller_init
  refine ⟨fd, ?_, F⟩
  · refine F.ok sc_Speller_init (fun vs H Q E h => ?_) fun cdv A outer s H vs Q E hr hsp => ?_
    · obtain ⟨x, dx, ws, es, d2, rfl, rs, _⟩ := h
      rw [List.length_cons, rs.len]
      rfl
    have nd := sc_Speller_init.nd
    refine ⟨_, PSs.nox (pss_cons (ps_expr (pe_c T.c_need_entriesT hr (by decide) (by rfl) (pa_cons (pv 1) pa_nil)))
  (pss_cons (ps_fld (pv 0) (pe_tupleOf (by rfl) T.f_tuple (pv 1)) rfl)
  (pss_one (ps_fld (pv 0) (pe_ifExp (pt_cmpR op_isN (pv 2) pe_non (nomark _)) pe_nev (pv 2)) rfl)))), ?_⟩
    obtain ⟨x, dx, ws, es, d2, rfl, rs, hx, ok, hd, q⟩ := hsp
    have S0 := sat_start (N := N_Speller_init) (H := H) (ds := [.ref x, D.tup (es.map entD), d2]) (vs := .ref x :: ws) (.cons rfl rs)
    refine pre_run S0 ?_ fun σ1 H1 S1 => ?_
    · walk_at "ad"
      refine ⟨_, ⟨es, ok, rfl, rfl⟩, ?_⟩
      rintro _ rfl
      walk_at "ad"
      exact ⟨rfl, rfl⟩
    · have hx1 := S1.fr x _ (by simp) hx
      obtain ⟨v0, a0, r0⟩ := S1.env 0 _ rfl
      obtain ⟨v1, a1, r1⟩ := S1.env 1 _ rfl
      obtain ⟨v2, a2, r2⟩ := S1.env 2 _ rfl
      have e0 : v0 = .ref x := r0
      subst e0
      have hv2 : decide (v2 = .non) = false := (isN_of r2).trans hd
      have same : Same H H1 := fun b o e => S1.fr b o (by simp) e
      have r1' := r1
      obtain ⟨a, us, rfl, ha, rs1⟩ := r1
      refine ⟨_, a1, .inr ⟨a, us, rfl, SqT.of ha, ?_⟩⟩
      refine ⟨_, a0, x, _, dx, _, rfl, hx1, T.c_Speller, T.n_e_entries, by decide, ?_⟩
      refine ⟨v2, a2, rfl, _, rfl, ?_⟩
      rw [hv2]
      refine ⟨v2, a2, _, a0, x, _, dx, _, rfl, upd_same, T.c_Speller, T.n_e_slips, by simp [putF], ?_⟩
      have z := q H1 (.ref a) v2 same r1' r2
      show Q .non _
      rw [up2]
      show Q .non (upd _ x (.ins _ dx (putF "e_slips" _ [("e_entries", _)])))
      rw [pf_e]
      exact z


end MW
end
section
open MW L2
local macro_rules | `(tactic| walk_at "d1") => `(tactic| first
  | ((with_reducible refine x_varE ?_); refine ⟨_, rfl, ?_⟩)
  | with_reducible refine x_int ?_
  | with_reducible refine x_str ?_
  | with_reducible refine x_bl ?_
  | with_reducible refine x_non ?_
  | with_reducible refine x_ref ?_
  | with_reducible refine x_ty ?_
  | with_reducible refine x_op ?_
  | with_reducible refine x_un ?_
  | with_reducible refine a_nil ?_
  | with_reducible refine a_cons ?_
  | ((with_reducible refine x_tup ?_); walk_at "ad"; refine ⟨by first | exact (by decide) | (simp; done) | omega, ?_⟩)
  | ((with_reducible refine x_lst ?_); walk_at "ad"; refine ⟨by first | exact (by decide) | (simp; done) | omega, fun _ => ?_⟩)
  | with_reducible refine x_if ?_
  | with_reducible refine x_andV ?_
  | with_reducible refine x_orV ?_
  | with_reducible refine x_notV ?_
  | with_reducible refine t_test ?_
  | with_reducible refine t_B ?_
  | with_reducible refine t_yes ?_
  | with_reducible refine r_inS ?_
  | with_reducible refine r_notInS ?_
  | with_reducible refine t_and ?_
  | with_reducible refine t_or ?_
  | with_reducible refine t_not ?_
  | ((with_reducible refine x_fz ?_); walk_at "ad"; (first | refine ⟨_, _, 0, rfl, rfl, ?_⟩ | refine ⟨_, _, 1, rfl, rfl, ?_⟩ | refine ⟨_, _, 2, rfl, rfl, ?_⟩ | refine ⟨_, _, 3, rfl, rfl, ?_⟩))
  | with_reducible refine xs_seq ?_
  | with_reducible refine xs_next ?_
  | with_reducible refine xs_ret ?_
  | with_reducible refine xs_retN ?_
  | with_reducible refine xs_drop ?_
  | with_reducible apply xs_asg
  | with_reducible refine xs_if ?_
  | with_reducible refine g_name ?_
  | with_reducible refine gs_nil ?_
  | with_reducible apply gs_cons
  | ((with_reducible apply g_tup); exact rfl)
  | with_reducible refine x_chain ?_
  | with_reducible refine x_CB ?_
  | with_reducible refine x_call0 ?_
  | with_reducible refine x_sl ?_
  | with_reducible refine o_none ?_
  | with_reducible refine o_some ?_
  | ((with_reducible refine x_prop ?_); walk_at "ad"; refine ⟨_, _, _, rfl, rfl, ?_⟩)
  | with_reducible refine r_I0 ?_
  | with_reducible refine r_I0b ?_
  | with_reducible refine r_eqI ?_
  | with_reducible refine r_neI ?_
  | with_reducible refine r_eqS ?_
  | with_reducible refine r_neS ?_
  | with_reducible refine r_isN ?_
  | with_reducible refine r_notN ?_
  | with_reducible refine u_neg ?_
  | ((with_reducible refine r_ixTE ?_); first | refine ⟨_, ‹_›, ?_⟩ | refine ⟨_, rfl, ?_⟩)
  | ((with_reducible refine r_ixLE ?_); first | refine ⟨_, ‹_›, ?_⟩ | refine ⟨_, rfl, ?_⟩)
  | ((with_reducible refine k_isIE ?_); refine ⟨_, rfl, ?_⟩)
  | ((with_reducible refine k_isSE ?_); refine ⟨_, rfl, ?_⟩)
  | ((with_reducible refine k_isTE ?_); refine ⟨_, rfl, ?_⟩)
  | ((with_reducible refine x_BM ?_); walk_at "ad"; first | refine ⟨ty_lst (j := 0) rfl, ?_⟩ | refine ⟨ty_lst (j := 1) rfl, ?_⟩ | refine ⟨ty_lst (j := 2) rfl, ?_⟩ | refine ⟨ty_lst (j := 3) rfl, ?_⟩)
  | ((with_reducible refine m_appE ?_); (first | refine ⟨0, _, rfl, ?_, ?_⟩ | refine ⟨1, _, rfl, ?_, ?_⟩ | refine ⟨2, _, rfl, ?_, ?_⟩ | refine ⟨3, _, rfl, ?_, ?_⟩); (walk_at "len"))
  | ((with_reducible refine k_lenS ?_ ?_); (walk_at "len"))
  | ((with_reducible refine s_txt ?_ ?_); (walk_at "len"))
  | ((with_reducible refine r_ixSE ?_ ?_); (walk_at "len"); (first | refine ⟨_, ‹_›, ?_⟩ | refine ⟨_, rfl, ?_⟩))
  | with_reducible refine k_lenT ?_
  | with_reducible refine k_lenL ?_
  | ((with_reducible refine k_lenME ?_); (first | refine ⟨0, _, rfl, ?_⟩ | refine ⟨1, _, rfl, ?_⟩ | refine ⟨2, _, rfl, ?_⟩ | refine ⟨3, _, rfl, ?_⟩))
  | ((with_reducible refine r_ixME ?_); (first | refine ⟨0, _, _, rfl, ‹_›, ?_⟩ | refine ⟨1, _, _, rfl, ‹_›, ?_⟩ | refine ⟨2, _, _, rfl, ‹_›, ?_⟩ | refine ⟨0, _, _, rfl, rfl, ?_⟩ | refine ⟨1, _, _, rfl, rfl, ?_⟩ | refine ⟨2, _, _, rfl, rfl, ?_⟩ | refine ⟨3, _, _, rfl, rfl, ?_⟩))
  | ((with_reducible refine x_tupleM ?_); walk_at "ad"; (first | refine ⟨_, 0, _, rfl, rfl, ?_⟩ | refine ⟨_, 1, _, rfl, rfl, ?_⟩ | refine ⟨_, 2, _, rfl, rfl, ?_⟩ | refine ⟨_, 3, _, rfl, rfl, ?_⟩))
  | ((with_reducible refine r_neT0 (n := 0) ?_ ?_ ?_); exact (by decide); exact (deep_dI _ _))
  | ((with_reducible refine x_rev2 ?_); walk_at "ad"; refine ⟨_, _, rfl, ?_⟩)
  | with_reducible refine x_join ?_
  | with_reducible refine i_enumT ?_
  | with_reducible refine i_rng1 ?_
  | with_reducible refine i_rng2 ?_
  | with_reducible refine i_tup ?_
  | with_reducible refine i_lst ?_
  | with_reducible refine i_str ?_
  | refine ⟨_, rfl, ?_⟩
  | ((with_reducible refine brT ?_ ?_); (first | assumption | exact rfl | decide +kernel))
  | ((with_reducible refine brF ?_ ?_); (first | assumption | exact rfl | decide +kernel)))
local macro_rules | `(tactic| walk_at "len") => `(tactic| first | assumption | omega | ((simp only [List.length_append, List.length_cons, List.length_nil, List.length_map, List.length_set]) <;> omega) | (simp; done) | (simp; omega))
local macro_rules | `(tactic| walk_at "ad") => `(tactic| repeat (walk_at "d1"))
local macro_rules | `(tactic| walk_at "sub") => `(tactic| first | exact List.nil_sublist _ | exact List.Sublist.refl _ | (refine List.Sublist.cons₂ _ ?_; walk_at "sub") | (refine List.Sublist.cons _ ?_; walk_at "sub"))
/-! ranking_of. -/
namespace MW
open PySem PySem.Spec PyProof.Rows L2
open C8 (pe_c pe_gc Cal)
section
variable {c : Cn} {ρ : Env2} {μ : Mu} {P : D → Mu → Prop}
/-- a comprehension, the items known in the invariant -/
theorem x_lcI {te : TE} {wi : TI} {g : TG} {tt : TT} {vs js : List Nat} {P : D → Mu → Prop} (I : List D → Nat → List D → Mu → Prop) (hj : ∀ j ∈ js, j ∈ vs)
    (h : IX c wi ρ μ fun items μ1 => items.length ≤ 100000 ∧ I items 0 [] μ1 ∧ (∀ i d acc μ2 a, items[i]? = some d → I items i acc μ2 → GX c g js d (wipe2 ρ vs) ((a, .lst acc) :: μ2) fun ρ2 μ3 => MW.T c tt ρ2 μ3 fun b μ4 =>
        (b = true → X c te ρ2 μ4 fun y μ5 => ∃ μ6, μ5 = (a, .lst acc) :: μ6 ∧ I items (i + 1) (acc ++ [y]) μ6) ∧ (b = false → ∃ μ6, μ4 = (a, .lst acc) :: μ6 ∧ I items (i + 1) acc μ6)) ∧
      (∀ acc μ2 a, I items items.length acc μ2 → P (.ref a) (μ2 ++ [(a, .lst acc)]))) : X c (tLc wi g tt te vs) ρ μ P := fun σ H Q S q => by
  refine h σ H _ S fun J H1 items μ1 p1 S1 W ⟨hz, i0, hs, hd⟩ => ?_
  intro D hD
  have hgood : ∀ {μ' σ' H'}, Sat c (wipe2 ρ vs) μ' σ' H' → Pst H H' → Sat c ρ μ' σ H' := fun S' p => S'.slots S.len fun i d e => by
    obtain ⟨v, e1, r⟩ := S.env i d e
    exact ⟨v, e1, r.mono p⟩
  refine ⟨fun i m H' => m = items.length - i ∧ i ≤ items.length ∧ Pst H1 H' ∧ ∃ acc μ', acc.length ≤ i ∧ Sat c (wipe2 ρ vs) ((D, .lst acc) :: μ') (L2.wipe σ vs) H' ∧ I items i acc μ', ⟨items.length, rfl, Nat.zero_le _, Pst.new hD, [], μ1, Nat.le_refl _, ?_, i0⟩, ?_⟩
  · have S2 := (S1.wipe vs).add hD (m := .lst []) ⟨[], upd_same, Reps.nil⟩
    exact S2.perm (List.perm_append_comm (l₁ := [(D, MO.lst [])]))
  · rintro i m H' ⟨rfl, hi, p2, acc, μ', hacc, S2, hI⟩
    by_cases hlt : i < items.length
    · have hd' : items[i]? = some items[i] := List.getElem?_eq_getElem hlt
      refine .inr ⟨W.go i _ H' hd' p2, fun H2 => Pst H1 H2 ∧ ∃ acc μ', acc.length ≤ i + 1 ∧ Sat c (wipe2 ρ vs) ((D, .lst acc) :: μ') (L2.wipe σ vs) H2 ∧ I items (i + 1) acc μ', fun H2 ⟨p3, acc', μ3, ha, S3, hI2⟩ => ⟨items.length - (i + 1), by omega, rfl, hlt, p3, acc', μ3, ha, S3, hI2⟩, fun x H2 hy => ?_⟩
      obtain ⟨sm, rx⟩ := W.yld i _ H' x H2 hd' p2 hy
      refine hs i _ acc μ' D hd' hI (L2.wipe σ vs) H2 x _ (S2.same sm) rx fun ρ3 μ3 σ3 H3 p4 S3 o3 z => ⟨wipe_only o3 hj, ?_⟩
      have p5 : Pst H1 H3 := (p2.trans (Pst.same sm)).trans p4
      have back : ∀ {μ' σ'' H''}, Sat c ρ3 μ' σ'' H'' → Pst H3 H'' → Sat c (wipe2 ρ vs) μ' (L2.wipe σ vs) H'' := fun S' p => S'.slots (by rw [wipe_length, wipe2_length, S.len]) fun i d e => by
        obtain ⟨e1, e2⟩ := wipe2_some e
        obtain ⟨v, e3, r⟩ := S1.env i d e1
        exact ⟨v, by rw [wipe_get e2]; exact e3, r.mono (p5.trans p)⟩
      refine z σ3 H3 _ S3 fun b H4 μ4 p6 S4 z4 => ?_
      cases b with
      | true =>
        show te σ3 H4 _
        refine z4.1 rfl σ3 H4 _ S4 fun y H5 dy μ5 p7 r5 S5 ⟨μ6, e6, hI6⟩ => ?_
        subst e6
        obtain ⟨vs', ha, rs⟩ := S5.mu _ List.mem_cons_self
        have P5 : Pst H5 (upd H5 D (.lst (vs' ++ [y]))) := Pst.mut ha fun z => z
        refine ⟨vs', ha, by rw [rs.len]; exact Nat.lt_of_le_of_lt (Nat.le_trans hacc (Nat.le_of_lt hlt)) (Nat.lt_of_le_of_lt hz (by decide)), ?_⟩
        refine ⟨((p5.trans p6).trans p7).trans P5, acc ++ [dy], μ6, by rw [List.length_append]; simp; exact hacc, ?_, hI6⟩
        have S6 := S5.put (k := 0) (m' := .lst (acc ++ [dy])) (o := .lst (vs' ++ [y])) rfl ⟨vs' ++ [y], upd_same, (rs.mono P5).snoc (r5.mono P5)⟩
        exact back S6 ((p6.trans p7).trans P5)
      | false =>
        obtain ⟨μ6, e6, hI6⟩ := z4.2 rfl
        subst e6
        exact ⟨p5.trans p6, acc, μ6, Nat.le_succ_of_le hacc, back S4 p6, hI6⟩
    · have e : i = items.length := by omega
      subst e
      refine .inl ⟨W.stop H' p2, ?_⟩
      have S3 := hgood S2 (p1.trans p2)
      exact q (.ref D) H' (.ref D) _ (p1.trans p2) rfl (S3.perm (List.perm_append_comm (l₂ := [(D, MO.lst acc)]))) (hd acc μ' D hI)
/-- as x_map, the walked list told behind iter -/
theorem x_mapG {α : Type} {wi : TI} {g : TG} {te : TE} {vs js : List Nat} (Gd : List α → Mu → Prop) (e F : α → D) (hj : ∀ j ∈ js, j ∈ vs) (hz : ∀ l μ1, Gd l μ1 → l.length ≤ 100000)
    (h : IX c wi ρ μ fun items μ2 => ∃ l, items = l.map e ∧ Gd l μ2)
    (hs : ∀ (l : List α) (μ1 : Mu) (i : Nat) (x : α) (acc : List D) (a : Addr), Gd l μ1 → l[i]? = some x → GX c g js (e x) (wipe2 ρ vs) ((a, .lst acc) :: μ1) fun ρ2 μ3 => X c te ρ2 μ3 fun z μ6 => z = F x ∧ ((a, MO.lst acc) :: μ1).Sublist μ6)
    (hd : ∀ l μ1 a, Gd l μ1 → P (.ref a) (μ1 ++ [(a, .lst (l.map F))])) : X c (tLc wi g tYes te vs) ρ μ P := by
  refine x_lcI (js := js) (fun items i acc μ2 => ∃ l, items = l.map e ∧ Gd l μ2 ∧ acc = (l.take i).map F) hj (h.imp fun items μ2 hh => ?_)
  obtain ⟨l, e1, hg⟩ := hh
  refine ⟨by rw [e1, List.length_map]; exact hz l _ hg, ⟨l, e1, hg, by simp⟩, ?_, ?_⟩
  · intro i d acc μ3 a hi hI
    obtain ⟨l, e1, hg, rfl⟩ := hI
    rw [e1, List.getElem?_map] at hi
    cases hx : l[i]? with
    | none =>
      rw [hx] at hi
      cases hi
    | some x =>
      rw [hx] at hi
      have e2 : e x = d := Option.some.inj hi
      subst e2
      refine (hs l _ i x _ a hg hx).imp fun ρ2 μ4 hh => ?_
      refine t_yes ⟨fun _ => ?_, fun z => by cases z⟩
      refine X.let (ν := []) (hh.imp fun y μ5 ⟨ey, sl⟩ => ⟨_, sl, ?_⟩)
      refine ⟨_, rfl, l, e1, hg, ?_⟩
      rw [List.take_succ, hx, ey, List.map_append]
      rfl
  · intro acc μ3 a hI
    obtain ⟨l, e1, hg, rfl⟩ := hI
    have : (l.take items.length).map F = l.map F := by rw [e1, List.length_map, List.take_length]
    rw [this]
    exact hd l _ a hg
end
abbrev totV (p : Spl) (t : Wd) (e : List Nat × Int) : Int := price p.sl e.1 t + e.2
/-- the ranking: totals with words, the least first -/
def Rank (p : Spl) (t : Wd) (d : D) : Prop := ∃ l : List Trp, l.Perm (trips p.es (totV p t) p.es.length) ∧ (l.Pairwise fun x y => ¬ Tlt y x) ∧ d = .lst (l.map fun x => .tup [.int x.1, .str (tx x.2.2)])
def G_ranking_of (K : PySem.W.Frag) : Spc := fun ds R => ∃ (p : Spl) (t : Wd), OkP p ∧ Low t ∧ ds = [entsD p.es, slpD K p.sl, .str (tx t)] ∧ R = Rank p t
abbrev N_ranking_of : List Str := ["entries", "slips", "text", "found", "at", "word", "own", "total"]
theorem sc_ranking_of : FnScope N_ranking_of ["entries", "slips", "text"] (defScope s_ranking_of) := ⟨rfl, rfl, rfl, by decide +kernel, rfl, by decide +kernel, by decide +kernel⟩
theorem Tx.c_ranking_of {w : World} {K : PySem.W.Frag} {mg : Str → Option Value} {base : Heap} (T : Tx K mg) : Cal P0 w K mg base 7 "ranking_of" (spF (G_ranking_of K)) [] := by
  refine mkCal (k := 6) T.d_ranking_of T.g_ranking_of sc_ranking_of (fun _ _ _ _ _ _ us hl => match us, hl with | [_, _, _], _ => rfl) (by intro ds R h; obtain ⟨p, t, hp, ht, rfl, rfl⟩ := h; rfl) fun cdv A outer s H E hr => ?_
  have nd := sc_ranking_of.nd
  refine ⟨_, (pss_cons (ps_expr (pe_c T.c_need_text hr (by decide) (by rfl) (pa_cons (pv 2) pa_nil)))
  (pss_cons (ps_setLc (i := 3) (own := [("at", 4), ("word", 5), ("own", 6)]) (g := (gTup K 2 (gCons (gName 4) (gCons (gTup K 2 (gCons (gName 5) (gCons (gName 6) gNil))) gNil)))) (tt := tYes) (te := (tTup (tCons (tOp (rI0 fun i j => .int (i + j)) (tCall (spF (G_price K)) [] C8.E0 (tCons (tVar 1) (tCons (tVar 5) (tCons (tVar 2) tNil)))) (tVar 6)) (tCons (tVar 4) (tCons (tVar 5) tNil))))) rfl nd rfl rfl (sw_true rfl rfl rfl (by decide +kernel)) (pi_enumT (by rfl) T.f_enumerate (pa_cons (pv 0) pa_nil)) (blkOk_by (N := N_ranking_of) (sc := defScope s_ranking_of) (by decide +kernel)) (fun _ _ _ _ _ => (pg_tup rfl (pgs_cons (pg_name (i := 4) nd rfl (by first | exact Or.inl rfl | exact Or.inr rfl)) (pgs_cons (pg_tup rfl (pgs_cons (pg_name (i := 5) nd rfl (by first | exact Or.inl rfl | exact Or.inr rfl)) (pgs_cons (pg_name (i := 6) nd rfl (by first | exact Or.inl rfl | exact Or.inr rfl)) pgs_nil))) pgs_nil)))) (fun _ _ _ _ _ => pts_nil) (fun _ _ _ _ _ => (pe_tup (pa_cons (pe_op op_add (pe_c T.c_price hr (by decide) (by rfl) (pa_cons (pv 1) (pa_cons (pv 5) (pa_cons (pv 2) pa_nil)))) (pv 6)) (pa_cons (pv 4) (pa_cons (pv 5) pa_nil))))))
  (pss_one (ps_ret (pe_fz (pe_lc (own := [("total", 7), ("at", 4), ("word", 5)]) (g := (gTup K 3 (gCons (gName 7) (gCons (gName 4) (gCons (gName 5) gNil))))) (tt := tYes) (te := (tTup (tCons (tVar 7) (tCons (tVar 5) tNil)))) rfl nd (pi_list (pe_fz (pe_callB (call_sortTr hr.units) (by rfl) T.f_sorted boot_sorted (pa_cons (pv 3) pa_nil)))) (blkOk_by (N := N_ranking_of) (sc := defScope s_ranking_of) (by decide +kernel)) (fun _ _ _ _ _ => (pg_tup rfl (pgs_cons (pg_name (i := 7) nd rfl (by first | exact Or.inl rfl | exact Or.inr rfl)) (pgs_cons (pg_name (i := 4) nd rfl (by first | exact Or.inl rfl | exact Or.inr rfl)) (pgs_cons (pg_name (i := 5) nd rfl (by first | exact Or.inl rfl | exact Or.inr rfl)) pgs_nil))))) (fun _ _ _ _ _ => pts_nil) (fun _ _ _ _ _ => (pe_tup (pa_cons (pv 7) (pa_cons (pv 5) pa_nil)))))))))), ?_⟩
  rintro ds R ⟨p, t, hp, ht, rfl, rfl⟩
  have h4 := hp.len
  walk_at "ad"
  refine ⟨_, ⟨t, ht, rfl, rfl⟩, ?_⟩
  rintro _ rfl
  walk_at "ad"
  refine x_map (js := [4] ++ (([5] ++ ([6] ++ [])) ++ [])) (List.range p.es.length) (fun i => .tup [.int (i : Nat), (p.es.map entD).getD i .non]) (fun i => tD (totV p t (p.es.getD i ([], 0)), ((i : Nat) : Int), (p.es.getD i ([], 0)).1)) [] (by decide) (by rw [List.length_range]; omega) ?_ ?_ ?_
  · walk_at "ad"
    refine ⟨?_, rfl⟩
    unfold enD
    rw [List.length_map]
  · intro j i acc a hi
    have hlt : j < p.es.length := by
      have := (List.getElem?_eq_some_iff.mp hi).1
      rwa [List.length_range] at this
    rw [List.getElem?_range hlt] at hi
    cases hi
    have e1 : (p.es.map entD).getD j .non = entD p.es[j] := by
      rw [List.getD_eq_getElem?_getD, List.getElem?_map, List.getElem?_eq_getElem hlt]
      rfl
    have e2 : p.es.getD j ([], 0) = p.es[j] := by
      rw [List.getD_eq_getElem?_getD, List.getElem?_eq_getElem hlt]
      rfl
    rw [e1, e2]
    have hm : p.es[j] ∈ p.es := List.getElem_mem hlt
    walk_at "ad"
    refine x_tup ?_
    walk_at "ad"
    refine ⟨_, ⟨p.sl, p.es[j].1, t, hp.lw hm, ht, rfl, rfl⟩, ?_⟩
    rintro _ rfl
    walk_at "ad"
    refine ⟨by simp, ?_⟩
    exact ⟨rfl, List.Sublist.refl _⟩
  intro a
  walk_at "ad"
  have er : (List.range p.es.length).map (fun i => tD (totV p t (p.es.getD i ([], 0)), ((i : Nat) : Int), (p.es.getD i ([], 0)).1)) = (trips p.es (totV p t) p.es.length).map tD := by
    unfold trips
    rw [List.map_map]
    rfl
  rw [er]
  refine x_fz ?_
  refine x_mapG (js := [7] ++ ([4] ++ ([5] ++ []))) (fun (l : List Trp) μ1 => l.Perm (trips p.es (totV p t) p.es.length) ∧ (l.Pairwise fun x y => ¬ Tlt y x) ∧ μ1 = [(a, .lst ((trips p.es (totV p t) p.es.length).map tD))]) tD (fun x => .tup [.int x.1, .str (tx x.2.2)]) (by decide) ?_ ?_ ?_ ?_
  · intro l μ1 hG
    have := hG.1.length_eq
    rw [trips_len] at this
    omega
  · walk_at "ad"
    refine x_fz ?_
    walk_at "ad"
    refine k_sortTr (j := 0) rfl (by rw [trips_len]; omega) fun q l' h1 h2 => ?_
    exact ⟨q, _, 1, rfl, rfl, _, rfl, l', rfl, h1, h2, rfl⟩
  · intro l μ1 i x acc b hG hx
    obtain ⟨_, _, rfl⟩ := hG
    walk_at "ad"
    exact ⟨rfl, List.Sublist.refl _⟩
  · intro l μ1 b hG
    obtain ⟨h1, h2, rfl⟩ := hG
    exact ⟨b, _, 1, rfl, rfl, l, h1, h2, rfl⟩

end MW
end
section
open MW L2
local macro_rules | `(tactic| walk_at "d1") => `(tactic| first
  | ((with_reducible refine x_varE ?_); refine ⟨_, rfl, ?_⟩)
  | with_reducible refine x_int ?_
  | with_reducible refine x_str ?_
  | with_reducible refine x_bl ?_
  | with_reducible refine x_non ?_
  | with_reducible refine x_ref ?_
  | with_reducible refine x_ty ?_
  | with_reducible refine x_op ?_
  | with_reducible refine x_un ?_
  | with_reducible refine a_nil ?_
  | with_reducible refine a_cons ?_
  | ((with_reducible refine x_tup ?_); walk_at "ad"; refine ⟨by first | exact (by decide) | (simp; done) | omega, ?_⟩)
  | ((with_reducible refine x_lst ?_); walk_at "ad"; refine ⟨by first | exact (by decide) | (simp; done) | omega, fun _ => ?_⟩)
  | with_reducible refine x_if ?_
  | with_reducible refine x_andV ?_
  | with_reducible refine x_orV ?_
  | with_reducible refine x_notV ?_
  | with_reducible refine t_test ?_
  | with_reducible refine t_B ?_
  | with_reducible refine t_yes ?_
  | with_reducible refine r_inS ?_
  | with_reducible refine r_notInS ?_
  | with_reducible refine t_and ?_
  | with_reducible refine t_or ?_
  | with_reducible refine t_not ?_
  | ((with_reducible refine x_fz ?_); walk_at "ad"; (first | refine ⟨_, _, 0, rfl, rfl, ?_⟩ | refine ⟨_, _, 1, rfl, rfl, ?_⟩ | refine ⟨_, _, 2, rfl, rfl, ?_⟩ | refine ⟨_, _, 3, rfl, rfl, ?_⟩))
  | with_reducible refine xs_seq ?_
  | with_reducible refine xs_next ?_
  | with_reducible refine xs_ret ?_
  | with_reducible refine xs_retN ?_
  | with_reducible refine xs_drop ?_
  | with_reducible apply xs_asg
  | with_reducible refine xs_if ?_
  | with_reducible refine g_name ?_
  | with_reducible refine gs_nil ?_
  | with_reducible apply gs_cons
  | ((with_reducible apply g_tup); exact rfl)
  | with_reducible refine x_chain ?_
  | with_reducible refine x_CB ?_
  | with_reducible refine x_call0 ?_
  | with_reducible refine x_sl ?_
  | with_reducible refine o_none ?_
  | with_reducible refine o_some ?_
  | ((with_reducible refine x_prop ?_); walk_at "ad"; refine ⟨_, _, _, rfl, rfl, ?_⟩)
  | with_reducible refine r_I0 ?_
  | with_reducible refine r_I0b ?_
  | with_reducible refine r_eqI ?_
  | with_reducible refine r_neI ?_
  | with_reducible refine r_eqS ?_
  | with_reducible refine r_neS ?_
  | with_reducible refine r_isN ?_
  | with_reducible refine r_notN ?_
  | with_reducible refine u_neg ?_
  | ((with_reducible refine r_ixTE ?_); first | refine ⟨_, ‹_›, ?_⟩ | refine ⟨_, rfl, ?_⟩)
  | ((with_reducible refine r_ixLE ?_); first | refine ⟨_, ‹_›, ?_⟩ | refine ⟨_, rfl, ?_⟩)
  | ((with_reducible refine k_isIE ?_); refine ⟨_, rfl, ?_⟩)
  | ((with_reducible refine k_isSE ?_); refine ⟨_, rfl, ?_⟩)
  | ((with_reducible refine k_isTE ?_); refine ⟨_, rfl, ?_⟩)
  | ((with_reducible refine x_BM ?_); walk_at "ad"; first | refine ⟨ty_lst (j := 0) rfl, ?_⟩ | refine ⟨ty_lst (j := 1) rfl, ?_⟩ | refine ⟨ty_lst (j := 2) rfl, ?_⟩ | refine ⟨ty_lst (j := 3) rfl, ?_⟩)
  | ((with_reducible refine m_appE ?_); (first | refine ⟨0, _, rfl, ?_, ?_⟩ | refine ⟨1, _, rfl, ?_, ?_⟩ | refine ⟨2, _, rfl, ?_, ?_⟩ | refine ⟨3, _, rfl, ?_, ?_⟩); (walk_at "len"))
  | ((with_reducible refine k_lenS ?_ ?_); (walk_at "len"))
  | ((with_reducible refine s_txt ?_ ?_); (walk_at "len"))
  | ((with_reducible refine r_ixSE ?_ ?_); (walk_at "len"); (first | refine ⟨_, ‹_›, ?_⟩ | refine ⟨_, rfl, ?_⟩))
  | with_reducible refine k_lenT ?_
  | with_reducible refine k_lenL ?_
  | ((with_reducible refine k_lenME ?_); (first | refine ⟨0, _, rfl, ?_⟩ | refine ⟨1, _, rfl, ?_⟩ | refine ⟨2, _, rfl, ?_⟩ | refine ⟨3, _, rfl, ?_⟩))
  | ((with_reducible refine r_ixME ?_); (first | refine ⟨0, _, _, rfl, ‹_›, ?_⟩ | refine ⟨1, _, _, rfl, ‹_›, ?_⟩ | refine ⟨2, _, _, rfl, ‹_›, ?_⟩ | refine ⟨0, _, _, rfl, rfl, ?_⟩ | refine ⟨1, _, _, rfl, rfl, ?_⟩ | refine ⟨2, _, _, rfl, rfl, ?_⟩ | refine ⟨3, _, _, rfl, rfl, ?_⟩))
  | ((with_reducible refine x_tupleM ?_); walk_at "ad"; (first | refine ⟨_, 0, _, rfl, rfl, ?_⟩ | refine ⟨_, 1, _, rfl, rfl, ?_⟩ | refine ⟨_, 2, _, rfl, rfl, ?_⟩ | refine ⟨_, 3, _, rfl, rfl, ?_⟩))
  | ((with_reducible refine r_neT0 (n := 0) ?_ ?_ ?_); exact (by decide); exact (deep_dI _ _))
  | ((with_reducible refine x_rev2 ?_); walk_at "ad"; refine ⟨_, _, rfl, ?_⟩)
  | with_reducible refine x_join ?_
  | with_reducible refine i_enumT ?_
  | with_reducible refine i_rng1 ?_
  | with_reducible refine i_rng2 ?_
  | with_reducible refine i_tup ?_
  | with_reducible refine i_lst ?_
  | with_reducible refine i_str ?_
  | refine ⟨_, rfl, ?_⟩
  | ((with_reducible refine brT ?_ ?_); (first | assumption | exact rfl | decide +kernel))
  | ((with_reducible refine brF ?_ ?_); (first | assumption | exact rfl | decide +kernel)))
local macro_rules | `(tactic| walk_at "len") => `(tactic| first | assumption | omega | ((simp only [List.length_append, List.length_cons, List.length_nil, List.length_map, List.length_set]) <;> omega) | (simp; done) | (simp; omega))
local macro_rules | `(tactic| walk_at "ad") => `(tactic| repeat (walk_at "d1"))
local macro_rules | `(tactic| walk_at "sub") => `(tactic| first | exact List.nil_sublist _ | exact List.Sublist.refl _ | (refine List.Sublist.cons₂ _ ?_; walk_at "sub") | (refine List.Sublist.cons _ ?_; walk_at "sub"))
/-! Methods of Speller. -/
namespace MW
open PySem PySem.Spec PyProof.Rows L2
open C8 (pe_c pe_gc Cal)
section
variable {w : World} {K : PySem.W.Frag} {mg : Str → Option Value} {base : Heap}
theorem mkMet {m qual : Str} {st : Stmt} {N ps : List Str} {k : Nat} {G : Spc} {C f : Addr} (hF : ∃ fd, FunD K m qual (defArgs st) (defBody st) (defScope st) [] [] f fd) (hc : Cls K C) (hm : Meth K C m f) (S : FnScope N ps (defScope st)) (hb : BN m qual st ps) (len : ∀ ds R, G ds R → ds.length = ps.length)
    (hbody : ∀ (cdv : Value) (A : Around) (outer : List Env) (s : Shared) (H : Hp) (E : XK), Room k (A.deeper (envOfC qual (defScope st) s.heap.objs.size f cdv)) →
      ∃ t, PSs (cxOf C8.CX0 P0 w K mg base N qual (defScope st) f cdv A outer s H E).nox (defBody st) t ∧ ∀ ds R, G ds R → XS ⟨[], H⟩ t (ds.map some ++ List.replicate (N.length - ds.length) none) [] { nx := fun _ _ => R .non, rt := fun d _ => R d }) :
    C8.Met P0 w K mg base (k + 1) C m (spF G) [] := by
  obtain ⟨fd, F⟩ := hF
  exact ⟨f, fd, ps, [], hc, hm, MW.FunD.okF F S len hbody, F.bindsN hb, .nil⟩
theorem Tx.k_Speller (T : Tx K mg) : C8.Mak P0 w K mg base 8 "Speller" (He.ga K "Speller") (spSpeller (He.ga K "Speller") D.lst) [] := by
  obtain ⟨fd, h1, F⟩ := T.i_SpellerL (w := w) (base := base)
  obtain ⟨ds, e1, e2⟩ := F.binds1 (ps := ["self", "entries", "slips"]) 3 1 (by intro z; cases z) rfl (fun _ kV doc pm an cdv ct us its h1 h2 => match us, its, h1, h2 with | [_, _, _], [_], _, _ => ⟨_, rfl, rfl⟩)
  exact ⟨_, fd, _, ds, T.mk_Speller, h1, T.g_Speller, e2, e1⟩
theorem Tx.k_SpellerT (T : Tx K mg) : C8.Mak P0 w K mg base 8 "Speller" (He.ga K "Speller") (spSpeller (He.ga K "Speller") D.tup) [] := by
  obtain ⟨fd, h1, F⟩ := T.i_SpellerT (w := w) (base := base)
  obtain ⟨ds, e1, e2⟩ := F.binds1 (ps := ["self", "entries", "slips"]) 3 1 (by intro z; cases z) rfl (fun _ kV doc pm an cdv ct us its h1 h2 => match us, its, h1, h2 with | [_, _, _], [_], _, _ => ⟨_, rfl, rfl⟩)
  exact ⟨_, fd, _, ds, T.mk_Speller, h1, T.g_Speller, e2, e1⟩
end
section
variable {c : Cn} {ρ : Env2} {μ : Mu} {P : D → Mu → Prop} {K : PySem.W.Frag}
/-- t + u of two tuples -/
theorem r_catT {ds es : List D} (hz : ds.length + es.length ≤ 100000) (k : P (.tup (ds ++ es)) μ) : RX c (rCatA K) (.tup ds) (.tup es) μ P := fun ρ σ H v w Q S r1 r2 q => by
  obtain ⟨a, vs, rfl, ha, rs⟩ := r1
  obtain ⟨b, ws, rfl, hb, rt⟩ := r2
  refine ⟨a, b, vs, ws, rfl, rfl, SqT.of ha, SqT.of hb, by rw [rs.len, rt.len]; exact Nat.le_trans hz (by decide), fun e => ?_, fun _ e => ?_, fun _ _ p hp => ?_⟩
  · refine q (.ref b) H (.tup (ds ++ es)) μ (Pst.refl H) ⟨b, ws, rfl, hb, ?_⟩ S k
    have hd : ds = [] := List.length_eq_zero_iff.mp (by rw [← rs.len, e]; rfl)
    rw [hd]
    exact rt
  · refine q (.ref a) H (.tup (ds ++ es)) μ (Pst.refl H) ⟨a, vs, rfl, ha, ?_⟩ S k
    have hd : es = [] := List.length_eq_zero_iff.mp (by rw [← rt.len, e]; rfl)
    rw [hd, List.append_nil]
    exact rs
  · exact q _ _ (.tup (ds ++ es)) μ (Pst.new hp) ⟨p, _, rfl, upd_same, Reps.mono (Pst.new hp) _ _ (rs.app rt)⟩ (S.new hp) k
end
theorem cut_take {α : Type} {l : List α} {k : Nat} (h : k ≤ l.length) : cut l none (some (k : Int)) = l.take k := by
  unfold cut
  rw [show HT.sIx l.length 0 none = 0 from rfl, show HT.sIx l.length l.length (some (k : Int)) = k from sIx_of (.inl ⟨by omega, by omega⟩)]
  rfl
theorem cut_drop {α : Type} {l : List α} {k : Nat} (h : k ≤ l.length) : cut l (some (k : Int)) none = l.drop k := by
  unfold cut
  rw [show HT.sIx l.length l.length none = l.length from rfl, show HT.sIx l.length 0 (some (k : Int)) = k from sIx_of (.inl ⟨by omega, by omega⟩)]
  exact List.take_of_length_le (by rw [List.length_drop]; exact Nat.le_refl _)
/-- the speller without the word at place k -/
def drop1 (p : Spl) (k : Nat) : Spl := ⟨p.es.eraseIdx k, p.sl⟩
theorem OkE.drop {es : List (List Nat × Int)} (h : OkE es) (k : Nat) : OkE (es.eraseIdx k) := by
  have sub := List.eraseIdx_sublist es k
  exact ⟨Nat.le_trans sub.length_le h.len, fun e he => h.low e (sub.subset he), fun e he => h.own e (sub.subset he), h.nd.sublist (sub.map _)⟩
theorem OkP.of {p : Spl} (h : OkE p.es) (s : OkL p.sl) : OkP p := ⟨h.len, h.low, h.own, h.nd, s.ex, s.mi, s.wr, s.sw⟩
theorem OkP.l {p : Spl} (h : OkP p) : OkL p.sl := ⟨h.ex, h.mi, h.wr, h.sw⟩
def G_Speller_ranking (K : PySem.W.Frag) : Spc := fun ds R => ∃ (p : Spl) (t : Wd), OkP p ∧ Low t ∧ ds = [splD K p, .str (tx t)] ∧ R = Rank p t
def G_Speller_contains (K : PySem.W.Frag) : Spc := fun ds R => ∃ (p : Spl) (x : Wd), OkP p ∧ ds = [splD K p, .str (tx x)] ∧ R = fun d => d = .bl (decide (x ∈ p.es.map (·.1)))
def G_Speller_sub (K : PySem.W.Frag) : Spc := fun ds R => ∃ (p : Spl) (e : List Nat × Int) (k : Nat), OkP p ∧ p.es[k]? = some e ∧ ds = [splD K p, .str (tx e.1)] ∧ R = fun d => d = splD K (drop1 p k)
abbrev N_Speller_ranking : List Str := ["self", "text"]
theorem sc_Speller_ranking : FnScope N_Speller_ranking ["self", "text"] (defScope s_Speller_ranking) := ⟨rfl, rfl, rfl, by decide +kernel, rfl, by decide +kernel, by decide +kernel⟩
theorem Tx.q_Speller_ranking {w : World} {K : PySem.W.Frag} {mg : Str → Option Value} {base : Heap} (T : Tx K mg) : C8.Met P0 w K mg base 8 (He.ga K "Speller") "ranking" (spF (G_Speller_ranking K)) [] := by
  refine mkMet (k := 7) T.d_Speller_ranking T.c_Speller T.m_ranking sc_Speller_ranking (fun _ _ _ _ _ _ us hl => match us, hl with | [_, _], _ => rfl) (by intro ds R h; obtain ⟨p, t, hp, ht, rfl, rfl⟩ := h; rfl) fun cdv A outer s H E hr => ?_
  have nd := sc_Speller_ranking.nd
  refine ⟨_, (pss_one (ps_ret (pe_c T.c_ranking_of hr (by decide) (by rfl) (pa_cons (pe_fld (pv 0) rfl) (pa_cons (pe_fld (pv 0) rfl) (pa_cons (pv 1) pa_nil)))))), ?_⟩
  rintro ds R ⟨p, t, hp, ht, rfl, rfl⟩
  walk_at "ad"
  refine x_fld ?_
  walk_at "ad"
  refine ⟨_, _, _, _, rfl, T.c_Speller, T.n_e_entries, rfl, ?_⟩
  walk_at "ad"
  refine x_fld ?_
  walk_at "ad"
  refine ⟨_, _, _, _, rfl, T.c_Speller, T.n_e_slips, rfl, ?_⟩
  walk_at "ad"
  
  refine ⟨_, ⟨p, t, hp, ht, rfl, rfl⟩, ?_⟩
  intro d hd
  walk_at "ad"
  all_goals exact hd

abbrev N_Speller_contains : List Str := ["self", "x", "entry"]
theorem sc_Speller_contains : FnScope N_Speller_contains ["self", "x"] (defScope s_Speller_contains) := ⟨rfl, rfl, rfl, by decide +kernel, rfl, by decide +kernel, by decide +kernel⟩
theorem Tx.q_Speller_contains {w : World} {K : PySem.W.Frag} {mg : Str → Option Value} {base : Heap} (T : Tx K mg) : C8.Met P0 w K mg base 2 (He.ga K "Speller") "__contains__" (spF (G_Speller_contains K)) [] := by
  refine mkMet (k := 1) T.d_Speller_contains T.c_Speller T.m_contains sc_Speller_contains (fun _ _ _ _ _ _ us hl => match us, hl with | [_, _], _ => rfl) (by intro ds R h; obtain ⟨p, x, hp, rfl, rfl⟩ := h; rfl) fun cdv A outer s H E hr => ?_
  have nd := sc_Speller_contains.nd
  refine ⟨_, (pss_one (ps_ret (pe_and (pe_callB call_isi (by rfl) T.f_isinstance boot_isinstance (pa_cons (pv 1) (pa_cons (pe_bltn (v := .ty "str") (u := .type "str") (by rfl) T.f_str (by decide +kernel) rfl) pa_nil))) (pe_one (pe_cmpR op_in_seq (pv 1) (pe_lc (own := [("entry", 2)]) (g := (gName 2)) (tt := tYes) (te := (tOp (rIxT K) (tVar 2) (tC (.int 0)))) rfl nd (pi_tup (pe_fld (pv 0) rfl)) (blkOk_by (N := N_Speller_contains) (sc := defScope s_Speller_contains) (by decide +kernel)) (fun _ _ _ _ _ => (pg_name (i := 2) nd rfl (by first | exact Or.inl rfl | exact Or.inr rfl))) (fun _ _ _ _ _ => pts_nil) (fun _ _ _ _ _ => (pe_ix ix_tup (pv 2) pe_int (fun _ _ => rfl)))) (by rfl)))))), ?_⟩
  rintro ds R ⟨p, x, hp, rfl, rfl⟩
  walk_at "ad"
  refine x_map (js := [2]) p.es entD (fun e => txD e.1) [] (by decide) (by have := hp.len; omega) ?_ ?_ ?_
  · walk_at "ad"
    refine x_fld ?_
    walk_at "ad"
    refine ⟨_, _, _, _, rfl, T.c_Speller, T.n_e_entries, rfl, ?_⟩
    walk_at "ad"
    exact ⟨rfl, rfl⟩
  · intro i x acc a hx
    walk_at "ad"
    exact ⟨rfl, List.Sublist.refl _⟩
  intro a
  have em : p.es.map (fun e => txD e.1) = (p.es.map (·.1)).map txD := by
    rw [List.map_map]
    rfl
  rw [em]
  refine r_inTs (j := 0) rfl ?_
  rw [if_neg Bool.false_ne_true]
  all_goals rfl

abbrev N_Speller_sub : List Str := ["self", "other", "at"]
theorem sc_Speller_sub : FnScope N_Speller_sub ["self", "other"] (defScope s_Speller_sub) := ⟨rfl, rfl, rfl, by decide +kernel, rfl, by decide +kernel, by decide +kernel⟩
theorem Tx.q_Speller_sub {w : World} {K : PySem.W.Frag} {mg : Str → Option Value} {base : Heap} (T : Tx K mg) : C8.Met P0 w K mg base 10 (He.ga K "Speller") "__sub__" (spF (G_Speller_sub K)) [] := by
  refine mkMet (k := 9) T.d_Speller_sub T.c_Speller T.m_sub sc_Speller_sub (fun _ _ _ _ _ _ us hl => match us, hl with | [_, _], _ => rfl) (by intro ds R h; obtain ⟨p, e, k, hp, hk, rfl, rfl⟩ := h; rfl) fun cdv A outer s H E hr => ?_
  have nd := sc_Speller_sub.nd
  refine ⟨_, (pss_cons (ps_set (i := 2) nd rfl (by first | exact Or.inl rfl | exact Or.inr rfl) (pe_c T.c_place_of hr (by decide) (by rfl) (pa_cons (pe_fld (pv 0) rfl) (pa_cons (pv 1) pa_nil))))
  (pss_one (ps_ret (C8.pe_mk T.k_SpellerT hr (by decide) (by rfl) (pa_cons (pe_op op_catA (pe_slice sl_tupA (pe_fld (pv 0) rfl) po_none (po_some (pv 2))) (pe_slice sl_tupA (pe_fld (pv 0) rfl) (po_some (pe_op op_add (pv 2) pe_int)) po_none)) (pa_cons (pe_fld (pv 0) rfl) pa_nil)))))), ?_⟩
  rintro ds R ⟨p, e, k, hp, hk, rfl, rfl⟩
  walk_at "ad"
  refine x_fld ?_
  walk_at "ad"
  refine ⟨_, _, _, _, rfl, T.c_Speller, T.n_e_entries, rfl, ?_⟩
  walk_at "ad"
  
  refine ⟨_, ⟨p.es, e, k, hp.len, hp.nd, hk, rfl, rfl⟩, ?_⟩
  rintro _ rfl
  walk_at "ad"
  have hkl := (List.getElem?_eq_some_iff.mp hk).1
  have c1 : cut (p.es.map entD) none (some (k : Int)) = (p.es.map entD).take k := cut_take (by rw [List.length_map]; omega)
  have c2 : cut (p.es.map entD) (some ((k : Int) + 1)) none = (p.es.map entD).drop (k + 1) := cut_drop (k := k + 1) (by rw [List.length_map]; omega)
  have h4 := hp.len
  refine x_mkSpl ?_
  refine a_cons ?_
  refine x_op ?_
  refine x_sl ?_
  refine x_fld ?_
  walk_at "ad"
  refine ⟨_, _, _, _, rfl, T.c_Speller, T.n_e_entries, rfl, ?_⟩
  walk_at "ad"
  
  refine s_tup ?_
  refine x_sl ?_
  refine x_fld ?_
  walk_at "ad"
  refine ⟨_, _, _, _, rfl, T.c_Speller, T.n_e_entries, rfl, ?_⟩
  walk_at "ad"
  
  refine s_tup ?_
  refine r_catT ?_ ?_
  · rw [c1, c2, List.length_take, List.length_drop, List.length_map]
    omega
  walk_at "ad"
  refine x_fld ?_
  walk_at "ad"
  refine ⟨_, _, _, _, rfl, T.c_Speller, T.n_e_slips, rfl, ?_⟩
  walk_at "ad"
  
  refine ⟨drop1 p k, ?_, hp.e.drop k, rfl⟩
  rw [c1, c2, ← List.map_take, ← List.map_drop, ← List.map_append, ← List.eraseIdx_eq_take_drop_succ]
  all_goals rfl

end MW
end
section
open MW L2
/-! Promises of defs that are given objects which may be changed. -/
namespace MW
open PySem PySem.Spec PyProof.Rows L2
open C8 (pe_c pe_gc Cal)
abbrev SpcM := List D → Mu → (D → Mu → Prop) → Prop
def spM (G : SpcM) : Sp := fun vs H Q _ => ∃ ds μ R, Reps H ds vs ∧ (∀ p ∈ μ, At H p.1 p.2) ∧ (μ.map (·.1)).Nodup ∧ G ds μ R ∧ ∀ d v H' μ', Pst H H' → Rep H' d v → (∀ p ∈ μ', At H' p.1 p.2) → (μ'.map (·.1)).Nodup →
  (∀ p ∈ μ', p.1 ∈ μ.map (·.1) ∨ H p.1 = none) → (∀ b o, b ∉ μ.map (·.1) → H b = some o → H' b = some o) → (∀ b, H' b = none → H b = none) → R d μ' → Q v H'
theorem body_runM {G : SpcM} {N : List Str} {vs : List V} {H : Hp} {Q : VK} {E : XK} {t : TS} (h : spM G vs H Q E)
    (hb : ∀ ds μ R, G ds μ R → XS ⟨μ.map (·.1), H⟩ t (ds.map some ++ List.replicate (N.length - ds.length) none) μ { nx := fun _ μ' => ∃ ν, ν.Sublist μ' ∧ R .non ν, rt := fun d μ' => ∃ ν, ν.Sublist μ' ∧ R d ν }) : t { nx := fun _ H' => Q .non H', rt := Q } (start N vs) H := by
  obtain ⟨ds, μ, R, rs, hm, nd, g, k⟩ := h
  have S0 := sat_start (N := N) rs
  have S : Sat ⟨μ.map (·.1), H⟩ (ds.map some ++ List.replicate (N.length - ds.length) none) μ (start N vs) H :=
    ⟨fun a o _ e => e, S0.env, S0.len, hm, fun p hp => .inr (List.mem_map.mpr ⟨p, hp, rfl⟩), nd, fun a e => e⟩
  refine hb ds μ R g _ H _ S ⟨fun ρ' μ' σ' H' p S1 ⟨ν, sν, z⟩ => ?_, fun ρ' μ' σ' H' d v p S1 r ⟨ν, sν, z⟩ => ?_, fun _ _ _ _ _ _ z => z.elim, fun _ _ _ _ _ _ z => z.elim⟩
  · have S' := S1.drop sν
    exact k .non .non H' ν p rfl S'.mu S'.nd (fun q hq => (S'.own q hq).symm) (fun b o hb e => S'.fr b o hb e) S'.dom z
  · have S' := S1.drop sν
    exact k d v H' ν p r S'.mu S'.nd (fun q hq => (S'.own q hq).symm) (fun b o hb e => S'.fr b o hb e) S'.dom z
section
variable {w : World} {K : PySem.W.Frag} {mg : Str → Option Value} {base : Heap}
theorem mkCalM {x : Str} {st : Stmt} {N ps : List Str} {k : Nat} {G : SpcM} {f : Addr} (hF : ∃ fd, FunD K x x (defArgs st) (defBody st) (defScope st) [] [] f fd) (hm : mg x = some (.ref f)) (S : FnScope N ps (defScope st)) (hb : BN x x st ps) (len : ∀ ds μ R, G ds μ R → ds.length = ps.length)
    (hbody : ∀ (cdv : Value) (A : Around) (outer : List Env) (s : Shared) (H : Hp) (E : XK), Room k (A.deeper (envOfC x (defScope st) s.heap.objs.size f cdv)) →
      ∃ t, PSs (cxOf C8.CX0 P0 w K mg base N x (defScope st) f cdv A outer s H E).nox (defBody st) t ∧ ∀ ds μ R, G ds μ R → XS ⟨μ.map (·.1), H⟩ t (ds.map some ++ List.replicate (N.length - ds.length) none) μ { nx := fun _ μ' => ∃ ν, ν.Sublist μ' ∧ R .non ν, rt := fun d μ' => ∃ ν, ν.Sublist μ' ∧ R d ν }) :
    Cal P0 w K mg base (k + 1) x (spM G) [] := by
  obtain ⟨fd, F⟩ := hF
  refine ⟨f, fd, ps, [], F.ok S (fun vs H Q E h => ?_) (fun cdv A outer s H vs Q E hr hsp => ?_), hm, F.kp, F.bindsN hb, .nil⟩
  · obtain ⟨ds, μ, R, rs, _, _, g, _⟩ := h
    rw [rs.len, len ds μ R g]
  · obtain ⟨t, h1, h2⟩ := hbody cdv A outer s H E hr
    exact ⟨t, h1.nox, body_runM hsp h2⟩
end
section
variable {c : Cn} {ρ : Env2} {μ : Mu} {P : D → Mu → Prop}
/-- f(..), some of the objects at hand given; μb: the others -/
theorem x_callM {G : SpcM} {E : XK} {ta : TA} (h : AX c ta ρ μ fun ds μ1 => ∃ μa μb R, (μa ++ μb).Perm μ1 ∧ G ds μa R ∧ ∀ d μ', R d μ' → P d (μ' ++ μb)) : X c (tCall (spM G) [] E ta) ρ μ P := fun σ H Q S q =>
  h σ H _ S fun vs H1 ds μ1 p1 r1 S1 ⟨μa, μb, R, hp, g, k⟩ => by
    have S2 := S1.perm hp
    have nd := S2.nd
    rw [List.map_append, List.nodup_append] at nd
    obtain ⟨n1, n2, n3⟩ := nd
    refine ⟨ds, μa, R, by rw [List.append_nil]; exact r1, fun p hp => S2.mu p (List.mem_append_left _ hp), n1, g, fun d v H' μ' p r hm nd' own fr dom z => ?_⟩
    refine q v H' d (μ' ++ μb) (p1.trans p) r ?_ (k d μ' z)
    have offb : ∀ p ∈ μb, p.1 ∉ μa.map (·.1) := fun p hp hx => n3 _ hx _ (List.mem_map.mpr ⟨p, hp, rfl⟩) rfl
    refine ⟨fun a o hb e => ?_, fun i d e => let ⟨u, e1, e2⟩ := S2.env i d e; ⟨u, e1, e2.mono p⟩, S2.len, fun x hx => ?_, fun x hx => ?_, ?_, fun a e => S2.dom a (dom a e)⟩
    · refine fr a o (fun hx => ?_) (S2.fr a o hb e)
      obtain ⟨x, hx1, hx2⟩ := List.mem_map.mp hx
      rcases S2.own x (List.mem_append_left _ hx1) with z | z
      · rw [hx2, e] at z
        cases z
      · rw [hx2] at z
        exact hb z
    · rcases List.mem_append.mp hx with hx | hx
      · exact hm x hx
      · exact (S2.mu x (List.mem_append_right _ hx)).mono p fun o e => fr x.1 o (offb x hx) e
    · rcases List.mem_append.mp hx with hx | hx
      · rcases own x hx with z | z
        · obtain ⟨y, hy1, hy2⟩ := List.mem_map.mp z
          rw [← hy2]
          exact S2.own y (List.mem_append_left _ hy1)
        · exact .inl (S2.dom _ z)
      · exact S2.own x (List.mem_append_right _ hx)
    · rw [List.map_append, List.nodup_append]
      refine ⟨nd', n2, fun a ha b hb e => ?_⟩
      subst e
      obtain ⟨x, hx1, hx2⟩ := List.mem_map.mp ha
      obtain ⟨y, hy1, hy2⟩ := List.mem_map.mp hb
      rcases own x hx1 with z | z
      · rw [hx2, ← hy2] at z
        exact offb y hy1 z
      · obtain ⟨u, hu, _⟩ := (S2.mu y (List.mem_append_right _ hy1)).un
        rw [hy2, ← hx2, z] at hu
        cases hu
end
end MW
end
section
open MW L2
local macro_rules | `(tactic| walk_at "d1") => `(tactic| first
  | ((with_reducible refine x_varE ?_); refine ⟨_, rfl, ?_⟩)
  | with_reducible refine x_int ?_
  | with_reducible refine x_str ?_
  | with_reducible refine x_bl ?_
  | with_reducible refine x_non ?_
  | with_reducible refine x_ref ?_
  | with_reducible refine x_ty ?_
  | with_reducible refine x_op ?_
  | with_reducible refine x_un ?_
  | with_reducible refine a_nil ?_
  | with_reducible refine a_cons ?_
  | ((with_reducible refine x_tup ?_); walk_at "ad"; refine ⟨by first | exact (by decide) | (simp; done) | omega, ?_⟩)
  | ((with_reducible refine x_lst ?_); walk_at "ad"; refine ⟨by first | exact (by decide) | (simp; done) | omega, fun _ => ?_⟩)
  | with_reducible refine x_if ?_
  | with_reducible refine x_andV ?_
  | with_reducible refine x_orV ?_
  | with_reducible refine x_notV ?_
  | with_reducible refine t_test ?_
  | with_reducible refine t_B ?_
  | with_reducible refine t_yes ?_
  | with_reducible refine r_inS ?_
  | with_reducible refine r_notInS ?_
  | with_reducible refine t_and ?_
  | with_reducible refine t_or ?_
  | with_reducible refine t_not ?_
  | ((with_reducible refine x_fz ?_); walk_at "ad"; (first | refine ⟨_, _, 0, rfl, rfl, ?_⟩ | refine ⟨_, _, 1, rfl, rfl, ?_⟩ | refine ⟨_, _, 2, rfl, rfl, ?_⟩ | refine ⟨_, _, 3, rfl, rfl, ?_⟩))
  | with_reducible refine xs_seq ?_
  | with_reducible refine xs_next ?_
  | with_reducible refine xs_ret ?_
  | with_reducible refine xs_retN ?_
  | with_reducible refine xs_drop ?_
  | with_reducible apply xs_asg
  | with_reducible refine xs_if ?_
  | with_reducible refine g_name ?_
  | with_reducible refine gs_nil ?_
  | with_reducible apply gs_cons
  | ((with_reducible apply g_tup); exact rfl)
  | with_reducible refine x_chain ?_
  | with_reducible refine x_CB ?_
  | with_reducible refine x_call0 ?_
  | with_reducible refine x_sl ?_
  | with_reducible refine o_none ?_
  | with_reducible refine o_some ?_
  | ((with_reducible refine x_prop ?_); walk_at "ad"; refine ⟨_, _, _, rfl, rfl, ?_⟩)
  | with_reducible refine r_I0 ?_
  | with_reducible refine r_I0b ?_
  | with_reducible refine r_eqI ?_
  | with_reducible refine r_neI ?_
  | with_reducible refine r_eqS ?_
  | with_reducible refine r_neS ?_
  | with_reducible refine r_isN ?_
  | with_reducible refine r_notN ?_
  | with_reducible refine u_neg ?_
  | ((with_reducible refine r_ixTE ?_); first | refine ⟨_, ‹_›, ?_⟩ | refine ⟨_, rfl, ?_⟩)
  | ((with_reducible refine r_ixLE ?_); first | refine ⟨_, ‹_›, ?_⟩ | refine ⟨_, rfl, ?_⟩)
  | ((with_reducible refine k_isIE ?_); refine ⟨_, rfl, ?_⟩)
  | ((with_reducible refine k_isSE ?_); refine ⟨_, rfl, ?_⟩)
  | ((with_reducible refine k_isTE ?_); refine ⟨_, rfl, ?_⟩)
  | ((with_reducible refine x_BM ?_); walk_at "ad"; first | refine ⟨ty_lst (j := 0) rfl, ?_⟩ | refine ⟨ty_lst (j := 1) rfl, ?_⟩ | refine ⟨ty_lst (j := 2) rfl, ?_⟩ | refine ⟨ty_lst (j := 3) rfl, ?_⟩)
  | ((with_reducible refine m_appE ?_); (first | refine ⟨0, _, rfl, ?_, ?_⟩ | refine ⟨1, _, rfl, ?_, ?_⟩ | refine ⟨2, _, rfl, ?_, ?_⟩ | refine ⟨3, _, rfl, ?_, ?_⟩); (walk_at "len"))
  | ((with_reducible refine k_lenS ?_ ?_); (walk_at "len"))
  | ((with_reducible refine s_txt ?_ ?_); (walk_at "len"))
  | ((with_reducible refine r_ixSE ?_ ?_); (walk_at "len"); (first | refine ⟨_, ‹_›, ?_⟩ | refine ⟨_, rfl, ?_⟩))
  | with_reducible refine k_lenT ?_
  | with_reducible refine k_lenL ?_
  | ((with_reducible refine k_lenME ?_); (first | refine ⟨0, _, rfl, ?_⟩ | refine ⟨1, _, rfl, ?_⟩ | refine ⟨2, _, rfl, ?_⟩ | refine ⟨3, _, rfl, ?_⟩))
  | ((with_reducible refine r_ixME ?_); (first | refine ⟨0, _, _, rfl, ‹_›, ?_⟩ | refine ⟨1, _, _, rfl, ‹_›, ?_⟩ | refine ⟨2, _, _, rfl, ‹_›, ?_⟩ | refine ⟨0, _, _, rfl, rfl, ?_⟩ | refine ⟨1, _, _, rfl, rfl, ?_⟩ | refine ⟨2, _, _, rfl, rfl, ?_⟩ | refine ⟨3, _, _, rfl, rfl, ?_⟩))
  | ((with_reducible refine x_tupleM ?_); walk_at "ad"; (first | refine ⟨_, 0, _, rfl, rfl, ?_⟩ | refine ⟨_, 1, _, rfl, rfl, ?_⟩ | refine ⟨_, 2, _, rfl, rfl, ?_⟩ | refine ⟨_, 3, _, rfl, rfl, ?_⟩))
  | ((with_reducible refine r_neT0 (n := 0) ?_ ?_ ?_); exact (by decide); exact (deep_dI _ _))
  | ((with_reducible refine x_rev2 ?_); walk_at "ad"; refine ⟨_, _, rfl, ?_⟩)
  | with_reducible refine x_join ?_
  | with_reducible refine i_enumT ?_
  | with_reducible refine i_rng1 ?_
  | with_reducible refine i_rng2 ?_
  | with_reducible refine i_tup ?_
  | with_reducible refine i_lst ?_
  | with_reducible refine i_str ?_
  | refine ⟨_, rfl, ?_⟩
  | ((with_reducible refine brT ?_ ?_); (first | assumption | exact rfl | decide +kernel))
  | ((with_reducible refine brF ?_ ?_); (first | assumption | exact rfl | decide +kernel)))
local macro_rules | `(tactic| walk_at "len") => `(tactic| first | assumption | omega | ((simp only [List.length_append, List.length_cons, List.length_nil, List.length_map, List.length_set]) <;> omega) | (simp; done) | (simp; omega))
local macro_rules | `(tactic| walk_at "ad") => `(tactic| repeat (walk_at "d1"))
local macro_rules | `(tactic| walk_at "sub") => `(tactic| first | exact List.nil_sublist _ | exact List.Sublist.refl _ | (refine List.Sublist.cons₂ _ ?_; walk_at "sub") | (refine List.Sublist.cons _ ?_; walk_at "sub"))
/-! The draw: _law_take, _law_pick. -/
namespace MW
open PySem PySem.Spec PyProof.Rows L2
open C8 (pe_c pe_gc Cal)
section
variable {c : Cn} {ρ : Env2} {μ : Mu} {P : D → Mu → Prop} {K : PySem.W.Frag}
/-- d[x] = .. as a target -/
theorem s_dput {a : Addr} {j : Nat} {L : AL} {x : Str} {d : D} {Kn : Mu → Prop} (hm : μ[j]? = some (a, dicM L)) (hl : L.length < 100000) (k : Kn (μ.set j (a, dicM (putL L x d)))) : SetX c rSetD (.ref a) (.str x) d ρ μ Kn := fun σ H vo vi vd Q S ro ri rd q => by
  have e1 : vo = .ref a := ro
  have e2 : vi = .str x := ri
  subst e1 e2
  obtain ⟨kvs, ea, dl⟩ := (S.mu _ (List.mem_of_getElem? hm)).dl
  have P1 : Pst H (upd H a (.dK (putK kvs (.inr x) vd))) := Pst.mut ea fun z => z
  exact ⟨a, _, rfl, DPut.k (k := .inr x) ea (by rw [dl.len]; exact Nat.lt_of_lt_of_le hl (by decide)), q _ _ P1 (S.put (m' := dicM (putL L x d)) hm (DL.at upd_same (DL.put (rd.mono P1) (dl.mono P1)))) k⟩
/-- xs.pop(0) -/
theorem m_pop0 {a : Addr} {j : Nat} {d : D} {ds : List D} (hm : μ[j]? = some (a, .lst (d :: ds))) (k : P d (μ.set j (a, .lst ds))) : MX c rPopAt (.ref a) [.int 0] μ P := fun ρ σ H v vs Q S r1 r2 q => by
  have ev : v = .ref a := r1
  obtain ⟨w, r0, rfl, rfl, rfl⟩ := r2
  subst ev
  obtain ⟨ws, hv, u, us, e, ru, rs⟩ := S.mu _ (List.mem_of_getElem? hm)
  subst e
  have P1 : Pst H (upd H a (.lst us)) := Pst.mut hv fun z => z
  refine ⟨a, u :: us, 0, 0, u, rfl, rfl, hv, by decide, by decide, by simp [seqIndex?], rfl, ?_⟩
  exact q u _ d _ P1 (ru.mono P1) (S.put (m' := .lst ds) hm ⟨us, upd_same, Reps.mono P1 _ _ rs⟩) k
theorem k_int1 {i : Int} (k : P (.int i) μ) : KX c (fun xs H Q => (∃ i, xs = [.int i] ∧ Q (.int i) H) ∨ ∃ k, xs = [.bl k] ∧ Q (.int (if k then 1 else 0)) H) [.int i] μ P := fun ρ σ H vs Q S r q => by
  obtain ⟨v, r0, rfl, rfl, rfl⟩ := r
  exact .inl ⟨i, rfl, q _ H (.int i) μ (Pst.refl H) rfl S k⟩
theorem k_divmod {i j : Int} (hc : CDivP i j) (k : P (.tup [.int (i / j), .int (i % j)]) μ) : KX c (fun xs H Q => ∃ i j, xs = [.int i, .int j] ∧ CDivP i j ∧ ∀ p, H p = none → Q (.ref p) (upd H p (.tup [.int (i / j), .int (i % j)]))) [.int i, .int j] μ P := fun ρ σ H vs Q S r q => by
  obtain ⟨v, r0, rfl, rfl, u, r1, rfl, rfl, rfl⟩ := r
  exact ⟨i, j, rfl, hc, fun p hp => q _ _ (.tup [.int (i / j), .int (i % j)]) μ (Pst.new hp) ⟨p, _, rfl, upd_same, .cons rfl (.cons rfl .nil)⟩ (S.new hp) k⟩
end
/-! ### the draw -/
abbrev drL (la ca : Addr) (r t m : Int) : AL := [("large", .ref la), ("cells", .ref ca), ("rest", .int r), ("turn", .int t), ("mix", .int m)]
abbrev drM (dr la ca : Addr) (large cells : List Int) (r t m : Int) : Mu := [(dr, dicM (drL la ca r t m)), (la, .lst (dI large)), (ca, .lst (dI cells))]
structure OkDr (large : List Int) (r m : Int) : Prop where
  big : ∀ x ∈ large, 0 ≤ x
  rest : 0 ≤ r
  mix : 0 ≤ m ∧ m < 2147483629
theorem dr_rest {la ca : Addr} {r t m : Int} : getL (drL la ca r t m) "rest" = some (.int r) := by
  unfold getL drL
  simp [List.find?_cons, show ¬ (("large" : Str) = "rest") by decide +kernel, show ¬ (("cells" : Str) = "rest") by decide +kernel]
theorem dr_large {la ca : Addr} {r t m : Int} : getL (drL la ca r t m) "large" = some (.ref la) := by
  unfold getL drL
  simp [List.find?_cons]
theorem dr_cells {la ca : Addr} {r t m : Int} : getL (drL la ca r t m) "cells" = some (.ref ca) := by
  unfold getL drL
  simp [List.find?_cons, show ¬ (("large" : Str) = "cells") by decide +kernel]
theorem dr_turn {la ca : Addr} {r t m : Int} : getL (drL la ca r t m) "turn" = some (.int t) := by
  unfold getL drL
  simp [List.find?_cons, show ¬ (("large" : Str) = "turn") by decide +kernel, show ¬ (("cells" : Str) = "turn") by decide +kernel, show ¬ (("rest" : Str) = "turn") by decide +kernel]
theorem dr_mix {la ca : Addr} {r t m : Int} : getL (drL la ca r t m) "mix" = some (.int m) := by
  unfold getL drL
  simp [List.find?_cons, show ¬ (("large" : Str) = "mix") by decide +kernel, show ¬ (("cells" : Str) = "mix") by decide +kernel, show ¬ (("rest" : Str) = "mix") by decide +kernel, show ¬ (("turn" : Str) = "mix") by decide +kernel]
theorem put_rest {la ca : Addr} {r r' t m : Int} : putL (drL la ca r t m) "rest" (.int r') = drL la ca r' t m := by
  unfold putL drL
  simp [show ¬ (("large" : Str) = "rest") by decide +kernel, show ¬ (("cells" : Str) = "rest") by decide +kernel, show ¬ (("turn" : Str) = "rest") by decide +kernel, show ¬ (("mix" : Str) = "rest") by decide +kernel]
theorem put_turn {la ca : Addr} {r t t' m : Int} : putL (drL la ca r t m) "turn" (.int t') = drL la ca r t' m := by
  unfold putL drL
  simp [show ¬ (("large" : Str) = "turn") by decide +kernel, show ¬ (("cells" : Str) = "turn") by decide +kernel, show ¬ (("rest" : Str) = "turn") by decide +kernel, show ¬ (("mix" : Str) = "turn") by decide +kernel]
theorem put_mix {la ca : Addr} {r t m m' : Int} : putL (drL la ca r t m) "mix" (.int m') = drL la ca r t m' := by
  unfold putL drL
  simp [show ¬ (("large" : Str) = "mix") by decide +kernel, show ¬ (("cells" : Str) = "mix") by decide +kernel, show ¬ (("rest" : Str) = "mix") by decide +kernel, show ¬ (("turn" : Str) = "mix") by decide +kernel]
/-- what a draw leaves -/
def Drawn (dr la ca : Addr) (cells : List Int) (Z : D → Prop) : D → Mu → Prop := fun d μ' => ∃ large r t m, OkDr large r m ∧ Z d ∧ μ' = drM dr la ca large cells r t m
def G_law_take (_K : PySem.W.Frag) : SpcM := fun ds μ R => ∃ (dr la ca : Addr) (large cells : List Int) (r t m size : Int), OkDr large r m ∧ 1 ≤ size ∧ size ≤ 1000 ∧ cells.length ≤ 63 ∧ ds = [.ref dr, .int size] ∧ μ = drM dr la ca large cells r t m ∧
  R = Drawn dr la ca cells (fun d => ∃ i : Int, 0 ≤ i ∧ i < size ∧ d = .int i)
abbrev N_law_take : List Str := ["_law_draw", "_law_size", "_law_cell", "_law_found"]
theorem sc_law_take : FnScope N_law_take ["_law_draw", "_law_size"] (defScope s_law_take) := ⟨rfl, rfl, rfl, by decide +kernel, rfl, by decide +kernel, by decide +kernel⟩
theorem Tx.c_law_take {w : World} {K : PySem.W.Frag} {mg : Str → Option Value} {base : Heap} (T : Tx K mg) : Cal P0 w K mg base 2 "_law_take" (spM (G_law_take K)) [] := by
  refine mkCalM (k := 1) T.d_law_take T.g_law_take sc_law_take (fun _ _ _ _ _ _ us hl => match us, hl with | [_, _], _ => rfl) (by intro ds μ R h; obtain ⟨dr, la, ca, large, cells, r, t, m, size, ok, hs1, hs2, hcl, rfl, rfl, rfl⟩ := h; rfl) fun cdv A outer s H E hr => ?_
  have nd := sc_law_take.nd
  refine ⟨_, (pss_cons (ps_if (PW.pt (pw_and (pt_cmpR op_eq (pe_dget (hu_of hr) (pv 0) pe_str (fun _ _ => rfl)) pe_int (nomark _)) (pw_and1 (pt_cmpR (op_neD hr.units) (pe_dget (hu_of hr) (pv 0) pe_str (fun _ _ => rfl)) (pe_lst pa_nil) (nomark _))))) (pss_one (ps_dput (hu_of hr) (pv 0) pe_str (pe_bm PySem.F.plainAttrs_list PySem.F.slot_list_pop PySem.F.type_list_pop mt_popAt (pe_dget (hu_of hr) (pv 0) pe_str (fun _ _ => rfl)) (pa_cons pe_int pa_nil)) rfl)) (pss_one (ps_if (pt_cmpR op_eq (pe_dget (hu_of hr) (pv 0) pe_str (fun _ _ => rfl)) pe_int (nomark _)) (pss_cons (ps_dput (hu_of hr) (pv 0) pe_str (pe_op op_add (pe_dget (hu_of hr) (pv 0) pe_str (fun _ _ => rfl)) pe_int) rfl)
  (pss_cons (ps_for PassesOwn.never rfl (pi_list (pe_fz (pe_op op_cat (pe_lst (pa_cons (pe_dget (hu_of hr) (pv 0) pe_str (fun _ _ => rfl)) pa_nil)) (pe_dget (hu_of hr) (pv 0) pe_str (fun _ _ => rfl))))) (pg_name (i := 2) nd rfl (by first | exact Or.inl rfl | exact Or.inr rfl)) (pss_one (ps_dput (hu_of hr) (pv 0) pe_str (pe_op op_mod (pe_callTy call_int1 (by rfl) T.f_int boot_int (pa_cons (pe_op op_add (pe_op op_add (pe_op op_mul (pe_dget (hu_of hr) (pv 0) pe_str (fun _ _ => rfl)) pe_int) (pe_op op_mul (pv 2) pe_int)) pe_int) pa_nil)) pe_int) rfl)))
  (pss_one (ps_dput (hu_of hr) (pv 0) pe_str (pe_op op_mod (pe_callTy call_int1 (by rfl) T.f_int boot_int (pa_cons (pe_op op_pow (pe_dget (hu_of hr) (pv 0) pe_str (fun _ _ => rfl)) pe_int) pa_nil)) pe_int) rfl)))) pss_nil)))
  (pss_cons (ps_asg (pe_callB call_divmodW (by rfl) T.f_divmod boot_divmod (pa_cons (pe_dget (hu_of hr) (pv 0) pe_str (fun _ _ => rfl)) (pa_cons (pv 1) pa_nil))) (pg_tup rfl (pgs_cons (pg_sub (pv 0) pe_str (set_dict (hu_of hr))) (pgs_cons (pg_name (i := 3) nd rfl (by first | exact Or.inl rfl | exact Or.inr rfl)) pgs_nil))))
  (pss_one (ps_ret (pv 3))))), ?_⟩
  rintro ds μ R ⟨dr, la, ca, large, cells, r, t, m, size, ok, hs1, hs2, hcl, rfl, rfl, rfl⟩
  refine xs_seq (XS.imp (A := { nx := fun ρ' μ' => ∃ (large : List Int) (r t m : Int) (x2 : Option D), OkDr large r m ∧ ρ' = [some (.ref dr), some (.int size), x2, none] ∧ (drM dr la ca large cells r t m).Sublist μ', rt := fun _ _ => False }) ?_ ?_ (fun _ _ z => z.elim) (fun _ _ z => z.elim) (fun _ _ z => z.elim))
  · walk_at "ad"
    refine x_dgetM ?_
    walk_at "ad"
    refine ⟨dr, 0, drL la ca r t m, _, _, rfl, rfl, rfl, dr_rest, ?_⟩
    walk_at "ad"
    refine brD (fun h0 => ?_) (fun h0 => ?_)
    · walk_at "ad"
      refine x_dgetM ?_
      walk_at "ad"
      refine ⟨dr, 0, drL la ca r t m, _, _, rfl, rfl, rfl, dr_large, ?_⟩
      walk_at "ad"
      refine r_neL0 (i := 1) (j := 3) rfl rfl (n := 0) (by decide) (deep_dI _ _) ?_
      cases large with
      | cons x large =>
        walk_at "ad"
        refine xs_dput ?_
        walk_at "ad"
        refine x_BM ?_
        refine x_dgetM ?_
        walk_at "ad"
        refine ⟨dr, 0, drL la ca r t m, _, _, rfl, rfl, rfl, dr_large, ?_⟩
        walk_at "ad"
        refine ⟨ty_lst (j := 1) rfl, ?_⟩
        walk_at "ad"
        refine m_pop0 (j := 1) (d := .int x) (ds := dI large) rfl ?_
        walk_at "ad"
        refine ⟨dr, 0, drL la ca r t m, _, rfl, rfl, rfl, (by show 5 < 100000; decide), ?_⟩
        rw [put_rest]
        exact ⟨large, x, t, m, none, ⟨fun y hy => ok.big y (List.mem_cons_of_mem _ hy), ok.big x List.mem_cons_self, ok.mix⟩, rfl, by walk_at "sub"⟩
      | nil =>
        refine ⟨_, rfl, ?_⟩
        refine brF rfl ?_
        refine XS.from (ν := drM dr la ca [] cells r t m) ?_ (by walk_at "sub")
        walk_at "ad"
        refine x_dgetM ?_
        walk_at "ad"
        refine ⟨dr, 0, drL la ca r t m, _, _, rfl, rfl, rfl, dr_rest, ?_⟩
        walk_at "ad"
        refine brD (fun _ => ?_) (fun z => absurd h0 z)
        walk_at "ad"
        refine xs_dput ?_
        walk_at "ad"
        refine x_dgetM ?_
        walk_at "ad"
        refine ⟨dr, 0, drL la ca r t m, _, _, rfl, rfl, rfl, dr_turn, ?_⟩
        walk_at "ad"
        refine ⟨dr, 0, drL la ca r t m, _, rfl, rfl, rfl, (by show 5 < 100000; decide), ?_⟩
        rw [put_turn]
        walk_at "ad"
        refine xs_forS (js := [2]) (fun i ρ μ => ∃ (m : Int) (x2 : Option D), (0 ≤ m ∧ m < 2147483629) ∧ ρ = [some (.ref dr), some (.int size), x2, none] ∧ μ = drM dr la ca [] cells r (t + 1) m) ?_
        walk_at "ad"
        refine x_fz ?_
        refine x_op ?_
        refine x_lst ?_
        refine a_cons ?_
        refine x_dgetM ?_
        walk_at "ad"
        refine ⟨dr, 0, drL la ca r (t + 1) m, _, _, rfl, rfl, rfl, dr_turn, ?_⟩
        walk_at "ad"
        refine ⟨by simp, fun b => ?_⟩
        refine x_dgetM ?_
        walk_at "ad"
        refine ⟨dr, 0, drL la ca r (t + 1) m, _, _, rfl, rfl, rfl, dr_cells, ?_⟩
        walk_at "ad"
        refine r_catM (i := 3) (j := 2) rfl rfl (by simp [dI]; omega) fun q => ?_
        refine ⟨q, _, 4, rfl, rfl, _, rfl, ?_⟩
        refine ⟨⟨drM dr la ca [] cells r (t + 1) m, by walk_at "sub", m, none, ok.mix, rfl, rfl⟩, ?_, ?_⟩
        · intro i d ρ' μ' hd hI
          obtain ⟨m, x2, hm, rfl, rfl⟩ := hI
          obtain ⟨c, rfl⟩ : ∃ c : Int, d = .int c := by
            rcases List.mem_append.mp (List.mem_of_getElem? hd) with h | h
            · rw [List.mem_singleton] at h
              exact ⟨_, h⟩
            · obtain ⟨c, _, e⟩ := List.mem_map.mp h
              exact ⟨c, e.symm⟩
          walk_at "ad"
          refine xs_dput ?_
          walk_at "ad"
          refine x_dgetM ?_
          walk_at "ad"
          refine ⟨dr, 0, drL la ca r (t + 1) m, _, _, rfl, rfl, rfl, dr_mix, ?_⟩
          walk_at "ad"
          refine r_I (.inl ⟨by omega, by omega⟩) ?_
          walk_at "ad"
          refine r_I (.inr ⟨by decide, by decide⟩) ?_
          walk_at "ad"
          refine k_int1 ?_
          walk_at "ad"
          refine r_I (by decide) ?_
          walk_at "ad"
          refine ⟨dr, 0, drL la ca r (t + 1) m, _, rfl, rfl, rfl, (by show 5 < 100000; decide), ?_⟩
          rw [put_mix]
          exact ⟨_, List.Sublist.refl _, _, _, ⟨Int.emod_nonneg _ (by decide), Int.emod_lt_of_pos _ (by decide)⟩, rfl, rfl⟩
        · intro ρ' μ' hI
          obtain ⟨m, x2, hm, rfl, rfl⟩ := hI
          refine xs_dput ?_
          walk_at "ad"
          refine x_dgetM ?_
          walk_at "ad"
          refine ⟨dr, 0, drL la ca r (t + 1) m, _, _, rfl, rfl, rfl, dr_mix, ?_⟩
          walk_at "ad"
          refine r_I ⟨by decide, by decide, by omega⟩ ?_
          walk_at "ad"
          refine k_int1 ?_
          walk_at "ad"
          refine r_I (by decide) ?_
          walk_at "ad"
          refine ⟨dr, 0, drL la ca r (t + 1) m, _, rfl, rfl, rfl, (by show 5 < 100000; decide), ?_⟩
          rw [put_rest]
          exact ⟨[], _, t + 1, m, x2, ⟨fun y hy => (by cases hy), Int.emod_nonneg _ (by decide), hm⟩, rfl, List.Sublist.refl _⟩
    · walk_at "ad"
      refine x_dgetM ?_
      walk_at "ad"
      refine ⟨dr, 0, drL la ca r t m, _, _, rfl, rfl, rfl, dr_rest, ?_⟩
      walk_at "ad"
      refine brD (fun z => absurd z h0) (fun _ => ?_)
      walk_at "ad"
      exact ⟨large, r, t, m, none, ok, rfl, List.Sublist.refl _⟩
  · rintro ρ' μ' ⟨large, r, t, m, x2, ok, rfl, sub⟩
    refine XS.from ?_ sub
    walk_at "ad"
    refine x_dgetM ?_
    walk_at "ad"
    refine ⟨dr, 0, drL la ca r t m, _, _, rfl, rfl, rfl, dr_rest, ?_⟩
    walk_at "ad"
    refine k_divmod ⟨by omega, PyProof.noPylong_small (by omega)⟩ ?_
    apply g_tup
    · rfl
    apply gs_cons
    apply g_sub
    walk_at "ad"
    refine s_dput (j := 0) (L := drL la ca r t m) rfl (by show 5 < 100000; decide) ?_
    rw [put_rest]
    walk_at "ad"
    exact ⟨_, List.Sublist.refl _, large, r / size, t, m, ⟨ok.big, Int.ediv_nonneg ok.rest (by omega), ok.mix⟩, ⟨_, Int.emod_nonneg _ (by omega), Int.emod_lt_of_pos _ (by omega), rfl⟩, rfl⟩

end MW
end
section
open MW L2
local macro_rules | `(tactic| walk_at "d1") => `(tactic| first
  | ((with_reducible refine x_varE ?_); refine ⟨_, rfl, ?_⟩)
  | with_reducible refine x_int ?_
  | with_reducible refine x_str ?_
  | with_reducible refine x_bl ?_
  | with_reducible refine x_non ?_
  | with_reducible refine x_ref ?_
  | with_reducible refine x_ty ?_
  | with_reducible refine x_op ?_
  | with_reducible refine x_un ?_
  | with_reducible refine a_nil ?_
  | with_reducible refine a_cons ?_
  | ((with_reducible refine x_tup ?_); walk_at "ad"; refine ⟨by first | exact (by decide) | (simp; done) | omega, ?_⟩)
  | ((with_reducible refine x_lst ?_); walk_at "ad"; refine ⟨by first | exact (by decide) | (simp; done) | omega, fun _ => ?_⟩)
  | with_reducible refine x_if ?_
  | with_reducible refine x_andV ?_
  | with_reducible refine x_orV ?_
  | with_reducible refine x_notV ?_
  | with_reducible refine t_test ?_
  | with_reducible refine t_B ?_
  | with_reducible refine t_yes ?_
  | with_reducible refine r_inS ?_
  | with_reducible refine r_notInS ?_
  | with_reducible refine t_and ?_
  | with_reducible refine t_or ?_
  | with_reducible refine t_not ?_
  | ((with_reducible refine x_fz ?_); walk_at "ad"; (first | refine ⟨_, _, 0, rfl, rfl, ?_⟩ | refine ⟨_, _, 1, rfl, rfl, ?_⟩ | refine ⟨_, _, 2, rfl, rfl, ?_⟩ | refine ⟨_, _, 3, rfl, rfl, ?_⟩))
  | with_reducible refine xs_seq ?_
  | with_reducible refine xs_next ?_
  | with_reducible refine xs_ret ?_
  | with_reducible refine xs_retN ?_
  | with_reducible refine xs_drop ?_
  | with_reducible apply xs_asg
  | with_reducible refine xs_if ?_
  | with_reducible refine g_name ?_
  | with_reducible refine gs_nil ?_
  | with_reducible apply gs_cons
  | ((with_reducible apply g_tup); exact rfl)
  | with_reducible refine x_chain ?_
  | with_reducible refine x_CB ?_
  | with_reducible refine x_call0 ?_
  | with_reducible refine x_sl ?_
  | with_reducible refine o_none ?_
  | with_reducible refine o_some ?_
  | ((with_reducible refine x_prop ?_); walk_at "ad"; refine ⟨_, _, _, rfl, rfl, ?_⟩)
  | with_reducible refine r_I0 ?_
  | with_reducible refine r_I0b ?_
  | with_reducible refine r_eqI ?_
  | with_reducible refine r_neI ?_
  | with_reducible refine r_eqS ?_
  | with_reducible refine r_neS ?_
  | with_reducible refine r_isN ?_
  | with_reducible refine r_notN ?_
  | with_reducible refine u_neg ?_
  | ((with_reducible refine r_ixTE ?_); first | refine ⟨_, ‹_›, ?_⟩ | refine ⟨_, rfl, ?_⟩)
  | ((with_reducible refine r_ixLE ?_); first | refine ⟨_, ‹_›, ?_⟩ | refine ⟨_, rfl, ?_⟩)
  | ((with_reducible refine k_isIE ?_); refine ⟨_, rfl, ?_⟩)
  | ((with_reducible refine k_isSE ?_); refine ⟨_, rfl, ?_⟩)
  | ((with_reducible refine k_isTE ?_); refine ⟨_, rfl, ?_⟩)
  | ((with_reducible refine x_BM ?_); walk_at "ad"; first | refine ⟨ty_lst (j := 0) rfl, ?_⟩ | refine ⟨ty_lst (j := 1) rfl, ?_⟩ | refine ⟨ty_lst (j := 2) rfl, ?_⟩ | refine ⟨ty_lst (j := 3) rfl, ?_⟩)
  | ((with_reducible refine m_appE ?_); (first | refine ⟨0, _, rfl, ?_, ?_⟩ | refine ⟨1, _, rfl, ?_, ?_⟩ | refine ⟨2, _, rfl, ?_, ?_⟩ | refine ⟨3, _, rfl, ?_, ?_⟩); (walk_at "len"))
  | ((with_reducible refine k_lenS ?_ ?_); (walk_at "len"))
  | ((with_reducible refine s_txt ?_ ?_); (walk_at "len"))
  | ((with_reducible refine r_ixSE ?_ ?_); (walk_at "len"); (first | refine ⟨_, ‹_›, ?_⟩ | refine ⟨_, rfl, ?_⟩))
  | with_reducible refine k_lenT ?_
  | with_reducible refine k_lenL ?_
  | ((with_reducible refine k_lenME ?_); (first | refine ⟨0, _, rfl, ?_⟩ | refine ⟨1, _, rfl, ?_⟩ | refine ⟨2, _, rfl, ?_⟩ | refine ⟨3, _, rfl, ?_⟩))
  | ((with_reducible refine r_ixME ?_); (first | refine ⟨0, _, _, rfl, ‹_›, ?_⟩ | refine ⟨1, _, _, rfl, ‹_›, ?_⟩ | refine ⟨2, _, _, rfl, ‹_›, ?_⟩ | refine ⟨0, _, _, rfl, rfl, ?_⟩ | refine ⟨1, _, _, rfl, rfl, ?_⟩ | refine ⟨2, _, _, rfl, rfl, ?_⟩ | refine ⟨3, _, _, rfl, rfl, ?_⟩))
  | ((with_reducible refine x_tupleM ?_); walk_at "ad"; (first | refine ⟨_, 0, _, rfl, rfl, ?_⟩ | refine ⟨_, 1, _, rfl, rfl, ?_⟩ | refine ⟨_, 2, _, rfl, rfl, ?_⟩ | refine ⟨_, 3, _, rfl, rfl, ?_⟩))
  | ((with_reducible refine r_neT0 (n := 0) ?_ ?_ ?_); exact (by decide); exact (deep_dI _ _))
  | ((with_reducible refine x_rev2 ?_); walk_at "ad"; refine ⟨_, _, rfl, ?_⟩)
  | with_reducible refine x_join ?_
  | with_reducible refine i_enumT ?_
  | with_reducible refine i_rng1 ?_
  | with_reducible refine i_rng2 ?_
  | with_reducible refine i_tup ?_
  | with_reducible refine i_lst ?_
  | with_reducible refine i_str ?_
  | refine ⟨_, rfl, ?_⟩
  | ((with_reducible refine brT ?_ ?_); (first | assumption | exact rfl | decide +kernel))
  | ((with_reducible refine brF ?_ ?_); (first | assumption | exact rfl | decide +kernel)))
local macro_rules | `(tactic| walk_at "len") => `(tactic| first | assumption | omega | ((simp only [List.length_append, List.length_cons, List.length_nil, List.length_map, List.length_set]) <;> omega) | (simp; done) | (simp; omega))
local macro_rules | `(tactic| walk_at "ad") => `(tactic| repeat (walk_at "d1"))
local macro_rules | `(tactic| walk_at "sub") => `(tactic| first | exact List.nil_sublist _ | exact List.Sublist.refl _ | (refine List.Sublist.cons₂ _ ?_; walk_at "sub") | (refine List.Sublist.cons _ ?_; walk_at "sub"))
/-! The draw: _law_pick, _law_string, _law_prices. -/
namespace MW
open PySem PySem.Spec PyProof.Rows L2
open C8 (pe_c pe_gc Cal)
section
variable {c : Cn} {ρ : Env2} {μ : Mu} {P : D → Mu → Prop}
theorem X.perm {te : TE} (h : X c te ρ μ fun d μ' => ∃ ν : Mu, ν.Perm μ' ∧ P d ν) : X c te ρ μ P := fun σ H Q S q => h σ H Q S fun v H' d μ' p r S' ⟨ν, pm, k⟩ => q v H' d ν p r (S'.perm pm) k
end
def G_law_pick (_K : PySem.W.Frag) : SpcM := fun ds μ R => ∃ (dr la ca : Addr) (large cells : List Int) (r t m : Int) (l : List D), OkDr large r m ∧ 1 ≤ l.length ∧ l.length ≤ 1000 ∧ cells.length ≤ 63 ∧ ds = [.ref dr, .lst l] ∧ μ = drM dr la ca large cells r t m ∧
  R = Drawn dr la ca cells (fun d => d ∈ l)
/-- a text of single signs -/
abbrev sgD (c : Nat) : D := .str (tx [c])
def G_law_string (_K : PySem.W.Frag) : SpcM := fun ds μ R => ∃ (dr la ca : Addr) (large cells : List Int) (r t m : Int) (ls : Wd) (a b : Int), OkDr large r m ∧ 1 ≤ ls.length ∧ ls.length ≤ 1000 ∧ cells.length ≤ 63 ∧ 0 ≤ a ∧ a ≤ b ∧ b ≤ 100 ∧ ds = [.ref dr, .lst (ls.map sgD), .int a, .int b] ∧ μ = drM dr la ca large cells r t m ∧
  R = Drawn dr la ca cells (fun d => ∃ w : Wd, d = .str (tx w) ∧ a ≤ w.length ∧ (w.length : Int) ≤ b ∧ ∀ c ∈ w, c ∈ ls)
abbrev N_law_pick : List Str := ["_law_draw", "_law_some"]
theorem sc_law_pick : FnScope N_law_pick ["_law_draw", "_law_some"] (defScope s_law_pick) := ⟨rfl, rfl, rfl, by decide +kernel, rfl, by decide +kernel, by decide +kernel⟩
theorem Tx.c_law_pick {w : World} {K : PySem.W.Frag} {mg : Str → Option Value} {base : Heap} (T : Tx K mg) : Cal P0 w K mg base 3 "_law_pick" (spM (G_law_pick K)) [] := by
  refine mkCalM (k := 2) T.d_law_pick T.g_law_pick sc_law_pick (fun _ _ _ _ _ _ us hl => match us, hl with | [_, _], _ => rfl) (by intro ds μ R h; obtain ⟨dr, la, ca, large, cells, r, t, m, l, ok, hl1, hl2, hcl, rfl, rfl, rfl⟩ := h; rfl) fun cdv A outer s H E hr => ?_
  have nd := sc_law_pick.nd
  refine ⟨_, (pss_one (ps_ret (pe_ix ix_list (pv 1) (pe_c T.c_law_take hr (by decide) (by rfl) (pa_cons (pv 0) (pa_cons (pe_callB call_len_seq (by rfl) T.f_len boot_len (pa_cons (pv 1) pa_nil)) pa_nil))) (fun _ _ => rfl)))), ?_⟩
  rintro ds μ R ⟨dr, la, ca, large, cells, r, t, m, l, ok, hl1, hl2, hcl, rfl, rfl, rfl⟩
  walk_at "ad"
  refine x_callM ?_
  walk_at "ad"
  refine ⟨drM dr la ca large cells r t m, [], _, by rw [List.append_nil], ⟨dr, la, ca, large, cells, r, t, m, (l.length : Nat), ok, by omega, by omega, hcl, rfl, rfl, rfl⟩, ?_⟩
  rintro d μ' ⟨large', r', t', m', ok', ⟨i, h0, h1, rfl⟩, rfl⟩
  rw [List.append_nil]
  obtain ⟨i, rfl⟩ : ∃ k : Nat, i = (k : Int) := ⟨i.toNat, by omega⟩
  have hi : i < l.length := by omega
  have i1 : L2.atI l ((i : Nat) : Int) = some l[i] := by
    rw [atI_nat, List.getElem?_eq_getElem hi]
  walk_at "ad"
  exact ⟨_, List.Sublist.refl _, large', r', t', m', ok', List.getElem_mem hi, rfl⟩

abbrev N_law_string : List Str := ["_law_draw", "_law_letters_here", "_law_least", "_law_limit_here", "_law_turn"]
theorem sc_law_string : FnScope N_law_string ["_law_draw", "_law_letters_here", "_law_least", "_law_limit_here"] (defScope s_law_string) := ⟨rfl, rfl, rfl, by decide +kernel, rfl, by decide +kernel, by decide +kernel⟩
theorem Tx.c_law_string {w : World} {K : PySem.W.Frag} {mg : Str → Option Value} {base : Heap} (T : Tx K mg) : Cal P0 w K mg base 4 "_law_string" (spM (G_law_string K)) [] := by
  refine mkCalM (k := 3) T.d_law_string T.g_law_string sc_law_string (fun _ _ _ _ _ _ us hl => match us, hl with | [_, _, _, _], _ => rfl) (by intro ds μ R h; obtain ⟨dr, la, ca, large, cells, r, t, m, ls, a, b, ok, hl1, hl2, hcl, ha, hab, hb, rfl, rfl, rfl⟩ := h; rfl) fun cdv A outer s H E hr => ?_
  have nd := sc_law_string.nd
  refine ⟨_, (pss_one (ps_ret (pe_join pe_str (pe_lc (own := [("_law_turn", 4)]) (g := (gName 4)) (tt := tYes) (te := (tCall (spM (G_law_pick K)) [] C8.E0 (tCons (tVar 0) (tCons (tVar 1) tNil)))) rfl nd (pi_range1 (by rfl) T.f_range (pa_cons (pe_op op_add (pv 2) (pe_c T.c_law_take hr (by decide) (by rfl) (pa_cons (pv 0) (pa_cons (pe_op op_add (pe_op op_sub (pv 3) (pv 2)) pe_int) pa_nil)))) pa_nil)) (blkOk_by (N := N_law_string) (sc := defScope s_law_string) (by decide +kernel)) (fun _ _ _ _ _ => (pg_name (i := 4) nd rfl (by first | exact Or.inl rfl | exact Or.inr rfl))) (fun _ _ _ _ _ => pts_nil) (fun _ _ _ _ _ => (pe_c T.c_law_pick hr (by decide) (by rfl) (pa_cons (pv 0) (pa_cons (pv 1) pa_nil)))))))), ?_⟩
  rintro ds μ R ⟨dr, la, ca, large, cells, r, t, m, ls, a, b, ok, hl1, hl2, hcl, ha, hab, hb, rfl, rfl, rfl⟩
  walk_at "ad"
  refine x_lcI (js := [4]) (fun items i acc μ2 => ∃ (w : Wd) (large : List Int) (r t m : Int), OkDr large r m ∧ a ≤ items.length ∧ (items.length : Int) ≤ b ∧ w.length = i ∧ (∀ c ∈ w, c ∈ ls) ∧ acc = w.map sgD ∧ μ2 = drM dr la ca large cells r t m) (by decide) ?_
  walk_at "ad"
  refine x_callM ?_
  walk_at "ad"
  refine ⟨drM dr la ca large cells r t m, [], _, by rw [List.append_nil], ⟨dr, la, ca, large, cells, r, t, m, b - a + 1, ok, by omega, by omega, hcl, rfl, rfl, rfl⟩, ?_⟩
  rintro d μ' ⟨large, r, t, m, ok, ⟨i, h0, h1, rfl⟩, rfl⟩
  rw [List.append_nil]
  walk_at "ad"
  refine ⟨by omega, by omega, ?_⟩
  rw [rng_len]
  refine ⟨by omega, ⟨[], large, r, t, m, ok, by omega, by omega, rfl, (fun c hc => by cases hc), rfl, rfl⟩, ?_, ?_⟩
  · intro j d acc μ2 p hd hI
    obtain ⟨w, large, r, t, m, ok, hn1, hn2, hw, hwl, rfl, rfl⟩ := hI
    walk_at "ad"
    refine X.perm ?_
    refine x_callM ?_
    walk_at "ad"
    refine ⟨drM dr la ca large cells r t m, [(p, .lst (w.map sgD))], _, List.perm_append_comm, ⟨dr, la, ca, large, cells, r, t, m, ls.map sgD, ok, by rw [List.length_map]; exact hl1, by rw [List.length_map]; exact hl2, hcl, rfl, rfl, rfl⟩, ?_⟩
    rintro d μ' ⟨large, r, t, m, ok, hd2, rfl⟩
    obtain ⟨c, hc, rfl⟩ := List.mem_map.mp hd2
    refine ⟨_, List.perm_append_comm, _, rfl, w ++ [c], large, r, t, m, ok, hn1, hn2, by rw [List.length_append, hw]; rfl, fun x hx => ?_, by rw [List.map_append]; rfl, rfl⟩
    rcases List.mem_append.mp hx with hx | hx
    · exact hwl x hx
    · rw [List.mem_singleton] at hx
      rw [hx]
      exact hc
  · intro acc μ2 p hI
    obtain ⟨w, large, r, t, m, ok, hn1, hn2, hw, hwl, rfl, rfl⟩ := hI
    have e1 : (w.map sgD : List D) = dS (w.map fun c => tx [c]) := by
      unfold dS
      rw [List.map_map]
      rfl
    refine ⟨p, 3, w.map fun c => tx [c], rfl, by rw [e1]; rfl, ?_, ?_⟩
    · rw [sum_one, nil_tx, tx_len]
      simp
      omega
    rw [nil_tx, show (w.map fun c => tx [c]) = (w.map fun c => [c]).map tx by rw [List.map_map]; rfl, join_tx, flat_one]
    exact ⟨drM dr la ca large cells r t m, List.sublist_append_left _ _, large, r, t, m, ok, ⟨w, rfl, by omega, by omega, hwl⟩, rfl⟩

end MW
end
section
open MW L2
local macro_rules | `(tactic| walk_at "d1") => `(tactic| first
  | ((with_reducible refine x_varE ?_); refine ⟨_, rfl, ?_⟩)
  | with_reducible refine x_int ?_
  | with_reducible refine x_str ?_
  | with_reducible refine x_bl ?_
  | with_reducible refine x_non ?_
  | with_reducible refine x_ref ?_
  | with_reducible refine x_ty ?_
  | with_reducible refine x_op ?_
  | with_reducible refine x_un ?_
  | with_reducible refine a_nil ?_
  | with_reducible refine a_cons ?_
  | ((with_reducible refine x_tup ?_); walk_at "ad"; refine ⟨by first | exact (by decide) | (simp; done) | omega, ?_⟩)
  | ((with_reducible refine x_lst ?_); walk_at "ad"; refine ⟨by first | exact (by decide) | (simp; done) | omega, fun _ => ?_⟩)
  | with_reducible refine x_if ?_
  | with_reducible refine x_andV ?_
  | with_reducible refine x_orV ?_
  | with_reducible refine x_notV ?_
  | with_reducible refine t_test ?_
  | with_reducible refine t_B ?_
  | with_reducible refine t_yes ?_
  | with_reducible refine r_inS ?_
  | with_reducible refine r_notInS ?_
  | with_reducible refine t_and ?_
  | with_reducible refine t_or ?_
  | with_reducible refine t_not ?_
  | ((with_reducible refine x_fz ?_); walk_at "ad"; (first | refine ⟨_, _, 0, rfl, rfl, ?_⟩ | refine ⟨_, _, 1, rfl, rfl, ?_⟩ | refine ⟨_, _, 2, rfl, rfl, ?_⟩ | refine ⟨_, _, 3, rfl, rfl, ?_⟩))
  | with_reducible refine xs_seq ?_
  | with_reducible refine xs_next ?_
  | with_reducible refine xs_ret ?_
  | with_reducible refine xs_retN ?_
  | with_reducible refine xs_drop ?_
  | with_reducible apply xs_asg
  | with_reducible refine xs_if ?_
  | with_reducible refine g_name ?_
  | with_reducible refine gs_nil ?_
  | with_reducible apply gs_cons
  | ((with_reducible apply g_tup); exact rfl)
  | with_reducible refine x_chain ?_
  | with_reducible refine x_CB ?_
  | with_reducible refine x_call0 ?_
  | with_reducible refine x_sl ?_
  | with_reducible refine o_none ?_
  | with_reducible refine o_some ?_
  | ((with_reducible refine x_prop ?_); walk_at "ad"; refine ⟨_, _, _, rfl, rfl, ?_⟩)
  | with_reducible refine r_I0 ?_
  | with_reducible refine r_I0b ?_
  | with_reducible refine r_eqI ?_
  | with_reducible refine r_neI ?_
  | with_reducible refine r_eqS ?_
  | with_reducible refine r_neS ?_
  | with_reducible refine r_isN ?_
  | with_reducible refine r_notN ?_
  | with_reducible refine u_neg ?_
  | ((with_reducible refine r_ixTE ?_); first | refine ⟨_, ‹_›, ?_⟩ | refine ⟨_, rfl, ?_⟩)
  | ((with_reducible refine r_ixLE ?_); first | refine ⟨_, ‹_›, ?_⟩ | refine ⟨_, rfl, ?_⟩)
  | ((with_reducible refine k_isIE ?_); refine ⟨_, rfl, ?_⟩)
  | ((with_reducible refine k_isSE ?_); refine ⟨_, rfl, ?_⟩)
  | ((with_reducible refine k_isTE ?_); refine ⟨_, rfl, ?_⟩)
  | ((with_reducible refine x_BM ?_); walk_at "ad"; first | refine ⟨ty_lst (j := 0) rfl, ?_⟩ | refine ⟨ty_lst (j := 1) rfl, ?_⟩ | refine ⟨ty_lst (j := 2) rfl, ?_⟩ | refine ⟨ty_lst (j := 3) rfl, ?_⟩)
  | ((with_reducible refine m_appE ?_); (first | refine ⟨0, _, rfl, ?_, ?_⟩ | refine ⟨1, _, rfl, ?_, ?_⟩ | refine ⟨2, _, rfl, ?_, ?_⟩ | refine ⟨3, _, rfl, ?_, ?_⟩); (walk_at "len"))
  | ((with_reducible refine k_lenS ?_ ?_); (walk_at "len"))
  | ((with_reducible refine s_txt ?_ ?_); (walk_at "len"))
  | ((with_reducible refine r_ixSE ?_ ?_); (walk_at "len"); (first | refine ⟨_, ‹_›, ?_⟩ | refine ⟨_, rfl, ?_⟩))
  | with_reducible refine k_lenT ?_
  | with_reducible refine k_lenL ?_
  | ((with_reducible refine k_lenME ?_); (first | refine ⟨0, _, rfl, ?_⟩ | refine ⟨1, _, rfl, ?_⟩ | refine ⟨2, _, rfl, ?_⟩ | refine ⟨3, _, rfl, ?_⟩))
  | ((with_reducible refine r_ixME ?_); (first | refine ⟨0, _, _, rfl, ‹_›, ?_⟩ | refine ⟨1, _, _, rfl, ‹_›, ?_⟩ | refine ⟨2, _, _, rfl, ‹_›, ?_⟩ | refine ⟨0, _, _, rfl, rfl, ?_⟩ | refine ⟨1, _, _, rfl, rfl, ?_⟩ | refine ⟨2, _, _, rfl, rfl, ?_⟩ | refine ⟨3, _, _, rfl, rfl, ?_⟩))
  | ((with_reducible refine x_tupleM ?_); walk_at "ad"; (first | refine ⟨_, 0, _, rfl, rfl, ?_⟩ | refine ⟨_, 1, _, rfl, rfl, ?_⟩ | refine ⟨_, 2, _, rfl, rfl, ?_⟩ | refine ⟨_, 3, _, rfl, rfl, ?_⟩))
  | ((with_reducible refine r_neT0 (n := 0) ?_ ?_ ?_); exact (by decide); exact (deep_dI _ _))
  | ((with_reducible refine x_rev2 ?_); walk_at "ad"; refine ⟨_, _, rfl, ?_⟩)
  | with_reducible refine x_join ?_
  | with_reducible refine i_enumT ?_
  | with_reducible refine i_rng1 ?_
  | with_reducible refine i_rng2 ?_
  | with_reducible refine i_tup ?_
  | with_reducible refine i_lst ?_
  | with_reducible refine i_str ?_
  | refine ⟨_, rfl, ?_⟩
  | ((with_reducible refine brT ?_ ?_); (first | assumption | exact rfl | decide +kernel))
  | ((with_reducible refine brF ?_ ?_); (first | assumption | exact rfl | decide +kernel)))
local macro_rules | `(tactic| walk_at "len") => `(tactic| first | assumption | omega | ((simp only [List.length_append, List.length_cons, List.length_nil, List.length_map, List.length_set]) <;> omega) | (simp; done) | (simp; omega))
local macro_rules | `(tactic| walk_at "ad") => `(tactic| repeat (walk_at "d1"))
local macro_rules | `(tactic| walk_at "sub") => `(tactic| first | exact List.nil_sublist _ | exact List.Sublist.refl _ | (refine List.Sublist.cons₂ _ ?_; walk_at "sub") | (refine List.Sublist.cons _ ?_; walk_at "sub"))
/-! The draw: _law_prices, _law_letters. -/
namespace MW
open PySem PySem.Spec PyProof.Rows L2
open C8 (pe_c pe_gc Cal)
abbrev prcD (s : Slp) : D := .tup [.int s.ex, .int s.mi, .int s.wr, optD s.sw]
def G_law_prices (_K : PySem.W.Frag) : SpcM := fun ds μ R => ∃ (dr la ca : Addr) (large cells : List Int) (r t m : Int), OkDr large r m ∧ cells.length ≤ 63 ∧ ds = [.ref dr] ∧ μ = drM dr la ca large cells r t m ∧
  R = Drawn dr la ca cells (fun d => ∃ s : Slp, OkL s ∧ d = prcD s)
abbrev N_law_prices : List Str := ["_law_draw", "_law_some", "_law_turn"]
theorem sc_law_prices : FnScope N_law_prices ["_law_draw"] (defScope s_law_prices) := ⟨rfl, rfl, rfl, by decide +kernel, rfl, by decide +kernel, by decide +kernel⟩
theorem Tx.c_law_prices {w : World} {K : PySem.W.Frag} {mg : Str → Option Value} {base : Heap} (T : Tx K mg) : Cal P0 w K mg base 4 "_law_prices" (spM (G_law_prices K)) [] := by
  refine mkCalM (k := 3) T.d_law_prices T.g_law_prices sc_law_prices (fun _ _ _ _ _ _ us hl => match us, hl with | [_], _ => rfl) (by intro ds μ R h; obtain ⟨dr, la, ca, large, cells, r, t, m, ok, hcl, rfl, rfl, rfl⟩ := h; rfl) fun cdv A outer s H E hr => ?_
  have nd := sc_law_prices.nd
  refine ⟨_, (pss_cons (ps_setLc (i := 1) (own := [("_law_turn", 2)]) (g := (gName 2)) (tt := tYes) (te := (tCall (spM (G_law_pick K)) [] C8.E0 (tCons (tVar 0) (tCons (tFz (tLst (tCons (tC (.int 1)) (tCons (tC (.int 1)) (tCons (tC (.int 1)) (tCons (tC (.int 2)) (tCons (tC (.int 2)) (tCons (tC (.int 3)) tNil)))))))) tNil)))) rfl nd rfl rfl (sw_true rfl rfl rfl (by decide +kernel)) (pi_range1 (by rfl) T.f_range (pa_cons pe_int pa_nil)) (blkOk_by (N := N_law_prices) (sc := defScope s_law_prices) (by decide +kernel)) (fun _ _ _ _ _ => (pg_name (i := 2) nd rfl (by first | exact Or.inl rfl | exact Or.inr rfl))) (fun _ _ _ _ _ => pts_nil) (fun _ _ _ _ _ => (pe_c T.c_law_pick hr (by decide) (by rfl) (pa_cons (pv 0) (pa_cons (pe_fz (pe_lst (pa_cons pe_int (pa_cons pe_int (pa_cons pe_int (pa_cons pe_int (pa_cons pe_int (pa_cons pe_int pa_nil)))))))) pa_nil)))))
  (pss_one (ps_ret (pe_op op_catA (pe_tupleOf (by rfl) T.f_tuple (pv 1)) (pe_tup (pa_cons (pe_c T.c_law_pick hr (by decide) (by rfl) (pa_cons (pv 0) (pa_cons (pe_fz (pe_lst (pa_cons pe_non (pa_cons pe_non (pa_cons pe_int (pa_cons pe_int (pa_cons pe_int (pa_cons pe_int pa_nil)))))))) pa_nil))) pa_nil)))))), ?_⟩
  rintro ds μ R ⟨dr, la, ca, large, cells, r, t, m, ok, hcl, rfl, rfl, rfl⟩
  walk_at "ad"
  refine x_lcI (js := [2]) (fun items i acc μ2 => ∃ (w : List Int) (large : List Int) (r t m : Int), OkDr large r m ∧ items.length = 3 ∧ w.length = i ∧ (∀ c ∈ w, 1 ≤ c ∧ c ≤ 9) ∧ acc = dI w ∧ μ2 = drM dr la ca large cells r t m) (by decide) ?_
  walk_at "ad"
  refine ⟨by decide, by decide, ?_⟩
  refine ⟨by decide, ⟨[], large, r, t, m, ok, rfl, rfl, (fun c hc => by cases hc), rfl, rfl⟩, ?_, ?_⟩
  · intro j d acc μ2 p hd hI
    obtain ⟨w, large, r, t, m, ok, h3, hw, hwl, rfl, rfl⟩ := hI
    walk_at "ad"
    refine X.perm ?_
    refine x_callM ?_
    walk_at "ad"
    refine x_fz ?_
    walk_at "ad"
    refine ⟨_, _, 4, rfl, rfl, ?_⟩
    walk_at "ad"
    refine ⟨drM dr la ca large cells r t m, [(p, .lst (dI w))], _, List.perm_append_comm, ⟨dr, la, ca, large, cells, r, t, m, _, ok, by decide, by decide, hcl, rfl, rfl, rfl⟩, ?_⟩
    rintro d μ' ⟨large, r, t, m, ok, hd2, rfl⟩
    obtain ⟨x, rfl, hx1, hx2⟩ : ∃ x : Int, d = .int x ∧ 1 ≤ x ∧ x ≤ 9 := by
      simp only [List.mem_cons, List.not_mem_nil, or_false] at hd2
      rcases hd2 with rfl | rfl | rfl | rfl | rfl | rfl <;> exact ⟨_, rfl, by decide, by decide⟩
    refine ⟨_, List.perm_append_comm, _, rfl, w ++ [x], large, r, t, m, ok, h3, by rw [List.length_append, hw]; rfl, fun y hy => ?_, by unfold dI; rw [List.map_append]; rfl, rfl⟩
    rcases List.mem_append.mp hy with hy | hy
    · exact hwl y hy
    · rw [List.mem_singleton] at hy
      rw [hy]
      exact ⟨hx1, hx2⟩
  · intro acc μ2 p hI
    obtain ⟨w, large, r, t, m, ok, h3, hw, hwl, rfl, rfl⟩ := hI
    obtain ⟨x, y, z, rfl⟩ : ∃ x y z, w = [x, y, z] := by
      rw [h3] at hw
      match w, hw with
      | [x, y, z], _ => exact ⟨x, y, z, rfl⟩
    walk_at "ad"
    refine x_tup ?_
    refine a_cons ?_
    refine X.perm ?_
    refine x_callM ?_
    walk_at "ad"
    refine x_fz ?_
    walk_at "ad"
    refine ⟨_, _, 4, rfl, rfl, ?_⟩
    walk_at "ad"
    refine ⟨drM dr la ca large cells r t m, [(p, .lst (dI [x, y, z]))], _, List.Perm.refl _, ⟨dr, la, ca, large, cells, r, t, m, _, ok, by decide, by decide, hcl, rfl, rfl, rfl⟩, ?_⟩
    rintro d μ' ⟨large, r, t, m, ok, hd2, rfl⟩
    obtain ⟨o, rfl, ho⟩ : ∃ o : Option Int, d = optD o ∧ ∀ v, o = some v → 1 ≤ v ∧ v ≤ 9 := by
      simp only [List.mem_cons, List.not_mem_nil, or_false] at hd2
      rcases hd2 with rfl | rfl | rfl | rfl | rfl | rfl
      · exact ⟨none, rfl, fun v h => by cases h⟩
      · exact ⟨none, rfl, fun v h => by cases h⟩
      · exact ⟨some 1, rfl, fun v h => by cases h; decide⟩
      · exact ⟨some 1, rfl, fun v h => by cases h; decide⟩
      · exact ⟨some 2, rfl, fun v h => by cases h; decide⟩
      · exact ⟨some 3, rfl, fun v h => by cases h; decide⟩
    refine ⟨_, List.Perm.refl _, ?_⟩
    walk_at "ad"
    refine ⟨by simp, ?_⟩
    refine r_catT (by simp [dI]) ?_
    exact ⟨drM dr la ca large cells r t m, List.sublist_append_left _ _, large, r, t, m, ok, ⟨⟨x, y, z, o⟩, ⟨hwl x (by simp), hwl y (by simp), hwl z (by simp), ho⟩, rfl⟩, rfl⟩

end MW
end
section
open MW L2
local macro_rules | `(tactic| walk_at "d1") => `(tactic| first
  | ((with_reducible refine x_varE ?_); refine ⟨_, rfl, ?_⟩)
  | with_reducible refine x_int ?_
  | with_reducible refine x_str ?_
  | with_reducible refine x_bl ?_
  | with_reducible refine x_non ?_
  | with_reducible refine x_ref ?_
  | with_reducible refine x_ty ?_
  | with_reducible refine x_op ?_
  | with_reducible refine x_un ?_
  | with_reducible refine a_nil ?_
  | with_reducible refine a_cons ?_
  | ((with_reducible refine x_tup ?_); walk_at "ad"; refine ⟨by first | exact (by decide) | (simp; done) | omega, ?_⟩)
  | ((with_reducible refine x_lst ?_); walk_at "ad"; refine ⟨by first | exact (by decide) | (simp; done) | omega, fun _ => ?_⟩)
  | with_reducible refine x_if ?_
  | with_reducible refine x_andV ?_
  | with_reducible refine x_orV ?_
  | with_reducible refine x_notV ?_
  | with_reducible refine t_test ?_
  | with_reducible refine t_B ?_
  | with_reducible refine t_yes ?_
  | with_reducible refine r_inS ?_
  | with_reducible refine r_notInS ?_
  | with_reducible refine t_and ?_
  | with_reducible refine t_or ?_
  | with_reducible refine t_not ?_
  | ((with_reducible refine x_fz ?_); walk_at "ad"; (first | refine ⟨_, _, 0, rfl, rfl, ?_⟩ | refine ⟨_, _, 1, rfl, rfl, ?_⟩ | refine ⟨_, _, 2, rfl, rfl, ?_⟩ | refine ⟨_, _, 3, rfl, rfl, ?_⟩))
  | with_reducible refine xs_seq ?_
  | with_reducible refine xs_next ?_
  | with_reducible refine xs_ret ?_
  | with_reducible refine xs_retN ?_
  | with_reducible refine xs_drop ?_
  | with_reducible apply xs_asg
  | with_reducible refine xs_if ?_
  | with_reducible refine g_name ?_
  | with_reducible refine gs_nil ?_
  | with_reducible apply gs_cons
  | ((with_reducible apply g_tup); exact rfl)
  | with_reducible refine x_chain ?_
  | with_reducible refine x_CB ?_
  | with_reducible refine x_call0 ?_
  | with_reducible refine x_sl ?_
  | with_reducible refine o_none ?_
  | with_reducible refine o_some ?_
  | ((with_reducible refine x_prop ?_); walk_at "ad"; refine ⟨_, _, _, rfl, rfl, ?_⟩)
  | with_reducible refine r_I0 ?_
  | with_reducible refine r_I0b ?_
  | with_reducible refine r_eqI ?_
  | with_reducible refine r_neI ?_
  | with_reducible refine r_eqS ?_
  | with_reducible refine r_neS ?_
  | with_reducible refine r_isN ?_
  | with_reducible refine r_notN ?_
  | with_reducible refine u_neg ?_
  | ((with_reducible refine r_ixTE ?_); first | refine ⟨_, ‹_›, ?_⟩ | refine ⟨_, rfl, ?_⟩)
  | ((with_reducible refine r_ixLE ?_); first | refine ⟨_, ‹_›, ?_⟩ | refine ⟨_, rfl, ?_⟩)
  | ((with_reducible refine k_isIE ?_); refine ⟨_, rfl, ?_⟩)
  | ((with_reducible refine k_isSE ?_); refine ⟨_, rfl, ?_⟩)
  | ((with_reducible refine k_isTE ?_); refine ⟨_, rfl, ?_⟩)
  | ((with_reducible refine x_BM ?_); walk_at "ad"; first | refine ⟨ty_lst (j := 0) rfl, ?_⟩ | refine ⟨ty_lst (j := 1) rfl, ?_⟩ | refine ⟨ty_lst (j := 2) rfl, ?_⟩ | refine ⟨ty_lst (j := 3) rfl, ?_⟩)
  | ((with_reducible refine m_appE ?_); (first | refine ⟨0, _, rfl, ?_, ?_⟩ | refine ⟨1, _, rfl, ?_, ?_⟩ | refine ⟨2, _, rfl, ?_, ?_⟩ | refine ⟨3, _, rfl, ?_, ?_⟩); (walk_at "len"))
  | ((with_reducible refine k_lenS ?_ ?_); (walk_at "len"))
  | ((with_reducible refine s_txt ?_ ?_); (walk_at "len"))
  | ((with_reducible refine r_ixSE ?_ ?_); (walk_at "len"); (first | refine ⟨_, ‹_›, ?_⟩ | refine ⟨_, rfl, ?_⟩))
  | with_reducible refine k_lenT ?_
  | with_reducible refine k_lenL ?_
  | ((with_reducible refine k_lenME ?_); (first | refine ⟨0, _, rfl, ?_⟩ | refine ⟨1, _, rfl, ?_⟩ | refine ⟨2, _, rfl, ?_⟩ | refine ⟨3, _, rfl, ?_⟩))
  | ((with_reducible refine r_ixME ?_); (first | refine ⟨0, _, _, rfl, ‹_›, ?_⟩ | refine ⟨1, _, _, rfl, ‹_›, ?_⟩ | refine ⟨2, _, _, rfl, ‹_›, ?_⟩ | refine ⟨0, _, _, rfl, rfl, ?_⟩ | refine ⟨1, _, _, rfl, rfl, ?_⟩ | refine ⟨2, _, _, rfl, rfl, ?_⟩ | refine ⟨3, _, _, rfl, rfl, ?_⟩))
  | ((with_reducible refine x_tupleM ?_); walk_at "ad"; (first | refine ⟨_, 0, _, rfl, rfl, ?_⟩ | refine ⟨_, 1, _, rfl, rfl, ?_⟩ | refine ⟨_, 2, _, rfl, rfl, ?_⟩ | refine ⟨_, 3, _, rfl, rfl, ?_⟩))
  | ((with_reducible refine r_neT0 (n := 0) ?_ ?_ ?_); exact (by decide); exact (deep_dI _ _))
  | ((with_reducible refine x_rev2 ?_); walk_at "ad"; refine ⟨_, _, rfl, ?_⟩)
  | with_reducible refine x_join ?_
  | with_reducible refine i_enumT ?_
  | with_reducible refine i_rng1 ?_
  | with_reducible refine i_rng2 ?_
  | with_reducible refine i_tup ?_
  | with_reducible refine i_lst ?_
  | with_reducible refine i_str ?_
  | refine ⟨_, rfl, ?_⟩
  | ((with_reducible refine brT ?_ ?_); (first | assumption | exact rfl | decide +kernel))
  | ((with_reducible refine brF ?_ ?_); (first | assumption | exact rfl | decide +kernel)))
local macro_rules | `(tactic| walk_at "len") => `(tactic| first | assumption | omega | ((simp only [List.length_append, List.length_cons, List.length_nil, List.length_map, List.length_set]) <;> omega) | (simp; done) | (simp; omega))
local macro_rules | `(tactic| walk_at "ad") => `(tactic| repeat (walk_at "d1"))
local macro_rules | `(tactic| walk_at "sub") => `(tactic| first | exact List.nil_sublist _ | exact List.Sublist.refl _ | (refine List.Sublist.cons₂ _ ?_; walk_at "sub") | (refine List.Sublist.cons _ ?_; walk_at "sub"))
/-! list(text), _law_letters. -/
namespace MW
open PySem PySem.Spec PyProof.Rows L2
open C8 (pe_c pe_gc Cal)
theorem map_er {α β : Type} (f : α → β) : ∀ (l : List α) (j : Nat), (l.eraseIdx j).map f = (l.map f).eraseIdx j
  | [], _ => rfl
  | _ :: _, 0 => rfl
  | x :: l, j + 1 => congrArg (f x :: ·) (map_er f l j)
theorem vals_signs : ∀ {l : Wd} {vs : List Value}, vs.length = l.length → (∀ (j : Nat) v, vs[j]? = some v → ∃ c u, l[j]? = some c ∧ v = Value.str ⟨#[c]⟩ u) → Vals (l.map fun c => V.str (tx [c])) vs
  | [], [], _, _ => .nil
  | [], _ :: _, h, _ => by cases h
  | _ :: _, [], h, _ => by cases h
  | c :: l, v :: vs, h, hv => by
    refine .cons ?_ (vals_signs (by simpa using h) fun j w hw => ?_)
    · obtain ⟨d, u, e1, e2⟩ := hv 0 v rfl
      have e3 : c = d := Option.some.inj e1
      subst e3
      exact ⟨u, e2⟩
    · obtain ⟨d, u, e1, e2⟩ := hv (j + 1) w hw
      exact ⟨d, u, e1, e2⟩
section
variable {X : Cx}
def rListS : List V → Hp → VK → Prop := fun xs H Q => ∃ l : Wd, xs = [.str (tx l)] ∧ l.length ≤ 1000 ∧ ∀ a, H a = none → Q (.ref a) (upd H a (.lst (l.map fun c => V.str (tx [c]))))
theorem call_listS (hc : X.calm = true) : CallR X (.type "list") rListS := by
  intro pins s σ H xs us Q I r h
  obtain ⟨l, rfl, hz, q⟩ := h
  obtain ⟨u, rfl, t, rfl⟩ := vals1 r
  refine PySem.call_list_str (I.ok.hd hc) (tx l) t (fun h' tk acc c' kp e hacc => ?_) (by show (l.toArray).size ≤ sizeLine; rw [List.size_toArray, sizeLine_eq]; omega)
  have hv : Vals (l.map fun c => V.str (tx [c])) acc.toList := by
    refine vals_signs ?_ fun j v hj => ?_
    · rw [Array.length_toList, hacc.1]
      show (l.toArray).size = l.length
      rw [List.size_toArray]
    · obtain ⟨d, u, e1, e2⟩ := hacc.2 j v (by rw [← Array.getElem?_toList]; exact hj)
      refine ⟨d, u, ?_, e2⟩
      have e3 : (l.toArray)[j]? = some d := e1
      rwa [List.getElem?_toArray] at e3
  refine ⟨.ref s.heap.objs.size, _, I.laid (t' := tk) kp (Nat.le_refl _) (show ObjOk X.prog X.w _ h' _ (.lst (l.map fun c => V.str (tx [c]))) from ⟨by rw [List.length_map, sizeLine_eq]; omega, acc.toList, c', hv, by rw [Array.toArray_toList]; exact e⟩), rfl, q _ (I.hok.fresh (Nat.le_refl _))⟩
end
section
variable {c : Cn} {μ : Mu} {P : D → Mu → Prop}
theorem reps_sgD {H : Hp} : ∀ l : Wd, Reps H (l.map sgD) (l.map fun c => V.str (tx [c]))
  | [] => Reps.nil
  | c :: l => .cons rfl (reps_sgD l)
theorem k_listS {l : Wd} (hz : l.length ≤ 1000) (k : ∀ a, P (.ref a) (μ ++ [(a, .lst (l.map sgD))])) : KX c rListS [.str (tx l)] μ P := fun ρ σ H vs Q S r q => by
  obtain ⟨v, r0, rfl, rfl, rfl⟩ := r
  exact ⟨l, rfl, hz, fun a ha => q _ _ (.ref a) _ (Pst.new ha) rfl (S.add ha (m := .lst (l.map sgD)) ⟨_, upd_same, reps_sgD l⟩) (k a)⟩
/-- xs.pop(i) -/
theorem m_pop {a : Addr} {j i : Nat} {d : D} {ds : List D} (hm : μ[j]? = some (a, .lst ds)) (hi : ds[i]? = some d) (hz : i ≤ 1000) (k : P d (μ.set j (a, .lst (ds.eraseIdx i)))) : MX c rPopAt (.ref a) [.int (i : Nat)] μ P := fun ρ σ H v vs Q S r1 r2 q => by
  have ev : v = .ref a := r1
  obtain ⟨w, r0, rfl, rfl, rfl⟩ := r2
  subst ev
  obtain ⟨ws, hv, rs⟩ := S.mu _ (List.mem_of_getElem? hm)
  obtain ⟨u, hu, ru⟩ := rs.at hi
  have hl := (List.getElem?_eq_some_iff.mp hu).1
  have P1 : Pst H (upd H a (.lst (ws.eraseIdx i))) := Pst.mut hv fun z => z
  refine ⟨a, ws, i, i, u, rfl, rfl, hv, by omega, by omega, ?_, hu, ?_⟩
  · simp [seqIndex?, hl]
    rw [if_neg (show ¬ ((i : Int) < 0) by omega)]
    omega
  · exact q u _ d _ P1 (ru.mono P1) (S.put (m' := .lst (ds.eraseIdx i)) hm ⟨_, upd_same, Reps.mono P1 _ _ (rs.erase i)⟩) k
end
def G_law_letters (_K : PySem.W.Frag) : SpcM := fun ds μ R => ∃ (dr la ca : Addr) (large cells : List Int) (r t m n : Int), OkDr large r m ∧ cells.length ≤ 63 ∧ 1 ≤ n ∧ n ≤ 5 ∧ ds = [.ref dr, .int n] ∧ μ = drM dr la ca large cells r t m ∧
  R = Drawn dr la ca cells (fun d => ∃ l : Wd, d = .lst (l.map sgD) ∧ 1 ≤ l.length ∧ l.length ≤ 5 ∧ ∀ c ∈ l, c ∈ abc)
abbrev N_law_letters : List Str := ["_law_draw", "_law_many", "_law_left", "_law_found", "_law_turn"]
theorem sc_law_letters : FnScope N_law_letters ["_law_draw", "_law_many"] (defScope s_law_letters) := ⟨rfl, rfl, rfl, by decide +kernel, rfl, by decide +kernel, by decide +kernel⟩
theorem Tx.c_law_letters {w : World} {K : PySem.W.Frag} {mg : Str → Option Value} {base : Heap} (T : Tx K mg) : Cal P0 w K mg base 4 "_law_letters" (spM (G_law_letters K)) [] := by
  refine mkCalM (k := 3) T.d_law_letters T.g_law_letters sc_law_letters (fun _ _ _ _ _ _ us hl => match us, hl with | [_, _], _ => rfl) (by intro ds μ R h; obtain ⟨dr, la, ca, large, cells, r, t, m, n, ok, hcl, hn1, hn2, rfl, rfl, rfl⟩ := h; rfl) fun cdv A outer s H E hr => ?_
  have nd := sc_law_letters.nd
  refine ⟨_, (pss_cons (ps_par (i := 2) (j := 3) rfl nd rfl rfl (by decide) rfl rfl (pa_cons (pe_callTy (call_listS rfl) (by rfl) T.f_list boot_list (pa_cons pe_str pa_nil)) (pa_cons (pe_lst pa_nil) pa_nil)) (by rfl))
  (pss_cons (ps_for PassesOwn.never rfl (pi_range1 (by rfl) T.f_range (pa_cons (pv 1) pa_nil)) (pg_name (i := 4) nd rfl (by first | exact Or.inl rfl | exact Or.inr rfl)) (pss_one (ps_expr (pe_bm PySem.F.plainAttrs_list PySem.F.slot_list_append PySem.F.type_list_append mt_append (pv 3) (pa_cons (pe_bm PySem.F.plainAttrs_list PySem.F.slot_list_pop PySem.F.type_list_pop mt_popAt (pv 2) (pa_cons (pe_c T.c_law_take hr (by decide) (by rfl) (pa_cons (pv 0) (pa_cons (pe_callB call_len_seq (by rfl) T.f_len boot_len (pa_cons (pv 2) pa_nil)) pa_nil))) pa_nil)) pa_nil)))))
  (pss_one (ps_ret (pe_fz (pv 3)))))), ?_⟩
  rintro ds μ R ⟨dr, la, ca, large, cells, r, t, m, n, ok, hcl, hn1, hn2, rfl, rfl, rfl⟩
  walk_at "ad"
  refine xs_par ?_
  walk_at "ad"
  rw [abc_eq]
  refine k_listS (by decide) fun lf => ?_
  walk_at "ad"
  rename_i ff
  refine ⟨_, _, rfl, ?_⟩
  walk_at "ad"
  refine xs_forS (js := [4]) (fun i ρ μ => ∃ (left found : Wd) (large : List Int) (r t m : Int) (x4 : Option D), OkDr large r m ∧ left.length + i = 26 ∧ found.length = i ∧ (∀ c ∈ left, c ∈ abc) ∧ (∀ c ∈ found, c ∈ abc) ∧ ρ = [some (.ref dr), some (.int n), some (.ref lf), some (.ref ff), x4] ∧ μ = drM dr la ca large cells r t m ++ [(lf, .lst (left.map sgD)), (ff, .lst (found.map sgD))]) ?_
  walk_at "ad"
  refine ⟨by omega, by omega, ?_⟩
  refine ⟨⟨_, List.Sublist.refl _, abc, [], large, r, t, m, none, ok, rfl, rfl, (fun c hc => hc), (fun c hc => by cases hc), rfl, rfl⟩, ?_, ?_⟩
  · intro i d ρ' μ' hd hI
    obtain ⟨left, found, large, r, t, m, x4, ok, hl, hf, hla, hfa, rfl, rfl⟩ := hI
    have hin := (rng_at hd).1
    walk_at "ad"
    refine x_BM ?_
    walk_at "ad"
    refine ⟨ty_lst (j := 4) rfl, ?_⟩
    refine a_cons ?_
    refine x_BM ?_
    walk_at "ad"
    refine ⟨ty_lst (j := 3) rfl, ?_⟩
    refine a_cons ?_
    refine x_callM ?_
    walk_at "ad"
    rw [List.length_map]
    refine ⟨drM dr la ca large cells r t m, [(lf, .lst (left.map sgD)), (ff, .lst (found.map sgD))], _, List.Perm.refl _, ⟨dr, la, ca, large, cells, r, t, m, (left.length : Nat), ok, by omega, by omega, hcl, rfl, rfl, rfl⟩, ?_⟩
    rintro d μ' ⟨large, r, t, m, ok, ⟨k, h0, h1, rfl⟩, rfl⟩
    obtain ⟨k, rfl⟩ : ∃ z : Nat, k = (z : Int) := ⟨k.toNat, by omega⟩
    have hk : k < left.length := by omega
    walk_at "ad"
    refine m_pop (j := 3) (i := k) (d := sgD left[k]) rfl (by rw [List.getElem?_map, List.getElem?_eq_getElem hk]; rfl) (by omega) ?_
    walk_at "ad"
    refine m_app (j := 4) rfl (by rw [List.length_map]; omega) ?_
    refine ⟨_, List.Sublist.refl _, left.eraseIdx k, found ++ [left[k]], large, r, t, m, _, ok, ?_, ?_, ?_, ?_, rfl, ?_⟩
    · rw [List.length_eraseIdx_of_lt hk]
      omega
    · rw [List.length_append, hf]
      rfl
    · exact fun c hc => hla c ((List.eraseIdx_sublist left k).subset hc)
    · intro c hc
      rcases List.mem_append.mp hc with hc | hc
      · exact hfa c hc
      · rw [List.mem_singleton] at hc
        rw [hc]
        exact hla _ (List.getElem_mem hk)
    · rw [List.map_append, map_er]
      rfl
  · intro ρ' μ' hI
    obtain ⟨left, found, large, r, t, m, x4, ok, hl, hf, hla, hfa, rfl, rfl⟩ := hI
    rw [rng_len] at hf
    walk_at "ad"
    refine x_fz ?_
    walk_at "ad"
    refine ⟨ff, _, 4, rfl, rfl, ?_⟩
    exact ⟨drM dr la ca large cells r t m, by walk_at "sub", large, r, t, m, ok, ⟨found, rfl, by omega, by omega, hfa⟩, rfl⟩

end MW
end
section
open MW L2
local macro_rules | `(tactic| walk_at "d1") => `(tactic| first
  | ((with_reducible refine x_varE ?_); refine ⟨_, rfl, ?_⟩)
  | with_reducible refine x_int ?_
  | with_reducible refine x_str ?_
  | with_reducible refine x_bl ?_
  | with_reducible refine x_non ?_
  | with_reducible refine x_ref ?_
  | with_reducible refine x_ty ?_
  | with_reducible refine x_op ?_
  | with_reducible refine x_un ?_
  | with_reducible refine a_nil ?_
  | with_reducible refine a_cons ?_
  | ((with_reducible refine x_tup ?_); walk_at "ad"; refine ⟨by first | exact (by decide) | (simp; done) | omega, ?_⟩)
  | ((with_reducible refine x_lst ?_); walk_at "ad"; refine ⟨by first | exact (by decide) | (simp; done) | omega, fun _ => ?_⟩)
  | with_reducible refine x_if ?_
  | with_reducible refine x_andV ?_
  | with_reducible refine x_orV ?_
  | with_reducible refine x_notV ?_
  | with_reducible refine t_test ?_
  | with_reducible refine t_B ?_
  | with_reducible refine t_yes ?_
  | with_reducible refine r_inS ?_
  | with_reducible refine r_notInS ?_
  | with_reducible refine t_and ?_
  | with_reducible refine t_or ?_
  | with_reducible refine t_not ?_
  | ((with_reducible refine x_fz ?_); walk_at "ad"; (first | refine ⟨_, _, 0, rfl, rfl, ?_⟩ | refine ⟨_, _, 1, rfl, rfl, ?_⟩ | refine ⟨_, _, 2, rfl, rfl, ?_⟩ | refine ⟨_, _, 3, rfl, rfl, ?_⟩))
  | with_reducible refine xs_seq ?_
  | with_reducible refine xs_next ?_
  | with_reducible refine xs_ret ?_
  | with_reducible refine xs_retN ?_
  | with_reducible refine xs_drop ?_
  | with_reducible apply xs_asg
  | with_reducible refine xs_if ?_
  | with_reducible refine g_name ?_
  | with_reducible refine gs_nil ?_
  | with_reducible apply gs_cons
  | ((with_reducible apply g_tup); exact rfl)
  | with_reducible refine x_chain ?_
  | with_reducible refine x_CB ?_
  | with_reducible refine x_call0 ?_
  | with_reducible refine x_sl ?_
  | with_reducible refine o_none ?_
  | with_reducible refine o_some ?_
  | ((with_reducible refine x_prop ?_); walk_at "ad"; refine ⟨_, _, _, rfl, rfl, ?_⟩)
  | with_reducible refine r_I0 ?_
  | with_reducible refine r_I0b ?_
  | with_reducible refine r_eqI ?_
  | with_reducible refine r_neI ?_
  | with_reducible refine r_eqS ?_
  | with_reducible refine r_neS ?_
  | with_reducible refine r_isN ?_
  | with_reducible refine r_notN ?_
  | with_reducible refine u_neg ?_
  | ((with_reducible refine r_ixTE ?_); first | refine ⟨_, ‹_›, ?_⟩ | refine ⟨_, rfl, ?_⟩)
  | ((with_reducible refine r_ixLE ?_); first | refine ⟨_, ‹_›, ?_⟩ | refine ⟨_, rfl, ?_⟩)
  | ((with_reducible refine k_isIE ?_); refine ⟨_, rfl, ?_⟩)
  | ((with_reducible refine k_isSE ?_); refine ⟨_, rfl, ?_⟩)
  | ((with_reducible refine k_isTE ?_); refine ⟨_, rfl, ?_⟩)
  | ((with_reducible refine x_BM ?_); walk_at "ad"; first | refine ⟨ty_lst (j := 0) rfl, ?_⟩ | refine ⟨ty_lst (j := 1) rfl, ?_⟩ | refine ⟨ty_lst (j := 2) rfl, ?_⟩ | refine ⟨ty_lst (j := 3) rfl, ?_⟩)
  | ((with_reducible refine m_appE ?_); (first | refine ⟨0, _, rfl, ?_, ?_⟩ | refine ⟨1, _, rfl, ?_, ?_⟩ | refine ⟨2, _, rfl, ?_, ?_⟩ | refine ⟨3, _, rfl, ?_, ?_⟩); (walk_at "len"))
  | ((with_reducible refine k_lenS ?_ ?_); (walk_at "len"))
  | ((with_reducible refine s_txt ?_ ?_); (walk_at "len"))
  | ((with_reducible refine r_ixSE ?_ ?_); (walk_at "len"); (first | refine ⟨_, ‹_›, ?_⟩ | refine ⟨_, rfl, ?_⟩))
  | with_reducible refine k_lenT ?_
  | with_reducible refine k_lenL ?_
  | ((with_reducible refine k_lenME ?_); (first | refine ⟨0, _, rfl, ?_⟩ | refine ⟨1, _, rfl, ?_⟩ | refine ⟨2, _, rfl, ?_⟩ | refine ⟨3, _, rfl, ?_⟩))
  | ((with_reducible refine r_ixME ?_); (first | refine ⟨0, _, _, rfl, ‹_›, ?_⟩ | refine ⟨1, _, _, rfl, ‹_›, ?_⟩ | refine ⟨2, _, _, rfl, ‹_›, ?_⟩ | refine ⟨0, _, _, rfl, rfl, ?_⟩ | refine ⟨1, _, _, rfl, rfl, ?_⟩ | refine ⟨2, _, _, rfl, rfl, ?_⟩ | refine ⟨3, _, _, rfl, rfl, ?_⟩))
  | ((with_reducible refine x_tupleM ?_); walk_at "ad"; (first | refine ⟨_, 0, _, rfl, rfl, ?_⟩ | refine ⟨_, 1, _, rfl, rfl, ?_⟩ | refine ⟨_, 2, _, rfl, rfl, ?_⟩ | refine ⟨_, 3, _, rfl, rfl, ?_⟩))
  | ((with_reducible refine r_neT0 (n := 0) ?_ ?_ ?_); exact (by decide); exact (deep_dI _ _))
  | ((with_reducible refine x_rev2 ?_); walk_at "ad"; refine ⟨_, _, rfl, ?_⟩)
  | with_reducible refine x_join ?_
  | with_reducible refine i_enumT ?_
  | with_reducible refine i_rng1 ?_
  | with_reducible refine i_rng2 ?_
  | with_reducible refine i_tup ?_
  | with_reducible refine i_lst ?_
  | with_reducible refine i_str ?_
  | refine ⟨_, rfl, ?_⟩
  | ((with_reducible refine brT ?_ ?_); (first | assumption | exact rfl | decide +kernel))
  | ((with_reducible refine brF ?_ ?_); (first | assumption | exact rfl | decide +kernel)))
local macro_rules | `(tactic| walk_at "len") => `(tactic| first | assumption | omega | ((simp only [List.length_append, List.length_cons, List.length_nil, List.length_map, List.length_set]) <;> omega) | (simp; done) | (simp; omega))
local macro_rules | `(tactic| walk_at "ad") => `(tactic| repeat (walk_at "d1"))
local macro_rules | `(tactic| walk_at "sub") => `(tactic| first | exact List.nil_sublist _ | exact List.Sublist.refl _ | (refine List.Sublist.cons₂ _ ?_; walk_at "sub") | (refine List.Sublist.cons _ ?_; walk_at "sub"))
/-! _law_slips, _law_speller. -/
namespace MW
open PySem PySem.Spec PyProof.Rows L2
open C8 (pe_c pe_gc Cal)
def G_law_slips (K : PySem.W.Frag) : Spc := fun ds R => ∃ s : Slp, OkL s ∧ ds = [prcD s] ∧ R = fun d => d = slpD K s
/-- the case: a dict that the law changes -/
abbrev csL (ls : Wd) (s : Slp) (es : List (List Nat × Int)) : AL := [("letters", .lst (ls.map sgD)), ("prices", prcD s), ("entries", .lst (es.map entD))]
theorem cs_prices {ls : Wd} {s : Slp} {es : List (List Nat × Int)} : getL (csL ls s es) "prices" = some (prcD s) := by
  unfold getL csL
  simp [List.find?_cons, show ¬ (("letters" : Str) = "prices") by decide +kernel]
theorem cs_entries {ls : Wd} {s : Slp} {es : List (List Nat × Int)} : getL (csL ls s es) "entries" = some (.lst (es.map entD)) := by
  unfold getL csL
  simp [List.find?_cons, show ¬ (("letters" : Str) = "entries") by decide +kernel, show ¬ (("prices" : Str) = "entries") by decide +kernel]
theorem put_entries {ls : Wd} {s : Slp} {es es' : List (List Nat × Int)} : putL (csL ls s es) "entries" (.lst (es'.map entD)) = csL ls s es' := by
  unfold putL csL
  simp [show ¬ (("letters" : Str) = "entries") by decide +kernel, show ¬ (("prices" : Str) = "entries") by decide +kernel]
def G_law_speller (K : PySem.W.Frag) : SpcM := fun ds μ R => ∃ (cd : Addr) (ls : Wd) (p : Spl), OkE p.es ∧ OkL p.sl ∧ ds = [.ref cd] ∧ μ = [(cd, dicM (csL ls p.sl p.es))] ∧ R = fun d μ' => d = splD K p ∧ μ' = [(cd, dicM (csL ls p.sl p.es))]
abbrev N_law_slips : List Str := ["_law_prices_here"]
theorem sc_law_slips : FnScope N_law_slips ["_law_prices_here"] (defScope s_law_slips) := ⟨rfl, rfl, rfl, by decide +kernel, rfl, by decide +kernel, by decide +kernel⟩
theorem Tx.c_law_slips {w : World} {K : PySem.W.Frag} {mg : Str → Option Value} {base : Heap} (T : Tx K mg) : Cal P0 w K mg base 7 "_law_slips" (spF (G_law_slips K)) [] := by
  obtain ⟨fdS, FS, mvS, HB⟩ := T.i_Slips (w := w) (base := base)
  refine mkCal (k := 6) T.d_law_slips T.g_law_slips sc_law_slips (fun _ _ _ _ _ _ us hl => match us, hl with | [_], _ => rfl) (by intro ds R h; obtain ⟨sl, ok, rfl, rfl⟩ := h; rfl) fun cdv A outer s H E hr => ?_
  have nd := sc_law_slips.nd
  refine ⟨_, (pss_one (ps_ret (pe_makeK0 (E := E0) T.mk_Slips FS hr (by rfl) T.g_Slips HB C8.pass0 (pk_cons (pe_ix ix_tup (pv 0) pe_int (fun _ _ => rfl)) (pk_cons (pe_ix ix_tup (pv 0) pe_int (fun _ _ => rfl)) (pk_cons (pe_ix ix_tup (pv 0) pe_int (fun _ _ => rfl)) (pk_cons (pe_ix ix_tup (pv 0) pe_int (fun _ _ => rfl)) pk_nil))))))), ?_⟩
  rintro ds R ⟨sl, ok, rfl, rfl⟩
  walk_at "ad"
  refine x_mkSlips (mv := []) ?_
  walk_at "ad"
  exact ⟨ok, rfl⟩

abbrev N_law_speller : List Str := ["_law_case_here"]
theorem sc_law_speller : FnScope N_law_speller ["_law_case_here"] (defScope s_law_speller) := ⟨rfl, rfl, rfl, by decide +kernel, rfl, by decide +kernel, by decide +kernel⟩
theorem Tx.c_law_speller {w : World} {K : PySem.W.Frag} {mg : Str → Option Value} {base : Heap} (T : Tx K mg) : Cal P0 w K mg base 10 "_law_speller" (spM (G_law_speller K)) [] := by
  refine mkCalM (k := 9) T.d_law_speller T.g_law_speller sc_law_speller (fun _ _ _ _ _ _ us hl => match us, hl with | [_], _ => rfl) (by intro ds μ R h; obtain ⟨cd, ls, p, ok, ol, rfl, rfl, rfl⟩ := h; rfl) fun cdv A outer s H E hr => ?_
  have nd := sc_law_speller.nd
  refine ⟨_, (pss_one (ps_ret (C8.pe_mk T.k_Speller hr (by decide) (by rfl) (pa_cons (pe_dget (hu_of hr) (pv 0) pe_str (fun _ _ => rfl)) (pa_cons (pe_c T.c_law_slips hr (by decide) (by rfl) (pa_cons (pe_dget (hu_of hr) (pv 0) pe_str (fun _ _ => rfl)) pa_nil)) pa_nil))))), ?_⟩
  rintro ds μ R ⟨cd, ls, p, ok, ol, rfl, rfl, rfl⟩
  walk_at "ad"
  refine x_mkSpl ?_
  walk_at "ad"
  refine x_dgetM ?_
  walk_at "ad"
  refine ⟨cd, 0, csL ls p.sl p.es, _, _, rfl, rfl, rfl, cs_entries, ?_⟩
  walk_at "ad"
  refine x_dgetM ?_
  walk_at "ad"
  refine ⟨cd, 0, csL ls p.sl p.es, _, _, rfl, rfl, rfl, cs_prices, ?_⟩
  walk_at "ad"
  refine ⟨_, ⟨p.sl, ol, rfl, rfl⟩, ?_⟩
  rintro _ rfl
  walk_at "ad"
  exact ⟨ok, _, List.Sublist.refl _, rfl, rfl⟩

end MW
end
section
open MW L2
local macro_rules | `(tactic| walk_at "d1") => `(tactic| first
  | ((with_reducible refine x_varE ?_); refine ⟨_, rfl, ?_⟩)
  | with_reducible refine x_int ?_
  | with_reducible refine x_str ?_
  | with_reducible refine x_bl ?_
  | with_reducible refine x_non ?_
  | with_reducible refine x_ref ?_
  | with_reducible refine x_ty ?_
  | with_reducible refine x_op ?_
  | with_reducible refine x_un ?_
  | with_reducible refine a_nil ?_
  | with_reducible refine a_cons ?_
  | ((with_reducible refine x_tup ?_); walk_at "ad"; refine ⟨by first | exact (by decide) | (simp; done) | omega, ?_⟩)
  | ((with_reducible refine x_lst ?_); walk_at "ad"; refine ⟨by first | exact (by decide) | (simp; done) | omega, fun _ => ?_⟩)
  | with_reducible refine x_if ?_
  | with_reducible refine x_andV ?_
  | with_reducible refine x_orV ?_
  | with_reducible refine x_notV ?_
  | with_reducible refine t_test ?_
  | with_reducible refine t_B ?_
  | with_reducible refine t_yes ?_
  | with_reducible refine r_inS ?_
  | with_reducible refine r_notInS ?_
  | with_reducible refine t_and ?_
  | with_reducible refine t_or ?_
  | with_reducible refine t_not ?_
  | ((with_reducible refine x_fz ?_); walk_at "ad"; (first | refine ⟨_, _, 0, rfl, rfl, ?_⟩ | refine ⟨_, _, 1, rfl, rfl, ?_⟩ | refine ⟨_, _, 2, rfl, rfl, ?_⟩ | refine ⟨_, _, 3, rfl, rfl, ?_⟩))
  | with_reducible refine xs_seq ?_
  | with_reducible refine xs_next ?_
  | with_reducible refine xs_ret ?_
  | with_reducible refine xs_retN ?_
  | with_reducible refine xs_drop ?_
  | with_reducible apply xs_asg
  | with_reducible refine xs_if ?_
  | with_reducible refine g_name ?_
  | with_reducible refine gs_nil ?_
  | with_reducible apply gs_cons
  | ((with_reducible apply g_tup); exact rfl)
  | with_reducible refine x_chain ?_
  | with_reducible refine x_CB ?_
  | with_reducible refine x_call0 ?_
  | with_reducible refine x_sl ?_
  | with_reducible refine o_none ?_
  | with_reducible refine o_some ?_
  | ((with_reducible refine x_prop ?_); walk_at "ad"; refine ⟨_, _, _, rfl, rfl, ?_⟩)
  | with_reducible refine r_I0 ?_
  | with_reducible refine r_I0b ?_
  | with_reducible refine r_eqI ?_
  | with_reducible refine r_neI ?_
  | with_reducible refine r_eqS ?_
  | with_reducible refine r_neS ?_
  | with_reducible refine r_isN ?_
  | with_reducible refine r_notN ?_
  | with_reducible refine u_neg ?_
  | ((with_reducible refine r_ixTE ?_); first | refine ⟨_, ‹_›, ?_⟩ | refine ⟨_, rfl, ?_⟩)
  | ((with_reducible refine r_ixLE ?_); first | refine ⟨_, ‹_›, ?_⟩ | refine ⟨_, rfl, ?_⟩)
  | ((with_reducible refine k_isIE ?_); refine ⟨_, rfl, ?_⟩)
  | ((with_reducible refine k_isSE ?_); refine ⟨_, rfl, ?_⟩)
  | ((with_reducible refine k_isTE ?_); refine ⟨_, rfl, ?_⟩)
  | ((with_reducible refine x_BM ?_); walk_at "ad"; first | refine ⟨ty_lst (j := 0) rfl, ?_⟩ | refine ⟨ty_lst (j := 1) rfl, ?_⟩ | refine ⟨ty_lst (j := 2) rfl, ?_⟩ | refine ⟨ty_lst (j := 3) rfl, ?_⟩)
  | ((with_reducible refine m_appE ?_); (first | refine ⟨0, _, rfl, ?_, ?_⟩ | refine ⟨1, _, rfl, ?_, ?_⟩ | refine ⟨2, _, rfl, ?_, ?_⟩ | refine ⟨3, _, rfl, ?_, ?_⟩); (walk_at "len"))
  | ((with_reducible refine k_lenS ?_ ?_); (walk_at "len"))
  | ((with_reducible refine s_txt ?_ ?_); (walk_at "len"))
  | ((with_reducible refine r_ixSE ?_ ?_); (walk_at "len"); (first | refine ⟨_, ‹_›, ?_⟩ | refine ⟨_, rfl, ?_⟩))
  | with_reducible refine k_lenT ?_
  | with_reducible refine k_lenL ?_
  | ((with_reducible refine k_lenME ?_); (first | refine ⟨0, _, rfl, ?_⟩ | refine ⟨1, _, rfl, ?_⟩ | refine ⟨2, _, rfl, ?_⟩ | refine ⟨3, _, rfl, ?_⟩))
  | ((with_reducible refine r_ixME ?_); (first | refine ⟨0, _, _, rfl, ‹_›, ?_⟩ | refine ⟨1, _, _, rfl, ‹_›, ?_⟩ | refine ⟨2, _, _, rfl, ‹_›, ?_⟩ | refine ⟨0, _, _, rfl, rfl, ?_⟩ | refine ⟨1, _, _, rfl, rfl, ?_⟩ | refine ⟨2, _, _, rfl, rfl, ?_⟩ | refine ⟨3, _, _, rfl, rfl, ?_⟩))
  | ((with_reducible refine x_tupleM ?_); walk_at "ad"; (first | refine ⟨_, 0, _, rfl, rfl, ?_⟩ | refine ⟨_, 1, _, rfl, rfl, ?_⟩ | refine ⟨_, 2, _, rfl, rfl, ?_⟩ | refine ⟨_, 3, _, rfl, rfl, ?_⟩))
  | ((with_reducible refine r_neT0 (n := 0) ?_ ?_ ?_); exact (by decide); exact (deep_dI _ _))
  | ((with_reducible refine x_rev2 ?_); walk_at "ad"; refine ⟨_, _, rfl, ?_⟩)
  | with_reducible refine x_join ?_
  | with_reducible refine i_enumT ?_
  | with_reducible refine i_rng1 ?_
  | with_reducible refine i_rng2 ?_
  | with_reducible refine i_tup ?_
  | with_reducible refine i_lst ?_
  | with_reducible refine i_str ?_
  | refine ⟨_, rfl, ?_⟩
  | ((with_reducible refine brT ?_ ?_); (first | assumption | exact rfl | decide +kernel))
  | ((with_reducible refine brF ?_ ?_); (first | assumption | exact rfl | decide +kernel)))
local macro_rules | `(tactic| walk_at "len") => `(tactic| first | assumption | omega | ((simp only [List.length_append, List.length_cons, List.length_nil, List.length_map, List.length_set]) <;> omega) | (simp; done) | (simp; omega))
local macro_rules | `(tactic| walk_at "ad") => `(tactic| repeat (walk_at "d1"))
local macro_rules | `(tactic| walk_at "sub") => `(tactic| first | exact List.nil_sublist _ | exact List.Sublist.refl _ | (refine List.Sublist.cons₂ _ ?_; walk_at "sub") | (refine List.Sublist.cons _ ?_; walk_at "sub"))
/-! _law_is_understood. -/
namespace MW
open PySem PySem.Spec PyProof.Rows L2
open C8 (pe_c pe_gc Cal)
/-- nothing within n hides e -/
def Und (p : Spl) (e : List Nat × Int) (n : Int) : Prop := ∀ u, Over p u → ¬ Least p u e → n < price p.sl e.1 u
def G_law_is_understood (K : PySem.W.Frag) : Spc := fun ds R => ∃ (p : Spl) (e : List Nat × Int) (k : Nat) (n : Int), OkP p ∧ p.es[k]? = some e ∧ NotMany p 2000 ∧ ds = [splD K p, .str (tx e.1), .int n] ∧ R = fun d => ∃ b : Bool, d = .bl b ∧ (b = true ↔ Und p e n)
abbrev N_law_is_understood : List Str := ["_law_book", "_law_term", "_law_within", "_law_found"]
theorem sc_law_is_understood : FnScope N_law_is_understood ["_law_book", "_law_term", "_law_within"] (defScope s_law_is_understood) := ⟨rfl, rfl, rfl, by decide +kernel, rfl, by decide +kernel, by decide +kernel⟩
theorem Tx.c_law_is_understood {w : World} {K : PySem.W.Frag} {mg : Str → Option Value} {base : Heap} (T : Tx K mg) (M : TmOk P0 w K mg base) : Cal P0 w K mg base 13 "_law_is_understood" (spF (G_law_is_understood K)) [] := by
  refine mkCal (k := 12) T.d_law_is_understood T.g_law_is_understood sc_law_is_understood (fun _ _ _ _ _ _ us hl => match us, hl with | [_, _, _], _ => rfl) (by intro ds R h; obtain ⟨p, e, k, n, hp, hk, hm, rfl, rfl⟩ := h; rfl) fun cdv A outer s H E hr => ?_
  have nd := sc_law_is_understood.nd
  refine ⟨_, (pss_cons (ps_set (i := 3) nd rfl (by first | exact Or.inl rfl | exact Or.inr rfl) (pe_c (T.c_strength M) hr (by decide) (by rfl) (pa_cons (pv 0) (pa_cons (pv 1) pa_nil))))
  (pss_one (ps_ret (pe_or (pe_cmpR op_isN (pv 3) pe_non (nomark _)) (pe_one (pe_cmpR op_gt (pe_ix ix_tup (pv 3) pe_int (fun _ _ => rfl)) (pv 2) (nomark _))))))), ?_⟩
  rintro ds R ⟨p, e, k, n, hp, hk, hm, rfl, rfl⟩
  walk_at "ad"
  refine x_call [.int 2000] (fun _ => .cons rfl .nil) ?_
  walk_at "ad"
  refine ⟨_, ⟨p, e, k, hp, hk, hm, rfl, rfl⟩, ?_⟩
  intro d hd
  rcases hd with ⟨rfl, h⟩ | ⟨t, ho, hn, rfl, h⟩
  · walk_at "ad"
    exact ⟨fun _ u hu hl => absurd (h u hu) hl, fun _ => rfl⟩
  · walk_at "ad"
    refine ⟨fun z u hu hl => ?_, fun z => decide_eq_true (z t ho hn)⟩
    have h1 := h u hu hl
    have h2 : price p.sl e.1 t > n := of_decide_eq_true z
    omega

end MW
end
section
open MW L2
local macro_rules | `(tactic| walk_at "d1") => `(tactic| first
  | ((with_reducible refine x_varE ?_); refine ⟨_, rfl, ?_⟩)
  | with_reducible refine x_int ?_
  | with_reducible refine x_str ?_
  | with_reducible refine x_bl ?_
  | with_reducible refine x_non ?_
  | with_reducible refine x_ref ?_
  | with_reducible refine x_ty ?_
  | with_reducible refine x_op ?_
  | with_reducible refine x_un ?_
  | with_reducible refine a_nil ?_
  | with_reducible refine a_cons ?_
  | ((with_reducible refine x_tup ?_); walk_at "ad"; refine ⟨by first | exact (by decide) | (simp; done) | omega, ?_⟩)
  | ((with_reducible refine x_lst ?_); walk_at "ad"; refine ⟨by first | exact (by decide) | (simp; done) | omega, fun _ => ?_⟩)
  | with_reducible refine x_if ?_
  | with_reducible refine x_andV ?_
  | with_reducible refine x_orV ?_
  | with_reducible refine x_notV ?_
  | with_reducible refine t_test ?_
  | with_reducible refine t_B ?_
  | with_reducible refine t_yes ?_
  | with_reducible refine r_inS ?_
  | with_reducible refine r_notInS ?_
  | with_reducible refine t_and ?_
  | with_reducible refine t_or ?_
  | with_reducible refine t_not ?_
  | ((with_reducible refine x_fz ?_); walk_at "ad"; (first | refine ⟨_, _, 0, rfl, rfl, ?_⟩ | refine ⟨_, _, 1, rfl, rfl, ?_⟩ | refine ⟨_, _, 2, rfl, rfl, ?_⟩ | refine ⟨_, _, 3, rfl, rfl, ?_⟩))
  | with_reducible refine xs_seq ?_
  | with_reducible refine xs_next ?_
  | with_reducible refine xs_ret ?_
  | with_reducible refine xs_retN ?_
  | with_reducible refine xs_drop ?_
  | with_reducible apply xs_asg
  | with_reducible refine xs_if ?_
  | with_reducible refine g_name ?_
  | with_reducible refine gs_nil ?_
  | with_reducible apply gs_cons
  | ((with_reducible apply g_tup); exact rfl)
  | with_reducible refine x_chain ?_
  | with_reducible refine x_CB ?_
  | with_reducible refine x_call0 ?_
  | with_reducible refine x_sl ?_
  | with_reducible refine o_none ?_
  | with_reducible refine o_some ?_
  | ((with_reducible refine x_prop ?_); walk_at "ad"; refine ⟨_, _, _, rfl, rfl, ?_⟩)
  | with_reducible refine r_I0 ?_
  | with_reducible refine r_I0b ?_
  | with_reducible refine r_eqI ?_
  | with_reducible refine r_neI ?_
  | with_reducible refine r_eqS ?_
  | with_reducible refine r_neS ?_
  | with_reducible refine r_isN ?_
  | with_reducible refine r_notN ?_
  | with_reducible refine u_neg ?_
  | ((with_reducible refine r_ixTE ?_); first | refine ⟨_, ‹_›, ?_⟩ | refine ⟨_, rfl, ?_⟩)
  | ((with_reducible refine r_ixLE ?_); first | refine ⟨_, ‹_›, ?_⟩ | refine ⟨_, rfl, ?_⟩)
  | ((with_reducible refine k_isIE ?_); refine ⟨_, rfl, ?_⟩)
  | ((with_reducible refine k_isSE ?_); refine ⟨_, rfl, ?_⟩)
  | ((with_reducible refine k_isTE ?_); refine ⟨_, rfl, ?_⟩)
  | ((with_reducible refine x_BM ?_); walk_at "ad"; first | refine ⟨ty_lst (j := 0) rfl, ?_⟩ | refine ⟨ty_lst (j := 1) rfl, ?_⟩ | refine ⟨ty_lst (j := 2) rfl, ?_⟩ | refine ⟨ty_lst (j := 3) rfl, ?_⟩)
  | ((with_reducible refine m_appE ?_); (first | refine ⟨0, _, rfl, ?_, ?_⟩ | refine ⟨1, _, rfl, ?_, ?_⟩ | refine ⟨2, _, rfl, ?_, ?_⟩ | refine ⟨3, _, rfl, ?_, ?_⟩); (walk_at "len"))
  | ((with_reducible refine k_lenS ?_ ?_); (walk_at "len"))
  | ((with_reducible refine s_txt ?_ ?_); (walk_at "len"))
  | ((with_reducible refine r_ixSE ?_ ?_); (walk_at "len"); (first | refine ⟨_, ‹_›, ?_⟩ | refine ⟨_, rfl, ?_⟩))
  | with_reducible refine k_lenT ?_
  | with_reducible refine k_lenL ?_
  | ((with_reducible refine k_lenME ?_); (first | refine ⟨0, _, rfl, ?_⟩ | refine ⟨1, _, rfl, ?_⟩ | refine ⟨2, _, rfl, ?_⟩ | refine ⟨3, _, rfl, ?_⟩))
  | ((with_reducible refine r_ixME ?_); (first | refine ⟨0, _, _, rfl, ‹_›, ?_⟩ | refine ⟨1, _, _, rfl, ‹_›, ?_⟩ | refine ⟨2, _, _, rfl, ‹_›, ?_⟩ | refine ⟨0, _, _, rfl, rfl, ?_⟩ | refine ⟨1, _, _, rfl, rfl, ?_⟩ | refine ⟨2, _, _, rfl, rfl, ?_⟩ | refine ⟨3, _, _, rfl, rfl, ?_⟩))
  | ((with_reducible refine x_tupleM ?_); walk_at "ad"; (first | refine ⟨_, 0, _, rfl, rfl, ?_⟩ | refine ⟨_, 1, _, rfl, rfl, ?_⟩ | refine ⟨_, 2, _, rfl, rfl, ?_⟩ | refine ⟨_, 3, _, rfl, rfl, ?_⟩))
  | ((with_reducible refine r_neT0 (n := 0) ?_ ?_ ?_); exact (by decide); exact (deep_dI _ _))
  | ((with_reducible refine x_rev2 ?_); walk_at "ad"; refine ⟨_, _, rfl, ?_⟩)
  | with_reducible refine x_join ?_
  | with_reducible refine i_enumT ?_
  | with_reducible refine i_rng1 ?_
  | with_reducible refine i_rng2 ?_
  | with_reducible refine i_tup ?_
  | with_reducible refine i_lst ?_
  | with_reducible refine i_str ?_
  | refine ⟨_, rfl, ?_⟩
  | ((with_reducible refine brT ?_ ?_); (first | assumption | exact rfl | decide +kernel))
  | ((with_reducible refine brF ?_ ?_); (first | assumption | exact rfl | decide +kernel)))
local macro_rules | `(tactic| walk_at "len") => `(tactic| first | assumption | omega | ((simp only [List.length_append, List.length_cons, List.length_nil, List.length_map, List.length_set]) <;> omega) | (simp; done) | (simp; omega))
local macro_rules | `(tactic| walk_at "ad") => `(tactic| repeat (walk_at "d1"))
local macro_rules | `(tactic| walk_at "sub") => `(tactic| first | exact List.nil_sublist _ | exact List.Sublist.refl _ | (refine List.Sublist.cons₂ _ ?_; walk_at "sub") | (refine List.Sublist.cons _ ?_; walk_at "sub"))
/-! states, _law_is_great. -/
namespace MW
open PySem PySem.Spec PyProof.Rows L2
open C8 (pe_c pe_gc Cal)
def G_states (K : PySem.W.Frag) : SpcX := fun ds R Ex => ∃ (p : Spl) (n : Nat), OkP p ∧ 1 ≤ n ∧ n ≤ 20000 ∧ ds = [splD K p, .int n] ∧ (R = fun _ => NotMany p n) ∧ Ex = ¬ NotMany p n
theorem Cover.few {p : Spl} {W : List Wd} {n : Nat} (h : Cover p W) (hn : W.length ≤ n) : NotMany p n := fun L ho nd => by
  have := nodup_len (l := L.map (sta p)) (m := W.map (sta p)) nd fun s hs => by
    obtain ⟨u, hu, rfl⟩ := List.mem_map.mp hs
    obtain ⟨t, ht, e, _⟩ := h.all u (ho u hu)
    exact List.mem_map.mpr ⟨t, ht, e⟩
  rw [List.length_map, List.length_map] at this
  omega
/-- f(e, .., k = v, ..), what it lets out wished for at the slots -/
def tCallNS (n m : Nat) (sp : Sp) (gV : List V → List V → List V) (E : L2.St → XK) (t tk : TA) : TE := fun σ H Q => t σ H fun vs H1 => tk σ H1 fun zs H2 => vs.length = n ∧ zs.length = m ∧ sp (gV vs zs) H2 Q (E σ)
section
variable {X : Cx} {CX : CXT} {k n : Nat} {f : Addr} {fd : FuncData} {ps ks : List Str} {sp : Sp} {E : L2.St → XK} {x : Str} {p pos : Pos} {e : Expr} {es : List Expr} {kws : List Keyword} {t tk : TA} {g : List Value → List Value → List Value} {gV : List V → List V → List V}
theorem pe_callNS (F : FnOk X.prog X.w X.K X.mg X.base CX k f fd ps sp) (hr : Room k X.A) (hg : Gl X x) (hm : X.mg x = some (.ref f)) (hk : PySem.W.keepIn X.K (.ref f) = true) (hb : KBn X.K fd ps n ks g gV) (hx : ∀ σ, PassesAt CX X σ (E σ))
    (ha : PA X (e :: es) t) (hkw : PK X kws tk) (hall : (backToKw pos (keywordEach kws X.env)).all (·.1.isSome) = true := by rfl) (hks : (backToKw pos (keywordEach kws X.env)).filterMap (·.1) = ks := by rfl)
    (hdb : (x == ("__debug__" : Str)) = false := by decide) (he : starEach (e :: es) X.env = (false, eval e X.env) :: starEach es X.env := by rfl)
    (hpl : ((backTo pos (starEach (e :: es) X.env)).any (·.1) || (backToKw pos (keywordEach kws X.env)).any (·.1.isNone)) = false := by rfl) :
    PE X (.Call (.Name x p) (e :: es) kws pos) (tCallNS n ks.length sp gV E t tk) := by
  refine ⟨fun pins s σ H Q I h => ?_⟩
  refine wpAny_Call_Name_kw (ld_glob I hg hm ?_ hdb)
  refine PySem.W.callWith_KW (h₀ := X.base) I.ok.mod.kin hk hall (thn (ha.run pos pins s σ H _ I h) fun us s1 ⟨vs, H1, I1, r, q⟩ => ?_) hpl he
  refine thn (hkw.run pos pins s1 σ H1 _ I1 q) fun ws s2 ⟨zs, H2, I2, rz, l1, l2, q2⟩ => ⟨I2.kIn, ?_⟩
  rw [hks]
  have r2 := hb.rel r rz
  refine wpAny_call (codeAny_mono (F.run X.A X.stack s2 H2 ⟨us, ks.zip ws⟩ (g us ws) (gV vs zs) Q (E σ) hr I2.env0 (hb.to s2 us ws I2.kIn (r.length.symm.trans l1) (rz.length.symm.trans l2)) r2 q2) fun r s' hq => ?_)
  cases r with
  | error e => exact hx σ pins H2 s2 e s' I2 hq
  | ok fl =>
    cases fl with
    | ret u => exact I2.after hq
    | next => exact False.elim hq
    | brk => exact False.elim hq
    | cont => exact False.elim hq
end
abbrev N_states : List Str := ["teller", "most", "stand", "text"]
theorem sc_states : FnScope N_states ["teller", "most"] (defScope s_states) := ⟨rfl, rfl, rfl, by decide +kernel, rfl, by decide +kernel, by decide +kernel⟩

theorem Tx.f_states {w : World} {K : PySem.W.Frag} {mg : Str → Option Value} {base : Heap} (T : Tx K mg) (M : TmOk P0 w K mg base) : ∃ fd, FnOk P0 w K mg base (L2.CX P0 w) 11 (He.ga K "states") fd ["teller", "most"] (spX (He.ga K "TooMany") (G_states K)) ∧ ∃ mv, KBn K fd ["teller", "most"] 1 ["most"] (fun us ws => us ++ (mv ++ ws)) (fun vs zs => vs ++ ([] ++ zs)) := by
  obtain ⟨fd, F⟩ := T.d_states
  refine ⟨fd, okFX (k := 10) F sc_states (fun ds R Ex h => by obtain ⟨p, n, hp, h1, h2, rfl, rfl, rfl⟩ := h; rfl) fun cdv A outer s H E hr => ?_, ?_⟩
  · have nd := sc_states.nd
    refine ⟨_, (pss_cons (ps_expr (pe_c T.c_need_most hr (by decide) (by rfl) (pa_cons (pv 1) pa_nil)))
  (pss_one (ps_ret (pe_lc (own := [("stand", 2), ("text", 3)]) (g := (gTup K 2 (gCons (gName 2) (gCons (gName 3) gNil)))) (tt := tYes) (te := (tVar 2)) rfl nd (pi_list (pe_cX (W := fun cls d _ H => E cls d H) (T.c_walks M) (takes_of rfl rfl rfl rfl) hr (by decide) (by rfl) (pa_cons (pv 0) (pa_cons (pv 1) pa_nil)))) (blkOk_by (N := N_states) (sc := defScope s_states) (by decide +kernel)) (fun _ _ _ _ _ => (pg_tup rfl (pgs_cons (pg_name (i := 2) nd rfl (by first | exact Or.inl rfl | exact Or.inr rfl)) (pgs_cons (pg_name (i := 3) nd rfl (by first | exact Or.inl rfl | exact Or.inr rfl)) pgs_nil)))) (fun _ _ _ _ _ => pts_nil) (fun _ _ _ _ _ => (pv 2)))))), ?_⟩
    intro ds R Ex hG kx
    obtain ⟨p, n, hp, h1, h2, rfl, rfl, rfl⟩ := hG
    walk_at "ad"
    refine ⟨_, ⟨n, by omega, by omega, rfl, rfl⟩, ?_⟩
    rintro _ rfl
    walk_at "ad"
    refine x_mapG (js := [2] ++ ([3] ++ [])) (fun (W : List Wd) μ1 => W.length ≤ n ∧ Cover p W ∧ μ1 = []) (itD p) (fun t => staD (sta p t)) (by decide) (fun l μ1 hG => by have := hG.1; omega) ?_ ?_ ?_
    · walk_at "ad"
      refine x_cX ?_
      walk_at "ad"
      refine ⟨_, _, ⟨p, n, hp, h1, h2, rfl, rfl, rfl⟩, ?_, fun z o σ H' S' => kx z o H' fun b u e => S'.fr b u (by simp) e⟩
      rintro _ ⟨W, rfl, cv, hW⟩
      exact ⟨_, rfl, W, rfl, hW, cv, rfl⟩
    · intro W μ1 i t acc a hG ht
      obtain ⟨hW, cv, rfl⟩ := hG
      walk_at "ad"
      exact ⟨rfl, List.Sublist.refl _⟩
    · intro W μ1 a hG
      obtain ⟨hW, cv, rfl⟩ := hG
      exact cv.few hW
  · exact F.kbinds0 1 ["most"] [] (fun vs ms zs => vs ++ (ms ++ zs)) (by intro z; cases z) (fun q hq => by cases hq) (fun a b c => a.append (b.append c)) (fun D doc pm an cdv ct us mv ws h1 h2 h3 => match us, mv, ws, h1, h2, h3 with | [_], [], [_], _, _, _ => rfl)

end MW
end
section
open MW L2
local macro_rules | `(tactic| walk_at "d1") => `(tactic| first
  | ((with_reducible refine x_varE ?_); refine ⟨_, rfl, ?_⟩)
  | with_reducible refine x_int ?_
  | with_reducible refine x_str ?_
  | with_reducible refine x_bl ?_
  | with_reducible refine x_non ?_
  | with_reducible refine x_ref ?_
  | with_reducible refine x_ty ?_
  | with_reducible refine x_op ?_
  | with_reducible refine x_un ?_
  | with_reducible refine a_nil ?_
  | with_reducible refine a_cons ?_
  | ((with_reducible refine x_tup ?_); walk_at "ad"; refine ⟨by first | exact (by decide) | (simp; done) | omega, ?_⟩)
  | ((with_reducible refine x_lst ?_); walk_at "ad"; refine ⟨by first | exact (by decide) | (simp; done) | omega, fun _ => ?_⟩)
  | with_reducible refine x_if ?_
  | with_reducible refine x_andV ?_
  | with_reducible refine x_orV ?_
  | with_reducible refine x_notV ?_
  | with_reducible refine t_test ?_
  | with_reducible refine t_B ?_
  | with_reducible refine t_yes ?_
  | with_reducible refine r_inS ?_
  | with_reducible refine r_notInS ?_
  | with_reducible refine t_and ?_
  | with_reducible refine t_or ?_
  | with_reducible refine t_not ?_
  | ((with_reducible refine x_fz ?_); walk_at "ad"; (first | refine ⟨_, _, 0, rfl, rfl, ?_⟩ | refine ⟨_, _, 1, rfl, rfl, ?_⟩ | refine ⟨_, _, 2, rfl, rfl, ?_⟩ | refine ⟨_, _, 3, rfl, rfl, ?_⟩))
  | with_reducible refine xs_seq ?_
  | with_reducible refine xs_next ?_
  | with_reducible refine xs_ret ?_
  | with_reducible refine xs_retN ?_
  | with_reducible refine xs_drop ?_
  | with_reducible apply xs_asg
  | with_reducible refine xs_if ?_
  | with_reducible refine g_name ?_
  | with_reducible refine gs_nil ?_
  | with_reducible apply gs_cons
  | ((with_reducible apply g_tup); exact rfl)
  | with_reducible refine x_chain ?_
  | with_reducible refine x_CB ?_
  | with_reducible refine x_call0 ?_
  | with_reducible refine x_sl ?_
  | with_reducible refine o_none ?_
  | with_reducible refine o_some ?_
  | ((with_reducible refine x_prop ?_); walk_at "ad"; refine ⟨_, _, _, rfl, rfl, ?_⟩)
  | with_reducible refine r_I0 ?_
  | with_reducible refine r_I0b ?_
  | with_reducible refine r_eqI ?_
  | with_reducible refine r_neI ?_
  | with_reducible refine r_eqS ?_
  | with_reducible refine r_neS ?_
  | with_reducible refine r_isN ?_
  | with_reducible refine r_notN ?_
  | with_reducible refine u_neg ?_
  | ((with_reducible refine r_ixTE ?_); first | refine ⟨_, ‹_›, ?_⟩ | refine ⟨_, rfl, ?_⟩)
  | ((with_reducible refine r_ixLE ?_); first | refine ⟨_, ‹_›, ?_⟩ | refine ⟨_, rfl, ?_⟩)
  | ((with_reducible refine k_isIE ?_); refine ⟨_, rfl, ?_⟩)
  | ((with_reducible refine k_isSE ?_); refine ⟨_, rfl, ?_⟩)
  | ((with_reducible refine k_isTE ?_); refine ⟨_, rfl, ?_⟩)
  | ((with_reducible refine x_BM ?_); walk_at "ad"; first | refine ⟨ty_lst (j := 0) rfl, ?_⟩ | refine ⟨ty_lst (j := 1) rfl, ?_⟩ | refine ⟨ty_lst (j := 2) rfl, ?_⟩ | refine ⟨ty_lst (j := 3) rfl, ?_⟩)
  | ((with_reducible refine m_appE ?_); (first | refine ⟨0, _, rfl, ?_, ?_⟩ | refine ⟨1, _, rfl, ?_, ?_⟩ | refine ⟨2, _, rfl, ?_, ?_⟩ | refine ⟨3, _, rfl, ?_, ?_⟩); (walk_at "len"))
  | ((with_reducible refine k_lenS ?_ ?_); (walk_at "len"))
  | ((with_reducible refine s_txt ?_ ?_); (walk_at "len"))
  | ((with_reducible refine r_ixSE ?_ ?_); (walk_at "len"); (first | refine ⟨_, ‹_›, ?_⟩ | refine ⟨_, rfl, ?_⟩))
  | with_reducible refine k_lenT ?_
  | with_reducible refine k_lenL ?_
  | ((with_reducible refine k_lenME ?_); (first | refine ⟨0, _, rfl, ?_⟩ | refine ⟨1, _, rfl, ?_⟩ | refine ⟨2, _, rfl, ?_⟩ | refine ⟨3, _, rfl, ?_⟩))
  | ((with_reducible refine r_ixME ?_); (first | refine ⟨0, _, _, rfl, ‹_›, ?_⟩ | refine ⟨1, _, _, rfl, ‹_›, ?_⟩ | refine ⟨2, _, _, rfl, ‹_›, ?_⟩ | refine ⟨0, _, _, rfl, rfl, ?_⟩ | refine ⟨1, _, _, rfl, rfl, ?_⟩ | refine ⟨2, _, _, rfl, rfl, ?_⟩ | refine ⟨3, _, _, rfl, rfl, ?_⟩))
  | ((with_reducible refine x_tupleM ?_); walk_at "ad"; (first | refine ⟨_, 0, _, rfl, rfl, ?_⟩ | refine ⟨_, 1, _, rfl, rfl, ?_⟩ | refine ⟨_, 2, _, rfl, rfl, ?_⟩ | refine ⟨_, 3, _, rfl, rfl, ?_⟩))
  | ((with_reducible refine r_neT0 (n := 0) ?_ ?_ ?_); exact (by decide); exact (deep_dI _ _))
  | ((with_reducible refine x_rev2 ?_); walk_at "ad"; refine ⟨_, _, rfl, ?_⟩)
  | with_reducible refine x_join ?_
  | with_reducible refine i_enumT ?_
  | with_reducible refine i_rng1 ?_
  | with_reducible refine i_rng2 ?_
  | with_reducible refine i_tup ?_
  | with_reducible refine i_lst ?_
  | with_reducible refine i_str ?_
  | refine ⟨_, rfl, ?_⟩
  | ((with_reducible refine brT ?_ ?_); (first | assumption | exact rfl | decide +kernel))
  | ((with_reducible refine brF ?_ ?_); (first | assumption | exact rfl | decide +kernel)))
local macro_rules | `(tactic| walk_at "len") => `(tactic| first | assumption | omega | ((simp only [List.length_append, List.length_cons, List.length_nil, List.length_map, List.length_set]) <;> omega) | (simp; done) | (simp; omega))
local macro_rules | `(tactic| walk_at "ad") => `(tactic| repeat (walk_at "d1"))
local macro_rules | `(tactic| walk_at "sub") => `(tactic| first | exact List.nil_sublist _ | exact List.Sublist.refl _ | (refine List.Sublist.cons₂ _ ?_; walk_at "sub") | (refine List.Sublist.cons _ ?_; walk_at "sub"))
/-! _law_is_great. -/
namespace MW
open PySem PySem.Spec PyProof.Rows L2
open C8 (pe_c pe_gc Cal)
section
variable {c : Cn} {ρ : Env2} {μ : Mu} {A : DA}
theorem xs_try {K : PySem.W.Frag} {C : Addr} {cl : Value} {G : SpcX} {ts : Addr → Value → Option Addr → TS} {Wout : WX} {n m : Nat} {t tk : TA} (hcl : PySem.W.exmOne K (.ref C) cl = some true)
    (h : AX c t ρ μ fun ds μ1 => AX c tk ρ μ1 fun es μ2 => ds.length = n ∧ es.length = m ∧ ∃ R Ex, G (ds ++ es) R Ex ∧ (∀ d, R d → A.nx ρ μ2) ∧ (Ex → ∀ a o, XS c (ts a (.ref C) o) ρ μ2 A)) :
    XS c (fun D σ H => tDrop (tCallNS n m (spX C G) (fun vs zs => vs ++ ([] ++ zs)) (WE (wOnly K cl ts Wout D)) t tk) D σ H) ρ μ A := fun σ H E S k => by
  refine h σ H _ S fun vs H1 ds μ1 p1 r1 S1 h1 => h1 σ H1 _ S1 fun zs H2 es μ2 p2 r2 S2 ⟨l1, l2, R, Ex, g, k1, k2⟩ => ⟨by rw [r1.len]; exact l1, by rw [r2.len]; exact l2, ds ++ es, R, Ex, (Reps.mono p2 _ _ r1).app r2, g, fun d v H' sm r z => k.nx _ _ _ H' ((p1.trans p2).trans (Pst.same sm)) (S2.same sm) (k1 d z), fun z o H' sm => ⟨true, hcl, fun _ a ha => k2 z a o σ H' E (S2.same sm) (k.later ((p1.trans p2).trans (Pst.same sm))), fun q => by cases q⟩⟩
end
def G_law_is_great (K : PySem.W.Frag) : Spc := fun ds R => ∃ p : Spl, OkP p ∧ ds = [splD K p] ∧ R = fun d => ∃ b : Bool, d = .bl b ∧ (b = false → NotMany p 300)
theorem Tx.kp_states {K : PySem.W.Frag} {mg : Str → Option Value} (T : Tx K mg) : PySem.W.keepIn K (.ref (He.ga K "states")) = true := let ⟨_, F⟩ := T.d_states; F.kp
abbrev N_law_is_great : List Str := ["_law_book", "_law_found"]
theorem sc_law_is_great : FnScope N_law_is_great ["_law_book"] (defScope s_law_is_great) := ⟨rfl, rfl, rfl, by decide +kernel, rfl, by decide +kernel, by decide +kernel⟩
theorem Tx.c_law_is_great {w : World} {K : PySem.W.Frag} {mg : Str → Option Value} {base : Heap} (T : Tx K mg) (M : TmOk P0 w K mg base) : Cal P0 w K mg base 12 "_law_is_great" (spF (G_law_is_great K)) [] := by
  obtain ⟨fdS, FS, mvS, HB⟩ := T.f_states M (w := w) (base := base)
  refine mkCal (k := 11) T.d_law_is_great T.g_law_is_great sc_law_is_great (fun _ _ _ _ _ _ us hl => match us, hl with | [_], _ => rfl) (by intro ds R h; obtain ⟨p, hp, rfl, rfl⟩ := h; rfl) fun cdv A outer s H E hr => ?_
  have nd := sc_law_is_great.nd
  refine ⟨_, (pss_cons (ps_set (i := 1) nd rfl (by first | exact Or.inl rfl | exact Or.inr rfl) pe_bl)
  (pss_cons (ps_try_only (tb := fun W => tDrop (tCallNS 1 1 (spX (He.ga K "TooMany") (G_states K)) (fun vs zs => vs ++ ([] ++ zs)) (WE W) (tCons (tVar 0) tNil) (tCons (tC (.int 300)) tNil))) (ts := fun _ _ _ => tAsg (tC (.bl true)) (gName 1)) (Wout := fun _ _ _ _ => False) rfl rfl ⟨rfl, by decide, Or.inl M.gm⟩ takes0
      (fun W pn xe tk _ => pss_one (ps_expr (pe_callNS FS hr (by rfl) T.g_states T.kp_states HB (fun σ => passAt tk σ) (pa_cons (pv 0) pa_nil) (pk_cons pe_int pk_nil))))
      (fun _ _ _ _ _ _ _ => (pss_one (ps_set (i := 1) nd rfl (by first | exact Or.inl rfl | exact Or.inr rfl) pe_bl))))
  (pss_one (ps_ret (pv 1))))), ?_⟩
  rintro ds R ⟨p, hp, rfl, rfl⟩
  have hcl : PySem.W.exmOne K (.ref (He.ga K "TooMany")) (.ref (He.ga K "TooMany")) = some true := of_decide_eq_true (He.ba (He.ba T.x9).2).1
  walk_at "ad"
  refine xs_try hcl ?_
  walk_at "ad"
  refine ⟨rfl, rfl, _, _, ⟨p, 300, hp, by decide, by decide, rfl, rfl, rfl⟩, fun _ z => ?_, fun z a o => ?_⟩
  · walk_at "ad"
    exact fun _ => z
  · walk_at "ad"
    exact fun q => by cases q

end MW
end
section
open MW L2
/-! Own `in` and `-`. -/
namespace MW
open PySem PySem.Spec PyProof.Rows L2
open C8 (pe_c pe_gc Cal)
section
variable {X : Cx} {C : Addr} {k j : Nat} {G : Spc}
def rOwnIn (C : Addr) (G : Spc) : R2 := fun x y H Q => ∃ a dx fs, y = .ref a ∧ H a = some (.ins C dx fs) ∧ spF G [.ref a, x] H (fun v H' => ∃ b, v = .bl b ∧ Q (.bl b) H') C8.E0
theorem op_ownIn (M : C8.Met X.prog X.w X.K X.mg X.base k C "__contains__" (spF G) []) (hr : Room j X.A) (hk : k ≤ j) : OpR X (compareOp .In) (rOwnIn C G) := by
  intro pins s σ H x y v u Q I rx ry h
  obtain ⟨a, dx, fs, rfl, ha, hsp⟩ := h
  obtain rfl : u = Value.ref a := ry
  obtain ⟨f, fd, ps, ds, hc, hm, F, b, d⟩ := M.ex
  cases d
  obtain ⟨m, fr⟩ := I.fr
  obtain ⟨mA, O, _⟩ := ins_get I.hok ha
  obtain ⟨od, J, _⟩ := O.look
  refine PySem.W.in_K fr I.ok.mod.kin J hm.at_ hm.fn (thn (run_fn F (hr.mono hk) b .nil C8.pass0 I (vs := [.ref a, x]) (.cons (show RelV (.ref a) (.ref a) from rfl) (.cons rx .nil)) (by rw [List.append_nil]; exact hsp)) fun r s1 hh => ?_)
  obtain ⟨v', H1, I1, rv, b', ev, q⟩ := hh
  subst ev
  obtain rfl : r = Value.bool b' := rv
  exact wpAny_pure ⟨.bl b', H1, I1, rfl, q⟩
/-- o - text -/
def rOwnSub (C : Addr) (G : Spc) : R2 := fun x y H Q => ∃ a dx fs t, x = .ref a ∧ y = .str t ∧ H a = some (.ins C dx fs) ∧ spF G [.ref a, .str t] H (fun v H' => (∃ b, v = .ref b) ∧ Q v H') C8.E0
structure SubO (K : PySem.W.Frag) (C f : Addr) : Prop where
  first : PySem.W.selfFirst K C = true
  sub : PySem.W.findIn K (.ref C) "__sub__" = some (some (.ref f))
  fn : PySem.W.isFn K (.ref f) = true
  rsub : PySem.W.findIn K (.ref C) "__rsub__" = some none
  s1 : PySem.W.findIn K (.type "str") "__sub__" = some none
  s2 : PySem.W.findIn K (.type "str") "__rsub__" = some none
  s3 : PySem.W.subIn K (.type "str") (.ref C) = some false
theorem op_ownSub (M : C8.Met X.prog X.w X.K X.mg X.base k C "__sub__" (spF G) []) (O : ∀ f, Meth X.K C "__sub__" f → SubO X.K C f) (hr : Room j X.A) (hk : k ≤ j) : OpR X (binaryOp .Sub) (rOwnSub C G) := by
  intro pins s σ H x y v u Q I rx ry h
  obtain ⟨a, dx, fs, t, rfl, rfl, ha, hsp⟩ := h
  obtain rfl : v = Value.ref a := rx
  have ry' := ry
  obtain ⟨tk, rfl⟩ := ry
  obtain ⟨f, fd, ps, ds, hc, hm, F, b, d⟩ := M.ex
  cases d
  have o := O f hm
  obtain ⟨m, fr⟩ := I.fr
  obtain ⟨mA, OO, _⟩ := ins_get I.hok ha
  obtain ⟨od, J, _⟩ := OO.look
  refine PySem.W.ksp_binT (T := "str") (op := .Sub) fr I.ok.mod.kin J (by rfl) o.first o.sub o.fn o.rsub (.inl rfl) o.s1 o.s2 o.s3 ?_
  refine thn (run_fn F (hr.mono hk) b .nil C8.pass0 I (vs := [.ref a, .str t]) (.cons (show RelV (.ref a) (.ref a) from rfl) (.cons ry' .nil)) (by rw [List.append_nil]; exact hsp)) fun r s1 hh => ?_
  obtain ⟨v', H1, I1, rv, ⟨z, ev⟩, q⟩ := hh
  subst ev
  obtain rfl : r = Value.ref z := rv
  exact ⟨.ref z, H1, I1, rfl, q⟩
end
theorem Tx.subO {K : PySem.W.Frag} {mg : Str → Option Value} (T : Tx K mg) : SubO K (He.ga K "Speller") (He.ma K (He.ga K "Speller") "__sub__") := by
  have h := T.x10
  unfold subB at h
  obtain ⟨h1, h⟩ := He.ba h
  obtain ⟨h2, h⟩ := He.ba h
  obtain ⟨h3, h⟩ := He.ba h
  obtain ⟨h4, h⟩ := He.ba h
  obtain ⟨h5, h⟩ := He.ba h
  obtain ⟨h6, h7⟩ := He.ba h
  exact ⟨h1, He.eqO_ok h2, h3, He.eqO_ok h4, He.eqO_ok h5, He.eqO_ok h6, of_decide_eq_true h7⟩
section
variable {c : Cn} {μ : Mu} {P : D → Mu → Prop}
theorem r_ownIn {C : Addr} {G : Spc} {x : D} {fs : List Str} {ds : List D} (h : ∃ R, G [.ins C fs ds, x] R ∧ ∀ d, R d → ∃ b, d = .bl b ∧ P (.bl b) μ) : RX c (rOwnIn C G) x (.ins C fs ds) μ P := fun ρ σ H v w Q S r1 r2 q => by
  obtain ⟨R, g, k⟩ := h
  have r2' := r2
  obtain ⟨a, dx, vs, rfl, ha, rs⟩ := r2
  refine ⟨a, dx, _, rfl, ha, [.ins C fs ds, x], R, .cons r2' (.cons r1 .nil), g, fun d u H' sm ru z => ?_⟩
  obtain ⟨b, rfl, kb⟩ := k d z
  exact ⟨b, ru, q _ H' (.bl b) μ (Pst.same sm) rfl (S.same sm) kb⟩
theorem r_ownSub {C : Addr} {G : Spc} {t : Str} {fs : List Str} {ds : List D} (h : ∃ R, G [.ins C fs ds, .str t] R ∧ ∀ d, R d → (∃ C' fs' ds', d = .ins C' fs' ds') ∧ P d μ) : RX c (rOwnSub C G) (.ins C fs ds) (.str t) μ P := fun ρ σ H v w Q S r1 r2 q => by
  obtain ⟨R, g, k⟩ := h
  have r1' := r1
  have ew : w = .str t := r2
  subst ew
  obtain ⟨a, dx, vs, rfl, ha, rs⟩ := r1
  refine ⟨a, dx, _, t, rfl, rfl, ha, [.ins C fs ds, .str t], R, .cons r1' (.cons rfl .nil), g, fun d u H' sm ru z => ?_⟩
  obtain ⟨⟨C', fs', ds', rfl⟩, kb⟩ := k d z
  have ru' := ru
  obtain ⟨a', _, _, e, _⟩ := ru
  exact ⟨⟨a', e⟩, q _ H' _ μ (Pst.same sm) ru' (S.same sm) kb⟩
end

end MW
end
section
open MW L2
/-! Plain law: smaller spellers. -/
namespace MW
open PySem
/-- q is p with fewer words -/
structure Sub (q p : Spl) : Prop where
  sl : q.sl = p.sl
  es : ∀ e ∈ q.es, e ∈ p.es
theorem Sub.inW {q p : Spl} (h : Sub q p) {c : Nat} (i : InW q c) : InW p c := let ⟨e, he, hc⟩ := i; ⟨e, h.es e he, hc⟩
theorem take1 {l : List Nat} {c : Nat} (h : c ∈ l.take 1) : ∃ r, l = c :: r := by
  cases l with
  | nil => cases h
  | cons a r =>
    rw [List.take_succ_cons, List.take_zero, List.mem_singleton] at h
    exact ⟨r, by rw [h]⟩
/-- the first other letter of the smaller one is a letter of the larger one or its first other letter -/
theorem first_other {P Q : Nat → Bool} (hs : ∀ c, Q c = true → P c = true) : ∀ (l : List Nat) {c : Nat}, c ∈ (l.filter fun d => !Q d).take 1 → P c = true ∨ c ∈ (l.filter fun d => !P d).take 1
  | [], c, h => by cases h
  | a :: l, c, h => by
    cases hq : Q a with
    | true =>
      have hp := hs a hq
      rw [List.filter_cons_of_neg (by simp [hq])] at h
      rw [List.filter_cons_of_neg (by simp [hp])]
      exact first_other hs l h
    | false =>
      rw [List.filter_cons_of_pos (by simp [hq])] at h
      have e : c = a := by simpa using h
      subst e
      cases hp : P c with
      | true => exact .inl rfl
      | false =>
        rw [List.filter_cons_of_pos (by simp [hp])]
        exact .inr (by simp)
theorem lets_abc (p : Spl) : ∀ c ∈ lets p, c ∈ abc := fun c h => (List.mem_filter.mp h).1
theorem sgn_sub {q p : Spl} (hq : OkP q) (hp : OkP p) (h : Sub q p) {c : Nat} (hc : c ∈ sgn q) : c ∈ sgn p := by
  rcases (tried_mem (lets_abc q)).mp hc with hc | hc
  · exact (tried_mem (lets_abc p)).mpr (.inl ((lets_mem hp).mpr (h.inW ((lets_mem hq).mp hc))))
  · have := first_other (P := fun c => decide (c ∈ lets p)) (Q := fun c => decide (c ∈ lets q)) (fun c z => decide_eq_true ((lets_mem hp).mpr (h.inW ((lets_mem hq).mp (of_decide_eq_true z))))) abc hc
    rcases this with z | z
    · exact (tried_mem (lets_abc p)).mpr (.inl (of_decide_eq_true z))
    · exact (tried_mem (lets_abc p)).mpr (.inr z)
theorem NotMany.small {q p : Spl} {n : Nat} (hq : OkP q) (hp : OkP p) (h : Sub q p) (k : NotMany p n) : NotMany q n := fun L ho nd => by
  refine k L (fun t ht c hc => sgn_sub hq hp h (ho t ht c hc)) ?_
  refine List.pairwise_map.mpr ((List.pairwise_map.mp nd).imp fun hne e => hne (sta_small h.sl h.es e))
theorem NotMany.mono {p : Spl} {m n : Nat} (k : NotMany p m) (h : m ≤ n) : NotMany p n := fun L ho nd => Nat.le_trans (k L ho nd) h
/-! ### letters that no word has may be exchanged -/
/-- equality with every letter of w is kept at place i -/
def Alike (w t t' : List Nat) (n : Nat) : Prop := ∀ i, i < n → ∀ a ∈ w, (a = t.getD i 0 ↔ a = t'.getD i 0)
theorem sub_alike {s : Slp} {a b b' : Nat} (h : a = b ↔ a = b') : sub s a b = sub s a b' := by
  unfold sub
  by_cases e : a = b
  · rw [if_pos e, if_pos (h.mp e)]
  · rw [if_neg e, if_neg (fun z => e (h.mpr z))]
theorem getD_in {w : List Nat} {j : Nat} (h : j < w.length) : w.getD j 0 ∈ w := by
  rw [List.getD_eq_getElem?_getD, List.getElem?_eq_getElem h]
  exact List.getElem_mem h
theorem swp_alike {s : Slp} {w t t' : List Nat} {N n j : Nat} (h : Alike w t t' N) (hn : n ≤ N) (hj : j ≤ w.length) : swp s w t n j = swp s w t' n j := by
  unfold swp
  cases s.sw with
  | none => rfl
  | some p =>
    simp only
    by_cases c : 2 ≤ n ∧ 2 ≤ j
    · have a1 := h (n - 1) (by omega) _ (getD_in (w := w) (j := j - 2) (by omega))
      have a2 := h (n - 2) (by omega) _ (getD_in (w := w) (j := j - 1) (by omega))
      have e : (2 ≤ n ∧ 2 ≤ j ∧ t.getD (n - 1) 0 = w.getD (j - 2) 0 ∧ t.getD (n - 2) 0 = w.getD (j - 1) 0 ∧ t.getD (n - 1) 0 ≠ t.getD (n - 2) 0) ↔ (2 ≤ n ∧ 2 ≤ j ∧ t'.getD (n - 1) 0 = w.getD (j - 2) 0 ∧ t'.getD (n - 2) 0 = w.getD (j - 1) 0 ∧ t'.getD (n - 1) 0 ≠ t'.getD (n - 2) 0) := by
        constructor
        · rintro ⟨q1, q2, q3, q4, q5⟩
          have b1 := a1.mp q3.symm
          have b2 := a2.mp q4.symm
          exact ⟨q1, q2, b1.symm, b2.symm, fun z => q5 (by rw [q3, q4, b1, b2]; exact z)⟩
        · rintro ⟨q1, q2, q3, q4, q5⟩
          have b1 := a1.mpr q3.symm
          have b2 := a2.mpr q4.symm
          exact ⟨q1, q2, b1.symm, b2.symm, fun z => q5 (by rw [q3, q4, b1, b2]; exact z)⟩
      by_cases q : (2 ≤ n ∧ 2 ≤ j ∧ t.getD (n - 1) 0 = w.getD (j - 2) 0 ∧ t.getD (n - 2) 0 = w.getD (j - 1) 0 ∧ t.getD (n - 1) 0 ≠ t.getD (n - 2) 0)
      · rw [if_pos q, if_pos (e.mp q)]
      · rw [if_neg q, if_neg (fun z => q (e.mpr z))]
    · rw [if_neg (fun z => c ⟨z.1, z.2.1⟩), if_neg (fun z => c ⟨z.1, z.2.1⟩)]
theorem pr_alike {s : Slp} {w t t' : List Nat} {N : Nat} (h : Alike w t t' N) : ∀ n j : Nat, n ≤ N → j ≤ w.length → pr s w t n j = pr s w t' n j
  | 0, 0, _, _ => by rw [pr, pr]
  | 0, j + 1, hn, hj => by rw [pr, pr, pr_alike h 0 j hn (by omega)]
  | n + 1, 0, hn, hj => by rw [pr, pr, pr_alike h n 0 (by omega) hj]
  | n + 1, j + 1, hn, hj => by
    rw [pr, pr, pr_alike h n (j + 1) (by omega) hj, pr_alike h (n + 1) j hn (by omega), pr_alike h n j (by omega) (by omega), swp_alike h hn hj, sub_alike (h n (by omega) _ (getD_in (w := w) (j := j) (by omega)))]
    cases swp s w t' (n + 1) (j + 1) with
    | none => rfl
    | some p =>
      simp only
      rw [pr_alike h (n - 1) (j - 1) (by omega) (by omega)]
  termination_by n j => n + j
  decreasing_by all_goals omega
theorem flat_len5 : ∀ {l : List (List Nat × Int)}, (∀ e ∈ l, e.1.length ≤ 5) → ((l.map (·.1)).flatten).length ≤ 5 * l.length
  | [], _ => Nat.le_refl _
  | e :: l, h => by
    have h1 := h e List.mem_cons_self
    have h2 := flat_len5 fun x hx => h x (List.mem_cons_of_mem _ hx)
    rw [List.map_cons, List.flatten_cons, List.length_append, List.length_cons]
    omega
/-- there is another letter -/
theorem other {q : Spl} (hq : OkP q) : ∃ x r, abc.filter (fun d => !decide (d ∈ lets q)) = x :: r := by
  cases h : abc.filter (fun d => !decide (d ∈ lets q)) with
  | cons x r => exact ⟨x, r, rfl⟩
  | nil =>
    have all : ∀ c ∈ abc, c ∈ (q.es.map (·.1)).flatten := fun c hc => by
      have h1 := List.filter_eq_nil_iff.mp h c hc
      have h2 : c ∈ lets q := by simpa using h1
      obtain ⟨e, he, hce⟩ := (lets_mem hq).mp h2
      exact List.mem_flatten.mpr ⟨e.1, List.mem_map.mpr ⟨e, he, rfl⟩, hce⟩
    have := nodup_len (l := abc) (m := (q.es.map (·.1)).flatten) (by decide) all
    have h5 := flat_len5 (l := q.es) fun e he => (hq.low e he).2.1
    have h4 := hq.len
    have e26 : abc.length = 26 := rfl
    omega
/-- any text has one over the tried letters that costs the same -/
theorem exchange {q : Spl} (hq : OkP q) (t : Wd) : ∃ u : Wd, Over q u ∧ u.length = t.length ∧ ∀ e ∈ q.es, price q.sl e.1 u = price q.sl e.1 t := by
  obtain ⟨x, r, hx⟩ := other hq
  have hxm : x ∈ abc.filter (fun d => !decide (d ∈ lets q)) := by
    rw [hx]
    exact List.mem_cons_self
  have hxn : x ∉ lets q := by simpa using (List.mem_filter.mp hxm).2
  refine ⟨t.map fun c => if c ∈ lets q then c else x, fun c hc => ?_, by rw [List.length_map], fun e he => ?_⟩
  · obtain ⟨d, _, rfl⟩ := List.mem_map.mp hc
    by_cases hd : d ∈ lets q
    · rw [if_pos hd]
      exact (tried_mem (lets_abc q)).mpr (.inl hd)
    · rw [if_neg hd]
      refine (tried_mem (lets_abc q)).mpr (.inr ?_)
      rw [hx]
      simp
  · have al : Alike e.1 (t.map fun c => if c ∈ lets q then c else x) t t.length := fun i hi a ha => by
      have hal : a ∈ lets q := (lets_mem hq).mpr ⟨e, he, ha⟩
      rw [List.getD_eq_getElem?_getD, List.getD_eq_getElem?_getD, List.getElem?_map, List.getElem?_eq_getElem hi]
      show (a = if t[i] ∈ lets q then t[i] else x) ↔ a = t[i]
      by_cases hd : t[i] ∈ lets q
      · rw [if_pos hd]
      · rw [if_neg hd]
        exact ⟨fun z => absurd (z ▸ hal) hxn, fun z => absurd (z ▸ hal) hd⟩
    unfold price
    rw [List.length_map]
    exact pr_alike al t.length e.1.length (Nat.le_refl _) (Nat.le_refl _)
end MW
end
section
open MW L2
/-! Plain law: the law's checks. -/
namespace MW
open PySem
theorem not_least {p : Spl} {u : Wd} {e : List Nat × Int} {k : Nat} (hp : OkP p) (hk : p.es[k]? = some e) : ¬ Least p u e ↔ ∃ f i, p.es[i]? = some f ∧ i ≠ k ∧ Ahead p u i k f e := by
  constructor
  · intro h
    refine Classical.byContradiction fun hn => h ⟨k, hk, fun j f hf => ?_⟩
    by_cases hjk : j = k
    · subst hjk
      rw [hk] at hf
      cases hf
      exact .inr ⟨rfl, Nat.le_refl _⟩
    · have hna : ¬ Ahead p u j k f e := fun z => hn ⟨f, j, hf, hjk, z⟩
      unfold Ahead at hna
      omega
  · rintro ⟨f, i, hf, hik, ha⟩ ⟨k', hk', h⟩
    have a1 : (p.es.map (·.1))[k]? = some e.1 := by rw [List.getElem?_map, hk] <;> rfl
    have a2 : (p.es.map (·.1))[k']? = some e.1 := by rw [List.getElem?_map, hk'] <;> rfl
    have e1 := nd_ix hp.nd a1 a2
    subst e1
    have := h i f hf
    unfold Ahead at ha
    omega
theorem und_iff {p : Spl} {e : List Nat × Int} {k : Nat} {n : Int} (hp : OkP p) (hk : p.es[k]? = some e) : Und p e n ↔ ∀ u i f, Over p u → ¬ Foe p e k n u i f := by
  constructor
  · intro h u i f hu g
    have := h u hu ((not_least hp hk).mpr ⟨f, i, g.1, g.2.1, g.2.2.2⟩)
    have := g.2.2.1
    omega
  · intro h u hu hl
    obtain ⟨f, i, hf, hik, ha⟩ := (not_least hp hk).mp hl
    refine Classical.byContradiction fun hn => h u i f hu ⟨hf, hik, by omega, ha⟩
/-! ### the order of the words in a smaller speller -/
theorem two_sub {α : Type} : ∀ {l : List α} {i k : Nat} {f e : α}, l[i]? = some f → l[k]? = some e → i < k → List.Sublist [f, e] l
  | [], _, _, _, _, h, _, _ => by simp at h
  | a :: l, 0, 0, _, _, _, _, h => absurd h (Nat.lt_irrefl _)
  | a :: l, 0, k + 1, f, e, h1, h2, _ => by
    have e1 : a = f := by simpa using h1
    subst e1
    refine List.Sublist.cons₂ _ (List.singleton_sublist.mpr ?_)
    exact List.mem_of_getElem? (i := k) (by simpa using h2)
  | a :: l, i + 1, 0, _, _, _, _, h => absurd h (Nat.not_lt_zero _)
  | a :: l, i + 1, k + 1, f, e, h1, h2, h => List.Sublist.cons _ (two_sub (i := i) (k := k) (by simpa using h1) (by simpa using h2) (by omega))
theorem lt_two {α : Type} {l : List α} (nd : l.Nodup) {i k : Nat} {f e : α} (h1 : l[i]? = some f) (h2 : l[k]? = some e) (h : List.Sublist [f, e] l) : i < k := by
  induction l generalizing i k with
  | nil => simp at h1
  | cons a l ih =>
    obtain ⟨n1, n2⟩ := List.nodup_cons.mp nd
    cases h with
    | cons _ h =>
      have hf : f ∈ l := h.subset (by simp)
      have he : e ∈ l := h.subset (by simp)
      cases i with
      | zero =>
        have e1 : a = f := by simpa using h1
        exact absurd (e1 ▸ hf) n1
      | succ i =>
        cases k with
        | zero =>
          have e1 : a = e := by simpa using h2
          exact absurd (e1 ▸ he) n1
        | succ k => exact Nat.succ_lt_succ (ih n2 (by simpa using h1) (by simpa using h2) h)
    | cons_cons _ h =>
      have he : e ∈ l := h.subset (by simp)
      cases k with
      | zero =>
        have e1 : f = e := by simpa using h2
        exact absurd (e1 ▸ he) n1
      | succ k =>
        cases i with
        | zero => exact Nat.zero_lt_succ _
        | succ i =>
          have hf : f ∈ l := List.mem_of_getElem? (i := i) (by simpa using h1)
          exact absurd hf n1
theorem es_nd {p : Spl} (h : OkP p) : p.es.Nodup := (List.pairwise_map.mp h.nd).imp fun hne e => hne (by rw [e])
/-- the smaller one keeps the order -/
structure SubL (q p : Spl) : Prop where
  sl : q.sl = p.sl
  es : List.Sublist q.es p.es
theorem SubL.sub {q p : Spl} (h : SubL q p) : Sub q p := ⟨h.sl, fun e he => h.es.subset he⟩
theorem order_sub {q p : Spl} (hp : OkP p) (h : SubL q p) {i k i' k' : Nat} {f e : List Nat × Int} (h1 : p.es[i]? = some f) (h2 : p.es[k]? = some e) (h3 : q.es[i']? = some f) (h4 : q.es[k']? = some e) : i' < k' ↔ i < k := by
  have nd := es_nd hp
  have ndq := nd.sublist h.es
  constructor
  · intro z
    exact lt_two nd h1 h2 ((two_sub h3 h4 z).trans h.es)
  · intro z
    rcases Nat.lt_trichotomy i' k' with y | y | y
    · exact y
    · subst y
      rw [h3] at h4
      cases h4
      have := nd_ix nd h1 h2
      omega
    · have := lt_two nd h2 h1 ((two_sub h4 h3 y).trans h.es)
      omega
theorem ahead_sub {q p : Spl} (hp : OkP p) (h : SubL q p) {i k i' k' : Nat} {f e : List Nat × Int} (h1 : p.es[i]? = some f) (h2 : p.es[k]? = some e) (h3 : q.es[i']? = some f) (h4 : q.es[k']? = some e) (u : Wd) : Ahead q u i' k' f e ↔ Ahead p u i k f e := by
  have o := order_sub hp h h1 h2 h3 h4
  have v : ∀ g, vt q u g = vt p u g := fun g => by
    unfold vt
    rw [h.sl]
  unfold Ahead
  rw [v f, v e, o]
end MW
end
section
open MW L2
/-! TooMany's own __init__: super().__init__(..), self.most = most. -/
namespace MW
open PySem PySem.Spec PyProof.Rows L2
abbrev N_tm : List Str := ["self", "most", "__class__"]
theorem sc_tm : NdefX.NScope N_tm ["self", "most"] ["__class__"] (defScope s_TooMany_init) := NdefX.nscope_by (by decide +kernel)
theorem cellB_ok {K : PySem.W.Frag} {f C : Addr} (h : cellB K f C = true) : ∃ (oc : Value) (od : Option Addr) (fd : FuncData) (osl : Array (Option Value)) (x : Str) (cc cda : Addr), K.lookup f = some ⟨oc, od, .func fd, osl⟩ ∧ fd.closure = [(x, cc)] ∧ fd.code = .ref cda ∧
    (∃ cl cld csl, K.lookup cc = some ⟨cl, cld, .cell (some (.ref C)), csl⟩) ∧ ∃ ccl cdd vs ccs file tf, K.lookup cda = some ⟨ccl, cdd, .fields vs, ccs⟩ ∧ (vs : Array Value)[2]? = some (.str file tf) ∧ ((P0.main.file : Str) == file) = true := by
  unfold cellB at h
  split at h
  · rename_i oc od fd osl lk
    split at h
    · rename_i x cc cda hcl hco
      split at h
      · rename_i cl cld D csl ccl cdd vs ccs hcc hcd
        obtain ⟨h1, h2⟩ := He.ba h
        have e := of_decide_eq_true h1
        subst e
        split at h2
        · rename_i file tf hv
          exact ⟨oc, od, fd, osl, x, cc, cda, lk, hcl, hco, ⟨_, _, _, hcc⟩, _, _, _, _, file, tf, hcd, hv, h2⟩
        · cases h2
      · cases h
    · cases h
  · cases h
/-- the facts of the text -/
structure TmF (K : PySem.W.Frag) (mg : Str → Option Value) (f C cc cda : Addr) : Prop where
  lk : ∃ (oc : Value) (od : Option Addr) (osl : Array (Option Value)) (kV doc pm : Value) (an : Option Addr) (ct : Value), K.lookup f = some ⟨oc, od, .func (PySem.W.fnX "__init__" "TooMany.__init__" (defArgs s_TooMany_init) (defBody s_TooMany_init) (defScope s_TooMany_init) [("__class__", cc)] .none kV doc pm an (.ref cda) ct), osl⟩
  cd : PySem.W.codeIn K (.ref cda) "TooMany.__init__" = true
  cell : ∃ cl cld csl, K.lookup cc = some ⟨cl, cld, .cell (some (.ref C)), csl⟩
  code : ∃ ccl cdd vs ccs file tf, K.lookup cda = some ⟨ccl, cdd, .fields vs, ccs⟩ ∧ (vs : Array Value)[2]? = some (.str file tf) ∧ ((P0.main.file : Str) == file) = true
  cls : ∃ cd, PySem.W.clsIn K C = some cd
  mro : PySem.W.mroIn K C (.ref C) = some true
  sup : mg "super" = none
  al : PySem.W.ks_superIn K C C "__init__" = some (some (.builtin "ValueError.__init__"))
  sub : PySem.W.subIn K (.ref C) (.type "ValueError") = some true
  most : PySem.W.findIn K (.ref C) "most" = some none
  any : PySem.W.nsIn K cStatics "thirdparty.any" = some none
  oex : OexC K C
theorem Tx.tmF {K : PySem.W.Frag} {mg : Str → Option Value} (T : Tx K mg) : ∃ cc cda, TmF K mg (initA K "TooMany") (He.ga K "TooMany") cc cda := by
  have h := T.x12
  unfold tmI at h
  obtain ⟨h1, h⟩ := He.ba h
  obtain ⟨h2, h⟩ := He.ba h
  obtain ⟨h3, h⟩ := He.ba h
  obtain ⟨h4, h⟩ := He.ba h
  obtain ⟨h5, h⟩ := He.ba h
  obtain ⟨h6, h⟩ := He.ba h
  obtain ⟨h7, h⟩ := He.ba h
  obtain ⟨h8, h9⟩ := He.ba h
  obtain ⟨oc, od, fd, osl, x, cc, cda, lk, hcl, hco, hcell, hcode⟩ := cellB_ok h3
  obtain ⟨e, ok⟩ := T.d_TooMany
  obtain ⟨kp, c2⟩ := He.ba ok
  have t9 := T.x9
  unfold tmB at t9
  obtain ⟨t1, t9⟩ := He.ba t9
  obtain ⟨t2, t3⟩ := He.ba t9
  obtain ⟨hp, X, G⟩ := T.ns
  have c3 : (match K.lookup (initA K "TooMany") with
      | some ⟨_, _, .func fd, _⟩ => PySem.W.codeIn K fd.code "TooMany.__init__" && (He.dflB K fd.defaults [] && He.kwdB K fd.kwdefaults [])
      | _ => false) = true := c2
  rw [lk] at c3
  have c4 := (He.ba c3).1
  have c5 := (He.ba (He.ba c3).2).1
  refine ⟨cc, cda, ?_, ?_, hcell, hcode, Option.isSome_iff_exists.mp h4, of_decide_eq_true h5, PySem.W.mg_none_of X G (He.eqO_ok h6), He.eqO_ok h7, of_decide_eq_true h8, He.eqO_ok h9, He.eqO_ok t3, oexB_ok t1⟩
  · unfold fnM at e
    rw [lk] at e
    obtain ⟨n1, n2, n3, n4, n5, n6, n7, n8, n9, n10, n11, n12, n13, n14, n15⟩ := fd
    dsimp only at hcl hco c5
    subst hcl hco
    obtain rfl : n8 = .none := (He.dflB_ok c5).elim (fun z => z.2) fun z => absurd rfl z.1
    have e2 : (some (n1, n2, n3, n4, n5, n6, [(x, 0)], n15) : FnM) = (some ("__init__", "TooMany.__init__", defArgs s_TooMany_init, .stmts (defBody s_TooMany_init), defScope s_TooMany_init, mainGlobals, [("__class__", 0)], builtinsNs) : FnM) := e
    simp only [Option.some.injEq, Prod.mk.injEq, List.cons.injEq, and_true] at e2
    obtain ⟨q1, q2, q3, q4, q5, q6, q7, q8⟩ := e2
    subst q1 q2 q3 q4 q5 q6 q7 q8
    exact ⟨oc, od, osl, n9, n10, n11, n12, n14, lk⟩
  · rw [hco] at c4
    exact c4
end MW
end
section
open MW L2
/-! TooMany's own __init__ walked. -/
namespace MW
open PySem PySem.Spec PyProof.Rows L2
section
variable {X : Cx} {pins : List (Addr × Obj)} {σ : L2.St} {H : Hp} {s : Shared} {a C u : Addr} {us : List Value} {Q : Value → Shared → Prop} {E : Value → Shared → Prop} {A : Around}
/-- the bound ValueError.__init__ called: nothing of it is told -/
theorem mw_call (T : OexC X.K C) (I : Inv X pins σ H s) (e : H a = some (exo a C none)) (hu : s.heap.get? u = some (PySem.W.kxs_mw "ValueError.__init__" a)) (hl : us.length ≤ sizeLine) (h : ∀ s', Inv X pins σ H s' → Q .none s') :
    wpAny (model X.prog X.w) A (call (.ref u) us) Q E s := by
  obtain ⟨nm, q, N, bs, bm, sn, sub, ab, col, dd, k0, k1, k2, k3, k5, hC, hbm⟩ := T.cls
  obtain ⟨t1, ho⟩ := exo_at I.hok e
  obtain ⟨hp, g, d, t, os⟩ := s
  refine wpAny_call (codeAny_of_tree ?_)
  show wpAny _ A.in1 (callAny (.ref u) ⟨us, []⟩) _ _ _
  simp only [callAny]
  refine wpAny_bind (wpAny_load hu ?_)
  simp only [PySem.W.kxs_mw, show (Value.type "method-wrapper" == Value.type "method" || Value.type "method-wrapper" == Value.type "builtin_function_or_method" || Value.type "method-wrapper" == Value.type "method-wrapper") = true by decide, if_true]
  refine PySem.W.KFB.if_so (by decide) ?_
  refine wpAny_bind (PySem.W.check_bound_init F.excBase_ValueError.toExcCallFacts (I.kIn _ _ hC) ho rfl ?_)
  refine wpAny_bind (wpAny_pure (wpAny_pure ?_))
  refine ⟨plainId_quiet F.excBase_ValueError.init.plain _, codeAny_builtin F.excBase_ValueError.initEntry ?_⟩
  refine PySem.W.exc_init_tree (cls := .ref C) (t0 := t1) (dv := none) (c2 := .none) (c3 := .none) (b4 := .bool false) ho hl fun h' k hx _ => ?_
  have J := I.write (t' := t) (x := a) (e := a) (o := exo a C none) (by rw [e]; exact True.intro) (.inl rfl) k ⟨_, hx⟩ (exo_ok hx)
  have eu : upd H a (exo a C none) = H := by
    funext b
    by_cases hb : b = a
    · rw [hb, upd_same, e]
    · rw [upd_ne hb]
  rw [eu] at J
  exact h _ J
end
section
variable {w : World} {K : PySem.W.Frag} {mg : Str → Option Value} {base : Heap} {f C cc cda : Addr}
abbrev tmN (cc cda : Addr) : NdefX.NF := ⟨"__init__", "TooMany.__init__", defArgs s_TooMany_init, defBody s_TooMany_init, defScope s_TooMany_init, [("__class__", cc)], cda⟩
theorem tm_cells {s : Shared} {H : Hp} (F : TmF K mg f C cc cda) (m : Mod K mg base) (bs : ∀ b o, base.get? b = some o → s.heap.get? b = some o ∧ H b = none) : NdefX.CellsAt [("__class__", cc)] ["__class__"] [none] s.heap H := by
  obtain ⟨cl, cld, csl, lc⟩ := F.cell
  obtain ⟨h1, h2⟩ := bs _ _ (m.kin _ _ lc)
  have one : ∀ {y : Str} {c : Addr}, List.lookup y [(("__class__" : Str), cc)] = some c → y = "__class__" ∧ c = cc := fun {y c} e => by
    rw [List.lookup_cons] at e
    cases hb : (y == ("__class__" : Str)) with
    | true =>
      rw [hb] at e
      exact ⟨eq_of_beq hb, (Option.some.inj e).symm⟩
    | false =>
      rw [hb] at e
      cases e
  refine ⟨rfl, fun y c e => ?_, fun x y c e1 e2 => (one e1).1.trans (one e2).1.symm, fun i y e => ?_⟩
  · rw [(one e).2]
    exact ⟨h2, _, _, h1, rfl⟩
  · cases i with
    | zero =>
      cases e
      exact ⟨cc, rfl, fun v z => by cases z⟩
    | succ i => simp at e
theorem tm_bind {kV doc pm cdv ct : Value} {an : Option Addr} : ∀ us : List Value, us.length = [("self" : Str), "most"].length → bindArgs (PySem.W.fnX "__init__" "TooMany.__init__" (defArgs s_TooMany_init) (defBody s_TooMany_init) (defScope s_TooMany_init) [("__class__", cc)] .none kV doc pm an cdv ct) ⟨us, []⟩ = pure ([("self" : Str), "most"].zip us)
  | [a, b], _ => by
    show bindArgs (PySem.W.fnX "__init__" "TooMany.__init__" (defArgs s_TooMany_init) (defBody s_TooMany_init) (defScope s_TooMany_init) [("__class__", cc)] .none kV doc pm an cdv ct) ⟨[a, b], []⟩ = (pure [("self", a), ("most", b)] : Sem (List (Str × Value)))
    rfl
theorem tm_fn (F : TmF K mg f C cc cda) : ∃ fd, FnOk P0 w K mg base C8.CX0 1 f fd ["self", "most"] (spTM C) ∧ Binds K fd ["self", "most"] [] := by
  obtain ⟨oc, od, osl, kV, doc, pm, an, ct, lk⟩ := F.lk
  refine ⟨PySem.W.fnX "__init__" "TooMany.__init__" (defArgs s_TooMany_init) (defBody s_TooMany_init) (defScope s_TooMany_init) [("__class__", cc)] .none kV doc pm an (.ref cda) ct, ⟨fun vs H Q E h => by obtain ⟨a, y, rfl, _⟩ := h; rfl, fun A outer s H args us vs Q E hr e0 hb r hsp => ?_⟩, Binds.all fun us hl => tm_bind us hl⟩
  obtain ⟨a, y, rfl, ha, q⟩ := hsp
  have KX : K.In s.heap := e0.mod.kin.keeps fun b o e => (e0.bs b o e).1
  have lim : s.heap.NoLimit := e0.mod.nolimit.keeps fun b o e => (e0.bs b o e).1
  have Ce := tm_cells F e0.mod e0.bs
  obtain ⟨u1, rfl⟩ : ∃ u1, us = [.ref a, u1] := by
    cases r with
    | @cons _ u0 _ ur ra rt =>
      obtain rfl : u0 = Value.ref a := ra
      cases rt with
      | @cons _ u1 _ ur2 rb rt2 =>
        cases rt2
        exact ⟨u1, rfl⟩
  refine PySem.ks_codeAny_call_defAt (body := defBody s_TooMany_init) hr.depth (KX _ _ lk) rfl lim (PySem.W.codeRec_of KX F.cd) rfl hb sc_tm.nocell (fun x hx => ?_) (fun h1 hns kp => ?_)
  · obtain ⟨n, v⟩ := x
    exact sc_tm.par n (List.of_mem_zip hx).1
  obtain ⟨hp, g, d, t, os⟩ := s
  have I0 : Inv (NdefX.ncx C8.CX0 P0 w K mg base N_tm (tmN cc cda) f A outer ⟨hp, g, d, t, os⟩ H E) [] (NdefX.startF N_tm [.ref a, y] [none]) H ⟨h1, g, d, t + (["self", "most"].zip [Value.ref a, u1]).length, os⟩ := NdefX.inv_startN sc_tm hr.hd e0 rfl r Ce hns kp
  obtain ⟨t1, ho⟩ := exo_at I0.hok ha
  obtain ⟨cd, hcd⟩ := F.cls
  obtain ⟨oD, hD1, hD2⟩ : ∃ oD, h1.get? C = some oD ∧ oD.data = .cls cd := by
    have z := hcd
    unfold PySem.W.clsIn at z
    split at z
    · rename_i c d' cd' sl hoo
      cases z
      exact ⟨_, I0.kIn _ _ hoo, rfl⟩
    · cases z
  obtain ⟨ccl, cdd, vs, ccs, file, tf, lcode, hvs, hfile⟩ := F.code
  obtain ⟨cl, cld, csl, lcell⟩ := F.cell
  have hal := F.al
  unfold PySem.W.ks_superIn at hal
  rw [hcd] at hal
  refine PySem.ks_wpAt_execs_cons (PySem.ks_wpAt_Expr_any (PySem.ks_wpAt_MethodCall ?_))
  refine PySem.ks_wpAt_super_base (by rfl) (by rfl) (by decide) rfl (I0.kIn _ _ lk) rfl (by rfl) rfl (I0.kIn _ _ lcode) rfl hvs hfile (by decide +kernel) ?_
  refine PySem.W.ks_loadName_global rfl (by rfl) ?_
  obtain ⟨mb, hb1, hb2⟩ := I0.mod.blt
  refine Calls.loadGlobal_builtin (I0.mod.glob.keeps I0.bk) F.sup (hb1.keeps I0.bk) ((hb2 "super" (by decide)).trans (by decide +kernel : bootBuiltins "super" = some (.type "super"))) ⟨rfl, ?_⟩
  refine wpAny_loadName_free rfl (by rfl) (by rfl) ⟨_, I0.kIn _ _ lcell, rfl⟩ ?_
  refine wpAny_loadName_local rfl (by rfl) hns (v := .ref a) (by rfl) ?_
  refine PySem.ks_wpAny_isType_cls hD1 hD2 ⟨rfl, ?_⟩
  refine PySem.ks_wpAny_call_super hD1 hD2 ho rfl (fun c e => by cases e) (PySem.W.looks_mroIn I0.kIn F.mro) (fun h2 e2 k2 => ?_)
  have I1 := I0.kept (t' := t + (["self", "most"].zip [Value.ref a, u1]).length) k2
  have hI : PySem.W.InstAt h2 a _ C none := ⟨k2 _ _ ho, rfl, rfl, trivial⟩
  refine PySem.W.kxs_getMethod PySem.W.kxs_ValueError e2 (PySem.W.looks_opaque I1.kIn F.any) (l₀ := cd.mro) (fun A Q E s k q => wpAny_bind ((PySem.W.looks_clsIn I1.kIn hcd) A _ E s k (wpAny_pure q))) rfl I1.kIn hal (hI.type.andThen (PySem.W.looks_subIn I1.kIn F.sub)) (PySem.W.ks_ne I1.kIn hI hcd) (by decide) ?_
  have k3 : ∀ b o, h2.get? b = some o → (h2.push (PySem.W.kxs_mw "ValueError.__init__" a)).get? b = some o := fun b o e => Heap.get?_push_of_some _ e
  have I2 := (I1.kept (t' := t + (["self", "most"].zip [Value.ref a, u1]).length + 1) k3).pins_of (pins' := [(h2.objs.size, PySem.W.kxs_mw "ValueError.__init__" a)]) fun p hp => by
    rw [List.mem_singleton] at hp
    subst hp
    exact ⟨Heap.get?_push_size _ rfl, I1.hok.fresh (Nat.le_refl _), Nat.ne_of_gt I1.lt, I1.nofs (Nat.le_refl _), fun v z => by cases z⟩
  refine PySem.W.kxs_callWith (i := "ValueError.__init__") (x := a) (by rfl) (PySem.Calls.evalArgs_plain ?_)
  refine thn ((pa_cons pe_str pa_nil).run _ _ _ _ H (fun vs H1 => vs.length = 1 ∧ H1 = H) I2 ⟨rfl, rfl⟩) fun us' s1 ⟨vs', H1, I3, r3, hl, eH⟩ => ?_
  subst eH
  have hu : s1.heap.get? h2.objs.size = some (PySem.W.kxs_mw "ValueError.__init__" a) := (I3.pin (h2.objs.size, PySem.W.kxs_mw "ValueError.__init__" a) (List.mem_append_right _ (List.mem_singleton.mpr rfl))).1
  refine ⟨hu, ?_⟩
  refine mw_call F.oex I3 ha hu (by rw [List.nil_append, ← r3.length, hl]; decide) fun s2 I4 => ?_
  refine wpAt_of_wpAny ?_
  have hps : PSs (NdefX.ncx C8.CX0 P0 w K mg base N_tm (tmN cc cda) f A outer ⟨hp, g, d, t, os⟩ H1 E) ((defBody s_TooMany_init).drop 1) (tOst K "most" (tVar 0) (tVar 1)) := pss_one (ps_ost (pv 0) (pv 1))
  refine wpAny_mono (hps.run _ s2 _ H1 { nx := fun _ H' => Q .non H', rt := Q } I4 ?_) (fun fl s' hs => ?_) (fun e s' hs => hs)
  · exact ⟨y, rfl, .ref a, rfl, a, C, rfl, F.oex, F.most, .inl ⟨ha, fun dx n1 n2 => q dx n1 n2⟩⟩
  · cases fl with
    | ret u =>
      obtain ⟨v, σ', H', J, rv, q⟩ := hs
      exact ⟨v, H', J.os, J.bare, J.base, J.hok, rv, q⟩
    | next =>
      obtain ⟨σ', H', J, q⟩ := hs
      exact ⟨V.non, H', J.os, J.bare, J.base, J.hok, rfl, q⟩
    | brk =>
      obtain ⟨_, _, _, q⟩ := hs
      exact False.elim q
    | cont =>
      obtain ⟨_, _, _, q⟩ := hs
      exact False.elim q
end
theorem Tx.tm {w : World} {K : PySem.W.Frag} {mg : Str → Option Value} {base : Heap} (T : Tx K mg) : TmOk P0 w K mg base := by
  obtain ⟨cc, cda, F⟩ := T.tmF
  obtain ⟨fd, h1, h2⟩ := tm_fn (w := w) (base := base) F
  have h := T.x12
  unfold tmI at h
  obtain ⟨q1, h⟩ := He.ba h
  obtain ⟨q2, h⟩ := He.ba h
  exact ⟨⟨_, fd, h1, h2, He.eqO_ok q1, of_decide_eq_true q2⟩, F.oex, T.g_TooMany⟩
end MW
end
section
open MW L2
/-! Plain law: the law's four checks, told of the foes that rivals finds. -/
namespace MW
open PySem
abbrev Ent := List Nat × Int
/-- the foes found: words with pages -/
structure FoeL (p : Spl) (e : Ent) (k : Nat) (n : Int) (F : List (Wd × Wd)) : Prop where
  nd : (F.map (·.1)).Nodup
  good : ∀ q ∈ F, ∃ f i, Foe p e k n q.2 i f ∧ f.1 = q.1 ∧ Over p q.2 ∧ q.2.length ≤ 2000
  all : ∀ u i f, Over p u → Foe p e k n u i f → f.1 ∈ F.map (·.1)
abbrev foeA (F : List (Wd × Wd)) : AL := F.map fun q => (tx q.1, .str (tx q.2))
theorem riv_foes {p : Spl} {e : Ent} {k : Nat} {n : Int} {d : D} (h : Riv8 p e k n d) : ∃ F, d = dicD (foeA F) ∧ FoeL p e k n F := by
  obtain ⟨F, h1, h2, h3, h4⟩ := h
  exact ⟨F, h1, h2, h3, h4⟩
theorem FoeL.chk1 {p : Spl} {e : Ent} {k : Nat} {n : Int} {F : List (Wd × Wd)} (h : FoeL p e k n F) (hp : OkP p) (hk : p.es[k]? = some e) : Und p e n ↔ F = [] := by
  rw [und_iff hp hk]
  constructor
  · intro z
    cases F with
    | nil => rfl
    | cons q F =>
      obtain ⟨f, i, g, _, ho, _⟩ := h.good q List.mem_cons_self
      exact absurd g (z _ _ _ ho)
  · rintro rfl u i f hu g
    have := h.all u i f hu g
    cases this
/-- without some words -/
def lessP (p : Spl) (ws : List Wd) : Spl := ⟨p.es.filter (fun f => decide (f.1 ∉ ws)), p.sl⟩
/-- those left, and w -/
def keptP (p : Spl) (w : Wd) (ws : List Wd) : Spl := ⟨p.es.filter (fun x => decide (x.1 = w) || decide (x.1 ∈ (lessP p ws).es.map (·.1))), p.sl⟩
theorem lessP_sub (p : Spl) (ws : List Wd) : SubL (lessP p ws) p := ⟨rfl, List.filter_sublist⟩
theorem keptP_sub (p : Spl) (w : Wd) (ws : List Wd) : SubL (keptP p w ws) p := ⟨rfl, List.filter_sublist⟩
theorem OkP.sub {q p : Spl} (hp : OkP p) (h : SubL q p) : OkP q := by
  obtain ⟨es, sl⟩ := q
  obtain ⟨h1, h2⟩ := h
  dsimp only at h1 h2
  subst h1
  exact OkP.of ⟨Nat.le_trans h2.length_le hp.len, fun e he => hp.low e (h2.subset he), fun e he => hp.own e (h2.subset he), hp.nd.sublist (h2.map _)⟩ hp.l
theorem lessP_nil (p : Spl) : lessP p [] = p := by
  unfold lessP
  obtain ⟨es, sl⟩ := p
  simp
theorem erase_filter : ∀ {l : List Ent} {k : Nat} {f : Ent}, (l.map (·.1)).Nodup → l[k]? = some f → l.eraseIdx k = l.filter fun g => decide (g.1 ≠ f.1)
  | [], k, f, _, h => by simp at h
  | a :: l, 0, f, nd, h => by
    have e : a = f := by simpa using h
    subst e
    rw [List.map_cons, List.nodup_cons] at nd
    rw [List.filter_cons_of_neg (by simp)]
    symm
    refine List.filter_eq_self.mpr fun g hg => decide_eq_true fun z => nd.1 ?_
    rw [← z]
    exact List.mem_map.mpr ⟨g, hg, rfl⟩
  | a :: l, k + 1, f, nd, h => by
    rw [List.map_cons, List.nodup_cons] at nd
    have h2 : l[k]? = some f := by simpa using h
    have ne : a.1 ≠ f.1 := fun z => nd.1 (by
      rw [z]
      exact List.mem_map.mpr ⟨f, List.mem_of_getElem? h2, rfl⟩)
    rw [List.filter_cons_of_pos (by simpa using ne), List.eraseIdx_cons_succ, erase_filter nd.2 h2]
theorem less_drop {p : Spl} (hp : OkP p) {ws : List Wd} {k : Nat} {f : Ent} (h : (lessP p ws).es[k]? = some f) : drop1 (lessP p ws) k = lessP p (ws ++ [f.1]) := by
  have nd : ((lessP p ws).es.map (·.1)).Nodup := hp.nd.sublist ((lessP_sub p ws).es.map _)
  unfold drop1
  rw [erase_filter nd h]
  unfold lessP
  simp only [Spl.mk.injEq, and_true]
  rw [List.filter_filter]
  refine List.filter_congr fun g _ => ?_
  simp only [List.mem_append, List.mem_singleton, not_or, Bool.decide_and, ne_eq]
  rw [Bool.and_comm]
section
variable {p : Spl} {e : Ent} {k : Nat} {n : Int} {F : List (Wd × Wd)}
theorem FoeL.in_less (h : FoeL p e k n F) (hp : OkP p) (hk : p.es[k]? = some e) : e ∈ (lessP p (F.map (·.1))).es := by
  refine List.mem_filter.mpr ⟨List.mem_of_getElem? hk, decide_eq_true fun z => ?_⟩
  obtain ⟨q, hq, hqe⟩ := List.mem_map.mp z
  obtain ⟨f, i, g, hf, _⟩ := h.good q hq
  have a1 : (p.es.map (·.1))[k]? = some e.1 := by rw [List.getElem?_map, hk] <;> rfl
  have a2 : (p.es.map (·.1))[i]? = some e.1 := by
    rw [List.getElem?_map, g.1]
    show some f.1 = some e.1
    rw [hf, hqe]
  exact g.2.1 (nd_ix hp.nd a2 a1)
/-- a foe in the smaller speller is one in the larger -/
theorem foe_up {q : Spl} (hp : OkP p) (hs : SubL q p) (hk : p.es[k]? = some e) {k' i' : Nat} {f : Ent} {u : Wd} (hk' : q.es[k']? = some e) (g : Foe q e k' n u i' f) : ∃ i, Foe p e k n u i f := by
  obtain ⟨i, hi⟩ := List.getElem?_of_mem (hs.es.subset (List.mem_of_getElem? g.1))
  refine ⟨i, hi, fun z => ?_, ?_, (ahead_sub hp hs hi hk g.1 hk' u).mp g.2.2.2⟩
  · subst z
    rw [hk] at hi
    have ef : e = f := Option.some.inj hi
    subst ef
    exact g.2.1 (nd_ix ((es_nd hp).sublist hs.es) g.1 hk')
  · rw [← hs.sl]
    exact g.2.2.1
theorem FoeL.chk3 (h : FoeL p e k n F) (hp : OkP p) (hk : p.es[k]? = some e) : ∃ k' : Nat, (lessP p (F.map (·.1))).es[k']? = some e ∧ Und (lessP p (F.map (·.1))) e n := by
  have hs := lessP_sub p (F.map (·.1))
  have hq := hp.sub hs
  obtain ⟨k', hk'⟩ := List.getElem?_of_mem (h.in_less hp hk)
  refine ⟨k', hk', (und_iff hq hk').mpr fun u i f hu g => ?_⟩
  obtain ⟨i0, g0⟩ := foe_up hp hs hk hk' g
  have := h.all u i0 f (fun c hc => sgn_sub hq hp hs.sub (hu c hc)) g0
  have h2 := of_decide_eq_true (List.mem_filter.mp (List.mem_of_getElem? g.1)).2
  exact h2 this
theorem FoeL.chk4 (h : FoeL p e k n F) (hp : OkP p) (hk : p.es[k]? = some e) {q : Wd × Wd} (hq : q ∈ F) : ∃ k' : Nat, (keptP p q.1 (F.map (·.1))).es[k']? = some e ∧ ¬ Und (keptP p q.1 (F.map (·.1))) e n := by
  have hs := keptP_sub p q.1 (F.map (·.1))
  have hr := hp.sub hs
  obtain ⟨f, i, g, hf, ho, _⟩ := h.good q hq
  have hem : e ∈ (keptP p q.1 (F.map (·.1))).es := List.mem_filter.mpr ⟨List.mem_of_getElem? hk, by
    rw [Bool.or_eq_true]
    exact .inr (decide_eq_true (List.mem_map.mpr ⟨e, h.in_less hp hk, rfl⟩))⟩
  have hfm : f ∈ (keptP p q.1 (F.map (·.1))).es := List.mem_filter.mpr ⟨List.mem_of_getElem? g.1, by
    rw [Bool.or_eq_true]
    exact .inl (decide_eq_true hf)⟩
  obtain ⟨k', hk'⟩ := List.getElem?_of_mem hem
  obtain ⟨i', hi'⟩ := List.getElem?_of_mem hfm
  refine ⟨k', hk', fun z => ?_⟩
  obtain ⟨t, t1, t2, t3⟩ := exchange hr q.2
  refine (und_iff hr hk').mp z t i' f t1 ⟨hi', fun y => ?_, ?_, ?_⟩
  · subst y
    rw [hk'] at hi'
    have ef : e = f := Option.some.inj hi'
    subst ef
    exact g.2.1 (nd_ix (es_nd hp) g.1 hk)
  · rw [t3 e hem]
    exact g.2.2.1
  · have a := (ahead_sub hp hs g.1 hk hi' hk' q.2).mpr g.2.2.2
    have v : ∀ x ∈ (keptP p q.1 (F.map (·.1))).es, vt (keptP p q.1 (F.map (·.1))) t x = vt (keptP p q.1 (F.map (·.1))) q.2 x := fun x hx => by
      have e1 := price_wv (keptP p q.1 (F.map (·.1))).sl x.1 t
      have e2 := price_wv (keptP p q.1 (F.map (·.1))).sl x.1 q.2
      rw [t2] at e1
      have e3 := t3 x hx
      unfold vt
      omega
    unfold Ahead at a ⊢
    rw [v e hem, v f hfm]
    exact a
end
/-! ### the ranking -/
theorem trips_words (es : List Ent) (val : Ent → Int) : (trips es val es.length).map (fun x => x.2.2) = es.map (·.1) := by
  unfold trips
  rw [List.map_map]
  refine List.ext_getElem? fun i => ?_
  rw [List.getElem?_map, List.getElem?_map]
  by_cases hi : i < es.length
  · rw [List.getElem?_range hi, List.getElem?_eq_getElem hi]
    simp [List.getD_eq_getElem?_getD, List.getElem?_eq_getElem hi]
  · rw [List.getElem?_eq_none (by rw [List.length_range]; omega), List.getElem?_eq_none (by omega)]
    rfl
theorem ahead_tot {p : Spl} {t : Wd} {i k : Nat} {f e : Ent} (h : Ahead p t i k f e) : totV p t f < totV p t e ∨ (totV p t f = totV p t e ∧ i < k) := by
  have e1 := price_wv p.sl f.1 t
  have e2 := price_wv p.sl e.1 t
  unfold Ahead vt at h
  show price p.sl f.1 t + f.2 < price p.sl e.1 t + e.2 ∨ (price p.sl f.1 t + f.2 = price p.sl e.1 t + e.2 ∧ i < k)
  omega
theorem rank_order {p : Spl} (hp : OkP p) {t : Wd} {l : List Trp} (hl : l.Perm (trips p.es (totV p t) p.es.length)) (hs : l.Pairwise fun x y => ¬ Tlt y x) :
    (l.map (fun x => x.2.2)).Nodup ∧ (∀ e ∈ p.es, e.1 ∈ l.map (fun x => x.2.2)) ∧ ∀ {i k : Nat} {f e : Ent}, p.es[i]? = some f → p.es[k]? = some e → Ahead p t i k f e → ∀ {a b : Nat}, (l.map (fun x => x.2.2))[a]? = some f.1 → (l.map (fun x => x.2.2))[b]? = some e.1 → a ≤ b := by
  have pm := hl.map (fun x : Trp => x.2.2)
  rw [trips_words] at pm
  have nd := pm.nodup_iff.mpr hp.nd
  refine ⟨nd, fun e he => pm.mem_iff.mpr (List.mem_map.mpr ⟨e, he, rfl⟩), fun {i k f e} hi hk ah {a b} ha hb => ?_⟩
  have find : ∀ {a j : Nat} {g : Ent}, p.es[j]? = some g → (l.map (fun x => x.2.2))[a]? = some g.1 → l[a]? = some (totV p t g, (j : Int), g.1) := fun {a j g} hj hx => by
    rw [List.getElem?_map] at hx
    cases hq : l[a]? with
    | none =>
      rw [hq] at hx
      cases hx
    | some x =>
      rw [hq] at hx
      have ex : x.2.2 = g.1 := Option.some.inj hx
      obtain ⟨m, f', hm, rfl⟩ := trips_mem (hl.mem_iff.mp (List.mem_of_getElem? hq))
      have a1 : (p.es.map (·.1))[m]? = some g.1 := by
        rw [List.getElem?_map, hm]
        exact congrArg some ex
      have a2 : (p.es.map (·.1))[j]? = some g.1 := by rw [List.getElem?_map, hj] <;> rfl
      have em := nd_ix hp.nd a1 a2
      subst em
      rw [hj] at hm
      have ef : g = f' := Option.some.inj hm
      subst ef
      rfl
  have fa := find hi ha
  have fb := find hk hb
  refine Classical.byContradiction fun hn => ?_
  have hlt : b < a := by omega
  obtain ⟨ha2, ea⟩ := List.getElem?_eq_some_iff.mp fa
  obtain ⟨hb2, eb⟩ := List.getElem?_eq_some_iff.mp fb
  have := List.pairwise_iff_getElem.mp hs b a hb2 ha2 hlt
  rw [ea, eb] at this
  refine this ?_
  rcases ahead_tot ah with z | ⟨z1, z2⟩
  · exact .inl z
  · exact .inr ⟨z1, .inl (by show (i : Int) < (k : Int); omega)⟩
end MW
end
section
open MW L2
local macro_rules | `(tactic| walk_at "d1") => `(tactic| first
  | ((with_reducible refine x_varE ?_); refine ⟨_, rfl, ?_⟩)
  | with_reducible refine x_int ?_
  | with_reducible refine x_str ?_
  | with_reducible refine x_bl ?_
  | with_reducible refine x_non ?_
  | with_reducible refine x_ref ?_
  | with_reducible refine x_ty ?_
  | with_reducible refine x_op ?_
  | with_reducible refine x_un ?_
  | with_reducible refine a_nil ?_
  | with_reducible refine a_cons ?_
  | ((with_reducible refine x_tup ?_); walk_at "ad"; refine ⟨by first | exact (by decide) | (simp; done) | omega, ?_⟩)
  | ((with_reducible refine x_lst ?_); walk_at "ad"; refine ⟨by first | exact (by decide) | (simp; done) | omega, fun _ => ?_⟩)
  | with_reducible refine x_if ?_
  | with_reducible refine x_andV ?_
  | with_reducible refine x_orV ?_
  | with_reducible refine x_notV ?_
  | with_reducible refine t_test ?_
  | with_reducible refine t_B ?_
  | with_reducible refine t_yes ?_
  | with_reducible refine r_inS ?_
  | with_reducible refine r_notInS ?_
  | with_reducible refine t_and ?_
  | with_reducible refine t_or ?_
  | with_reducible refine t_not ?_
  | ((with_reducible refine x_fz ?_); walk_at "ad"; (first | refine ⟨_, _, 0, rfl, rfl, ?_⟩ | refine ⟨_, _, 1, rfl, rfl, ?_⟩ | refine ⟨_, _, 2, rfl, rfl, ?_⟩ | refine ⟨_, _, 3, rfl, rfl, ?_⟩))
  | with_reducible refine xs_seq ?_
  | with_reducible refine xs_next ?_
  | with_reducible refine xs_ret ?_
  | with_reducible refine xs_retN ?_
  | with_reducible refine xs_drop ?_
  | with_reducible apply xs_asg
  | with_reducible refine xs_if ?_
  | with_reducible refine g_name ?_
  | with_reducible refine gs_nil ?_
  | with_reducible apply gs_cons
  | ((with_reducible apply g_tup); exact rfl)
  | with_reducible refine x_chain ?_
  | with_reducible refine x_CB ?_
  | with_reducible refine x_call0 ?_
  | with_reducible refine x_sl ?_
  | with_reducible refine o_none ?_
  | with_reducible refine o_some ?_
  | ((with_reducible refine x_prop ?_); walk_at "ad"; refine ⟨_, _, _, rfl, rfl, ?_⟩)
  | with_reducible refine r_I0 ?_
  | with_reducible refine r_I0b ?_
  | with_reducible refine r_eqI ?_
  | with_reducible refine r_neI ?_
  | with_reducible refine r_eqS ?_
  | with_reducible refine r_neS ?_
  | with_reducible refine r_isN ?_
  | with_reducible refine r_notN ?_
  | with_reducible refine u_neg ?_
  | ((with_reducible refine r_ixTE ?_); first | refine ⟨_, ‹_›, ?_⟩ | refine ⟨_, rfl, ?_⟩)
  | ((with_reducible refine r_ixLE ?_); first | refine ⟨_, ‹_›, ?_⟩ | refine ⟨_, rfl, ?_⟩)
  | ((with_reducible refine k_isIE ?_); refine ⟨_, rfl, ?_⟩)
  | ((with_reducible refine k_isSE ?_); refine ⟨_, rfl, ?_⟩)
  | ((with_reducible refine k_isTE ?_); refine ⟨_, rfl, ?_⟩)
  | ((with_reducible refine x_BM ?_); walk_at "ad"; first | refine ⟨ty_lst (j := 0) rfl, ?_⟩ | refine ⟨ty_lst (j := 1) rfl, ?_⟩ | refine ⟨ty_lst (j := 2) rfl, ?_⟩ | refine ⟨ty_lst (j := 3) rfl, ?_⟩)
  | ((with_reducible refine m_appE ?_); (first | refine ⟨0, _, rfl, ?_, ?_⟩ | refine ⟨1, _, rfl, ?_, ?_⟩ | refine ⟨2, _, rfl, ?_, ?_⟩ | refine ⟨3, _, rfl, ?_, ?_⟩); (walk_at "len"))
  | ((with_reducible refine k_lenS ?_ ?_); (walk_at "len"))
  | ((with_reducible refine s_txt ?_ ?_); (walk_at "len"))
  | ((with_reducible refine r_ixSE ?_ ?_); (walk_at "len"); (first | refine ⟨_, ‹_›, ?_⟩ | refine ⟨_, rfl, ?_⟩))
  | with_reducible refine k_lenT ?_
  | with_reducible refine k_lenL ?_
  | ((with_reducible refine k_lenME ?_); (first | refine ⟨0, _, rfl, ?_⟩ | refine ⟨1, _, rfl, ?_⟩ | refine ⟨2, _, rfl, ?_⟩ | refine ⟨3, _, rfl, ?_⟩))
  | ((with_reducible refine r_ixME ?_); (first | refine ⟨0, _, _, rfl, ‹_›, ?_⟩ | refine ⟨1, _, _, rfl, ‹_›, ?_⟩ | refine ⟨2, _, _, rfl, ‹_›, ?_⟩ | refine ⟨0, _, _, rfl, rfl, ?_⟩ | refine ⟨1, _, _, rfl, rfl, ?_⟩ | refine ⟨2, _, _, rfl, rfl, ?_⟩ | refine ⟨3, _, _, rfl, rfl, ?_⟩))
  | ((with_reducible refine x_tupleM ?_); walk_at "ad"; (first | refine ⟨_, 0, _, rfl, rfl, ?_⟩ | refine ⟨_, 1, _, rfl, rfl, ?_⟩ | refine ⟨_, 2, _, rfl, rfl, ?_⟩ | refine ⟨_, 3, _, rfl, rfl, ?_⟩))
  | ((with_reducible refine r_neT0 (n := 0) ?_ ?_ ?_); exact (by decide); exact (deep_dI _ _))
  | ((with_reducible refine x_rev2 ?_); walk_at "ad"; refine ⟨_, _, rfl, ?_⟩)
  | with_reducible refine x_join ?_
  | with_reducible refine i_enumT ?_
  | with_reducible refine i_rng1 ?_
  | with_reducible refine i_rng2 ?_
  | with_reducible refine i_tup ?_
  | with_reducible refine i_lst ?_
  | with_reducible refine i_str ?_
  | refine ⟨_, rfl, ?_⟩
  | ((with_reducible refine brT ?_ ?_); (first | assumption | exact rfl | decide +kernel))
  | ((with_reducible refine brF ?_ ?_); (first | assumption | exact rfl | decide +kernel)))
local macro_rules | `(tactic| walk_at "len") => `(tactic| first | assumption | omega | ((simp only [List.length_append, List.length_cons, List.length_nil, List.length_map, List.length_set]) <;> omega) | (simp; done) | (simp; omega))
local macro_rules | `(tactic| walk_at "ad") => `(tactic| repeat (walk_at "d1"))
local macro_rules | `(tactic| walk_at "sub") => `(tactic| first | exact List.nil_sublist _ | exact List.Sublist.refl _ | (refine List.Sublist.cons₂ _ ?_; walk_at "sub") | (refine List.Sublist.cons _ ?_; walk_at "sub"))
/-! The script, dict displays; _law_begin. -/
namespace MW
open PySem PySem.Spec PyProof.Rows L2
open C8 (pe_c pe_gc Cal)
/-- the script: a list for good -/
def Scr (K : PySem.W.Frag) (H : Hp) (a : Addr) (ns : List Int) : Prop := (∃ o, H a = some (.frz o (.lst (ns.map V.int)))) ∨
  ∃ (o : Obj) (its : Array Value) (n : Nat), K.lookup a = some o ∧ o.cls = .type "list" ∧ o.dict = none ∧ o.data = .seq its n ∧ its.size ≤ sizeLine ∧ Vals (ns.map V.int) its.toList
theorem Scr.sq {K : PySem.W.Frag} {H : Hp} {a : Addr} {ns : List Int} (h : Scr K H a ns) : SqL K H a (ns.map V.int) := h.elim (fun ⟨o, e⟩ => .inl (.inr ⟨o, e⟩)) .inr
theorem Scr.pst {K : PySem.W.Frag} {H H' : Hp} {a : Addr} {ns : List Int} (h : Scr K H a ns) (p : Pst H H') : Scr K H' a ns := h.elim (fun ⟨o, e⟩ => .inl ⟨o, p a _ trivial e⟩) .inr
theorem Scr.of {K : PySem.W.Frag} {H : Hp} {a : Addr} {ns : List Int} (h : SqL K H a (ns.map V.int)) (o : ∀ b, H b = none ∨ ∃ o xs, H b = some (.frz o (.lst xs))) : Scr K H a ns := by
  rcases h with (h | ⟨u, h⟩) | h
  · rcases o a with z | ⟨u, xs, z⟩
    · rw [h] at z
      cases z
    · rw [h] at z
      cases z
  · exact .inl ⟨u, h⟩
  · exact .inr h
section
variable {c : Cn} {ρ : Env2} {μ : Mu} {K : PySem.W.Frag}
theorem Sat.scr {σ : L2.St} {H : Hp} {a : Addr} {ns : List Int} (S : Sat c ρ μ σ H) (h : Scr K c.H0 a ns) (ha : a ∉ c.B) : Scr K H a ns := h.elim (fun ⟨o, e⟩ => .inl ⟨o, S.fr a _ ha e⟩) .inr
theorem i_scr {te : TE} {P : List D → Mu → Prop} (h : X c te ρ μ fun d μ1 => ∃ a ns, d = .ref a ∧ Scr K c.H0 a ns ∧ a ∉ c.B ∧ P (dI ns) μ1) : IX c (iList K te) ρ μ P := fun σ H R S q =>
  h σ H _ S fun v H1 d μ1 p1 r1 S1 ⟨a, ns, ed, hs, ha, k⟩ => by
    subst ed
    have ev : v = .ref a := r1
    have s1 := S1.scr hs ha
    have ok : ∀ H2, Pst H1 H2 → SqL K H2 a (ns.map V.int) := fun H2 p => (s1.pst p).sq
    have rs : ∀ H2, Reps H2 (dI ns) (ns.map V.int) := fun H2 => dI_reps ns
    refine ⟨a, ev, ⟨_, ok H1 (Pst.refl H1)⟩, q _ H1 (dI ns) μ1 p1 S1 ⟨fun i d H2 e p => ?_, fun i d H2 x H3 e p hy => ?_, fun H2 p => ⟨_, ok H2 p, by rw [(rs H2).len]; exact Nat.le_refl _⟩⟩ k⟩
    · obtain ⟨w, e1, _⟩ := (rs H2).at e
      exact ⟨_, w, ok H2 p, e1⟩
    · obtain ⟨eh, hx⟩ := hy
      subst eh
      obtain ⟨w, e1, rw_⟩ := (rs H3).at e
      have ew : x = w := Option.some.inj ((hx _ (ok H3 p)).symm.trans e1)
      subst ew
      exact ⟨Same.refl H3, rw_⟩
variable {P : D → Mu → Prop}
theorem k_lenScr {a : Addr} {ns : List Int} (hs : Scr K c.H0 a ns) (ha : a ∉ c.B) (k : P (.int (ns.length : Nat)) μ) : KX c (fun xs H Q => ∃ p ys, xs = [.ref p] ∧ (SqL K H p ys ∨ SqT K H p ys) ∧ Q (.int (ys.length : Nat)) H) [.ref a] μ P := fun ρ σ H vs Q S r q => by
  obtain ⟨v, r0, rfl, rfl, rfl⟩ := r
  exact ⟨a, _, rfl, .inl (S.scr hs ha).sq, by rw [List.length_map]; exact q _ H _ μ (Pst.refl H) (by exact rfl) S k⟩
theorem k_listScr {a : Addr} {ns : List Int} (hs : Scr K c.H0 a ns) (ha : a ∉ c.B) (k : ∀ p, P (.ref p) (μ ++ [(p, .lst (dI ns))])) : KX c (fun xs H Q => ∃ p ys, xs = [.ref p] ∧ (SqL K H p ys ∨ SqT K H p ys) ∧ ∀ l, H l = none → Q (.ref l) (upd H l (.lst ys))) [.ref a] μ P := fun ρ σ H vs Q S r q => by
  obtain ⟨v, r0, rfl, rfl, rfl⟩ := r
  exact ⟨a, _, rfl, .inl (S.scr hs ha).sq, fun l hl => q _ _ (.ref l) _ (Pst.new hl) rfl (S.add hl (m := .lst (dI ns)) ⟨_, upd_same, dI_reps ns⟩) (k l)⟩
/-- abs(i) -/
theorem k_abs {i : Int} (k : P (.int (if i < 0 then -i else i)) μ) : KX c (fun xs H Q => ∃ i, xs = [.int i] ∧ Q (.int (if i < 0 then -i else i)) H) [.int i] μ P := fun ρ σ H vs Q S r q => by
  obtain ⟨v, r0, rfl, rfl, rfl⟩ := r
  exact ⟨i, rfl, q _ H (.int _) μ (Pst.refl H) rfl S k⟩
end
/-! ### dict displays with text keys -/
def PX (c : Cn) (trs : List (TE × TE)) (ρ : Env2) (μ : Mu) (P : AL → Mu → Prop) : Prop :=
  ∀ (σ : L2.St) (H : Hp) (Q : List (V × V) → Hp → Prop), Sat c ρ μ σ H → (∀ kvs H' L μ', Pst H H' → DL H' L kvs → Sat c ρ μ' σ H' → P L μ' → Q (kvs.map fun kv => (kV kv.1, kv.2)) H') → tPairs trs σ H Q
section
variable {c : Cn} {ρ : Env2} {μ : Mu} {P : D → Mu → Prop}
theorem px_nil {PL : AL → Mu → Prop} (k : PL [] μ) : PX c [] ρ μ PL := fun σ H Q S q => q [] H [] μ (Pst.refl H) (DL.of (L := []) rfl Reps.nil) S k
theorem px_cons {PL : AL → Mu → Prop} {tk tv : TE} {r : List (TE × TE)} (h : X c tk ρ μ fun x μ1 => ∃ s, x = .str s ∧ X c tv ρ μ1 fun y μ2 => PX c r ρ μ2 fun L μ3 => PL ((s, y) :: L) μ3) : PX c ((tk, tv) :: r) ρ μ PL := fun σ H Q S q =>
  h σ H _ S fun v H1 x μ1 p1 r1 S1 ⟨s, ex, h1⟩ => by
    subst ex
    have ev : v = .str s := r1
    subst ev
    refine h1 σ H1 _ S1 fun u H2 y μ2 p2 r2 S2 h2 => h2 σ H2 _ S2 fun kvs H3 L μ3 p3 dl S3 k => ?_
    obtain ⟨e1, e2⟩ := dl.to
    exact q ((.inr s, u) :: kvs) H3 ((s, y) :: L) μ3 ((p1.trans p2).trans p3) (DL.of (by rw [List.map_cons, List.map_cons, List.map_cons, e1]) (.cons (r2.mono p3) e2)) S3 k
theorem mergeK_nd : ∀ (more kvs : List (Key × V)), ((kvs ++ more).map (·.1)).Nodup → mergeK kvs more = kvs ++ more
  | [], kvs, _ => by rw [List.append_nil] <;> rfl
  | p :: r, kvs, h => by
    have e : putK kvs p.1 p.2 = kvs ++ [p] := by
      refine putK_new p.2 ?_
      cases z : valV kvs p.1 with
      | none => rfl
      | some v =>
        have hm : p.1 ∈ kvs.map (·.1) := by
          have y := valV_any p.1 kvs
          rw [z] at y
          obtain ⟨q, hq, hq2⟩ := List.any_eq_true.mp (show (kvs.any fun kv => decide (kv.1 = p.1)) = true from y)
          exact List.mem_map.mpr ⟨q, hq, of_decide_eq_true hq2⟩
        rw [List.map_append, List.nodup_append] at h
        exact absurd rfl (h.2.2 _ hm p.1 (by simp))
    show mergeK (putK kvs p.1 p.2) r = _
    rw [e, mergeK_nd r (kvs ++ [p]) (by rw [List.append_assoc]; exact h), List.append_assoc]
    rfl
theorem x_disp {trs : List (TE × TE)} (h : ∀ p, PX c trs ρ (μ ++ [(p, dicM [])]) fun L μ1 => L.length ≤ 15 ∧ (L.map (·.1)).Nodup ∧ ∃ k, μ1[k]? = some (p, dicM []) ∧ P (.ref p) (μ1.set k (p, dicM L))) : X c (tDisp trs) ρ μ P := fun σ H Q S q p hp => by
  refine h p σ _ _ (S.add hp (m := dicM []) (DL.at upd_same (DL.of (L := []) rfl Reps.nil))) fun kvs H' L μ1 p1 dl S1 ⟨hl, nd, k, hk, z⟩ => ?_
  obtain ⟨kvs0, e0, dl0⟩ := (S1.mu _ (List.mem_of_getElem? hk)).dl
  have en : kvs0 = [] := List.length_eq_zero_iff.mp (by rw [dl0.len] <;> rfl)
  subst en
  obtain ⟨k1, k2⟩ := dl.to
  have hm : mergeK [] kvs = kvs := mergeK_nd kvs [] (by
    rw [List.nil_append, k1]
    exact List.pairwise_map.mpr (nd.imp fun hne e => hne (Sum.inr.inj e)))
  have P1 : Pst H' (upd H' p (.dK kvs)) := Pst.mut e0 fun z => z
  refine ⟨e0, kvs, rfl, by rw [dl.len]; exact hl, ?_⟩
  rw [hm]
  exact q (.ref p) _ (.ref p) _ (((Pst.new hp).trans p1).trans P1) rfl (S1.put (m' := dicM L) hk (DL.at upd_same (dl.mono P1))) z
end
/-! ### what _law_begin promises -/
def spBg (K : PySem.W.Frag) : Sp := fun vs H Q _ => ∃ a ns, vs = [.ref a] ∧ Scr K H a ns ∧ ns.length ≤ 63 ∧ ∀ dr la ca large H', (∀ x ∈ large, (0 : Int) ≤ x) → Pst H H' → (∀ p ∈ drM dr la ca large ns 0 0 7, At H' p.1 p.2) → ((drM dr la ca large ns 0 0 7).map (·.1)).Nodup →
  (∀ p ∈ drM dr la ca large ns 0 0 7, H p.1 = none) → (∀ b o, H b = some o → H' b = some o) → (∀ b, H' b = none → H b = none) → Q (.ref dr) H'
section
variable {w : World} {K : PySem.W.Frag} {mg : Str → Option Value} {base : Heap}
theorem mkBg {st : Stmt} {N : List Str} {k : Nat} {f : Addr} {x : Str} (hF : ∃ fd, FunD K x x (defArgs st) (defBody st) (defScope st) [] [] f fd) (hm : mg x = some (.ref f)) (S : FnScope N ["_law_script"] (defScope st)) (hb : BN x x st ["_law_script"])
    (hbody : ∀ (cdv : Value) (A : Around) (outer : List Env) (s : Shared) (H : Hp) (E : XK), Room k (A.deeper (envOfC x (defScope st) s.heap.objs.size f cdv)) →
      ∃ t, PSs (cxOf C8.CX0 P0 w K mg base N x (defScope st) f cdv A outer s H E).nox (defBody st) t ∧ ∀ a ns, Scr K H a ns → ns.length ≤ 63 → XS ⟨[], H⟩ t ([some (.ref a)] ++ List.replicate (N.length - 1) none) [] { nx := fun _ _ => False, rt := fun d μ' => ∃ dr la ca large, (∀ x ∈ large, (0 : Int) ≤ x) ∧ d = .ref dr ∧ (drM dr la ca large ns 0 0 7).Perm μ' }) :
    Cal P0 w K mg base (k + 1) x (spBg K) [] := by
  obtain ⟨fd, F⟩ := hF
  refine ⟨f, fd, _, [], F.ok S (fun vs H Q E h => ?_) (fun cdv A outer s H vs Q E hr hsp => ?_), hm, F.kp, F.bindsN hb, .nil⟩
  · obtain ⟨a, ns, rfl, _⟩ := h
    rfl
  · obtain ⟨t, h1, h2⟩ := hbody cdv A outer s H E hr
    obtain ⟨a, ns, rfl, hs, hl, k⟩ := hsp
    have S0 := sat_start (N := N) (H := H) (ds := [.ref a]) (vs := [.ref a]) (.cons rfl .nil)
    refine ⟨t, h1.nox, h2 a ns hs hl _ H _ S0 ⟨fun _ _ _ _ _ _ z => z.elim, fun ρ' μ' σ' H' d v p S1 r ⟨dr, la, ca, large, h0, ed, pm⟩ => ?_, fun _ _ _ _ _ _ z => z.elim, fun _ _ _ _ _ _ z => z.elim⟩⟩
    subst ed
    have ev : v = .ref dr := r
    subst ev
    have S' := S1.perm pm
    exact k dr la ca large H' h0 p S'.mu S'.nd (fun q hq => (S'.own q hq).elim id fun z => absurd z (by simp)) (fun b o e => S'.fr b o (by simp) e) S'.dom
end
section
variable {c : Cn} {ρ : Env2} {μ : Mu} {P : D → Mu → Prop} {K : PySem.W.Frag}
theorem x_callBg {E : XK} {ta : TA} (h : AX c ta ρ μ fun ds μ1 => ∃ a ns, ds = [.ref a] ∧ Scr K c.H0 a ns ∧ a ∉ c.B ∧ ns.length ≤ 63 ∧ ∀ dr la ca large, (∀ x ∈ large, (0 : Int) ≤ x) → P (.ref dr) (μ1 ++ drM dr la ca large ns 0 0 7)) : X c (tCall (spBg K) [] E ta) ρ μ P := fun σ H Q S q =>
  h σ H _ S fun vs H1 ds μ1 p1 r1 S1 ⟨a, ns, ed, hs, ha, hl, k⟩ => by
    subst ed
    obtain ⟨v, r0, rfl, rfl, rfl⟩ := r1
    refine ⟨a, ns, rfl, S1.scr hs ha, hl, fun dr la ca large H' h0 p hm nd hn fr dom => ?_⟩
    have sm : Same H1 H' := fr
    have S2 := S1.same sm
    refine q (.ref dr) H' (.ref dr) _ (p1.trans p) rfl ⟨S2.fr, S2.env, S2.len, fun x hx => ?_, fun x hx => ?_, ?_, S2.dom⟩ (k dr la ca large h0)
    · rcases List.mem_append.mp hx with hx | hx
      · exact S2.mu x hx
      · exact hm x hx
    · rcases List.mem_append.mp hx with hx | hx
      · exact S2.own x hx
      · exact .inl (S1.dom _ (hn x hx))
    · rw [List.map_append, List.nodup_append]
      refine ⟨S2.nd, nd, fun u hu v hv e => ?_⟩
      subst e
      obtain ⟨x, hx1, hx2⟩ := List.mem_map.mp hu
      obtain ⟨y, hy1, hy2⟩ := List.mem_map.mp hv
      obtain ⟨o, ho, _⟩ := (S1.mu x hx1).un
      have := hn y hy1
      rw [hy2, ← hx2, ho] at this
      cases this
end
abbrev N_law_begin : List Str := ["_law_script", "_law_large", "_law_cell"]
theorem sc_law_begin : FnScope N_law_begin ["_law_script"] (defScope s_law_begin) := ⟨rfl, rfl, rfl, by decide +kernel, rfl, by decide +kernel, by decide +kernel⟩

theorem Tx.c_law_begin {w : World} {K : PySem.W.Frag} {mg : Str → Option Value} {base : Heap} (T : Tx K mg) : Cal P0 w K mg base 2 "_law_begin" (spBg K) [] := by
  refine mkBg (k := 1) T.d_law_begin T.g_law_begin sc_law_begin (fun _ _ _ _ _ _ us hl => match us, hl with | [_], _ => rfl) fun cdv A outer s H E hr => ?_
  have nd := sc_law_begin.nd
  refine ⟨_, (pss_cons (ps_setLc (i := 1) (own := [("_law_cell", 2)]) (g := (gName 2)) (tt := (tTest (tOp (rI0 fun i j => .bl (decide (i ≥ j))) (tCB _ (tCons (tVar 2) tNil)) (tOp _ (tC (.int 10)) (tC (.int 18)))))) (te := (tCB _ (tCons (tVar 2) tNil))) rfl nd rfl rfl (sw_true rfl rfl rfl (by decide +kernel)) (pi_list (pv 0)) (blkOk_by (N := N_law_begin) (sc := defScope s_law_begin) (by decide +kernel)) (fun _ _ _ _ _ => (pg_name (i := 2) nd rfl (by first | exact Or.inl rfl | exact Or.inr rfl))) (fun _ _ _ _ _ => (pts_one (pt_cmpR op_ge (pe_callB call_abs (by rfl) T.f_abs boot_abs (pa_cons (pv 2) pa_nil)) (pe_op op_pow pe_int pe_int) (nomark _)))) (fun _ _ _ _ _ => (pe_callB call_abs (by rfl) T.f_abs boot_abs (pa_cons (pv 2) pa_nil))))
  (pss_one (ps_ret (pe_disp (pps_cons pe_str (pv 1) (pps_cons pe_str (pe_callTy call_list_of (by rfl) T.f_list boot_list (pa_cons (pv 0) pa_nil)) (pps_cons pe_str pe_int (pps_cons pe_str pe_int (pps_cons pe_str pe_int pps_nil))))) (by rfl) (by rfl) (by intro z; cases z) (by decide))))), ?_⟩
  intro a ns hs hl
  walk_at "ad"
  refine x_filt (js := [2]) ns D.int (fun i => .int (if i < 0 then -i else i)) (fun i => decide ((if i < 0 then -i else i) ≥ 10 ^ 18)) [] (by decide) (by omega) ?_ ?_ ?_
  · refine i_scr ?_
    walk_at "ad"
    exact ⟨_, ns, rfl, hs, by simp, rfl, rfl⟩
  · intro i x acc p hx
    walk_at "ad"
    refine k_abs ?_
    walk_at "ad"
    refine r_I ⟨by decide, by decide, by decide⟩ ?_
    walk_at "ad"
    refine ⟨rfl, fun _ => ?_, fun _ => List.Sublist.refl _⟩
    walk_at "ad"
    refine k_abs ?_
    exact ⟨rfl, List.Sublist.refl _⟩
  · intro la
    walk_at "ad"
    refine x_disp fun dr => ?_
    refine px_cons ?_
    walk_at "ad"
    refine px_cons ?_
    walk_at "ad"
    refine k_listScr hs (by simp) fun ca => ?_
    refine px_cons ?_
    walk_at "ad"
    refine px_cons ?_
    walk_at "ad"
    refine px_cons ?_
    walk_at "ad"
    refine px_nil ?_
    refine ⟨by simp, by show [("large" : Str), "cells", "rest", "turn", "mix"].Nodup; decide +kernel, 1, rfl, dr, la, ca, (ns.filter (fun i => decide ((if i < 0 then -i else i) ≥ 10 ^ 18))).map fun i => if i < 0 then -i else i, fun x hx => ?_, rfl, ?_⟩
    · obtain ⟨i, _, rfl⟩ := List.mem_map.mp hx
      split <;> omega
    · have e : ((ns.filter (fun i => decide ((if i < 0 then -i else i) ≥ 10 ^ 18))).map fun i => (D.int (if i < 0 then -i else i))) = dI ((ns.filter (fun i => decide ((if i < 0 then -i else i) ≥ 10 ^ 18))).map fun i => if i < 0 then -i else i) := by
        unfold dI
        rw [List.map_map]
        rfl
      rw [e]
      exact List.Perm.swap _ _ _

end MW
end
section
open MW L2
local macro_rules | `(tactic| walk_at "d1") => `(tactic| first
  | ((with_reducible refine x_varE ?_); refine ⟨_, rfl, ?_⟩)
  | with_reducible refine x_int ?_
  | with_reducible refine x_str ?_
  | with_reducible refine x_bl ?_
  | with_reducible refine x_non ?_
  | with_reducible refine x_ref ?_
  | with_reducible refine x_ty ?_
  | with_reducible refine x_op ?_
  | with_reducible refine x_un ?_
  | with_reducible refine a_nil ?_
  | with_reducible refine a_cons ?_
  | ((with_reducible refine x_tup ?_); walk_at "ad"; refine ⟨by first | exact (by decide) | (simp; done) | omega, ?_⟩)
  | ((with_reducible refine x_lst ?_); walk_at "ad"; refine ⟨by first | exact (by decide) | (simp; done) | omega, fun _ => ?_⟩)
  | with_reducible refine x_if ?_
  | with_reducible refine x_andV ?_
  | with_reducible refine x_orV ?_
  | with_reducible refine x_notV ?_
  | with_reducible refine t_test ?_
  | with_reducible refine t_B ?_
  | with_reducible refine t_yes ?_
  | with_reducible refine r_inS ?_
  | with_reducible refine r_notInS ?_
  | with_reducible refine t_and ?_
  | with_reducible refine t_or ?_
  | with_reducible refine t_not ?_
  | ((with_reducible refine x_fz ?_); walk_at "ad"; (first | refine ⟨_, _, 0, rfl, rfl, ?_⟩ | refine ⟨_, _, 1, rfl, rfl, ?_⟩ | refine ⟨_, _, 2, rfl, rfl, ?_⟩ | refine ⟨_, _, 3, rfl, rfl, ?_⟩))
  | with_reducible refine xs_seq ?_
  | with_reducible refine xs_next ?_
  | with_reducible refine xs_ret ?_
  | with_reducible refine xs_retN ?_
  | with_reducible refine xs_drop ?_
  | with_reducible apply xs_asg
  | with_reducible refine xs_if ?_
  | with_reducible refine g_name ?_
  | with_reducible refine gs_nil ?_
  | with_reducible apply gs_cons
  | ((with_reducible apply g_tup); exact rfl)
  | with_reducible refine x_chain ?_
  | with_reducible refine x_CB ?_
  | with_reducible refine x_call0 ?_
  | with_reducible refine x_sl ?_
  | with_reducible refine o_none ?_
  | with_reducible refine o_some ?_
  | ((with_reducible refine x_prop ?_); walk_at "ad"; refine ⟨_, _, _, rfl, rfl, ?_⟩)
  | with_reducible refine r_I0 ?_
  | with_reducible refine r_I0b ?_
  | with_reducible refine r_eqI ?_
  | with_reducible refine r_neI ?_
  | with_reducible refine r_eqS ?_
  | with_reducible refine r_neS ?_
  | with_reducible refine r_isN ?_
  | with_reducible refine r_notN ?_
  | with_reducible refine u_neg ?_
  | ((with_reducible refine r_ixTE ?_); first | refine ⟨_, ‹_›, ?_⟩ | refine ⟨_, rfl, ?_⟩)
  | ((with_reducible refine r_ixLE ?_); first | refine ⟨_, ‹_›, ?_⟩ | refine ⟨_, rfl, ?_⟩)
  | ((with_reducible refine k_isIE ?_); refine ⟨_, rfl, ?_⟩)
  | ((with_reducible refine k_isSE ?_); refine ⟨_, rfl, ?_⟩)
  | ((with_reducible refine k_isTE ?_); refine ⟨_, rfl, ?_⟩)
  | ((with_reducible refine x_BM ?_); walk_at "ad"; first | refine ⟨ty_lst (j := 0) rfl, ?_⟩ | refine ⟨ty_lst (j := 1) rfl, ?_⟩ | refine ⟨ty_lst (j := 2) rfl, ?_⟩ | refine ⟨ty_lst (j := 3) rfl, ?_⟩)
  | ((with_reducible refine m_appE ?_); (first | refine ⟨0, _, rfl, ?_, ?_⟩ | refine ⟨1, _, rfl, ?_, ?_⟩ | refine ⟨2, _, rfl, ?_, ?_⟩ | refine ⟨3, _, rfl, ?_, ?_⟩); (walk_at "len"))
  | ((with_reducible refine k_lenS ?_ ?_); (walk_at "len"))
  | ((with_reducible refine s_txt ?_ ?_); (walk_at "len"))
  | ((with_reducible refine r_ixSE ?_ ?_); (walk_at "len"); (first | refine ⟨_, ‹_›, ?_⟩ | refine ⟨_, rfl, ?_⟩))
  | with_reducible refine k_lenT ?_
  | with_reducible refine k_lenL ?_
  | ((with_reducible refine k_lenME ?_); (first | refine ⟨0, _, rfl, ?_⟩ | refine ⟨1, _, rfl, ?_⟩ | refine ⟨2, _, rfl, ?_⟩ | refine ⟨3, _, rfl, ?_⟩))
  | ((with_reducible refine r_ixME ?_); (first | refine ⟨0, _, _, rfl, ‹_›, ?_⟩ | refine ⟨1, _, _, rfl, ‹_›, ?_⟩ | refine ⟨2, _, _, rfl, ‹_›, ?_⟩ | refine ⟨0, _, _, rfl, rfl, ?_⟩ | refine ⟨1, _, _, rfl, rfl, ?_⟩ | refine ⟨2, _, _, rfl, rfl, ?_⟩ | refine ⟨3, _, _, rfl, rfl, ?_⟩))
  | ((with_reducible refine x_tupleM ?_); walk_at "ad"; (first | refine ⟨_, 0, _, rfl, rfl, ?_⟩ | refine ⟨_, 1, _, rfl, rfl, ?_⟩ | refine ⟨_, 2, _, rfl, rfl, ?_⟩ | refine ⟨_, 3, _, rfl, rfl, ?_⟩))
  | ((with_reducible refine r_neT0 (n := 0) ?_ ?_ ?_); exact (by decide); exact (deep_dI _ _))
  | ((with_reducible refine x_rev2 ?_); walk_at "ad"; refine ⟨_, _, rfl, ?_⟩)
  | with_reducible refine x_join ?_
  | with_reducible refine i_enumT ?_
  | with_reducible refine i_rng1 ?_
  | with_reducible refine i_rng2 ?_
  | with_reducible refine i_tup ?_
  | with_reducible refine i_lst ?_
  | with_reducible refine i_str ?_
  | refine ⟨_, rfl, ?_⟩
  | ((with_reducible refine brT ?_ ?_); (first | assumption | exact rfl | decide +kernel))
  | ((with_reducible refine brF ?_ ?_); (first | assumption | exact rfl | decide +kernel)))
local macro_rules | `(tactic| walk_at "len") => `(tactic| first | assumption | omega | ((simp only [List.length_append, List.length_cons, List.length_nil, List.length_map, List.length_set]) <;> omega) | (simp; done) | (simp; omega))
local macro_rules | `(tactic| walk_at "ad") => `(tactic| repeat (walk_at "d1"))
local macro_rules | `(tactic| walk_at "sub") => `(tactic| first | exact List.nil_sublist _ | exact List.Sublist.refl _ | (refine List.Sublist.cons₂ _ ?_; walk_at "sub") | (refine List.Sublist.cons _ ?_; walk_at "sub"))
/-! A comprehension over a list that may be changed; a list frozen within a dict; _law_case. -/
namespace MW
open PySem PySem.Spec PyProof.Rows L2
open C8 (pe_c pe_gc Cal)
theorem Reps.split {H : Hp} : ∀ {ds es : List D} {vs : List V}, Reps H (ds ++ es) vs → ∃ us ws, vs = us ++ ws ∧ Reps H ds us ∧ Reps H es ws
  | [], es, vs, h => ⟨[], vs, rfl, Reps.nil, h⟩
  | d :: ds, es, vs, h => by
    obtain ⟨v, r, rfl, h1, h2⟩ := h
    obtain ⟨us, ws, rfl, h3, h4⟩ := Reps.split h2
    exact ⟨v :: us, ws, rfl, .cons h1 h3, h4⟩
section
variable {c : Cn} {ρ : Env2} {μ : Mu} {P : D → Mu → Prop}
/-- [elt for target in xs], xs a list at hand that stays as it is -/
theorem x_mapM {α : Type} {K : PySem.W.Frag} {ti te : TE} {g : TG} {vs js : List Nat} (l : List α) (e F : α → D) (μ1 : Mu) (a0 : Addr) (k0 : Nat) (hj : ∀ j ∈ js, j ∈ vs) (hz : l.length ≤ 100000) (hk : μ1[k0]? = some (a0, .lst (l.map e)))
    (h : X c ti ρ μ fun d μ2 => d = .ref a0 ∧ μ2 = μ1)
    (hs : ∀ (i : Nat) (x : α) (acc : List D) (a : Addr), l[i]? = some x → GX c g js (e x) (wipe2 ρ vs) ((a, .lst acc) :: μ1) fun ρ2 μ3 => X c te ρ2 μ3 fun y μ5 => y = F x ∧ ((a, MO.lst acc) :: μ1).Sublist μ5)
    (hd : ∀ a, P (.ref a) (μ1 ++ [(a, .lst (l.map F))])) : X c (tLc (iList K ti) g tYes te vs) ρ μ P := fun σ H Q S q =>
  h σ H _ S fun v H1 d μ2 p1 r1 S1 ⟨ed, eμ⟩ => by
    subst ed eμ
    have ev : v = .ref a0 := r1
    obtain ⟨ws1, hw1, rw1⟩ := S1.mu _ (List.mem_of_getElem? hk)
    refine ⟨a0, ev, ⟨ws1, SqL.of hw1⟩, ?_⟩
    intro D hD
    have hgood : ∀ {μ' σ' H'}, Sat c (wipe2 ρ vs) μ' σ' H' → Pst H H' → Sat c ρ μ' σ H' := fun S' p => S'.slots S.len fun i d e => by
      obtain ⟨v, e1, r⟩ := S.env i d e
      exact ⟨v, e1, r.mono p⟩
    refine ⟨fun i m H' => m = l.length - i ∧ i ≤ l.length ∧ Pst H1 H' ∧ ∃ acc, acc = (l.take i).map F ∧ Sat c (wipe2 ρ vs) ((D, MO.lst acc) :: μ2) (L2.wipe σ vs) H', ⟨l.length, rfl, Nat.zero_le _, Pst.new hD, [], by simp, ?_⟩, ?_⟩
    · have S2 := (S1.wipe vs).add hD (m := .lst []) ⟨[], upd_same, Reps.nil⟩
      exact S2.perm (List.perm_append_comm (l₁ := [(D, MO.lst [])]))
    · rintro i m H' ⟨rfl, hi, p2, acc, hacc, S2⟩
      obtain ⟨ws, hw, rw2⟩ := S2.mu _ (List.mem_cons_of_mem _ (List.mem_of_getElem? hk))
      by_cases hlt : i < l.length
      · have hx : l[i]? = some l[i] := List.getElem?_eq_getElem hlt
        have hd' : (l.map e)[i]? = some (e l[i]) := by
          rw [List.getElem?_map, hx]
          rfl
        obtain ⟨u, eu, ru⟩ := rw2.at hd'
        refine .inr ⟨⟨ws, u, SqL.of hw, eu⟩, fun H2 => Pst H1 H2 ∧ ∃ acc, acc = (l.take (i + 1)).map F ∧ Sat c (wipe2 ρ vs) ((D, MO.lst acc) :: μ2) (L2.wipe σ vs) H2, fun H2 ⟨p3, acc', ha, S3⟩ => ⟨l.length - (i + 1), by omega, rfl, hlt, p3, acc', ha, S3⟩, fun x H2 hy => ?_⟩
        obtain ⟨eh, hx2⟩ := hy
        subst eh
        have ex : u = x := Option.some.inj (eu.symm.trans (hx2 ws (SqL.of hw)))
        subst ex
        refine hs i l[i] acc D hx (L2.wipe σ vs) H2 u _ S2 ru fun ρ3 μ3 σ3 H3 p4 S3 o3 z => ⟨wipe_only o3 hj, ?_⟩
        have p5 : Pst H1 H3 := p2.trans p4
        have back : ∀ {μ' σ'' H''}, Sat c ρ3 μ' σ'' H'' → Pst H3 H'' → Sat c (wipe2 ρ vs) μ' (L2.wipe σ vs) H'' := fun S' p => S'.slots (by rw [wipe_length, wipe2_length, S.len]) fun i d e => by
          obtain ⟨e1, e2⟩ := wipe2_some e
          obtain ⟨v, e3, r⟩ := S1.env i d e1
          exact ⟨v, by rw [wipe_get e2]; exact e3, r.mono (p5.trans p)⟩
        show te σ3 H3 _
        refine z σ3 H3 _ S3 fun y H5 dy μ5 p7 r5 S5 ⟨ey, sl⟩ => ?_
        have S6 := S5.drop sl
        obtain ⟨vs', ha, rs⟩ := S6.mu _ List.mem_cons_self
        have P5 : Pst H5 (upd H5 D (.lst (vs' ++ [y]))) := Pst.mut ha fun z => z
        have hal : acc.length ≤ i := by
          rw [hacc, List.length_map, List.length_take]
          omega
        refine ⟨vs', ha, by rw [rs.len]; exact Nat.lt_of_le_of_lt hal (Nat.lt_of_lt_of_le hlt (Nat.le_trans hz (by decide))), ?_⟩
        refine ⟨(p5.trans p7).trans P5, acc ++ [dy], ?_, ?_⟩
        · rw [List.take_succ, hx, ey, List.map_append, hacc]
          rfl
        · have S7 := S6.put (k := 0) (m' := .lst (acc ++ [dy])) (o := .lst (vs' ++ [y])) rfl ⟨vs' ++ [y], upd_same, (rs.mono P5).snoc (r5.mono P5)⟩
          exact back S7 (p7.trans P5)
      · have e0 : i = l.length := by omega
        subst e0
        refine .inl ⟨⟨ws, SqL.of hw, by rw [rw2.len, List.length_map]; exact Nat.le_refl _⟩, ?_⟩
        have S3 := hgood S2 (p1.trans p2)
        rw [List.take_length] at hacc
        subst hacc
        exact q (.ref D) H' (.ref D) _ (p1.trans p2) rfl (S3.perm (List.perm_append_comm (l₂ := [(D, MO.lst (l.map F))]))) (hd D)
/-- an object at hand told otherwise -/
theorem Sat.redesc {σ : L2.St} {H : Hp} {a : Addr} {m m' : MO} {k : Nat} (S : Sat c ρ μ σ H) (hk : μ[k]? = some (a, m)) (hm : At H a m') : Sat c ρ (μ.set k (a, m')) σ H := by
  obtain ⟨u, hu, _⟩ := (S.mu _ (List.mem_of_getElem? hk)).un
  have e : upd H a u = H := by
    funext b
    by_cases hb : b = a
    · rw [hb, upd_same, hu]
    · rw [upd_ne hb]
  have S2 := S.put (o := u) (m' := m') hk (by rw [e]; exact hm)
  rw [e] at S2
  exact S2
/-- a list that stands in a dict is locked for good -/
def tFzA (te : TE) : TE := fun σ H Q => te σ H fun v H1 => (∃ a u, H1 a = some u ∧ Mut (some u) ∧ ∀ o, Q v (upd H1 a (.frz o u)))
theorem x_fzIn {te : TE} (h : X c te ρ μ fun d μ1 => ∃ (ea : Addr) (ds : List D) (k j : Nat) (cd : Addr) (A : AL) (x : Str), μ1[k]? = some (ea, .lst ds) ∧ (μ1.eraseIdx k)[j]? = some (cd, dicM (A ++ [(x, .ref ea)])) ∧ d = .ref cd ∧ P d ((μ1.eraseIdx k).set j (cd, dicM (A ++ [(x, .lst ds)])))) : X c (tFzA te) ρ μ P := fun σ H Q S q =>
  h σ H _ S fun v H1 d μ1 p1 r1 S1 ⟨ea, ds, k, j, cd, A, x, hk, hj, ed, z⟩ => by
    obtain ⟨vs, hv, rs⟩ := S1.mu _ (List.mem_of_getElem? hk)
    refine ⟨ea, _, hv, trivial, fun o => ?_⟩
    have P1 : Pst H1 (upd H1 ea (.frz o (.lst vs))) := Pst.mut hv fun z => z
    have S2 := S1.lock (ob := o) hk hv
    obtain ⟨kvs, hc, dl⟩ := (S2.mu _ (List.mem_of_getElem? hj)).dl
    obtain ⟨k1, k2⟩ := dl.to
    have S3 := S2.redesc (m' := dicM (A ++ [(x, .lst ds)])) hj (DL.at hc (DL.of (by rw [k1]; simp) ?_))
    · rw [ed] at r1 z
      exact q v _ (.ref cd) _ (p1.trans P1) r1 S3 z
    · rw [List.map_append] at k2 ⊢
      generalize kvs.map (·.2) = us at k2
      obtain ⟨us1, us2, rfl, ra, rb⟩ := Reps.split k2
      obtain ⟨u, r0, rfl, ru, rfl⟩ := rb
      have eu : u = .ref ea := ru
      subst eu
      exact ra.snoc ⟨ea, o, vs, rfl, upd_same, Reps.mono P1 _ _ rs⟩
end
section
variable {Y : Cx} {e : Expr} {te : TE}
theorem pe_fzA (he : PE Y e te) : PE Y e (tFzA te) := ⟨fun pins s σ H Q I h => by
  refine thn (he.run pins s σ H _ I h) fun v s1 ⟨x, H1, I1, r1, a, u, ha, mu, q⟩ => ?_
  obtain ⟨od, I2⟩ := I1.lock ha mu
  exact ⟨x, _, I2, r1, q od⟩⟩
end
/-- letters of a word -/
def G_law_case (_K : PySem.W.Frag) : SpcM := fun ds μ R => ∃ (dr la ca : Addr) (large cells : List Int) (r t m : Int), OkDr large r m ∧ cells.length ≤ 63 ∧ ds = [.ref dr, .int 4, .int 3] ∧ μ = drM dr la ca large cells r t m ∧
  R = fun d μ' => ∃ (cd : Addr) (ls : Wd) (s : Slp) (es : List (List Nat × Int)) (large : List Int) (r t m : Int), OkDr large r m ∧ OkE es ∧ OkL s ∧ d = .ref cd ∧ μ' = drM dr la ca large cells r t m ++ [(cd, dicM (csL ls s es))]
abbrev csR (ls : Wd) (s : Slp) (ea : Addr) : AL := [("letters", .lst (ls.map sgD)), ("prices", prcD s), ("entries", .ref ea)]
theorem csR_letters {ls : Wd} {s : Slp} {ea : Addr} : getL (csR ls s ea) "letters" = some (.lst (ls.map sgD)) := by
  unfold getL csR
  simp [List.find?_cons]
theorem csR_entries {ls : Wd} {s : Slp} {ea : Addr} : getL (csR ls s ea) "entries" = some (.ref ea) := by
  unfold getL csR
  simp [List.find?_cons, show ¬ (("letters" : Str) = "entries") by decide +kernel, show ¬ (("prices" : Str) = "entries") by decide +kernel]
abbrev N_law_case : List Str := ["_law_draw", "_law_many", "_law_limit_here", "_law_case_here", "_law_turn", "_law_word", "_law_entry"]
theorem sc_law_case : FnScope N_law_case ["_law_draw", "_law_many", "_law_limit_here"] (defScope s_law_case) := ⟨rfl, rfl, rfl, by decide +kernel, rfl, by decide +kernel, by decide +kernel⟩
theorem Tx.c_law_case {w : World} {K : PySem.W.Frag} {mg : Str → Option Value} {base : Heap} (T : Tx K mg) : Cal P0 w K mg base 5 "_law_case" (spM (G_law_case K)) [] := by
  refine mkCalM (k := 4) T.d_law_case T.g_law_case sc_law_case (fun _ _ _ _ _ _ us hl => match us, hl with | [_, _, _], _ => rfl) (by intro ds μ R h; obtain ⟨dr, la, ca, large, cells, r, t, m, ok, hcl, rfl, rfl, rfl⟩ := h; rfl) fun cdv A outer s H E hr => ?_
  have nd := sc_law_case.nd
  refine ⟨_, (pss_cons (ps_set (i := 3) nd rfl (by first | exact Or.inl rfl | exact Or.inr rfl) (pe_disp (pps_cons pe_str (pe_c T.c_law_letters hr (by decide) (by rfl) (pa_cons (pv 0) (pa_cons (pe_op op_add pe_int (pe_c T.c_law_take hr (by decide) (by rfl) (pa_cons (pv 0) (pa_cons pe_int pa_nil)))) pa_nil))) (pps_cons pe_str (pe_c T.c_law_prices hr (by decide) (by rfl) (pa_cons (pv 0) pa_nil)) (pps_cons pe_str (pe_lst pa_nil) pps_nil))) (by rfl) (by rfl) (by intro z; cases z) (by decide)))
  (pss_cons (ps_for PassesOwn.never rfl (pi_range1 (by rfl) T.f_range (pa_cons (pe_c T.c_law_take hr (by decide) (by rfl) (pa_cons (pv 0) (pa_cons (pe_op op_add (pv 1) pe_int) pa_nil))) pa_nil)) (pg_name (i := 4) nd rfl (by first | exact Or.inl rfl | exact Or.inr rfl)) (pss_cons (ps_set (i := 5) nd rfl (by first | exact Or.inl rfl | exact Or.inr rfl) (pe_c T.c_law_string hr (by decide) (by rfl) (pa_cons (pv 0) (pa_cons (pe_dget (hu_of hr) (pv 3) pe_str (fun _ _ => rfl)) (pa_cons pe_int (pa_cons (pv 2) pa_nil))))))
  (pss_one (ps_if (pt_cmpR op_notIn_seq (pv 5) (pe_lc (own := [("_law_entry", 6)]) (g := (gName 6)) (tt := tYes) (te := (tOp (rIxT K) (tVar 6) (tC (.int 0)))) rfl nd (pi_list (pe_dget (hu_of hr) (pv 3) pe_str (fun _ _ => rfl))) (blkOk_by (N := N_law_case) (sc := defScope s_law_case) (by decide +kernel)) (fun _ _ _ _ _ => (pg_name (i := 6) nd rfl (by first | exact Or.inl rfl | exact Or.inr rfl))) (fun _ _ _ _ _ => pts_nil) (fun _ _ _ _ _ => (pe_ix ix_tup (pv 6) pe_int (fun _ _ => rfl)))) (by rfl)) (pss_one (ps_expr (pe_bm PySem.F.plainAttrs_list PySem.F.slot_list_append PySem.F.type_list_append mt_append (pe_dget (hu_of hr) (pv 3) pe_str (fun _ _ => rfl)) (pa_cons (pe_tup (pa_cons (pv 5) (pa_cons (pe_c T.c_law_pick hr (by decide) (by rfl) (pa_cons (pv 0) (pa_cons (pe_fz (pe_lst (pa_cons pe_int (pa_cons pe_int (pa_cons pe_int (pa_cons pe_int (pa_cons pe_int (pa_cons pe_int (pa_cons pe_int (pa_cons (pe_c T.c_law_take hr (by decide) (by rfl) (pa_cons (pv 0) (pa_cons pe_int pa_nil))) pa_nil)))))))))) pa_nil))) pa_nil))) pa_nil)))) pss_nil))))
  (pss_one (ps_ret (pe_fzA (pv 3)))))), ?_⟩
  rintro ds μ R ⟨dr, la, ca, large, cells, r, t, m, ok, hcl, rfl, rfl, rfl⟩
  walk_at "ad"
  refine x_disp fun cd => ?_
  refine px_cons ?_
  walk_at "ad"
  refine x_callM ?_
  walk_at "ad"
  refine x_callM ?_
  walk_at "ad"
  refine ⟨drM dr la ca large cells r t m, [(cd, dicM [])], _, List.Perm.refl _, ⟨dr, la, ca, large, cells, r, t, m, 2, ok, by decide, by decide, hcl, rfl, rfl, rfl⟩, ?_⟩
  rintro d μ' ⟨large, r, t, m, ok, ⟨i, hi0, hi1, rfl⟩, rfl⟩
  walk_at "ad"
  refine ⟨drM dr la ca large cells r t m, [(cd, dicM [])], _, List.Perm.refl _, ⟨dr, la, ca, large, cells, r, t, m, 2 + i, ok, hcl, by omega, by omega, rfl, rfl, rfl⟩, ?_⟩
  rintro d μ' ⟨large, r, t, m, ok, ⟨ls, rfl, hl1, hl2, hla⟩, rfl⟩
  refine px_cons ?_
  walk_at "ad"
  refine x_callM ?_
  walk_at "ad"
  refine ⟨drM dr la ca large cells r t m, [(cd, dicM [])], _, List.Perm.refl _, ⟨dr, la, ca, large, cells, r, t, m, ok, hcl, rfl, rfl, rfl⟩, ?_⟩
  rintro d μ' ⟨large, r, t, m, ok, ⟨s, hs, rfl⟩, rfl⟩
  refine px_cons ?_
  walk_at "ad"
  rename_i ea
  refine px_nil ?_
  refine ⟨by simp, by show [("letters" : Str), "prices", "entries"].Nodup; decide +kernel, 3, rfl, ?_⟩
  walk_at "ad"
  refine xs_forI (js := [4]) (fun items i ρ μ => ∃ (es : List (List Nat × Int)) (large : List Int) (r t m : Int) (x4 x5 x6 : Option D), OkDr large r m ∧ items.length ≤ 4 ∧ es.length ≤ i ∧ (∀ e ∈ es, e.1 ≠ [] ∧ e.1.length ≤ 5 ∧ ∀ c ∈ e.1, c ∈ abc) ∧ (∀ e ∈ es, 0 ≤ e.2 ∧ e.2 ≤ 999) ∧ (es.map (·.1)).Nodup ∧
    ρ = [some (.ref dr), some (.int 4), some (.int 3), some (.ref cd), x4, x5, x6] ∧ μ = drM dr la ca large cells r t m ++ [(cd, dicM (csR ls s ea)), (ea, .lst (es.map entD))]) ?_
  walk_at "ad"
  refine x_callM ?_
  walk_at "ad"
  refine ⟨drM dr la ca large cells r t m, [(cd, dicM (csR ls s ea)), (ea, .lst [])], _, List.Perm.refl _, ⟨dr, la, ca, large, cells, r, t, m, 5, ok, by decide, by decide, hcl, rfl, rfl, rfl⟩, ?_⟩
  rintro d μ' ⟨large, r, t, m, ok, ⟨i, hi0, hi1, rfl⟩, rfl⟩
  walk_at "ad"
  refine ⟨by omega, by omega, ?_⟩
  refine ⟨⟨_, List.Sublist.refl _, [], large, r, t, m, none, none, none, ok, by rw [rng_len]; omega, Nat.le_refl _, (fun e he => by cases he), (fun e he => by cases he), List.nodup_nil, rfl, rfl⟩, ?_, ?_⟩
  · intro i d ρ' μ' hd hI
    obtain ⟨es, large, r, t, m, x4, x5, x6, ok, h4, hei, hlow, hown, hnd, rfl, rfl⟩ := hI
    have hin := (List.getElem?_eq_some_iff.mp hd).1
    walk_at "ad"
    refine x_callM ?_
    walk_at "ad"
    refine x_dgetM ?_
    walk_at "ad"
    refine ⟨cd, 3, csR ls s ea, _, _, rfl, rfl, rfl, csR_letters, ?_⟩
    walk_at "ad"
    refine ⟨drM dr la ca large cells r t m, [(cd, dicM (csR ls s ea)), (ea, .lst (es.map entD))], _, List.Perm.refl _, ⟨dr, la, ca, large, cells, r, t, m, ls, 1, 3, ok, hl1, by omega, hcl, by decide, by decide, by decide, rfl, rfl, rfl⟩, ?_⟩
    rintro d μ' ⟨large, r, t, m, ok, ⟨w, rfl, hw1, hw2, hwl⟩, rfl⟩
    walk_at "ad"
    refine x_mapM (js := [6]) es entD (fun e => txD e.1) (drM dr la ca large cells r t m ++ [(cd, dicM (csR ls s ea)), (ea, .lst (es.map entD))]) ea 4 (by decide) (by omega) rfl ?_ ?_ ?_
    · refine x_dgetM ?_
      walk_at "ad"
      exact ⟨cd, 3, csR ls s ea, _, _, rfl, rfl, rfl, csR_entries, rfl, rfl⟩
    · intro i x acc a hx
      walk_at "ad"
      exact ⟨rfl, List.Sublist.refl _⟩
    intro a
    have em : es.map (fun e => txD e.1) = (es.map (·.1)).map txD := by
      rw [List.map_map]
      rfl
    rw [em]
    refine r_inTs (j := 5) rfl ?_
    rw [if_pos rfl]
    refine ⟨_, rfl, ?_⟩
    refine brN (fun hnew => ?_) (fun hold => ?_)
    · walk_at "ad"
      refine x_BM ?_
      refine x_dgetM ?_
      walk_at "ad"
      refine ⟨cd, 3, csR ls s ea, _, _, rfl, rfl, rfl, csR_entries, ?_⟩
      refine ⟨ty_lst (j := 4) rfl, ?_⟩
      refine a_cons ?_
      refine x_tup ?_
      walk_at "ad"
      refine x_callM ?_
      walk_at "ad"
      refine x_fz ?_
      refine x_lst ?_
      walk_at "ad"
      refine x_callM ?_
      walk_at "ad"
      refine ⟨drM dr la ca large cells r t m, [(cd, dicM (csR ls s ea)), (ea, .lst (es.map entD)), (a, .lst ((es.map (·.1)).map txD))], _, List.Perm.refl _, ⟨dr, la, ca, large, cells, r, t, m, 12, ok, by decide, by decide, hcl, rfl, rfl, rfl⟩, ?_⟩
      rintro d μ' ⟨large, r, t, m, ok, ⟨v, hv0, hv1, rfl⟩, rfl⟩
      walk_at "ad"
      refine ⟨by simp, fun q => ?_⟩
      refine ⟨_, _, 6, rfl, rfl, ?_⟩
      walk_at "ad"
      refine ⟨drM dr la ca large cells r t m, [(cd, dicM (csR ls s ea)), (ea, .lst (es.map entD)), (a, .lst ((es.map (·.1)).map txD))], _, List.Perm.refl _, ⟨dr, la, ca, large, cells, r, t, m, _, ok, by simp, by simp, hcl, rfl, rfl, rfl⟩, ?_⟩
      rintro d μ' ⟨large, r, t, m, ok, hd2, rfl⟩
      obtain ⟨x, rfl, hx0, hx1⟩ : ∃ x : Int, d = .int x ∧ 0 ≤ x ∧ x ≤ 999 := by
        simp only [List.mem_cons, List.not_mem_nil, or_false] at hd2
        rcases hd2 with rfl | rfl | rfl | rfl | rfl | rfl | rfl | rfl <;> exact ⟨_, rfl, by omega, by omega⟩
      walk_at "ad"
      refine ⟨by simp, ?_⟩
      walk_at "ad"
      refine m_app (j := 4) rfl (by rw [List.length_map]; omega) ?_
      refine ⟨drM dr la ca large cells r t m ++ [(cd, dicM (csR ls s ea)), (ea, .lst (es.map entD ++ [entD (w, x)]))], by walk_at "sub", es ++ [(w, x)], large, r, t, m, _, _, _, ok, h4, by rw [List.length_append]; simpa using hei, fun e he => ?_, fun e he => ?_, ?_, rfl, by rw [List.map_append]; rfl⟩
      · rcases List.mem_append.mp he with he | he
        · exact hlow e he
        · rw [List.mem_singleton] at he
          subst he
          exact ⟨fun z => by rw [show w = [] from z] at hw1; simp at hw1, by show w.length ≤ 5; omega, fun c hc => hla c (hwl c hc)⟩
      · rcases List.mem_append.mp he with he | he
        · exact hown e he
        · rw [List.mem_singleton] at he
          subst he
          exact ⟨hx0, hx1⟩
      · rw [List.map_append, List.nodup_append]
        refine ⟨hnd, by simp, fun u hu v hv e => ?_⟩
        rw [List.map_cons, List.map_nil, List.mem_singleton] at hv
        subst e
        rw [hv] at hu
        exact hnew hu
    · walk_at "ad"
      exact ⟨drM dr la ca large cells r t m ++ [(cd, dicM (csR ls s ea)), (ea, .lst (es.map entD))], List.sublist_append_left _ _, es, large, r, t, m, _, _, _, ok, h4, by omega, hlow, hown, hnd, rfl, rfl⟩
  · intro ρ' μ' hI
    obtain ⟨es, large, r, t, m, x4, x5, x6, ok, h4, hei, hlow, hown, hnd, rfl, rfl⟩ := hI
    walk_at "ad"
    refine x_fzIn ?_
    walk_at "ad"
    exact ⟨ea, _, 4, 3, cd, [("letters", .lst (ls.map sgD)), ("prices", prcD s)], "entries", rfl, rfl, rfl, _, List.Sublist.refl _, cd, ls, s, es, large, r, t, m, ok, ⟨by omega, hlow, hown, hnd⟩, hs, rfl, rfl⟩

end MW
end
section
open MW L2
local macro_rules | `(tactic| walk_at "d1") => `(tactic| first
  | ((with_reducible refine x_varE ?_); refine ⟨_, rfl, ?_⟩)
  | with_reducible refine x_int ?_
  | with_reducible refine x_str ?_
  | with_reducible refine x_bl ?_
  | with_reducible refine x_non ?_
  | with_reducible refine x_ref ?_
  | with_reducible refine x_ty ?_
  | with_reducible refine x_op ?_
  | with_reducible refine x_un ?_
  | with_reducible refine a_nil ?_
  | with_reducible refine a_cons ?_
  | ((with_reducible refine x_tup ?_); walk_at "ad"; refine ⟨by first | exact (by decide) | (simp; done) | omega, ?_⟩)
  | ((with_reducible refine x_lst ?_); walk_at "ad"; refine ⟨by first | exact (by decide) | (simp; done) | omega, fun _ => ?_⟩)
  | with_reducible refine x_if ?_
  | with_reducible refine x_andV ?_
  | with_reducible refine x_orV ?_
  | with_reducible refine x_notV ?_
  | with_reducible refine t_test ?_
  | with_reducible refine t_B ?_
  | with_reducible refine t_yes ?_
  | with_reducible refine r_inS ?_
  | with_reducible refine r_notInS ?_
  | with_reducible refine t_and ?_
  | with_reducible refine t_or ?_
  | with_reducible refine t_not ?_
  | ((with_reducible refine x_fz ?_); walk_at "ad"; (first | refine ⟨_, _, 0, rfl, rfl, ?_⟩ | refine ⟨_, _, 1, rfl, rfl, ?_⟩ | refine ⟨_, _, 2, rfl, rfl, ?_⟩ | refine ⟨_, _, 3, rfl, rfl, ?_⟩))
  | with_reducible refine xs_seq ?_
  | with_reducible refine xs_next ?_
  | with_reducible refine xs_ret ?_
  | with_reducible refine xs_retN ?_
  | with_reducible refine xs_drop ?_
  | with_reducible apply xs_asg
  | with_reducible refine xs_if ?_
  | with_reducible refine g_name ?_
  | with_reducible refine gs_nil ?_
  | with_reducible apply gs_cons
  | ((with_reducible apply g_tup); exact rfl)
  | with_reducible refine x_chain ?_
  | with_reducible refine x_CB ?_
  | with_reducible refine x_call0 ?_
  | with_reducible refine x_sl ?_
  | with_reducible refine o_none ?_
  | with_reducible refine o_some ?_
  | ((with_reducible refine x_prop ?_); walk_at "ad"; refine ⟨_, _, _, rfl, rfl, ?_⟩)
  | with_reducible refine r_I0 ?_
  | with_reducible refine r_I0b ?_
  | with_reducible refine r_eqI ?_
  | with_reducible refine r_neI ?_
  | with_reducible refine r_eqS ?_
  | with_reducible refine r_neS ?_
  | with_reducible refine r_isN ?_
  | with_reducible refine r_notN ?_
  | with_reducible refine u_neg ?_
  | ((with_reducible refine r_ixTE ?_); first | refine ⟨_, ‹_›, ?_⟩ | refine ⟨_, rfl, ?_⟩)
  | ((with_reducible refine r_ixLE ?_); first | refine ⟨_, ‹_›, ?_⟩ | refine ⟨_, rfl, ?_⟩)
  | ((with_reducible refine k_isIE ?_); refine ⟨_, rfl, ?_⟩)
  | ((with_reducible refine k_isSE ?_); refine ⟨_, rfl, ?_⟩)
  | ((with_reducible refine k_isTE ?_); refine ⟨_, rfl, ?_⟩)
  | ((with_reducible refine x_BM ?_); walk_at "ad"; first | refine ⟨ty_lst (j := 0) rfl, ?_⟩ | refine ⟨ty_lst (j := 1) rfl, ?_⟩ | refine ⟨ty_lst (j := 2) rfl, ?_⟩ | refine ⟨ty_lst (j := 3) rfl, ?_⟩)
  | ((with_reducible refine m_appE ?_); (first | refine ⟨0, _, rfl, ?_, ?_⟩ | refine ⟨1, _, rfl, ?_, ?_⟩ | refine ⟨2, _, rfl, ?_, ?_⟩ | refine ⟨3, _, rfl, ?_, ?_⟩); (walk_at "len"))
  | ((with_reducible refine k_lenS ?_ ?_); (walk_at "len"))
  | ((with_reducible refine s_txt ?_ ?_); (walk_at "len"))
  | ((with_reducible refine r_ixSE ?_ ?_); (walk_at "len"); (first | refine ⟨_, ‹_›, ?_⟩ | refine ⟨_, rfl, ?_⟩))
  | with_reducible refine k_lenT ?_
  | with_reducible refine k_lenL ?_
  | ((with_reducible refine k_lenME ?_); (first | refine ⟨0, _, rfl, ?_⟩ | refine ⟨1, _, rfl, ?_⟩ | refine ⟨2, _, rfl, ?_⟩ | refine ⟨3, _, rfl, ?_⟩))
  | ((with_reducible refine r_ixME ?_); (first | refine ⟨0, _, _, rfl, ‹_›, ?_⟩ | refine ⟨1, _, _, rfl, ‹_›, ?_⟩ | refine ⟨2, _, _, rfl, ‹_›, ?_⟩ | refine ⟨0, _, _, rfl, rfl, ?_⟩ | refine ⟨1, _, _, rfl, rfl, ?_⟩ | refine ⟨2, _, _, rfl, rfl, ?_⟩ | refine ⟨3, _, _, rfl, rfl, ?_⟩))
  | ((with_reducible refine x_tupleM ?_); walk_at "ad"; (first | refine ⟨_, 0, _, rfl, rfl, ?_⟩ | refine ⟨_, 1, _, rfl, rfl, ?_⟩ | refine ⟨_, 2, _, rfl, rfl, ?_⟩ | refine ⟨_, 3, _, rfl, rfl, ?_⟩))
  | ((with_reducible refine r_neT0 (n := 0) ?_ ?_ ?_); exact (by decide); exact (deep_dI _ _))
  | ((with_reducible refine x_rev2 ?_); walk_at "ad"; refine ⟨_, _, rfl, ?_⟩)
  | with_reducible refine x_join ?_
  | with_reducible refine i_enumT ?_
  | with_reducible refine i_rng1 ?_
  | with_reducible refine i_rng2 ?_
  | with_reducible refine i_tup ?_
  | with_reducible refine i_lst ?_
  | with_reducible refine i_str ?_
  | refine ⟨_, rfl, ?_⟩
  | ((with_reducible refine brT ?_ ?_); (first | assumption | exact rfl | decide +kernel))
  | ((with_reducible refine brF ?_ ?_); (first | assumption | exact rfl | decide +kernel)))
local macro_rules | `(tactic| walk_at "len") => `(tactic| first | assumption | omega | ((simp only [List.length_append, List.length_cons, List.length_nil, List.length_map, List.length_set]) <;> omega) | (simp; done) | (simp; omega))
local macro_rules | `(tactic| walk_at "ad") => `(tactic| repeat (walk_at "d1"))
local macro_rules | `(tactic| walk_at "sub") => `(tactic| first | exact List.nil_sublist _ | exact List.Sublist.refl _ | (refine List.Sublist.cons₂ _ ?_; walk_at "sub") | (refine List.Sublist.cons _ ?_; walk_at "sub"))
/-! The rules that the law wants; law. -/
namespace MW
open PySem PySem.Spec PyProof.Rows L2
open C8 (pe_c pe_gc Cal)
section
variable {X : Cx}
/-- a dict that is data, compared with {} -/
def rEqDn : R2 := fun x y H Q => ∃ a b ks, x = .ref a ∧ y = .ref b ∧ Rd H a (.dK ks) ∧ H b = some (.dK []) ∧ Q (.bl ks.isEmpty) H
theorem op_eqDn (hu : X.A.units < cLine) : OpR X (compareOp .Eq) rEqDn := by
  intro pins s σ H x y v u Q I rx ry h
  obtain ⟨a, b, ks, rfl, rfl, ea, eb, q⟩ := h
  obtain rfl : v = Value.ref a := rx
  obtain rfl : u = Value.ref b := ry
  obtain ⟨_, ya, va, ra, da⟩ := dk_rd I.hok ea
  obtain ⟨_, yb, vb, rb, db⟩ := dk_of I.hok eb
  have hb : vb = [] := List.length_eq_zero_iff.mp (by rw [← rb.length] <;> rfl)
  subst hb
  refine PySem.W.keq_eq (knd := mixKind X.prog X.w) (r := true) ya yb da db hu (fun hl => ?_) (fin_bl I q ?_)
  · have ha : va = [] := List.length_eq_zero_iff.mp (by rw [hl] <;> rfl)
    subst ha
    exact .nil
  · have hl := ra.length
    cases ks with
    | nil =>
      have ha : va = [] := List.length_eq_zero_iff.mp (by rw [← hl] <;> rfl)
      subst ha
      rfl
    | cons k ks =>
      cases va with
      | nil => cases hl
      | cons v va => rfl
end
section
variable {c : Cn} {ρ : Env2} {μ : Mu} {P : D → Mu → Prop} {K : PySem.W.Frag}
theorem r_eqDn {L : AL} {b : Addr} {j : Nat} (hj : μ[j]? = some (b, dicM [])) (k : P (.bl L.isEmpty) μ) : RX c rEqDn (dicD L) (.ref b) μ P := fun ρ σ H v w Q S r1 r2 q => by
  obtain ⟨a, o, kvs, rfl, ha, hk, rs⟩ := r1
  have e2 : w = .ref b := r2
  subst e2
  obtain ⟨ks, hb, dl⟩ := (S.mu _ (List.mem_of_getElem? hj)).dl
  have en : ks = [] := List.length_eq_zero_iff.mp (by rw [dl.len] <;> rfl)
  subst en
  refine ⟨a, b, kvs, rfl, rfl, .inr ⟨o, ha⟩, hb, ?_⟩
  have e : kvs.isEmpty = L.isEmpty := by
    have hl := congrArg List.length hk
    rw [List.length_map, List.length_map, List.length_map] at hl
    cases kvs with
    | nil =>
      cases L with
      | nil => rfl
      | cons _ _ => cases hl
    | cons _ _ =>
      cases L with
      | nil => cases hl
      | cons _ _ => rfl
  rw [e]
  exact q _ H (.bl L.isEmpty) μ (Pst.refl H) rfl S k
/-- for k, v in d.items(), d data -/
theorem i_items {td : TE} {P : List D → Mu → Prop} (h : X c td ρ μ fun d μ1 => ∃ L : AL, d = dicD L ∧ P (L.map fun q => .tup [.str q.1, q.2]) μ1) : IX c (iItems td) ρ μ P := fun σ H R S q =>
  h σ H _ S fun v H1 d μ1 p1 r1 S1 ⟨L, ed, k⟩ => by
    subst ed
    obtain ⟨a, o, kvs, rfl, ha, hk, rs⟩ := r1
    have hl : kvs.length = L.length := by
      have z := congrArg List.length hk
      rwa [List.length_map, List.length_map, List.length_map] at z
    have at_ : ∀ {i : Nat} {q : Str × D}, L[i]? = some q → ∃ v, kvs[i]? = some (.inr q.1, v) ∧ Rep H1 q.2 v := fun {i q} hq => by
      have e1 : (kvs.map (·.1))[i]? = some (.inr q.1) := by
        rw [hk, List.getElem?_map, List.getElem?_map, hq]
        rfl
      obtain ⟨v, e2, rv⟩ := rs.at (i := i) (d := q.2) (by rw [List.getElem?_map, hq] <;> rfl)
      rw [List.getElem?_map] at e1 e2
      cases z : kvs[i]? with
      | none =>
        rw [z] at e1
        cases e1
      | some kv =>
        rw [z] at e1 e2
        obtain ⟨k1, k2⟩ := kv
        have f1 : k1 = .inr q.1 := Option.some.inj e1
        have f2 : k2 = v := Option.some.inj e2
        rw [f1, f2]
        exact ⟨v, rfl, rv⟩
    refine ⟨a, o, kvs, rfl, ha, q _ H1 _ μ1 p1 S1 ⟨fun i d H2 e p => ?_, fun i d H2 x H3 e p hy => ?_, fun H2 p => ?_⟩ k⟩
    · have hi := (List.getElem?_eq_some_iff.mp e).1
      rw [List.length_map] at hi
      exact ⟨p a _ trivial ha, by omega⟩
    · obtain ⟨T, kk, vv, e1, ex, hT, eH⟩ := hy
      subst ex eH
      rw [List.getElem?_map] at e
      cases z : L[i]? with
      | none =>
        rw [z] at e
        cases e
      | some q =>
        rw [z] at e
        have e2 : D.tup [.str q.1, q.2] = d := Option.some.inj e
        subst e2
        obtain ⟨v, e3, rv⟩ := at_ z
        rw [e1] at e3
        cases e3
        have P1 : Pst H2 (upd H2 T (.tup [kV (.inr q.1), vv])) := Pst.new hT
        refine ⟨fun b o' e' => ?_, T, _, rfl, upd_same, .cons rfl (.cons ((rv.mono p).mono P1) .nil)⟩
        rw [upd_ne (ne_of_none e' hT)]
        exact e'
    · rw [List.length_map]
      exact ⟨p a _ trivial ha, by omega⟩
/-- for k in d, d data -/
theorem i_keysD {td : TE} {P : List D → Mu → Prop} (h : X c td ρ μ fun d μ1 => ∃ L : AL, d = dicD L ∧ P (L.map fun q => .str q.1) μ1) : IX c (iKeys td) ρ μ P := fun σ H R S q =>
  h σ H _ S fun v H1 d μ1 p1 r1 S1 ⟨L, ed, k⟩ => by
    subst ed
    obtain ⟨a, o, kvs, rfl, ha, hk, rs⟩ := r1
    have hl : kvs.length = L.length := by
      have z := congrArg List.length hk
      rwa [List.length_map, List.length_map, List.length_map] at z
    refine ⟨a, o, rfl, .inl ⟨kvs, ha, q _ H1 _ μ1 p1 S1 ⟨fun i d H2 e p => ?_, fun i d H2 x H3 e p hy => ?_, fun H2 p => ?_⟩ k⟩⟩
    · have hi := (List.getElem?_eq_some_iff.mp e).1
      rw [List.length_map] at hi
      exact ⟨p a _ trivial ha, by omega⟩
    · obtain ⟨eH, kk, vv, e1, ex⟩ := hy
      subst ex eH
      rw [List.getElem?_map] at e
      cases z : L[i]? with
      | none =>
        rw [z] at e
        cases e
      | some q =>
        rw [z] at e
        have e2 : D.str q.1 = d := Option.some.inj e
        subst e2
        have e3 : (kvs.map (·.1))[i]? = some (.inr q.1) := by
          rw [hk, List.getElem?_map, List.getElem?_map, z]
          rfl
        rw [List.getElem?_map, e1] at e3
        have e4 : kk = .inr q.1 := Option.some.inj e3
        subst e4
        exact ⟨Same.refl _, rfl⟩
    · rw [List.length_map]
      exact ⟨p a _ trivial ha, by omega⟩
/-- xs[..], xs data -/
theorem s_lstD {ds : List D} {lo hi : Option Int} (k : ∀ p, P (.ref p) (μ ++ [(p, .lst (cut ds lo hi))])) : SX c (rSlL K) (.lst ds) lo hi μ P := fun ρ σ H v Q S r q => by
  obtain ⟨a, o, vs, rfl, ha, rs⟩ := r
  exact ⟨a, vs, rfl, .inl (.inr ⟨o, ha⟩), fun p hp => q _ _ (.ref p) _ (Pst.new hp) rfl (S.add hp (m := .lst (MW.cut ds lo hi)) ⟨_, upd_same, Reps.mono (Pst.new hp) _ _ (rs.cut lo hi)⟩) (k p)⟩
theorem zip_none {f : Str} : ∀ {fs : List Str} {vs : List V}, f ∉ fs → (fs.zip vs).lookup f = none
  | [], _, _ => rfl
  | _ :: _, [], _ => rfl
  | g :: fs, v :: vs, h => by
    rw [List.mem_cons, not_or] at h
    rw [List.zip_cons_cons, List.lookup_cons, show (f == g) = false from by simpa using h.1]
    exact zip_none h.2
/-- o.m(..) of an own class -/
theorem x_meth {C : Addr} {m : Str} {G : Spc} {ta : TE} {t : TA} (h : X c ta ρ μ fun d μ1 => ∃ fs ds, d = .ins C fs ds ∧ m ∉ fs ∧ AX c t ρ μ1 fun es μ2 => ∃ R, G (d :: es) R ∧ ∀ d', R d' → P d' μ2) : X c (tMeth C m (spF G) [] C8.E0 ta t) ρ μ P := fun σ H Q S q =>
  h σ H _ S fun v H1 d μ1 p1 r1 S1 ⟨fs, ds, ed, hm, k⟩ => by
    subst ed
    have r1' := r1
    obtain ⟨a, dx, vs, rfl, ha, rs⟩ := r1
    refine ⟨a, dx, _, rfl, ha, zip_none hm, k σ H1 _ S1 fun ws H2 es μ2 p2 r2 S2 ⟨R, g, k2⟩ => ⟨.ins C fs ds :: es, R, ?_, g, fun d' u H' sm ru z => q u H' d' μ2 ((p1.trans p2).trans (Pst.same sm)) ru (S2.same sm) (k2 d' z)⟩⟩
    rw [List.append_nil]
    exact .cons (r1'.mono p2) r2
theorem k_min2 {i j : Int} (k : P (.int (if j < i then j else i)) μ) : KX c (fun xs H Q => ∃ i j, xs = [.int i, .int j] ∧ Q (.int (if j < i then j else i)) H) [.int i, .int j] μ P := fun ρ σ H vs Q S r q => by
  obtain ⟨v, r0, rfl, rfl, u, r1, rfl, rfl, rfl⟩ := r
  exact ⟨i, j, rfl, q _ H (.int _) μ (Pst.refl H) rfl S k⟩
end
/-! ### small facts -/
theorem deep_ents {es : List (List Nat × Int)} (h : OkE es) : D.deeps 1 (es.map entD) := D.deeps_of fun d hd => by
  obtain ⟨e, he, rfl⟩ := List.mem_map.mp hd
  have h1 := low_ok (h.low e he).2.2
  unfold D.deep D.deeps D.deeps D.deeps
  exact ⟨by unfold D.deep; exact h1, by unfold D.deep; trivial, trivial⟩
theorem foeA_len (F : List (Wd × Wd)) : ((foeA F).map fun q => D.tup [.str q.1, q.2]).length = F.length := by
  rw [List.length_map, List.length_map]
theorem foeA_at {F : List (Wd × Wd)} {j : Nat} {d : D} (h : ((foeA F).map fun q => D.tup [.str q.1, q.2])[j]? = some d) : ∃ q, F[j]? = some q ∧ d = .tup [.str (tx q.1), .str (tx q.2)] := by
  rw [List.getElem?_map, List.getElem?_map] at h
  cases z : F[j]? with
  | none =>
    rw [z] at h
    cases h
  | some q =>
    rw [z] at h
    exact ⟨q, rfl, (Option.some.inj h).symm⟩
theorem foeA_at2 {F : List (Wd × Wd)} {j : Nat} {d : D} (h : ((foeA F).map fun q => D.str q.1)[j]? = some d) : ∃ q, F[j]? = some q ∧ d = .str (tx q.1) := by
  rw [List.getElem?_map, List.getElem?_map] at h
  cases z : F[j]? with
  | none =>
    rw [z] at h
    cases h
  | some q =>
    rw [z] at h
    exact ⟨q, rfl, (Option.some.inj h).symm⟩
theorem sgn_abc {p : Spl} {c : Nat} (h : c ∈ sgn p) : c ∈ abc := (List.mem_filter.mp h).1
theorem FoeL.nextless {p : Spl} {e : Ent} {k : Nat} {n : Int} {F : List (Wd × Wd)} (h : FoeL p e k n F) {j i : Nat} {q : Wd × Wd} {f : Ent} (hq : F[j]? = some q) (hf : p.es[i]? = some f) (hfq : f.1 = q.1) : ∃ k' : Nat, (lessP p ((F.take j).map (·.1))).es[k']? = some f := by
  refine List.getElem?_of_mem (List.mem_filter.mpr ⟨List.mem_of_getElem? hf, decide_eq_true fun z => ?_⟩)
  obtain ⟨q', hq', e'⟩ := List.mem_map.mp z
  obtain ⟨m, hm⟩ := List.getElem?_of_mem hq'
  have hl := (List.getElem?_eq_some_iff.mp hm).1
  rw [List.length_take] at hl
  rw [List.getElem?_take_of_lt (by omega)] at hm
  have a1 : (F.map (·.1))[m]? = some q.1 := by
    rw [List.getElem?_map, hm]
    exact congrArg some (e'.trans hfq)
  have a2 : (F.map (·.1))[j]? = some q.1 := by rw [List.getElem?_map, hq] <;> rfl
  have := nd_ix h.nd a1 a2
  omega
theorem Tx.subO2 {K : PySem.W.Frag} {mg : Str → Option Value} (T : Tx K mg) : ∀ f, Meth K (He.ga K "Speller") "__sub__" f → SubO K (He.ga K "Speller") f := fun f hm => by
  have e := hm.at_.symm.trans T.m_sub.at_
  have e2 : f = He.ma K (He.ga K "Speller") "__sub__" := Value.ref.inj (Option.some.inj (Option.some.inj e))
  rw [e2]
  exact T.subO
/-- what law promises -/
def spLaw (K : PySem.W.Frag) : Sp := fun vs H Q _ => ∃ a ns, vs = [.ref a] ∧ Scr K H a ns ∧ ns.length ≤ 63 ∧ ∀ H', Q (.bl true) H'
abbrev N_law : List Str := ["_law_script", "_law_draw", "_law_turn", "_law_case_here", "_law_book", "_law_term", "_law_fee", "_law_within", "_law_foes", "_law_less", "_law_foe", "_law_page", "_law_names", "_law_kept", "_law_total", "_law_name", "_law_entry"]
theorem sc_law : FnScope N_law ["_law_script"] (defScope s_law) := ⟨rfl, rfl, rfl, by decide +kernel, rfl, by decide +kernel, by decide +kernel⟩
abbrev lawX (w : World) (K : PySem.W.Frag) (mg : Str → Option Value) (base : Heap) (cdv : Value) (Ar : Around) (outer : List Env) (s0 : Shared) (H0 : Hp) (E0 : XK) : Cx := (cxOf C8.CX0 P0 w K mg base N_law "law" (defScope s_law) (He.ga K "law") cdv Ar outer s0 H0 E0).nox
def forBd : Stmt → List Stmt
  | .For _ _ b _ _ => b
  | _ => []
abbrev stN : Stmt := .Pass ⟨0, 0, 0, 0⟩

/-- the body of the loop over the foes and their pages -/
theorem law_B3 {w : World} {K : PySem.W.Frag} {mg : Str → Option Value} {base : Heap} (T : Tx K mg) (M : TmOk P0 w K mg base) {cdv : Value} {Ar : Around} {outer : List Env} {s0 : Shared} {H0 : Hp} {E0 : XK} (hr : Room 14 (Ar.deeper (envOfC "law" (defScope s_law) s0.heap.objs.size (He.ga K "law") cdv))) : ∃ t, PSs (lawX w K mg base cdv Ar outer s0 H0 E0) (forBd ((forBd ((forBd ((defBody s_law).getD 1 stN)).getD 3 stN)).getD 3 stN)) t ∧
    ∀ {c : Cn} {A : DA} {μ : Mu} {es : List Ent} {s : Slp} {e : Ent} {i : Nat} {n : Int} {F : List (Wd × Wd)} {j : Nat} {q : Wd × Wd} {x0 x1 x2 x3 x6 x8 x12 x13 x14 x15 x16 : Option D}, OkE es → OkL s → es[i]? = some e → FoeL (⟨es, s⟩ : Spl) e i n F → F[j]? = some q →
      (∀ x12 μ', μ.Sublist μ' → A.nx [x0, x1, x2, x3, some (splD K (⟨es, s⟩ : Spl)), some (.str (tx e.1)), x6, some (.int n), x8, some (splD K (lessP (⟨es, s⟩ : Spl) ((F.take (j + 1)).map (·.1)))), some (.str (tx q.1)), some (.str (tx q.2)), x12, x13, x14, x15, x16] μ') →
      XS c t [x0, x1, x2, x3, some (splD K (⟨es, s⟩ : Spl)), some (.str (tx e.1)), x6, some (.int n), x8, some (splD K (lessP (⟨es, s⟩ : Spl) ((F.take j).map (·.1)))), some (.str (tx q.1)), some (.str (tx q.2)), x12, x13, x14, x15, x16] μ A := by
  have nd := sc_law.nd
  refine ⟨_, (pss_cons (ps_setLc (i := 12) (own := [("_law_total", 14), ("_law_name", 15)]) (g := (gTup K 2 (gCons (gName 14) (gCons (gName 15) gNil)))) (tt := tYes) (te := (tVar 15)) rfl nd rfl rfl (sw_true rfl rfl rfl (by decide +kernel)) (pi_list (C8.pe_mt T.q_Speller_ranking hr (by decide) (pv 4) (pa_cons (pv 11) pa_nil))) (blkOk_by (N := N_law) (sc := defScope s_law) (by decide +kernel)) (fun _ _ _ _ _ => (pg_tup rfl (pgs_cons (pg_name (i := 14) nd rfl (by first | exact Or.inl rfl | exact Or.inr rfl)) (pgs_cons (pg_name (i := 15) nd rfl (by first | exact Or.inl rfl | exact Or.inr rfl)) pgs_nil)))) (fun _ _ _ _ _ => pts_nil) (fun _ _ _ _ _ => (pv 15)))
  (pss_cons (ps_if (PW.pt (pw_or (pt_cmpR op_gt (pe_bm PySem.F.plainAttrs_list PySem.F.slot_list_index PySem.F.type_list_index mt_index (pv 12) (pa_cons (pv 10) pa_nil)) (pe_bm PySem.F.plainAttrs_list PySem.F.slot_list_index PySem.F.type_list_index mt_index (pv 12) (pa_cons (pv 5) pa_nil)) (nomark _)) (pw_or1 (pt_cmpR op_gt (pe_c T.c_price hr (by decide) (by rfl) (pa_cons (pe_P T.pr_slips (pv 4) hr (by decide)) (pa_cons (pv 5) (pa_cons (pv 11) pa_nil)))) (pv 7) (nomark _))))) (pss_one (ps_ret pe_bl)) pss_nil)
  (pss_one (ps_set (i := 9) nd rfl (by first | exact Or.inl rfl | exact Or.inr rfl) (pe_op (op_ownSub T.q_Speller_sub T.subO2 hr (by decide)) (pv 9) (pv 10)))))), ?_⟩
  intro c A μ es s e i n F j q x0 x1 x2 x3 x6 x8 x12 x13 x14 x15 x16 oe os he hF hq hA
  have hp : OkP (⟨es, s⟩ : Spl) := OkP.of oe os
  have he2 : ((⟨es, s⟩ : Spl)).es[i]? = some e := he
  have hqm := List.mem_of_getElem? hq
  obtain ⟨f, k2, g, hf, ho, hlen⟩ := hF.good q hqm
  have hlow : Low q.2 := ⟨by omega, fun c hc => sgn_abc (ho c hc)⟩
  have hpr : price s e.1 q.2 ≤ n := g.2.2.1
  walk_at "ad"
  refine x_mapG (js := [14] ++ ([15] ++ [])) (fun (l : List Trp) μ1 => l.Perm (trips es (totV (⟨es, s⟩ : Spl) q.2) es.length) ∧ (l.Pairwise fun x y => ¬ Tlt y x) ∧ μ1 = μ) (fun x => .tup [.int x.1, .str (tx x.2.2)]) (fun x => txD x.2.2) (by decide) (fun l μ1 h => by have h1 := h.1.length_eq; rw [trips_len] at h1; have h2 := oe.len; omega) ?_ ?_ ?_
  · refine i_lst ?_
    refine x_meth ?_
    walk_at "ad"
    refine ⟨_, _, rfl, by decide +kernel, ?_⟩
    walk_at "ad"
    refine ⟨_, ⟨(⟨es, s⟩ : Spl), q.2, hp, hlow, rfl, rfl⟩, ?_⟩
    rintro _ ⟨l, h1, h2, rfl⟩
    exact ⟨_, rfl, l, rfl, h1, h2, rfl⟩
  · intro l μ1 i2 x acc p hG hx
    obtain ⟨_, _, rfl⟩ := hG
    walk_at "ad"
    exact ⟨rfl, List.Sublist.refl _⟩
  intro l μ1 p hG
  obtain ⟨h1, h2, rfl⟩ := hG
  have em : l.map (fun x => txD x.2.2) = (l.map (fun x => x.2.2)).map txD := by
    rw [List.map_map]
    rfl
  rw [em]
  obtain ⟨rn, rin, ro⟩ := rank_order hp h1 h2
  obtain ⟨ia, hia⟩ := List.getElem?_of_mem (rin f (List.mem_of_getElem? g.1))
  obtain ⟨ib, hib⟩ := List.getElem?_of_mem (rin e (List.mem_of_getElem? he2))
  have hab : ia ≤ ib := ro g.1 he2 g.2.2.2 hia hib
  rw [hf] at hia
  have hat : (μ1 ++ [(p, MO.lst ((l.map (fun x => x.2.2)).map txD))])[μ1.length]? = some (p, MO.lst ((l.map (fun x => x.2.2)).map txD)) := by
    rw [List.getElem?_append_right (Nat.le_refl _), Nat.sub_self]
    rfl
  walk_at "ad"
  refine x_BM ?_
  walk_at "ad"
  refine ⟨ty_lst (j := μ1.length) hat, ?_⟩
  walk_at "ad"
  refine m_index (j := μ1.length) (i := ia) hat hia (fun m hm z => by have := nd_ix rn z hia; omega) ?_
  refine x_BM ?_
  walk_at "ad"
  refine ⟨ty_lst (j := μ1.length) hat, ?_⟩
  walk_at "ad"
  refine m_index (j := μ1.length) (i := ib) hat hib (fun m hm z => by have := nd_ix rn z hib; omega) ?_
  walk_at "ad"
  refine brF (decide_eq_false (by omega)) ?_
  walk_at "ad"
  refine ⟨_, ⟨s, e.1, q.2, ⟨by have := (oe.low e (List.mem_of_getElem? he)).2.1; omega, (oe.low e (List.mem_of_getElem? he)).2.2⟩, hlow, rfl, rfl⟩, ?_⟩
  rintro _ rfl
  walk_at "ad"
  refine brF (decide_eq_false (by omega)) ?_
  walk_at "ad"
  obtain ⟨k5, hk5⟩ := hF.nextless (j := j) hq g.1 hf
  refine r_ownSub ⟨_, ⟨lessP (⟨es, s⟩ : Spl) ((F.take j).map (·.1)), f, k5, hp.sub (lessP_sub _ _), hk5, by rw [hf], rfl⟩, ?_⟩
  rintro d rfl
  refine ⟨⟨_, _, _, rfl⟩, ?_⟩
  have el : drop1 (lessP (⟨es, s⟩ : Spl) ((F.take j).map (·.1))) k5 = lessP (⟨es, s⟩ : Spl) ((F.take (j + 1)).map (·.1)) := by
    rw [less_drop hp hk5, hf, List.take_succ, hq, List.map_append]
    rfl
  rw [el]
  walk_at "ad"
  exact hA _ _ (List.sublist_append_left _ _)


/-- the body of the loop over the foes -/
theorem law_B4 {w : World} {K : PySem.W.Frag} {mg : Str → Option Value} {base : Heap} (T : Tx K mg) (M : TmOk P0 w K mg base) {cdv : Value} {Ar : Around} {outer : List Env} {s0 : Shared} {H0 : Hp} {E0 : XK} (hr : Room 14 (Ar.deeper (envOfC "law" (defScope s_law) s0.heap.objs.size (He.ga K "law") cdv))) : ∃ t, PSs (lawX w K mg base cdv Ar outer s0 H0 E0) (forBd ((forBd ((forBd ((defBody s_law).getD 1 stN)).getD 3 stN)).getD 5 stN)) t ∧
    ∀ {c : Cn} {A : DA} {μ : Mu} {es : List Ent} {s : Slp} {e : Ent} {i : Nat} {n : Int} {F : List (Wd × Wd)} {q : Wd × Wd} {x0 x1 x2 x3 x6 x8 x11 x12 x13 x14 x15 x16 : Option D}, OkE es → OkL s → es[i]? = some e → FoeL (⟨es, s⟩ : Spl) e i n F → q ∈ F → NotMany (⟨es, s⟩ : Spl) 300 →
      (∀ x13 μ', μ.Sublist μ' → A.nx [x0, x1, x2, x3, some (splD K (⟨es, s⟩ : Spl)), some (.str (tx e.1)), x6, some (.int n), x8, some (splD K (lessP (⟨es, s⟩ : Spl) (F.map (·.1)))), some (.str (tx q.1)), x11, x12, x13, x14, x15, x16] μ') →
      XS c t [x0, x1, x2, x3, some (splD K (⟨es, s⟩ : Spl)), some (.str (tx e.1)), x6, some (.int n), x8, some (splD K (lessP (⟨es, s⟩ : Spl) (F.map (·.1)))), some (.str (tx q.1)), x11, x12, x13, x14, x15, x16] μ A := by
  have nd := sc_law.nd
  refine ⟨_, (pss_cons (ps_set (i := 13) nd rfl (by first | exact Or.inl rfl | exact Or.inr rfl) (C8.pe_mk T.k_Speller hr (by decide) (by rfl) (pa_cons (pe_fz (pe_lc (own := [("_law_entry", 16)]) (g := (gName 16)) (tt := (tOr (tTest (tOp rEq (tOp (rIxT K) (tVar 16) (tC (.int 0))) (tVar 10))) (tTest (tOp (rOwnIn (He.ga K "Speller") (G_Speller_contains K)) (tOp (rIxT K) (tVar 16) (tC (.int 0))) (tVar 9))))) (te := (tVar 16)) rfl nd (pi_tup (pe_P T.pr_entries (pv 4) hr (by decide))) (blkOk_by (N := N_law) (sc := defScope s_law) (by decide +kernel)) (fun _ _ _ _ _ => (pg_name (i := 16) nd rfl (by first | exact Or.inl rfl | exact Or.inr rfl))) (fun _ _ _ _ _ => (pts_one (PW.pt (pw_or (pt_cmpR op_eq (pe_ix ix_tup (pv 16) pe_int (fun _ _ => rfl)) (pv 10) (nomark _)) (pw_or1 (pt_cmpR (op_ownIn T.q_Speller_contains hr (by decide)) (pe_ix ix_tup (pv 16) pe_int (fun _ _ => rfl)) (pv 9) (by rfl))))))) (fun _ _ _ _ _ => (pv 16)))) (pa_cons (pe_P T.pr_slips (pv 4) hr (by decide)) pa_nil))))
  (pss_one (ps_if (pt_val (pe_c (T.c_law_is_understood M) hr (by decide) (by rfl) (pa_cons (pv 13) (pa_cons (pv 5) (pa_cons (pv 7) pa_nil))))) (pss_one (ps_ret pe_bl)) pss_nil))), ?_⟩
  intro c A μ es s e i n F q x0 x1 x2 x3 x6 x8 x11 x12 x13 x14 x15 x16 oe os he hF hqm nm hA
  have hp : OkP (⟨es, s⟩ : Spl) := OkP.of oe os
  have he2 : ((⟨es, s⟩ : Spl)).es[i]? = some e := he
  obtain ⟨k4, hk4, hu4⟩ := hF.chk4 hp he2 hqm
  have hpk : OkP (keptP (⟨es, s⟩ : Spl) q.1 (F.map (·.1))) := hp.sub (keptP_sub _ _ _)
  have hpl : OkP (lessP (⟨es, s⟩ : Spl) (F.map (·.1))) := hp.sub (lessP_sub _ _)
  obtain ⟨kp, hkp⟩ : ∃ kp, kp = keptP (⟨es, s⟩ : Spl) q.1 (F.map (·.1)) := ⟨_, rfl⟩
  have hnk : NotMany kp 2000 := by
    rw [hkp]
    exact (nm.small hpk hp (keptP_sub _ _ _).sub).mono (by decide)
  rw [← hkp] at hk4 hu4 hpk
  have hsl : kp.sl = s := by rw [hkp] <;> rfl
  walk_at "ad"
  refine x_mkSpl (mk := D.lst) ?_
  refine a_cons ?_
  refine x_fz ?_
  refine x_filt (js := [16]) es entD entD (fun x => decide (x.1 = q.1) || decide (x.1 ∈ (lessP (⟨es, s⟩ : Spl) (F.map (·.1))).es.map (·.1))) μ (by decide) (by have := oe.len; omega) ?_ ?_ ?_
  · walk_at "ad"
    exact ⟨rfl, rfl⟩
  · intro i2 x acc p hx
    walk_at "ad"
    refine brD (fun z1 => ?_) (fun z1 => ?_)
    · have hpp : (decide (x.1 = q.1) || decide (x.1 ∈ (lessP (⟨es, s⟩ : Spl) (F.map (·.1))).es.map (·.1))) = true := by rw [decide_eq_true (tx_inj z1)]; rfl
      refine ⟨hpp.symm, fun _ => ?_, fun z => by rw [hpp] at z; cases z⟩
      walk_at "ad"
      exact ⟨rfl, List.Sublist.refl _⟩
    · have z2 : ¬ x.1 = q.1 := fun z => z1 (by rw [z])
      walk_at "ad"
      refine r_ownIn ⟨_, ⟨lessP (⟨es, s⟩ : Spl) (F.map (·.1)), x.1, hpl, rfl, rfl⟩, ?_⟩
      rintro _ rfl
      refine ⟨_, rfl, ?_⟩
      refine ⟨_, rfl, ?_⟩
      have hpp : (decide (x.1 = q.1) || decide (x.1 ∈ (lessP (⟨es, s⟩ : Spl) (F.map (·.1))).es.map (·.1))) = decide (x.1 ∈ (lessP (⟨es, s⟩ : Spl) (F.map (·.1))).es.map (·.1)) := by rw [decide_eq_false z2]; rfl
      refine ⟨hpp.symm, fun _ => ?_, fun _ => List.Sublist.refl _⟩
      walk_at "ad"
      exact ⟨rfl, List.Sublist.refl _⟩
  · intro p
    have hes : es.filter (fun x => decide (x.1 = q.1) || decide (x.1 ∈ (lessP (⟨es, s⟩ : Spl) (F.map (·.1))).es.map (·.1))) = kp.es := by rw [hkp] <;> rfl
    rw [hes]
    refine ⟨_, _, μ.length, rfl, by rw [List.getElem?_append_right (Nat.le_refl _), Nat.sub_self]; rfl, ?_⟩
    walk_at "ad"
    refine ⟨kp, by rw [hsl], hpk.e, ?_⟩
    walk_at "ad"
    refine ⟨_, ⟨kp, e, k4, n, hpk, hk4, hnk, rfl, rfl⟩, ?_⟩
    rintro _ ⟨b3, rfl, hb3⟩
    refine ⟨_, rfl, ?_⟩
    have e3 : b3 = false := by
      cases b3 with
      | false => rfl
      | true => exact absurd (hb3.mp rfl) hu4
    refine brF e3 ?_
    walk_at "ad"
    refine hA _ _ ?_
    rw [List.eraseIdx_append_of_length_le (Nat.le_refl _)]
    exact List.sublist_append_left _ _


/-- the body of the loop over the words -/
theorem law_B2 {w : World} {K : PySem.W.Frag} {mg : Str → Option Value} {base : Heap} (T : Tx K mg) (M : TmOk P0 w K mg base) {cdv : Value} {Ar : Around} {outer : List Env} {s0 : Shared} {H0 : Hp} {E0 : XK} (hr : Room 14 (Ar.deeper (envOfC "law" (defScope s_law) s0.heap.objs.size (He.ga K "law") cdv))) : ∃ tt, PSs (lawX w K mg base cdv Ar outer s0 H0 E0) (forBd ((forBd ((defBody s_law).getD 1 stN)).getD 3 stN)) tt ∧
    ∀ {c : Cn} {A : DA} {mo : MO} {cd dr la ca : Addr} {large ns : List Int} {r t m : Int} {es : List Ent} {s : Slp} {e : Ent} {i : Nat} {x7 x8 x9 x10 x11 x12 x13 x14 x15 x16 x0 x2 x3 : Option D}, OkDr large r m → ns.length ≤ 63 → OkE es → OkL s → es[i]? = some e → NotMany (⟨es, s⟩ : Spl) 300 →
      (∀ large r t m x7 x8 x9 x10 x11 x12 x13 x14 x15 x16 μ', OkDr large r m → (drM dr la ca large ns r t m ++ [(cd, mo)]).Sublist μ' → A.nx [x0, some (.ref dr), x2, x3, some (splD K (⟨es, s⟩ : Spl)), some (.str (tx e.1)), some (.int e.2), x7, x8, x9, x10, x11, x12, x13, x14, x15, x16] μ') →
      XS c tt [x0, some (.ref dr), x2, x3, some (splD K (⟨es, s⟩ : Spl)), some (.str (tx e.1)), some (.int e.2), x7, x8, x9, x10, x11, x12, x13, x14, x15, x16] (drM dr la ca large ns r t m ++ [(cd, mo)]) A := by
  have nd := sc_law.nd
  obtain ⟨t3, p3, r3⟩ := law_B3 T M (outer := outer) (s0 := s0) (H0 := H0) (E0 := E0) hr
  obtain ⟨t4, p4, r4⟩ := law_B4 T M (outer := outer) (s0 := s0) (H0 := H0) (E0 := E0) hr
  refine ⟨_, (pss_cons (ps_set (i := 7) nd rfl (by first | exact Or.inl rfl | exact Or.inr rfl) (pe_c T.c_law_pick hr (by decide) (by rfl) (pa_cons (pv 1) (pa_cons (pe_fz (pe_lst (pa_cons pe_int (pa_cons pe_int (pa_cons pe_int (pa_cons pe_int (pa_cons (pe_c T.c_law_take hr (by decide) (by rfl) (pa_cons (pv 1) (pa_cons pe_int pa_nil))) pa_nil))))))) pa_nil))))
  (pss_cons (ps_asg (pe_tup (pa_cons (pe_c (T.c_rivals M) hr (by decide) (by rfl) (pa_cons (pv 4) (pa_cons (pv 5) (pa_cons (pv 7) pa_nil)))) (pa_cons (pv 4) pa_nil))) (pg_tup rfl (pgs_cons (pg_name (i := 8) nd rfl (by first | exact Or.inl rfl | exact Or.inr rfl)) (pgs_cons (pg_name (i := 9) nd rfl (by first | exact Or.inl rfl | exact Or.inr rfl)) pgs_nil))))
  (pss_cons (ps_if (pt_cmpR op_ne (pe_c (T.c_law_is_understood M) hr (by decide) (by rfl) (pa_cons (pv 4) (pa_cons (pv 5) (pa_cons (pv 7) pa_nil)))) (pe_cmpR (op_eqDn hr.units0) (pv 8) pe_dnewK (nomark _)) (nomark _)) (pss_one (ps_ret pe_bl)) pss_nil)
  (pss_cons (ps_for PassesOwn.never rfl (pi_items (pv 8)) (pg_tup rfl (pgs_cons (pg_name (i := 10) nd rfl (by first | exact Or.inl rfl | exact Or.inr rfl)) (pgs_cons (pg_name (i := 11) nd rfl (by first | exact Or.inl rfl | exact Or.inr rfl)) pgs_nil))) p3)
  (pss_cons (ps_if (pt_not (pt_val (pe_c (T.c_law_is_understood M) hr (by decide) (by rfl) (pa_cons (pv 9) (pa_cons (pv 5) (pa_cons (pv 7) pa_nil)))))) (pss_one (ps_ret pe_bl)) pss_nil)
  (pss_one (ps_for PassesOwn.never rfl (pi_keys (pv 8)) (pg_name (i := 10) nd rfl (by first | exact Or.inl rfl | exact Or.inr rfl)) p4))))))), ?_⟩
  intro c A mo cd dr la ca large ns r t m es s e i x7 x8 x9 x10 x11 x12 x13 x14 x15 x16 x0 x2 x3 ok hl oe os he nm hA
  have hp : OkP (⟨es, s⟩ : Spl) := OkP.of oe os
  have he2 : ((⟨es, s⟩ : Spl)).es[i]? = some e := he
  have nm2 : NotMany (⟨es, s⟩ : Spl) 2000 := nm.mono (by decide)
  walk_at "ad"
  refine x_callM ?_
  walk_at "ad"
  refine x_fz ?_
  refine x_lst ?_
  walk_at "ad"
  refine x_callM ?_
  walk_at "ad"
  refine ⟨drM dr la ca large ns r t m, [(cd, mo)], _, List.Perm.refl _, ⟨dr, la, ca, large, ns, r, t, m, 13, ok, by decide, by decide, hl, rfl, rfl, rfl⟩, ?_⟩
  rintro d μ' ⟨large, r, t, m, ok, ⟨v, hv0, hv1, rfl⟩, rfl⟩
  walk_at "ad"
  refine ⟨by simp, fun q => ?_⟩
  refine ⟨_, _, 4, rfl, rfl, ?_⟩
  walk_at "ad"
  refine ⟨drM dr la ca large ns r t m, [(cd, mo)], _, List.Perm.refl _, ⟨dr, la, ca, large, ns, r, t, m, _, ok, by simp, by simp, hl, rfl, rfl, rfl⟩, ?_⟩
  rintro d μ' ⟨large, r, t, m, ok, hd2, rfl⟩
  obtain ⟨n, rfl, hn0, hn1⟩ : ∃ n : Int, d = .int n ∧ 0 ≤ n ∧ n ≤ 12 := by
    simp only [List.mem_cons, List.not_mem_nil, or_false] at hd2
    rcases hd2 with rfl | rfl | rfl | rfl | rfl <;> exact ⟨_, rfl, by omega, by omega⟩
  walk_at "ad"
  refine x_tup ?_
  walk_at "ad"
  refine x_call [.int 2000] (fun _ => .cons rfl .nil) ?_
  walk_at "ad"
  refine ⟨_, ⟨(⟨es, s⟩ : Spl), e, i, n, hp, he2, hn0, by omega, nm2, rfl, rfl⟩, ?_⟩
  intro d hd3
  obtain ⟨F, rfl, hF⟩ := riv_foes hd3
  walk_at "ad"
  refine ⟨by simp, ?_⟩
  walk_at "ad"
  refine ⟨_, ⟨(⟨es, s⟩ : Spl), e, i, n, hp, he2, nm2, rfl, rfl⟩, ?_⟩
  rintro _ ⟨b, rfl, hb⟩
  walk_at "ad"
  refine x_dnew fun q => ?_
  refine r_eqDn (j := 4) rfl ?_
  refine r_neB ?_
  have eb : b = (foeA F).isEmpty := by
    have h1 := hF.chk1 hp he2
    cases F with
    | nil => exact hb.mpr (h1.mpr rfl)
    | cons q F =>
      cases b with
      | false => rfl
      | true => exact absurd (h1.mp (hb.mp rfl)) (by simp)
  refine ⟨_, rfl, ?_⟩
  refine brF (by rw [eb]; simp) ?_
  walk_at "ad"
  refine xs_forS (js := [10] ++ ([11] ++ [])) (fun j ρ μ => ∃ (x10 x11 x12 : Option D), ρ = [x0, some (.ref dr), x2, x3, some (splD K (⟨es, s⟩ : Spl)), some (.str (tx e.1)), some (.int e.2), some (.int n), some (dicD (foeA F)), some (splD K (lessP (⟨es, s⟩ : Spl) ((F.take j).map (·.1)))), x10, x11, x12, x13, x14, x15, x16] ∧ μ = drM dr la ca large ns r t m ++ [(cd, mo)]) ?_
  refine i_items ?_
  walk_at "ad"
  refine ⟨⟨_, List.sublist_append_left _ _, x10, x11, x12, by rw [List.take_zero, List.map_nil, lessP_nil] <;> rfl, rfl⟩, ?_, ?_⟩
  · intro j d ρ' μ' hd hI
    obtain ⟨x10, x11, x12, rfl, rfl⟩ := hI
    obtain ⟨q, hq, rfl⟩ := foeA_at hd
    walk_at "ad"
    exact r3 oe os he hF hq fun x12 μ' sl => ⟨_, sl, _, _, _, rfl, rfl⟩
  · intro ρ' μ' hI
    obtain ⟨x10, x11, x12, rfl, rfl⟩ := hI
    rw [foeA_len, List.take_length]
    obtain ⟨k3, hk3, hu3⟩ := hF.chk3 hp he2
    have hpl : OkP (lessP (⟨es, s⟩ : Spl) (F.map (·.1))) := hp.sub (lessP_sub _ _)
    walk_at "ad"
    refine ⟨_, ⟨lessP (⟨es, s⟩ : Spl) (F.map (·.1)), e, k3, n, hpl, hk3, (nm.small hpl hp (lessP_sub _ _).sub).mono (by decide), rfl, rfl⟩, ?_⟩
    rintro _ ⟨b2, rfl, hb2⟩
    refine ⟨_, rfl, ?_⟩
    refine brF (by rw [hb2.mpr hu3]; rfl) ?_
    walk_at "ad"
    refine xs_forS (js := [10]) (fun j ρ μ => ∃ (x10 x13 : Option D), ρ = [x0, some (.ref dr), x2, x3, some (splD K (⟨es, s⟩ : Spl)), some (.str (tx e.1)), some (.int e.2), some (.int n), some (dicD (foeA F)), some (splD K (lessP (⟨es, s⟩ : Spl) (F.map (·.1)))), x10, x11, x12, x13, x14, x15, x16] ∧ μ = drM dr la ca large ns r t m ++ [(cd, mo)]) ?_
    refine i_keysD ?_
    walk_at "ad"
    refine ⟨⟨_, List.Sublist.refl _, x10, x13, rfl, rfl⟩, ?_, ?_⟩
    · intro j d ρ' μ' hd hI
      obtain ⟨x10, x13, rfl, rfl⟩ := hI
      obtain ⟨q, hq, rfl⟩ := foeA_at2 hd
      walk_at "ad"
      exact r4 oe os he hF (List.mem_of_getElem? hq) nm fun x13 μ' sl => ⟨_, sl, _, _, rfl, rfl⟩
    · intro ρ' μ' hI
      obtain ⟨x10, x13, rfl, rfl⟩ := hI
      exact hA _ _ _ _ _ _ _ _ _ _ _ _ _ _ _ ok (List.Sublist.refl _)


/-- the body of the loop over the turns -/
theorem law_B1 {w : World} {K : PySem.W.Frag} {mg : Str → Option Value} {base : Heap} (T : Tx K mg) (M : TmOk P0 w K mg base) {cdv : Value} {Ar : Around} {outer : List Env} {s0 : Shared} {H0 : Hp} {E0 : XK} (hr : Room 14 (Ar.deeper (envOfC "law" (defScope s_law) s0.heap.objs.size (He.ga K "law") cdv))) : ∃ tt, PSs (lawX w K mg base cdv Ar outer s0 H0 E0) (forBd ((defBody s_law).getD 1 stN)) tt ∧
    ∀ {c : Cn} {A : DA} {dr la ca : Addr} {large ns : List Int} {r t m : Int} {x2 x3 x4 x5 x6 x7 x8 x9 x10 x11 x12 x13 x14 x15 x16 x0 : Option D}, OkDr large r m → ns.length ≤ 63 →
      (∀ large r t m x3 x4 x5 x6 x7 x8 x9 x10 x11 x12 x13 x14 x15 x16 μ', OkDr large r m → (drM dr la ca large ns r t m).Sublist μ' → A.nx [x0, some (.ref dr), x2, x3, x4, x5, x6, x7, x8, x9, x10, x11, x12, x13, x14, x15, x16] μ') →
      XS c tt [x0, some (.ref dr), x2, x3, x4, x5, x6, x7, x8, x9, x10, x11, x12, x13, x14, x15, x16] (drM dr la ca large ns r t m) A := by
  have nd := sc_law.nd
  obtain ⟨t2, p2, r2⟩ := law_B2 T M (outer := outer) (s0 := s0) (H0 := H0) (E0 := E0) hr
  refine ⟨_, (pss_cons (ps_set (i := 3) nd rfl (by first | exact Or.inl rfl | exact Or.inr rfl) (pe_c T.c_law_case hr (by decide) (by rfl) (pa_cons (pv 1) (pa_cons pe_int (pa_cons pe_int pa_nil)))))
  (pss_cons (ps_set (i := 4) nd rfl (by first | exact Or.inl rfl | exact Or.inr rfl) (pe_c T.c_law_speller hr (by decide) (by rfl) (pa_cons (pv 3) pa_nil)))
  (pss_cons (ps_while PassesOwn.never (PW.pt (pw_and (pt_cmpR (op_neD hr.units) (pe_dget (hu_of hr) (pv 3) pe_str (fun _ _ => rfl)) (pe_lst pa_nil) (nomark _)) (pw_and1 (pt_val (pe_c (T.c_law_is_great M) hr (by decide) (by rfl) (pa_cons (pv 4) pa_nil)))))) (pss_cons (ps_dput (hu_of hr) (pv 3) pe_str (pe_fz (pe_slice sl_list (pe_dget (hu_of hr) (pv 3) pe_str (fun _ _ => rfl)) (po_some pe_int) po_none)) rfl)
  (pss_one (ps_set (i := 4) nd rfl (by first | exact Or.inl rfl | exact Or.inr rfl) (pe_c T.c_law_speller hr (by decide) (by rfl) (pa_cons (pv 3) pa_nil))))))
  (pss_one (ps_for PassesOwn.never rfl (pi_list (pe_dget (hu_of hr) (pv 3) pe_str (fun _ _ => rfl))) (pg_tup rfl (pgs_cons (pg_name (i := 5) nd rfl (by first | exact Or.inl rfl | exact Or.inr rfl)) (pgs_cons (pg_name (i := 6) nd rfl (by first | exact Or.inl rfl | exact Or.inr rfl)) pgs_nil))) p2))))), ?_⟩
  intro c A dr la ca large ns r t m x2 x3 x4 x5 x6 x7 x8 x9 x10 x11 x12 x13 x14 x15 x16 x0 ok hl hA
  walk_at "ad"
  refine x_callM ?_
  walk_at "ad"
  refine ⟨drM dr la ca large ns r t m, [], _, by rw [List.append_nil], ⟨dr, la, ca, large, ns, r, t, m, ok, hl, rfl, rfl, rfl⟩, ?_⟩
  rintro d μ' ⟨cd, ls, s, es, large, r, t, m, ok, oe, os, rfl, rfl⟩
  rw [List.append_nil]
  walk_at "ad"
  refine X.perm ?_
  refine x_callM ?_
  walk_at "ad"
  refine ⟨[(cd, dicM (csL ls s es))], drM dr la ca large ns r t m, _, List.perm_append_comm, ⟨cd, ls, (⟨es, s⟩ : Spl), oe, os, rfl, rfl, rfl⟩, ?_⟩
  rintro d μ' ⟨rfl, rfl⟩
  refine ⟨drM dr la ca large ns r t m ++ [(cd, dicM (csL ls s es))], List.perm_append_comm, ?_⟩
  walk_at "ad"
  refine XS.imp (A := { nx := fun ρ' μ' => ∃ es, OkE es ∧ (es = [] ∨ NotMany (⟨es, s⟩ : Spl) 300) ∧ ρ' = [x0, some (.ref dr), x2, some (.ref cd), some (splD K (⟨es, s⟩ : Spl)), x5, x6, x7, x8, x9, x10, x11, x12, x13, x14, x15, x16] ∧ (drM dr la ca large ns r t m ++ [(cd, dicM (csL ls s es))]).Sublist μ', rt := fun _ _ => False }) ?_ ?_ (fun _ _ z => z.elim) (fun _ _ z => z.elim) (fun _ _ z => z.elim)
  · refine xs_whileS (fun n ρ μ => ∃ es, OkE es ∧ n = es.length ∧ ρ = [x0, some (.ref dr), x2, some (.ref cd), some (splD K (⟨es, s⟩ : Spl)), x5, x6, x7, x8, x9, x10, x11, x12, x13, x14, x15, x16] ∧ μ = drM dr la ca large ns r t m ++ [(cd, dicM (csL ls s es))]) es.length ⟨es, oe, rfl, rfl, rfl⟩ fun n ρ' μ' hI => ?_
    obtain ⟨es, oe, rfl, rfl, rfl⟩ := hI
    walk_at "ad"
    refine x_dgetM ?_
    walk_at "ad"
    refine ⟨cd, 3, csL ls s es, _, _, rfl, rfl, rfl, cs_entries, ?_⟩
    walk_at "ad"
    rename_i q
    refine r_neLd (j := 4) rfl (n := 1) (by decide) (deep_ents oe) ?_
    refine ⟨_, rfl, ?_⟩
    cases es with
    | nil =>
      refine brF rfl ?_
      refine ⟨(fun z => by cases z), fun _ => ?_⟩
      exact ⟨[], oe, .inl rfl, rfl, List.sublist_append_left _ _⟩
    | cons e0 es0 =>
      have oe0 : OkE es0 := oe.drop 0
      refine brT rfl ?_
      walk_at "ad"
      refine ⟨_, ⟨⟨e0 :: es0, s⟩, OkP.of oe os, rfl, rfl⟩, ?_⟩
      rintro _ ⟨b, rfl, hb⟩
      refine ⟨_, rfl, ?_⟩
      cases b with
      | false =>
        refine ⟨(fun z => by cases z), fun _ => ?_⟩
        exact ⟨e0 :: es0, oe, .inr (hb rfl), rfl, List.sublist_append_left _ _⟩
      | true =>
        refine ⟨fun _ => ?_, fun z => by cases z⟩
        walk_at "ad"
        refine xs_dput ?_
        refine x_fz ?_
        refine x_sl ?_
        refine x_dgetM ?_
        walk_at "ad"
        refine ⟨cd, 3, csL ls s (e0 :: es0), _, _, rfl, rfl, rfl, cs_entries, ?_⟩
        walk_at "ad"
        refine s_lstD fun q2 => ?_
        refine ⟨_, _, 5, rfl, rfl, ?_⟩
        have c1 : cut ((e0 :: es0).map entD) (some 1) none = es0.map entD := cut_drop (k := 1) (by simp)
        rw [c1]
        walk_at "ad"
        refine ⟨cd, 3, csL ls s (e0 :: es0), _, rfl, rfl, rfl, (by show 3 < 100000; decide), ?_⟩
        rw [put_entries]
        walk_at "ad"
        refine X.perm (X.let (ν := []) ?_)
        refine x_callM ?_
        walk_at "ad"
        refine ⟨[(cd, dicM (csL ls s es0))], drM dr la ca large ns r t m ++ [(q, .lst [])], _, ?_, ⟨cd, ls, ⟨es0, s⟩, oe0, os, rfl, rfl, rfl⟩, ?_⟩
        · exact List.perm_append_comm.trans (by rw [List.append_assoc]; exact List.Perm.append_left _ (List.Perm.swap _ _ _))
        rintro d μ' ⟨rfl, rfl⟩
        refine ⟨[(cd, dicM (csL ls s es0))] ++ drM dr la ca large ns r t m, by walk_at "sub", drM dr la ca large ns r t m ++ [(cd, dicM (csL ls s es0))], List.perm_append_comm, ?_⟩
        walk_at "ad"
        exact ⟨_, es0.length, List.Sublist.refl _, Nat.lt_succ_self _, es0, oe0, rfl, rfl, rfl⟩
  · rintro _ μ' ⟨es, oe, hes, rfl, sl⟩
    refine XS.from ?_ sl
    clear sl
    refine xs_forS (js := [5] ++ ([6] ++ [])) (fun i ρ μ => ∃ (large : List Int) (r t m : Int) (x5 x6 x7 x8 x9 x10 x11 x12 x13 x14 x15 x16 : Option D), OkDr large r m ∧ ρ = [x0, some (.ref dr), x2, some (.ref cd), some (splD K (⟨es, s⟩ : Spl)), x5, x6, x7, x8, x9, x10, x11, x12, x13, x14, x15, x16] ∧ μ = drM dr la ca large ns r t m ++ [(cd, dicM (csL ls s es))]) ?_
    refine i_lst ?_
    refine x_dgetM ?_
    walk_at "ad"
    refine ⟨cd, 3, csL ls s es, _, _, rfl, rfl, rfl, cs_entries, ?_⟩
    refine ⟨_, rfl, ?_⟩
    refine ⟨⟨_, List.Sublist.refl _, large, r, t, m, x5, x6, x7, x8, x9, x10, x11, x12, x13, x14, x15, x16, ok, rfl, rfl⟩, ?_, ?_⟩
    · intro i d1 ρ' μ' hd hI
      obtain ⟨large, r, t, m, x5, x6, x7, x8, x9, x10, x11, x12, x13, x14, x15, x16, ok, rfl, rfl⟩ := hI
      obtain ⟨e, he, rfl⟩ := map_at hd
      have nm : NotMany (⟨es, s⟩ : Spl) 300 := hes.resolve_left (by intro z; rw [z] at he; simp at he)
      walk_at "ad"
      exact r2 ok hl oe os he nm fun large r t m x7 x8 x9 x10 x11 x12 x13 x14 x15 x16 μ' ok sl => ⟨_, sl, large, r, t, m, _, _, x7, x8, x9, x10, x11, x12, x13, x14, x15, x16, ok, rfl, rfl⟩
    · intro ρ' μ' hI
      obtain ⟨large, r, t, m, x5, x6, x7, x8, x9, x10, x11, x12, x13, x14, x15, x16, ok, rfl, rfl⟩ := hI
      exact hA large r t m _ _ x5 x6 x7 x8 x9 x10 x11 x12 x13 x14 x15 x16 _ ok (List.sublist_append_left _ _)


theorem Tx.f_law {w : World} {K : PySem.W.Frag} {mg : Str → Option Value} (T : Tx K mg) : ∃ fd, (∀ base : Heap, FnOk P0 w K mg base C8.CX0 15 (He.ga K "law") fd ["_law_script"] (spLaw K)) ∧ ∀ (s : Shared) (v : Value), BindsTo s fd ⟨[v], []⟩ [("_law_script", v)] := by
  obtain ⟨fd, F⟩ := T.d_law
  have hb := FunD.bindsA (ps := ["_law_script"]) F fun _ _ _ _ _ _ us hl => match us, hl with | [_], _ => rfl
  refine ⟨fd, fun base => F.ok (k := 14) sc_law (fun vs H Q E h => by obtain ⟨a, ns, rfl, _⟩ := h; rfl) (fun cdv A outer s H vs Q E hr hsp => ?_), fun s v => hb s [v] rfl⟩
  have M : TmOk P0 w K mg base := T.tm
  have nd := sc_law.nd
  obtain ⟨t1, p1, r1⟩ := law_B1 T M (outer := outer) (s0 := s) (H0 := H) (E0 := E) hr
  suffices hx : ∃ t, PSs (lawX w K mg base cdv A outer s H E) (defBody s_law) t ∧ ∀ a ns, Scr K H a ns → ns.length ≤ 63 → XS ⟨[], H⟩ t ([some (.ref a)] ++ List.replicate 16 none) [] { nx := fun _ _ => False, rt := fun d _ => d = .bl true } by
    obtain ⟨t, h1, h2⟩ := hx
    obtain ⟨a, ns, rfl, hs, hl, k⟩ := hsp
    have S0 := sat_start (N := N_law) (H := H) (ds := [.ref a]) (vs := [.ref a]) (.cons rfl .nil)
    refine ⟨t, PSs.nox h1, h2 a ns hs hl _ H _ S0 ⟨fun _ _ _ _ _ _ z => z.elim, fun ρ' μ' σ' H' d v p S1 r ed => ?_, fun _ _ _ _ _ _ z => z.elim, fun _ _ _ _ _ _ z => z.elim⟩⟩
    subst ed
    have ev : v = .bl true := r
    subst ev
    exact k H'
  refine ⟨_, (pss_cons (ps_set (i := 1) nd rfl (by first | exact Or.inl rfl | exact Or.inr rfl) (pe_c T.c_law_begin hr (by decide) (by rfl) (pa_cons (pv 0) pa_nil)))
  (pss_cons (ps_for PassesOwn.never rfl (pi_range1 (by rfl) T.f_range (pa_cons (pe_op op_add pe_int (pe_callB (call_min2 rfl) (by rfl) T.f_min boot_min (pa_cons (pe_callB call_len_seq (by rfl) T.f_len boot_len (pa_cons (pv 0) pa_nil)) (pa_cons pe_int pa_nil)))) pa_nil)) (pg_name (i := 2) nd rfl (by first | exact Or.inl rfl | exact Or.inr rfl)) p1)
  (pss_one (ps_ret pe_bl)))), ?_⟩
  intro a ns hs hl
  walk_at "ad"
  refine x_callBg ?_
  walk_at "ad"
  refine ⟨a, ns, rfl, hs, by simp, hl, fun dr la ca large h0 => ?_⟩
  walk_at "ad"
  refine xs_forS (js := [2]) (fun i ρ μ => ∃ (large : List Int) (r t m : Int) (x2 x3 x4 x5 x6 x7 x8 x9 x10 x11 x12 x13 x14 x15 x16 : Option D), OkDr large r m ∧ ρ = [some (.ref a), some (.ref dr), x2, x3, x4, x5, x6, x7, x8, x9, x10, x11, x12, x13, x14, x15, x16] ∧ μ = drM dr la ca large ns r t m) ?_
  walk_at "ad"
  refine k_lenScr hs (by simp) ?_
  walk_at "ad"
  refine k_min2 ?_
  walk_at "ad"
  refine ⟨by split <;> omega, by split <;> omega, ?_⟩
  refine ⟨⟨_, List.Sublist.refl _, large, 0, 0, 7, none, none, none, none, none, none, none, none, none, none, none, none, none, none, none, ⟨h0, by decide, by decide⟩, rfl, rfl⟩, ?_, ?_⟩
  · intro i d0 ρ' μ' hd hI
    obtain ⟨large, r, t, m, x2, x3, x4, x5, x6, x7, x8, x9, x10, x11, x12, x13, x14, x15, x16, ok, rfl, rfl⟩ := hI
    walk_at "ad"
    exact r1 ok hl fun large r t m x3 x4 x5 x6 x7 x8 x9 x10 x11 x12 x13 x14 x15 x16 μ' ok sl => ⟨_, sl, large, r, t, m, _, x3, x4, x5, x6, x7, x8, x9, x10, x11, x12, x13, x14, x15, x16, ok, rfl, rfl⟩
  · intro ρ' μ' hI
    obtain ⟨large, r, t, m, x2, x3, x4, x5, x6, x7, x8, x9, x10, x11, x12, x13, x14, x15, x16, ok, rfl, rfl⟩ := hI
    walk_at "ad"
    rfl

end MW
end
namespace MW
open PySem PySem.Spec PyProof.Rows L2
theorem facts {w : World} {K : PySem.W.Frag} {h : Heap} {mg : Str → Option Value} {f : Addr} (X : K.In h) (G : h.Ns mainGlobals mg) (hfa : mg ("law" : Str) = some (.ref f)) (c : SaysM fa fn exB K) :
    ∃ fd : FuncData, (∀ (s : Shared) (v : Value), BindsTo s fd ⟨[v], []⟩ [("_law_script", v)]) ∧ ∀ base : Heap, FnOk P0 w K mg base C8.CX0 15 f fd ["_law_script"] (spLaw K) := by
  have T : Tx K mg := ⟨c, h, X, G⟩
  obtain ⟨fd, h1, h2⟩ := T.f_law (w := w)
  have e : f = He.ga K "law" := Value.ref.inj (Option.some.inj (hfa.symm.trans T.g_law))
  rw [e]
  exact ⟨fd, h2, h1⟩
end MW
open PySem PySem.W PySem.Calls PyProof.Rows
theorem PySem.Challenge.cw_meantword_k50_whole_rivals_must_go_holds : PySem.Challenge.rw_meantword_k50_whole_rivals_must_go.Holds := by
  refine MW.headed ?_
  refine L2.walk_ofE (l := PySem.Challenge.rw_meantword_k50_whole_rivals_must_go) (n := 63) (k := 15) (x := "_law_script") (CX := C8.CX0) rfl (by decide) (by kernel_rfl) ⟨rfl, by decide, by decide⟩ ?F (fun _ _ _ _ z => z)
  intro w mg fa h Y G hmg0
  obtain ⟨K, KX, c⟩ := Y
  have hmg : mg ("law" : PySem.Str) = some (.ref fa) := by
    have e : (HandSHeadRun.topDef MW.R.prog 84).name = ("law" : PySem.Str) := by kernel_rfl
    rw [← e]
    exact hmg0
  obtain ⟨fd, hb, hF⟩ := MW.facts (w := w) KX G hmg c
  exact ⟨K, fd, MW.spLaw K, KX, hb, fun H a ns hl hO hS => ⟨a, ns, rfl, MW.Scr.of hS hO, hl, fun _ => rfl⟩, fun base _ _ => hF base⟩
