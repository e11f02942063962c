import PyProof.Rows.All
import Wide.All
import OpenK.AllK
import Wide.FinOn
import HandS.ForMost
import HandS.Star
import HandS.TupAny
import HandS.IsInst
import HandS.Wide
import HandS.StrMore
import HandS.NoneIn
import HandS.Style
import HandS.Defaults
import HandS.Property
import HandS.Codes
import KE.GoesZip
import KE.GoesMore
import HandS.TupSets
import PySem.Challenge.RW_standreaders_k53_whole_same_values
set_option Elab.async false
set_option linter.all false
set_option maxRecDepth 100000
set_option maxHeartbeats 4000000
/-! DV: a layer over HandS. Values as deep data (D), frozen and owned parts of the abstract heap, evaluation judgements. -/
namespace DV
open PySem PySem.Spec PyProof.Rows L2

/-! ### data -/
/-- a value together with all that it leads to; lsq: a list that was there ahead of all (the script); loc: a thing that is owned (it may change), known by its address -/
inductive D where
  | non | bl (b : Bool) | int (i : Int) | str (x : Str) | lst (ds : List D) | lsq (ds : List D) | tup (ds : List D) | loc (a : Addr) | ins (C : Addr) (ns : List Str) (ds : List D)

/-- all of H is in H' -/
def Le (H H' : Hp) : Prop := ∀ a o, H a = some o → H' a = some o
theorem Le.refl (H : Hp) : Le H H := fun _ _ h => h
theorem Le.trans {H H1 H2 : Hp} (a : Le H H1) (b : Le H1 H2) : Le H H2 := fun x o h => b x o (a x o h)
theorem Le.none {H H' : Hp} (a : Le H H') {x : Addr} (h : H' x = Option.none) : H x = Option.none := by
  cases q : H x with
  | none => rfl
  | some o => rw [a x o q] at h; cases h
theorem Le.upd {H H' : Hp} (a : Le H H') {p : Addr} {o : HO} (h : H p = Option.none) : Le H (L2.upd H' p o) := fun x u e => by
  rw [upd_ne (ne_of_none e h)]
  exact a x u e
theorem Le.both {H H' : Hp} (a : Le H H') (p : Addr) (o : HO) : Le (L2.upd H p o) (L2.upd H' p o) := fun x u e => by
  by_cases h : x = p
  · subst h; rw [upd_same] at e ⊢; exact e
  · rw [upd_ne h] at e ⊢; exact a x u e
theorem Le.upd_l {H H' : Hp} (a : Le H H') {p : Addr} {o : HO} (h : H' p = some o) : Le (L2.upd H p o) H' := fun x u e => by
  by_cases hx : x = p
  · subst hx; rw [upd_same] at e; rw [h, e]
  · rw [upd_ne hx] at e; exact a x u e
theorem Le.rd {H H' : Hp} (a : Le H H') {x : Addr} {u : HO} (h : Rd H x u) : Rd H' x u := by
  rcases h with h | ⟨o, h⟩
  · exact .inl (a x _ h)
  · exact .inr ⟨o, a x _ h⟩
theorem Le.sql {K : PySem.W.Frag} {H H' : Hp} (a : Le H H') {x : Addr} {xs : List V} (h : SqL K H x xs) : SqL K H' x xs := by
  rcases h with h | h
  · exact .inl (a.rd h)
  · exact .inr h
theorem Le.sqt {K : PySem.W.Frag} {H H' : Hp} (a : Le H H') {x : Addr} {xs : List V} (h : SqT K H x xs) : SqT K H' x xs := by
  rcases h with h | h
  · exact .inl (a.rd h)
  · exact .inr h

section
variable (K : PySem.W.Frag) (F : Hp)
mutual
/-- v is d in the frozen heap F -/
def Rep : D → V → Prop
  | .non, v => v = .non
  | .bl b, v => v = .bl b
  | .int i, v => v = .int i
  | .str x, v => v = .str x
  | .lst ds, v => ∃ a vs, v = .ref a ∧ F a = some (.lst vs) ∧ Reps ds vs
  | .lsq ds, v => ∃ a vs, v = .ref a ∧ SqL K F a vs ∧ Reps ds vs
  | .tup ds, v => ∃ a vs, v = .ref a ∧ SqT K F a vs ∧ Reps ds vs
  | .loc a, v => v = .ref a
  | .ins C ns ds, v => ∃ a dx vs, v = .ref a ∧ F a = some (.ins C dx (ns.zip vs)) ∧ vs.length = ns.length ∧ Reps ds vs
def Reps : List D → List V → Prop
  | [], vs => vs = []
  | d :: ds, vs => ∃ v r, vs = v :: r ∧ Rep d v ∧ Reps ds r
end
end

mutual
theorem Rep.mono {K : PySem.W.Frag} {F F' : Hp} (e : Le F F') : ∀ {d : D} {v : V}, Rep K F d v → Rep K F' d v
  | .non, _, h => h
  | .bl _, _, h => h
  | .int _, _, h => h
  | .str _, _, h => h
  | .lst ds, _, ⟨a, vs, h1, h2, h3⟩ => ⟨a, vs, h1, e _ _ h2, Reps.mono e h3⟩
  | .lsq ds, _, ⟨a, vs, h1, h2, h3⟩ => ⟨a, vs, h1, e.sql h2, Reps.mono e h3⟩
  | .tup ds, _, ⟨a, vs, h1, h2, h3⟩ => ⟨a, vs, h1, e.sqt h2, Reps.mono e h3⟩
  | .loc _, _, h => h
  | .ins C ns ds, _, ⟨a, dx, vs, h1, h2, h3, h4⟩ => ⟨a, dx, vs, h1, e _ _ h2, h3, Reps.mono e h4⟩
theorem Reps.mono {K : PySem.W.Frag} {F F' : Hp} (e : Le F F') : ∀ {ds : List D} {vs : List V}, Reps K F ds vs → Reps K F' ds vs
  | [], _, h => h
  | d :: ds, _, ⟨v, r, h1, h2, h3⟩ => ⟨v, r, h1, Rep.mono e h2, Reps.mono e h3⟩
end
section
variable {K : PySem.W.Frag} {F : Hp}
theorem Reps.nil : Reps K F [] [] := rfl
theorem Reps.cons {d : D} {v : V} {ds : List D} {vs : List V} (h : Rep K F d v) (r : Reps K F ds vs) : Reps K F (d :: ds) (v :: vs) := ⟨v, vs, rfl, h, r⟩
theorem Reps.length : ∀ {ds : List D} {vs : List V}, Reps K F ds vs → ds.length = vs.length
  | [], vs, h => by
    have e : vs = [] := h
    rw [e]
    rfl
  | d :: ds, _, ⟨v, r, h1, _, h3⟩ => by rw [h1, List.length_cons, List.length_cons, Reps.length h3]
theorem Reps.get : ∀ {ds : List D} {vs : List V} {i : Nat} {d : D}, Reps K F ds vs → ds[i]? = some d → ∃ v, vs[i]? = some v ∧ Rep K F d v
  | [], _, _, _, _, e => by simp at e
  | d :: ds, _, 0, _, ⟨v, r, h1, h2, _⟩, e => by
    have e' : d = _ := Option.some.inj e
    subst e'; subst h1
    exact ⟨v, rfl, h2⟩
  | d :: ds, _, i + 1, _, ⟨v, r, h1, _, h3⟩, e => by
    subst h1
    obtain ⟨u, q1, q2⟩ := Reps.get (i := i) h3 (by simpa using e)
    exact ⟨u, by simpa using q1, q2⟩
theorem Reps.at_ : ∀ {ds : List D} {vs : List V} {i : Nat} {v : V}, Reps K F ds vs → vs[i]? = some v → ∃ d, ds[i]? = some d ∧ Rep K F d v
  | [], _, _, _, h, e => by rw [show _ = [] from h] at e; simp at e
  | d :: ds, _, 0, _, ⟨v, r, h1, h2, _⟩, e => by
    subst h1
    have e' : v = _ := Option.some.inj e
    subst e'
    exact ⟨d, rfl, h2⟩
  | d :: ds, _, i + 1, _, ⟨v, r, h1, _, h3⟩, e => by
    subst h1
    obtain ⟨u, q1, q2⟩ := Reps.at_ (i := i) h3 (by simpa using e)
    exact ⟨u, by simpa using q1, q2⟩
theorem Reps.append : ∀ {ds es : List D} {vs us : List V}, Reps K F ds vs → Reps K F es us → Reps K F (ds ++ es) (vs ++ us)
  | [], _, _, _, h, r => by rw [show _ = [] from h]; exact r
  | d :: ds, _, _, _, ⟨v, q, h1, h2, h3⟩, r => by
    subst h1
    exact ⟨v, _, rfl, h2, Reps.append h3 r⟩
theorem Reps.snoc {ds : List D} {vs : List V} {d : D} {v : V} (h : Reps K F ds vs) (r : Rep K F d v) : Reps K F (ds ++ [d]) (vs ++ [v]) := h.append (.cons r .nil)
theorem Reps.set : ∀ {ds : List D} {vs : List V} {d : D} {v : V} (i : Nat), Reps K F ds vs → Rep K F d v → Reps K F (ds.set i d) (vs.set i v)
  | [], _, _, _, _, h, _ => by rw [show _ = [] from h]; exact .nil
  | d :: ds, _, _, _, 0, ⟨v, q, h1, _, h3⟩, r => by subst h1; exact ⟨_, _, rfl, r, h3⟩
  | d :: ds, _, _, _, i + 1, ⟨v, q, h1, h2, h3⟩, r => by subst h1; exact ⟨_, _, rfl, h2, Reps.set i h3 r⟩
theorem Reps.take : ∀ {ds : List D} {vs : List V} (n : Nat), Reps K F ds vs → Reps K F (ds.take n) (vs.take n)
  | _, _, 0, _ => by simp; exact .nil
  | [], _, _ + 1, h => by rw [show _ = [] from h]; exact .nil
  | d :: ds, _, n + 1, ⟨v, q, h1, h2, h3⟩ => by subst h1; exact ⟨_, _, rfl, h2, Reps.take n h3⟩
theorem Reps.drop : ∀ {ds : List D} {vs : List V} (n : Nat), Reps K F ds vs → Reps K F (ds.drop n) (vs.drop n)
  | _, _, 0, h => by simpa using h
  | [], _, _ + 1, h => by rw [show _ = [] from h]; exact .nil
  | d :: ds, _, n + 1, ⟨v, q, h1, _, h3⟩ => by subst h1; exact Reps.drop n h3
theorem Reps.rev : ∀ {ds : List D} {vs : List V}, Reps K F ds vs → Reps K F ds.reverse vs.reverse
  | [], _, h => by rw [show _ = [] from h]; exact .nil
  | d :: ds, _, ⟨v, q, h1, h2, h3⟩ => by
    subst h1
    rw [List.reverse_cons, List.reverse_cons]
    exact (Reps.rev h3).append (.cons h2 .nil)
theorem Reps.of_get : ∀ {ds : List D} {vs : List V}, ds.length = vs.length → (∀ (i : Nat) (d : D) (v : V), ds[i]? = some d → vs[i]? = some v → Rep K F d v) → Reps K F ds vs
  | [], [], _, _ => .nil
  | [], _ :: _, h, _ => by simp at h
  | _ :: _, [], h, _ => by simp at h
  | d :: ds, v :: vs, h, q => .cons (q 0 d v rfl rfl) (Reps.of_get (by simpa using h) fun i e u h1 h2 => q (i + 1) e u (by simpa using h1) (by simpa using h2))
/-- ints -/
theorem reps_ints : ∀ (ns : List Int), Reps K F (ns.map D.int) (ns.map V.int)
  | [] => .nil
  | n :: ns => .cons rfl (reps_ints ns)
theorem ints_of : ∀ {ns : List Int} {vs : List V}, Reps K F (ns.map D.int) vs → vs = ns.map V.int
  | [], _, h => h
  | n :: ns, _, ⟨v, r, h1, h2, h3⟩ => by
    rw [h1, show v = .int n from h2, ints_of h3]
    rfl
theorem strs_of : ∀ {ns : List Str} {vs : List V}, Reps K F (ns.map D.str) vs → vs = ns.map V.str
  | [], _, h => h
  | n :: ns, _, ⟨v, r, h1, h2, h3⟩ => by
    rw [h1, show v = .str n from h2, strs_of h3]
    rfl
theorem bls_of : ∀ {ns : List Bool} {vs : List V}, Reps K F (ns.map D.bl) vs → vs = ns.map V.bl
  | [], _, h => h
  | n :: ns, _, ⟨v, r, h1, h2, h3⟩ => by
    rw [h1, show v = .bl n from h2, bls_of h3]
    rfl
end

/-! ### the state -/
abbrev Env := List (Option D)
/-- what an owned thing holds: a list; an instance (its dict's address, its fields) -/
inductive MO where
  | lst (ds : List D) | ins (C dx : Addr) (ns : List Str) (ds : List D)
abbrev Mem := List (Addr × MO)
def adr (M : Mem) : List Addr := M.map (·.1)
def Own (K : PySem.W.Frag) (F H : Hp) (a : Addr) : MO → Prop
  | .lst ds => F a = none ∧ ∃ vs, H a = some (.lst vs) ∧ Reps K F ds vs
  | .ins C dx ns ds => F a = none ∧ ∃ vs, H a = some (.ins C dx (ns.zip vs)) ∧ vs.length = ns.length ∧ Reps K F ds vs
theorem Own.fr {K : PySem.W.Frag} {F H : Hp} {a : Addr} {m : MO} (h : Own K F H a m) : F a = none := by
  cases m with
  | lst _ => exact h.1
  | ins _ _ _ _ => exact h.1
theorem Own.at_ {K : PySem.W.Frag} {F H : Hp} {a : Addr} {m : MO} (h : Own K F H a m) : ∃ o, H a = some o := by
  cases m with
  | lst _ => obtain ⟨_, vs, e, _⟩ := h; exact ⟨_, e⟩
  | ins _ _ _ _ => obtain ⟨_, vs, e, _⟩ := h; exact ⟨_, e⟩
theorem Own.keep {K : PySem.W.Frag} {F H F' H' : Hp} {a : Addr} {m : MO} (h : Own K F H a m) (e : Le F F') (hk : ∀ o, H a = some o → H' a = some o) (hf : F' a = none) : Own K F' H' a m := by
  cases m with
  | lst _ => obtain ⟨_, vs, q, r⟩ := h; exact ⟨hf, vs, hk _ q, r.mono e⟩
  | ins _ _ _ _ => obtain ⟨_, vs, q, l, r⟩ := h; exact ⟨hf, vs, hk _ q, l, r.mono e⟩

/-- the heap H: its frozen part F, what is owned M -/
structure Hs (K : PySem.W.Frag) (F H : Hp) (M : Mem) : Prop where
  le : Le F H
  own : ∀ p ∈ M, Own K F H p.1 p.2
  nd : (adr M).Nodup
/-- the names -/
def EnvOk (K : PySem.W.Frag) (F : Hp) (σ : L2.St) (ρ : Env) : Prop := σ.length = ρ.length ∧ ∀ (i : Nat) (d : D), ρ[i]? = some (some d) → ∃ v, σ[i]? = some (some v) ∧ Rep K F d v
theorem EnvOk.mono {K : PySem.W.Frag} {F F' : Hp} {σ : L2.St} {ρ : Env} (h : EnvOk K F σ ρ) (e : Le F F') : EnvOk K F' σ ρ :=
  ⟨h.1, fun i d q => let ⟨v, q1, q2⟩ := h.2 i d q; ⟨v, q1, q2.mono e⟩⟩
theorem EnvOk.set {K : PySem.W.Frag} {F : Hp} {σ : L2.St} {ρ : Env} (h : EnvOk K F σ ρ) (i : Nat) {v : V} {d : D} (r : Rep K F d v) : EnvOk K F (σ.set i (some v)) (ρ.set i (some d)) := by
  refine ⟨by rw [List.length_set, List.length_set]; exact h.1, fun j e q => ?_⟩
  by_cases hj : i = j
  · subst hj
    have hl : i < ρ.length := by
      rcases Nat.lt_or_ge i ρ.length with z | z
      · exact z
      · rw [List.getElem?_eq_none (by simpa using z)] at q; cases q
    rw [List.getElem?_set_self hl] at q
    have q' : d = e := Option.some.inj (Option.some.inj q)
    subst q'
    exact ⟨v, List.getElem?_set_self (by rw [h.1]; exact hl), r⟩
  · rw [List.getElem?_set_ne hj] at q
    obtain ⟨u, q1, q2⟩ := h.2 j e q
    exact ⟨u, by rw [List.getElem?_set_ne hj]; exact q1, q2⟩
theorem EnvOk.setN {K : PySem.W.Frag} {F : Hp} {σ : L2.St} {ρ : Env} (h : EnvOk K F σ ρ) (i : Nat) (x : Option V) : EnvOk K F (σ.set i x) (ρ.set i none) := by
  refine ⟨by rw [List.length_set, List.length_set]; exact h.1, fun j e q => ?_⟩
  by_cases hj : i = j
  · subst hj
    have hl : i < ρ.length := by
      rcases Nat.lt_or_ge i ρ.length with z | z
      · exact z
      · rw [List.getElem?_eq_none (by simpa using z)] at q; cases q
    rw [List.getElem?_set_self hl] at q
    cases q
  · rw [List.getElem?_set_ne hj] at q
    obtain ⟨u, q1, q2⟩ := h.2 j e q
    exact ⟨u, by rw [List.getElem?_set_ne hj]; exact q1, q2⟩

/-- what code that owns A may have done between (F, H) and (F', H') -/
structure Stp (A : List Addr) (F H F' H' : Hp) : Prop where
  fle : Le F F'
  keep : ∀ a o, H a = some o → a ∉ A → H' a = some o
  new : ∀ a o, H a = some o → F a = none → a ∉ A → F' a = none
  there : ∀ a, H' a = none → H a = none
/-- .. and what it owns behind it -/
structure Nx (K : PySem.W.Frag) (F H : Hp) (M : Mem) (F' H' : Hp) (M' : Mem) : Prop where
  hs : Hs K F' H' M'
  st : Stp (adr M) F H F' H'
  mem : ∀ a ∈ adr M', a ∈ adr M ∨ H a = none
theorem upd_there {H : Hp} {p : Addr} {o : HO} : ∀ a, upd H p o a = none → H a = none := fun a e => by
  by_cases h : a = p
  · subst h; rw [upd_same] at e; cases e
  · rw [upd_ne h] at e; exact e
section
variable {K : PySem.W.Frag} {F H F1 H1 F2 H2 : Hp} {M M1 M2 : Mem}
theorem Nx.refl (h : Hs K F H M) : Nx K F H M F H M := ⟨h, ⟨Le.refl F, fun _ _ e _ => e, fun _ _ _ e _ => e, fun _ e => e⟩, fun _ h => .inl h⟩
theorem Nx.trans (a : Nx K F H M F1 H1 M1) (b : Nx K F1 H1 M1 F2 H2 M2) : Nx K F H M F2 H2 M2 := by
  have out : ∀ x o, H x = some o → x ∉ adr M → x ∉ adr M1 := fun x o e h q => by
    rcases a.mem x q with z | z
    · exact h z
    · rw [e] at z; cases z
  refine ⟨b.hs, ⟨a.st.fle.trans b.st.fle, fun x o e h => b.st.keep x o (a.st.keep x o e h) (out x o e h), fun x o e f h => b.st.new x o (a.st.keep x o e h) (a.st.new x o e f h) (out x o e h), fun x e => a.st.there x (b.st.there x e)⟩, fun x hx => ?_⟩
  rcases b.mem x hx with z | z
  · exact a.mem x z
  · by_cases hm : x ∈ adr M
    · exact .inl hm
    · refine .inr ?_
      cases q : H x with
      | none => rfl
      | some o => rw [a.st.keep x o q hm] at z; cases z
theorem mem_adr {p : Addr × MO} (h : p ∈ M) : p.1 ∈ adr M := List.mem_map_of_mem h
theorem of_mem_adr {a : Addr} (h : a ∈ adr M) : ∃ m, (a, m) ∈ M := by
  obtain ⟨⟨b, m⟩, hm, e⟩ := List.mem_map.mp h
  exact ⟨m, by rw [← e]; exact hm⟩
theorem Hs.at_ (h : Hs K F H M) {a : Addr} (ha : a ∈ adr M) : ∃ o, H a = some o := let ⟨m, hm⟩ := of_mem_adr ha; (h.own (a, m) hm).at_
theorem Hs.fr (h : Hs K F H M) {a : Addr} (ha : a ∈ adr M) : F a = none := let ⟨m, hm⟩ := of_mem_adr ha; (h.own (a, m) hm).fr
theorem Hs.out (h : Hs K F H M) {a : Addr} (ha : H a = none) : a ∉ adr M := fun z => by
  obtain ⟨o, e⟩ := h.at_ z
  rw [e] at ha; cases ha
/-- a new thing, frozen at once -/
theorem Nx.frz {p : Addr} {o : HO} (h : Hs K F H M) (hp : H p = none) : Nx K F H M (upd F p o) (upd H p o) M := by
  refine ⟨⟨h.le.both p o, fun q hq => ?_, h.nd⟩, ⟨(Le.refl F).upd (h.le.none hp), fun a u e _ => by rw [upd_ne (ne_of_none e hp)]; exact e, fun a u e f _ => by rw [upd_ne (ne_of_none e hp)]; exact f, upd_there⟩, fun a ha => .inl ha⟩
  have hne : q.1 ≠ p := fun z => h.out hp (z ▸ mem_adr hq)
  exact (h.own q hq).keep ((Le.refl F).upd (h.le.none hp)) (fun u e => by rw [upd_ne hne]; exact e) (by rw [upd_ne hne]; exact (h.own q hq).fr)
/-- a new list, owned -/
theorem Nx.own {p : Addr} {vs : List V} {ds : List D} (h : Hs K F H M) (hp : H p = none) (r : Reps K F ds vs) : Nx K F H M F (upd H p (.lst vs)) ((p, .lst ds) :: M) := by
  refine ⟨⟨h.le.upd (h.le.none hp), fun q hq => ?_, List.nodup_cons.mpr ⟨h.out hp, h.nd⟩⟩, ⟨Le.refl F, fun a u e _ => by rw [upd_ne (ne_of_none e hp)]; exact e, fun a u _ f _ => f, upd_there⟩, fun a ha => ?_⟩
  · rcases List.mem_cons.mp hq with e | hq
    · subst e
      exact ⟨h.le.none hp, vs, upd_same, r⟩
    · have hne : q.1 ≠ p := fun z => h.out hp (z ▸ mem_adr hq)
      exact (h.own q hq).keep (Le.refl F) (fun u e => by rw [upd_ne hne]; exact e) (h.own q hq).fr
  · rcases List.mem_cons.mp ha with e | ha
    · subst e; exact .inr hp
    · exact .inl ha
/-- an untracked thing more in the heap -/
theorem Nx.put {p : Addr} {o : HO} (h : Hs K F H M) (hp : H p = none) : Nx K F H M F (upd H p o) M := by
  refine ⟨⟨h.le.upd (h.le.none hp), fun q hq => ?_, h.nd⟩, ⟨Le.refl F, fun a u e _ => by rw [upd_ne (ne_of_none e hp)]; exact e, fun a u _ f _ => f, upd_there⟩, fun a ha => .inl ha⟩
  have hne : q.1 ≠ p := fun z => h.out hp (z ▸ mem_adr hq)
  exact (h.own q hq).keep (Le.refl F) (fun u e => by rw [upd_ne hne]; exact e) (h.own q hq).fr
/-- some of what is owned is let go -/
theorem Hs.sub (h : Hs K F H M) (s : M1.Sublist M) : Hs K F H M1 := ⟨h.le, fun p hp => h.own p (s.subset hp), h.nd.sublist (s.map _)⟩
theorem Nx.drop (h : Hs K F H M) (s : M1.Sublist M) : Nx K F H M F H M1 := ⟨h.sub s, ⟨Le.refl F, fun _ _ e _ => e, fun _ _ _ e _ => e, fun _ e => e⟩, fun a ha => .inl ((s.map (·.1)).subset ha)⟩
theorem Hs.perm (h : Hs K F H M) (s : M1.Perm M) : Hs K F H M1 := ⟨h.le, fun p hp => h.own p (s.subset hp), (List.Perm.nodup_iff (List.Perm.map (Prod.fst : Addr × MO → Addr) s)).mpr h.nd⟩
theorem Nx.perm (h : Hs K F H M) (s : M1.Perm M) : Nx K F H M F H M1 := ⟨h.perm s, ⟨Le.refl F, fun _ _ e _ => e, fun _ _ _ e _ => e, fun _ e => e⟩, fun a ha => .inl ((s.map (·.1)).subset ha)⟩
/-- what is owned by others stands still -/
theorem Nx.frame {Mx M' : Mem} {F' H' : Hp} (h : Hs K F H (M ++ Mx)) (a : Nx K F H M F' H' M') : Nx K F H (M ++ Mx) F' H' (M' ++ Mx) := by
  have hnd : (adr M ++ adr Mx).Nodup := by have := h.nd; unfold adr at this ⊢; rw [List.map_append] at this; exact this
  have dis : ∀ x, x ∈ adr Mx → x ∉ adr M := fun x hx hm => (List.nodup_append.mp hnd).2.2 x hm x hx rfl
  have hx : ∀ p ∈ Mx, Own K F' H' p.1 p.2 := fun p hp => by
    have o := h.own p (List.mem_append_right _ hp)
    obtain ⟨u, hu⟩ := o.at_
    exact o.keep a.st.fle (fun v e => a.st.keep _ _ e (dis _ (mem_adr hp))) (a.st.new _ _ hu o.fr (dis _ (mem_adr hp)))
  refine ⟨⟨a.hs.le, fun p hp => ?_, ?_⟩, ⟨a.st.fle, fun x o e hn => a.st.keep x o e fun z => hn (by unfold adr; rw [List.map_append]; exact List.mem_append_left _ z), fun x o e f hn => a.st.new x o e f fun z => hn (by unfold adr; rw [List.map_append]; exact List.mem_append_left _ z), a.st.there⟩, fun x hx => ?_⟩
  · rcases List.mem_append.mp hp with z | z
    · exact a.hs.own p z
    · exact hx p z
  · unfold adr
    rw [List.map_append]
    refine List.nodup_append.mpr ⟨a.hs.nd, (List.nodup_append.mp hnd).2.1, fun x h1 y h2 e => ?_⟩
    subst e
    rcases a.mem x h1 with z | z
    · exact dis x h2 z
    · obtain ⟨m, hm⟩ := of_mem_adr h2
      obtain ⟨o, ho⟩ := (h.own (x, m) (List.mem_append_right _ hm)).at_
      rw [z] at ho; cases ho
  · unfold adr at hx ⊢
    rw [List.map_append] at hx ⊢
    rcases List.mem_append.mp hx with z | z
    · rcases a.mem x z with q | q
      · exact .inl (List.mem_append_left _ q)
      · exact .inr q
    · exact .inl (List.mem_append_right _ z)
/-- an owned list is changed -/
theorem Nx.wr {a : Addr} {ds es : List D} {us : List V} {X Y : Mem} (h : Hs K F H (X ++ (a, .lst ds) :: Y)) (r : Reps K F es us) : Nx K F H (X ++ (a, .lst ds) :: Y) F (upd H a (.lst us)) (X ++ (a, .lst es) :: Y) := by
  have ea : adr (X ++ (a, .lst es) :: Y) = adr (X ++ (a, .lst ds) :: Y) := by unfold adr; simp
  have ha : a ∈ adr (X ++ (a, .lst ds) :: Y) := by unfold adr; simp
  have hnd : (adr X ++ a :: adr Y).Nodup := by have := h.nd; unfold adr at this ⊢; simpa using this
  have hf : F a = none := h.fr ha
  refine ⟨⟨h.le.upd hf, fun q hq => ?_, by rw [ea]; exact h.nd⟩, ⟨Le.refl F, fun x u e hn => by rw [upd_ne (show x ≠ a from fun z => hn (z.symm ▸ ha))]; exact e, fun _ _ _ f _ => f, upd_there⟩, fun x hx => .inl (by rw [ea] at hx; exact hx)⟩
  have other : q.1 ≠ a → q ∈ X ++ (a, .lst ds) :: Y → Own K F (upd H a (.lst us)) q.1 q.2 := fun hne hm => (h.own q hm).keep (Le.refl F) (fun u e => by rw [upd_ne hne]; exact e) (h.own q hm).fr
  rcases List.mem_append.mp hq with z | z
  · refine other (fun e => ?_) (List.mem_append_left _ z)
    exact (List.nodup_append.mp hnd).2.2 q.1 (mem_adr z) a List.mem_cons_self e
  · rcases List.mem_cons.mp z with e | z
    · subst e
      exact ⟨hf, us, upd_same, r⟩
    · refine other (fun e => ?_) (List.mem_append_right _ (List.mem_cons_of_mem _ z))
      exact (List.nodup_cons.mp (List.nodup_append.mp hnd).2.1).1 (e ▸ mem_adr z)
/-- an owned list is frozen -/
theorem Nx.ice {a : Addr} {ds : List D} {X Y : Mem} (h : Hs K F H (X ++ (a, .lst ds) :: Y)) : ∃ F', Nx K F H (X ++ (a, .lst ds) :: Y) F' H (X ++ Y) ∧ Rep K F' (.lst ds) (.ref a) := by
  have ha : a ∈ adr (X ++ (a, .lst ds) :: Y) := by unfold adr; simp
  have hnd : (adr X ++ a :: adr Y).Nodup := by have := h.nd; unfold adr at this ⊢; simpa using this
  obtain ⟨hf, vs, e, r⟩ := h.own (a, .lst ds) (List.mem_append_right _ List.mem_cons_self)
  have fle : Le F (upd F a (.lst vs)) := (Le.refl F).upd hf
  have na : ∀ q ∈ X ++ Y, q.1 ≠ a := fun q hq z => by
    rcases List.mem_append.mp hq with y | y
    · exact (List.nodup_append.mp hnd).2.2 q.1 (mem_adr y) a List.mem_cons_self z
    · exact (List.nodup_cons.mp (List.nodup_append.mp hnd).2.1).1 (z ▸ mem_adr y)
  refine ⟨upd F a (.lst vs), ⟨⟨h.le.upd_l e, fun q hq => ?_, ?_⟩, ⟨fle, fun _ _ q _ => q, fun x o q f hn => by rw [upd_ne (show x ≠ a from fun z => hn (z.symm ▸ ha))]; exact f, fun _ e => e⟩, fun x hx => .inl ?_⟩, a, vs, rfl, upd_same, r.mono fle⟩
  · have hm : q ∈ X ++ (a, .lst ds) :: Y := by
      rcases List.mem_append.mp hq with y | y
      · exact List.mem_append_left _ y
      · exact List.mem_append_right _ (List.mem_cons_of_mem _ y)
    exact (h.own q hm).keep fle (fun _ z => z) (by rw [upd_ne (na q hq)]; exact (h.own q hm).fr)
  · unfold adr at hnd ⊢
    rw [List.map_append]
    exact hnd.sublist ((List.Sublist.refl _).append (List.sublist_cons_self _ _))
  · unfold adr at hx ⊢
    rw [List.map_append] at hx ⊢
    rcases List.mem_append.mp hx with y | y
    · exact List.mem_append_left _ y
    · exact List.mem_append_right _ (List.mem_cons_of_mem _ y)
end
end DV

set_option Elab.async false
set_option linter.all false
set_option maxRecDepth 100000
set_option maxHeartbeats 4000000
/-! DV2: what code does to deep data: judgements, names, constants, operators, tests, arguments, displays, plain statements. -/
namespace DV
open PySem PySem.Spec PyProof.Rows L2

/-! ### readings that say just that the code runs -/
section
variable (X : Cx)
def semE (e : Expr) : TE := fun σ H Q => ∀ (pins : List (Addr × Obj)) (s : Shared), Inv X pins σ H s → wpAny (model X.prog X.w) X.A (eval e X.env) (EP X pins σ Q) X.xe s
def semT (e : Expr) : TT := fun σ H Q => ∀ (pins : List (Addr × Obj)) (s : Shared), Inv X pins σ H s → wpAny (model X.prog X.w) X.A (isTrue e X.env (eval e X.env)) (TP X pins σ Q) X.xe s
def semW (e : Expr) : TT := fun σ H Q => ∀ (whole : Sem Value) (pins : List (Addr × Obj)) (s : Shared), Inv X pins σ H s → wpAny (model X.prog X.w) X.A (isTrue e X.env whole) (TP X pins σ Q) X.xe s
def semA (es : List Expr) : TA := fun σ H Q => ∀ (pos : Pos) (pins : List (Addr × Obj)) (s : Shared), Inv X pins σ H s → wpAny (model X.prog X.w) X.A (spliced (backTo pos (starEach es X.env))) (AP X pins σ Q) X.xe s
def semS (st : Stmt) : TS := fun D σ H => ∀ (pins : List (Addr × Obj)) (s : Shared), Inv X pins σ H s → wpAny (model X.prog X.w) X.A (exec st X.env) (SP X pins D) X.xe s
def semSs (st : List Stmt) : TS := fun D σ H => ∀ (pins : List (Addr × Obj)) (s : Shared), Inv X pins σ H s → wpAny (model X.prog X.w) X.A (execs st X.env) (SP X pins D) X.xe s
def semG (tg : Expr) : TG := fun v σ H Q => ∀ (pins : List (Addr × Obj)) (s : Shared) (u : Value), Inv X pins σ H s → RelV v u → wpAny (model X.prog X.w) X.A (assign tg X.env u) (fun _ s' => ∃ σ' H', Inv X pins σ' H' s' ∧ Q σ' H') X.xe s
def semI (tg iter : Expr) : TI := fun σ H R => ∀ (pins : List (Addr × Obj)) (s : Shared), Inv X pins σ H s → wpAny (model X.prog X.w) X.A (eval iter X.env) (fun v s1 => wpAny (model X.prog X.w) X.A (pyIter v) (PIE X pins σ tg R) X.xe s1) X.xe s
end
section
variable {X : Cx}
theorem peS {e : Expr} : PE X e (semE X e) := ⟨fun pins s σ H Q I h => h pins s I⟩
theorem ptS {e : Expr} : PT X e (semT X e) := ⟨fun pins s σ H Q I h => h pins s I⟩
theorem pwS {e : Expr} : PW X e (semW X e) := ⟨fun wh pins s σ H Q I h => h wh pins s I⟩
theorem paS {es : List Expr} : PA X es (semA X es) := ⟨fun pos pins s σ H Q I h => h pos pins s I⟩
theorem psS {st : Stmt} : PS X st (semS X st) := ⟨fun pins s σ H D I h => h pins s I⟩
theorem pssS {st : List Stmt} : PSs X st (semSs X st) := ⟨fun pins s σ H D I h => h pins s I⟩
theorem pgS {tg : Expr} : PG X tg (semG X tg) := ⟨fun pins s σ H v u Q I r h => h pins s u I r⟩
theorem piS {tg iter : Expr} : PI X tg iter (semI X tg iter) := ⟨fun pins s σ H R I h => h pins s I⟩
end

/-! ### judgements -/
section
variable (K : PySem.W.Frag)
def EvE (t : TE) (ρ : Env) (M : Mem) (P : D → Mem → Prop) : Prop := ∀ F H σ (Q : VK), Hs K F H M → EnvOk K F σ ρ → (∀ v F' H' d M', P d M' → Rep K F' d v → Nx K F H M F' H' M' → Q v H') → t σ H Q
/-- a new list, known to nobody: its items -/
def EvN (t : TE) (ρ : Env) (M : Mem) (P : List D → Mem → Prop) : Prop := ∀ F H σ (Q : VK), Hs K F H M → EnvOk K F σ ρ →
  (∀ p vs F' H' ds M', P ds M' → H' p = some (.lst vs) → Reps K F' ds vs → H p = none → F' p = none → p ∉ adr M' → Nx K F H M F' H' M' → Q (.ref p) H') → t σ H Q
def EvT (t : TT) (ρ : Env) (M : Mem) (P : Bool → Mem → Prop) : Prop := ∀ F H σ (Q : Bool → Hp → Prop), Hs K F H M → EnvOk K F σ ρ → (∀ b F' H' M', P b M' → Nx K F H M F' H' M' → Q b H') → t σ H Q
def EvA (t : TA) (ρ : Env) (M : Mem) (P : List D → Mem → Prop) : Prop := ∀ F H σ (Q : List V → Hp → Prop), Hs K F H M → EnvOk K F σ ρ → (∀ vs F' H' ds M', P ds M' → Reps K F' ds vs → Nx K F H M F' H' M' → Q vs H') → t σ H Q
/-- what is wanted behind a statement -/
structure DEnds where
  nx : Env → Mem → Prop
  rt : D → Mem → Prop
  bk : Env → Mem → Prop
  ct : Env → Mem → Prop
def EvS (t : TS) (ρ : Env) (M : Mem) (Z : DEnds) : Prop := ∀ F H σ (E : Ends), Hs K F H M → EnvOk K F σ ρ →
  (∀ F' H' σ' ρ' M', Z.nx ρ' M' → EnvOk K F' σ' ρ' → Nx K F H M F' H' M' → E.nx σ' H') → (∀ v F' H' d M', Z.rt d M' → Rep K F' d v → Nx K F H M F' H' M' → E.rt v H') →
  (∀ F' H' σ' ρ' M', Z.bk ρ' M' → EnvOk K F' σ' ρ' → Nx K F H M F' H' M' → E.bk σ' H') → (∀ F' H' σ' ρ' M', Z.ct ρ' M' → EnvOk K F' σ' ρ' → Nx K F H M F' H' M' → E.ct σ' H') → t E σ H
end
def DE (X : Cx) (e : Expr) (ρ : Env) (M : Mem) (P : D → Mem → Prop) : Prop := EvE X.K (semE X e) ρ M P
def DN (X : Cx) (e : Expr) (ρ : Env) (M : Mem) (P : List D → Mem → Prop) : Prop := EvN X.K (semE X e) ρ M P
def DT (X : Cx) (e : Expr) (ρ : Env) (M : Mem) (P : Bool → Mem → Prop) : Prop := EvT X.K (semT X e) ρ M P
def DW (X : Cx) (e : Expr) (ρ : Env) (M : Mem) (P : Bool → Mem → Prop) : Prop := EvT X.K (semW X e) ρ M P
def DA (X : Cx) (es : List Expr) (ρ : Env) (M : Mem) (P : List D → Mem → Prop) : Prop := EvA X.K (semA X es) ρ M P
def DS (X : Cx) (st : Stmt) (ρ : Env) (M : Mem) (Z : DEnds) : Prop := EvS X.K (semS X st) ρ M Z
def DSs (X : Cx) (st : List Stmt) (ρ : Env) (M : Mem) (Z : DEnds) : Prop := EvS X.K (semSs X st) ρ M Z

section
variable {X : Cx} {e : Expr} {ρ : Env} {M : Mem}
theorem DE.of {t : TE} {P : D → Mem → Prop} (h : PE X e t) (k : EvE X.K t ρ M P) : DE X e ρ M P := fun F H σ Q hs he q pins s I => h.run pins s σ H Q I (k F H σ Q hs he q)
theorem DN.of {t : TE} {P : List D → Mem → Prop} (h : PE X e t) (k : EvN X.K t ρ M P) : DN X e ρ M P := fun F H σ Q hs he q pins s I => h.run pins s σ H Q I (k F H σ Q hs he q)
theorem DT.of {t : TT} {P : Bool → Mem → Prop} (h : PT X e t) (k : EvT X.K t ρ M P) : DT X e ρ M P := fun F H σ Q hs he q pins s I => h.run pins s σ H Q I (k F H σ Q hs he q)
theorem DW.of {t : TT} {P : Bool → Mem → Prop} (h : PW X e t) (k : EvT X.K t ρ M P) : DW X e ρ M P := fun F H σ Q hs he q wh pins s I => h.run wh pins s σ H Q I (k F H σ Q hs he q)
theorem DA.of {es : List Expr} {t : TA} {P : List D → Mem → Prop} (h : PA X es t) (k : EvA X.K t ρ M P) : DA X es ρ M P := fun F H σ Q hs he q pos pins s I => h.run pos pins s σ H Q I (k F H σ Q hs he q)
theorem DS.of {st : Stmt} {t : TS} {Z : DEnds} (h : PS X st t) (k : EvS X.K t ρ M Z) : DS X st ρ M Z := fun F H σ E hs he q1 q2 q3 q4 pins s I => h.run pins s σ H E I (k F H σ E hs he q1 q2 q3 q4)
theorem DSs.of {st : List Stmt} {t : TS} {Z : DEnds} (h : PSs X st t) (k : EvS X.K t ρ M Z) : DSs X st ρ M Z := fun F H σ E hs he q1 q2 q3 q4 pins s I => h.run pins s σ H E I (k F H σ E hs he q1 q2 q3 q4)
theorem DE.imp {P P' : D → Mem → Prop} (h : DE X e ρ M P) (k : ∀ d M', P d M' → P' d M') : DE X e ρ M P' := fun F H σ Q hs he q => h F H σ Q hs he fun v F' H' d M' p => q v F' H' d M' (k d M' p)
theorem DT.imp {P P' : Bool → Mem → Prop} (h : DT X e ρ M P) (k : ∀ d M', P d M' → P' d M') : DT X e ρ M P' := fun F H σ Q hs he q => h F H σ Q hs he fun b F' H' M' p => q b F' H' M' (k b M' p)
/-- a new list is frozen at once -/
theorem DN.de {P : List D → Mem → Prop} (h : DN X e ρ M P) : DE X e ρ M (fun d M' => ∃ ds, d = .lst ds ∧ P ds M') := fun F H σ Q hs he q => h F H σ Q hs he fun p vs F' H' ds M' hp e r nH nF nM nx => by
  have fle : Le F' (upd F' p (.lst vs)) := (Le.refl F').upd nF
  refine q (.ref p) (upd F' p (.lst vs)) H' (.lst ds) M' ⟨ds, rfl, hp⟩ ⟨p, vs, rfl, upd_same, r.mono fle⟩ ⟨⟨nx.hs.le.upd_l e, fun z hz => ?_, nx.hs.nd⟩, ⟨nx.st.fle.trans fle, nx.st.keep, fun a o ea fa na => ?_, nx.st.there⟩, nx.mem⟩
  · have hne : z.1 ≠ p := fun w => nM (w ▸ mem_adr hz)
    exact (nx.hs.own z hz).keep fle (fun _ w => w) (by rw [upd_ne hne]; exact (nx.hs.own z hz).fr)
  · have hne : a ≠ p := fun w => by rw [w, nH] at ea; cases ea
    rw [upd_ne hne]; exact nx.st.new a o ea fa na
theorem DN.fz {P : D → Mem → Prop} (h : DN X e ρ M (fun ds M' => P (.lst ds) M')) : DE X e ρ M P := h.de.imp fun d M' ⟨ds, e, p⟩ => by rw [e]; exact p
/-- .. is kept, owned -/
theorem DN.own {P : List D → Mem → Prop} (h : DN X e ρ M P) : DE X e ρ M (fun d M' => ∃ a ds M1, d = .loc a ∧ M' = (a, .lst ds) :: M1 ∧ a ∉ adr M1 ∧ P ds M1) := fun F H σ Q hs he q => h F H σ Q hs he fun p vs F' H' ds M' hp e r nH nF nM nx =>
  q (.ref p) F' H' (.loc p) ((p, .lst ds) :: M') ⟨p, ds, M', rfl, rfl, nM, hp⟩ rfl ⟨⟨nx.hs.le, fun z hz => by
    rcases List.mem_cons.mp hz with w | w
    · subst w; exact ⟨nF, vs, e, r⟩
    · exact nx.hs.own z w, List.nodup_cons.mpr ⟨nM, nx.hs.nd⟩⟩, nx.st, fun a ha => by
    rcases List.mem_cons.mp ha with w | w
    · subst w; exact .inr nH
    · exact nx.mem a w⟩
end

/-! ### the context of a def's body, or of a comprehension's block -/
structure Bd (X : Cx) (P : Program) (w : World) (K : PySem.W.Frag) (mg : Str → Option Value) (base : Heap) (N : List Str) (sc : Scope) (fn : Str → Bool) (k : Nat) : Prop where
  hP : X.prog = P
  hw : X.w = w
  hK : X.K = K
  hmg : X.mg = mg
  hbase : X.base = base
  hN : X.N = N
  hsc : X.env.scope = sc
  hfn : X.fn = fn
  nd : N.Nodup
  calm : X.calm = true
  room : Room k X.A
  xe : X.xe = fun _ _ => False
def visB (sc : Scope) (x : Str) : Bool := match sc.names.lookup x with | some .local => true | some .cell => true | some .free => true | _ => false
theorem vis_of {sc : Scope} {x : Str} (h : visB sc x = true) : Vis sc x := by
  unfold visB at h
  split at h <;> first | exact .inl (by assumption) | exact .inr (.inl (by assumption)) | exact .inr (.inr (by assumption)) | cases h
/-- may be stored: a local name, or one whose cell is the block's own -/
def locB (sc : Scope) (fn : Str → Bool) (x : Str) : Bool := match sc.names.lookup x with | some .local => true | some .cell => fn x | _ => false
def glB (sc : Scope) (x : Str) : Bool := match sc.names.lookup x with | some .globalImplicit => true | _ => false

section
variable {X : Cx} {P : Program} {w : World} {K : PySem.W.Frag} {mg : Str → Option Value} {base : Heap} {N : List Str} {sc : Scope} {fn : Str → Bool} {k : Nat} (B : Bd X P w K mg base N sc fn k)
include B
theorem Bd.vis {x : Str} (h : visB sc x = true) : Vis X.env.scope x := by rw [B.hsc]; exact vis_of h
theorem Bd.gl {x : Str} (h : glB sc x = true) : Gl X x := by
  show X.env.scope.names.lookup x = _
  rw [B.hsc]
  unfold glB at h
  split at h <;> first | assumption | cases h
theorem Bd.loc {x : Str} (h : locB sc fn x = true) : Loc X.env.scope x ∧ (X.fn x = true ∨ X.env.scope.names.lookup x = some .local) := by
  rw [B.hsc, B.hfn]
  unfold locB at h
  split at h
  · rename_i e; exact ⟨.inl e, .inr e⟩
  · rename_i e; exact ⟨.inr e, .inl h⟩
  · cases h
theorem Bd.nD : X.N.Nodup := by rw [B.hN]; exact B.nd
theorem Bd.po : PassesOwn (model X.prog X.w) X.A X.env X.xe := by rw [B.xe]; exact PassesOwn.never
theorem Bd.ix {i : Nat} {x : Str} (h : N[i]? = some x) : X.N[i]? = some x := by rw [B.hN]; exact h
theorem Bd.mgn {x : Str} (h : mg x = none) : X.mg x = none := by rw [B.hmg]; exact h
theorem Bd.mgs {x : Str} {u : Value} (h : mg x = some u) : X.mg x = some u := by rw [B.hmg]; exact h
end

/-! ### names and constants -/
section
variable {X : Cx} {P : Program} {w : World} {K : PySem.W.Frag} {mg : Str → Option Value} {base : Heap} {N : List Str} {sc : Scope} {fn : Str → Bool} {k : Nat} {ρ : Env} {M : Mem} {Z : D → Mem → Prop} {pos : Pos}
theorem de_name (B : Bd X P w K mg base N sc fn k) (i : Nat) {d : D} {x : Str} (h : ρ[i]? = some (some d)) (q : Z d M) (hN : N[i]? = some x := by rfl) (hv : visB sc x = true := by rfl) (hd : (x == ("__debug__" : Str)) = false := by decide) (hcd : (x == ("__classdict__" : Str)) = false := by decide) : DE X (.Name x pos) ρ M Z :=
  DE.of (pe_var (B.ix hN) (B.vis hv) hd hcd) fun F H σ Q hs he kk => by
    obtain ⟨v, e, r⟩ := he.2 i d h
    exact ⟨v, e, kk v F H d M q r (Nx.refl hs)⟩
theorem de_const {t : TE} {e : Expr} {v : V} {d : D} (h : PE X e (tC v)) (hr : ∀ F, Rep X.K F d v) (q : Z d M) : DE X e ρ M Z := DE.of h fun F H σ Q hs he kk => kk v F H d M q (hr F) (Nx.refl hs)
theorem de_int {i : Int} {j} (q : Z (.int i) M) : DE X (.Constant (.int i) j pos) ρ M Z := DE.of pe_int fun F H σ Q hs he kk => kk _ F H _ M q rfl (Nx.refl hs)
theorem de_bl {b : Bool} {j} (q : Z (.bl b) M) : DE X (.Constant (.bool b) j pos) ρ M Z := DE.of pe_bl fun F H σ Q hs he kk => kk _ F H _ M q rfl (Nx.refl hs)
theorem de_non {j} (q : Z .non M) : DE X (.Constant .none j pos) ρ M Z := DE.of pe_non fun F H σ Q hs he kk => kk _ F H _ M q rfl (Nx.refl hs)
theorem de_str {x : Str} {j} (q : Z (.str x) M) : DE X (.Constant (.str x) j pos) ρ M Z := DE.of pe_str fun F H σ Q hs he kk => kk _ F H _ M q rfl (Nx.refl hs)
/-- a constant of the module -/
theorem de_glob (B : Bd X P w K mg base N sc fn k) {x : Str} {v : V} {u : Value} {d : D} (hm : mg x = some u) (r : RelV v u) (hr : ∀ F, Rep X.K F d v) (q : Z d M) (hg : glB sc x = true := by rfl) (hd : (x == ("__debug__" : Str)) = false := by decide) : DE X (.Name x pos) ρ M Z :=
  DE.of (pe_glob (B.gl hg) (B.mgs hm) r hd) fun F H σ Q hs he kk => kk v F H d M q (hr F) (Nx.refl hs)

/-! ### operators -/
/-- a two-place operation on deep data, nothing changed -/
def OpD (K : PySem.W.Frag) (r : R2) (x y : D) (M : Mem) (Z : D → Mem → Prop) : Prop := ∀ F H (Q : VK) v u, Hs K F H M → Rep K F x v → Rep K F y u → (∀ z F' H' d M', Z d M' → Rep K F' d z → Nx K F H M F' H' M' → Q z H') → r v u H Q
theorem de_op {a b : Expr} {op : Operator} {r : R2} (ho : OpR X (binaryOp op) r) (h : DE X a ρ M fun d1 M1 => DE X b ρ M1 fun d2 M2 => OpD X.K r d1 d2 M2 Z) : DE X (.BinOp a op b pos) ρ M Z :=
  DE.of (pe_op ho peS peS) fun F H σ Q hs he kk => h F H σ _ hs he fun v1 F1 H1 d1 M1 g1 r1 n1 => g1 F1 H1 σ _ n1.hs (he.mono n1.st.fle) fun v2 F2 H2 d2 M2 g2 r2 n2 =>
    g2 F2 H2 Q v1 v2 n2.hs (r1.mono n2.st.fle) r2 fun z F3 H3 d M3 g3 r3 n3 => kk z F3 H3 d M3 g3 r3 ((n1.trans n2).trans n3)
theorem de_cmp {a b : Expr} {op : CmpOp} {r : R2} (ho : OpR X (compareOp op) r) (h : DE X a ρ M fun d1 M1 => DE X b ρ M1 fun d2 M2 => OpD X.K r d1 d2 M2 Z) (hm : behindInMarks op b = false := by first | exact nobehind _ (by decide) (by decide) | rfl) : DE X (.Compare a [op] [b] pos) ρ M Z :=
  DE.of (pe_cmpR ho peS peS hm) fun F H σ Q hs he kk => h F H σ _ hs he fun v1 F1 H1 d1 M1 g1 r1 n1 => g1 F1 H1 σ _ n1.hs (he.mono n1.st.fle) fun v2 F2 H2 d2 M2 g2 r2 n2 =>
    g2 F2 H2 Q v1 v2 n2.hs (r1.mono n2.st.fle) r2 fun z F3 H3 d M3 g3 r3 n3 => kk z F3 H3 d M3 g3 r3 ((n1.trans n2).trans n3)
theorem opd_I0 {g : Int → Int → V} {i j : Int} {d : D} (hd : ∀ F, Rep K F d (g i j)) (q : Z d M) : OpD K (rI0 g) (.int i) (.int j) M Z := fun F H Q v u hs r1 r2 kk => by
  have e1 : v = .int i := r1
  have e2 : u = .int j := r2
  exact ⟨i, j, e1, e2, kk _ F H d M q (hd F) (Nx.refl hs)⟩
theorem opd_I {C : Int → Int → Prop} {g : Int → Int → V} {i j : Int} {d : D} (hc : C i j) (hd : ∀ F, Rep K F d (g i j)) (q : Z d M) : OpD K (rI C g) (.int i) (.int j) M Z := fun F H Q v u hs r1 r2 kk => by
  have e1 : v = .int i := r1
  have e2 : u = .int j := r2
  exact ⟨i, j, e1, e2, hc, kk _ F H d M q (hd F) (Nx.refl hs)⟩
theorem opd_I0i {g : Int → Int → Int} {i j : Int} (q : Z (.int (g i j)) M) : OpD K (rI0 fun i j => .int (g i j)) (.int i) (.int j) M Z := opd_I0 (d := .int (g i j)) (fun _ => rfl) q
theorem opd_I0b {g : Int → Int → Bool} {i j : Int} (q : Z (.bl (g i j)) M) : OpD K (rI0 fun i j => .bl (g i j)) (.int i) (.int j) M Z := opd_I0 (d := .bl (g i j)) (fun _ => rfl) q
theorem opd_Ii {C : Int → Int → Prop} {g : Int → Int → Int} {i j : Int} (hc : C i j) (q : Z (.int (g i j)) M) : OpD K (rI C fun i j => .int (g i j)) (.int i) (.int j) M Z := opd_I (d := .int (g i j)) hc (fun _ => rfl) q
theorem de_add {a b : Expr} (h : DE X a ρ M fun d1 M1 => DE X b ρ M1 fun d2 M2 => ∃ i j, d1 = .int i ∧ d2 = .int j ∧ Z (.int (i + j)) M2) : DE X (.BinOp a .Add b pos) ρ M Z :=
  de_op op_add (h.imp fun _ _ h => DE.imp h fun _ _ ⟨i, j, e1, e2, q⟩ => by subst e1; subst e2; exact opd_I0i q)
theorem de_sub {a b : Expr} (h : DE X a ρ M fun d1 M1 => DE X b ρ M1 fun d2 M2 => ∃ i j, d1 = .int i ∧ d2 = .int j ∧ Z (.int (i - j)) M2) : DE X (.BinOp a .Sub b pos) ρ M Z :=
  de_op op_sub (h.imp fun _ _ h => DE.imp h fun _ _ ⟨i, j, e1, e2, q⟩ => by subst e1; subst e2; exact opd_I0i q)
theorem de_mul {a b : Expr} (h : DE X a ρ M fun d1 M1 => DE X b ρ M1 fun d2 M2 => ∃ i j, d1 = .int i ∧ d2 = .int j ∧ CMul i j ∧ Z (.int (i * j)) M2) : DE X (.BinOp a .Mult b pos) ρ M Z :=
  de_op op_mul (h.imp fun _ _ h => DE.imp h fun _ _ ⟨i, j, e1, e2, c, q⟩ => by subst e1; subst e2; exact opd_Ii c q)
/-- % by a positive divisor -/
theorem de_mod {a b : Expr} (h : DE X a ρ M fun d1 M1 => DE X b ρ M1 fun d2 M2 => ∃ i j, d1 = .int i ∧ d2 = .int j ∧ 0 < j ∧ Z (.int (i % j)) M2) : DE X (.BinOp a .Mod b pos) ρ M Z :=
  de_op op_mod (h.imp fun _ _ h => DE.imp h fun _ _ ⟨i, j, e1, e2, c, q⟩ => by subst e1; subst e2; exact opd_Ii c q)
theorem de_fdiv {a b : Expr} (h : DE X a ρ M fun d1 M1 => DE X b ρ M1 fun d2 M2 => ∃ i j, d1 = .int i ∧ d2 = .int j ∧ CDiv i j ∧ Z (.int (i / j)) M2) : DE X (.BinOp a .FloorDiv b pos) ρ M Z :=
  de_op op_fdiv (h.imp fun _ _ h => DE.imp h fun _ _ ⟨i, j, e1, e2, c, q⟩ => by subst e1; subst e2; exact opd_Ii c q)
theorem de_neg {a : Expr} (h : DE X a ρ M fun d1 M1 => ∃ i, d1 = .int i ∧ Z (.int (-i)) M1) : DE X (.UnaryOp .USub a pos) ρ M Z :=
  DE.of (pe_un un_neg peS) fun F H σ Q hs he kk => h F H σ _ hs he fun v1 F1 H1 d1 M1 ⟨i, e, g⟩ r1 n1 => by
    subst e
    have e1 : v1 = .int i := r1
    exact ⟨i, e1, kk _ F1 H1 _ M1 g rfl n1⟩
/-! ### comparisons of ints, as values -/
theorem de_lt {a b : Expr} (h : DE X a ρ M fun d1 M1 => DE X b ρ M1 fun d2 M2 => ∃ i j, d1 = .int i ∧ d2 = .int j ∧ Z (.bl (decide (i < j))) M2) : DE X (.Compare a [.Lt] [b] pos) ρ M Z :=
  de_cmp op_lt (h.imp fun _ _ h => DE.imp h fun _ _ ⟨i, j, e1, e2, q⟩ => by subst e1; subst e2; exact opd_I0b q)
theorem de_le {a b : Expr} (h : DE X a ρ M fun d1 M1 => DE X b ρ M1 fun d2 M2 => ∃ i j, d1 = .int i ∧ d2 = .int j ∧ Z (.bl (decide (i ≤ j))) M2) : DE X (.Compare a [.LtE] [b] pos) ρ M Z :=
  de_cmp op_le (h.imp fun _ _ h => DE.imp h fun _ _ ⟨i, j, e1, e2, q⟩ => by subst e1; subst e2; exact opd_I0b q)
theorem de_gt {a b : Expr} (h : DE X a ρ M fun d1 M1 => DE X b ρ M1 fun d2 M2 => ∃ i j, d1 = .int i ∧ d2 = .int j ∧ Z (.bl (decide (j < i))) M2) : DE X (.Compare a [.Gt] [b] pos) ρ M Z :=
  de_cmp op_gt (h.imp fun _ _ h => DE.imp h fun _ _ ⟨i, j, e1, e2, q⟩ => by subst e1; subst e2; exact opd_I0b q)
theorem de_ge {a b : Expr} (h : DE X a ρ M fun d1 M1 => DE X b ρ M1 fun d2 M2 => ∃ i j, d1 = .int i ∧ d2 = .int j ∧ Z (.bl (decide (j ≤ i))) M2) : DE X (.Compare a [.GtE] [b] pos) ρ M Z :=
  de_cmp op_ge (h.imp fun _ _ h => DE.imp h fun _ _ ⟨i, j, e1, e2, q⟩ => by subst e1; subst e2; exact opd_I0b q)
end
end DV

set_option Elab.async false
set_option linter.all false
set_option maxRecDepth 100000
set_option maxHeartbeats 4000000
/-! DV3: tests, arguments, displays, subscripts, slices, built-in calls. -/
namespace DV
open PySem PySem.Spec PyProof.Rows L2
section
variable {X : Cx} {P : Program} {w : World} {K : PySem.W.Frag} {mg : Str → Option Value} {base : Heap} {N : List Str} {sc : Scope} {fn : Str → Bool} {k : Nat} {ρ : Env} {M : Mem} {Z : D → Mem → Prop} {ZT : Bool → Mem → Prop} {ZL : List D → Mem → Prop} {pos : Pos} {a b c e : Expr} {es rest : List Expr}

/-! ### None, equality of scalars -/
def isNon : D → Bool | .non => true | _ => false
theorem rep_non {F : Hp} {d : D} {v : V} (r : Rep K F d v) : decide (v = .non) = isNon d := by
  cases d with
  | non => have e : v = .non := r; rw [e]; rfl
  | bl b => have e : v = .bl b := r; rw [e]; rfl
  | int i => have e : v = .int i := r; rw [e]; rfl
  | str x => have e : v = .str x := r; rw [e]; rfl
  | lst ds => obtain ⟨q, _, e, _⟩ := r; rw [e]; rfl
  | lsq ds => obtain ⟨q, _, e, _⟩ := r; rw [e]; rfl
  | tup ds => obtain ⟨q, _, e, _⟩ := r; rw [e]; rfl
  | loc a => have e : v = .ref a := r; rw [e]; rfl
  | ins C ns ds => obtain ⟨q, _, _, e, _⟩ := r; rw [e]; rfl
theorem opd_isN {x : D} (q : Z (.bl (isNon x)) M) : OpD K (fun x y H Q => y = .non ∧ Q (.bl (decide (x = .non))) H) x .non M Z := fun F H Q v u hs r1 r2 kk =>
  ⟨r2, kk _ F H _ M q (by rw [rep_non r1]; rfl) (Nx.refl hs)⟩
theorem opd_notN {x : D} (q : Z (.bl (!isNon x)) M) : OpD K (fun x y H Q => y = .non ∧ Q (.bl (!decide (x = .non))) H) x .non M Z := fun F H Q v u hs r1 r2 kk =>
  ⟨r2, kk _ F H _ M q (by rw [rep_non r1]; rfl) (Nx.refl hs)⟩
/-- what is told by its value alone -/
def flat : D → Option V | .non => some .non | .bl b => some (.bl b) | .int i => some (.int i) | .str x => some (.str x) | _ => none
theorem flat_rep {F : Hp} {d : D} {v u : V} (h : flat d = some u) (r : Rep K F d v) : v = u := by
  cases d with
  | non => have e : v = .non := r; rw [e]; exact Option.some.inj h
  | bl b => have e : v = .bl b := r; rw [e]; exact Option.some.inj h
  | int i => have e : v = .int i := r; rw [e]; exact Option.some.inj h
  | str x => have e : v = .str x := r; rw [e]; exact Option.some.inj h
  | lst ds => cases h
  | lsq ds => cases h
  | tup ds => cases h
  | loc a => cases h
  | ins C ns ds => cases h
theorem opd_eq {x y : D} {p q : V} (hx : flat x = some p) (hy : flat y = some q) (hs : scal p q = true) (h : Z (.bl (decide (p = q))) M) : OpD K rEq x y M Z := fun F H Q v u hh r1 r2 kk => by
  have e1 := flat_rep hx r1
  have e2 := flat_rep hy r2
  subst e1; subst e2
  exact ⟨hs, kk _ F H _ M h rfl (Nx.refl hh)⟩
theorem opd_ne {x y : D} {p q : V} (hx : flat x = some p) (hy : flat y = some q) (hs : scal p q = true) (h : Z (.bl (!decide (p = q))) M) : OpD K rNe x y M Z := fun F H Q v u hh r1 r2 kk => by
  have e1 := flat_rep hx r1
  have e2 := flat_rep hy r2
  subst e1; subst e2
  exact ⟨hs, kk _ F H _ M h rfl (Nx.refl hh)⟩
theorem de_isN (h : DE X a ρ M fun d M1 => Z (.bl (isNon d)) M1) {j p} : DE X (.Compare a [.Is] [.Constant .none j p] pos) ρ M Z :=
  de_cmp op_isN (h.imp fun _ _ h => de_non (opd_isN h))
theorem de_notN (h : DE X a ρ M fun d M1 => Z (.bl (!isNon d)) M1) {j p} : DE X (.Compare a [.IsNot] [.Constant .none j p] pos) ρ M Z :=
  de_cmp op_notN (h.imp fun _ _ h => de_non (opd_notN h))
/-- ints -/
theorem dec_ii {i j : Int} : decide (V.int i = V.int j) = decide (i = j) := by
  by_cases h : i = j
  · subst h; simp
  · rw [decide_eq_false h, decide_eq_false (fun q => h (V.int.inj q))]
theorem dec_ss {i j : Str} : decide (V.str i = V.str j) = decide (i = j) := by
  by_cases h : i = j
  · subst h; simp
  · rw [decide_eq_false h, decide_eq_false (fun q => h (V.str.inj q))]
theorem de_eqI (h : DE X a ρ M fun d1 M1 => DE X b ρ M1 fun d2 M2 => ∃ i j, d1 = .int i ∧ d2 = .int j ∧ Z (.bl (decide (i = j))) M2) : DE X (.Compare a [.Eq] [b] pos) ρ M Z :=
  de_cmp op_eq (h.imp fun _ _ h => DE.imp h fun _ _ ⟨i, j, e1, e2, q⟩ => by subst e1; subst e2; exact opd_eq rfl rfl rfl (by rw [dec_ii]; exact q))
theorem de_neI (h : DE X a ρ M fun d1 M1 => DE X b ρ M1 fun d2 M2 => ∃ i j, d1 = .int i ∧ d2 = .int j ∧ Z (.bl (!decide (i = j))) M2) : DE X (.Compare a [.NotEq] [b] pos) ρ M Z :=
  de_cmp op_ne (h.imp fun _ _ h => DE.imp h fun _ _ ⟨i, j, e1, e2, q⟩ => by subst e1; subst e2; exact opd_ne rfl rfl rfl (by rw [dec_ii]; exact q))
/-- scalars of any kind -/
theorem de_eqS (h : DE X a ρ M fun d1 M1 => DE X b ρ M1 fun d2 M2 => ∃ p q, flat d1 = some p ∧ flat d2 = some q ∧ scal p q = true ∧ Z (.bl (decide (p = q))) M2) : DE X (.Compare a [.Eq] [b] pos) ρ M Z :=
  de_cmp op_eq (h.imp fun _ _ h => DE.imp h fun _ _ ⟨p, q, e1, e2, s, z⟩ => opd_eq e1 e2 s z)
theorem de_neS (h : DE X a ρ M fun d1 M1 => DE X b ρ M1 fun d2 M2 => ∃ p q, flat d1 = some p ∧ flat d2 = some q ∧ scal p q = true ∧ Z (.bl (!decide (p = q))) M2) : DE X (.Compare a [.NotEq] [b] pos) ρ M Z :=
  de_cmp op_ne (h.imp fun _ _ h => DE.imp h fun _ _ ⟨p, q, e1, e2, s, z⟩ => opd_ne e1 e2 s z)

/-! ### chains, and, or, not, if -/
theorem de_chain {op op' : CmpOp} {g g' : Int → Int → Bool} (ho : OpR X (compareOp op) (rI0 fun i j => .bl (g i j))) (ho' : OpR X (compareOp op') (rI0 fun i j => .bl (g' i j)))
    (h : DE X a ρ M fun d1 M1 => DE X b ρ M1 fun d2 M2 => ∃ i j, d1 = .int i ∧ d2 = .int j ∧ (g i j = true → DE X c ρ M2 fun d3 M3 => ∃ l, d3 = .int l ∧ Z (.bl (g' j l)) M3) ∧ (g i j = false → Z (.bl false) M2))
    (hm : lastMarks [op, op'] [b, c] = false := by with_unfolding_all rfl) : DE X (.Compare a [op, op'] [b, c] pos) ρ M Z :=
  DE.of (pe_chain ho ho' peS peS peS hm) fun F H σ Q hs he kk => h F H σ _ hs he fun v1 F1 H1 d1 M1 g1 r1 n1 => g1 F1 H1 σ _ n1.hs (he.mono n1.st.fle) fun v2 F2 H2 d2 M2 g2 r2 n2 => by
    obtain ⟨i, j, e1, e2, ht, hf⟩ := g2
    subst e1; subst e2
    have q1 : v1 = .int i := r1
    have q2 : v2 = .int j := r2
    refine ⟨i, j, q1, q2, g i j, rfl, ?_⟩
    cases hc : g i j with
    | true =>
      rw [if_pos rfl]
      refine ht hc F2 H2 σ _ n2.hs (he.mono (n1.st.fle.trans n2.st.fle)) fun v3 F3 H3 d3 M3 ⟨l, e3, z⟩ r3 n3 => ?_
      subst e3
      have q3 : v3 = .int l := r3
      exact ⟨j, l, q2, q3, kk _ F3 H3 _ M3 z rfl ((n1.trans n2).trans n3)⟩
    | false =>
      rw [if_neg Bool.false_ne_true]
      exact kk _ F2 H2 _ M2 (hf hc) rfl (n1.trans n2)
theorem dt_chain {op op' : CmpOp} {g g' : Int → Int → Bool} (ho : OpR X (compareOp op) (rI0 fun i j => .bl (g i j))) (ho' : OpR X (compareOp op') (rI0 fun i j => .bl (g' i j)))
    (h : DE X a ρ M fun d1 M1 => DE X b ρ M1 fun d2 M2 => ∃ i j, d1 = .int i ∧ d2 = .int j ∧ (g i j = true → DE X c ρ M2 fun d3 M3 => ∃ l, d3 = .int l ∧ ZT (g' j l) M3) ∧ (g i j = false → ZT false M2))
    (hm : lastMarks [op, op'] [b, c] = false := by with_unfolding_all rfl) : DT X (.Compare a [op, op'] [b, c] pos) ρ M ZT :=
  DT.of (pt_chain ho ho' peS peS peS hm) fun F H σ Q hs he kk => h F H σ _ hs he fun v1 F1 H1 d1 M1 g1 r1 n1 => g1 F1 H1 σ _ n1.hs (he.mono n1.st.fle) fun v2 F2 H2 d2 M2 g2 r2 n2 => by
    obtain ⟨i, j, e1, e2, ht, hf⟩ := g2
    subst e1; subst e2
    have q1 : v1 = .int i := r1
    have q2 : v2 = .int j := r2
    refine ⟨i, j, q1, q2, g i j, rfl, ?_⟩
    cases hc : g i j with
    | true =>
      rw [if_pos rfl]
      refine ht hc F2 H2 σ _ n2.hs (he.mono (n1.st.fle.trans n2.st.fle)) fun v3 F3 H3 d3 M3 ⟨l, e3, z⟩ r3 n3 => ?_
      subst e3
      have q3 : v3 = .int l := r3
      exact ⟨j, l, q2, q3, _, rfl, kk _ F3 H3 M3 z ((n1.trans n2).trans n3)⟩
    | false =>
      rw [if_neg Bool.false_ne_true]
      exact ⟨_, rfl, kk _ F2 H2 M2 (hf hc) (n1.trans n2)⟩
theorem de_one {op} (h : DE X a ρ M Z) : DE X (.BoolOp op [a] pos) ρ M Z := DE.of (pe_one peS) fun F H σ Q hs he kk => h F H σ Q hs he kk
theorem de_and (h : DE X a ρ M fun d1 M1 => ∃ x, d1 = .bl x ∧ (x = true → DE X (.BoolOp .And (b :: rest) pos) ρ M1 Z) ∧ (x = false → Z (.bl false) M1)) : DE X (.BoolOp .And (a :: b :: rest) pos) ρ M Z :=
  DE.of (pe_and peS peS) fun F H σ Q hs he kk => h F H σ _ hs he fun v1 F1 H1 d1 M1 ⟨x, e, ht, hf⟩ r1 n1 => by
    subst e
    have q1 : v1 = .bl x := r1
    refine ⟨x, q1, ?_⟩
    cases x with
    | true => rw [if_pos rfl]; exact ht rfl F1 H1 σ Q n1.hs (he.mono n1.st.fle) fun v2 F2 H2 d2 M2 z r2 n2 => kk v2 F2 H2 d2 M2 z r2 (n1.trans n2)
    | false => rw [if_neg Bool.false_ne_true]; exact kk _ F1 H1 _ M1 (hf rfl) rfl n1
theorem de_or (h : DE X a ρ M fun d1 M1 => ∃ x, d1 = .bl x ∧ (x = false → DE X (.BoolOp .Or (b :: rest) pos) ρ M1 Z) ∧ (x = true → Z (.bl true) M1)) : DE X (.BoolOp .Or (a :: b :: rest) pos) ρ M Z :=
  DE.of (pe_or peS peS) fun F H σ Q hs he kk => h F H σ _ hs he fun v1 F1 H1 d1 M1 ⟨x, e, hf, ht⟩ r1 n1 => by
    subst e
    have q1 : v1 = .bl x := r1
    refine ⟨x, q1, ?_⟩
    cases x with
    | false => rw [if_neg Bool.false_ne_true]; exact hf rfl F1 H1 σ Q n1.hs (he.mono n1.st.fle) fun v2 F2 H2 d2 M2 z r2 n2 => kk v2 F2 H2 d2 M2 z r2 (n1.trans n2)
    | true => rw [if_pos rfl]; exact kk _ F1 H1 _ M1 (ht rfl) rfl n1
theorem de_not (h : DE X a ρ M fun d1 M1 => ∃ x, d1 = .bl x ∧ Z (.bl (!x)) M1) : DE X (.UnaryOp .Not a pos) ρ M Z :=
  DE.of (pe_not peS) fun F H σ Q hs he kk => h F H σ _ hs he fun v1 F1 H1 d1 M1 ⟨x, e, z⟩ r1 n1 => by
    subst e
    exact ⟨x, r1, kk _ F1 H1 _ M1 z rfl n1⟩
theorem de_if (h : DT X c ρ M fun x M1 => (x = true → DE X a ρ M1 Z) ∧ (x = false → DE X b ρ M1 Z)) : DE X (.IfExp c a b pos) ρ M Z :=
  DE.of (pe_ifExp ptS peS peS) fun F H σ Q hs he kk => h F H σ _ hs he fun x F1 H1 M1 ⟨ht, hf⟩ n1 => by
    cases x with
    | true => rw [if_pos rfl]; exact ht rfl F1 H1 σ Q n1.hs (he.mono n1.st.fle) fun v2 F2 H2 d2 M2 z r2 n2 => kk v2 F2 H2 d2 M2 z r2 (n1.trans n2)
    | false => rw [if_neg Bool.false_ne_true]; exact hf rfl F1 H1 σ Q n1.hs (he.mono n1.st.fle) fun v2 F2 H2 d2 M2 z r2 n2 => kk v2 F2 H2 d2 M2 z r2 (n1.trans n2)
/-! ### tests -/
/-- an expression that gives a bool, as a test (not a comparison, not an and, or, not) -/
theorem dt_val (h : DE X e ρ M fun d M1 => ∃ x, d = .bl x ∧ ZT x M1) (he : ∀ whole, isTrue e X.env whole = (do let v ← whole; standAt e.pos; holding [v] (truthy v)) := by intro _; rfl) : DT X e ρ M ZT :=
  DT.of (pt_val peS he) fun F H σ Q hs he kk => h F H σ _ hs he fun v1 F1 H1 d1 M1 ⟨x, e, z⟩ r1 n1 => by
    subst e
    exact ⟨x, r1, kk _ F1 H1 M1 z n1⟩
theorem dt_cmp {op : CmpOp} {r : R2} (ho : OpR X (compareOp op) r) (h : DE X a ρ M fun d1 M1 => DE X b ρ M1 fun d2 M2 => OpD X.K r d1 d2 M2 fun d M3 => ∃ x, d = .bl x ∧ ZT x M3)
    (hm : behindInMarks op b = false := by first | exact nomark _ | rfl) : DT X (.Compare a [op] [b] pos) ρ M ZT :=
  DT.of (pt_cmpR ho peS peS hm) fun F H σ Q hs he kk => h F H σ _ hs he fun v1 F1 H1 d1 M1 g1 r1 n1 => g1 F1 H1 σ _ n1.hs (he.mono n1.st.fle) fun v2 F2 H2 d2 M2 g2 r2 n2 =>
    g2 F2 H2 _ v1 v2 n2.hs (r1.mono n2.st.fle) r2 fun z F3 H3 d M3 ⟨x, e, g3⟩ r3 n3 => by
      subst e
      exact ⟨x, r3, kk _ F3 H3 M3 g3 ((n1.trans n2).trans n3)⟩
/-- two ints -/
theorem dt_I {op : CmpOp} {g : Int → Int → Bool} (ho : OpR X (compareOp op) (rI0 fun i j => .bl (g i j))) (h : DE X a ρ M fun d1 M1 => DE X b ρ M1 fun d2 M2 => ∃ i j, d1 = .int i ∧ d2 = .int j ∧ ZT (g i j) M2)
    (hm : behindInMarks op b = false := by first | exact nomark _ | rfl) : DT X (.Compare a [op] [b] pos) ρ M ZT :=
  dt_cmp ho (h.imp fun _ _ h => DE.imp h fun _ _ ⟨i, j, e1, e2, q⟩ => by subst e1; subst e2; exact opd_I0 (d := .bl (g i j)) (fun _ => rfl) ⟨_, rfl, q⟩) hm
theorem dt_eqI (h : DE X a ρ M fun d1 M1 => DE X b ρ M1 fun d2 M2 => ∃ i j, d1 = .int i ∧ d2 = .int j ∧ ZT (decide (i = j)) M2) : DT X (.Compare a [.Eq] [b] pos) ρ M ZT :=
  dt_cmp op_eq (h.imp fun _ _ h => DE.imp h fun _ _ ⟨i, j, e1, e2, q⟩ => by subst e1; subst e2; exact opd_eq rfl rfl rfl ⟨_, rfl, by rw [dec_ii]; exact q⟩)
theorem dt_neI (h : DE X a ρ M fun d1 M1 => DE X b ρ M1 fun d2 M2 => ∃ i j, d1 = .int i ∧ d2 = .int j ∧ ZT (!decide (i = j)) M2) : DT X (.Compare a [.NotEq] [b] pos) ρ M ZT :=
  dt_cmp op_ne (h.imp fun _ _ h => DE.imp h fun _ _ ⟨i, j, e1, e2, q⟩ => by subst e1; subst e2; exact opd_ne rfl rfl rfl ⟨_, rfl, by rw [dec_ii]; exact q⟩)
theorem dt_eqS (h : DE X a ρ M fun d1 M1 => DE X b ρ M1 fun d2 M2 => ∃ p q, flat d1 = some p ∧ flat d2 = some q ∧ scal p q = true ∧ ZT (decide (p = q)) M2) : DT X (.Compare a [.Eq] [b] pos) ρ M ZT :=
  dt_cmp op_eq (h.imp fun _ _ h => DE.imp h fun _ _ ⟨p, q, e1, e2, s, z⟩ => opd_eq e1 e2 s ⟨_, rfl, z⟩)
theorem dt_neS (h : DE X a ρ M fun d1 M1 => DE X b ρ M1 fun d2 M2 => ∃ p q, flat d1 = some p ∧ flat d2 = some q ∧ scal p q = true ∧ ZT (!decide (p = q)) M2) : DT X (.Compare a [.NotEq] [b] pos) ρ M ZT :=
  dt_cmp op_ne (h.imp fun _ _ h => DE.imp h fun _ _ ⟨p, q, e1, e2, s, z⟩ => opd_ne e1 e2 s ⟨_, rfl, z⟩)
theorem dt_isN (h : DE X a ρ M fun d M1 => ZT (isNon d) M1) {j p} : DT X (.Compare a [.Is] [.Constant .none j p] pos) ρ M ZT :=
  dt_cmp op_isN (h.imp fun _ _ h => de_non (opd_isN ⟨_, rfl, h⟩))
theorem dt_notN (h : DE X a ρ M fun d M1 => ZT (!isNon d) M1) {j p} : DT X (.Compare a [.IsNot] [.Constant .none j p] pos) ρ M ZT :=
  dt_cmp op_notN (h.imp fun _ _ h => de_non (opd_notN ⟨_, rfl, h⟩))
theorem dt_not (h : DT X a ρ M fun x M1 => ZT (!x) M1) : DT X (.UnaryOp .Not a pos) ρ M ZT :=
  DT.of (pt_not ptS) fun F H σ Q hs he kk => h F H σ _ hs he fun x F1 H1 M1 z n1 => kk _ F1 H1 M1 z n1
theorem dw_t (h : DW X e ρ M ZT) : DT X e ρ M ZT := DT.of (PW.pt pwS) fun F H σ Q hs he kk => h F H σ Q hs he kk
theorem dw_and1 (h : DT X a ρ M ZT) : DW X (.BoolOp .And [a] pos) ρ M ZT := DW.of (pw_and1 ptS) fun F H σ Q hs he kk => h F H σ Q hs he kk
theorem dw_or1 (h : DT X a ρ M ZT) : DW X (.BoolOp .Or [a] pos) ρ M ZT := DW.of (pw_or1 ptS) fun F H σ Q hs he kk => h F H σ Q hs he kk
theorem dw_and (h : DT X a ρ M fun x M1 => (x = true → DW X (.BoolOp .And (b :: rest) pos) ρ M1 ZT) ∧ (x = false → ZT false M1)) : DW X (.BoolOp .And (a :: b :: rest) pos) ρ M ZT :=
  DW.of (pw_and ptS pwS) fun F H σ Q hs he kk => h F H σ _ hs he fun x F1 H1 M1 ⟨ht, hf⟩ n1 => by
    cases x with
    | true => rw [if_pos rfl]; exact ht rfl F1 H1 σ Q n1.hs (he.mono n1.st.fle) fun y F2 H2 M2 z n2 => kk y F2 H2 M2 z (n1.trans n2)
    | false => rw [if_neg Bool.false_ne_true]; exact kk _ F1 H1 M1 (hf rfl) n1
theorem dw_or (h : DT X a ρ M fun x M1 => (x = false → DW X (.BoolOp .Or (b :: rest) pos) ρ M1 ZT) ∧ (x = true → ZT true M1)) : DW X (.BoolOp .Or (a :: b :: rest) pos) ρ M ZT :=
  DW.of (pw_or ptS pwS) fun F H σ Q hs he kk => h F H σ _ hs he fun x F1 H1 M1 ⟨hf, ht⟩ n1 => by
    cases x with
    | true => rw [if_pos rfl]; exact kk _ F1 H1 M1 (ht rfl) n1
    | false => rw [if_neg Bool.false_ne_true]; exact hf rfl F1 H1 σ Q n1.hs (he.mono n1.st.fle) fun y F2 H2 M2 z n2 => kk y F2 H2 M2 z (n1.trans n2)

/-! ### lists, frozen or owned -/
/-- a list made by the call -/
def LstS (M : Mem) (d : D) (ds : List D) : Prop := d = .lst ds ∨ ∃ a, d = .loc a ∧ (a, .lst ds) ∈ M
def LstAt (M : Mem) (d : D) (ds : List D) : Prop := LstS M d ds ∨ d = .lsq ds
theorem LstS.get {F H : Hp} {d : D} {ds : List D} {v : V} (l : LstS M d ds) (hs : Hs K F H M) (r : Rep K F d v) : ∃ a vs, v = .ref a ∧ H a = some (.lst vs) ∧ Reps K F ds vs := by
  rcases l with e | ⟨a, e, m⟩
  · subst e
    obtain ⟨a, vs, e, s, r⟩ := r
    exact ⟨a, vs, e, hs.le _ _ s, r⟩
  · subst e
    obtain ⟨_, vs, e, r'⟩ := hs.own _ m
    exact ⟨a, vs, r, e, r'⟩
theorem LstAt.sql {F H : Hp} {d : D} {ds : List D} {v : V} (l : LstAt M d ds) (hs : Hs K F H M) (r : Rep K F d v) : ∃ a vs, v = .ref a ∧ SqL K H a vs ∧ Reps K F ds vs := by
  rcases l with l | e
  · obtain ⟨a, vs, e, s, r⟩ := l.get hs r
    exact ⟨a, vs, e, SqL.of s, r⟩
  · subst e
    obtain ⟨a, vs, e, s, r⟩ := r
    exact ⟨a, vs, e, hs.le.sql s, r⟩
theorem LstS.f {ds : List D} : LstS M (.lst ds) ds := .inl rfl
theorem LstS.o {a : Addr} {ds : List D} (h : (a, .lst ds) ∈ M) : LstS M (.loc a) ds := .inr ⟨a, rfl, h⟩
theorem LstAt.f {ds : List D} : LstAt M (.lst ds) ds := .inl (.inl rfl)
theorem LstAt.o {a : Addr} {ds : List D} (h : (a, .lst ds) ∈ M) : LstAt M (.loc a) ds := .inl (.inr ⟨a, rfl, h⟩)
theorem LstAt.q {ds : List D} : LstAt M (.lsq ds) ds := .inr rfl
theorem tup_sqt {F H : Hp} {ds : List D} {v : V} (hs : Hs K F H M) (r : Rep K F (.tup ds) v) : ∃ a vs, v = .ref a ∧ SqT K H a vs ∧ Reps K F ds vs := by
  obtain ⟨a, vs, e, s, r⟩ := r
  exact ⟨a, vs, e, hs.le.sqt s, r⟩

/-! ### arguments, displays -/
theorem da_nil (q : ZL [] M) : DA X [] ρ M ZL := DA.of pa_nil fun F H σ Q hs he kk => kk [] F H [] M q .nil (Nx.refl hs)
def noStar : Expr → Bool | .Starred .. => false | _ => true
theorem star_of {env : PySem.Env} (h : noStar e = true) : starEach (e :: es) env = (false, eval e env) :: starEach es env := by
  cases e <;> first | rfl | cases h
theorem da_cons (h : DE X e ρ M fun d M1 => DA X es ρ M1 fun ds M2 => ZL (d :: ds) M2) (hs : noStar e = true := by rfl) : DA X (e :: es) ρ M ZL :=
  DA.of (pa_cons peS paS (star_of hs)) fun F H σ Q hs he kk => h F H σ _ hs he fun v F1 H1 d M1 g r1 n1 => g F1 H1 σ _ n1.hs (he.mono n1.st.fle) fun vs F2 H2 ds M2 z r2 n2 => kk _ F2 H2 _ M2 z (.cons (r1.mono n2.st.fle) r2) (n1.trans n2)
/-- *e, a list -/
theorem da_starL {p : Pos} (h : DE X e ρ M fun d M1 => ∃ xs, LstAt M1 d xs ∧ DA X es ρ M1 fun ds M2 => ZL (xs ++ ds) M2) (hs : starEach (.Starred e p :: es) X.env = (true, eval e X.env) :: starEach es X.env := by rfl) : DA X (.Starred e p :: es) ρ M ZL :=
  DA.of (StX.pa_star peS paS hs) fun F H σ Q hs he kk => h F H σ _ hs he fun v F1 H1 d M1 ⟨xs, l, g⟩ r1 n1 => by
    obtain ⟨a, vs, e, s, r⟩ := l.sql n1.hs r1
    exact ⟨a, vs, e, .inr s, g F1 H1 σ _ n1.hs (he.mono n1.st.fle) fun us F2 H2 ds M2 z r2 n2 => kk _ F2 H2 _ M2 z ((r.mono n2.st.fle).append r2) (n1.trans n2)⟩
theorem da_starT {p : Pos} (h : DE X e ρ M fun d M1 => ∃ xs, d = .tup xs ∧ DA X es ρ M1 fun ds M2 => ZL (xs ++ ds) M2) (hs : starEach (.Starred e p :: es) X.env = (true, eval e X.env) :: starEach es X.env := by rfl) : DA X (.Starred e p :: es) ρ M ZL :=
  DA.of (StX.pa_star peS paS hs) fun F H σ Q hs he kk => h F H σ _ hs he fun v F1 H1 d M1 ⟨xs, l, g⟩ r1 n1 => by
    subst l
    obtain ⟨a, vs, e, s, r⟩ := tup_sqt n1.hs r1
    exact ⟨a, vs, e, .inl s, g F1 H1 σ _ n1.hs (he.mono n1.st.fle) fun us F2 H2 ds M2 z r2 n2 => kk _ F2 H2 _ M2 z ((r.mono n2.st.fle).append r2) (n1.trans n2)⟩
theorem sz_of {n : Nat} (h : n ≤ 1000000) : n ≤ sizeLine := Nat.le_trans h (by decide)
theorem sz_lt {n : Nat} (h : n ≤ 1000000) : n < sizeLine := Nat.lt_of_le_of_lt h (by decide)
theorem de_tup {x1} (h : DA X es ρ M fun ds M1 => ds.length ≤ 1000000 ∧ Z (.tup ds) M1) : DE X (.Tuple es x1 pos) ρ M Z :=
  DE.of (pe_tup paS) fun F H σ Q hs he kk => h F H σ _ hs he fun vs F1 H1 ds M1 ⟨hz, z⟩ r1 n1 => ⟨by rw [← r1.length]; exact sz_of hz, fun p hp => by
    have n2 := Nx.frz (o := .tup vs) n1.hs hp
    exact kk _ _ _ _ M1 z ⟨p, vs, rfl, SqT.of upd_same, r1.mono n2.st.fle⟩ (n1.trans n2)⟩
theorem dn_lst (h : DA X es ρ M fun ds M1 => ds.length ≤ 1000000 ∧ ZL ds M1) : DN X (.List es pos) ρ M ZL :=
  DN.of (pe_lst paS) fun F H σ Q hs he kk => h F H σ _ hs he fun vs F1 H1 ds M1 ⟨hz, z⟩ r1 n1 => ⟨by rw [← r1.length]; exact sz_of hz, fun p hp => by
    have n2 := Nx.put (o := .lst vs) n1.hs hp
    exact kk p vs F1 _ ds M1 z upd_same r1 (n1.st.there p hp) (n1.hs.le.none hp) (n1.hs.out hp) (n1.trans n2)⟩
end
end DV

set_option Elab.async false
set_option linter.all false
set_option maxRecDepth 100000
set_option maxHeartbeats 4000000
/-! DV4: subscripts, slices, sums of lists and tuples, built-in calls. -/
namespace DV
open PySem PySem.Spec PyProof.Rows L2
section
variable {X : Cx} {P : Program} {w : World} {K : PySem.W.Frag} {mg : Str → Option Value} {base : Heap} {N : List Str} {sc : Scope} {fn : Str → Bool} {k : Nat} {ρ : Env} {M : Mem} {Z : D → Mem → Prop} {ZT : Bool → Mem → Prop} {ZL : List D → Mem → Prop} {pos p p2 : Pos} {a b c e : Expr} {es rest : List Expr}

theorem Reps.atI {F : Hp} {ds : List D} {vs : List V} {i : Int} {d : D} (r : Reps K F ds vs) (h : L2.atI ds i = some d) : ∃ v, L2.atI vs i = some v ∧ Rep K F d v := by
  unfold L2.atI at h ⊢
  rw [← r.length]
  cases e : ixN ds.length i with
  | none => rw [e] at h; cases h
  | some j =>
    rw [e] at h
    exact r.get (show ds[j]? = some d from h)
/-! ### subscripts -/
theorem de_ixL (h : DE X a ρ M fun d1 M1 => DE X b ρ M1 fun d2 M2 => ∃ ds i d, LstAt M2 d1 ds ∧ d2 = .int i ∧ L2.atI ds i = some d ∧ Z d M2) (hs : PlainIx b := by exact fun _ _ => rfl) : DE X (.Subscript a b pos) ρ M Z :=
  DE.of (pe_ix ix_list peS peS hs) fun F H σ Q hs he kk => h F H σ _ hs he fun v1 F1 H1 d1 M1 g1 r1 n1 => g1 F1 H1 σ _ n1.hs (he.mono n1.st.fle) fun v2 F2 H2 d2 M2 ⟨ds, i, d, l, e2, ha, z⟩ r2 n2 => by
    subst e2
    have q2 : v2 = .int i := r2
    obtain ⟨a, vs, e1, s, r⟩ := l.sql n2.hs (r1.mono n2.st.fle)
    obtain ⟨v, hv, rv⟩ := r.atI ha
    exact ⟨a, vs, i, v, e1, q2, s, hv, kk v F2 H2 d M2 z rv (n1.trans n2)⟩
theorem de_ixT (h : DE X a ρ M fun d1 M1 => DE X b ρ M1 fun d2 M2 => ∃ ds i d, d1 = .tup ds ∧ d2 = .int i ∧ L2.atI ds i = some d ∧ Z d M2) (hs : PlainIx b := by exact fun _ _ => rfl) : DE X (.Subscript a b pos) ρ M Z :=
  DE.of (pe_ix ix_tup peS peS hs) fun F H σ Q hs he kk => h F H σ _ hs he fun v1 F1 H1 d1 M1 g1 r1 n1 => g1 F1 H1 σ _ n1.hs (he.mono n1.st.fle) fun v2 F2 H2 d2 M2 ⟨ds, i, d, e1, e2, ha, z⟩ r2 n2 => by
    subst e1; subst e2
    have q2 : v2 = .int i := r2
    obtain ⟨a, vs, e1, s, r⟩ := tup_sqt n2.hs (r1.mono n2.st.fle)
    obtain ⟨v, hv, rv⟩ := r.atI ha
    exact ⟨a, vs, i, v, e1, q2, s, hv, kk v F2 H2 d M2 z rv (n1.trans n2)⟩
theorem de_ixS (h : DE X a ρ M fun d1 M1 => DE X b ρ M1 fun d2 M2 => ∃ (x : Str) (i : Int) (c : Nat), d1 = .str x ∧ d2 = .int i ∧ x.length ≤ 1000000 ∧ L2.atI x.cps.toList i = some c ∧ Z (.str ⟨#[c]⟩) M2) (hs : PlainIx b := by exact fun _ _ => rfl) : DE X (.Subscript a b pos) ρ M Z :=
  DE.of (pe_ix ix_str peS peS hs) fun F H σ Q hs he kk => h F H σ _ hs he fun v1 F1 H1 d1 M1 g1 r1 n1 => g1 F1 H1 σ _ n1.hs (he.mono n1.st.fle) fun v2 F2 H2 d2 M2 ⟨x, i, c, e1, e2, hl, ha, z⟩ r2 n2 => by
    subst e1; subst e2
    exact ⟨x, i, c, r1, r2, sz_of hl, ha, kk _ F2 H2 _ M2 z rfl (n1.trans n2)⟩

/-! ### slices -/
def DO (X : Cx) (o : Option Expr) (ρ : Env) (M : Mem) (Z : Option Int → Mem → Prop) : Prop := match o with
  | none => Z none M
  | some e => DE X e ρ M fun d M1 => ∃ i, d = .int i ∧ Z (some i) M1
def semO (X : Cx) : Option Expr → TO
  | none => tNoPart
  | some e => tPart (semE X e)
theorem poS : ∀ {o : Option Expr}, PO X o (semO X o)
  | none => po_none
  | some _ => po_some peS
theorem DO.run {o : Option Expr} {ZO : Option Int → Mem → Prop} (h : DO X o ρ M ZO) {F H : Hp} {σ : L2.St} {Q : Option Int → Hp → Prop} (hs : Hs X.K F H M) (he : EnvOk X.K F σ ρ)
    (kk : ∀ o F' H' M', ZO o M' → Nx X.K F H M F' H' M' → Q o H') : semO X o σ H Q := by
  cases o with
  | none => exact kk none F H M h (Nx.refl hs)
  | some e => exact DE.run h hs he kk
where
  DE.run {e : Expr} {ZO : Option Int → Mem → Prop} (h : DE X e ρ M fun d M1 => ∃ i, d = .int i ∧ ZO (some i) M1) {F H : Hp} {σ : L2.St} {Q : Option Int → Hp → Prop} (hs : Hs X.K F H M) (he : EnvOk X.K F σ ρ)
    (kk : ∀ o F' H' M', ZO o M' → Nx X.K F H M F' H' M' → Q o H') : tPart (semE X e) σ H Q := h F H σ _ hs he fun v F1 H1 d M1 ⟨i, e, z⟩ r n => by
      subst e
      exact ⟨i, r, kk (some i) F1 H1 M1 z n⟩
/-- what a slice takes -/
def cutD {α : Type} (xs : List α) (lo hi : Option Int) : List α := (xs.drop (HT.sIx xs.length 0 lo)).take (HT.sIx xs.length xs.length hi - HT.sIx xs.length 0 lo)
theorem Reps.cut {F : Hp} {ds : List D} {vs : List V} (r : Reps K F ds vs) (lo hi : Option Int) : Reps K F (cutD ds lo hi) (cutV vs lo hi) := by
  unfold cutD cutV
  rw [r.length]
  exact (r.drop _).take _
theorem dn_sliceL {lo hi : Option Expr} (h : DE X a ρ M fun d M1 => DO X lo ρ M1 fun l M2 => DO X hi ρ M2 fun u M3 => ∃ ds, LstAt M3 d ds ∧ ZL (cutD ds l u) M3) : DN X (.Subscript a (.Slice lo hi none p2) pos) ρ M ZL :=
  DN.of (pe_slice sl_list peS poS poS) fun F H σ Q hs he kk => h F H σ _ hs he fun v F1 H1 d M1 g1 r1 n1 => DO.run g1 n1.hs (he.mono n1.st.fle) fun l F2 H2 M2 g2 n2 => DO.run g2 n2.hs (he.mono (n1.st.fle.trans n2.st.fle)) fun u F3 H3 M3 ⟨ds, la, z⟩ n3 => by
    obtain ⟨a, vs, e, s, r⟩ := la.sql n3.hs (r1.mono (n2.st.fle.trans n3.st.fle))
    have n := (n1.trans n2).trans n3
    exact ⟨a, vs, e, s, fun q hq => kk q _ F3 _ _ M3 z upd_same (r.cut l u) (n.st.there q hq) (n.hs.le.none hq) (n.hs.out hq) (n.trans (Nx.put n.hs hq))⟩
theorem de_sliceT {lo hi : Option Expr} (h : DE X a ρ M fun d M1 => DO X lo ρ M1 fun l M2 => DO X hi ρ M2 fun u M3 => ∃ ds, d = .tup ds ∧ Z (.tup (cutD ds l u)) M3) : DE X (.Subscript a (.Slice lo hi none p2) pos) ρ M Z :=
  DE.of (pe_slice sl_tupA peS poS poS) fun F H σ Q hs he kk => h F H σ _ hs he fun v F1 H1 d M1 g1 r1 n1 => DO.run g1 n1.hs (he.mono n1.st.fle) fun l F2 H2 M2 g2 n2 => DO.run g2 n2.hs (he.mono (n1.st.fle.trans n2.st.fle)) fun u F3 H3 M3 ⟨ds, la, z⟩ n3 => by
    subst la
    have n := (n1.trans n2).trans n3
    have r3 := r1.mono (n2.st.fle.trans n3.st.fle)
    obtain ⟨a, vs, e, s, r⟩ := r3
    refine ⟨a, vs, e, n3.hs.le.sqt s, fun hw => ?_, fun _ q hq => ?_⟩
    · refine kk _ F3 H3 _ M3 z ?_ n
      have ec : cutD ds l u = ds := by
        unfold cutD
        rw [r.length, hw.1, hw.2, ← r.length]
        simp
      rw [ec]
      exact ⟨a, vs, rfl, s, r⟩
    · have n4 := Nx.frz (o := .tup (cutV vs l u)) n.hs hq
      exact kk _ _ _ _ M3 z ⟨q, _, rfl, SqT.of upd_same, (r.cut l u).mono n4.st.fle⟩ (n.trans n4)
theorem de_sliceS {lo hi : Option Expr} (h : DE X a ρ M fun d M1 => DO X lo ρ M1 fun l M2 => DO X hi ρ M2 fun u M3 => ∃ x, d = .str x ∧ x.length ≤ 1000000 ∧ Z (.str (cutS x l u)) M3) : DE X (.Subscript a (.Slice lo hi none p2) pos) ρ M Z :=
  DE.of (pe_slice sl_str peS poS poS) fun F H σ Q hs he kk => h F H σ _ hs he fun v F1 H1 d M1 g1 r1 n1 => DO.run g1 n1.hs (he.mono n1.st.fle) fun l F2 H2 M2 g2 n2 => DO.run g2 n2.hs (he.mono (n1.st.fle.trans n2.st.fle)) fun u F3 H3 M3 ⟨x, e, hl, z⟩ n3 => by
    subst e
    exact ⟨x, r1, sz_of hl, kk _ F3 H3 _ M3 z rfl ((n1.trans n2).trans n3)⟩

/-! ### lists and tuples put together, texts too -/
theorem dn_cat (h : DE X a ρ M fun d1 M1 => DE X b ρ M1 fun d2 M2 => ∃ xs ys, LstS M2 d1 xs ∧ LstS M2 d2 ys ∧ xs.length + ys.length ≤ 1000000 ∧ ZL (xs ++ ys) M2) : DN X (.BinOp a .Add b pos) ρ M ZL :=
  DN.of (pe_op op_cat peS peS) fun F H σ Q hs he kk => h F H σ _ hs he fun v1 F1 H1 d1 M1 g1 r1 n1 => g1 F1 H1 σ _ n1.hs (he.mono n1.st.fle) fun v2 F2 H2 d2 M2 ⟨xs, ys, l1, l2, hz, z⟩ r2 n2 => by
    obtain ⟨a1, vs, e1, s1, q1⟩ := l1.get n2.hs (r1.mono n2.st.fle)
    obtain ⟨a2, us, e2, s2, q2⟩ := l2.get n2.hs r2
    have n := n1.trans n2
    exact ⟨a1, a2, vs, us, e1, e2, s1, s2, by rw [← q1.length, ← q2.length]; exact sz_of hz, fun q hq => kk q _ F2 _ _ M2 z upd_same (q1.append q2) (n.st.there q hq) (n.hs.le.none hq) (n.hs.out hq) (n.trans (Nx.put n.hs hq))⟩
theorem reps_rep {F : Hp} {ds : List D} {vs : List V} (r : Reps K F ds vs) : ∀ n : Nat, Reps K F (List.replicate n ds).flatten (List.replicate n vs).flatten
  | 0 => .nil
  | n + 1 => by
    rw [List.replicate_succ, List.replicate_succ, List.flatten_cons, List.flatten_cons]
    exact r.append (reps_rep r n)
theorem dn_rep (h : DE X a ρ M fun d1 M1 => DE X b ρ M1 fun d2 M2 => ∃ (xs : List D) (i : Int), LstS M2 d1 xs ∧ d2 = .int i ∧ i ≤ 1000 ∧ -1000 ≤ i ∧ xs.length ≤ 1000 ∧ ZL (List.replicate i.toNat xs).flatten M2) : DN X (.BinOp a .Mult b pos) ρ M ZL :=
  DN.of (pe_op op_rep peS peS) fun F H σ Q hs he kk => h F H σ _ hs he fun v1 F1 H1 d1 M1 g1 r1 n1 => g1 F1 H1 σ _ n1.hs (he.mono n1.st.fle) fun v2 F2 H2 d2 M2 ⟨xs, i, l1, e, hi, hj, hz, z⟩ r2 n2 => by
    subst e
    obtain ⟨a1, vs, e1, s1, q1⟩ := l1.get n2.hs (r1.mono n2.st.fle)
    have n := n1.trans n2
    have hm : vs.length * i.toNat ≤ 1000 * 1000 := by rw [← q1.length]; exact Nat.mul_le_mul hz (by omega)
    exact ⟨a1, i, vs, e1, r2, s1, by omega, by omega, sz_of hm, fun q hq => kk q _ F2 _ _ M2 z upd_same (reps_rep q1 _) (n.st.there q hq) (n.hs.le.none hq) (n.hs.out hq) (n.trans (Nx.put n.hs hq))⟩
theorem de_catT (h : DE X a ρ M fun d1 M1 => DE X b ρ M1 fun d2 M2 => ∃ xs ys, d1 = .tup xs ∧ d2 = .tup ys ∧ xs.length + ys.length ≤ 1000000 ∧ Z (.tup (xs ++ ys)) M2) : DE X (.BinOp a .Add b pos) ρ M Z :=
  DE.of (pe_op op_catA peS peS) fun F H σ Q hs he kk => h F H σ _ hs he fun v1 F1 H1 d1 M1 g1 r1 n1 => g1 F1 H1 σ _ n1.hs (he.mono n1.st.fle) fun v2 F2 H2 d2 M2 ⟨xs, ys, e1, e2, hz, z⟩ r2 n2 => by
    subst e1; subst e2
    have n := n1.trans n2
    have r1' := r1.mono n2.st.fle
    obtain ⟨a1, vs, q1, s1, t1⟩ := r1'
    obtain ⟨a2, us, q2, s2, t2⟩ := r2
    refine ⟨a1, a2, vs, us, q1, q2, n2.hs.le.sqt s1, n2.hs.le.sqt s2, by rw [← t1.length, ← t2.length]; exact sz_of hz, fun h0 => ?_, fun _ h0 => ?_, fun _ _ q hq => ?_⟩
    · refine kk _ F2 H2 _ M2 z ?_ n
      subst h0
      have : xs = [] := List.eq_nil_of_length_eq_zero t1.length
      subst this
      exact ⟨a2, us, rfl, s2, t2⟩
    · refine kk _ F2 H2 _ M2 z ?_ n
      subst h0
      have : ys = [] := List.eq_nil_of_length_eq_zero t2.length
      subst this
      rw [List.append_nil]
      exact ⟨a1, vs, rfl, s1, t1⟩
    · have n4 := Nx.frz (o := .tup (vs ++ us)) n.hs hq
      exact kk _ _ _ _ M2 z ⟨q, _, rfl, SqT.of upd_same, (t1.append t2).mono n4.st.fle⟩ (n.trans n4)
theorem de_catS (h : DE X a ρ M fun d1 M1 => DE X b ρ M1 fun d2 M2 => ∃ x y, d1 = .str x ∧ d2 = .str y ∧ x.length + y.length ≤ 1000000 ∧ Z (.str (x ++ y)) M2) : DE X (.BinOp a .Add b pos) ρ M Z :=
  DE.of (pe_op op_add_str peS peS) fun F H σ Q hs he kk => h F H σ _ hs he fun v1 F1 H1 d1 M1 g1 r1 n1 => g1 F1 H1 σ _ n1.hs (he.mono n1.st.fle) fun v2 F2 H2 d2 M2 ⟨x, y, e1, e2, hz, z⟩ r2 n2 => by
    subst e1; subst e2
    exact ⟨x, y, r1, r2, sz_of hz, kk _ F2 H2 _ M2 z rfl (n1.trans n2)⟩

/-! ### built-in calls by values -/
theorem star_all {env : PySem.Env} : ∀ {es : List Expr}, es.all noStar = true → (backTo pos (starEach es env)).any (·.1) = false
  | [], _ => rfl
  | e :: es, h => by
    rw [List.all_cons, Bool.and_eq_true] at h
    rw [star_of h.1]
    exact star_all (env := env) h.2
def CaD (K : PySem.W.Frag) (r : List V → Hp → VK → Prop) (ds : List D) (M : Mem) (Z : D → Mem → Prop) : Prop := ∀ F H (Q : VK) vs, Hs K F H M → Reps K F ds vs → (∀ z F' H' d M', Z d M' → Rep K F' d z → Nx K F H M F' H' M' → Q z H') → r vs H Q
def CaN (K : PySem.W.Frag) (r : List V → Hp → VK → Prop) (ds : List D) (M : Mem) (Z : List D → Mem → Prop) : Prop := ∀ F H (Q : VK) vs, Hs K F H M → Reps K F ds vs →
  (∀ q us F' H' es M', Z es M' → H' q = some (.lst us) → Reps K F' es us → H q = none → F' q = none → q ∉ adr M' → Nx K F H M F' H' M' → Q (.ref q) H') → r vs H Q
theorem de_callB (B : Bd X P w K mg base N sc fn k) {x : Str} {id : String} {r : List V → Hp → VK → Prop} (hc : CallR X (.builtin id) r) (hv : bootBuiltins x = some (.builtin id)) (h : DA X (e :: es) ρ M fun ds M1 => CaD X.K r ds M1 Z)
    (hm : mg x = none) (hg : glB sc x = true := by rfl) (hn : x ≠ "__name__" := by decide) (hdb : (x == ("__debug__" : Str)) = false := by decide) (he : noStar e = true := by rfl) (hes : es.all noStar = true := by rfl) : DE X (.Call (.Name x p) (e :: es) [] pos) ρ M Z :=
  DE.of (pe_callB hc (B.gl hg) (B.mgn hm) hv paS hn hdb (star_of he) (star_all hes)) fun F H σ Q hs he kk => h F H σ _ hs he fun vs F1 H1 ds M1 g r1 n1 => g F1 H1 Q vs n1.hs r1 fun z F2 H2 d M2 z2 r2 n2 => kk z F2 H2 d M2 z2 r2 (n1.trans n2)
theorem de_callTy (B : Bd X P w K mg base N sc fn k) {x : Str} {id : String} {r : List V → Hp → VK → Prop} (hc : CallR X (.type id) r) (hv : bootBuiltins x = some (.type id)) (h : DA X (e :: es) ρ M fun ds M1 => CaD X.K r ds M1 Z)
    (hm : mg x = none) (hg : glB sc x = true := by rfl) (hn : x ≠ "__name__" := by decide) (hdb : (x == ("__debug__" : Str)) = false := by decide) (he : noStar e = true := by rfl) (hes : es.all noStar = true := by rfl) : DE X (.Call (.Name x p) (e :: es) [] pos) ρ M Z :=
  DE.of (pe_callTy hc (B.gl hg) (B.mgn hm) hv paS hn hdb (star_of he) (star_all hes)) fun F H σ Q hs he kk => h F H σ _ hs he fun vs F1 H1 ds M1 g r1 n1 => g F1 H1 Q vs n1.hs r1 fun z F2 H2 d M2 z2 r2 n2 => kk z F2 H2 d M2 z2 r2 (n1.trans n2)
theorem dn_callTy (B : Bd X P w K mg base N sc fn k) {x : Str} {id : String} {r : List V → Hp → VK → Prop} (hc : CallR X (.type id) r) (hv : bootBuiltins x = some (.type id)) (h : DA X (e :: es) ρ M fun ds M1 => CaN X.K r ds M1 ZL)
    (hm : mg x = none) (hg : glB sc x = true := by rfl) (hn : x ≠ "__name__" := by decide) (hdb : (x == ("__debug__" : Str)) = false := by decide) (he : noStar e = true := by rfl) (hes : es.all noStar = true := by rfl) : DN X (.Call (.Name x p) (e :: es) [] pos) ρ M ZL :=
  DN.of (pe_callTy hc (B.gl hg) (B.mgn hm) hv paS hn hdb (star_of he) (star_all hes)) fun F H σ Q hs he kk => h F H σ _ hs he fun vs F1 H1 ds M1 g r1 n1 => g F1 H1 Q vs n1.hs r1 fun q us F2 H2 es M2 z2 e2 r2 nH nF nM n2 => kk q us F2 H2 es M2 z2 e2 r2 (n1.st.there q nH) nF nM (n1.trans n2)
theorem DA.imp {Z' : List D → Mem → Prop} (h : DA X es ρ M ZL) (kq : ∀ d M', ZL d M' → Z' d M') : DA X es ρ M Z' := fun F H σ Q hs he q => h F H σ Q hs he fun v F' H' d M' p => q v F' H' d M' (kq d M' p)
theorem one_v {F : Hp} {d : D} {vs : List V} (r : Reps K F [d] vs) : ∃ v, vs = [v] ∧ Rep K F d v := by
  obtain ⟨v, q, e, h, rfl⟩ := r
  exact ⟨v, e, h⟩
theorem two_v {F : Hp} {d d' : D} {vs : List V} (r : Reps K F [d, d'] vs) : ∃ v v', vs = [v, v'] ∧ Rep K F d v ∧ Rep K F d' v' := by
  obtain ⟨v, q, e, h, v', q', e', h', rfl⟩ := r
  subst e'
  exact ⟨v, v', e, h, h'⟩
/-- one argument -/
theorem da_one (h : DE X e ρ M fun d M1 => ZL [d] M1) (hs : noStar e = true := by rfl) : DA X [e] ρ M ZL := da_cons (h.imp fun _ _ z => da_nil z) hs
theorem da_two {e' : Expr} (h : DE X e ρ M fun d M1 => DE X e' ρ M1 fun d' M2 => ZL [d, d'] M2) (hs : noStar e = true := by rfl) (hs' : noStar e' = true := by rfl) : DA X [e, e'] ρ M ZL := da_cons (h.imp fun _ _ z => da_one z hs') hs

def LenD (M : Mem) (d : D) (n : Nat) : Prop := (∃ ds, LstAt M d ds ∧ n = ds.length) ∨ (∃ ds, d = .tup ds ∧ n = ds.length) ∨ ∃ x : Str, d = .str x ∧ x.length ≤ 1000000 ∧ n = x.length
theorem LenD.l {d : D} {ds : List D} (h : LstAt M d ds) : LenD M d ds.length := .inl ⟨ds, h, rfl⟩
theorem LenD.t {ds : List D} : LenD M (.tup ds) ds.length := .inr (.inl ⟨ds, rfl, rfl⟩)
theorem LenD.s {x : Str} (h : x.length ≤ 1000000) : LenD M (.str x) x.length := .inr (.inr ⟨x, rfl, h, rfl⟩)
theorem de_len (B : Bd X P w K mg base N sc fn k) (hm : mg "len" = none) (h : DE X a ρ M fun d M1 => ∃ n : Nat, LenD M1 d n ∧ Z (.int n) M1) (hg : glB sc "len" = true := by rfl) (ha : noStar a = true := by rfl) : DE X (.Call (.Name "len" p) [a] [] pos) ρ M Z :=
  de_callB B call_len PySem.boot_len (da_one (h.imp fun d M1 ⟨n, l, z⟩ F H Q vs hs r kk => by
    obtain ⟨v, e, r⟩ := one_v r
    refine ⟨v, n, e, ?_, kk _ F H _ M1 z rfl (Nx.refl hs)⟩
    rcases l with ⟨ds, l, en⟩ | ⟨ds, l, en⟩ | ⟨x, l, hl, en⟩
    · obtain ⟨a, us, e1, s, q⟩ := l.sql hs r
      subst e1
      exact .inl ⟨us, s, by rw [en, q.length]⟩
    · subst l
      obtain ⟨a, us, e1, s, q⟩ := tup_sqt hs r
      subst e1
      exact .inr ⟨us, s, by rw [en, q.length]⟩
    · subst l
      have e1 : v = .str x := r
      subst e1
      exact ⟨sz_of hl, en⟩) ha) hm hg (he := ha)
theorem de_int1 (B : Bd X P w K mg base N sc fn k) (hm : mg "int" = none) (h : DE X a ρ M fun d M1 => ∃ i, d = .int i ∧ Z (.int i) M1) (hg : glB sc "int" = true := by rfl) (ha : noStar a = true := by rfl) : DE X (.Call (.Name "int" p) [a] [] pos) ρ M Z :=
  de_callTy B call_int1 (by decide +kernel) (da_one (h.imp fun d M1 ⟨i, e, z⟩ F H Q vs hs r kk => by
    subst e
    obtain ⟨v, e, r⟩ := one_v r
    have q : v = .int i := r
    subst q
    exact .inl ⟨i, e, kk _ F H _ M1 z rfl (Nx.refl hs)⟩) ha) hm hg (he := ha)
theorem de_int1b (B : Bd X P w K mg base N sc fn k) (hm : mg "int" = none) (h : DE X a ρ M fun d M1 => ∃ x, d = .bl x ∧ Z (.int (if x then 1 else 0)) M1) (hg : glB sc "int" = true := by rfl) (ha : noStar a = true := by rfl) : DE X (.Call (.Name "int" p) [a] [] pos) ρ M Z :=
  de_callTy B call_int1 (by decide +kernel) (da_one (h.imp fun d M1 ⟨i, e, z⟩ F H Q vs hs r kk => by
    subst e
    obtain ⟨v, e, r⟩ := one_v r
    have q : v = .bl i := r
    subst q
    exact .inr ⟨i, e, kk _ F H _ M1 z rfl (Nx.refl hs)⟩) ha) hm hg (he := ha)
theorem de_abs (B : Bd X P w K mg base N sc fn k) (hm : mg "abs" = none) (h : DE X a ρ M fun d M1 => ∃ i, d = .int i ∧ Z (.int (if i < 0 then -i else i)) M1) (hg : glB sc "abs" = true := by rfl) (ha : noStar a = true := by rfl) : DE X (.Call (.Name "abs" p) [a] [] pos) ρ M Z :=
  de_callB B call_abs (by decide +kernel) (da_one (h.imp fun d M1 ⟨i, e, z⟩ F H Q vs hs r kk => by
    subst e
    obtain ⟨v, e, r⟩ := one_v r
    have q : v = .int i := r
    subst q
    exact ⟨i, e, kk _ F H _ M1 z rfl (Nx.refl hs)⟩) ha) hm hg (he := ha)
theorem de_divmod (B : Bd X P w K mg base N sc fn k) (hm : mg "divmod" = none) (h : DE X a ρ M fun d M1 => DE X b ρ M1 fun d' M2 => ∃ i j, d = .int i ∧ d' = .int j ∧ CDiv i j ∧ Z (.tup [.int (i / j), .int (i % j)]) M2) (hg : glB sc "divmod" = true := by rfl) (ha : noStar a = true := by rfl) (hb : noStar b = true := by rfl) : DE X (.Call (.Name "divmod" p) [a, b] [] pos) ρ M Z :=
  de_callB B call_divmod (by decide +kernel) (da_two (h.imp fun _ _ h => DE.imp h fun d' M2 ⟨i, j, e, e', c, z⟩ F H Q vs hs r kk => by
    subst e; subst e'
    obtain ⟨v, v', e, r, r'⟩ := two_v r
    have q : v = .int i := r
    have q' : v' = .int j := r'
    subst q; subst q'
    exact ⟨i, j, e, c, fun x hx => kk _ _ _ _ M2 z ⟨x, _, rfl, SqT.of upd_same, .cons rfl (.cons rfl .nil)⟩ (Nx.frz hs hx)⟩) ha hb) hm hg (he := ha) (hes := by rw [List.all_cons, hb]; rfl)
theorem de_max2 (B : Bd X P w K mg base N sc fn k) (hm : mg "max" = none) (h : DE X a ρ M fun d M1 => DE X b ρ M1 fun d' M2 => ∃ i j, d = .int i ∧ d' = .int j ∧ Z (.int (if j > i then j else i)) M2) (hg : glB sc "max" = true := by rfl) (ha : noStar a = true := by rfl) (hb : noStar b = true := by rfl) : DE X (.Call (.Name "max" p) [a, b] [] pos) ρ M Z :=
  de_callB B (call_max2 B.calm) (by decide +kernel) (da_two (h.imp fun _ _ h => DE.imp h fun d' M2 ⟨i, j, e, e', z⟩ F H Q vs hs r kk => by
    subst e; subst e'
    obtain ⟨v, v', e, r, r'⟩ := two_v r
    have q : v = .int i := r
    have q' : v' = .int j := r'
    subst q; subst q'
    exact ⟨i, j, e, kk _ F H _ M2 z rfl (Nx.refl hs)⟩) ha hb) hm hg (he := ha) (hes := by rw [List.all_cons, hb]; rfl)
theorem de_min2 (B : Bd X P w K mg base N sc fn k) (hm : mg "min" = none) (h : DE X a ρ M fun d M1 => DE X b ρ M1 fun d' M2 => ∃ i j, d = .int i ∧ d' = .int j ∧ Z (.int (if j < i then j else i)) M2) (hg : glB sc "min" = true := by rfl) (ha : noStar a = true := by rfl) (hb : noStar b = true := by rfl) : DE X (.Call (.Name "min" p) [a, b] [] pos) ρ M Z :=
  de_callB B (call_min2 B.calm) (by decide +kernel) (da_two (h.imp fun _ _ h => DE.imp h fun d' M2 ⟨i, j, e, e', z⟩ F H Q vs hs r kk => by
    subst e; subst e'
    obtain ⟨v, v', e, r, r'⟩ := two_v r
    have q : v = .int i := r
    have q' : v' = .int j := r'
    subst q; subst q'
    exact ⟨i, j, e, kk _ F H _ M2 z rfl (Nx.refl hs)⟩) ha hb) hm hg (he := ha) (hes := by rw [List.all_cons, hb]; rfl)
theorem de_sum (B : Bd X P w K mg base N sc fn k) (hm : mg "sum" = none) (h : DE X a ρ M fun d M1 => ∃ ns : List Int, LstAt M1 d (ns.map D.int) ∧ Z (.int ns.sum) M1) (hg : glB sc "sum" = true := by rfl) (ha : noStar a = true := by rfl) : DE X (.Call (.Name "sum" p) [a] [] pos) ρ M Z :=
  de_callB B (cr_sum B.calm) (by decide +kernel) (da_one (h.imp fun d M1 ⟨ns, l, z⟩ F H Q vs hs r kk => by
    obtain ⟨v, e, r⟩ := one_v r
    obtain ⟨a, us, e1, s, q⟩ := l.sql hs r
    have := ints_of q
    subst this; subst e1
    exact ⟨a, ns, e, s, kk _ F H _ M1 z rfl (Nx.refl hs)⟩) ha) hm hg (he := ha)
theorem de_all (B : Bd X P w K mg base N sc fn k) (hm : mg "all" = none) (h : DE X a ρ M fun d M1 => ∃ ns : List Bool, LstAt M1 d (ns.map D.bl) ∧ Z (.bl (ns.all id)) M1) (hg : glB sc "all" = true := by rfl) (ha : noStar a = true := by rfl) : DE X (.Call (.Name "all" p) [a] [] pos) ρ M Z :=
  de_callB B (cr_all B.calm) (by decide +kernel) (da_one (h.imp fun d M1 ⟨ns, l, z⟩ F H Q vs hs r kk => by
    obtain ⟨v, e, r⟩ := one_v r
    obtain ⟨a, us, e1, s, q⟩ := l.sql hs r
    have := bls_of q
    subst this; subst e1
    exact ⟨a, ns, e, s, kk _ F H _ M1 z rfl (Nx.refl hs)⟩) ha) hm hg (he := ha)
theorem de_any (B : Bd X P w K mg base N sc fn k) (hm : mg "any" = none) (h : DE X a ρ M fun d M1 => ∃ ns : List Bool, LstAt M1 d (ns.map D.bl) ∧ Z (.bl (ns.any id)) M1) (hg : glB sc "any" = true := by rfl) (ha : noStar a = true := by rfl) : DE X (.Call (.Name "any" p) [a] [] pos) ρ M Z :=
  de_callB B (cr_any B.calm) (by decide +kernel) (da_one (h.imp fun d M1 ⟨ns, l, z⟩ F H Q vs hs r kk => by
    obtain ⟨v, e, r⟩ := one_v r
    obtain ⟨a, us, e1, s, q⟩ := l.sql hs r
    have := bls_of q
    subst this; subst e1
    exact ⟨a, ns, e, s, kk _ F H _ M1 z rfl (Nx.refl hs)⟩) ha) hm hg (he := ha)
theorem de_maxL (B : Bd X P w K mg base N sc fn k) (hm : mg "max" = none) (h : DE X a ρ M fun d M1 => ∃ ns : List Int, LstAt M1 d (ns.map D.int) ∧ 0 < ns.length ∧ ∀ m, m ∈ ns → (∀ y, y ∈ ns → y ≤ m) → Z (.int m) M1) (hg : glB sc "max" = true := by rfl) (ha : noStar a = true := by rfl) : DE X (.Call (.Name "max" p) [a] [] pos) ρ M Z :=
  de_callB B (cr_max B.calm) (by decide +kernel) (da_one (h.imp fun d M1 ⟨ns, l, hl, z⟩ F H Q vs hs r kk => by
    obtain ⟨v, e, r⟩ := one_v r
    obtain ⟨a, us, e1, s, q⟩ := l.sql hs r
    have := ints_of q
    subst this; subst e1
    exact ⟨a, ns, e, s, hl, fun m hm hy => kk _ F H _ M1 (z m hm hy) rfl (Nx.refl hs)⟩) ha) hm hg (he := ha)
theorem de_minL (B : Bd X P w K mg base N sc fn k) (hm : mg "min" = none) (h : DE X a ρ M fun d M1 => ∃ ns : List Int, LstAt M1 d (ns.map D.int) ∧ 0 < ns.length ∧ ∀ m, m ∈ ns → (∀ y, y ∈ ns → m ≤ y) → Z (.int m) M1) (hg : glB sc "min" = true := by rfl) (ha : noStar a = true := by rfl) : DE X (.Call (.Name "min" p) [a] [] pos) ρ M Z :=
  de_callB B (cr_min B.calm) (by decide +kernel) (da_one (h.imp fun d M1 ⟨ns, l, hl, z⟩ F H Q vs hs r kk => by
    obtain ⟨v, e, r⟩ := one_v r
    obtain ⟨a, us, e1, s, q⟩ := l.sql hs r
    have := ints_of q
    subst this; subst e1
    exact ⟨a, ns, e, s, hl, fun m hm hy => kk _ F H _ M1 (z m hm hy) rfl (Nx.refl hs)⟩) ha) hm hg (he := ha)
def SeqD (M : Mem) (d : D) (ds : List D) : Prop := LstAt M d ds ∨ d = .tup ds
theorem SeqD.get {F H : Hp} {d : D} {ds : List D} {v : V} (l : SeqD M d ds) (hs : Hs K F H M) (r : Rep K F d v) : ∃ a vs, v = .ref a ∧ (SqL K H a vs ∨ SqT K H a vs) ∧ Reps K F ds vs := by
  rcases l with l | e
  · obtain ⟨a, vs, e, s, r⟩ := l.sql hs r
    exact ⟨a, vs, e, .inl s, r⟩
  · subst e
    obtain ⟨a, vs, e, s, r⟩ := tup_sqt hs r
    exact ⟨a, vs, e, .inr s, r⟩
theorem dn_list (B : Bd X P w K mg base N sc fn k) (hm : mg "list" = none) (h : DE X a ρ M fun d M1 => ∃ ds, SeqD M1 d ds ∧ ZL ds M1) (hg : glB sc "list" = true := by rfl) (ha : noStar a = true := by rfl) : DN X (.Call (.Name "list" p) [a] [] pos) ρ M ZL :=
  dn_callTy B call_list_of (by decide +kernel) (da_one (h.imp fun d M1 ⟨ds, l, z⟩ F H Q vs hs r kk => by
    obtain ⟨v, e, r⟩ := one_v r
    obtain ⟨a, us, e1, s, q⟩ := l.get hs r
    subst e1
    exact ⟨a, us, e, s, fun x hx => kk x us F _ ds M1 z upd_same q hx (hs.le.none hx) (hs.out hx) (Nx.put hs hx)⟩) ha) hm hg (he := ha)
theorem de_tuple (B : Bd X P w K mg base N sc fn k) (hm : mg "tuple" = none) (h : DE X a ρ M fun d M1 => ∃ ds, SeqD M1 d ds ∧ Z (.tup ds) M1) (hg : glB sc "tuple" = true := by rfl) (ha : noStar a = true := by rfl) : DE X (.Call (.Name "tuple" p) [a] [] pos) ρ M Z :=
  de_callTy B call_tuple_of (by decide +kernel) (da_one (h.imp fun d M1 ⟨ds, l, z⟩ F H Q vs hs r kk => by
    obtain ⟨v, e, r⟩ := one_v r
    rcases l with l | l
    · obtain ⟨a, us, e1, s, q⟩ := l.sql hs r
      subst e1
      exact ⟨a, us, e, .inl ⟨s, fun x hx => kk _ _ _ _ M1 z ⟨x, us, rfl, SqT.of upd_same, q.mono (Nx.frz (o := .tup us) hs hx).st.fle⟩ (Nx.frz hs hx)⟩⟩
    · subst l
      obtain ⟨a, us, e1, s, q⟩ := tup_sqt hs r
      subst e1
      exact ⟨a, us, e, .inr ⟨s, kk _ F H _ M1 z r (Nx.refl hs)⟩⟩) ha) hm hg (he := ha)
/-- isinstance(x, T), T a built-in class -/
def tyD : D → Option String | .non => some "NoneType" | .bl _ => some "bool" | .int _ => some "int" | .str _ => some "str" | .lst _ => some "list" | .tup _ => some "tuple" | _ => none
theorem sqt_ty {H : Hp} {a : Addr} {vs : List V} (h : SqT K H a vs) : TyX K H (.ref a) (.type "tuple") := by
  rcases h with (h | ⟨o, h⟩) | ⟨o, its, n, h, hc, _⟩
  · exact .base (.tup h)
  · exact .fTuple h
  · exact .kTuple h hc
theorem tyD_tyX {F H : Hp} {d : D} {v : V} {t : String} (hs : Hs K F H M) (r : Rep K F d v) (h : tyD d = some t) : TyX K H v (.type t) := by
  cases d with
  | non => cases h; have e : v = .non := r; rw [e]; exact .base .non
  | bl b => cases h; have e : v = .bl b := r; rw [e]; exact .base (.bl b)
  | int i => cases h; have e : v = .int i := r; rw [e]; exact .base (.int i)
  | str x => cases h; have e : v = .str x := r; rw [e]; exact .base (.str x)
  | lst ds => cases h; obtain ⟨a, vs, e, s, _⟩ := r; rw [e]; exact .base (.lst (hs.le _ _ s))
  | lsq ds => cases h
  | tup ds => cases h; obtain ⟨a, vs, e, s, _⟩ := r; rw [e]; exact sqt_ty (hs.le.sqt s)
  | loc a => cases h
  | ins C ns ds => cases h
theorem de_isiT (B : Bd X P w K mg base N sc fn k) {y : Str} {u : String} (hm : mg "isinstance" = none) (hy : mg y = none) (hyv : bootBuiltins y = some (.type u)) (h : DE X a ρ M fun d M1 => ∃ t x, tyD d = some t ∧ kitB t u = some x ∧ Z (.bl x) M1)
    (hg : glB sc "isinstance" = true := by rfl) (hgy : glB sc y = true := by rfl) (hny : y ≠ "__name__" := by decide) (hdy : (y == ("__debug__" : Str)) = false := by decide) {p1 : Pos} (ha : noStar a = true := by rfl) : DE X (.Call (.Name "isinstance" p) [a, .Name y p1] [] pos) ρ M Z :=
  DE.of (pe_callB call_isi (B.gl hg) (B.mgn hm) (by decide +kernel) (pa_cons peS (pa_cons (pe_bltn (v := .ty u) (B.gl hgy) (B.mgn hy) hyv rfl hny hdy) pa_nil) (star_of ha)) (he := star_of ha)) fun F H σ Q hs he kk => h F H σ _ hs he fun v F1 H1 d M1 ⟨t, x, ht, hk, z⟩ r n =>
    ⟨v, .ty u, .type t, .type u, x, rfl, .ty u, tyD_tyX n.hs r ht, kit_ty hk, kk _ F1 H1 _ M1 z rfl n⟩
end
end DV

set_option Elab.async false
set_option linter.all false
set_option maxRecDepth 100000
set_option maxHeartbeats 4000000
/-! DV5: what is walked, targets, comprehensions. -/
namespace DV
open PySem PySem.Spec PyProof.Rows L2

/-! ### what is walked -/
/-- J gives the items ds, as long as R holds of what is owned -/
def Src (K : PySem.W.Frag) (J : It) (F0 : Hp) (ds : List D) (R : Mem → Prop) : Prop :=
  ∀ F H M, Le F0 F → Hs K F H M → R M → (∀ (i : Nat) d, ds[i]? = some d → J.go i H ∧ ∀ x H', J.yld i H x H' → ∃ F', Rep K F' d x ∧ Nx K F H M F' H' M) ∧ J.stop ds.length H
def EvI (K : PySem.W.Frag) (t : TI) (ρ : Env) (M : Mem) (Z : List D → (Mem → Prop) → Mem → Prop) : Prop := ∀ F H σ (Q : It → Hp → Prop), Hs K F H M → EnvOk K F σ ρ →
  (∀ J F' H' ds R M', Z ds R M' → Src K J F' ds R → Nx K F H M F' H' M' → Q J H') → t σ H Q
def DI (X : Cx) (tg iter : Expr) (ρ : Env) (M : Mem) (Z : List D → (Mem → Prop) → Mem → Prop) : Prop := EvI X.K (semI X tg iter) ρ M Z
/-- nothing is asked of what is owned -/
abbrev RT : Mem → Prop := fun _ => True
section
variable {X : Cx} {P : Program} {w : World} {K : PySem.W.Frag} {mg : Str → Option Value} {base : Heap} {N : List Str} {sc : Scope} {fn : Str → Bool} {k : Nat} {ρ : Env} {M : Mem} {ZI : List D → (Mem → Prop) → Mem → Prop} {tg a b iter : Expr} {pos p tpos : Pos} {elts : List Expr} {kk0 : Nat}
theorem DI.of {t : TI} (h : PI X tg iter t) (kq : EvI X.K t ρ M ZI) : DI X tg iter ρ M ZI := fun F H σ Q hs he q pins s I => h.run pins s σ H Q I (kq F H σ Q hs he q)
/-- a list that does not change -/
theorem src_sql {F0 : Hp} {l : Addr} {vs : List V} {ds : List D} (h : SqL K F0 l vs) (r : Reps K F0 ds vs) : Src K (Itl K l) F0 ds RT := fun F H M le hs _ => by
  have q : SqL K H l vs := (le.trans hs.le).sql h
  refine ⟨fun i d hd => ?_, ⟨vs, q, by rw [r.length]; exact Nat.le_refl _⟩⟩
  obtain ⟨v, hv, rv⟩ := r.get hd
  refine ⟨⟨vs, v, q, hv⟩, fun x H' ⟨e, hx⟩ => ?_⟩
  subst e
  have e2 : v = x := Option.some.inj (hv.symm.trans (hx vs q))
  subst e2
  exact ⟨F, rv.mono le, Nx.refl hs⟩
theorem src_sqt {F0 : Hp} {l : Addr} {vs : List V} {ds : List D} (h : SqT K F0 l vs) (r : Reps K F0 ds vs) : Src K (Itt K l) F0 ds RT := fun F H M le hs _ => by
  have q : SqT K H l vs := (le.trans hs.le).sqt h
  refine ⟨fun i d hd => ?_, ⟨vs, q, by rw [r.length]; exact Nat.le_refl _⟩⟩
  obtain ⟨v, hv, rv⟩ := r.get hd
  refine ⟨⟨vs, v, q, hv⟩, fun x H' ⟨e, hx⟩ => ?_⟩
  subst e
  have e2 : v = x := Option.some.inj (hv.symm.trans (hx vs q))
  subst e2
  exact ⟨F, rv.mono le, Nx.refl hs⟩
/-- an owned list, as long as it holds the same -/
theorem src_own {F0 : Hp} {l : Addr} {ds : List D} (hi : ∀ (F H : Hp) (vs us : List V), Le F0 F → Reps K F ds vs → Reps K F ds us → vs = us) : Src K (Itl K l) F0 ds (fun M => (l, .lst ds) ∈ M) := fun F H M le hs hm => by
  obtain ⟨_, vs, e, r⟩ := hs.own _ hm
  have q : SqL K H l vs := SqL.of e
  refine ⟨fun i d hd => ?_, ⟨vs, q, by rw [r.length]; exact Nat.le_refl _⟩⟩
  obtain ⟨v, hv, rv⟩ := r.get hd
  refine ⟨⟨vs, v, q, hv⟩, fun x H' ⟨e, hx⟩ => ?_⟩
  subst e
  have e2 : v = x := Option.some.inj (hv.symm.trans (hx vs q))
  subst e2
  exact ⟨F, rv, Nx.refl hs⟩
theorem src_rng {F0 : Hp} {lo : Int} {n : Nat} : Src K (Itr lo n) F0 ((List.range n).map fun (i : Nat) => D.int (lo + (i : Int))) RT := fun F H M le hs _ => by
  refine ⟨fun i d hd => ?_, by show n ≤ _; simp⟩
  have hi : i < n := by
    have := (List.getElem?_eq_some_iff.mp hd).1
    simpa using this
  have ed : d = .int (lo + (i : Int)) := by
    rw [List.getElem?_map, List.getElem?_range hi] at hd
    exact (Option.some.inj hd).symm
  subst ed
  refine ⟨hi, fun x H' ⟨e, hx⟩ => ?_⟩
  subst e
  exact ⟨F, hx, Nx.refl hs⟩
theorem src_str {F0 : Hp} {x : Str} : Src K (Its x) F0 (x.cps.toList.map fun c => D.str ⟨#[c]⟩) RT := fun F H M le hs _ => by
  refine ⟨fun i d hd => ?_, by show x.cps.size ≤ _; simp⟩
  have hi : i < x.cps.size := by
    have := (List.getElem?_eq_some_iff.mp hd).1
    simpa using this
  refine ⟨hi, fun v H' ⟨e, c, hc, hv⟩ => ?_⟩
  subst e
  refine ⟨F, ?_, Nx.refl hs⟩
  rw [List.getElem?_map, Array.getElem?_toList, hc] at hd
  have ed : D.str ⟨#[c]⟩ = d := Option.some.inj hd
  subst ed
  exact hv
/-- for x in xs, a list -/
theorem di_lst (h : DE X iter ρ M fun d M1 => ∃ ds, (d = .lst ds ∨ d = .lsq ds) ∧ ZI ds RT M1) : DI X tg iter ρ M ZI :=
  DI.of (pi_list peS) fun F H σ Q hs he kk => h F H σ _ hs he fun v F1 H1 d M1 ⟨ds, e, z⟩ r n => by
    have g : ∃ a vs, v = .ref a ∧ SqL X.K F1 a vs ∧ Reps X.K F1 ds vs := by
      rcases e with e | e
      · subst e
        obtain ⟨a, vs, e, s, q⟩ := r
        exact ⟨a, vs, e, SqL.of s, q⟩
      · subst e; exact r
    obtain ⟨a, vs, e, s, q⟩ := g
    exact ⟨a, e, ⟨vs, n.hs.le.sql s⟩, kk _ F1 H1 ds RT M1 z (src_sql s q) n⟩
theorem di_tup (h : DE X iter ρ M fun d M1 => ∃ ds, d = .tup ds ∧ ZI ds RT M1) : DI X tg iter ρ M ZI :=
  DI.of (pi_tup peS) fun F H σ Q hs he kk => h F H σ _ hs he fun v F1 H1 d M1 ⟨ds, e, z⟩ r n => by
    subst e
    obtain ⟨a, vs, e, s, q⟩ := r
    exact ⟨a, e, ⟨vs, n.hs.le.sqt s⟩, kk _ F1 H1 ds RT M1 z (src_sqt s q) n⟩
theorem di_rng1 (B : Bd X P w K mg base N sc fn k) (hm : mg "range" = none) (h : DE X a ρ M fun d M1 => ∃ i, d = .int i ∧ i ≤ 1000000 ∧ -1000000 ≤ i ∧ ZI ((List.range i.toNat).map fun (j : Nat) => D.int (0 + (j : Int))) RT M1) (hg : glB sc "range" = true := by rfl) (ha : noStar a = true := by rfl) : DI X tg (.Call (.Name "range" p) [a] [] pos) ρ M ZI :=
  DI.of (pi_range1 (B.gl hg) (B.mgn hm) paS (star_of ha)) fun F H σ Q hs he kk => (da_one (ZL := fun ds M1 => ∃ i, ds = [.int i] ∧ i ≤ 1000000 ∧ -1000000 ≤ i ∧ ZI ((List.range i.toNat).map fun (j : Nat) => D.int (0 + (j : Int))) RT M1) (h.imp fun d M1 ⟨i, e, z⟩ => ⟨i, by rw [e], z⟩) ha) F H σ _ hs he fun vs F1 H1 ds M1 ⟨i, e, h1, h2, z⟩ r n => by
    subst e
    obtain ⟨v, e, r⟩ := one_v r
    have q : v = .int i := r
    subst q
    exact ⟨i, e, by omega, by omega, kk _ F1 H1 _ RT M1 z src_rng n⟩
theorem di_rng2 (B : Bd X P w K mg base N sc fn k) (hm : mg "range" = none) (h : DE X a ρ M fun d M1 => DE X b ρ M1 fun d' M2 => ∃ i j, d = .int i ∧ d' = .int j ∧ i ≤ 1000000 ∧ -1000000 ≤ i ∧ j ≤ 1000000 ∧ -1000000 ≤ j ∧ ZI ((List.range (j - i).toNat).map fun (l : Nat) => D.int (i + (l : Int))) RT M2) (hg : glB sc "range" = true := by rfl) (ha : noStar a = true := by rfl) (hb : noStar b = true := by rfl) : DI X tg (.Call (.Name "range" p) [a, b] [] pos) ρ M ZI :=
  DI.of (pi_range2 (B.gl hg) (B.mgn hm) paS (by rw [star_of ha, star_of hb]; rfl) (by rw [star_of hb]; rfl)) fun F H σ Q hs he kk => (da_two (ZL := fun ds M2 => ∃ i j, ds = [.int i, .int j] ∧ i ≤ 1000000 ∧ -1000000 ≤ i ∧ j ≤ 1000000 ∧ -1000000 ≤ j ∧ ZI ((List.range (j - i).toNat).map fun (l : Nat) => D.int (i + (l : Int))) RT M2) (h.imp fun d M1 h => DE.imp h fun d' M2 ⟨i, j, e, e', z⟩ => ⟨i, j, by rw [e, e'], z⟩) ha hb) F H σ _ hs he fun vs F1 H1 ds M1 ⟨i, j, e, h1, h2, h3, h4, z⟩ r n => by
    subst e
    obtain ⟨v, v', e, r, r'⟩ := two_v r
    have q : v = .int i := r
    have q' : v' = .int j := r'
    subst q; subst q'
    exact ⟨i, j, e, ⟨by omega, by omega, by omega, by omega⟩, kk _ F1 H1 _ RT M1 z src_rng n⟩
theorem di_str (h : DE X iter ρ M fun d M1 => ∃ x, d = .str x ∧ ZI (x.cps.toList.map fun c => D.str ⟨#[c]⟩) RT M1) : DI X tg iter ρ M ZI :=
  DI.of (pi_str peS) fun F H σ Q hs he kk => h F H σ _ hs he fun v F1 H1 d M1 ⟨x, e, z⟩ r n => by
    subst e
    exact ⟨x, r, kk _ F1 H1 _ RT M1 z src_str n⟩
theorem di_enum (B : Bd X P w K mg base N sc fn k) (hm : mg "enumerate" = none) (h : DE X a ρ M fun d M1 => ∃ ds, (d = .lst ds ∨ d = .lsq ds) ∧ ZI (ds.zipIdx.map fun q => D.tup [.int (q.2 : Int), q.1]) RT M1) (hg : glB sc "enumerate" = true := by rfl) (ha : noStar a = true := by rfl) : DI X (.Tuple elts kk0 tpos) (.Call (.Name "enumerate" p) [a] [] pos) ρ M ZI :=
  DI.of (pi_enum (B.gl hg) (B.mgn hm) paS (star_of ha)) fun F H σ Q hs he kk => (da_one (ZL := fun es M1 => ∃ d ds, es = [d] ∧ (d = .lst ds ∨ d = .lsq ds) ∧ ZI (ds.zipIdx.map fun q => D.tup [.int (q.2 : Int), q.1]) RT M1) (h.imp fun d M1 ⟨ds, e, z⟩ => ⟨d, ds, rfl, e, z⟩) ha) F H σ _ hs he fun us F1 H1 es M1 ⟨d, ds, e0, e, z⟩ r n => by
    subst e0
    obtain ⟨v, e1, r⟩ := one_v r
    have g : ∃ a vs, v = .ref a ∧ SqL X.K F1 a vs ∧ Reps X.K F1 ds vs := by
      rcases e with e | e
      · subst e
        obtain ⟨a, vs, e, s, q⟩ := r
        exact ⟨a, vs, e, SqL.of s, q⟩
      · subst e; exact r
    obtain ⟨a, vs, e, s, q⟩ := g
    subst e
    refine ⟨a, vs, e1, n.hs.le.sql s, kk _ F1 H1 _ RT M1 z (fun F H M le hs _ => ?_) n⟩
    have s' : SqL X.K H a vs := (le.trans hs.le).sql s
    refine ⟨fun i d hd => ?_, ⟨vs, s', by simp [q.length]⟩⟩
    obtain ⟨e, he, rfl⟩ : ∃ e, ds[i]? = some e ∧ D.tup [.int (i : Int), e] = d := by
      rw [List.getElem?_map, List.getElem?_zipIdx] at hd
      cases hq : ds[i]? with
      | none => rw [hq] at hd; cases hd
      | some e =>
        rw [hq] at hd
        refine ⟨e, rfl, ?_⟩
        have := Option.some.inj hd
        simpa using this
    obtain ⟨v, hv, rv⟩ := q.get he
    refine ⟨⟨vs, v, s', hv⟩, fun x H' ⟨T, y, e1, hT, e2, hy⟩ => ?_⟩
    have e3 : v = y := Option.some.inj (hv.symm.trans (hy vs s'))
    subst e3; subst e2; subst e1
    have n2 := Nx.frz (o := .tup [.int (i : Int), v]) hs hT
    exact ⟨_, ⟨T, _, rfl, SqT.of upd_same, .cons rfl (.cons ((rv.mono le).mono n2.st.fle) .nil)⟩, n2⟩
/-- zip of two lists -/
def zipD (xs ys : List D) : List D := List.zipWith (fun x y => D.tup [x, y]) xs ys
theorem zipD_get {xs ys : List D} {i : Nat} {d : D} (h : (zipD xs ys)[i]? = some d) : ∃ x y, xs[i]? = some x ∧ ys[i]? = some y ∧ D.tup [x, y] = d := by
  unfold zipD at h
  rw [List.getElem?_zipWith] at h
  cases hx : xs[i]? with
  | none => rw [hx] at h; cases h
  | some x =>
    cases hy : ys[i]? with
    | none => rw [hx, hy] at h; cases h
    | some y => rw [hx, hy] at h; exact ⟨x, y, rfl, rfl, Option.some.inj h⟩
theorem src_zip {F0 : Hp} {a b : Addr} {us vs : List V} {xs ys : List D} (s1 : SqL K F0 a us) (q1 : Reps K F0 xs us) (s2 : SqL K F0 b vs) (q2 : Reps K F0 ys vs) : Src K (Itz K a b) F0 (zipD xs ys) RT := fun F H M le hs _ => by
  have s1' : SqL K H a us := (le.trans hs.le).sql s1
  have s2' : SqL K H b vs := (le.trans hs.le).sql s2
  refine ⟨fun i d hd => ?_, ⟨us, vs, s1', s2', by unfold zipD; rw [List.length_zipWith, q1.length, q2.length]; omega⟩⟩
  obtain ⟨x, y, hx, hy, rfl⟩ := zipD_get hd
  obtain ⟨u, hu, ru⟩ := q1.get hx
  obtain ⟨v, hv, rv⟩ := q2.get hy
  refine ⟨⟨us, vs, u, v, s1', s2', hu, hv⟩, fun z H' ⟨T, u', v', e1, hT, e2, g1, g2⟩ => ?_⟩
  have e3 : u = u' := Option.some.inj (hu.symm.trans (g1 us s1'))
  have e4 : v = v' := Option.some.inj (hv.symm.trans (g2 vs s2'))
  subst e3; subst e4; subst e2; subst e1
  have n2 := Nx.frz (o := .tup [u, v]) hs hT
  exact ⟨_, ⟨T, _, rfl, SqT.of upd_same, .cons ((ru.mono le).mono n2.st.fle) (.cons ((rv.mono le).mono n2.st.fle) .nil)⟩, n2⟩
theorem lst_sql {F : Hp} {d : D} {ds : List D} {v : V} (e : d = .lst ds ∨ d = .lsq ds) (r : Rep K F d v) : ∃ a vs, v = .ref a ∧ SqL K F a vs ∧ Reps K F ds vs := by
  rcases e with e | e
  · subst e
    obtain ⟨a, vs, e, s, q⟩ := r
    exact ⟨a, vs, e, SqL.of s, q⟩
  · subst e; exact r
theorem di_zip (B : Bd X P w K mg base N sc fn k) (hm : mg "zip" = none) (h : DE X a ρ M fun d M1 => DE X b ρ M1 fun d' M2 => ∃ xs ys, (d = .lst xs ∨ d = .lsq xs) ∧ (d' = .lst ys ∨ d' = .lsq ys) ∧ ZI (zipD xs ys) RT M2) (hg : glB sc "zip" = true := by rfl) (ha : noStar a = true := by rfl) (hb : noStar b = true := by rfl) : DI X (.Tuple elts kk0 tpos) (.Call (.Name "zip" p) [a, b] [] pos) ρ M ZI :=
  DI.of (pi_zip (B.gl hg) (B.mgn hm) paS (star_of ha) (by rw [star_of hb]; rfl)) fun F H σ Q hs he kk => (da_two (ZL := fun es M2 => ∃ d d' xs ys, es = [d, d'] ∧ (d = .lst xs ∨ d = .lsq xs) ∧ (d' = .lst ys ∨ d' = .lsq ys) ∧ ZI (zipD xs ys) RT M2) (h.imp fun d M1 h => DE.imp h fun d' M2 ⟨xs, ys, e, e', z⟩ => ⟨d, d', xs, ys, rfl, e, e', z⟩) ha hb) F H σ _ hs he fun us F1 H1 es M1 ⟨d, d', xs, ys, e0, e, e', z⟩ r n => by
    subst e0
    obtain ⟨v, v', e1, r, r'⟩ := two_v r
    obtain ⟨a, us, e2, s1, q1⟩ := lst_sql e r
    obtain ⟨b, vs, e3, s2, q2⟩ := lst_sql e' r'
    subst e2; subst e3
    exact ⟨a, b, us, vs, e1, n.hs.le.sql s1, n.hs.le.sql s2, kk _ F1 H1 _ RT M1 z (src_zip s1 q1 s2 q2) n⟩
end

/-! ### targets -/
def EvG (K : PySem.W.Frag) (t : TG) (d : D) (ρ : Env) (M : Mem) (js : List Nat) (Z : Env → Mem → Prop) : Prop := ∀ F H σ v (Q : L2.St → Hp → Prop), Hs K F H M → EnvOk K F σ ρ → Rep K F d v →
  (∀ σ' F' H' ρ' M', Z ρ' M' → EnvOk K F' σ' ρ' → Nx K F H M F' H' M' → (∀ j, j ∉ js → σ'[j]? = σ[j]?) → σ'.length = σ.length → Q σ' H') → t v σ H Q
def EvGs (K : PySem.W.Frag) (t : TGs) (ds : List D) (ρ : Env) (M : Mem) (js : List Nat) (Z : Env → Mem → Prop) : Prop := ∀ F H σ vs (Q : L2.St → Hp → Prop), Hs K F H M → EnvOk K F σ ρ → Reps K F ds vs →
  (∀ σ' F' H' ρ' M', Z ρ' M' → EnvOk K F' σ' ρ' → Nx K F H M F' H' M' → (∀ j, j ∉ js → σ'[j]? = σ[j]?) → σ'.length = σ.length → Q σ' H') → t vs σ H Q
def DG (X : Cx) (tg : Expr) (d : D) (ρ : Env) (M : Mem) (js : List Nat) (Z : Env → Mem → Prop) : Prop := EvG X.K (semG X tg) d ρ M js Z
def semGs (X : Cx) (ts : List Expr) : TGs := fun vs σ H Q => ∀ (pins : List (Addr × Obj)) (s : Shared) (us : List Value), Inv X pins σ H s → Vals vs us → wpAny (model X.prog X.w) X.A (assignInOrder ((assignEach ts X.env).map (·.2)) us) (fun _ s' => ∃ σ' H', Inv X pins σ' H' s' ∧ Q σ' H') X.xe s
theorem pgsS {X : Cx} {ts : List Expr} : PGs X ts (semGs X ts) := ⟨fun pins s σ H vs us Q I r h => h pins s us I r⟩
def DGs (X : Cx) (ts : List Expr) (ds : List D) (ρ : Env) (M : Mem) (js : List Nat) (Z : Env → Mem → Prop) : Prop := EvGs X.K (semGs X ts) ds ρ M js Z
section
variable {X : Cx} {P : Program} {w : World} {K : PySem.W.Frag} {mg : Str → Option Value} {base : Heap} {N : List Str} {sc : Scope} {fn : Str → Bool} {k : Nat} {ρ : Env} {M : Mem} {Z : Env → Mem → Prop} {pos p : Pos} {tg a b : Expr} {ts : List Expr} {js : List Nat}
theorem DG.of {d : D} {t : TG} (h : PG X tg t) (kq : EvG X.K t d ρ M js Z) : DG X tg d ρ M js Z := fun F H σ v Q hs he r q pins s u I ru => h.run pins s σ H v u Q I ru (kq F H σ v Q hs he r q)
theorem DGs.of {ds : List D} {t : TGs} (h : PGs X ts t) (kq : EvGs X.K t ds ρ M js Z) : DGs X ts ds ρ M js Z := fun F H σ v Q hs he r q pins s u I ru => h.run pins s σ H v u Q I ru (kq F H σ v Q hs he r q)
theorem dg_name (B : Bd X P w K mg base N sc fn k) (i : Nat) {x : Str} {d : D} (q : Z (ρ.set i (some d)) M) (hj : i ∈ js := by decide) (hi : N[i]? = some x := by rfl) (hl : locB sc fn x = true := by rfl) : DG X (.Name x pos) d ρ M js Z :=
  DG.of (pg_name B.nD (B.ix hi) (B.loc hl).1 (B.loc hl).2) fun F H σ v Q hs he r kk => kk _ F H _ M q (he.set i r) (Nx.refl hs) (fun j hn => List.getElem?_set_ne (fun e : i = j => hn (e ▸ hj))) (List.length_set ..)
theorem dgs_nil (q : Z ρ M) : DGs X [] [] ρ M js Z := DGs.of pgs_nil fun F H σ v Q hs he r kk => ⟨r, kk σ F H ρ M q he (Nx.refl hs) (fun _ _ => rfl) rfl⟩
def noStarT : Expr → Bool | .Starred .. => false | _ => true
theorem each_of {env : PySem.Env} {e : Expr} {es : List Expr} (h : noStarT e = true) : assignEach (e :: es) env = (false, assign e env) :: assignEach es env := by
  cases e <;> first | rfl | cases h
theorem dgs_cons {d : D} {ds : List D} (h : DG X tg d ρ M js fun ρ1 M1 => DGs X ts ds ρ1 M1 js Z) (hs : noStarT tg = true := by rfl) : DGs X (tg :: ts) (d :: ds) ρ M js Z :=
  DGs.of (pgs_cons pgS pgsS (by rw [each_of hs]; rfl)) fun F H σ vs Q hs he ⟨v, r, e, h1, h2⟩ kk => ⟨v, r, e, h F H σ v _ hs he h1 fun σ1 F1 H1 ρ1 M1 g1 e1 n1 f1 l1 => g1 F1 H1 σ1 r _ n1.hs e1 (h2.mono n1.st.fle) fun σ2 F2 H2 ρ2 M2 z e2 n2 f2 l2 =>
    kk σ2 F2 H2 ρ2 M2 z e2 (n1.trans n2) (fun j hj => (f2 j hj).trans (f1 j hj)) (l2.trans l1)⟩
theorem each_len {env : PySem.Env} : ∀ {ts : List Expr}, ts.all noStarT = true → (assignEach ts env).length = ts.length ∧ (assignEach ts env).findIdx? (·.1) = none
  | [], _ => ⟨rfl, rfl⟩
  | e :: es, h => by
    rw [List.all_cons, Bool.and_eq_true] at h
    obtain ⟨i1, i2⟩ := each_len (env := env) h.2
    rw [each_of h.1]
    refine ⟨by rw [List.length_cons, List.length_cons, i1], ?_⟩
    rw [List.findIdx?_cons]
    simp [i2]
theorem dg_tup (B : Bd X P w K mg base N sc fn k) {ds : List D} {kq} (h : DGs X ts ds ρ M js Z) (hl : ts.length = ds.length := by rfl) (hs : ts.all noStarT = true := by rfl) : DG X (.Tuple ts kq pos) (.tup ds) ρ M js Z :=
  DG.of (pg_tup B.calm pgsS (each_len hs).1 (each_len hs).2) fun F H σ v Q hs he ⟨a, vs, e, s, r⟩ kk => ⟨a, vs, e, hs.le.sqt s, by rw [hl, r.length], h F H σ vs Q hs he r kk⟩
theorem dg_unl (B : Bd X P w K mg base N sc fn k) {ds : List D} {kq} (h : DGs X ts ds ρ M js Z) (hl : ts.length = ds.length := by rfl) (hs : ts.all noStarT = true := by rfl) : DG X (.Tuple ts kq pos) (.lst ds) ρ M js Z :=
  DG.of (pg_unl B.calm pgsS (each_len hs).1 (each_len hs).2) fun F H σ v Q hs he ⟨a, vs, e, s, r⟩ kk => ⟨a, vs, e, SqL.of (hs.le _ _ s), by rw [hl, r.length], h F H σ vs Q hs he r kk⟩
/-- o[i] = v, o an owned list -/
theorem dg_sub {d : D} (h : DE X a ρ M fun d1 M1 => DE X b ρ M1 fun d2 M2 => ∃ (l : Addr) (ds : List D) (i : Int) (j : Nat) (A C : Mem), d1 = .loc l ∧ d2 = .int i ∧ M2 = A ++ (l, .lst ds) :: C ∧ ixN ds.length i = some j ∧ Z ρ (A ++ (l, .lst (ds.set j d)) :: C))
    (ha : ∀ v, assign (.Subscript a b pos) X.env v = (do
      let ov ← holding [v] (eval a X.env)
      let iv ← holding [v, ov] (eval b X.env)
      standAt pos
      holding [v, ov, iv] (setItem ov iv v)
      release [v, ov, iv] []) := by intro _; rfl) : DG X (.Subscript a b pos) d ρ M js Z :=
  DG.of (pg_sub peS peS set_list ha) fun F H σ v Q hs he r kk => h F H σ _ hs he fun v1 F1 H1 d1 M1 g1 r1 n1 => g1 F1 H1 σ _ n1.hs (he.mono n1.st.fle) fun v2 F2 H2 d2 M2 ⟨l, ds, i, j, A, C, e1, e2, em, hj, z⟩ r2 n2 => by
    subst e1; subst e2; subst em
    obtain ⟨_, vs, e, q⟩ := n2.hs.own (l, .lst ds) (List.mem_append_right _ List.mem_cons_self)
    have n := n1.trans n2
    have q' := q.set j (r.mono n.st.fle)
    have n3 := Nx.wr n2.hs q'
    exact ⟨l, vs, i, j, r1, r2, e, by rw [← q.length]; exact hj, kk σ F2 _ ρ _ z (he.mono n.st.fle) (n.trans n3) (fun _ _ => rfl) rfl⟩
end
end DV

set_option Elab.async false
set_option linter.all false
set_option maxRecDepth 100000
set_option maxHeartbeats 4000000
/-! DV6: comprehensions, statements, loops. -/
namespace DV
open PySem PySem.Spec PyProof.Rows L2

/-! ### comprehensions -/
def wipeD (ρ : Env) : List Nat → Env
  | [] => ρ
  | v :: vs => (wipeD ρ vs).set v none
theorem EnvOk.wipe {K : PySem.W.Frag} {F : Hp} {σ : L2.St} {ρ : Env} (h : EnvOk K F σ ρ) : ∀ vs : List Nat, EnvOk K F (L2.wipe σ vs) (wipeD ρ vs)
  | [] => h
  | v :: vs => (EnvOk.wipe h vs).setN v none
theorem wipe_in {σ : L2.St} {i : Nat} : ∀ {vs : List Nat}, i ∈ vs → (L2.wipe σ vs)[i]? = if i < σ.length then some none else none
  | v :: vs, h => by
    unfold L2.wipe
    by_cases hi : v = i
    · subst hi
      rw [List.getElem?_set, if_pos rfl, wipe_length]
    · rw [List.getElem?_set_ne hi]
      rcases List.mem_cons.mp h with e | h
      · exact absurd e.symm hi
      · exact wipe_in h
theorem wipe_back {σ σ2 : L2.St} {js vs : List Nat} (hs : ∀ j ∈ js, j ∈ vs) (h : ∀ j, j ∉ js → σ2[j]? = (L2.wipe σ vs)[j]?) (hl : σ2.length = (L2.wipe σ vs).length) : L2.wipe σ2 vs = L2.wipe σ vs := by
  apply List.ext_getElem?
  intro i
  by_cases hi : i ∈ vs
  · rw [wipe_in hi, wipe_in hi, hl, wipe_length]
  · rw [wipe_out hi, h i fun z => hi (hs i z)]
/-- a comprehension's block in X -/
def Blk (X : Cx) (scope : Scope) (X' : Cx) : Prop := ∃ (s : Shared) (H : Hp) (C : Addr) (cl : List (Str × Addr)) (fp : List Addr), X' = X.blk s H scope (compEnvC scope cl C X.env) fp
/-- a clause's tests: none or one -/
def DIf (X : Cx) (ifs : List Expr) (ρ : Env) (M : Mem) (Z : Bool → Mem → Prop) : Prop := match ifs with
  | [] => Z true M
  | [c] => DT X c ρ M Z
  | _ => False
def semF (X : Cx) (ifs : List Expr) : TT := fun σ H Q => ∀ (pins : List (Addr × Obj)) (s : Shared), Inv X pins σ H s → wpAny (model X.prog X.w) X.A (forIn ifs true fun c r => if r = true then do let ok ← isTrue c X.env (eval c X.env); pure (ForInStep.yield ok) else pure (ForInStep.yield r)) (TP X pins σ Q) X.xe s
theorem DIf.ev {X : Cx} {ifs : List Expr} {ρ : Env} {M : Mem} {Z : Bool → Mem → Prop} (h : DIf X ifs ρ M Z) : EvT X.K (semF X ifs) ρ M Z := by
  match ifs, h with
  | [], h => exact fun F H σ Q hs he kk pins s I => pts_nil.run pins s σ H Q I (kk true F H M h (Nx.refl hs))
  | [c], h => exact fun F H σ Q hs he kk pins s I => (pts_one ptS).run pins s σ H Q I ((show DT X c ρ M Z from h) F H σ Q hs he kk)
section
variable {X : Cx} {P : Program} {w : World} {K : PySem.W.Frag} {mg : Str → Option Value} {base : Heap} {N : List Str} {sc : Scope} {fn : Str → Bool} {k : Nat} {ρ : Env} {M : Mem} {ZL : List D → Mem → Prop} {pos p : Pos} {tg elt iter : Expr} {ifs : List Expr} {scope : Scope}
theorem Bd.blk (B : Bd X P w K mg base N sc fn k) {X' : Cx} (h : Blk X scope X') : Bd X' P w K mg base N (relS scope sc) (fun x => scope.names.lookup x == some .cell) k := by
  obtain ⟨s, H, C, cl, fp, rfl⟩ := h
  exact ⟨B.hP, B.hw, B.hK, B.hmg, B.hbase, B.hN, by show relS scope X.env.scope = _; rw [B.hsc], rfl, B.nd, B.calm, B.room, rfl⟩
theorem Blk.sameK {X' : Cx} (h : Blk X scope X') : X'.K = X.K := by obtain ⟨s, H, C, cl, fp, rfl⟩ := h; rfl
/-- what is to be shown of a comprehension: an invariant by the turn, what has been given, what is owned -/
def LcOk (X : Cx) (P : Program) (w : World) (K : PySem.W.Frag) (mg : Str → Option Value) (base : Heap) (N : List Str) (sc : Scope) (k : Nat) (scope : Scope) (tg elt : Expr) (ifs : List Expr) (vs js : List Nat) (ρ : Env) (ds : List D) (R : Mem → Prop) (M : Mem) (ZL : List D → Mem → Prop) : Prop :=
  ds.length ≤ 1000000 ∧ ∃ I : Nat → List D → Mem → Prop, I 0 [] M ∧
    (∀ (i : Nat) d acc M2, ds[i]? = some d → I i acc M2 → R M2 ∧ ∀ X', Bd X' P w K mg base N (relS scope sc) (fun x => scope.names.lookup x == some .cell) k →
      DG X' tg d (wipeD ρ vs) M2 js fun ρ2 M3 => ∀ X', Bd X' P w K mg base N (relS scope sc) (fun x => scope.names.lookup x == some .cell) k → DIf X' ifs ρ2 M3 fun b M4 =>
        (b = true → ∀ X', Bd X' P w K mg base N (relS scope sc) (fun x => scope.names.lookup x == some .cell) k → DE X' elt ρ2 M4 fun r M5 => I (i + 1) (acc ++ [r]) M5) ∧ (b = false → I (i + 1) acc M4)) ∧
    ∀ acc M2, I ds.length acc M2 → R M2 ∧ ZL acc M2
theorem evn_lc (B : Bd X P w K mg base N sc fn k) {vs js : List Nat} (hj : ∀ j ∈ js, j ∈ vs) (h : DI X tg iter ρ M fun ds R M1 => LcOk X P w K mg base N sc k scope tg elt ifs vs js ρ ds R M1 ZL) :
    EvN X.K (tLc (semI X tg iter) (fun v σ H Q => ∀ X', Blk X scope X' → semG X' tg v σ H Q) (fun σ H Q => ∀ X', Blk X scope X' → semF X' ifs σ H Q) (fun σ H Q => ∀ X', Blk X scope X' → semE X' elt σ H Q) vs) ρ M ZL := by
  intro F H σ Q hs he kk
  refine h F H σ _ hs he fun J F1 H1 ds R M1 ⟨hz, I, i0, turn, fin⟩ src n1 => ?_
  intro Dd hD
  have he1 := he.mono n1.st.fle
  have hH : H Dd = none := n1.st.there Dd hD
  -- the list so far is owned
  let G (i : Nat) (H2 : Hp) : Prop := ∃ F2 M2 acc, I i acc M2 ∧ acc.length ≤ i ∧ Nx X.K F1 H1 M1 F2 H2 (M2 ++ [(Dd, .lst acc)])
  have n0 : Nx X.K F1 H1 M1 F1 (upd H1 Dd (.lst [])) (M1 ++ [(Dd, .lst [])]) := by
    have a := Nx.own (ds := []) n1.hs hD .nil
    exact a.trans (Nx.perm a.hs (List.perm_append_singleton (Dd, MO.lst []) M1))
  refine ⟨fun i m H2 => m + i = ds.length ∧ G i H2, ⟨ds.length, by omega, F1, M1, [], i0, Nat.le_refl _, n0⟩, ?_⟩
  rintro i m H2 ⟨em, F2, M2, acc, hI, hacc, n2⟩
  have hs2 : Hs X.K F2 H2 M2 := n2.hs.sub (List.sublist_append_left _ _)
  by_cases hi : i < ds.length
  · obtain ⟨hR, ht⟩ := turn i ds[i] acc M2 (List.getElem?_eq_getElem hi) hI
    have hsrc := (src F2 H2 M2 n2.st.fle hs2 hR).1 i ds[i] (List.getElem?_eq_getElem hi)
    refine .inr ⟨hsrc.1, G (i + 1), fun H' g => ⟨m - 1, by omega, by omega, g⟩, fun x H3 hy => ?_⟩
    obtain ⟨F3, rx, n3⟩ := hsrc.2 x H3 hy
    have m3 := n2.trans (Nx.frame n2.hs n3)
    intro X' hX
    have B' := B.blk hX
    have hK := hX.sameK
    have hs3 : Hs X'.K F3 H3 M2 := by rw [hK]; exact n3.hs
    have he3 : EnvOk X'.K F3 (L2.wipe σ vs) (wipeD ρ vs) := by rw [hK]; exact (he1.mono (n2.st.fle.trans n3.st.fle)).wipe vs
    refine ht X' B' F3 H3 _ x _ hs3 he3 (by rw [hK]; exact rx) fun σ4 F4 H4 ρ4 M4 g4 e4 n4 f4 l4 => ⟨wipe_back hj f4 l4, ?_⟩
    rw [hK] at n4 e4
    have m4 := m3.trans (Nx.frame m3.hs n4)
    intro X' hX
    have B' := B.blk hX
    have hK := hX.sameK
    refine (g4 X' B').ev F4 H4 σ4 _ (by rw [hK]; exact n4.hs) (by rw [hK]; exact e4) fun b F5 H5 M5 g5 n5 => ?_
    rw [hK] at n5
    have m5 := m4.trans (Nx.frame m4.hs n5)
    cases b with
    | false =>
      rw [if_neg Bool.false_ne_true]
      exact ⟨F5, M5, acc, g5.2 rfl, by omega, m5⟩
    | true =>
      rw [if_pos rfl]
      intro X' hX
      have B' := B.blk hX
      have hK := hX.sameK
      refine g5.1 rfl X' B' F5 H5 σ4 _ (by rw [hK]; exact n5.hs) (by rw [hK]; exact e4.mono n5.st.fle) fun y F6 H6 r M6 g6 r6 n6 => ?_
      rw [hK] at n6 r6
      have m6 := m5.trans (Nx.frame m5.hs n6)
      obtain ⟨_, avs, eD, rD⟩ := m6.hs.own (Dd, .lst acc) (List.mem_append_right _ List.mem_cons_self)
      exact ⟨avs, eD, sz_lt (by rw [← rD.length]; omega), F6, M6, acc ++ [r], g6, by simp; omega, m6.trans (Nx.wr m6.hs (rD.snoc r6))⟩
  · have ei : i = ds.length := by omega
    subst ei
    obtain ⟨hR, z⟩ := fin acc M2 hI
    refine .inl ⟨(src F2 H2 M2 n2.st.fle hs2 hR).2, ?_⟩
    obtain ⟨fD, avs, eD, rD⟩ := n2.hs.own (Dd, .lst acc) (List.mem_append_right _ List.mem_cons_self)
    have nd : Dd ∉ adr M2 := fun z => by
      have := n2.hs.nd
      unfold adr at this z
      rw [List.map_append] at this
      exact (List.nodup_append.mp this).2.2 Dd z Dd (by simp) rfl
    exact kk Dd avs F2 H2 acc M2 z eD rD hH fD nd (n1.trans (n2.trans (Nx.drop n2.hs (List.sublist_append_left _ _))))
end
end DV

set_option Elab.async false
set_option linter.all false
set_option maxRecDepth 100000
set_option maxHeartbeats 4000000
/-! DV7: comprehensions as expressions; statements. -/
namespace DV
open PySem PySem.Spec PyProof.Rows L2

theorem EvN.fz {K : PySem.W.Frag} {t : TE} {ρ : Env} {M : Mem} {Pq : D → Mem → Prop} (h : EvN K t ρ M (fun ds M' => Pq (.lst ds) M')) : EvE K t ρ M Pq := fun F H σ Q hs he q => h F H σ Q hs he fun p vs F' H' ds M' hp e r nH nF nM nx => by
  have fle : Le F' (upd F' p (.lst vs)) := (Le.refl F').upd nF
  refine q (.ref p) (upd F' p (.lst vs)) H' (.lst ds) M' hp ⟨p, vs, rfl, upd_same, r.mono fle⟩ ⟨⟨nx.hs.le.upd_l e, fun z hz => ?_, nx.hs.nd⟩, ⟨nx.st.fle.trans fle, nx.st.keep, fun a o ea fa na => ?_, nx.st.there⟩, nx.mem⟩
  · have hne : z.1 ≠ p := fun w => nM (w ▸ mem_adr hz)
    exact (nx.hs.own z hz).keep fle (fun _ w => w) (by rw [upd_ne hne]; exact (nx.hs.own z hz).fr)
  · have hne : a ≠ p := fun w => by rw [w, nH] at ea; cases ea
    rw [upd_ne hne]; exact nx.st.new a o ea fa na
theorem EvN.ow {K : PySem.W.Frag} {t : TE} {ρ : Env} {M : Mem} {Pq : D → Mem → Prop} (h : EvN K t ρ M (fun ds M' => ∀ a, a ∉ adr M' → Pq (.loc a) ((a, .lst ds) :: M'))) : EvE K t ρ M Pq := fun F H σ Q hs he q => h F H σ Q hs he fun p vs F' H' ds M' hp e r nH nF nM nx =>
  q (.ref p) F' H' (.loc p) ((p, .lst ds) :: M') (hp p nM) rfl ⟨⟨nx.hs.le, fun z hz => by
    rcases List.mem_cons.mp hz with w | w
    · subst w; exact ⟨nF, vs, e, r⟩
    · exact nx.hs.own z w, List.nodup_cons.mpr ⟨nM, nx.hs.nd⟩⟩, nx.st, fun a ha => by
    rcases List.mem_cons.mp ha with w | w
    · subst w; exact .inr nH
    · exact nx.mem a w⟩
theorem DN.ow {X : Cx} {e : Expr} {ρ : Env} {M : Mem} {Pq : D → Mem → Prop} (h : DN X e ρ M (fun ds M' => ∀ a, a ∉ adr M' → Pq (.loc a) ((a, .lst ds) :: M'))) : DE X e ρ M Pq := EvN.ow h
theorem DN.imp {X : Cx} {e : Expr} {ρ : Env} {M : Mem} {Z Z' : List D → Mem → Prop} (h : DN X e ρ M Z) (kq : ∀ d M', Z d M' → Z' d M') : DN X e ρ M Z' := fun F H σ Q hs he q => h F H σ Q hs he fun p vs F' H' ds M' z => q p vs F' H' ds M' (kq ds M' z)

section
variable {X : Cx} {P : Program} {w : World} {K : PySem.W.Frag} {mg : Str → Option Value} {base : Heap} {N : List Str} {sc : Scope} {fn : Str → Bool} {k : Nat} {ρ : Env} {M : Mem} {ZL : List D → Mem → Prop} {pos p spos : Pos} {tg elt iter : Expr} {ifs : List Expr} {scope : Scope}
def noSet : Expr → Bool | .Set .. => false | _ => true
theorem fold_of {e : Expr} {env : PySem.Env} (h : noSet e = true) : ∀ x, foldedSetIterable e env x = pure x := by
  intro x
  cases e <;> first | rfl | cases h
theorem Bd.ok (B : Bd X P w K mg base N sc fn k) {own : List (Str × Nat)} (h : blkC N sc scope own = true) : BlkOk X.N X.env.scope scope own := by
  rw [B.hN, B.hsc]
  exact blkOk_by h
/-- [elt for tg in iter if ..] -/
theorem dn_lc (B : Bd X P w K mg base N sc fn k) {own : List (Str × Nat)} {js : List Nat} (h : DI X tg iter ρ M fun ds R M1 => LcOk X P w K mg base N sc k scope tg elt ifs (own.map (·.2)) js ρ ds R M1 ZL) (hb : blkC N sc scope own = true := by decide +kernel) (hj : ∀ j ∈ js, j ∈ own.map (·.2) := by decide) (hset : noSet iter = true := by rfl) :
    DN X (.ListComp elt [⟨tg, iter, ifs, 0⟩] scope pos) ρ M ZL :=
  DN.of (pe_lc B.calm B.nD piS (B.ok hb) (fun s H C cl fp => ⟨fun pins s' σ H' v u Q I r h => h _ ⟨s, H, C, cl, fp, rfl⟩ pins s' u I r⟩) (fun s H C cl fp => ⟨fun pins s' σ H' Q I h => h _ ⟨s, H, C, cl, fp, rfl⟩ pins s' I⟩) (fun s H C cl fp => ⟨fun pins s' σ H' Q I h => h _ ⟨s, H, C, cl, fp, rfl⟩ pins s' I⟩) (fold_of hset)) (evn_lc B hj h)

/-! ### statements -/
variable {Z : DEnds} {e : Expr} {st : Stmt} {rest body body2 : List Stmt} {c : Expr}
theorem dss_nil (q : Z.nx ρ M) : DSs X [] ρ M Z := DSs.of pss_nil fun F H σ E hs he q1 q2 q3 q4 => q1 F H σ ρ M q he (Nx.refl hs)
theorem dss_cons (h : DS X st ρ M { Z with nx := fun ρ1 M1 => DSs X rest ρ1 M1 Z }) : DSs X (st :: rest) ρ M Z :=
  DSs.of (pss_cons psS pssS) fun F H σ E hs he q1 q2 q3 q4 => h F H σ _ hs he (fun F1 H1 σ1 ρ1 M1 g e1 n1 => g F1 H1 σ1 E n1.hs e1 (fun F2 H2 σ2 ρ2 M2 z e2 n2 => q1 F2 H2 σ2 ρ2 M2 z e2 (n1.trans n2)) (fun v F2 H2 d M2 z r2 n2 => q2 v F2 H2 d M2 z r2 (n1.trans n2)) (fun F2 H2 σ2 ρ2 M2 z e2 n2 => q3 F2 H2 σ2 ρ2 M2 z e2 (n1.trans n2)) (fun F2 H2 σ2 ρ2 M2 z e2 n2 => q4 F2 H2 σ2 ρ2 M2 z e2 (n1.trans n2))) q2 q3 q4
theorem dss_one (h : DS X st ρ M Z) : DSs X [st] ρ M Z := DSs.of (pss_one psS) fun F H σ E hs he q1 q2 q3 q4 => h F H σ E hs he q1 q2 q3 q4
theorem DSs.imp {Z' : DEnds} (h : DSs X rest ρ M Z) (h1 : ∀ ρ M, Z.nx ρ M → Z'.nx ρ M) (h2 : ∀ d M, Z.rt d M → Z'.rt d M) (h3 : ∀ ρ M, Z.bk ρ M → Z'.bk ρ M) (h4 : ∀ ρ M, Z.ct ρ M → Z'.ct ρ M) : DSs X rest ρ M Z' :=
  fun F H σ E hs he q1 q2 q3 q4 => h F H σ E hs he (fun F' H' σ' ρ' M' z => q1 F' H' σ' ρ' M' (h1 _ _ z)) (fun v F' H' d M' z => q2 v F' H' d M' (h2 _ _ z)) (fun F' H' σ' ρ' M' z => q3 F' H' σ' ρ' M' (h3 _ _ z)) (fun F' H' σ' ρ' M' z => q4 F' H' σ' ρ' M' (h4 _ _ z))
/-- some of what is owned is let go, put in another order -/
theorem DSs.less {M1 : Mem} (h : DSs X rest ρ M1 Z) (hp : M1.Sublist M) : DSs X rest ρ M Z := fun F H σ E hs he q1 q2 q3 q4 => by
  have n := Nx.drop hs hp
  exact h F H σ E n.hs he (fun F' H' σ' ρ' M' z e' n' => q1 F' H' σ' ρ' M' z e' (n.trans n')) (fun v F' H' d M' z r n' => q2 v F' H' d M' z r (n.trans n')) (fun F' H' σ' ρ' M' z e' n' => q3 F' H' σ' ρ' M' z e' (n.trans n')) (fun F' H' σ' ρ' M' z e' n' => q4 F' H' σ' ρ' M' z e' (n.trans n'))
theorem DSs.perm {M1 : Mem} (h : DSs X rest ρ M1 Z) (hp : M1.Perm M) : DSs X rest ρ M Z := fun F H σ E hs he q1 q2 q3 q4 => by
  have n := Nx.perm hs hp
  exact h F H σ E n.hs he (fun F' H' σ' ρ' M' z e' n' => q1 F' H' σ' ρ' M' z e' (n.trans n')) (fun v F' H' d M' z r n' => q2 v F' H' d M' z r (n.trans n')) (fun F' H' σ' ρ' M' z e' n' => q3 F' H' σ' ρ' M' z e' (n.trans n')) (fun F' H' σ' ρ' M' z e' n' => q4 F' H' σ' ρ' M' z e' (n.trans n'))
/-- an owned list is frozen: the slot that holds it holds it frozen from now on -/
theorem DSs.ice {A C : Mem} {l : Addr} {ds : List D} {i : Nat} (h : DSs X rest (ρ.set i (some (.lst ds))) (A ++ C) Z) (hi : ρ[i]? = some (some (.loc l))) : DSs X rest ρ (A ++ (l, .lst ds) :: C) Z := fun F H σ E hs he q1 q2 q3 q4 => by
  obtain ⟨F', n, r⟩ := Nx.ice hs
  obtain ⟨v, e, rv⟩ := he.2 i _ hi
  have ev : v = .ref l := rv
  subst ev
  have he' : EnvOk X.K F' σ (ρ.set i (some (.lst ds))) := by
    have z := (he.mono n.st.fle).set i r
    have es : σ.set i (some (.ref l)) = σ := by
      apply List.ext_getElem?
      intro j
      by_cases hj : i = j
      · subst hj
        rw [List.getElem?_set_self (List.getElem?_eq_some_iff.mp e).1, e]
      · rw [List.getElem?_set_ne hj]
    rw [es] at z
    exact z
  exact h F' H σ E n.hs he' (fun F' H' σ' ρ' M' z e' n' => q1 F' H' σ' ρ' M' z e' (n.trans n')) (fun v F' H' d M' z r n' => q2 v F' H' d M' z r (n.trans n')) (fun F' H' σ' ρ' M' z e' n' => q3 F' H' σ' ρ' M' z e' (n.trans n')) (fun F' H' σ' ρ' M' z e' n' => q4 F' H' σ' ρ' M' z e' (n.trans n'))
/-- a slot is forgotten -/
theorem DSs.forget {ρ1 : Env} (h : DSs X rest ρ1 M Z) (hl : ρ1.length = ρ.length) (hr : ∀ (i : Nat) d, ρ1[i]? = some (some d) → ρ[i]? = some (some d)) : DSs X rest ρ M Z := fun F H σ E hs he q1 q2 q3 q4 =>
  h F H σ E hs ⟨he.1.trans hl.symm, fun i d q => he.2 i d (hr i d q)⟩ q1 q2 q3 q4
theorem ds_pass (q : Z.nx ρ M) : DS X (.Pass pos) ρ M Z := DS.of ps_pass fun F H σ E hs he q1 q2 q3 q4 => q1 F H σ ρ M q he (Nx.refl hs)
theorem ds_break (q : Z.bk ρ M) : DS X (.Break pos) ρ M Z := DS.of ps_break fun F H σ E hs he q1 q2 q3 q4 => q3 F H σ ρ M q he (Nx.refl hs)
theorem ds_continue (q : Z.ct ρ M) : DS X (.Continue pos) ρ M Z := DS.of ps_continue fun F H σ E hs he q1 q2 q3 q4 => q4 F H σ ρ M q he (Nx.refl hs)
def isComp : Expr → Bool | .ListComp .. => true | .SetComp .. => true | .DictComp .. => true | _ => false
theorem sw_of {e : Expr} {t : Option Expr} {l : Nat} {env : PySem.Env} (h : isComp e = false) : swapsWith e t l env = pure false := by
  cases e <;> first | rfl | cases h
theorem ds_expr (h : DE X e ρ M fun _ M1 => Z.nx ρ M1) (hc : isComp e = false := by rfl) : DS X (.Expr e pos) ρ M Z :=
  DS.of (ps_expr peS (sw_of hc)) fun F H σ E hs he q1 q2 q3 q4 => h F H σ _ hs he fun v F1 H1 d M1 z r n => q1 F1 H1 σ ρ M1 z (he.mono n.st.fle) n
theorem ds_ret (h : DE X e ρ M Z.rt) : DS X (.Return (some e) pos) ρ M Z :=
  DS.of (ps_ret peS) fun F H σ E hs he q1 q2 q3 q4 => h F H σ _ hs he fun v F1 H1 d M1 z r n => q2 v F1 H1 d M1 z r n
theorem ds_retN (q : Z.rt .non M) : DS X (.Return none pos) ρ M Z := DS.of ps_retN fun F H σ E hs he q1 q2 q3 q4 => q2 .non F H .non M q rfl (Nx.refl hs)
theorem ds_set (B : Bd X P w K mg base N sc fn k) (i : Nat) {x : Str} {pos' : Pos} (h : DE X e ρ M fun d M1 => Z.nx (ρ.set i (some d)) M1) (hi : N[i]? = some x := by rfl) (hl : locB sc fn x = true := by rfl) (hc : isComp e = false := by rfl) : DS X (.Assign [.Name x pos'] e pos) ρ M Z :=
  DS.of (ps_set B.nD (B.ix hi) (B.loc hl).1 peS (sw_of hc) (B.loc hl).2) fun F H σ E hs he q1 q2 q3 q4 => h F H σ _ hs he fun v F1 H1 d M1 z r n => q1 F1 H1 _ _ M1 z ((he.mono n.st.fle).set i r) n
/-- name = [..], the name a local one -/
theorem ds_setLc (B : Bd X P w K mg base N sc fn k) (i : Nat) {own : List (Str × Nat)} {js : List Nat} {x : Str} {pos' : Pos} (hk : sc.kind = .function := by rfl)
    (h : EvN X.K (tLc (semI X tg iter) (fun v σ H Q => ∀ X', Blk X scope X' → semG X' tg v σ H Q) (fun σ H Q => ∀ X', Blk X scope X' → semF X' ifs σ H Q) (fun σ H Q => ∀ X', Blk X scope X' → semE X' elt σ H Q) (own.map (·.2))) ρ M ZL)
    (hz : EvE X.K (tLc (semI X tg iter) (fun v σ H Q => ∀ X', Blk X scope X' → semG X' tg v σ H Q) (fun σ H Q => ∀ X', Blk X scope X' → semF X' ifs σ H Q) (fun σ H Q => ∀ X', Blk X scope X' → semE X' elt σ H Q) (own.map (·.2))) ρ M (fun d M1 => Z.nx (ρ.set i (some d)) M1))
    (hi : N[i]? = some x := by rfl) (hl : sc.names.lookup x = some .local := by rfl) (hb : blkC N sc scope own = true := by decide +kernel) (hset : noSet iter = true := by rfl) (hln : (pos'.line == pos.line) = true := by rfl)
    (ha : (scope.names.any fun (n, q) => n == x && (q == .local || q == .cell)) = false := by decide +kernel) : DS X (.Assign [.Name x pos'] (.ListComp elt [⟨tg, iter, ifs, 0⟩] scope pos) spos) ρ M Z :=
  DS.of (ps_setLc B.calm B.nD (B.ix hi) (by rw [B.hsc]; exact hl) (sw_true (by rw [B.hsc]; exact hk) (by rw [B.hsc]; exact hl) hln ha) piS (B.ok hb) (fun s H C cl fp => ⟨fun pins s' σ H' v u Q I r h => h _ ⟨s, H, C, cl, fp, rfl⟩ pins s' u I r⟩) (fun s H C cl fp => ⟨fun pins s' σ H' Q I h => h _ ⟨s, H, C, cl, fp, rfl⟩ pins s' I⟩) (fun s H C cl fp => ⟨fun pins s' σ H' Q I h => h _ ⟨s, H, C, cl, fp, rfl⟩ pins s' I⟩) (fold_of hset))
    fun F H σ E hs he q1 q2 q3 q4 => hz F H σ _ hs he fun v F1 H1 d M1 z r n => q1 F1 H1 _ _ M1 z ((he.mono n.st.fle).set i r) n
/-- .. frozen -/
theorem ds_setLcF (B : Bd X P w K mg base N sc fn k) (i : Nat) {own : List (Str × Nat)} {js : List Nat} {x : Str} {pos' : Pos} (h : DI X tg iter ρ M fun ds R M1 => LcOk X P w K mg base N sc k scope tg elt ifs (own.map (·.2)) js ρ ds R M1 fun ds M1 => Z.nx (ρ.set i (some (.lst ds))) M1)
    (hi : N[i]? = some x := by rfl) (hl : sc.names.lookup x = some .local := by rfl) (hb : blkC N sc scope own = true := by decide +kernel) (hj : ∀ j ∈ js, j ∈ own.map (·.2) := by decide) (hset : noSet iter = true := by rfl) (hln : (pos'.line == pos.line) = true := by rfl)
    (ha : (scope.names.any fun (n, q) => n == x && (q == .local || q == .cell)) = false := by decide +kernel) (hk : sc.kind = .function := by rfl) : DS X (.Assign [.Name x pos'] (.ListComp elt [⟨tg, iter, ifs, 0⟩] scope pos) spos) ρ M Z :=
  have ev := evn_lc B hj h
  ds_setLc B i (own := own) (js := js) hk ev ev.fz hi hl hb hset hln ha
/-- .. owned -/
theorem ds_setLcO (B : Bd X P w K mg base N sc fn k) (i : Nat) {own : List (Str × Nat)} {js : List Nat} {x : Str} {pos' : Pos} (h : DI X tg iter ρ M fun ds R M1 => LcOk X P w K mg base N sc k scope tg elt ifs (own.map (·.2)) js ρ ds R M1 fun ds M1 => ∀ a, a ∉ adr M1 → Z.nx (ρ.set i (some (.loc a))) ((a, .lst ds) :: M1))
    (hi : N[i]? = some x := by rfl) (hl : sc.names.lookup x = some .local := by rfl) (hb : blkC N sc scope own = true := by decide +kernel) (hj : ∀ j ∈ js, j ∈ own.map (·.2) := by decide) (hset : noSet iter = true := by rfl) (hln : (pos'.line == pos.line) = true := by rfl)
    (ha : (scope.names.any fun (n, q) => n == x && (q == .local || q == .cell)) = false := by decide +kernel) (hk : sc.kind = .function := by rfl) : DS X (.Assign [.Name x pos'] (.ListComp elt [⟨tg, iter, ifs, 0⟩] scope pos) spos) ρ M Z :=
  have ev := evn_lc B hj h
  ds_setLc B i (own := own) (js := js) hk ev (EvN.ow ev) hi hl hb hset hln ha
/-- target = value (not a tuple of names and a tuple) -/
def isTupT : Expr → Bool | .Tuple .. => true | .List .. => true | _ => false
def isTupV : Expr → Bool | .Tuple .. => true | _ => false
theorem sws_of {t e : Expr} {env : PySem.Env} (h : (isTupT t && isTupV e) = false) : swappedStores [t] e env = pure none := by
  cases t <;> cases e <;> first | rfl | cases h
theorem one_each {t : Expr} {env : PySem.Env} (h : noStarT t = true) : (assignEach [t] env).map (·.2) = [assign t env] := by
  rw [each_of h]; rfl
theorem ds_asg {js : List Nat} (h : DE X e ρ M fun d M1 => DG X tg d ρ M1 js fun ρ2 M2 => Z.nx ρ2 M2) (hc : isComp e = false := by rfl) (hw : (isTupT tg && isTupV e) = false := by rfl) (hn : noStarT tg = true := by rfl) : DS X (.Assign [tg] e pos) ρ M Z :=
  DS.of (ps_asg peS pgS (sw_of hc) (sws_of hw) (one_each hn)) fun F H σ E hs he q1 q2 q3 q4 => h F H σ _ hs he fun v F1 H1 d M1 g r n => g F1 H1 σ v _ n.hs (he.mono n.st.fle) r fun σ2 F2 H2 ρ2 M2 z e2 n2 _ _ => q1 F2 H2 σ2 ρ2 M2 z e2 (n.trans n2)
/-- an env that has just a scope -/
def envS (sc : Scope) : PySem.Env := { scope := sc, locals := 0, globals := 0, cells := [] }
theorem sws_env {t e : Expr} {env : PySem.Env} (h : env.scope = sc) : swappedStores [t] e env = swappedStores [t] e (envS sc) := by
  unfold swappedStores Env.kindOf Env.blockKind
  rw [h]
  rfl
theorem ds_asgTT {js : List Nat} (B : Bd X P w K mg base N sc fn k) (hw : swappedStores [tg] e (envS sc) = pure none) (h : DE X e ρ M fun d M1 => DG X tg d ρ M1 js fun ρ2 M2 => Z.nx ρ2 M2) (hc : isComp e = false := by rfl) (hn : noStarT tg = true := by rfl) : DS X (.Assign [tg] e pos) ρ M Z :=
  DS.of (ps_asg peS pgS (sw_of hc) ((sws_env B.hsc).trans hw) (one_each hn)) fun F H σ E hs he q1 q2 q3 q4 => h F H σ _ hs he fun v F1 H1 d M1 g r n => g F1 H1 σ v _ n.hs (he.mono n.st.fle) r fun σ2 F2 H2 ρ2 M2 z e2 n2 _ _ => q1 F2 H2 σ2 ρ2 M2 z e2 (n.trans n2)
/-- x, y = a, b: two local names -/
theorem ds_par (B : Bd X P w K mg base N sc fn k) (i j : Nat) {x y : Str} {a b : Expr} {px py pt pt2 : Pos} {kt k2} (h : DE X a ρ M fun d M1 => DE X b ρ M1 fun d' M2 => Z.nx ((ρ.set i (some d)).set j (some d')) M2)
    (hw : swappedStores [.Tuple [.Name x px, .Name y py] kt pt] (.Tuple [a, b] k2 pt2) (envS sc) = pure (some [x, y]) := by rfl)
    (hi : N[i]? = some x := by rfl) (hj : N[j]? = some y := by rfl) (hij : i ≠ j := by decide) (hx : sc.names.lookup x = some .local := by rfl) (hy : sc.names.lookup y = some .local := by rfl) (ha : noStar a = true := by rfl) (hb : noStar b = true := by rfl) :
    DS X (.Assign [.Tuple [.Name x px, .Name y py] kt pt] (.Tuple [a, b] k2 pt2) pos) ρ M Z :=
  DS.of (ps_par B.calm B.nD (B.ix hi) (B.ix hj) hij (by rw [B.hsc]; exact hx) (by rw [B.hsc]; exact hy) paS ((sws_env B.hsc).trans hw) rfl) fun F H σ E hs he q1 q2 q3 q4 =>
    (da_two (ZL := fun ds M2 => ∃ d d', ds = [d, d'] ∧ Z.nx ((ρ.set i (some d)).set j (some d')) M2) (h.imp fun d M1 h => DE.imp h fun d' M2 z => ⟨d, d', rfl, z⟩) ha hb) F H σ _ hs he fun vs F1 H1 ds M1 ⟨d, d', e, z⟩ r n => by
      subst e
      obtain ⟨v, v', e, r, r'⟩ := two_v r
      exact ⟨v, v', e, q1 F1 H1 _ _ M1 z (((he.mono n.st.fle).set i r).set j r') n⟩
theorem ds_if (h : DT X c ρ M fun x M1 => (x = true → DSs X body ρ M1 Z) ∧ (x = false → DSs X body2 ρ M1 Z)) : DS X (.If c body body2 pos) ρ M Z :=
  DS.of (ps_if ptS pssS pssS) fun F H σ E hs he q1 q2 q3 q4 => h F H σ _ hs he fun x F1 H1 M1 ⟨ht, hf⟩ n => by
    cases x with
    | true => rw [if_pos rfl]; exact ht rfl F1 H1 σ E n.hs (he.mono n.st.fle) (fun F' H' σ' ρ' M' z e' n' => q1 F' H' σ' ρ' M' z e' (n.trans n')) (fun v F' H' d M' z r n' => q2 v F' H' d M' z r (n.trans n')) (fun F' H' σ' ρ' M' z e' n' => q3 F' H' σ' ρ' M' z e' (n.trans n')) (fun F' H' σ' ρ' M' z e' n' => q4 F' H' σ' ρ' M' z e' (n.trans n'))
    | false => rw [if_neg Bool.false_ne_true]; exact hf rfl F1 H1 σ E n.hs (he.mono n.st.fle) (fun F' H' σ' ρ' M' z e' n' => q1 F' H' σ' ρ' M' z e' (n.trans n')) (fun v F' H' d M' z r n' => q2 v F' H' d M' z r (n.trans n')) (fun F' H' σ' ρ' M' z e' n' => q3 F' H' σ' ρ' M' z e' (n.trans n')) (fun F' H' σ' ρ' M' z e' n' => q4 F' H' σ' ρ' M' z e' (n.trans n'))
/-- code that is not come to (its test is known): an if whose body is never run -/
theorem ds_never {F : Prop} (h : False) : DS X st ρ M Z := h.elim
/-! ### methods of built-in types -/
def noCall : Expr → Bool | .Call .. => false | _ => true
theorem base_of {e : Expr} {a : Str} {env : PySem.Env} {whole : Sem Value} (h : noCall e = true) : attributeBase e a env whole = whole := by
  cases e <;> first | rfl | cases h
theorem few_one {e : Expr} {env : PySem.Env} {cpos : Pos} (h : noStar e = true) : ((backTo cpos (starEach [e] env)).all (fun x => !x.1) && (backToKw cpos (keywordEach [] env)).all (fun x => x.1.isSome)
      && decide ([e].length + ([] : List Keyword).length + (if ([] : List Keyword).isEmpty then 0 else 1) < 30)) = true := by
  rw [star_of h]; rfl
/-- xs.append(e), xs owned -/
theorem ds_append {a : Expr} {cpos apos : Pos} (h : DE X a ρ M fun d1 M1 => ∃ (l : Addr) (ds0 : List D), d1 = .loc l ∧ (l, .lst ds0) ∈ M1 ∧ DE X e ρ M1 fun d2 M2 => ∃ (ds : List D) (A C : Mem), M2 = A ++ (l, .lst ds) :: C ∧ ds.length < 1000000 ∧ Z.nx ρ (A ++ (l, .lst (ds ++ [d2])) :: C))
    (hn : noStar e = true := by rfl) (ha : noCall a = true := by rfl) (hline : (apos.endLine == cpos.line) = true := by rfl) : DS X (.Expr (.Call (.Attribute a "append" apos) [e] [] cpos) pos) ρ M Z :=
  DS.of (ps_expr (pe_bm PySem.F.plainAttrs_list PySem.F.slot_list_append PySem.F.type_list_append mt_append peS (pa_cons peS pa_nil (star_of hn)) (base_of ha) (few_one hn) hline (star_of hn)) rfl)
    fun F H σ E hs he q1 q2 q3 q4 => h F H σ _ hs he fun v1 F1 H1 d1 M1 ⟨l, ds0, e1, hm, g1⟩ r1 n1 => by
      subst e1
      have e1 : v1 = .ref l := r1
      subst e1
      obtain ⟨_, vs0, e0, _⟩ := n1.hs.own _ hm
      refine ⟨.inl ⟨rfl, vs0, SqL.of e0⟩, ?_⟩
      refine g1 F1 H1 σ _ n1.hs (he.mono n1.st.fle) fun v2 F2 H2 d2 M2 ⟨ds, A, C, em, hz, z⟩ r2 n2 => ?_
      subst em
      obtain ⟨_, vs, e2, q⟩ := n2.hs.own (l, .lst ds) (List.mem_append_right _ List.mem_cons_self)
      have n := n1.trans n2
      have n3 := Nx.wr n2.hs (q.snoc r2)
      exact ⟨l, vs, v2, rfl, rfl, e2, by rw [← q.length]; exact sz_lt (Nat.le_of_lt hz), q1 F2 _ σ ρ _ z (he.mono n.st.fle) (n.trans n3)⟩
/-- s.index(t), t stands in s -/
theorem mt_strIndex : MtR X "str.index" (fun x xs H Q => ∃ (a b : Str) (j : Nat), x = .str a ∧ xs = [.str b] ∧ Txt.index0 a b = some j ∧ Q (.int (j : Nat)) H) := by
  intro pins s σ H x xs v us Q I rx rs h
  obtain ⟨a, b, j, rfl, rfl, hj, w⟩ := h
  obtain ⟨t, rfl⟩ := rx
  cases rs with
  | cons r1 rs =>
    cases rs
    obtain ⟨u, rfl⟩ := r1
    cases q : Builtin.Str.occurrences a b 0 a.length 1 with
    | nil =>
      exfalso
      unfold Txt.index0 at hj
      rw [q] at hj
      cases hj
    | cons i rest =>
      have e : i = j := by
        unfold Txt.index0 at hj
        rw [q] at hj
        exact Option.some.inj hj
      subst e
      exact PySem.SC.index q ⟨.int (i : Nat), H, I.tok _, ⟨_, rfl⟩, w⟩
theorem de_strIndex {a b : Expr} {cpos apos : Pos} {ZD : D → Mem → Prop} (h : DE X a ρ M fun d1 M1 => ∃ x : Str, d1 = .str x ∧ DE X b ρ M1 fun d2 M2 => ∃ (y : Str) (j : Nat), d2 = .str y ∧ Txt.index0 x y = some j ∧ ZD (.int (j : Nat)) M2)
    (hn : noStar b = true := by rfl) (ha : noCall a = true := by rfl) (hline : (apos.endLine == cpos.line) = true := by rfl) : DE X (.Call (.Attribute a "index" apos) [b] [] cpos) ρ M ZD :=
  DE.of (pe_bm PySem.F.plainAttrs_str PySem.F.slot_str_index PySem.F.type_str_index mt_strIndex peS (pa_cons peS pa_nil (star_of hn)) (base_of ha) (few_one hn) hline (star_of hn))
    fun F H σ Q hs he kk => h F H σ _ hs he fun v1 F1 H1 d1 M1 ⟨x, e1, g1⟩ r1 n1 => by
      subst e1
      have e1 : v1 = .str x := r1
      subst e1
      refine ⟨rfl, ?_⟩
      refine g1 F1 H1 σ _ n1.hs (he.mono n1.st.fle) fun v2 F2 H2 d2 M2 ⟨y, j, e2, hj, z⟩ r2 n2 => ?_
      subst e2
      have e2 : v2 = .str y := r2
      subst e2
      exact ⟨x, y, j, rfl, rfl, hj, kk _ F2 H2 _ M2 z rfl (n1.trans n2)⟩
/-! ### loops -/
def DEnds.loop (Z : DEnds) (I : Env → Mem → Prop) : DEnds := ⟨I, Z.rt, Z.nx, I⟩
theorem ds_for (B : Bd X P w K mg base N sc fn k) (js : List Nat) (h : DI X tg iter ρ M fun ds R M1 => ∃ I : Nat → Env → Mem → Prop, I 0 ρ M1 ∧
      (∀ (i : Nat) d ρ2 M2, ds[i]? = some d → I i ρ2 M2 → R M2 ∧ DG X tg d ρ2 M2 js fun ρ3 M3 => DSs X body ρ3 M3 (Z.loop (I (i + 1)))) ∧ ∀ ρ2 M2, I ds.length ρ2 M2 → R M2 ∧ Z.nx ρ2 M2)
    (hset : noSet iter = true := by rfl) : DS X (.For tg iter body [] pos) ρ M Z :=
  DS.of (ps_for B.po B.calm piS pgS pssS (fold_of hset)) fun F H σ E hs he q1 q2 q3 q4 => h F H σ _ hs he fun J F1 H1 ds R M1 ⟨I, i0, turn, fin⟩ src n1 => by
    let G (i : Nat) (σ2 : L2.St) (H2 : Hp) : Prop := ∃ F2 ρ2 M2, I i ρ2 M2 ∧ EnvOk X.K F2 σ2 ρ2 ∧ Nx X.K F1 H1 M1 F2 H2 M2
    refine ⟨fun i m σ2 H2 => m + i = ds.length ∧ G i σ2 H2, ⟨ds.length, by omega, F1, ρ, M1, i0, he.mono n1.st.fle, Nx.refl n1.hs⟩, ?_⟩
    rintro i m σ2 H2 ⟨em, F2, ρ2, M2, hI, he2, n2⟩
    by_cases hi : i < ds.length
    · obtain ⟨hR, ht⟩ := turn i ds[i] ρ2 M2 (List.getElem?_eq_getElem hi) hI
      have hsrc := (src F2 H2 M2 n2.st.fle n2.hs hR).1 i ds[i] (List.getElem?_eq_getElem hi)
      refine .inr ⟨hsrc.1, G (i + 1), fun σ' H' g => ⟨m - 1, by omega, by omega, g⟩, fun x H3 hy => ?_⟩
      obtain ⟨F3, rx, n3⟩ := hsrc.2 x H3 hy
      refine ht F3 H3 σ2 x _ n3.hs (he2.mono n3.st.fle) rx fun σ4 F4 H4 ρ4 M4 g4 e4 n4 _ _ => ?_
      have n24 := (n2.trans n3).trans n4
      have n14 := n1.trans n24
      refine g4 F4 H4 σ4 _ n4.hs e4 (fun F' H' σ' ρ' M' z e' n' => ⟨F', ρ', M', z, e', n24.trans n'⟩) (fun v F' H' d M' z r n' => q2 v F' H' d M' z r (n14.trans n')) (fun F' H' σ' ρ' M' z e' n' => q1 F' H' σ' ρ' M' z e' (n14.trans n')) (fun F' H' σ' ρ' M' z e' n' => ⟨F', ρ', M', z, e', n24.trans n'⟩)
    · have ei : i = ds.length := by omega
      subst ei
      obtain ⟨hR, z⟩ := fin ρ2 M2 hI
      exact .inl ⟨(src F2 H2 M2 n2.st.fle n2.hs hR).2, q1 F2 H2 σ2 ρ2 M2 z he2 (n1.trans n2)⟩
theorem ds_while (B : Bd X P w K mg base N sc fn k) (W : Nat → Env → Mem → Prop) (m0 : Nat) (h0 : W m0 ρ M) (h : ∀ m ρ1 M1, W m ρ1 M1 → DT X c ρ1 M1 fun b M2 => (b = true → DSs X body ρ1 M2 (Z.loop fun ρ' M' => ∃ m', m' < m ∧ W m' ρ' M')) ∧ (b = false → Z.nx ρ1 M2)) : DS X (.While c body [] pos) ρ M Z :=
  DS.of (ps_while B.po ptS pssS) fun F H σ E hs he q1 q2 q3 q4 => by
    refine ⟨fun m σ1 H1 => ∃ F1 ρ1 M1, W m ρ1 M1 ∧ EnvOk X.K F1 σ1 ρ1 ∧ Nx X.K F H M F1 H1 M1, ⟨m0, F, ρ, M, h0, he, Nx.refl hs⟩, ?_⟩
    rintro m σ1 H1 ⟨F1, ρ1, M1, hW, he1, n1⟩
    refine h m ρ1 M1 hW F1 H1 σ1 _ n1.hs he1 fun b F2 H2 M2 ⟨ht, hf⟩ n2 => ?_
    have n12 := n1.trans n2
    cases b with
    | true =>
      rw [if_pos rfl]
      refine ⟨fun σ' H' => ∃ m', m' < m ∧ ∃ F1 ρ1 M1, W m' ρ1 M1 ∧ EnvOk X.K F1 σ' ρ1 ∧ Nx X.K F H M F1 H' M1, fun σ' H' g => g, ?_⟩
      exact ht rfl F2 H2 σ1 _ n2.hs (he1.mono n2.st.fle) (fun F' H' σ' ρ' M' ⟨m', hm, z⟩ e' n' => ⟨m', hm, F', ρ', M', z, e', n12.trans n'⟩) (fun v F' H' d M' z r n' => q2 v F' H' d M' z r (n12.trans n')) (fun F' H' σ' ρ' M' z e' n' => q1 F' H' σ' ρ' M' z e' (n12.trans n')) (fun F' H' σ' ρ' M' ⟨m', hm, z⟩ e' n' => ⟨m', hm, F', ρ', M', z, e', n12.trans n'⟩)
    | false =>
      rw [if_neg Bool.false_ne_true]
      exact q1 F2 H2 σ1 ρ1 M2 (hf rfl) (he1.mono n2.st.fle) n12
end
end DV

set_option Elab.async false
set_option linter.all false
set_option maxRecDepth 100000
set_option maxHeartbeats 4000000
/-! DV8: contracts of defs, calls, own classes. -/
namespace DV
open PySem PySem.Spec PyProof.Rows L2

/-- what a def asks and gives: its arguments, what it is handed to own, what is wanted of its value and of what is owned then -/
abbrev Ct := List D → Mem → (D → Mem → Prop) → Prop
def spOf (K : PySem.W.Frag) (C : Ct) : Sp := fun vs H Q _ => ∃ F ds M Pq, Hs K F H M ∧ Reps K F ds vs ∧ C ds M Pq ∧ ∀ v F' H' d M', Pq d M' → Rep K F' d v → Nx K F H M F' H' M' → Q v H'
/-- a def of the module that keeps a contract -/
structure FnD (P : Program) (w : World) (K : PySem.W.Frag) (mg : Str → Option Value) (base : Heap) (k : Nat) (x : Str) (ps : List Str) (C : Ct) : Prop where
  ex : ∃ (f : Addr) (fd : FuncData), FnOk P w K mg base CX0 k f fd ps (spOf K C) ∧ Binds K fd ps [] ∧ mg x = some (.ref f) ∧ PySem.W.keepIn K (.ref f) = true
def startD (N : List Str) (ds : List D) : Env := ds.map some ++ List.replicate (N.length - ds.length) none
theorem env_start {K : PySem.W.Frag} {F : Hp} {N : List Str} {ds : List D} {vs : List V} (r : Reps K F ds vs) : EnvOk K F (L2.start N vs) (startD N ds) := by
  unfold L2.start startD
  refine ⟨by simp [r.length], fun i d h => ?_⟩
  by_cases hi : i < ds.length
  · rw [List.getElem?_append_left (by simpa using hi), List.getElem?_map] at h
    cases e : ds[i]? with
    | none => rw [e] at h; cases h
    | some d' =>
      rw [e] at h
      have e' : d' = d := by simpa using h
      subst e'
      obtain ⟨v, hv, rv⟩ := r.get e
      refine ⟨v, ?_, rv⟩
      have hl : i < vs.length := by rw [← r.length]; exact hi
      rw [List.getElem?_append_left (by simpa using hl), List.getElem?_map, hv]
      rfl
  · rw [List.getElem?_append_right (by simpa using hi), List.getElem?_replicate] at h
    split at h <;> cases h
section
variable {P : Program} {w : World} {K : PySem.W.Frag} {mg : Str → Option Value} {base : Heap}
theorem bd_of {N ps : List Str} {qual : Str} {sc : Scope} {f : Addr} {cdv : Value} {A : Around} {outer : List PySem.Env} {s : Shared} {H : Hp} {E : XK} {k : Nat} (S : FnScope N ps sc) (hr : Room k (A.deeper (envOfC qual sc s.heap.objs.size f cdv))) :
    Bd (cxOf CX0 P w K mg base N qual sc f cdv A outer s H E).nox P w K mg base N sc (fun _ => true) k := ⟨rfl, rfl, rfl, rfl, rfl, rfl, rfl, rfl, S.nd, rfl, hr, rfl⟩
/-- THE RULE for a def of the text -/
theorem fn_okD {x qual : Str} {st : Stmt} {f : Addr} {fd : FuncData} {N ps : List Str} {k : Nat} {C : Ct} (F : Fun K x qual st f fd) (S : FnScope N ps (defScope st)) (hC : ∀ ds M Pq, C ds M Pq → ds.length = ps.length)
    (hb : ∀ X, Bd X P w K mg base N (defScope st) (fun _ => true) k → ∀ ds M Pq, C ds M Pq → DSs X (defBody st) (startD N ds) M ⟨fun _ M' => Pq .non M', Pq, fun _ _ => False, fun _ _ => False⟩) : FnOk P w K mg base CX0 (k + 1) f fd ps (spOf K C) := by
  refine F.ok S (fun vs H Q E ⟨F, ds, M, Pq, _, r, c, _⟩ => by rw [← r.length]; exact hC _ _ _ c) (fun cdv A outer s H vs Q E hr h => ?_)
  obtain ⟨F, ds, M, Pq, hs, r, c, q⟩ := h
  refine ⟨_, pssS, ?_⟩
  exact hb _ (bd_of S hr) ds M Pq c F H _ _ hs (env_start r) (fun F' H' σ' ρ' M' z e n => q .non F' H' .non M' z rfl n) (fun v F' H' d M' z r n => q v F' H' d M' z r n) (fun _ _ _ _ _ z => z.elim) (fun _ _ _ _ _ z => z.elim)
theorem fnD_of {x qual : Str} {st : Stmt} {f : Addr} {fd : FuncData} {N ps : List Str} {k : Nat} {C : Ct} (F : Fun K x qual st f fd) (hm : mg x = some (.ref f)) (hbi : Binds K fd ps []) (S : FnScope N ps (defScope st)) (hC : ∀ ds M Pq, C ds M Pq → ds.length = ps.length)
    (hb : ∀ X, Bd X P w K mg base N (defScope st) (fun _ => true) k → ∀ ds M Pq, C ds M Pq → DSs X (defBody st) (startD N ds) M ⟨fun _ M' => Pq .non M', Pq, fun _ _ => False, fun _ _ => False⟩) : FnD P w K mg base (k + 1) x ps C :=
  ⟨f, fd, fn_okD F S hC hb, hbi, hm, F.kp⟩
end

section
variable {X : Cx} {P : Program} {w : World} {K : PySem.W.Frag} {mg : Str → Option Value} {base : Heap} {N : List Str} {sc : Scope} {fn : Str → Bool} {k : Nat} {ρ : Env} {M : Mem} {Z : D → Mem → Prop} {pos p : Pos} {a b e : Expr} {es : List Expr}
theorem FnOk.at {j : Nat} {f : Addr} {fd : FuncData} {ps : List Str} {sp : Sp} (B : Bd X P w K mg base N sc fn k) (F : FnOk P w K mg base CX0 j f fd ps sp) : FnOk X.prog X.w X.K X.mg X.base CX0 j f fd ps sp := by
  rw [B.hP, B.hw, B.hK, B.hmg, B.hbase]; exact F
/-- what a call hands over and what comes back -/
def CaC (C : Ct) (ds : List D) (M : Mem) (Z : D → Mem → Prop) : Prop := ∃ A R Pq, M.Perm (A ++ R) ∧ C ds A Pq ∧ ∀ d A', Pq d A' → Z d (A' ++ R)
theorem CaC.run {C : Ct} {ds : List D} {F H : Hp} {vs : List V} {E : XK} {Q : VK} (c : CaC C ds M Z) (hs : Hs K F H M) (r : Reps K F ds vs) (kk : ∀ v F' H' d M', Z d M' → Rep K F' d v → Nx K F H M F' H' M' → Q v H') : spOf K C vs H Q E := by
  obtain ⟨A, R, Pq, hp, hc, q⟩ := c
  have n0 := Nx.perm hs hp.symm
  refine ⟨F, ds, A, Pq, n0.hs.sub (List.sublist_append_left _ _), r, hc, fun v F' H' d M' z rv n => ?_⟩
  exact kk v F' H' d _ (q d M' z) rv (n0.trans (Nx.frame n0.hs n))
theorem de_call (B : Bd X P w K mg base N sc fn k) {j : Nat} {x : Str} {ps : List Str} {C : Ct} (Fn : FnD P w K mg base j x ps C) (h : DA X (e :: es) ρ M fun ds M1 => CaC C ds M1 Z) (hk : j ≤ k := by decide) (hg : glB sc x = true := by rfl) (hdb : (x == ("__debug__" : Str)) = false := by decide)
    (he : noStar e = true := by rfl) (hes : es.all noStar = true := by rfl) : DE X (.Call (.Name x p) (e :: es) [] pos) ρ M Z := by
  obtain ⟨f, fd, F, hb, hm, hkp⟩ := Fn.ex
  refine DE.of (pe_call (FnOk.at B F) (B.room.mono hk) (B.gl hg) (B.mgs hm) (by rw [B.hK]; exact hkp) (by rw [B.hK]; exact hb) .nil pass0 paS hdb (star_of he) (star_all hes)) fun F0 H σ Q hs hev kk => h F0 H σ _ hs hev fun vs F1 H1 ds M1 c r n => ?_
  show spOf K C (vs ++ []) H1 Q E0
  rw [List.append_nil]
  have hs1 := n.hs
  rw [B.hK] at hs1 r
  exact c.run hs1 r fun v F2 H2 d M2 z r2 n2 => kk v F2 H2 d M2 z (by rw [B.hK]; exact r2) (n.trans (by rw [B.hK]; exact n2))
theorem de_call0 (B : Bd X P w K mg base N sc fn k) {j : Nat} {x : Str} {ps : List Str} {C : Ct} (Fn : FnD P w K mg base j x ps C) (h : CaC C [] M Z) (hk : j ≤ k := by decide) (hg : glB sc x = true := by rfl) (hdb : (x == ("__debug__" : Str)) = false := by decide) : DE X (.Call (.Name x p) [] [] pos) ρ M Z := by
  obtain ⟨f, fd, F, hb, hm, hkp⟩ := Fn.ex
  refine DE.of (pe_call0 (FnOk.at B F) (B.room.mono hk) (B.gl hg) (B.mgs hm) (by rw [B.hK]; exact hkp) (by rw [B.hK]; exact hb) .nil pass0 hdb) fun F0 H σ Q hs hev kk => ?_
  show spOf K C [] H Q E0
  rw [B.hK] at hs
  exact h.run hs .nil fun v F2 H2 d M2 z r2 n2 => kk v F2 H2 d M2 z (by rw [B.hK]; exact r2) (by rw [B.hK]; exact n2)
/-! ### keywords -/
/-- f(k = v, ..) -/
theorem pe_callN0 {X : Cx} {CX : CXT} {k : Nat} {f : Addr} {fd : FuncData} {ps ks : List Str} {sp : Sp} {E : XK} {x : Str} {p pos : Pos} {kws : List Keyword} {tk : TA} {g : List Value → List Value → List Value} {gV : List V → List V → List V}
    (F : FnOk X.prog X.w X.K X.mg X.base CX k f fd ps sp) (hr : Room k X.A) (hg : Gl X x) (hm : X.mg x = some (.ref f)) (hk : PySem.W.keepIn X.K (.ref f) = true) (hb : KBn X.K fd ps 0 ks g gV) (hx : Passes CX X E)
    (hkw : PK X kws tk) (hall : (backToKw pos (keywordEach kws X.env)).all (·.1.isSome) = true := by rfl) (hks : (backToKw pos (keywordEach kws X.env)).filterMap (·.1) = ks := by rfl)
    (hdb : (x == ("__debug__" : Str)) = false := by decide)
    (hpl : ((backTo pos (starEach [] X.env)).any (·.1) || (backToKw pos (keywordEach kws X.env)).any (·.1.isNone)) = false := by rfl) :
    PE X (.Call (.Name x p) [] kws pos) (tCallN 0 ks.length sp gV E tNil tk) := by
  refine ⟨fun pins s σ H Q I h => ?_⟩
  refine wpAny_Call_Name_kw (ld_glob I hg hm ?_ hdb)
  refine PySem.W.callWith_KW0 (h₀ := X.base) I.ok.mod.kin hk hall ?_ hpl
  refine thn (hkw.run pos pins s σ H _ I h) fun ws s2 ⟨zs, H2, I2, rz, l1, l2, q2⟩ => ⟨I2.kIn, ?_⟩
  rw [hks]
  exact run_fnN (us := []) (vs := []) F hr hb hx I2 .nil rz rfl l2 q2
def semK (X : Cx) (kws : List Keyword) : TA := fun σ H Q => ∀ (pos : Pos) (pins : List (Addr × Obj)) (s : Shared), Inv X pins σ H s → wpAny (model X.prog X.w) X.A (evalAll ((backToKw pos (keywordEach kws X.env)).map (·.2))) (AP X pins σ Q) X.xe s
theorem pkS {kws : List Keyword} : PK X kws (semK X kws) := ⟨fun pos pins s σ H Q I h => h pos pins s I⟩
def DK (X : Cx) (kws : List Keyword) (ρ : Env) (M : Mem) (Pq : List D → Mem → Prop) : Prop := EvA X.K (semK X kws) ρ M Pq
theorem DK.of {kws : List Keyword} {t : TA} {Pq : List D → Mem → Prop} (h : PK X kws t) (kq : EvA X.K t ρ M Pq) : DK X kws ρ M Pq := fun F H σ Q hs he q pos pins s I => h.run pos pins s σ H Q I (kq F H σ Q hs he q)
theorem dk_nil {ZL : List D → Mem → Prop} (q : ZL [] M) : DK X [] ρ M ZL := DK.of pk_nil fun F H σ Q hs he kk => kk [] F H [] M q .nil (Nx.refl hs)
theorem dk_cons {ZL : List D → Mem → Prop} {nm : Option Str} {kpos : Pos} {kws : List Keyword} (h : DE X e ρ M fun d M1 => DK X kws ρ M1 fun ds M2 => ZL (d :: ds) M2) : DK X (⟨nm, e, kpos⟩ :: kws) ρ M ZL :=
  DK.of (pk_cons peS pkS) fun F H σ Q hs he kk => h F H σ _ hs he fun v F1 H1 d M1 g r1 n1 => g F1 H1 σ _ n1.hs (he.mono n1.st.fle) fun vs F2 H2 ds M2 z r2 n2 => kk _ F2 H2 _ M2 z (.cons (r1.mono n2.st.fle) r2) (n1.trans n2)
/-- a def that can be called by keywords: all parameters, in the order ks; gD: the values in the parameters' order -/
structure KwD (P : Program) (w : World) (K : PySem.W.Frag) (mg : Str → Option Value) (base : Heap) (k : Nat) (x : Str) (ps : List Str) (C : Ct) (n : Nat) (ks : List Str) (gD : List D → List D → List D) : Prop where
  ex : ∃ (f : Addr) (fd : FuncData) (g : List Value → List Value → List Value) (gV : List V → List V → List V), FnOk P w K mg base CX0 k f fd ps (spOf K C) ∧ KBn K fd ps n ks g gV ∧ mg x = some (.ref f) ∧ PySem.W.keepIn K (.ref f) = true ∧
    ∀ F ds vs es us, Reps K F ds vs → Reps K F es us → Reps K F (gD ds es) (gV vs us)
theorem de_callK0 (B : Bd X P w K mg base N sc fn k) {j : Nat} {x : Str} {ps ks : List Str} {C : Ct} {gD : List D → List D → List D} {kws : List Keyword} (Fn : KwD P w K mg base j x ps C 0 ks gD) (h : DK X kws ρ M fun es M1 => es.length = ks.length ∧ CaC C (gD [] es) M1 Z)
    (hk : j ≤ k := by decide) (hg : glB sc x = true := by rfl) (hdb : (x == ("__debug__" : Str)) = false := by decide) (hall : (backToKw pos (keywordEach kws X.env)).all (·.1.isSome) = true := by rfl) (hks : (backToKw pos (keywordEach kws X.env)).filterMap (·.1) = ks := by rfl)
    (hpl : ((backTo pos (starEach [] X.env)).any (·.1) || (backToKw pos (keywordEach kws X.env)).any (·.1.isNone)) = false := by rfl) : DE X (.Call (.Name x p) [] kws pos) ρ M Z := by
  obtain ⟨f, fd, g, gV, F, hb, hm, hkp, hgd⟩ := Fn.ex
  refine DE.of (pe_callN0 (FnOk.at B F) (B.room.mono hk) (B.gl hg) (B.mgs hm) (by rw [B.hK]; exact hkp) (by rw [B.hK]; exact hb) pass0 pkS hall hks hdb hpl) fun F0 H σ Q hs hev kk => ?_
  show semK X kws σ H _
  refine h F0 H σ _ hs hev fun us F1 H1 es' M1 ⟨hl, c⟩ r n => ⟨rfl, by rw [← r.length]; exact hl, ?_⟩
  have hs1 := n.hs
  rw [B.hK] at hs1 r
  exact c.run hs1 (hgd F1 [] [] es' us .nil r) fun v F2 H2 d M2 z r2 n2 => kk v F2 H2 d M2 z (by rw [B.hK]; exact r2) (n.trans (by rw [B.hK]; exact n2))
/-- f(a, .., k = v, ..) -/
theorem de_callK (B : Bd X P w K mg base N sc fn k) {j n0 : Nat} {x : Str} {ps ks : List Str} {C : Ct} {gD : List D → List D → List D} {kws : List Keyword} (Fn : KwD P w K mg base j x ps C n0 ks gD) (h : DA X (e :: es) ρ M fun ds M1 => ds.length = n0 ∧ DK X kws ρ M1 fun us M2 => us.length = ks.length ∧ CaC C (gD ds us) M2 Z)
    (hk : j ≤ k := by decide) (hg : glB sc x = true := by rfl) (hdb : (x == ("__debug__" : Str)) = false := by decide) (hall : (backToKw pos (keywordEach kws X.env)).all (·.1.isSome) = true := by rfl) (hks : (backToKw pos (keywordEach kws X.env)).filterMap (·.1) = ks := by rfl)
    (he : noStar e = true := by rfl) (hpl : ((backTo pos (starEach (e :: es) X.env)).any (·.1) || (backToKw pos (keywordEach kws X.env)).any (·.1.isNone)) = false := by rfl) : DE X (.Call (.Name x p) (e :: es) kws pos) ρ M Z := by
  obtain ⟨f, fd, g, gV, F, hb, hm, hkp, hgd⟩ := Fn.ex
  refine DE.of (pe_callN (FnOk.at B F) (B.room.mono hk) (B.gl hg) (B.mgs hm) (by rw [B.hK]; exact hkp) (by rw [B.hK]; exact hb) pass0 paS pkS hall hks hdb (star_of he) hpl) fun F0 H σ Q hs hev kk => ?_
  refine h F0 H σ _ hs hev fun vs F1 H1 ds M1 ⟨hl, h2⟩ r n => ?_
  refine h2 F1 H1 σ _ n.hs (hev.mono n.st.fle) fun us F2 H2 es' M2 ⟨hl2, c⟩ r2 n2 => ⟨by rw [← r.length]; exact hl, by rw [← r2.length]; exact hl2, ?_⟩
  have hs1 := n2.hs
  have r1 := r.mono n2.st.fle
  rw [B.hK] at hs1 r1 r2
  exact c.run hs1 (hgd F2 ds vs es' us r1 r2) fun v F3 H3 d M3 z r3 n3 => kk v F3 H3 d M3 z (by rw [B.hK]; exact r3) ((n.trans n2).trans (by rw [B.hK]; exact n3))

/-! ### own classes -/
theorem Reps.lookup {F : Hp} {f : Str} {d : D} : ∀ {ns : List Str} {ds : List D} {vs : List V}, Reps K F ds vs → vs.length = ns.length → (ns.zip ds).lookup f = some d → ∃ v, (ns.zip vs).lookup f = some v ∧ Rep K F d v
  | [], _, _, _, _, h => by simp at h
  | n :: ns, [], _, _, _, h => by simp at h
  | n :: ns, d0 :: ds, _, ⟨v, r, e, h1, h2⟩, hl, h => by
    subst e
    rw [List.zip_cons_cons, List.lookup_cons] at h ⊢
    cases hb : f == n with
    | true =>
      rw [hb] at h
      have : d0 = d := Option.some.inj h
      subst this
      exact ⟨v, rfl, h1⟩
    | false =>
      rw [hb] at h
      exact Reps.lookup h2 (by simpa using hl) h
/-- o.f, o an instance that does not change -/
theorem de_fld (B : Bd X P w K mg base N sc fn k) {f : Str} (h : DE X e ρ M fun d M1 => ∃ C ns ds d', d = .ins C ns ds ∧ Cls K C ∧ NoAttr K C f ∧ (ns.zip ds).lookup f = some d' ∧ Z d' M1) (ha : noCall e = true := by rfl) : DE X (.Attribute e f pos) ρ M Z :=
  DE.of (pe_fld peS (base_of ha)) fun F H σ Q hs he kk => h F H σ _ hs he fun v F1 H1 d M1 ⟨C, ns, ds, d', e, c, na, l, z⟩ r n => by
    subst e
    obtain ⟨a, dx, vs, e, ea, hl, q⟩ := r
    obtain ⟨u, hu, ru⟩ := q.lookup hl l
    exact ⟨a, C, dx, _, u, e, n.hs.le _ _ ea, by rw [B.hK]; exact c, by rw [B.hK]; exact na, hu, kk u F1 H1 d' M1 z ru n⟩
theorem zip_snoc : ∀ {ns : List Str} {vs : List V} {f : Str} {v : V}, vs.length = ns.length → f ∉ ns → putF f v (ns.zip vs) = (ns ++ [f]).zip (vs ++ [v])
  | [], [], _, _, _, _ => rfl
  | [], _ :: _, _, _, h, _ => by simp at h
  | _ :: _, [], _, _, h, _ => by simp at h
  | n :: ns, u :: vs, f, v, h, hf => by
    have h1 : n ≠ f := fun e => hf (by rw [e]; exact List.mem_cons_self)
    show (if n = f then _ else (n, u) :: putF f v (ns.zip vs)) = _
    rw [if_neg h1, zip_snoc (by simpa using h) (fun z => hf (List.mem_cons_of_mem _ z))]
    rfl
/-- o.f = e, o an instance that is owned, f a new field -/
theorem ds_fldNew (B : Bd X P w K mg base N sc fn k) {f : Str} {pos' : Pos} {Zs : DEnds} (h : DE X e ρ M fun d M1 => DE X a ρ M1 fun d2 M2 => ∃ (o C dx : Addr) (ns : List Str) (ds : List D) (A R : Mem), d2 = .loc o ∧ M2 = A ++ (o, .ins C dx ns ds) :: R ∧ Cls K C ∧ NoAttr K C f ∧ f ∉ ns ∧ ns.length < 1000 ∧
      Zs.nx ρ (A ++ (o, .ins C dx (ns ++ [f]) (ds ++ [d])) :: R)) (hc : isComp e = false := by rfl) : DS X (.Assign [.Attribute a f pos'] e pos) ρ M Zs :=
  DS.of (ps_fld peS peS (sw_of hc)) fun F H σ E hs he q1 q2 q3 q4 => h F H σ _ hs he fun v F1 H1 d M1 g1 r1 n1 => g1 F1 H1 σ _ n1.hs (he.mono n1.st.fle) fun v2 F2 H2 d2 M2 ⟨o, C, dx, ns, ds, A, R, e2, em, c, na, hf, hn, z⟩ r2 n2 => by
    subst e2; subst em
    have e2 : v2 = .ref o := r2
    obtain ⟨hF, vs, eo, hl, q⟩ := n2.hs.own (o, .ins C dx ns ds) (List.mem_append_right _ List.mem_cons_self)
    have n := n1.trans n2
    have r1' := r1.mono n2.st.fle
    have ea : adr (A ++ (o, .ins C dx (ns ++ [f]) (ds ++ [d])) :: R) = adr (A ++ (o, .ins C dx ns ds) :: R) := by unfold adr; simp
    have ho : o ∈ adr (A ++ (o, .ins C dx ns ds) :: R) := by unfold adr; simp
    have hnd : (adr A ++ o :: adr R).Nodup := by have := n2.hs.nd; unfold adr at this ⊢; simpa using this
    have n3 : Nx X.K F2 H2 (A ++ (o, .ins C dx ns ds) :: R) F2 (upd H2 o (.ins C dx (putF f v (ns.zip vs)))) (A ++ (o, .ins C dx (ns ++ [f]) (ds ++ [d])) :: R) := by
      refine ⟨⟨n2.hs.le.upd hF, fun p hp => ?_, by rw [ea]; exact n2.hs.nd⟩, ⟨Le.refl F2, fun x u e hn => by rw [upd_ne (show x ≠ o from fun z => hn (z.symm ▸ ho))]; exact e, fun _ _ _ f _ => f, upd_there⟩, fun x hx => .inl (by rw [ea] at hx; exact hx)⟩
      have other : p.1 ≠ o → p ∈ A ++ (o, .ins C dx ns ds) :: R → Own X.K F2 (upd H2 o (.ins C dx (putF f v (ns.zip vs)))) p.1 p.2 := fun hne hm => (n2.hs.own p hm).keep (Le.refl F2) (fun u e => by rw [upd_ne hne]; exact e) (n2.hs.own p hm).fr
      rcases List.mem_append.mp hp with y | y
      · exact other (fun e => (List.nodup_append.mp hnd).2.2 p.1 (mem_adr y) o List.mem_cons_self e) (List.mem_append_left _ y)
      · rcases List.mem_cons.mp y with e | y
        · subst e
          refine ⟨hF, vs ++ [v], ?_, by simp [hl], q.snoc r1'⟩
          rw [upd_same, zip_snoc hl hf]
        · exact other (fun e => (List.nodup_cons.mp (List.nodup_append.mp hnd).2.1).1 (e ▸ mem_adr y)) (List.mem_append_right _ (List.mem_cons_of_mem _ y))
    refine ⟨o, C, dx, _, e2, eo, by rw [B.hK]; exact c, by rw [B.hK]; exact na, ?_, q1 F2 _ σ ρ _ z (he.mono n.st.fle) (n.trans n3)⟩
    rw [List.length_zip]
    omega
/-- a class of the module that is made by an __init__ with a contract -/
structure ClsD (P : Program) (w : World) (K : PySem.W.Frag) (mg : Str → Option Value) (base : Heap) (k : Nat) (x : Str) (Cl : Addr) (ps : List Str) (C : Ct) : Prop where
  ex : ∃ (f : Addr) (fd : FuncData), Mk K Cl f ∧ FnOk P w K mg base CX0 k f fd ps (spOf K C) ∧ Binds K fd ps [] ∧ mg x = some (.ref Cl)
theorem de_make (B : Bd X P w K mg base N sc fn k) {j : Nat} {x : Str} {Cl : Addr} {ps : List Str} {C : Ct} (Fn : ClsD P w K mg base j x Cl ps C) (h : DA X (e :: es) ρ M fun ds M1 => ∀ o dx, o ∉ adr M1 → ∃ Pq, C (.loc o :: ds) [(o, .ins Cl dx [] [])] Pq ∧
      ∀ d M2, Pq d M2 → ∃ ns es, d = .non ∧ M2 = [(o, .ins Cl dx ns es)] ∧ Z (.ins Cl ns es) M1) (hk : j + 1 ≤ k := by decide) (hg : glB sc x = true := by rfl) (hdb : (x == ("__debug__" : Str)) = false := by decide)
    (he : noStar e = true := by rfl) (hes : es.all noStar = true := by rfl) : DE X (.Call (.Name x p) (e :: es) [] pos) ρ M Z := by
  obtain ⟨f, fd, mk, F, hb, hm⟩ := Fn.ex
  refine DE.of (pe_make (by rw [B.hK]; exact mk) (FnOk.at B F) (B.room.mono hk) (B.gl hg) (B.mgs hm) (by rw [B.hK]; exact hb) .nil pass0 paS hdb (star_of he) (star_all hes)) fun F0 H σ Q hs hev kk => h F0 H σ _ hs hev fun vs F1 H1 ds M1 c r n => ?_
  intro o dx ho hdx hne
  show spOf K C (.ref o :: (vs ++ [])) _ _ E0
  rw [List.append_nil]
  obtain ⟨Pq, hc, q⟩ := c o dx (n.hs.out ho)
  -- the instance's dict, then the instance
  have n2 := Nx.put (o := .own o) n.hs hdx
  have ho2 : (upd H1 dx (.own o)) o = none := by rw [upd_ne (Ne.symm hne)]; exact ho
  have n3 : Nx X.K F1 (upd H1 dx (.own o)) M1 F1 (upd (upd H1 dx (.own o)) o (.ins Cl dx [])) ((o, .ins Cl dx [] []) :: M1) := by
    refine ⟨⟨n2.hs.le.upd (n2.hs.le.none ho2), fun y hy => ?_, List.nodup_cons.mpr ⟨n2.hs.out ho2, n2.hs.nd⟩⟩, ⟨Le.refl _, fun a u e _ => by rw [upd_ne (ne_of_none e ho2)]; exact e, fun a u _ f _ => f, upd_there⟩, fun a ha => ?_⟩
    · rcases List.mem_cons.mp hy with e | hy
      · subst e
        exact ⟨n2.hs.le.none ho2, [], upd_same, rfl, .nil⟩
      · have hne : y.1 ≠ o := fun z => n2.hs.out ho2 (z ▸ mem_adr hy)
        exact (n2.hs.own y hy).keep (Le.refl _) (fun u e => by rw [upd_ne hne]; exact e) (n2.hs.own y hy).fr
    · rcases List.mem_cons.mp ha with e | ha
      · subst e; exact .inr ho2
      · exact .inl ha
  have n4 := n2.trans n3
  have hs4 := n4.hs
  rw [B.hK] at hs4 r
  have ns0 : Hs K F1 (upd (upd H1 dx (.own o)) o (.ins Cl dx [])) [(o, .ins Cl dx [] [])] := hs4.sub (List.sublist_append_left [(o, MO.ins Cl dx [] [])] M1)
  refine ⟨F1, .loc o :: ds, _, Pq, ns0, .cons rfl r, hc, fun v F' H' d M' z rv nn => ?_⟩
  obtain ⟨ns, es', ed, em, zz⟩ := q d M' z
  subst ed; subst em
  have ev : v = .non := rv
  refine ⟨ev, ?_⟩
  have nf := Nx.frame (Mx := M1) (show Hs K F1 _ ([(o, MO.ins Cl dx [] [])] ++ M1) from hs4) nn
  -- the instance is frozen
  obtain ⟨hF, us, eo, hl, qq⟩ := nn.hs.own (o, .ins Cl dx ns es') List.mem_cons_self
  have hF : F' o = none := hF
  have eo : H' o = some (.ins Cl dx (ns.zip us)) := eo
  have fle : Le F' (upd F' o (.ins Cl dx (ns.zip us))) := (Le.refl F').upd hF
  have hndf : o ∉ adr M1 := n.hs.out ho
  have n5 : Nx K F' H' ([(o, .ins Cl dx ns es')] ++ M1) (upd F' o (.ins Cl dx (ns.zip us))) H' M1 := by
    have hnd := nf.hs.nd
    refine ⟨⟨nf.hs.le.upd_l eo, fun y hy => ?_, ?_⟩, ⟨fle, fun _ _ e _ => e, fun a u e f hn => ?_, fun _ e => e⟩, fun a ha => .inl (by unfold adr at ha ⊢; rw [List.map_append]; exact List.mem_append_right _ ha)⟩
    · have hne : y.1 ≠ o := fun z => hndf (z ▸ mem_adr hy)
      exact (nf.hs.own y (List.mem_append_right _ hy)).keep fle (fun _ e => e) (by rw [upd_ne hne]; exact (nf.hs.own y (List.mem_append_right _ hy)).fr)
    · unfold adr at hnd
      rw [List.map_append] at hnd
      exact (List.nodup_append.mp hnd).2.1
    · have hne : a ≠ o := fun z => hn (by unfold adr; rw [z]; simp)
      rw [upd_ne hne]; exact f
  refine kk (.ref o) (upd F' o (.ins Cl dx (ns.zip us))) H' (.ins Cl ns es') M1 zz ⟨o, dx, us, rfl, upd_same, hl, ?_⟩ (n.trans (n4.trans ?_))
  · rw [B.hK]; exact qq.mono fle
  · rw [B.hK]; exact nf.trans n5
/-- o.f, a property whose getter keeps a contract -/
structure PropD (P : Program) (w : World) (K : PySem.W.Frag) (mg : Str → Option Value) (base : Heap) (k : Nat) (Cl : Addr) (f : Str) (C : Ct) : Prop where
  ex : ∃ (p g : Addr) (fd : FuncData), Cls K Cl ∧ PropOf K Cl f p g ∧ FnOk P w K mg base CX0 k g fd ["self"] (spOf K C) ∧ Binds K fd ["self"] []
theorem de_prop (B : Bd X P w K mg base N sc fn k) {j : Nat} {Cl : Addr} {f : Str} {C : Ct} (Fn : PropD P w K mg base j Cl f C) (h : DE X e ρ M fun d M1 => ∃ ns ds, d = .ins Cl ns ds ∧ CaC C [d] M1 Z) (hk : j + 1 ≤ k := by decide) (ha : noCall e = true := by rfl) : DE X (.Attribute e f pos) ρ M Z := by
  obtain ⟨pp, g, fd, cl, po, F, hb⟩ := Fn.ex
  refine DE.of (pe_prop peS (by rw [B.hK]; exact cl) (by rw [B.hK]; exact po) (FnOk.at B F) (B.room.mono hk) (by rw [B.hK]; exact hb) .nil pass0 (base_of ha)) fun F0 H σ Q hs hev kk => h F0 H σ _ hs hev fun v F1 H1 d M1 ⟨ns, ds, ed, c⟩ r n => ?_
  subst ed
  obtain ⟨a, dx, vs, ev, ea, hl, q⟩ := id r
  subst ev
  refine ⟨a, dx, _, rfl, n.hs.le _ _ ea, ?_⟩
  show spOf K C [.ref a] H1 Q E0
  have hs1 := n.hs
  rw [B.hK] at hs1 r
  exact c.run hs1 (.cons r .nil) fun v F2 H2 d M2 z r2 n2 => kk v F2 H2 d M2 z (by rw [B.hK]; exact r2) (n.trans (by rw [B.hK]; exact n2))
/-- isinstance(x, C), x an instance of C -/
theorem de_isC (B : Bd X P w K mg base N sc fn k) {y : Str} {Cl : Addr} (hm : mg "isinstance" = none) (hy : mg y = some (.ref Cl)) (c : C8.InsC K Cl) (h : DE X a ρ M fun d M1 => ∃ ns ds, d = .ins Cl ns ds ∧ Z (.bl true) M1)
    (hg : glB sc "isinstance" = true := by rfl) (hgy : glB sc y = true := by rfl) (hdy : (y == ("__debug__" : Str)) = false := by decide) {p1 : Pos} (ha : noStar a = true := by rfl) : DE X (.Call (.Name "isinstance" p) [a, .Name y p1] [] pos) ρ M Z :=
  DE.of (pe_callB (C8.call_isC (C := Cl) (by rw [B.hK]; exact c)) (B.gl hg) (B.mgn hm) (by decide +kernel) (pa_cons peS (pa_cons (pe_glob (v := .ref Cl) (B.gl hgy) (B.mgs hy) rfl hdy) pa_nil) (star_of ha)) (he := star_of ha)) fun F H σ Q hs he kk => h F H σ _ hs he fun v F1 H1 d M1 ⟨ns, ds, e, z⟩ r n => by
    subst e
    obtain ⟨a, dx, vs, e, ea, _, _⟩ := r
    exact ⟨a, dx, _, by rw [e], n.hs.le _ _ ea, kk _ F1 H1 _ M1 z rfl n⟩
end
end DV

set_option Elab.async false
set_option linter.all false
set_option maxRecDepth 100000
set_option maxHeartbeats 4000000
/-! DV9: zip of a list and a tuple. -/
namespace DV
open PySem PySem.Spec PyProof.Rows L2
def ItzLT (K : PySem.W.Frag) (a b : Addr) : It :=
  ⟨fun i H => ∃ (xs ys : List V) (x y : V), SqL K H a xs ∧ SqT K H b ys ∧ xs[i]? = some x ∧ ys[i]? = some y,
    fun i H v H' => ∃ T x y, v = .ref T ∧ H T = none ∧ H' = upd H T (.tup [x, y]) ∧ (∀ xs, SqL K H a xs → xs[i]? = some x) ∧ ∀ ys, SqT K H b ys → ys[i]? = some y,
    fun i H => ∃ xs ys : List V, SqL K H a xs ∧ SqT K H b ys ∧ i ≤ xs.length ∧ i ≤ ys.length ∧ (i = xs.length ∨ i = ys.length)⟩
theorem sep_of {z TI TO i1 i2 a b : Addr} (D : ZipApart z TI TO i1 i2 a b) : ZipSep2 z TI TO i1 i2 [i1, a] [i2, b] where
  TIz := D.TIz
  TOz := D.TOz
  TITO := D.TITO
  TIi1 := D.TIi1
  mem1 := by simp
  zf1 := by simp [Ne.symm D.i1z, Ne.symm D.l1z]
  Tf1 := by simp [D.TOi1, Ne.symm D.l1TO]
  TIi2 := D.TIi2
  mem2 := by simp
  zf2 := by simp [Ne.symm D.i2z, Ne.symm D.l2z]
  Tf2 := by simp [D.TOi2, Ne.symm D.l2TO]
  sep1_2 := by simp [D.i12, Ne.symm D.l2i1]
  sep2_1 := by simp [Ne.symm D.i12, Ne.symm D.l1i2]
theorem turn_zipLT {P : Program} {w : World} {K : PySem.W.Frag} {elts : List Expr} {kk : Nat} {tpos : Pos} {a b z TI TO i1 i2 : Addr} (D : ZipApart z TI TO i1 i2 a b) :
    Turn P w K (.Tuple elts kk tpos) (ItzLT K a b) [z, TI, TO, i1, i2] z (fun i h => IsZip h z TI TO .none ∧ IsPair h TI (.ref i1) (.ref i2) ∧ (∃ x y, IsPair h TO x y) ∧ h.IsListIter i1 a i ∧ h.IsTupleIter i2 b i) where
  mem := by simp
  obj := fun i h st c hc => by
    obtain ⟨hz, hTI, ⟨x, y, hTO⟩, ⟨o1, e1, _, d1⟩, ⟨o2, e2, _, d2⟩⟩ := st
    have e' : c = z ∨ c = TI ∨ c = TO ∨ c = i1 ∨ c = i2 := by simpa using hc
    rcases e' with q | q | q | q | q
    · rw [q]; exact ⟨_, hz, fun v q => nomatch q⟩
    · rw [q]; exact ⟨_, hTI, fun v q => nomatch q⟩
    · rw [q]; exact ⟨_, hTO, fun v q => nomatch q⟩
    · rw [q]; exact ⟨o1, e1, fun v q => by rw [d1] at q; cases q⟩
    · rw [q]; exact ⟨o2, e2, fun v q => by rw [d2] at q; cases q⟩
  keep := fun i h h' st k => by
    obtain ⟨hz, hTI, ⟨x, y, hTO⟩, h1, h2⟩ := st
    exact ⟨k z (by simp) _ hz, k TI (by simp) _ hTI, ⟨x, y, k TO (by simp) _ hTO⟩, h1.at fun o q => k i1 (by simp) o q, h2.at fun o q => k i2 (by simp) o q⟩
  item := by
    intro X hP hw hK hc i pins s σ H E I hf st hg
    subst hP hw hK
    obtain ⟨hz, hTI, ⟨x0, y0, hTO⟩, h1, h2⟩ := st
    obtain ⟨xs, ys, x, y, hqx, hqy, hx, hy⟩ := hg
    obtain ⟨its, rv, p, _⟩ := I.list hqx
    obtain ⟨its2, rv2, p2, _⟩ := I.tuple hqy
    obtain ⟨u, hu, ru⟩ := rv.get hx
    obtain ⟨u2, hu2, ru2⟩ := rv2.get hy
    have hzl : z < s.heap.objs.size := Heap.lt_size hz
    have hh : X.A.in1.handled = none := I.ok.hd hc
    have hl1 : i < its.toArray.size := by have := (List.getElem?_eq_some_iff.mp hu).1; simpa using this
    have hl2 : i < its2.toArray.size := by have := (List.getElem?_eq_some_iff.mp hu2).1; simpa using this
    refine wpAny_pyNext_zipD2_item (sep_of D) (Draws.list hh i1 a D.l1i1 its.toArray) (Draws.tuple hh i2 b D.l2i2 its2.toArray) hz hTI hTO ⟨h1, p.isList⟩ ⟨h2, p2⟩ hl1 hl2 fun x1 x2 h' tk y1 y2 z' TO' st1 st2 hT hsz hk => ?_
    obtain ⟨h1', _⟩ := st1
    obtain ⟨h2', _⟩ := st2
    have e1 : x1 = u := by
      have y1' : its.toArray[i]? = some x1 := y1
      rw [List.getElem?_toArray, hu] at y1'
      exact (Option.some.inj y1').symm
    have e2 : x2 = u2 := by
      have y2' : its2.toArray[i]? = some x2 := y2
      rw [List.getElem?_toArray, hu2] at y2'
      exact (Option.some.inj y2').symm
    subst e1; subst e2
    refine ⟨_, rfl, wpAny_letOwnedTupleGo_zip (s := { s with heap := h', toks := tk }) z' fun h'' z'' sb => ?_⟩
    have hT2 : h''.get? s.heap.objs.size = some { cls := .type "tuple", data := .seq #[x1, x2] } := (sb.2 _ (Nat.ne_of_gt hzl)).trans hT
    have new : ObjOk X.prog X.w (upd H s.heap.objs.size (.tup [x, y])) h'' s.heap.objs.size (.tup [x, y]) :=
      ⟨by show 2 ≤ sizeLine; decide, [x1, x2], .cons ru (.cons ru2 .nil), ⟨_, hT2, rfl, _, rfl⟩⟩
    have I1 : Inv X pins σ (upd H s.heap.objs.size (.tup [x, y])) { s with heap := h'', toks := tk } :=
      I.turnedNew (t' := tk) (ch := [z, TI, TO, i1, i2]) (fun c o hb q => (sb.2 c (fun q' => hb (by simp [q']))).trans (hk c o (fun q' => hb (by simp [q'])) (fun q' => hb (by simp [q'])) (fun q' => hb (by simp [q'])) (fun q' => hb (by simp [q'])) q)) hf (Nat.le_refl _) new
    refine ⟨.ref s.heap.objs.size, _, I1, rfl, ⟨_, x, y, rfl, I.hok.fresh (Nat.le_refl _), rfl, fun l hl => by rw [I.list_inj hl hqx]; exact hx, fun l hl => by rw [I.tuple_inj hl hqy]; exact hy⟩, ⟨z'', ?_, ⟨x1, x2, ?_⟩, ?_, ?_⟩, fun c hcm => ?_⟩
    · exact (sb.2 _ D.TIz).trans (hk _ _ D.TIz D.TITO D.TIi1 D.TIi2 hTI)
    · exact (sb.2 _ D.TOz).trans TO'
    · exact h1'.at fun o q => (sb.2 _ D.i1z).trans q
    · exact h2'.at fun o q => (sb.2 _ D.i2z).trans q
    · have hlt : c < s.heap.objs.size := by
        have e' : c = z ∨ c = TI ∨ c = TO ∨ c = i1 ∨ c = i2 := by simpa using hcm
        rcases e' with q | q | q | q | q
        · rw [q]; exact hzl
        · rw [q]; exact Heap.lt_size hTI
        · rw [q]; exact Heap.lt_size hTO
        · rw [q]; obtain ⟨_, e1, _⟩ := h1; exact Heap.lt_size e1
        · rw [q]; obtain ⟨_, e2, _⟩ := h2; exact Heap.lt_size e2
      rw [upd_ne (Nat.ne_of_lt hlt)]
      exact (hf c hcm).1
  done := by
    intro X hP hw hK hc i pins s σ H E I hf st hg
    subst hP hw hK
    obtain ⟨hz, hTI, ⟨x0, y0, hTO⟩, h1, h2⟩ := st
    obtain ⟨xs, ys, hqx, hqy, hi1, hi2, hend⟩ := hg
    obtain ⟨its, rv, p, _⟩ := I.list hqx
    obtain ⟨its2, rv2, p2, _⟩ := I.tuple hqy
    have l1 := rv.length
    have l2 := rv2.length
    have hh : X.A.in1.handled = none := I.ok.hd hc
    exact wpAny_pyNext_zipD2_end (sep_of D) (Draws.list hh i1 a D.l1i1 its.toArray) (Draws.tuple hh i2 b D.l2i2 its2.toArray) hz hTI hTO ⟨h1, p.isList⟩ ⟨h2, p2⟩ (by simp; omega) (by simp; omega) (by simp; omega) fun h' tk hk => ⟨rfl, I.turnedL (t' := tk) (ch := [z, TI, TO, i1, i2]) (fun c o hb q =>
      hk c o (fun q' => hb (by simp [q'])) (fun q' => hb (by simp [q'])) (fun q' => hb (by simp [q'])) (fun q' => hb (by simp [q'])) q) hf⟩
  self := fun A i s Q E st h => wpAny_pyIter_zip st.1 h
def iZipLT (K : PySem.W.Frag) (ta : TA) : TI := fun σ H R => ta σ H fun vs H1 => ∃ a b xs ys, vs = [.ref a, .ref b] ∧ SqL K H1 a xs ∧ SqT K H1 b ys ∧ R (ItzLT K a b) H1
theorem pi_zipLT {X : Cx} {e e2 : Expr} {ta : TA} {p pos tpos : Pos} {elts : List Expr} {kk : Nat} (hg : Gl X "zip") (hm : X.mg "zip" = none) (ha : PA X [e, e2] ta)
    (hs : starEach [e, e2] X.env = (false, eval e X.env) :: starEach [e2] X.env := by rfl) (hpl : (backTo pos (starEach [e2] X.env)).any (·.1) = false := by rfl) :
    PI X (.Tuple elts kk tpos) (.Call (.Name "zip" p) [e, e2] [] pos) (iZipLT X.K ta) := by
  refine ⟨fun pins s σ H R I h => ?_⟩
  refine Call_ (ld_blt I hg hm PyProof.Rows.boot_zip (PyProof.Rows.callWith_type1 (thn (ha.run pos pins s σ H _ I h) fun us s1 ⟨vs, H1, I1, r1, q1⟩ => ?_) hs hpl))
  obtain ⟨a, b, xs, ys, ex, hqx, hqy, q⟩ := q1
  subst ex
  cases r1 with
  | cons r rr =>
    cases rr with
    | cons r' rr =>
      cases rr
      cases r
      cases r'
      have fresh5 : ∀ c, c ∈ [s1.heap.objs.size + 4, s1.heap.objs.size + 2, s1.heap.objs.size + 3, s1.heap.objs.size, s1.heap.objs.size + 1] → FpOk X pins H1 c := fun c hcm => by
        have e' : c = s1.heap.objs.size + 4 ∨ c = s1.heap.objs.size + 2 ∨ c = s1.heap.objs.size + 3 ∨ c = s1.heap.objs.size ∨ c = s1.heap.objs.size + 1 := by simpa using hcm
        have hle : s1.heap.objs.size ≤ c := by
          rcases e' with z | z | z | z | z
          · rw [z]; exact Nat.le_add_right _ _
          · rw [z]; exact Nat.le_add_right _ _
          · rw [z]; exact Nat.le_add_right _ _
          · rw [z]; exact Nat.le_refl _
          · rw [z]; exact Nat.le_add_right _ _
        exact I1.fpOk hle (I1.hok.fresh hle)
      obtain ⟨its, rv, p1, _⟩ := I1.list hqx
      obtain ⟨its2, rv2, p2, _⟩ := I1.tuple hqy
      obtain ⟨o2, ho2, _⟩ := id p2
      refine zip_begins2 (begins_list a its.toArray) (begins_tuple b its2.toArray) p1.isList p2 fun h' hz hTI hTO h1 h2 hsz hk => wpAny_pyIter_zip hz ?_
      have I2 : Inv X pins σ H1 { s1 with heap := h' } := I1.kept (t' := s1.toks) hk
      exact ⟨s1.heap.objs.size + 4, [s1.heap.objs.size + 4, s1.heap.objs.size + 2, s1.heap.objs.size + 3, s1.heap.objs.size, s1.heap.objs.size + 1], _, _, H1, rfl, I2, turn_zipLT (PySem.W.ktu_apart s1.heap.objs.size a b p1.lt (Heap.lt_size ho2)), ⟨hz, hTI, ⟨_, _, hTO⟩, ⟨_, h1, rfl, rfl⟩, ⟨_, h2, rfl, rfl⟩⟩, fresh5, q⟩
section
variable {X : Cx} {P : Program} {w : World} {K : PySem.W.Frag} {mg : Str → Option Value} {base : Heap} {N : List Str} {sc : Scope} {fn : Str → Bool} {k : Nat} {ρ : Env} {M : Mem} {ZI : List D → (Mem → Prop) → Mem → Prop} {tg a b iter : Expr} {pos p tpos : Pos} {elts : List Expr} {kk0 : Nat}
theorem src_zipLT {F0 : Hp} {a b : Addr} {us vs : List V} {xs ys : List D} (s1 : SqL K F0 a us) (q1 : Reps K F0 xs us) (s2 : SqT K F0 b vs) (q2 : Reps K F0 ys vs) : Src K (ItzLT K a b) F0 (zipD xs ys) RT := fun F H M le hs _ => by
  have s1' : SqL K H a us := (le.trans hs.le).sql s1
  have s2' : SqT K H b vs := (le.trans hs.le).sqt s2
  refine ⟨fun i d hd => ?_, ⟨us, vs, s1', s2', ?_⟩⟩
  · obtain ⟨x, y, hx, hy, rfl⟩ := zipD_get hd
    obtain ⟨u, hu, ru⟩ := q1.get hx
    obtain ⟨v, hv, rv⟩ := q2.get hy
    refine ⟨⟨us, vs, u, v, s1', s2', hu, hv⟩, fun z H' ⟨T, u', v', e1, hT, e2, g1, g2⟩ => ?_⟩
    have e3 : u = u' := Option.some.inj (hu.symm.trans (g1 us s1'))
    have e4 : v = v' := Option.some.inj (hv.symm.trans (g2 vs s2'))
    subst e3; subst e4; subst e2; subst e1
    have n2 := Nx.frz (o := .tup [u, v]) hs hT
    exact ⟨_, ⟨T, _, rfl, SqT.of upd_same, .cons ((ru.mono le).mono n2.st.fle) (.cons ((rv.mono le).mono n2.st.fle) .nil)⟩, n2⟩
  · have e : (zipD xs ys).length = min us.length vs.length := by unfold zipD; rw [List.length_zipWith, q1.length, q2.length]
    rw [e]
    omega
/-- zip(list, tuple) -/
theorem di_zipLT (B : Bd X P w K mg base N sc fn k) (hm : mg "zip" = none) (h : DE X a ρ M fun d M1 => DE X b ρ M1 fun d' M2 => ∃ xs ys, (d = .lst xs ∨ d = .lsq xs) ∧ d' = .tup ys ∧ ZI (zipD xs ys) RT M2) (hg : glB sc "zip" = true := by rfl) (ha : noStar a = true := by rfl) (hb : noStar b = true := by rfl) : DI X (.Tuple elts kk0 tpos) (.Call (.Name "zip" p) [a, b] [] pos) ρ M ZI :=
  DI.of (pi_zipLT (B.gl hg) (B.mgn hm) paS (star_of ha) (by rw [star_of hb]; rfl)) fun F H σ Q hs he kk => (da_two (ZL := fun es M2 => ∃ d d' xs ys, es = [d, d'] ∧ (d = .lst xs ∨ d = .lsq xs) ∧ d' = .tup ys ∧ ZI (zipD xs ys) RT M2) (h.imp fun d M1 h => DE.imp h fun d' M2 ⟨xs, ys, e, e', z⟩ => ⟨d, d', xs, ys, rfl, e, e', z⟩) ha hb) F H σ _ hs he fun us F1 H1 es M1 ⟨d, d', xs, ys, e0, e, e', z⟩ r n => by
    subst e0; subst e'
    obtain ⟨v, v', e1, r, r'⟩ := two_v r
    obtain ⟨a, us, e2, s1, q1⟩ := lst_sql e r
    obtain ⟨b, vs, e3, s2, q2⟩ := r'
    subst e2; subst e3
    exact ⟨a, b, us, vs, e1, n.hs.le.sql s1, n.hs.le.sqt s2, kk _ F1 H1 _ RT M1 z (src_zipLT s1 q1 s2 q2) n⟩
end
end DV

set_option Elab.async false
set_option linter.all false
set_option maxRecDepth 100000
set_option maxHeartbeats 4000000
/-! DV10: comprehensions of usual shapes. -/
namespace DV
open PySem PySem.Spec PyProof.Rows L2
section
variable {X : Cx} {P : Program} {w : World} {K : PySem.W.Frag} {mg : Str → Option Value} {base : Heap} {N : List Str} {sc : Scope} {fn : Str → Bool} {k : Nat} {ρ : Env} {M : Mem} {ZL : List D → Mem → Prop} {tg elt : Expr} {ifs : List Expr} {scope : Scope} {vs js : List Nat}
abbrev Bd' (X' : Cx) (P : Program) (w : World) (K : PySem.W.Frag) (mg : Str → Option Value) (base : Heap) (N : List Str) (scope sc : Scope) (k : Nat) : Prop := Bd X' P w K mg base N (relS scope sc) (fun x => scope.names.lookup x == some .cell) k
/-- one value for each item, nothing owned changed -/
theorem lc_map {α : Type} (xs : List α) (enc g : α → D) (ρ2 : α → Env) (hl : xs.length ≤ 1000000)
    (ht : ∀ x ∈ xs, ∀ X', Bd' X' P w K mg base N scope sc k → ∀ Zt : Env → Mem → Prop, Zt (ρ2 x) M → DG X' tg (enc x) (wipeD ρ vs) M js Zt)
    (hb : ∀ x ∈ xs, ∀ X', Bd' X' P w K mg base N scope sc k → ∀ Z : D → Mem → Prop, Z (g x) M → DE X' elt (ρ2 x) M Z) (q : ZL (xs.map g) M) : LcOk X P w K mg base N sc k scope tg elt [] vs js ρ (xs.map enc) RT M ZL := by
  refine ⟨by simpa using hl, fun i acc M2 => acc = (xs.take i).map g ∧ M2 = M, ⟨rfl, rfl⟩, fun i d acc M2 hd ⟨ea, em⟩ => ?_, fun acc M2 ⟨ea, em⟩ => ⟨trivial, ?_⟩⟩
  · subst em
    obtain ⟨x, hx, rfl⟩ : ∃ x, xs[i]? = some x ∧ enc x = d := by
      rw [List.getElem?_map] at hd
      cases e : xs[i]? with
      | none => rw [e] at hd; cases hd
      | some x => rw [e] at hd; exact ⟨x, rfl, Option.some.inj hd⟩
    have hm : x ∈ xs := List.mem_of_getElem? hx
    refine ⟨trivial, fun X' B' => ht x hm X' B' _ fun X' B' => ?_⟩
    refine ⟨fun _ X' B' => hb x hm X' B' _ ⟨?_, rfl⟩, fun h => nomatch h⟩
    rw [ea, List.take_add_one, hx, List.map_append]
    rfl
  · subst em
    rw [ea, List.length_map, List.take_length]
    exact q
/-- .. the target a name -/
theorem lc_map1 {α : Type} (j : Nat) {y : Str} {pos : Pos} (xs : List α) (enc g : α → D) (hl : xs.length ≤ 1000000) (hb : ∀ x ∈ xs, ∀ X', Bd' X' P w K mg base N scope sc k → ∀ Z : D → Mem → Prop, Z (g x) M → DE X' elt ((wipeD ρ vs).set j (some (enc x))) M Z) (q : ZL (xs.map g) M)
    (hj : N[j]? = some y := by rfl) (hloc : locB (relS scope sc) (fun x => scope.names.lookup x == some .cell) y = true := by rfl) : LcOk X P w K mg base N sc k scope (.Name y pos) elt [] vs [j] ρ (xs.map enc) RT M ZL :=
  lc_map xs enc g (fun x => (wipeD ρ vs).set j (some (enc x))) hl (fun x _ X' B' Zt z => dg_name B' j z (by simp) hj hloc) hb q
/-- .. the target a pair of names -/
theorem lc_map2 {α : Type} (j1 j2 : Nat) {y1 y2 : Str} {pos pos1 pos2 : Pos} {kq : Nat} (xs : List α) (e1 e2 g : α → D) (hl : xs.length ≤ 1000000) (hb : ∀ x ∈ xs, ∀ X', Bd' X' P w K mg base N scope sc k → ∀ Z : D → Mem → Prop, Z (g x) M → DE X' elt (((wipeD ρ vs).set j1 (some (e1 x))).set j2 (some (e2 x))) M Z) (q : ZL (xs.map g) M)
    (hj1 : N[j1]? = some y1 := by rfl) (hj2 : N[j2]? = some y2 := by rfl) (hloc1 : locB (relS scope sc) (fun x => scope.names.lookup x == some .cell) y1 = true := by rfl) (hloc2 : locB (relS scope sc) (fun x => scope.names.lookup x == some .cell) y2 = true := by rfl) : LcOk X P w K mg base N sc k scope (.Tuple [.Name y1 pos1, .Name y2 pos2] kq pos) elt [] vs [j1, j2] ρ (xs.map fun x => .tup [e1 x, e2 x]) RT M ZL :=
  lc_map xs (fun x => .tup [e1 x, e2 x]) g (fun x => ((wipeD ρ vs).set j1 (some (e1 x))).set j2 (some (e2 x))) hl (fun x _ X' B' Zt z => dg_tup B' (dgs_cons (dg_name B' j1 (dgs_cons (dg_name B' j2 (dgs_nil z) (by simp) hj2 hloc2)) (by simp) hj1 hloc1))) hb q
theorem zipD_map {α β : Type} (xs : List α) (ys : List β) (e1 : α → D) (e2 : β → D) : zipD (xs.map e1) (ys.map e2) = (xs.zip ys).map fun p => D.tup [e1 p.1, e2 p.2] := by
  unfold zipD
  rw [List.zipWith_map_left, List.zipWith_map_right, List.zip, List.map_zipWith]
/-- values for those items that pass a test -/
theorem lc_filt {α : Type} {c : Expr} (xs : List α) (enc g : α → D) (f : α → Bool) (ρ2 : α → Env) (hl : xs.length ≤ 1000000)
    (ht : ∀ x ∈ xs, ∀ X', Bd' X' P w K mg base N scope sc k → ∀ Zt : Env → Mem → Prop, Zt (ρ2 x) M → DG X' tg (enc x) (wipeD ρ vs) M js Zt)
    (hc : ∀ x ∈ xs, ∀ X', Bd' X' P w K mg base N scope sc k → ∀ Z : Bool → Mem → Prop, Z (f x) M → DT X' c (ρ2 x) M Z)
    (hb : ∀ x ∈ xs, f x = true → ∀ X', Bd' X' P w K mg base N scope sc k → ∀ Z : D → Mem → Prop, Z (g x) M → DE X' elt (ρ2 x) M Z) (q : ZL ((xs.filter f).map g) M) : LcOk X P w K mg base N sc k scope tg elt [c] vs js ρ (xs.map enc) RT M ZL := by
  refine ⟨by simpa using hl, fun i acc M2 => acc = ((xs.take i).filter f).map g ∧ M2 = M, ⟨rfl, rfl⟩, fun i d acc M2 hd ⟨ea, em⟩ => ?_, fun acc M2 ⟨ea, em⟩ => ⟨trivial, ?_⟩⟩
  · subst em
    obtain ⟨x, hx, rfl⟩ : ∃ x, xs[i]? = some x ∧ enc x = d := by
      rw [List.getElem?_map] at hd
      cases e : xs[i]? with
      | none => rw [e] at hd; cases hd
      | some x => rw [e] at hd; exact ⟨x, rfl, Option.some.inj hd⟩
    have hm : x ∈ xs := List.mem_of_getElem? hx
    refine ⟨trivial, fun X' B' => ht x hm X' B' _ fun X' B' => ?_⟩
    refine hc x hm X' B' _ ⟨fun h X' B' => hb x hm h X' B' _ ⟨?_, rfl⟩, fun h => ⟨?_, rfl⟩⟩
    · rw [ea, List.take_add_one, hx, List.filter_append, List.map_append]
      show _ = _ ++ List.map g (List.filter f [x])
      rw [List.filter_cons, if_pos h]
      rfl
    · rw [ea, List.take_add_one, hx, List.filter_append, List.map_append]
      show _ = _ ++ List.map g (List.filter f [x])
      rw [List.filter_cons, if_neg (by rw [h]; decide)]
      simp
  · subst em
    rw [ea, List.length_map, List.take_length]
    exact q
end
/-! ### the usual data -/
abbrev lI (xs : List Int) : D := .lst (xs.map .int)
abbrev tI (xs : List Int) : D := .tup (xs.map .int)
/-- tuples of tuples of ints -/
abbrev tTI (t : List (List Int)) : D := .tup (t.map fun r => tI r)
abbrev tTTI (ts : List (List (List Int))) : D := .tup (ts.map fun t => tTI t)
theorem at_map {α : Type} {xs : List α} {f : α → D} {j : Nat} {x : α} (h : xs[j]? = some x) : L2.atI (xs.map f) (j : Int) = some (f x) := L2.atI_nat (by rw [List.getElem?_map, h]; rfl)
end DV

set_option Elab.async false
set_option linter.all false
set_option maxRecDepth 100000
set_option maxHeartbeats 4000000
/-! DV11: comparison of data, great numbers, owned lists in loops, keywords. -/
namespace DV
open PySem PySem.Spec PyProof.Rows L2
mutual
def pdD : D → Option PyData
  | .non => some .none
  | .bl b => some (.bool b)
  | .int i => some (.int i)
  | .str x => some (.str x)
  | .lst ds => (pdDs ds).map PyData.list
  | .lsq ds => (pdDs ds).map PyData.list
  | .tup ds => (pdDs ds).map PyData.tuple
  | .loc _ => none
  | .ins _ _ _ => none
def pdDs : List D → Option (List PyData)
  | [] => some []
  | d :: ds => (pdD d).bind fun p => (pdDs ds).map fun q => p :: q
end
section
variable {K : PySem.W.Frag} {F H : Hp} {M : Mem}
mutual
theorem rep_dp (hs : Hs K F H M) : ∀ {d : D} {v : V} {p : PyData}, pdD d = some p → Rep K F d v → Dp K H v p
  | .non, v, p, h, r => by
    rw [show v = .non from r, ← Option.some.inj (show some PyData.none = some p from h)]
    exact .non
  | .bl b, v, p, h, r => by
    rw [show v = .bl b from r, ← Option.some.inj (show some (PyData.bool b) = some p from h)]
    exact .bl b
  | .int b, v, p, h, r => by
    rw [show v = .int b from r, ← Option.some.inj (show some (PyData.int b) = some p from h)]
    exact .int b
  | .str b, v, p, h, r => by
    rw [show v = .str b from r, ← Option.some.inj (show some (PyData.str b) = some p from h)]
    exact .str b
  | .lst ds, v, p, h, r => by
    obtain ⟨a, vs, e, s, q⟩ := r
    have h' : (pdDs ds).map PyData.list = some p := by rw [← h, pdD]
    cases e2 : pdDs ds with
    | none => rw [e2] at h'; cases h'
    | some ps =>
      rw [e2] at h'
      rw [e, ← Option.some.inj h']
      exact .lst (SqL.of (hs.le _ _ s)) (reps_dp hs e2 q)
  | .lsq ds, v, p, h, r => by
    obtain ⟨a, vs, e, s, q⟩ := r
    have h' : (pdDs ds).map PyData.list = some p := by rw [← h, pdD]
    cases e2 : pdDs ds with
    | none => rw [e2] at h'; cases h'
    | some ps =>
      rw [e2] at h'
      rw [e, ← Option.some.inj h']
      exact .lst (hs.le.sql s) (reps_dp hs e2 q)
  | .tup ds, v, p, h, r => by
    obtain ⟨a, vs, e, s, q⟩ := r
    have h' : (pdDs ds).map PyData.tuple = some p := by rw [← h, pdD]
    cases e2 : pdDs ds with
    | none => rw [e2] at h'; cases h'
    | some ps =>
      rw [e2] at h'
      rw [e, ← Option.some.inj h']
      exact .tup (hs.le.sqt s) (reps_dp hs e2 q)
  | .loc _, v, p, h, r => by rw [pdD] at h; cases h
  | .ins _ _ _, v, p, h, r => by rw [pdD] at h; cases h
theorem reps_dp (hs : Hs K F H M) : ∀ {ds : List D} {vs : List V} {ps : List PyData}, pdDs ds = some ps → Reps K F ds vs → DpAll K H vs ps
  | [], vs, ps, h, r => by
    rw [show vs = [] from r, ← Option.some.inj (show some [] = some ps by rw [← h, pdDs])]
    exact .nil
  | d :: ds, vs, ps, h, r => by
    obtain ⟨v, us, e, r1, r2⟩ := r
    have h' : ((pdD d).bind fun p => (pdDs ds).map fun q => p :: q) = some ps := by rw [← h, pdDs]
    cases e1 : pdD d with
    | none => rw [e1] at h'; cases h'
    | some p =>
      cases e2 : pdDs ds with
      | none => rw [e1, e2] at h'; cases h'
      | some q =>
        rw [e1, e2] at h'
        rw [e, ← Option.some.inj (show some (p :: q) = some ps from h')]
        exact .cons (rep_dp hs e1 r1) (reps_dp hs e2 r2)
end
theorem opd_eqD {Z : D → Mem → Prop} {x y : D} {d e : PyData} (hx : pdD x = some d) (hy : pdD y = some e) (h1 : SeqAt.shaped d = true) (h2 : SeqAt.shaped e = true) (h : Z (.bl (PyData.eqv d e)) M) : OpD K (rEqD K) x y M Z := fun F H Q v u hh r1 r2 kk =>
  ⟨d, e, rep_dp hh hx r1, rep_dp hh hy r2, h1, h2, kk _ F H _ M h rfl (Nx.refl hh)⟩
theorem opd_neD {Z : D → Mem → Prop} {x y : D} {d e : PyData} (hx : pdD x = some d) (hy : pdD y = some e) (h1 : SeqAt.shaped d = true) (h2 : SeqAt.shaped e = true) (h : Z (.bl (!PyData.eqv d e)) M) : OpD K (rNeD K) x y M Z := fun F H Q v u hh r1 r2 kk =>
  ⟨d, e, rep_dp hh hx r1, rep_dp hh hy r2, h1, h2, kk _ F H _ M h rfl (Nx.refl hh)⟩
end
section
variable {X : Cx} {P : Program} {w : World} {K : PySem.W.Frag} {mg : Str → Option Value} {base : Heap} {N : List Str} {sc : Scope} {fn : Str → Bool} {k : Nat} {ρ : Env} {M : Mem} {Z : D → Mem → Prop} {ZT : Bool → Mem → Prop} {ZI : List D → (Mem → Prop) → Mem → Prop} {ZL : List D → Mem → Prop} {tg a b iter elt : Expr} {pos p tpos : Pos} {elts : List Expr} {kk0 : Nat} {scope : Scope} {vs js : List Nat}
theorem Bd.u64 (B : Bd X P w K mg base N sc fn k) : X.A.units + 64 < cLine := by have := B.room.un; omega
theorem de_eqD (B : Bd X P w K mg base N sc fn k) (h : DE X a ρ M fun d1 M1 => DE X b ρ M1 fun d2 M2 => ∃ d e, pdD d1 = some d ∧ pdD d2 = some e ∧ SeqAt.shaped d = true ∧ SeqAt.shaped e = true ∧ Z (.bl (PyData.eqv d e)) M2) (hm : behindInMarks .Eq b = false := by first | exact nobehind _ (by decide) (by decide) | rfl) : DE X (.Compare a [.Eq] [b] pos) ρ M Z :=
  de_cmp (op_eqD B.u64) (h.imp fun _ _ h => DE.imp h fun _ _ ⟨d, e, h1, h2, s1, s2, z⟩ => opd_eqD h1 h2 s1 s2 z) hm
theorem dt_eqD (B : Bd X P w K mg base N sc fn k) (h : DE X a ρ M fun d1 M1 => DE X b ρ M1 fun d2 M2 => ∃ d e, pdD d1 = some d ∧ pdD d2 = some e ∧ SeqAt.shaped d = true ∧ SeqAt.shaped e = true ∧ ZT (PyData.eqv d e) M2) (hm : behindInMarks .Eq b = false := by first | exact nomark _ | rfl) : DT X (.Compare a [.Eq] [b] pos) ρ M ZT :=
  dt_cmp (op_eqD B.u64) (h.imp fun _ _ h => DE.imp h fun _ _ ⟨d, e, h1, h2, s1, s2, z⟩ => opd_eqD h1 h2 s1 s2 ⟨_, rfl, z⟩) hm
theorem dt_neD (B : Bd X P w K mg base N sc fn k) (h : DE X a ρ M fun d1 M1 => DE X b ρ M1 fun d2 M2 => ∃ d e, pdD d1 = some d ∧ pdD d2 = some e ∧ SeqAt.shaped d = true ∧ SeqAt.shaped e = true ∧ ZT (!PyData.eqv d e) M2) (hm : behindInMarks .NotEq b = false := by first | exact nomark _ | rfl) : DT X (.Compare a [.NotEq] [b] pos) ρ M ZT :=
  dt_cmp (op_neD B.u64) (h.imp fun _ _ h => DE.imp h fun _ _ ⟨d, e, h1, h2, s1, s2, z⟩ => opd_neD h1 h2 s1 s2 ⟨_, rfl, z⟩) hm
theorem de_mulW {a b : Expr} (h : DE X a ρ M fun d1 M1 => DE X b ρ M1 fun d2 M2 => ∃ i j, d1 = .int i ∧ d2 = .int j ∧ CMulW i j ∧ Z (.int (i * j)) M2) : DE X (.BinOp a .Mult b pos) ρ M Z :=
  de_op op_mulW (h.imp fun _ _ h => DE.imp h fun _ _ ⟨i, j, e1, e2, c, q⟩ => by subst e1; subst e2; exact opd_Ii c q)
theorem de_fdivW {a b : Expr} (h : DE X a ρ M fun d1 M1 => DE X b ρ M1 fun d2 M2 => ∃ i j, d1 = .int i ∧ d2 = .int j ∧ CDivW i j ∧ Z (.int (i / j)) M2) : DE X (.BinOp a .FloorDiv b pos) ρ M Z :=
  de_op op_fdivW (h.imp fun _ _ h => DE.imp h fun _ _ ⟨i, j, e1, e2, c, q⟩ => by subst e1; subst e2; exact opd_Ii c q)
theorem src_own2 {F0 : Hp} {l : Addr} {ds : List D} : Src K (Itl K l) F0 ds (fun M => (l, .lst ds) ∈ M) := fun F H M le hs hm => by
  obtain ⟨_, vs, e, r⟩ := hs.own _ hm
  have q : SqL K H l vs := SqL.of e
  refine ⟨fun i d hd => ?_, ⟨vs, q, by rw [r.length]; exact Nat.le_refl _⟩⟩
  obtain ⟨v, hv, rv⟩ := r.get hd
  refine ⟨⟨vs, v, q, hv⟩, fun x H' ⟨e, hx⟩ => ?_⟩
  subst e
  have e2 : v = x := Option.some.inj (hv.symm.trans (hx vs q))
  subst e2
  exact ⟨F, rv, Nx.refl hs⟩
/-- over an owned list, that stays as it is -/
theorem di_own (h : DE X iter ρ M fun d M1 => ∃ l ds, d = .loc l ∧ (l, .lst ds) ∈ M1 ∧ ZI ds (fun M => (l, .lst ds) ∈ M) M1) : DI X tg iter ρ M ZI :=
  DI.of (pi_list peS) fun F H σ Q hs he kk => h F H σ _ hs he fun v F1 H1 d M1 ⟨l, ds, e, hm, z⟩ r n => by
    subst e
    have e1 : v = .ref l := r
    obtain ⟨_, vs, e2, r2⟩ := n.hs.own _ hm
    exact ⟨l, e1, ⟨vs, SqL.of e2⟩, kk _ F1 H1 ds _ M1 z src_own2 n⟩
theorem src_zipO {F0 : Hp} {a b : Addr} {xs ys : List D} : Src K (Itz K a b) F0 (zipD xs ys) (fun M => (a, .lst xs) ∈ M ∧ (b, .lst ys) ∈ M) := fun F H M le hs ⟨m1, m2⟩ => by
  obtain ⟨_, us, e1, q1⟩ := hs.own _ m1
  obtain ⟨_, vs, e2, q2⟩ := hs.own _ m2
  have s1' : SqL K H a us := SqL.of e1
  have s2' : SqL K H b vs := SqL.of e2
  refine ⟨fun i d hd => ?_, ⟨us, vs, s1', s2', by unfold zipD; rw [List.length_zipWith, q1.length, q2.length]; omega⟩⟩
  obtain ⟨x, y, hx, hy, rfl⟩ := zipD_get hd
  obtain ⟨u, hu, ru⟩ := q1.get hx
  obtain ⟨v, hv, rv⟩ := q2.get hy
  refine ⟨⟨us, vs, u, v, s1', s2', hu, hv⟩, fun z H' ⟨T, u', v', e1, hT, e2, g1, g2⟩ => ?_⟩
  have e3 : u = u' := Option.some.inj (hu.symm.trans (g1 us s1'))
  have e4 : v = v' := Option.some.inj (hv.symm.trans (g2 vs s2'))
  subst e3; subst e4; subst e2; subst e1
  have n2 := Nx.frz (o := .tup [u, v]) hs hT
  exact ⟨_, ⟨T, _, rfl, SqT.of upd_same, .cons (ru.mono n2.st.fle) (.cons (rv.mono n2.st.fle) .nil)⟩, n2⟩
/-- zip of two owned lists -/
theorem di_zipO (B : Bd X P w K mg base N sc fn k) (hm : mg "zip" = none) (h : DE X a ρ M fun d M1 => DE X b ρ M1 fun d' M2 => ∃ l m xs ys, d = .loc l ∧ d' = .loc m ∧ (l, .lst xs) ∈ M2 ∧ (m, .lst ys) ∈ M2 ∧ ZI (zipD xs ys) (fun M => (l, .lst xs) ∈ M ∧ (m, .lst ys) ∈ M) M2) (hg : glB sc "zip" = true := by rfl) (ha : noStar a = true := by rfl) (hb : noStar b = true := by rfl) : DI X (.Tuple elts kk0 tpos) (.Call (.Name "zip" p) [a, b] [] pos) ρ M ZI :=
  DI.of (pi_zip (B.gl hg) (B.mgn hm) paS (star_of ha) (by rw [star_of hb]; rfl)) fun F H σ Q hs he kk => (da_two (ZL := fun es M2 => ∃ d d' l m xs ys, es = [d, d'] ∧ d = .loc l ∧ d' = .loc m ∧ (l, .lst xs) ∈ M2 ∧ (m, .lst ys) ∈ M2 ∧ ZI (zipD xs ys) (fun M => (l, .lst xs) ∈ M ∧ (m, .lst ys) ∈ M) M2) (h.imp fun d M1 h => DE.imp h fun d' M2 ⟨l, m, xs, ys, e, e', z⟩ => ⟨d, d', l, m, xs, ys, rfl, e, e', z⟩) ha hb) F H σ _ hs he fun us F1 H1 es M1 ⟨d, d', l, m, xs, ys, e0, e, e', m1, m2, z⟩ r n => by
    subst e0; subst e; subst e'
    obtain ⟨v, v', e1, r, r'⟩ := two_v r
    have e2 : v = .ref l := r
    have e3 : v' = .ref m := r'
    subst e2; subst e3
    obtain ⟨_, us, h1, q1⟩ := n.hs.own _ m1
    obtain ⟨_, vs, h2, q2⟩ := n.hs.own _ m2
    exact ⟨l, m, us, vs, e1, SqL.of h1, SqL.of h2, kk _ F1 H1 _ _ M1 z src_zipO n⟩
/-- a comprehension by an invariant -/
theorem lc_inv {α : Type} (xs : List α) (enc : α → D) (ρ2 : α → Env) (R : Mem → Prop) (I : Nat → List D → Mem → Prop) (hl : xs.length ≤ 1000000)
    (ht : ∀ x ∈ xs, ∀ M2 X', Bd' X' P w K mg base N scope sc k → ∀ Zt : Env → Mem → Prop, Zt (ρ2 x) M2 → DG X' tg (enc x) (wipeD ρ vs) M2 js Zt)
    (hR : ∀ i acc M2, I i acc M2 → R M2)
    (hb : ∀ i x acc M2, xs[i]? = some x → I i acc M2 → ∀ X', Bd' X' P w K mg base N scope sc k → DE X' elt (ρ2 x) M2 (fun d M3 => I (i + 1) (acc ++ [d]) M3))
    (h0 : I 0 [] M) (q : ∀ ds M2, I xs.length ds M2 → ZL ds M2) : LcOk X P w K mg base N sc k scope tg elt [] vs js ρ (xs.map enc) R M ZL := by
  refine ⟨by simpa using hl, I, h0, fun i d acc M2 hd hi => ?_, fun acc M2 hi => ⟨hR _ _ _ hi, q acc M2 (by simpa using hi)⟩⟩
  obtain ⟨x, hx, rfl⟩ : ∃ x, xs[i]? = some x ∧ enc x = d := by
    rw [List.getElem?_map] at hd
    cases e : xs[i]? with
    | none => rw [e] at hd; cases hd
    | some x => rw [e] at hd; exact ⟨x, rfl, Option.some.inj hd⟩
  exact ⟨hR _ _ _ hi, fun X' B' => ht x (List.mem_of_getElem? hx) M2 X' B' _ fun X' B' => ⟨fun _ X' B' => hb i x acc M2 hx hi X' B', fun h => nomatch h⟩⟩
/-- .. the target a name -/
theorem lc_inv1 {α : Type} (j : Nat) {y : Str} {pos : Pos} (xs : List α) (enc : α → D) (R : Mem → Prop) (I : Nat → List D → Mem → Prop) (hl : xs.length ≤ 1000000)
    (hR : ∀ i acc M2, I i acc M2 → R M2)
    (hb : ∀ i x acc M2, xs[i]? = some x → I i acc M2 → ∀ X', Bd' X' P w K mg base N scope sc k → DE X' elt ((wipeD ρ vs).set j (some (enc x))) M2 (fun d M3 => I (i + 1) (acc ++ [d]) M3))
    (h0 : I 0 [] M) (q : ∀ ds M2, I xs.length ds M2 → ZL ds M2)
    (hj : N[j]? = some y := by rfl) (hloc : locB (relS scope sc) (fun x => scope.names.lookup x == some .cell) y = true := by rfl) : LcOk X P w K mg base N sc k scope (.Name y pos) elt [] vs [j] ρ (xs.map enc) R M ZL :=
  lc_inv xs enc (fun x => (wipeD ρ vs).set j (some (enc x))) R I hl (fun x _ M2 X' B' Zt z => dg_name B' j z (by simp) hj hloc) hR hb h0 q
/-- values that are drawn: each keeps p, the rest keeps I -/
theorem lc_draw1 {α : Type} (j : Nat) {y : Str} {pos : Pos} (xs : List α) (enc : α → D) (I : Mem → Prop) (p : D → Prop) (hl : xs.length ≤ 1000000)
    (hb : ∀ x M2, I M2 → ∀ X', Bd' X' P w K mg base N scope sc k → DE X' elt ((wipeD ρ vs).set j (some (enc x))) M2 (fun d M3 => p d ∧ I M3))
    (h0 : I M) (q : ∀ ds M2, ds.length = xs.length → (∀ d ∈ ds, p d) → I M2 → ZL ds M2)
    (hj : N[j]? = some y := by rfl) (hloc : locB (relS scope sc) (fun x => scope.names.lookup x == some .cell) y = true := by rfl) : LcOk X P w K mg base N sc k scope (.Name y pos) elt [] vs [j] ρ (xs.map enc) RT M ZL :=
  lc_inv1 j xs enc RT (fun i acc M2 => acc.length = i ∧ (∀ d ∈ acc, p d) ∧ I M2) hl (fun _ _ _ _ => trivial)
    (fun i x acc M2 hx ⟨h1, h2, h3⟩ X' B' => (hb x M2 h3 X' B').imp fun d M3 ⟨pd, im⟩ => ⟨by simp [h1], fun e he => by
      rcases List.mem_append.mp he with z | z
      · exact h2 e z
      · rw [List.mem_singleton.mp z]; exact pd, im⟩)
    ⟨rfl, fun _ h => (nomatch h), h0⟩ (fun ds M2 ⟨h1, h2, h3⟩ => q ds M2 h1 h2 h3) hj hloc
end
/-- values of one kind -/
theorem all_enc {α : Type} {enc : α → D} {q : α → Prop} : ∀ {ds : List D}, (∀ d ∈ ds, ∃ v, d = enc v ∧ q v) → ∃ xs : List α, ds = xs.map enc ∧ ∀ v ∈ xs, q v
  | [], _ => ⟨[], rfl, fun _ h => nomatch h⟩
  | d :: ds, h => by
    obtain ⟨v, e, hv⟩ := h d List.mem_cons_self
    obtain ⟨xs, e2, hx⟩ := all_enc fun d' h' => h d' (List.mem_cons_of_mem _ h')
    refine ⟨v :: xs, by rw [e, e2]; rfl, fun u hu => ?_⟩
    rcases List.mem_cons.mp hu with z | z
    · rw [z]; exact hv
    · exact hx u z
def swap2 {α : Type} (_ : List α) : List α → List α
  | [a, b] => [b, a]
  | l => l
section
variable {P : Program} {w : World} {K : PySem.W.Frag} {mg : Str → Option Value} {base : Heap}
/-- a def of two parameters, called by name the other way round -/
theorem kwD_swap {x qual a b : Str} {st : Stmt} {f : Addr} {fd : FuncData} {N ps : List Str} {k : Nat} {C : Ct} (F : Fun K x qual st f fd) (hm : mg x = some (.ref f)) (S : FnScope N ps (defScope st)) (hC : ∀ ds M Pq, C ds M Pq → ds.length = ps.length)
    (hb : ∀ X, Bd X P w K mg base N (defScope st) (fun _ => true) k → ∀ ds M Pq, C ds M Pq → DSs X (defBody st) (startD N ds) M ⟨fun _ M' => Pq .non M', Pq, fun _ _ => False, fun _ _ => False⟩)
    (hbi : ∀ (kV doc pm : Value) (an : Option Addr) (cdv ct : Value) (u v : Value), bindArgs (PySem.W.fnOf x qual (defArgs st) (defBody st) (defScope st) .none kV doc pm an cdv ct) ⟨[], [(a, u), (b, v)]⟩ = pure (ps.zip [v, u])) : KwD P w K mg base (k + 1) x ps C 0 [a, b] swap2 := by
  refine ⟨f, fd, swap2, swap2, fn_okD F S hC hb, ⟨fun s us ws _ l1 l2 => ?_, fun {vs us zs ws} r1 r2 => ?_⟩, hm, F.kp, fun F ds vs es us r1 r2 => ?_⟩
  · obtain ⟨oc, od, kV, doc, pm, an, cdv, ct, osl, rfl, lk, hcd⟩ := F.ex
    match us, ws, l1, l2 with
    | [], [u, v], _, _ => exact .of_eq (hbi kV doc pm an cdv ct u v)
  · cases r2 with
    | nil => exact .nil
    | cons h1 t1 =>
      cases t1 with
      | nil => exact .cons h1 .nil
      | cons h2 t2 =>
        cases t2 with
        | nil => exact .cons h2 (.cons h1 .nil)
        | cons h3 t3 => exact .cons h1 (.cons h2 (.cons h3 t3))
  · match es, us, r2 with
    | [], us, e => rw [show us = [] from e]; exact .nil
    | [d], _, ⟨v, r, e, h1, h2⟩ =>
      rw [e, show r = [] from h2]
      exact .cons h1 .nil
    | [d, d'], _, ⟨v, r, e, h1, v', r', e', h1', h2⟩ =>
      rw [e, e', show r' = [] from h2]
      exact .cons h1' (.cons h1 .nil)
    | d :: d' :: d'' :: t, _, ⟨v, r, e, h1, v', r', e', h1', v'', r'', e'', h1'', h2⟩ =>
      rw [e, e', e'']
      exact .cons h1 (.cons h1' (.cons h1'' h2))
end
end DV

set_option Elab.async false
set_option linter.all false
set_option maxRecDepth 100000
set_option maxHeartbeats 4000000
/-! DV12: more statements. -/
namespace DV
open PySem PySem.Spec PyProof.Rows L2
section
variable {X : Cx} {P : Program} {w : World} {K : PySem.W.Frag} {mg : Str → Option Value} {base : Heap} {N : List Str} {sc : Scope} {fn : Str → Bool} {k : Nat} {ρ : Env} {M : Mem} {Z : DEnds} {e : Expr} {pos : Pos}
theorem sw_env {e : Expr} {x : Str} {pos' : Pos} {l : Nat} {env : PySem.Env} (h : env.scope = sc) : swapsWith e (some (.Name x pos')) l env = swapsWith e (some (.Name x pos')) l (envS sc) := by
  unfold swapsWith Env.kindOf Env.blockKind
  rw [h]
  rfl
/-- name = [..], the name captured by the comprehension -/
theorem ds_setC (B : Bd X P w K mg base N sc fn k) (i : Nat) {x : Str} {pos' : Pos} (h : DE X e ρ M fun d M1 => Z.nx (ρ.set i (some d)) M1) (hi : N[i]? = some x := by rfl) (hl : locB sc fn x = true := by rfl) (hc : swapsWith e (some (.Name x pos')) pos.line (envS sc) = pure false := by rfl) : DS X (.Assign [.Name x pos'] e pos) ρ M Z :=
  DS.of (ps_set B.nD (B.ix hi) (B.loc hl).1 peS ((sw_env B.hsc).trans hc) (B.loc hl).2) fun F H σ E hs he q1 q2 q3 q4 => h F H σ _ hs he fun v F1 H1 d M1 z r n => q1 F1 H1 _ _ M1 z ((he.mono n.st.fle).set i r) n
theorem ds_par3 (B : Bd X P w K mg base N sc fn k) (i j l : Nat) {x y z : Str} {a b c : Expr} {px py pz pt pt2 : Pos} {kt k2} (h : DE X a ρ M fun d M1 => DE X b ρ M1 fun d' M2 => DE X c ρ M2 fun d'' M3 => Z.nx (((ρ.set i (some d)).set j (some d')).set l (some d'')) M3)
    (hw : swappedStores [.Tuple [.Name x px, .Name y py, .Name z pz] kt pt] (.Tuple [a, b, c] k2 pt2) (envS sc) = pure (some [x, y, z]) := by rfl)
    (hi : N[i]? = some x := by rfl) (hj : N[j]? = some y := by rfl) (hl : N[l]? = some z := by rfl) (hij : i ≠ j := by decide) (hil : i ≠ l := by decide) (hjl : j ≠ l := by decide) (hx : sc.names.lookup x = some .local := by rfl) (hy : sc.names.lookup y = some .local := by rfl) (hz : sc.names.lookup z = some .local := by rfl)
    (ha : noStar a = true := by rfl) (hb : noStar b = true := by rfl) (hc : noStar c = true := by rfl) :
    DS X (.Assign [.Tuple [.Name x px, .Name y py, .Name z pz] kt pt] (.Tuple [a, b, c] k2 pt2) pos) ρ M Z :=
  DS.of (ps_par3 B.calm B.nD (B.ix hi) (B.ix hj) (B.ix hl) hij hil hjl (by rw [B.hsc]; exact hx) (by rw [B.hsc]; exact hy) (by rw [B.hsc]; exact hz) paS ((sws_env B.hsc).trans hw) rfl) fun F H σ E hs he q1 q2 q3 q4 =>
    (da_cons (ZL := fun ds M2 => ∃ d d' d'', ds = [d, d', d''] ∧ Z.nx (((ρ.set i (some d)).set j (some d')).set l (some d'')) M2) (h.imp fun d M1 h => da_two (h.imp fun d' M2 h => DE.imp h fun d'' M3 z => ⟨d, d', d'', rfl, z⟩) hb hc) ha) F H σ _ hs he fun vs F1 H1 ds M1 ⟨d, d', d'', e, z⟩ r n => by
      subst e
      obtain ⟨v, rr, e, r, r'⟩ := r
      obtain ⟨v', v'', e', s', s''⟩ := two_v r'
      subst e'
      exact ⟨v, v', v'', e, q1 F1 H1 _ _ M1 z ((((he.mono n.st.fle).set i r).set j s').set l s'') n⟩
theorem cac0 {C : Ct} {ds : List D} {Zd : D → Mem → Prop} (h : C ds [] fun d A' => Zd d (A' ++ M)) : CaC C ds M Zd := ⟨[], M, _, List.Perm.refl _, h, fun _ _ q => q⟩
theorem cacH {C : Ct} {ds : List D} {A R : Mem} {Zd : D → Mem → Prop} (h : C ds A fun d A' => Zd d (A' ++ R)) : CaC C ds (A ++ R) Zd := ⟨A, R, _, List.Perm.refl _, h, fun _ _ q => q⟩
end
/-- a name of the module that stands for a plain value -/
def Cn (mg : Str → Option Value) (x : Str) (v : V) : Prop := ∃ u, mg x = some u ∧ RelV v u
theorem absI (i : Int) : (if i < 0 then -i else i) = (i.natAbs : Int) := by split <;> omega
theorem getD_some {l : List Int} {p : Nat} (h : p < l.length) : l[p]? = some (l.getD p 0) := by
  rw [List.getD_eq_getElem?_getD, List.getElem?_eq_getElem h]
  rfl
theorem at_int {l : List Int} {p : Nat} (h : p < l.length) : L2.atI (l.map D.int) (p : Int) = some (.int (l.getD p 0)) := at_map (f := D.int) (getD_some h)
theorem at0 {α : Type} {d : α} {ds : List α} : L2.atI (d :: ds) 0 = some d := L2.atI_nat (j := 0) rfl
theorem at1 {α : Type} {c d : α} {ds : List α} : L2.atI (c :: d :: ds) 1 = some d := L2.atI_nat (j := 1) rfl
theorem at2 {α : Type} {b c d : α} {ds : List α} : L2.atI (b :: c :: d :: ds) 2 = some d := L2.atI_nat (j := 2) rfl
theorem at3 {α : Type} {a b c d : α} {ds : List α} : L2.atI (a :: b :: c :: d :: ds) 3 = some d := L2.atI_nat (j := 3) rfl
theorem pd_ints : ∀ xs : List Int, pdDs (xs.map D.int) = some (xs.map PyData.int)
  | [] => by rw [List.map_nil, pdDs]; rfl
  | x :: xs => by rw [List.map_cons, pdDs, pd_ints xs, pdD]; rfl
theorem pd_strs : ∀ xs : List Str, pdDs (xs.map D.str) = some (xs.map PyData.str)
  | [] => by rw [List.map_nil, pdDs]; rfl
  | x :: xs => by rw [List.map_cons, pdDs, pd_strs xs, pdD]; rfl
end DV

set_option Elab.async false
set_option linter.all false
set_option maxRecDepth 100000
set_option maxHeartbeats 4000000
/-! DV13: more statements and calls. -/
namespace DV
open PySem PySem.Spec PyProof.Rows L2
section
variable {X : Cx} {P : Program} {w : World} {K : PySem.W.Frag} {mg : Str → Option Value} {base : Heap} {N : List Str} {sc : Scope} {fn : Str → Bool} {k : Nat} {ρ : Env} {M : Mem} {Z : DEnds} {e a b tg : Expr} {pos p2 : Pos} {st : Stmt} {rest : List Stmt}
theorem DS.imp {Z' : DEnds} (h : DS X st ρ M Z) (h1 : ∀ ρ M, Z.nx ρ M → Z'.nx ρ M) (h2 : ∀ d M, Z.rt d M → Z'.rt d M) (h3 : ∀ ρ M, Z.bk ρ M → Z'.bk ρ M) (h4 : ∀ ρ M, Z.ct ρ M → Z'.ct ρ M) : DS X st ρ M Z' :=
  fun F H σ E hs he q1 q2 q3 q4 => h F H σ E hs he (fun F' H' σ' ρ' M' z e n => q1 F' H' σ' ρ' M' (h1 _ _ z) e n) (fun v F' H' d M' z r n => q2 v F' H' d M' (h2 _ _ z) r n) (fun F' H' σ' ρ' M' z e n => q3 F' H' σ' ρ' M' (h3 _ _ z) e n) (fun F' H' σ' ρ' M' z e n => q4 F' H' σ' ρ' M' (h4 _ _ z) e n)
/-- a statement with a condition between it and the rest -/
theorem ds_mid (I : Env → Mem → Prop) (h1 : DS X st ρ M { Z with nx := I }) (h2 : ∀ ρ1 M1, I ρ1 M1 → DSs X rest ρ1 M1 Z) : DSs X (st :: rest) ρ M Z := dss_cons (DS.imp h1 h2 (fun _ _ z => z) (fun _ _ z => z) (fun _ _ z => z))
theorem cac1 {C : Ct} {ds : List D} {x : Addr × MO} {R : Mem} {Zd : D → Mem → Prop} (h : C ds [x] fun d A' => Zd d (A' ++ R)) : CaC C ds (x :: R) Zd := ⟨[x], R, _, List.Perm.refl _, h, fun _ _ q => q⟩
/-- the thing handed over stands last -/
theorem cacL {C : Ct} {ds : List D} {x : Addr × MO} {R : Mem} {Zd : D → Mem → Prop} (h : C ds [x] fun d A' => Zd d (A' ++ R)) : CaC C ds (R ++ [x]) Zd := ⟨[x], R, _, List.perm_append_comm, h, fun _ _ q => q⟩
/-- o[i] = [..] -/
theorem ds_asgC {js : List Nat} (B : Bd X P w K mg base N sc fn k) {elt : Expr} {gs : List Comprehension} {scope : Scope} (h : DE X (.ListComp elt gs scope pos) ρ M fun d M1 => DG X (.Subscript a b p2) d ρ M1 js fun ρ2 M2 => Z.nx ρ2 M2) {spos : Pos} : DS X (.Assign [.Subscript a b p2] (.ListComp elt gs scope pos) spos) ρ M Z :=
  DS.of (ps_asg peS pgS (by rfl) (by rfl) (by rfl)) fun F H σ E hs he q1 q2 q3 q4 => h F H σ _ hs he fun v F1 H1 d M1 g r n => g F1 H1 σ v _ n.hs (he.mono n.st.fle) r fun σ2 F2 H2 ρ2 M2 z e2 n2 _ _ => q1 F2 H2 σ2 ρ2 M2 z e2 (n.trans n2)
theorem de_pow {a b : Expr} {Zd : D → Mem → Prop} (h : DE X a ρ M fun d1 M1 => DE X b ρ M1 fun d2 M2 => ∃ i j, d1 = .int i ∧ d2 = .int j ∧ CPow i j ∧ Zd (.int (i ^ j.toNat)) M2) : DE X (.BinOp a .Pow b pos) ρ M Zd :=
  de_op op_pow (h.imp fun _ _ h => DE.imp h fun _ _ ⟨i, j, e1, e2, c, q⟩ => by subst e1; subst e2; exact opd_Ii c q)
end
/-- what is owned is let go behind an expression -/
theorem de_less {X : Cx} {e : Expr} {ρ : Env} {M : Mem} {Z : D → Mem → Prop} (h : DE X e ρ M fun d M' => ∃ M1, M1.Sublist M' ∧ Z d M1) : DE X e ρ M Z := fun F H σ Q hs he q => h F H σ Q hs he fun v F' H' d M' ⟨M1, s, p⟩ r n => q v F' H' d M1 p r (n.trans (Nx.drop n.hs s))
theorem map_set {α β : Type} (f : α → β) (l : List α) (i : Nat) (x : α) : (l.map f).set i (f x) = (l.set i x).map f := by
  rw [List.map_set]
end DV

set_option Elab.async false
set_option linter.all false
set_option maxRecDepth 100000
set_option maxHeartbeats 4000000
/-! K53m: the plain law of lines, reduced rows and the search in the order of rows. -/
namespace K53
def dotL : List Int → List Int → Int
  | x :: xs, g :: gs => x * g + dotL xs gs
  | [], _ => 0
  | _ :: _, [] => 0
theorem dotL_nr (x : List Int) : dotL x [] = 0 := by cases x <;> rfl
theorem dotL_zip : ∀ xs gs : List Int, ((xs.zip gs).map fun p => p.1 * p.2).sum = dotL xs gs
  | [], gs => by simp [dotL]
  | x :: xs, [] => by simp [dotL]
  | x :: xs, g :: gs => by simp [dotL, dotL_zip xs gs]
theorem dotL_app : ∀ (a b g h : List Int), a.length = g.length → dotL (a ++ b) (g ++ h) = dotL a g + dotL b h
  | [], b, [], h, _ => by simp [dotL]
  | [], b, _ :: _, h, e => by simp at e
  | _ :: _, b, [], h, e => by simp at e
  | x :: a, b, y :: g, h, e => by
    have ih := dotL_app a b g h (by simpa using e)
    simp only [List.cons_append, dotL, ih]
    omega
theorem dotL_neg : ∀ (a g : List Int), dotL a (g.map fun v => -v) = -dotL a g
  | [], g => by simp [dotL]
  | _ :: _, [] => by simp [dotL]
  | x :: a, y :: g => by
    have ih := dotL_neg a g
    simp only [List.map_cons, dotL, ih]
    rw [Int.mul_neg]
    omega
def comb (p q : Int) (r o : List Int) : List Int := List.zipWith (fun a b => a * p - b * q) r o
theorem comb_len {p q : Int} {r o : List Int} (h : r.length = o.length) : (comb p q r o).length = r.length := by simp [comb, h]
theorem dotL_comb (p q : Int) : ∀ (r o g : List Int), r.length = o.length → dotL (comb p q r o) g = dotL r g * p - dotL o g * q
  | [], [], g, _ => by simp [comb, dotL]
  | [], _ :: _, _, h => by simp at h
  | _ :: _, [], _, h => by simp at h
  | a :: r, b :: o, [], _ => by simp [comb, dotL]
  | a :: r, b :: o, c :: g, h => by
    have ih := dotL_comb p q r o g (by simpa using h)
    simp only [comb] at ih
    simp only [comb, List.zipWith_cons_cons, dotL, ih]
    grind
def col (t : List (List Int)) (j : Nat) : List Int := t.map fun r => r.getD j 0
def movedL (xs : List Int) (t : List (List Int)) : List Int := (List.range t.length).map fun j => dotL xs (col t j)
theorem movedL_len (xs : List Int) (t : List (List Int)) : (movedL xs t).length = t.length := by simp [movedL]
theorem comb_map {α : Type} (p q : Int) (f g : α → Int) : ∀ l : List α, comb p q (l.map f) (l.map g) = l.map fun j => f j * p - g j * q
  | [] => rfl
  | x :: l => by
    have := comb_map p q f g l
    simp only [comb] at this
    simp [comb, this]
theorem movedL_comb {p q : Int} {r o : List Int} {t : List (List Int)} (h : r.length = o.length) : movedL (comb p q r o) t = comb p q (movedL r t) (movedL o t) := by
  unfold movedL
  rw [comb_map]
  exact List.map_congr_left fun j _ => dotL_comb p q r o _ h
theorem comb_app {p q : Int} {a b c d : List Int} (h : a.length = c.length) : comb p q (a ++ b) (c ++ d) = comb p q a c ++ comb p q b d := List.zipWith_append h
theorem comb_take {p q : Int} {r o : List Int} (n : Nat) : (comb p q r o).take n = comb p q (r.take n) (o.take n) := List.take_zipWith
theorem comb_drop {p q : Int} {r o : List Int} (n : Nat) : (comb p q r o).drop n = comb p q (r.drop n) (o.drop n) := List.drop_zipWith
/-- a whole-numbered linear form -/
def Lin (N : Nat) (f : List Int → Int) : Prop := ∀ (p q : Int) (r o : List Int), r.length = N → o.length = N → f (comb p q r o) = f r * p - f o * q
theorem lin_dot (N : Nat) (g : List Int) : Lin N fun x => dotL x g := fun p q r o h1 h2 => dotL_comb p q r o g (h1.trans h2.symm)
theorem comb_get {p q : Int} {r o : List Int} (h : r.length = o.length) (j : Nat) : (comb p q r o).getD j 0 = r.getD j 0 * p - o.getD j 0 * q := by
  by_cases hj : j < r.length
  · have hj2 : j < o.length := by omega
    unfold comb
    rw [List.getD_eq_getElem?_getD, List.getD_eq_getElem?_getD, List.getD_eq_getElem?_getD, List.getElem?_zipWith, List.getElem?_eq_getElem hj, List.getElem?_eq_getElem hj2]
    rfl
  · have hj2 : ¬ j < o.length := by omega
    unfold comb
    rw [List.getD_eq_getElem?_getD, List.getD_eq_getElem?_getD, List.getD_eq_getElem?_getD, List.getElem?_zipWith, List.getElem?_eq_none (by omega), List.getElem?_eq_none (by omega)]
    simp
theorem lin_get (N j : Nat) : Lin N fun x => x.getD j 0 := fun p q r o h1 h2 => comb_get (h1.trans h2.symm) j
theorem Lin.zero {N : Nat} {f : List Int → Int} (hf : Lin N f) {z : List Int} (hz : z.length = N) (h0 : ∀ v ∈ z, v = 0) : f z = 0 := by
  have e : comb 0 0 z z = z := by
    have := comb_map 0 0 (fun v : Int => v) (fun v : Int => v) z
    simp only [List.map_id'] at this
    rw [this]
    conv => rhs; rw [← List.map_id' z]
    exact List.map_congr_left fun v hv => by rw [h0 v hv]; rfl
  have := hf 0 0 z z hz hz
  rw [e] at this
  simpa using this
theorem Lin.div {N : Nat} {f : List Int → Int} (hf : Lin N f) {g : Int} {r : List Int} (hr : r.length = N) (hg : ∀ v ∈ r, g ∣ v) : f r = f (r.map (· / g)) * g := by
  have e : comb g 0 (r.map (· / g)) (r.map (· / g)) = r := by
    rw [comb_map]
    conv => rhs; rw [← List.map_id' r]
    exact List.map_congr_left fun v hv => by rw [Int.ediv_mul_cancel (hg v hv)]; simp
  have := hf g 0 (r.map (· / g)) (r.map (· / g)) (by simpa using hr) (by simpa using hr)
  rw [e] at this
  simpa using this
/-! reduced rows -/
def gcdF (g0 : Nat) (r : List Int) : Nat := r.foldl (fun g v => Nat.gcd g v.natAbs) g0
theorem gcdF_dvd : ∀ (r : List Int) (g0 : Nat), gcdF g0 r ∣ g0 ∧ ∀ v ∈ r, gcdF g0 r ∣ v.natAbs
  | [], g0 => ⟨Nat.dvd_refl _, fun _ h => nomatch h⟩
  | x :: r, g0 => by
    obtain ⟨h1, h2⟩ := gcdF_dvd r (Nat.gcd g0 x.natAbs)
    refine ⟨Nat.dvd_trans h1 (Nat.gcd_dvd_left _ _), fun v hv => ?_⟩
    rcases List.mem_cons.mp hv with z | z
    · rw [z]; exact Nat.dvd_trans h1 (Nat.gcd_dvd_right _ _)
    · exact h2 v z
def gcdA (r : List Int) : Nat := gcdF 0 r
theorem gcdA_dvd {r : List Int} {v : Int} (h : v ∈ r) : (gcdA r : Int) ∣ v := Int.ofNat_dvd_left.mpr ((gcdF_dvd r 0).2 v h)
def byGcd (r : List Int) : List Int := if 1 < gcdA r then r.map (· / (gcdA r : Int)) else r
def redStep (r : List Int) (x : Nat × List Int) : List Int := if r.getD x.1 0 ≠ 0 then byGcd (comb (x.2.getD x.1 0) (r.getD x.1 0) r x.2) else r
def redB (r : List Int) (B : List (Nat × List Int)) : List Int := B.foldl redStep r
theorem byGcd_len (r : List Int) : (byGcd r).length = r.length := by unfold byGcd; split <;> simp
theorem redStep_len {r : List Int} {x : Nat × List Int} (h : r.length = x.2.length) : (redStep r x).length = r.length := by
  unfold redStep
  split
  · rw [byGcd_len, comb_len h]
  · rfl
theorem byGcd_lin {N : Nat} {f : List Int → Int} (hf : Lin N f) {r : List Int} (h : r.length = N) : f (byGcd r) = 0 ↔ f r = 0 := by
  unfold byGcd
  split
  · rename_i hg
    have := hf.div h fun v hv => gcdA_dvd hv
    rw [this]
    constructor
    · intro z; rw [z]; simp
    · intro z
      rcases Int.mul_eq_zero.mp z with z | z
      · exact z
      · omega
  · exact Iff.rfl
theorem redStep_lin {N : Nat} {f : List Int → Int} (hf : Lin N f) {r : List Int} {x : Nat × List Int} (hr : r.length = N) (hx : x.2.length = N) (hp : x.2.getD x.1 0 ≠ 0) (h0 : f x.2 = 0) : f (redStep r x) = 0 ↔ f r = 0 := by
  unfold redStep
  split
  · rw [byGcd_lin hf (by rw [comb_len (hr.trans hx.symm)]; exact hr), hf _ _ _ _ hr hx, h0]
    constructor
    · intro z
      have z' : f r * x.2.getD x.1 0 = 0 := by simpa using z
      rcases Int.mul_eq_zero.mp z' with z | z
      · exact z
      · exact absurd z hp
    · intro z; rw [z]; simp
  · exact Iff.rfl
theorem redStep_piv {r : List Int} {x : Nat × List Int} (h : r.length = x.2.length) : (redStep r x).getD x.1 0 = 0 := by
  unfold redStep
  split
  · refine (byGcd_lin (lin_get r.length x.1) (comb_len h)).mpr ?_
    rw [comb_get h, Int.mul_comm]
    omega
  · rename_i z
    simpa using z
/-- rows that lead to one another: a pivot each, 0 at the earlier ones' -/
inductive BOk (N : Nat) : List (Nat × List Int) → Prop
  | nil : BOk N []
  | snoc {B : List (Nat × List Int)} {x : Nat × List Int} : BOk N B → x.1 < N → x.2.length = N → x.2.getD x.1 0 ≠ 0 → (∀ y ∈ B, x.2.getD y.1 0 = 0) → BOk N (B ++ [x])
theorem redB_snoc (r : List Int) (B : List (Nat × List Int)) (x : Nat × List Int) : redB r (B ++ [x]) = redStep (redB r B) x := by simp [redB]
theorem BOk.len {N : Nat} {B : List (Nat × List Int)} (h : BOk N B) {r : List Int} (hr : r.length = N) : (redB r B).length = N := by
  induction h with
  | nil => exact hr
  | snoc _ _ h2 _ _ ih => rw [redB_snoc, redStep_len (ih.trans h2.symm)]; exact ih
theorem BOk.lin {N : Nat} {B : List (Nat × List Int)} (h : BOk N B) {f : List Int → Int} (hf : Lin N f) {r : List Int} (hr : r.length = N) : (∀ x ∈ B, f x.2 = 0) → (f (redB r B) = 0 ↔ f r = 0) := by
  induction h with
  | nil => exact fun _ => Iff.rfl
  | snoc h0 h1 h2 h3 h4 ih =>
    intro hk
    rw [redB_snoc, redStep_lin hf (h0.len hr) h2 h3 (hk _ (by simp))]
    exact ih fun x hx => hk x (by simp [hx])
theorem BOk.piv {N : Nat} {B : List (Nat × List Int)} (h : BOk N B) {r : List Int} (hr : r.length = N) : ∀ y ∈ B, (redB r B).getD y.1 0 = 0 := by
  induction h with
  | nil => exact fun _ h => nomatch h
  | snoc h0 h1 h2 h3 h4 ih =>
    intro y hy
    rw [redB_snoc]
    rcases List.mem_append.mp hy with z | z
    · exact (redStep_lin (lin_get N y.1) (h0.len hr) h2 h3 (h4 y z)).mpr (ih y z)
    · rw [List.mem_singleton.mp z]
      exact redStep_piv ((h0.len hr).trans h2.symm)
theorem BOk.nd {N : Nat} {B : List (Nat × List Int)} (h : BOk N B) : (B.map (·.1)).Nodup ∧ ∀ y ∈ B, y.1 < N := by
  induction h with
  | nil => exact ⟨List.nodup_nil, fun _ h => nomatch h⟩
  | @snoc B x h0 h1 h2 h3 h4 ih =>
    refine ⟨?_, fun y hy => ?_⟩
    · rw [List.map_append]
      refine List.nodup_append.mpr ⟨ih.1, by simp, fun a ha b hb e => ?_⟩
      obtain ⟨y, hy, rfl⟩ := List.mem_map.mp ha
      have eb : b = x.1 := List.mem_singleton.mp hb
      have e2 : y.1 = x.1 := e.trans eb
      exact h3 (by rw [← e2]; exact h4 y hy)
    · rcases List.mem_append.mp hy with z | z
      · exact ih.2 y z
      · rw [List.mem_singleton.mp z]; exact h1
theorem BOk.few {N : Nat} {B : List (Nat × List Int)} (h : BOk N B) : B.length ≤ N := by
  have := L2.nat_nodup_len (B.map (·.1)) (List.range N) h.nd.1 fun x hx => by
    obtain ⟨y, hy, rfl⟩ := List.mem_map.mp hx
    exact List.mem_range.mpr (h.nd.2 y hy)
  simpa using this
theorem BOk.full {N : Nat} {B : List (Nat × List Int)} (h : BOk N B) (hN : B.length = N) {r : List Int} (hr : r.length = N) : ∀ v ∈ redB r B, v = 0 := by
  intro v hv
  obtain ⟨i, hi, e⟩ := List.mem_iff_getElem.mp hv
  have hl := h.len hr
  have hm : i ∈ B.map (·.1) := by
    by_cases q : i ∈ B.map (·.1)
    · exact q
    · have := L2.nat_nodup_len (i :: B.map (·.1)) (List.range N) (List.nodup_cons.mpr ⟨q, h.nd.1⟩) fun x hx => by
        rcases List.mem_cons.mp hx with z | z
        · rw [z]; exact List.mem_range.mpr (by omega)
        · obtain ⟨y, hy, rfl⟩ := List.mem_map.mp z
          exact List.mem_range.mpr (h.nd.2 y hy)
      simp [hN] at this
      exact absurd this (by omega)
  obtain ⟨y, hy, rfl⟩ := List.mem_map.mp hm
  have := h.piv hr y hy
  rw [List.getD_eq_getElem?_getD, List.getElem?_eq_getElem hi] at this
  rw [← e]
  simpa using this
/-! the search -/
structure Sys where
  N : Nat
  s : Nat
  S : Nat → List Int
  T : Nat → List Int → List Int
  g : List Int → Int
  dep : Nat → Nat
structure Sys.Ok (y : Sys) : Prop where
  s0 : 0 < y.s
  len : ∀ r, (y.S r).length = y.N
  step : ∀ k c, c < y.s → y.S (y.s * k + c + 1) = y.T c (y.S k)
  tlen : ∀ c x, c < y.s → x.length = y.N → (y.T c x).length = y.N
  tlin : ∀ c p q r o, c < y.s → r.length = y.N → o.length = y.N → y.T c (comb p q r o) = comb p q (y.T c r) (y.T c o)
  glin : Lin y.N y.g
  dstep : ∀ k c, c < y.s → y.dep (y.s * k + c + 1) = y.dep k + 1
  d0 : y.dep 0 = 0
abbrev Qs := List (Nat × Nat × List Int)
def bsQ (Q : Qs) : List (Nat × List Int) := Q.map (·.2)
inductive QOk (y : Sys) : Qs → Prop
  | nil : QOk y []
  | snoc {Q : Qs} {v p : Nat} : QOk y Q → p < y.N → (redB (y.S v) (bsQ Q)).getD p 0 ≠ 0 → (∀ z ∈ Q, z.1 < v) → QOk y (Q ++ [(v, p, redB (y.S v) (bsQ Q))])
theorem bsQ_snoc (Q : Qs) (x : Nat × Nat × List Int) : bsQ (Q ++ [x]) = bsQ Q ++ [x.2] := by simp [bsQ]
theorem QOk.b {y : Sys} (o : y.Ok) {Q : Qs} (h : QOk y Q) : BOk y.N (bsQ Q) := by
  induction h with
  | nil => exact .nil
  | snoc h0 h1 h2 h3 ih =>
    rw [bsQ_snoc]
    exact .snoc ih h1 (ih.len (o.len _)) h2 fun z hz => ih.piv (o.len _) z hz
theorem QOk.kill {y : Sys} (o : y.Ok) {Q : Qs} (h : QOk y Q) {f : List Int → Int} (hf : Lin y.N f) (Pd : Nat → Prop) (hd : ∀ a b, a < b → Pd b → Pd a) : (∀ x ∈ Q, Pd x.1 → f (y.S x.1) = 0) → ∀ x ∈ Q, Pd x.1 → f x.2.2 = 0 := by
  induction h with
  | nil => exact fun _ _ h => nomatch h
  | @snoc Q v p h0 h1 h2 h3 ih =>
    intro hs x hx px
    have ih' := ih fun x hx => hs x (List.mem_append_left _ hx)
    rcases List.mem_append.mp hx with z | z
    · exact ih' x z px
    · have ex := List.mem_singleton.mp z
      subst ex
      refine ((h0.b o).lin hf (o.len v) fun w hw => ?_).mpr (hs _ hx px)
      obtain ⟨u, hu, rfl⟩ := List.mem_map.mp hw
      exact ih' u hu (hd _ _ (h3 u hu) px)
structure SInv (y : Sys) (done todo : List Nat) (Q : Qs) : Prop where
  sorted : (done ++ todo).Pairwise (· < ·)
  has0 : 0 ∈ done ++ todo
  q : QOk y Q
  qd : ∀ x ∈ Q, x.1 ∈ done
  gz : ∀ r ∈ done, y.g (y.S r) = 0
  sp : ∀ r ∈ done, ∀ f, Lin y.N f → (∀ x ∈ Q, x.1 ≤ r → f x.2.2 = 0) → f (y.S r) = 0
  kids : ∀ x ∈ Q, ∀ c, c < y.s → y.s * x.1 + c + 1 ∈ done ++ todo
  par : ∀ r ∈ done ++ todo, r = 0 ∨ ∃ x ∈ Q, ∃ c, c < y.s ∧ r = y.s * x.1 + c + 1
  deep : ∀ r ∈ done ++ todo, y.dep r ≤ Q.length
theorem SInv.gkill {y : Sys} (o : y.Ok) {done todo : List Nat} {Q : Qs} (I : SInv y done todo Q) : ∀ x ∈ Q, y.g x.2.2 = 0 := fun x hx =>
  I.q.kill o o.glin (fun _ => True) (fun _ _ _ _ => trivial) (fun x hx _ => I.gz _ (I.qd x hx)) x hx trivial
theorem SInv.all {y : Sys} (o : y.Ok) {done todo : List Nat} {Q : Qs} (I : SInv y done todo Q) (u : Nat) : (∀ r ∈ todo, u < r) → ∀ f, Lin y.N f → (∀ x ∈ Q, x.1 ≤ u → f x.2.2 = 0) → f (y.S u) = 0 := by
  induction u using Nat.strongRecOn with
  | _ u ih =>
    intro hu f hf hk
    by_cases hm : u ∈ done ++ todo
    · rcases List.mem_append.mp hm with z | z
      · exact I.sp u z f hf hk
      · exact absurd (hu u z) (Nat.lt_irrefl _)
    · have u0 : u ≠ 0 := fun z => hm (z ▸ I.has0)
      have s0 := o.s0
      let k := (u - 1) / y.s
      let c := (u - 1) % y.s
      have hc : c < y.s := Nat.mod_lt _ s0
      have hu1 : y.s * k + c = u - 1 := Nat.div_add_mod (u - 1) y.s
      have eu : u = y.s * k + c + 1 := by omega
      have hkl : k < u := by
        have : k ≤ u - 1 := Nat.div_le_self _ _
        omega
      have hfT : Lin y.N fun x => f (y.T c x) := fun p q r w h1 h2 => by
        show f (y.T c (comb p q r w)) = _
        rw [o.tlin c p q r w hc h1 h2]
        exact hf p q _ _ (o.tlen c r hc h1) (o.tlen c w hc h2)
      have ks : ∀ x ∈ Q, x.1 ≤ k → f (y.T c x.2.2) = 0 := I.q.kill o hfT (· ≤ k) (fun a b h1 h2 => Nat.le_trans (Nat.le_of_lt h1) h2) fun x hx hxk => by
        have hle : y.s * x.1 + c + 1 ≤ u := by
          rw [eu]
          have := Nat.mul_le_mul_left y.s hxk
          omega
        show f (y.T c (y.S x.1)) = 0
        rw [← o.step _ _ hc]
        rcases List.mem_append.mp (I.kids x hx c hc) with z | z
        · exact I.sp _ z f hf fun w hw hwl => hk w hw (Nat.le_trans hwl hle)
        · have := hu _ z
          omega
      have := ih k hkl (fun r hr => Nat.lt_trans hkl (hu r hr)) (fun x => f (y.T c x)) hfT ks
      rw [eu, o.step _ _ hc]
      exact this
theorem SInv.zero {y : Sys} (o : y.Ok) {done todo : List Nat} {Q : Qs} (I : SInv y done todo Q) {u : Nat} (h : ∀ r ∈ todo, u < r) : y.g (y.S u) = 0 := I.all o u h y.g o.glin fun x hx _ => I.gkill o x hx
theorem SInv.lt_todo {y : Sys} {done todo : List Nat} {r : Nat} {Q : Qs} (I : SInv y done (r :: todo) Q) : (∀ d ∈ done, d < r) ∧ ∀ d ∈ todo, r < d := by
  have h := List.pairwise_append.mp I.sorted
  exact ⟨fun d hd => h.2.2 d hd r List.mem_cons_self, fun d hd => (List.pairwise_cons.mp h.2.1).1 d hd⟩
/-- the row that is told -/
theorem SInv.found {y : Sys} (o : y.Ok) {done todo : List Nat} {r : Nat} {Q : Qs} (I : SInv y done (r :: todo) Q) (h : y.g (y.S r) ≠ 0) : (∀ u, u < r → y.g (y.S u) = 0) ∧ y.dep r < y.N := by
  refine ⟨fun u hu => I.zero o fun d hd => ?_, ?_⟩
  · rcases List.mem_cons.mp hd with z | z
    · rw [z]; exact hu
    · exact Nat.lt_trans hu (I.lt_todo.2 d z)
  · have hb := I.q.b o
    have h1 := hb.few
    have hl : (bsQ Q).length = Q.length := by simp [bsQ]
    have h2 := I.deep r (by simp)
    have h3 : (bsQ Q).length ≠ y.N := fun e => h (((hb.lin o.glin (o.len r)) fun x hx => by
      obtain ⟨w, hw, rfl⟩ := List.mem_map.mp hx
      exact I.gkill o w hw).mp (o.glin.zero (hb.len (o.len r)) (hb.full e (o.len r))))
    omega
theorem SInv.old {y : Sys} (o : y.Ok) {done todo : List Nat} {r : Nat} {Q : Qs} (I : SInv y done (r :: todo) Q) (h : y.g (y.S r) = 0) (hz : ∀ v ∈ redB (y.S r) (bsQ Q), v = 0) : SInv y (done ++ [r]) todo Q := by
  have e : (done ++ [r]) ++ todo = done ++ r :: todo := by simp
  have hb := I.q.b o
  refine ⟨by rw [e]; exact I.sorted, by rw [e]; exact I.has0, I.q, fun x hx => List.mem_append_left _ (I.qd x hx), fun d hd => ?_, fun d hd f hf hk => ?_, by rw [e]; exact I.kids, by rw [e]; exact I.par, by rw [e]; exact I.deep⟩
  · rcases List.mem_append.mp hd with z | z
    · exact I.gz d z
    · rw [List.mem_singleton.mp z]; exact h
  · rcases List.mem_append.mp hd with z | z
    · exact I.sp d z f hf hk
    · have ed := List.mem_singleton.mp z
      subst ed
      refine (hb.lin hf (o.len d) fun x hx => ?_).mp (hf.zero (hb.len (o.len d)) hz)
      obtain ⟨w, hw, rfl⟩ := List.mem_map.mp hx
      exact hk w hw (Nat.le_of_lt (I.lt_todo.1 _ (I.qd w hw)))
def kidsL (s r : Nat) : List Nat := (List.range s).map fun c => s * r + c + 1
theorem SInv.new {y : Sys} (o : y.Ok) {done todo : List Nat} {r p : Nat} {Q : Qs} (I : SInv y done (r :: todo) Q) (h : y.g (y.S r) = 0) (hp : p < y.N) (hz : (redB (y.S r) (bsQ Q)).getD p 0 ≠ 0) :
    SInv y (done ++ [r]) (todo ++ kidsL y.s r) (Q ++ [(r, p, redB (y.S r) (bsQ Q))]) := by
  have e : (done ++ [r]) ++ (todo ++ kidsL y.s r) = (done ++ r :: todo) ++ kidsL y.s r := by simp
  have hb := I.q.b o
  have s0 := o.s0
  have inK : ∀ c, c < y.s → y.s * r + c + 1 ∈ kidsL y.s r := fun c hc => List.mem_map.mpr ⟨c, List.mem_range.mpr hc, rfl⟩
  have ofK : ∀ d ∈ kidsL y.s r, ∃ c, c < y.s ∧ d = y.s * r + c + 1 := fun d hd => by
    obtain ⟨c, hc, e⟩ := List.mem_map.mp hd
    exact ⟨c, List.mem_range.mp hc, e.symm⟩
  have lt := I.lt_todo
  refine ⟨?_, by rw [e]; exact List.mem_append_left _ I.has0, .snoc I.q hp hz fun z hz => lt.1 _ (I.qd z hz), fun x hx => ?_, fun d hd => ?_, fun d hd f hf hk => ?_, fun x hx c hc => ?_, fun d hd => ?_, fun d hd => ?_⟩
  · rw [e]
    refine List.pairwise_append.mpr ⟨I.sorted, ?_, fun a ha b hb => ?_⟩
    · unfold kidsL
      rw [List.pairwise_map]
      exact List.pairwise_lt_range.imp fun {a b} h => by omega
    · obtain ⟨c, hc, rfl⟩ := ofK b hb
      rcases I.par a ha with z | ⟨x, hx, c', hc', z⟩
      · omega
      · have h1 : x.1 + 1 ≤ r := lt.1 _ (I.qd x hx)
        have h2 := Nat.mul_le_mul_left y.s h1
        rw [Nat.mul_add] at h2
        omega
  · rcases List.mem_append.mp hx with z | z
    · exact List.mem_append_left _ (I.qd x z)
    · rw [List.mem_singleton.mp z]; simp
  · rcases List.mem_append.mp hd with z | z
    · exact I.gz d z
    · rw [List.mem_singleton.mp z]; exact h
  · rcases List.mem_append.mp hd with z | z
    · exact I.sp d z f hf fun x hx => hk x (List.mem_append_left _ hx)
    · have ed := List.mem_singleton.mp z
      subst ed
      refine (hb.lin hf (o.len d) fun x hx => ?_).mp (hk _ (List.mem_append_right _ List.mem_cons_self) (Nat.le_refl _))
      obtain ⟨w, hw, rfl⟩ := List.mem_map.mp hx
      exact hk w (List.mem_append_left _ hw) (Nat.le_of_lt (lt.1 _ (I.qd w hw)))
  · rw [e]
    rcases List.mem_append.mp hx with z | z
    · exact List.mem_append_left _ (I.kids x z c hc)
    · rw [List.mem_singleton.mp z]
      exact List.mem_append_right _ (inK c hc)
  · rw [e] at hd
    rcases List.mem_append.mp hd with z | z
    · rcases I.par d z with q | ⟨x, hx, c, hc, q⟩
      · exact .inl q
      · exact .inr ⟨x, List.mem_append_left _ hx, c, hc, q⟩
    · obtain ⟨c, hc, q⟩ := ofK d z
      exact .inr ⟨_, List.mem_append_right _ List.mem_cons_self, c, hc, q⟩
  · rw [e] at hd
    rw [List.length_append, List.length_singleton]
    rcases List.mem_append.mp hd with z | z
    · exact Nat.le_succ_of_le (I.deep d z)
    · obtain ⟨c, hc, q⟩ := ofK d z
      rw [q, o.dstep _ _ hc]
      exact Nat.succ_le_succ (I.deep r (by simp))
theorem SInv.start {y : Sys} (o : y.Ok) : SInv y [] [0] [] :=
  ⟨by simp, by simp, .nil, fun _ h => (nomatch h), fun _ h => (nomatch h), fun _ h => (nomatch h), fun _ h => (nomatch h), fun r hr => .inl (by simpa using hr), fun r hr => by
    have : r = 0 := by simpa using hr
    rw [this, o.d0]
    exact Nat.le_refl _⟩
theorem SInv.few {y : Sys} (o : y.Ok) {done todo : List Nat} {Q : Qs} (I : SInv y done todo Q) : Q.length ≤ y.N := by
  have := (I.q.b o).few
  simpa [bsQ] using this
end K53

set_option Elab.async false
set_option linter.all false
set_option maxRecDepth 100000
set_option maxHeartbeats 4000000
/-! K53n: the plain law of weighers. -/
namespace K53
theorem snoc_or {α : Type} (l : List α) : l = [] ∨ ∃ L b, l = L ++ [b] := by
  rcases List.eq_nil_or_concat l with z | ⟨u, c, z⟩
  · exact .inl z
  · exact .inr ⟨u, c, by rw [z]; simp⟩
/-! sizes of numbers -/
def Bnd (b : Nat) (r : List Int) : Prop := ∀ v ∈ r, v.natAbs < 2 ^ b
theorem Bnd.mono {a b : Nat} {r : List Int} (h : Bnd a r) (l : a ≤ b) : Bnd b r := fun v hv => Nat.lt_of_lt_of_le (h v hv) (Nat.pow_le_pow_right (by decide) l)
theorem Bnd.getD {b : Nat} {r : List Int} (h : Bnd b r) (j : Nat) : (r.getD j 0).natAbs < 2 ^ b := by
  rw [List.getD_eq_getElem?_getD]
  cases e : r[j]? with
  | none => exact Nat.pow_pos (by decide)
  | some v => exact h v (List.mem_of_getElem? e)
theorem comb_mem {p q v : Int} : ∀ {r o : List Int}, v ∈ comb p q r o → ∃ a b, a ∈ r ∧ b ∈ o ∧ v = a * p - b * q
  | [], _, h => by simp [comb] at h
  | _ :: _, [], h => by simp [comb] at h
  | x :: r, z :: o, h => by
    simp only [comb, List.zipWith_cons_cons] at h
    rcases List.mem_cons.mp h with e | e
    · exact ⟨x, z, by simp, by simp, e⟩
    · obtain ⟨a, b, h1, h2, h3⟩ := comb_mem (r := r) (o := o) e
      exact ⟨a, b, List.mem_cons_of_mem _ h1, List.mem_cons_of_mem _ h2, h3⟩
theorem comb_bnd {a b : Nat} {r o : List Int} {j : Nat} (h1 : Bnd a r) (h2 : Bnd b o) : Bnd (a + b + 1) (comb (o.getD j 0) (r.getD j 0) r o) := fun v hv => by
  obtain ⟨x, z, hx, hz, rfl⟩ := comb_mem hv
  have b1 : (x * o.getD j 0).natAbs < 2 ^ a * 2 ^ b := by
    rw [Int.natAbs_mul]
    exact Nat.mul_lt_mul'' (h1 x hx) (h2.getD j)
  have b2 : (z * r.getD j 0).natAbs < 2 ^ b * 2 ^ a := by
    rw [Int.natAbs_mul]
    exact Nat.mul_lt_mul'' (h2 z hz) (h1.getD j)
  rw [Nat.pow_succ, Nat.pow_add]
  rw [Nat.mul_comm (2 ^ b)] at b2
  omega
theorem byGcd_bnd {b : Nat} {r : List Int} (h : Bnd b r) : Bnd b (byGcd r) := by
  unfold byGcd
  split
  · rename_i hg
    intro v hv
    obtain ⟨x, hx, rfl⟩ := List.mem_map.mp hv
    have e := Int.ediv_mul_cancel (gcdA_dvd hx)
    have e2 : (x / (gcdA r : Int)).natAbs * gcdA r = x.natAbs := by
      conv => rhs; rw [← e, Int.natAbs_mul]
      rfl
    have := h x hx
    have : (x / (gcdA r : Int)).natAbs ≤ (x / (gcdA r : Int)).natAbs * gcdA r := Nat.le_mul_of_pos_right _ (by omega)
    omega
  · exact h
theorem redStep_bnd {a b : Nat} {r : List Int} {x : Nat × List Int} (h1 : Bnd a r) (h2 : Bnd b x.2) : Bnd (a + b + 1) (redStep r x) := by
  unfold redStep
  split
  · exact byGcd_bnd (comb_bnd h1 h2)
  · exact h1.mono (by omega)
def BB (b k : Nat) : Nat := (b + 1) * 2 ^ k - 1
theorem BB_succ (b k : Nat) : BB b k + BB b k + 1 = BB b (k + 1) := by
  unfold BB
  have : 0 < (b + 1) * 2 ^ k := Nat.mul_pos (by omega) (Nat.pow_pos (by decide))
  rw [Nat.pow_succ, ← Nat.mul_assoc]
  generalize (b + 1) * 2 ^ k = z at *
  omega
theorem BB_le {b j k : Nat} (h : j ≤ k) : BB b j ≤ BB b k := by
  unfold BB
  exact Nat.sub_le_sub_right (Nat.mul_le_mul_left _ (Nat.pow_le_pow_right (by decide) h)) _
theorem QOk.bits {y : Sys} {Q : Qs} (h : QOk y Q) (b : Nat) : (∀ x ∈ Q, Bnd b (y.S x.1)) → (∀ x ∈ Q, Bnd (BB b Q.length) x.2.2) ∧ ∀ r, Bnd b r → ∀ A C, bsQ Q = A ++ C → Bnd (BB b Q.length) (redB r A) := by
  induction h with
  | nil =>
    refine fun _ => ⟨fun _ h => (nomatch h), fun r hr A C e => ?_⟩
    have e' : A ++ C = [] := e.symm
    rw [(List.append_eq_nil_iff.mp e').1]
    exact hr.mono (by unfold BB; simp)
  | @snoc Q v p h0 h1 h2 h3 ih =>
    intro hs
    obtain ⟨i1, i2⟩ := ih fun x hx => hs x (List.mem_append_left _ hx)
    have hl : (Q ++ [(v, p, redB (y.S v) (bsQ Q))]).length = Q.length + 1 := by simp
    have hb : Bnd (BB b Q.length) (redB (y.S v) (bsQ Q)) := i2 _ (hs _ (List.mem_append_right _ List.mem_cons_self)) (bsQ Q) [] (by simp)
    rw [hl]
    refine ⟨fun x hx => ?_, fun r hr A C e => ?_⟩
    · rcases List.mem_append.mp hx with z | z
      · exact (i1 x z).mono (BB_le (Nat.le_succ _))
      · rw [List.mem_singleton.mp z]
        exact hb.mono (BB_le (Nat.le_succ _))
    · rw [bsQ_snoc] at e
      rcases snoc_or C with z | ⟨C', x, z⟩
      · rw [z, List.append_nil] at e
        rw [← e, redB_snoc, ← BB_succ]
        exact redStep_bnd (i2 r hr (bsQ Q) [] (by simp)) hb
      · rw [z, ← List.append_assoc] at e
        have := List.append_inj_left' e rfl
        exact (i2 r hr A C' this).mono (BB_le (Nat.le_succ _))
/-! rows by their place in the order of rows -/
def wd (s : Nat) (r : Nat) : List Nat := if h : r = 0 then [] else wd s ((r - 1) / s) ++ [(r - 1) % s]
termination_by r
decreasing_by
  have := Nat.div_le_self (r - 1) s
  omega
theorem wd_zero (s : Nat) : wd s 0 = [] := by rw [wd]; simp
theorem wd_step {s k c : Nat} (h : c < s) : wd s (s * k + c + 1) = wd s k ++ [c] := by
  rw [wd, dif_neg (by omega)]
  have h1 : (s * k + c + 1 - 1) / s = k := by
    rw [Nat.add_sub_cancel, Nat.mul_add_div (by omega), Nat.div_eq_of_lt h, Nat.add_zero]
  have h2 : (s * k + c + 1 - 1) % s = c := by
    rw [Nat.add_sub_cancel, Nat.mul_add_mod, Nat.mod_eq_of_lt h]
  rw [h1, h2]
theorem rank_ind {s : Nat} (hs : 0 < s) {Pd : Nat → Prop} (h0 : Pd 0) (h1 : ∀ k c, c < s → k < s * k + c + 1 → Pd k → Pd (s * k + c + 1)) (r : Nat) : Pd r := by
  induction r using Nat.strongRecOn with
  | _ r ih =>
    by_cases hr : r = 0
    · rw [hr]; exact h0
    · have hc : (r - 1) % s < s := Nat.mod_lt _ hs
      have e : s * ((r - 1) / s) + (r - 1) % s = r - 1 := Nat.div_add_mod (r - 1) s
      have hl : (r - 1) / s ≤ r - 1 := Nat.div_le_self _ _
      have := h1 ((r - 1) / s) ((r - 1) % s) hc (by omega) (ih _ (by omega))
      rw [e] at this
      rw [show r = r - 1 + 1 by omega]
      exact this
theorem wd_lt {s : Nat} (hs : 0 < s) (r : Nat) : ∀ c ∈ wd s r, c < s := by
  refine rank_ind hs (Pd := fun r => ∀ c ∈ wd s r, c < s) ?_ ?_ r
  · rw [wd_zero]; exact fun _ h => nomatch h
  · intro k c hc _ ih d hd
    rw [wd_step hc] at hd
    rcases List.mem_append.mp hd with z | z
    · exact ih d z
    · rw [List.mem_singleton.mp z]; exact hc
def Bn (s : Nat) : Nat → Nat
  | 0 => 1
  | m + 1 => s * Bn s m + 1
theorem wd_len {s : Nat} (hs : 0 < s) (r : Nat) : ∀ m, (wd s r).length ≤ m → r < Bn s m := by
  refine rank_ind hs (Pd := fun r => ∀ m, (wd s r).length ≤ m → r < Bn s m) ?_ ?_ r
  · intro m _
    cases m with
    | zero => exact Nat.one_pos
    | succ m => exact Nat.succ_pos _
  · intro k c hc _ ih m hm
    rw [wd_step hc] at hm
    cases m with
    | zero => simp at hm
    | succ m =>
      have := ih m (by simpa using hm)
      have h2 := Nat.mul_le_mul_left s (show k + 1 ≤ Bn s m from this)
      rw [Nat.mul_add] at h2
      show _ < s * Bn s m + 1
      omega
/-! weighers -/
structure WD where
  b : List Int
  T : List (List (List Int))
  g : List Int
def run (W : WD) (w : List Nat) : List Int := w.foldl (fun x c => movedL x (W.T.getD c [])) W.b
def vl (W : WD) (w : List Nat) : Int := dotL (run W w) W.g
structure WOk (s n : Nat) (W : WD) : Prop where
  bl : W.b.length = n
  gl : W.g.length = n
  Tl : W.T.length = s
  tl : ∀ t ∈ W.T, t.length = n
  rl : ∀ t ∈ W.T, ∀ r ∈ t, r.length = n
  bb : ∀ v ∈ W.b, v.natAbs ≤ 1000
  tb : ∀ t ∈ W.T, ∀ r ∈ t, ∀ v ∈ r, v.natAbs ≤ 1000
  gb : ∀ v ∈ W.g, v.natAbs ≤ 1000
  n1 : 1 ≤ n
  n3 : n ≤ 3
  s1 : 1 ≤ s
  s8 : s ≤ 8
theorem run_snoc (W : WD) (w : List Nat) (c : Nat) : run W (w ++ [c]) = movedL (run W w) (W.T.getD c []) := by simp [run]
theorem WOk.tab {s n c : Nat} {W : WD} (h : WOk s n W) (hc : c < s) : W.T.getD c [] ∈ W.T := by
  have : c < W.T.length := by rw [h.Tl]; exact hc
  rw [List.getD_eq_getElem?_getD, List.getElem?_eq_getElem this]
  exact List.getElem_mem _
theorem run_len {s n : Nat} {W : WD} (h : WOk s n W) : ∀ (w : List Nat), (∀ c ∈ w, c < s) → (run W w).length = n := by
  intro w hw
  rcases snoc_or w with z | ⟨u, c, z⟩
  · rw [z]; exact h.bl
  · rw [z, run_snoc, movedL_len]
    exact h.tl _ (h.tab (hw c (by rw [z]; simp)))
theorem dotL_bnd {m k : Nat} : ∀ (xs gs : List Int), (∀ x ∈ xs, x.natAbs ≤ m) → (∀ x ∈ gs, x.natAbs ≤ k) → (dotL xs gs).natAbs ≤ xs.length * (m * k)
  | [], gs, _, _ => by simp [dotL]
  | _ :: _, [], _, _ => by simp [dotL]
  | x :: xs, z :: gs, h1, h2 => by
    have ih := dotL_bnd xs gs (fun a ha => h1 a (List.mem_cons_of_mem _ ha)) fun a ha => h2 a (List.mem_cons_of_mem _ ha)
    have b1 : (x * z).natAbs ≤ m * k := by
      rw [Int.natAbs_mul]
      exact Nat.mul_le_mul (h1 x List.mem_cons_self) (h2 z List.mem_cons_self)
    rw [dotL, List.length_cons, Nat.succ_mul]
    omega
theorem col_mem {t : List (List Int)} {j k : Nat} (h : ∀ r ∈ t, ∀ v ∈ r, v.natAbs ≤ k) : ∀ v ∈ col t j, v.natAbs ≤ k := fun v hv => by
  obtain ⟨r, hr, rfl⟩ := List.mem_map.mp hv
  rw [List.getD_eq_getElem?_getD]
  cases e : r[j]? with
  | none => exact Nat.zero_le _
  | some u => exact h r hr u (List.mem_of_getElem? e)
theorem run_bnd {s n : Nat} {W : WD} (h : WOk s n W) (k : Nat) : ∀ (w : List Nat), w.length = k → (∀ c ∈ w, c < s) → ∀ v ∈ run W w, v.natAbs ≤ 1000 * 3000 ^ k := by
  induction k with
  | zero =>
    intro w hl hw
    rw [List.length_eq_zero_iff.mp hl]
    simpa [run] using h.bb
  | succ k ih =>
    intro w hl hw
    rcases snoc_or w with z | ⟨u, c, z⟩
    · rw [z] at hl; simp at hl
    · subst z
      have hu : ∀ d ∈ u, d < s := fun d hd => hw d (by simp [hd])
      have ih' := ih u (by simpa using hl) hu
      rw [run_snoc]
      intro v hv
      obtain ⟨j, _, rfl⟩ := List.mem_map.mp hv
      have := dotL_bnd (run W u) (col (W.T.getD c []) j) ih' (col_mem (h.tb _ (h.tab (hw c (by simp)))))
      rw [run_len h u hu] at this
      have h3 := Nat.mul_le_mul_right (1000 * 3000 ^ k * 1000) h.n3
      rw [Nat.pow_succ]
      omega
/-- two weighers side by side -/
def sysOf (s n1 n2 : Nat) (V W : WD) : Sys where
  N := n1 + n2
  s := s
  S r := run V (wd s r) ++ run W (wd s r)
  T c x := movedL (x.take n1) (V.T.getD c []) ++ movedL (x.drop n1) (W.T.getD c [])
  g x := dotL x (V.g ++ W.g.map fun v => -v)
  dep r := (wd s r).length
theorem sysOf_ok {s n1 n2 : Nat} {V W : WD} (h1 : WOk s n1 V) (h2 : WOk s n2 W) : (sysOf s n1 n2 V W).Ok where
  s0 := h1.s1
  len r := by
    show (run V (wd s r) ++ run W (wd s r)).length = n1 + n2
    rw [List.length_append, run_len h1 _ (wd_lt h1.s1 r), run_len h2 _ (wd_lt h1.s1 r)]
  step k c hc := by
    show run V (wd s (s * k + c + 1)) ++ run W (wd s (s * k + c + 1)) = movedL ((run V (wd s k) ++ run W (wd s k)).take n1) _ ++ movedL ((run V (wd s k) ++ run W (wd s k)).drop n1) _
    have hl := run_len h1 _ (wd_lt h1.s1 k)
    have hc' : c < s := hc
    rw [wd_step hc', run_snoc, run_snoc, List.take_left' hl, List.drop_left' hl]
  tlen c x hc hx := by
    show (movedL _ _ ++ movedL _ _).length = n1 + n2
    rw [List.length_append, movedL_len, movedL_len, h1.tl _ (h1.tab hc), h2.tl _ (h2.tab hc)]
  tlin c p q r o hc hr ho := by
    show movedL ((comb p q r o).take n1) _ ++ movedL ((comb p q r o).drop n1) _ = comb p q (movedL _ _ ++ movedL _ _) (movedL _ _ ++ movedL _ _)
    have hr' : r.length = n1 + n2 := hr
    have ho' : o.length = n1 + n2 := ho
    rw [comb_take, comb_drop, movedL_comb (by simp [hr', ho']), movedL_comb (by simp [hr', ho']), comb_app (by rw [movedL_len, movedL_len])]
  glin := lin_dot _ _
  dstep k c hc := by
    show (wd s (s * k + c + 1)).length = (wd s k).length + 1
    have hc' : c < s := hc
    rw [wd_step hc']
    simp
  d0 := by
    show (wd s 0).length = 0
    rw [wd_zero]
    rfl
theorem sysOf_g {s n1 n2 : Nat} {V W : WD} (h1 : WOk s n1 V) (r : Nat) : (sysOf s n1 n2 V W).g ((sysOf s n1 n2 V W).S r) = vl V (wd s r) - vl W (wd s r) := by
  show dotL (run V (wd s r) ++ run W (wd s r)) (V.g ++ W.g.map fun v => -v) = _
  rw [dotL_app _ _ _ _ ((run_len h1 _ (wd_lt h1.s1 r)).trans h1.gl.symm), dotL_neg]
  unfold vl
  omega
theorem sysOf_bnd {s n1 n2 r : Nat} {V W : WD} (h1 : WOk s n1 V) (h2 : WOk s n2 W) (hd : (wd s r).length ≤ 6) : Bnd 80 ((sysOf s n1 n2 V W).S r) := by
  intro v hv
  have hv' : v ∈ run V (wd s r) ++ run W (wd s r) := hv
  have : v.natAbs ≤ 1000 * 3000 ^ (wd s r).length := by
    rcases List.mem_append.mp hv' with z | z
    · exact run_bnd h1 _ _ rfl (wd_lt h1.s1 r) v z
    · exact run_bnd h2 _ _ rfl (wd_lt h1.s1 r) v z
  have h3 : 1000 * 3000 ^ (wd s r).length ≤ 1000 * 3000 ^ 6 := Nat.mul_le_mul_left _ (Nat.pow_le_pow_right (by decide) hd)
  exact Nat.lt_of_le_of_lt (Nat.le_trans this h3) (by decide)
def FirstUn (s : Nat) (V W : WD) : Option Nat → Prop
  | none => ∀ r, vl V (wd s r) = vl W (wd s r)
  | some r => vl V (wd s r) ≠ vl W (wd s r) ∧ ∀ u, u < r → vl V (wd s u) = vl W (wd s u)
theorem FirstUn.uniq {s : Nat} {V W : WD} {o o' : Option Nat} (h : FirstUn s V W o) (h' : FirstUn s V W o') : o = o' := by
  cases o with
  | none =>
    cases o' with
    | none => rfl
    | some r => exact absurd (h r) h'.1
  | some r =>
    cases o' with
    | none => exact absurd (h' r) h.1
    | some r' =>
      have a1 := h.2 r'
      have a2 := h'.2 r
      have : r = r' := by
        rcases Nat.lt_trichotomy r r' with z | z | z
        · exact absurd (a2 z) h.1
        · exact z
        · exact absurd (a1 z) h'.1
      rw [this]
def firstOf (s B : Nat) (V W : WD) : Option Nat := ((List.range B).filter fun r => !decide (vl V (wd s r) = vl W (wd s r))).head?
theorem firstOf_is {s B : Nat} {V W : WD} {o : Option Nat} (h : FirstUn s V W o) (hb : ∀ r, o = some r → r < B) : firstOf s B V W = o := by
  unfold firstOf
  rw [List.head?_filter]
  cases o with
  | none =>
    rw [List.find?_eq_none]
    intro r _
    simp [h r]
  | some r =>
    rw [List.find?_range_eq_some]
    refine ⟨by simpa using h.1, List.mem_range.mpr (hb r rfl), fun j hj => by simp [h.2 j hj]⟩
/-! the others that keep the values -/
def turnB (j k : Nat) (t : Int) (b : List Int) : List Int := b.set k (b.getD k 0 + t * b.getD j 0)
def turnG (j k : Nat) (t : Int) (g : List Int) : List Int := g.set j (g.getD j 0 - t * g.getD k 0)
def turnR (j k : Nat) (t : Int) (rows : List (List Int)) : List (List Int) := (rows.map (turnB j k t)).set j (List.zipWith (fun o u => o - t * u) ((rows.map (turnB j k t)).getD j []) ((rows.map (turnB j k t)).getD k []))
def turnW (j k : Nat) (t : Int) (W : WD) : WD := ⟨turnB j k t W.b, W.T.map (turnR j k t), turnG j k t W.g⟩
theorem getD_map {α β : Type} (f : α → β) (l : List α) (d : α) (e : β) (i : Nat) (h : i < l.length) : (l.map f).getD i e = f (l.getD i d) := by
  simp [List.getD_eq_getElem?_getD, h]
theorem two_of {α : Type} {l : List α} (h : l.length = 2) : ∃ a b, l = [a, b] := by
  match l, h with
  | [a, b], _ => exact ⟨a, b, rfl⟩
theorem one_of {α : Type} {l : List α} (h : l.length = 1) : ∃ a, l = [a] := by
  match l, h with
  | [a], _ => exact ⟨a, rfl⟩
theorem run_rel {s : Nat} {V W : WD} (R : List Int → List Int → Prop) (h0 : R V.b W.b) (h1 : ∀ c x z, c < s → R x z → R (movedL x (V.T.getD c [])) (movedL z (W.T.getD c []))) : ∀ (k : Nat) (w : List Nat), w.length = k → (∀ c ∈ w, c < s) → R (run V w) (run W w) := by
  intro k
  induction k with
  | zero =>
    intro w hl _
    rw [List.length_eq_zero_iff.mp hl]
    exact h0
  | succ k ih =>
    intro w hl hw
    rcases snoc_or w with z | ⟨u, c, z⟩
    · rw [z] at hl; simp at hl
    · subst z
      rw [run_snoc, run_snoc]
      exact h1 c _ _ (hw c (by simp)) (ih u (by simpa using hl) fun d hd => hw d (by simp [hd]))
theorem tab2 {s c : Nat} {W : WD} (h : WOk s 2 W) (hc : c < s) : ∃ a b d e, W.T.getD c [] = [[a, b], [d, e]] := by
  have hm := h.tab hc
  obtain ⟨r1, r2, e⟩ := two_of (h.tl _ hm)
  have hr := h.rl _ hm
  rw [e] at hr
  obtain ⟨a, b, e1⟩ := two_of (hr r1 (by simp))
  obtain ⟨d, f, e2⟩ := two_of (hr r2 (by simp))
  exact ⟨a, b, d, f, by rw [e, e1, e2]⟩
theorem tab1 {s c : Nat} {W : WD} (h : WOk s 1 W) (hc : c < s) : ∃ a, W.T.getD c [] = [[a]] := by
  have hm := h.tab hc
  obtain ⟨r1, e⟩ := one_of (h.tl _ hm)
  have hr := h.rl _ hm
  rw [e] at hr
  obtain ⟨a, e1⟩ := one_of (hr r1 (by simp))
  exact ⟨a, by rw [e, e1]⟩
theorem r2 : List.range 2 = [0, 1] := rfl
theorem r1 : List.range 1 = [0] := rfl
theorem r3 : List.range 3 = [0, 1, 2] := rfl
theorem turn_vl {s j k : Nat} {t : Int} {W : WD} (h : WOk s 2 W) (hj : j < 2) (hk : k < 2) (hjk : j ≠ k) (w : List Nat) (hw : ∀ c ∈ w, c < s) : vl (turnW j k t W) w = vl W w := by
  have key : ∃ x0 x1, run W w = [x0, x1] ∧ run (turnW j k t W) w = turnB j k t [x0, x1] := by
    refine run_rel (V := W) (W := turnW j k t W) (fun x z => ∃ x0 x1, x = [x0, x1] ∧ z = turnB j k t [x0, x1]) ?_ ?_ _ w rfl hw
    · obtain ⟨a, b, e⟩ := two_of h.bl
      exact ⟨a, b, e, by show turnB j k t W.b = _; rw [e]⟩
    · rintro c x z hc ⟨x0, x1, rfl, rfl⟩
      obtain ⟨a, b, d, f, e⟩ := tab2 h hc
      have hcl : c < W.T.length := by rw [h.Tl]; exact hc
      show ∃ y0 y1, _ ∧ movedL _ ((W.T.map (turnR j k t)).getD c []) = _
      rw [getD_map _ _ [] _ _ hcl, e]
      have cs : (j = 0 ∧ k = 1) ∨ (j = 1 ∧ k = 0) := by omega
      rcases cs with ⟨rfl, rfl⟩ | ⟨rfl, rfl⟩
      · refine ⟨_, _, by simp [movedL, r2, col, dotL]; exact ⟨rfl, rfl⟩, ?_⟩
        simp [movedL, turnR, turnB, col, dotL, r2]
        constructor <;> grind
      · refine ⟨_, _, by simp [movedL, r2, col, dotL]; exact ⟨rfl, rfl⟩, ?_⟩
        simp [movedL, turnR, turnB, col, dotL, r2]
        constructor <;> grind
  obtain ⟨x0, x1, e1, e2⟩ := key
  obtain ⟨g0, g1, eg⟩ := two_of h.gl
  unfold vl
  rw [e1, e2]
  show dotL _ (turnG j k t W.g) = _
  rw [eg]
  have cs : (j = 0 ∧ k = 1) ∨ (j = 1 ∧ k = 0) := by omega
  rcases cs with ⟨rfl, rfl⟩ | ⟨rfl, rfl⟩
  · simp [turnB, turnG, dotL]; grind
  · simp [turnB, turnG, dotL]; grind
def shareB (j : Nat) (p : Int) (b : List Int) : List Int := b.take j ++ [b.getD j 0 - p] ++ b.drop (j + 1) ++ [p]
def shareR (j : Nat) (t : List (List Int)) : List (List Int) := t.map (fun r => r ++ [0]) ++ [t.getD j [] ++ [0]]
def shareW (j : Nat) (p : Int) (W : WD) : WD := ⟨shareB j p W.b, W.T.map (shareR j), W.g ++ [W.g.getD j 0]⟩
theorem share_vl {s n j : Nat} {p : Int} {W : WD} (h : WOk s n W) (hn : n ≤ 2) (hj : j < n) (w : List Nat) (hw : ∀ c ∈ w, c < s) : vl (shareW j p W) w = vl W w := by
  have hn1 := h.n1
  have cs : n = 1 ∧ j = 0 ∨ n = 2 ∧ (j = 0 ∨ j = 1) := by omega
  clear hj
  rcases cs with ⟨rfl, rfl⟩ | ⟨rfl, hj⟩
  · have key : ∃ x0 q, run W w = [x0] ∧ run (shareW 0 p W) w = [x0 - q, q] := by
      refine run_rel (V := W) (W := shareW 0 p W) (fun x z => ∃ x0 q, x = [x0] ∧ z = [x0 - q, q]) ?_ ?_ _ w rfl hw
      · obtain ⟨a, e⟩ := one_of h.bl
        exact ⟨a, p, e, by show shareB 0 p W.b = _; rw [e]; simp [shareB]⟩
      · rintro c x z hc ⟨x0, q, rfl, rfl⟩
        obtain ⟨a, e⟩ := tab1 h hc
        have hcl : c < W.T.length := by rw [h.Tl]; exact hc
        show ∃ y0 y1, _ ∧ movedL _ ((W.T.map (shareR 0)).getD c []) = _
        rw [getD_map _ _ [] _ _ hcl, e]
        refine ⟨_, 0, by simp [movedL, r1, col, dotL]; exact rfl, ?_⟩
        simp [movedL, shareR, col, dotL, r2]
        grind
    obtain ⟨x0, q, e1, e2⟩ := key
    obtain ⟨g0, eg⟩ := one_of h.gl
    unfold vl
    rw [e1, e2]
    show dotL _ (W.g ++ [W.g.getD 0 0]) = _
    rw [eg]
    simp [dotL]; grind
  · have key : ∃ x0 x1 q, run W w = [x0, x1] ∧ run (shareW j p W) w = shareB j q [x0, x1] := by
      refine run_rel (V := W) (W := shareW j p W) (fun x z => ∃ x0 x1 q, x = [x0, x1] ∧ z = shareB j q [x0, x1]) ?_ ?_ _ w rfl hw
      · obtain ⟨a, b, e⟩ := two_of h.bl
        exact ⟨a, b, p, e, by show shareB j p W.b = _; rw [e]⟩
      · rintro c x z hc ⟨x0, x1, q, rfl, rfl⟩
        obtain ⟨a, b, d, f, e⟩ := tab2 h hc
        have hcl : c < W.T.length := by rw [h.Tl]; exact hc
        show ∃ y0 y1 q, _ ∧ movedL _ ((W.T.map (shareR j)).getD c []) = _
        rw [getD_map _ _ [] _ _ hcl, e]
        rcases hj with rfl | rfl
        · refine ⟨_, _, 0, by simp [movedL, r2, col, dotL]; exact ⟨rfl, rfl⟩, ?_⟩
          simp [movedL, shareR, shareB, col, dotL, r3]
          constructor <;> grind
        · refine ⟨_, _, 0, by simp [movedL, r2, col, dotL]; exact ⟨rfl, rfl⟩, ?_⟩
          simp [movedL, shareR, shareB, col, dotL, r3]
          constructor <;> grind
    obtain ⟨x0, x1, q, e1, e2⟩ := key
    obtain ⟨g0, g1, eg⟩ := two_of h.gl
    unfold vl
    rw [e1, e2]
    show dotL _ (W.g ++ [W.g.getD j 0]) = _
    rw [eg]
    rcases hj with rfl | rfl
    · simp [shareB, dotL]; grind
    · simp [shareB, dotL]; grind
end K53

set_option Elab.async false
set_option linter.all false
set_option maxRecDepth 100000
set_option maxHeartbeats 4000000
/-! K53w: the walk, rows of numbers. -/
namespace K53
open PySem PySem.Spec PyProof.Rows L2 DV
def topS (i : Nat) : Stmt := PySem.Challenge.pw_standreaders_k53_whole_same_values.main.body.getD i (.Pass ⟨0, 0, 0, 0⟩)
/-- the names of the module's own that are built-ins -/
structure Bl (mg : Str → Option Value) : Prop where
  abs : mg "abs" = none
  all : mg "all" = none
  bool : mg "bool" = none
  divmod : mg "divmod" = none
  enum : mg "enumerate" = none
  int : mg "int" = none
  isin : mg "isinstance" = none
  len : mg "len" = none
  list : mg "list" = none
  max : mg "max" = none
  min : mg "min" = none
  range : mg "range" = none
  sum : mg "sum" = none
  tuple : mg "tuple" = none
  zip : mg "zip" = none
abbrev sShared : Stmt := topS 15
theorem scShared : FnScope ["one", "two"] ["one", "two"] (defScope sShared) := ⟨rfl, rfl, rfl, by decide +kernel, rfl, by decide +kernel, by decide +kernel⟩
def cShared : Ct := fun ds M Pq => ∃ a b : Int, ds = [.int a, .int b] ∧ M = [] ∧ Pq (.int (Nat.gcd a.natAbs b.natAbs : Nat)) []
abbrev sReduced : Stmt := topS 16
theorem scReduced : FnScope ["row", "basis", "place", "other", "part", "number", "less"] ["row", "basis"] (defScope sReduced) := ⟨rfl, rfl, rfl, by decide +kernel, rfl, by decide +kernel, by decide +kernel⟩
abbrev encB (x : Nat × List Int) : D := .tup [.int (x.1 : Nat), lI x.2]
abbrev basisD (B : List (Nat × List Int)) : D := .lst (B.map encB)
structure RedOk (N : Nat) (r : List Int) (B : List (Nat × List Int)) : Prop where
  n : N ≤ 1000
  rl : r.length = N
  bl : B.length ≤ 1000
  p : ∀ x ∈ B, x.1 < N
  l : ∀ x ∈ B, x.2.length = N
  b : ∀ x ∈ B, Bnd 4000 x.2
  i : ∀ A C, B = A ++ C → Bnd 4000 (redB r A)
def cReduced : Ct := fun ds M Pq => ∃ N r B, ds = [lI r, basisD B] ∧ M = [] ∧ RedOk N r B ∧ Pq (lI (redB r B)) []
abbrev sSharedBy : Stmt := topS 17
theorem scSharedBy : FnScope ["row", "found", "number"] ["row"] (defScope sSharedBy) := ⟨rfl, rfl, rfl, by decide +kernel, rfl, by decide +kernel, by decide +kernel⟩
def cSharedBy : Ct := fun ds M Pq => ∃ r : List Int, ds = [lI r] ∧ M = [] ∧ Pq (.int (gcdA r : Nat)) []
abbrev sJoined : Stmt := topS 18
theorem scJoined : FnScope ["row", "basis", "rest", "places", "place", "number"] ["row", "basis"] (defScope sJoined) := ⟨rfl, rfl, rfl, by decide +kernel, rfl, by decide +kernel, by decide +kernel⟩
def cJoined : Ct := fun ds M Pq => ∃ N r B, ds = [lI r, basisD B] ∧ M = [] ∧ RedOk N r B ∧ (redB r B).length = N ∧ ((∀ v ∈ redB r B, v = 0) → Pq (.tup [basisD B, .bl false]) []) ∧ ∀ p, p < N → (redB r B).getD p 0 ≠ 0 → Pq (.tup [basisD (B ++ [(p, redB r B)]), .bl true]) []
abbrev sMoved : Stmt := topS 26
theorem scMoved : FnScope ["numbers", "table", "place", "number", "row"] ["numbers", "table"] (defScope sMoved) := ⟨rfl, rfl, rfl, by decide +kernel, rfl, by decide +kernel, by decide +kernel⟩
structure TabOk (t : List (List Int)) : Prop where
  few : t.length ≤ 1000
  sq : ∀ r ∈ t, r.length = t.length
  sm : ∀ r ∈ t, ∀ v ∈ r, v.natAbs ≤ 1000
def cMoved : Ct := fun ds M Pq => ∃ xs t, ds = [lI xs, tTI t] ∧ M = [] ∧ TabOk t ∧ Pq (lI (movedL xs t)) []
abbrev sWeighed : Stmt := topS 27
theorem scWeighed : FnScope ["numbers", "goals", "number", "goal"] ["numbers", "goals"] (defScope sWeighed) := ⟨rfl, rfl, rfl, by decide +kernel, rfl, by decide +kernel, by decide +kernel⟩
def cWeighed : Ct := fun ds M Pq => ∃ xs gs : List Int, ds = [lI xs, lI gs] ∧ M = [] ∧ gs.length ≤ 1000 ∧ (∀ g ∈ gs, g.natAbs ≤ 1000) ∧ Pq (.int (dotL xs gs)) []
theorem cmul_r {i j : Int} (h : j.natAbs ≤ 1000) : CMul i j := .inr ⟨by omega, by omega⟩
theorem comb_zip (p q : Int) : ∀ r o : List Int, (comb p q r o).map D.int = (r.zip o).map fun z => D.int (z.1 * p - z.2 * q)
  | [], _ => by simp [comb]
  | _ :: _, [] => by simp [comb]
  | a :: r, b :: o => by
    have := comb_zip p q r o
    simp only [comb] at this
    simp [comb, this]
theorem bnd_mul {a b : Nat} {i j : Int} (h1 : i.natAbs < 2 ^ 4000) (h2 : j.natAbs < 2 ^ 4000) : CMulW i j := wide_mul h1 h2 (by decide) (by decide) (by decide)
section
variable {P : Program} {w : World} {K : PySem.W.Frag} {mg : Str → Option Value} {base : Heap}
theorem ok_shared {f : Addr} {fd : FuncData} (F : Fun K "shared" "shared" sShared f fd) (hm : mg "shared" = some (.ref f)) (hb : Binds K fd ["one", "two"] []) (L : Bl mg) : FnD P w K mg base 1 "shared" ["one", "two"] cShared := by
  refine fnD_of F hm hb scShared (fun ds M Pq ⟨a, b, e, _⟩ => by rw [e]; rfl) fun X B ds M Pq h => ?_
  obtain ⟨a, b, rfl, rfl, q⟩ := h
  refine dss_cons (ds_par B 0 1 (de_abs B L.abs (de_name B 0 rfl ⟨_, rfl, de_abs B L.abs (de_name B 1 rfl ⟨_, rfl, ?_⟩)⟩)))
  rw [absI, absI]
  refine dss_cons (ds_while B (fun m ρ M => ∃ x y : Nat, ρ = [some (.int x), some (.int y)] ∧ M = [] ∧ m = y ∧ Nat.gcd x y = Nat.gcd a.natAbs b.natAbs) _ ⟨a.natAbs, b.natAbs, rfl, rfl, rfl, rfl⟩ ?_)
  rintro m ρ1 M1 ⟨x, y, rfl, rfl, hm, hg⟩
  refine dt_neI (de_name B 1 rfl (de_int ⟨_, _, rfl, rfl, fun ht => ?_, fun hf => ?_⟩))
  · have hy : 0 < y := by
      have : (y : Int) ≠ 0 := by simpa using ht
      omega
    refine dss_one (ds_par B 0 1 (de_name B 1 rfl (de_mod (de_name B 0 rfl (de_name B 1 rfl ⟨_, _, rfl, rfl, by omega, x % y, by rw [hm]; exact Nat.mod_lt _ hy, y, x % y, rfl, rfl, rfl, ?_⟩)))))
    rw [← hg, Nat.gcd_comm x y, Nat.gcd_rec y x, Nat.gcd_comm]
  · have hy : y = 0 := by
      have : (y : Int) = 0 := by simpa using hf
      omega
    refine dss_one (ds_ret (de_name B 0 rfl ?_))
    rw [hy, Nat.gcd_zero_right] at hg
    rw [hg]
    exact q
theorem ok_sharedBy {f : Addr} {fd : FuncData} (F : Fun K "shared_by" "shared_by" sSharedBy f fd) (hm : mg "shared_by" = some (.ref f)) (hb : Binds K fd ["row"] []) (L : Bl mg) (Fs : FnD P w K mg base 1 "shared" ["one", "two"] cShared) : FnD P w K mg base 2 "shared_by" ["row"] cSharedBy := by
  refine fnD_of F hm hb scSharedBy (fun ds M Pq ⟨a, e, _⟩ => by rw [e]; rfl) fun X B ds M Pq h => ?_
  obtain ⟨r, rfl, rfl, q⟩ := h
  refine dss_cons (ds_set B 1 (de_int ?_))
  refine dss_cons (ds_for B [2] (di_lst (de_name B 0 rfl ⟨_, .inl rfl, fun i ρ M => ∃ x, ρ = [some (lI r), some (.int (gcdF 0 (r.take i) : Nat)), x] ∧ M = [], ⟨none, rfl, rfl⟩, fun i d ρ2 M2 hd ⟨x, er, em⟩ => ⟨trivial, ?_⟩, fun ρ2 M2 ⟨x, er, em⟩ => ⟨trivial, ?_⟩⟩)))
  · subst er; subst em
    obtain ⟨n, hn, rfl⟩ : ∃ n, r[i]? = some n ∧ D.int n = d := by
      rw [List.getElem?_map] at hd
      cases e : r[i]? with
      | none => rw [e] at hd; cases hd
      | some n => rw [e] at hd; exact ⟨n, rfl, Option.some.inj hd⟩
    have e1 : gcdF 0 (r.take (i + 1)) = Nat.gcd (gcdF 0 (r.take i)) n.natAbs := by
      rw [List.take_add_one, hn]
      simp [gcdF]
    refine dg_name B 2 ?_
    refine dss_one (ds_set B 1 (de_if (dw_t (dw_or (dt_neI (de_name B 1 rfl (de_int ⟨_, _, rfl, rfl, fun h0 => dw_or1 (dt_neI (de_name B 2 rfl (de_int ⟨_, _, rfl, rfl, fun _ => de_call B Fs (da_two (de_name B 1 rfl (de_name B 2 rfl (cac0 ⟨_, _, rfl, rfl, some (.int n), by rw [e1]; rfl, rfl⟩)))), fun h1 => de_int ?_⟩))), fun _ => ⟨fun _ => de_call B Fs (da_two (de_name B 1 rfl (de_name B 2 rfl (cac0 ⟨_, _, rfl, rfl, some (.int n), by rw [e1]; rfl, rfl⟩)))), fun h => nomatch h⟩⟩)))))))
    refine ⟨some (.int n), ?_, rfl⟩
    have g0 : ((gcdF 0 (r.take i) : Nat) : Int) = 0 := by simpa using h0
    have n0 : n = 0 := by simpa using h1
    rw [e1, n0, show gcdF 0 (r.take i) = 0 by omega]
    rfl
  · subst er; subst em
    refine dss_one (ds_ret (de_name B 1 rfl ?_))
    rw [List.length_map, List.take_length]
    exact q
theorem ok_weighed {f : Addr} {fd : FuncData} (F : Fun K "weighed" "weighed" sWeighed f fd) (hm : mg "weighed" = some (.ref f)) (hb : Binds K fd ["numbers", "goals"] []) (L : Bl mg) : FnD P w K mg base 1 "weighed" ["numbers", "goals"] cWeighed := by
  refine fnD_of F hm hb scWeighed (fun ds M Pq ⟨xs, t, e, _⟩ => by rw [e]; rfl) fun X B ds M Pq h => ?_
  obtain ⟨xs, gs, rfl, rfl, hl, hg, q⟩ := h
  refine dss_one (ds_ret (de_sum B L.sum (DN.fz (dn_lc B (own := [("number", 2), ("goal", 3)]) (js := [2, 3]) (di_zip B L.zip (de_name B 0 rfl (de_name B 1 rfl ⟨_, _, .inl rfl, .inl rfl, ?_⟩)))))))
  rw [zipD_map]
  refine lc_map2 2 3 (xs.zip gs) (fun p => .int p.1) (fun p => .int p.2) (fun p => .int (p.1 * p.2)) (by rw [List.length_zip]; omega) (fun p hp X' B' Z z => ?_) ?_
  · exact de_mul (de_name B' 2 rfl (de_name B' 3 rfl ⟨_, _, rfl, rfl, cmul_r (hg _ (List.of_mem_zip hp).2), z⟩))
  · refine ⟨(xs.zip gs).map fun p => p.1 * p.2, ?_, ?_⟩
    · rw [List.map_map]; exact .f
    · rw [dotL_zip]; exact q
theorem ok_moved {f : Addr} {fd : FuncData} (F : Fun K "moved" "moved" sMoved f fd) (hm : mg "moved" = some (.ref f)) (hb : Binds K fd ["numbers", "table"] []) (L : Bl mg) : FnD P w K mg base 1 "moved" ["numbers", "table"] cMoved := by
  refine fnD_of F hm hb scMoved (fun ds M Pq ⟨xs, t, e, _⟩ => by rw [e]; rfl) fun X B ds M Pq h => ?_
  obtain ⟨xs, t, rfl, rfl, ht, q⟩ := h
  have few := ht.few
  refine dss_one (ds_ret (DN.fz (dn_lc B (own := [("place", 2)]) (js := [2]) (di_rng1 B L.range (de_len B L.len (de_name B 1 rfl ⟨t.length, .inr (.inl ⟨_, rfl, by simp⟩), _, rfl, by omega, by omega, ?_⟩))))))
  refine lc_map1 2 (List.range t.length) (fun j => .int (0 + (j : Int))) (fun j => .int (dotL xs (col t j))) (by simp; omega) (fun j hj X' B' Z z => ?_) ?_
  · refine de_sum B' L.sum (DN.fz (dn_lc B' (own := [("number", 3), ("row", 4)]) (js := [3, 4]) (di_zipLT B' L.zip (de_name B' 0 rfl (de_name B' 1 rfl ⟨_, _, .inl rfl, rfl, ?_⟩)))))
    rw [zipD_map]
    refine lc_map2 3 4 (xs.zip t) (fun p => .int p.1) (fun p => tI p.2) (fun p => .int (p.1 * p.2.getD j 0)) (by rw [List.length_zip]; omega) (fun p hp X' B' Z z => ?_) ?_
    · have hr := (List.of_mem_zip hp).2
      have hjl : j < p.2.length := by rw [ht.sq _ hr]; exact List.mem_range.mp hj
      refine de_mul (de_name B' 3 rfl (de_ixT (de_name B' 4 rfl (de_name B' 2 rfl ⟨_, _, .int (p.2.getD j 0), rfl, rfl, ?_, _, _, rfl, rfl, cmul_r ?_, z⟩))))
      · rw [Int.zero_add]; exact at_int hjl
      · exact ht.sm _ hr _ (List.mem_of_getElem? (getD_some hjl))
    · refine ⟨(xs.zip t).map fun p => p.1 * p.2.getD j 0, ?_, ?_⟩
      · rw [List.map_map]; exact .f
      · have e : ((xs.zip t).map fun p => p.1 * p.2.getD j 0).sum = dotL xs (col t j) := by
          rw [← dotL_zip]
          unfold col
          rw [List.zip_map_right, List.map_map]
          rfl
        rw [e]
        exact z
  · have e : (List.range t.length).map (fun j => D.int (dotL xs (col t j))) = (movedL xs t).map .int := by
      unfold movedL
      rw [List.map_map]
      rfl
    rw [e]
    exact q
theorem ok_reduced {f : Addr} {fd : FuncData} (F : Fun K "reduced" "reduced" sReduced f fd) (hm : mg "reduced" = some (.ref f)) (hb : Binds K fd ["row", "basis"] []) (L : Bl mg) (Fs : FnD P w K mg base 2 "shared_by" ["row"] cSharedBy) : FnD P w K mg base 3 "reduced" ["row", "basis"] cReduced := by
  refine fnD_of F hm hb scReduced (fun ds M Pq ⟨_, a, b, e, _⟩ => by rw [e]; rfl) fun X B ds M Pq h => ?_
  obtain ⟨N, r, Bs, rfl, rfl, ok, q⟩ := h
  have okn := ok.n
  refine dss_cons (ds_for B [2, 3] (di_lst (de_name B 1 rfl ⟨_, .inl rfl, fun i ρ M => ∃ a b c, ρ = [some (lI (redB r (Bs.take i))), some (basisD Bs), a, b, c, none, none] ∧ (redB r (Bs.take i)).length = N ∧ M = [], ⟨none, none, none, rfl, ok.rl, rfl⟩, fun i d ρ2 M2 hd ⟨a, b, c, er, hl, em⟩ => ⟨trivial, ?_⟩, fun ρ2 M2 ⟨a, b, c, er, hl, em⟩ => ⟨trivial, ?_⟩⟩)))
  · subst er; subst em
    obtain ⟨x, hx, rfl⟩ : ∃ x, Bs[i]? = some x ∧ encB x = d := by
      rw [List.getElem?_map] at hd
      cases e : Bs[i]? with
      | none => rw [e] at hd; cases hd
      | some n => rw [e] at hd; exact ⟨n, rfl, Option.some.inj hd⟩
    have hxm := List.mem_of_getElem? hx
    have hp := ok.p x hxm
    have hxl := ok.l x hxm
    have e1 : redB r (Bs.take (i + 1)) = redStep (redB r (Bs.take i)) x := by
      rw [List.take_add_one, hx]
      exact redB_snoc _ _ _
    have hbr : Bnd 4000 (redB r (Bs.take i)) := ok.i _ (Bs.drop i) (List.take_append_drop i Bs).symm
    have hbx := ok.b x hxm
    dsimp only
    rw [e1]
    revert hl hbr
    generalize redB r (Bs.take i) = y
    intro hl hbr
    have hl1 : (redStep y x).length = N := by rw [redStep_len (hl.trans hxl.symm)]; exact hl
    refine dg_tup B (dgs_cons (dg_name B 2 (dgs_cons (dg_name B 3 (dgs_nil ?_)))))
    refine dss_one (ds_if (dt_neI (de_ixL (de_name B 0 rfl (de_name B 2 rfl ⟨_, _, _, .f, rfl, at_int (by omega), de_int ⟨_, _, rfl, rfl, fun ht => ?_, fun hf => ?_⟩⟩)))))
    · have hne : y.getD x.1 0 ≠ 0 := by simpa using ht
      have e2 : redStep y x = byGcd (comb (x.2.getD x.1 0) (y.getD x.1 0) y x.2) := by unfold redStep; rw [if_pos hne]
      refine dss_cons (ds_setC B 0 (DN.fz (dn_lc B (own := [("part", 4), ("less", 6)]) (js := [4, 6]) (di_zip B L.zip (de_name B 0 rfl (de_name B 3 rfl ⟨_, _, .inl rfl, .inl rfl, ?_⟩))))))
      rw [zipD_map]
      refine lc_map2 4 6 (y.zip x.2) (fun p => .int p.1) (fun p => .int p.2) (fun p => .int (p.1 * x.2.getD x.1 0 - p.2 * y.getD x.1 0)) (by rw [List.length_zip]; omega) (fun p hp X' B' Z z => ?_) ?_
      · obtain ⟨m1, m2⟩ := List.of_mem_zip hp
        exact de_sub (de_mulW (de_name B' 4 rfl (de_ixL (de_name B' 3 rfl (de_name B' 2 rfl ⟨_, _, _, .f, rfl, at_int (by omega), _, _, rfl, rfl, wide_mul (hbr _ m1) (hbx.getD _) (by decide) (by decide) (by decide),
          de_mulW (de_name B' 6 rfl (de_ixL (de_name B' 0 rfl (de_name B' 2 rfl ⟨_, _, _, .f, rfl, at_int (by omega), _, _, rfl, rfl, wide_mul (hbx _ m2) (hbr.getD _) (by decide) (by decide) (by decide), _, _, rfl, rfl, z⟩))))⟩)))))
      · rw [← comb_zip]
        have hcb : Bnd 8001 (comb (x.2.getD x.1 0) (y.getD x.1 0) y x.2) := comb_bnd hbr hbx
        have hcl : (comb (x.2.getD x.1 0) (y.getD x.1 0) y x.2).length = N := by rw [comb_len (hl.trans hxl.symm)]; exact hl
        rw [e2]
        rw [e2] at hl1
        revert hcb hcl hl1
        generalize comb (x.2.getD x.1 0) (y.getD x.1 0) y x.2 = u
        intro hl1 hcb hcl
        refine dss_cons (ds_set B 4 (de_call B Fs (da_one (de_name B 0 rfl (cac0 ⟨_, rfl, rfl, ?_⟩)))))
        refine dss_one (ds_set B 0 (de_if (dt_I op_gt (de_name B 4 rfl (de_int ⟨_, _, rfl, rfl, fun h1 => ?_, fun h1 => de_name B 0 rfl ?_⟩)))))
        · have hg : 1 < gcdA u := by
            have : (1 : Int) < (gcdA u : Nat) := by simpa using h1
            omega
          have e3 : byGcd u = u.map (· / (gcdA u : Int)) := by unfold byGcd; rw [if_pos hg]
          have hgb : gcdA u < 2 ^ 8001 := by
            rcases Nat.eq_zero_or_pos (gcdA u) with z | z
            · omega
            · obtain ⟨v, hv, h0⟩ : ∃ v ∈ u, v ≠ 0 := by
                rcases Classical.em (∃ v ∈ u, v ≠ 0) with h | h
                · exact h
                · exfalso
                  have hz : ∀ v ∈ u, v = 0 := fun v hv => Classical.byContradiction fun hn => h ⟨v, hv, hn⟩
                  have : ∀ (l : List Int), (∀ v ∈ l, v = 0) → gcdF 0 l = 0 := by
                    intro l
                    induction l with
                    | nil => exact fun _ => rfl
                    | cons a l ih =>
                      intro hl
                      have := ih fun v hv => hl v (List.mem_cons_of_mem _ hv)
                      rw [hl a List.mem_cons_self]
                      exact this
                  have := this u hz
                  unfold gcdA at z
                  omega
              exact Nat.lt_of_le_of_lt (Nat.le_of_dvd (by omega) ((gcdF_dvd u 0).2 v hv)) (hcb v hv)
          refine DN.fz (dn_lc B (own := [("number", 5)]) (js := [5]) (di_lst (de_name B 0 rfl ⟨_, .inl rfl, ?_⟩)))
          refine lc_map1 5 u (fun v => .int v) (fun v => .int (v / (gcdA u : Int))) (by omega) (fun v hv X' B' Z z => ?_) ?_
          · exact de_fdivW (de_name B' 5 rfl (de_name B' 4 rfl ⟨_, _, rfl, rfl, wide_div (b := 8001) (by omega) hgb (by decide) (by decide), z⟩))
          · have e4 : (u.map fun v => D.int (v / (gcdA u : Int))) = (byGcd u).map D.int := by rw [e3, List.map_map]; rfl
            exact ⟨_, _, _, by rw [e4]; rfl, hl1, rfl⟩
        · have hg : ¬ 1 < gcdA u := by
            have : ¬ (1 : Int) < (gcdA u : Nat) := by simpa using h1
            omega
          have e3 : byGcd u = u := by unfold byGcd; rw [if_neg hg]
          exact ⟨_, _, _, by rw [e3]; rfl, hl1, rfl⟩
    · have hne : ¬ y.getD x.1 0 ≠ 0 := by simpa using hf
      have e2 : redStep y x = y := by unfold redStep; rw [if_neg hne]
      rw [e2]
      exact dss_nil ⟨_, _, _, rfl, hl, rfl⟩
  · subst er; subst em
    refine dss_one (ds_ret (de_name B 0 rfl ?_))
    rw [List.length_map, List.take_length]
    exact q
theorem ok_joined {f : Addr} {fd : FuncData} (F : Fun K "joined" "joined" sJoined f fd) (hm : mg "joined" = some (.ref f)) (hb : Binds K fd ["row", "basis"] []) (L : Bl mg) (Fs : FnD P w K mg base 3 "reduced" ["row", "basis"] cReduced) : FnD P w K mg base 4 "joined" ["row", "basis"] cJoined := by
  refine fnD_of F hm hb scJoined (fun ds M Pq ⟨_, a, b, e, _⟩ => by rw [e]; rfl) fun X B ds M Pq h => ?_
  obtain ⟨N, r, Bs, rfl, rfl, ok, hl, q0, q1⟩ := h
  have okn := ok.n
  have okb := ok.bl
  have rl := ok.rl
  refine dss_cons (ds_set B 2 (de_call B Fs (da_two (DN.fz (dn_list B L.list (de_name B 0 rfl ⟨_, .inl .f, de_name B 1 rfl (cac0 ⟨N, r, Bs, rfl, rfl, ok, ?_⟩)⟩))))))
  revert hl q0 q1
  generalize redB r Bs = y
  intro hl q0 q1
  have eI : ((y.map D.int).zipIdx.map fun q => D.tup [.int (q.2 : Int), q.1]) = y.zipIdx.map fun q => D.tup [.int (q.2 : Int), .int q.1] := by
    rw [List.zipIdx_map, List.map_map]
    rfl
  refine dss_cons (ds_setLcF B 3 (own := [("place", 4), ("number", 5)]) (js := [4, 5]) (di_enum B L.enum (de_name B 2 rfl ⟨_, .inl rfl, ?_⟩)))
  rw [eI]
  refine lc_filt y.zipIdx (fun q => .tup [.int (q.2 : Int), .int q.1]) (fun q => .int (q.2 : Int)) (fun q => !decide (q.1 = 0)) (fun q => [some (lI r), some (basisD Bs), some (lI y), none, some (.int (q.2 : Int)), some (.int q.1)]) (by simp; omega) (fun q hq X' B' Zt z => ?_) (fun q hq X' B' Zt z => ?_) (fun q hq hn X' B' Zt z => ?_) ?_
  · exact dg_tup B' (dgs_cons (dg_name B' 4 (dgs_cons (dg_name B' 5 (dgs_nil z)))))
  · exact dt_neI (de_name B' 5 rfl (de_int ⟨_, _, rfl, rfl, z⟩))
  · exact de_name B' 4 rfl z
  · have hps : ∀ p, p ∈ ((y.zipIdx.filter fun q => !decide (q.1 = 0)).map (·.2)) ↔ ∃ v, y[p]? = some v ∧ v ≠ 0 := fun p => by
      constructor
      · intro h
        obtain ⟨q, hq, rfl⟩ := List.mem_map.mp h
        obtain ⟨h1, h2⟩ := List.mem_filter.mp hq
        exact ⟨q.1, List.mk_mem_zipIdx_iff_getElem?.mp h1, by simpa using h2⟩
      · rintro ⟨v, hv, hn⟩
        exact List.mem_map.mpr ⟨(v, p), List.mem_filter.mpr ⟨List.mk_mem_zipIdx_iff_getElem?.mpr hv, by simpa using hn⟩, rfl⟩
    rw [show (y.zipIdx.filter fun q => !decide (q.1 = 0)).map (fun q => D.int (q.2 : Int)) = ((y.zipIdx.filter fun q => !decide (q.1 = 0)).map (·.2)).map fun p => D.int (p : Nat) by rw [List.map_map]; rfl]
    revert hps
    generalize (y.zipIdx.filter fun q => !decide (q.1 = 0)).map (·.2) = ps
    intro hps
    have epd : pdDs (ps.map fun p => D.int (p : Nat)) = some ((ps.map fun (p : Nat) => (p : Int)).map PyData.int) := by rw [← pd_ints, List.map_map]; rfl
    refine dss_one (ds_ret (de_if (dt_neD B (de_name B 3 rfl (DN.fz (dn_lst (da_nil ⟨by decide, PyData.list ((ps.map fun (p : Nat) => (p : Int)).map PyData.int), PyData.list [], by rw [pdD, epd]; rfl, by rw [pdD, pdDs]; rfl, PySem.W.ke_shaped_ints _, by decide +kernel, fun h1 => ?_, fun h1 => ?_⟩)))))))
    · match ps, hps with
      | [], _ => simp [PyData.eqv, PyData.eqvAll] at h1
      | p :: ps, hps =>
        obtain ⟨v, hv, hn⟩ := (hps p).mp List.mem_cons_self
        have hpl : p < y.length := (List.getElem?_eq_some_iff.mp hv).1
        refine de_tup (da_two (DN.fz (dn_lst (da_starL (de_name B 1 rfl ⟨_, .f, da_one (de_tup (da_two (de_ixL (de_name B 3 rfl (de_int ⟨_, _, _, .f, rfl, at0, de_name B 2 rfl ⟨by simp, by simp; omega, de_bl ⟨by simp, ?_⟩⟩⟩)))))⟩)))))
        have := q1 p (by omega) (by rw [List.getD_eq_getElem?_getD, hv]; exact hn)
        rw [show basisD (Bs ++ [(p, y)]) = .lst (Bs.map encB ++ [encB (p, y)]) by simp [basisD]] at this
        exact this
    · match ps, hps with
      | [], hps =>
        refine de_tup (da_two (de_name B 1 rfl (de_bl ⟨by simp, q0 fun v hv => ?_⟩)))
        obtain ⟨i, hi, e⟩ := List.mem_iff_getElem.mp hv
        exact Classical.byContradiction fun hn => (nomatch (hps i).mpr ⟨v, by rw [List.getElem?_eq_getElem hi, e], hn⟩)
      | p :: ps, _ => simp [PyData.eqv, PyData.eqvAll] at h1
end
end K53

set_option Elab.async false
set_option linter.all false
set_option maxRecDepth 100000
set_option maxHeartbeats 4000000
/-! K53x: the walk, weighers. -/
namespace DV
open PySem PySem.Spec PyProof.Rows L2
section
variable {X : Cx} {P : Program} {w : World} {K : PySem.W.Frag} {mg : Str → Option Value} {base : Heap} {N : List Str} {sc : Scope} {fn : Str → Bool} {k : Nat} {ρ : Env} {M : Mem} {Z : D → Mem → Prop} {ZT : Bool → Mem → Prop} {Zs : DEnds} {a b c : Expr} {rest : List Expr} {pos : Pos} {body body2 : List Stmt}
theorem dw_orF (h : DT X a ρ M fun x M1 => x = false ∧ DW X (.BoolOp .Or (b :: rest) pos) ρ M1 ZT) : DW X (.BoolOp .Or (a :: b :: rest) pos) ρ M ZT :=
  dw_or (h.imp fun x M1 ⟨e, z⟩ => ⟨fun _ => z, fun h => by rw [e] at h; cases h⟩)
theorem dw_andT (h : DT X a ρ M fun x M1 => x = true ∧ DW X (.BoolOp .And (b :: rest) pos) ρ M1 ZT) : DW X (.BoolOp .And (a :: b :: rest) pos) ρ M ZT :=
  dw_and (h.imp fun x M1 ⟨e, z⟩ => ⟨fun _ => z, fun h => by rw [e] at h; cases h⟩)
theorem de_andT (h : DE X a ρ M fun d M1 => d = .bl true ∧ DE X (.BoolOp .And (b :: rest) pos) ρ M1 Z) : DE X (.BoolOp .And (a :: b :: rest) pos) ρ M Z :=
  de_and (h.imp fun d M1 ⟨e, z⟩ => ⟨true, e, fun _ => z, fun h => nomatch h⟩)
theorem ds_ifF (h : DT X c ρ M fun x M1 => x = false ∧ DSs X body2 ρ M1 Zs) : DS X (.If c body body2 pos) ρ M Zs :=
  ds_if (h.imp fun x M1 ⟨e, z⟩ => ⟨fun h => (by rw [e] at h; cases h), fun _ => z⟩)
theorem ds_ifT (h : DT X c ρ M fun x M1 => x = true ∧ DSs X body ρ M1 Zs) : DS X (.If c body body2 pos) ρ M Zs :=
  ds_if (h.imp fun x M1 ⟨e, z⟩ => ⟨fun _ => z, fun h => by rw [e] at h; cases h⟩)
/-- not (a true value) -/
theorem dt_notT (h : DE X a ρ M fun d M1 => d = .bl true ∧ ZT false M1) (he : ∀ whole, isTrue a X.env whole = (do let v ← whole; standAt a.pos; holding [v] (truthy v)) := by intro _; rfl) : DT X (.UnaryOp .Not a pos) ρ M ZT :=
  dt_not (dt_val (h.imp fun d M1 ⟨e, z⟩ => ⟨true, e, z⟩) he)
end
theorem cut_take {α : Type} (xs : List α) (n : Nat) : cutD xs none (some (n : Int)) = xs.take n := by
  unfold cutD
  rw [HT.sIx_none, HT.sIx_nat]
  simp [List.take_eq_take_iff]
theorem cut_drop {α : Type} (xs : List α) (n : Nat) : cutD xs (some (n : Int)) none = xs.drop n := by
  unfold cutD
  rw [HT.sIx_none, HT.sIx_nat]
  rcases Nat.lt_or_ge n xs.length with h | h
  · rw [Nat.min_eq_left (Nat.le_of_lt h)]
    exact List.take_of_length_le (by simp)
  · rw [Nat.min_eq_right h, Nat.sub_self, List.take_zero, List.drop_eq_nil_of_le h]
end DV
namespace K53
open PySem PySem.Spec PyProof.Rows L2 DV
structure Gs (mg : Str → Option Value) : Prop where
  ms : Cn mg "MOST_SIGNS" (.int 8)
  mz : Cn mg "MOST_SIZE" (.int 6)
  mw : Cn mg "MOST_WEIGHT" (.int 1000)
  al : Cn mg "ALPHABET" (.str "abcdefgh")
structure WC (K : PySem.W.Frag) (mg : Str → Option Value) (C : Addr) : Prop where
  cl : Cls K C
  na : NoAttr K C "parts"
  ins : C8.InsC K C
  mg : mg "Weigher" = some (.ref C)
abbrev partsD (W : WD) : List D := [tI W.b, tTTI W.T, tI W.g]
abbrev wD (C : Addr) (s : Nat) (W : WD) : D := .ins C ["parts"] [.tup [.int (s : Nat), tI W.b, tTTI W.T, tI W.g]]
abbrev sIsNumber : Stmt := topS 11
theorem scIsNumber : FnScope ["value", "low", "high"] ["value", "low", "high"] (defScope sIsNumber) := ⟨rfl, rfl, rfl, by decide +kernel, rfl, by decide +kernel, by decide +kernel⟩
def cIsNumber : Ct := fun ds M Pq => ∃ v lo hi : Int, ds = [.int v, .int lo, .int hi] ∧ M = [] ∧ lo ≤ v ∧ v ≤ hi ∧ Pq (.bl true) []
abbrev sIsSigns : Stmt := topS 12
theorem scIsSigns : FnScope ["value"] ["value"] (defScope sIsSigns) := ⟨rfl, rfl, rfl, by decide +kernel, rfl, by decide +kernel, by decide +kernel⟩
def cIsSigns : Ct := fun ds M Pq => ∃ s : Nat, ds = [.int (s : Nat)] ∧ M = [] ∧ 1 ≤ s ∧ s ≤ 8 ∧ Pq (.bl true) []
abbrev sCheckSigns : Stmt := topS 13
theorem scCheckSigns : FnScope ["signs"] ["signs"] (defScope sCheckSigns) := ⟨rfl, rfl, rfl, by decide +kernel, rfl, by decide +kernel, by decide +kernel⟩
def cCheckSigns : Ct := fun ds M Pq => ∃ s : Nat, ds = [.int (s : Nat)] ∧ M = [] ∧ 1 ≤ s ∧ s ≤ 8 ∧ Pq .non []
abbrev sIsWeights : Stmt := topS 21
theorem scIsWeights : FnScope ["value", "size", "number"] ["value", "size"] (defScope sIsWeights) := ⟨rfl, rfl, rfl, by decide +kernel, rfl, by decide +kernel, by decide +kernel⟩
def cIsWeights : Ct := fun ds M Pq => ∃ xs : List Int, ∃ n : Nat, ds = [tI xs, .int (n : Nat)] ∧ M = [] ∧ xs.length = n ∧ n ≤ 1000 ∧ (∀ v ∈ xs, v.natAbs ≤ 1000) ∧ Pq (.bl true) []
abbrev sIsTable : Stmt := topS 22
theorem scIsTable : FnScope ["value", "size", "row"] ["value", "size"] (defScope sIsTable) := ⟨rfl, rfl, rfl, by decide +kernel, rfl, by decide +kernel, by decide +kernel⟩
def cIsTable : Ct := fun ds M Pq => ∃ t : List (List Int), ∃ n : Nat, ds = [tTI t, .int (n : Nat)] ∧ M = [] ∧ t.length = n ∧ n ≤ 1000 ∧ (∀ r ∈ t, r.length = n) ∧ (∀ r ∈ t, ∀ v ∈ r, v.natAbs ≤ 1000) ∧ Pq (.bl true) []
abbrev sInit : Stmt := inClass (topS 23) 0
theorem scInit : FnScope ["self", "signs", "begins", "tables", "goals", "table"] ["self", "signs", "begins", "tables", "goals"] (defScope sInit) := ⟨rfl, rfl, rfl, by decide +kernel, rfl, by decide +kernel, by decide +kernel⟩
def cInit (C : Addr) : Ct := fun ds M Pq => ∃ o dx, ∃ s n : Nat, ∃ W : WD, ds = [.loc o, .int (s : Nat), tI W.b, tTTI W.T, tI W.g] ∧ M = [(o, .ins C dx [] [])] ∧ WOk s n W ∧ Pq .non [(o, .ins C dx ["parts"] [.tup [.int (s : Nat), tI W.b, tTTI W.T, tI W.g]])]
abbrev sGet (j : Nat) : Stmt := inClass (topS 23) j
theorem scGet1 : FnScope ["self"] ["self"] (defScope (sGet 1)) := ⟨rfl, rfl, rfl, by decide +kernel, rfl, by decide +kernel, by decide +kernel⟩
theorem scGet2 : FnScope ["self"] ["self"] (defScope (sGet 2)) := ⟨rfl, rfl, rfl, by decide +kernel, rfl, by decide +kernel, by decide +kernel⟩
theorem scGet3 : FnScope ["self"] ["self"] (defScope (sGet 3)) := ⟨rfl, rfl, rfl, by decide +kernel, rfl, by decide +kernel, by decide +kernel⟩
theorem scGet4 : FnScope ["self"] ["self"] (defScope (sGet 4)) := ⟨rfl, rfl, rfl, by decide +kernel, rfl, by decide +kernel, by decide +kernel⟩
theorem scGet5 : FnScope ["self"] ["self"] (defScope (sGet 5)) := ⟨rfl, rfl, rfl, by decide +kernel, rfl, by decide +kernel, by decide +kernel⟩
def cGet (C : Addr) (g : Nat → WD → D) : Ct := fun ds M Pq => ∃ (s : Nat) (W : WD), ds = [wD C s W] ∧ M = [] ∧ Pq (g s W) []
def gSigns (s : Nat) (_ : WD) : D := .int (s : Nat)
def gSize (_ : Nat) (W : WD) : D := .int (W.b.length : Nat)
def gBegins (_ : Nat) (W : WD) : D := tI W.b
def gTables (_ : Nat) (W : WD) : D := tTTI W.T
def gGoals (_ : Nat) (W : WD) : D := tI W.g
structure Props (P : Program) (w : World) (K : PySem.W.Frag) (mg : Str → Option Value) (base : Heap) (C : Addr) : Prop where
  signs : PropD P w K mg base 1 C "signs" (cGet C gSigns)
  size : PropD P w K mg base 1 C "size" (cGet C gSize)
  begins : PropD P w K mg base 1 C "begins" (cGet C gBegins)
  tables : PropD P w K mg base 1 C "tables" (cGet C gTables)
  goals : PropD P w K mg base 1 C "goals" (cGet C gGoals)
abbrev sCheckWeigher : Stmt := topS 24
theorem scCheckWeigher : FnScope ["value"] ["value"] (defScope sCheckWeigher) := ⟨rfl, rfl, rfl, by decide +kernel, rfl, by decide +kernel, by decide +kernel⟩
def cCheckWeigher (C : Addr) : Ct := fun ds M Pq => ∃ (s : Nat) (W : WD), ds = [wD C s W] ∧ M = [] ∧ Pq .non []
abbrev sCheckWeighers : Stmt := topS 25
theorem scCheckWeighers : FnScope ["one", "two"] ["one", "two"] (defScope sCheckWeighers) := ⟨rfl, rfl, rfl, by decide +kernel, rfl, by decide +kernel, by decide +kernel⟩
def cCheckWeighers (C : Addr) : Ct := fun ds M Pq => ∃ (s : Nat) (V W : WD), ds = [wD C s V, wD C s W] ∧ M = [] ∧ Pq .non []
section
variable {P : Program} {w : World} {K : PySem.W.Frag} {mg : Str → Option Value} {base : Heap} {C : Addr}
theorem ok_isNumber {f : Addr} {fd : FuncData} (F : Fun K "is_number" "is_number" sIsNumber f fd) (hm : mg "is_number" = some (.ref f)) (hb : Binds K fd ["value", "low", "high"] []) (L : Bl mg) : FnD P w K mg base 1 "is_number" ["value", "low", "high"] cIsNumber := by
  refine fnD_of F hm hb scIsNumber (fun ds M Pq ⟨a, b, c, e, _⟩ => by rw [e]; rfl) fun X B ds M Pq h => ?_
  obtain ⟨v, lo, hi, rfl, rfl, h1, h2, q⟩ := h
  refine dss_one (ds_ret (de_andT (de_isiT (u := "int") B L.isin L.int (by decide +kernel) (de_name B 0 rfl ⟨_, true, rfl, by decide +kernel, rfl, ?_⟩))))
  refine de_andT (de_not (de_isiT (u := "bool") B L.isin L.bool (by decide +kernel) (de_name B 0 rfl ⟨_, false, rfl, by decide +kernel, _, rfl, rfl, ?_⟩)))
  refine de_one (de_chain op_le op_le (de_name B 1 rfl (de_name B 0 rfl ⟨_, _, rfl, rfl, fun _ => de_name B 2 rfl ⟨_, rfl, ?_⟩, fun h => ?_⟩)))
  · rw [decide_eq_true h2]; exact q
  · rw [decide_eq_true h1] at h; cases h
theorem ok_isSigns {f : Addr} {fd : FuncData} (F : Fun K "is_signs" "is_signs" sIsSigns f fd) (hm : mg "is_signs" = some (.ref f)) (hb : Binds K fd ["value"] []) (L : Bl mg) (G : Gs mg) (Fn : FnD P w K mg base 1 "is_number" ["value", "low", "high"] cIsNumber) : FnD P w K mg base 2 "is_signs" ["value"] cIsSigns := by
  refine fnD_of F hm hb scIsSigns (fun ds M Pq ⟨a, e, _⟩ => by rw [e]; rfl) fun X B ds M Pq h => ?_
  obtain ⟨s, rfl, rfl, h1, h2, q⟩ := h
  obtain ⟨u, hu, ru⟩ := G.ms
  exact dss_one (ds_ret (de_call B Fn (da_cons (de_name B 0 rfl (da_two (de_int (de_glob B hu ru (d := .int 8) (fun _ => rfl) (cac0 ⟨_, _, _, rfl, rfl, by omega, by omega, q⟩))))))))
theorem ok_checkSigns {f : Addr} {fd : FuncData} (F : Fun K "check_signs" "check_signs" sCheckSigns f fd) (hm : mg "check_signs" = some (.ref f)) (hb : Binds K fd ["signs"] []) (Fn : FnD P w K mg base 2 "is_signs" ["value"] cIsSigns) : FnD P w K mg base 3 "check_signs" ["signs"] cCheckSigns := by
  refine fnD_of F hm hb scCheckSigns (fun ds M Pq ⟨a, e, _⟩ => by rw [e]; rfl) fun X B ds M Pq h => ?_
  obtain ⟨s, rfl, rfl, h1, h2, q⟩ := h
  exact dss_one (ds_ifF (dt_notT (de_call B Fn (da_one (de_name B 0 rfl (cac0 ⟨s, rfl, rfl, h1, h2, rfl, rfl, dss_nil q⟩))))))
theorem ok_isWeights {f : Addr} {fd : FuncData} (F : Fun K "is_weights" "is_weights" sIsWeights f fd) (hm : mg "is_weights" = some (.ref f)) (hb : Binds K fd ["value", "size"] []) (L : Bl mg) (G : Gs mg) (Fn : FnD P w K mg base 1 "is_number" ["value", "low", "high"] cIsNumber) : FnD P w K mg base 2 "is_weights" ["value", "size"] cIsWeights := by
  refine fnD_of F hm hb scIsWeights (fun ds M Pq ⟨a, b, e, _⟩ => by rw [e]; rfl) fun X B ds M Pq h => ?_
  obtain ⟨xs, n, rfl, rfl, h1, h2, h3, q⟩ := h
  obtain ⟨u, hu, ru⟩ := G.mw
  refine dss_cons (ds_ifF (dw_t (dw_orF (dt_notT (de_isiT (u := "tuple") B L.isin L.tuple (by decide +kernel) (de_name B 0 rfl ⟨_, true, rfl, by decide +kernel, rfl, rfl, ?_⟩))))))
  refine dw_or1 (dt_neI (de_len B L.len (de_name B 0 rfl ⟨_, .t, de_name B 1 rfl ⟨_, _, rfl, rfl, by simp [h1], ?_⟩⟩)))
  refine dss_nil (dss_one (ds_ret (de_all B L.all (DN.fz (dn_lc B (own := [("number", 2)]) (js := [2]) (di_tup (de_name B 0 rfl ⟨_, rfl, ?_⟩)))))))
  refine lc_map1 2 xs (fun v => .int v) (fun v => .bl true) (by omega) (fun v hv X' B' Z z => ?_) ⟨xs.map fun _ => true, by rw [List.map_map]; exact .f, ?_⟩
  · have := h3 v hv
    exact de_call B' Fn (da_cons (de_name B' 2 rfl (da_two (de_neg (de_glob B' hu ru (d := .int 1000) (fun _ => rfl) ⟨_, rfl, de_glob B' hu ru (d := .int 1000) (fun _ => rfl) (cac0 ⟨_, _, _, rfl, rfl, by omega, by omega, z⟩)⟩)))))
  · rw [show (xs.map fun _ => true).all id = true by simp]
    exact q
theorem ok_isTable {f : Addr} {fd : FuncData} (F : Fun K "is_weight_table" "is_weight_table" sIsTable f fd) (hm : mg "is_weight_table" = some (.ref f)) (hb : Binds K fd ["value", "size"] []) (L : Bl mg) (Fn : FnD P w K mg base 2 "is_weights" ["value", "size"] cIsWeights) : FnD P w K mg base 3 "is_weight_table" ["value", "size"] cIsTable := by
  refine fnD_of F hm hb scIsTable (fun ds M Pq ⟨a, b, e, _⟩ => by rw [e]; rfl) fun X B ds M Pq h => ?_
  obtain ⟨t, n, rfl, rfl, h1, h2, h3, h4, q⟩ := h
  refine dss_one (ds_ret (de_andT (de_isiT (u := "tuple") B L.isin L.tuple (by decide +kernel) (de_name B 0 rfl ⟨_, true, rfl, by decide +kernel, rfl, ?_⟩))))
  refine de_andT (de_eqI (de_len B L.len (de_name B 0 rfl ⟨_, .t, de_name B 1 rfl ⟨_, _, rfl, rfl, by simp [h1], ?_⟩⟩)))
  refine de_one (de_all B L.all (DN.fz (dn_lc B (own := [("row", 2)]) (js := [2]) (di_tup (de_name B 0 rfl ⟨_, rfl, ?_⟩)))))
  refine lc_map1 2 t (fun v => tI v) (fun v => .bl true) (by omega) (fun v hv X' B' Z z => ?_) ⟨t.map fun _ => true, by rw [List.map_map]; exact .f, ?_⟩
  · exact de_call B' Fn (da_two (de_name B' 2 rfl (de_name B' 1 rfl (cac0 ⟨v, n, rfl, rfl, h3 v hv, h2, h4 v hv, z⟩))))
  · rw [show (t.map fun _ => true).all id = true by simp]
    exact q
theorem ok_init {f : Addr} {fd : FuncData} (F : Fun K "__init__" "Weigher.__init__" sInit f fd) (hb : Binds K fd ["self", "signs", "begins", "tables", "goals"] []) (L : Bl mg) (G : Gs mg) (Wc : WC K mg C) (mk : Mk K C f)
    (Fs : FnD P w K mg base 3 "check_signs" ["signs"] cCheckSigns) (Fw : FnD P w K mg base 2 "is_weights" ["value", "size"] cIsWeights) (Ft : FnD P w K mg base 3 "is_weight_table" ["value", "size"] cIsTable) : ClsD P w K mg base 4 "Weigher" C ["self", "signs", "begins", "tables", "goals"] (cInit C) := by
  refine ⟨f, fd, mk, fn_okD F scInit (fun ds M Pq ⟨o, dx, s, n, W, e, _⟩ => by rw [e]; rfl) (fun X B ds M Pq h => ?_), hb, Wc.mg⟩
  obtain ⟨o, dx, s, n, W, rfl, rfl, ok, q⟩ := h
  obtain ⟨u, hu, ru⟩ := G.mz
  have n1 := ok.n1
  have n3 := ok.n3
  have s8 := ok.s8
  refine dss_cons (ds_expr (de_call B Fs (da_one (de_name B 1 rfl (cac0 ⟨s, rfl, rfl, ok.s1, ok.s8, ?_⟩)))))
  refine dss_cons (ds_ifF (dw_t (dw_orF (dt_notT (de_isiT (u := "tuple") B L.isin L.tuple (by decide +kernel) (de_name B 2 rfl ⟨_, true, rfl, by decide +kernel, rfl, rfl, ?_⟩))))))
  refine dw_orF (dt_not (dt_chain op_le op_le (de_int (de_len B L.len (de_name B 2 rfl ⟨_, .t, _, _, rfl, rfl, fun _ => de_glob B hu ru (d := .int 6) (fun _ => rfl) ⟨_, rfl, ?_, ?_⟩, fun h => ?_⟩)))))
  · simp [ok.bl]; omega
  · refine dw_or1 (dt_notT (de_call B Fw (da_two (de_name B 2 rfl (de_len B L.len (de_name B 2 rfl ⟨_, .t, cac0 ⟨W.b, _, rfl, rfl, by simp, by simp [ok.bl]; omega, ok.bb, rfl, rfl, dss_nil ?_⟩⟩))))))
    refine dss_cons (ds_ifF (dw_t (dw_orF (dt_notT (de_isiT (u := "tuple") B L.isin L.tuple (by decide +kernel) (de_name B 3 rfl ⟨_, true, rfl, by decide +kernel, rfl, rfl, ?_⟩))))))
    refine dw_or1 (dt_neI (de_len B L.len (de_name B 3 rfl ⟨_, .t, de_name B 1 rfl ⟨_, _, rfl, rfl, by simp [ok.Tl], dss_nil ?_⟩⟩)))
    refine dss_cons (ds_ifF (dt_notT (de_all B L.all (DN.fz (dn_lc B (own := [("table", 5)]) (js := [5]) (di_tup (de_name B 3 rfl ⟨_, rfl, ?_⟩)))))))
    refine lc_map1 5 W.T (fun v => tTI v) (fun v => .bl true) (by rw [ok.Tl]; omega) (fun v hv X' B' Z z => ?_) ⟨W.T.map fun _ => true, by rw [List.map_map]; exact .f, ?_⟩
    · exact de_call B' Ft (da_two (de_name B' 5 rfl (de_len B' L.len (de_name B' 2 rfl ⟨_, .t, cac0 ⟨v, n, by simp [ok.bl], rfl, ok.tl v hv, by omega, ok.rl v hv, ok.tb v hv, z⟩⟩))))
    · refine ⟨by simp, rfl, dss_nil ?_⟩
      refine dss_cons (ds_ifF (dt_notT (de_call B Fw (da_two (de_name B 4 rfl (de_len B L.len (de_name B 2 rfl ⟨_, .t, cac0 ⟨W.g, n, by simp [ok.bl], rfl, ok.gl, by omega, ok.gb, rfl, rfl, dss_nil ?_⟩⟩)))))))
      exact dss_one (ds_fldNew B (de_tup (da_cons (de_name B 1 rfl (da_cons (de_name B 2 rfl (da_two (de_name B 3 rfl (de_name B 4 rfl ⟨by simp, de_name B 0 rfl ⟨o, C, dx, [], [], [], [], rfl, rfl, Wc.cl, Wc.na, by simp, by simp, q⟩⟩)))))))))
  · have : (1 : Int) ≤ (W.b.map D.int).length := by simp [ok.bl]; omega
    rw [decide_eq_true this] at h
    cases h
theorem ok_get {j : Nat} {qual fnm : Str} {f p : Addr} {fd : FuncData} {g : Nat → WD → D} (F : Fun K fnm qual (sGet j) f fd) (S : FnScope ["self"] ["self"] (defScope (sGet j))) (hb : Binds K fd ["self"] []) (Wc : WC K mg C) (po : PropOf K C fnm p f)
    (hbody : ∀ X, Bd X P w K mg base ["self"] (defScope (sGet j)) (fun _ => true) 0 → ∀ s W, ∀ Pq : D → Mem → Prop, Pq (g s W) [] → DSs X (defBody (sGet j)) [some (wD C s W)] [] ⟨fun _ M' => Pq .non M', Pq, fun _ _ => False, fun _ _ => False⟩) : PropD P w K mg base 1 C fnm (cGet C g) := by
  refine ⟨p, f, fd, Wc.cl, po, fn_okD F S (fun ds M Pq ⟨s, W, e, _⟩ => by rw [e]; rfl) (fun X B ds M Pq h => ?_), hb⟩
  obtain ⟨s, W, rfl, rfl, q⟩ := h
  exact hbody X B s W Pq q
theorem de_self {X : Cx} {k : Nat} {N : List Str} {sc : Scope} {fn : Str → Bool} {ρ : DV.Env} {M : Mem} {Z : D → Mem → Prop} {e : Expr} {pos : Pos} (B : Bd X P w K mg base N sc fn k) (Wc : WC K mg C) {s : Nat} {W : WD} (h : DE X e ρ M fun d M1 => d = wD C s W ∧ Z (.tup [.int (s : Nat), tI W.b, tTTI W.T, tI W.g]) M1) (ha : noCall e = true := by rfl) : DE X (.Attribute e "parts" pos) ρ M Z :=
  de_fld B (h.imp fun d M1 ⟨e, z⟩ => ⟨C, _, _, _, e, Wc.cl, Wc.na, rfl, z⟩) ha
theorem body_signs {X : Cx} (B : Bd X P w K mg base ["self"] (defScope (sGet 1)) (fun _ => true) 0) (Wc : WC K mg C) (s : Nat) (W : WD) (Pq : D → Mem → Prop) (q : Pq (gSigns s W) []) : DSs X (defBody (sGet 1)) [some (wD C s W)] [] ⟨fun _ M' => Pq .non M', Pq, fun _ _ => False, fun _ _ => False⟩ :=
  dss_one (ds_ret (de_ixT (de_self B Wc (de_name B 0 rfl ⟨rfl, de_int ⟨_, _, _, rfl, rfl, at0, q⟩⟩))))
theorem body_size {X : Cx} (B : Bd X P w K mg base ["self"] (defScope (sGet 2)) (fun _ => true) 0) (L : Bl mg) (Wc : WC K mg C) (s : Nat) (W : WD) (Pq : D → Mem → Prop) (q : Pq (gSize s W) []) : DSs X (defBody (sGet 2)) [some (wD C s W)] [] ⟨fun _ M' => Pq .non M', Pq, fun _ _ => False, fun _ _ => False⟩ :=
  dss_one (ds_ret (de_len B L.len (de_ixT (de_self B Wc (de_name B 0 rfl ⟨rfl, de_int ⟨_, _, _, rfl, rfl, at1, _, .t, by rw [List.length_map]; exact q⟩⟩)))))
theorem body_begins {X : Cx} (B : Bd X P w K mg base ["self"] (defScope (sGet 3)) (fun _ => true) 0) (Wc : WC K mg C) (s : Nat) (W : WD) (Pq : D → Mem → Prop) (q : Pq (gBegins s W) []) : DSs X (defBody (sGet 3)) [some (wD C s W)] [] ⟨fun _ M' => Pq .non M', Pq, fun _ _ => False, fun _ _ => False⟩ :=
  dss_one (ds_ret (de_ixT (de_self B Wc (de_name B 0 rfl ⟨rfl, de_int ⟨_, _, _, rfl, rfl, at1, q⟩⟩))))
theorem body_tables {X : Cx} (B : Bd X P w K mg base ["self"] (defScope (sGet 4)) (fun _ => true) 0) (Wc : WC K mg C) (s : Nat) (W : WD) (Pq : D → Mem → Prop) (q : Pq (gTables s W) []) : DSs X (defBody (sGet 4)) [some (wD C s W)] [] ⟨fun _ M' => Pq .non M', Pq, fun _ _ => False, fun _ _ => False⟩ :=
  dss_one (ds_ret (de_ixT (de_self B Wc (de_name B 0 rfl ⟨rfl, de_int ⟨_, _, _, rfl, rfl, at2, q⟩⟩))))
theorem body_goals {X : Cx} (B : Bd X P w K mg base ["self"] (defScope (sGet 5)) (fun _ => true) 0) (Wc : WC K mg C) (s : Nat) (W : WD) (Pq : D → Mem → Prop) (q : Pq (gGoals s W) []) : DSs X (defBody (sGet 5)) [some (wD C s W)] [] ⟨fun _ M' => Pq .non M', Pq, fun _ _ => False, fun _ _ => False⟩ :=
  dss_one (ds_ret (de_ixT (de_self B Wc (de_name B 0 rfl ⟨rfl, de_int ⟨_, _, _, rfl, rfl, at3, q⟩⟩))))
theorem ok_checkWeigher {f : Addr} {fd : FuncData} (F : Fun K "check_weigher" "check_weigher" sCheckWeigher f fd) (hm : mg "check_weigher" = some (.ref f)) (hb : Binds K fd ["value"] []) (L : Bl mg) (Wc : WC K mg C) : FnD P w K mg base 1 "check_weigher" ["value"] (cCheckWeigher C) := by
  refine fnD_of F hm hb scCheckWeigher (fun ds M Pq ⟨a, b, e, _⟩ => by rw [e]; rfl) fun X B ds M Pq h => ?_
  obtain ⟨s, W, rfl, rfl, q⟩ := h
  exact dss_one (ds_ifF (dt_notT (de_isC B L.isin Wc.mg Wc.ins (de_name B 0 rfl ⟨_, _, rfl, rfl, rfl, dss_nil q⟩))))
theorem ok_checkWeighers {f : Addr} {fd : FuncData} (F : Fun K "check_weighers" "check_weighers" sCheckWeighers f fd) (hm : mg "check_weighers" = some (.ref f)) (hb : Binds K fd ["one", "two"] []) (Pr : Props P w K mg base C) (Fw : FnD P w K mg base 1 "check_weigher" ["value"] (cCheckWeigher C)) : FnD P w K mg base 3 "check_weighers" ["one", "two"] (cCheckWeighers C) := by
  refine fnD_of F hm hb scCheckWeighers (fun ds M Pq ⟨a, b, c, e, _⟩ => by rw [e]; rfl) fun X B ds M Pq h => ?_
  obtain ⟨s, V, W, rfl, rfl, q⟩ := h
  refine dss_cons (ds_expr (de_call B Fw (da_one (de_name B 0 rfl (cac0 ⟨s, V, rfl, rfl, ?_⟩)))))
  refine dss_cons (ds_expr (de_call B Fw (da_one (de_name B 1 rfl (cac0 ⟨s, W, rfl, rfl, ?_⟩)))))
  exact dss_one (ds_ifF (dt_neI (de_prop B Pr.signs (de_name B 0 rfl ⟨_, _, rfl, cac0 ⟨s, V, rfl, rfl, de_prop B Pr.signs (de_name B 1 rfl ⟨_, _, rfl, cac0 ⟨s, W, rfl, rfl, _, _, rfl, rfl, by simp, dss_nil q⟩⟩)⟩⟩))))
end
end K53

set_option Elab.async false
set_option linter.all false
set_option maxRecDepth 100000
set_option maxHeartbeats 4000000
/-! K53y: the walk, the search. -/
namespace K53
open PySem PySem.Spec PyProof.Rows L2 DV
def wStr (w : List Nat) : Str := ⟨(w.map fun c => 97 + c).toArray⟩
theorem wStr_nil : (Str.ofString "" : Str) = wStr [] := by decide +kernel
theorem wStr_snoc (w : List Nat) (c : Nat) : wStr w ++ (⟨#[97 + c]⟩ : Str) = wStr (w ++ [c]) := by
  show (⟨_⟩ : Str) = _
  unfold wStr
  congr 1
  simp
theorem wStr_len (w : List Nat) : (wStr w).length = w.length := by
  show (w.map fun c => 97 + c).toArray.size = _
  simp
theorem abc_at (c : Nat) (h : c < 8) : L2.atI (Str.ofString "abcdefgh").cps.toList (c : Int) = some (97 + c : Nat) := by
  have : c = 0 ∨ c = 1 ∨ c = 2 ∨ c = 3 ∨ c = 4 ∨ c = 5 ∨ c = 6 ∨ c = 7 := by omega
  rcases this with rfl | rfl | rfl | rfl | rfl | rfl | rfl | rfl <;> decide +kernel
def encO (s : Nat) : Option Nat → D
  | none => .non
  | some r => .str (wStr (wd s r))
def SmallO (s n : Nat) (o : Option Nat) : Prop := ∀ r, o = some r → (wd s r).length < n
def cApart (C : Addr) : Ct := fun ds M Pq => ∃ (s n1 n2 : Nat) (V W : WD), ds = [wD C s V, wD C s W] ∧ M = [] ∧ WOk s n1 V ∧ WOk s n2 W ∧ n1 + n2 ≤ 5 ∧ ∀ o, FirstUn s V W o → SmallO s (n1 + n2) o → Pq (encO s o) []
def cSame (C : Addr) : Ct := fun ds M Pq => ∃ (s n1 n2 : Nat) (V W : WD), ds = [wD C s V, wD C s W] ∧ M = [] ∧ WOk s n1 V ∧ WOk s n2 W ∧ n1 + n2 ≤ 5 ∧ ∀ o, FirstUn s V W o → SmallO s (n1 + n2) o → Pq (.bl o.isNone) []
abbrev sApart : Stmt := topS 28
theorem scApart : FnScope ["one", "two", "line", "basis", "goals", "at", "row", "numbers", "is_new", "place", "near", "goal"] ["one", "two"] (defScope sApart) := ⟨rfl, rfl, rfl, by decide +kernel, rfl, by decide +kernel, by decide +kernel⟩
abbrev sSame : Stmt := topS 29
theorem scSame : FnScope ["weigher", "other"] ["weigher", "other"] (defScope sSame) := ⟨rfl, rfl, rfl, by decide +kernel, rfl, by decide +kernel, by decide +kernel⟩
abbrev sFirst : Stmt := topS 30
theorem scFirst : FnScope ["weigher", "other"] ["weigher", "other"] (defScope sFirst) := ⟨rfl, rfl, rfl, by decide +kernel, rfl, by decide +kernel, by decide +kernel⟩
theorem BOk.lens {N : Nat} {B : List (Nat × List Int)} (h : BOk N B) : ∀ x ∈ B, x.2.length = N := by
  induction h with
  | nil => exact fun _ h => nomatch h
  | snoc h0 h1 h2 h3 h4 ih =>
    intro x hx
    rcases List.mem_append.mp hx with z | z
    · exact ih x z
    · rw [List.mem_singleton.mp z]; exact h2
theorem SInv.red {s n1 n2 : Nat} {V W : WD} (h1 : WOk s n1 V) (h2 : WOk s n2 W) (h5 : n1 + n2 ≤ 5) {done todo : List Nat} {r : Nat} {Q : Qs} (I : SInv (sysOf s n1 n2 V W) done (r :: todo) Q) : RedOk (n1 + n2) ((sysOf s n1 n2 V W).S r) (bsQ Q) := by
  have o := sysOf_ok h1 h2
  have hb := I.q.b o
  have hq : Q.length ≤ n1 + n2 := I.few o
  have hd : ∀ d ∈ done ++ r :: todo, (wd s d).length ≤ 6 := fun d hd => by
    have : (wd s d).length ≤ Q.length := I.deep d hd
    omega
  have bits := I.q.bits 80 fun x hx => sysOf_bnd h1 h2 (hd _ (List.mem_append_left _ (I.qd x hx)))
  have hBB : BB 80 Q.length ≤ 4000 := Nat.le_trans (BB_le (show Q.length ≤ 5 by omega)) (by decide)
  refine ⟨by omega, o.len r, by simp [bsQ]; omega, hb.nd.2, hb.lens, fun x hx => ?_, fun A C' e => ?_⟩
  · obtain ⟨z, hz, rfl⟩ := List.mem_map.mp hx
    exact (bits.1 z hz).mono hBB
  · exact (bits.2 _ (sysOf_bnd h1 h2 (hd r (by simp))) A C' e).mono hBB
abbrev ent (s : Nat) (y : Sys) (r : Nat) : D := .tup [.str (wStr (wd s r)), lI (y.S r)]
theorem WOk.tabOk {s n c : Nat} {W : WD} (h : WOk s n W) (hc : c < s) : TabOk (W.T.getD c []) := by
  have hm := h.tab hc
  have n3 := h.n3
  exact ⟨by rw [h.tl _ hm]; omega, fun r hr => by rw [h.rl _ hm r hr, h.tl _ hm], h.tb _ hm⟩
theorem at_tab {s n c : Nat} {W : WD} (h : WOk s n W) (hc : c < s) : L2.atI (W.T.map fun t => tTI t) (c : Int) = some (tTI (W.T.getD c [])) := by
  have : c < W.T.length := by rw [h.Tl]; exact hc
  refine at_map (f := fun t => tTI t) ?_
  rw [List.getD_eq_getElem?_getD, List.getElem?_eq_getElem this]
  rfl
section
variable {P : Program} {w : World} {K : PySem.W.Frag} {mg : Str → Option Value} {base : Heap} {C : Addr}
theorem ok_apart {f : Addr} {fd : FuncData} (F : Fun K "apart" "apart" sApart f fd) (hm : mg "apart" = some (.ref f)) (hb : Binds K fd ["one", "two"] []) (L : Bl mg) (G : Gs mg) (Pr : Props P w K mg base C)
    (Fw : FnD P w K mg base 1 "weighed" ["numbers", "goals"] cWeighed) (Fm : FnD P w K mg base 1 "moved" ["numbers", "table"] cMoved) (Fj : FnD P w K mg base 4 "joined" ["row", "basis"] cJoined) : FnD P w K mg base 5 "apart" ["one", "two"] (cApart C) := by
  refine fnD_of F hm hb scApart (fun ds M Pq ⟨_, _, _, _, _, e, _⟩ => by rw [e]; rfl) fun X B ds M Pq h => ?_
  obtain ⟨s, n1, n2, V, W, rfl, rfl, h1, h2, h5, q⟩ := h
  have o := sysOf_ok h1 h2
  obtain ⟨ua, hua, rua⟩ := G.al
  have hn1 := h1.n3
  have hn2 := h2.n3
  have hs8 := h1.s8
  have S0 : (sysOf s n1 n2 V W).S 0 = V.b ++ W.b := by
    show run V (wd s 0) ++ run W (wd s 0) = _
    rw [wd_zero]
    rfl
  refine dss_cons (ds_par B 2 3 (DN.ow (dn_lst (da_one (de_tup (da_two (de_str (DN.fz (dn_lst (da_starT (de_prop B Pr.begins (de_name B 0 rfl ⟨_, _, rfl, cac0 ⟨s, V, rfl, rfl, _, rfl, da_starT (de_prop B Pr.begins (de_name B 1 rfl ⟨_, _, rfl, cac0 ⟨s, W, rfl, rfl, _, rfl, da_nil ⟨?_, by simp, by simp, fun l hl => ?_⟩⟩⟩))⟩⟩))))))))))))
  · simp [h1.bl, h2.bl]; omega
  refine DN.fz (dn_lst (da_nil ⟨by simp, ?_⟩))
  refine dss_cons (ds_set B 4 (DN.fz (dn_lst (da_starT (de_prop B Pr.goals (de_name B 0 rfl ⟨_, _, rfl, cac0 ⟨s, V, rfl, rfl, _, rfl, da_starL (DN.fz (dn_lc B (own := [("goal", 11)]) (js := [11]) (di_tup (de_prop B Pr.goals (de_name B 1 rfl ⟨_, _, rfl, cac0 ⟨s, W, rfl, rfl, _, rfl, ?_⟩⟩)))))⟩⟩))))))
  refine lc_map1 11 W.g (fun v => .int v) (fun v => .int (-v)) (by rw [h2.gl]; omega) (fun v hv X' B' Z z => de_neg (de_name B' 11 rfl ⟨_, rfl, z⟩)) ⟨_, .f, da_nil ⟨?_, ?_⟩⟩
  · simp [h1.gl, h2.gl]; omega
  refine dss_cons (ds_set B 5 (de_int ?_))
  have eg : ∀ x, (sysOf s n1 n2 V W).g x = dotL x (V.g ++ W.g.map fun v => -v) := fun _ => rfl
  refine dss_cons (ds_while B (fun m ρ M => ∃ (done todo : List Nat) (Q : Qs) (x6 x7 x8 x9 x10 : Option D), ρ = [some (wD C s V), some (wD C s W), some (.loc l), some (basisD (bsQ Q)), some (.lst ((V.g ++ W.g.map fun v => -v).map .int)), some (.int (done.length : Nat)), x6, x7, x8, x9, x10, none] ∧ M = [(l, .lst ((done ++ todo).map (ent s (sysOf s n1 n2 V W))))] ∧ SInv (sysOf s n1 n2 V W) done todo Q ∧ (done ++ todo).length = 1 + s * Q.length ∧ m = (n1 + n2 - Q.length) * (s + 1) + todo.length) _ ⟨[], [0], [], none, none, none, none, none, ?_, ?_, SInv.start o, rfl, rfl⟩ ?_)
  · simp only [List.map_append, List.map_map, List.append_nil]
    rfl
  · show _ = [(l, MO.lst [ent s (sysOf s n1 n2 V W) 0])]
    have e0 : lI (V.b ++ W.b) = .lst (V.b.map .int ++ (W.b.map .int ++ [])) := congrArg D.lst (by simp)
    unfold ent
    rw [S0, wd_zero, e0, ← wStr_nil]
    rfl
  rintro m ρ1 M1 ⟨done, todo, Q, x6, x7, x8, x9, x10, rfl, rfl, I, hcnt, rfl⟩
  have hQ : Q.length ≤ n1 + n2 := I.few o
  refine dt_I op_lt (de_name B 5 rfl (de_len B L.len (de_name B 2 rfl ⟨_, .l (.o (List.mem_cons_self)), _, _, rfl, rfl, fun ht => ?_, fun hf => ?_⟩)))
  · match todo, I, hcnt, ht with
    | [], _, _, ht => simp at ht
    | r :: todo, I, hcnt, _ =>
      have hat : L2.atI ((done ++ r :: todo).map (ent s (sysOf s n1 n2 V W))) ((done.length : Nat) : Int) = some (ent s (sysOf s n1 n2 V W) r) := at_map (by simp)
      have red := I.red h1 h2 h5
      refine dss_cons (ds_asg (js := [6, 7]) (de_ixL (de_name B 2 rfl (de_name B 5 rfl ⟨_, _, _, .o (List.mem_cons_self), rfl, hat, dg_tup B (dgs_cons (dg_name B 6 (dgs_cons (dg_name B 7 (dgs_nil ?_)))))⟩))))
      refine dss_cons (ds_set B 5 (de_add (de_name B 5 rfl (de_int ⟨_, _, rfl, rfl, ?_⟩))))
      refine dss_cons (ds_if (dt_neI (de_call B Fw (da_two (de_name B 7 rfl (de_name B 4 rfl (cac0 ⟨_, _, rfl, rfl, ?_, ?_, de_int ⟨_, _, rfl, rfl, fun hne => ?_, fun heq => dss_nil ?_⟩⟩)))))))
      · simp [h1.gl, h2.gl]; omega
      · intro g hg
        rcases List.mem_append.mp hg with z | z
        · exact h1.gb g z
        · obtain ⟨u, hu, rfl⟩ := List.mem_map.mp z
          have := h2.gb u hu
          omega
      · have hne' : (sysOf s n1 n2 V W).g ((sysOf s n1 n2 V W).S r) ≠ 0 := by
          rw [eg]; simpa using hne
        obtain ⟨fd1, fd2⟩ := I.found o hne'
        refine DSs.less (M1 := []) ?_ (List.nil_sublist _)
        refine dss_one (ds_ret (de_name B 6 rfl ?_))
        refine q (some r) ⟨fun e => hne' ?_, fun u hu => ?_⟩ fun r' e => ?_
        · rw [sysOf_g h1, e]; omega
        · have := fd1 u hu
          rw [sysOf_g h1] at this
          omega
        · rw [← Option.some.inj e]
          exact fd2
      · have heq' : (sysOf s n1 n2 V W).g ((sysOf s n1 n2 V W).S r) = 0 := by
          rw [eg]; simpa using heq
        have hln : (redB ((sysOf s n1 n2 V W).S r) (bsQ Q)).length = n1 + n2 := (I.q.b o).len (o.len r)
        refine dss_cons (ds_asg (js := [3, 8]) (de_call B Fj (da_two (de_name B 7 rfl (de_name B 3 rfl (cac0 ⟨n1 + n2, _, bsQ Q, rfl, rfl, red, hln, fun hz => ?_, fun p hp hn => ?_⟩))))))
        · refine dg_tup B (dgs_cons (dg_name B 3 (dgs_cons (dg_name B 8 (dgs_nil ?_)))))
          refine dss_one (ds_if (dt_val (de_name B 8 rfl ⟨false, rfl, fun h => (nomatch h), fun _ => dss_nil ?_⟩)))
          refine ⟨_, ?_, done ++ [r], todo, Q, some (.str (wStr (wd s r))), some (lI ((sysOf s n1 n2 V W).S r)), some (.bl false), x9, x10, ?_, ?_, I.old o heq' hz, by rw [← hcnt]; simp, rfl⟩
          · simp
          · rw [List.length_append]; rfl
          · simp
        · refine dg_tup B (dgs_cons (dg_name B 3 (dgs_cons (dg_name B 8 (dgs_nil ?_)))))
          have I2 := I.new o heq' hp hn
          have hQ2 : Q.length + 1 ≤ n1 + n2 := by
            have : (Q ++ [(r, p, redB ((sysOf s n1 n2 V W).S r) (bsQ Q))]).length ≤ n1 + n2 := I2.few o
            simpa using this
          have ek : ∀ i, i < s → ent s (sysOf s n1 n2 V W) (s * r + i + 1) = .tup [.str (wStr (wd s r) ++ (⟨#[97 + i]⟩ : Str)), .lst ((movedL (((sysOf s n1 n2 V W).S r).take n1) (V.T.getD i [])).map .int ++ (movedL (((sysOf s n1 n2 V W).S r).drop n1) (W.T.getD i [])).map .int)] := fun i hi => by
            have e1 : (sysOf s n1 n2 V W).S (s * r + i + 1) = movedL (((sysOf s n1 n2 V W).S r).take n1) (V.T.getD i []) ++ movedL (((sysOf s n1 n2 V W).S r).drop n1) (W.T.getD i []) := o.step r i hi
            unfold ent
            rw [e1, wd_step hi, wStr_snoc, lI, List.map_append]
          have hwl : (wd s r).length ≤ 5 := by
            have : (wd s r).length ≤ Q.length := I.deep r (by simp)
            omega
          refine dss_one (ds_if (dt_val (de_name B 8 rfl ⟨true, rfl, fun _ => ?_, fun h => nomatch h⟩)))
          refine dss_one (ds_for B [9] (di_rng1 B L.range (de_prop B Pr.signs (de_name B 0 rfl ⟨_, _, rfl, cac0 ⟨s, V, rfl, rfl, _, rfl, by omega, by omega, fun i ρ M => ∃ x9 x10, ρ = [some (wD C s V), some (wD C s W), some (.loc l), some (basisD (bsQ Q ++ [(p, redB ((sysOf s n1 n2 V W).S r) (bsQ Q))])), some (.lst ((V.g ++ W.g.map fun v => -v).map .int)), some (.int ((done.length : Nat) + 1)), some (.str (wStr (wd s r))), some (lI ((sysOf s n1 n2 V W).S r)), some (.bl true), x9, x10, none] ∧ M = [(l, .lst ((done ++ r :: todo ++ (kidsL s r).take i).map (ent s (sysOf s n1 n2 V W))))], ⟨x9, x10, rfl, by simp⟩, fun i d ρ2 M2 hd ⟨y9, y10, er, em⟩ => ⟨trivial, ?_⟩, fun ρ2 M2 ⟨y9, y10, er, em⟩ => ⟨trivial, ?_⟩⟩⟩))))
          · subst er; subst em
            have hi : i < s := by
              have := (List.getElem?_eq_some_iff.mp hd).1
              simpa using this
            have ed : d = .int (i : Int) := by
              rw [List.getElem?_map, List.getElem?_range (by simpa using hi)] at hd
              have this : D.int (0 + (i : Int)) = d := Option.some.inj hd
              rw [← this, Int.zero_add]
            subst ed
            refine dg_name B 9 ?_
            refine dss_cons (ds_set B 10 (de_call B Fm (da_two (DN.fz (dn_sliceL (de_name B 7 rfl (show DE _ _ _ _ _ from de_prop B Pr.size (de_name B 0 rfl ⟨_, _, rfl, cac0 ⟨s, V, rfl, rfl, _, rfl, _, .f, ?_⟩⟩))))))))
            rw [h1.bl, cut_take, ← List.map_take]
            refine de_ixT (de_prop B Pr.tables (de_name B 0 rfl ⟨_, _, rfl, cac0 ⟨s, V, rfl, rfl, de_name B 9 rfl ⟨_, _, _, rfl, rfl, at_tab h1 hi, cac0 ⟨_, _, rfl, rfl, h1.tabOk hi, ?_⟩⟩⟩⟩))
            refine dss_one (ds_append (de_name B 2 rfl ⟨l, _, rfl, List.mem_cons_self, de_tup (da_two (de_catS (de_name B 6 rfl (de_ixS (de_glob B hua rua (d := .str "abcdefgh") (fun _ => rfl) (de_name B 9 rfl ⟨_, _, _, rfl, rfl, by decide +kernel, abc_at i (by omega), _, _, rfl, rfl, ?_, DN.fz (dn_cat (de_name B 10 rfl (de_call B Fm (da_two (DN.fz (dn_sliceL (de_name B 7 rfl (show DE _ _ _ _ _ from de_prop B Pr.size (de_name B 0 rfl ⟨_, _, rfl, cac0 ⟨s, V, rfl, rfl, _, rfl, ?_⟩⟩)))))))))⟩))))))⟩))
            · rw [wStr_len]
              show (wd s r).length + 1 ≤ _
              omega
            · show _
              refine ⟨_, .f, ?_⟩
              rw [h1.bl, cut_drop, ← List.map_drop]
              refine de_ixT (de_prop B Pr.tables (de_name B 1 rfl ⟨_, _, rfl, cac0 ⟨s, W, rfl, rfl, de_name B 9 rfl ⟨_, _, _, rfl, rfl, at_tab h2 hi, cac0 ⟨_, _, rfl, rfl, h2.tabOk hi, _, _, .f, .f, ?_, by simp, _, [], [], rfl, ?_, _, _, rfl, ?_⟩⟩⟩⟩))
              · rw [List.length_map, List.length_map, movedL_len, movedL_len, h1.tl _ (h1.tab hi), h2.tl _ (h2.tab hi)]
                omega
              · have hk : ((kidsL s r).take i).length ≤ i := List.length_take_le i _
                have h8 : s * Q.length ≤ 8 * 5 := Nat.mul_le_mul hs8 (by omega)
                rw [List.length_map, List.length_append, hcnt]
                omega
              · have et : (kidsL s r).take (i + 1) = (kidsL s r).take i ++ [s * r + i + 1] := by
                  rw [List.take_add_one]
                  unfold kidsL
                  rw [List.getElem?_map, List.getElem?_range hi]
                  rfl
                rw [et, ← List.append_assoc, List.map_append (f := ent s (sysOf s n1 n2 V W)) (l₂ := [s * r + i + 1]), List.map_singleton, ek i hi]
                rfl
          · subst er; subst em
            have hks : (kidsL s r).length = s := by simp [kidsL]
            refine ⟨_, ?_, done ++ [r], todo ++ kidsL s r, Q ++ [(r, p, redB ((sysOf s n1 n2 V W).S r) (bsQ Q))], some (.str (wStr (wd s r))), some (lI ((sysOf s n1 n2 V W).S r)), some (.bl true), y9, y10, ?_, ?_, I2, ?_, rfl⟩
            · rw [List.length_append, List.length_append, hks, List.length_singleton, List.length_cons]
              have e : n1 + n2 - Q.length = (n1 + n2 - (Q.length + 1)) + 1 := by omega
              rw [e, Nat.succ_mul]
              omega
            · rw [List.length_append, bsQ_snoc]; rfl
            · rw [List.length_map, List.length_range, show ((s : Nat) : Int).toNat = s from rfl, List.take_of_length_le (by omega)]
              simp
            · simp only [List.length_append, List.length_cons, List.length_singleton, List.length_nil, hks] at hcnt ⊢
              rw [Nat.mul_add]
              omega
  · have hl : todo = [] := by
      have : ¬ ((done.length : Int) < (((done ++ todo).map (ent s (sysOf s n1 n2 V W))).length : Nat)) := by simpa using hf
      simp at this
      exact List.length_eq_zero_iff.mp (by omega)
    subst hl
    refine DSs.less (M1 := []) ?_ (List.nil_sublist _)
    refine dss_one (ds_ret (de_non ?_))
    refine q none (fun r => ?_) fun r e => nomatch e
    have := I.zero o (u := r) fun _ h => nomatch h
    rw [sysOf_g h1] at this
    omega
theorem body_same {X : Cx} (B : Bd X P w K mg base ["weigher", "other"] (defScope sSame) (fun _ => true) 5) (Fc : FnD P w K mg base 3 "check_weighers" ["one", "two"] (cCheckWeighers C)) (Fa : FnD P w K mg base 5 "apart" ["one", "two"] (cApart C))
    (ds : List D) (M : Mem) (Pq : D → Mem → Prop) (h : cSame C ds M Pq) : DSs X (defBody sSame) (startD ["weigher", "other"] ds) M ⟨fun _ M' => Pq .non M', Pq, fun _ _ => False, fun _ _ => False⟩ := by
  obtain ⟨s, n1, n2, V, W, rfl, rfl, h1, h2, h5, q⟩ := h
  refine dss_cons (ds_expr (de_call B Fc (da_two (de_name B 0 rfl (de_name B 1 rfl (cac0 ⟨s, V, W, rfl, rfl, ?_⟩))))))
  refine dss_one (ds_ret (de_isN (de_call B Fa (da_two (de_name B 0 rfl (de_name B 1 rfl (cac0 ⟨s, n1, n2, V, W, rfl, rfl, h1, h2, h5, fun o ho hs => ?_⟩)))))))
  have := q o ho hs
  cases o with
  | none => exact this
  | some r => exact this
theorem body_first {X : Cx} (B : Bd X P w K mg base ["weigher", "other"] (defScope sFirst) (fun _ => true) 5) (Fc : FnD P w K mg base 3 "check_weighers" ["one", "two"] (cCheckWeighers C)) (Fa : FnD P w K mg base 5 "apart" ["one", "two"] (cApart C))
    (ds : List D) (M : Mem) (Pq : D → Mem → Prop) (h : cApart C ds M Pq) : DSs X (defBody sFirst) (startD ["weigher", "other"] ds) M ⟨fun _ M' => Pq .non M', Pq, fun _ _ => False, fun _ _ => False⟩ := by
  obtain ⟨s, n1, n2, V, W, rfl, rfl, h1, h2, h5, q⟩ := h
  refine dss_cons (ds_expr (de_call B Fc (da_two (de_name B 0 rfl (de_name B 1 rfl (cac0 ⟨s, V, W, rfl, rfl, ?_⟩))))))
  exact dss_one (ds_ret (de_call B Fa (da_two (de_name B 0 rfl (de_name B 1 rfl (cac0 ⟨s, n1, n2, V, W, rfl, rfl, h1, h2, h5, q⟩))))))
theorem len_same (ds : List D) (M : Mem) (Pq : D → Mem → Prop) (h : cSame C ds M Pq) : ds.length = 2 := by
  obtain ⟨_, _, _, _, _, e, _⟩ := h
  rw [e]
  rfl
theorem len_first (ds : List D) (M : Mem) (Pq : D → Mem → Prop) (h : cApart C ds M Pq) : ds.length = 2 := by
  obtain ⟨_, _, _, _, _, e, _⟩ := h
  rw [e]
  rfl
theorem ok_same {f : Addr} {fd : FuncData} (F : Fun K "same_values" "same_values" sSame f fd) (hm : mg "same_values" = some (.ref f)) (hb : Binds K fd ["weigher", "other"] []) (Fc : FnD P w K mg base 3 "check_weighers" ["one", "two"] (cCheckWeighers C)) (Fa : FnD P w K mg base 5 "apart" ["one", "two"] (cApart C)) :
    FnD P w K mg base 6 "same_values" ["weigher", "other"] (cSame C) ∧ KwD P w K mg base 6 "same_values" ["weigher", "other"] (cSame C) 0 ["other", "weigher"] swap2 :=
  ⟨fnD_of F hm hb scSame len_same fun X B ds M Pq h => body_same B Fc Fa ds M Pq h, kwD_swap F hm scSame len_same (fun X B ds M Pq h => body_same B Fc Fa ds M Pq h) fun _ _ _ _ _ _ _ _ => rfl⟩
theorem ok_first {f : Addr} {fd : FuncData} (F : Fun K "first_unlike" "first_unlike" sFirst f fd) (hm : mg "first_unlike" = some (.ref f)) (hb : Binds K fd ["weigher", "other"] []) (Fc : FnD P w K mg base 3 "check_weighers" ["one", "two"] (cCheckWeighers C)) (Fa : FnD P w K mg base 5 "apart" ["one", "two"] (cApart C)) :
    FnD P w K mg base 6 "first_unlike" ["weigher", "other"] (cApart C) ∧ KwD P w K mg base 6 "first_unlike" ["weigher", "other"] (cApart C) 0 ["other", "weigher"] swap2 :=
  ⟨fnD_of F hm hb scFirst len_first fun X B ds M Pq h => body_first B Fc Fa ds M Pq h, kwD_swap F hm scFirst len_first (fun X B ds M Pq h => body_first B Fc Fa ds M Pq h) fun _ _ _ _ _ _ _ _ => rfl⟩
end
end K53

set_option Elab.async false
set_option linter.all false
set_option maxRecDepth 100000
set_option maxHeartbeats 4000000
/-! K53z: the walk, what the law draws. -/
namespace K53
open PySem PySem.Spec PyProof.Rows L2 DV
abbrev fk (fl : Addr) (t : Int × Int × Int) : Addr × MO := (fl, .lst [.int t.1, .int t.2.1, .int t.2.2])
abbrev sFlask : Stmt := topS 32
theorem scFlask : FnScope ["script", "k", "own", "mixed", "entry_here"] ["script", "k"] (defScope sFlask) := ⟨rfl, rfl, rfl, by decide +kernel, rfl, by decide +kernel, by decide +kernel⟩
def cFlask : Ct := fun ds M Pq => ∃ (xs : List Int) (k : Nat), ds = [.lsq (xs.map .int), .int (k : Nat)] ∧ M = [] ∧ k ≤ 1000 ∧ ∀ fl t, Pq (.loc fl) [fk fl t]
abbrev sPour : Stmt := topS 33
theorem scPour : FnScope ["flask", "top", "digit", "level_here", "factor"] ["flask", "top"] (defScope sPour) := ⟨rfl, rfl, rfl, by decide +kernel, rfl, by decide +kernel, by decide +kernel⟩
def cPour : Ct := fun ds M Pq => ∃ fl t, ∃ top : Nat, ds = [.loc fl, .int (top : Nat)] ∧ M = [fk fl t] ∧ 0 < top ∧ top ≤ 1000 ∧ ∀ t', ∀ v : Nat, v < top → Pq (.int (v : Nat)) [fk fl t']
abbrev sPick : Stmt := topS 34
theorem scPick : FnScope ["flask", "some"] ["flask", "some"] (defScope sPick) := ⟨rfl, rfl, rfl, by decide +kernel, rfl, by decide +kernel, by decide +kernel⟩
def cPick : Ct := fun ds M Pq => ∃ fl t xs, ds = [.loc fl, .lst xs] ∧ M = [fk fl t] ∧ 0 < xs.length ∧ xs.length ≤ 1000 ∧ ∀ t', ∀ d ∈ xs, Pq d [fk fl t']
abbrev sParts : Stmt := topS 35
theorem scParts : FnScope ["flask", "signs", "most", "size", "menu", "tables_here", "sign", "j", "k", "begins_here"] ["flask", "signs", "most"] (defScope sParts) := ⟨rfl, rfl, rfl, by decide +kernel, rfl, by decide +kernel, by decide +kernel⟩
/-- parts as the law draws them -/
structure LOk (s n : Nat) (W : WD) : Prop where
  ok : WOk s n W
  n2 : n ≤ 2
  b3 : ∀ v ∈ W.b, v.natAbs ≤ 3
  t3 : ∀ t ∈ W.T, ∀ r ∈ t, ∀ v ∈ r, v.natAbs ≤ 3
abbrev pD (W : WD) : D := .tup (partsD W)
def cParts : Ct := fun ds M Pq => ∃ fl t, ∃ s : Nat, ds = [.loc fl, .int (s : Nat), .int (2 : Nat)] ∧ M = [fk fl t] ∧ 1 ≤ s ∧ s ≤ 8 ∧ ∀ t' n W, LOk s n W → Pq (pD W) [fk fl t']
abbrev sValue : Stmt := topS 36
theorem scValue : FnScope ["parts_here", "row", "line", "letter", "table_here", "k", "j"] ["parts_here", "row"] (defScope sValue) := ⟨rfl, rfl, rfl, by decide +kernel, rfl, by decide +kernel, by decide +kernel⟩
def cValue : Ct := fun ds M Pq => ∃ (s n : Nat) (W : WD) (u : List Nat), ds = [pD W, .str (wStr u)] ∧ M = [] ∧ WOk s n W ∧ (∀ c ∈ u, c < s) ∧ Pq (.int (vl W u)) []
abbrev sMade : Stmt := topS 37
theorem scMade : FnScope ["signs", "parts_here"] ["signs", "parts_here"] (defScope sMade) := ⟨rfl, rfl, rfl, by decide +kernel, rfl, by decide +kernel, by decide +kernel⟩
def cMade (C : Addr) : Ct := fun ds M Pq => ∃ (s n : Nat) (W : WD), ds = [.int (s : Nat), pD W] ∧ M = [] ∧ WOk s n W ∧ Pq (wD C s W) []
abbrev sWords : Stmt := topS 38
theorem scWords : FnScope ["signs", "most", "found", "layer", "turn", "longer", "row", "letter"] ["signs", "most"] (defScope sWords) := ⟨rfl, rfl, rfl, by decide +kernel, rfl, by decide +kernel, by decide +kernel⟩
abbrev rD (s r : Nat) : D := .str (wStr (wd s r))
def cWords : Ct := fun ds M Pq => ∃ s m : Nat, ds = [.int (s : Nat), .int (m : Nat)] ∧ M = [] ∧ 1 ≤ s ∧ s ≤ 8 ∧ m ≤ 4 ∧ Pq (.lst ((List.range (Bn s m)).map (rD s))) []
theorem getI {ds : List D} {xs : List Int} {i : Nat} {d : D} (e : ds = xs.map D.int) (h : ds[i]? = some d) : ∃ n, xs[i]? = some n ∧ d = .int n := by
  rw [e, List.getElem?_map] at h
  cases q : xs[i]? with
  | none => rw [q] at h; cases h
  | some n => rw [q] at h; exact ⟨n, rfl, (Option.some.inj h).symm⟩
theorem cut6 (xs : List D) : cutD xs none (some 6) = xs.take 6 := cut_take xs 6
section
variable {P : Program} {w : World} {K : PySem.W.Frag} {mg : Str → Option Value} {base : Heap} {C : Addr}
theorem ok_flask {f : Addr} {fd : FuncData} (F : Fun K "_law_flask" "_law_flask" sFlask f fd) (hm : mg "_law_flask" = some (.ref f)) (hb : Binds K fd ["script", "k"] []) (L : Bl mg) : FnD P w K mg base 1 "_law_flask" ["script", "k"] cFlask := by
  refine fnD_of F hm hb scFlask (fun ds M Pq ⟨_, _, e, _⟩ => by rw [e]; rfl) fun X B ds M Pq h => ?_
  obtain ⟨xs, k, rfl, rfl, hk, q⟩ := h
  refine ds_mid (fun ρ M => ∃ own : Int, ρ = [some (.lsq (xs.map .int)), some (.int (k : Nat)), some (.int own), none, none] ∧ M = []) (ds_set B 2 (de_if (dt_I op_lt (de_name B 1 rfl (de_len B L.len (de_name B 0 rfl ⟨_, .l .q, _, _, rfl, rfl, fun ht => ?_, fun hf => ?_⟩)))))) ?_
  · have hl : k < xs.length := by
      have : (k : Int) < ((xs.map D.int).length : Nat) := by simpa using ht
      simp at this
      exact this
    exact de_int1 B L.int (de_ixL (de_name B 0 rfl (de_name B 1 rfl ⟨_, _, _, .q, rfl, at_int hl, _, rfl, _, rfl, rfl⟩)))
  · exact de_add (de_mul (de_int (de_name B 1 rfl ⟨_, _, rfl, rfl, .inl ⟨by decide, by decide⟩, de_int ⟨_, _, rfl, rfl, _, rfl, rfl⟩⟩)))
  rintro ρ1 M1 ⟨own, rfl, rfl⟩
  refine dss_cons (ds_set B 3 (de_add (de_int (de_mul (de_int (de_name B 1 rfl ⟨_, _, rfl, rfl, .inl ⟨by decide, by decide⟩, _, _, rfl, rfl, ?_⟩))))))
  refine dss_cons (ds_for B [4] (di_lst (DN.fz (dn_sliceL (de_name B 0 rfl (show DE _ _ _ _ _ from de_int ⟨6, rfl, _, .q, ?_⟩))))))
  rw [cut6, ← List.map_take]
  refine ⟨_, .inl rfl, fun i ρ M => ∃ (m : Int) (y : Option D), ρ = [some (.lsq (xs.map .int)), some (.int (k : Nat)), some (.int own), some (.int m), y] ∧ M = [], ⟨_, none, rfl, rfl⟩, fun i d ρ2 M2 hd ⟨m, y, er, em⟩ => ⟨trivial, ?_⟩, fun ρ2 M2 ⟨m, y, er, em⟩ => ⟨trivial, ?_⟩⟩
  · subst er; subst em
    obtain ⟨n, _, rfl⟩ := getI rfl hd
    refine dg_name B 4 (dss_one (ds_set B 3 (de_mod (de_int1 B L.int (de_add (de_mul (de_name B 3 rfl (de_int ⟨_, _, rfl, rfl, .inr ⟨by decide, by decide⟩, de_int1 B L.int (de_name B 4 rfl ⟨_, rfl, _, _, rfl, rfl, _, rfl, de_int ⟨_, _, rfl, rfl, by decide, _, _, rfl, rfl⟩⟩)⟩))))))))
  · subst er; subst em
    refine dss_one <| ds_ret <| DN.ow <| dn_lst <| da_cons ?_
    refine de_mod <| de_int1 B L.int <| de_add <| de_name B 3 rfl <| de_mul <| de_name B 2 rfl <| de_int ⟨_, _, rfl, rfl, .inr ⟨by decide, by decide⟩, _, _, rfl, rfl, _, rfl, de_int ⟨_, _, rfl, rfl, by decide, ?_⟩⟩
    refine da_two (de_int <| de_if <| dw_t <| dw_or <| dt_I op_lt <| de_name B 2 rfl <| de_int ⟨_, _, rfl, rfl, fun h1 => ?_, fun h1 => ⟨fun _ => ?_, fun h => nomatch h⟩⟩)
    · refine dw_or1 <| dt_I op_ge <| de_name B 2 rfl <| de_pow <| de_int <| de_int ⟨_, _, rfl, rfl, ⟨by decide, by decide, by decide⟩, _, _, rfl, rfl, fun h2 => ?_, fun h2 => ?_⟩
      · exact de_abs B L.abs (de_name B 2 rfl ⟨_, rfl, by simp, fun l _ => q l (_, _, _)⟩)
      · exact de_int ⟨by simp, fun l _ => q l (_, _, _)⟩
    · exact de_abs B L.abs (de_name B 2 rfl ⟨_, rfl, by simp, fun l _ => q l (_, _, _)⟩)
theorem ok_pour {f : Addr} {fd : FuncData} (F : Fun K "_law_pour" "_law_pour" sPour f fd) (hm : mg "_law_pour" = some (.ref f)) (hb : Binds K fd ["flask", "top"] []) (L : Bl mg) : FnD P w K mg base 1 "_law_pour" ["flask", "top"] cPour := by
  refine fnD_of F hm hb scPour (fun ds M Pq ⟨_, _, _, e, _⟩ => by rw [e]; rfl) fun X B ds M Pq h => ?_
  obtain ⟨fl, ⟨a, b, c⟩, top, rfl, rfl, h0, h1, q⟩ := h
  have fin : ∀ x : Int, x % (top : Int) = ((x % (top : Int)).toNat : Int) ∧ (x % (top : Int)).toNat < top := fun x => by
    have h2 := Int.emod_nonneg x (show (top : Int) ≠ 0 by omega)
    have h3 := Int.emod_lt_of_pos x (show (0 : Int) < top by omega)
    omega
  refine dss_cons (ds_asg (js := []) (de_add (de_ixL (de_name B 0 rfl (de_int ⟨_, _, _, .o (List.mem_cons_self), rfl, at1, de_int ⟨_, _, rfl, rfl, dg_sub (de_name B 0 rfl (de_int ⟨fl, _, _, 1, [], [], rfl, rfl, rfl, rfl, ?_⟩))⟩⟩)))))
  refine dss_cons (ds_if (dt_I op_gt (de_ixL (de_name B 0 rfl (de_int ⟨_, _, _, .o (List.mem_cons_self), rfl, at2, de_int ⟨_, _, rfl, rfl, fun hc => ?_, fun hc => dss_nil ?_⟩⟩)))))
  · refine dss_cons (ds_asg (js := [2]) (de_divmod B L.divmod (de_int1 B L.int (de_ixL (de_name B 0 rfl (de_int ⟨_, _, _, .o (List.mem_cons_self), rfl, at2, _, rfl, de_name B 1 rfl ⟨_, _, rfl, rfl, ⟨by omega, by omega⟩, dg_tup B (dgs_cons (dg_sub (de_name B 0 rfl (de_int ⟨fl, _, _, 2, [], [], rfl, rfl, rfl, rfl, dgs_cons (dg_name B 2 (dgs_nil ?_))⟩))))⟩⟩))))))
    refine dss_one (ds_ret (de_name B 2 rfl ?_))
    obtain ⟨e1, e2⟩ := fin c
    show Pq (.int (c % (top : Int))) _
    rw [e1]
    exact q (a, b + 1, c / (top : Int)) _ e2
  · refine dss_cons (ds_set B 3 (de_int1 B L.int (de_ixL (de_name B 0 rfl (de_int ⟨_, _, _, .o (List.mem_cons_self), rfl, at0, _, rfl, ?_⟩)))))
    refine dss_cons (ds_set B 4 (de_add (de_mod (de_int1 B L.int (de_name B 3 rfl ⟨_, rfl, de_int ⟨_, _, rfl, rfl, by decide, de_int ⟨_, _, rfl, rfl, ?_⟩⟩⟩)))))
    have hf : CMul a (a % 17011 + 61001) := .inr ⟨by omega, by omega⟩
    refine dss_cons <| ds_asg (js := []) <| de_mod <| de_int1 B L.int <| de_add <| de_add <| de_mul <| de_name B 3 rfl <| de_name B 4 rfl ⟨_, _, rfl, rfl, hf, ?_⟩
    refine de_mul <| de_int <| de_ixL <| de_name B 0 rfl <| de_int ⟨_, _, _, .o (List.mem_cons_self), rfl, at1, _, _, rfl, rfl, .inl ⟨by decide, by decide⟩, ?_⟩
    refine ⟨_, _, rfl, rfl, de_int ⟨_, _, rfl, rfl, _, rfl, de_int ⟨_, _, rfl, rfl, by decide, dg_sub <| de_name B 0 rfl <| de_int ⟨fl, _, _, 0, [], [], rfl, rfl, rfl, rfl, ?_⟩⟩⟩⟩
    refine dss_one <| ds_ret <| de_mod <| de_int1 B L.int <| de_fdiv <| de_ixL <| de_name B 0 rfl <| de_int ⟨_, _, _, .o (List.mem_cons_self), rfl, at0, ?_⟩
    refine de_int ⟨_, _, rfl, rfl, ⟨by decide, by decide⟩, _, rfl, de_name B 1 rfl ⟨_, _, rfl, rfl, by omega, ?_⟩⟩
    rw [(fin _).1]
    exact q (_, _, _) _ (fin _).2
theorem ok_pick {f : Addr} {fd : FuncData} (F : Fun K "_law_pick" "_law_pick" sPick f fd) (hm : mg "_law_pick" = some (.ref f)) (hb : Binds K fd ["flask", "some"] []) (L : Bl mg) (Fp : FnD P w K mg base 1 "_law_pour" ["flask", "top"] cPour) : FnD P w K mg base 2 "_law_pick" ["flask", "some"] cPick := by
  refine fnD_of F hm hb scPick (fun ds M Pq ⟨_, _, _, e, _⟩ => by rw [e]; rfl) fun X B ds M Pq h => ?_
  obtain ⟨fl, t, xs, rfl, rfl, h0, h1, q⟩ := h
  refine dss_one (ds_ret (de_ixL (de_name B 1 rfl (de_call B Fp (da_two (de_name B 0 rfl (de_len B L.len (de_name B 1 rfl ⟨_, .l .f, cac1 ⟨fl, t, xs.length, rfl, rfl, h0, h1, fun t' v hv => ?_⟩⟩))))))))
  exact ⟨_, _, _, .f, rfl, L2.atI_nat (List.getElem?_eq_getElem hv), q t' _ (List.getElem_mem _)⟩
end
end K53

set_option Elab.async false
set_option linter.all false
set_option maxRecDepth 100000
set_option maxHeartbeats 4000000
/-! K53p: the walk, parts, values, words. -/
namespace K53
open PySem PySem.Spec PyProof.Rows L2 DV
theorem dotL_range {xs gs : List Int} (h : xs.length = gs.length) : ((List.range xs.length).map fun j => xs.getD j 0 * gs.getD j 0).sum = dotL xs gs := by
  rw [← dotL_zip]
  congr 1
  apply List.ext_getElem
  · simp [h]
  · intro i h1 h2
    have hi : i < xs.length := by simpa using h1
    have hg : i < gs.length := by omega
    simp [List.getD_eq_getElem?_getD, hi, hg]
theorem col_getD {t : List (List Int)} {k j : Nat} (h : j < t.length) : (col t k).getD j 0 = (t.getD j []).getD k 0 := by
  unfold col
  simp [List.getD_eq_getElem?_getD, h]
theorem at_rowT {t : List (List Int)} {j : Nat} (h : j < t.length) : L2.atI (t.map fun r => tI r) (j : Int) = some (tI (t.getD j [])) := by
  refine at_map (f := fun r => tI r) ?_
  rw [List.getD_eq_getElem?_getD, List.getElem?_eq_getElem h]
  rfl
theorem abc_ix (c : Nat) (h : c < 8) : Txt.index0 (Str.ofString "abcdefgh") ⟨#[97 + c]⟩ = some c := by
  have : c = 0 ∨ c = 1 ∨ c = 2 ∨ c = 3 ∨ c = 4 ∨ c = 5 ∨ c = 6 ∨ c = 7 := by omega
  rcases this with rfl | rfl | rfl | rfl | rfl | rfl | rfl | rfl <;> decide +kernel
/-- the letters of the row of the first s signs -/
theorem abc_cut : ∀ s : Nat, s ≤ 8 → (cutS (Str.ofString "abcdefgh") none (some (s : Int))).cps.toList = (List.range s).map fun c => 97 + c := by
  intro s h
  have : s = 0 ∨ s = 1 ∨ s = 2 ∨ s = 3 ∨ s = 4 ∨ s = 5 ∨ s = 6 ∨ s = 7 ∨ s = 8 := by omega
  rcases this with rfl | rfl | rfl | rfl | rfl | rfl | rfl | rfl | rfl <;> decide +kernel
def Menu (v : Int) : Prop := v.natAbs ≤ 3
section
variable {P : Program} {w : World} {K : PySem.W.Frag} {mg : Str → Option Value} {base : Heap} {C : Addr}
theorem ok_parts {f : Addr} {fd : FuncData} (F : Fun K "_law_parts" "_law_parts" sParts f fd) (hm : mg "_law_parts" = some (.ref f)) (hb : Binds K fd ["flask", "signs", "most"] []) (L : Bl mg) (Fp : FnD P w K mg base 1 "_law_pour" ["flask", "top"] cPour) (Fk : FnD P w K mg base 2 "_law_pick" ["flask", "some"] cPick) : FnD P w K mg base 3 "_law_parts" ["flask", "signs", "most"] cParts := by
  refine fnD_of F hm hb scParts (fun ds M Pq ⟨_, _, _, e, _⟩ => by rw [e]; rfl) fun X B ds M Pq h => ?_
  obtain ⟨fl, t, s, rfl, rfl, s1, s8, q⟩ := h
  refine dss_cons <| ds_asgTT (js := [3, 4]) B rfl <| de_tup <| da_two <| de_add <| de_int <| de_call B Fp <| da_two <| de_name B 0 rfl <| de_name B 2 rfl <| cac1 ⟨fl, t, 2, rfl, rfl, by decide, by decide, fun t1 v hv => ⟨_, _, rfl, rfl, ?_⟩⟩
  refine DN.fz <| dn_lst <| da_cons <| de_int <| da_cons <| de_int <| da_cons <| de_int <| da_cons <| de_int <| da_cons <| de_int <| da_cons <| de_neg <| de_int ⟨_, rfl, da_two <| de_int <| de_neg <| de_int ⟨_, rfl, by simp, by simp, dg_tup B <| dgs_cons <| dg_name B 3 <| dgs_cons <| dg_name B 4 <| dgs_nil ?_⟩⟩
  obtain ⟨n, hn, n1, n2⟩ : ∃ n : Nat, (1 : Int) + (v : Int) = (n : Int) ∧ 1 ≤ n ∧ n ≤ 2 := ⟨1 + v, by omega, by omega, by omega⟩
  rw [hn]
  have hmenu : ∀ d ∈ ([.int 0, .int 0, .int 0, .int 1, .int 1, .int (-1), .int 2, .int (-3)] : List D), ∃ x : Int, d = .int x ∧ Menu x := by
    intro d hd
    simp only [List.mem_cons, List.not_mem_nil, or_false] at hd
    rcases hd with rfl | rfl | rfl | rfl | rfl | rfl | rfl | rfl <;> exact ⟨_, rfl, by unfold Menu; decide⟩
  refine dss_cons <| ds_set B 5 <| DN.ow <| dn_lst <| da_nil ⟨by simp, fun tb _ => ?_⟩
  have hrow : ∀ (ds : List D), ds.length = n → (∀ d ∈ ds, ∃ x : Int, d = .int x ∧ Menu x) → ∃ r : List Int, .tup ds = tI r ∧ r.length = n ∧ ∀ v ∈ r, Menu v := fun ds hl h => by
    obtain ⟨r, e, hr⟩ := all_enc h
    subst e
    exact ⟨r, rfl, by simpa using hl, hr⟩
  refine DSs.perm (M1 := [fk fl t1, (tb, .lst [])]) ?_ (List.Perm.swap _ _ _)
  refine dss_cons <| ds_for B [6] <| di_rng1 B L.range <| de_name B 1 rfl ⟨_, rfl, by omega, by omega, fun i ρ M => ∃ (x6 : Option D) (T : List (List (List Int))) (t : Int × Int × Int), ρ = [some (.loc fl), some (.int (s : Nat)), some (.int (2 : Nat)), some (.int (n : Nat)), some (.lst [.int 0, .int 0, .int 0, .int 1, .int 1, .int (-1), .int 2, .int (-3)]), some (.loc tb), x6, none, none, none] ∧ M = [fk fl t, (tb, .lst (T.map fun t => tTI t))] ∧ T.length = i ∧ (∀ t ∈ T, t.length = n) ∧ (∀ t ∈ T, ∀ r ∈ t, r.length = n ∧ ∀ v ∈ r, Menu v), ⟨none, [], t1, rfl, rfl, rfl, fun _ h => (nomatch h), fun _ h => (nomatch h)⟩, fun i d ρ2 M2 hd ⟨x6, T, t, er, em, hT, ht, hr⟩ => ⟨trivial, ?_⟩, fun ρ2 M2 ⟨x6, T, t, er, em, hT, ht, hr⟩ => ⟨trivial, ?_⟩⟩
  · subst er; subst em
    have hi : i < s := by
      have := (List.getElem?_eq_some_iff.mp hd).1
      simpa using this
    refine dg_name B 6 ?_
    refine dss_one <| ds_append <| de_name B 5 rfl ⟨tb, _, rfl, List.mem_cons_of_mem _ List.mem_cons_self, ?_⟩
    refine de_tuple B L.tuple <| DN.fz <| dn_lc B (own := [("j", 7)]) (js := [7]) <| di_rng1 B L.range <| de_name B 3 rfl ⟨_, rfl, by omega, by omega, ?_⟩
    refine lc_draw1 7 (List.range (n : Int).toNat) (fun j => .int (0 + (j : Int))) (fun M => ∃ t, M = [fk fl t, (tb, .lst (T.map fun t => tTI t))]) (fun d => ∃ r : List Int, d = tI r ∧ r.length = n ∧ ∀ v ∈ r, Menu v) (by simp; omega) (fun j M2 ⟨t, em⟩ X' B' => ?_) ⟨t, rfl⟩ (fun ds M2 hl hp ⟨t, em⟩ => ?_)
    · subst em
      refine de_tuple B' L.tuple <| DN.fz <| dn_lc B' (own := [("k", 8)]) (js := [8]) <| di_rng1 B' L.range <| de_name B' 3 rfl ⟨_, rfl, by omega, by omega, ?_⟩
      refine lc_draw1 8 (List.range (n : Int).toNat) (fun j => .int (0 + (j : Int))) (fun M => ∃ t, M = [fk fl t, (tb, .lst (T.map fun t => tTI t))]) (fun d => ∃ x : Int, d = .int x ∧ Menu x) (by simp; omega) (fun j M2 ⟨t, em⟩ X' B' => ?_) ⟨t, rfl⟩ (fun ds M2 hl hp ⟨t, em⟩ => ?_)
      · subst em
        exact de_call B' Fk <| da_two <| de_name B' 0 rfl <| de_name B' 4 rfl <| cac1 ⟨fl, t, _, rfl, rfl, by simp, by simp, fun t' d hd => ⟨hmenu d hd, t', rfl⟩⟩
      · subst em
        exact ⟨ds, .inl .f, hrow ds (by simpa using hl) hp, t, rfl⟩
    · subst em
      obtain ⟨rows, e, hrs⟩ := all_enc hp
      have hrl : rows.length = n := by rw [e] at hl; simpa using hl
      refine ⟨ds, .inl .f, T.map (fun t => tTI t), [fk fl t], [], rfl, by simp; omega, some d, T ++ [rows], t, ?_, ?_, by simp [hT], ?_, ?_⟩
      · rfl
      · subst e
        simp
      · intro t' ht'
        rcases List.mem_append.mp ht' with z | z
        · exact ht t' z
        · rw [List.mem_singleton.mp z]; exact hrl
      · intro t' ht'
        rcases List.mem_append.mp ht' with z | z
        · exact hr t' z
        · rw [List.mem_singleton.mp z]; exact hrs
  · subst er; subst em
    have hTs : T.length = s := by simpa using hT
    refine dss_cons <| ds_set B 9 <| de_tuple B L.tuple <| DN.fz <| dn_lc B (own := [("k", 8)]) (js := [8]) <| di_rng1 B L.range <| de_name B 3 rfl ⟨_, rfl, by omega, by omega, ?_⟩
    refine lc_draw1 8 (List.range (n : Int).toNat) (fun j => .int (0 + (j : Int))) (fun M => ∃ t, M = [fk fl t, (tb, .lst (T.map fun t => tTI t))]) (fun d => ∃ x : Int, d = .int x ∧ Menu x) (by simp; omega) (fun j M2 ⟨t, em⟩ X' B' => ?_) ⟨t, rfl⟩ (fun ds M2 hl hp ⟨t, em⟩ => ?_)
    · subst em
      exact de_call B' Fk <| da_two <| de_name B' 0 rfl <| de_name B' 4 rfl <| cac1 ⟨fl, t, _, rfl, rfl, by simp, by simp, fun t' d hd => ⟨hmenu d hd, t', rfl⟩⟩
    subst em
    obtain ⟨b, e, hb3⟩ := all_enc hp
    have hbl : b.length = n := by rw [e] at hl; simpa using hl
    subst e
    refine ⟨_, .inl .f, ?_⟩
    refine dss_one <| ds_ret <| de_less <| de_tup <| da_cons <| de_name B 9 rfl <| da_two <| de_tuple B L.tuple <| de_name B 5 rfl ⟨_, .inl (.o (List.mem_cons_of_mem _ List.mem_cons_self)), ?_⟩
    refine de_tuple B L.tuple <| DN.fz <| dn_lc B (own := [("k", 8)]) (js := [8]) <| di_rng1 B L.range <| de_name B 3 rfl ⟨_, rfl, by omega, by omega, ?_⟩
    refine lc_draw1 8 (List.range (n : Int).toNat) (fun j => .int (0 + (j : Int))) (fun M => ∃ t, M = [fk fl t, (tb, .lst (T.map fun t => tTI t))]) (fun d => ∃ x : Int, d = .int x ∧ x.natAbs ≤ 1000) (by simp; omega) (fun j M2 ⟨t, em⟩ X' B' => ?_) ⟨t, rfl⟩ (fun ds M2 hl hp ⟨t, em⟩ => ?_)
    · subst em
      refine de_call B' Fk <| da_two <| de_name B' 0 rfl <| DN.fz <| dn_cat <| de_name B' 4 rfl <| DN.fz <| dn_lst <| da_one <| de_int ⟨by simp, _, _, .f, .f, by simp, cac1 ⟨fl, t, _, rfl, rfl, by simp, by simp, fun t' d hd => ⟨?_, t', rfl⟩⟩⟩
      rcases List.mem_append.mp hd with z | z
      · obtain ⟨x, e, hx⟩ := hmenu d z
        exact ⟨x, e, Nat.le_trans hx (by decide)⟩
      · exact ⟨1000, List.mem_singleton.mp z, by decide⟩
    subst em
    obtain ⟨g, e, hg⟩ := all_enc hp
    have hgl : g.length = n := by rw [e] at hl; simpa using hl
    subst e
    refine ⟨_, .inl .f, by simp, [fk fl t], by simp, ?_⟩
    refine q t n ⟨b, T, g⟩ ⟨⟨hbl, hgl, hTs, ht, fun t h1 r h2 => (hr t h1 r h2).1, fun v hv => Nat.le_trans (hb3 v hv) (by decide), fun t h1 r h2 v hv => Nat.le_trans ((hr t h1 r h2).2 v hv) (by decide), hg, n1, by omega, s1, s8⟩, n2, hb3, fun t h1 r h2 => (hr t h1 r h2).2⟩
theorem ok_value {f : Addr} {fd : FuncData} (F : Fun K "_law_value" "_law_value" sValue f fd) (hm : mg "_law_value" = some (.ref f)) (hb : Binds K fd ["parts_here", "row"] []) (L : Bl mg) : FnD P w K mg base 1 "_law_value" ["parts_here", "row"] cValue := by
  refine fnD_of F hm hb scValue (fun ds M Pq ⟨_, _, _, _, e, _⟩ => by rw [e]; rfl) fun X B ds M Pq h => ?_
  obtain ⟨s, n, W, u, rfl, rfl, ok, hu, q⟩ := h
  have n3 := ok.n3
  have s8 := ok.s8
  refine dss_cons <| ds_setC B 2 <| DN.fz <| dn_list B L.list <| de_ixT <| de_name B 0 rfl <| de_int ⟨_, _, _, rfl, rfl, at0, _, .inr rfl, ?_⟩
  refine dss_cons <| ds_for B [3] <| di_str <| de_name B 1 rfl ⟨_, rfl, fun i ρ M => ∃ x3 x4, ρ = [some (pD W), some (.str (wStr u)), some (lI (run W (u.take i))), x3, x4, none, none] ∧ M = [], ⟨none, none, rfl, rfl⟩, fun i d ρ2 M2 hd ⟨x3, x4, er, em⟩ => ⟨trivial, ?_⟩, fun ρ2 M2 ⟨x3, x4, er, em⟩ => ⟨trivial, ?_⟩⟩
  · subst er; subst em
    obtain ⟨c, hc, rfl⟩ : ∃ c, u[i]? = some c ∧ D.str ⟨#[97 + c]⟩ = d := by
      unfold wStr at hd
      simp only [List.getElem?_map] at hd
      cases e : u[i]? with
      | none => rw [e] at hd; cases hd
      | some c => rw [e] at hd; exact ⟨c, rfl, Option.some.inj hd⟩
    have hcs := hu c (List.mem_of_getElem? hc)
    have htm := ok.tab hcs
    have hrun : run W (u.take (i + 1)) = movedL (run W (u.take i)) (W.T.getD c []) := by
      rw [List.take_add_one, hc]
      exact run_snoc _ _ _
    have hlen : (run W (u.take i)).length = n := run_len ok _ fun d hd => hu d (List.mem_of_mem_take hd)
    dsimp only
    rw [hrun]
    revert hlen
    generalize run W (u.take i) = y
    intro hlen
    have tl := ok.tl _ htm
    have rl := ok.rl _ htm
    have tb := ok.tb _ htm
    refine dg_name B 3 ?_
    refine dss_cons <| ds_setC B 4 <| de_ixT <| de_ixT <| de_name B 0 rfl <| de_int ⟨_, _, _, rfl, rfl, at1, de_strIndex <| de_str ⟨_, rfl, de_name B 3 rfl ⟨_, c, rfl, abc_ix c (by omega), _, _, _, rfl, rfl, at_tab ok hcs, ?_⟩⟩⟩
    revert tl rl tb
    generalize W.T.getD c [] = t
    intro tl rl tb
    refine dss_one <| ds_setC B 2 <| DN.fz <| dn_lc B (own := [("k", 5)]) (js := [5]) <| di_rng1 B L.range <| de_len B L.len <| de_name B 2 rfl ⟨_, .l .f, _, rfl, by simp; omega, by omega, ?_⟩
    refine lc_map1 5 (List.range ((y.map D.int).length : Int).toNat) (fun j => .int (0 + (j : Int))) (fun j => .int (dotL y (col t j))) (by simp; omega) (fun k hk X' B' Z z => ?_) ⟨some (.str ⟨#[97 + c]⟩), some (tTI t), ?_, rfl⟩
    · have hkn : k < n := by
        have := List.mem_range.mp hk
        simp at this
        omega
      refine de_sum B' L.sum <| DN.fz <| dn_lc B' (own := [("j", 6)]) (js := [6]) <| di_rng1 B' L.range <| de_len B' L.len <| de_name B' 2 rfl ⟨_, .l .f, _, rfl, by simp; omega, by omega, ?_⟩
      refine lc_map1 6 (List.range ((y.map D.int).length : Int).toNat) (fun j => .int (0 + (j : Int))) (fun j => .int (y.getD j 0 * (col t k).getD j 0)) (by simp; omega) (fun j hj X2 B2 Z2 z2 => ?_) ?_
      · have hjn : j < n := by
          have := List.mem_range.mp hj
          simp at this
          omega
        have hjt : j < t.length := by omega
        have hrm : t.getD j [] ∈ t := by
          rw [List.getD_eq_getElem?_getD, List.getElem?_eq_getElem hjt]
          exact List.getElem_mem _
        have hkr : k < (t.getD j []).length := by rw [rl _ hrm]; exact hkn
        rw [Int.zero_add, Int.zero_add]
        refine de_mul <| de_ixL <| de_name B2 2 rfl <| de_name B2 6 rfl ⟨_, _, _, .f, rfl, at_int (by omega), ?_⟩
        refine de_ixT <| de_ixT <| de_name B2 4 rfl <| de_name B2 6 rfl ⟨_, _, _, rfl, rfl, at_rowT hjt, de_name B2 5 rfl ⟨_, _, _, rfl, rfl, at_int hkr, _, _, rfl, rfl, cmul_r (tb _ hrm _ (List.mem_of_getElem? (getD_some hkr))), ?_⟩⟩
        rw [← col_getD hjt]
        exact z2
      · refine ⟨(List.range ((y.map D.int).length : Int).toNat).map fun j => y.getD j 0 * (col t k).getD j 0, by rw [List.map_map]; exact .f, ?_⟩
        have e : ((List.range ((y.map D.int).length : Int).toNat).map fun j => y.getD j 0 * (col t k).getD j 0).sum = dotL y (col t k) := by
          rw [← dotL_range (show y.length = (col t k).length by simp [col]; omega)]
          simp
        rw [e]
        exact z
    · have e : (List.range ((y.map D.int).length : Int).toNat).map (fun j => D.int (dotL y (col t j))) = (movedL y t).map .int := by
        unfold movedL
        rw [List.map_map, tl]
        simp [hlen]
      rw [e]
      rfl
  · subst er; subst em
    rw [show ((wStr u).cps.toList.map fun c => D.str ⟨#[c]⟩).length = u.length by unfold wStr; simp, List.take_length]
    have hlen : (run W u).length = n := run_len ok u hu
    unfold vl at q
    revert hlen q
    generalize run W u = y
    intro q hlen
    have hgl := ok.gl
    refine dss_one <| ds_ret <| de_sum B L.sum <| DN.fz <| dn_lc B (own := [("k", 5)]) (js := [5]) <| di_rng1 B L.range <| de_len B L.len <| de_name B 2 rfl ⟨_, .l .f, _, rfl, by simp; omega, by omega, ?_⟩
    refine lc_map1 5 (List.range ((y.map D.int).length : Int).toNat) (fun j => .int (0 + (j : Int))) (fun j => .int (y.getD j 0 * W.g.getD j 0)) (by simp; omega) (fun j hj X2 B2 Z2 z2 => ?_) ?_
    · have hjn : j < n := by
        have := List.mem_range.mp hj
        simp at this
        omega
      have hjg : j < W.g.length := by omega
      rw [Int.zero_add]
      refine de_mul <| de_ixL <| de_name B2 2 rfl <| de_name B2 5 rfl ⟨_, _, _, .f, rfl, at_int (by omega), ?_⟩
      exact de_ixT <| de_ixT <| de_name B2 0 rfl <| de_int ⟨_, _, _, rfl, rfl, at2, de_name B2 5 rfl ⟨_, _, _, rfl, rfl, at_int hjg, _, _, rfl, rfl, cmul_r (ok.gb _ (List.mem_of_getElem? (getD_some hjg))), z2⟩⟩
    · refine ⟨(List.range ((y.map D.int).length : Int).toNat).map fun j => y.getD j 0 * W.g.getD j 0, by rw [List.map_map]; exact .f, ?_⟩
      have e : ((List.range ((y.map D.int).length : Int).toNat).map fun j => y.getD j 0 * W.g.getD j 0).sum = dotL y W.g := by
        rw [← dotL_range (show y.length = W.g.length by omega)]
        simp
      rw [e]
      exact q
theorem ok_made {f : Addr} {fd : FuncData} (F : Fun K "_law_made" "_law_made" sMade f fd) (hm : mg "_law_made" = some (.ref f)) (hb : Binds K fd ["signs", "parts_here"] []) (Cl : ClsD P w K mg base 4 "Weigher" C ["self", "signs", "begins", "tables", "goals"] (cInit C)) : FnD P w K mg base 6 "_law_made" ["signs", "parts_here"] (cMade C) := by
  refine fnD_of F hm hb scMade (fun ds M Pq ⟨_, _, _, e, _⟩ => by rw [e]; rfl) fun X B ds M Pq h => ?_
  obtain ⟨s, n, W, rfl, rfl, ok, q⟩ := h
  refine dss_one <| ds_ret <| de_make B Cl <| da_cons <| de_name B 0 rfl <| da_cons <| de_ixT <| de_name B 1 rfl <| de_int ⟨_, _, _, rfl, rfl, at0, da_two <| de_ixT <| de_name B 1 rfl <| de_int ⟨_, _, _, rfl, rfl, at1, de_ixT <| de_name B 1 rfl <| de_int ⟨_, _, _, rfl, rfl, at2, fun o dx ho => ?_⟩⟩⟩
  exact ⟨fun d M2 => d = .non ∧ M2 = [(o, .ins C dx ["parts"] [.tup [.int (s : Nat), tI W.b, tTTI W.T, tI W.g]])], ⟨o, dx, s, n, W, rfl, rfl, ok, rfl, rfl⟩, fun d M2 ⟨e1, e2⟩ => ⟨_, _, e1, e2, q⟩⟩
theorem kids_range (s a i : Nat) (f : Nat → D) : (List.range (i * s)).map (fun j => f (s * a + 1 + j)) ++ (List.range s).map (fun c => f (s * (a + i) + c + 1)) = (List.range ((i + 1) * s)).map fun j => f (s * a + 1 + j) := by
  rw [Nat.succ_mul, List.range_add, List.map_append, List.map_map]
  congr 1
  refine List.map_congr_left fun c _ => ?_
  show f (s * (a + i) + c + 1) = f (s * a + 1 + (i * s + c))
  congr 1
  rw [Nat.mul_add, Nat.mul_comm s i]
  omega
theorem Bn_le {s : Nat} (h : s ≤ 8) : ∀ m, m ≤ 4 → Bn s m ≤ 5000 := by
  have h1 : Bn s 1 ≤ 9 := by show s * 1 + 1 ≤ 9; omega
  have h2 : Bn s 2 ≤ 73 := by show s * Bn s 1 + 1 ≤ 73; have := Nat.mul_le_mul h h1; omega
  have h3 : Bn s 3 ≤ 585 := by show s * Bn s 2 + 1 ≤ 585; have := Nat.mul_le_mul h h2; omega
  have h4 : Bn s 4 ≤ 4681 := by show s * Bn s 3 + 1 ≤ 4681; have := Nat.mul_le_mul h h3; omega
  intro m hm
  have : m = 0 ∨ m = 1 ∨ m = 2 ∨ m = 3 ∨ m = 4 := by omega
  rcases this with rfl | rfl | rfl | rfl | rfl
  · show 1 ≤ 5000; omega
  all_goals omega
theorem Bn_mono {s : Nat} (h : 1 ≤ s) {i m : Nat} (hi : i ≤ m) : Bn s i ≤ Bn s m := by
  induction hi with
  | refl => exact Nat.le_refl _
  | step _ ih =>
    refine Nat.le_trans ih ?_
    show _ ≤ s * _ + 1
    exact Nat.le_succ_of_le (Nat.le_mul_of_pos_left _ h)
theorem wd_short {s : Nat} (hs : 0 < s) : ∀ m r, r < Bn s m → (wd s r).length ≤ m := by
  intro m
  induction m with
  | zero =>
    intro r hr
    have : r = 0 := by have : r < 1 := hr; omega
    rw [this, wd_zero]
    exact Nat.le_refl _
  | succ m ih =>
    intro r
    refine rank_ind hs (Pd := fun r => r < Bn s (m + 1) → (wd s r).length ≤ m + 1) (fun _ => by rw [wd_zero]; exact Nat.zero_le _) (fun k c hc _ _ hr => ?_) r
    have hk : k < Bn s m := by
      have hr' : s * k + c + 1 < s * Bn s m + 1 := hr
      rcases Nat.lt_or_ge k (Bn s m) with z | z
      · exact z
      · have := Nat.mul_le_mul_left s z
        omega
    rw [wd_step hc]
    have := ih k hk
    simp
    omega
theorem ok_words {f : Addr} {fd : FuncData} (F : Fun K "_law_words" "_law_words" sWords f fd) (hm : mg "_law_words" = some (.ref f)) (hb : Binds K fd ["signs", "most"] []) (L : Bl mg) : FnD P w K mg base 1 "_law_words" ["signs", "most"] cWords := by
  refine fnD_of F hm hb scWords (fun ds M Pq ⟨_, _, e, _⟩ => by rw [e]; rfl) fun X B ds M Pq h => ?_
  obtain ⟨s, m, rfl, rfl, s1, s8, m4, q⟩ := h
  refine dss_cons <| ds_par B 2 3 <| DN.fz <| dn_lst <| da_one <| de_str ⟨by simp, DN.fz <| dn_lst <| da_one <| de_str ⟨by simp, ?_⟩⟩
  refine dss_cons <| ds_for B [4] <| di_rng1 B L.range <| de_name B 1 rfl ⟨_, rfl, by omega, by omega, fun i ρ M => ∃ (a l : Nat) (x4 x5 x6 : Option D), ρ = [some (.int (s : Nat)), some (.int (m : Nat)), some (.lst ((List.range (a + l)).map (rD s))), some (.lst ((List.range l).map fun i => rD s (a + i))), x4, x5, x6, none] ∧ M = [] ∧ a + l = s * a + 1 ∧ a + l = Bn s i, ⟨0, 1, none, none, none, ?_, rfl, by simp, rfl⟩, fun i d ρ2 M2 hd ⟨a, l, x4, x5, x6, er, em, e1, e2⟩ => ⟨trivial, ?_⟩, fun ρ2 M2 ⟨a, l, x4, x5, x6, er, em, e1, e2⟩ => ⟨trivial, ?_⟩⟩
  · have e : rD s 0 = .str (Str.ofString "") := by unfold rD; rw [wd_zero, ← wStr_nil]
    show _ = [_, _, some (D.lst [rD s 0]), some (D.lst [rD s (0 + 0)]), none, none, none, none]
    rw [Nat.add_zero, e]
    rfl
  · subst er; subst em
    have hi : i < m := by
      have := (List.getElem?_eq_some_iff.mp hd).1
      simpa using this
    have hB := Bn_le s8 _ m4
    have hBi : Bn s (i + 1) ≤ Bn s m := Bn_mono s1 hi
    have hBs : Bn s (i + 1) = a + l + l * s := by
      show s * Bn s i + 1 = _
      rw [← e2, Nat.mul_add, Nat.mul_comm s l]
      omega
    refine dg_name B 4 ?_
    refine dss_cons <| ds_set B 5 <| DN.fz <| dn_lst <| da_nil ⟨by simp, ?_⟩
    refine dss_cons <| ds_for B [6] <| di_lst <| de_name B 3 rfl ⟨_, .inl rfl, fun i2 ρ M => ∃ (x6 : Option D), ρ = [some (.int (s : Nat)), some (.int (m : Nat)), some (.lst ((List.range (a + l)).map (rD s))), some (.lst ((List.range l).map fun i => rD s (a + i))), some d, some (.lst ((List.range (i2 * s)).map fun j => rD s (s * a + 1 + j))), x6, none] ∧ M = [], ⟨x6, by rw [Nat.zero_mul]; rfl, rfl⟩, fun i2 d2 ρ2 M2 hd2 ⟨x6, er, em⟩ => ⟨trivial, ?_⟩, fun ρ2 M2 ⟨x6, er, em⟩ => ⟨trivial, ?_⟩⟩
    · subst er; subst em
      have hi2 : i2 < l := by
        have := (List.getElem?_eq_some_iff.mp hd2).1
        simpa using this
      have ed : d2 = rD s (a + i2) := by
        rw [List.getElem?_map, List.getElem?_range hi2] at hd2
        exact (Option.some.inj hd2).symm
      subst ed
      have hwl : (wd s (a + i2)).length ≤ 4 := wd_short s1 4 _ (by have := Bn_mono s1 (show i ≤ 4 by omega); omega)
      refine dg_name B 6 ?_
      refine dss_one <| ds_set B 5 <| DN.fz <| dn_cat <| de_name B 5 rfl <| DN.fz <| dn_lc B (own := [("letter", 7)]) (js := [7]) <| di_str <| de_sliceS <| de_str <| (show DE _ _ _ _ _ from de_name B 0 rfl ⟨_, rfl, _, rfl, by decide +kernel, _, rfl, ?_⟩)
      rw [abc_cut s s8, List.map_map]
      refine lc_map1 7 (List.range s) (fun c => D.str ⟨#[97 + c]⟩) (fun c => rD s (s * (a + i2) + c + 1)) (by simp; omega) (fun c hc X' B' Z z => ?_) ⟨_, _, .f, .f, ?_, ?_⟩
      · refine de_catS <| de_name B' 6 rfl <| de_name B' 7 rfl ⟨_, _, rfl, rfl, ?_, ?_⟩
        · rw [wStr_len]
          show (wd s (a + i2)).length + 1 ≤ _
          omega
        · rw [wStr_snoc, ← wd_step (List.mem_range.mp hc)]
          exact z
      · have : i2 * s ≤ l * s := Nat.mul_le_mul_right s (Nat.le_of_lt hi2)
        simp
        omega
      · exact ⟨some (rD s (a + i2)), by rw [kids_range s a i2 (rD s)]; rfl, rfl⟩
    · subst er; subst em
      rw [List.length_map, List.length_range]
      refine dss_one <| ds_par B 2 3 <| DN.fz <| dn_cat <| de_name B 2 rfl <| de_name B 5 rfl ⟨_, _, .f, .f, by simp; omega, de_name B 5 rfl ⟨a + l, l * s, some d, some (.lst ((List.range (l * s)).map fun j => rD s (s * a + 1 + j))), x6, ?_, rfl, ?_, ?_⟩⟩
      · have er2 : (List.range (a + l + l * s)).map (rD s) = (List.range (a + l)).map (rD s) ++ (List.range (l * s)).map fun j => rD s (a + l + j) := by
          rw [show List.range (a + l + l * s) = List.range (a + l) ++ (List.range (l * s)).map (fun x => a + l + x) by first | exact List.range_add | exact List.range_add _ _, List.map_append, List.map_map]
          rfl
        have ef : (fun j => rD s (s * a + 1 + j)) = fun j => rD s (a + l + j) := by rw [e1]
        rw [er2, ef]
        rfl
      · rw [Nat.mul_add, Nat.mul_comm s l]; omega
      · exact hBs.symm
  · subst er; subst em
    refine dss_one <| ds_ret <| de_name B 2 rfl ?_
    have : a + l = Bn s m := by simpa using e2
    rw [this]
    exact q
end
end K53

set_option Elab.async false
set_option linter.all false
set_option maxRecDepth 100000
set_option maxHeartbeats 4000000
/-! K53u: the plain law of the others that keep the values: they are weighers. -/
namespace DV
open PySem PySem.Spec PyProof.Rows L2
section
variable {X : Cx} {P : Program} {w : World} {K : PySem.W.Frag} {mg : Str → Option Value} {base : Heap} {N : List Str} {sc : Scope} {fn : Str → Bool} {k : Nat} {ρ : Env} {M : Mem} {ZL : List D → Mem → Prop} {tg elt : Expr} {scope : Scope} {vs js : List Nat}
theorem lc_mapR {α : Type} (xs : List α) (enc g : α → D) (ρ2 : α → Env) (R : Mem → Prop) (hl : xs.length ≤ 1000000)
    (ht : ∀ x ∈ xs, ∀ M2 X', Bd' X' P w K mg base N scope sc k → ∀ Zt : Env → Mem → Prop, Zt (ρ2 x) M2 → DG X' tg (enc x) (wipeD ρ vs) M2 js Zt) (hR : R M)
    (hb : ∀ x ∈ xs, ∀ X', Bd' X' P w K mg base N scope sc k → ∀ Z : D → Mem → Prop, Z (g x) M → DE X' elt (ρ2 x) M Z) (q : ZL (xs.map g) M) : LcOk X P w K mg base N sc k scope tg elt [] vs js ρ (xs.map enc) R M ZL :=
  lc_inv xs enc ρ2 R (fun i acc M2 => acc = (xs.take i).map g ∧ M2 = M) hl ht (fun i acc M2 ⟨_, e⟩ => by rw [e]; exact hR)
    (fun i x acc M2 hx ⟨e1, e2⟩ X' B' => by
      subst e2
      refine hb x (List.mem_of_getElem? hx) X' B' _ ⟨?_, rfl⟩
      rw [e1, List.take_add_one, hx, List.map_append]
      rfl) ⟨rfl, rfl⟩ (fun ds M2 ⟨e1, e2⟩ => by
      subst e2
      rw [e1, List.take_length]
      exact q)
theorem lc_map1R {α : Type} (j : Nat) {y : Str} {pos : Pos} (xs : List α) (enc g : α → D) (R : Mem → Prop) (hl : xs.length ≤ 1000000) (hR : R M)
    (hb : ∀ x ∈ xs, ∀ X', Bd' X' P w K mg base N scope sc k → ∀ Z : D → Mem → Prop, Z (g x) M → DE X' elt ((wipeD ρ vs).set j (some (enc x))) M Z) (q : ZL (xs.map g) M)
    (hj : N[j]? = some y := by rfl) (hloc : locB (relS scope sc) (fun x => scope.names.lookup x == some .cell) y = true := by rfl) : LcOk X P w K mg base N sc k scope (.Name y pos) elt [] vs [j] ρ (xs.map enc) R M ZL :=
  lc_mapR xs enc g (fun x => (wipeD ρ vs).set j (some (enc x))) R hl (fun x _ M2 X' B' Zt z => dg_name B' j z (by simp) hj hloc) hR hb q
theorem lc_map2R {α : Type} (j1 j2 : Nat) {y1 y2 : Str} {pos pos1 pos2 : Pos} {kq : Nat} (xs : List α) (e1 e2 g : α → D) (R : Mem → Prop) (hl : xs.length ≤ 1000000) (hR : R M) (hb : ∀ x ∈ xs, ∀ X', Bd' X' P w K mg base N scope sc k → ∀ Z : D → Mem → Prop, Z (g x) M → DE X' elt (((wipeD ρ vs).set j1 (some (e1 x))).set j2 (some (e2 x))) M Z) (q : ZL (xs.map g) M)
    (hj1 : N[j1]? = some y1 := by rfl) (hj2 : N[j2]? = some y2 := by rfl) (hloc1 : locB (relS scope sc) (fun x => scope.names.lookup x == some .cell) y1 = true := by rfl) (hloc2 : locB (relS scope sc) (fun x => scope.names.lookup x == some .cell) y2 = true := by rfl) : LcOk X P w K mg base N sc k scope (.Tuple [.Name y1 pos1, .Name y2 pos2] kq pos) elt [] vs [j1, j2] ρ (xs.map fun x => .tup [e1 x, e2 x]) R M ZL :=
  lc_mapR xs (fun x => .tup [e1 x, e2 x]) g (fun x => ((wipeD ρ vs).set j1 (some (e1 x))).set j2 (some (e2 x))) R hl (fun x _ M2 X' B' Zt z => dg_tup B' (dgs_cons (dg_name B' j1 (dgs_cons (dg_name B' j2 (dgs_nil z) (by simp) hj2 hloc2)) (by simp) hj1 hloc1))) hR hb q
end
end DV
namespace K53
open PySem PySem.Spec PyProof.Rows L2 DV
theorem getD_le {b : List Int} {m : Nat} (h : ∀ v ∈ b, v.natAbs ≤ m) (j : Nat) : (b.getD j 0).natAbs ≤ m := by
  rw [List.getD_eq_getElem?_getD]
  cases e : b[j]? with
  | none => exact Nat.zero_le _
  | some v => exact h v (List.mem_of_getElem? e)
theorem mul2 {t x : Int} {m : Nat} (ht : t.natAbs ≤ 2) (hx : x.natAbs ≤ m) : (t * x).natAbs ≤ 2 * m := by
  rw [Int.natAbs_mul]
  exact Nat.mul_le_mul ht hx
theorem turnB_le {b : List Int} {m j k : Nat} {t : Int} (h : ∀ v ∈ b, v.natAbs ≤ m) (ht : t.natAbs ≤ 2) : ∀ v ∈ turnB j k t b, v.natAbs ≤ 3 * m := fun v hv => by
  rcases List.mem_or_eq_of_mem_set hv with z | z
  · have := h v z; omega
  · have h1 := getD_le h k
    have h2 := mul2 ht (getD_le h j)
    omega
theorem turnB_len (j k : Nat) (t : Int) (b : List Int) : (turnB j k t b).length = b.length := by simp [turnB]
theorem turnG_len (j k : Nat) (t : Int) (b : List Int) : (turnG j k t b).length = b.length := by simp [turnG]
theorem turnR_len (j k : Nat) (t : Int) (r : List (List Int)) : (turnR j k t r).length = r.length := by simp [turnR]
theorem turn_ok {s j k : Nat} {t : Int} {W : WD} (h : LOk s 2 W) (hj : j < 2) (hk : k < 2) (ht : t.natAbs ≤ 2) (hg : ∀ v ∈ turnG j k t W.g, v.natAbs ≤ 1000) : WOk s 2 (turnW j k t W) := by
  have ok := h.ok
  have rows : ∀ tb ∈ (turnW j k t W).T, tb.length = 2 ∧ ∀ r ∈ tb, r.length = 2 ∧ ∀ v ∈ r, v.natAbs ≤ 1000 := by
    intro tb htb
    obtain ⟨t0, h0, rfl⟩ := List.mem_map.mp htb
    obtain ⟨r0, r1, e⟩ := two_of (ok.tl t0 h0)
    have hl := ok.rl t0 h0
    have hb := h.t3 t0 h0
    subst e
    refine ⟨by rw [turnR_len]; rfl, fun r hr => ?_⟩
    have base : ∀ x, x ∈ [r0, r1] → (turnB j k t x).length = 2 ∧ ∀ v ∈ turnB j k t x, v.natAbs ≤ 9 := fun x hx => ⟨by rw [turnB_len]; exact hl x hx, turnB_le (hb x hx) ht⟩
    have b0 := base r0 (by simp)
    have b1 := base r1 (by simp)
    rcases List.mem_or_eq_of_mem_set hr with z | z
    · obtain ⟨x, hx, rfl⟩ := List.mem_map.mp z
      have := base x hx
      exact ⟨this.1, fun v hv => Nat.le_trans (this.2 v hv) (by decide)⟩
    · have gd : ∀ i, i < 2 → ([r0, r1].map (turnB j k t)).getD i [] = turnB j k t r0 ∨ ([r0, r1].map (turnB j k t)).getD i [] = turnB j k t r1 := fun i hi => by
        have : i = 0 ∨ i = 1 := by omega
        rcases this with rfl | rfl
        · exact .inl rfl
        · exact .inr rfl
      have gj : (([r0, r1].map (turnB j k t)).getD j []).length = 2 ∧ ∀ v ∈ ([r0, r1].map (turnB j k t)).getD j [], v.natAbs ≤ 9 := by
        rcases gd j hj with e | e <;> rw [e]
        · exact b0
        · exact b1
      have gk : (([r0, r1].map (turnB j k t)).getD k []).length = 2 ∧ ∀ v ∈ ([r0, r1].map (turnB j k t)).getD k [], v.natAbs ≤ 9 := by
        rcases gd k hk with e | e <;> rw [e]
        · exact b0
        · exact b1
      obtain ⟨x0, x1, ex⟩ := two_of gj.1
      obtain ⟨y0, y1, ey⟩ := two_of gk.1
      rw [ex, ey] at z
      have gj2 := gj.2
      have gk2 := gk.2
      rw [ex] at gj2
      rw [ey] at gk2
      subst z
      refine ⟨rfl, fun v hv => ?_⟩
      have h1 := gj2 x0 (by simp)
      have h2 := gj2 x1 (by simp)
      have h3 := mul2 ht (gk2 y0 (by simp))
      have h4 := mul2 ht (gk2 y1 (by simp))
      have : v = x0 - t * y0 ∨ v = x1 - t * y1 := by simpa using hv
      rcases this with rfl | rfl <;> omega
  exact ⟨(turnB_len _ _ _ _).trans ok.bl, (turnG_len _ _ _ _).trans ok.gl, by show (W.T.map _).length = s; rw [List.length_map]; exact ok.Tl, fun tb h => (rows tb h).1, fun tb h r hr => ((rows tb h).2 r hr).1, fun v hv => Nat.le_trans (turnB_le h.b3 ht v hv) (by decide), fun tb h r hr => ((rows tb h).2 r hr).2, hg, ok.n1, ok.n3, ok.s1, ok.s8⟩
theorem share_ok {s n j : Nat} {p : Int} {W : WD} (h : LOk s n W) (hj : j < n) (hp : p.natAbs ≤ 5) : WOk s (n + 1) (shareW j p W) := by
  have ok := h.ok
  have n2 := h.n2
  have rows : ∀ tb ∈ (shareW j p W).T, tb.length = n + 1 ∧ ∀ r ∈ tb, r.length = n + 1 ∧ ∀ v ∈ r, v.natAbs ≤ 1000 := by
    intro tb htb
    obtain ⟨t0, h0, rfl⟩ := List.mem_map.mp htb
    have tl := ok.tl t0 h0
    have hl := ok.rl t0 h0
    have hb := ok.tb t0 h0
    have one : ∀ x ∈ t0, (x ++ [(0 : Int)]).length = n + 1 ∧ ∀ v ∈ x ++ [(0 : Int)], v.natAbs ≤ 1000 := fun x hx => ⟨by simp [hl x hx], fun v hv => by
      rcases List.mem_append.mp hv with z | z
      · exact hb x hx v z
      · rw [List.mem_singleton.mp z]; decide⟩
    refine ⟨by simp [shareR, tl], fun r hr => ?_⟩
    rcases List.mem_append.mp hr with z | z
    · obtain ⟨x, hx, rfl⟩ := List.mem_map.mp z
      exact one x hx
    · rw [List.mem_singleton.mp z]
      refine one _ ?_
      rw [List.getD_eq_getElem?_getD, List.getElem?_eq_getElem (by omega)]
      exact List.getElem_mem _
  refine ⟨?_, by simp [shareW, ok.gl], by simp [shareW, ok.Tl], fun tb h => (rows tb h).1, fun tb h r hr => ((rows tb h).2 r hr).1, fun v hv => ?_, fun tb h r hr => ((rows tb h).2 r hr).2, fun v hv => ?_, by omega, by omega, ok.s1, ok.s8⟩
  · have := ok.bl
    simp [shareW, shareB]
    omega
  · have gb := getD_le h.b3 j
    have hv' : v ∈ shareB j p W.b := hv
    unfold shareB at hv'
    simp only [List.mem_append, List.mem_singleton] at hv'
    rcases hv' with ((z | z) | z) | z
    · exact Nat.le_trans (h.b3 v (List.mem_of_mem_take z)) (by decide)
    · omega
    · exact Nat.le_trans (h.b3 v (List.mem_of_mem_drop z)) (by decide)
    · omega
  · have hv' : v ∈ W.g ++ [W.g.getD j 0] := hv
    rcases List.mem_append.mp hv' with z | z
    · exact ok.gb v z
    · rw [List.mem_singleton.mp z]; exact getD_le ok.gb j
end K53

set_option Elab.async false
set_option linter.all false
set_option maxRecDepth 100000
set_option maxHeartbeats 4000000
/-! K53t: the walk, others made of parts. -/
namespace DV
open PySem PySem.Spec PyProof.Rows L2
theorem ixN_n {n j : Nat} (hj : j < n) : ixN n (j : Int) = some j := by
  unfold ixN
  rw [if_pos (by omega), if_pos (by omega)]
  simp
theorem lc_drawm {P : Program} {w : World} {K : PySem.W.Frag} {mg : Str → Option Value} {base : Heap} {N : List Str} {sc : Scope} {k : Nat} {ρ : DV.Env} {M : Mem} {ZL : List D → Mem → Prop} {elt : Expr} {scope : Scope} {vs : List Nat} {α : Type} (j : Nat) {y : Str} {pos : Pos} (xs : List α) (enc : α → D) (I : Mem → Prop) (p : D → Prop) (hl : xs.length ≤ 1000000)
    (hb : ∀ x ∈ xs, ∀ M2, I M2 → ∀ X', Bd' X' P w K mg base N scope sc k → DE X' elt ((wipeD ρ vs).set j (some (enc x))) M2 (fun d M3 => p d ∧ I M3))
    (h0 : I M) (q : ∀ ds M2, ds.length = xs.length → (∀ d ∈ ds, p d) → I M2 → ZL ds M2)
    (hj : N[j]? = some y := by rfl) (hloc : locB (relS scope sc) (fun x => scope.names.lookup x == some .cell) y = true := by rfl) : LcOk X P w K mg base N sc k scope (.Name y pos) elt [] vs [j] ρ (xs.map enc) RT M ZL :=
  lc_inv1 j xs enc RT (fun i acc M2 => acc.length = i ∧ (∀ d ∈ acc, p d) ∧ I M2) hl (fun _ _ _ _ => trivial)
    (fun i x acc M2 hx ⟨h1, h2, h3⟩ X' B' => (hb x (List.mem_of_getElem? hx) M2 h3 X' B').imp fun d M3 ⟨pd, im⟩ => ⟨by simp [h1], fun e he => by
      rcases List.mem_append.mp he with z | z
      · exact h2 e z
      · rw [List.mem_singleton.mp z]; exact pd, im⟩)
    ⟨rfl, fun _ h => (nomatch h), h0⟩ (fun ds M2 ⟨h1, h2, h3⟩ => q ds M2 h1 h2 h3) hj hloc
end DV
namespace K53
open PySem PySem.Spec PyProof.Rows L2 DV
abbrev sTurned : Stmt := topS 39
theorem scTurned : FnScope ["flask", "parts_here", "begins_here", "tables_here", "goals_here", "size", "times", "j", "k", "table_here", "rows_here", "row", "one", "other", "each", "is_great"] ["flask", "parts_here"] (defScope sTurned) := ⟨rfl, rfl, rfl, by decide +kernel, rfl, by decide +kernel, by decide +kernel⟩
def Same (s : Nat) (V W : WD) : Prop := ∀ u, (∀ c ∈ u, c < s) → vl V u = vl W u
def cTurned : Ct := fun ds M Pq => ∃ fl t, ∃ s n : Nat, ∃ W : WD, ds = [.loc fl, pD W] ∧ M = [fk fl t] ∧ LOk s n W ∧ ∀ t' m V, WOk s m V → m ≤ 3 → Same s V W → Pq (pD V) [fk fl t']
abbrev sShareD : Stmt := topS 40
theorem scShareD : FnScope ["flask", "parts_here", "begins_here", "tables_here", "goals_here", "size", "found", "part", "j", "table_here", "rest", "row"] ["flask", "parts_here"] (defScope sShareD) := ⟨rfl, rfl, rfl, by decide +kernel, rfl, by decide +kernel, by decide +kernel⟩
abbrev sBent : Stmt := topS 41
theorem scBent : FnScope ["flask", "parts_here", "tables_here", "row", "table_here", "each"] ["flask", "parts_here"] (defScope sBent) := ⟨rfl, rfl, rfl, by decide +kernel, rfl, by decide +kernel, by decide +kernel⟩
def cBent : Ct := fun ds M Pq => ∃ fl t, ∃ s n : Nat, ∃ W : WD, ds = [.loc fl, pD W] ∧ M = [fk fl t] ∧ LOk s n W ∧ ∀ t' m V, WOk s m V → m ≤ 3 → Pq (pD V) [fk fl t']
theorem oneI {a : Int} (h : a.natAbs ≤ 1000) (b : Int) : CMul a b := .inl ⟨by omega, by omega⟩
section
variable {P : Program} {w : World} {K : PySem.W.Frag} {mg : Str → Option Value} {base : Heap} {C : Addr}
theorem ok_share {f : Addr} {fd : FuncData} (F : Fun K "_law_shared" "_law_shared" sShareD f fd) (hm : mg "_law_shared" = some (.ref f)) (hb : Binds K fd ["flask", "parts_here"] []) (L : Bl mg) (Fp : FnD P w K mg base 1 "_law_pour" ["flask", "top"] cPour) (Fk : FnD P w K mg base 2 "_law_pick" ["flask", "some"] cPick) : FnD P w K mg base 3 "_law_shared" ["flask", "parts_here"] cTurned := by
  refine fnD_of F hm hb scShareD (fun ds M Pq ⟨_, _, _, _, _, e, _⟩ => by rw [e]; rfl) fun X B ds M Pq h => ?_
  obtain ⟨fl, t, s, n, W, rfl, rfl, ok, q⟩ := h
  have n2 := ok.n2
  have n1 := ok.ok.n1
  have s8 := ok.ok.s8
  have bl := ok.ok.bl
  refine dss_cons <| ds_asg (js := [2, 3, 4]) <| de_name B 1 rfl <| dg_tup B <| dgs_cons <| dg_name B 2 <| dgs_cons <| dg_name B 3 <| dgs_cons <| dg_name B 4 <| dgs_nil ?_
  refine dss_cons <| ds_par3 B 5 6 7 <| de_len B L.len <| de_name B 2 rfl ⟨_, .t, DN.ow <| dn_lst <| da_nil ⟨by simp, fun fo _ => ?_⟩⟩
  refine de_call B Fk <| da_two <| de_name B 0 rfl <| DN.fz <| dn_lst <| da_cons <| de_int <| da_two <| de_int <| de_neg <| de_int ⟨_, rfl, by simp, cacL (R := [(fo, .lst [])]) ⟨fl, t, _, rfl, rfl, by simp, by simp, fun t1 d hd => ?_⟩⟩
  obtain ⟨p, rfl, hp⟩ : ∃ p : Int, d = .int p ∧ p.natAbs ≤ 5 := by
    simp only [List.mem_cons, List.not_mem_nil, or_false] at hd
    rcases hd with rfl | rfl | rfl <;> exact ⟨_, rfl, by decide⟩
  refine dss_cons <| ds_set B 8 <| de_call B Fp <| da_two <| de_name B 0 rfl <| de_name B 5 rfl <| cac1 ⟨fl, t1, _, rfl, rfl, by simp; omega, by simp; omega, fun t2 j hj => ?_⟩
  have hjn : j < n := by simpa [bl] using hj
  refine dss_cons <| ds_for B [9] <| di_tup <| de_name B 3 rfl ⟨_, rfl, fun i ρ M => ∃ x9, ρ = [some (.loc fl), some (pD W), some (tI W.b), some (tTTI W.T), some (tI W.g), some (.int ((W.b.map D.int).length : Nat)), some (.loc fo), some (.int p), some (.int (j : Nat)), x9, none, none] ∧ M = [fk fl t2, (fo, .lst (((W.T.map (shareR j)).take i).map fun t => tTI t))], ⟨none, rfl, rfl⟩, fun i d ρ2 M2 hd ⟨x9, er, em⟩ => ⟨trivial, ?_⟩, fun ρ2 M2 ⟨x9, er, em⟩ => ⟨trivial, ?_⟩⟩
  · subst er; subst em
    obtain ⟨tb, htb, rfl⟩ : ∃ tb, W.T[i]? = some tb ∧ tTI tb = d := by
      rw [List.getElem?_map] at hd
      cases e : W.T[i]? with
      | none => rw [e] at hd; cases hd
      | some n => rw [e] at hd; exact ⟨n, rfl, Option.some.inj hd⟩
    have htm := List.mem_of_getElem? htb
    have tl := ok.ok.tl _ htm
    have rl := ok.ok.rl _ htm
    have hil : i < W.T.length := (List.getElem?_eq_some_iff.mp htb).1
    have hTl := ok.ok.Tl
    refine dg_name B 9 <| dss_one <| ds_append <| de_name B 6 rfl ⟨fo, _, rfl, List.mem_cons_of_mem _ List.mem_cons_self, ?_⟩
    refine de_catT <| de_tuple B L.tuple <| DN.fz <| dn_lc B (own := [("row", 11)]) (js := [11]) <| di_tup <| de_name B 9 rfl ⟨_, rfl, ?_⟩
    refine lc_map1 11 tb (fun r => tI r) (fun r => tI (r ++ [0])) (by omega) (fun r hr X' B' Z z => ?_) ⟨_, .inl .f, ?_⟩
    · refine de_catT <| de_name B' 11 rfl <| de_tup <| da_one <| de_int ⟨by simp, _, _, rfl, rfl, by simp [rl r hr]; omega, ?_⟩
      rw [show (tI (r ++ [0]) : D) = .tup (r.map .int ++ [.int 0]) from congrArg D.tup (by simp)] at z
      exact z
    · refine de_tup <| da_one <| de_catT <| de_ixT <| de_name B 9 rfl <| de_name B 8 rfl ⟨_, _, _, rfl, rfl, at_rowT (by omega), de_tup <| da_one <| de_int ⟨by simp, _, _, rfl, rfl, ?_, by simp, _, _, rfl, rfl, by simp; omega, _, [fk fl t2], [], rfl, by simp; omega, some (tTI tb), rfl, ?_⟩⟩
      · have hrm : tb.getD j [] ∈ tb := by
          rw [List.getD_eq_getElem?_getD, List.getElem?_eq_getElem (by omega)]
          exact List.getElem_mem _
        rw [List.length_map, rl _ hrm]
        simp
        omega
      · have e1 : (W.T.map (shareR j)).take (i + 1) = (W.T.map (shareR j)).take i ++ [shareR j tb] := by
          rw [List.take_add_one, List.getElem?_map, htb]
          rfl
        rw [e1, List.map_append]
        show [_, (fo, MO.lst (_ ++ [D.tup (tb.map (fun r => tI (r ++ [0])) ++ [D.tup ((tb.getD j []).map D.int ++ [D.int 0])])]))] = [_, (fo, MO.lst (_ ++ [tTI (shareR j tb)]))]
        have e2 : tTI (shareR j tb) = D.tup (tb.map (fun r => tI (r ++ [0])) ++ [D.tup ((tb.getD j []).map D.int ++ [D.int 0])]) := by
          show D.tup _ = D.tup _
          unfold shareR
          rw [List.map_append, List.map_map, List.map_singleton]
          show D.tup (_ ++ [D.tup (List.map D.int (tb.getD j [] ++ [0]))]) = _
          rw [List.map_append]
          rfl
        rw [e2]
  · subst er; subst em
    have hx : (W.T.map fun t => tTI t).length = (W.T.map (shareR j)).length := by simp
    rw [hx, List.take_length]
    refine dss_cons <| ds_set B 10 <| de_catT <| de_catT <| de_sliceT <| de_name B 2 rfl <| (show DE _ _ _ _ _ from de_name B 8 rfl ⟨_, rfl, _, rfl, ?_⟩)
    refine de_tup <| da_one <| de_sub <| de_ixT <| de_name B 2 rfl <| de_name B 8 rfl ⟨_, _, _, rfl, rfl, at_int (by omega), de_name B 7 rfl ⟨_, _, rfl, rfl, by simp, _, _, rfl, rfl, ?_, ?_⟩⟩
    · rw [cut_take]
      simp
      omega
    refine de_sliceT <| de_name B 2 rfl <| (show DE _ _ _ _ _ from de_add <| de_name B 8 rfl <| de_int ⟨_, _, rfl, rfl, _, rfl, _, rfl, _, _, rfl, rfl, ?_, ?_⟩)
    · rw [cut_take, show ((j : Int) + 1) = ((j + 1 : Nat) : Int) by omega, cut_drop]
      simp
      omega
    rw [cut_take, show ((j : Int) + 1) = ((j + 1 : Nat) : Int) by omega, cut_drop]
    refine dss_one <| ds_ret <| de_less <| de_tup <| da_cons <| de_catT <| de_name B 10 rfl <| de_tup <| da_one <| de_name B 7 rfl ⟨by simp, _, _, rfl, rfl, ?_, ?_⟩
    · simp
      omega
    refine da_two <| de_tuple B L.tuple <| de_name B 6 rfl ⟨_, .inl (.o (List.mem_cons_of_mem _ List.mem_cons_self)), de_catT <| de_name B 4 rfl <| de_tup <| da_one <| de_ixT <| de_name B 4 rfl <| de_name B 8 rfl ⟨_, _, _, rfl, rfl, at_int (by rw [ok.ok.gl]; exact hjn), by simp, _, _, rfl, rfl, ?_, by simp, [fk fl t2], by simp, ?_⟩⟩
    · simp [ok.ok.gl]
      omega
    have e1 : pD (shareW j p W) = D.tup [D.tup (((W.b.map D.int).take j ++ [D.int (W.b.getD j 0 - p)] ++ (W.b.map D.int).drop (j + 1)) ++ [D.int p]), D.tup ((W.T.map (shareR j)).map fun t => tTI t), D.tup (W.g.map D.int ++ [D.int (W.g.getD j 0)])] := by
      show D.tup [D.tup (List.map D.int (shareB j p W.b)), _, D.tup (List.map D.int (W.g ++ [W.g.getD j 0]))] = _
      unfold shareB
      simp only [List.map_append, List.map_take, List.map_drop]
      rfl
    have := q t2 (n + 1) (shareW j p W) (share_ok ok hjn hp) (by omega) fun u hu => share_vl ok.ok n2 hjn u hu
    rw [e1] at this
    exact this
theorem goodM {n : Nat} {a a' : Addr} {A R : Mem} {r r' : List Int} (h : ∃ c : List Int, (a, MO.lst (c.map D.int)) ∈ A ++ (a', .lst (r.map .int)) :: R ∧ c.length = n ∧ ∀ v ∈ c, v.natAbs ≤ 5) (hr : r'.length = n ∧ ∀ v ∈ r', v.natAbs ≤ 5) : ∃ c : List Int, (a, MO.lst (c.map D.int)) ∈ A ++ (a', .lst (r'.map .int)) :: R ∧ c.length = n ∧ ∀ v ∈ c, v.natAbs ≤ 5 := by
  obtain ⟨c, hc, h1, h2⟩ := h
  rcases List.mem_append.mp hc with z | z
  · exact ⟨c, List.mem_append_left _ z, h1, h2⟩
  · rcases List.mem_cons.mp z with z | z
    · have e : a = a' := congrArg Prod.fst z
      subst e
      exact ⟨r', List.mem_append_right _ List.mem_cons_self, hr.1, hr.2⟩
    · exact ⟨c, List.mem_append_right _ (List.mem_cons_of_mem _ z), h1, h2⟩
theorem tup_at {α : Type} {xs : List α} {f : α → D} {i : Nat} {d : D} (h : (xs.map f)[i]? = some d) : ∃ x, xs[i]? = some x ∧ f x = d := by
  rw [List.getElem?_map] at h
  cases e : xs[i]? with
  | none => rw [e] at h; cases h
  | some n => rw [e] at h; exact ⟨n, rfl, Option.some.inj h⟩
def Good (n : Nat) (M : Mem) (a : Addr) : Prop := ∃ c : List Int, (a, MO.lst (c.map D.int)) ∈ M ∧ c.length = n ∧ ∀ v ∈ c, v.natAbs ≤ 5
theorem Good.cons {n : Nat} {M : Mem} {a : Addr} {x : Addr × MO} (h : Good n M a) : Good n (x :: M) a := by
  obtain ⟨c, hc, r⟩ := h
  exact ⟨c, List.mem_cons_of_mem _ hc, r⟩
theorem ok_bent {f : Addr} {fd : FuncData} (F : Fun K "_law_bent" "_law_bent" sBent f fd) (hm : mg "_law_bent" = some (.ref f)) (hb : Binds K fd ["flask", "parts_here"] []) (L : Bl mg) (Fp : FnD P w K mg base 1 "_law_pour" ["flask", "top"] cPour) (Fk : FnD P w K mg base 2 "_law_pick" ["flask", "some"] cPick) : FnD P w K mg base 3 "_law_bent" ["flask", "parts_here"] cBent := by
  refine fnD_of F hm hb scBent (fun ds M Pq ⟨_, _, _, _, _, e, _⟩ => by rw [e]; rfl) fun X B ds M Pq h => ?_
  obtain ⟨fl, t, s, n, W, rfl, rfl, ok, q⟩ := h
  have n2 := ok.n2
  have n1 := ok.ok.n1
  have s8 := ok.ok.s8
  have s1 := ok.ok.s1
  have Tl := ok.ok.Tl
  refine ds_mid (fun ρ M => ∃ (ct : List (List Addr)) (Y : Mem), ρ = [some (.loc fl), some (pD W), some (.lst (ct.map fun r => .lst (r.map .loc))), none, none, none] ∧ M = Y ++ [fk fl t] ∧ ct.length = s ∧ ∀ r ∈ ct, r.length = n ∧ ∀ a ∈ r, Good n Y a) (ds_setLcF B 2 (own := [("table_here", 4)]) (js := [4]) <| di_tup <| de_ixT <| de_name B 1 rfl <| de_int ⟨_, _, _, rfl, rfl, at1, _, rfl, ?_⟩) ?_
  · refine lc_inv1 4 W.T (fun t => tTI t) RT (fun i acc M => ∃ (ct : List (List Addr)) (Y : Mem), acc = ct.map (fun r => .lst (r.map .loc)) ∧ M = Y ++ [fk fl t] ∧ ct.length = i ∧ ∀ r ∈ ct, r.length = n ∧ ∀ a ∈ r, Good n Y a) (by omega) (fun _ _ _ _ => trivial) (fun i tb acc M2 hx ⟨ct, Y, ea, em, h1, h2⟩ X' B' => ?_) ⟨[], [], rfl, rfl, rfl, fun _ h => nomatch h⟩ (fun ds M2 ⟨ct, Y, ea, em, h1, h2⟩ => ⟨ct, Y, by rw [ea]; rfl, em, by rw [h1, Tl], h2⟩)
    subst ea; subst em
    have htm := List.mem_of_getElem? hx
    have tl := ok.ok.tl _ htm
    have rl := ok.ok.rl _ htm
    have t3 := ok.t3 _ htm
    refine DN.fz <| dn_lc B' (own := [("row", 3)]) (js := [3]) <| di_tup <| de_name B' 4 rfl ⟨_, rfl, ?_⟩
    refine lc_inv1 3 tb (fun r => tI r) RT (fun i2 acc M => ∃ (r : List Addr) (Y2 : Mem), acc = r.map .loc ∧ M = Y2 ++ [fk fl t] ∧ r.length = i2 ∧ (∀ a ∈ r, Good n Y2 a) ∧ ∀ a, Good n Y a → Good n Y2 a) (by omega) (fun _ _ _ _ => trivial) (fun i2 row acc M2 hx2 ⟨r, Y2, ea, em, h3, h4, h5⟩ X2 B2 => ?_) ⟨[], Y, rfl, rfl, rfl, fun _ h => (nomatch h), fun _ h => h⟩ (fun ds M2 ⟨r, Y2, ea, em, h3, h4, h5⟩ => ⟨ct ++ [r], Y2, by rw [ea]; simp, em, by simp [h1], fun r' hr' => ?_⟩)
    · subst ea; subst em
      have hrm := List.mem_of_getElem? hx2
      refine DN.ow <| dn_list B2 L.list <| de_name B2 3 rfl ⟨_, .inr rfl, fun a _ => ⟨r ++ [a], (a, .lst (row.map .int)) :: Y2, by simp, rfl, by simp [h3], fun a' ha' => ?_, fun a' ha' => (h5 a' ha').cons⟩⟩
      rcases List.mem_append.mp ha' with z | z
      · exact (h4 a' z).cons
      · rw [List.mem_singleton.mp z]
        exact ⟨row, List.mem_cons_self, rl _ hrm, fun v hv => Nat.le_trans (t3 _ hrm v hv) (by decide)⟩
    · rcases List.mem_append.mp hr' with z | z
      · exact ⟨(h2 r' z).1, fun a ha => h5 a ((h2 r' z).2 a ha)⟩
      · rw [List.mem_singleton.mp z]
        exact ⟨by rw [h3, tl], h4⟩
  rintro ρ1 M1 ⟨ct, Y, rfl, rfl, hc, hg⟩
  refine dss_cons <| ds_set B 3 <| de_call B Fk <| da_two <| de_name B 0 rfl <| de_call B Fk <| da_two <| de_name B 0 rfl <| de_name B 2 rfl <| cacL ⟨fl, t, _, rfl, rfl, by simp; omega, by simp; omega, fun t1 d hd => ?_⟩
  obtain ⟨r, hr, rfl⟩ := List.mem_map.mp hd
  obtain ⟨rlen, rg⟩ := hg r hr
  refine cac1 ⟨fl, t1, _, rfl, rfl, by simp; omega, by simp; omega, fun t2 d2 hd2 => ?_⟩
  obtain ⟨a, ha, rfl⟩ := List.mem_map.mp hd2
  obtain ⟨c, hcm, hcl, hcb⟩ := rg a ha
  obtain ⟨A, R, rfl⟩ := List.append_of_mem hcm
  refine dss_cons <| ds_asg (js := []) <| de_call B Fk <| da_two <| de_name B 0 rfl <| DN.fz <| dn_lst <| da_cons <| de_int <| da_cons <| de_int <| da_two <| de_neg <| de_int ⟨_, rfl, de_int ⟨by simp, cac1 ⟨fl, t2, _, rfl, rfl, by simp, by simp, fun t3 d3 hd3 => ?_⟩⟩⟩
  obtain ⟨p, rfl, hp⟩ : ∃ p : Int, d3 = .int p ∧ p.natAbs ≤ 5 := by
    simp only [List.mem_cons, List.not_mem_nil, or_false] at hd3
    rcases hd3 with rfl | rfl | rfl | rfl <;> exact ⟨_, rfl, by decide⟩
  refine dg_sub <| de_name B 3 rfl <| de_call B Fp <| da_two <| de_name B 0 rfl <| de_len B L.len <| de_name B 3 rfl ⟨_, .l (.o (show (a, MO.lst (c.map .int)) ∈ _ by simp)), cac1 ⟨fl, t3, _, rfl, rfl, by simp; omega, by simp; omega, fun t4 i hi => ⟨a, c.map .int, _, i, fk fl t4 :: A, R, rfl, rfl, by simp, ixN_n hi, ?_⟩⟩⟩
  have hil : i < c.length := by simpa using hi
  rw [map_set]
  have good : ∀ r ∈ ct, r.length = n ∧ ∀ a' ∈ r, Good n (fk fl t4 :: A ++ (a, .lst ((c.set i p).map .int)) :: R) a' := fun r' hr' => ⟨(hg r' hr').1, fun a' ha' => goodM (Good.cons ((hg r' hr').2 a' ha')) ⟨by simp [hcl], fun v hv => by
    rcases List.mem_or_eq_of_mem_set hv with z | z
    · exact hcb v z
    · rw [z]; exact hp⟩⟩
  have hfk : [fk fl t4].Sublist (fk fl t4 :: A ++ (a, .lst ((c.set i p).map .int)) :: R) := by simp
  revert good hfk
  generalize fk fl t4 :: A ++ (a, MO.lst ((c.set i p).map .int)) :: R = M4
  intro good hfk
  refine dss_one <| ds_ret <| de_less <| de_tup <| da_cons <| de_ixT <| de_name B 1 rfl <| de_int ⟨_, _, _, rfl, rfl, at0, da_two <| de_tuple B L.tuple <| DN.fz <| dn_lc B (own := [("each", 5)]) (js := [5]) <| di_lst <| de_name B 2 rfl ⟨_, .inl rfl, ?_⟩⟩
  refine lc_drawm 5 ct (fun r => .lst (r.map .loc)) (fun M => M = M4) (fun d => ∃ tb : List (List Int), d = tTI tb ∧ tb.length = n ∧ ∀ r ∈ tb, r.length = n ∧ ∀ v ∈ r, v.natAbs ≤ 5) (by omega) (fun r hr M2 em X' B' => ?_) rfl (fun ds M2 hl hp em => ?_)
  · subst em
    obtain ⟨rl2, rg2⟩ := good r hr
    refine de_tuple B' L.tuple <| DN.fz <| dn_lc B' (own := [("row", 3)]) (js := [3]) <| di_lst <| de_name B' 5 rfl ⟨_, .inl rfl, ?_⟩
    refine lc_drawm 3 r .loc (fun M => M = M2) (fun d => ∃ c : List Int, d = tI c ∧ c.length = n ∧ ∀ v ∈ c, v.natAbs ≤ 5) (by omega) (fun a ha M3 em X2 B2 => ?_) rfl (fun ds M3 hl hp em => ?_)
    · subst em
      obtain ⟨c, hc, h1, h2⟩ := rg2 a ha
      exact de_tuple B2 L.tuple <| de_name B2 3 rfl ⟨_, .inl (.o hc), ⟨c, rfl, h1, h2⟩, rfl⟩
    · subst em
      obtain ⟨tb, e, htb⟩ := all_enc hp
      subst e
      exact ⟨_, .inl .f, ⟨tb, rfl, by simpa [rl2] using hl, htb⟩, rfl⟩
  subst em
  obtain ⟨T, e, hT⟩ := all_enc hp
  subst e
  have hTl : T.length = s := by simpa [hc] using hl
  refine ⟨_, .inl .f, de_ixT <| de_name B 1 rfl <| de_int ⟨_, _, _, rfl, rfl, at2, by simp, [fk fl t4], hfk, ?_⟩⟩
  exact q t4 n ⟨W.b, T, W.g⟩ ⟨ok.ok.bl, ok.ok.gl, hTl, fun t h => (hT t h).1, fun t h r hr => ((hT t h).2 r hr).1, ok.ok.bb, fun t h r hr v hv => Nat.le_trans (((hT t h).2 r hr).2 v hv) (by decide), ok.ok.gb, n1, by omega, s1, s8⟩ (by omega)
end
end K53

set_option Elab.async false
set_option linter.all false
set_option maxRecDepth 100000
set_option maxHeartbeats 4000000
/-! K53v: the walk, turned. -/
namespace K53
open PySem PySem.Spec PyProof.Rows L2 DV
theorem zipW (tm : Int) : ∀ xs ys : List Int, (xs.zip ys).map (fun p => D.int (p.1 - tm * p.2)) = (List.zipWith (fun o u => o - tm * u) xs ys).map .int
  | [], _ => by simp
  | _ :: _, [] => by simp
  | x :: xs, y :: ys => by simp [zipW tm xs ys]
section
variable {P : Program} {w : World} {K : PySem.W.Frag} {mg : Str → Option Value} {base : Heap} {C : Addr}
theorem ok_turned {f : Addr} {fd : FuncData} (F : Fun K "_law_turned" "_law_turned" sTurned f fd) (hm : mg "_law_turned" = some (.ref f)) (hb : Binds K fd ["flask", "parts_here"] []) (L : Bl mg) (Fp : FnD P w K mg base 1 "_law_pour" ["flask", "top"] cPour) (Fk : FnD P w K mg base 2 "_law_pick" ["flask", "some"] cPick) : FnD P w K mg base 3 "_law_turned" ["flask", "parts_here"] cTurned := by
  refine fnD_of F hm hb scTurned (fun ds M Pq ⟨_, _, _, _, _, e, _⟩ => by rw [e]; rfl) fun X B ds M Pq h => ?_
  obtain ⟨fl, t, s, n, W, rfl, rfl, ok, q⟩ := h
  have n2 := ok.n2
  have n1 := ok.ok.n1
  have s8 := ok.ok.s8
  have bl := ok.ok.bl
  have gl := ok.ok.gl
  have Tl := ok.ok.Tl
  refine dss_cons <| ds_asg (js := [2, 3, 4]) <| DN.fz <| dn_lst <| da_cons <| DN.ow <| dn_list B L.list <| de_ixT <| de_name B 1 rfl <| de_int ⟨_, _, _, rfl, rfl, at0, _, .inr rfl, fun b _ => da_two <| DN.ow <| dn_lst <| da_nil ⟨by simp, fun tb _ => DN.ow <| dn_list B L.list <| de_ixT <| de_name B 1 rfl <| de_int ⟨_, _, _, rfl, rfl, at2, _, .inr rfl, fun g _ => ⟨by simp, dg_unl B <| dgs_cons <| dg_name B 2 <| dgs_cons <| dg_name B 3 <| dgs_cons <| dg_name B 4 <| dgs_nil ?_⟩⟩⟩⟩
  refine DSs.perm (M1 := [fk fl t, (b, .lst (W.b.map .int)), (tb, .lst []), (g, .lst (W.g.map .int))]) ?_ (List.reverse_perm [(g, MO.lst (W.g.map .int)), (tb, .lst []), (b, .lst (W.b.map .int)), fk fl t])
  refine dss_cons <| ds_asgTT (js := [5, 6]) B rfl <| de_tup <| da_two <| de_len B L.len <| de_name B 2 rfl ⟨_, .l (.o (List.mem_cons_of_mem _ List.mem_cons_self)), de_call B Fk <| da_two <| de_name B 0 rfl <| DN.fz <| dn_lst <| da_cons <| de_int <| da_two <| de_neg <| de_int ⟨_, rfl, de_int ⟨by simp, cac1 ⟨fl, t, _, rfl, rfl, by simp, by simp, fun t1 d hd => ?_⟩⟩⟩⟩
  obtain ⟨tm, rfl, htm⟩ : ∃ p : Int, d = .int p ∧ p.natAbs ≤ 2 := by
    simp only [List.mem_cons, List.not_mem_nil, or_false] at hd
    rcases hd with rfl | rfl | rfl <;> exact ⟨_, rfl, by decide⟩
  refine ⟨by simp, dg_tup B <| dgs_cons <| dg_name B 5 <| dgs_cons <| dg_name B 6 <| dgs_nil ?_⟩
  refine dss_cons <| ds_par B 7 8 <| de_call B Fp <| da_two <| de_name B 0 rfl <| de_name B 5 rfl <| cac1 ⟨fl, t1, _, rfl, rfl, by simp; omega, by simp; omega, fun t2 j hj => de_call B Fp <| da_two <| de_name B 0 rfl <| de_name B 5 rfl <| cac1 ⟨fl, t2, _, rfl, rfl, by simp; omega, by simp; omega, fun t3 k hk => ?_⟩⟩
  have hjn : j < n := by simpa [bl] using hj
  have hkn : k < n := by simpa [bl] using hk
  refine dss_cons <| ds_if <| dt_eqI <| de_name B 7 rfl <| de_name B 8 rfl ⟨_, _, rfl, rfl, fun h1 => ?_, fun h1 => dss_nil ?_⟩
  · exact dss_one <| ds_ret <| de_less <| de_name B 1 rfl ⟨[fk fl t3], by simp, q t3 n W ok.ok (by omega) fun _ _ => rfl⟩
  have hjk : j ≠ k := by
    intro e
    simp [e] at h1
  have hn2 : n = 2 := by omega
  subst hn2
  refine dss_cons <| ds_asg (js := []) <| de_add <| de_ixL <| de_name B 2 rfl <| de_name B 8 rfl ⟨_, _, _, .o (List.mem_cons_of_mem _ List.mem_cons_self), rfl, at_int (by omega), ?_⟩
  refine de_mul <| de_name B 6 rfl <| de_ixL <| de_name B 2 rfl <| de_name B 7 rfl ⟨_, _, _, .o (List.mem_cons_of_mem _ List.mem_cons_self), rfl, at_int (by omega), _, _, rfl, rfl, oneI (by omega) _, _, _, rfl, rfl, ?_⟩
  refine dg_sub <| de_name B 2 rfl <| de_name B 8 rfl ⟨b, _, _, k, [fk fl t3], [(tb, .lst []), (g, .lst (W.g.map .int))], rfl, rfl, rfl, ixN_n (by simp; omega), ?_⟩
  rw [map_set, show W.b.set k (W.b.getD k 0 + tm * W.b.getD j 0) = turnB j k tm W.b from rfl]
  refine dss_cons <| ds_asg (js := []) <| de_sub <| de_ixL <| de_name B 4 rfl <| de_name B 7 rfl ⟨_, _, _, .o (show (g, MO.lst (W.g.map .int)) ∈ _ by simp), rfl, at_int (by omega), ?_⟩
  refine de_mul <| de_name B 6 rfl <| de_ixL <| de_name B 4 rfl <| de_name B 8 rfl ⟨_, _, _, .o (show (g, MO.lst (W.g.map .int)) ∈ _ by simp), rfl, at_int (by omega), _, _, rfl, rfl, oneI (by omega) _, _, _, rfl, rfl, ?_⟩
  refine dg_sub <| de_name B 4 rfl <| de_name B 7 rfl ⟨g, _, _, j, [fk fl t3, (b, .lst ((turnB j k tm W.b).map .int)), (tb, .lst [])], [], rfl, rfl, rfl, ixN_n (by simp; omega), ?_⟩
  rw [map_set, show W.g.set j (W.g.getD j 0 - tm * W.g.getD k 0) = turnG j k tm W.g from rfl]
  have hcs : (j = 0 ∧ k = 1) ∨ (j = 1 ∧ k = 0) := by omega
  refine dss_cons <| ds_for B [9] <| di_tup <| de_ixT <| de_name B 1 rfl <| de_int ⟨_, _, _, rfl, rfl, at1, _, rfl, fun i ρ M => ∃ x9 x10 x11, ρ = [some (.loc fl), some (pD W), some (.loc b), some (.loc tb), some (.loc g), some (.int ((W.b.map D.int).length : Nat)), some (.int tm), some (.int (j : Nat)), some (.int (k : Nat)), x9, x10, x11, none, none, none, none] ∧ M = [fk fl t3, (b, .lst ((turnB j k tm W.b).map .int)), (tb, .lst (((W.T.map (turnR j k tm)).take i).map fun t => tTI t)), (g, .lst ((turnG j k tm W.g).map .int))], ⟨none, none, none, rfl, rfl⟩, fun i d ρ2 M2 hd ⟨x9, x10, x11, er, em⟩ => ⟨trivial, ?_⟩, fun ρ2 M2 ⟨x9, x10, x11, er, em⟩ => ⟨trivial, ?_⟩⟩
  · subst er; subst em
    obtain ⟨t0, ht0, rfl⟩ := tup_at (f := fun t => tTI t) hd
    have htm0 := List.mem_of_getElem? ht0
    have tl := ok.ok.tl _ htm0
    have rl := ok.ok.rl _ htm0
    have hil : i < W.T.length := (List.getElem?_eq_some_iff.mp ht0).1
    have e1 : (W.T.map (turnR j k tm)).take (i + 1) = (W.T.map (turnR j k tm)).take i ++ [turnR j k tm t0] := by
      rw [List.take_add_one, List.getElem?_map, ht0]
      rfl
    dsimp only
    rw [e1, List.map_append, List.map_singleton]
    have hTT : ((W.T.map (turnR j k tm)).take i).length ≤ 8 := by simp; omega
    revert hTT
    generalize (W.T.map (turnR j k tm)).take i = TT
    intro hTT
    obtain ⟨r0, r1, et⟩ := two_of tl
    subst et
    have l0 : r0.length = 2 := rl r0 (by simp)
    have l1 : r1.length = 2 := rl r1 (by simp)
    refine dg_name B 9 ?_
    refine ds_mid (fun ρ M => ∃ R a0 a1, ρ = [some (.loc fl), some (pD W), some (.loc b), some (.loc tb), some (.loc g), some (.int ((W.b.map D.int).length : Nat)), some (.int tm), some (.int (j : Nat)), some (.int (k : Nat)), some (tTI [r0, r1]), some (.loc R), x11, none, none, none, none] ∧ M = [(R, .lst [.loc a0, .loc a1]), (a1, .lst (r1.map .int)), (a0, .lst (r0.map .int)), fk fl t3, (b, .lst ((turnB j k tm W.b).map .int)), (tb, .lst (TT.map fun t => tTI t)), (g, .lst ((turnG j k tm W.g).map .int))]) (ds_setLcO B 10 (own := [("row", 11)]) (js := [11]) <| di_tup <| de_name B 9 rfl ⟨_, rfl, ?_⟩) ?_
    · refine lc_inv1 11 [r0, r1] (fun r => tI r) RT (fun i acc M => (i = 0 ∧ acc = [] ∧ M = [fk fl t3, (b, .lst ((turnB j k tm W.b).map .int)), (tb, .lst (TT.map fun t => tTI t)), (g, .lst ((turnG j k tm W.g).map .int))]) ∨ (i = 1 ∧ ∃ a0, acc = [.loc a0] ∧ M = [(a0, .lst (r0.map .int)), fk fl t3, (b, .lst ((turnB j k tm W.b).map .int)), (tb, .lst (TT.map fun t => tTI t)), (g, .lst ((turnG j k tm W.g).map .int))]) ∨ (i = 2 ∧ ∃ a0 a1, acc = [.loc a0, .loc a1] ∧ M = [(a1, .lst (r1.map .int)), (a0, .lst (r0.map .int)), fk fl t3, (b, .lst ((turnB j k tm W.b).map .int)), (tb, .lst (TT.map fun t => tTI t)), (g, .lst ((turnG j k tm W.g).map .int))])) (by simp) (fun _ _ _ _ => trivial) (fun i2 row acc M2 hx hI X' B' => ?_) (.inl ⟨rfl, rfl, rfl⟩) (fun ds M2 hI R _ => ?_)
      · refine DN.ow <| dn_list B' L.list <| de_name B' 11 rfl ⟨_, .inr rfl, fun a _ => ?_⟩
        rcases hI with ⟨e, ea, em⟩ | ⟨e, a0, ea, em⟩ | ⟨e, a0, a1, ea, em⟩
        · subst e; subst ea; subst em
          have : r0 = row := Option.some.inj hx
          subst this
          exact .inr (.inl ⟨rfl, a, rfl, rfl⟩)
        · subst e; subst ea; subst em
          have : r1 = row := Option.some.inj hx
          subst this
          exact .inr (.inr ⟨rfl, a0, a, rfl, rfl⟩)
        · subst e
          cases hx
      · rcases hI with ⟨e, _⟩ | ⟨e, _⟩ | ⟨e, a0, a1, ea, em⟩
        · cases e
        · cases e
        · subst ea; subst em
          exact ⟨R, a0, a1, rfl, rfl⟩
    rintro ρ1 M1 ⟨R, a0, a1, rfl, rfl⟩
    refine ds_mid (fun ρ M => ∃ x11, ρ = [some (.loc fl), some (pD W), some (.loc b), some (.loc tb), some (.loc g), some (.int ((W.b.map D.int).length : Nat)), some (.int tm), some (.int (j : Nat)), some (.int (k : Nat)), some (tTI [r0, r1]), some (.loc R), x11, none, none, none, none] ∧ M = [(R, .lst [.loc a0, .loc a1]), (a1, .lst ((turnB j k tm r1).map .int)), (a0, .lst ((turnB j k tm r0).map .int)), fk fl t3, (b, .lst ((turnB j k tm W.b).map .int)), (tb, .lst (TT.map fun t => tTI t)), (g, .lst ((turnG j k tm W.g).map .int))]) (ds_for B [11] <| di_own <| de_name B 10 rfl ⟨R, _, rfl, List.mem_cons_self, fun i ρ M => ∃ x11, ρ = [some (.loc fl), some (pD W), some (.loc b), some (.loc tb), some (.loc g), some (.int ((W.b.map D.int).length : Nat)), some (.int tm), some (.int (j : Nat)), some (.int (k : Nat)), some (tTI [r0, r1]), some (.loc R), x11, none, none, none, none] ∧ M = [(R, .lst [.loc a0, .loc a1]), (a1, .lst ((if i ≤ 1 then r1 else turnB j k tm r1).map .int)), (a0, .lst ((if i = 0 then r0 else turnB j k tm r0).map .int)), fk fl t3, (b, .lst ((turnB j k tm W.b).map .int)), (tb, .lst (TT.map fun t => tTI t)), (g, .lst ((turnG j k tm W.g).map .int))], ⟨x11, rfl, rfl⟩, fun i2 d ρ2 M2 hd ⟨y11, er, em⟩ => ⟨by rw [em]; exact List.mem_cons_self, ?_⟩, fun ρ2 M2 ⟨y11, er, em⟩ => ⟨by rw [em]; exact List.mem_cons_self, y11, er, em⟩⟩) ?_
    · subst er; subst em
      have hi2 : i2 = 0 ∨ i2 = 1 := by
        have := (List.getElem?_eq_some_iff.mp hd).1
        simp at this
        omega
      rcases hi2 with rfl | rfl
      · have ed : D.loc a0 = d := Option.some.inj hd
        subst ed
        refine dg_name B 11 ?_
        refine dss_one <| ds_asg (js := []) <| de_add <| de_ixL <| de_name B 11 rfl <| de_name B 8 rfl ⟨_, _, _, .o (List.mem_cons_of_mem _ (List.mem_cons_of_mem _ List.mem_cons_self)), rfl, at_int (show k < r0.length by omega), ?_⟩
        refine de_mul <| de_name B 6 rfl <| de_ixL <| de_name B 11 rfl <| de_name B 7 rfl ⟨_, _, _, .o (List.mem_cons_of_mem _ (List.mem_cons_of_mem _ List.mem_cons_self)), rfl, at_int (show j < r0.length by omega), _, _, rfl, rfl, oneI (by omega) _, _, _, rfl, rfl, ?_⟩
        refine dg_sub <| de_name B 11 rfl <| de_name B 8 rfl ⟨a0, _, _, k, [(R, .lst [.loc a0, .loc a1]), (a1, .lst (r1.map .int))], _, rfl, rfl, rfl, ixN_n (show k < (r0.map D.int).length by simp; omega), some (.loc a0), rfl, ?_⟩
        show _ ++ (a0, MO.lst ((r0.map D.int).set k (.int (r0.getD k 0 + tm * r0.getD j 0)))) :: _ = _
        rw [map_set]
        rfl
      · have ed : D.loc a1 = d := Option.some.inj hd
        subst ed
        refine dg_name B 11 ?_
        refine dss_one <| ds_asg (js := []) <| de_add <| de_ixL <| de_name B 11 rfl <| de_name B 8 rfl ⟨_, _, _, .o (List.mem_cons_of_mem _ List.mem_cons_self), rfl, at_int (show k < r1.length by omega), ?_⟩
        refine de_mul <| de_name B 6 rfl <| de_ixL <| de_name B 11 rfl <| de_name B 7 rfl ⟨_, _, _, .o (List.mem_cons_of_mem _ List.mem_cons_self), rfl, at_int (show j < r1.length by omega), _, _, rfl, rfl, oneI (by omega) _, _, _, rfl, rfl, ?_⟩
        refine dg_sub <| de_name B 11 rfl <| de_name B 8 rfl ⟨a1, _, _, k, [(R, .lst [.loc a0, .loc a1])], _, rfl, rfl, rfl, ixN_n (show k < (r1.map D.int).length by simp; omega), some (.loc a1), rfl, ?_⟩
        show _ ++ (a1, MO.lst ((r1.map D.int).set k (.int (r1.getD k 0 + tm * r1.getD j 0)))) :: _ = _
        rw [map_set]
        rfl
    rintro ρ1 M1 ⟨y11, rfl, rfl⟩
    have b0l : (turnB j k tm r0).length = 2 := (turnB_len _ _ _ _).trans l0
    have b1l : (turnB j k tm r1).length = 2 := (turnB_len _ _ _ _).trans l1
    have eR : turnR j k tm [r0, r1] = [turnB j k tm r0, turnB j k tm r1].set j (List.zipWith (fun o u => o - tm * u) ([turnB j k tm r0, turnB j k tm r1].getD j []) ([turnB j k tm r0, turnB j k tm r1].getD k [])) := rfl
    rw [eR]
    revert b0l b1l
    generalize turnB j k tm r0 = p0
    generalize turnB j k tm r1 = p1
    intro b0l b1l
    rcases hcs with ⟨rfl, rfl⟩ | ⟨rfl, rfl⟩
    · refine dss_cons <| ds_asgC (js := []) B <| DN.fz <| dn_lc B (own := [("one", 12), ("other", 13)]) (js := [12, 13]) <| di_zipO B L.zip <| de_ixL <| de_name B 10 rfl <| de_name B 7 rfl ⟨_, _, _, .o List.mem_cons_self, rfl, L2.atI_nat (j := 0) rfl, ?_⟩
      refine de_ixL <| de_name B 10 rfl <| de_name B 8 rfl ⟨_, _, _, .o List.mem_cons_self, rfl, L2.atI_nat (j := 1) rfl, a0, a1, p0.map .int, p1.map .int, rfl, rfl, (List.mem_cons_of_mem _ (List.mem_cons_of_mem _ List.mem_cons_self)), (List.mem_cons_of_mem _ List.mem_cons_self), ?_⟩
      rw [zipD_map]
      refine lc_map2R 12 13 (p0.zip p1) (fun p => .int p.1) (fun p => .int p.2) (fun p => .int (p.1 - tm * p.2)) _ (by rw [List.length_zip]; omega) ⟨(List.mem_cons_of_mem _ (List.mem_cons_of_mem _ List.mem_cons_self)), (List.mem_cons_of_mem _ List.mem_cons_self)⟩ (fun p hp X' B' Z z => de_sub <| de_name B' 12 rfl <| de_mul <| de_name B' 6 rfl <| de_name B' 13 rfl ⟨_, _, rfl, rfl, oneI (by omega) _, _, _, rfl, rfl, z⟩) ?_
      rw [show (p0.zip p1).map (fun p => D.int (p.1 - tm * p.2)) = (List.zipWith (fun o u => o - tm * u) p0 p1).map .int from zipW tm p0 p1]
      refine dg_sub <| de_name B 10 rfl <| de_name B 7 rfl ⟨R, _, _, 0, [], _, rfl, rfl, rfl, ixN_n (by simp), ?_⟩
      have eE : ([D.loc a0, D.loc a1] : List D).set 0 (.lst ((List.zipWith (fun o u => o - tm * u) p0 p1).map .int)) = List.map Prod.fst [(D.lst ((List.zipWith (fun o u => o - tm * u) p0 p1).map .int), (List.zipWith (fun o u => o - tm * u) p0 p1)), (D.loc a1, p1)] := rfl
      rw [eE]
      refine dss_cons <| ds_append <| de_name B 3 rfl ⟨tb, TT.map fun t => tTI t, rfl, by simp, de_tuple B L.tuple <| DN.fz <| dn_lc B (own := [("row", 11)]) (js := [11]) <| di_own <| de_name B 10 rfl ⟨R, _, rfl, List.mem_cons_self, ?_⟩⟩
      refine lc_map1R 11 [(D.lst ((List.zipWith (fun o u => o - tm * u) p0 p1).map .int), (List.zipWith (fun o u => o - tm * u) p0 p1)), (D.loc a1, p1)] Prod.fst (fun x => tI x.2) _ (by simp) List.mem_cons_self (fun x hx X' B' Z z => ?_) ?_
      · simp only [List.mem_cons, List.not_mem_nil, or_false] at hx
        rcases hx with rfl | rfl
        · exact de_tuple B' L.tuple <| de_name B' 11 rfl ⟨_, .inl .f, z⟩
        · exact de_tuple B' L.tuple <| de_name B' 11 rfl ⟨_, .inl (.o (List.mem_cons_of_mem _ List.mem_cons_self)), z⟩
      · refine ⟨_, .inl .f, TT.map fun t => tTI t, [_, _, _, _, _], [_], rfl, by simp; omega, DSs.less (M1 := [fk fl t3, (b, .lst ((turnB 0 1 tm W.b).map .int)), (tb, .lst ((TT.map fun t => tTI t) ++ [tTI [(List.zipWith (fun o u => o - tm * u) p0 p1), p1]])), (g, .lst ((turnG 0 1 tm W.g).map .int))]) (dss_nil ⟨_, _, _, rfl, rfl⟩) (((List.Sublist.refl _).cons _).cons _ |>.cons _)⟩
    · refine dss_cons <| ds_asgC (js := []) B <| DN.fz <| dn_lc B (own := [("one", 12), ("other", 13)]) (js := [12, 13]) <| di_zipO B L.zip <| de_ixL <| de_name B 10 rfl <| de_name B 7 rfl ⟨_, _, _, .o List.mem_cons_self, rfl, L2.atI_nat (j := 1) rfl, ?_⟩
      refine de_ixL <| de_name B 10 rfl <| de_name B 8 rfl ⟨_, _, _, .o List.mem_cons_self, rfl, L2.atI_nat (j := 0) rfl, a1, a0, p1.map .int, p0.map .int, rfl, rfl, (List.mem_cons_of_mem _ List.mem_cons_self), (List.mem_cons_of_mem _ (List.mem_cons_of_mem _ List.mem_cons_self)), ?_⟩
      rw [zipD_map]
      refine lc_map2R 12 13 (p1.zip p0) (fun p => .int p.1) (fun p => .int p.2) (fun p => .int (p.1 - tm * p.2)) _ (by rw [List.length_zip]; omega) ⟨(List.mem_cons_of_mem _ List.mem_cons_self), (List.mem_cons_of_mem _ (List.mem_cons_of_mem _ List.mem_cons_self))⟩ (fun p hp X' B' Z z => de_sub <| de_name B' 12 rfl <| de_mul <| de_name B' 6 rfl <| de_name B' 13 rfl ⟨_, _, rfl, rfl, oneI (by omega) _, _, _, rfl, rfl, z⟩) ?_
      rw [show (p1.zip p0).map (fun p => D.int (p.1 - tm * p.2)) = (List.zipWith (fun o u => o - tm * u) p1 p0).map .int from zipW tm p1 p0]
      refine dg_sub <| de_name B 10 rfl <| de_name B 7 rfl ⟨R, _, _, 1, [], _, rfl, rfl, rfl, ixN_n (by simp), ?_⟩
      have eE : ([D.loc a0, D.loc a1] : List D).set 1 (.lst ((List.zipWith (fun o u => o - tm * u) p1 p0).map .int)) = List.map Prod.fst [(D.loc a0, p0), (D.lst ((List.zipWith (fun o u => o - tm * u) p1 p0).map .int), (List.zipWith (fun o u => o - tm * u) p1 p0))] := rfl
      rw [eE]
      refine dss_cons <| ds_append <| de_name B 3 rfl ⟨tb, TT.map fun t => tTI t, rfl, by simp, de_tuple B L.tuple <| DN.fz <| dn_lc B (own := [("row", 11)]) (js := [11]) <| di_own <| de_name B 10 rfl ⟨R, _, rfl, List.mem_cons_self, ?_⟩⟩
      refine lc_map1R 11 [(D.loc a0, p0), (D.lst ((List.zipWith (fun o u => o - tm * u) p1 p0).map .int), (List.zipWith (fun o u => o - tm * u) p1 p0))] Prod.fst (fun x => tI x.2) _ (by simp) List.mem_cons_self (fun x hx X' B' Z z => ?_) ?_
      · simp only [List.mem_cons, List.not_mem_nil, or_false] at hx
        rcases hx with rfl | rfl
        · exact de_tuple B' L.tuple <| de_name B' 11 rfl ⟨_, .inl (.o (List.mem_cons_of_mem _ (List.mem_cons_of_mem _ List.mem_cons_self))), z⟩
        · exact de_tuple B' L.tuple <| de_name B' 11 rfl ⟨_, .inl .f, z⟩
      · refine ⟨_, .inl .f, TT.map fun t => tTI t, [_, _, _, _, _], [_], rfl, by simp; omega, DSs.less (M1 := [fk fl t3, (b, .lst ((turnB 1 0 tm W.b).map .int)), (tb, .lst ((TT.map fun t => tTI t) ++ [tTI [p0, (List.zipWith (fun o u => o - tm * u) p1 p0)]])), (g, .lst ((turnG 1 0 tm W.g).map .int))]) (dss_nil ⟨_, _, _, rfl, rfl⟩) (((List.Sublist.refl _).cons _).cons _ |>.cons _)⟩
  · subst er; subst em
    have hx : (W.T.map fun t => tTI t).length = (W.T.map (turnR j k tm)).length := by simp
    rw [hx, List.take_length]
    refine dss_cons <| ds_set B 15 <| de_gt <| de_maxL B L.max <| DN.fz <| dn_lc B (own := [("each", 14)]) (js := [14]) <| di_own <| de_name B 4 rfl ⟨g, (turnG j k tm W.g).map .int, rfl, by simp, ?_⟩
    refine lc_map1R 14 (turnG j k tm W.g) (fun v => .int v) (fun v => .int ((v.natAbs : Nat) : Int)) _ (by rw [turnG_len]; omega) (by simp) (fun v hv X' B' Z z => de_abs B' L.abs (de_name B' 14 rfl ⟨_, rfl, by rw [absI]; exact z⟩)) ⟨(turnG j k tm W.g).map fun v => ((v.natAbs : Nat) : Int), by rw [List.map_map (f := fun v : Int => ((v.natAbs : Nat) : Int)) (g := D.int)]; exact .f, by simp [turnG_len]; omega, fun m hm hmax => de_int ⟨_, _, rfl, rfl, ?_⟩⟩
    refine dss_one <| ds_ret <| de_less <| de_if <| dt_val (de_name B 15 rfl ⟨_, rfl, fun h => ?_, fun h => ?_⟩)
    · exact de_name B 1 rfl ⟨[fk fl t3], by simp, q t3 2 W ok.ok (by omega) fun _ _ => rfl⟩
    · have hm1 : m ≤ 1000 := by
        have : ¬ (1000 : Int) < m := by simpa using h
        omega
      have hgs : ∀ v ∈ turnG j k tm W.g, v.natAbs ≤ 1000 := fun v hv => by
        have := hmax _ (List.mem_map.mpr ⟨v, hv, rfl⟩)
        omega
      refine de_tup <| da_cons <| de_tuple B L.tuple <| de_name B 2 rfl ⟨(turnB j k tm W.b).map .int, .inl (.o (by simp)), da_two <| de_tuple B L.tuple <| de_name B 3 rfl ⟨(W.T.map (turnR j k tm)).map fun t => tTI t, .inl (.o (by simp)), de_tuple B L.tuple <| de_name B 4 rfl ⟨(turnG j k tm W.g).map .int, .inl (.o (by simp)), by simp, [fk fl t3], by simp, ?_⟩⟩⟩
      exact q t3 2 (turnW j k tm W) (turn_ok ok hjn hkn htm hgs) (by omega) fun u hu => turn_vl ok.ok hjn hkn hjk u hu
end
end K53

set_option Elab.async false
set_option linter.all false
set_option maxRecDepth 100000
set_option maxHeartbeats 4000000
/-! K53q: the walk, the law. -/
namespace K53
open PySem PySem.Spec PyProof.Rows L2 DV
def kV : WD := ⟨[1, 0, 0], [[[0, 1, 0], [0, 0, 0], [0, 0, 0]], [[0, 0, 0], [0, 0, 1], [0, 0, 0]]], [0, 0, 1]⟩
def kW : WD := ⟨[0], [[[0]], [[0]]], [0]⟩
theorem kV_ok : WOk 2 3 kV := ⟨rfl, rfl, rfl, by decide, by decide, by decide, by decide, by decide, by decide, by decide, by decide, by decide⟩
theorem kW_ok : WOk 2 1 kW := ⟨rfl, rfl, rfl, by decide, by decide, by decide, by decide, by decide, by decide, by decide, by decide, by decide⟩
theorem wd20 : wd 2 0 = [] := wd_zero 2
theorem wd21 : wd 2 1 = [0] := by rw [show wd 2 1 = wd 2 (2 * 0 + 0 + 1) from rfl, wd_step (s := 2) (k := 0) (c := 0) (by decide), wd20]; rfl
theorem wd22 : wd 2 2 = [1] := by rw [show wd 2 2 = wd 2 (2 * 0 + 1 + 1) from rfl, wd_step (s := 2) (k := 0) (c := 1) (by decide), wd20]; rfl
theorem wd23 : wd 2 3 = [0, 0] := by rw [show wd 2 3 = wd 2 (2 * 1 + 0 + 1) from rfl, wd_step (s := 2) (k := 1) (c := 0) (by decide), wd21]; rfl
theorem wd24 : wd 2 4 = [0, 1] := by rw [show wd 2 4 = wd 2 (2 * 1 + 1 + 1) from rfl, wd_step (s := 2) (k := 1) (c := 1) (by decide), wd21]; rfl
theorem known1 : FirstUn 2 kV kW (some 4) := by
  refine ⟨by rw [wd24]; decide, fun u hu => ?_⟩
  have : u = 0 ∨ u = 1 ∨ u = 2 ∨ u = 3 := by omega
  rcases this with rfl | rfl | rfl | rfl
  · rw [wd20]; decide
  · rw [wd21]; decide
  · rw [wd22]; decide
  · rw [wd23]; decide
theorem FirstUn.symm {s : Nat} {V W : WD} {o : Option Nat} (h : FirstUn s V W o) : FirstUn s W V o := by
  cases o with
  | none => exact fun r => (h r).symm
  | some r => exact ⟨fun e => h.1 e.symm, fun u hu => (h.2 u hu).symm⟩
abbrev sKnown : Stmt := topS 42
theorem scKnown : FnScope ["only_ab", "near", "far"] [] (defScope sKnown) := ⟨rfl, rfl, rfl, by decide +kernel, rfl, by decide +kernel, by decide +kernel⟩
def cKnown : Ct := fun ds M Pq => ds = [] ∧ M = [] ∧ Pq (.bl true) []
abbrev sRight : Stmt := topS 43
theorem scRight : FnScope ["flask", "turn", "signs", "parts_here", "way", "others", "near", "far", "rows_here", "row", "unlike", "due"] ["flask"] (defScope sRight) := ⟨rfl, rfl, rfl, by decide +kernel, rfl, by decide +kernel, by decide +kernel⟩
def cRight : Ct := fun ds M Pq => ∃ fl t, ds = [.loc fl] ∧ M = [fk fl t] ∧ Pq (.bl true) []
abbrev sLaw : Stmt := topS 44
theorem scLaw : FnScope ["script", "k"] ["script"] (defScope sLaw) := ⟨rfl, rfl, rfl, by decide +kernel, rfl, by decide +kernel, by decide +kernel⟩
def cLaw : Ct := fun ds M Pq => ∃ xs : List Int, ds = [.lsq (xs.map .int)] ∧ M = [] ∧ xs.length ≤ 1000 ∧ Pq (.bl true) []
def pO (s : Nat) : Option Nat → PyData
  | none => .none
  | some r => .str (wStr (wd s r))
theorem pd_encO (s : Nat) (o : Option Nat) : pdD (encO s o) = some (pO s o) := by cases o <;> rfl
theorem wStr_ok {u : List Nat} (h : ∀ c ∈ u, c < 8) : PyData.strOk (wStr u) = true := by
  unfold PyData.strOk wStr
  rw [← Array.all_toList]
  simp only [List.all_map, List.all_eq_true, Function.comp, decide_eq_true_eq]
  intro c hc
  have := h c hc
  omega
theorem shaped_strs : ∀ (xs : List (List Nat)), (∀ u ∈ xs, ∀ c ∈ u, c < 8) → SeqAt.shaped (.list (xs.map fun u => PyData.str (wStr u))) = true := by
  intro xs h
  have h1 : ∀ xs : List (List Nat), (∀ u ∈ xs, ∀ c ∈ u, c < 8) → PyData.canLayAll0 (xs.map fun u => PyData.str (wStr u)) = true ∧ PyData.depthAll (xs.map fun u => PyData.str (wStr u)) = 0 := by
    intro xs
    induction xs with
    | nil => exact fun _ => ⟨rfl, rfl⟩
    | cons u xs ih =>
      intro h
      obtain ⟨i1, i2⟩ := ih fun v hv => h v (List.mem_cons_of_mem _ hv)
      refine ⟨?_, ?_⟩
      · rw [List.map_cons, PyData.canLayAll0, i1, PyData.canLay0, wStr_ok (h u List.mem_cons_self)]
        rfl
      · rw [List.map_cons, PyData.depthAll, i2, PyData.depth]
        rfl
  obtain ⟨i1, i2⟩ := h1 xs h
  unfold SeqAt.shaped
  rw [PyData.canLay0, i1, PyData.depth, i2]
  rfl
theorem pd_rows (s : Nat) : ∀ rs : List Nat, pdDs (rs.map (rD s)) = some ((rs.map (wd s)).map fun u => PyData.str (wStr u))
  | [] => by rw [List.map_nil, pdDs]; rfl
  | r :: rs => by
    rw [List.map_cons, pdDs, pd_rows s rs]
    rfl
theorem eqv_nil (xs : List PyData) : PyData.eqv (.list xs) (.list []) = xs.isEmpty := by
  cases xs <;> simp [PyData.eqv, PyData.eqvAll]
theorem eqv_o (s : Nat) (o : Option Nat) : PyData.eqv (pO s o) (pO s o) = true := by
  cases o <;> simp [pO, PyData.eqv]
theorem shaped_o {s : Nat} (o o' : Option Nat) (hs : 0 < s) (h8 : s ≤ 8) : SeqAt.shaped (.list [pO s o, pO s o']) = true := by
  have h1 : ∀ o, PyData.canLay0 (pO s o) = true ∧ PyData.depth (pO s o) = 0 := by
    intro o
    cases o with
    | none => exact ⟨rfl, rfl⟩
    | some r =>
      refine ⟨?_, by show PyData.depth (.str _) = 0; rw [PyData.depth]⟩
      show PyData.canLay0 (.str (wStr (wd s r))) = true
      rw [PyData.canLay0]
      exact wStr_ok fun c hc => Nat.lt_of_lt_of_le (wd_lt hs r c hc) h8
  unfold SeqAt.shaped
  rw [PyData.canLay0, PyData.canLayAll0, PyData.canLayAll0, PyData.canLayAll0, (h1 o).1, (h1 o').1, PyData.depth, PyData.depthAll, PyData.depthAll, PyData.depthAll, (h1 o).2, (h1 o').2]
  rfl
section
variable {P : Program} {w : World} {K : PySem.W.Frag} {mg : Str → Option Value} {base : Heap} {C : Addr}
/-- an expression of constants -/
structure CE (e : Expr) (d : D) : Prop where
  run : ∀ (X : Cx) (ρ : DV.Env) (M : Mem) (Z : D → Mem → Prop), Z d M → DE X e ρ M Z
  ns : noStar e = true
theorem CE.int {i : Int} {j} {p : Pos} : CE (.Constant (.int i) j p) (.int i) := ⟨fun X ρ M Z q => de_int q, rfl⟩
theorem CE.tup1 {e1 : Expr} {d1 : D} {k} {p : Pos} (c1 : CE e1 d1) : CE (.Tuple [e1] k p) (.tup [d1]) := ⟨fun X ρ M Z q => de_tup (da_one (c1.run X ρ M _ ⟨by simp, q⟩) c1.ns), rfl⟩
theorem CE.tup2 {e1 e2 : Expr} {d1 d2 : D} {k} {p : Pos} (c1 : CE e1 d1) (c2 : CE e2 d2) : CE (.Tuple [e1, e2] k p) (.tup [d1, d2]) := ⟨fun X ρ M Z q => de_tup (da_two (c1.run X ρ M _ (c2.run X ρ M _ ⟨by simp, q⟩)) c1.ns c2.ns), rfl⟩
theorem CE.tup3 {e1 e2 e3 : Expr} {d1 d2 d3 : D} {k} {p : Pos} (c1 : CE e1 d1) (c2 : CE e2 d2) (c3 : CE e3 d3) : CE (.Tuple [e1, e2, e3] k p) (.tup [d1, d2, d3]) := ⟨fun X ρ M Z q => de_tup (da_cons (c1.run X ρ M _ (da_two (c2.run X ρ M _ (c3.run X ρ M _ ⟨by simp, q⟩)) c2.ns c3.ns)) c1.ns), rfl⟩
theorem set_ce {X : Cx} {N : List Str} {sc : Scope} {fn : Str → Bool} {k : Nat} {ρ : DV.Env} {M : Mem} {Z : DEnds} (B : Bd X P w K mg base N sc fn k) (i : Nat) {x : Str} {e : Expr} {d : D} {pos pos' : Pos} {rest : List Stmt} (c : CE e d) (h : DSs X rest (ρ.set i (some d)) M Z) (hi : N[i]? = some x) (hl : locB sc fn x = true) (hc : isComp e = false) : DSs X (.Assign [.Name x pos'] e pos :: rest) ρ M Z :=
  dss_cons (ds_set B i (c.run X ρ M _ h) hi hl hc)
/-- a weigher made of constants but for one name -/
theorem make_ce1 {X : Cx} {N : List Str} {sc : Scope} {fn : Str → Bool} {ρ : DV.Env} {M : Mem} {Z : D → Mem → Prop} (B : Bd X P w K mg base N sc fn 6) (Cl : ClsD P w K mg base 4 "Weigher" C ["self", "signs", "begins", "tables", "goals"] (cInit C)) {s n : Nat} {W : WD} {e1 e2 e4 : Expr} {p p3 pos : Pos} {x3 : Str} (i : Nat)
    (c1 : CE e1 (.int (s : Nat))) (c2 : CE e2 (tI W.b)) (c4 : CE e4 (tI W.g)) (h3 : ρ[i]? = some (some (tTTI W.T))) (hN : N[i]? = some x3) (hv : visB sc x3 = true) (hd : (x3 == ("__debug__" : Str)) = false) (hcd : (x3 == ("__classdict__" : Str)) = false) (ok : WOk s n W) (hg : glB sc "Weigher" = true) (q : Z (wD C s W) M) : DE X (.Call (.Name "Weigher" p) [e1, e2, .Name x3 p3, e4] [] pos) ρ M Z := by
  refine de_make B Cl (da_cons (c1.run X ρ M _ (da_cons (c2.run X ρ M _ (da_two (de_name B i h3 (c4.run X ρ M _ fun o dx ho => ?_) hN hv hd hcd) rfl c4.ns)) c2.ns)) c1.ns) (by decide) hg (by decide) c1.ns (by simp only [List.all_cons, List.all_nil, c2.ns, c4.ns]; rfl)
  exact ⟨fun d M2 => d = .non ∧ M2 = [(o, .ins C dx ["parts"] [.tup [.int (s : Nat), tI W.b, tTTI W.T, tI W.g]])], ⟨o, dx, s, n, W, rfl, rfl, ok, rfl, rfl⟩, fun d M2 ⟨e1, e2⟩ => ⟨_, _, e1, e2, q⟩⟩
theorem make_ce2 {X : Cx} {N : List Str} {sc : Scope} {fn : Str → Bool} {ρ : DV.Env} {M : Mem} {Z : D → Mem → Prop} (B : Bd X P w K mg base N sc fn 6) (Cl : ClsD P w K mg base 4 "Weigher" C ["self", "signs", "begins", "tables", "goals"] (cInit C)) {s n : Nat} {W : WD} {e1 e2 e3 e4 : Expr} {p pos : Pos}
    (c1 : CE e1 (.int (s : Nat))) (c2 : CE e2 (tI W.b)) (c3 : CE e3 (tTTI W.T)) (c4 : CE e4 (tI W.g)) (ok : WOk s n W) (hg : glB sc "Weigher" = true) (q : Z (wD C s W) M) : DE X (.Call (.Name "Weigher" p) [e1, e2, e3, e4] [] pos) ρ M Z := by
  refine de_make B Cl (da_cons (c1.run X ρ M _ (da_cons (c2.run X ρ M _ (da_two (c3.run X ρ M _ (c4.run X ρ M _ fun o dx ho => ?_)) c3.ns c4.ns)) c2.ns)) c1.ns) (by decide) hg (by decide) c1.ns (by simp only [List.all_cons, List.all_nil, c2.ns, c3.ns, c4.ns]; rfl)
  exact ⟨fun d M2 => d = .non ∧ M2 = [(o, .ins C dx ["parts"] [.tup [.int (s : Nat), tI W.b, tTTI W.T, tI W.g]])], ⟨o, dx, s, n, W, rfl, rfl, ok, rfl, rfl⟩, fun d M2 ⟨e1, e2⟩ => ⟨_, _, e1, e2, q⟩⟩
theorem par_ce {X : Cx} {N : List Str} {sc : Scope} {fn : Str → Bool} {k : Nat} {ρ : DV.Env} {M : Mem} {Z : DEnds} (B : Bd X P w K mg base N sc fn k) (i j : Nat) {x y : Str} {a b : Expr} {px py pt pt2 pos : Pos} {kt k2} {rest : List Stmt} {d d' : D} (h1 : ∀ Z1 : D → Mem → Prop, Z1 d M → DE X a ρ M Z1) (h2 : ∀ Z1 : D → Mem → Prop, Z1 d' M → DE X b ρ M Z1) (h : DSs X rest ((ρ.set i (some d)).set j (some d')) M Z)
    (hw : swappedStores [.Tuple [.Name x px, .Name y py] kt pt] (.Tuple [a, b] k2 pt2) (envS sc) = pure (some [x, y]))
    (hi : N[i]? = some x) (hj : N[j]? = some y) (hij : i ≠ j) (hx : sc.names.lookup x = some .local) (hy : sc.names.lookup y = some .local) (ha : noStar a = true) (hb : noStar b = true) :
    DSs X (.Assign [.Tuple [.Name x px, .Name y py] kt pt] (.Tuple [a, b] k2 pt2) pos :: rest) ρ M Z := dss_cons (ds_par B i j (h1 _ (h2 _ h)) hw hi hj hij hx hy ha hb)
set_option maxHeartbeats 400000
/-- what the def gives back -/
def retE : Expr := match (defBody sKnown).getD 2 (.Pass ⟨0, 0, 0, 0⟩) with
  | .Return (some e) _ => e
  | _ => .Constant .none 0 ⟨0, 0, 0, 0⟩
theorem known_shape : ∃ (e0 e1 e2 e3 f1 f2 f3 f4 : Expr) (p0 p1 p2 p3 p4 p5 p6 p7 p8 p9 p10 p11 p12 : Pos), defBody sKnown = [.Assign [.Name "only_ab" p0] e0 p1, .Assign [.Tuple [.Name "near" p2, .Name "far" p3] 0 p4] (.Tuple [.Call (.Name "Weigher" p5) [e1, e2, .Name "only_ab" p6, e3] [] p7, .Call (.Name "Weigher" p8) [f1, f2, f3, f4] [] p9] 0 p10) p11, .Return (some retE) p12] ∧ isComp e0 = false ∧
    CE e0 (tTTI kV.T) ∧ CE e1 (.int (2 : Nat)) ∧ CE e2 (tI kV.b) ∧ CE e3 (tI kV.g) ∧ CE f1 (.int (2 : Nat)) ∧ CE f2 (tI kW.b) ∧ CE f3 (tTTI kW.T) ∧ CE f4 (tI kW.g) ∧ swappedStores [.Tuple [.Name "near" p2, .Name "far" p3] 0 p4] (.Tuple [.Call (.Name "Weigher" p5) [e1, e2, .Name "only_ab" p6, e3] [] p7, .Call (.Name "Weigher" p8) [f1, f2, f3, f4] [] p9] 0 p10) (envS (defScope sKnown)) = pure (some [("near" : Str), ("far" : Str)]) :=
  ⟨_, _, _, _, _, _, _, _, _, _, _, _, _, _, _, _, _, _, _, _, _, rfl, rfl, .tup2 (.tup3 (.tup3 .int .int .int) (.tup3 .int .int .int) (.tup3 .int .int .int)) (.tup3 (.tup3 .int .int .int) (.tup3 .int .int .int) (.tup3 .int .int .int)), .int, .tup3 .int .int .int, .tup3 .int .int .int, .int, .tup1 .int, .tup2 (.tup1 (.tup1 .int)) (.tup1 (.tup1 .int)), .tup1 .int, rfl⟩
theorem known_ret {X : Cx} {p12 : Pos} (B : Bd X P w K mg base ["only_ab", "near", "far"] (defScope sKnown) (fun _ => true) 6) (Ff : FnD P w K mg base 6 "first_unlike" ["weigher", "other"] (cApart C)) (Fs : FnD P w K mg base 6 "same_values" ["weigher", "other"] (cSame C)) (Pq : D → Mem → Prop) (q : Pq (.bl true) []) : DSs X [.Return (some retE) p12] [some (tTTI kV.T), some (wD C 2 kV), some (wD C 2 kW)] [] ⟨fun _ M' => Pq .non M', Pq, fun _ _ => False, fun _ _ => False⟩ := by
  have ab : D.str (Str.ofString "ab") = encO 2 (some 4) := by
    show _ = D.str (wStr (wd 2 4))
    rw [wd24]
    exact congrArg D.str (by decide +kernel)
  refine dss_one <| ds_ret <| de_eqD B <| DN.fz <| dn_lst <| da_cons <| de_call B Ff <| da_two <| de_name B 1 rfl <| de_name B 2 rfl <| cac0 ⟨2, 3, 1, kV, kW, rfl, rfl, kV_ok, kW_ok, by decide, fun o1 h1 _ => ?_⟩
  refine da_two <| de_call B Ff <| da_two <| de_name B 2 rfl <| de_name B 1 rfl <| cac0 ⟨2, 1, 3, kW, kV, rfl, rfl, kW_ok, kV_ok, by decide, fun o2 h2 _ => ?_⟩
  refine de_call B Fs <| da_two <| de_name B 1 rfl <| de_name B 2 rfl <| cac0 ⟨2, 3, 1, kV, kW, rfl, rfl, kV_ok, kW_ok, by decide, fun o3 h3 _ => ⟨by simp, ?_⟩⟩
  have e1 := h1.uniq known1
  have e2 := h2.uniq known1.symm
  have e3 := h3.uniq known1
  subst e1; subst e2; subst e3
  refine DN.fz <| dn_lst <| da_cons <| de_str <| da_two <| de_str <| de_bl ⟨by simp, ?_⟩
  rw [← ab]
  have e1 : ∀ x : Str, PyData.eqv (.list [.str x, .str x, .bool false]) (.list [.str x, .str x, .bool false]) = true := fun x => by simp [PyData.eqv, PyData.eqvAll]
  refine ⟨.list [.str (Str.ofString "ab"), .str (Str.ofString "ab"), .bool false], .list [.str (Str.ofString "ab"), .str (Str.ofString "ab"), .bool false], by simp [pdD, pdDs], by simp [pdD, pdDs], by decide +kernel, by decide +kernel, ?_⟩
  rw [e1]
  exact q
theorem body_known {X : Cx} (B : Bd X P w K mg base ["only_ab", "near", "far"] (defScope sKnown) (fun _ => true) 6) (Cl : ClsD P w K mg base 4 "Weigher" C ["self", "signs", "begins", "tables", "goals"] (cInit C))
    (Ff : FnD P w K mg base 6 "first_unlike" ["weigher", "other"] (cApart C)) (Fs : FnD P w K mg base 6 "same_values" ["weigher", "other"] (cSame C)) (ds : List D) (M : Mem) (Pq : D → Mem → Prop) (h : cKnown ds M Pq) : DSs X (defBody sKnown) (startD ["only_ab", "near", "far"] ds) M ⟨fun _ M' => Pq .non M', Pq, fun _ _ => False, fun _ _ => False⟩ := by
  obtain ⟨rfl, rfl, q⟩ := h
  have hs : startD (["only_ab", "near", "far"] : List Str) [] = [none, none, none] := rfl
  rw [hs]
  obtain ⟨e0, e1, e2, e3, f1, f2, f3, f4, p0, p1, p2, p3, p4, p5, p6, p7, p8, p9, p10, p11, p12, he, hc0, c0, c1, c2, c3, d1, d2, d3, d4, hsw⟩ := known_shape
  rw [he]
  refine set_ce B 0 (d := tTTI kV.T) c0 ?_ rfl rfl hc0
  exact par_ce B 1 2 (d := wD C 2 kV) (d' := wD C 2 kW) (fun Z1 q1 => make_ce1 B Cl 0 c1 c2 c3 rfl rfl rfl (by decide) (by decide) kV_ok rfl q1) (fun Z1 q1 => make_ce2 B Cl d1 d2 d3 d4 kW_ok rfl q1) (known_ret B Ff Fs Pq q) hsw rfl rfl (by decide) rfl rfl rfl rfl
theorem len_known (ds : List D) (M : Mem) (Pq : D → Mem → Prop) (h : cKnown ds M Pq) : ds.length = ([] : List Str).length := by
  obtain ⟨e, _⟩ := h
  rw [e]
  rfl
theorem ok_known {f : Addr} {fd : FuncData} (F : Fun K "_law_known_right" "_law_known_right" sKnown f fd) (hm : mg "_law_known_right" = some (.ref f)) (hb : Binds K fd [] []) (Cl : ClsD P w K mg base 4 "Weigher" C ["self", "signs", "begins", "tables", "goals"] (cInit C))
    (Ff : FnD P w K mg base 6 "first_unlike" ["weigher", "other"] (cApart C)) (Fs : FnD P w K mg base 6 "same_values" ["weigher", "other"] (cSame C)) : FnD P w K mg base 7 "_law_known_right" [] cKnown := by
  exact fnD_of F hm hb scKnown len_known (fun X B ds M Pq h => @body_known P w K mg base C X B Cl Ff Fs ds M Pq h)
end
end K53

set_option Elab.async false
set_option linter.all false
set_option maxRecDepth 100000
set_option maxHeartbeats 1000000
/-! K53r: the walk, right and law. -/
namespace K53
open PySem PySem.Spec PyProof.Rows L2 DV
theorem isNon_encO (s : Nat) (o : Option Nat) : isNon (encO s o) = o.isNone := by cases o <;> rfl
theorem head_rD (s : Nat) (rs : List Nat) : ∀ r rest, rs = r :: rest → rD s r = encO s rs.head? := fun r rest e => by subst e; rfl
section
variable {P : Program} {w : World} {K : PySem.W.Frag} {mg : Str → Option Value} {base : Heap} {C : Addr}
theorem ok_right {f : Addr} {fd : FuncData} (F : Fun K "_law_right" "_law_right" sRight f fd) (hm : mg "_law_right" = some (.ref f)) (hb : Binds K fd ["flask"] []) (L : Bl mg)
    (Fkn : FnD P w K mg base 7 "_law_known_right" [] cKnown) (Fp : FnD P w K mg base 1 "_law_pour" ["flask", "top"] cPour) (Fk : FnD P w K mg base 2 "_law_pick" ["flask", "some"] cPick) (Fpa : FnD P w K mg base 3 "_law_parts" ["flask", "signs", "most"] cParts)
    (Ftu : FnD P w K mg base 3 "_law_turned" ["flask", "parts_here"] cTurned) (Fsh : FnD P w K mg base 3 "_law_shared" ["flask", "parts_here"] cTurned) (Fbe : FnD P w K mg base 3 "_law_bent" ["flask", "parts_here"] cBent)
    (Fma : FnD P w K mg base 6 "_law_made" ["signs", "parts_here"] (cMade C)) (Fwo : FnD P w K mg base 1 "_law_words" ["signs", "most"] cWords) (Fva : FnD P w K mg base 1 "_law_value" ["parts_here", "row"] cValue)
    (Ff : FnD P w K mg base 6 "first_unlike" ["weigher", "other"] (cApart C)) (FfK : KwD P w K mg base 6 "first_unlike" ["weigher", "other"] (cApart C) 0 ["other", "weigher"] swap2)
    (Fs : FnD P w K mg base 6 "same_values" ["weigher", "other"] (cSame C)) (FsK : KwD P w K mg base 6 "same_values" ["weigher", "other"] (cSame C) 0 ["other", "weigher"] swap2) : FnD P w K mg base 8 "_law_right" ["flask"] cRight := by
  refine fnD_of F hm hb scRight (fun ds M Pq ⟨_, _, e, _⟩ => by rw [e]; rfl) fun X B ds M Pq h => ?_
  obtain ⟨fl, t, rfl, rfl, q⟩ := h
  refine dss_cons <| ds_ifF <| dt_notT <| de_call0 B Fkn <| cac0 ⟨rfl, rfl, rfl, rfl, dss_nil ?_⟩
  refine dss_cons <| ds_for B [1] <| di_rng1 B L.range <| de_int ⟨3, rfl, by omega, by omega, fun i ρ M => ∃ x1 x2 x3 x4 x5 x6 x7 x8 x9 x10 x11 t, ρ = [some (.loc fl), x1, x2, x3, x4, x5, x6, x7, x8, x9, x10, x11] ∧ M = [fk fl t], ⟨none, none, none, none, none, none, none, none, none, none, none, t, rfl, rfl⟩, fun i d ρ2 M2 hd ⟨x1, x2, x3, x4, x5, x6, x7, x8, x9, x10, x11, t, er, em⟩ => ⟨trivial, ?_⟩, fun ρ2 M2 ⟨x1, x2, x3, x4, x5, x6, x7, x8, x9, x10, x11, t, er, em⟩ => ⟨trivial, ?_⟩⟩
  · subst er; subst em
    refine dg_name B 1 ?_
    refine dss_cons <| ds_set B 2 <| de_call B Fk <| da_two <| de_name B 0 rfl <| DN.fz <| dn_lst <| da_cons <| de_int <| da_two <| de_int <| de_int ⟨by simp, cac1 ⟨fl, t, _, rfl, rfl, by simp, by simp, fun t1 d1 hd1 => ?_⟩⟩
    obtain ⟨s, rfl, s1, s2⟩ : ∃ s : Nat, d1 = .int (s : Nat) ∧ 1 ≤ s ∧ s ≤ 2 := by
      simp only [List.mem_cons, List.not_mem_nil, or_false] at hd1
      rcases hd1 with rfl | rfl | rfl
      · exact ⟨2, rfl, by decide, by decide⟩
      · exact ⟨2, rfl, by decide, by decide⟩
      · exact ⟨1, rfl, by decide, by decide⟩
    refine dss_cons <| ds_asgTT (js := [3, 4]) B rfl <| de_tup <| da_two <| de_call B Fpa <| da_cons <| de_name B 0 rfl <| da_two <| de_name B 2 rfl <| de_int <| cac1 ⟨fl, t1, s, rfl, rfl, s1, by omega, fun t2 n V okV => ?_⟩
    refine de_call B Fp <| da_two <| de_name B 0 rfl <| de_int <| cac1 ⟨fl, t2, 4, rfl, rfl, by decide, by decide, fun t3 way hway => ⟨by simp, dg_tup B <| dgs_cons <| dg_name B 3 <| dgs_cons <| dg_name B 4 <| dgs_nil ?_⟩⟩
    refine dss_cons <| ds_set B 5 <| de_call B Fpa <| da_cons <| de_name B 0 rfl <| da_two <| de_name B 2 rfl <| de_int <| cac1 ⟨fl, t3, s, rfl, rfl, s1, by omega, fun t4 m0 W0 okW0 => ?_⟩
    have nV := okV.n2
    have nV1 := okV.ok.n1
    refine ds_mid (fun ρ M => ∃ (m : Nat) (W : WD) (t : Int × Int × Int), ρ = [some (.loc fl), some d, some (.int (s : Nat)), some (pD V), some (.int (way : Nat)), some (pD W), x6, x7, x8, x9, x10, x11] ∧ M = [fk fl t] ∧ WOk s m W ∧ m ≤ 3 ∧ (way < 2 → Same s W V)) (ds_if <| dt_eqI <| de_name B 4 rfl <| de_int ⟨_, _, rfl, rfl, fun h0 => ?_, fun h0 => ?_⟩) ?_
    · exact dss_one <| ds_set B 5 <| de_call B Ftu <| da_two <| de_name B 0 rfl <| de_name B 3 rfl <| cac1 ⟨fl, t4, s, n, V, rfl, rfl, okV, fun t5 m W okW hm3 hs => ⟨m, W, t5, rfl, rfl, okW, hm3, fun _ => hs⟩⟩
    · refine dss_one <| ds_if <| dt_I op_lt <| de_name B 4 rfl <| de_int ⟨_, _, rfl, rfl, fun h1 => ?_, fun h1 => dss_nil ⟨m0, W0, t4, rfl, rfl, okW0.ok, by have := okW0.n2; omega, fun h2 => ?_⟩⟩
      · refine dss_one <| ds_set B 5 <| de_if <| dt_eqI <| de_name B 4 rfl <| de_int ⟨_, _, rfl, rfl, fun h2 => ?_, fun h2 => ?_⟩
        · exact de_call B Fsh <| da_two <| de_name B 0 rfl <| de_name B 3 rfl <| cac1 ⟨fl, t4, s, n, V, rfl, rfl, okV, fun t5 m W okW hm3 hs => ⟨m, W, t5, rfl, rfl, okW, hm3, fun _ => hs⟩⟩
        · refine de_call B Fbe <| da_two <| de_name B 0 rfl <| de_name B 3 rfl <| cac1 ⟨fl, t4, s, n, V, rfl, rfl, okV, fun t5 m W okW hm3 => ⟨m, W, t5, rfl, rfl, okW, hm3, fun hw => ?_⟩⟩
          have e0 : ¬ (way : Int) = 0 := by simpa using h0
          have e1 : ¬ (way : Int) = 1 := by simpa using h2
          omega
      · have e1 : ¬ (way : Int) < 3 := by simpa using h1
        omega
    rintro ρ1 M1 ⟨m, W, t5, rfl, rfl, okW, hm3, hsame⟩
    have okv := okV.ok
    have m1 := okW.n1
    refine dss_cons <| ds_par B 6 7 <| de_call B Fma <| da_two <| de_name B 2 rfl <| de_name B 3 rfl <| cac0 ⟨s, n, V, rfl, rfl, okv, de_call B Fma <| da_two <| de_name B 2 rfl <| de_name B 5 rfl <| cac0 ⟨s, m, W, rfl, rfl, okW, ?_⟩⟩
    refine dss_cons <| ds_set B 8 <| de_call B Fwo <| da_two <| de_name B 2 rfl <| de_sub <| de_add <| de_len B L.len <| de_ixT <| de_name B 3 rfl <| de_int ⟨_, _, _, rfl, rfl, at0, _, .t, de_len B L.len <| de_ixT <| de_name B 5 rfl <| de_int ⟨_, _, _, rfl, rfl, at0, _, .t, _, _, rfl, rfl, de_int ⟨_, _, rfl, rfl, cac0 ⟨s, n + m - 1, ?_, rfl, s1, by omega, by omega, ?_⟩⟩⟩⟩
    · rw [List.length_map, List.length_map, okv.bl, okW.bl]
      congr 2
      congr 1
      omega
    have hvd : ∀ r, r < Bn s (n + m - 1) → (wd s r).length ≤ 4 := fun r hr => Nat.le_trans (wd_short s1 _ r hr) (by omega)
    refine dss_cons <| ds_setLcF B 10 (own := [("row", 9)]) (js := [9]) <| di_lst <| de_name B 8 rfl ⟨_, .inl rfl, ?_⟩
    refine lc_filt (List.range (Bn s (n + m - 1))) (rD s) (rD s) (fun r => !decide (vl V (wd s r) = vl W (wd s r))) (fun r => [some (.loc fl), some d, some (.int (s : Nat)), some (pD V), some (.int (way : Nat)), some (pD W), some (wD C s V), some (wD C s W), some (.lst ((List.range (Bn s (n + m - 1))).map (rD s))), some (rD s r), x10, x11]) (by have := Bn_le (show s ≤ 8 by omega) (n + m - 1) (by omega); simp; omega) (fun r hr X' B' Zt z => dg_name B' 9 z) (fun r hr X' B' Zt z => ?_) (fun r hr hf X' B' Zt z => de_name B' 9 rfl z) ?_
    · exact dt_neI <| de_call B' Fva <| da_two <| de_name B' 3 rfl <| de_name B' 9 rfl <| cac0 ⟨s, n, V, wd s r, rfl, rfl, okv, wd_lt s1 r, de_call B' Fva <| da_two <| de_name B' 5 rfl <| de_name B' 9 rfl <| cac0 ⟨s, m, W, wd s r, rfl, rfl, okW, wd_lt s1 r, _, _, rfl, rfl, z⟩⟩
    have hfo : firstOf s (Bn s (n + m - 1)) V W = ((List.range (Bn s (n + m - 1))).filter fun r => !decide (vl V (wd s r) = vl W (wd s r))).head? := rfl
    have hshape : SeqAt.shaped (.list ((((List.range (Bn s (n + m - 1))).filter fun r => !decide (vl V (wd s r) = vl W (wd s r))).map (wd s)).map fun u => PyData.str (wStr u))) = true := shaped_strs _ fun u hu c hc => by
      obtain ⟨r, _, rfl⟩ := List.mem_map.mp hu
      exact Nat.lt_of_lt_of_le (wd_lt s1 r c hc) (by omega)
    revert hfo hshape
    generalize (List.range (Bn s (n + m - 1))).filter (fun r => !decide (vl V (wd s r) = vl W (wd s r))) = U
    intro hfo hshape
    refine ds_mid (fun ρ M => ρ = [some (.loc fl), some d, some (.int (s : Nat)), some (pD V), some (.int (way : Nat)), some (pD W), some (wD C s V), some (wD C s W), some (.lst ((List.range (Bn s (n + m - 1))).map (rD s))), x9, some (.lst (U.map (rD s))), some (encO s (firstOf s (Bn s (n + m - 1)) V W))] ∧ M = [fk fl t5]) (ds_set B 11 <| de_if <| dt_neD B <| de_name B 10 rfl <| DN.fz <| dn_lst <| da_nil ⟨by simp, .list ((U.map (wd s)).map fun u => PyData.str (wStr u)), .list [], by rw [pdD, pd_rows]; rfl, by rw [pdD, pdDs]; rfl, hshape, by decide +kernel, fun h1 => ?_, fun h1 => ?_⟩) ?_
    · rw [eqv_nil] at h1
      match U, hfo, h1 with
      | [], _, h1 => simp at h1
      | r :: U', hfo, _ =>
        exact de_ixL <| de_name B 10 rfl <| de_int ⟨_, _, _, .f, rfl, at0, by rw [hfo]; rfl, rfl⟩
    · rw [eqv_nil] at h1
      match U, hfo, h1 with
      | [], hfo, _ => exact de_non ⟨by rw [hfo]; rfl, rfl⟩
      | r :: U', _, h1 => simp at h1
    rintro ρ1 M1 ⟨rfl, rfl⟩
    have hfirst : ∀ o, FirstUn s V W o → SmallO s (n + m) o → firstOf s (Bn s (n + m - 1)) V W = o := fun o ho hs => firstOf_is ho fun r e => wd_len s1 r _ (by have := hs r e; omega)
    revert hfirst
    generalize firstOf s (Bn s (n + m - 1)) V W = fo
    intro hfirst
    refine dss_cons <| ds_ifF <| dt_neD B <| DN.fz <| dn_lst <| da_two <| de_call B Ff <| da_two <| de_name B 6 rfl <| de_name B 7 rfl <| cac0 ⟨s, n, m, V, W, rfl, rfl, okv, okW, by omega, fun o1 ho1 hs1 => ?_⟩
    refine de_callK0 B FfK <| dk_cons <| de_name B 6 rfl <| dk_cons <| de_name B 7 rfl <| dk_nil ⟨rfl, cac0 ⟨s, m, n, W, V, rfl, rfl, okW, okv, by omega, fun o2 ho2 hs2 => ⟨by simp, ?_⟩⟩⟩
    have e1 := hfirst o1 ho1 hs1
    have e2 := hfirst o2 ho2.symm fun r e => by have := hs2 r e; omega
    subst e1
    subst e2
    refine DN.fz <| dn_lst <| da_two <| de_name B 11 rfl <| de_name B 11 rfl ⟨by simp, .list [pO s fo, pO s fo], .list [pO s fo, pO s fo], by simp [pdD, pdDs, pd_encO], by simp [pdD, pdDs, pd_encO], shaped_o fo fo s1 (by omega), shaped_o fo fo s1 (by omega), by simp [PyData.eqv, PyData.eqvAll, eqv_o], dss_nil ?_⟩
    refine dss_cons <| ds_ifF <| dt_neD B <| DN.fz <| dn_lst <| da_two <| de_call B Fs <| da_two <| de_name B 6 rfl <| de_name B 7 rfl <| cac0 ⟨s, n, m, V, W, rfl, rfl, okv, okW, by omega, fun o3 ho3 hs3 => ?_⟩
    refine de_callK0 B FsK <| dk_cons <| de_name B 6 rfl <| dk_cons <| de_name B 7 rfl <| dk_nil ⟨rfl, cac0 ⟨s, m, n, W, V, rfl, rfl, okW, okv, by omega, fun o4 ho4 hs4 => ⟨by simp, ?_⟩⟩⟩
    have e3 := hfirst o3 ho3 hs3
    have e4 := hfirst o4 ho4.symm fun r e => by have := hs4 r e; omega
    subst e3
    subst e4
    refine DN.fz <| dn_rep <| DN.fz <| dn_lst <| da_one <| de_isN <| de_name B 11 rfl ⟨by simp, de_int ⟨_, 2, .f, rfl, by decide, by decide, by simp, ?_⟩⟩
    rw [isNon_encO]
    refine ⟨.list [.bool fo.isNone, .bool fo.isNone], .list [.bool fo.isNone, .bool fo.isNone], by simp [pdD, pdDs], by simp [pdD, pdDs], by cases fo.isNone <;> decide +kernel, by cases fo.isNone <;> decide +kernel, by simp [PyData.eqv, PyData.eqvAll], dss_nil ?_⟩
    refine dss_one <| ds_ifF <| dw_t <| dw_orF <| dt_notT <| de_call B Fs <| da_two <| de_name B 6 rfl <| de_name B 6 rfl <| cac0 ⟨s, n, n, V, V, rfl, rfl, okv, okv, by omega, fun o5 ho5 hs5 => ?_⟩
    have e5 := ho5.uniq (show FirstUn s V V none from fun _ => rfl)
    subst e5
    have hnone : way < 2 → fo = none := fun hw2 => ho1.uniq (show FirstUn s V W none from fun r => (hsame hw2 _ (wd_lt s1 r)).symm)
    refine ⟨rfl, rfl, dw_or1 <| dw_t <| dw_and <| dt_I op_lt <| de_name B 4 rfl <| de_int ⟨_, _, rfl, rfl, fun hw => ?_, fun hw => ?_⟩⟩
    · have hw2 : way < 2 := by
        have : (way : Int) < 2 := by simpa using hw
        omega
      have hn := hnone hw2
      refine dw_and1 <| dt_notN <| de_name B 11 rfl ⟨?_, ?_⟩
      · rw [isNon_encO, hn]
        rfl
      · exact dss_nil ⟨_, _, _, _, _, _, _, _, _, _, _, t5, rfl, rfl⟩
    · exact ⟨rfl, dss_nil ⟨_, _, _, _, _, _, _, _, _, _, _, t5, rfl, rfl⟩⟩
  · subst er; subst em
    exact dss_one <| ds_ret <| de_less <| de_bl ⟨[], by simp, q⟩
theorem ok_law {f : Addr} {fd : FuncData} (F : Fun K "law" "law" sLaw f fd) (L : Bl mg) (Ffl : FnD P w K mg base 1 "_law_flask" ["script", "k"] cFlask) (Fr : FnD P w K mg base 8 "_law_right" ["flask"] cRight) : FnOk P w K mg base CX0 9 f fd ["script"] (spOf K cLaw) := by
  refine fn_okD F scLaw (fun ds M Pq ⟨_, e, _⟩ => by rw [e]; rfl) fun X B ds M Pq h => ?_
  obtain ⟨xs, rfl, rfl, hl, q⟩ := h
  refine dss_one <| ds_ret <| de_all B L.all <| DN.fz <| dn_lc B (own := [("k", 1)]) (js := [1]) <| di_rng1 B L.range <| de_max2 B L.max <| de_int <| de_min2 B L.min <| de_len B L.len <| de_name B 0 rfl ⟨_, .l .q, de_int ⟨_, _, rfl, rfl, _, _, rfl, rfl, ?_⟩⟩
  obtain ⟨c, hc, hc2⟩ : ∃ c : Nat, c ≤ 3 ∧ (if (if (3 : Int) < ((xs.map D.int).length : Nat) then (3 : Int) else ((xs.map D.int).length : Nat)) > 2 then (if (3 : Int) < ((xs.map D.int).length : Nat) then (3 : Int) else ((xs.map D.int).length : Nat)) else 2) = (c : Int) := by
    refine ⟨(if (if (3 : Int) < ((xs.map D.int).length : Nat) then (3 : Int) else ((xs.map D.int).length : Nat)) > 2 then (if (3 : Int) < ((xs.map D.int).length : Nat) then (3 : Int) else ((xs.map D.int).length : Nat)) else 2).toNat, ?_, ?_⟩
    · split <;> split <;> omega
    · split <;> split <;> omega
  refine ⟨_, rfl, by rw [hc2]; omega, by rw [hc2]; omega, ?_⟩
  rw [hc2]
  refine lc_map1 1 (List.range (c : Int).toNat) (fun j => .int (0 + (j : Int))) (fun _ => .bl true) (by simp; omega) (fun k hk X' B' Z z => ?_) ⟨(List.range (c : Int).toNat).map fun _ => true, by rw [List.map_map]; exact .f, ?_⟩
  · have hkc : k < c := by simpa using hk
    rw [Int.zero_add]
    exact de_call B' Fr <| da_one <| de_call B' Ffl <| da_two <| de_name B' 0 rfl <| de_name B' 1 rfl <| cac0 ⟨xs, k, rfl, rfl, by omega, fun fl t => cac1 ⟨fl, t, rfl, rfl, z⟩⟩
  · rw [show ((List.range (c : Int).toNat).map fun _ => true).all id = true by simp]
    exact q
end
end K53

set_option Elab.async false
set_option linter.all false
set_option maxRecDepth 100000
set_option maxHeartbeats 1000000
/-! K53e: all defs together, and the law's own end. -/
namespace K53
open PySem PySem.Spec PyProof.Rows L2 DV
theorem all_mk {l : PySem.W.OpenLaw} {w : World} {K : PySem.W.Frag} {h : Heap} {mg : Str → Option Value} {fa : Addr}
    {C : Addr}
    {f0 : Addr} {od0 an0 : Option Addr} {sl0 : Array (Option Value)} {oc0 kV0 dc0 pm0 cd0 ct0 : Value}
    {f1 : Addr} {od1 an1 : Option Addr} {sl1 : Array (Option Value)} {oc1 kV1 dc1 pm1 cd1 ct1 : Value}
    {f2 : Addr} {od2 an2 : Option Addr} {sl2 : Array (Option Value)} {oc2 kV2 dc2 pm2 cd2 ct2 : Value}
    {f3 : Addr} {od3 an3 : Option Addr} {sl3 : Array (Option Value)} {oc3 kV3 dc3 pm3 cd3 ct3 : Value}
    {f4 : Addr} {od4 an4 : Option Addr} {sl4 : Array (Option Value)} {oc4 kV4 dc4 pm4 cd4 ct4 : Value}
    {f5 : Addr} {od5 an5 : Option Addr} {sl5 : Array (Option Value)} {oc5 kV5 dc5 pm5 cd5 ct5 : Value}
    {f6 : Addr} {od6 an6 : Option Addr} {sl6 : Array (Option Value)} {oc6 kV6 dc6 pm6 cd6 ct6 : Value}
    {f7 : Addr} {od7 an7 : Option Addr} {sl7 : Array (Option Value)} {oc7 kV7 dc7 pm7 cd7 ct7 : Value}
    {f8 : Addr} {od8 an8 : Option Addr} {sl8 : Array (Option Value)} {oc8 kV8 dc8 pm8 cd8 ct8 : Value}
    {f9 : Addr} {od9 an9 : Option Addr} {sl9 : Array (Option Value)} {oc9 kV9 dc9 pm9 cd9 ct9 : Value}
    {f10 : Addr} {od10 an10 : Option Addr} {sl10 : Array (Option Value)} {oc10 kV10 dc10 pm10 cd10 ct10 : Value}
    {f11 : Addr} {od11 an11 : Option Addr} {sl11 : Array (Option Value)} {oc11 kV11 dc11 pm11 cd11 ct11 : Value}
    {f12 : Addr} {od12 an12 : Option Addr} {sl12 : Array (Option Value)} {oc12 kV12 dc12 pm12 cd12 ct12 : Value}
    {f13 : Addr} {od13 an13 : Option Addr} {sl13 : Array (Option Value)} {oc13 kV13 dc13 pm13 cd13 ct13 : Value}
    {f14 : Addr} {od14 an14 : Option Addr} {sl14 : Array (Option Value)} {oc14 kV14 dc14 pm14 cd14 ct14 : Value}
    {f15 : Addr} {od15 an15 : Option Addr} {sl15 : Array (Option Value)} {oc15 kV15 dc15 pm15 cd15 ct15 : Value}
    {f16 : Addr} {od16 an16 : Option Addr} {sl16 : Array (Option Value)} {oc16 kV16 dc16 pm16 cd16 ct16 : Value}
    {f17 : Addr} {od17 an17 : Option Addr} {sl17 : Array (Option Value)} {oc17 kV17 dc17 pm17 cd17 ct17 : Value}
    {f18 : Addr} {od18 an18 : Option Addr} {sl18 : Array (Option Value)} {oc18 kV18 dc18 pm18 cd18 ct18 : Value}
    {f19 : Addr} {od19 an19 : Option Addr} {sl19 : Array (Option Value)} {oc19 kV19 dc19 pm19 cd19 ct19 : Value}
    {f20 : Addr} {od20 an20 : Option Addr} {sl20 : Array (Option Value)} {oc20 kV20 dc20 pm20 cd20 ct20 : Value}
    {f21 : Addr} {od21 an21 : Option Addr} {sl21 : Array (Option Value)} {oc21 kV21 dc21 pm21 cd21 ct21 : Value}
    {f22 : Addr} {od22 an22 : Option Addr} {sl22 : Array (Option Value)} {oc22 kV22 dc22 pm22 cd22 ct22 : Value}
    {f23 : Addr} {od23 an23 : Option Addr} {sl23 : Array (Option Value)} {oc23 kV23 dc23 pm23 cd23 ct23 : Value}
    {f24 : Addr} {od24 an24 : Option Addr} {sl24 : Array (Option Value)} {oc24 kV24 dc24 pm24 cd24 ct24 : Value}
    {f25 : Addr} {od25 an25 : Option Addr} {sl25 : Array (Option Value)} {oc25 kV25 dc25 pm25 cd25 ct25 : Value}
    {f26 : Addr} {od26 an26 : Option Addr} {sl26 : Array (Option Value)} {oc26 kV26 dc26 pm26 cd26 ct26 : Value}
    {f27 : Addr} {od27 an27 : Option Addr} {sl27 : Array (Option Value)} {oc27 kV27 dc27 pm27 cd27 ct27 : Value}
    {f28 : Addr} {od28 an28 : Option Addr} {sl28 : Array (Option Value)} {oc28 kV28 dc28 pm28 cd28 ct28 : Value}
    {fI : Addr} {odI anI : Option Addr} {slI : Array (Option Value)} {ocI kVI dcI pmI cdI ctI : Value}
    {p1 : Addr} {rest1 : List Value}
    {fP1 : Addr} {odP1 anP1 : Option Addr} {slP1 : Array (Option Value)} {ocP1 kVP1 dcP1 pmP1 cdP1 ctP1 : Value}
    {p2 : Addr} {rest2 : List Value}
    {fP2 : Addr} {odP2 anP2 : Option Addr} {slP2 : Array (Option Value)} {ocP2 kVP2 dcP2 pmP2 cdP2 ctP2 : Value}
    {p3 : Addr} {rest3 : List Value}
    {fP3 : Addr} {odP3 anP3 : Option Addr} {slP3 : Array (Option Value)} {ocP3 kVP3 dcP3 pmP3 cdP3 ctP3 : Value}
    {p4 : Addr} {rest4 : List Value}
    {fP4 : Addr} {odP4 anP4 : Option Addr} {slP4 : Array (Option Value)} {ocP4 kVP4 dcP4 pmP4 cdP4 ctP4 : Value}
    {p5 : Addr} {rest5 : List Value}
    {fP5 : Addr} {odP5 anP5 : Option Addr} {slP5 : Array (Option Value)} {ocP5 kVP5 dcP5 pmP5 cdP5 ctP5 : Value}
    {u_ms : Value}
    {u_mz : Value}
    {u_mw : Value}
    {u_al : Value}
    (X : K.In h) (G : h.Ns mainGlobals mg) (hfa : mg "law" = some (.ref fa))
    (aC : PySem.W.nsIn K mainGlobals "Weigher" = some (some (.ref C)))
    (a0 : PySem.W.nsIn K mainGlobals "is_number" = some (some (.ref f0)))
    (l0 : K.lookup f0 = some ⟨oc0, od0, .func (PySem.W.fnOf "is_number" "is_number" (defArgs sIsNumber) (defBody sIsNumber) (defScope sIsNumber) .none kV0 dc0 pm0 an0 cd0 ct0), sl0⟩)
    (c0 : PySem.W.codeIn K cd0 "is_number" = true)
    (k0 : PySem.W.keepIn K (.ref f0) = true)
    (a1 : PySem.W.nsIn K mainGlobals "is_signs" = some (some (.ref f1)))
    (l1 : K.lookup f1 = some ⟨oc1, od1, .func (PySem.W.fnOf "is_signs" "is_signs" (defArgs sIsSigns) (defBody sIsSigns) (defScope sIsSigns) .none kV1 dc1 pm1 an1 cd1 ct1), sl1⟩)
    (c1 : PySem.W.codeIn K cd1 "is_signs" = true)
    (k1 : PySem.W.keepIn K (.ref f1) = true)
    (a2 : PySem.W.nsIn K mainGlobals "check_signs" = some (some (.ref f2)))
    (l2 : K.lookup f2 = some ⟨oc2, od2, .func (PySem.W.fnOf "check_signs" "check_signs" (defArgs sCheckSigns) (defBody sCheckSigns) (defScope sCheckSigns) .none kV2 dc2 pm2 an2 cd2 ct2), sl2⟩)
    (c2 : PySem.W.codeIn K cd2 "check_signs" = true)
    (k2 : PySem.W.keepIn K (.ref f2) = true)
    (a3 : PySem.W.nsIn K mainGlobals "shared" = some (some (.ref f3)))
    (l3 : K.lookup f3 = some ⟨oc3, od3, .func (PySem.W.fnOf "shared" "shared" (defArgs sShared) (defBody sShared) (defScope sShared) .none kV3 dc3 pm3 an3 cd3 ct3), sl3⟩)
    (c3 : PySem.W.codeIn K cd3 "shared" = true)
    (k3 : PySem.W.keepIn K (.ref f3) = true)
    (a4 : PySem.W.nsIn K mainGlobals "reduced" = some (some (.ref f4)))
    (l4 : K.lookup f4 = some ⟨oc4, od4, .func (PySem.W.fnOf "reduced" "reduced" (defArgs sReduced) (defBody sReduced) (defScope sReduced) .none kV4 dc4 pm4 an4 cd4 ct4), sl4⟩)
    (c4 : PySem.W.codeIn K cd4 "reduced" = true)
    (k4 : PySem.W.keepIn K (.ref f4) = true)
    (a5 : PySem.W.nsIn K mainGlobals "shared_by" = some (some (.ref f5)))
    (l5 : K.lookup f5 = some ⟨oc5, od5, .func (PySem.W.fnOf "shared_by" "shared_by" (defArgs sSharedBy) (defBody sSharedBy) (defScope sSharedBy) .none kV5 dc5 pm5 an5 cd5 ct5), sl5⟩)
    (c5 : PySem.W.codeIn K cd5 "shared_by" = true)
    (k5 : PySem.W.keepIn K (.ref f5) = true)
    (a6 : PySem.W.nsIn K mainGlobals "joined" = some (some (.ref f6)))
    (l6 : K.lookup f6 = some ⟨oc6, od6, .func (PySem.W.fnOf "joined" "joined" (defArgs sJoined) (defBody sJoined) (defScope sJoined) .none kV6 dc6 pm6 an6 cd6 ct6), sl6⟩)
    (c6 : PySem.W.codeIn K cd6 "joined" = true)
    (k6 : PySem.W.keepIn K (.ref f6) = true)
    (a7 : PySem.W.nsIn K mainGlobals "is_weights" = some (some (.ref f7)))
    (l7 : K.lookup f7 = some ⟨oc7, od7, .func (PySem.W.fnOf "is_weights" "is_weights" (defArgs sIsWeights) (defBody sIsWeights) (defScope sIsWeights) .none kV7 dc7 pm7 an7 cd7 ct7), sl7⟩)
    (c7 : PySem.W.codeIn K cd7 "is_weights" = true)
    (k7 : PySem.W.keepIn K (.ref f7) = true)
    (a8 : PySem.W.nsIn K mainGlobals "is_weight_table" = some (some (.ref f8)))
    (l8 : K.lookup f8 = some ⟨oc8, od8, .func (PySem.W.fnOf "is_weight_table" "is_weight_table" (defArgs sIsTable) (defBody sIsTable) (defScope sIsTable) .none kV8 dc8 pm8 an8 cd8 ct8), sl8⟩)
    (c8 : PySem.W.codeIn K cd8 "is_weight_table" = true)
    (k8 : PySem.W.keepIn K (.ref f8) = true)
    (a9 : PySem.W.nsIn K mainGlobals "check_weigher" = some (some (.ref f9)))
    (l9 : K.lookup f9 = some ⟨oc9, od9, .func (PySem.W.fnOf "check_weigher" "check_weigher" (defArgs sCheckWeigher) (defBody sCheckWeigher) (defScope sCheckWeigher) .none kV9 dc9 pm9 an9 cd9 ct9), sl9⟩)
    (c9 : PySem.W.codeIn K cd9 "check_weigher" = true)
    (k9 : PySem.W.keepIn K (.ref f9) = true)
    (a10 : PySem.W.nsIn K mainGlobals "check_weighers" = some (some (.ref f10)))
    (l10 : K.lookup f10 = some ⟨oc10, od10, .func (PySem.W.fnOf "check_weighers" "check_weighers" (defArgs sCheckWeighers) (defBody sCheckWeighers) (defScope sCheckWeighers) .none kV10 dc10 pm10 an10 cd10 ct10), sl10⟩)
    (c10 : PySem.W.codeIn K cd10 "check_weighers" = true)
    (k10 : PySem.W.keepIn K (.ref f10) = true)
    (a11 : PySem.W.nsIn K mainGlobals "moved" = some (some (.ref f11)))
    (l11 : K.lookup f11 = some ⟨oc11, od11, .func (PySem.W.fnOf "moved" "moved" (defArgs sMoved) (defBody sMoved) (defScope sMoved) .none kV11 dc11 pm11 an11 cd11 ct11), sl11⟩)
    (c11 : PySem.W.codeIn K cd11 "moved" = true)
    (k11 : PySem.W.keepIn K (.ref f11) = true)
    (a12 : PySem.W.nsIn K mainGlobals "weighed" = some (some (.ref f12)))
    (l12 : K.lookup f12 = some ⟨oc12, od12, .func (PySem.W.fnOf "weighed" "weighed" (defArgs sWeighed) (defBody sWeighed) (defScope sWeighed) .none kV12 dc12 pm12 an12 cd12 ct12), sl12⟩)
    (c12 : PySem.W.codeIn K cd12 "weighed" = true)
    (k12 : PySem.W.keepIn K (.ref f12) = true)
    (a13 : PySem.W.nsIn K mainGlobals "apart" = some (some (.ref f13)))
    (l13 : K.lookup f13 = some ⟨oc13, od13, .func (PySem.W.fnOf "apart" "apart" (defArgs sApart) (defBody sApart) (defScope sApart) .none kV13 dc13 pm13 an13 cd13 ct13), sl13⟩)
    (c13 : PySem.W.codeIn K cd13 "apart" = true)
    (k13 : PySem.W.keepIn K (.ref f13) = true)
    (a14 : PySem.W.nsIn K mainGlobals "same_values" = some (some (.ref f14)))
    (l14 : K.lookup f14 = some ⟨oc14, od14, .func (PySem.W.fnOf "same_values" "same_values" (defArgs sSame) (defBody sSame) (defScope sSame) .none kV14 dc14 pm14 an14 cd14 ct14), sl14⟩)
    (c14 : PySem.W.codeIn K cd14 "same_values" = true)
    (k14 : PySem.W.keepIn K (.ref f14) = true)
    (a15 : PySem.W.nsIn K mainGlobals "first_unlike" = some (some (.ref f15)))
    (l15 : K.lookup f15 = some ⟨oc15, od15, .func (PySem.W.fnOf "first_unlike" "first_unlike" (defArgs sFirst) (defBody sFirst) (defScope sFirst) .none kV15 dc15 pm15 an15 cd15 ct15), sl15⟩)
    (c15 : PySem.W.codeIn K cd15 "first_unlike" = true)
    (k15 : PySem.W.keepIn K (.ref f15) = true)
    (a16 : PySem.W.nsIn K mainGlobals "_law_flask" = some (some (.ref f16)))
    (l16 : K.lookup f16 = some ⟨oc16, od16, .func (PySem.W.fnOf "_law_flask" "_law_flask" (defArgs sFlask) (defBody sFlask) (defScope sFlask) .none kV16 dc16 pm16 an16 cd16 ct16), sl16⟩)
    (c16 : PySem.W.codeIn K cd16 "_law_flask" = true)
    (k16 : PySem.W.keepIn K (.ref f16) = true)
    (a17 : PySem.W.nsIn K mainGlobals "_law_pour" = some (some (.ref f17)))
    (l17 : K.lookup f17 = some ⟨oc17, od17, .func (PySem.W.fnOf "_law_pour" "_law_pour" (defArgs sPour) (defBody sPour) (defScope sPour) .none kV17 dc17 pm17 an17 cd17 ct17), sl17⟩)
    (c17 : PySem.W.codeIn K cd17 "_law_pour" = true)
    (k17 : PySem.W.keepIn K (.ref f17) = true)
    (a18 : PySem.W.nsIn K mainGlobals "_law_pick" = some (some (.ref f18)))
    (l18 : K.lookup f18 = some ⟨oc18, od18, .func (PySem.W.fnOf "_law_pick" "_law_pick" (defArgs sPick) (defBody sPick) (defScope sPick) .none kV18 dc18 pm18 an18 cd18 ct18), sl18⟩)
    (c18 : PySem.W.codeIn K cd18 "_law_pick" = true)
    (k18 : PySem.W.keepIn K (.ref f18) = true)
    (a19 : PySem.W.nsIn K mainGlobals "_law_parts" = some (some (.ref f19)))
    (l19 : K.lookup f19 = some ⟨oc19, od19, .func (PySem.W.fnOf "_law_parts" "_law_parts" (defArgs sParts) (defBody sParts) (defScope sParts) .none kV19 dc19 pm19 an19 cd19 ct19), sl19⟩)
    (c19 : PySem.W.codeIn K cd19 "_law_parts" = true)
    (k19 : PySem.W.keepIn K (.ref f19) = true)
    (a20 : PySem.W.nsIn K mainGlobals "_law_value" = some (some (.ref f20)))
    (l20 : K.lookup f20 = some ⟨oc20, od20, .func (PySem.W.fnOf "_law_value" "_law_value" (defArgs sValue) (defBody sValue) (defScope sValue) .none kV20 dc20 pm20 an20 cd20 ct20), sl20⟩)
    (c20 : PySem.W.codeIn K cd20 "_law_value" = true)
    (k20 : PySem.W.keepIn K (.ref f20) = true)
    (a21 : PySem.W.nsIn K mainGlobals "_law_made" = some (some (.ref f21)))
    (l21 : K.lookup f21 = some ⟨oc21, od21, .func (PySem.W.fnOf "_law_made" "_law_made" (defArgs sMade) (defBody sMade) (defScope sMade) .none kV21 dc21 pm21 an21 cd21 ct21), sl21⟩)
    (c21 : PySem.W.codeIn K cd21 "_law_made" = true)
    (k21 : PySem.W.keepIn K (.ref f21) = true)
    (a22 : PySem.W.nsIn K mainGlobals "_law_words" = some (some (.ref f22)))
    (l22 : K.lookup f22 = some ⟨oc22, od22, .func (PySem.W.fnOf "_law_words" "_law_words" (defArgs sWords) (defBody sWords) (defScope sWords) .none kV22 dc22 pm22 an22 cd22 ct22), sl22⟩)
    (c22 : PySem.W.codeIn K cd22 "_law_words" = true)
    (k22 : PySem.W.keepIn K (.ref f22) = true)
    (a23 : PySem.W.nsIn K mainGlobals "_law_turned" = some (some (.ref f23)))
    (l23 : K.lookup f23 = some ⟨oc23, od23, .func (PySem.W.fnOf "_law_turned" "_law_turned" (defArgs sTurned) (defBody sTurned) (defScope sTurned) .none kV23 dc23 pm23 an23 cd23 ct23), sl23⟩)
    (c23 : PySem.W.codeIn K cd23 "_law_turned" = true)
    (k23 : PySem.W.keepIn K (.ref f23) = true)
    (a24 : PySem.W.nsIn K mainGlobals "_law_shared" = some (some (.ref f24)))
    (l24 : K.lookup f24 = some ⟨oc24, od24, .func (PySem.W.fnOf "_law_shared" "_law_shared" (defArgs sShareD) (defBody sShareD) (defScope sShareD) .none kV24 dc24 pm24 an24 cd24 ct24), sl24⟩)
    (c24 : PySem.W.codeIn K cd24 "_law_shared" = true)
    (k24 : PySem.W.keepIn K (.ref f24) = true)
    (a25 : PySem.W.nsIn K mainGlobals "_law_bent" = some (some (.ref f25)))
    (l25 : K.lookup f25 = some ⟨oc25, od25, .func (PySem.W.fnOf "_law_bent" "_law_bent" (defArgs sBent) (defBody sBent) (defScope sBent) .none kV25 dc25 pm25 an25 cd25 ct25), sl25⟩)
    (c25 : PySem.W.codeIn K cd25 "_law_bent" = true)
    (k25 : PySem.W.keepIn K (.ref f25) = true)
    (a26 : PySem.W.nsIn K mainGlobals "_law_known_right" = some (some (.ref f26)))
    (l26 : K.lookup f26 = some ⟨oc26, od26, .func (PySem.W.fnOf "_law_known_right" "_law_known_right" (defArgs sKnown) (defBody sKnown) (defScope sKnown) .none kV26 dc26 pm26 an26 cd26 ct26), sl26⟩)
    (c26 : PySem.W.codeIn K cd26 "_law_known_right" = true)
    (k26 : PySem.W.keepIn K (.ref f26) = true)
    (a27 : PySem.W.nsIn K mainGlobals "_law_right" = some (some (.ref f27)))
    (l27 : K.lookup f27 = some ⟨oc27, od27, .func (PySem.W.fnOf "_law_right" "_law_right" (defArgs sRight) (defBody sRight) (defScope sRight) .none kV27 dc27 pm27 an27 cd27 ct27), sl27⟩)
    (c27 : PySem.W.codeIn K cd27 "_law_right" = true)
    (k27 : PySem.W.keepIn K (.ref f27) = true)
    (a28 : PySem.W.nsIn K mainGlobals "law" = some (some (.ref f28)))
    (l28 : K.lookup f28 = some ⟨oc28, od28, .func (PySem.W.fnOf "law" "law" (defArgs sLaw) (defBody sLaw) (defScope sLaw) .none kV28 dc28 pm28 an28 cd28 ct28), sl28⟩)
    (c28 : PySem.W.codeIn K cd28 "law" = true)
    (k28 : PySem.W.keepIn K (.ref f28) = true)
    (aI : PySem.W.findIn K (.ref C) "__init__" = some (some (.ref fI)))
    (lI : K.lookup fI = some ⟨ocI, odI, .func (PySem.W.fnOf "__init__" "Weigher.__init__" (defArgs sInit) (defBody sInit) (defScope sInit) .none kVI dcI pmI anI cdI ctI), slI⟩)
    (cI : PySem.W.codeIn K cdI "Weigher.__init__" = true)
    (kI : PySem.W.keepIn K (.ref fI) = true)
    (iI : PySem.W.isFn K (.ref fI) = true)
    (at1 : PySem.W.findIn K (.ref C) "signs" = some (some (.ref p1)))
    (ge1 : PySem.W.specialIn K (.ref p1) "__get__" = some (some (.builtin "property.__get__")))
    (ta1 : PySem.W.takesIn K (.ref p1) = some true)
    (re1 : PySem.W.recIn K p1 "property" = some (.ref fP1 :: rest1))
    (lP1 : K.lookup fP1 = some ⟨ocP1, odP1, .func (PySem.W.fnOf "signs" "Weigher.signs" (defArgs (sGet 1)) (defBody (sGet 1)) (defScope (sGet 1)) .none kVP1 dcP1 pmP1 anP1 cdP1 ctP1), slP1⟩)
    (cP1 : PySem.W.codeIn K cdP1 "Weigher.signs" = true)
    (kP1 : PySem.W.keepIn K (.ref fP1) = true)
    (at2 : PySem.W.findIn K (.ref C) "size" = some (some (.ref p2)))
    (ge2 : PySem.W.specialIn K (.ref p2) "__get__" = some (some (.builtin "property.__get__")))
    (ta2 : PySem.W.takesIn K (.ref p2) = some true)
    (re2 : PySem.W.recIn K p2 "property" = some (.ref fP2 :: rest2))
    (lP2 : K.lookup fP2 = some ⟨ocP2, odP2, .func (PySem.W.fnOf "size" "Weigher.size" (defArgs (sGet 2)) (defBody (sGet 2)) (defScope (sGet 2)) .none kVP2 dcP2 pmP2 anP2 cdP2 ctP2), slP2⟩)
    (cP2 : PySem.W.codeIn K cdP2 "Weigher.size" = true)
    (kP2 : PySem.W.keepIn K (.ref fP2) = true)
    (at3 : PySem.W.findIn K (.ref C) "begins" = some (some (.ref p3)))
    (ge3 : PySem.W.specialIn K (.ref p3) "__get__" = some (some (.builtin "property.__get__")))
    (ta3 : PySem.W.takesIn K (.ref p3) = some true)
    (re3 : PySem.W.recIn K p3 "property" = some (.ref fP3 :: rest3))
    (lP3 : K.lookup fP3 = some ⟨ocP3, odP3, .func (PySem.W.fnOf "begins" "Weigher.begins" (defArgs (sGet 3)) (defBody (sGet 3)) (defScope (sGet 3)) .none kVP3 dcP3 pmP3 anP3 cdP3 ctP3), slP3⟩)
    (cP3 : PySem.W.codeIn K cdP3 "Weigher.begins" = true)
    (kP3 : PySem.W.keepIn K (.ref fP3) = true)
    (at4 : PySem.W.findIn K (.ref C) "tables" = some (some (.ref p4)))
    (ge4 : PySem.W.specialIn K (.ref p4) "__get__" = some (some (.builtin "property.__get__")))
    (ta4 : PySem.W.takesIn K (.ref p4) = some true)
    (re4 : PySem.W.recIn K p4 "property" = some (.ref fP4 :: rest4))
    (lP4 : K.lookup fP4 = some ⟨ocP4, odP4, .func (PySem.W.fnOf "tables" "Weigher.tables" (defArgs (sGet 4)) (defBody (sGet 4)) (defScope (sGet 4)) .none kVP4 dcP4 pmP4 anP4 cdP4 ctP4), slP4⟩)
    (cP4 : PySem.W.codeIn K cdP4 "Weigher.tables" = true)
    (kP4 : PySem.W.keepIn K (.ref fP4) = true)
    (at5 : PySem.W.findIn K (.ref C) "goals" = some (some (.ref p5)))
    (ge5 : PySem.W.specialIn K (.ref p5) "__get__" = some (some (.builtin "property.__get__")))
    (ta5 : PySem.W.takesIn K (.ref p5) = some true)
    (re5 : PySem.W.recIn K p5 "property" = some (.ref fP5 :: rest5))
    (lP5 : K.lookup fP5 = some ⟨ocP5, odP5, .func (PySem.W.fnOf "goals" "Weigher.goals" (defArgs (sGet 5)) (defBody (sGet 5)) (defScope (sGet 5)) .none kVP5 dcP5 pmP5 anP5 cdP5 ctP5), slP5⟩)
    (cP5 : PySem.W.codeIn K cdP5 "Weigher.goals" = true)
    (kP5 : PySem.W.keepIn K (.ref fP5) = true)
    (pgC : PySem.W.plainGet K C Str.empty = true)
    (hdC : PySem.W.hasDictIn K C = true)
    (poC : PySem.W.plainOver K C = true)
    (saC : PySem.W.findIn K (.ref C) "__setattr__" = some (some (.builtin "object.__setattr__")))
    (mkC : PySem.W.makesIn K C = true)
    (kcC : PySem.W.keepIn K (.ref C) = true)
    (naC : PySem.W.findIn K (.ref C) "parts" = some none)
    (haC : PySem.W.findIn K (.ref C) "__class__" = some (some (.builtin "object.__class__")))
    (hnC : PySem.W.specialIn K (.builtin "object.__class__") "__get__" = some (some (.builtin "getset_descriptor.__get__")))
    (htC : PySem.W.takesIn K (.builtin "object.__class__") = some true)
    (hmC : PySem.W.mroIn K C (.type "object") = some true)
    (b_abs : PySem.W.nsIn K mainGlobals "abs" = some none)
    (b_all : PySem.W.nsIn K mainGlobals "all" = some none)
    (b_bool : PySem.W.nsIn K mainGlobals "bool" = some none)
    (b_divmod : PySem.W.nsIn K mainGlobals "divmod" = some none)
    (b_enum : PySem.W.nsIn K mainGlobals "enumerate" = some none)
    (b_int : PySem.W.nsIn K mainGlobals "int" = some none)
    (b_isin : PySem.W.nsIn K mainGlobals "isinstance" = some none)
    (b_len : PySem.W.nsIn K mainGlobals "len" = some none)
    (b_list : PySem.W.nsIn K mainGlobals "list" = some none)
    (b_max : PySem.W.nsIn K mainGlobals "max" = some none)
    (b_min : PySem.W.nsIn K mainGlobals "min" = some none)
    (b_range : PySem.W.nsIn K mainGlobals "range" = some none)
    (b_sum : PySem.W.nsIn K mainGlobals "sum" = some none)
    (b_tuple : PySem.W.nsIn K mainGlobals "tuple" = some none)
    (b_zip : PySem.W.nsIn K mainGlobals "zip" = some none)
    (g_ms : PySem.W.nsIn K mainGlobals "MOST_SIGNS" = some (some u_ms))
    (r_ms : RelV (.int 8) u_ms)
    (g_mz : PySem.W.nsIn K mainGlobals "MOST_SIZE" = some (some u_mz))
    (r_mz : RelV (.int 6) u_mz)
    (g_mw : PySem.W.nsIn K mainGlobals "MOST_WEIGHT" = some (some u_mw))
    (r_mw : RelV (.int 1000) u_mw)
    (g_al : PySem.W.nsIn K mainGlobals "ALPHABET" = some (some u_al))
    (r_al : RelV (.str "abcdefgh") u_al)
    : ∃ fd : FuncData, (∀ (s : Shared) (v : Value), BindsTo s fd ⟨[v], []⟩ [("script", v)]) ∧ ∀ base : Heap, K.In base → base.Ns mainGlobals mg → FnOk l.prog w K mg base CX0 9 fa fd ["script"] (spOf K cLaw) := by
  have e := hfa.symm.trans (PySem.W.mg_of X G a28)
  cases e
  have F0 := fun_mk (st := sIsNumber) l0 c0 k0
  have b0 := F0.binds (ps := ["value", "low", "high"]) fun _ _ _ _ _ _ us hl => match us, hl with | [_, _, _], _ => rfl
  have m0 := PySem.W.mg_of X G a0
  have F1 := fun_mk (st := sIsSigns) l1 c1 k1
  have b1 := F1.binds (ps := ["value"]) fun _ _ _ _ _ _ us hl => match us, hl with | [_], _ => rfl
  have m1 := PySem.W.mg_of X G a1
  have F2 := fun_mk (st := sCheckSigns) l2 c2 k2
  have b2 := F2.binds (ps := ["signs"]) fun _ _ _ _ _ _ us hl => match us, hl with | [_], _ => rfl
  have m2 := PySem.W.mg_of X G a2
  have F3 := fun_mk (st := sShared) l3 c3 k3
  have b3 := F3.binds (ps := ["one", "two"]) fun _ _ _ _ _ _ us hl => match us, hl with | [_, _], _ => rfl
  have m3 := PySem.W.mg_of X G a3
  have F4 := fun_mk (st := sReduced) l4 c4 k4
  have b4 := F4.binds (ps := ["row", "basis"]) fun _ _ _ _ _ _ us hl => match us, hl with | [_, _], _ => rfl
  have m4 := PySem.W.mg_of X G a4
  have F5 := fun_mk (st := sSharedBy) l5 c5 k5
  have b5 := F5.binds (ps := ["row"]) fun _ _ _ _ _ _ us hl => match us, hl with | [_], _ => rfl
  have m5 := PySem.W.mg_of X G a5
  have F6 := fun_mk (st := sJoined) l6 c6 k6
  have b6 := F6.binds (ps := ["row", "basis"]) fun _ _ _ _ _ _ us hl => match us, hl with | [_, _], _ => rfl
  have m6 := PySem.W.mg_of X G a6
  have F7 := fun_mk (st := sIsWeights) l7 c7 k7
  have b7 := F7.binds (ps := ["value", "size"]) fun _ _ _ _ _ _ us hl => match us, hl with | [_, _], _ => rfl
  have m7 := PySem.W.mg_of X G a7
  have F8 := fun_mk (st := sIsTable) l8 c8 k8
  have b8 := F8.binds (ps := ["value", "size"]) fun _ _ _ _ _ _ us hl => match us, hl with | [_, _], _ => rfl
  have m8 := PySem.W.mg_of X G a8
  have F9 := fun_mk (st := sCheckWeigher) l9 c9 k9
  have b9 := F9.binds (ps := ["value"]) fun _ _ _ _ _ _ us hl => match us, hl with | [_], _ => rfl
  have m9 := PySem.W.mg_of X G a9
  have F10 := fun_mk (st := sCheckWeighers) l10 c10 k10
  have b10 := F10.binds (ps := ["one", "two"]) fun _ _ _ _ _ _ us hl => match us, hl with | [_, _], _ => rfl
  have m10 := PySem.W.mg_of X G a10
  have F11 := fun_mk (st := sMoved) l11 c11 k11
  have b11 := F11.binds (ps := ["numbers", "table"]) fun _ _ _ _ _ _ us hl => match us, hl with | [_, _], _ => rfl
  have m11 := PySem.W.mg_of X G a11
  have F12 := fun_mk (st := sWeighed) l12 c12 k12
  have b12 := F12.binds (ps := ["numbers", "goals"]) fun _ _ _ _ _ _ us hl => match us, hl with | [_, _], _ => rfl
  have m12 := PySem.W.mg_of X G a12
  have F13 := fun_mk (st := sApart) l13 c13 k13
  have b13 := F13.binds (ps := ["one", "two"]) fun _ _ _ _ _ _ us hl => match us, hl with | [_, _], _ => rfl
  have m13 := PySem.W.mg_of X G a13
  have F14 := fun_mk (st := sSame) l14 c14 k14
  have b14 := F14.binds (ps := ["weigher", "other"]) fun _ _ _ _ _ _ us hl => match us, hl with | [_, _], _ => rfl
  have m14 := PySem.W.mg_of X G a14
  have F15 := fun_mk (st := sFirst) l15 c15 k15
  have b15 := F15.binds (ps := ["weigher", "other"]) fun _ _ _ _ _ _ us hl => match us, hl with | [_, _], _ => rfl
  have m15 := PySem.W.mg_of X G a15
  have F16 := fun_mk (st := sFlask) l16 c16 k16
  have b16 := F16.binds (ps := ["script", "k"]) fun _ _ _ _ _ _ us hl => match us, hl with | [_, _], _ => rfl
  have m16 := PySem.W.mg_of X G a16
  have F17 := fun_mk (st := sPour) l17 c17 k17
  have b17 := F17.binds (ps := ["flask", "top"]) fun _ _ _ _ _ _ us hl => match us, hl with | [_, _], _ => rfl
  have m17 := PySem.W.mg_of X G a17
  have F18 := fun_mk (st := sPick) l18 c18 k18
  have b18 := F18.binds (ps := ["flask", "some"]) fun _ _ _ _ _ _ us hl => match us, hl with | [_, _], _ => rfl
  have m18 := PySem.W.mg_of X G a18
  have F19 := fun_mk (st := sParts) l19 c19 k19
  have b19 := F19.binds (ps := ["flask", "signs", "most"]) fun _ _ _ _ _ _ us hl => match us, hl with | [_, _, _], _ => rfl
  have m19 := PySem.W.mg_of X G a19
  have F20 := fun_mk (st := sValue) l20 c20 k20
  have b20 := F20.binds (ps := ["parts_here", "row"]) fun _ _ _ _ _ _ us hl => match us, hl with | [_, _], _ => rfl
  have m20 := PySem.W.mg_of X G a20
  have F21 := fun_mk (st := sMade) l21 c21 k21
  have b21 := F21.binds (ps := ["signs", "parts_here"]) fun _ _ _ _ _ _ us hl => match us, hl with | [_, _], _ => rfl
  have m21 := PySem.W.mg_of X G a21
  have F22 := fun_mk (st := sWords) l22 c22 k22
  have b22 := F22.binds (ps := ["signs", "most"]) fun _ _ _ _ _ _ us hl => match us, hl with | [_, _], _ => rfl
  have m22 := PySem.W.mg_of X G a22
  have F23 := fun_mk (st := sTurned) l23 c23 k23
  have b23 := F23.binds (ps := ["flask", "parts_here"]) fun _ _ _ _ _ _ us hl => match us, hl with | [_, _], _ => rfl
  have m23 := PySem.W.mg_of X G a23
  have F24 := fun_mk (st := sShareD) l24 c24 k24
  have b24 := F24.binds (ps := ["flask", "parts_here"]) fun _ _ _ _ _ _ us hl => match us, hl with | [_, _], _ => rfl
  have m24 := PySem.W.mg_of X G a24
  have F25 := fun_mk (st := sBent) l25 c25 k25
  have b25 := F25.binds (ps := ["flask", "parts_here"]) fun _ _ _ _ _ _ us hl => match us, hl with | [_, _], _ => rfl
  have m25 := PySem.W.mg_of X G a25
  have F26 := fun_mk (st := sKnown) l26 c26 k26
  have b26 := F26.binds (ps := []) fun _ _ _ _ _ _ us hl => match us, hl with | [], _ => rfl
  have m26 := PySem.W.mg_of X G a26
  have F27 := fun_mk (st := sRight) l27 c27 k27
  have b27 := F27.binds (ps := ["flask"]) fun _ _ _ _ _ _ us hl => match us, hl with | [_], _ => rfl
  have m27 := PySem.W.mg_of X G a27
  have F28 := fun_mk (st := sLaw) l28 c28 k28
  have FI := fun_mk (st := sInit) lI cI kI
  have bI := FI.binds (ps := ["self", "signs", "begins", "tables", "goals"]) fun _ _ _ _ _ _ us hl => match us, hl with | [_, _, _, _, _], _ => rfl
  have FP1 := fun_mk (st := sGet 1) lP1 cP1 kP1
  have bP1 := FP1.binds (ps := ["self"]) fun _ _ _ _ _ _ us hl => match us, hl with | [_], _ => rfl
  have FP2 := fun_mk (st := sGet 2) lP2 cP2 kP2
  have bP2 := FP2.binds (ps := ["self"]) fun _ _ _ _ _ _ us hl => match us, hl with | [_], _ => rfl
  have FP3 := fun_mk (st := sGet 3) lP3 cP3 kP3
  have bP3 := FP3.binds (ps := ["self"]) fun _ _ _ _ _ _ us hl => match us, hl with | [_], _ => rfl
  have FP4 := fun_mk (st := sGet 4) lP4 cP4 kP4
  have bP4 := FP4.binds (ps := ["self"]) fun _ _ _ _ _ _ us hl => match us, hl with | [_], _ => rfl
  have FP5 := fun_mk (st := sGet 5) lP5 cP5 kP5
  have bP5 := FP5.binds (ps := ["self"]) fun _ _ _ _ _ _ us hl => match us, hl with | [_], _ => rfl
  have L : Bl mg := ⟨PySem.W.mg_none_of X G b_abs, PySem.W.mg_none_of X G b_all, PySem.W.mg_none_of X G b_bool, PySem.W.mg_none_of X G b_divmod, PySem.W.mg_none_of X G b_enum, PySem.W.mg_none_of X G b_int, PySem.W.mg_none_of X G b_isin, PySem.W.mg_none_of X G b_len, PySem.W.mg_none_of X G b_list, PySem.W.mg_none_of X G b_max, PySem.W.mg_none_of X G b_min, PySem.W.mg_none_of X G b_range, PySem.W.mg_none_of X G b_sum, PySem.W.mg_none_of X G b_tuple, PySem.W.mg_none_of X G b_zip⟩
  have Gc : Gs mg := ⟨⟨_, PySem.W.mg_of X G g_ms, r_ms⟩, ⟨_, PySem.W.mg_of X G g_mz, r_mz⟩, ⟨_, PySem.W.mg_of X G g_mw, r_mw⟩, ⟨_, PySem.W.mg_of X G g_al, r_al⟩⟩
  have cl : Cls K C := ⟨pgC, hdC, poC, saC⟩
  have Wc : WC K mg C := ⟨cl, naC, ⟨cl, haC, hnC, htC, hmC, (by unfold PySem.W.kitOne; simp)⟩, PySem.W.mg_of X G aC⟩
  have mk : Mk K C fI := ⟨mkC, aI, iI, kcC⟩
  refine ⟨PySem.W.fnOf "law" "law" (defArgs sLaw) (defBody sLaw) (defScope sLaw) .none kV28 dc28 pm28 an28 cd28 ct28, fun s v => .of_eq rfl, fun base _ _ => ?_⟩
  have Hn := ok_isNumber (P := l.prog) (w := w) (base := base) F0 m0 b0 L
  have Hs := ok_isSigns F1 m1 b1 L Gc Hn
  have Hcs := ok_checkSigns F2 m2 b2 Hs
  have Hsh := ok_shared (P := l.prog) (w := w) (base := base) F3 m3 b3 L
  have Hsb := ok_sharedBy F5 m5 b5 L Hsh
  have Hre := ok_reduced F4 m4 b4 L Hsb
  have Hjo := ok_joined F6 m6 b6 L Hre
  have Hiw := ok_isWeights F7 m7 b7 L Gc Hn
  have Hit := ok_isTable F8 m8 b8 L Hiw
  have Hin := ok_init FI bI L Gc Wc mk Hcs Hiw Hit
  have Hp1 := ok_get (P := l.prog) (w := w) (base := base) (g := gSigns) FP1 scGet1 bP1 Wc ⟨at1, ge1, ta1, _, re1⟩ (fun X B s W Pq q => body_signs B Wc s W Pq q)
  have Hp2 := ok_get (P := l.prog) (w := w) (base := base) (g := gSize) FP2 scGet2 bP2 Wc ⟨at2, ge2, ta2, _, re2⟩ (fun X B s W Pq q => body_size B L Wc s W Pq q)
  have Hp3 := ok_get (P := l.prog) (w := w) (base := base) (g := gBegins) FP3 scGet3 bP3 Wc ⟨at3, ge3, ta3, _, re3⟩ (fun X B s W Pq q => body_begins B Wc s W Pq q)
  have Hp4 := ok_get (P := l.prog) (w := w) (base := base) (g := gTables) FP4 scGet4 bP4 Wc ⟨at4, ge4, ta4, _, re4⟩ (fun X B s W Pq q => body_tables B Wc s W Pq q)
  have Hp5 := ok_get (P := l.prog) (w := w) (base := base) (g := gGoals) FP5 scGet5 bP5 Wc ⟨at5, ge5, ta5, _, re5⟩ (fun X B s W Pq q => body_goals B Wc s W Pq q)
  have Pr := (⟨Hp1, Hp2, Hp3, Hp4, Hp5⟩ : Props l.prog w K mg base C)
  have Hcw := ok_checkWeigher (P := l.prog) (w := w) (base := base) F9 m9 b9 L Wc
  have Hcws := ok_checkWeighers F10 m10 b10 Pr Hcw
  have Hmo := ok_moved (P := l.prog) (w := w) (base := base) F11 m11 b11 L
  have Hwe := ok_weighed (P := l.prog) (w := w) (base := base) F12 m12 b12 L
  have Hap := ok_apart F13 m13 b13 L Gc Pr Hwe Hmo Hjo
  have Hsv := ok_same F14 m14 b14 Hcws Hap
  have Hfu := ok_first F15 m15 b15 Hcws Hap
  have Hfl := ok_flask (P := l.prog) (w := w) (base := base) F16 m16 b16 L
  have Hpo := ok_pour (P := l.prog) (w := w) (base := base) F17 m17 b17 L
  have Hpi := ok_pick F18 m18 b18 L Hpo
  have Hpa := ok_parts F19 m19 b19 L Hpo Hpi
  have Hva := ok_value (P := l.prog) (w := w) (base := base) F20 m20 b20 L
  have Hma := ok_made F21 m21 b21 Hin
  have Hwo := ok_words (P := l.prog) (w := w) (base := base) F22 m22 b22 L
  have Htu := ok_turned F23 m23 b23 L Hpo Hpi
  have Hsr := ok_share F24 m24 b24 L Hpo Hpi
  have Hbe := ok_bent F25 m25 b25 L Hpo Hpi
  have Hkn := ok_known F26 m26 b26 Hin Hfu.1 Hsv.1
  have Hri := ok_right F27 m27 b27 L Hkn Hpo Hpi Hpa Htu Hsr Hbe Hma Hwo Hva Hfu.1 Hfu.2 Hsv.1 Hsv.2
  exact ok_law F28 L Hfl Hri
theorem ints_back {K : PySem.W.Frag} {F : Hp} : ∀ ns : List Int, Reps K F (ns.map D.int) (ns.map V.int) := reps_ints
theorem walk {l : PySem.W.OpenLaw} {q : Program} {loose : List Str} {XP : (Str → Option Value) → Heap → Prop} {YP : World → Heap → Prop} {d : DefRec} {K : Params → PySem.W.Frag} (hn : l.most = some 63) (hdf : d.params.defaults = [])
    (hY : ∀ (w : World) (h : Heap), YP w h → (K w.params).In h)
    (F : ∀ (w : World) (mg : Str → Option Value) (fa : Addr) (h : Heap), (K w.params).In h → h.Ns mainGlobals mg → mg d.name = some (.ref fa) →
      ∃ fd : FuncData, (∀ (s : Shared) (u : Value), BindsTo s fd ⟨[u], []⟩ [("script", u)]) ∧ ∀ base : Heap, (K w.params).In base → base.Ns mainGlobals mg → FnOk l.prog w (K w.params) mg base CX0 9 fa fd ["script"] (spOf (K w.params) cLaw)) :
    PySem.W.WalkO q loose XP YP l.row.toRowW d [] (fun f vs => PySem.call f vs) :=
  L2.walk_of (n := 63) (k := 9) (x := "script") (CX := fun _ => CX0) (sp := fun w => spOf (K w.params) cLaw) hn (by decide) hdf ⟨rfl, by decide, by decide⟩ hY F
    (fun _ H a ns hl _ hS => ⟨H, [.lsq (ns.map .int)], [], fun d M' => d = .bl true, ⟨fun _ _ z => z, fun _ h => (nomatch h), List.nodup_nil⟩, .cons ⟨a, _, rfl, hS, reps_ints ns⟩ .nil, ⟨ns, rfl, rfl, by omega, rfl⟩, fun v F' H' d M' e r _ => by rw [e] at r; exact r⟩) fun _ _ _ _ _ z => z
end K53

set_option Elab.async false
set_option linter.all false
set_option maxRecDepth 100000
open PySem PySem.W PyProof.Rows
set_option maxRecDepth 100000 in
set_option maxHeartbeats 0 in
theorem PySem.Challenge.cw_standreaders_k53_whole_same_values_holds : PySem.Challenge.rw_standreaders_k53_whole_same_values.Holds := by
  w_on; o_law; k_head; (case hw => w_witness2)
  k_fill
  refine K53.walk (l := PySem.Challenge.rw_standreaders_k53_whole_same_values) rfl rfl (fun w h Y => PySem.W.kIn_of Y) ?F
  case F =>
    intro w mg fa h KX G hmg
    refine' K53.all_mk KX G hmg ?aC ?a0 ?l0 ?c0 ?k0 ?a1 ?l1 ?c1 ?k1 ?a2 ?l2 ?c2 ?k2 ?a3 ?l3 ?c3 ?k3 ?a4 ?l4 ?c4 ?k4 ?a5 ?l5 ?c5 ?k5 ?a6 ?l6 ?c6 ?k6 ?a7 ?l7 ?c7 ?k7 ?a8 ?l8 ?c8 ?k8 ?a9 ?l9 ?c9 ?k9 ?a10 ?l10 ?c10 ?k10 ?a11 ?l11 ?c11 ?k11 ?a12 ?l12 ?c12 ?k12 ?a13 ?l13 ?c13 ?k13 ?a14 ?l14 ?c14 ?k14 ?a15 ?l15 ?c15 ?k15 ?a16 ?l16 ?c16 ?k16 ?a17 ?l17 ?c17 ?k17 ?a18 ?l18 ?c18 ?k18 ?a19 ?l19 ?c19 ?k19 ?a20 ?l20 ?c20 ?k20 ?a21 ?l21 ?c21 ?k21 ?a22 ?l22 ?c22 ?k22 ?a23 ?l23 ?c23 ?k23 ?a24 ?l24 ?c24 ?k24 ?a25 ?l25 ?c25 ?k25 ?a26 ?l26 ?c26 ?k26 ?a27 ?l27 ?c27 ?k27 ?a28 ?l28 ?c28 ?k28 ?aI ?lI ?cI ?kI ?iI ?at1 ?ge1 ?ta1 ?re1 ?lP1 ?cP1 ?kP1 ?at2 ?ge2 ?ta2 ?re2 ?lP2 ?cP2 ?kP2 ?at3 ?ge3 ?ta3 ?re3 ?lP3 ?cP3 ?kP3 ?at4 ?ge4 ?ta4 ?re4 ?lP4 ?cP4 ?kP4 ?at5 ?ge5 ?ta5 ?re5 ?lP5 ?cP5 ?kP5 ?pgC ?hdC ?poC ?saC ?mkC ?kcC ?naC ?haC ?hnC ?htC ?hmC ?b_abs ?b_all ?b_bool ?b_divmod ?b_enum ?b_int ?b_isin ?b_len ?b_list ?b_max ?b_min ?b_range ?b_sum ?b_tuple ?b_zip ?g_ms ?r_ms ?g_mz ?r_mz ?g_mw ?r_mw ?g_al ?r_al
    (case aC => k_is)
    (case a0 => k_is)
    (case l0 => k_is)
    (case c0 => k_is)
    (case k0 => k_is)
    (case a1 => k_is)
    (case l1 => k_is)
    (case c1 => k_is)
    (case k1 => k_is)
    (case a2 => k_is)
    (case l2 => k_is)
    (case c2 => k_is)
    (case k2 => k_is)
    (case a3 => k_is)
    (case l3 => k_is)
    (case c3 => k_is)
    (case k3 => k_is)
    (case a4 => k_is)
    (case l4 => k_is)
    (case c4 => k_is)
    (case k4 => k_is)
    (case a5 => k_is)
    (case l5 => k_is)
    (case c5 => k_is)
    (case k5 => k_is)
    (case a6 => k_is)
    (case l6 => k_is)
    (case c6 => k_is)
    (case k6 => k_is)
    (case a7 => k_is)
    (case l7 => k_is)
    (case c7 => k_is)
    (case k7 => k_is)
    (case a8 => k_is)
    (case l8 => k_is)
    (case c8 => k_is)
    (case k8 => k_is)
    (case a9 => k_is)
    (case l9 => k_is)
    (case c9 => k_is)
    (case k9 => k_is)
    (case a10 => k_is)
    (case l10 => k_is)
    (case c10 => k_is)
    (case k10 => k_is)
    (case a11 => k_is)
    (case l11 => k_is)
    (case c11 => k_is)
    (case k11 => k_is)
    (case a12 => k_is)
    (case l12 => k_is)
    (case c12 => k_is)
    (case k12 => k_is)
    (case a13 => k_is)
    (case l13 => k_is)
    (case c13 => k_is)
    (case k13 => k_is)
    (case a14 => k_is)
    (case l14 => k_is)
    (case c14 => k_is)
    (case k14 => k_is)
    (case a15 => k_is)
    (case l15 => k_is)
    (case c15 => k_is)
    (case k15 => k_is)
    (case a16 => k_is)
    (case l16 => k_is)
    (case c16 => k_is)
    (case k16 => k_is)
    (case a17 => k_is)
    (case l17 => k_is)
    (case c17 => k_is)
    (case k17 => k_is)
    (case a18 => k_is)
    (case l18 => k_is)
    (case c18 => k_is)
    (case k18 => k_is)
    (case a19 => k_is)
    (case l19 => k_is)
    (case c19 => k_is)
    (case k19 => k_is)
    (case a20 => k_is)
    (case l20 => k_is)
    (case c20 => k_is)
    (case k20 => k_is)
    (case a21 => k_is)
    (case l21 => k_is)
    (case c21 => k_is)
    (case k21 => k_is)
    (case a22 => k_is)
    (case l22 => k_is)
    (case c22 => k_is)
    (case k22 => k_is)
    (case a23 => k_is)
    (case l23 => k_is)
    (case c23 => k_is)
    (case k23 => k_is)
    (case a24 => k_is)
    (case l24 => k_is)
    (case c24 => k_is)
    (case k24 => k_is)
    (case a25 => k_is)
    (case l25 => k_is)
    (case c25 => k_is)
    (case k25 => k_is)
    (case a26 => k_is)
    (case l26 => k_is)
    (case c26 => k_is)
    (case k26 => k_is)
    (case a27 => k_is)
    (case l27 => k_is)
    (case c27 => k_is)
    (case k27 => k_is)
    (case a28 => k_is)
    (case l28 => k_is)
    (case c28 => k_is)
    (case k28 => k_is)
    (case aI => k_is)
    (case lI => k_is)
    (case cI => k_is)
    (case kI => k_is)
    (case iI => k_is)
    (case at1 => k_is)
    (case ge1 => k_is)
    (case ta1 => k_is)
    (case re1 => k_is)
    (case lP1 => k_is)
    (case cP1 => k_is)
    (case kP1 => k_is)
    (case at2 => k_is)
    (case ge2 => k_is)
    (case ta2 => k_is)
    (case re2 => k_is)
    (case lP2 => k_is)
    (case cP2 => k_is)
    (case kP2 => k_is)
    (case at3 => k_is)
    (case ge3 => k_is)
    (case ta3 => k_is)
    (case re3 => k_is)
    (case lP3 => k_is)
    (case cP3 => k_is)
    (case kP3 => k_is)
    (case at4 => k_is)
    (case ge4 => k_is)
    (case ta4 => k_is)
    (case re4 => k_is)
    (case lP4 => k_is)
    (case cP4 => k_is)
    (case kP4 => k_is)
    (case at5 => k_is)
    (case ge5 => k_is)
    (case ta5 => k_is)
    (case re5 => k_is)
    (case lP5 => k_is)
    (case cP5 => k_is)
    (case kP5 => k_is)
    (case pgC => k_is)
    (case hdC => k_is)
    (case poC => k_is)
    (case saC => k_is)
    (case mkC => k_is)
    (case kcC => k_is)
    (case naC => k_is)
    (case haC => k_is)
    (case hnC => k_is)
    (case htC => k_is)
    (case hmC => k_is)
    (case b_abs => k_is)
    (case b_all => k_is)
    (case b_bool => k_is)
    (case b_divmod => k_is)
    (case b_enum => k_is)
    (case b_int => k_is)
    (case b_isin => k_is)
    (case b_len => k_is)
    (case b_list => k_is)
    (case b_max => k_is)
    (case b_min => k_is)
    (case b_range => k_is)
    (case b_sum => k_is)
    (case b_tuple => k_is)
    (case b_zip => k_is)
    (case g_ms => k_is)
    (case r_ms => exact ⟨_, rfl⟩)
    (case g_mz => k_is)
    (case r_mz => exact ⟨_, rfl⟩)
    (case g_mw => k_is)
    (case r_mw => exact ⟨_, rfl⟩)
    (case g_al => k_is)
    (case r_al => exact ⟨_, rfl⟩)
