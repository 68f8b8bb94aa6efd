import PyProof.Rows.All
import Wide.All
import OpenK.AllK
import Wide.FinOn
import HandS.ForMost
import HandS.ForExc
import HandS.Wide
import HandS.Defaults
import HandS.IsInst
import HandS.Flow
import HandS.MakeKw
import HandS.MakeKwOnly
import PySem.Challenge.RW_meanmoon_k32_all_unlike_stretches
import HandS.TryOnly
import HandS.SetFor
import HandS.TupSets
import HandS.Strs
import PyProof.LongRange
import HandS.Deep
import KE.KSortTupG
set_option Elab.async false
set_option linter.all false
set_option maxRecDepth 100000
set_option maxHeartbeats 4000000
namespace MM
open PySem L2

/-! ### representations -/
/-- what a value stands for, over the lasting part of the heap -/
structure Rep where
  p : V → Hp → Prop
  mono : ∀ v G G', Same G G' → p v G → p v G'
/-- what an owned (changeable) object holds -/
structure ORep where
  p : HO → Hp → Prop
  mono : ∀ o G G', Same G G' → p o G → p o G'
abbrev Gm := List (Option Rep)
abbrev Ow := List (Addr × ORep)
structure En where
  G : Hp
  H : Hp
  M : List Addr
structure At (E : En) (Γ : Gm) (M : Ow) (σ : L2.St) (G H : Hp) : Prop where
  len : Γ.length = σ.length
  env : ∀ (i : Nat) (ρ : Rep), Γ[i]? = some (some ρ) → ∃ v, σ[i]? = some (some v) ∧ ρ.p v G
  gh : Same G H
  own : ∀ q ∈ M, ∃ o, H q.1 = some o ∧ q.2.p o G
  gn : ∀ q ∈ M, G q.1 = none
  nd : (M.map (·.1)).Nodup
  g0 : Same E.G G
  keep : ∀ a o, a ∉ E.M → E.H a = some o → H a = some o
  nw : ∀ a, E.H a ≠ none → G a ≠ none → E.G a ≠ none
  loc : ∀ q ∈ M, q.1 ∈ E.M ∨ E.H q.1 = none
  there : ∀ a, E.H a ≠ none → H a ≠ none
/-- a pure step: things are added -/
structure New (G H G' H' : Hp) : Prop where
  gg : Same G G'
  gh : Same G' H'
  hh : Same H H'
  nw : ∀ a, H a ≠ none → G' a ≠ none → G a ≠ none
theorem New.refl {G H : Hp} (s : Same G H) : New G H G H := ⟨Same.refl _, s, Same.refl _, fun _ _ h => h⟩
theorem New.trans {G H G1 H1 G2 H2 : Hp} (a : New G H G1 H1) (b : New G1 H1 G2 H2) : New G H G2 H2 :=
  ⟨a.gg.trans b.gg, b.gh, a.hh.trans b.hh, fun x h1 h2 => a.nw x h1 (b.nw x (by
    cases q : H x with
    | none => exact absurd q h1
    | some o => rw [a.hh x o q]; simp) h2)⟩
theorem same_upd {H : Hp} {p : Addr} {o : HO} (h : H p = none) : Same H (upd H p o) := fun b u e => by
  rw [upd_ne (ne_of_none e h)]; exact e
theorem same_upd2 {G H : Hp} {p : Addr} {o : HO} (s : Same G H) : Same (upd G p o) (upd H p o) := fun b u e => by
  by_cases hb : b = p
  · subst hb; rw [upd_same] at e ⊢; exact e
  · rw [upd_ne hb] at e ⊢; exact s b u e
theorem Same.fr {G H : Hp} {p : Addr} (s : Same G H) (h : H p = none) : G p = none := Same.free s h
/-- a new lasting object -/
theorem New.put {G H : Hp} {p : Addr} {o : HO} (s : Same G H) (h : H p = none) : New G H (upd G p o) (upd H p o) :=
  ⟨same_upd (Same.fr s h), same_upd2 s, same_upd h, fun a ha hg => by
    by_cases e : a = p
    · subst e; exact absurd h ha
    · rw [upd_ne e] at hg; exact hg⟩
/-- a new object that nobody speaks of -/
theorem New.side {G H : Hp} {p : Addr} {o : HO} (s : Same G H) (h : H p = none) : New G H G (upd H p o) :=
  ⟨Same.refl _, s.trans (same_upd h), same_upd h, fun _ _ hg => hg⟩
theorem ne_none {α : Type} {o : Option α} {x : α} (h : o = some x) : o ≠ none := by rw [h]; simp
section
variable {E : En} {Γ Γ' : Gm} {M M' : Ow} {σ : L2.St} {G H G' H' : Hp}
theorem At.new (a : At E Γ M σ G H) (n : New G H G' H') : At E Γ M σ G' H' where
  len := a.len
  env := fun i ρ h => let ⟨v, e, r⟩ := a.env i ρ h; ⟨v, e, ρ.mono _ _ _ n.gg r⟩
  gh := n.gh
  own := fun q hq => let ⟨o, e, r⟩ := a.own q hq; ⟨o, n.hh _ _ e, q.2.mono _ _ _ n.gg r⟩
  gn := fun q hq => by
    obtain ⟨o, e, _⟩ := a.own q hq
    cases z : G' q.1 with
    | none => rfl
    | some u => exact absurd (a.gn q hq) (n.nw q.1 (ne_none e) (ne_none z))
  nd := a.nd
  g0 := a.g0.trans n.gg
  keep := fun x o h1 h2 => n.hh _ _ (a.keep x o h1 h2)
  nw := fun x h1 h2 => a.nw x h1 (n.nw x (a.there x h1) h2)
  loc := a.loc
  there := fun x h => by
    cases z : H x with
    | none => exact absurd z (a.there x h)
    | some o => rw [n.hh _ _ z]; simp
theorem At.fresh (a : At E Γ M σ G H) {p : Addr} (h : H p = none) : E.H p = none := by
  cases z : E.H p with
  | none => rfl
  | some o => exact absurd h (a.there p (ne_none z))
theorem At.freshG (a : At E Γ M σ G H) {p : Addr} (h : H p = none) : G p = none := Same.fr a.gh h
theorem At.freshM (a : At E Γ M σ G H) {p : Addr} (h : H p = none) : p ∉ M.map (·.1) := fun hm => by
  obtain ⟨q, hq, e⟩ := List.mem_map.mp hm
  obtain ⟨o, e2, _⟩ := a.own q hq
  rw [e, h] at e2; cases e2
/-- a new owned object -/
theorem At.own1 (a : At E Γ M σ G H) {p : Addr} {o : HO} {r : ORep} (h : H p = none) (hr : r.p o G) : At E Γ ((p, r) :: M) σ G (upd H p o) where
  len := a.len
  env := a.env
  gh := a.gh.trans (same_upd h)
  own := fun q hq => by
    rcases List.mem_cons.mp hq with e | hq
    · subst e; exact ⟨o, upd_same, hr⟩
    · obtain ⟨u, e, r⟩ := a.own q hq
      exact ⟨u, by rw [upd_ne (ne_of_none e h)]; exact e, r⟩
  gn := fun q hq => by
    rcases List.mem_cons.mp hq with e | hq
    · subst e; exact a.freshG h
    · exact a.gn q hq
  nd := List.nodup_cons.mpr ⟨a.freshM h, a.nd⟩
  g0 := a.g0
  keep := fun x u h1 h2 => by
    have := a.keep x u h1 h2
    rw [upd_ne (ne_of_none this h)]; exact this
  nw := a.nw
  loc := fun q hq => by
    rcases List.mem_cons.mp hq with e | hq
    · subst e; exact .inr (a.fresh h)
    · exact a.loc q hq
  there := fun x hx => by
    have := a.there x hx
    by_cases e : x = p
    · subst e; rw [upd_same]; simp
    · rw [upd_ne e]; exact this
/-- where p stands in M, and M with another thing there -/
inductive Fnd : Ow → Addr → ORep → (ORep → Ow) → Prop
  | here {M : Ow} {p : Addr} {r : ORep} : Fnd ((p, r) :: M) p r (fun r' => (p, r') :: M)
  | there {M : Ow} {p : Addr} {r : ORep} {u : ORep → Ow} {q : Addr × ORep} : Fnd M p r u → Fnd (q :: M) p r (fun r' => q :: u r')
theorem Fnd.mem {p : Addr} {r : ORep} {u : ORep → Ow} (f : Fnd M p r u) : (p, r) ∈ M := by
  induction f with
  | here => exact List.mem_cons_self
  | there _ ih => exact List.mem_cons_of_mem _ ih
theorem Fnd.map {p : Addr} {r : ORep} {u : ORep → Ow} (f : Fnd M p r u) (r' : ORep) : (u r').map (·.1) = M.map (·.1) := by
  induction f with
  | here => rfl
  | there _ ih => simp only [List.map_cons, ih]
theorem Fnd.of {p : Addr} {r : ORep} {u : ORep → Ow} (f : Fnd M p r u) (r' : ORep) : ∀ q ∈ u r', q = (p, r') ∨ (q ∈ M ∧ (q.1 ≠ p ∨ ¬ (M.map (·.1)).Nodup)) := by
  induction f with
  | @here M p r =>
    intro q hq
    rcases List.mem_cons.mp hq with e | hq
    · exact .inl e
    · refine .inr ⟨List.mem_cons_of_mem _ hq, ?_⟩
      by_cases e : q.1 = p
      · refine .inr fun nd => ?_
        have := (List.nodup_cons.mp nd).1
        exact this (List.mem_map.mpr ⟨q, hq, e⟩)
      · exact .inl e
  | @there M p r u q0 f ih =>
    intro q hq
    rcases List.mem_cons.mp hq with e | hq
    · subst e
      refine .inr ⟨List.mem_cons_self, ?_⟩
      by_cases e : q.1 = p
      · refine .inr fun nd => ?_
        have := (List.nodup_cons.mp nd).1
        exact this (List.mem_map.mpr ⟨_, f.mem, e.symm⟩)
      · exact .inl e
    · rcases ih q hq with e | ⟨h1, h2⟩
      · exact .inl e
      · refine .inr ⟨List.mem_cons_of_mem _ h1, ?_⟩
        rcases h2 with h2 | h2
        · exact .inl h2
        · exact .inr fun nd => h2 (List.nodup_cons.mp nd).2
theorem At.write (a : At E Γ M σ G H) {p : Addr} {o : HO} {r r' : ORep} {u : ORep → Ow} (f : Fnd M p r u) (hr : r'.p o G) : At E Γ (u r') σ G (upd H p o) where
  len := a.len
  env := a.env
  gh := fun b w e => by
    have : b ≠ p := fun z => by subst z; rw [a.gn _ f.mem] at e; cases e
    rw [upd_ne this]; exact a.gh b w e
  own := fun q hq => by
    rcases f.of r' q hq with e | ⟨h1, h2⟩
    · subst e; exact ⟨o, upd_same, hr⟩
    · rcases h2 with h2 | h2
      · obtain ⟨w, e, r⟩ := a.own q h1
        exact ⟨w, by rw [upd_ne h2]; exact e, r⟩
      · exact absurd a.nd h2
  gn := fun q hq => by
    rcases f.of r' q hq with e | ⟨h1, _⟩
    · subst e; exact a.gn (p, r) f.mem
    · exact a.gn q h1
  nd := by rw [f.map]; exact a.nd
  g0 := a.g0
  keep := fun x w h1 h2 => by
    by_cases e : x = p
    · subst e
      rcases a.loc _ f.mem with z | z
      · exact absurd z h1
      · rw [z] at h2; cases h2
    · rw [upd_ne e]; exact a.keep x w h1 h2
  nw := a.nw
  loc := fun q hq => by
    rcases f.of r' q hq with e | ⟨h1, _⟩
    · subst e; exact a.loc (p, r) f.mem
    · exact a.loc q h1
  there := fun x hx => by
    by_cases e : x = p
    · subst e; rw [upd_same]; simp
    · rw [upd_ne e]; exact a.there x hx
/-- what may be forgotten -/
def Sub (ρ ρ' : Rep) : Prop := ∀ v G, ρ.p v G → ρ'.p v G
theorem Sub.rfl {ρ : Rep} : Sub ρ ρ := fun _ _ h => h
theorem Sub.trans {a b c : Rep} (x : Sub a b) (y : Sub b c) : Sub a c := fun v G h => y v G (x v G h)
def OSub (ρ ρ' : ORep) : Prop := ∀ v G, ρ.p v G → ρ'.p v G
theorem OSub.rfl {ρ : ORep} : OSub ρ ρ := fun _ _ h => h
/-- Γ' says no more than Γ -/
inductive Wk : Gm → Gm → Prop
  | nil : Wk [] []
  | skip {o : Option Rep} {Γ Γ' : Gm} : Wk Γ Γ' → Wk (o :: Γ) (none :: Γ')
  | cons {ρ ρ' : Rep} {Γ Γ' : Gm} : Sub ρ ρ' → Wk Γ Γ' → Wk (some ρ :: Γ) (some ρ' :: Γ')
theorem Wk.len (w : Wk Γ Γ') : Γ.length = Γ'.length := by
  induction w with
  | nil => rfl
  | skip _ ih => simp [ih]
  | cons _ _ ih => simp [ih]
theorem Wk.get (w : Wk Γ Γ') : ∀ (i : Nat) (ρ' : Rep), Γ'[i]? = some (some ρ') → ∃ ρ, Γ[i]? = some (some ρ) ∧ Sub ρ ρ' := by
  induction w with
  | nil => intro i ρ h; simp at h
  | skip _ ih =>
    intro i ρ h
    cases i with
    | zero => simp at h
    | succ i => exact ih i ρ (by simpa using h)
  | @cons r r' _ _ s _ ih =>
    intro i ρ h
    cases i with
    | zero =>
      have e : r' = ρ := by simpa using h
      subst e
      exact ⟨r, by simp, s⟩
    | succ i => exact ih i ρ (by simpa using h)
theorem Wk.refl : ∀ Γ : Gm, Wk Γ Γ
  | [] => .nil
  | none :: Γ => .skip (Wk.refl Γ)
  | some _ :: Γ => .cons Sub.rfl (Wk.refl Γ)
theorem At.weak (a : At E Γ M σ G H) (w : Wk Γ Γ') : At E Γ' M σ G H :=
  ⟨w.len.symm.trans a.len, fun i ρ' h => let ⟨ρ, e, s⟩ := w.get i ρ' h; let ⟨v, e2, r⟩ := a.env i ρ e; ⟨v, e2, s _ _ r⟩, a.gh, a.own, a.gn, a.nd, a.g0, a.keep, a.nw, a.loc, a.there⟩
/-- the name in slot i is given a value -/
theorem At.set (a : At E Γ M σ G H) {i : Nat} {ρ : Rep} {v : V} (h : ρ.p v G) : At E (Γ.set i (some ρ)) M (σ.set i (some v)) G H :=
  ⟨by simp [a.len], fun j ρ' e => by
    by_cases hj : i = j
    · subst hj
      by_cases hl : i < Γ.length
      · rw [List.getElem?_set_self hl] at e
        have e : ρ = ρ' := by simpa using e
        subst e
        exact ⟨v, List.getElem?_set_self (by rw [← a.len]; exact hl), h⟩
      · rw [List.getElem?_eq_none (by simp; omega)] at e; cases e
    · rw [List.getElem?_set_ne hj] at e
      obtain ⟨w, e2, r⟩ := a.env j ρ' e
      exact ⟨w, by rw [List.getElem?_set_ne hj]; exact e2, r⟩, a.gh, a.own, a.gn, a.nd, a.g0, a.keep, a.nw, a.loc, a.there⟩
/-- an owned object is given up: it lasts from now on -/
inductive Rm : Ow → Addr → ORep → Ow → Prop
  | here {M : Ow} {p : Addr} {r : ORep} : Rm ((p, r) :: M) p r M
  | there {M M' : Ow} {p : Addr} {r : ORep} {q : Addr × ORep} : Rm M p r M' → Rm (q :: M) p r (q :: M')
theorem Rm.mem {p : Addr} {r : ORep} (f : Rm M p r M') : (p, r) ∈ M := by
  induction f with
  | here => exact List.mem_cons_self
  | there _ ih => exact List.mem_cons_of_mem _ ih
theorem Rm.sub {p : Addr} {r : ORep} (f : Rm M p r M') : ∀ q ∈ M', q ∈ M := by
  induction f with
  | here => exact fun q hq => List.mem_cons_of_mem _ hq
  | there _ ih =>
    intro q hq
    rcases List.mem_cons.mp hq with e | hq
    · subst e; exact List.mem_cons_self
    · exact List.mem_cons_of_mem _ (ih q hq)
theorem Rm.nd {p : Addr} {r : ORep} (f : Rm M p r M') (nd : (M.map (·.1)).Nodup) : (M'.map (·.1)).Nodup ∧ p ∉ M'.map (·.1) := by
  induction f with
  | here => rw [List.map_cons, List.nodup_cons] at nd; exact ⟨nd.2, nd.1⟩
  | @there M M' p r q f ih =>
    rw [List.map_cons, List.nodup_cons] at nd
    obtain ⟨h1, h2⟩ := ih nd.2
    refine ⟨by
      rw [List.map_cons, List.nodup_cons]
      refine ⟨fun hm => nd.1 ?_, h1⟩
      obtain ⟨z, hz, e⟩ := List.mem_map.mp hm
      exact List.mem_map.mpr ⟨z, f.sub z hz, e⟩, ?_⟩
    rw [List.map_cons, List.mem_cons]
    rintro (e | h)
    · exact nd.1 (List.mem_map.mpr ⟨_, f.mem, e⟩)
    · exact h2 h
theorem At.drop (a : At E Γ M σ G H) {p : Addr} {r : ORep} (f : Rm M p r M') : At E Γ M' σ G H :=
  ⟨a.len, a.env, a.gh, fun q hq => a.own q (f.sub q hq), fun q hq => a.gn q (f.sub q hq), (f.nd a.nd).1, a.g0, a.keep, a.nw, fun q hq => a.loc q (f.sub q hq), a.there⟩
theorem At.freeze (a : At E Γ M σ G H) {p : Addr} {r : ORep} (f : Rm M p r M') (hp : p ∉ E.M) : ∃ o, H p = some o ∧ r.p o G ∧ Same G (upd G p o) ∧ At E Γ M' σ (upd G p o) H := by
  obtain ⟨o, e, ro⟩ := a.own _ f.mem
  have gn := a.gn _ f.mem
  have sg : Same G (upd G p o) := same_upd gn
  have b := a.drop f
  refine ⟨o, e, ro, sg, b.len, fun i ρ h => ?_, fun c u h => ?_, fun q hq => ?_, fun q hq => ?_, b.nd, b.g0.trans sg, b.keep, fun c h1 h2 => ?_, b.loc, b.there⟩
  · obtain ⟨v, e1, r1⟩ := b.env i ρ h
    exact ⟨v, e1, ρ.mono _ _ _ sg r1⟩
  · by_cases z : c = p
    · subst z; rw [upd_same] at h; rw [← h]; exact e
    · rw [upd_ne z] at h; exact b.gh c u h
  · obtain ⟨u, e1, r1⟩ := b.own q hq
    exact ⟨u, e1, q.2.mono _ _ _ sg r1⟩
  · have : q.1 ≠ p := fun z => (f.nd a.nd).2 (List.mem_map.mpr ⟨q, hq, z⟩)
    rw [upd_ne this]; exact b.gn q hq
  · by_cases z : c = p
    · subst z
      rcases a.loc _ f.mem with q | q
      · exact absurd q hp
      · exact absurd q h1
    · rw [upd_ne z] at h2; exact b.nw c h1 h2
end

/-! ### the judgements -/
def WTE (E : En) (Γ : Gm) (M : Ow) (t : TE) (Φ : Rep → Ow → Prop) : Prop :=
  ∀ σ G H, At E Γ M σ G H → ∀ Q : VK, (∀ ρ M' v G' H', Φ ρ M' → Same G G' → At E Γ M' σ G' H' → ρ.p v G' → Q v H') → t σ H Q
def WTT (E : En) (Γ : Gm) (M : Ow) (t : TT) (Φ : Bool → Ow → Prop) : Prop :=
  ∀ σ G H, At E Γ M σ G H → ∀ Q : Bool → Hp → Prop, (∀ k M' G' H', Φ k M' → Same G G' → At E Γ M' σ G' H' → Q k H') → t σ H Q
def Reps : List Rep → List V → Hp → Prop
  | [], [], _ => True
  | ρ :: ρs, v :: vs, G => ρ.p v G ∧ Reps ρs vs G
  | _, _, _ => False
theorem Reps.mono {G G' : Hp} (s : Same G G') : ∀ {ρs : List Rep} {vs : List V}, Reps ρs vs G → Reps ρs vs G'
  | [], [], _ => trivial
  | _ :: _, _ :: _, h => ⟨Rep.mono _ _ _ _ s h.1, Reps.mono s h.2⟩
  | [], _ :: _, h => h.elim
  | _ :: _, [], h => h.elim
theorem Reps.length {G : Hp} : ∀ {ρs : List Rep} {vs : List V}, Reps ρs vs G → ρs.length = vs.length
  | [], [], _ => rfl
  | _ :: _, _ :: _, h => congrArg Nat.succ (Reps.length h.2)
  | [], _ :: _, h => h.elim
  | _ :: _, [], h => h.elim
theorem Reps.get {G : Hp} : ∀ {ρs : List Rep} {vs : List V} {i : Nat} {ρ : Rep}, Reps ρs vs G → ρs[i]? = some ρ → ∃ v, vs[i]? = some v ∧ ρ.p v G
  | [], [], i, ρ, _, e => by simp at e
  | r :: _, v :: _, 0, ρ, h, e => by
    have e : r = ρ := by simpa using e
    subst e
    exact ⟨v, by simp, h.1⟩
  | _ :: _, _ :: _, i + 1, ρ, h, e => by
    obtain ⟨v, e1, r⟩ := Reps.get (i := i) (ρ := ρ) h.2 (by simpa using e)
    exact ⟨v, by simpa using e1, r⟩
  | [], _ :: _, _, _, h, _ => h.elim
  | _ :: _, [], _, _, h, _ => h.elim
theorem Reps.get2 {G : Hp} {ρs : List Rep} {vs : List V} {i : Nat} {v : V} (h : Reps ρs vs G) (e : vs[i]? = some v) : ∃ ρ, ρs[i]? = some ρ ∧ ρ.p v G := by
  have hl := h.length
  have hi : i < vs.length := (List.getElem?_eq_some_iff.mp e).1
  obtain ⟨w, e1, r⟩ := h.get (i := i) (ρ := ρs[i]) (by simp [hl, hi])
  rw [e] at e1; cases e1
  exact ⟨_, by simp [hl, hi], r⟩
theorem Reps.app {G : Hp} : ∀ {ρs ρs' : List Rep} {vs vs' : List V}, Reps ρs vs G → Reps ρs' vs' G → Reps (ρs ++ ρs') (vs ++ vs') G
  | [], _, [], _, _, h' => h'
  | _ :: _, _, _ :: _, _, h, h' => ⟨h.1, Reps.app h.2 h'⟩
  | [], _, _ :: _, _, h, _ => h.elim
  | _ :: _, _, [], _, h, _ => h.elim
theorem Reps.set {G : Hp} {ρ : Rep} {v : V} (r : ρ.p v G) : ∀ {ρs : List Rep} {vs : List V} (i : Nat), Reps ρs vs G → Reps (ρs.set i ρ) (vs.set i v) G
  | [], [], _, _ => trivial
  | _ :: _, _ :: _, 0, h => ⟨r, h.2⟩
  | _ :: _, _ :: _, i + 1, h => ⟨h.1, Reps.set r i h.2⟩
  | [], _ :: _, _, h => h.elim
  | _ :: _, [], _, h => h.elim
inductive SubL : List Rep → List Rep → Prop
  | nil : SubL [] []
  | cons {ρ ρ' : Rep} {ρs ρs' : List Rep} : Sub ρ ρ' → SubL ρs ρs' → SubL (ρ :: ρs) (ρ' :: ρs')
theorem SubL.reps {ρs ρs' : List Rep} (s : SubL ρs ρs') : ∀ {vs : List V} {G : Hp}, Reps ρs vs G → Reps ρs' vs G := by
  induction s with
  | nil => intro vs G h; exact h
  | cons h1 _ ih =>
    intro vs G h
    cases vs with
    | nil => exact h.elim
    | cons v vs => exact ⟨h1 _ _ h.1, ih h.2⟩
theorem SubL.refl : ∀ ρs : List Rep, SubL ρs ρs
  | [] => .nil
  | _ :: ρs => .cons Sub.rfl (SubL.refl ρs)
def WTA (E : En) (Γ : Gm) (M : Ow) (t : TA) (Φ : List Rep → Ow → Prop) : Prop :=
  ∀ σ G H, At E Γ M σ G H → ∀ Q : List V → Hp → Prop, (∀ ρs M' vs G' H', Φ ρs M' → Same G G' → At E Γ M' σ G' H' → Reps ρs vs G' → Q vs H') → t σ H Q
/-- what is wanted behind a statement, of what is known -/
structure Ed where
  nx : Gm → Ow → Prop
  rt : Rep → Ow → Prop
  bk : Gm → Ow → Prop := fun _ _ => False
  ct : Gm → Ow → Prop := fun _ _ => False
structure Cov (E : En) (G : Hp) (Ψ : Ed) (D : Ends) : Prop where
  nx : ∀ Γ M, Ψ.nx Γ M → ∀ σ G' H, Same G G' → At E Γ M σ G' H → D.nx σ H
  rt : ∀ ρ M, Ψ.rt ρ M → ∀ v G' H, Same G G' → At E [] M [] G' H → ρ.p v G' → D.rt v H
  bk : ∀ Γ M, Ψ.bk Γ M → ∀ σ G' H, Same G G' → At E Γ M σ G' H → D.bk σ H
  ct : ∀ Γ M, Ψ.ct Γ M → ∀ σ G' H, Same G G' → At E Γ M σ G' H → D.ct σ H
theorem Cov.mono {E : En} {G G' : Hp} {Ψ : Ed} {D : Ends} (s : Same G G') (c : Cov E G Ψ D) : Cov E G' Ψ D :=
  ⟨fun Γ M h σ G2 H s2 => c.nx Γ M h σ G2 H (s.trans s2), fun ρ M h v G2 H s2 => c.rt ρ M h v G2 H (s.trans s2), fun Γ M h σ G2 H s2 => c.bk Γ M h σ G2 H (s.trans s2), fun Γ M h σ G2 H s2 => c.ct Γ M h σ G2 H (s.trans s2)⟩
theorem At.env0 {E : En} {Γ : Gm} {M : Ow} {σ : L2.St} {G H : Hp} (a : At E Γ M σ G H) : At E [] M [] G H :=
  ⟨rfl, fun i ρ h => by simp at h, a.gh, a.own, a.gn, a.nd, a.g0, a.keep, a.nw, a.loc, a.there⟩
def WTS (E : En) (Γ : Gm) (M : Ow) (t : TS) (Ψ : Ed) : Prop :=
  ∀ σ G H, At E Γ M σ G H → ∀ D : Ends, Cov E G Ψ D → t D σ H
def WTG (E : En) (Γ : Gm) (M : Ow) (t : TG) (ρ : Rep) (Φ : Gm → Ow → Prop) : Prop :=
  ∀ σ G H, At E Γ M σ G H → ∀ v, ρ.p v G → ∀ Q : L2.St → Hp → Prop, (∀ Γ' M' σ' G' H', Φ Γ' M' → Same G G' → At E Γ' M' σ' G' H' → Q σ' H') → t v σ H Q
def WTGs (E : En) (Γ : Gm) (M : Ow) (t : TGs) (ρs : List Rep) (Φ : Gm → Ow → Prop) : Prop :=
  ∀ σ G H, At E Γ M σ G H → ∀ vs, Reps ρs vs G → ∀ Q : L2.St → Hp → Prop, (∀ Γ' M' σ' G' H', Φ Γ' M' → Same G G' → At E Γ' M' σ' G' H' → Q σ' H') → t vs σ H Q

/-! ### of the grammar: each piece has its weakest reading -/
def tW (X : Cx) (e : Expr) : TE := fun σ H Q => ∀ (pins : List (Addr × Obj)) (s : Shared), L2.Inv X pins σ H s → wpAny (model X.prog X.w) X.A (eval e X.env) (EP X pins σ Q) X.xe s
theorem pe_w {X : Cx} {e : Expr} : PE X e (tW X e) := ⟨fun pins s σ H Q I h => h pins s I⟩
def tWT (X : Cx) (e : Expr) : TT := fun σ H Q => ∀ (pins : List (Addr × Obj)) (s : Shared), L2.Inv X pins σ H s → wpAny (model X.prog X.w) X.A (isTrue e X.env (eval e X.env)) (TP X pins σ Q) X.xe s
theorem pt_w {X : Cx} {e : Expr} : PT X e (tWT X e) := ⟨fun pins s σ H Q I h => h pins s I⟩
def tWP (X : Cx) (e : Expr) : TT := fun σ H Q => ∀ (whole : Sem Value) (pins : List (Addr × Obj)) (s : Shared), L2.Inv X pins σ H s → wpAny (model X.prog X.w) X.A (isTrue e X.env whole) (TP X pins σ Q) X.xe s
theorem pw_w {X : Cx} {e : Expr} : PW X e (tWP X e) := ⟨fun w pins s σ H Q I h => h w pins s I⟩
def tWA (X : Cx) (es : List Expr) : TA := fun σ H Q => ∀ (pos : Pos) (pins : List (Addr × Obj)) (s : Shared), L2.Inv X pins σ H s → wpAny (model X.prog X.w) X.A (spliced (backTo pos (starEach es X.env))) (AP X pins σ Q) X.xe s
theorem pa_w {X : Cx} {es : List Expr} : PA X es (tWA X es) := ⟨fun pos pins s σ H Q I h => h pos pins s I⟩
def tWK (X : Cx) (es : List Keyword) : TA := fun σ H Q => ∀ (pos : Pos) (pins : List (Addr × Obj)) (s : Shared), L2.Inv X pins σ H s → wpAny (model X.prog X.w) X.A (evalAll ((backToKw pos (keywordEach es X.env)).map (·.2))) (AP X pins σ Q) X.xe s
theorem pk_w {X : Cx} {es : List Keyword} : PK X es (tWK X es) := ⟨fun pos pins s σ H Q I h => h pos pins s I⟩
def tWS (X : Cx) (st : Stmt) : TS := fun D σ H => ∀ (pins : List (Addr × Obj)) (s : Shared), L2.Inv X pins σ H s → wpAny (model X.prog X.w) X.A (exec st X.env) (SP X pins D) X.xe s
theorem ps_w {X : Cx} {e : Stmt} : PS X e (tWS X e) := ⟨fun pins s σ H D I h => h pins s I⟩
def tWSs (X : Cx) (st : List Stmt) : TS := fun D σ H => ∀ (pins : List (Addr × Obj)) (s : Shared), L2.Inv X pins σ H s → wpAny (model X.prog X.w) X.A (execs st X.env) (SP X pins D) X.xe s
theorem pss_w {X : Cx} {e : List Stmt} : PSs X e (tWSs X e) := ⟨fun pins s σ H D I h => h pins s I⟩
def tWG (X : Cx) (tg : Expr) : TG := fun v σ H Q => ∀ (pins : List (Addr × Obj)) (s : Shared) (u : Value), L2.Inv X pins σ H s → RelV v u → wpAny (model X.prog X.w) X.A (assign tg X.env u) (fun _ s' => ∃ σ' H', L2.Inv X pins σ' H' s' ∧ Q σ' H') X.xe s
theorem pg_w {X : Cx} {tg : Expr} : PG X tg (tWG X tg) := ⟨fun pins s σ H v u Q I r h => h pins s u I r⟩
def tWGs (X : Cx) (ts : List Expr) : TGs := fun vs σ H Q => ∀ (pins : List (Addr × Obj)) (s : Shared) (us : List Value), L2.Inv X pins σ H s → Vals vs us → wpAny (model X.prog X.w) X.A (assignInOrder ((assignEach ts X.env).map (·.2)) us) (fun _ s' => ∃ σ' H', L2.Inv X pins σ' H' s' ∧ Q σ' H') X.xe s
theorem pgs_w {X : Cx} {ts : List Expr} : PGs X ts (tWGs X ts) := ⟨fun pins s σ H vs us Q I r h => h pins s us I r⟩

def WE (X : Cx) (E : En) (Γ : Gm) (M : Ow) (e : Expr) (Φ : Rep → Ow → Prop) : Prop := WTE E Γ M (tW X e) Φ
def WT (X : Cx) (E : En) (Γ : Gm) (M : Ow) (e : Expr) (Φ : Bool → Ow → Prop) : Prop := WTT E Γ M (tWT X e) Φ
def WP (X : Cx) (E : En) (Γ : Gm) (M : Ow) (e : Expr) (Φ : Bool → Ow → Prop) : Prop := WTT E Γ M (tWP X e) Φ
def WA (X : Cx) (E : En) (Γ : Gm) (M : Ow) (es : List Expr) (Φ : List Rep → Ow → Prop) : Prop := WTA E Γ M (tWA X es) Φ
def WK (X : Cx) (E : En) (Γ : Gm) (M : Ow) (es : List Keyword) (Φ : List Rep → Ow → Prop) : Prop := WTA E Γ M (tWK X es) Φ
def WS (X : Cx) (E : En) (Γ : Gm) (M : Ow) (st : Stmt) (Ψ : Ed) : Prop := WTS E Γ M (tWS X st) Ψ
def WSs (X : Cx) (E : En) (Γ : Gm) (M : Ow) (st : List Stmt) (Ψ : Ed) : Prop := WTS E Γ M (tWSs X st) Ψ
def WG (X : Cx) (E : En) (Γ : Gm) (M : Ow) (tg : Expr) (ρ : Rep) (Φ : Gm → Ow → Prop) : Prop := WTG E Γ M (tWG X tg) ρ Φ
def WGs (X : Cx) (E : En) (Γ : Gm) (M : Ow) (ts : List Expr) (ρs : List Rep) (Φ : Gm → Ow → Prop) : Prop := WTGs E Γ M (tWGs X ts) ρs Φ
section
variable {X : Cx} {E : En} {Γ : Gm} {M : Ow}
theorem we_of {e : Expr} {t : TE} {Φ : Rep → Ow → Prop} (hp : PE X e t) (h : WTE E Γ M t Φ) : WE X E Γ M e Φ := fun σ G H a Q k pins s I => hp.run pins s σ H Q I (h σ G H a Q k)
theorem wt_of {e : Expr} {t : TT} {Φ : Bool → Ow → Prop} (hp : PT X e t) (h : WTT E Γ M t Φ) : WT X E Γ M e Φ := fun σ G H a Q k pins s I => hp.run pins s σ H Q I (h σ G H a Q k)
theorem wp_of {e : Expr} {t : TT} {Φ : Bool → Ow → Prop} (hp : PW X e t) (h : WTT E Γ M t Φ) : WP X E Γ M e Φ := fun σ G H a Q k w pins s I => hp.run w pins s σ H Q I (h σ G H a Q k)
theorem wa_of {e : List Expr} {t : TA} {Φ : List Rep → Ow → Prop} (hp : PA X e t) (h : WTA E Γ M t Φ) : WA X E Γ M e Φ := fun σ G H a Q k pos pins s I => hp.run pos pins s σ H Q I (h σ G H a Q k)
theorem wk_of {e : List Keyword} {t : TA} {Φ : List Rep → Ow → Prop} (hp : PK X e t) (h : WTA E Γ M t Φ) : WK X E Γ M e Φ := fun σ G H a Q k pos pins s I => hp.run pos pins s σ H Q I (h σ G H a Q k)
theorem ws_of {e : Stmt} {t : TS} {Ψ : Ed} (hp : PS X e t) (h : WTS E Γ M t Ψ) : WS X E Γ M e Ψ := fun σ G H a D k pins s I => hp.run pins s σ H D I (h σ G H a D k)
theorem wss_of {e : List Stmt} {t : TS} {Ψ : Ed} (hp : PSs X e t) (h : WTS E Γ M t Ψ) : WSs X E Γ M e Ψ := fun σ G H a D k pins s I => hp.run pins s σ H D I (h σ G H a D k)
theorem wg_of {e : Expr} {t : TG} {ρ : Rep} {Φ : Gm → Ow → Prop} (hp : PG X e t) (h : WTG E Γ M t ρ Φ) : WG X E Γ M e ρ Φ := fun σ G H a v r Q k pins s u I rv => hp.run pins s σ H v u Q I rv (h σ G H a v r Q k)
theorem wgs_of {e : List Expr} {t : TGs} {ρs : List Rep} {Φ : Gm → Ow → Prop} (hp : PGs X e t) (h : WTGs E Γ M t ρs Φ) : WGs X E Γ M e ρs Φ := fun σ G H a v r Q k pins s u I rv => hp.run pins s σ H v u Q I rv (h σ G H a v r Q k)
end
end MM

namespace MM
open PySem L2
/-! ### representations of plain values -/
def RI (i : Int) : Rep := ⟨fun v _ => v = .int i, fun _ _ _ _ h => h⟩
def RB (b : Bool) : Rep := ⟨fun v _ => v = .bl b, fun _ _ _ _ h => h⟩
def RS (s : Str) : Rep := ⟨fun v _ => v = .str s, fun _ _ _ _ h => h⟩
def RN : Rep := ⟨fun v _ => v = .non, fun _ _ _ _ h => h⟩
def RV (w : V) : Rep := ⟨fun v _ => v = w, fun _ _ _ _ h => h⟩
def RRef (p : Addr) : Rep := ⟨fun v _ => v = .ref p, fun _ _ _ _ h => h⟩
/-- an int or None -/
def RO (o : Option Int) : Rep := match o with
  | none => RN
  | some i => RI i
theorem same_seqT {K : PySem.W.Frag} {H H' : Hp} {a : Addr} {xs : List V} (e : Same H H') (h : SqT K H a xs) : SqT K H' a xs := by
  rcases h with (h | ⟨o, h⟩) | h
  · exact .inl (.inl (e _ _ h))
  · exact .inl (.inr ⟨o, e _ _ h⟩)
  · exact .inr h
/-- a list that stays as it is; a tuple -/
def RL (K : PySem.W.Frag) (ρs : List Rep) : Rep := ⟨fun v G => ∃ a vs, v = .ref a ∧ SqL K G a vs ∧ Reps ρs vs G, fun v G G' s ⟨a, vs, e, h, r⟩ => ⟨a, vs, e, Same.seq s h, r.mono s⟩⟩
def RT (K : PySem.W.Frag) (ρs : List Rep) : Rep := ⟨fun v G => ∃ a vs, v = .ref a ∧ SqT K G a vs ∧ Reps ρs vs G, fun v G G' s ⟨a, vs, e, h, r⟩ => ⟨a, vs, e, same_seqT s h, r.mono s⟩⟩
/-- .. that stands in the lasting part -/
def RLt (ρs : List Rep) : Rep := ⟨fun v G => ∃ a vs, v = .ref a ∧ G a = some (.lst vs) ∧ Reps ρs vs G, fun v G G' s ⟨a, vs, e, h, r⟩ => ⟨a, vs, e, s _ _ h, r.mono s⟩⟩
theorem sub_lt {K : PySem.W.Frag} {ρs : List Rep} : Sub (RLt ρs) (RL K ρs) := fun v G ⟨a, vs, e, h, r⟩ => ⟨a, vs, e, .inl (.inl h), r⟩
def RTt (ρs : List Rep) : Rep := ⟨fun v G => ∃ a vs, v = .ref a ∧ G a = some (.tup vs) ∧ Reps ρs vs G, fun v G G' s ⟨a, vs, e, h, r⟩ => ⟨a, vs, e, s _ _ h, r.mono s⟩⟩
theorem sub_tt {K : PySem.W.Frag} {ρs : List Rep} : Sub (RTt ρs) (RT K ρs) := fun v G ⟨a, vs, e, h, r⟩ => ⟨a, vs, e, .inl (.inl h), r⟩
/-- an owned list -/
def OL (ρs : List Rep) : ORep := ⟨fun o G => ∃ vs, o = .lst vs ∧ Reps ρs vs G, fun o G G' s ⟨vs, e, r⟩ => ⟨vs, e, r.mono s⟩⟩
/-- attributes -/
def FRep : List (Str × Rep) → List (Str × V) → Hp → Prop
  | [], [], _ => True
  | (f, ρ) :: l, (g, v) :: m, G => f = g ∧ ρ.p v G ∧ FRep l m G
  | _, _, _ => False
theorem FRep.mono {G G' : Hp} (s : Same G G') : ∀ {l : List (Str × Rep)} {m : List (Str × V)}, FRep l m G → FRep l m G'
  | [], [], _ => trivial
  | (_, ρ) :: _, (_, _) :: _, h => ⟨h.1, ρ.mono _ _ _ s h.2.1, FRep.mono s h.2.2⟩
  | [], _ :: _, h => h.elim
  | _ :: _, [], h => h.elim
theorem FRep.len {G : Hp} : ∀ {l : List (Str × Rep)} {m : List (Str × V)}, FRep l m G → l.length = m.length
  | [], [], _ => rfl
  | (_, _) :: _, (_, _) :: _, h => congrArg Nat.succ (FRep.len h.2.2)
  | [], _ :: _, h => h.elim
  | _ :: _, [], h => h.elim
theorem FRep.look {G : Hp} {f : Str} {ρ : Rep} : ∀ {l : List (Str × Rep)} {m : List (Str × V)}, FRep l m G → l.lookup f = some ρ → ∃ v, m.lookup f = some v ∧ ρ.p v G
  | [], [], _, e => by simp at e
  | (g, r) :: l, (g', v) :: m, h, e => by
    obtain ⟨h1, h2, h3⟩ := h
    subst h1
    rw [List.lookup_cons] at e ⊢
    cases q : f == g with
    | true =>
      rw [q] at e
      have e : r = ρ := by simpa using e
      subst e
      exact ⟨v, rfl, h2⟩
    | false =>
      rw [q] at e
      exact FRep.look (l := l) (m := m) h3 e
  | [], _ :: _, h, _ => h.elim
  | _ :: _, [], h, _ => h.elim
theorem FRep.miss {G : Hp} {f : Str} : ∀ {l : List (Str × Rep)} {m : List (Str × V)}, FRep l m G → l.lookup f = none → m.lookup f = none
  | [], [], _, _ => rfl
  | (g, r) :: l, (g', v) :: m, h, e => by
    obtain ⟨h1, h2, h3⟩ := h
    subst h1
    rw [List.lookup_cons] at e ⊢
    cases q : f == g with
    | true => rw [q] at e; simp at e
    | false => rw [q] at e; exact FRep.miss (l := l) (m := m) h3 e
  | [], _ :: _, h, _ => h.elim
  | _ :: _, [], h, _ => h.elim
def putR (f : Str) (ρ : Rep) : List (Str × Rep) → List (Str × Rep)
  | [] => [(f, ρ)]
  | (g, r) :: l => if g = f then (g, ρ) :: l else (g, r) :: putR f ρ l
theorem putF_cons (f g : Str) (v w : V) (l : List (Str × V)) : putF f v ((g, w) :: l) = if g = f then (g, v) :: l else (g, w) :: putF f v l := rfl
theorem FRep.put {G : Hp} {f : Str} {ρ : Rep} {v : V} (r : ρ.p v G) : ∀ {l : List (Str × Rep)} {m : List (Str × V)}, FRep l m G → FRep (putR f ρ l) (putF f v m) G
  | [], [], _ => ⟨rfl, r, trivial⟩
  | (g, r0) :: l, (g', w) :: m, h => by
    obtain ⟨h1, h2, h3⟩ := h
    subst h1
    rw [putF_cons]
    unfold putR
    by_cases q : g = f
    · rw [if_pos q, if_pos q]; exact ⟨rfl, r, h3⟩
    · rw [if_neg q, if_neg q]; exact ⟨rfl, h2, FRep.put r h3⟩
  | [], _ :: _, h => h.elim
  | _ :: _, [], h => h.elim
/-- an instance that stays as it is; an owned one -/
def RIns (C : Addr) (l : List (Str × Rep)) : Rep := ⟨fun v G => ∃ a dx fs, v = .ref a ∧ G a = some (.ins C dx fs) ∧ FRep l fs G, fun v G G' s ⟨a, dx, fs, e, h, r⟩ => ⟨a, dx, fs, e, s _ _ h, r.mono s⟩⟩
def OIns (C : Addr) (l : List (Str × Rep)) : ORep := ⟨fun o G => ∃ dx fs, o = .ins C dx fs ∧ FRep l fs G, fun o G G' s ⟨dx, fs, e, r⟩ => ⟨dx, fs, e, r.mono s⟩⟩

/-! ### names -/
structure Rd1 (X : Cx) (i : Nat) (x : Str) : Prop where
  at_ : X.N[i]? = some x
  vis : Vis X.env.scope x
  hd : (x == ("__debug__" : Str)) = false
  hcd : (x == ("__classdict__" : Str)) = false
structure Wr1 (X : Cx) (i : Nat) (x : Str) : Prop where
  nd : X.N.Nodup
  at_ : X.N[i]? = some x
  loc : Loc X.env.scope x
  fn : X.fn x = true ∨ X.env.scope.names.lookup x = some .local
section
variable {X : Cx} {E : En} {Γ : Gm} {M : Ow} {a b e : Expr} {pos : Pos} {Φ : Rep → Ow → Prop}
theorem wte_var {i : Nat} {ρ : Rep} (h : Γ[i]? = some (some ρ)) (k : Φ ρ M) : WTE E Γ M (tVar i) Φ := fun σ G H a Q q =>
  let ⟨v, e, r⟩ := a.env i ρ h; ⟨v, e, q ρ M v G H k (Same.refl _) a r⟩
theorem wte_c {v : V} {ρ : Rep} (h : ∀ G, ρ.p v G) (k : Φ ρ M) : WTE E Γ M (tC v) Φ := fun σ G H a Q q => q ρ M v G H k (Same.refl _) a (h G)
theorem we_var (i : Nat) {x : Str} {ρ : Rep} (r : Rd1 X i x) (h : Γ[i]? = some (some ρ)) (k : Φ ρ M) : WE X E Γ M (.Name x pos) Φ := we_of (pe_var r.at_ r.vis r.hd r.hcd) (wte_var h k)
theorem we_int {i : Int} {j} (k : Φ (RI i) M) : WE X E Γ M (.Constant (.int i) j pos) Φ := we_of pe_int (wte_c (fun _ => rfl) k)
theorem we_bl {i : Bool} {j} (k : Φ (RB i) M) : WE X E Γ M (.Constant (.bool i) j pos) Φ := we_of pe_bl (wte_c (fun _ => rfl) k)
theorem we_str {i : Str} {j} (k : Φ (RS i) M) : WE X E Γ M (.Constant (.str i) j pos) Φ := we_of pe_str (wte_c (fun _ => rfl) k)
theorem we_non {j} (k : Φ RN M) : WE X E Γ M (.Constant .none j pos) Φ := we_of pe_non (wte_c (fun _ => rfl) k)
/-- a value of the module's -/
theorem we_glob {x : Str} {v : V} {u : Value} (hg : Gl X x) (hm : X.mg x = some u) (r : RelV v u) {ρ : Rep} (h : ∀ G, ρ.p v G) (k : Φ ρ M) (hd : (x == ("__debug__" : Str)) = false := by decide) : WE X E Γ M (.Name x pos) Φ := we_of (pe_glob hg hm r hd) (wte_c h k)

/-! ### operators -/
def OpW (E : En) (Γ : Gm) (M : Ow) (r : R2) (ρa ρb : Rep) (Φ : Rep → Ow → Prop) : Prop :=
  ∀ σ G H, At E Γ M σ G H → ∀ x y, ρa.p x G → ρb.p y G → ∀ Q : VK, (∀ ρ M' v G' H', Φ ρ M' → Same G G' → At E Γ M' σ G' H' → ρ.p v G' → Q v H') → r x y H Q
/-- a pure operation -/
def OpV (r : R2) (ρa ρb ρ : Rep) : Prop := ∀ x y G H, Same G H → ρa.p x G → ρb.p y G → ∀ Q : VK, (∀ v G' H', New G H G' H' → ρ.p v G' → Q v H') → r x y H Q
theorem opw_of {r : R2} {ρa ρb ρ : Rep} (h : OpV r ρa ρb ρ) (k : Φ ρ M) : OpW E Γ M r ρa ρb Φ := fun σ G H a x y hx hy Q q =>
  h x y G H a.gh hx hy Q fun v G' H' n hr => q ρ M v G' H' k n.gg (a.new n) hr
theorem wte_op {r : R2} {ta tb : TE} (h : WTE E Γ M ta fun ρa Ma => WTE E Γ Ma tb fun ρb Mb => OpW E Γ Mb r ρa ρb Φ) : WTE E Γ M (tOp r ta tb) Φ := fun σ G H a Q k =>
  h σ G H a _ fun ρa Ma x G1 H1 h1 s1 a1 r1 => h1 σ G1 H1 a1 _ fun ρb Mb y G2 H2 h2 s2 a2 r2 =>
    h2 σ G2 H2 a2 x y (ρa.mono _ _ _ s2 r1) r2 Q fun ρ M' v G' H' k' s3 => k ρ M' v G' H' k' ((s1.trans s2).trans s3)
theorem we_bin {op : Operator} {r : R2} (ho : OpR X (binaryOp op) r) (h : WE X E Γ M a fun ρa Ma => WE X E Γ Ma b fun ρb Mb => OpW E Γ Mb r ρa ρb Φ) : WE X E Γ M (.BinOp a op b pos) Φ :=
  we_of (pe_op ho pe_w pe_w) (wte_op h)
theorem we_cmp {op : CmpOp} {r : R2} (ho : OpR X (compareOp op) r) (hm : behindInMarks op b = false) (h : WE X E Γ M a fun ρa Ma => WE X E Γ Ma b fun ρb Mb => OpW E Γ Mb r ρa ρb Φ) : WE X E Γ M (.Compare a [op] [b] pos) Φ :=
  we_of (pe_cmpR ho pe_w pe_w hm) (wte_op h)
theorem wtt_test {t : TE} {Φ : Bool → Ow → Prop} (h : WTE E Γ M t fun ρ M' => ∃ k, Sub ρ (RB k) ∧ Φ k M') : WTT E Γ M (tTest t) Φ := fun σ G H a Q q =>
  h σ G H a _ fun ρ M' v G' H' ⟨k, s, hk⟩ s1 a1 r => ⟨k, s _ _ r, q k M' G' H' hk s1 a1⟩
theorem wt_cmp {op : CmpOp} {r : R2} {Φ : Bool → Ow → Prop} (ho : OpR X (compareOp op) r) (hm : behindInMarks op b = false)
    (h : WE X E Γ M a fun ρa Ma => WE X E Γ Ma b fun ρb Mb => OpW E Γ Mb r ρa ρb fun ρ M' => ∃ k, Sub ρ (RB k) ∧ Φ k M') : WT X E Γ M (.Compare a [op] [b] pos) Φ :=
  wt_of (pt_cmpR ho pe_w pe_w hm) (wtt_test (wte_op h))
/-- an expression that gives a bool -/
theorem wt_val {Φ : Bool → Ow → Prop} (h : WE X E Γ M e fun ρ M' => ∃ k, Sub ρ (RB k) ∧ Φ k M') (he : ∀ whole, isTrue e X.env whole = (do let v ← whole; standAt e.pos; holding [v] (truthy v)) := by intro _; rfl) : WT X E Γ M e Φ :=
  wt_of (pt_val pe_w he) (wtt_test h)
/-- an expression by its truth -/
theorem wt_truth {Φ : Bool → Ow → Prop} (h : WE X E Γ M e fun ρ M' => ∃ k, (∀ v G, ρ.p v G → TruV X.K v G k) ∧ (∀ v G H, Same G H → TruV X.K v G k → TruV X.K v H k) ∧ Φ k M') (he : ∀ whole, isTrue e X.env whole = (do let v ← whole; standAt e.pos; holding [v] (truthy v)) := by intro _; rfl) : WT X E Γ M e Φ :=
  wt_of (pt_truth pe_w he) (fun σ G H a Q q => h σ G H a _ fun ρ M' v G' H' ⟨k, s, s', hk⟩ s1 a1 r => ⟨k, s' _ _ _ a1.gh (s _ _ r), q k M' G' H' hk s1 a1⟩)
theorem wt_not {Φ : Bool → Ow → Prop} (h : WT X E Γ M a fun k M' => Φ (!k) M') : WT X E Γ M (.UnaryOp .Not a pos) Φ :=
  wt_of (pt_not pt_w) (fun σ G H at' Q q => h σ G H at' _ fun k M' G' H' hk s1 a1 => q (!k) M' G' H' hk s1 a1)
theorem wt_bool {Φ : Bool → Ow → Prop} (h : WP X E Γ M e Φ) : WT X E Γ M e Φ := wt_of (PW.pt pw_w) h
theorem wp_and1 {Φ : Bool → Ow → Prop} (h : WT X E Γ M a Φ) : WP X E Γ M (.BoolOp .And [a] pos) Φ := wp_of (pw_and1 pt_w) h
theorem wp_or1 {Φ : Bool → Ow → Prop} (h : WT X E Γ M a Φ) : WP X E Γ M (.BoolOp .Or [a] pos) Φ := wp_of (pw_or1 pt_w) h
theorem wp_and {rest : List Expr} {Φ : Bool → Ow → Prop} (h : WT X E Γ M a fun k M' => (k = true → WP X E Γ M' (.BoolOp .And (b :: rest) pos) Φ) ∧ (k = false → Φ false M')) : WP X E Γ M (.BoolOp .And (a :: b :: rest) pos) Φ :=
  wp_of (pw_and pt_w pw_w) (fun σ G H at' Q q => h σ G H at' _ fun k M' G' H' hk s1 a1 => by
    cases k with
    | true =>
      show tWP X _ σ H' Q
      exact hk.1 rfl σ G' H' a1 Q fun k2 M2 G2 H2 h2 s2 => q k2 M2 G2 H2 h2 (s1.trans s2)
    | false =>
      show Q false H'
      exact q false M' G' H' (hk.2 rfl) s1 a1)
theorem wp_or {rest : List Expr} {Φ : Bool → Ow → Prop} (h : WT X E Γ M a fun k M' => (k = false → WP X E Γ M' (.BoolOp .Or (b :: rest) pos) Φ) ∧ (k = true → Φ true M')) : WP X E Γ M (.BoolOp .Or (a :: b :: rest) pos) Φ :=
  wp_of (pw_or pt_w pw_w) (fun σ G H at' Q q => h σ G H at' _ fun k M' G' H' hk s1 a1 => by
    cases k with
    | false =>
      show tWP X _ σ H' Q
      exact hk.1 rfl σ G' H' a1 Q fun k2 M2 G2 H2 h2 s2 => q k2 M2 G2 H2 h2 (s1.trans s2)
    | true =>
      show Q true H'
      exact q true M' G' H' (hk.2 rfl) s1 a1)
/-- .. as values: all but the last are bools -/
theorem we_and1 {op} (h : WE X E Γ M a Φ) : WE X E Γ M (.BoolOp op [a] pos) Φ := we_of (pe_one pe_w) h
theorem we_and {rest : List Expr} (h : WE X E Γ M a fun ρ M' => ∃ k, Sub ρ (RB k) ∧ (k = true → WE X E Γ M' (.BoolOp .And (b :: rest) pos) Φ) ∧ (k = false → Φ (RB false) M')) : WE X E Γ M (.BoolOp .And (a :: b :: rest) pos) Φ :=
  we_of (pe_and pe_w pe_w) (fun σ G H at' Q q => h σ G H at' _ fun ρ M' v G' H' ⟨k, sb, hk1, hk2⟩ s1 a1 r => ⟨k, sb _ _ r, by
    cases k with
    | true =>
      show tW X _ σ H' Q
      exact hk1 rfl σ G' H' a1 Q fun k2 M2 v2 G2 H2 h2 s2 => q k2 M2 v2 G2 H2 h2 (s1.trans s2)
    | false =>
      show Q (.bl false) H'
      exact q (RB false) M' _ G' H' (hk2 rfl) s1 a1 rfl⟩)
theorem we_or {rest : List Expr} (h : WE X E Γ M a fun ρ M' => ∃ k, Sub ρ (RB k) ∧ (k = false → WE X E Γ M' (.BoolOp .Or (b :: rest) pos) Φ) ∧ (k = true → Φ (RB true) M')) : WE X E Γ M (.BoolOp .Or (a :: b :: rest) pos) Φ :=
  we_of (pe_or pe_w pe_w) (fun σ G H at' Q q => h σ G H at' _ fun ρ M' v G' H' ⟨k, sb, hk1, hk2⟩ s1 a1 r => ⟨k, sb _ _ r, by
    cases k with
    | false =>
      show tW X _ σ H' Q
      exact hk1 rfl σ G' H' a1 Q fun k2 M2 v2 G2 H2 h2 s2 => q k2 M2 v2 G2 H2 h2 (s1.trans s2)
    | true =>
      show Q (.bl true) H'
      exact q (RB true) M' _ G' H' (hk2 rfl) s1 a1 rfl⟩)
theorem we_not (h : WE X E Γ M a fun ρ M' => ∃ k, Sub ρ (RB k) ∧ Φ (RB (!k)) M') : WE X E Γ M (.UnaryOp .Not a pos) Φ :=
  we_of (pe_not pe_w) (fun σ G H at' Q q => h σ G H at' _ fun ρ M' v G' H' ⟨k, sb, hk⟩ s1 a1 r => ⟨k, sb _ _ r, q _ M' _ G' H' hk s1 a1 rfl⟩)
theorem we_ifExp {c : Expr} (h : WT X E Γ M c fun k M' => (k = true → WE X E Γ M' a Φ) ∧ (k = false → WE X E Γ M' b Φ)) : WE X E Γ M (.IfExp c a b pos) Φ :=
  we_of (pe_ifExp pt_w pe_w pe_w) (fun σ G H at' Q q => h σ G H at' _ fun k M' G' H' hk s1 a1 => by
    cases k with
    | true =>
      show tW X _ σ H' Q
      exact hk.1 rfl σ G' H' a1 Q fun k2 M2 v2 G2 H2 h2 s2 => q k2 M2 v2 G2 H2 h2 (s1.trans s2)
    | false =>
      show tW X _ σ H' Q
      exact hk.2 rfl σ G' H' a1 Q fun k2 M2 v2 G2 H2 h2 s2 => q k2 M2 v2 G2 H2 h2 (s1.trans s2))
theorem we_un {op : UnaryOp} {r : V → Hp → VK → Prop} (ho : UnR X (unaryOp op) r) (h : WE X E Γ M a fun ρa Ma => ∃ ρ, (∀ x G H, ρa.p x G → ∀ Q : VK, (∀ v, ρ.p v G → Q v H) → r x H Q) ∧ Φ ρ Ma) : WE X E Γ M (.UnaryOp op a pos) Φ :=
  we_of (pe_un ho pe_w) (fun σ G H at' Q q => h σ G H at' _ fun ρa Ma x G1 H1 ⟨ρ, ho, hk⟩ s1 a1 r1 => ho x G1 H1 r1 Q fun v r2 => q ρ Ma v G1 H1 hk s1 a1 r2)

/-! ### argument lists, displays -/
theorem wa_nil {Φ : List Rep → Ow → Prop} (k : Φ [] M) : WA X E Γ M [] Φ := wa_of pa_nil fun σ G H a Q q => q [] M [] G H k (Same.refl _) a trivial
theorem wa_cons {es : List Expr} {Φ : List Rep → Ow → Prop} (h : WE X E Γ M e fun ρ M1 => WA X E Γ M1 es fun ρs M2 => Φ (ρ :: ρs) M2) (hs : starEach (e :: es) X.env = (false, eval e X.env) :: starEach es X.env := by rfl) : WA X E Γ M (e :: es) Φ :=
  wa_of (pa_cons pe_w pa_w hs) fun σ G H a Q q => h σ G H a _ fun ρ M1 x G1 H1 h1 s1 a1 r1 => h1 σ G1 H1 a1 _ fun ρs M2 xs G2 H2 h2 s2 a2 r2 =>
    q (ρ :: ρs) M2 (x :: xs) G2 H2 h2 (s1.trans s2) a2 ⟨ρ.mono _ _ _ s2 r1, r2⟩
theorem wk_nil {Φ : List Rep → Ow → Prop} (k : Φ [] M) : WK X E Γ M [] Φ := wk_of pk_nil fun σ G H a Q q => q [] M [] G H k (Same.refl _) a trivial
theorem wk_cons {nm : Option Str} {kpos : Pos} {es : List Keyword} {Φ : List Rep → Ow → Prop} (h : WE X E Γ M e fun ρ M1 => WK X E Γ M1 es fun ρs M2 => Φ (ρ :: ρs) M2) : WK X E Γ M (⟨nm, e, kpos⟩ :: es) Φ :=
  wk_of (pk_cons pe_w pk_w) fun σ G H a Q q => h σ G H a _ fun ρ M1 x G1 H1 h1 s1 a1 r1 => h1 σ G1 H1 a1 _ fun ρs M2 xs G2 H2 h2 s2 a2 r2 =>
    q (ρ :: ρs) M2 (x :: xs) G2 H2 h2 (s1.trans s2) a2 ⟨ρ.mono _ _ _ s2 r1, r2⟩
theorem szOf {n : Nat} (h : n ≤ 100000) : n ≤ sizeLine := Nat.le_trans h (by decide)
theorem we_tup {es : List Expr} {x1} (h : WA X E Γ M es fun ρs M' => ρs.length ≤ 100000 ∧ Φ (RTt ρs) M') : WE X E Γ M (.Tuple es x1 pos) Φ :=
  we_of (pe_tup pa_w) fun σ G H a Q q => h σ G H a _ fun ρs M' vs G1 H1 ⟨hl, hk⟩ s1 a1 r1 => ⟨by rw [← r1.length]; exact szOf hl, fun p hp =>
    let n : New G1 H1 (upd G1 p (.tup vs)) (upd H1 p (.tup vs)) := New.put a1.gh hp
    q _ M' _ _ _ hk (s1.trans n.gg) (a1.new n) ⟨p, vs, rfl, upd_same, r1.mono n.gg⟩⟩
/-- a list, to stay as it is -/
theorem we_lst {es : List Expr} (h : WA X E Γ M es fun ρs M' => ρs.length ≤ 100000 ∧ Φ (RLt ρs) M') : WE X E Γ M (.List es pos) Φ :=
  we_of (pe_lst pa_w) fun σ G H a Q q => h σ G H a _ fun ρs M' vs G1 H1 ⟨hl, hk⟩ s1 a1 r1 => ⟨by rw [← r1.length]; exact szOf hl, fun p hp =>
    let n : New G1 H1 (upd G1 p (.lst vs)) (upd H1 p (.lst vs)) := New.put a1.gh hp
    q _ M' _ _ _ hk (s1.trans n.gg) (a1.new n) ⟨p, vs, rfl, upd_same, r1.mono n.gg⟩⟩
/-- a list, owned -/
theorem we_lstO {es : List Expr} (h : WA X E Γ M es fun ρs M' => ρs.length ≤ 100000 ∧ ∀ p, p ∉ M'.map (·.1) → p ∉ E.M → Φ (RRef p) ((p, OL ρs) :: M')) (hE : ∀ a ∈ E.M, E.H a ≠ none) : WE X E Γ M (.List es pos) Φ :=
  we_of (pe_lst pa_w) fun σ G H a Q q => h σ G H a _ fun ρs M' vs G1 H1 ⟨hl, hk⟩ s1 a1 r1 => ⟨by rw [← r1.length]; exact szOf hl, fun p hp =>
    q _ _ _ _ _ (hk p (a1.freshM hp) fun z => hE p z (a1.fresh hp)) s1 (a1.own1 hp ⟨vs, rfl, r1⟩) rfl⟩

/-! ### subscripts -/
theorem we_ix {r : R2} (hr : IxR X r) (h : WE X E Γ M a fun ρa Ma => WE X E Γ Ma b fun ρb Mb => OpW E Γ Mb r ρa ρb Φ) (hs : PlainIx b := by exact fun _ _ => rfl) : WE X E Γ M (.Subscript a b pos) Φ :=
  we_of (pe_ix hr pe_w pe_w hs) (wte_op h)
/-! ### attributes -/
/-- what a field of a thing is -/
def HasF (K : PySem.W.Frag) (ρ : Rep) (f : Str) (ρf : Rep) : Prop := ∀ v G, ρ.p v G → ∃ a C dx fs w, v = .ref a ∧ G a = some (.ins C dx fs) ∧ Cls K C ∧ NoAttr K C f ∧ fs.lookup f = some w ∧ ρf.p w G
theorem hasF_ins {K : PySem.W.Frag} {C : Addr} {l : List (Str × Rep)} {f : Str} {ρ : Rep} (c : Cls K C) (n : NoAttr K C f) (h : l.lookup f = some ρ) : HasF K (RIns C l) f ρ := fun v G ⟨a, dx, fs, e, hG, r⟩ =>
  let ⟨w, e2, r2⟩ := r.look h; ⟨a, C, dx, fs, w, e, hG, c, n, e2, r2⟩
theorem HasF.sub {K : PySem.W.Frag} {ρ ρ' ρf : Rep} {f : Str} (s : Sub ρ ρ') (h : HasF K ρ' f ρf) : HasF K ρ f ρf := fun v G r => h v G (s v G r)
theorem we_fld {f : Str} (h : WE X E Γ M a fun ρ M' => ∃ ρf, HasF X.K ρ f ρf ∧ Φ ρf M') (hb : attributeBase a f X.env (eval a X.env) = eval a X.env := by rfl) : WE X E Γ M (.Attribute a f pos) Φ :=
  we_of (pe_fld pe_w hb) fun σ G H at' Q q => h σ G H at' _ fun ρ M' v G1 H1 ⟨ρf, hf, hk⟩ s1 a1 r1 =>
    let ⟨b, C, dx, fs, w, e1, e2, c, n, e3, r2⟩ := hf v G1 r1
    ⟨b, C, dx, fs, w, e1, a1.gh _ _ e2, c, n, e3, q ρf M' w G1 H1 hk s1 a1 r2⟩
/-- of an owned object -/
theorem we_fldO {f : Str} (h : WE X E Γ M a fun ρ M' => ∃ p C l ρf u, Sub ρ (RRef p) ∧ Fnd M' p (OIns C l) u ∧ Cls X.K C ∧ NoAttr X.K C f ∧ l.lookup f = some ρf ∧ Φ ρf M') (hb : attributeBase a f X.env (eval a X.env) = eval a X.env := by rfl) : WE X E Γ M (.Attribute a f pos) Φ :=
  we_of (pe_fld pe_w hb) fun σ G H at' Q q => h σ G H at' _ fun ρ M' v G1 H1 ⟨p, C, l, ρf, u, sb, fd, c, n, e3, hk⟩ s1 a1 r1 => by
    obtain ⟨o, e1, dx, fs, e2, r2⟩ := a1.own _ fd.mem
    subst e2
    obtain ⟨w, e4, r4⟩ := r2.look e3
    exact ⟨p, C, dx, fs, w, sb _ _ r1, e1, c, n, e4, q ρf M' w G1 H1 hk s1 a1 r4⟩
/-! ### statements -/
variable {Ψ : Ed} {st : Stmt} {rest : List Stmt}
theorem wss_nil (h : Ψ.nx Γ M) : WSs X E Γ M [] Ψ := wss_of pss_nil fun σ G H a D k => k.nx Γ M h σ G H (Same.refl _) a
theorem wts_seq {t u : TS} (h : WTS E Γ M t { Ψ with nx := fun Γ' M' => WTS E Γ' M' u Ψ }) : WTS E Γ M (tSeq t u) Ψ := fun σ G H a D k =>
  h σ G H a _ ⟨fun Γ' M' h' σ' G' H' s' a' => h' σ' G' H' a' D (k.mono s'), k.rt, k.bk, k.ct⟩
theorem wss_cons (h : WS X E Γ M st { Ψ with nx := fun Γ' M' => WSs X E Γ' M' rest Ψ }) : WSs X E Γ M (st :: rest) Ψ := wss_of (pss_cons ps_w pss_w) (wts_seq h)
theorem wss_one (h : WS X E Γ M st Ψ) : WSs X E Γ M [st] Ψ := wss_of (pss_one ps_w) h
theorem ws_pass (h : Ψ.nx Γ M) : WS X E Γ M (.Pass pos) Ψ := ws_of ps_pass fun σ G H a D k => k.nx Γ M h σ G H (Same.refl _) a
theorem ws_brk (h : Ψ.bk Γ M) : WS X E Γ M (.Break pos) Ψ := ws_of ps_break fun σ G H a D k => k.bk Γ M h σ G H (Same.refl _) a
theorem ws_cont (h : Ψ.ct Γ M) : WS X E Γ M (.Continue pos) Ψ := ws_of ps_continue fun σ G H a D k => k.ct Γ M h σ G H (Same.refl _) a
theorem ws_expr (h : WE X E Γ M e fun _ M' => Ψ.nx Γ M') (hs : swapsWith e none pos.line X.env = pure false := by rfl) : WS X E Γ M (.Expr e pos) Ψ :=
  ws_of (ps_expr pe_w hs) fun σ G H a D k => h σ G H a _ fun ρ M' v G' H' h' s' a' r' => k.nx Γ M' h' σ G' H' s' a'
theorem ws_ret (h : WE X E Γ M e Ψ.rt) : WS X E Γ M (.Return (some e) pos) Ψ :=
  ws_of (ps_ret pe_w) fun σ G H a D k => h σ G H a _ fun ρ M' v G' H' h' s' a' r' => k.rt ρ M' h' v G' H' s' a'.env0 r'
theorem ws_retN (h : Ψ.rt RN M) : WS X E Γ M (.Return none pos) Ψ :=
  ws_of ps_retN fun σ G H a D k => k.rt RN M h _ G H (Same.refl _) a.env0 rfl
theorem ws_if {c : Expr} {b1 b2 : List Stmt} (h : WT X E Γ M c fun k M' => (k = true → WSs X E Γ M' b1 Ψ) ∧ (k = false → WSs X E Γ M' b2 Ψ)) : WS X E Γ M (.If c b1 b2 pos) Ψ :=
  ws_of (ps_if pt_w pss_w pss_w) fun σ G H a D k => h σ G H a _ fun b M' G' H' hk s1 a1 => by
    cases b with
    | true =>
      show tWSs X _ D σ H'
      exact hk.1 rfl σ G' H' a1 D (k.mono s1)
    | false =>
      show tWSs X _ D σ H'
      exact hk.2 rfl σ G' H' a1 D (k.mono s1)
theorem ws_set (i : Nat) {x : Str} {pos' : Pos} (w : Wr1 X i x) (h : WE X E Γ M e fun ρ M' => Ψ.nx (Γ.set i (some ρ)) M') (hs : swapsWith e (some (.Name x pos')) pos.line X.env = pure false := by rfl) : WS X E Γ M (.Assign [.Name x pos'] e pos) Ψ :=
  ws_of (ps_set w.nd w.at_ w.loc pe_w hs w.fn) fun σ G H a D k => h σ G H a _ fun ρ M' v G' H' h' s' a' r' => k.nx _ M' h' _ G' H' s' (a'.set r')
theorem ws_asg {tg : Expr} (h : WE X E Γ M e fun ρ M' => WG X E Γ M' tg ρ Ψ.nx) (hs : swapsWithSole [tg] e pos.line X.env = pure false := by rfl) (hw : swappedStores [tg] e X.env = pure none := by rfl)
    (h1 : (assignEach [tg] X.env).map (·.2) = [assign tg X.env] := by rfl) : WS X E Γ M (.Assign [tg] e pos) Ψ :=
  ws_of (ps_asg pe_w pg_w hs hw h1) fun σ G H a D k => h σ G H a _ fun ρ M' v G' H' h' s' a' r' => h' σ G' H' a' v r' _ fun Γ2 M2 σ2 G2 H2 h2 s2 a2 => k.nx Γ2 M2 h2 σ2 G2 H2 (s'.trans s2) a2
/-- a, b = x, y with plain local names -/
theorem ws_par (i j : Nat) {x y : Str} {px py pt : Pos} {kt k2 pt2} (hc : X.calm = true) (wi : Wr1 X i x) (wj : Wr1 X j y) (hij : i ≠ j) (hx : X.env.scope.names.lookup x = some .local) (hy : X.env.scope.names.lookup y = some .local)
    (hw : swappedStores [.Tuple [.Name x px, .Name y py] kt pt] (.Tuple [a, b] k2 pt2) X.env = pure (some [x, y]))
    (h : WA X E Γ M [a, b] fun ρs M' => ∃ ρ1 ρ2, ρs = [ρ1, ρ2] ∧ Ψ.nx ((Γ.set i (some ρ1)).set j (some ρ2)) M')
    (hs : swapsWithSole [.Tuple [.Name x px, .Name y py] kt pt] (.Tuple [a, b] k2 pt2) pos.line X.env = pure false := by rfl) : WS X E Γ M (.Assign [.Tuple [.Name x px, .Name y py] kt pt] (.Tuple [a, b] k2 pt2) pos) Ψ :=
  ws_of (ps_par hc wi.nd wi.at_ wj.at_ hij hx hy pa_w hw hs) fun σ G H a D k => h σ G H a _ fun ρs M' vs G' H' ⟨ρ1, ρ2, e, h'⟩ s' a' r' => by
    subst e
    match vs, r' with
    | [v, w], ⟨r1, r2, _⟩ => exact ⟨v, w, rfl, k.nx _ M' h' _ G' H' s' ((a'.set r1).set r2)⟩
theorem ws_aug (i : Nat) {x : Str} {pos' : Pos} {op : Operator} {r : R2} (w : Wr1 X i x) (ho : OpR X (inplaceOp op) r) {ρ : Rep} (hΓ : Γ[i]? = some (some ρ)) (h : WE X E Γ M e fun ρb M' => OpW E Γ M' r ρ ρb fun ρ' M2 => Ψ.nx (Γ.set i (some ρ')) M2) :
    WS X E Γ M (.AugAssign (.Name x pos') op e pos) Ψ :=
  ws_of (ps_aug (ti := r) w.nd w.at_ w.loc pe_w (fun pins s σ H x y v u Q I r1 r2 hh => augR ho I r1 r2 hh) w.fn) fun σ G H a D k => by
    obtain ⟨v, e1, r1⟩ := a.env i ρ hΓ
    exact ⟨v, e1, h σ G H a _ fun ρb M' y G' H' h' s' a' r' => h' σ G' H' a' v y (ρ.mono _ _ _ s' r1) r' _ fun ρ2 M2 z G2 H2 h2 s2 a2 r2 => k.nx _ M2 h2 _ G2 H2 (s'.trans s2) (a2.set r2)⟩

/-! ### targets -/
variable {ρ : Rep} {Ξ : Gm → Ow → Prop}
theorem wg_name (i : Nat) {x : Str} (w : Wr1 X i x) (h : Ξ (Γ.set i (some ρ)) M) : WG X E Γ M (.Name x pos) ρ Ξ :=
  wg_of (pg_name w.nd w.at_ w.loc w.fn) fun σ G H a v r Q k => k _ M _ G H h (Same.refl _) (a.set r)
theorem wgs_nil (h : Ξ Γ M) : WGs X E Γ M [] [] Ξ :=
  wgs_of pgs_nil fun σ G H a vs r Q k => by
    match vs, r with
    | [], _ => exact ⟨rfl, k _ M _ G H h (Same.refl _) a⟩
theorem wgs_cons {es : List Expr} {ρs : List Rep} (h : WG X E Γ M e ρ fun Γ' M' => WGs X E Γ' M' es ρs Ξ) (hs : (assignEach (e :: es) X.env).map (·.2) = assign e X.env :: (assignEach es X.env).map (·.2) := by rfl) : WGs X E Γ M (e :: es) (ρ :: ρs) Ξ :=
  wgs_of (pgs_cons pg_w pgs_w hs) fun σ G H a vs r Q k => by
    match vs, r with
    | v :: vs, ⟨r1, r2⟩ => exact ⟨v, vs, rfl, h σ G H a v r1 _ fun Γ' M' σ' G' H' h' s' a' => h' σ' G' H' a' vs (r2.mono s') Q fun Γ2 M2 σ2 G2 H2 h2 s2 a2 => k Γ2 M2 σ2 G2 H2 h2 (s'.trans s2) a2⟩
theorem wg_tup {es : List Expr} {k0 : Nat} {n : Nat} {ρs : List Rep} (hc : X.calm = true) (hsub : Sub ρ (RT X.K ρs)) (hl : ρs.length = n) (h : WGs X E Γ M es ρs Ξ) (hn : (assignEach es X.env).length = n := by rfl) (hst : (assignEach es X.env).findIdx? (·.1) = none := by rfl) : WG X E Γ M (.Tuple es k0 pos) ρ Ξ :=
  wg_of (pg_tup hc pgs_w hn hst) fun σ G H a v r Q k => by
    obtain ⟨b, vs, e, hq, rr⟩ := hsub _ _ r
    exact ⟨b, vs, e, same_seqT a.gh hq, by rw [← rr.length]; exact hl, h σ G H a vs rr Q k⟩
end
end MM

namespace MM
open PySem L2 PyProof.Rows
/-! ### what a def promises -/
structure Con where
  I : Type
  B : Type
  pre : I → Prop
  args : I → List Rep
  own : I → Ow
  post : I → B → Prop
  res : I → B → Rep
  own' : I → B → Ow
structure Aft (G H G' H' : Hp) (o o' : Ow) : Prop where
  gg : Same G G'
  gh : Same G' H'
  keep : ∀ a u, a ∉ o.map (·.1) → H a = some u → H' a = some u
  nw : ∀ a, H a ≠ none → G' a ≠ none → G a ≠ none
  own : ∀ q ∈ o', ∃ u, H' q.1 = some u ∧ q.2.p u G'
  gn : ∀ q ∈ o', G' q.1 = none
  nd : (o'.map (·.1)).Nodup
  loc : ∀ q ∈ o', q.1 ∈ o.map (·.1) ∨ H q.1 = none
  there : ∀ a, H a ≠ none → H' a ≠ none
def conSp (c : Con) : Sp := fun vs H Q _ => ∃ (G : Hp) (i : c.I), Same G H ∧ c.pre i ∧ Reps (c.args i) vs G ∧ (∀ q ∈ c.own i, ∃ o, H q.1 = some o ∧ q.2.p o G) ∧ (∀ q ∈ c.own i, G q.1 = none) ∧ ((c.own i).map (·.1)).Nodup ∧
  ∀ x v G' H', c.post i x → Aft G H G' H' (c.own i) (c.own' i x) → (c.res i x).p v G' → Q v H'
/-- own is picked out of M, rest is left -/
inductive Pk : Ow → Ow → Ow → Prop
  | nil {M : Ow} : Pk M [] M
  | cons {M M1 own rest : Ow} {p : Addr} {r r' : ORep} : Rm M p r M1 → OSub r r' → Pk M1 own rest → Pk M ((p, r') :: own) rest
structure PkF (M ow re : Ow) : Prop where
  own : ∀ q ∈ ow, ∃ q' ∈ M, q'.1 = q.1 ∧ OSub q'.2 q.2
  rest : ∀ q ∈ re, q ∈ M
  dis : ∀ q ∈ re, q.1 ∉ ow.map (·.1)
  nd : (re.map (·.1)).Nodup
  ndo : (ow.map (·.1)).Nodup
theorem Pk.f {M own rest : Ow} (h : Pk M own rest) : (M.map (·.1)).Nodup → PkF M own rest := by
  induction h with
  | nil => exact fun nd => ⟨fun q hq => (List.not_mem_nil hq).elim, fun q hq => hq, fun q _ hq => (List.not_mem_nil hq).elim, nd, List.nodup_nil⟩
  | @cons M M1 own rest p r r' rm os pk ih =>
    intro nd
    obtain ⟨nd1, np⟩ := rm.nd nd
    have f := ih nd1
    refine ⟨fun q hq => ?_, fun q hq => rm.sub q (f.rest q hq), fun q hq hm => ?_, f.nd, ?_⟩
    · rcases List.mem_cons.mp hq with e | hq
      · subst e; exact ⟨_, rm.mem, rfl, os⟩
      · obtain ⟨q', h1, h2⟩ := f.own q hq
        exact ⟨q', rm.sub q' h1, h2⟩
    · rw [List.map_cons, List.mem_cons] at hm
      rcases hm with e | hm
      · exact np (List.mem_map.mpr ⟨q, f.rest q hq, e⟩)
      · exact f.dis q hq hm
    · rw [List.map_cons, List.nodup_cons]
      refine ⟨fun hm => ?_, f.ndo⟩
      obtain ⟨z, hz, e⟩ := List.mem_map.mp hm
      obtain ⟨q', h1, h2, _⟩ := f.own z hz
      exact np (List.mem_map.mpr ⟨q', h1, h2.trans e⟩)
section
variable {E : En} {Γ : Gm} {M own own' rest : Ow} {σ : L2.St} {G H G' H' : Hp}
theorem At.picked (a : At E Γ M σ G H) (pk : Pk M own rest) : (∀ q ∈ own, ∃ o, H q.1 = some o ∧ q.2.p o G) ∧ (∀ q ∈ own, G q.1 = none) ∧ (own.map (·.1)).Nodup := by
  have f := pk.f a.nd
  refine ⟨fun q hq => ?_, fun q hq => ?_, f.ndo⟩
  · obtain ⟨q', h1, h2, h3⟩ := f.own q hq
    obtain ⟨o, e, r⟩ := a.own q' h1
    exact ⟨o, by rw [← h2]; exact e, h3 _ _ r⟩
  · obtain ⟨q', h1, h2, h3⟩ := f.own q hq
    rw [← h2]; exact a.gn q' h1
theorem At.aft (a : At E Γ M σ G H) (pk : Pk M own rest) (t : Aft G H G' H' own own') : At E Γ (own' ++ rest) σ G' H' := by
  have f := pk.f a.nd
  have inM : ∀ x, x ∈ own.map (·.1) → ∃ q ∈ M, q.1 = x := fun x hx => by
    obtain ⟨z, hz, e⟩ := List.mem_map.mp hx
    obtain ⟨q', h1, h2, _⟩ := f.own z hz
    exact ⟨q', h1, h2.trans e⟩
  refine ⟨a.len, fun i ρ h => let ⟨v, e, r⟩ := a.env i ρ h; ⟨v, e, ρ.mono _ _ _ t.gg r⟩, t.gh, fun q hq => ?_, fun q hq => ?_, ?_, a.g0.trans t.gg, fun x o h1 h2 => ?_, fun x h1 h2 => a.nw x h1 (t.nw x (a.there x h1) h2), fun q hq => ?_, fun x h => t.there x (a.there x h)⟩
  · rcases List.mem_append.mp hq with hq | hq
    · exact t.own q hq
    · obtain ⟨o, e, r⟩ := a.own q (f.rest q hq)
      exact ⟨o, t.keep _ _ (f.dis q hq) e, q.2.mono _ _ _ t.gg r⟩
  · rcases List.mem_append.mp hq with hq | hq
    · exact t.gn q hq
    · obtain ⟨o, e, r⟩ := a.own q (f.rest q hq)
      cases z : G' q.1 with
      | none => rfl
      | some u => exact absurd (a.gn q (f.rest q hq)) (t.nw q.1 (ne_none e) (ne_none z))
  · rw [List.map_append, List.nodup_append]
    refine ⟨t.nd, f.nd, fun x hx y hy e => ?_⟩
    obtain ⟨q, hq, e1⟩ := List.mem_map.mp hx
    obtain ⟨z, hz, e2⟩ := List.mem_map.mp hy
    have e3 : q.1 = z.1 := e1.trans (e.trans e2.symm)
    rcases t.loc q hq with h | h
    · exact f.dis z hz (by rw [← e3]; exact h)
    · obtain ⟨o, e4, _⟩ := a.own z (f.rest z hz)
      rw [← e3, h] at e4; cases e4
  · have h3 := a.keep x o h1 h2
    refine t.keep x o (fun hm => ?_) h3
    obtain ⟨q, hq, e⟩ := inM x hm
    rcases a.loc q hq with z | z
    · rw [e] at z; exact h1 z
    · rw [e, h2] at z; cases z
  · rcases List.mem_append.mp hq with hq | hq
    · rcases t.loc q hq with h | h
      · obtain ⟨q', h1, h2⟩ := inM _ h
        rw [← h2]; exact a.loc q' h1
      · exact .inr (a.fresh h)
    · exact a.loc q (f.rest q hq)
end
/-- what is left to show at a call: the values are as the promise asks, the owned things are there; behind it goes on -/
def CallK (c : Con) (ρs : List Rep) (M : Ow) (Φ : Rep → Ow → Prop) : Prop :=
  ∃ (i : c.I) (rest : Ow), c.pre i ∧ SubL ρs (c.args i) ∧ Pk M (c.own i) rest ∧ ∀ x, c.post i x → Φ (c.res i x) (c.own' i x ++ rest)
theorem callK_run {E : En} {Γ : Gm} {M : Ow} {σ : L2.St} {G H : Hp} {c : Con} {ρs : List Rep} {vs : List V} {Φ : Rep → Ow → Prop} {Q : VK} {EE : XK} (h : CallK c ρs M Φ) (a : At E Γ M σ G H) (r : Reps ρs vs G)
    (k : ∀ ρ M' v G' H', Φ ρ M' → Same G G' → At E Γ M' σ G' H' → ρ.p v G' → Q v H') : conSp c vs H Q EE := by
  obtain ⟨i, rest, hp, sb, pk, hk⟩ := h
  obtain ⟨o1, o2, o3⟩ := a.picked pk
  exact ⟨G, i, a.gh, hp, sb.reps r, o1, o2, o3, fun x v G' H' px t rv => k _ _ v G' H' (hk x px) t.gg (a.aft pk t) rv⟩
/-- a def that the module's name x holds; dvs: the defaults that fill up -/
def Kn (P : Program) (w : World) (K : PySem.W.Frag) (mg : Str → Option Value) (base : Heap) (k : Nat) (x : Str) (dvs : List V) (c : Con) : Prop :=
  ∃ (f : Addr) (fd : FuncData) (ps : List Str) (ds : List Value), mg x = some (.ref f) ∧ PySem.W.keepIn K (.ref f) = true ∧ Binds K fd ps ds ∧ Vals dvs ds ∧ FnOk P w K mg base CX0 k f fd ps (conSp c)
theorem reps_RV {G : Hp} : ∀ dvs : List V, Reps (dvs.map RV) dvs G
  | [] => trivial
  | _ :: dvs => ⟨rfl, reps_RV dvs⟩
section
variable {X : Cx} {E : En} {Γ : Gm} {M : Ow} {a b e : Expr} {es : List Expr} {pos p apos : Pos} {Φ : Rep → Ow → Prop} {k : Nat} {x : Str} {dvs : List V} {c : Con}
theorem we_call (F : Kn X.prog X.w X.K X.mg X.base k x dvs c) (hr : Room k X.A) (hg : Gl X x) (hx : Passes CX0 X E0)
    (h : WA X E Γ M (e :: es) fun ρs M' => CallK c (ρs ++ dvs.map RV) M' Φ)
    (hdb : (x == ("__debug__" : Str)) = false := by decide) (he : starEach (e :: es) X.env = (false, eval e X.env) :: starEach es X.env := by rfl) (hpl : (backTo pos (starEach es X.env)).any (·.1) = false := by rfl) :
    WE X E Γ M (.Call (.Name x p) (e :: es) [] pos) Φ := by
  obtain ⟨f, fd, ps, ds, hm, hk, hb, hd, F⟩ := F
  refine we_of (pe_call F hr hg hm hk hb hd hx pa_w hdb he hpl) fun σ G H a Q q => ?_
  exact h σ G H a _ fun ρs M' vs G1 H1 hh s1 a1 r1 => callK_run hh a1 (r1.app (reps_RV dvs)) fun ρ M2 v G2 H2 h2 s2 => q ρ M2 v G2 H2 h2 (s1.trans s2)
theorem we_call0 (F : Kn X.prog X.w X.K X.mg X.base k x dvs c) (hr : Room k X.A) (hg : Gl X x) (hx : Passes CX0 X E0)
    (h : CallK c (dvs.map RV) M Φ) (hdb : (x == ("__debug__" : Str)) = false := by decide) : WE X E Γ M (.Call (.Name x p) [] [] pos) Φ := by
  obtain ⟨f, fd, ps, ds, hm, hk, hb, hd, F⟩ := F
  refine we_of (pe_call0 F hr hg hm hk hb hd hx hdb) fun σ G H a Q q => ?_
  show conSp c ([] ++ dvs) H Q E0
  exact callK_run h a (reps_RV dvs) q
/-! ### methods of own classes -/
def KnM (P : Program) (w : World) (K : PySem.W.Frag) (mg : Str → Option Value) (base : Heap) (k : Nat) (C : Addr) (m : Str) (dvs : List V) (c : Con) : Prop :=
  ∃ (f : Addr) (fd : FuncData) (ps : List Str) (ds : List Value), Meth K C m f ∧ Cls K C ∧ Binds K fd ps ds ∧ Vals dvs ds ∧ FnOk P w K mg base CX0 k f fd ps (conSp c)
def HasI (ρ : Rep) (C : Addr) (m : Str) : Prop := ∀ v G, ρ.p v G → ∃ a dx fs, v = .ref a ∧ G a = some (.ins C dx fs) ∧ fs.lookup m = none
theorem hasI_ins {C : Addr} {l : List (Str × Rep)} {m : Str} (h : l.lookup m = none) : HasI (RIns C l) C m := fun v G ⟨a, dx, fs, e, hG, r⟩ => ⟨a, dx, fs, e, hG, r.miss h⟩
theorem HasI.sub {ρ ρ' : Rep} {C : Addr} {m : Str} (s : Sub ρ ρ') (h : HasI ρ' C m) : HasI ρ C m := fun v G r => h v G (s v G r)
theorem we_meth {C : Addr} {m : Str} {o : Expr} {pl : Sem Bool} (F : KnM X.prog X.w X.K X.mg X.base k C m dvs c) (hr : Room k X.A) (hx : Passes CX0 X E0)
    (h : WE X E Γ M o fun ρ M1 => HasI ρ C m ∧ WA X E Γ M1 (e :: es) fun ρs M' => CallK c (ρ :: (ρs ++ dvs.map RV)) M' Φ)
    (hst : starEach (e :: es) X.env = (false, eval e X.env) :: starEach es X.env := by rfl) (hpl : (backTo pos (starEach es X.env)).any (·.1) = false := by rfl)
    (ht : eval (.Call (.Attribute o m apos) (e :: es) [] pos) X.env = (do
      let ov ← eval o X.env
      standAt apos.atName
      let (f, first) ← holding [ov] (getMethod ov m pl)
      callWith pos f first (backTo pos (starEach (e :: es) X.env)) (backToKw pos (keywordEach [] X.env))) := by rfl) :
    WE X E Γ M (.Call (.Attribute o m apos) (e :: es) [] pos) Φ := by
  obtain ⟨f, fd, ps, ds, hm, hc, hb, hd, F⟩ := F
  refine we_of (pe_meth pe_w hc hm F hr hb hd hx pa_w hst hpl ht) fun σ G H a Q q => ?_
  exact h σ G H a _ fun ρ M1 v G1 H1 ⟨hi, h1⟩ s1 a1 r1 => by
    obtain ⟨b, dx, fs, e1, e2, e3⟩ := hi v G1 r1
    refine ⟨b, dx, fs, e1, a1.gh _ _ e2, e3, h1 σ G1 H1 a1 _ fun ρs M' vs G2 H2 hh s2 a2 r2 => ?_⟩
    exact callK_run hh a2 ⟨ρ.mono _ _ _ s2 r1, r2.app (reps_RV dvs)⟩ fun ρ' M3 w G3 H3 h3 s3 => q ρ' M3 w G3 H3 h3 ((s1.trans s2).trans s3)
theorem we_meth0 {C : Addr} {m : Str} {o : Expr} {pl : Sem Bool} (F : KnM X.prog X.w X.K X.mg X.base k C m dvs c) (hr : Room k X.A) (hx : Passes CX0 X E0)
    (h : WE X E Γ M o fun ρ M1 => HasI ρ C m ∧ CallK c (ρ :: dvs.map RV) M1 Φ)
    (ht : eval (.Call (.Attribute o m apos) [] [] pos) X.env = (do
      let ov ← eval o X.env
      standAt apos.atName
      let (f, first) ← holding [ov] (getMethod ov m pl)
      callWith pos f first (backTo pos (starEach [] X.env)) (backToKw pos (keywordEach [] X.env))) := by rfl) :
    WE X E Γ M (.Call (.Attribute o m apos) [] [] pos) Φ := by
  obtain ⟨f, fd, ps, ds, hm, hc, hb, hd, F⟩ := F
  refine we_of (pe_meth0 pe_w hc hm F hr hb hd hx ht) fun σ G H a Q q => ?_
  exact h σ G H a _ fun ρ M1 v G1 H1 ⟨hi, h1⟩ s1 a1 r1 => by
    obtain ⟨b, dx, fs, e1, e2, e3⟩ := hi v G1 r1
    refine ⟨b, dx, fs, e1, a1.gh _ _ e2, e3, ?_⟩
    show conSp c (v :: ([] ++ dvs)) H1 Q E0
    exact callK_run h1 a1 ⟨r1, reps_RV dvs⟩ fun ρ' M3 w G3 H3 h3 s3 => q ρ' M3 w G3 H3 h3 (s1.trans s3)
/-! ### a new object -/
def KnC (P : Program) (w : World) (K : PySem.W.Frag) (mg : Str → Option Value) (base : Heap) (k : Nat) (x : Str) (C : Addr) (dvs : List V) (c : Con) : Prop :=
  ∃ (f : Addr) (fd : FuncData) (ps : List Str) (ds : List Value), mg x = some (.ref C) ∧ Mk K C f ∧ Binds K fd ps ds ∧ Vals dvs ds ∧ FnOk P w K mg base CX0 k f fd ps (conSp c)
/-- __init__ is called on a new thing at p; behind it the thing is to stay as it is -/
def MakeK (E : En) (C : Addr) (c : Con) (ρs : List Rep) (M : Ow) (Φ : Rep → Ow → Prop) : Prop :=
  ∀ p, p ∉ M.map (·.1) → p ∉ E.M → CallK c (RRef p :: ρs) ((p, OIns C []) :: M) fun ρ M' => Sub ρ RN ∧ ∃ l M2, Rm M' p (OIns C l) M2 ∧ Φ (RIns C l) M2
/-- .. or to stay owned -/
def MakeO (E : En) (C : Addr) (c : Con) (ρs : List Rep) (M : Ow) (Φ : Rep → Ow → Prop) : Prop :=
  ∀ p, p ∉ M.map (·.1) → p ∉ E.M → CallK c (RRef p :: ρs) ((p, OIns C []) :: M) fun ρ M' => Sub ρ RN ∧ Φ (RRef p) M'
theorem make_run {C : Addr} {σ : L2.St} {G H : Hp} {ρs : List Rep} {vs : List V} {Q : VK} (hE : ∀ a ∈ E.M, E.H a ≠ none) (h : MakeK E C c ρs M Φ) (a : At E Γ M σ G H) (r : Reps ρs vs G)
    (q : ∀ ρ M' v G' H', Φ ρ M' → Same G G' → At E Γ M' σ G' H' → ρ.p v G' → Q v H') :
    ∀ x dx, H x = none → H dx = none → dx ≠ x → conSp c (.ref x :: vs) (upd (upd H dx (.own x)) x (.ins C dx [])) (fun v H2 => v = .non ∧ Q (.ref x) H2) E0 := fun x dx nx nd ne => by
  have n1 : New G H G (upd H dx (.own x)) := New.side a.gh nd
  have a1 := a.new n1
  have nx1 : upd H dx (.own x) x = none := by rw [upd_ne (Ne.symm ne)]; exact nx
  have hpE : x ∉ E.M := fun z => hE x z (a.fresh nx)
  have a2 := a1.own1 (r := OIns C []) nx1 ⟨dx, [], rfl, trivial⟩
  refine callK_run (h x (a.freshM nx) hpE) a2 ⟨rfl, r⟩ fun ρ M' v G' H' ⟨sb, l, M2, rm, hΦ⟩ s' a' r' => ⟨sb _ _ r', ?_⟩
  obtain ⟨o, e1, ⟨dx', fs, e2, rf⟩, sg, a3⟩ := a'.freeze rm hpE
  subst e2
  exact q _ _ _ _ _ hΦ (s'.trans sg) a3 ⟨x, dx', fs, rfl, upd_same, rf.mono sg⟩
theorem makeO_run {C : Addr} {σ : L2.St} {G H : Hp} {ρs : List Rep} {vs : List V} {Q : VK} (hE : ∀ a ∈ E.M, E.H a ≠ none) (h : MakeO E C c ρs M Φ) (a : At E Γ M σ G H) (r : Reps ρs vs G)
    (q : ∀ ρ M' v G' H', Φ ρ M' → Same G G' → At E Γ M' σ G' H' → ρ.p v G' → Q v H') :
    ∀ x dx, H x = none → H dx = none → dx ≠ x → conSp c (.ref x :: vs) (upd (upd H dx (.own x)) x (.ins C dx [])) (fun v H2 => v = .non ∧ Q (.ref x) H2) E0 := fun x dx nx nd ne => by
  have n1 : New G H G (upd H dx (.own x)) := New.side a.gh nd
  have a1 := a.new n1
  have nx1 : upd H dx (.own x) x = none := by rw [upd_ne (Ne.symm ne)]; exact nx
  have hpE : x ∉ E.M := fun z => hE x z (a.fresh nx)
  have a2 := a1.own1 (r := OIns C []) nx1 ⟨dx, [], rfl, trivial⟩
  exact callK_run (h x (a.freshM nx) hpE) a2 ⟨rfl, r⟩ fun ρ M' v G' H' ⟨sb, hΦ⟩ s' a' r' => ⟨sb _ _ r', q _ _ _ _ _ hΦ s' a' rfl⟩
theorem we_make {C : Addr} (F : KnC X.prog X.w X.K X.mg X.base k x C dvs c) (hr : Room (k + 1) X.A) (hg : Gl X x) (hx : Passes CX0 X E0) (hE : ∀ a ∈ E.M, E.H a ≠ none)
    (h : WA X E Γ M (e :: es) fun ρs M' => MakeK E C c (ρs ++ dvs.map RV) M' Φ)
    (hdb : (x == ("__debug__" : Str)) = false := by decide) (he : starEach (e :: es) X.env = (false, eval e X.env) :: starEach es X.env := by rfl) (hpl : (backTo pos (starEach es X.env)).any (·.1) = false := by rfl) :
    WE X E Γ M (.Call (.Name x p) (e :: es) [] pos) Φ := by
  obtain ⟨f, fd, ps, ds, hm, Mk, hb, hd, F⟩ := F
  refine we_of (pe_make Mk F hr hg hm hb hd hx pa_w hdb he hpl) fun σ G H a Q q => ?_
  exact h σ G H a _ fun ρs M' vs G1 H1 hh s1 a1 r1 => make_run hE hh a1 (r1.app (reps_RV dvs)) fun ρ M2 v G2 H2 h2 s2 => q ρ M2 v G2 H2 h2 (s1.trans s2)
theorem we_makeO {C : Addr} (F : KnC X.prog X.w X.K X.mg X.base k x C dvs c) (hr : Room (k + 1) X.A) (hg : Gl X x) (hx : Passes CX0 X E0) (hE : ∀ a ∈ E.M, E.H a ≠ none)
    (h : WA X E Γ M (e :: es) fun ρs M' => MakeO E C c (ρs ++ dvs.map RV) M' Φ)
    (hdb : (x == ("__debug__" : Str)) = false := by decide) (he : starEach (e :: es) X.env = (false, eval e X.env) :: starEach es X.env := by rfl) (hpl : (backTo pos (starEach es X.env)).any (·.1) = false := by rfl) :
    WE X E Γ M (.Call (.Name x p) (e :: es) [] pos) Φ := by
  obtain ⟨f, fd, ps, ds, hm, Mk, hb, hd, F⟩ := F
  refine we_of (pe_make Mk F hr hg hm hb hd hx pa_w hdb he hpl) fun σ G H a Q q => ?_
  exact h σ G H a _ fun ρs M' vs G1 H1 hh s1 a1 r1 => makeO_run hE hh a1 (r1.app (reps_RV dvs)) fun ρ M2 v G2 H2 h2 s2 => q ρ M2 v G2 H2 h2 (s1.trans s2)

/-! ### stores into owned things -/
variable {Ψ : Ed} {Ξ : Gm → Ow → Prop}
theorem putR_new {f : Str} {ρ : Rep} : ∀ {l : List (Str × Rep)}, l.lookup f = none → putR f ρ l = l ++ [(f, ρ)]
  | [], _ => rfl
  | (g, r) :: l, h => by
    rw [List.lookup_cons] at h
    cases q : f == g with
    | true => rw [q] at h; simp at h
    | false =>
      rw [q] at h
      have ne : ¬ g = f := fun z => by subst z; simp at q
      unfold putR
      rw [if_neg ne, putR_new (l := l) h]; rfl
theorem ws_fld {o value : Expr} {f : Str} {pos' : Pos} (h : WE X E Γ M value fun ρv M1 => WE X E Γ M1 o fun ρo M2 => ∃ p C l u, Sub ρo (RRef p) ∧ Fnd M2 p (OIns C l) u ∧ Cls X.K C ∧ NoAttr X.K C f ∧ l.length < 1000 ∧ Ψ.nx Γ (u (OIns C (putR f ρv l))))
    (hs : swapsWith value (some (.Attribute o f pos')) pos.line X.env = pure false := by rfl) : WS X E Γ M (.Assign [.Attribute o f pos'] value pos) Ψ :=
  ws_of (ps_fld pe_w pe_w hs) fun σ G H a D k => h σ G H a _ fun ρv M1 v G1 H1 h1 s1 a1 r1 => h1 σ G1 H1 a1 _ fun ρo M2 y G2 H2 ⟨p, C, l, u, sb, fd, cl, na, hl, hk⟩ s2 a2 r2 => by
    obtain ⟨o, e1, dx, fs, e2, rf⟩ := a2.own _ fd.mem
    subst e2
    refine ⟨p, C, dx, fs, sb _ _ r2, e1, cl, na, by rw [← rf.len]; exact hl, ?_⟩
    exact k.nx _ _ hk _ _ _ (s1.trans s2) (a2.write fd ⟨dx, _, rfl, rf.put (ρv.mono _ _ _ s2 r1)⟩)
theorem wg_setL {o i : Expr} {ρ : Rep} (h : WE X E Γ M o fun ρo M1 => WE X E Γ M1 i fun ρi M2 => ∃ p ρs z j u, Sub ρo (RRef p) ∧ Sub ρi (RI z) ∧ Fnd M2 p (OL ρs) u ∧ ixN ρs.length z = some j ∧ Ξ Γ (u (OL (ρs.set j ρ))))
    (ha : ∀ v, assign (.Subscript o i pos) X.env v = (do
      let ov ← holding [v] (eval o X.env)
      let iv ← holding [v, ov] (eval i X.env)
      standAt pos
      holding [v, ov, iv] (setItem ov iv v)
      release [v, ov, iv] []) := by intro _; rfl) : WG X E Γ M (.Subscript o i pos) ρ Ξ :=
  wg_of (pg_sub pe_w pe_w set_list ha) fun σ G H a v r Q k => h σ G H a _ fun ρo M1 y G1 H1 h1 s1 a1 r1 => h1 σ G1 H1 a1 _ fun ρi M2 w G2 H2 ⟨p, ρs, z, j, u, sb, si, fd, hj, hk⟩ s2 a2 r2 => by
    obtain ⟨o, e1, vs, e2, rf⟩ := a2.own _ fd.mem
    subst e2
    refine ⟨p, vs, z, j, sb _ _ (ρo.mono _ _ _ s2 r1), si _ _ r2, e1, by rw [← rf.length]; exact hj, ?_⟩
    exact k _ _ _ _ _ hk (s1.trans s2) (a2.write fd ⟨_, rfl, rf.set (ρ.mono _ _ _ (s1.trans s2) r) j⟩)
/-! ### methods of built-in types -/
def MtW (E : En) (Γ : Gm) (M : Ow) (r : V → List V → Hp → VK → Prop) (ρo : Rep) (ρs : List Rep) (Φ : Rep → Ow → Prop) : Prop :=
  ∀ σ G H, At E Γ M σ G H → ∀ x vs, ρo.p x G → Reps ρs vs G → ∀ Q : VK, (∀ ρ M' v G' H', Φ ρ M' → Same G G' → At E Γ M' σ G' H' → ρ.p v G' → Q v H') → r x vs H Q
def TyW (E : En) (Γ : Gm) (M : Ow) (K : PySem.W.Frag) (T : String) (ρo : Rep) : Prop := ∀ σ G H, At E Γ M σ G H → ∀ x, ρo.p x G → tyV K T x H
theorem we_bm {o : Expr} {name : Str} {T id : String} {r : V → List V → Hp → VK → Prop} (pa : PlainAttrs T) (slot : Slot T name id) (hty : typeOf (.builtin id) = pure (.type "method_descriptor")) (hm : MtR X id r)
    (h : WE X E Γ M o fun ρo M1 => TyW E Γ M1 X.K T ρo ∧ WA X E Γ M1 (e :: es) fun ρs M2 => MtW E Γ M2 r ρo ρs Φ)
    (hbase : attributeBase o name X.env (eval o X.env) = eval o X.env := by rfl)
    (hfew : ((backTo pos (starEach (e :: es) X.env)).all (fun x => !x.1) && (backToKw pos (keywordEach [] X.env)).all (fun x => x.1.isSome)
      && decide ((e :: es).length + ([] : List Keyword).length + (if ([] : List Keyword).isEmpty then 0 else 1) < 30)) = true := by rfl)
    (hline : (apos.endLine == pos.line) = true := by rfl) (hs : starEach (e :: es) X.env = (false, eval e X.env) :: starEach es X.env := by rfl) (hplain : (backTo pos (starEach es X.env)).any (·.1) = false := by rfl) :
    WE X E Γ M (.Call (.Attribute o name apos) (e :: es) [] pos) Φ :=
  we_of (pe_bm pa slot hty hm pe_w pa_w hbase hfew hline hs hplain) fun σ G H a Q q => h σ G H a _ fun ρo M1 y G1 H1 ⟨ty, h1⟩ s1 a1 r1 =>
    ⟨ty σ G1 H1 a1 y r1, h1 σ G1 H1 a1 _ fun ρs M2 vs G2 H2 h2 s2 a2 r2 => h2 σ G2 H2 a2 y vs (ρo.mono _ _ _ s2 r1) r2 Q fun ρ M3 v G3 H3 h3 s3 => q ρ M3 v G3 H3 h3 ((s1.trans s2).trans s3)⟩
theorem we_bm0 {o : Expr} {name : Str} {T id : String} {r : V → List V → Hp → VK → Prop} (pa : PlainAttrs T) (slot : Slot T name id) (hty : typeOf (.builtin id) = pure (.type "method_descriptor")) (hm : MtR X id r)
    (h : WE X E Γ M o fun ρo M1 => TyW E Γ M1 X.K T ρo ∧ MtW E Γ M1 r ρo [] Φ)
    (hbase : attributeBase o name X.env (eval o X.env) = eval o X.env := by rfl) (hline : (apos.endLine == pos.line) = true := by rfl) :
    WE X E Γ M (.Call (.Attribute o name apos) [] [] pos) Φ :=
  we_of (pe_bm0 pa slot hty hm pe_w hbase hline) fun σ G H a Q q => h σ G H a _ fun ρo M1 y G1 H1 ⟨ty, h1⟩ s1 a1 r1 =>
    ⟨ty σ G1 H1 a1 y r1, h1 σ G1 H1 a1 y [] r1 trivial Q fun ρ M3 v G3 H3 h3 s3 => q ρ M3 v G3 H3 h3 (s1.trans s3)⟩
theorem tyw_str {K : PySem.W.Frag} {s : Str} : TyW E Γ M K "str" (RS s) := fun σ G H a x h => by
  have h : x = .str s := h
  subst h; rfl
theorem tyw_listO {K : PySem.W.Frag} {p : Addr} {ρ : Rep} {ρs : List Rep} {u : ORep → Ow} (sb : Sub ρ (RRef p)) (fd : Fnd M p (OL ρs) u) : TyW E Γ M K "list" ρ := fun σ G H a x h => by
  have h : x = .ref p := sb _ _ h
  subst h
  obtain ⟨o, e1, vs, e2, rf⟩ := a.own _ fd.mem
  subst e2
  exact .inl ⟨rfl, _, SqL.of e1⟩
theorem tyw_list {K : PySem.W.Frag} {ρ : Rep} {ρs : List Rep} (sb : Sub ρ (RL K ρs)) : TyW E Γ M K "list" ρ := fun σ G H a x h => by
  obtain ⟨b, vs, e, hq, _⟩ := sb _ _ h
  subst e
  exact .inl ⟨rfl, _, Same.seq a.gh hq⟩
theorem mtw_append {p : Addr} {ρo ρ : Rep} {ρs : List Rep} {u : ORep → Ow} (sb : Sub ρo (RRef p)) (fd : Fnd M p (OL ρs) u) (hl : ρs.length < 100000) (k : Φ RN (u (OL (ρs ++ [ρ])))) : MtW E Γ M rAppend ρo [ρ] Φ := fun σ G H a x vs hx hv Q q => by
  obtain ⟨o, e1, ws, e2, rf⟩ := a.own _ fd.mem
  subst e2
  match vs, hv with
  | [v], ⟨r, _⟩ =>
    exact ⟨p, ws, v, sb _ _ hx, rfl, e1, Nat.lt_of_lt_of_le (by rw [← rf.length]; exact hl) (szOf (Nat.le_refl _)), q _ _ _ _ _ k (Same.refl _) (a.write fd ⟨_, rfl, rf.app ⟨r, trivial⟩⟩) rfl⟩
/-! ### built-in functions -/
def CaW (E : En) (Γ : Gm) (M : Ow) (r : List V → Hp → VK → Prop) (ρs : List Rep) (Φ : Rep → Ow → Prop) : Prop :=
  ∀ σ G H, At E Γ M σ G H → ∀ vs, Reps ρs vs G → ∀ Q : VK, (∀ ρ M' v G' H', Φ ρ M' → Same G G' → At E Γ M' σ G' H' → ρ.p v G' → Q v H') → r vs H Q
def CaV (r : List V → Hp → VK → Prop) (ρs : List Rep) (ρ : Rep) : Prop := ∀ vs G H, Same G H → Reps ρs vs G → ∀ Q : VK, (∀ v G' H', New G H G' H' → ρ.p v G' → Q v H') → r vs H Q
theorem caw_of {r : List V → Hp → VK → Prop} {ρs : List Rep} {ρ : Rep} (h : CaV r ρs ρ) (k : Φ ρ M) : CaW E Γ M r ρs Φ := fun σ G H a vs hv Q q =>
  h vs G H a.gh hv Q fun v G' H' n hr => q ρ M v G' H' k n.gg (a.new n) hr
theorem we_callB {id : String} {r : List V → Hp → VK → Prop} (hc : CallR X (.builtin id) r) (hg : Gl X x) (hm : X.mg x = none) (hv : bootBuiltins x = some (.builtin id)) (h : WA X E Γ M (e :: es) fun ρs M' => CaW E Γ M' r ρs Φ) (hn : x ≠ "__name__" := by decide) (hdb : (x == ("__debug__" : Str)) = false := by decide)
    (he : starEach (e :: es) X.env = (false, eval e X.env) :: starEach es X.env := by rfl) (hpl : (backTo pos (starEach es X.env)).any (·.1) = false := by rfl) : WE X E Γ M (.Call (.Name x p) (e :: es) [] pos) Φ :=
  we_of (pe_callB hc hg hm hv pa_w hn hdb he hpl) fun σ G H a Q q => h σ G H a _ fun ρs M1 vs G1 H1 h1 s1 a1 r1 => h1 σ G1 H1 a1 vs r1 Q fun ρ M3 v G3 H3 h3 s3 => q ρ M3 v G3 H3 h3 (s1.trans s3)
theorem we_callTy {T : String} {r : List V → Hp → VK → Prop} (hc : CallR X (.type T) r) (hg : Gl X x) (hm : X.mg x = none) (hv : bootBuiltins x = some (.type T)) (h : WA X E Γ M (e :: es) fun ρs M' => CaW E Γ M' r ρs Φ) (hn : x ≠ "__name__" := by decide) (hdb : (x == ("__debug__" : Str)) = false := by decide)
    (he : starEach (e :: es) X.env = (false, eval e X.env) :: starEach es X.env := by rfl) (hpl : (backTo pos (starEach es X.env)).any (·.1) = false := by rfl) : WE X E Γ M (.Call (.Name x p) (e :: es) [] pos) Φ :=
  we_of (pe_callTy hc hg hm hv pa_w hn hdb he hpl) fun σ G H a Q q => h σ G H a _ fun ρs M1 vs G1 H1 h1 s1 a1 r1 => h1 σ G1 H1 a1 vs r1 Q fun ρ M3 v G3 H3 h3 s3 => q ρ M3 v G3 H3 h3 (s1.trans s3)

/-! ### a def keeps its promise -/
def startG (N : List Str) (ρs : List Rep) : Gm := ρs.map some ++ List.replicate (N.length - ρs.length) none
/-- at a return -/
def Rt (c : Con) (i : c.I) : Rep → Ow → Prop := fun ρ M => ∃ x rest, c.post i x ∧ Sub ρ (c.res i x) ∧ Pk M (c.own' i x) rest
def EdOf (c : Con) (i : c.I) : Ed := { nx := fun _ M => Rt c i RN M, rt := Rt c i }
theorem start_env {N : List Str} {G : Hp} {ρs : List Rep} {vs : List V} (r : Reps ρs vs G) : ∀ (i : Nat) (ρ : Rep), (startG N ρs)[i]? = some (some ρ) → ∃ v, (L2.start N vs)[i]? = some (some v) ∧ ρ.p v G := fun i ρ h => by
  have hl := r.length
  unfold startG at h
  unfold L2.start
  by_cases hi : i < ρs.length
  · rw [List.getElem?_append_left (by simpa using hi), List.getElem?_map] at h
    rw [List.getElem?_append_left (by simpa [← hl] using hi), List.getElem?_map]
    have e : ρs[i]? = some ρ := by simpa using h
    obtain ⟨v, e2, r2⟩ := r.get e
    exact ⟨v, by rw [e2]; rfl, r2⟩
  · rw [List.getElem?_append_right (by simp; omega)] at h
    by_cases h2 : i - (ρs.map some).length < N.length - ρs.length
    · rw [List.getElem?_replicate, if_pos h2] at h; cases h
    · rw [List.getElem?_eq_none (by simp at h2 ⊢; omega)] at h; cases h
abbrev xd (P : Program) (w : World) (K : PySem.W.Frag) (mg : Str → Option Value) (base : Heap) (N : List Str) (qual : Str) (sc : Scope) (f : Addr) (cd : Value) (A : Around) (outer : List Env) (s : Shared) (H : Hp) (EE : XK) : Cx :=
  (cxOf CX0 P w K mg base N qual sc f cd A outer s H EE).nox
theorem fn_con {P : Program} {w : World} {K : PySem.W.Frag} {mg : Str → Option Value} {base : Heap} {x qual : Str} {st : Stmt} {f : Addr} {fd : FuncData} {N ps : List Str} {k : Nat} (c : Con) (F : Fun K x qual st f fd) (S : FnScope N ps (defScope st)) (hl : ∀ i, (c.args i).length = ps.length)
    (h : ∀ (cd : Value) (A : Around) (outer : List Env) (s : Shared) (H : Hp) (EE : XK) (G : Hp) (i : c.I), c.pre i → Room k (A.deeper (PyProof.Rows.envOfC qual (defScope st) s.heap.objs.size f cd)) → (∀ a ∈ (c.own i).map (·.1), H a ≠ none) →
      WSs (xd P w K mg base N qual (defScope st) f cd A outer s H EE) ⟨G, H, (c.own i).map (·.1)⟩ (startG N (c.args i)) (c.own i) (defBody st) (EdOf c i)) : FnOk P w K mg base CX0 (k + 1) f fd ps (conSp c) := by
  refine F.ok S (fun vs H Q EE hh => ?_) fun cdv A outer s H vs Q EE hr hh => ?_
  · obtain ⟨G, i, _, _, r, _⟩ := hh
    rw [← r.length]; exact hl i
  · obtain ⟨G, i, gh, hp, r, o1, o2, o3, kk⟩ := hh
    refine ⟨tWSs _ (defBody st), pss_w, ?_⟩
    have hE : ∀ a ∈ (c.own i).map (·.1), H a ≠ none := fun a ha => by
      obtain ⟨q, hq, e⟩ := List.mem_map.mp ha
      obtain ⟨o, e2, _⟩ := o1 q hq
      rw [← e, e2]; simp
    have a0 : At ⟨G, H, (c.own i).map (·.1)⟩ (startG N (c.args i)) (c.own i) (L2.start N vs) G H :=
      ⟨by simp [startG, L2.start, r.length], start_env r, gh, o1, o2, o3, Same.refl _, fun _ _ _ e => e, fun _ _ hg => hg, fun q hq => .inl (List.mem_map.mpr ⟨q, hq, rfl⟩), fun _ h => h⟩
    have fin : ∀ ρ M, Rt c i ρ M → ∀ v G' H', At ⟨G, H, (c.own i).map (·.1)⟩ [] M [] G' H' → ρ.p v G' → Q v H' := fun ρ M ⟨x, rest, px, sb, pk⟩ v G' H' a rv => by
      obtain ⟨p1, p2, p3⟩ := a.picked pk
      have fm := pk.f a.nd
      refine kk x v G' H' px ⟨a.g0, a.gh, fun b u h1 h2 => a.keep b u h1 h2, fun b h1 h2 => a.nw b h1 h2, p1, p2, p3, fun q hq => ?_, fun b hb => a.there b hb⟩ (sb _ _ rv)
      obtain ⟨q', h1, h2, _⟩ := fm.own q hq
      rw [← h2]; exact a.loc q' h1
    exact h cdv A outer s H EE G i hp hr hE (L2.start N vs) G H a0 _ ⟨fun Γ M h' σ G' H' _ a' => fin _ _ h' _ _ _ a'.env0 rfl, fun ρ M h' v G' H' _ a' rv => fin _ _ h' _ _ _ a' rv, fun _ _ h' => h'.elim, fun _ _ h' => h'.elim⟩
end
end MM

namespace MM
open PySem L2 PyProof.Rows
section
variable {X : Cx} {E : En} {Γ : Gm} {M : Ow} {a b e c tg iter elt : Expr} {es : List Expr} {pos p apos : Pos} {Φ : Rep → Ow → Prop} {Ψ : Ed} {body : List Stmt}
theorem ws_while (hp : PassesOwn (model X.prog X.w) X.A X.env X.xe) (I : Nat → Gm → Ow → Prop) (n0 : Nat) (h0 : I n0 Γ M)
    (hs : ∀ n Γ1 M1, I n Γ1 M1 → WT X E Γ1 M1 c fun k M2 => (k = true → WSs X E Γ1 M2 body { nx := fun Γ3 M3 => ∃ m, m < n ∧ I m Γ3 M3, ct := fun Γ3 M3 => ∃ m, m < n ∧ I m Γ3 M3, bk := Ψ.nx, rt := Ψ.rt }) ∧ (k = false → Ψ.nx Γ1 M2)) :
    WS X E Γ M (.While c body [] pos) Ψ :=
  ws_of (ps_while hp pt_w pss_w) fun σ G H a D k => by
    refine ⟨fun m σ H => ∃ Γ1 M1 G1, I m Γ1 M1 ∧ Same G G1 ∧ At E Γ1 M1 σ G1 H, ⟨n0, Γ, M, G, h0, Same.refl _, a⟩, ?_⟩
    rintro m σ1 H1 ⟨Γ1, M1, G1, hI, s1, a1⟩
    refine hs m Γ1 M1 hI σ1 G1 H1 a1 _ fun b M2 G2 H2 hk s2 a2 => ?_
    cases b with
    | false =>
      show D.nx σ1 H2
      exact k.nx _ _ (hk.2 rfl) _ _ _ (s1.trans s2) a2
    | true =>
      show ∃ N : L2.St → Hp → Prop, _
      refine ⟨fun σ' H' => ∃ m', m' < m ∧ ∃ Γ1 M1 G1, I m' Γ1 M1 ∧ Same G G1 ∧ At E Γ1 M1 σ' G1 H', fun σ' H' h => h, ?_⟩
      have ks := k.mono (s1.trans s2)
      exact hk.1 rfl σ1 G2 H2 a2 _ ⟨fun Γ3 M3 ⟨m', hm, hI'⟩ σ' G' H' s' a' => ⟨m', hm, Γ3, M3, G', hI', (s1.trans s2).trans s', a'⟩, ks.rt, ks.nx, fun Γ3 M3 ⟨m', hm, hI'⟩ σ' G' H' s' a' => ⟨m', hm, Γ3, M3, G', hI', (s1.trans s2).trans s', a'⟩⟩
/-- what a for asks: the invariant by the turn -/
def ForK (X : Cx) (E : En) (Γ : Gm) (M : Ow) (tg : Expr) (body : List Stmt) (Ψ : Ed) (n : Nat) (item : Nat → Rep → Prop) : Prop :=
  ∃ I : Nat → Gm → Ow → Prop, I 0 Γ M ∧ (∀ i ρ Γ1 M1, i < n → item i ρ → I i Γ1 M1 → WG X E Γ1 M1 tg ρ fun Γ2 M2 => WSs X E Γ2 M2 body { nx := I (i + 1), ct := I (i + 1), bk := Ψ.nx, rt := Ψ.rt }) ∧ ∀ Γ1 M1, I n Γ1 M1 → Ψ.nx Γ1 M1
theorem for_turn {I : Nat → Gm → Ow → Prop} {G : Hp} {D : Ends} {i : Nat} {ρ : Rep} {Γ1 : Gm} {M1 : Ow} (k : Cov E G Ψ D) (h : WG X E Γ1 M1 tg ρ fun Γ2 M2 => WSs X E Γ2 M2 body { nx := I (i + 1), ct := I (i + 1), bk := Ψ.nx, rt := Ψ.rt })
    {σ : L2.St} {G1 H : Hp} (s1 : Same G G1) (a : At E Γ1 M1 σ G1 H) {x : V} (r : ρ.p x G1) :
    tWG X tg x σ H fun σ2 H2 => tWSs X body { D with nx := fun σ' H' => ∃ Γ' M' G', I (i + 1) Γ' M' ∧ Same G G' ∧ At E Γ' M' σ' G' H', ct := fun σ' H' => ∃ Γ' M' G', I (i + 1) Γ' M' ∧ Same G G' ∧ At E Γ' M' σ' G' H', bk := D.nx } σ2 H2 := by
  refine h σ G1 H a x r _ fun Γ2 M2 σ2 G2 H2 h2 s2 a2 => ?_
  have ks := k.mono (s1.trans s2)
  exact h2 σ2 G2 H2 a2 _ ⟨fun Γ3 M3 hI σ' G' H' s' a' => ⟨Γ3, M3, G', hI, (s1.trans s2).trans s', a'⟩, ks.rt, ks.nx, fun Γ3 M3 hI σ' G' H' s' a' => ⟨Γ3, M3, G', hI, (s1.trans s2).trans s', a'⟩⟩
theorem ws_for_list (hp : PassesOwn (model X.prog X.w) X.A X.env X.xe) (hc : X.calm = true)
    (h : WE X E Γ M iter fun ρ M1 => ∃ ρs, Sub ρ (RL X.K ρs) ∧ ForK X E Γ M1 tg body Ψ ρs.length fun i ρ => ρs[i]? = some ρ)
    (hs : ∀ x, foldedSetIterable iter X.env x = pure x := by intro _; rfl) : WS X E Γ M (.For tg iter body [] pos) Ψ :=
  ws_of (ps_for hp hc (pi_list pe_w) pg_w pss_w hs) fun σ G H a D k => h σ G H a _ fun ρ M1 v G1 H1 ⟨ρs, sb, I, h0, ht, hd⟩ s1 a1 r1 => by
    obtain ⟨b, vs, e, hq, rr⟩ := sb _ _ r1
    have ks := k.mono s1
    refine ⟨b, e, ⟨vs, Same.seq a1.gh hq⟩, for_list (K := X.K) (a := b) (xs := vs) (fun i σ H => ∃ Γ' M' G', I i Γ' M' ∧ Same G1 G' ∧ At E Γ' M' σ G' H) ⟨Γ, M1, G1, h0, Same.refl _, a1⟩ (fun i σ H _ ⟨_, _, G', _, s', a'⟩ => Same.seq (s'.trans a'.gh) hq) ?_ ?_⟩
    · rintro i x σ H hx ⟨Γ', M', G', hI, s', a'⟩
      obtain ⟨ρi, e1, r2⟩ := (rr.mono s').get2 hx
      exact for_turn ks (ht i ρi Γ' M' (List.getElem?_eq_some_iff.mp e1).1 e1 hI) s' a' r2
    · rintro σ H ⟨Γ', M', G', hI, s', a'⟩
      exact ks.nx _ _ (hd _ _ (by rw [rr.length]; exact hI)) _ _ _ s' a'
theorem ws_for_tup (hp : PassesOwn (model X.prog X.w) X.A X.env X.xe) (hc : X.calm = true)
    (h : WE X E Γ M iter fun ρ M1 => ∃ ρs, Sub ρ (RT X.K ρs) ∧ ForK X E Γ M1 tg body Ψ ρs.length fun i ρ => ρs[i]? = some ρ)
    (hs : ∀ x, foldedSetIterable iter X.env x = pure x := by intro _; rfl) : WS X E Γ M (.For tg iter body [] pos) Ψ :=
  ws_of (ps_for hp hc (pi_tup pe_w) pg_w pss_w hs) fun σ G H a D k => h σ G H a _ fun ρ M1 v G1 H1 ⟨ρs, sb, I, h0, ht, hd⟩ s1 a1 r1 => by
    obtain ⟨b, vs, e, hq, rr⟩ := sb _ _ r1
    have ks := k.mono s1
    refine ⟨b, e, ⟨vs, same_seqT a1.gh hq⟩, for_tup (K := X.K) (a := b) (xs := vs) (fun i σ H => ∃ Γ' M' G', I i Γ' M' ∧ Same G1 G' ∧ At E Γ' M' σ G' H) ⟨Γ, M1, G1, h0, Same.refl _, a1⟩ (fun i σ H _ ⟨_, _, G', _, s', a'⟩ => same_seqT (s'.trans a'.gh) hq) ?_ ?_⟩
    · rintro i x σ H hx ⟨Γ', M', G', hI, s', a'⟩
      obtain ⟨ρi, e1, r2⟩ := (rr.mono s').get2 hx
      exact for_turn ks (ht i ρi Γ' M' (List.getElem?_eq_some_iff.mp e1).1 e1 hI) s' a' r2
    · rintro σ H ⟨Γ', M', G', hI, s', a'⟩
      exact ks.nx _ _ (hd _ _ (by rw [rr.length]; exact hI)) _ _ _ s' a'
theorem ws_for_range1 (hp : PassesOwn (model X.prog X.w) X.A X.env X.xe) (hc : X.calm = true) (hg : Gl X "range") (hm : X.mg "range" = none)
    (h : WA X E Γ M [a] fun ρs M1 => ∃ j : Int, SubL ρs [RI j] ∧ (-(2 ^ 62) ≤ j ∧ j < 2 ^ 62) ∧ ForK X E Γ M1 tg body Ψ j.toNat fun i ρ => ρ = RI (i : Int))
    (hse : starEach [a] X.env = [(false, eval a X.env)] := by rfl) (hs : ∀ x, foldedSetIterable (.Call (.Name "range" p) [a] [] apos) X.env x = pure x := by intro _; rfl) : WS X E Γ M (.For tg (.Call (.Name "range" p) [a] [] apos) body [] pos) Ψ :=
  ws_of (ps_for hp hc (pi_range1 hg hm pa_w hse) pg_w pss_w hs) fun σ G H a D k => h σ G H a _ fun ρs M1 vs G1 H1 ⟨j, sb, ⟨b1, b2⟩, I, h0, ht, hd⟩ s1 a1 r1 => by
    have ks := k.mono s1
    have e : vs = [.int j] := by
      match vs, sb.reps r1 with
      | [v], ⟨r, _⟩ => exact congrArg (fun z => [z]) r
    refine ⟨j, e, b1, b2, for_range (lo := 0) (fun i σ H => ∃ Γ' M' G', I i Γ' M' ∧ Same G1 G' ∧ At E Γ' M' σ G' H) ⟨Γ, M1, G1, h0, Same.refl _, a1⟩ ?_ ?_⟩
    · rintro i σ H hx ⟨Γ', M', G', hI, s', a'⟩
      exact for_turn ks (ht i _ Γ' M' hx rfl hI) s' a' (by rw [Int.zero_add]; rfl)
    · rintro σ H ⟨Γ', M', G', hI, s', a'⟩
      exact ks.nx _ _ (hd _ _ hI) _ _ _ s' a'
theorem ws_for_range2 (hp : PassesOwn (model X.prog X.w) X.A X.env X.xe) (hc : X.calm = true) (hg : Gl X "range") (hm : X.mg "range" = none)
    (h : WA X E Γ M [a, b] fun ρs M1 => ∃ i j : Int, SubL ρs [RI i, RI j] ∧ (-(2 ^ 62) ≤ i ∧ i < 2 ^ 62 ∧ -(2 ^ 62) ≤ j ∧ j < 2 ^ 62) ∧ ForK X E Γ M1 tg body Ψ (j - i).toNat fun n ρ => ρ = RI (i + n))
    (hse : starEach [a, b] X.env = [(false, eval a X.env), (false, eval b X.env)] := by rfl) (hs2 : starEach [b] X.env = [(false, eval b X.env)] := by rfl) (hs : ∀ x, foldedSetIterable (.Call (.Name "range" p) [a, b] [] apos) X.env x = pure x := by intro _; rfl) : WS X E Γ M (.For tg (.Call (.Name "range" p) [a, b] [] apos) body [] pos) Ψ :=
  ws_of (ps_for hp hc (pi_range2 hg hm pa_w hse hs2) pg_w pss_w hs) fun σ G H a D k => h σ G H a _ fun ρs M1 vs G1 H1 ⟨i0, j, sb, bs, I, h0, ht, hd⟩ s1 a1 r1 => by
    have ks := k.mono s1
    have e : vs = [.int i0, .int j] := by
      match vs, sb.reps r1 with
      | [v, w], ⟨r, r', _⟩ =>
        have r : v = .int i0 := r
        have r' : w = .int j := r'
        rw [r, r']
    refine ⟨i0, j, e, bs, for_range (lo := i0) (fun i σ H => ∃ Γ' M' G', I i Γ' M' ∧ Same G1 G' ∧ At E Γ' M' σ G' H) ⟨Γ, M1, G1, h0, Same.refl _, a1⟩ ?_ ?_⟩
    · rintro i σ H hx ⟨Γ', M', G', hI, s', a'⟩
      exact for_turn ks (ht i _ Γ' M' hx rfl hI) s' a' rfl
    · rintro σ H ⟨Γ', M', G', hI, s', a'⟩
      exact ks.nx _ _ (hd _ _ hI) _ _ _ s' a'

/-! ### an owned list is given up -/
theorem we_freeze (h : WE X E Γ M e fun ρ M' => ∃ p ρs M2, Sub ρ (RRef p) ∧ Rm M' p (OL ρs) M2 ∧ p ∉ E.M ∧ Φ (RLt ρs) M2) : WE X E Γ M e Φ := fun σ G H a Q q =>
  h σ G H a Q fun ρ M' v G1 H1 ⟨p, ρs, M2, sb, rm, hp, hk⟩ s1 a1 r1 => by
    obtain ⟨o, e1, ⟨vs, e2, rf⟩, sg, a2⟩ := a1.freeze rm hp
    subst e2
    have : v = .ref p := sb _ _ r1
    subst this
    exact q _ _ _ _ _ hk (s1.trans sg) a2 ⟨p, vs, rfl, upd_same, rf.mono sg⟩
theorem wss_freeze {st : List Stmt} (i : Nat) {p : Addr} {ρs : List Rep} {M2 : Ow} (hΓ : Γ[i]? = some (some (RRef p))) (rm : Rm M p (OL ρs) M2) (hp : p ∉ E.M) (h : WSs X E (Γ.set i (some (RLt ρs))) M2 st Ψ) : WSs X E Γ M st Ψ := fun σ G H a D k => by
  obtain ⟨v, e0, r0⟩ := a.env i _ hΓ
  have r0 : v = .ref p := r0
  subst r0
  obtain ⟨o, e1, ⟨vs, e2, rf⟩, sg, a2⟩ := a.freeze rm hp
  subst e2
  have a3 := a2.set (i := i) (ρ := RLt ρs) (v := .ref p) ⟨p, vs, rfl, upd_same, rf.mono sg⟩
  have e4 : σ.set i (some (V.ref p)) = σ := by
    refine List.ext_getElem? fun j => ?_
    by_cases hj : i = j
    · subst hj
      have hl : i < σ.length := (List.getElem?_eq_some_iff.mp e0).1
      rw [List.getElem?_set_self hl, e0]
    · rw [List.getElem?_set_ne hj]
  rw [e4] at a3
  exact h σ _ H a3 D (k.mono sg)
theorem wss_weak {Γ' : Gm} {st : List Stmt} (w : Wk Γ Γ') (h : WSs X E Γ' M st Ψ) : WSs X E Γ M st Ψ := fun σ G H a D k => h σ G H (a.weak w) D k

/-! ### list comprehensions -/
def wipeG (Γ : Gm) : List Nat → Gm
  | [] => Γ
  | v :: vs => (wipeG Γ vs).set v none
theorem At.wipe {σ : L2.St} {G H : Hp} (a : At E Γ M σ G H) : ∀ vs : List Nat, At E (wipeG Γ vs) M (L2.wipe σ vs) G H
  | [] => a
  | v :: vs => by
    have b := At.wipe a vs
    unfold wipeG L2.wipe
    refine ⟨by simp [b.len], fun i ρ h => ?_, b.gh, b.own, b.gn, b.nd, b.g0, b.keep, b.nw, b.loc, b.there⟩
    by_cases hi : v = i
    · subst hi
      by_cases hv : v < (wipeG Γ vs).length
      · rw [List.getElem?_set_self hv] at h; cases h
      · rw [List.getElem?_eq_none (by simpa using hv)] at h; cases h
    · rw [List.getElem?_set_ne hi] at h
      obtain ⟨w, e, r⟩ := b.env i ρ h
      exact ⟨w, by rw [List.getElem?_set_ne hi]; exact e, r⟩
theorem At.back {σ σ' : L2.St} {G H G' H' : Hp} {Γ' : Gm} {M' : Ow} (a : At E Γ M σ G H) (b : At E Γ' M' σ' G' H') (s : Same G G') : At E Γ M' σ G' H' :=
  ⟨a.len, fun i ρ h => let ⟨v, e, r⟩ := a.env i ρ h; ⟨v, e, ρ.mono _ _ _ s r⟩, b.gh, b.own, b.gn, b.nd, b.g0, b.keep, b.nw, b.loc, b.there⟩
/-- a block's target: one name, or a tuple of names; what it leaves in the slots -/
structure BlkT (K : PySem.W.Frag) (t : TG) (vs : List Nat) (ρ : Rep) (f : Gm → Gm) : Prop where
  run : ∀ {E : En} {Γ : Gm} {M : Ow} {σ : L2.St} {G H : Hp} {v : V} (Q : L2.St → Hp → Prop), At E Γ M (L2.wipe σ vs) G H → ρ.p v G → (∀ σ', L2.wipe σ' vs = L2.wipe σ vs → At E (f Γ) M σ' G H → Q σ' H) → t v (L2.wipe σ vs) H Q
theorem wipe_set {σ : L2.St} {i : Nat} {o : Option V} : ∀ {vs : List Nat}, i ∈ vs → L2.wipe (σ.set i o) vs = L2.wipe σ vs
  | v :: vs, h => by
    unfold L2.wipe
    by_cases hi : i = v
    · subst hi
      by_cases hm : i ∈ vs
      · rw [wipe_set hm]
      · have : L2.wipe (σ.set i o) vs = (L2.wipe σ vs).set i o := by
          clear h
          induction vs with
          | nil => rfl
          | cons u us ih =>
            have h1 : i ≠ u := fun z => hm (by rw [z]; exact List.mem_cons_self)
            have h2 : i ∉ us := fun z => hm (List.mem_cons_of_mem _ z)
            show (L2.wipe (σ.set i o) us).set u none = ((L2.wipe σ us).set u none).set i o
            rw [ih h2, List.set_comm _ _ h1]
        rw [this, List.set_set]
    · have hm : i ∈ vs := by
        rcases List.mem_cons.mp h with e | hm
        · exact absurd e hi
        · exact hm
      rw [wipe_set hm]
theorem wipe_wipe {σ : L2.St} : ∀ {vs ws : List Nat}, (∀ v ∈ ws, v ∈ vs) → L2.wipe (L2.wipe σ ws) vs = L2.wipe σ vs
  | vs, [], _ => rfl
  | vs, w :: ws, h => by
    show L2.wipe ((L2.wipe σ ws).set w none) vs = _
    rw [wipe_set (h w List.mem_cons_self)]
    exact wipe_wipe fun v hv => h v (List.mem_cons_of_mem _ hv)
theorem blkT_name {K : PySem.W.Frag} {vs : List Nat} {ρ : Rep} (i : Nat) (hi : i ∈ vs) : BlkT K (gName i) vs ρ fun Γ => Γ.set i (some ρ) :=
  ⟨fun {E Γ M σ G H v} Q a r k => k _ (by rw [wipe_set hi, wipe_wipe fun _ h => h]) (a.set r)⟩
def gNames : List Nat → TGs
  | [] => gNil
  | i :: is => gCons (gName i) (gNames is)
def setAll : List Nat → List Rep → Gm → Gm
  | i :: is, ρ :: ρs, Γ => setAll is ρs (Γ.set i (some ρ))
  | _, _, Γ => Γ
theorem gNames_run {vs : List Nat} : ∀ {is : List Nat} {ρs : List Rep} {xs : List V} {E : En} {Γ : Gm} {M : Ow} {σ σ0 : L2.St} {G H : Hp} (Q : L2.St → Hp → Prop), (∀ i ∈ is, i ∈ vs) → is.length = ρs.length → At E Γ M σ G H → L2.wipe σ vs = L2.wipe σ0 vs → Reps ρs xs G →
    (∀ σ', L2.wipe σ' vs = L2.wipe σ0 vs → At E (setAll is ρs Γ) M σ' G H → Q σ' H) → gNames is xs σ H Q
  | [], [], [], _, _, _, σ, _, _, H, Q, _, _, a, e, _, k => ⟨rfl, k σ e a⟩
  | i :: is, ρ :: ρs, x :: xs, _, _, _, σ, _, _, H, Q, hi, hl, a, e, r, k => ⟨x, xs, rfl, gNames_run (vs := vs) (is := is) (ρs := ρs) Q (fun j hj => hi j (List.mem_cons_of_mem _ hj)) (by simpa using hl) (a.set r.1) (by rw [wipe_set (hi i List.mem_cons_self)]; exact e) r.2 k⟩
  | [], _ :: _, _, _, _, _, _, _, _, _, _, _, hl, _, _, _, _ => by simp at hl
  | _ :: _, [], _, _, _, _, _, _, _, _, _, _, hl, _, _, _, _ => by simp at hl
  | [], [], _ :: _, _, _, _, _, _, _, _, _, _, _, _, _, r, _ => r.elim
  | _ :: _, _ :: _, [], _, _, _, _, _, _, _, _, _, _, _, _, r, _ => r.elim
theorem blkT_tup {K : PySem.W.Frag} {vs is : List Nat} {ρ : Rep} {ρs : List Rep} (hi : ∀ i ∈ is, i ∈ vs) (hl : is.length = ρs.length) (sb : Sub ρ (RT K ρs)) : BlkT K (gTup K is.length (gNames is)) vs ρ (setAll is ρs) :=
  ⟨fun {E Γ M σ G H v} Q a r k => by
    obtain ⟨b, ws, e, hq, rr⟩ := sb _ _ r
    refine ⟨b, ws, e, same_seqT a.gh hq, by rw [hl, rr.length], gNames_run (σ0 := σ) Q hi hl a (wipe_wipe fun _ h => h) rr k⟩⟩
/-- the readings of a block's element and test, of whatever context -/
def tBE (X : Cx) (scope : Scope) (e : Expr) : TE := fun σ H Q => ∀ (s : Shared) (H0 : Hp) (C : Addr) (cl : List (Str × Addr)) (fp : List Addr), tW (X.blk s H0 scope (compEnvC scope cl C X.env) fp) e σ H Q
def tBT (X : Cx) (scope : Scope) (e : Expr) : TT := fun σ H Q => ∀ (s : Shared) (H0 : Hp) (C : Addr) (cl : List (Str × Addr)) (fp : List Addr), tWT (X.blk s H0 scope (compEnvC scope cl C X.env) fp) e σ H Q
theorem pe_blk {scope : Scope} (s : Shared) (H : Hp) (C : Addr) (cl : List (Str × Addr)) (fp : List Addr) : PE (X.blk s H scope (compEnvC scope cl C X.env) fp) e (tBE X scope e) := ⟨fun pins s' σ H' Q I h => h s H C cl fp pins s' I⟩
theorem pt_blk {scope : Scope} (s : Shared) (H : Hp) (C : Addr) (cl : List (Str × Addr)) (fp : List Addr) : PT (X.blk s H scope (compEnvC scope cl C X.env) fp) e (tBT X scope e) := ⟨fun pins s' σ H' Q I h => h s H C cl fp pins s' I⟩
/-- a turn: the element is evaluated, and put behind what is made so far -/
def LcTurn (X : Cx) (E : En) (Γ : Gm) (M1 : Ow) (scope : Scope) (elt : Expr) (D : Addr) (o : List Rep) (K : List Rep → Ow → Prop) : Prop :=
  ∀ (s : Shared) (H0 : Hp) (C : Addr) (cl : List (Str × Addr)) (fp : List Addr), WE (X.blk s H0 scope (compEnvC scope cl C X.env) fp) E Γ ((D, OL o) :: M1) elt fun ρ M2 => ∃ M3 ρ', M2 = (D, OL o) :: M3 ∧ Sub ρ ρ' ∧ o.length < 100000 ∧ K (o ++ [ρ']) M3
def LcTest (X : Cx) (E : En) (Γ : Gm) (M1 : Ow) (scope : Scope) (tst : Expr) (D : Addr) (o : List Rep) (K : Bool → Ow → Prop) : Prop :=
  ∀ (s : Shared) (H0 : Hp) (C : Addr) (cl : List (Str × Addr)) (fp : List Addr), WT (X.blk s H0 scope (compEnvC scope cl C X.env) fp) E Γ ((D, OL o) :: M1) tst fun k M2 => ∃ M3, M2 = (D, OL o) :: M3 ∧ K k M3
/-- what a comprehension asks -/
def LcK (X : Cx) (E : En) (Γ : Gm) (M : Ow) (scope : Scope) (vs : List Nat) (elt : Expr) (tg : TG) (n : Nat) (item : Nat → Rep → Prop) (Φ : Rep → Ow → Prop) : Prop :=
  ∃ I : Nat → List Rep → Ow → Prop, I 0 [] M ∧ (∀ i ρ o M1 D, i < n → item i ρ → I i o M1 → ∃ f, BlkT X.K tg vs ρ f ∧ LcTurn X E (f (wipeG Γ vs)) M1 scope elt D o (I (i + 1))) ∧ ∀ D o M1, D ∉ E.M → D ∉ M1.map (·.1) → I n o M1 → Φ (RRef D) ((D, OL o) :: M1)
def LcKT (X : Cx) (E : En) (Γ : Gm) (M : Ow) (scope : Scope) (vs : List Nat) (elt tst : Expr) (tg : TG) (n : Nat) (item : Nat → Rep → Prop) (Φ : Rep → Ow → Prop) : Prop :=
  ∃ I : Nat → List Rep → Ow → Prop, I 0 [] M ∧ (∀ i ρ o M1 D, i < n → item i ρ → I i o M1 → ∃ f, BlkT X.K tg vs ρ f ∧ LcTest X E (f (wipeG Γ vs)) M1 scope tst D o fun k M2 => (k = true → LcTurn X E (f (wipeG Γ vs)) M2 scope elt D o (I (i + 1))) ∧ (k = false → I (i + 1) o M2)) ∧ ∀ D o M1, D ∉ E.M → D ∉ M1.map (·.1) → I n o M1 → Φ (RRef D) ((D, OL o) :: M1)
/-- the turn's reading -/
theorem lc_turn {scope : Scope} {vs : List Nat} {tg : TG} {σ : L2.St} {D : Addr} {o : List Rep} {M1 : Ow} {Kc : List Rep → Ow → Prop} {f : Gm → Gm} {ρ : Rep} {x : V} {G H : Hp} {N : Hp → Prop}
    (bt : BlkT X.K tg vs ρ f) (ht : LcTurn X E (f (wipeG Γ vs)) M1 scope elt D o Kc) (a : At E (wipeG Γ vs) ((D, OL o) :: M1) (L2.wipe σ vs) G H) (r : ρ.p x G)
    (k : ∀ o' M2 σ2 G2 H2 Γ2, Kc o' M2 → Same G G2 → At E Γ2 ((D, OL o') :: M2) σ2 G2 H2 → N H2) :
    tg x (L2.wipe σ vs) H fun σ2 H2 => L2.wipe σ2 vs = L2.wipe σ vs ∧ tYes σ2 H2 fun b H3 => if b = true then tBE X scope elt σ2 H3 fun y H4 => ∃ acc, H4 D = some (.lst acc) ∧ acc.length < sizeLine ∧ N (upd H4 D (.lst (acc ++ [y]))) else N H3 := by
  refine bt.run _ a r fun σ' e a1 => ⟨e, ?_⟩
  show tBE X scope elt σ' H _
  intro s H0 C cl fp
  refine ht s H0 C cl fp σ' G H a1 _ fun ρ2 M2 v G2 H2 ⟨M3, ρ', e2, sb, hl, hk⟩ s2 a2 r2 => ?_
  subst e2
  obtain ⟨u, e3, ws, e4, rf⟩ := a2.own _ List.mem_cons_self
  subst e4
  refine ⟨ws, e3, Nat.lt_of_lt_of_le (by rw [← rf.length]; exact hl) (szOf (Nat.le_refl _)), ?_⟩
  exact k _ _ _ _ _ _ hk s2 (a2.write (r' := OL (o ++ [ρ'])) Fnd.here ⟨_, rfl, rf.app ⟨sb _ _ r2, trivial⟩⟩)
theorem lc_turnT {tst : Expr} {scope : Scope} {vs : List Nat} {tg : TG} {σ : L2.St} {D : Addr} {o : List Rep} {M1 : Ow} {Kc : List Rep → Ow → Prop} {f : Gm → Gm} {ρ : Rep} {x : V} {G H : Hp} {N : Hp → Prop}
    (bt : BlkT X.K tg vs ρ f) (ht : LcTest X E (f (wipeG Γ vs)) M1 scope tst D o fun k M2 => (k = true → LcTurn X E (f (wipeG Γ vs)) M2 scope elt D o Kc) ∧ (k = false → Kc o M2)) (a : At E (wipeG Γ vs) ((D, OL o) :: M1) (L2.wipe σ vs) G H) (r : ρ.p x G)
    (k : ∀ o' M2 σ2 G2 H2 Γ2, Kc o' M2 → Same G G2 → At E Γ2 ((D, OL o') :: M2) σ2 G2 H2 → N H2) :
    tg x (L2.wipe σ vs) H fun σ2 H2 => L2.wipe σ2 vs = L2.wipe σ vs ∧ tBT X scope tst σ2 H2 fun b H3 => if b = true then tBE X scope elt σ2 H3 fun y H4 => ∃ acc, H4 D = some (.lst acc) ∧ acc.length < sizeLine ∧ N (upd H4 D (.lst (acc ++ [y]))) else N H3 := by
  refine bt.run _ a r fun σ' e a1 => ⟨e, ?_⟩
  intro s H0 C cl fp
  refine ht s H0 C cl fp σ' G H a1 _ fun b M2 G2 H2 ⟨M3, e2, h1, h2⟩ s2 a2 => ?_
  subst e2
  cases b with
  | false =>
    show N H2
    exact k _ _ _ _ _ _ (h2 rfl) s2 a2
  | true =>
    show tBE X scope elt σ' H2 _
    intro s H0 C cl fp
    refine h1 rfl s H0 C cl fp σ' G2 H2 a2 _ fun ρ2 M4 v G3 H3 ⟨M5, ρ', e5, sb, hl, hk⟩ s3 a3 r2 => ?_
    subst e5
    obtain ⟨u, e3, ws, e4, rf⟩ := a3.own _ List.mem_cons_self
    subst e4
    refine ⟨ws, e3, Nat.lt_of_lt_of_le (by rw [← rf.length]; exact hl) (szOf (Nat.le_refl _)), ?_⟩
    exact k _ _ _ _ _ _ hk (s2.trans s3) (a3.write (r' := OL (o ++ [ρ'])) Fnd.here ⟨_, rfl, rf.app ⟨sb _ _ r2, trivial⟩⟩)
/-- an abstract source of items: from where it begins, how it is walked -/
structure Src (X : Cx) (E : En) (Γ : Gm) (M : Ow) (wi : TI) (Z : Ow → Nat → (Nat → Rep → Prop) → Prop) : Prop where
  lc : ∀ {σ : L2.St} {G H : Hp} (R : It → Hp → Prop), At E Γ M σ G H →
    (∀ J M1 n item G1 H1, Z M1 n item → Same G G1 → At E Γ M1 σ G1 H1 → (∀ i H2 G2, Same G1 G2 → Same G2 H2 → (i < n → J.go i H2) ∧ (n ≤ i → J.stop i H2) ∧ ∀ x H3, i < n → J.yld i H2 x H3 → ∃ G3 ρ, New G2 H2 G3 H3 ∧ item i ρ ∧ ρ.p x G3) → R J H1) → wi σ H R
theorem src_list (h : WE X E Γ M iter fun ρ M1 => ∃ ρs, Sub ρ (RL X.K ρs) ∧ Z M1 ρs.length fun i ρ => ρs[i]? = some ρ) : Src X E Γ M (iList X.K (tW X iter)) Z :=
  ⟨fun {σ G H} R a k => h σ G H a _ fun ρ M1 v G1 H1 ⟨ρs, sb, hz⟩ s1 a1 r1 => by
    obtain ⟨b, vs, e, hq, rr⟩ := sb _ _ r1
    refine ⟨b, e, ⟨vs, Same.seq a1.gh hq⟩, k _ _ _ _ _ _ hz s1 a1 fun i H2 G2 s2 g2 => ⟨fun hi => ⟨vs, vs[i]'(by rw [← rr.length]; exact hi), Same.seq (s2.trans g2) hq, by simp [← rr.length, hi]⟩, fun hi => ⟨vs, Same.seq (s2.trans g2) hq, by rw [← rr.length]; exact hi⟩, fun x H3 hi ⟨e3, y⟩ => ?_⟩⟩
    subst e3
    obtain ⟨ρi, e4, r4⟩ := (rr.mono s2).get2 (y vs (Same.seq (s2.trans g2) hq))
    exact ⟨G2, ρi, New.refl g2, e4, r4⟩⟩
theorem src_tup (h : WE X E Γ M iter fun ρ M1 => ∃ ρs, Sub ρ (RT X.K ρs) ∧ Z M1 ρs.length fun i ρ => ρs[i]? = some ρ) : Src X E Γ M (iTup X.K (tW X iter)) Z :=
  ⟨fun {σ G H} R a k => h σ G H a _ fun ρ M1 v G1 H1 ⟨ρs, sb, hz⟩ s1 a1 r1 => by
    obtain ⟨b, vs, e, hq, rr⟩ := sb _ _ r1
    refine ⟨b, e, ⟨vs, same_seqT a1.gh hq⟩, k _ _ _ _ _ _ hz s1 a1 fun i H2 G2 s2 g2 => ⟨fun hi => ⟨vs, vs[i]'(by rw [← rr.length]; exact hi), same_seqT (s2.trans g2) hq, by simp [← rr.length, hi]⟩, fun hi => ⟨vs, same_seqT (s2.trans g2) hq, by rw [← rr.length]; exact hi⟩, fun x H3 hi ⟨e3, y⟩ => ?_⟩⟩
    subst e3
    obtain ⟨ρi, e4, r4⟩ := (rr.mono s2).get2 (y vs (same_seqT (s2.trans g2) hq))
    exact ⟨G2, ρi, New.refl g2, e4, r4⟩⟩
theorem src_range1 (h : WA X E Γ M [a] fun ρs M1 => ∃ j : Int, SubL ρs [RI j] ∧ (-(2 ^ 62) ≤ j ∧ j < 2 ^ 62) ∧ Z M1 j.toNat fun i ρ => ρ = RI (i : Int)) : Src X E Γ M (iRng1 (tWA X [a])) Z :=
  ⟨fun {σ G H} R a' k => h σ G H a' _ fun ρs M1 vs G1 H1 ⟨j, sb, ⟨b1, b2⟩, hz⟩ s1 a1 r1 => by
    have e : vs = [.int j] := by
      match vs, sb.reps r1 with
      | [v], ⟨r, _⟩ => exact congrArg (fun z => [z]) r
    refine ⟨j, e, b1, b2, k _ _ _ _ _ _ hz s1 a1 fun i H2 G2 s2 g2 => ⟨fun hi => hi, fun hi => hi, fun x H3 hi ⟨e3, y⟩ => ?_⟩⟩
    subst e3
    exact ⟨G2, _, New.refl g2, rfl, by rw [y, Int.zero_add]; rfl⟩⟩
theorem src_range2 (h : WA X E Γ M [a, b] fun ρs M1 => ∃ i j : Int, SubL ρs [RI i, RI j] ∧ (-(2 ^ 62) ≤ i ∧ i < 2 ^ 62 ∧ -(2 ^ 62) ≤ j ∧ j < 2 ^ 62) ∧ Z M1 (j - i).toNat fun n ρ => ρ = RI (i + n)) : Src X E Γ M (iRng2 (tWA X [a, b])) Z :=
  ⟨fun {σ G H} R a' k => h σ G H a' _ fun ρs M1 vs G1 H1 ⟨i0, j, sb, bs, hz⟩ s1 a1 r1 => by
    have e : vs = [.int i0, .int j] := by
      match vs, sb.reps r1 with
      | [v, w], ⟨r, r', _⟩ =>
        have r : v = .int i0 := r
        have r' : w = .int j := r'
        rw [r, r']
    refine ⟨i0, j, e, bs, k _ _ _ _ _ _ hz s1 a1 fun i H2 G2 s2 g2 => ⟨fun hi => hi, fun hi => hi, fun x H3 hi ⟨e3, y⟩ => ?_⟩⟩
    subst e3
    exact ⟨G2, _, New.refl g2, rfl, y⟩⟩
theorem wte_lc {scope : Scope} {vs : List Nat} {wi : TI} {tg : TG} (src : Src X E Γ M wi fun M1 n item => LcK X E Γ M1 scope vs elt tg n item Φ) (hE : ∀ a ∈ E.M, E.H a ≠ none) : WTE E Γ M (tLc wi tg tYes (tBE X scope elt) vs) Φ := fun σ G H a Q q =>
  src.lc _ a fun J M1 n item G1 H1 ⟨I, h0, ht, hd⟩ s1 a1 hJ => by
    intro D hD
    have aD := a1.own1 (r := OL []) hD ⟨[], rfl, trivial⟩
    have dE : D ∉ E.M := fun z => hE D z (a1.fresh hD)
    refine ⟨fun i m H2 => m = n - i ∧ i ≤ n ∧ ∃ o M2 G2 Γ2 σ2, I i o M2 ∧ Same G1 G2 ∧ At E Γ2 ((D, OL o) :: M2) σ2 G2 H2, ⟨n, by simp, Nat.zero_le _, [], M1, G1, Γ, σ, h0, Same.refl _, aD⟩, ?_⟩
    rintro i m H2 ⟨rfl, hi, o, M2, G2, Γ2, σ2, hI, s2, a2⟩
    obtain ⟨j1, j2, j3⟩ := hJ i H2 G2 s2 a2.gh
    have ab : At E Γ ((D, OL o) :: M2) σ G2 H2 := a1.back a2 s2
    by_cases hlt : i < n
    · refine .inr ⟨j1 hlt, fun H' => ∃ o' M' G' Γ' σ', I (i + 1) o' M' ∧ Same G1 G' ∧ At E Γ' ((D, OL o') :: M') σ' G' H', fun H' ⟨o', M', G', Γ', σ', h'⟩ => ⟨n - (i + 1), by omega, rfl, hlt, o', M', G', Γ', σ', h'⟩, fun x H3 y => ?_⟩
      obtain ⟨G3, ρ, nw, hit, r⟩ := j3 x H3 hlt y
      obtain ⟨f, bt, hturn⟩ := ht i ρ o M2 D hlt hit hI
      exact lc_turn bt hturn ((ab.new nw).wipe vs) r fun o' M' σ' G' H' Γ' hk s' a' => ⟨o', M', G', Γ', σ', hk, (s2.trans nw.gg).trans s', a'⟩
    · have e : i = n := by omega
      subst e
      refine .inl ⟨j2 (Nat.le_refl _), q _ _ _ _ _ (hd D o M2 dE ?_ hI) (s1.trans s2) ab rfl⟩
      have := ab.nd
      rw [List.map_cons, List.nodup_cons] at this
      exact this.1
theorem wte_lcT {tst : Expr} {scope : Scope} {vs : List Nat} {wi : TI} {tg : TG} (src : Src X E Γ M wi fun M1 n item => LcKT X E Γ M1 scope vs elt tst tg n item Φ) (hE : ∀ a ∈ E.M, E.H a ≠ none) : WTE E Γ M (tLc wi tg (tBT X scope tst) (tBE X scope elt) vs) Φ := fun σ G H a Q q =>
  src.lc _ a fun J M1 n item G1 H1 ⟨I, h0, ht, hd⟩ s1 a1 hJ => by
    intro D hD
    have aD := a1.own1 (r := OL []) hD ⟨[], rfl, trivial⟩
    have dE : D ∉ E.M := fun z => hE D z (a1.fresh hD)
    refine ⟨fun i m H2 => m = n - i ∧ i ≤ n ∧ ∃ o M2 G2 Γ2 σ2, I i o M2 ∧ Same G1 G2 ∧ At E Γ2 ((D, OL o) :: M2) σ2 G2 H2, ⟨n, by simp, Nat.zero_le _, [], M1, G1, Γ, σ, h0, Same.refl _, aD⟩, ?_⟩
    rintro i m H2 ⟨rfl, hi, o, M2, G2, Γ2, σ2, hI, s2, a2⟩
    obtain ⟨j1, j2, j3⟩ := hJ i H2 G2 s2 a2.gh
    have ab : At E Γ ((D, OL o) :: M2) σ G2 H2 := a1.back a2 s2
    by_cases hlt : i < n
    · refine .inr ⟨j1 hlt, fun H' => ∃ o' M' G' Γ' σ', I (i + 1) o' M' ∧ Same G1 G' ∧ At E Γ' ((D, OL o') :: M') σ' G' H', fun H' ⟨o', M', G', Γ', σ', h'⟩ => ⟨n - (i + 1), by omega, rfl, hlt, o', M', G', Γ', σ', h'⟩, fun x H3 y => ?_⟩
      obtain ⟨G3, ρ, nw, hit, r⟩ := j3 x H3 hlt y
      obtain ⟨f, bt, hturn⟩ := ht i ρ o M2 D hlt hit hI
      exact lc_turnT bt hturn ((ab.new nw).wipe vs) r fun o' M' σ' G' H' Γ' hk s' a' => ⟨o', M', G', Γ', σ', hk, (s2.trans nw.gg).trans s', a'⟩
    · have e : i = n := by omega
      subst e
      refine .inl ⟨j2 (Nat.le_refl _), q _ _ _ _ _ (hd D o M2 dE ?_ hI) (s1.trans s2) ab rfl⟩
      have := ab.nd
      rw [List.map_cons, List.nodup_cons] at this
      exact this.1
/-- [e for target in iter] as a value; y = [..] -/
theorem we_lc {scope : Scope} {own : List (Str × Nat)} {wi : TI} {t : TG} (hc : X.calm = true) (hN : X.N.Nodup) (hi : PI X tg iter wi) (ok : BlkOk X.N X.env.scope scope own)
    (hg : ∀ (s : Shared) (H : Hp) (C : Addr) (cl : List (Str × Addr)) (fp : List Addr), PG (X.blk s H scope (compEnvC scope cl C X.env) fp) tg t) (hE : ∀ a ∈ E.M, E.H a ≠ none)
    (src : Src X E Γ M wi fun M1 n item => LcK X E Γ M1 scope (own.map (·.2)) elt t n item Φ) (hs : ∀ x, foldedSetIterable iter X.env x = pure x := by intro _; rfl) : WE X E Γ M (.ListComp elt [⟨tg, iter, [], 0⟩] scope pos) Φ :=
  we_of (pe_lc hc hN hi ok hg (fun _ _ _ _ _ => pts_nil) pe_blk hs) (wte_lc src hE)
theorem we_lcT {tst : Expr} {scope : Scope} {own : List (Str × Nat)} {wi : TI} {t : TG} (hc : X.calm = true) (hN : X.N.Nodup) (hi : PI X tg iter wi) (ok : BlkOk X.N X.env.scope scope own)
    (hg : ∀ (s : Shared) (H : Hp) (C : Addr) (cl : List (Str × Addr)) (fp : List Addr), PG (X.blk s H scope (compEnvC scope cl C X.env) fp) tg t) (hE : ∀ a ∈ E.M, E.H a ≠ none)
    (src : Src X E Γ M wi fun M1 n item => LcKT X E Γ M1 scope (own.map (·.2)) elt tst t n item Φ) (hs : ∀ x, foldedSetIterable iter X.env x = pure x := by intro _; rfl) : WE X E Γ M (.ListComp elt [⟨tg, iter, [tst], 0⟩] scope pos) Φ :=
  we_of (pe_lc hc hN hi ok hg (fun s H C cl fp => pts_one (pt_blk s H C cl fp)) pe_blk hs) (wte_lcT src hE)
theorem ws_setLc (i : Nat) {y : Str} {py : Pos} {scope : Scope} {own : List (Str × Nat)} {spos : Pos} {wi : TI} {t : TG} (hc : X.calm = true) (hN : X.N.Nodup) (hy : X.N[i]? = some y) (hyl : X.env.scope.names.lookup y = some .local)
    (hsw : swapsWith (.ListComp elt [⟨tg, iter, [], 0⟩] scope pos) (some (.Name y py)) spos.line X.env = pure true) (hi : PI X tg iter wi) (ok : BlkOk X.N X.env.scope scope own)
    (hg : ∀ (s : Shared) (H : Hp) (C : Addr) (cl : List (Str × Addr)) (fp : List Addr), PG (X.blk s H scope (compEnvC scope cl C X.env) fp) tg t) (hE : ∀ a ∈ E.M, E.H a ≠ none)
    (src : Src X E Γ M wi fun M1 n item => LcK X E Γ M1 scope (own.map (·.2)) elt t n item fun ρ M' => Ψ.nx (Γ.set i (some ρ)) M') (hs : ∀ x, foldedSetIterable iter X.env x = pure x := by intro _; rfl) : WS X E Γ M (.Assign [.Name y py] (.ListComp elt [⟨tg, iter, [], 0⟩] scope pos) spos) Ψ :=
  ws_of (ps_setLc hc hN hy hyl hsw hi ok hg (fun _ _ _ _ _ => pts_nil) pe_blk hs) fun σ G H a D k => wte_lc src hE σ G H a _ fun ρ M' v G' H' h' s' a' r' => k.nx _ M' h' _ G' H' s' (a'.set r')
theorem ws_setLcT {tst : Expr} (i : Nat) {y : Str} {py : Pos} {scope : Scope} {own : List (Str × Nat)} {spos : Pos} {wi : TI} {t : TG} (hc : X.calm = true) (hN : X.N.Nodup) (hy : X.N[i]? = some y) (hyl : X.env.scope.names.lookup y = some .local)
    (hsw : swapsWith (.ListComp elt [⟨tg, iter, [tst], 0⟩] scope pos) (some (.Name y py)) spos.line X.env = pure true) (hi : PI X tg iter wi) (ok : BlkOk X.N X.env.scope scope own)
    (hg : ∀ (s : Shared) (H : Hp) (C : Addr) (cl : List (Str × Addr)) (fp : List Addr), PG (X.blk s H scope (compEnvC scope cl C X.env) fp) tg t) (hE : ∀ a ∈ E.M, E.H a ≠ none)
    (src : Src X E Γ M wi fun M1 n item => LcKT X E Γ M1 scope (own.map (·.2)) elt tst t n item fun ρ M' => Ψ.nx (Γ.set i (some ρ)) M') (hs : ∀ x, foldedSetIterable iter X.env x = pure x := by intro _; rfl) : WS X E Γ M (.Assign [.Name y py] (.ListComp elt [⟨tg, iter, [tst], 0⟩] scope pos) spos) Ψ :=
  ws_of (ps_setLc hc hN hy hyl hsw hi ok hg (fun s H C cl fp => pts_one (pt_blk s H C cl fp)) pe_blk hs) fun σ G H a D k => wte_lcT src hE σ G H a _ fun ρ M' v G' H' h' s' a' r' => k.nx _ M' h' _ G' H' s' (a'.set r')
end
end MM

namespace MM
open PySem L2 PyProof.Rows
/-! ### sizes -/
def Bd (n : Nat) (i : Int) : Prop := i.natAbs < 2 ^ n
theorem pow2_le {a b : Nat} (h : a ≤ b) : 2 ^ a ≤ 2 ^ b := Nat.pow_le_pow_right (by decide) h
theorem Bd.mono {n m : Nat} {i : Int} (h : Bd n i) (l : n ≤ m) : Bd m i := Nat.lt_of_lt_of_le h (pow2_le l)
theorem bd_mul {n m : Nat} {i j : Int} (h : Bd n i) (h' : Bd m j) : Bd (n + m) (i * j) := wide_lt h h'
theorem pow_max {n m : Nat} : 2 ^ n + 2 ^ m ≤ 2 ^ (max n m + 1) := by
  have h1 : 2 ^ n ≤ 2 ^ (max n m) := pow2_le (Nat.le_max_left _ _)
  have h2 : 2 ^ m ≤ 2 ^ (max n m) := pow2_le (Nat.le_max_right _ _)
  rw [Nat.pow_succ]; omega
theorem bd_add {n m : Nat} {i j : Int} (h : Bd n i) (h' : Bd m j) : Bd (max n m + 1) (i + j) := by
  have h1 : i.natAbs < 2 ^ n := h
  have h2 : j.natAbs < 2 ^ m := h'
  have h3 := @pow_max n m
  have h4 := Int.natAbs_add_le i j
  show (i + j).natAbs < _
  omega
theorem bd_sub {n m : Nat} {i j : Int} (h : Bd n i) (h' : Bd m j) : Bd (max n m + 1) (i - j) := by
  have h1 : i.natAbs < 2 ^ n := h
  have h2 : j.natAbs < 2 ^ m := h'
  have h3 := @pow_max n m
  show (i - j).natAbs < _
  omega
theorem bd_neg {n : Nat} {i : Int} (h : Bd n i) : Bd n (-i) := by
  show (-i).natAbs < _
  rw [Int.natAbs_neg]; exact h
theorem bd_div {n : Nat} {i j : Int} (hj : 0 < j) (h : Bd n i) : Bd n (i / j) := by
  have h1 : i.natAbs < 2 ^ n := h
  show (i / j).natAbs < _
  have := Int.natAbs_ediv_le_natAbs i j
  omega
theorem bd_mod {n : Nat} {i j : Int} (hj : 0 < j) (h : Bd n j) : Bd n (i % j) := by
  have h1 : j.natAbs < 2 ^ n := h
  have h2 := Int.emod_nonneg i (by omega : j ≠ 0)
  have h3 := Int.emod_lt_of_pos i hj
  show (i % j).natAbs < _
  omega
theorem bd_range {n : Nat} {i : Int} (h0 : -(2 ^ n : Nat) < i) (h1 : i < (2 ^ n : Nat)) : Bd n i := by
  show i.natAbs < _
  omega
theorem Bd.lo {n : Nat} {i : Int} (h : Bd n i) : -((2 ^ n : Nat) : Int) < i := by
  have h1 : i.natAbs < 2 ^ n := h
  omega
theorem Bd.hi {n : Nat} {i : Int} (h : Bd n i) : i < ((2 ^ n : Nat) : Int) := by
  have h1 : i.natAbs < 2 ^ n := h
  omega
theorem bd_log {n : Nat} {i : Int} (h : Bd n i) (hn : 0 < n) : i.natAbs.log2 < n := PySem.Flt.log2_lt_of hn h
theorem mulOk {n m : Nat} {i j : Int} (h : Bd n i) (h' : Bd m j) (l : n + m ≤ 900000) : CMulW i j := by
  have h1 := bd_log (h.mono (Nat.le_succ n)) (by omega)
  have h2 := bd_log (h'.mono (Nat.le_succ m)) (by omega)
  unfold CMulW
  omega
theorem divOk {n : Nat} {i j : Int} (h0 : 0 < j) (h : Bd n j) (l : n < 9000) : CDivW i j := by
  refine ⟨h0, ?_⟩
  have h1 := bd_log (h.mono (Nat.le_succ n)) (by omega)
  omega
/-! ### operators on plain values -/
section
variable {X : Cx}
def CDivA (_ j : Int) : Prop := j ≠ 0 ∧ j.natAbs.log2 < 9000
theorem divOkA {n : Nat} {i j : Int} (h0 : j ≠ 0) (h : Bd n j) (l : n < 9000) : CDivA i j := by
  refine ⟨h0, ?_⟩
  have h1 := bd_log (h.mono (Nat.le_succ n)) (by omega)
  omega
theorem op_fdivA : OpR X (binaryOp .FloorDiv) (rI CDivA fun i j => .int (i.fdiv j)) := opI fun i j _ _ _ _ _ hc q => floordiv_int hc.1 q (.inl (PyProof.noPylong_of_log2 hc.2))
theorem iop_fdivA : OpR X (inplaceOp .FloorDiv) (rI CDivA fun i j => .int (i.fdiv j)) := opI fun i j _ _ _ _ _ hc q => ifloordiv_int hc.1 q (.inl (PyProof.noPylong_of_log2 hc.2))
/-- s * 0, s * 1 -/
theorem op_rep_str : OpR X (binaryOp .Mult) (fun x y H Q => ∃ z i, x = .str z ∧ y = .int i ∧ (i = 0 ∨ i = 1) ∧ Q (.str (if i = 1 then z else Str.empty)) H) := by
  intro pins s σ H x y v u Q I rx ry h
  obtain ⟨z, i, rfl, rfl, h0, q⟩ := h
  obtain ⟨t, rfl⟩ := rx
  obtain ⟨t', rfl⟩ := ry
  rcases h0 with rfl | rfl
  · exact PySem.P.mul_str_none (by decide) (by decide) ⟨.str _, H, I.tok _, ⟨_, rfl⟩, q⟩
  · refine PySem.P.mul_str (by decide) (fun _ h => by simp at h) (fun _ h => by simp at h) ?_
    rw [if_neg (by decide), if_pos (by simp)]
    exact ⟨.str z, H, I, ⟨_, rfl⟩, q⟩
def rAddU (K : PySem.W.Frag) : R2 := fun x y H Q => (rI0 fun i j => .int (i + j)) x y H Q ∨ (∃ i j, x = .str i ∧ y = .str j ∧ i.length + j.length ≤ sizeLine ∧ Q (.str (i ++ j)) H) ∨ rCat x y H Q ∨ rCatT K x y H Q
theorem op_addU : OpR X (binaryOp .Add) (rAddU X.K) := op_add.or (op_add_str.or (op_cat.or op_catT))
def rMulU : R2 := fun x y H Q => (rI CMulW fun i j => .int (i * j)) x y H Q ∨ (∃ z i, x = .str z ∧ y = .int i ∧ (i = 0 ∨ i = 1) ∧ Q (.str (if i = 1 then z else Str.empty)) H) ∨ rRep x y H Q
theorem op_mulU : OpR X (binaryOp .Mult) rMulU := op_mulW.or (op_rep_str.or op_rep)
abbrev rSubI : R2 := rI0 fun i j => .int (i - j)
abbrev rDivA : R2 := rI CDivA fun i j => .int (i.fdiv j)
abbrev rModN : R2 := rI (fun _ j => j ≠ 0) fun i j => .int (i.fmod j)
abbrev rPow : R2 := rI CPow fun i j => .int (i ^ j.toNat)
theorem opv_i {r : R2} {i j : Int} {v : V} {ρ : Rep} (h : ∀ (H : Hp) (Q : VK), Q v H → r (.int i) (.int j) H Q) (hv : ∀ G, ρ.p v G) : OpV r (RI i) (RI j) ρ := fun x y G H s hx hy Q q => by
  have hx : x = .int i := hx
  have hy : y = .int j := hy
  subst hx hy
  exact h H Q (q v G H (New.refl s) (hv G))
theorem opv_add_i {K : PySem.W.Frag} {i j : Int} : OpV (rAddU K) (RI i) (RI j) (RI (i + j)) := opv_i (fun H Q q => .inl ⟨i, j, rfl, rfl, q⟩) fun _ => rfl
theorem opv_sub_i {i j : Int} : OpV rSubI (RI i) (RI j) (RI (i - j)) := opv_i (fun H Q q => ⟨i, j, rfl, rfl, q⟩) fun _ => rfl
theorem opv_mul_i {i j : Int} (h : CMulW i j) : OpV rMulU (RI i) (RI j) (RI (i * j)) := opv_i (fun H Q q => .inl ⟨i, j, rfl, rfl, h, q⟩) fun _ => rfl
theorem opv_div_i {i j : Int} (h : 0 < j) (h9 : j.natAbs.log2 < 9000) : OpV rDivA (RI i) (RI j) (RI (i / j)) := opv_i (fun H Q q => ⟨i, j, rfl, rfl, ⟨by omega, h9⟩, by show Q (V.int (i.fdiv j)) H; rw [Int.fdiv_eq_ediv_of_nonneg i (by omega)]; exact q⟩) fun _ => rfl
theorem opv_fdiv_i {i j : Int} (h : CDivA i j) : OpV rDivA (RI i) (RI j) (RI (i.fdiv j)) := opv_i (fun H Q q => ⟨i, j, rfl, rfl, h, q⟩) fun _ => rfl
theorem opv_mod_i {i j : Int} (h : 0 < j) : OpV rModN (RI i) (RI j) (RI (i % j)) := opv_i (fun H Q q => ⟨i, j, rfl, rfl, by omega, by show Q (V.int (i.fmod j)) H; rw [Int.fmod_eq_emod_of_nonneg i (by omega)]; exact q⟩) fun _ => rfl
theorem opv_fmod_i {i j : Int} (h : j ≠ 0) : OpV rModN (RI i) (RI j) (RI (i.fmod j)) := opv_i (fun H Q q => ⟨i, j, rfl, rfl, h, q⟩) fun _ => rfl
theorem opv_pow_i {i j : Int} (h : CPow i j) : OpV rPow (RI i) (RI j) (RI (i ^ j.toNat)) := opv_i (fun H Q q => ⟨i, j, rfl, rfl, h, q⟩) fun _ => rfl
abbrev rLtI : R2 := rI0 fun i j => .bl (decide (i < j))
abbrev rLeI : R2 := rI0 fun i j => .bl (decide (i ≤ j))
abbrev rGtI : R2 := rI0 fun i j => .bl (decide (j < i))
abbrev rGeI : R2 := rI0 fun i j => .bl (decide (j ≤ i))
theorem opv_lt_i {i j : Int} : OpV rLtI (RI i) (RI j) (RB (decide (i < j))) := opv_i (fun H Q q => ⟨i, j, rfl, rfl, q⟩) fun _ => rfl
theorem opv_le_i {i j : Int} : OpV rLeI (RI i) (RI j) (RB (decide (i ≤ j))) := opv_i (fun H Q q => ⟨i, j, rfl, rfl, q⟩) fun _ => rfl
theorem opv_gt_i {i j : Int} : OpV rGtI (RI i) (RI j) (RB (decide (j < i))) := opv_i (fun H Q q => ⟨i, j, rfl, rfl, q⟩) fun _ => rfl
theorem opv_ge_i {i j : Int} : OpV rGeI (RI i) (RI j) (RB (decide (j ≤ i))) := opv_i (fun H Q q => ⟨i, j, rfl, rfl, q⟩) fun _ => rfl
theorem opv_add_s {K : PySem.W.Frag} {i j : Str} (h : i.length + j.length ≤ 100000) : OpV (rAddU K) (RS i) (RS j) (RS (i ++ j)) := fun x y G H s hx hy Q q => by
  have hx : x = .str i := hx
  have hy : y = .str j := hy
  subst hx hy
  exact .inr (.inl ⟨i, j, rfl, rfl, szOf h, q _ G H (New.refl s) rfl⟩)
theorem opv_add_l {K : PySem.W.Frag} {ρs ρs' : List Rep} (h : ρs.length + ρs'.length ≤ 100000) : OpV (rAddU K) (RLt ρs) (RLt ρs') (RLt (ρs ++ ρs')) := fun x y G H s ⟨a, xs, e1, h1, r1⟩ ⟨b, ys, e2, h2, r2⟩ Q q => by
  subst e1 e2
  refine .inr (.inr (.inl ⟨a, b, xs, ys, rfl, rfl, s _ _ h1, s _ _ h2, by rw [← r1.length, ← r2.length]; exact szOf h, fun p hp => ?_⟩))
  have n : New G H (upd G p (.lst (xs ++ ys))) (upd H p (.lst (xs ++ ys))) := New.put s hp
  exact q _ _ _ n ⟨p, _, rfl, upd_same, (r1.app r2).mono n.gg⟩
theorem opv_mul_s {i : Int} {z : Str} (h : i = 0 ∨ i = 1) : OpV rMulU (RS z) (RI i) (RS (if i = 1 then z else Str.empty)) := fun x y G H s hx hy Q q => by
  have hx : x = .str z := hx
  have hy : y = .int i := hy
  subst hx hy
  exact .inr (.inl ⟨z, i, rfl, rfl, h, q _ G H (New.refl s) rfl⟩)
/-! ### data compared -/
def IsD (K : PySem.W.Frag) (ρ : Rep) (d : PyData) : Prop := ∀ v G H, Same G H → ρ.p v G → Dp K H v d
def IsDs (K : PySem.W.Frag) (ρs : List Rep) (ds : List PyData) : Prop := ∀ vs G H, Same G H → Reps ρs vs G → DpAll K H vs ds
theorem isD_i {K : PySem.W.Frag} {i : Int} : IsD K (RI i) (.int i) := fun v G H _ h => by
  have h : v = .int i := h
  subst h; exact .int i
theorem isD_b {K : PySem.W.Frag} {i : Bool} : IsD K (RB i) (.bool i) := fun v G H _ h => by
  have h : v = .bl i := h
  subst h; exact .bl i
theorem isD_s {K : PySem.W.Frag} {i : Str} : IsD K (RS i) (.str i) := fun v G H _ h => by
  have h : v = .str i := h
  subst h; exact .str i
theorem isD_n {K : PySem.W.Frag} : IsD K RN .none := fun v G H _ h => by
  have h : v = .non := h
  subst h; exact .non
def oD : Option Int → PyData
  | none => .none
  | some i => .int i
theorem isD_o {K : PySem.W.Frag} : ∀ {o : Option Int}, IsD K (RO o) (oD o)
  | none => isD_n
  | some _ => isD_i
theorem isDs_nil {K : PySem.W.Frag} : IsDs K [] [] := fun vs G H _ h => by
  match vs, h with
  | [], _ => exact .nil
theorem isDs_cons {K : PySem.W.Frag} {ρ : Rep} {ρs : List Rep} {d : PyData} {ds : List PyData} (h : IsD K ρ d) (hs : IsDs K ρs ds) : IsDs K (ρ :: ρs) (d :: ds) := fun vs G H s r => by
  match vs, r with
  | v :: vs, ⟨r1, r2⟩ => exact .cons (h v G H s r1) (hs vs G H s r2)
theorem isDs_map {K : PySem.W.Frag} {α : Type} {f : α → Rep} {g : α → PyData} (h : ∀ a, IsD K (f a) (g a)) : ∀ l : List α, IsDs K (l.map f) (l.map g)
  | [] => isDs_nil
  | a :: l => isDs_cons (h a) (isDs_map h l)
theorem isD_t {K : PySem.W.Frag} {ρs : List Rep} {ds : List PyData} (h : IsDs K ρs ds) : IsD K (RT K ρs) (.tuple ds) := fun v G H s ⟨a, vs, e, hq, r⟩ => by
  subst e; exact .tup (same_seqT s hq) (h vs G H s r)
theorem isD_tt {K : PySem.W.Frag} {ρs : List Rep} {ds : List PyData} (h : IsDs K ρs ds) : IsD K (RTt ρs) (.tuple ds) := fun v G H s r => isD_t h v G H s (sub_tt v G r)
theorem isD_l {K : PySem.W.Frag} {ρs : List Rep} {ds : List PyData} (h : IsDs K ρs ds) : IsD K (RL K ρs) (.list ds) := fun v G H s ⟨a, vs, e, hq, r⟩ => by
  subst e; exact .lst (Same.seq s hq) (h vs G H s r)
theorem isD_lt {K : PySem.W.Frag} {ρs : List Rep} {ds : List PyData} (h : IsDs K ρs ds) : IsD K (RLt ρs) (.list ds) := fun v G H s r => isD_l h v G H s (sub_lt v G r)
theorem isD_sub {K : PySem.W.Frag} {ρ ρ' : Rep} {d : PyData} (sb : Sub ρ ρ') (h : IsD K ρ' d) : IsD K ρ d := fun v G H s r => h v G H s (sb v G r)
theorem opv_eq {K : PySem.W.Frag} {ρ ρ' : Rep} {d e : PyData} (h1 : IsD K ρ d) (h2 : IsD K ρ' e) (s1 : SeqAt.shaped d = true) (s2 : SeqAt.shaped e = true) : OpV (rEqD K) ρ ρ' (RB (PyData.eqv d e)) := fun x y G H s hx hy Q q =>
  ⟨d, e, h1 x G H s hx, h2 y G H s hy, s1, s2, q _ G H (New.refl s) rfl⟩
theorem opv_ne {K : PySem.W.Frag} {ρ ρ' : Rep} {d e : PyData} (h1 : IsD K ρ d) (h2 : IsD K ρ' e) (s1 : SeqAt.shaped d = true) (s2 : SeqAt.shaped e = true) : OpV (rNeD K) ρ ρ' (RB (!PyData.eqv d e)) := fun x y G H s hx hy Q q =>
  ⟨d, e, h1 x G H s hx, h2 y G H s hy, s1, s2, q _ G H (New.refl s) rfl⟩
theorem opv_sub {r : R2} {a b a' b' ρ : Rep} (h1 : Sub a a') (h2 : Sub b b') (h : OpV r a' b' ρ) : OpV r a b ρ := fun x y G H s hx hy Q q => h x y G H s (h1 _ _ hx) (h2 _ _ hy) Q q
/-- is None -/
abbrev rIsN : R2 := fun x y H Q => y = .non ∧ Q (.bl (decide (x = .non))) H
abbrev rNotN : R2 := fun x y H Q => y = .non ∧ Q (.bl (!decide (x = .non))) H
theorem opv_isN {ρ : Rep} {b : Bool} (h : ∀ v G, ρ.p v G → decide (v = V.non) = b) : OpV rIsN ρ RN (RB b) := fun x y G H s hx hy Q q => ⟨hy, q _ G H (New.refl s) (congrArg V.bl (h x G hx))⟩
theorem opv_notN {ρ : Rep} {b : Bool} (h : ∀ v G, ρ.p v G → decide (v = V.non) = b) : OpV rNotN ρ RN (RB (!b)) := fun x y G H s hx hy Q q => ⟨hy, q _ G H (New.refl s) (by show V.bl _ = V.bl _; rw [h x G hx])⟩
theorem isN_o {o : Option Int} : ∀ v G, (RO o).p v G → decide (v = V.non) = o.isNone := fun v G h => by
  cases o with
  | none =>
    have h : v = .non := h
    subst h; rfl
  | some i =>
    have h : v = .int i := h
    subst h; rfl
theorem isN_i {i : Int} : ∀ v G, (RI i).p v G → decide (v = V.non) = false := fun v G h => by
  have h : v = .int i := h
  subst h; rfl
theorem isN_n : ∀ v G, RN.p v G → decide (v = V.non) = true := fun v G h => by
  have h : v = .non := h
  subst h; rfl
/-! ### subscripts -/
theorem opv_ix_l {K : PySem.W.Frag} {ρa ρ : Rep} {ρs : List Rep} {i : Int} (sb : Sub ρa (RL K ρs)) (h : atI ρs i = some ρ) : OpV (rIx K) ρa (RI i) ρ := fun x y G H s hx hy Q q => by
  obtain ⟨a, vs, e, hq, r⟩ := sb _ _ hx
  have hy : y = .int i := hy
  subst e hy
  obtain ⟨j, h1, h2, h3, h4, h5⟩ := atI_get h
  obtain ⟨v, e2, r2⟩ := r.get h2
  refine .inl ⟨a, vs, i, v, rfl, rfl, Same.seq s hq, ?_, q v G H (New.refl s) r2⟩
  unfold atI at h ⊢
  rw [← r.length]
  cases z : ixN ρs.length i with
  | none => rw [z] at h; cases h
  | some j' =>
    rw [z] at h
    have := (ixN_seq z).1
    rw [h1] at this
    cases this
    exact e2
theorem opv_ix_t {K : PySem.W.Frag} {ρa ρ : Rep} {ρs : List Rep} {i : Int} (sb : Sub ρa (RT K ρs)) (h : atI ρs i = some ρ) : OpV (rIx K) ρa (RI i) ρ := fun x y G H s hx hy Q q => by
  obtain ⟨a, vs, e, hq, r⟩ := sb _ _ hx
  have hy : y = .int i := hy
  subst e hy
  obtain ⟨j, h1, h2, h3, h4, h5⟩ := atI_get h
  obtain ⟨v, e2, r2⟩ := r.get h2
  refine .inr (.inl ⟨a, vs, i, v, rfl, rfl, same_seqT s hq, ?_, q v G H (New.refl s) r2⟩)
  unfold atI at h ⊢
  rw [← r.length]
  cases z : ixN ρs.length i with
  | none => rw [z] at h; cases h
  | some j' =>
    rw [z] at h
    have := (ixN_seq z).1
    rw [h1] at this
    cases this
    exact e2
theorem opw_ix_o {K : PySem.W.Frag} {E : En} {Γ : Gm} {M : Ow} {Φ : Rep → Ow → Prop} {ρa ρb ρ : Rep} {ρs : List Rep} {p : Addr} {u : ORep → Ow} {i : Int} (sb : Sub ρa (RRef p)) (si : Sub ρb (RI i)) (fd : Fnd M p (OL ρs) u) (h : atI ρs i = some ρ) (k : Φ ρ M) : OpW E Γ M (rIx K) ρa ρb Φ := fun σ G H a x y hx hy Q q => by
  have e1 : x = .ref p := sb _ _ hx
  have e2 : y = .int i := si _ _ hy
  subst e1 e2
  obtain ⟨o, e3, vs, e4, r⟩ := a.own _ fd.mem
  subst e4
  obtain ⟨j, h1, h2, h3, h4, h5⟩ := atI_get h
  obtain ⟨v, e5, r2⟩ := r.get h2
  refine .inl ⟨p, vs, i, v, rfl, rfl, SqL.of e3, ?_, q ρ M v G H k (Same.refl _) a r2⟩
  unfold atI at h ⊢
  rw [← r.length]
  cases z : ixN ρs.length i with
  | none => rw [z] at h; cases h
  | some j' =>
    rw [z] at h
    have := (ixN_seq z).1
    rw [h1] at this
    cases this
    exact e5
/-- an item at an open place: one of the list's -/
theorem atI_of {α : Type} {l : List α} {i : Int} (h0 : 0 ≤ i) (h1 : i < l.length) : ∃ x, atI l i = some x ∧ x ∈ l ∧ l[i.toNat]? = some x := by
  have hl : i.toNat < l.length := by omega
  have e : ((i.toNat : Nat) : Int) = i := by omega
  have h := atI_nat (xs := l) (j := i.toNat) (v := l[i.toNat]) (by simp [hl])
  rw [e] at h
  exact ⟨l[i.toNat], h, List.getElem_mem hl, by simp [hl]⟩
/-! ### built-in functions -/
theorem cav_abs {i : Int} : CaV (fun xs H Q => ∃ i, xs = [.int i] ∧ Q (.int (if i < 0 then -i else i)) H) [RI i] (RI (i.natAbs : Int)) := fun vs G H s r Q q => by
  match vs, r with
  | [v], ⟨r1, _⟩ =>
    have r1 : v = .int i := r1
    subst r1
    refine ⟨i, rfl, q _ G H (New.refl s) ?_⟩
    show V.int _ = V.int _
    congr 1
    split <;> omega
theorem cav_int_b {b : Bool} : CaV (fun xs H Q => (∃ i, xs = [.int i] ∧ Q (.int i) H) ∨ ∃ k, xs = [.bl k] ∧ Q (.int (if k then 1 else 0)) H) [RB b] (RI (if b then 1 else 0)) := fun vs G H s r Q q => by
  match vs, r with
  | [v], ⟨r1, _⟩ =>
    have r1 : v = .bl b := r1
    subst r1
    exact .inr ⟨b, rfl, q _ G H (New.refl s) rfl⟩
theorem cav_max2 {i j : Int} : CaV (fun xs H Q => ∃ i j, xs = [.int i, .int j] ∧ Q (.int (if j > i then j else i)) H) [RI i, RI j] (RI (max i j)) := fun vs G H s r Q q => by
  match vs, r with
  | [v, w], ⟨r1, r2, _⟩ =>
    have r1 : v = .int i := r1
    have r2 : w = .int j := r2
    subst r1 r2
    refine ⟨i, j, rfl, q _ G H (New.refl s) ?_⟩
    show V.int _ = V.int _
    congr 1
    split <;> omega
theorem cav_min2 {i j : Int} : CaV (fun xs H Q => ∃ i j, xs = [.int i, .int j] ∧ Q (.int (if j < i then j else i)) H) [RI i, RI j] (RI (min i j)) := fun vs G H s r Q q => by
  match vs, r with
  | [v, w], ⟨r1, r2, _⟩ =>
    have r1 : v = .int i := r1
    have r2 : w = .int j := r2
    subst r1 r2
    refine ⟨i, j, rfl, q _ G H (New.refl s) ?_⟩
    show V.int _ = V.int _
    congr 1
    split <;> omega
theorem cav_str_i {i : Int} (h : i.natAbs.log2 < 1920) : CaV (fun xs H Q => ∃ i, xs = [.int i] ∧ i.natAbs.log2 < 1920 ∧ Q (.str (toString i)) H) [RI i] (RS (Str.ofString (toString i))) := fun vs G H s r Q q => by
  match vs, r with
  | [v], ⟨r1, _⟩ =>
    have r1 : v = .int i := r1
    subst r1
    exact ⟨i, rfl, h, q _ G H (New.refl s) rfl⟩
/-- isinstance -/
def TyIs (K : PySem.W.Frag) (ρ : Rep) (t : Value) : Prop := ∀ v G H, Same G H → ρ.p v G → TyX K H v t
theorem tyIs_i {K : PySem.W.Frag} {i : Int} : TyIs K (RI i) (.type "int") := fun v G H _ h => by
  have h : v = .int i := h
  subst h; exact .base (.int i)
theorem tyIs_b {K : PySem.W.Frag} {i : Bool} : TyIs K (RB i) (.type "bool") := fun v G H _ h => by
  have h : v = .bl i := h
  subst h; exact .base (.bl i)
theorem tyIs_s {K : PySem.W.Frag} {i : Str} : TyIs K (RS i) (.type "str") := fun v G H _ h => by
  have h : v = .str i := h
  subst h; exact .base (.str i)
theorem tyIs_n {K : PySem.W.Frag} : TyIs K RN (.type "NoneType") := fun v G H _ h => by
  have h : v = .non := h
  subst h; exact .base .non
theorem tyIs_lt {K : PySem.W.Frag} {ρs : List Rep} : TyIs K (RLt ρs) (.type "list") := fun v G H s ⟨a, vs, e, h, _⟩ => by
  subst e; exact .base (.lst (s _ _ h))
theorem tyIs_tt {K : PySem.W.Frag} {ρs : List Rep} : TyIs K (RTt ρs) (.type "tuple") := fun v G H s ⟨a, vs, e, h, _⟩ => by
  subst e; exact .base (.tup (s _ _ h))
/-- what isinstance asks of an own class -/
structure ClsI (K : PySem.W.Frag) (C : Addr) : Prop where
  cl : Cls K C
  ha : PySem.W.findIn K (.ref C) "__class__" = some (some (.builtin "object.__class__"))
  hn : PySem.W.specialIn K (.builtin "object.__class__") "__get__" = some (some (.builtin "getset_descriptor.__get__"))
  htk : PySem.W.takesIn K (.builtin "object.__class__") = some true
  hm : PySem.W.mroIn K C (.type "object") = some true
theorem tyIs_ins {K : PySem.W.Frag} {C : Addr} {l : List (Str × Rep)} (c : ClsI K C) : TyIs K (RIns C l) (.ref C) := fun v G H s ⟨a, dx, fs, e, h, _⟩ => by
  subst e; exact .base (.ins (s _ _ h) c.cl c.ha c.hn c.htk c.hm)
theorem tyIs_sub {K : PySem.W.Frag} {ρ ρ' : Rep} {t : Value} (sb : Sub ρ ρ') (h : TyIs K ρ' t) : TyIs K ρ t := fun v G H s r => h v G H s (sb v G r)
theorem cav_isi {K : PySem.W.Frag} {ρ : Rep} {c : V} {t u : Value} {b : Bool} (h : TyIs K ρ t) (hc : ClsV c u) (e : PySem.W.kitOne K t u = some b) : CaV (rIsi K) [ρ, RV c] (RB b) := fun vs G H s r Q q => by
  match vs, r with
  | [v, w], ⟨r1, r2, _⟩ =>
    have r2 : w = c := r2
    subst r2
    exact ⟨v, w, t, u, b, rfl, hc, h v G H s r1, e, q _ G H (New.refl s) rfl⟩
theorem kit_self {K : PySem.W.Frag} {C : Addr} : PySem.W.kitOne K (.ref C) (.ref C) = some true := by
  unfold PySem.W.kitOne
  rw [if_pos (by simp)]
/-! ### the truth of own things without __bool__ and __len__ -/
theorem tru_ins {C : Addr} (hb : PySem.W.findIn X.K (.ref C) "__bool__" = some none) (hl : PySem.W.findIn X.K (.ref C) "__len__" = some none) {pins : List (Addr × Obj)} {s : Shared} {σ : L2.St} {H : Hp} {a dx : Addr} {fs : List (Str × V)} {Q : Bool → Hp → Prop} (I : L2.Inv X pins σ H s) (h : H a = some (.ins C dx fs)) (q : Q true H) :
    wpAny (model X.prog X.w) X.A (truthy (.ref a)) (TP X pins σ Q) X.xe s := by
  obtain ⟨mA, O, _, _, _, _⟩ := ins_get I.hok h
  obtain ⟨od, J, _⟩ := O.look
  have K' := I.kIn
  unfold truthy
  refine wpAny_bind (m := callSpecial? (.ref a) (Str.ofString "__bool__")) (wpAny_bind (wpAny_bind (J.type.here ((PySem.W.looks_findIn K' hb).here (wpAny_pure ?_)))))
  refine wpAny_bind (wpAny_bind (J.type.here ((PySem.W.looks_findIn K' hl).here ?_)))
  exact wpAny_pure ⟨H, I, q⟩
end
/-- x or y, x an own thing, or a plain value of known truth -/
def Tru (X : Cx) (ρ : Rep) (k : Bool) : Prop := ∀ {pins : List (Addr × Obj)} {s : Shared} {σ : L2.St} {G H : Hp} {x : V} {v : Value} {Q : Bool → Hp → Prop}, L2.Inv X pins σ H s → Same G H → ρ.p x G → RelV x v → Q k H → wpAny (model X.prog X.w) X.A (truthy v) (TP X pins σ Q) X.xe s
section
variable {X : Cx} {E : En} {Γ : Gm} {M : Ow} {a b e : Expr} {pos : Pos} {Φ : Rep → Ow → Prop}
theorem tru_of {ρ : Rep} {k : Bool} (h : ∀ x G H, Same G H → ρ.p x G → TruV X.K x H k) : Tru X ρ k := fun {pins s σ G H x v Q} I sg hx r q => tru_ok pins s σ H x v Q I r ⟨k, h x G H sg hx, q⟩
theorem truIns {C : Addr} {l : List (Str × Rep)} (hb : PySem.W.findIn X.K (.ref C) "__bool__" = some none) (hl : PySem.W.findIn X.K (.ref C) "__len__" = some none) : Tru X (RIns C l) true := fun {pins s σ G H x v Q} I sg ⟨a, dx, fs, e, h, _⟩ r q => by
  subst e
  obtain rfl : v = Value.ref a := r
  exact tru_ins hb hl I (sg _ _ h) q
theorem truSub {ρ ρ' : Rep} {k : Bool} (sb : Sub ρ ρ') (h : Tru X ρ' k) : Tru X ρ k := fun {pins s σ G H x v Q} I sg hx r q => h I sg (sb _ _ hx) r q
theorem truN : Tru X RN false := tru_of fun x G H _ h => by
  have h : x = .non := h
  subst h; rfl
theorem truI {i : Int} : Tru X (RI i) (i != 0) := tru_of fun x G H _ h => by
  have h : x = .int i := h
  subst h; rfl
theorem truB {i : Bool} : Tru X (RB i) i := fun {pins s σ G H x v Q} I sg hx r q => by
  have h : x = .bl i := hx
  subst h
  obtain rfl : v = Value.bool i := r
  exact wpAny_truthy_bool ⟨H, I, q⟩
theorem we_orT {rest : List Expr} (h : WE X E Γ M a fun ρ M' => ∃ k, Tru X ρ k ∧ (k = false → WE X E Γ M' (.BoolOp .Or (b :: rest) pos) Φ) ∧ (k = true → Φ ρ M')) : WE X E Γ M (.BoolOp .Or (a :: b :: rest) pos) Φ := fun σ G H at' Q q pins s I => by
  refine BoolOp_or (thn (h σ G H at' (fun v H1 => ∃ ρ M' G1 k, Tru X ρ k ∧ (k = false → WE X E Γ M' (.BoolOp .Or (b :: rest) pos) Φ) ∧ (k = true → Φ ρ M') ∧ Same G G1 ∧ At E Γ M' σ G1 H1 ∧ ρ.p v G1) (fun ρ M' v G1 H1 ⟨k, t, h1, h2⟩ s1 a1 r1 => ⟨ρ, M', G1, k, t, h1, h2, s1, a1, r1⟩) pins s I) fun v s1 ⟨x, H1, I1, r1, ρ, M', G1, k, t, h1, h2, sg, a1, rx⟩ => ?_)
  refine thn (t (Q := fun c H2 => c = k ∧ H2 = H1) I1 a1.gh rx r1 ⟨rfl, rfl⟩) fun c s2 ⟨H2, I2, e1, e2⟩ => ?_
  subst e1 e2
  cases c with
  | true => exact ⟨x, H2, I2, r1, q ρ M' x G1 H2 (h2 rfl) sg a1 rx⟩
  | false => exact h1 rfl σ G1 H2 a1 Q (fun ρ' M2 v2 G2 H3 hk s3 => q ρ' M2 v2 G2 H3 hk (sg.trans s3)) pins s2 I2
/-- any expression as a test, by its truth -/
theorem wt_tru {Φ : Bool → Ow → Prop} (h : WE X E Γ M e fun ρ M' => ∃ k, Tru X ρ k ∧ Φ k M') (he : ∀ whole, isTrue e X.env whole = (do let v ← whole; standAt e.pos; holding [v] (truthy v)) := by intro _; rfl) : WT X E Γ M e Φ := fun σ G H a Q q pins s I => by
  refine isTrue_plain (thn (h σ G H a (fun v H1 => ∃ ρ M' G1 k, Tru X ρ k ∧ Φ k M' ∧ Same G G1 ∧ At E Γ M' σ G1 H1 ∧ ρ.p v G1) (fun ρ M' v G1 H1 ⟨k, t, hk⟩ s1 a1 r1 => ⟨ρ, M', G1, k, t, hk, s1, a1, r1⟩) pins s I) fun v s1 ⟨x, H1, I1, r1, ρ, M', G1, k, t, hk, sg, a1, rx⟩ => ?_) (he _)
  exact t I1 a1.gh rx r1 (q k M' G1 H1 hk sg a1)
end
end MM

namespace MM
open PySem L2 PyProof.Rows
/-! ### calls with keywords -/
def KnK (P : Program) (w : World) (K : PySem.W.Frag) (mg : Str → Option Value) (base : Heap) (k : Nat) (x : Str) (n : Nat) (ks : List Str) (gV : List V → List V → List V) (c : Con) : Prop :=
  ∃ (f : Addr) (fd : FuncData) (ps : List Str) (g : List Value → List Value → List Value), mg x = some (.ref f) ∧ PySem.W.keepIn K (.ref f) = true ∧ KBn K fd ps n ks g gV ∧ FnOk P w K mg base CX0 k f fd ps (conSp c)
def KnCK (P : Program) (w : World) (K : PySem.W.Frag) (mg : Str → Option Value) (base : Heap) (k : Nat) (x : Str) (C : Addr) (n : Nat) (ks : List Str) (gV : List V → List V → List V) (c : Con) : Prop :=
  ∃ (f : Addr) (fd : FuncData) (ps : List Str) (g : List Value → List Value → List Value), mg x = some (.ref C) ∧ Mk K C f ∧ KBn K fd ps (n + 1) ks g gV ∧ FnOk P w K mg base CX0 k f fd ps (conSp c)
def KnMK (P : Program) (w : World) (K : PySem.W.Frag) (mg : Str → Option Value) (base : Heap) (k : Nat) (C : Addr) (m : Str) (n : Nat) (ks : List Str) (gV : List V → List V → List V) (c : Con) : Prop :=
  ∃ (f : Addr) (fd : FuncData) (ps : List Str) (g : List Value → List Value → List Value), Meth K C m f ∧ Cls K C ∧ KBn K fd ps (n + 1) ks g gV ∧ FnOk P w K mg base CX0 k f fd ps (conSp c)
/-- the same rearrangement of representations as of values -/
structure GvR (gV : List V → List V → List V) (gR : List Rep → List Rep → List Rep) (n m : Nat) : Prop where
  run : ∀ {ρs ρz : List Rep} {vs zs : List V} {G : Hp}, ρs.length = n → ρz.length = m → Reps ρs vs G → Reps ρz zs G → Reps (gR ρs ρz) (gV vs zs) G
section
variable {X : Cx} {E : En} {Γ : Gm} {M : Ow} {a b e : Expr} {es : List Expr} {kws : List Keyword} {ks : List Str} {pos p apos : Pos} {Φ : Rep → Ow → Prop} {k n : Nat} {x : Str} {c : Con} {gV : List V → List V → List V} {gR : List Rep → List Rep → List Rep}
theorem pe_callN0 {CX : CXT} {f : Addr} {fd : FuncData} {ps : List Str} {sp : Sp} {EE : XK} {tk : TA} {g : List Value → List Value → List Value} (F : FnOk X.prog X.w X.K X.mg X.base CX k f fd ps sp) (hr : Room k X.A) (hg : Gl X x) (hm : X.mg x = some (.ref f)) (hk : PySem.W.keepIn X.K (.ref f) = true) (hb : KBn X.K fd ps 0 ks g gV) (hx : Passes CX X EE) (hkw : PK X kws tk)
    (hall : (backToKw pos (keywordEach kws X.env)).all (·.1.isSome) = true := by rfl) (hks : (backToKw pos (keywordEach kws X.env)).filterMap (·.1) = ks := by rfl) (hdb : (x == ("__debug__" : Str)) = false := by decide)
    (hpl : ((backTo pos (starEach [] X.env)).any (·.1) || (backToKw pos (keywordEach kws X.env)).any (·.1.isNone)) = false := by rfl) :
    PE X (.Call (.Name x p) [] kws pos) (tCallN 0 ks.length sp gV EE tNil tk) := by
  refine ⟨fun pins s σ H Q I h => ?_⟩
  refine wpAny_Call_Name_kw (ld_glob I hg hm ?_ hdb)
  refine PySem.W.callWith_KW0 (h₀ := X.base) I.ok.mod.kin hk hall ?_ hpl
  refine thn (hkw.run pos pins s σ H _ I h) fun ws s2 ⟨zs, H2, I2, rz, l1, l2, q2⟩ => ⟨I2.kIn, ?_⟩
  rw [hks]
  exact run_fnN (us := []) (vs := []) F hr hb hx I2 .nil rz rfl l2 q2
theorem we_callN (F : KnK X.prog X.w X.K X.mg X.base k x n ks gV c) (gr : GvR gV gR n ks.length) (hr : Room k X.A) (hg : Gl X x) (hx : Passes CX0 X E0)
    (h : WA X E Γ M (e :: es) fun ρs M1 => ρs.length = n ∧ WK X E Γ M1 kws fun ρz M2 => ρz.length = ks.length ∧ CallK c (gR ρs ρz) M2 Φ)
    (hall : (backToKw pos (keywordEach kws X.env)).all (·.1.isSome) = true := by rfl) (hks : (backToKw pos (keywordEach kws X.env)).filterMap (·.1) = ks := by rfl)
    (hdb : (x == ("__debug__" : Str)) = false := by decide) (he : starEach (e :: es) X.env = (false, eval e X.env) :: starEach es X.env := by rfl)
    (hpl : ((backTo pos (starEach (e :: es) X.env)).any (·.1) || (backToKw pos (keywordEach kws X.env)).any (·.1.isNone)) = false := by rfl) :
    WE X E Γ M (.Call (.Name x p) (e :: es) kws pos) Φ := by
  obtain ⟨f, fd, ps, g, hm, hk, hb, F⟩ := F
  refine we_of (pe_callN F hr hg hm hk hb hx pa_w pk_w hall hks hdb he hpl) fun σ G H a Q q => ?_
  exact h σ G H a _ fun ρs M1 vs G1 H1 ⟨l1, h1⟩ s1 a1 r1 => h1 σ G1 H1 a1 _ fun ρz M2 zs G2 H2 ⟨l2, hh⟩ s2 a2 r2 =>
    ⟨by rw [← r1.length]; exact l1, by rw [← r2.length]; exact l2, callK_run hh a2 (gr.run l1 l2 (r1.mono s2) r2) fun ρ M3 v G3 H3 h3 s3 => q ρ M3 v G3 H3 h3 ((s1.trans s2).trans s3)⟩
theorem we_callN0 (F : KnK X.prog X.w X.K X.mg X.base k x 0 ks gV c) (gr : GvR gV gR 0 ks.length) (hr : Room k X.A) (hg : Gl X x) (hx : Passes CX0 X E0)
    (h : WK X E Γ M kws fun ρz M2 => ρz.length = ks.length ∧ CallK c (gR [] ρz) M2 Φ)
    (hall : (backToKw pos (keywordEach kws X.env)).all (·.1.isSome) = true := by rfl) (hks : (backToKw pos (keywordEach kws X.env)).filterMap (·.1) = ks := by rfl) (hdb : (x == ("__debug__" : Str)) = false := by decide)
    (hpl : ((backTo pos (starEach [] X.env)).any (·.1) || (backToKw pos (keywordEach kws X.env)).any (·.1.isNone)) = false := by rfl) :
    WE X E Γ M (.Call (.Name x p) [] kws pos) Φ := by
  obtain ⟨f, fd, ps, g, hm, hk, hb, F⟩ := F
  refine we_of (pe_callN0 F hr hg hm hk hb hx pk_w hall hks hdb hpl) fun σ G H a Q q => ?_
  show tWK X kws σ H _
  exact h σ G H a _ fun ρz M2 zs G2 H2 ⟨l2, hh⟩ s2 a2 r2 =>
    ⟨rfl, by rw [← r2.length]; exact l2, callK_run hh a2 (gr.run rfl l2 trivial r2) fun ρ M3 v G3 H3 h3 s3 => q ρ M3 v G3 H3 h3 (s2.trans s3)⟩
/-- __init__ with keywords: the thing itself stands first -/
def MakeN (E : En) (C : Addr) (c : Con) (gR : List Rep → List Rep → List Rep) (ρs ρz : List Rep) (M : Ow) (Φ : Rep → Ow → Prop) : Prop :=
  ∀ p, p ∉ M.map (·.1) → p ∉ E.M → CallK c (gR (RRef p :: ρs) ρz) ((p, OIns C []) :: M) fun ρ M' => Sub ρ RN ∧ ∃ l M2, Rm M' p (OIns C l) M2 ∧ Φ (RIns C l) M2
theorem makeN_run {C : Addr} {σ : L2.St} {G H : Hp} {m : Nat} {ρs ρz : List Rep} {vs zs : List V} {Q : VK} (gr : GvR gV gR (n + 1) m) (l1 : ρs.length = n) (l2 : ρz.length = m) (hE : ∀ a ∈ E.M, E.H a ≠ none) (h : MakeN E C c gR ρs ρz M Φ) (a : At E Γ M σ G H) (r : Reps ρs vs G) (r2 : Reps ρz zs G)
    (q : ∀ ρ M' v G' H', Φ ρ M' → Same G G' → At E Γ M' σ G' H' → ρ.p v G' → Q v H') :
    ∀ x dx, H x = none → H dx = none → dx ≠ x → conSp c (gV (.ref x :: vs) zs) (upd (upd H dx (.own x)) x (.ins C dx [])) (fun v H2 => v = .non ∧ Q (.ref x) H2) E0 := fun x dx nx nd ne => by
  have n1 : New G H G (upd H dx (.own x)) := New.side a.gh nd
  have a1 := a.new n1
  have nx1 : upd H dx (.own x) x = none := by rw [upd_ne (Ne.symm ne)]; exact nx
  have hpE : x ∉ E.M := fun z => hE x z (a.fresh nx)
  have a2 := a1.own1 (r := OIns C []) nx1 ⟨dx, [], rfl, trivial⟩
  refine callK_run (h x (a.freshM nx) hpE) a2 (gr.run (by simp [l1]) l2 ⟨rfl, r⟩ r2) fun ρ M' v G' H' ⟨sb, l, M2, rm, hΦ⟩ s' a' r' => ⟨sb _ _ r', ?_⟩
  obtain ⟨o, e1, ⟨dx', fs, e2, rf⟩, sg, a3⟩ := a'.freeze rm hpE
  subst e2
  exact q _ _ _ _ _ hΦ (s'.trans sg) a3 ⟨x, dx', fs, rfl, upd_same, rf.mono sg⟩
theorem we_makeN {C : Addr} (F : KnCK X.prog X.w X.K X.mg X.base k x C n ks gV c) (gr : GvR gV gR (n + 1) ks.length) (hr : Room (k + 1) X.A) (hg : Gl X x) (hx : Passes CX0 X E0) (hE : ∀ a ∈ E.M, E.H a ≠ none)
    (h : WA X E Γ M (e :: es) fun ρs M1 => ρs.length = n ∧ WK X E Γ M1 kws fun ρz M2 => ρz.length = ks.length ∧ MakeN E C c gR ρs ρz M2 Φ)
    (hall : (backToKw pos (keywordEach kws X.env)).all (·.1.isSome) = true := by rfl) (hks : (backToKw pos (keywordEach kws X.env)).filterMap (·.1) = ks := by rfl)
    (hdb : (x == ("__debug__" : Str)) = false := by decide) (he : starEach (e :: es) X.env = (false, eval e X.env) :: starEach es X.env := by rfl)
    (hpl : ((backTo pos (starEach (e :: es) X.env)).any (·.1) || (backToKw pos (keywordEach kws X.env)).any (·.1.isNone)) = false := by rfl) :
    WE X E Γ M (.Call (.Name x p) (e :: es) kws pos) Φ := by
  obtain ⟨f, fd, ps, g, hm, Mk, hb, F⟩ := F
  refine we_of (pe_makeN Mk F hr hg hm hb hx pa_w pk_w hall hks hdb he hpl) fun σ G H a Q q => ?_
  exact h σ G H a _ fun ρs M1 vs G1 H1 ⟨l1, h1⟩ s1 a1 r1 => h1 σ G1 H1 a1 _ fun ρz M2 zs G2 H2 ⟨l2, hh⟩ s2 a2 r2 =>
    ⟨by rw [← r1.length]; exact l1, by rw [← r2.length]; exact l2, makeN_run gr l1 l2 hE hh a2 (r1.mono s2) r2 fun ρ M3 v G3 H3 h3 s3 => q ρ M3 v G3 H3 h3 ((s1.trans s2).trans s3)⟩
theorem we_makeN0 {C : Addr} (F : KnCK X.prog X.w X.K X.mg X.base k x C 0 ks gV c) (gr : GvR gV gR 1 ks.length) (hr : Room (k + 1) X.A) (hg : Gl X x) (hx : Passes CX0 X E0) (hE : ∀ a ∈ E.M, E.H a ≠ none)
    (h : WK X E Γ M kws fun ρz M2 => ρz.length = ks.length ∧ MakeN E C c gR [] ρz M2 Φ)
    (hall : (backToKw pos (keywordEach kws X.env)).all (·.1.isSome) = true := by rfl) (hks : (backToKw pos (keywordEach kws X.env)).filterMap (·.1) = ks := by rfl) (hdb : (x == ("__debug__" : Str)) = false := by decide)
    (hpl : ((backTo pos (starEach [] X.env)).any (·.1) || (backToKw pos (keywordEach kws X.env)).any (·.1.isNone)) = false := by rfl) :
    WE X E Γ M (.Call (.Name x p) [] kws pos) Φ := by
  obtain ⟨f, fd, ps, g, hm, Mk, hb, F⟩ := F
  refine we_of (pe_makeK0 Mk F hr hg hm hb hx pk_w hall hks hdb hpl) fun σ G H a Q q => ?_
  show tWK X kws σ H _
  exact h σ G H a _ fun ρz M2 zs G2 H2 ⟨l2, hh⟩ s2 a2 r2 =>
    ⟨rfl, by rw [← r2.length]; exact l2, makeN_run (n := 0) gr rfl l2 hE hh a2 trivial r2 fun ρ M3 v G3 H3 h3 s3 => q ρ M3 v G3 H3 h3 (s2.trans s3)⟩
end
/-! ### a def with defaults -/
abbrev FdD (K : PySem.W.Frag) (x qual : Str) (st : Stmt) (dvs : List V) (f : Addr) (fd : FuncData) : Prop := FunD K x qual (defArgs st) (defBody st) (defScope st) dvs [] f fd
theorem fn_conD {P : Program} {w : World} {K : PySem.W.Frag} {mg : Str → Option Value} {base : Heap} {x qual : Str} {st : Stmt} {dvs : List V} {f : Addr} {fd : FuncData} {N ps : List Str} {k : Nat} (c : Con) (F : FdD K x qual st dvs f fd) (S : FnScope N ps (defScope st)) (hl : ∀ i, (c.args i).length = ps.length)
    (h : ∀ (cd : Value) (A : Around) (outer : List Env) (s : Shared) (H : Hp) (EE : XK) (G : Hp) (i : c.I), c.pre i → Room k (A.deeper (PyProof.Rows.envOfC qual (defScope st) s.heap.objs.size f cd)) → (∀ a ∈ (c.own i).map (·.1), H a ≠ none) →
      WSs (xd P w K mg base N qual (defScope st) f cd A outer s H EE) ⟨G, H, (c.own i).map (·.1)⟩ (startG N (c.args i)) (c.own i) (defBody st) (EdOf c i)) : FnOk P w K mg base CX0 (k + 1) f fd ps (conSp c) := by
  refine F.ok S (fun vs H Q EE hh => ?_) fun cdv A outer s H vs Q EE hr hh => ?_
  · obtain ⟨G, i, _, _, r, _⟩ := hh
    rw [← r.length]; exact hl i
  · obtain ⟨G, i, gh, hp, r, o1, o2, o3, kk⟩ := hh
    refine ⟨tWSs (xd P w K mg base N qual (defScope st) f cdv A outer s H EE) (defBody st), pss_w.nox, ?_⟩
    have hE : ∀ a ∈ (c.own i).map (·.1), H a ≠ none := fun a ha => by
      obtain ⟨q, hq, e⟩ := List.mem_map.mp ha
      obtain ⟨o, e2, _⟩ := o1 q hq
      rw [← e, e2]; simp
    have a0 : At ⟨G, H, (c.own i).map (·.1)⟩ (startG N (c.args i)) (c.own i) (L2.start N vs) G H :=
      ⟨by simp [startG, L2.start, r.length], start_env r, gh, o1, o2, o3, Same.refl _, fun _ _ _ e => e, fun _ _ hg => hg, fun q hq => .inl (List.mem_map.mpr ⟨q, hq, rfl⟩), fun _ h => h⟩
    have fin : ∀ ρ M, Rt c i ρ M → ∀ v G' H', At ⟨G, H, (c.own i).map (·.1)⟩ [] M [] G' H' → ρ.p v G' → Q v H' := fun ρ M ⟨x, rest, px, sb, pk⟩ v G' H' a rv => by
      obtain ⟨p1, p2, p3⟩ := a.picked pk
      have fm := pk.f a.nd
      refine kk x v G' H' px ⟨a.g0, a.gh, fun b u h1 h2 => a.keep b u h1 h2, fun b h1 h2 => a.nw b h1 h2, p1, p2, p3, fun q hq => ?_, fun b hb => a.there b hb⟩ (sb _ _ rv)
      obtain ⟨q', h1, h2, _⟩ := fm.own q hq
      rw [← h2]; exact a.loc q' h1
    exact h cdv A outer s H EE G i hp hr hE (L2.start N vs) G H a0 _ ⟨fun Γ M h' σ G' H' _ a' => fin _ _ h' _ _ _ a'.env0 rfl, fun ρ M h' v G' H' _ a' rv => fin _ _ h' _ _ _ a' rv, fun _ _ h' => h'.elim, fun _ _ h' => h'.elim⟩
theorem fdD_mk {K : PySem.W.Frag} {x qual : Str} {st : Stmt} {f : Addr} {oc : Value} {od an : Option Addr} {osl : Array (Option Value)} {kV doc pm cdv ct : Value} (l : K.lookup f = some ⟨oc, od, .func (PySem.W.fnOf x qual (defArgs st) (defBody st) (defScope st) .none kV doc pm an cdv ct), osl⟩)
    (c : PySem.W.codeIn K cdv qual = true) (k : PySem.W.keepIn K (.ref f) = true) : FdD K x qual st [] f (PySem.W.fnOf x qual (defArgs st) (defBody st) (defScope st) .none kV doc pm an cdv ct) :=
  ⟨⟨oc, od, .none, kV, doc, pm, an, cdv, ct, osl, rfl, l, c, .inl ⟨rfl, rfl⟩, .inl rfl⟩, k⟩
theorem fdD_mkT {K : PySem.W.Frag} {x qual : Str} {st : Stmt} {dvs : List V} {f T : Addr} {oc tc : Value} {od td an : Option Addr} {osl tsl : Array (Option Value)} {kV doc pm cdv ct : Value} {its : Array Value} {n : Nat} (l : K.lookup f = some ⟨oc, od, .func (PySem.W.fnOf x qual (defArgs st) (defBody st) (defScope st) (.ref T) kV doc pm an cdv ct), osl⟩)
    (c : PySem.W.codeIn K cdv qual = true) (k : PySem.W.keepIn K (.ref f) = true) (lT : K.lookup T = some ⟨tc, td, .seq its n, tsl⟩) (hd : dvs ≠ []) (hv : Vals dvs its.toList) : FdD K x qual st dvs f (PySem.W.fnOf x qual (defArgs st) (defBody st) (defScope st) (.ref T) kV doc pm an cdv ct) :=
  ⟨⟨oc, od, .ref T, kV, doc, pm, an, cdv, ct, osl, rfl, l, c, .inr ⟨hd, T, ⟨tc, td, .seq its n, tsl⟩, its.toList, n, rfl, lT, by simp, hv⟩, .inl rfl⟩, k⟩
end MM

namespace MM
open PySem L2 PyProof.Rows
/-! ### the text by places -/
def top (i : Nat) : Stmt := PySem.Challenge.pw_meanmoon_k32_all_unlike_stretches.main.body.getD i (.Pass ⟨0, 0, 0, 0⟩)
abbrev s_f_row_behind : Stmt := top 5
abbrev N_f_row_behind : List Str := ["top", "bottom", "spot", "many", "days", "at", "soon", "late"]
theorem sc_f_row_behind : FnScope N_f_row_behind ["top", "bottom", "spot", "many"] (defScope s_f_row_behind) := ⟨rfl, rfl, rfl, by decide +kernel, rfl, by decide +kernel, by decide +kernel⟩
abbrev X_f_row_behind (P : Program) (w : World) (K : PySem.W.Frag) (mg : Str → Option Value) (base : Heap) (f : Addr) (cd : Value) (A : Around) (outer : List Env) (s : Shared) (H : Hp) (EE : XK) : Cx := xd P w K mg base N_f_row_behind "row_behind" (defScope s_f_row_behind) f cd A outer s H EE
section
variable {P : Program} {w : World} {K : PySem.W.Frag} {mg : Str → Option Value} {base : Heap} {f : Addr} {cd : Value} {A : Around} {outer : List Env} {s : Shared} {H : Hp} {EE : XK}
theorem r0_f_row_behind : Rd1 (X_f_row_behind P w K mg base f cd A outer s H EE) 0 "top" := ⟨rfl, by first | exact .inl rfl | exact .inr (.inl rfl), by decide, by decide⟩
theorem w0_f_row_behind : Wr1 (X_f_row_behind P w K mg base f cd A outer s H EE) 0 "top" := ⟨sc_f_row_behind.nd, rfl, by first | exact .inl rfl | exact .inr rfl, .inl rfl⟩
theorem r1_f_row_behind : Rd1 (X_f_row_behind P w K mg base f cd A outer s H EE) 1 "bottom" := ⟨rfl, by first | exact .inl rfl | exact .inr (.inl rfl), by decide, by decide⟩
theorem w1_f_row_behind : Wr1 (X_f_row_behind P w K mg base f cd A outer s H EE) 1 "bottom" := ⟨sc_f_row_behind.nd, rfl, by first | exact .inl rfl | exact .inr rfl, .inl rfl⟩
theorem r2_f_row_behind : Rd1 (X_f_row_behind P w K mg base f cd A outer s H EE) 2 "spot" := ⟨rfl, by first | exact .inl rfl | exact .inr (.inl rfl), by decide, by decide⟩
theorem w2_f_row_behind : Wr1 (X_f_row_behind P w K mg base f cd A outer s H EE) 2 "spot" := ⟨sc_f_row_behind.nd, rfl, by first | exact .inl rfl | exact .inr rfl, .inl rfl⟩
theorem r3_f_row_behind : Rd1 (X_f_row_behind P w K mg base f cd A outer s H EE) 3 "many" := ⟨rfl, by first | exact .inl rfl | exact .inr (.inl rfl), by decide, by decide⟩
theorem w3_f_row_behind : Wr1 (X_f_row_behind P w K mg base f cd A outer s H EE) 3 "many" := ⟨sc_f_row_behind.nd, rfl, by first | exact .inl rfl | exact .inr rfl, .inl rfl⟩
theorem r4_f_row_behind : Rd1 (X_f_row_behind P w K mg base f cd A outer s H EE) 4 "days" := ⟨rfl, by first | exact .inl rfl | exact .inr (.inl rfl), by decide, by decide⟩
theorem w4_f_row_behind : Wr1 (X_f_row_behind P w K mg base f cd A outer s H EE) 4 "days" := ⟨sc_f_row_behind.nd, rfl, by first | exact .inl rfl | exact .inr rfl, .inl rfl⟩
theorem g_range_f_row_behind : Gl (X_f_row_behind P w K mg base f cd A outer s H EE) "range" := rfl
theorem g_tuple_f_row_behind : Gl (X_f_row_behind P w K mg base f cd A outer s H EE) "tuple" := rfl
theorem g_zip_f_row_behind : Gl (X_f_row_behind P w K mg base f cd A outer s H EE) "zip" := rfl
end
abbrev s_f_stretches : Stmt := top 6
abbrev N_f_stretches : List Str := ["calendar", "many", "top", "bottom", "spots", "spot", "at"]
theorem sc_f_stretches : FnScope N_f_stretches ["calendar", "many"] (defScope s_f_stretches) := ⟨rfl, rfl, rfl, by decide +kernel, rfl, by decide +kernel, by decide +kernel⟩
abbrev X_f_stretches (P : Program) (w : World) (K : PySem.W.Frag) (mg : Str → Option Value) (base : Heap) (f : Addr) (cd : Value) (A : Around) (outer : List Env) (s : Shared) (H : Hp) (EE : XK) : Cx := xd P w K mg base N_f_stretches "stretches" (defScope s_f_stretches) f cd A outer s H EE
section
variable {P : Program} {w : World} {K : PySem.W.Frag} {mg : Str → Option Value} {base : Heap} {f : Addr} {cd : Value} {A : Around} {outer : List Env} {s : Shared} {H : Hp} {EE : XK}
theorem r0_f_stretches : Rd1 (X_f_stretches P w K mg base f cd A outer s H EE) 0 "calendar" := ⟨rfl, by first | exact .inl rfl | exact .inr (.inl rfl), by decide, by decide⟩
theorem w0_f_stretches : Wr1 (X_f_stretches P w K mg base f cd A outer s H EE) 0 "calendar" := ⟨sc_f_stretches.nd, rfl, by first | exact .inl rfl | exact .inr rfl, .inl rfl⟩
theorem r1_f_stretches : Rd1 (X_f_stretches P w K mg base f cd A outer s H EE) 1 "many" := ⟨rfl, by first | exact .inl rfl | exact .inr (.inl rfl), by decide, by decide⟩
theorem w1_f_stretches : Wr1 (X_f_stretches P w K mg base f cd A outer s H EE) 1 "many" := ⟨sc_f_stretches.nd, rfl, by first | exact .inl rfl | exact .inr rfl, .inl rfl⟩
theorem r2_f_stretches : Rd1 (X_f_stretches P w K mg base f cd A outer s H EE) 2 "top" := ⟨rfl, by first | exact .inl rfl | exact .inr (.inl rfl), by decide, by decide⟩
theorem w2_f_stretches : Wr1 (X_f_stretches P w K mg base f cd A outer s H EE) 2 "top" := ⟨sc_f_stretches.nd, rfl, by first | exact .inl rfl | exact .inr rfl, .inl rfl⟩
theorem r3_f_stretches : Rd1 (X_f_stretches P w K mg base f cd A outer s H EE) 3 "bottom" := ⟨rfl, by first | exact .inl rfl | exact .inr (.inl rfl), by decide, by decide⟩
theorem w3_f_stretches : Wr1 (X_f_stretches P w K mg base f cd A outer s H EE) 3 "bottom" := ⟨sc_f_stretches.nd, rfl, by first | exact .inl rfl | exact .inr rfl, .inl rfl⟩
theorem r4_f_stretches : Rd1 (X_f_stretches P w K mg base f cd A outer s H EE) 4 "spots" := ⟨rfl, by first | exact .inl rfl | exact .inr (.inl rfl), by decide, by decide⟩
theorem w4_f_stretches : Wr1 (X_f_stretches P w K mg base f cd A outer s H EE) 4 "spots" := ⟨sc_f_stretches.nd, rfl, by first | exact .inl rfl | exact .inr rfl, .inl rfl⟩
theorem g_sorted_f_stretches : Gl (X_f_stretches P w K mg base f cd A outer s H EE) "sorted" := rfl
theorem g_set_f_stretches : Gl (X_f_stretches P w K mg base f cd A outer s H EE) "set" := rfl
theorem g_range_f_stretches : Gl (X_f_stretches P w K mg base f cd A outer s H EE) "range" := rfl
end
abbrev s_f_common : Stmt := top 8
abbrev N_f_common : List Str := ["one", "two"]
theorem sc_f_common : FnScope N_f_common ["one", "two"] (defScope s_f_common) := ⟨rfl, rfl, rfl, by decide +kernel, rfl, by decide +kernel, by decide +kernel⟩
abbrev X_f_common (P : Program) (w : World) (K : PySem.W.Frag) (mg : Str → Option Value) (base : Heap) (f : Addr) (cd : Value) (A : Around) (outer : List Env) (s : Shared) (H : Hp) (EE : XK) : Cx := xd P w K mg base N_f_common "common" (defScope s_f_common) f cd A outer s H EE
section
variable {P : Program} {w : World} {K : PySem.W.Frag} {mg : Str → Option Value} {base : Heap} {f : Addr} {cd : Value} {A : Around} {outer : List Env} {s : Shared} {H : Hp} {EE : XK}
theorem r0_f_common : Rd1 (X_f_common P w K mg base f cd A outer s H EE) 0 "one" := ⟨rfl, by first | exact .inl rfl | exact .inr (.inl rfl), by decide, by decide⟩
theorem w0_f_common : Wr1 (X_f_common P w K mg base f cd A outer s H EE) 0 "one" := ⟨sc_f_common.nd, rfl, by first | exact .inl rfl | exact .inr rfl, .inl rfl⟩
theorem r1_f_common : Rd1 (X_f_common P w K mg base f cd A outer s H EE) 1 "two" := ⟨rfl, by first | exact .inl rfl | exact .inr (.inl rfl), by decide, by decide⟩
theorem w1_f_common : Wr1 (X_f_common P w K mg base f cd A outer s H EE) 1 "two" := ⟨sc_f_common.nd, rfl, by first | exact .inl rfl | exact .inr rfl, .inl rfl⟩
theorem g_abs_f_common : Gl (X_f_common P w K mg base f cd A outer s H EE) "abs" := rfl
end
abbrev s_Share_init : Stmt := inClass (top 9) 0
abbrev N_Share_init : List Str := ["self", "top", "bottom", "by"]
theorem sc_Share_init : FnScope N_Share_init ["self", "top", "bottom"] (defScope s_Share_init) := ⟨rfl, rfl, rfl, by decide +kernel, rfl, by decide +kernel, by decide +kernel⟩
abbrev X_Share_init (P : Program) (w : World) (K : PySem.W.Frag) (mg : Str → Option Value) (base : Heap) (f : Addr) (cd : Value) (A : Around) (outer : List Env) (s : Shared) (H : Hp) (EE : XK) : Cx := xd P w K mg base N_Share_init "Share.__init__" (defScope s_Share_init) f cd A outer s H EE
section
variable {P : Program} {w : World} {K : PySem.W.Frag} {mg : Str → Option Value} {base : Heap} {f : Addr} {cd : Value} {A : Around} {outer : List Env} {s : Shared} {H : Hp} {EE : XK}
theorem r0_Share_init : Rd1 (X_Share_init P w K mg base f cd A outer s H EE) 0 "self" := ⟨rfl, by first | exact .inl rfl | exact .inr (.inl rfl), by decide, by decide⟩
theorem w0_Share_init : Wr1 (X_Share_init P w K mg base f cd A outer s H EE) 0 "self" := ⟨sc_Share_init.nd, rfl, by first | exact .inl rfl | exact .inr rfl, .inl rfl⟩
theorem r1_Share_init : Rd1 (X_Share_init P w K mg base f cd A outer s H EE) 1 "top" := ⟨rfl, by first | exact .inl rfl | exact .inr (.inl rfl), by decide, by decide⟩
theorem w1_Share_init : Wr1 (X_Share_init P w K mg base f cd A outer s H EE) 1 "top" := ⟨sc_Share_init.nd, rfl, by first | exact .inl rfl | exact .inr rfl, .inl rfl⟩
theorem r2_Share_init : Rd1 (X_Share_init P w K mg base f cd A outer s H EE) 2 "bottom" := ⟨rfl, by first | exact .inl rfl | exact .inr (.inl rfl), by decide, by decide⟩
theorem w2_Share_init : Wr1 (X_Share_init P w K mg base f cd A outer s H EE) 2 "bottom" := ⟨sc_Share_init.nd, rfl, by first | exact .inl rfl | exact .inr rfl, .inl rfl⟩
theorem r3_Share_init : Rd1 (X_Share_init P w K mg base f cd A outer s H EE) 3 "by" := ⟨rfl, by first | exact .inl rfl | exact .inr (.inl rfl), by decide, by decide⟩
theorem w3_Share_init : Wr1 (X_Share_init P w K mg base f cd A outer s H EE) 3 "by" := ⟨sc_Share_init.nd, rfl, by first | exact .inl rfl | exact .inr rfl, .inl rfl⟩
theorem g_NoShare_Share_init : Gl (X_Share_init P w K mg base f cd A outer s H EE) "NoShare" := rfl
theorem g_common_Share_init : Gl (X_Share_init P w K mg base f cd A outer s H EE) "common" := rfl
end
abbrev s_f_share_of : Stmt := top 10
abbrev N_f_share_of : List Str := ["thing"]
theorem sc_f_share_of : FnScope N_f_share_of ["thing"] (defScope s_f_share_of) := ⟨rfl, rfl, rfl, by decide +kernel, rfl, by decide +kernel, by decide +kernel⟩
abbrev X_f_share_of (P : Program) (w : World) (K : PySem.W.Frag) (mg : Str → Option Value) (base : Heap) (f : Addr) (cd : Value) (A : Around) (outer : List Env) (s : Shared) (H : Hp) (EE : XK) : Cx := xd P w K mg base N_f_share_of "share_of" (defScope s_f_share_of) f cd A outer s H EE
section
variable {P : Program} {w : World} {K : PySem.W.Frag} {mg : Str → Option Value} {base : Heap} {f : Addr} {cd : Value} {A : Around} {outer : List Env} {s : Shared} {H : Hp} {EE : XK}
theorem r0_f_share_of : Rd1 (X_f_share_of P w K mg base f cd A outer s H EE) 0 "thing" := ⟨rfl, by first | exact .inl rfl | exact .inr (.inl rfl), by decide, by decide⟩
theorem w0_f_share_of : Wr1 (X_f_share_of P w K mg base f cd A outer s H EE) 0 "thing" := ⟨sc_f_share_of.nd, rfl, by first | exact .inl rfl | exact .inr rfl, .inl rfl⟩
theorem g_isinstance_f_share_of : Gl (X_f_share_of P w K mg base f cd A outer s H EE) "isinstance" := rfl
theorem g_Share_f_share_of : Gl (X_f_share_of P w K mg base f cd A outer s H EE) "Share" := rfl
end
abbrev s_f_plus : Stmt := top 11
abbrev N_f_plus : List Str := ["one", "two"]
theorem sc_f_plus : FnScope N_f_plus ["one", "two"] (defScope s_f_plus) := ⟨rfl, rfl, rfl, by decide +kernel, rfl, by decide +kernel, by decide +kernel⟩
abbrev X_f_plus (P : Program) (w : World) (K : PySem.W.Frag) (mg : Str → Option Value) (base : Heap) (f : Addr) (cd : Value) (A : Around) (outer : List Env) (s : Shared) (H : Hp) (EE : XK) : Cx := xd P w K mg base N_f_plus "plus" (defScope s_f_plus) f cd A outer s H EE
section
variable {P : Program} {w : World} {K : PySem.W.Frag} {mg : Str → Option Value} {base : Heap} {f : Addr} {cd : Value} {A : Around} {outer : List Env} {s : Shared} {H : Hp} {EE : XK}
theorem r0_f_plus : Rd1 (X_f_plus P w K mg base f cd A outer s H EE) 0 "one" := ⟨rfl, by first | exact .inl rfl | exact .inr (.inl rfl), by decide, by decide⟩
theorem w0_f_plus : Wr1 (X_f_plus P w K mg base f cd A outer s H EE) 0 "one" := ⟨sc_f_plus.nd, rfl, by first | exact .inl rfl | exact .inr rfl, .inl rfl⟩
theorem r1_f_plus : Rd1 (X_f_plus P w K mg base f cd A outer s H EE) 1 "two" := ⟨rfl, by first | exact .inl rfl | exact .inr (.inl rfl), by decide, by decide⟩
theorem w1_f_plus : Wr1 (X_f_plus P w K mg base f cd A outer s H EE) 1 "two" := ⟨sc_f_plus.nd, rfl, by first | exact .inl rfl | exact .inr rfl, .inl rfl⟩
theorem g_share_of_f_plus : Gl (X_f_plus P w K mg base f cd A outer s H EE) "share_of" := rfl
theorem g_Share_f_plus : Gl (X_f_plus P w K mg base f cd A outer s H EE) "Share" := rfl
end
abbrev s_f_minus : Stmt := top 12
abbrev N_f_minus : List Str := ["one", "two"]
theorem sc_f_minus : FnScope N_f_minus ["one", "two"] (defScope s_f_minus) := ⟨rfl, rfl, rfl, by decide +kernel, rfl, by decide +kernel, by decide +kernel⟩
abbrev X_f_minus (P : Program) (w : World) (K : PySem.W.Frag) (mg : Str → Option Value) (base : Heap) (f : Addr) (cd : Value) (A : Around) (outer : List Env) (s : Shared) (H : Hp) (EE : XK) : Cx := xd P w K mg base N_f_minus "minus" (defScope s_f_minus) f cd A outer s H EE
section
variable {P : Program} {w : World} {K : PySem.W.Frag} {mg : Str → Option Value} {base : Heap} {f : Addr} {cd : Value} {A : Around} {outer : List Env} {s : Shared} {H : Hp} {EE : XK}
theorem r0_f_minus : Rd1 (X_f_minus P w K mg base f cd A outer s H EE) 0 "one" := ⟨rfl, by first | exact .inl rfl | exact .inr (.inl rfl), by decide, by decide⟩
theorem w0_f_minus : Wr1 (X_f_minus P w K mg base f cd A outer s H EE) 0 "one" := ⟨sc_f_minus.nd, rfl, by first | exact .inl rfl | exact .inr rfl, .inl rfl⟩
theorem r1_f_minus : Rd1 (X_f_minus P w K mg base f cd A outer s H EE) 1 "two" := ⟨rfl, by first | exact .inl rfl | exact .inr (.inl rfl), by decide, by decide⟩
theorem w1_f_minus : Wr1 (X_f_minus P w K mg base f cd A outer s H EE) 1 "two" := ⟨sc_f_minus.nd, rfl, by first | exact .inl rfl | exact .inr rfl, .inl rfl⟩
theorem g_share_of_f_minus : Gl (X_f_minus P w K mg base f cd A outer s H EE) "share_of" := rfl
theorem g_Share_f_minus : Gl (X_f_minus P w K mg base f cd A outer s H EE) "Share" := rfl
end
abbrev s_f_times : Stmt := top 13
abbrev N_f_times : List Str := ["one", "two"]
theorem sc_f_times : FnScope N_f_times ["one", "two"] (defScope s_f_times) := ⟨rfl, rfl, rfl, by decide +kernel, rfl, by decide +kernel, by decide +kernel⟩
abbrev X_f_times (P : Program) (w : World) (K : PySem.W.Frag) (mg : Str → Option Value) (base : Heap) (f : Addr) (cd : Value) (A : Around) (outer : List Env) (s : Shared) (H : Hp) (EE : XK) : Cx := xd P w K mg base N_f_times "times" (defScope s_f_times) f cd A outer s H EE
section
variable {P : Program} {w : World} {K : PySem.W.Frag} {mg : Str → Option Value} {base : Heap} {f : Addr} {cd : Value} {A : Around} {outer : List Env} {s : Shared} {H : Hp} {EE : XK}
theorem r0_f_times : Rd1 (X_f_times P w K mg base f cd A outer s H EE) 0 "one" := ⟨rfl, by first | exact .inl rfl | exact .inr (.inl rfl), by decide, by decide⟩
theorem w0_f_times : Wr1 (X_f_times P w K mg base f cd A outer s H EE) 0 "one" := ⟨sc_f_times.nd, rfl, by first | exact .inl rfl | exact .inr rfl, .inl rfl⟩
theorem r1_f_times : Rd1 (X_f_times P w K mg base f cd A outer s H EE) 1 "two" := ⟨rfl, by first | exact .inl rfl | exact .inr (.inl rfl), by decide, by decide⟩
theorem w1_f_times : Wr1 (X_f_times P w K mg base f cd A outer s H EE) 1 "two" := ⟨sc_f_times.nd, rfl, by first | exact .inl rfl | exact .inr rfl, .inl rfl⟩
theorem g_share_of_f_times : Gl (X_f_times P w K mg base f cd A outer s H EE) "share_of" := rfl
theorem g_Share_f_times : Gl (X_f_times P w K mg base f cd A outer s H EE) "Share" := rfl
end
abbrev s_f_over : Stmt := top 14
abbrev N_f_over : List Str := ["one", "two"]
theorem sc_f_over : FnScope N_f_over ["one", "two"] (defScope s_f_over) := ⟨rfl, rfl, rfl, by decide +kernel, rfl, by decide +kernel, by decide +kernel⟩
abbrev X_f_over (P : Program) (w : World) (K : PySem.W.Frag) (mg : Str → Option Value) (base : Heap) (f : Addr) (cd : Value) (A : Around) (outer : List Env) (s : Shared) (H : Hp) (EE : XK) : Cx := xd P w K mg base N_f_over "over" (defScope s_f_over) f cd A outer s H EE
section
variable {P : Program} {w : World} {K : PySem.W.Frag} {mg : Str → Option Value} {base : Heap} {f : Addr} {cd : Value} {A : Around} {outer : List Env} {s : Shared} {H : Hp} {EE : XK}
theorem r0_f_over : Rd1 (X_f_over P w K mg base f cd A outer s H EE) 0 "one" := ⟨rfl, by first | exact .inl rfl | exact .inr (.inl rfl), by decide, by decide⟩
theorem w0_f_over : Wr1 (X_f_over P w K mg base f cd A outer s H EE) 0 "one" := ⟨sc_f_over.nd, rfl, by first | exact .inl rfl | exact .inr rfl, .inl rfl⟩
theorem r1_f_over : Rd1 (X_f_over P w K mg base f cd A outer s H EE) 1 "two" := ⟨rfl, by first | exact .inl rfl | exact .inr (.inl rfl), by decide, by decide⟩
theorem w1_f_over : Wr1 (X_f_over P w K mg base f cd A outer s H EE) 1 "two" := ⟨sc_f_over.nd, rfl, by first | exact .inl rfl | exact .inr rfl, .inl rfl⟩
theorem g_share_of_f_over : Gl (X_f_over P w K mg base f cd A outer s H EE) "share_of" := rfl
theorem g_NoShare_f_over : Gl (X_f_over P w K mg base f cd A outer s H EE) "NoShare" := rfl
theorem g_Share_f_over : Gl (X_f_over P w K mg base f cd A outer s H EE) "Share" := rfl
end
abbrev s_f_before : Stmt := top 15
abbrev N_f_before : List Str := ["one", "two"]
theorem sc_f_before : FnScope N_f_before ["one", "two"] (defScope s_f_before) := ⟨rfl, rfl, rfl, by decide +kernel, rfl, by decide +kernel, by decide +kernel⟩
abbrev X_f_before (P : Program) (w : World) (K : PySem.W.Frag) (mg : Str → Option Value) (base : Heap) (f : Addr) (cd : Value) (A : Around) (outer : List Env) (s : Shared) (H : Hp) (EE : XK) : Cx := xd P w K mg base N_f_before "before" (defScope s_f_before) f cd A outer s H EE
section
variable {P : Program} {w : World} {K : PySem.W.Frag} {mg : Str → Option Value} {base : Heap} {f : Addr} {cd : Value} {A : Around} {outer : List Env} {s : Shared} {H : Hp} {EE : XK}
theorem r0_f_before : Rd1 (X_f_before P w K mg base f cd A outer s H EE) 0 "one" := ⟨rfl, by first | exact .inl rfl | exact .inr (.inl rfl), by decide, by decide⟩
theorem w0_f_before : Wr1 (X_f_before P w K mg base f cd A outer s H EE) 0 "one" := ⟨sc_f_before.nd, rfl, by first | exact .inl rfl | exact .inr rfl, .inl rfl⟩
theorem r1_f_before : Rd1 (X_f_before P w K mg base f cd A outer s H EE) 1 "two" := ⟨rfl, by first | exact .inl rfl | exact .inr (.inl rfl), by decide, by decide⟩
theorem w1_f_before : Wr1 (X_f_before P w K mg base f cd A outer s H EE) 1 "two" := ⟨sc_f_before.nd, rfl, by first | exact .inl rfl | exact .inr rfl, .inl rfl⟩
theorem g_share_of_f_before : Gl (X_f_before P w K mg base f cd A outer s H EE) "share_of" := rfl
end
abbrev s_f_whole : Stmt := top 16
abbrev N_f_whole : List Str := ["share"]
theorem sc_f_whole : FnScope N_f_whole ["share"] (defScope s_f_whole) := ⟨rfl, rfl, rfl, by decide +kernel, rfl, by decide +kernel, by decide +kernel⟩
abbrev X_f_whole (P : Program) (w : World) (K : PySem.W.Frag) (mg : Str → Option Value) (base : Heap) (f : Addr) (cd : Value) (A : Around) (outer : List Env) (s : Shared) (H : Hp) (EE : XK) : Cx := xd P w K mg base N_f_whole "whole" (defScope s_f_whole) f cd A outer s H EE
section
variable {P : Program} {w : World} {K : PySem.W.Frag} {mg : Str → Option Value} {base : Heap} {f : Addr} {cd : Value} {A : Around} {outer : List Env} {s : Shared} {H : Hp} {EE : XK}
theorem r0_f_whole : Rd1 (X_f_whole P w K mg base f cd A outer s H EE) 0 "share" := ⟨rfl, by first | exact .inl rfl | exact .inr (.inl rfl), by decide, by decide⟩
theorem w0_f_whole : Wr1 (X_f_whole P w K mg base f cd A outer s H EE) 0 "share" := ⟨sc_f_whole.nd, rfl, by first | exact .inl rfl | exact .inr rfl, .inl rfl⟩
theorem g_share_of_f_whole : Gl (X_f_whole P w K mg base f cd A outer s H EE) "share_of" := rfl
end
abbrev s_f_ceiling : Stmt := top 17
abbrev N_f_ceiling : List Str := ["share"]
theorem sc_f_ceiling : FnScope N_f_ceiling ["share"] (defScope s_f_ceiling) := ⟨rfl, rfl, rfl, by decide +kernel, rfl, by decide +kernel, by decide +kernel⟩
abbrev X_f_ceiling (P : Program) (w : World) (K : PySem.W.Frag) (mg : Str → Option Value) (base : Heap) (f : Addr) (cd : Value) (A : Around) (outer : List Env) (s : Shared) (H : Hp) (EE : XK) : Cx := xd P w K mg base N_f_ceiling "ceiling" (defScope s_f_ceiling) f cd A outer s H EE
section
variable {P : Program} {w : World} {K : PySem.W.Frag} {mg : Str → Option Value} {base : Heap} {f : Addr} {cd : Value} {A : Around} {outer : List Env} {s : Shared} {H : Hp} {EE : XK}
theorem r0_f_ceiling : Rd1 (X_f_ceiling P w K mg base f cd A outer s H EE) 0 "share" := ⟨rfl, by first | exact .inl rfl | exact .inr (.inl rfl), by decide, by decide⟩
theorem w0_f_ceiling : Wr1 (X_f_ceiling P w K mg base f cd A outer s H EE) 0 "share" := ⟨sc_f_ceiling.nd, rfl, by first | exact .inl rfl | exact .inr rfl, .inl rfl⟩
theorem g_whole_f_ceiling : Gl (X_f_ceiling P w K mg base f cd A outer s H EE) "whole" := rfl
theorem g_minus_f_ceiling : Gl (X_f_ceiling P w K mg base f cd A outer s H EE) "minus" := rfl
end
abbrev s_Calendar_init : Stmt := inClass (top 19) 0
abbrev N_Calendar_init : List Str := ["self", "month", "year", "moon", "mark", "why"]
theorem sc_Calendar_init : FnScope N_Calendar_init ["self", "month", "year", "moon", "mark"] (defScope s_Calendar_init) := ⟨rfl, rfl, rfl, by decide +kernel, rfl, by decide +kernel, by decide +kernel⟩
abbrev X_Calendar_init (P : Program) (w : World) (K : PySem.W.Frag) (mg : Str → Option Value) (base : Heap) (f : Addr) (cd : Value) (A : Around) (outer : List Env) (s : Shared) (H : Hp) (EE : XK) : Cx := xd P w K mg base N_Calendar_init "Calendar.__init__" (defScope s_Calendar_init) f cd A outer s H EE
section
variable {P : Program} {w : World} {K : PySem.W.Frag} {mg : Str → Option Value} {base : Heap} {f : Addr} {cd : Value} {A : Around} {outer : List Env} {s : Shared} {H : Hp} {EE : XK}
theorem r0_Calendar_init : Rd1 (X_Calendar_init P w K mg base f cd A outer s H EE) 0 "self" := ⟨rfl, by first | exact .inl rfl | exact .inr (.inl rfl), by decide, by decide⟩
theorem w0_Calendar_init : Wr1 (X_Calendar_init P w K mg base f cd A outer s H EE) 0 "self" := ⟨sc_Calendar_init.nd, rfl, by first | exact .inl rfl | exact .inr rfl, .inl rfl⟩
theorem r1_Calendar_init : Rd1 (X_Calendar_init P w K mg base f cd A outer s H EE) 1 "month" := ⟨rfl, by first | exact .inl rfl | exact .inr (.inl rfl), by decide, by decide⟩
theorem w1_Calendar_init : Wr1 (X_Calendar_init P w K mg base f cd A outer s H EE) 1 "month" := ⟨sc_Calendar_init.nd, rfl, by first | exact .inl rfl | exact .inr rfl, .inl rfl⟩
theorem r2_Calendar_init : Rd1 (X_Calendar_init P w K mg base f cd A outer s H EE) 2 "year" := ⟨rfl, by first | exact .inl rfl | exact .inr (.inl rfl), by decide, by decide⟩
theorem w2_Calendar_init : Wr1 (X_Calendar_init P w K mg base f cd A outer s H EE) 2 "year" := ⟨sc_Calendar_init.nd, rfl, by first | exact .inl rfl | exact .inr rfl, .inl rfl⟩
theorem r3_Calendar_init : Rd1 (X_Calendar_init P w K mg base f cd A outer s H EE) 3 "moon" := ⟨rfl, by first | exact .inl rfl | exact .inr (.inl rfl), by decide, by decide⟩
theorem w3_Calendar_init : Wr1 (X_Calendar_init P w K mg base f cd A outer s H EE) 3 "moon" := ⟨sc_Calendar_init.nd, rfl, by first | exact .inl rfl | exact .inr rfl, .inl rfl⟩
theorem r4_Calendar_init : Rd1 (X_Calendar_init P w K mg base f cd A outer s H EE) 4 "mark" := ⟨rfl, by first | exact .inl rfl | exact .inr (.inl rfl), by decide, by decide⟩
theorem w4_Calendar_init : Wr1 (X_Calendar_init P w K mg base f cd A outer s H EE) 4 "mark" := ⟨sc_Calendar_init.nd, rfl, by first | exact .inl rfl | exact .inr rfl, .inl rfl⟩
theorem r5_Calendar_init : Rd1 (X_Calendar_init P w K mg base f cd A outer s H EE) 5 "why" := ⟨rfl, by first | exact .inl rfl | exact .inr (.inl rfl), by decide, by decide⟩
theorem w5_Calendar_init : Wr1 (X_Calendar_init P w K mg base f cd A outer s H EE) 5 "why" := ⟨sc_Calendar_init.nd, rfl, by first | exact .inl rfl | exact .inr rfl, .inl rfl⟩
theorem g_share_of_Calendar_init : Gl (X_Calendar_init P w K mg base f cd A outer s H EE) "share_of" := rfl
theorem g_over_Calendar_init : Gl (X_Calendar_init P w K mg base f cd A outer s H EE) "over" := rfl
theorem g_fault_Calendar_init : Gl (X_Calendar_init P w K mg base f cd A outer s H EE) "fault" := rfl
theorem g_NoCalendar_Calendar_init : Gl (X_Calendar_init P w K mg base f cd A outer s H EE) "NoCalendar" := rfl
end
abbrev s_f_fault : Stmt := top 20
abbrev N_f_fault : List Str := ["month", "year"]
theorem sc_f_fault : FnScope N_f_fault ["month", "year"] (defScope s_f_fault) := ⟨rfl, rfl, rfl, by decide +kernel, rfl, by decide +kernel, by decide +kernel⟩
abbrev X_f_fault (P : Program) (w : World) (K : PySem.W.Frag) (mg : Str → Option Value) (base : Heap) (f : Addr) (cd : Value) (A : Around) (outer : List Env) (s : Shared) (H : Hp) (EE : XK) : Cx := xd P w K mg base N_f_fault "fault" (defScope s_f_fault) f cd A outer s H EE
section
variable {P : Program} {w : World} {K : PySem.W.Frag} {mg : Str → Option Value} {base : Heap} {f : Addr} {cd : Value} {A : Around} {outer : List Env} {s : Shared} {H : Hp} {EE : XK}
theorem r0_f_fault : Rd1 (X_f_fault P w K mg base f cd A outer s H EE) 0 "month" := ⟨rfl, by first | exact .inl rfl | exact .inr (.inl rfl), by decide, by decide⟩
theorem w0_f_fault : Wr1 (X_f_fault P w K mg base f cd A outer s H EE) 0 "month" := ⟨sc_f_fault.nd, rfl, by first | exact .inl rfl | exact .inr rfl, .inl rfl⟩
theorem r1_f_fault : Rd1 (X_f_fault P w K mg base f cd A outer s H EE) 1 "year" := ⟨rfl, by first | exact .inl rfl | exact .inr (.inl rfl), by decide, by decide⟩
theorem w1_f_fault : Wr1 (X_f_fault P w K mg base f cd A outer s H EE) 1 "year" := ⟨sc_f_fault.nd, rfl, by first | exact .inl rfl | exact .inr rfl, .inl rfl⟩
theorem g_before_f_fault : Gl (X_f_fault P w K mg base f cd A outer s H EE) "before" := rfl
theorem g_over_f_fault : Gl (X_f_fault P w K mg base f cd A outer s H EE) "over" := rfl
theorem g_ceiling_f_fault : Gl (X_f_fault P w K mg base f cd A outer s H EE) "ceiling" := rfl
theorem g_times_f_fault : Gl (X_f_fault P w K mg base f cd A outer s H EE) "times" := rfl
theorem g_plus_f_fault : Gl (X_f_fault P w K mg base f cd A outer s H EE) "plus" := rfl
end
abbrev s_f_L_draws : Stmt := top 24
abbrev N_f_L_draws : List Str := ["_law_cell", "_law_cut", "_law_k"]
theorem sc_f_L_draws : FnScope N_f_L_draws ["_law_cell"] (defScope s_f_L_draws) := ⟨rfl, rfl, rfl, by decide +kernel, rfl, by decide +kernel, by decide +kernel⟩
abbrev X_f_L_draws (P : Program) (w : World) (K : PySem.W.Frag) (mg : Str → Option Value) (base : Heap) (f : Addr) (cd : Value) (A : Around) (outer : List Env) (s : Shared) (H : Hp) (EE : XK) : Cx := xd P w K mg base N_f_L_draws "_law_draws" (defScope s_f_L_draws) f cd A outer s H EE
section
variable {P : Program} {w : World} {K : PySem.W.Frag} {mg : Str → Option Value} {base : Heap} {f : Addr} {cd : Value} {A : Around} {outer : List Env} {s : Shared} {H : Hp} {EE : XK}
theorem r0_f_L_draws : Rd1 (X_f_L_draws P w K mg base f cd A outer s H EE) 0 "_law_cell" := ⟨rfl, by first | exact .inl rfl | exact .inr (.inl rfl), by decide, by decide⟩
theorem w0_f_L_draws : Wr1 (X_f_L_draws P w K mg base f cd A outer s H EE) 0 "_law_cell" := ⟨sc_f_L_draws.nd, rfl, by first | exact .inl rfl | exact .inr rfl, .inl rfl⟩
theorem r1_f_L_draws : Rd1 (X_f_L_draws P w K mg base f cd A outer s H EE) 1 "_law_cut" := ⟨rfl, by first | exact .inl rfl | exact .inr (.inl rfl), by decide, by decide⟩
theorem w1_f_L_draws : Wr1 (X_f_L_draws P w K mg base f cd A outer s H EE) 1 "_law_cut" := ⟨sc_f_L_draws.nd, rfl, by first | exact .inl rfl | exact .inr rfl, .inl rfl⟩
theorem r2_f_L_draws : Rd1 (X_f_L_draws P w K mg base f cd A outer s H EE) 2 "_law_k" := ⟨rfl, by first | exact .inl rfl | exact .inr (.inl rfl), by decide, by decide⟩
theorem w2_f_L_draws : Wr1 (X_f_L_draws P w K mg base f cd A outer s H EE) 2 "_law_k" := ⟨sc_f_L_draws.nd, rfl, by first | exact .inl rfl | exact .inr rfl, .inl rfl⟩
theorem g_range_f_L_draws : Gl (X_f_L_draws P w K mg base f cd A outer s H EE) "range" := rfl
end
abbrev s_f_L_next : Stmt := top 25
abbrev N_f_L_next : List Str := ["_law_draws_here", "_law_k", "_law_number"]
theorem sc_f_L_next : FnScope N_f_L_next ["_law_draws_here"] (defScope s_f_L_next) := ⟨rfl, rfl, rfl, by decide +kernel, rfl, by decide +kernel, by decide +kernel⟩
abbrev X_f_L_next (P : Program) (w : World) (K : PySem.W.Frag) (mg : Str → Option Value) (base : Heap) (f : Addr) (cd : Value) (A : Around) (outer : List Env) (s : Shared) (H : Hp) (EE : XK) : Cx := xd P w K mg base N_f_L_next "_law_next" (defScope s_f_L_next) f cd A outer s H EE
section
variable {P : Program} {w : World} {K : PySem.W.Frag} {mg : Str → Option Value} {base : Heap} {f : Addr} {cd : Value} {A : Around} {outer : List Env} {s : Shared} {H : Hp} {EE : XK}
theorem r0_f_L_next : Rd1 (X_f_L_next P w K mg base f cd A outer s H EE) 0 "_law_draws_here" := ⟨rfl, by first | exact .inl rfl | exact .inr (.inl rfl), by decide, by decide⟩
theorem w0_f_L_next : Wr1 (X_f_L_next P w K mg base f cd A outer s H EE) 0 "_law_draws_here" := ⟨sc_f_L_next.nd, rfl, by first | exact .inl rfl | exact .inr rfl, .inl rfl⟩
theorem r1_f_L_next : Rd1 (X_f_L_next P w K mg base f cd A outer s H EE) 1 "_law_k" := ⟨rfl, by first | exact .inl rfl | exact .inr (.inl rfl), by decide, by decide⟩
theorem w1_f_L_next : Wr1 (X_f_L_next P w K mg base f cd A outer s H EE) 1 "_law_k" := ⟨sc_f_L_next.nd, rfl, by first | exact .inl rfl | exact .inr rfl, .inl rfl⟩
theorem r2_f_L_next : Rd1 (X_f_L_next P w K mg base f cd A outer s H EE) 2 "_law_number" := ⟨rfl, by first | exact .inl rfl | exact .inr (.inl rfl), by decide, by decide⟩
theorem w2_f_L_next : Wr1 (X_f_L_next P w K mg base f cd A outer s H EE) 2 "_law_number" := ⟨sc_f_L_next.nd, rfl, by first | exact .inl rfl | exact .inr rfl, .inl rfl⟩
end
abbrev s_f_L_low : Stmt := top 26
abbrev N_f_L_low : List Str := ["_law_top", "_law_bottom", "_law_one", "_law_two"]
theorem sc_f_L_low : FnScope N_f_L_low ["_law_top", "_law_bottom"] (defScope s_f_L_low) := ⟨rfl, rfl, rfl, by decide +kernel, rfl, by decide +kernel, by decide +kernel⟩
abbrev X_f_L_low (P : Program) (w : World) (K : PySem.W.Frag) (mg : Str → Option Value) (base : Heap) (f : Addr) (cd : Value) (A : Around) (outer : List Env) (s : Shared) (H : Hp) (EE : XK) : Cx := xd P w K mg base N_f_L_low "_law_low" (defScope s_f_L_low) f cd A outer s H EE
section
variable {P : Program} {w : World} {K : PySem.W.Frag} {mg : Str → Option Value} {base : Heap} {f : Addr} {cd : Value} {A : Around} {outer : List Env} {s : Shared} {H : Hp} {EE : XK}
theorem r0_f_L_low : Rd1 (X_f_L_low P w K mg base f cd A outer s H EE) 0 "_law_top" := ⟨rfl, by first | exact .inl rfl | exact .inr (.inl rfl), by decide, by decide⟩
theorem w0_f_L_low : Wr1 (X_f_L_low P w K mg base f cd A outer s H EE) 0 "_law_top" := ⟨sc_f_L_low.nd, rfl, by first | exact .inl rfl | exact .inr rfl, .inl rfl⟩
theorem r1_f_L_low : Rd1 (X_f_L_low P w K mg base f cd A outer s H EE) 1 "_law_bottom" := ⟨rfl, by first | exact .inl rfl | exact .inr (.inl rfl), by decide, by decide⟩
theorem w1_f_L_low : Wr1 (X_f_L_low P w K mg base f cd A outer s H EE) 1 "_law_bottom" := ⟨sc_f_L_low.nd, rfl, by first | exact .inl rfl | exact .inr rfl, .inl rfl⟩
theorem r2_f_L_low : Rd1 (X_f_L_low P w K mg base f cd A outer s H EE) 2 "_law_one" := ⟨rfl, by first | exact .inl rfl | exact .inr (.inl rfl), by decide, by decide⟩
theorem w2_f_L_low : Wr1 (X_f_L_low P w K mg base f cd A outer s H EE) 2 "_law_one" := ⟨sc_f_L_low.nd, rfl, by first | exact .inl rfl | exact .inr rfl, .inl rfl⟩
theorem r3_f_L_low : Rd1 (X_f_L_low P w K mg base f cd A outer s H EE) 3 "_law_two" := ⟨rfl, by first | exact .inl rfl | exact .inr (.inl rfl), by decide, by decide⟩
theorem w3_f_L_low : Wr1 (X_f_L_low P w K mg base f cd A outer s H EE) 3 "_law_two" := ⟨sc_f_L_low.nd, rfl, by first | exact .inl rfl | exact .inr rfl, .inl rfl⟩
theorem g_abs_f_L_low : Gl (X_f_L_low P w K mg base f cd A outer s H EE) "abs" := rfl
end
abbrev s_f_L_plus : Stmt := top 27
abbrev N_f_L_plus : List Str := ["_law_one", "_law_two"]
theorem sc_f_L_plus : FnScope N_f_L_plus ["_law_one", "_law_two"] (defScope s_f_L_plus) := ⟨rfl, rfl, rfl, by decide +kernel, rfl, by decide +kernel, by decide +kernel⟩
abbrev X_f_L_plus (P : Program) (w : World) (K : PySem.W.Frag) (mg : Str → Option Value) (base : Heap) (f : Addr) (cd : Value) (A : Around) (outer : List Env) (s : Shared) (H : Hp) (EE : XK) : Cx := xd P w K mg base N_f_L_plus "_law_plus" (defScope s_f_L_plus) f cd A outer s H EE
section
variable {P : Program} {w : World} {K : PySem.W.Frag} {mg : Str → Option Value} {base : Heap} {f : Addr} {cd : Value} {A : Around} {outer : List Env} {s : Shared} {H : Hp} {EE : XK}
theorem r0_f_L_plus : Rd1 (X_f_L_plus P w K mg base f cd A outer s H EE) 0 "_law_one" := ⟨rfl, by first | exact .inl rfl | exact .inr (.inl rfl), by decide, by decide⟩
theorem w0_f_L_plus : Wr1 (X_f_L_plus P w K mg base f cd A outer s H EE) 0 "_law_one" := ⟨sc_f_L_plus.nd, rfl, by first | exact .inl rfl | exact .inr rfl, .inl rfl⟩
theorem r1_f_L_plus : Rd1 (X_f_L_plus P w K mg base f cd A outer s H EE) 1 "_law_two" := ⟨rfl, by first | exact .inl rfl | exact .inr (.inl rfl), by decide, by decide⟩
theorem w1_f_L_plus : Wr1 (X_f_L_plus P w K mg base f cd A outer s H EE) 1 "_law_two" := ⟨sc_f_L_plus.nd, rfl, by first | exact .inl rfl | exact .inr rfl, .inl rfl⟩
theorem g__law_low_f_L_plus : Gl (X_f_L_plus P w K mg base f cd A outer s H EE) "_law_low" := rfl
end
abbrev s_f_L_by : Stmt := top 28
abbrev N_f_L_by : List Str := ["_law_one", "_law_two"]
theorem sc_f_L_by : FnScope N_f_L_by ["_law_one", "_law_two"] (defScope s_f_L_by) := ⟨rfl, rfl, rfl, by decide +kernel, rfl, by decide +kernel, by decide +kernel⟩
abbrev X_f_L_by (P : Program) (w : World) (K : PySem.W.Frag) (mg : Str → Option Value) (base : Heap) (f : Addr) (cd : Value) (A : Around) (outer : List Env) (s : Shared) (H : Hp) (EE : XK) : Cx := xd P w K mg base N_f_L_by "_law_by" (defScope s_f_L_by) f cd A outer s H EE
section
variable {P : Program} {w : World} {K : PySem.W.Frag} {mg : Str → Option Value} {base : Heap} {f : Addr} {cd : Value} {A : Around} {outer : List Env} {s : Shared} {H : Hp} {EE : XK}
theorem r0_f_L_by : Rd1 (X_f_L_by P w K mg base f cd A outer s H EE) 0 "_law_one" := ⟨rfl, by first | exact .inl rfl | exact .inr (.inl rfl), by decide, by decide⟩
theorem w0_f_L_by : Wr1 (X_f_L_by P w K mg base f cd A outer s H EE) 0 "_law_one" := ⟨sc_f_L_by.nd, rfl, by first | exact .inl rfl | exact .inr rfl, .inl rfl⟩
theorem r1_f_L_by : Rd1 (X_f_L_by P w K mg base f cd A outer s H EE) 1 "_law_two" := ⟨rfl, by first | exact .inl rfl | exact .inr (.inl rfl), by decide, by decide⟩
theorem w1_f_L_by : Wr1 (X_f_L_by P w K mg base f cd A outer s H EE) 1 "_law_two" := ⟨sc_f_L_by.nd, rfl, by first | exact .inl rfl | exact .inr rfl, .inl rfl⟩
theorem g__law_low_f_L_by : Gl (X_f_L_by P w K mg base f cd A outer s H EE) "_law_low" := rfl
end
abbrev s_f_L_part : Stmt := top 29
abbrev N_f_L_part : List Str := ["_law_draws_here", "_law_pick", "_law_far", "_law_bottom"]
theorem sc_f_L_part : FnScope N_f_L_part ["_law_draws_here"] (defScope s_f_L_part) := ⟨rfl, rfl, rfl, by decide +kernel, rfl, by decide +kernel, by decide +kernel⟩
abbrev X_f_L_part (P : Program) (w : World) (K : PySem.W.Frag) (mg : Str → Option Value) (base : Heap) (f : Addr) (cd : Value) (A : Around) (outer : List Env) (s : Shared) (H : Hp) (EE : XK) : Cx := xd P w K mg base N_f_L_part "_law_part" (defScope s_f_L_part) f cd A outer s H EE
section
variable {P : Program} {w : World} {K : PySem.W.Frag} {mg : Str → Option Value} {base : Heap} {f : Addr} {cd : Value} {A : Around} {outer : List Env} {s : Shared} {H : Hp} {EE : XK}
theorem r0_f_L_part : Rd1 (X_f_L_part P w K mg base f cd A outer s H EE) 0 "_law_draws_here" := ⟨rfl, by first | exact .inl rfl | exact .inr (.inl rfl), by decide, by decide⟩
theorem w0_f_L_part : Wr1 (X_f_L_part P w K mg base f cd A outer s H EE) 0 "_law_draws_here" := ⟨sc_f_L_part.nd, rfl, by first | exact .inl rfl | exact .inr rfl, .inl rfl⟩
theorem r1_f_L_part : Rd1 (X_f_L_part P w K mg base f cd A outer s H EE) 1 "_law_pick" := ⟨rfl, by first | exact .inl rfl | exact .inr (.inl rfl), by decide, by decide⟩
theorem w1_f_L_part : Wr1 (X_f_L_part P w K mg base f cd A outer s H EE) 1 "_law_pick" := ⟨sc_f_L_part.nd, rfl, by first | exact .inl rfl | exact .inr rfl, .inl rfl⟩
theorem r2_f_L_part : Rd1 (X_f_L_part P w K mg base f cd A outer s H EE) 2 "_law_far" := ⟨rfl, by first | exact .inl rfl | exact .inr (.inl rfl), by decide, by decide⟩
theorem w2_f_L_part : Wr1 (X_f_L_part P w K mg base f cd A outer s H EE) 2 "_law_far" := ⟨sc_f_L_part.nd, rfl, by first | exact .inl rfl | exact .inr rfl, .inl rfl⟩
theorem r3_f_L_part : Rd1 (X_f_L_part P w K mg base f cd A outer s H EE) 3 "_law_bottom" := ⟨rfl, by first | exact .inl rfl | exact .inr (.inl rfl), by decide, by decide⟩
theorem w3_f_L_part : Wr1 (X_f_L_part P w K mg base f cd A outer s H EE) 3 "_law_bottom" := ⟨sc_f_L_part.nd, rfl, by first | exact .inl rfl | exact .inr rfl, .inl rfl⟩
theorem g__law_next_f_L_part : Gl (X_f_L_part P w K mg base f cd A outer s H EE) "_law_next" := rfl
theorem g__law_low_f_L_part : Gl (X_f_L_part P w K mg base f cd A outer s H EE) "_law_low" := rfl
end
abbrev s_f_L_moment : Stmt := top 30
abbrev N_f_L_moment : List Str := ["_law_draws_here", "_law_part_here", "_law_pick", "_law_far"]
theorem sc_f_L_moment : FnScope N_f_L_moment ["_law_draws_here"] (defScope s_f_L_moment) := ⟨rfl, rfl, rfl, by decide +kernel, rfl, by decide +kernel, by decide +kernel⟩
abbrev X_f_L_moment (P : Program) (w : World) (K : PySem.W.Frag) (mg : Str → Option Value) (base : Heap) (f : Addr) (cd : Value) (A : Around) (outer : List Env) (s : Shared) (H : Hp) (EE : XK) : Cx := xd P w K mg base N_f_L_moment "_law_moment" (defScope s_f_L_moment) f cd A outer s H EE
section
variable {P : Program} {w : World} {K : PySem.W.Frag} {mg : Str → Option Value} {base : Heap} {f : Addr} {cd : Value} {A : Around} {outer : List Env} {s : Shared} {H : Hp} {EE : XK}
theorem r0_f_L_moment : Rd1 (X_f_L_moment P w K mg base f cd A outer s H EE) 0 "_law_draws_here" := ⟨rfl, by first | exact .inl rfl | exact .inr (.inl rfl), by decide, by decide⟩
theorem w0_f_L_moment : Wr1 (X_f_L_moment P w K mg base f cd A outer s H EE) 0 "_law_draws_here" := ⟨sc_f_L_moment.nd, rfl, by first | exact .inl rfl | exact .inr rfl, .inl rfl⟩
theorem r1_f_L_moment : Rd1 (X_f_L_moment P w K mg base f cd A outer s H EE) 1 "_law_part_here" := ⟨rfl, by first | exact .inl rfl | exact .inr (.inl rfl), by decide, by decide⟩
theorem w1_f_L_moment : Wr1 (X_f_L_moment P w K mg base f cd A outer s H EE) 1 "_law_part_here" := ⟨sc_f_L_moment.nd, rfl, by first | exact .inl rfl | exact .inr rfl, .inl rfl⟩
theorem r2_f_L_moment : Rd1 (X_f_L_moment P w K mg base f cd A outer s H EE) 2 "_law_pick" := ⟨rfl, by first | exact .inl rfl | exact .inr (.inl rfl), by decide, by decide⟩
theorem w2_f_L_moment : Wr1 (X_f_L_moment P w K mg base f cd A outer s H EE) 2 "_law_pick" := ⟨sc_f_L_moment.nd, rfl, by first | exact .inl rfl | exact .inr rfl, .inl rfl⟩
theorem r3_f_L_moment : Rd1 (X_f_L_moment P w K mg base f cd A outer s H EE) 3 "_law_far" := ⟨rfl, by first | exact .inl rfl | exact .inr (.inl rfl), by decide, by decide⟩
theorem w3_f_L_moment : Wr1 (X_f_L_moment P w K mg base f cd A outer s H EE) 3 "_law_far" := ⟨sc_f_L_moment.nd, rfl, by first | exact .inl rfl | exact .inr rfl, .inl rfl⟩
theorem g__law_part_f_L_moment : Gl (X_f_L_moment P w K mg base f cd A outer s H EE) "_law_part" := rfl
theorem g__law_next_f_L_moment : Gl (X_f_L_moment P w K mg base f cd A outer s H EE) "_law_next" := rfl
theorem g__law_plus_f_L_moment : Gl (X_f_L_moment P w K mg base f cd A outer s H EE) "_law_plus" := rfl
end
abbrev s_f_L_four : Stmt := top 31
abbrev N_f_L_four : List Str := ["_law_draws_here", "_law_pick", "_law_told", "_law_lune", "_law_sun", "_law_w", "_law_s", "_law_r"]
theorem sc_f_L_four : FnScope N_f_L_four ["_law_draws_here"] (defScope s_f_L_four) := ⟨rfl, rfl, rfl, by decide +kernel, rfl, by decide +kernel, by decide +kernel⟩
abbrev X_f_L_four (P : Program) (w : World) (K : PySem.W.Frag) (mg : Str → Option Value) (base : Heap) (f : Addr) (cd : Value) (A : Around) (outer : List Env) (s : Shared) (H : Hp) (EE : XK) : Cx := xd P w K mg base N_f_L_four "_law_four" (defScope s_f_L_four) f cd A outer s H EE
section
variable {P : Program} {w : World} {K : PySem.W.Frag} {mg : Str → Option Value} {base : Heap} {f : Addr} {cd : Value} {A : Around} {outer : List Env} {s : Shared} {H : Hp} {EE : XK}
theorem r0_f_L_four : Rd1 (X_f_L_four P w K mg base f cd A outer s H EE) 0 "_law_draws_here" := ⟨rfl, by first | exact .inl rfl | exact .inr (.inl rfl), by decide, by decide⟩
theorem w0_f_L_four : Wr1 (X_f_L_four P w K mg base f cd A outer s H EE) 0 "_law_draws_here" := ⟨sc_f_L_four.nd, rfl, by first | exact .inl rfl | exact .inr rfl, .inl rfl⟩
theorem r1_f_L_four : Rd1 (X_f_L_four P w K mg base f cd A outer s H EE) 1 "_law_pick" := ⟨rfl, by first | exact .inl rfl | exact .inr (.inl rfl), by decide, by decide⟩
theorem w1_f_L_four : Wr1 (X_f_L_four P w K mg base f cd A outer s H EE) 1 "_law_pick" := ⟨sc_f_L_four.nd, rfl, by first | exact .inl rfl | exact .inr rfl, .inl rfl⟩
theorem r2_f_L_four : Rd1 (X_f_L_four P w K mg base f cd A outer s H EE) 2 "_law_told" := ⟨rfl, by first | exact .inl rfl | exact .inr (.inl rfl), by decide, by decide⟩
theorem w2_f_L_four : Wr1 (X_f_L_four P w K mg base f cd A outer s H EE) 2 "_law_told" := ⟨sc_f_L_four.nd, rfl, by first | exact .inl rfl | exact .inr rfl, .inl rfl⟩
theorem r3_f_L_four : Rd1 (X_f_L_four P w K mg base f cd A outer s H EE) 3 "_law_lune" := ⟨rfl, by first | exact .inl rfl | exact .inr (.inl rfl), by decide, by decide⟩
theorem w3_f_L_four : Wr1 (X_f_L_four P w K mg base f cd A outer s H EE) 3 "_law_lune" := ⟨sc_f_L_four.nd, rfl, by first | exact .inl rfl | exact .inr rfl, .inl rfl⟩
theorem r4_f_L_four : Rd1 (X_f_L_four P w K mg base f cd A outer s H EE) 4 "_law_sun" := ⟨rfl, by first | exact .inl rfl | exact .inr (.inl rfl), by decide, by decide⟩
theorem w4_f_L_four : Wr1 (X_f_L_four P w K mg base f cd A outer s H EE) 4 "_law_sun" := ⟨sc_f_L_four.nd, rfl, by first | exact .inl rfl | exact .inr rfl, .inl rfl⟩
theorem r5_f_L_four : Rd1 (X_f_L_four P w K mg base f cd A outer s H EE) 5 "_law_w" := ⟨rfl, by first | exact .inl rfl | exact .inr (.inl rfl), by decide, by decide⟩
theorem w5_f_L_four : Wr1 (X_f_L_four P w K mg base f cd A outer s H EE) 5 "_law_w" := ⟨sc_f_L_four.nd, rfl, by first | exact .inl rfl | exact .inr rfl, .inl rfl⟩
theorem r6_f_L_four : Rd1 (X_f_L_four P w K mg base f cd A outer s H EE) 6 "_law_s" := ⟨rfl, by first | exact .inl rfl | exact .inr (.inl rfl), by decide, by decide⟩
theorem w6_f_L_four : Wr1 (X_f_L_four P w K mg base f cd A outer s H EE) 6 "_law_s" := ⟨sc_f_L_four.nd, rfl, by first | exact .inl rfl | exact .inr rfl, .inl rfl⟩
theorem r7_f_L_four : Rd1 (X_f_L_four P w K mg base f cd A outer s H EE) 7 "_law_r" := ⟨rfl, by first | exact .inl rfl | exact .inr (.inl rfl), by decide, by decide⟩
theorem w7_f_L_four : Wr1 (X_f_L_four P w K mg base f cd A outer s H EE) 7 "_law_r" := ⟨sc_f_L_four.nd, rfl, by first | exact .inl rfl | exact .inr rfl, .inl rfl⟩
theorem g__law_next_f_L_four : Gl (X_f_L_four P w K mg base f cd A outer s H EE) "_law_next" := rfl
theorem g__law_part_f_L_four : Gl (X_f_L_four P w K mg base f cd A outer s H EE) "_law_part" := rfl
theorem g__law_by_f_L_four : Gl (X_f_L_four P w K mg base f cd A outer s H EE) "_law_by" := rfl
theorem g__law_plus_f_L_four : Gl (X_f_L_four P w K mg base f cd A outer s H EE) "_law_plus" := rfl
theorem g__law_moment_f_L_four : Gl (X_f_L_four P w K mg base f cd A outer s H EE) "_law_moment" := rfl
end
abbrev s_f_L_floor : Stmt := top 32
abbrev N_f_L_floor : List Str := ["_law_fraction"]
theorem sc_f_L_floor : FnScope N_f_L_floor ["_law_fraction"] (defScope s_f_L_floor) := ⟨rfl, rfl, rfl, by decide +kernel, rfl, by decide +kernel, by decide +kernel⟩
abbrev X_f_L_floor (P : Program) (w : World) (K : PySem.W.Frag) (mg : Str → Option Value) (base : Heap) (f : Addr) (cd : Value) (A : Around) (outer : List Env) (s : Shared) (H : Hp) (EE : XK) : Cx := xd P w K mg base N_f_L_floor "_law_floor" (defScope s_f_L_floor) f cd A outer s H EE
section
variable {P : Program} {w : World} {K : PySem.W.Frag} {mg : Str → Option Value} {base : Heap} {f : Addr} {cd : Value} {A : Around} {outer : List Env} {s : Shared} {H : Hp} {EE : XK}
theorem r0_f_L_floor : Rd1 (X_f_L_floor P w K mg base f cd A outer s H EE) 0 "_law_fraction" := ⟨rfl, by first | exact .inl rfl | exact .inr (.inl rfl), by decide, by decide⟩
theorem w0_f_L_floor : Wr1 (X_f_L_floor P w K mg base f cd A outer s H EE) 0 "_law_fraction" := ⟨sc_f_L_floor.nd, rfl, by first | exact .inl rfl | exact .inr rfl, .inl rfl⟩
end
abbrev s_f_L_start : Stmt := top 33
abbrev N_f_L_start : List Str := ["_law_four_here", "_law_k"]
theorem sc_f_L_start : FnScope N_f_L_start ["_law_four_here", "_law_k"] (defScope s_f_L_start) := ⟨rfl, rfl, rfl, by decide +kernel, rfl, by decide +kernel, by decide +kernel⟩
abbrev X_f_L_start (P : Program) (w : World) (K : PySem.W.Frag) (mg : Str → Option Value) (base : Heap) (f : Addr) (cd : Value) (A : Around) (outer : List Env) (s : Shared) (H : Hp) (EE : XK) : Cx := xd P w K mg base N_f_L_start "_law_start" (defScope s_f_L_start) f cd A outer s H EE
section
variable {P : Program} {w : World} {K : PySem.W.Frag} {mg : Str → Option Value} {base : Heap} {f : Addr} {cd : Value} {A : Around} {outer : List Env} {s : Shared} {H : Hp} {EE : XK}
theorem r0_f_L_start : Rd1 (X_f_L_start P w K mg base f cd A outer s H EE) 0 "_law_four_here" := ⟨rfl, by first | exact .inl rfl | exact .inr (.inl rfl), by decide, by decide⟩
theorem w0_f_L_start : Wr1 (X_f_L_start P w K mg base f cd A outer s H EE) 0 "_law_four_here" := ⟨sc_f_L_start.nd, rfl, by first | exact .inl rfl | exact .inr rfl, .inl rfl⟩
theorem r1_f_L_start : Rd1 (X_f_L_start P w K mg base f cd A outer s H EE) 1 "_law_k" := ⟨rfl, by first | exact .inl rfl | exact .inr (.inl rfl), by decide, by decide⟩
theorem w1_f_L_start : Wr1 (X_f_L_start P w K mg base f cd A outer s H EE) 1 "_law_k" := ⟨sc_f_L_start.nd, rfl, by first | exact .inl rfl | exact .inr rfl, .inl rfl⟩
theorem g__law_floor_f_L_start : Gl (X_f_L_start P w K mg base f cd A outer s H EE) "_law_floor" := rfl
theorem g__law_plus_f_L_start : Gl (X_f_L_start P w K mg base f cd A outer s H EE) "_law_plus" := rfl
theorem g__law_by_f_L_start : Gl (X_f_L_start P w K mg base f cd A outer s H EE) "_law_by" := rfl
end
abbrev s_f_L_made : Stmt := top 34
abbrev N_f_L_made : List Str := ["_law_four_here", "_law_way", "_law_lune", "_law_sun", "_law_come", "_law_begun", "_law_top", "_law_bottom"]
theorem sc_f_L_made : FnScope N_f_L_made ["_law_four_here", "_law_way"] (defScope s_f_L_made) := ⟨rfl, rfl, rfl, by decide +kernel, rfl, by decide +kernel, by decide +kernel⟩
abbrev X_f_L_made (P : Program) (w : World) (K : PySem.W.Frag) (mg : Str → Option Value) (base : Heap) (f : Addr) (cd : Value) (A : Around) (outer : List Env) (s : Shared) (H : Hp) (EE : XK) : Cx := xd P w K mg base N_f_L_made "_law_made" (defScope s_f_L_made) f cd A outer s H EE
section
variable {P : Program} {w : World} {K : PySem.W.Frag} {mg : Str → Option Value} {base : Heap} {f : Addr} {cd : Value} {A : Around} {outer : List Env} {s : Shared} {H : Hp} {EE : XK}
theorem r0_f_L_made : Rd1 (X_f_L_made P w K mg base f cd A outer s H EE) 0 "_law_four_here" := ⟨rfl, by first | exact .inl rfl | exact .inr (.inl rfl), by decide, by decide⟩
theorem w0_f_L_made : Wr1 (X_f_L_made P w K mg base f cd A outer s H EE) 0 "_law_four_here" := ⟨sc_f_L_made.nd, rfl, by first | exact .inl rfl | exact .inr rfl, .inl rfl⟩
theorem r1_f_L_made : Rd1 (X_f_L_made P w K mg base f cd A outer s H EE) 1 "_law_way" := ⟨rfl, by first | exact .inl rfl | exact .inr (.inl rfl), by decide, by decide⟩
theorem w1_f_L_made : Wr1 (X_f_L_made P w K mg base f cd A outer s H EE) 1 "_law_way" := ⟨sc_f_L_made.nd, rfl, by first | exact .inl rfl | exact .inr rfl, .inl rfl⟩
theorem r2_f_L_made : Rd1 (X_f_L_made P w K mg base f cd A outer s H EE) 2 "_law_lune" := ⟨rfl, by first | exact .inl rfl | exact .inr (.inl rfl), by decide, by decide⟩
theorem w2_f_L_made : Wr1 (X_f_L_made P w K mg base f cd A outer s H EE) 2 "_law_lune" := ⟨sc_f_L_made.nd, rfl, by first | exact .inl rfl | exact .inr rfl, .inl rfl⟩
theorem r3_f_L_made : Rd1 (X_f_L_made P w K mg base f cd A outer s H EE) 3 "_law_sun" := ⟨rfl, by first | exact .inl rfl | exact .inr (.inl rfl), by decide, by decide⟩
theorem w3_f_L_made : Wr1 (X_f_L_made P w K mg base f cd A outer s H EE) 3 "_law_sun" := ⟨sc_f_L_made.nd, rfl, by first | exact .inl rfl | exact .inr rfl, .inl rfl⟩
theorem r4_f_L_made : Rd1 (X_f_L_made P w K mg base f cd A outer s H EE) 4 "_law_come" := ⟨rfl, by first | exact .inl rfl | exact .inr (.inl rfl), by decide, by decide⟩
theorem w4_f_L_made : Wr1 (X_f_L_made P w K mg base f cd A outer s H EE) 4 "_law_come" := ⟨sc_f_L_made.nd, rfl, by first | exact .inl rfl | exact .inr rfl, .inl rfl⟩
theorem r5_f_L_made : Rd1 (X_f_L_made P w K mg base f cd A outer s H EE) 5 "_law_begun" := ⟨rfl, by first | exact .inl rfl | exact .inr (.inl rfl), by decide, by decide⟩
theorem w5_f_L_made : Wr1 (X_f_L_made P w K mg base f cd A outer s H EE) 5 "_law_begun" := ⟨sc_f_L_made.nd, rfl, by first | exact .inl rfl | exact .inr rfl, .inl rfl⟩
theorem g_Calendar_f_L_made : Gl (X_f_L_made P w K mg base f cd A outer s H EE) "Calendar" := rfl
end
abbrev s_f_L_row : Stmt := top 35
abbrev N_f_L_row : List Str := ["_law_four_here", "_law_k", "_law_count", "_law_days", "_law_at", "_law_soon", "_law_late"]
theorem sc_f_L_row : FnScope N_f_L_row ["_law_four_here", "_law_k", "_law_count"] (defScope s_f_L_row) := ⟨rfl, rfl, rfl, by decide +kernel, rfl, by decide +kernel, by decide +kernel⟩
abbrev X_f_L_row (P : Program) (w : World) (K : PySem.W.Frag) (mg : Str → Option Value) (base : Heap) (f : Addr) (cd : Value) (A : Around) (outer : List Env) (s : Shared) (H : Hp) (EE : XK) : Cx := xd P w K mg base N_f_L_row "_law_row" (defScope s_f_L_row) f cd A outer s H EE
section
variable {P : Program} {w : World} {K : PySem.W.Frag} {mg : Str → Option Value} {base : Heap} {f : Addr} {cd : Value} {A : Around} {outer : List Env} {s : Shared} {H : Hp} {EE : XK}
theorem r0_f_L_row : Rd1 (X_f_L_row P w K mg base f cd A outer s H EE) 0 "_law_four_here" := ⟨rfl, by first | exact .inl rfl | exact .inr (.inl rfl), by decide, by decide⟩
theorem w0_f_L_row : Wr1 (X_f_L_row P w K mg base f cd A outer s H EE) 0 "_law_four_here" := ⟨sc_f_L_row.nd, rfl, by first | exact .inl rfl | exact .inr rfl, .inl rfl⟩
theorem r1_f_L_row : Rd1 (X_f_L_row P w K mg base f cd A outer s H EE) 1 "_law_k" := ⟨rfl, by first | exact .inl rfl | exact .inr (.inl rfl), by decide, by decide⟩
theorem w1_f_L_row : Wr1 (X_f_L_row P w K mg base f cd A outer s H EE) 1 "_law_k" := ⟨sc_f_L_row.nd, rfl, by first | exact .inl rfl | exact .inr rfl, .inl rfl⟩
theorem r2_f_L_row : Rd1 (X_f_L_row P w K mg base f cd A outer s H EE) 2 "_law_count" := ⟨rfl, by first | exact .inl rfl | exact .inr (.inl rfl), by decide, by decide⟩
theorem w2_f_L_row : Wr1 (X_f_L_row P w K mg base f cd A outer s H EE) 2 "_law_count" := ⟨sc_f_L_row.nd, rfl, by first | exact .inl rfl | exact .inr rfl, .inl rfl⟩
theorem r3_f_L_row : Rd1 (X_f_L_row P w K mg base f cd A outer s H EE) 3 "_law_days" := ⟨rfl, by first | exact .inl rfl | exact .inr (.inl rfl), by decide, by decide⟩
theorem w3_f_L_row : Wr1 (X_f_L_row P w K mg base f cd A outer s H EE) 3 "_law_days" := ⟨sc_f_L_row.nd, rfl, by first | exact .inl rfl | exact .inr rfl, .inl rfl⟩
theorem g_range_f_L_row : Gl (X_f_L_row P w K mg base f cd A outer s H EE) "range" := rfl
theorem g_tuple_f_L_row : Gl (X_f_L_row P w K mg base f cd A outer s H EE) "tuple" := rfl
theorem g_zip_f_L_row : Gl (X_f_L_row P w K mg base f cd A outer s H EE) "zip" := rfl
end
abbrev s_f_L_small : Stmt := top 36
abbrev N_f_L_small : List Str := ["_law_draws_here", "_law_four_here", "_law_bottom", "_law_top", "_law_lune"]
theorem sc_f_L_small : FnScope N_f_L_small ["_law_draws_here", "_law_four_here"] (defScope s_f_L_small) := ⟨rfl, rfl, rfl, by decide +kernel, rfl, by decide +kernel, by decide +kernel⟩
abbrev X_f_L_small (P : Program) (w : World) (K : PySem.W.Frag) (mg : Str → Option Value) (base : Heap) (f : Addr) (cd : Value) (A : Around) (outer : List Env) (s : Shared) (H : Hp) (EE : XK) : Cx := xd P w K mg base N_f_L_small "_law_small" (defScope s_f_L_small) f cd A outer s H EE
section
variable {P : Program} {w : World} {K : PySem.W.Frag} {mg : Str → Option Value} {base : Heap} {f : Addr} {cd : Value} {A : Around} {outer : List Env} {s : Shared} {H : Hp} {EE : XK}
theorem r0_f_L_small : Rd1 (X_f_L_small P w K mg base f cd A outer s H EE) 0 "_law_draws_here" := ⟨rfl, by first | exact .inl rfl | exact .inr (.inl rfl), by decide, by decide⟩
theorem w0_f_L_small : Wr1 (X_f_L_small P w K mg base f cd A outer s H EE) 0 "_law_draws_here" := ⟨sc_f_L_small.nd, rfl, by first | exact .inl rfl | exact .inr rfl, .inl rfl⟩
theorem r1_f_L_small : Rd1 (X_f_L_small P w K mg base f cd A outer s H EE) 1 "_law_four_here" := ⟨rfl, by first | exact .inl rfl | exact .inr (.inl rfl), by decide, by decide⟩
theorem w1_f_L_small : Wr1 (X_f_L_small P w K mg base f cd A outer s H EE) 1 "_law_four_here" := ⟨sc_f_L_small.nd, rfl, by first | exact .inl rfl | exact .inr rfl, .inl rfl⟩
theorem r2_f_L_small : Rd1 (X_f_L_small P w K mg base f cd A outer s H EE) 2 "_law_bottom" := ⟨rfl, by first | exact .inl rfl | exact .inr (.inl rfl), by decide, by decide⟩
theorem w2_f_L_small : Wr1 (X_f_L_small P w K mg base f cd A outer s H EE) 2 "_law_bottom" := ⟨sc_f_L_small.nd, rfl, by first | exact .inl rfl | exact .inr rfl, .inl rfl⟩
theorem r3_f_L_small : Rd1 (X_f_L_small P w K mg base f cd A outer s H EE) 3 "_law_top" := ⟨rfl, by first | exact .inl rfl | exact .inr (.inl rfl), by decide, by decide⟩
theorem w3_f_L_small : Wr1 (X_f_L_small P w K mg base f cd A outer s H EE) 3 "_law_top" := ⟨sc_f_L_small.nd, rfl, by first | exact .inl rfl | exact .inr rfl, .inl rfl⟩
theorem r4_f_L_small : Rd1 (X_f_L_small P w K mg base f cd A outer s H EE) 4 "_law_lune" := ⟨rfl, by first | exact .inl rfl | exact .inr (.inl rfl), by decide, by decide⟩
theorem w4_f_L_small : Wr1 (X_f_L_small P w K mg base f cd A outer s H EE) 4 "_law_lune" := ⟨sc_f_L_small.nd, rfl, by first | exact .inl rfl | exact .inr rfl, .inl rfl⟩
theorem g__law_next_f_L_small : Gl (X_f_L_small P w K mg base f cd A outer s H EE) "_law_next" := rfl
theorem g__law_low_f_L_small : Gl (X_f_L_small P w K mg base f cd A outer s H EE) "_law_low" := rfl
theorem g__law_floor_f_L_small : Gl (X_f_L_small P w K mg base f cd A outer s H EE) "_law_floor" := rfl
end
abbrev s_f_L_grid : Stmt := top 37
abbrev N_f_L_grid : List Str := ["_law_lune", "_law_count", "_law_rows", "_law_at", "_law_spot", "_law_days", "_law_k", "_law_soon", "_law_late"]
theorem sc_f_L_grid : FnScope N_f_L_grid ["_law_lune", "_law_count"] (defScope s_f_L_grid) := ⟨rfl, rfl, rfl, by decide +kernel, rfl, by decide +kernel, by decide +kernel⟩
abbrev X_f_L_grid (P : Program) (w : World) (K : PySem.W.Frag) (mg : Str → Option Value) (base : Heap) (f : Addr) (cd : Value) (A : Around) (outer : List Env) (s : Shared) (H : Hp) (EE : XK) : Cx := xd P w K mg base N_f_L_grid "_law_grid" (defScope s_f_L_grid) f cd A outer s H EE
section
variable {P : Program} {w : World} {K : PySem.W.Frag} {mg : Str → Option Value} {base : Heap} {f : Addr} {cd : Value} {A : Around} {outer : List Env} {s : Shared} {H : Hp} {EE : XK}
theorem r0_f_L_grid : Rd1 (X_f_L_grid P w K mg base f cd A outer s H EE) 0 "_law_lune" := ⟨rfl, by first | exact .inl rfl | exact .inr (.inl rfl), by decide, by decide⟩
theorem w0_f_L_grid : Wr1 (X_f_L_grid P w K mg base f cd A outer s H EE) 0 "_law_lune" := ⟨sc_f_L_grid.nd, rfl, by first | exact .inl rfl | exact .inr rfl, .inl rfl⟩
theorem r1_f_L_grid : Rd1 (X_f_L_grid P w K mg base f cd A outer s H EE) 1 "_law_count" := ⟨rfl, by first | exact .inl rfl | exact .inr (.inl rfl), by decide, by decide⟩
theorem w1_f_L_grid : Wr1 (X_f_L_grid P w K mg base f cd A outer s H EE) 1 "_law_count" := ⟨sc_f_L_grid.nd, rfl, by first | exact .inl rfl | exact .inr rfl, .inl rfl⟩
theorem r2_f_L_grid : Rd1 (X_f_L_grid P w K mg base f cd A outer s H EE) 2 "_law_rows" := ⟨rfl, by first | exact .inl rfl | exact .inr (.inl rfl), by decide, by decide⟩
theorem w2_f_L_grid : Wr1 (X_f_L_grid P w K mg base f cd A outer s H EE) 2 "_law_rows" := ⟨sc_f_L_grid.nd, rfl, by first | exact .inl rfl | exact .inr rfl, .inl rfl⟩
theorem r3_f_L_grid : Rd1 (X_f_L_grid P w K mg base f cd A outer s H EE) 3 "_law_at" := ⟨rfl, by first | exact .inl rfl | exact .inr (.inl rfl), by decide, by decide⟩
theorem w3_f_L_grid : Wr1 (X_f_L_grid P w K mg base f cd A outer s H EE) 3 "_law_at" := ⟨sc_f_L_grid.nd, rfl, by first | exact .inl rfl | exact .inr rfl, .inl rfl⟩
theorem r4_f_L_grid : Rd1 (X_f_L_grid P w K mg base f cd A outer s H EE) 4 "_law_spot" := ⟨rfl, by first | exact .inl rfl | exact .inr (.inl rfl), by decide, by decide⟩
theorem w4_f_L_grid : Wr1 (X_f_L_grid P w K mg base f cd A outer s H EE) 4 "_law_spot" := ⟨sc_f_L_grid.nd, rfl, by first | exact .inl rfl | exact .inr rfl, .inl rfl⟩
theorem r5_f_L_grid : Rd1 (X_f_L_grid P w K mg base f cd A outer s H EE) 5 "_law_days" := ⟨rfl, by first | exact .inl rfl | exact .inr (.inl rfl), by decide, by decide⟩
theorem w5_f_L_grid : Wr1 (X_f_L_grid P w K mg base f cd A outer s H EE) 5 "_law_days" := ⟨sc_f_L_grid.nd, rfl, by first | exact .inl rfl | exact .inr rfl, .inl rfl⟩
theorem g_range_f_L_grid : Gl (X_f_L_grid P w K mg base f cd A outer s H EE) "range" := rfl
theorem g_tuple_f_L_grid : Gl (X_f_L_grid P w K mg base f cd A outer s H EE) "tuple" := rfl
theorem g_zip_f_L_grid : Gl (X_f_L_grid P w K mg base f cd A outer s H EE) "zip" := rfl
end
abbrev s_f_L_right : Stmt := top 38
abbrev N_f_L_right : List Str := ["_law_draws_here", "_law_great", "_law_four_here", "_law_count", "_law_made_here", "_law_told", "_law_first", "_law_rows", "_law_k", "_law_due"]
theorem sc_f_L_right : FnScope N_f_L_right ["_law_draws_here", "_law_great"] (defScope s_f_L_right) := ⟨rfl, rfl, rfl, by decide +kernel, rfl, by decide +kernel, by decide +kernel⟩
abbrev X_f_L_right (P : Program) (w : World) (K : PySem.W.Frag) (mg : Str → Option Value) (base : Heap) (f : Addr) (cd : Value) (A : Around) (outer : List Env) (s : Shared) (H : Hp) (EE : XK) : Cx := xd P w K mg base N_f_L_right "_law_right" (defScope s_f_L_right) f cd A outer s H EE
section
variable {P : Program} {w : World} {K : PySem.W.Frag} {mg : Str → Option Value} {base : Heap} {f : Addr} {cd : Value} {A : Around} {outer : List Env} {s : Shared} {H : Hp} {EE : XK}
theorem r0_f_L_right : Rd1 (X_f_L_right P w K mg base f cd A outer s H EE) 0 "_law_draws_here" := ⟨rfl, by first | exact .inl rfl | exact .inr (.inl rfl), by decide, by decide⟩
theorem w0_f_L_right : Wr1 (X_f_L_right P w K mg base f cd A outer s H EE) 0 "_law_draws_here" := ⟨sc_f_L_right.nd, rfl, by first | exact .inl rfl | exact .inr rfl, .inl rfl⟩
theorem r1_f_L_right : Rd1 (X_f_L_right P w K mg base f cd A outer s H EE) 1 "_law_great" := ⟨rfl, by first | exact .inl rfl | exact .inr (.inl rfl), by decide, by decide⟩
theorem w1_f_L_right : Wr1 (X_f_L_right P w K mg base f cd A outer s H EE) 1 "_law_great" := ⟨sc_f_L_right.nd, rfl, by first | exact .inl rfl | exact .inr rfl, .inl rfl⟩
theorem r2_f_L_right : Rd1 (X_f_L_right P w K mg base f cd A outer s H EE) 2 "_law_four_here" := ⟨rfl, by first | exact .inl rfl | exact .inr (.inl rfl), by decide, by decide⟩
theorem w2_f_L_right : Wr1 (X_f_L_right P w K mg base f cd A outer s H EE) 2 "_law_four_here" := ⟨sc_f_L_right.nd, rfl, by first | exact .inl rfl | exact .inr rfl, .inl rfl⟩
theorem r3_f_L_right : Rd1 (X_f_L_right P w K mg base f cd A outer s H EE) 3 "_law_count" := ⟨rfl, by first | exact .inl rfl | exact .inr (.inl rfl), by decide, by decide⟩
theorem w3_f_L_right : Wr1 (X_f_L_right P w K mg base f cd A outer s H EE) 3 "_law_count" := ⟨sc_f_L_right.nd, rfl, by first | exact .inl rfl | exact .inr rfl, .inl rfl⟩
theorem r4_f_L_right : Rd1 (X_f_L_right P w K mg base f cd A outer s H EE) 4 "_law_made_here" := ⟨rfl, by first | exact .inl rfl | exact .inr (.inl rfl), by decide, by decide⟩
theorem w4_f_L_right : Wr1 (X_f_L_right P w K mg base f cd A outer s H EE) 4 "_law_made_here" := ⟨sc_f_L_right.nd, rfl, by first | exact .inl rfl | exact .inr rfl, .inl rfl⟩
theorem r5_f_L_right : Rd1 (X_f_L_right P w K mg base f cd A outer s H EE) 5 "_law_told" := ⟨rfl, by first | exact .inl rfl | exact .inr (.inl rfl), by decide, by decide⟩
theorem w5_f_L_right : Wr1 (X_f_L_right P w K mg base f cd A outer s H EE) 5 "_law_told" := ⟨sc_f_L_right.nd, rfl, by first | exact .inl rfl | exact .inr rfl, .inl rfl⟩
theorem r6_f_L_right : Rd1 (X_f_L_right P w K mg base f cd A outer s H EE) 6 "_law_first" := ⟨rfl, by first | exact .inl rfl | exact .inr (.inl rfl), by decide, by decide⟩
theorem w6_f_L_right : Wr1 (X_f_L_right P w K mg base f cd A outer s H EE) 6 "_law_first" := ⟨sc_f_L_right.nd, rfl, by first | exact .inl rfl | exact .inr rfl, .inl rfl⟩
theorem r7_f_L_right : Rd1 (X_f_L_right P w K mg base f cd A outer s H EE) 7 "_law_rows" := ⟨rfl, by first | exact .inl rfl | exact .inr (.inl rfl), by decide, by decide⟩
theorem w7_f_L_right : Wr1 (X_f_L_right P w K mg base f cd A outer s H EE) 7 "_law_rows" := ⟨sc_f_L_right.nd, rfl, by first | exact .inl rfl | exact .inr rfl, .inl rfl⟩
theorem r8_f_L_right : Rd1 (X_f_L_right P w K mg base f cd A outer s H EE) 8 "_law_k" := ⟨rfl, by first | exact .inl rfl | exact .inr (.inl rfl), by decide, by decide⟩
theorem w8_f_L_right : Wr1 (X_f_L_right P w K mg base f cd A outer s H EE) 8 "_law_k" := ⟨sc_f_L_right.nd, rfl, by first | exact .inl rfl | exact .inr rfl, .inl rfl⟩
theorem r9_f_L_right : Rd1 (X_f_L_right P w K mg base f cd A outer s H EE) 9 "_law_due" := ⟨rfl, by first | exact .inl rfl | exact .inr (.inl rfl), by decide, by decide⟩
theorem w9_f_L_right : Wr1 (X_f_L_right P w K mg base f cd A outer s H EE) 9 "_law_due" := ⟨sc_f_L_right.nd, rfl, by first | exact .inl rfl | exact .inr rfl, .inl rfl⟩
theorem g__law_four_f_L_right : Gl (X_f_L_right P w K mg base f cd A outer s H EE) "_law_four" := rfl
theorem g__law_next_f_L_right : Gl (X_f_L_right P w K mg base f cd A outer s H EE) "_law_next" := rfl
theorem g__law_small_f_L_right : Gl (X_f_L_right P w K mg base f cd A outer s H EE) "_law_small" := rfl
theorem g__law_made_f_L_right : Gl (X_f_L_right P w K mg base f cd A outer s H EE) "_law_made" := rfl
theorem g_stretches_f_L_right : Gl (X_f_L_right P w K mg base f cd A outer s H EE) "stretches" := rfl
theorem g_isinstance_f_L_right : Gl (X_f_L_right P w K mg base f cd A outer s H EE) "isinstance" := rfl
theorem g_list_f_L_right : Gl (X_f_L_right P w K mg base f cd A outer s H EE) "list" := rfl
theorem g_sorted_f_L_right : Gl (X_f_L_right P w K mg base f cd A outer s H EE) "sorted" := rfl
theorem g_set_f_L_right : Gl (X_f_L_right P w K mg base f cd A outer s H EE) "set" := rfl
theorem g_len_f_L_right : Gl (X_f_L_right P w K mg base f cd A outer s H EE) "len" := rfl
theorem g_min_f_L_right : Gl (X_f_L_right P w K mg base f cd A outer s H EE) "min" := rfl
theorem g_range_f_L_right : Gl (X_f_L_right P w K mg base f cd A outer s H EE) "range" := rfl
theorem g__law_row_f_L_right : Gl (X_f_L_right P w K mg base f cd A outer s H EE) "_law_row" := rfl
theorem g__law_grid_f_L_right : Gl (X_f_L_right P w K mg base f cd A outer s H EE) "_law_grid" := rfl
end
abbrev s_f_LAW : Stmt := top 39
abbrev N_f_LAW : List Str := ["_law_script", "_law_k", "_law_cell"]
theorem sc_f_LAW : FnScope N_f_LAW ["_law_script"] (defScope s_f_LAW) := ⟨rfl, rfl, rfl, by decide +kernel, rfl, by decide +kernel, by decide +kernel⟩
abbrev X_f_LAW (P : Program) (w : World) (K : PySem.W.Frag) (mg : Str → Option Value) (base : Heap) (f : Addr) (cd : Value) (A : Around) (outer : List Env) (s : Shared) (H : Hp) (EE : XK) : Cx := xd P w K mg base N_f_LAW "law" (defScope s_f_LAW) f cd A outer s H EE
section
variable {P : Program} {w : World} {K : PySem.W.Frag} {mg : Str → Option Value} {base : Heap} {f : Addr} {cd : Value} {A : Around} {outer : List Env} {s : Shared} {H : Hp} {EE : XK}
theorem r0_f_LAW : Rd1 (X_f_LAW P w K mg base f cd A outer s H EE) 0 "_law_script" := ⟨rfl, by first | exact .inl rfl | exact .inr (.inl rfl), by decide, by decide⟩
theorem w0_f_LAW : Wr1 (X_f_LAW P w K mg base f cd A outer s H EE) 0 "_law_script" := ⟨sc_f_LAW.nd, rfl, by first | exact .inl rfl | exact .inr rfl, .inl rfl⟩
theorem r1_f_LAW : Rd1 (X_f_LAW P w K mg base f cd A outer s H EE) 1 "_law_k" := ⟨rfl, by first | exact .inl rfl | exact .inr (.inl rfl), by decide, by decide⟩
theorem w1_f_LAW : Wr1 (X_f_LAW P w K mg base f cd A outer s H EE) 1 "_law_k" := ⟨sc_f_LAW.nd, rfl, by first | exact .inl rfl | exact .inr rfl, .inl rfl⟩
theorem r2_f_LAW : Rd1 (X_f_LAW P w K mg base f cd A outer s H EE) 2 "_law_cell" := ⟨rfl, by first | exact .inl rfl | exact .inr (.inl rfl), by decide, by decide⟩
theorem w2_f_LAW : Wr1 (X_f_LAW P w K mg base f cd A outer s H EE) 2 "_law_cell" := ⟨sc_f_LAW.nd, rfl, by first | exact .inl rfl | exact .inr rfl, .inl rfl⟩
theorem g_enumerate_f_LAW : Gl (X_f_LAW P w K mg base f cd A outer s H EE) "enumerate" := rfl
theorem g__law_right_f_LAW : Gl (X_f_LAW P w K mg base f cd A outer s H EE) "_law_right" := rfl
theorem g__law_draws_f_LAW : Gl (X_f_LAW P w K mg base f cd A outer s H EE) "_law_draws" := rfl
end
end MM

namespace MM
open PySem L2 PyProof.Rows
/-! ### fractions -/
abbrev rt (t b : Int) : Rat := Rat.divInt t b
theorem rt_self (q : Rat) : rt q.num q.den = q := by
  rw [rt, Rat.divInt_eq_div]
  exact Rat.num_divInt_den q |> fun h => by rw [← Rat.divInt_eq_div]; exact h
/-- by the greatest common part, its sign the bottom's -/
def lowBy (t b : Int) : Int := if b < 0 then 0 - (Int.gcd t b : Int) else (Int.gcd t b : Int)
theorem gcd_pos {t b : Int} (hb : b ≠ 0) : 0 < Int.gcd t b := Int.gcd_pos_of_ne_zero_right _ hb
theorem lowBy_ne {t b : Int} (hb : b ≠ 0) : lowBy t b ≠ 0 := by
  have := gcd_pos (t := t) hb
  unfold lowBy
  split <;> omega
theorem low_top {t b : Int} (hb : b ≠ 0) : t.fdiv (lowBy t b) = (rt t b).num := by
  have hg := gcd_pos (t := t) hb
  obtain ⟨c, hc⟩ := Int.gcd_dvd_left (a := t) (b := b)
  rw [rt, Rat.num_divInt, Int.gcd_comm b t]
  unfold lowBy
  by_cases h : b < 0
  · rw [if_pos h, Int.sign_eq_neg_one_of_neg h]
    have e1 : t = (0 - (Int.gcd t b : Int)) * (-c) := by rw [Int.zero_sub, Int.neg_mul_neg]; exact hc
    have e2 : -1 * t = (Int.gcd t b : Int) * (-c) := by rw [Int.mul_neg, ← hc]; omega
    have n1 : (0 - (Int.gcd t b : Int)) ≠ 0 := by omega
    have n2 : (Int.gcd t b : Int) ≠ 0 := by omega
    rw [e2, Int.mul_ediv_cancel_left _ n2]
    conv => lhs; arg 1; rw [e1]
    exact Int.mul_fdiv_cancel_left _ n1
  · have h0 : 0 < b := by omega
    rw [if_neg h, Int.sign_eq_one_of_pos h0, Int.one_mul]
    have n2 : (Int.gcd t b : Int) ≠ 0 := by omega
    conv => lhs; arg 1; rw [hc]
    conv => rhs; arg 1; rw [hc]
    rw [Int.mul_ediv_cancel_left _ n2]
    exact Int.mul_fdiv_cancel_left _ n2
theorem low_bot {t b : Int} (hb : b ≠ 0) : b.fdiv (lowBy t b) = ((rt t b).den : Int) := by
  have hg := gcd_pos (t := t) hb
  obtain ⟨c, hc⟩ := Int.gcd_dvd_right (a := t) (b := b)
  rw [rt, Rat.den_divInt, if_neg hb, Int.gcd_comm b t]
  unfold lowBy
  have n2 : (Int.gcd t b : Int) ≠ 0 := by omega
  by_cases h : b < 0
  · rw [if_pos h]
    have e1 : b = (0 - (Int.gcd t b : Int)) * (-c) := by rw [Int.zero_sub, Int.neg_mul_neg]; exact hc
    have n1 : (0 - (Int.gcd t b : Int)) ≠ 0 := by omega
    have e3 : (b.natAbs : Int) = (Int.gcd t b : Int) * (-c) := by rw [Int.mul_neg, ← hc]; omega
    rw [Int.natCast_ediv, e3, Int.mul_ediv_cancel_left _ n2]
    conv => lhs; arg 1; rw [e1]
    exact Int.mul_fdiv_cancel_left _ n1
  · rw [if_neg h]
    have e3 : (b.natAbs : Int) = (Int.gcd t b : Int) * c := by rw [← hc]; omega
    rw [Int.natCast_ediv, e3, Int.mul_ediv_cancel_left _ n2]
    conv => lhs; arg 1; rw [hc]
    exact Int.mul_fdiv_cancel_left _ n2
theorem den_pos (q : Rat) : (0 : Int) < q.den := by have := q.den_pos; omega
theorem den_ne (q : Rat) : (q.den : Int) ≠ 0 := by have := den_pos q; omega
theorem rt_add (a c : Int) {b d : Int} (hb : b ≠ 0) (hd : d ≠ 0) : rt (a * d + c * b) (b * d) = rt a b + rt c d := (Rat.divInt_add_divInt a c hb hd).symm
theorem rt_mul (a c : Int) {b d : Int} : rt (a * c) (b * d) = rt a b * rt c d := (Rat.divInt_mul_divInt a c).symm
theorem rt_neg (a b : Int) : rt (-a) b = - rt a b := by
  rw [rt, rt, Rat.divInt_eq_div, Rat.divInt_eq_div, Rat.intCast_neg, Rat.div_def, Rat.div_def, Rat.neg_mul]
theorem rt_sub (a c : Int) {b d : Int} (hb : b ≠ 0) (hd : d ≠ 0) : rt (a * d - c * b) (b * d) = rt a b - rt c d := by
  have e : a * d - c * b = a * d + (-c) * b := by rw [Int.neg_mul]; omega
  rw [e, rt_add a (-c) hb hd, rt_neg, Rat.sub_eq_add_neg]
theorem rt_int (i : Int) : rt i 1 = (i : Rat) := by
  rw [rt, Rat.divInt_eq_div]
  grind
theorem add_q (p q : Rat) : rt (p.num * q.den + q.num * p.den) (p.den * q.den) = p + q := by
  rw [rt_add _ _ (den_ne p) (den_ne q), rt_self, rt_self]
theorem sub_q (p q : Rat) : rt (p.num * q.den - q.num * p.den) (p.den * q.den) = p - q := by
  rw [rt_sub _ _ (den_ne p) (den_ne q), rt_self, rt_self]
theorem mul_q (p q : Rat) : rt (p.num * q.num) (p.den * q.den) = p * q := by
  rw [rt_mul, rt_self, rt_self]
theorem rt_inv (a b : Int) : rt b a = (rt a b)⁻¹ := by
  rw [rt, rt, Rat.divInt_eq_div, Rat.divInt_eq_div, Rat.div_def, Rat.div_def, Rat.inv_mul_rev, Rat.inv_inv]
theorem div_q (p q : Rat) : rt (p.num * q.den) (p.den * q.num) = p / q := by
  rw [rt_mul, rt_self, rt_inv, rt_self, Rat.div_def]
theorem num_ne {q : Rat} (h : q ≠ 0) : q.num ≠ 0 := fun e => h (by
  have := Rat.num_eq_zero.mp e
  exact this)
/-! ### sizes of fractions -/
structure Sz (n : Nat) (q : Rat) : Prop where
  num : Bd n q.num
  den : Bd n q.den
theorem Sz.mono {n m : Nat} {q : Rat} (h : Sz n q) (l : n ≤ m) : Sz m q := ⟨h.num.mono l, h.den.mono l⟩
theorem ediv_le {a b : Nat} : a / b ≤ a := Nat.div_le_self a b
theorem sz_rt {n m : Nat} {a b : Int} (ha : Bd n a) (hb : Bd m b) (h0 : b ≠ 0) : Sz (max n m) (rt a b) := by
  have h1 : a.natAbs < 2 ^ n := ha
  have h2 : b.natAbs < 2 ^ m := hb
  constructor
  · show (rt a b).num.natAbs < _
    rw [rt, Rat.num_divInt]
    have e : (b.sign * a).natAbs ≤ a.natAbs := by
      rcases Int.lt_or_gt_of_ne h0 with h | h
      · rw [Int.sign_eq_neg_one_of_neg h]; omega
      · rw [Int.sign_eq_one_of_pos h]; omega
    have e2 := Int.natAbs_ediv_le_natAbs (b.sign * a) (Int.gcd b a : Int)
    have := @pow2_le n (max n m) (Nat.le_max_left _ _)
    omega
  · show ((rt a b).den : Int).natAbs < _
    rw [rt, Rat.den_divInt, if_neg h0, Int.natAbs_natCast]
    have := @pow2_le m (max n m) (Nat.le_max_right _ _)
    have e3 := Nat.div_le_self b.natAbs (Int.gcd b a)
    omega
theorem sz_add {n m : Nat} {p q : Rat} (hp : Sz n p) (hq : Sz m q) : Sz (n + m + 1) (p + q) := by
  rw [← add_q]
  refine (sz_rt (bd_add (bd_mul hp.num hq.den) (bd_mul hq.num hp.den)) (bd_mul hp.den hq.den) ?_).mono (by omega)
  exact Int.mul_ne_zero (den_ne p) (den_ne q)
theorem sz_sub {n m : Nat} {p q : Rat} (hp : Sz n p) (hq : Sz m q) : Sz (n + m + 1) (p - q) := by
  rw [← sub_q]
  refine (sz_rt (bd_sub (bd_mul hp.num hq.den) (bd_mul hq.num hp.den)) (bd_mul hp.den hq.den) ?_).mono (by omega)
  exact Int.mul_ne_zero (den_ne p) (den_ne q)
theorem sz_mul {n m : Nat} {p q : Rat} (hp : Sz n p) (hq : Sz m q) : Sz (n + m) (p * q) := by
  rw [← mul_q]
  refine (sz_rt (bd_mul hp.num hq.num) (bd_mul hp.den hq.den) ?_).mono (by omega)
  exact Int.mul_ne_zero (den_ne p) (den_ne q)
theorem sz_div {n m : Nat} {p q : Rat} (hp : Sz n p) (hq : Sz m q) (h : q ≠ 0) : Sz (n + m) (p / q) := by
  rw [← div_q]
  refine (sz_rt (bd_mul hp.num hq.den) (bd_mul hp.den hq.num) ?_).mono (by omega)
  exact Int.mul_ne_zero (den_ne p) (num_ne h)
theorem sz_int {n : Nat} {i : Int} (h : Bd n i) (h1 : 1 ≤ n) : Sz n (i : Rat) := by
  refine ⟨by rw [Rat.num_intCast]; exact h, ?_⟩
  rw [Rat.den_intCast]
  show (1 : Nat) < 2 ^ n
  exact Nat.lt_of_lt_of_le (by decide : 1 < 2 ^ 1) (pow2_le h1)
theorem sz_neg {n : Nat} {p : Rat} (h : Sz n p) : Sz n (-p) := ⟨by rw [Rat.neg_num]; exact bd_neg h.num, by rw [Rat.neg_den]; exact h.den⟩
theorem bd_floor {n : Nat} {q : Rat} (h : Sz n q) : Bd n q.floor := by
  rw [Rat.floor_def]
  exact bd_div (den_pos q) h.num
end MM

namespace MM
open PySem L2 PyProof.Rows
/-! ### common -/
def con_common : Con := { I := Int × Int, B := Unit, pre := fun _ => True, args := fun i => [RI i.1, RI i.2], own := fun _ => [], post := fun _ _ => True, res := fun i _ => RI (Int.gcd i.1 i.2 : Int), own' := fun _ _ => [] }
theorem ck_common {ρ1 ρ2 : Rep} {M : Ow} {Φ : Rep → Ow → Prop} {a b : Int} (h1 : Sub ρ1 (RI a)) (h2 : Sub ρ2 (RI b)) (k : Φ (RI (Int.gcd a b : Int)) M) : CallK con_common [ρ1, ρ2] M Φ :=
  ⟨(a, b), M, trivial, .cons h1 (.cons h2 .nil), .nil, fun _ _ => k⟩
section
variable {P : Program} {w : World} {K : PySem.W.Frag} {mg : Str → Option Value} {base : Heap}
theorem ok_common {f : Addr} {fd : FuncData} (F : FdD K "common" "common" s_f_common [] f fd) (hab : mg "abs" = none) : FnOk P w K mg base CX0 1 f fd ["one", "two"] (conSp con_common) := by
  refine fn_conD con_common F sc_f_common (fun _ => rfl) fun cd A outer s H EE G i hp hr hE => ?_
  obtain ⟨a, b⟩ := i
  -- one, two = abs(one), abs(two)
  refine wss_cons (ws_par 0 1 rfl w0_f_common w1_f_common (by decide) rfl rfl rfl ?_)
  refine wa_cons (we_callB call_abs g_abs_f_common hab (by decide +kernel) (wa_cons (we_var 0 r0_f_common rfl (wa_nil ?_))))
  refine caw_of cav_abs ?_
  refine wa_cons (we_callB call_abs g_abs_f_common hab (by decide +kernel) (wa_cons (we_var 1 r1_f_common rfl (wa_nil ?_))))
  refine caw_of cav_abs ?_
  refine wa_nil ⟨_, _, rfl, ?_⟩
  -- while two > 0
  refine wss_cons (ws_while PassesOwn.never (fun n Γ M => ∃ x : Nat, Γ = [some (RI (x : Int)), some (RI (n : Int))] ∧ M = [] ∧ Nat.gcd x n = Int.gcd a b) b.natAbs ⟨a.natAbs, rfl, rfl, rfl⟩ ?_)
  rintro n Γ M ⟨x, rfl, rfl, hg⟩
  refine wt_cmp op_gt (nomark _) (we_var 1 r1_f_common rfl (we_int ?_))
  refine opw_of opv_gt_i ⟨_, Sub.rfl, fun hk => ?_, fun hk => ?_⟩
  · have hn : 0 < n := by have := of_decide_eq_true hk; omega
    refine wss_one (ws_par 0 1 rfl w0_f_common w1_f_common (by decide) rfl rfl rfl ?_)
    refine wa_cons (we_var 1 r1_f_common rfl (wa_cons (we_bin op_modN (we_var 0 r0_f_common rfl (we_var 1 r1_f_common rfl ?_)))))
    refine opw_of (opv_mod_i (by omega)) ?_
    refine wa_nil ⟨_, _, rfl, x % n, Nat.mod_lt _ hn, n, ?_, rfl, ?_⟩
    · show [some (RI (n : Int)), some (RI ((x : Int) % (n : Int)))] = _
      rw [Int.natCast_emod]
    · rw [← hg, Nat.gcd_comm x n, Nat.gcd_rec n x, Nat.gcd_comm]
  · have hn : n = 0 := by have := of_decide_eq_false hk; omega
    subst hn
    refine wss_one (ws_ret (we_var 0 r0_f_common rfl ⟨(), [], trivial, ?_, .nil⟩))
    rw [Nat.gcd_zero_right] at hg
    rw [hg]; exact Sub.rfl
end
section
variable {X : Cx} {E : En} {Γ : Gm} {M : Ow} {st : Stmt} {rest : List Stmt} {Ψ : Ed}
theorem wss_cut (J : Gm → Ow → Prop) (h : WS X E Γ M st { Ψ with nx := J }) (k : ∀ Γ' M', J Γ' M' → WSs X E Γ' M' rest Ψ) : WSs X E Γ M (st :: rest) Ψ :=
  wss_cons fun σ G H a D c => h σ G H a D ⟨fun Γ' M' hj => c.nx Γ' M' (k Γ' M' hj), c.rt, c.bk, c.ct⟩
end
theorem eqv_ii {a b : Int} : PyData.eqv (.int a) (.int b) = (a == b) := by simp [PyData.eqv]
theorem eqv_ss {a b : Str} : PyData.eqv (.str a) (.str b) = (a == b) := by simp [PyData.eqv]
theorem shaped_i {a : Int} : SeqAt.shaped (.int a) = true := rfl
local macro_rules | `(tactic| walk_at "bd") => `(tactic| first
  | assumption
  | exact Sz.num (by assumption)
  | exact Sz.den (by assumption)
  | exact (show Bd 70 _ by decide)
  | (refine' bd_mul ?h1 ?h2; (case h1 => walk_at "bd"); (case h2 => walk_at "bd"))
  | (refine' bd_add ?h1 ?h2; (case h1 => walk_at "bd"); (case h2 => walk_at "bd"))
  | (refine' bd_sub ?h1 ?h2; (case h1 => walk_at "bd"); (case h2 => walk_at "bd"))
  | (refine' bd_neg ?h1; (case h1 => walk_at "bd")))
local macro_rules | `(tactic| walk_at "mul") => `(tactic| (refine' opv_mul_i (mulOk ?h1 ?h2 ?h3); (case h1 => walk_at "bd"); (case h2 => walk_at "bd"); (case h3 => decide)))
/-! ### the class Share -/
structure ShT (K : PySem.W.Frag) (C : Addr) : Prop where
  ci : ClsI K C
  nT : NoAttr K C "top"
  nB : NoAttr K C "bottom"
  tb : PySem.W.findIn K (.ref C) "__bool__" = some none
  tl : PySem.W.findIn K (.ref C) "__len__" = some none
  kI : PySem.W.kitOne K (.type "int") (.ref C) = some false
def RSh (C : Addr) (q : Rat) : Rep := RIns C [("top", RI q.num), ("bottom", RI (q.den : Int))]
theorem lk_tb : (("bottom" : Str) == ("top" : Str)) = false := by decide +kernel
theorem hasF_top {K : PySem.W.Frag} {C : Addr} {q : Rat} (T : ShT K C) : HasF K (RSh C q) "top" (RI q.num) := hasF_ins T.ci.cl T.nT (by simp [List.lookup])
theorem hasF_bot {K : PySem.W.Frag} {C : Addr} {q : Rat} (T : ShT K C) : HasF K (RSh C q) "bottom" (RI (q.den : Int)) := hasF_ins T.ci.cl T.nB (by simp [List.lookup, lk_tb])
def con_Share_init (C : Addr) : Con := { I := Addr × Int × Int, B := Unit, pre := fun i => i.2.2 ≠ 0 ∧ Bd 8900 i.2.1 ∧ Bd 8900 i.2.2, args := fun i => [RRef i.1, RI i.2.1, RI i.2.2], own := fun i => [(i.1, OIns C [])], post := fun _ _ => True, res := fun _ _ => RN, own' := fun i _ => [(i.1, OIns C [("top", RI (rt i.2.1 i.2.2).num), ("bottom", RI ((rt i.2.1 i.2.2).den : Int))])] }
/-- Share(t, b) -/
theorem mk_Share {E : En} {C : Addr} {ρ1 ρ2 : Rep} {M : Ow} {Φ : Rep → Ow → Prop} {a b : Int} (h1 : Sub ρ1 (RI a)) (h2 : Sub ρ2 (RI b)) (hb : b ≠ 0) (s1 : Bd 8900 a) (s2 : Bd 8900 b) (k : Φ (RSh C (rt a b)) M) : MakeK E C (con_Share_init C) [ρ1, ρ2] M Φ :=
  fun p hp hpE => ⟨(p, a, b), M, ⟨hb, s1, s2⟩, .cons Sub.rfl (.cons h1 (.cons h2 .nil)), .cons .here OSub.rfl .nil, fun _ _ => ⟨Sub.rfl, _, M, .here, k⟩⟩
theorem bd_lowBy {n : Nat} {t b : Int} (h : Bd n b) (hb : b ≠ 0) : Bd n (lowBy t b) := by
  have h1 : b.natAbs < 2 ^ n := h
  have h2 : Int.gcd t b ≤ b.natAbs := Nat.le_of_dvd (by omega) (Nat.gcd_dvd_right _ _)
  show (lowBy t b).natAbs < _
  unfold lowBy
  split <;> omega
section
variable {P : Program} {w : World} {K : PySem.W.Frag} {mg : Str → Option Value} {base : Heap} {CS : Addr}
theorem ok_Share_init {f : Addr} {fd : FuncData} (F : FdD K "__init__" "Share.__init__" s_Share_init [.int 1] f fd) (T : ShT K CS) (K1 : Kn P w K mg base 1 "common" [] con_common) : FnOk P w K mg base CX0 2 f fd ["self", "top", "bottom"] (conSp (con_Share_init CS)) := by
  refine fn_conD (con_Share_init CS) F sc_Share_init (fun _ => rfl) fun cd A outer s H EE G i hp hr hE => ?_
  obtain ⟨p, t, b⟩ := i
  obtain ⟨hb, z1, z2⟩ := hp
  -- if bottom == 0: raise
  refine wss_cons (ws_if (wt_cmp (op_eqD hr.units) (nomark _) (we_var 2 r2_Share_init rfl (we_int ?_))))
  refine opw_of (opv_eq isD_i isD_i shaped_i shaped_i) ⟨_, Sub.rfl, fun hk => ?_, fun hk => wss_nil ?_⟩
  · rw [eqv_ii] at hk; exact absurd (by simpa using hk) hb
  -- by = common(top, bottom)
  refine wss_cons (ws_set 3 w3_Share_init (we_call K1 hr g_common_Share_init pass0 (wa_cons (we_var 1 r1_Share_init rfl (wa_cons (we_var 2 r2_Share_init rfl (wa_nil ?_)))))))
  refine ck_common Sub.rfl Sub.rfl ?_
  -- if bottom < 0: by = 0 - by
  refine wss_cut (fun Γ M => Γ = [some (RRef p), some (RI t), some (RI b), some (RI (lowBy t b))] ∧ M = [(p, OIns CS [])]) (ws_if (wt_cmp op_lt (nomark _) (we_var 2 r2_Share_init rfl (we_int ?_)))) ?_
  · refine opw_of opv_lt_i ⟨_, Sub.rfl, fun hk => ?_, fun hk => wss_nil ⟨?_, rfl⟩⟩
    · have hk := of_decide_eq_true hk
      refine wss_one (ws_set 3 w3_Share_init (we_bin op_sub (we_int (we_var 3 r3_Share_init rfl ?_))))
      refine opw_of opv_sub_i ⟨?_, rfl⟩
      show [_, _, _, some (RI (0 - _))] = _
      unfold lowBy; rw [if_pos hk]
    · have hk := of_decide_eq_false hk
      show [_, _, _, some (RI _)] = _
      unfold lowBy; rw [if_neg hk]
  · rintro Γ M ⟨rfl, rfl⟩
    have dv : CDivA t (lowBy t b) := divOkA (lowBy_ne hb) (bd_lowBy z2 hb) (by decide)
    have dv2 : CDivA b (lowBy t b) := divOkA (lowBy_ne hb) (bd_lowBy z2 hb) (by decide)
    refine wss_cons (ws_fld (we_bin op_fdivA (we_var 1 r1_Share_init rfl (we_var 3 r3_Share_init rfl ?_))))
    refine opw_of (opv_fdiv_i dv) (we_var 0 r0_Share_init rfl ⟨p, CS, [], _, Sub.rfl, .here, T.ci.cl, T.nT, by decide, ?_⟩)
    refine wss_one (ws_fld (we_bin op_fdivA (we_var 2 r2_Share_init rfl (we_var 3 r3_Share_init rfl ?_))))
    refine opw_of (opv_fdiv_i dv2) (we_var 0 r0_Share_init rfl ⟨p, CS, _, _, Sub.rfl, .here, T.ci.cl, T.nB, by show 1 < 1000; decide, ?_⟩)
    refine ⟨(), [], trivial, Sub.rfl, .cons .here ?_ .nil⟩
    rw [putR_new (by show List.lookup _ [(_, _)] = none; simp [List.lookup, lk_tb]), low_top hb, low_bot hb]
    exact OSub.rfl
end
/-! ### a Share, or a whole number in its stead -/
inductive AQ where
  | sh (q : Rat)
  | wh (i : Int)
def AQ.val : AQ → Rat
  | .sh q => q
  | .wh i => (i : Rat)
def AQ.rep (C : Addr) : AQ → Rep
  | .sh q => RSh C q
  | .wh i => RI i
theorem aq_sh {C : Addr} {q : Rat} : Sub (RSh C q) (AQ.rep C (.sh q)) := Sub.rfl
theorem aq_wh {C : Addr} {i : Int} : Sub (RI i) (AQ.rep C (.wh i)) := Sub.rfl
def con_share_of (C : Addr) : Con := { I := AQ, B := Unit, pre := fun a => Sz 8800 a.val, args := fun a => [a.rep C], own := fun _ => [], post := fun _ _ => True, res := fun a _ => RSh C a.val, own' := fun _ _ => [] }
theorem ck_share_of {C : Addr} {ρ : Rep} {a : AQ} {M : Ow} {Φ : Rep → Ow → Prop} (h : Sub ρ (a.rep C)) (z : Sz 8800 a.val) (k : Φ (RSh C a.val) M) : CallK (con_share_of C) [ρ] M Φ :=
  ⟨a, M, z, .cons h .nil, .nil, fun _ _ => k⟩
def con_bin (C : Addr) (f : Rat → Rat → Rat) (ok : Rat → Prop) : Con := { I := AQ × AQ, B := Unit, pre := fun i => Sz 4000 i.1.val ∧ Sz 4000 i.2.val ∧ ok i.2.val, args := fun i => [i.1.rep C, i.2.rep C], own := fun _ => [], post := fun _ _ => True, res := fun i _ => RSh C (f i.1.val i.2.val), own' := fun _ _ => [] }
theorem ck_bin {C : Addr} {f : Rat → Rat → Rat} {ok : Rat → Prop} {ρ1 ρ2 : Rep} {a b : AQ} {M : Ow} {Φ : Rep → Ow → Prop} (h1 : Sub ρ1 (a.rep C)) (h2 : Sub ρ2 (b.rep C)) (z1 : Sz 4000 a.val) (z2 : Sz 4000 b.val) (hk : ok b.val) (k : Φ (RSh C (f a.val b.val)) M) : CallK (con_bin C f ok) [ρ1, ρ2] M Φ :=
  ⟨(a, b), M, ⟨z1, z2, hk⟩, .cons h1 (.cons h2 .nil), .nil, fun _ _ => k⟩
def con_plus (C : Addr) : Con := con_bin C (· + ·) fun _ => True
def con_minus (C : Addr) : Con := con_bin C (· - ·) fun _ => True
def con_times (C : Addr) : Con := con_bin C (· * ·) fun _ => True
def con_over (C : Addr) : Con := con_bin C (· / ·) fun q => q ≠ 0
theorem ck_plus {C : Addr} {ρ1 ρ2 : Rep} {a b : AQ} {M : Ow} {Φ : Rep → Ow → Prop} (h1 : Sub ρ1 (a.rep C)) (h2 : Sub ρ2 (b.rep C)) (z1 : Sz 4000 a.val) (z2 : Sz 4000 b.val) (k : Φ (RSh C (a.val + b.val)) M) : CallK (con_plus C) [ρ1, ρ2] M Φ := ck_bin h1 h2 z1 z2 trivial k
theorem ck_minus {C : Addr} {ρ1 ρ2 : Rep} {a b : AQ} {M : Ow} {Φ : Rep → Ow → Prop} (h1 : Sub ρ1 (a.rep C)) (h2 : Sub ρ2 (b.rep C)) (z1 : Sz 4000 a.val) (z2 : Sz 4000 b.val) (k : Φ (RSh C (a.val - b.val)) M) : CallK (con_minus C) [ρ1, ρ2] M Φ := ck_bin h1 h2 z1 z2 trivial k
theorem ck_times {C : Addr} {ρ1 ρ2 : Rep} {a b : AQ} {M : Ow} {Φ : Rep → Ow → Prop} (h1 : Sub ρ1 (a.rep C)) (h2 : Sub ρ2 (b.rep C)) (z1 : Sz 4000 a.val) (z2 : Sz 4000 b.val) (k : Φ (RSh C (a.val * b.val)) M) : CallK (con_times C) [ρ1, ρ2] M Φ := ck_bin h1 h2 z1 z2 trivial k
theorem ck_over {C : Addr} {ρ1 ρ2 : Rep} {a b : AQ} {M : Ow} {Φ : Rep → Ow → Prop} (h1 : Sub ρ1 (a.rep C)) (h2 : Sub ρ2 (b.rep C)) (z1 : Sz 4000 a.val) (z2 : Sz 4000 b.val) (h0 : b.val ≠ 0) (k : Φ (RSh C (a.val / b.val)) M) : CallK (con_over C) [ρ1, ρ2] M Φ := ck_bin h1 h2 z1 z2 h0 k
def con_before (C : Addr) : Con := { I := AQ × AQ, B := Unit, pre := fun i => Sz 4000 i.1.val ∧ Sz 4000 i.2.val, args := fun i => [i.1.rep C, i.2.rep C], own := fun _ => [], post := fun _ _ => True, res := fun i _ => RB (decide (i.1.val < i.2.val)), own' := fun _ _ => [] }
theorem ck_before {C : Addr} {ρ1 ρ2 : Rep} {a b : AQ} {M : Ow} {Φ : Rep → Ow → Prop} (h1 : Sub ρ1 (a.rep C)) (h2 : Sub ρ2 (b.rep C)) (z1 : Sz 4000 a.val) (z2 : Sz 4000 b.val) (k : Φ (RB (decide (a.val < b.val))) M) : CallK (con_before C) [ρ1, ρ2] M Φ :=
  ⟨(a, b), M, ⟨z1, z2⟩, .cons h1 (.cons h2 .nil), .nil, fun _ _ => k⟩
def con_whole (C : Addr) : Con := { I := AQ, B := Unit, pre := fun a => Sz 8800 a.val, args := fun a => [a.rep C], own := fun _ => [], post := fun _ _ => True, res := fun a _ => RI a.val.floor, own' := fun _ _ => [] }
theorem ck_whole {C : Addr} {ρ : Rep} {a : AQ} {M : Ow} {Φ : Rep → Ow → Prop} (h : Sub ρ (a.rep C)) (z : Sz 8800 a.val) (k : Φ (RI a.val.floor) M) : CallK (con_whole C) [ρ] M Φ :=
  ⟨a, M, z, .cons h .nil, .nil, fun _ _ => k⟩
def con_ceiling (C : Addr) : Con := { I := AQ, B := Unit, pre := fun a => Sz 4000 a.val, args := fun a => [a.rep C], own := fun _ => [], post := fun _ _ => True, res := fun a _ => RI a.val.ceil, own' := fun _ _ => [] }
theorem ck_ceiling {C : Addr} {ρ : Rep} {a : AQ} {M : Ow} {Φ : Rep → Ow → Prop} (h : Sub ρ (a.rep C)) (z : Sz 4000 a.val) (k : Φ (RI a.val.ceil) M) : CallK (con_ceiling C) [ρ] M Φ :=
  ⟨a, M, z, .cons h .nil, .nil, fun _ _ => k⟩
/-- what the module holds of shares -/
structure ShM (P : Program) (w : World) (K : PySem.W.Frag) (mg : Str → Option Value) (base : Heap) (C : Addr) : Prop where
  T : ShT K C
  mgS : mg "Share" = some (.ref C)
  isi : mg "isinstance" = none
  mk2 : KnC P w K mg base 2 "Share" C [] (con_Share_init C)
  mk1 : KnC P w K mg base 2 "Share" C [.int 1] (con_Share_init C)
section
variable {P : Program} {w : World} {K : PySem.W.Frag} {mg : Str → Option Value} {base : Heap} {CS : Addr}
theorem ok_share_of {f : Addr} {fd : FuncData} (F : FdD K "share_of" "share_of" s_f_share_of [] f fd) (S : ShM P w K mg base CS) : FnOk P w K mg base CX0 4 f fd ["thing"] (conSp (con_share_of CS)) := by
  refine fn_conD (con_share_of CS) F sc_f_share_of (fun _ => rfl) fun cd A outer s H EE G i hp hr hE => ?_
  cases i with
  | sh q =>
    refine wss_cons (ws_if (wt_val (we_callB call_isi g_isinstance_f_share_of S.isi (by decide +kernel) (wa_cons (we_var 0 r0_f_share_of rfl (wa_cons (we_glob (v := .ref CS) (ρ := RV (.ref CS)) g_Share_f_share_of S.mgS rfl (fun _ => rfl) (wa_nil ?_))))))))
    refine caw_of (cav_isi (tyIs_ins S.T.ci) (.own CS) kit_self) ⟨_, Sub.rfl, fun hk => ?_, fun hk => by cases hk⟩
    refine wss_one (ws_ret (we_var 0 r0_f_share_of rfl ⟨(), [], trivial, Sub.rfl, .nil⟩))
  | wh i =>
    refine wss_cons (ws_if (wt_val (we_callB call_isi g_isinstance_f_share_of S.isi (by decide +kernel) (wa_cons (we_var 0 r0_f_share_of rfl (wa_cons (we_glob (v := .ref CS) (ρ := RV (.ref CS)) g_Share_f_share_of S.mgS rfl (fun _ => rfl) (wa_nil ?_))))))))
    refine caw_of (cav_isi tyIs_i (.own CS) S.T.kI) ⟨_, Sub.rfl, fun hk => (by cases hk), fun hk => wss_nil ?_⟩
    refine wss_one (ws_ret (we_make S.mk1 (hr.mono (by decide)) g_Share_f_share_of pass0 hE (wa_cons (we_var 0 r0_f_share_of rfl (wa_nil ?_)))))
    refine mk_Share Sub.rfl Sub.rfl (by decide) ?_ (show Bd 8900 1 by show (1 : Int).natAbs < _; exact Nat.lt_of_lt_of_le (by decide : 1 < 2 ^ 1) (pow2_le (by decide))) ?_
    · have := hp.num
      rw [show (AQ.wh i).val = (i : Rat) from rfl, Rat.num_intCast] at this
      exact this.mono (by decide)
    · rw [rt_int]
      exact ⟨(), [], trivial, Sub.rfl, .nil⟩
end
/-- .. and of what reckons with them -/
structure ShN (P : Program) (w : World) (K : PySem.W.Frag) (mg : Str → Option Value) (base : Heap) (C : Addr) : Prop extends ShM P w K mg base C where
  share_of : Kn P w K mg base 4 "share_of" [] (con_share_of C)
section
variable {P : Program} {w : World} {K : PySem.W.Frag} {mg : Str → Option Value} {base : Heap} {CS : Addr}
theorem ok_plus {f : Addr} {fd : FuncData} (F : FdD K "plus" "plus" s_f_plus [] f fd) (S : ShN P w K mg base CS) : FnOk P w K mg base CX0 5 f fd ["one", "two"] (conSp (con_plus CS)) := by
  refine fn_conD (con_plus CS) F sc_f_plus (fun _ => rfl) fun cd A outer s H EE G i hp hr hE => ?_
  obtain ⟨a, b⟩ := i
  obtain ⟨z1, z2, _⟩ := hp
  refine wss_cons (ws_par 0 1 rfl w0_f_plus w1_f_plus (by decide) rfl rfl rfl (wa_cons (we_call S.share_of hr g_share_of_f_plus pass0 (wa_cons (we_var 0 r0_f_plus rfl (wa_nil ?_))))))
  refine ck_share_of Sub.rfl (z1.mono (by decide)) (wa_cons (we_call S.share_of hr g_share_of_f_plus pass0 (wa_cons (we_var 1 r1_f_plus rfl (wa_nil ?_)))))
  refine ck_share_of Sub.rfl (z2.mono (by decide)) (wa_nil ⟨_, _, rfl, ?_⟩)
  refine wss_one (ws_ret (we_make S.mk2 (hr.mono (by decide)) g_Share_f_plus pass0 hE (wa_cons (we_bin op_addU (we_bin op_mulU (we_fld (we_var 0 r0_f_plus rfl ⟨_, hasF_top S.T, we_fld (we_var 1 r1_f_plus rfl ⟨_, hasF_bot S.T, ?_⟩)⟩)))))))
  refine opw_of (by walk_at "mul") (we_bin op_mulU (we_fld (we_var 1 r1_f_plus rfl ⟨_, hasF_top S.T, we_fld (we_var 0 r0_f_plus rfl ⟨_, hasF_bot S.T, ?_⟩)⟩)))
  refine opw_of (by walk_at "mul") (opw_of opv_add_i (wa_cons (we_bin op_mulU (we_fld (we_var 0 r0_f_plus rfl ⟨_, hasF_bot S.T, we_fld (we_var 1 r1_f_plus rfl ⟨_, hasF_bot S.T, ?_⟩)⟩)))))
  refine opw_of (by walk_at "mul") (wa_nil (mk_Share Sub.rfl Sub.rfl (Int.mul_ne_zero (den_ne _) (den_ne _)) ?_ ?_ ?_))
  · exact (bd_add (bd_mul z1.num z2.den) (bd_mul z2.num z1.den)).mono (by decide)
  · exact (bd_mul z1.den z2.den).mono (by decide)
  · rw [add_q]; exact ⟨(), [], trivial, Sub.rfl, .nil⟩
theorem ok_minus {f : Addr} {fd : FuncData} (F : FdD K "minus" "minus" s_f_minus [] f fd) (S : ShN P w K mg base CS) : FnOk P w K mg base CX0 5 f fd ["one", "two"] (conSp (con_minus CS)) := by
  refine fn_conD (con_minus CS) F sc_f_minus (fun _ => rfl) fun cd A outer s H EE G i hp hr hE => ?_
  obtain ⟨a, b⟩ := i
  obtain ⟨z1, z2, _⟩ := hp
  refine wss_cons (ws_par 0 1 rfl w0_f_minus w1_f_minus (by decide) rfl rfl rfl (wa_cons (we_call S.share_of hr g_share_of_f_minus pass0 (wa_cons (we_var 0 r0_f_minus rfl (wa_nil ?_))))))
  refine ck_share_of Sub.rfl (z1.mono (by decide)) (wa_cons (we_call S.share_of hr g_share_of_f_minus pass0 (wa_cons (we_var 1 r1_f_minus rfl (wa_nil ?_)))))
  refine ck_share_of Sub.rfl (z2.mono (by decide)) (wa_nil ⟨_, _, rfl, ?_⟩)
  refine wss_one (ws_ret (we_make S.mk2 (hr.mono (by decide)) g_Share_f_minus pass0 hE (wa_cons (we_bin op_sub (we_bin op_mulU (we_fld (we_var 0 r0_f_minus rfl ⟨_, hasF_top S.T, we_fld (we_var 1 r1_f_minus rfl ⟨_, hasF_bot S.T, ?_⟩)⟩)))))))
  refine opw_of (by walk_at "mul") (we_bin op_mulU (we_fld (we_var 1 r1_f_minus rfl ⟨_, hasF_top S.T, we_fld (we_var 0 r0_f_minus rfl ⟨_, hasF_bot S.T, ?_⟩)⟩)))
  refine opw_of (by walk_at "mul") (opw_of opv_sub_i (wa_cons (we_bin op_mulU (we_fld (we_var 0 r0_f_minus rfl ⟨_, hasF_bot S.T, we_fld (we_var 1 r1_f_minus rfl ⟨_, hasF_bot S.T, ?_⟩)⟩)))))
  refine opw_of (by walk_at "mul") (wa_nil (mk_Share Sub.rfl Sub.rfl (Int.mul_ne_zero (den_ne _) (den_ne _)) ?_ ?_ ?_))
  · exact (bd_sub (bd_mul z1.num z2.den) (bd_mul z2.num z1.den)).mono (by decide)
  · exact (bd_mul z1.den z2.den).mono (by decide)
  · rw [sub_q]; exact ⟨(), [], trivial, Sub.rfl, .nil⟩
theorem ok_times {f : Addr} {fd : FuncData} (F : FdD K "times" "times" s_f_times [] f fd) (S : ShN P w K mg base CS) : FnOk P w K mg base CX0 5 f fd ["one", "two"] (conSp (con_times CS)) := by
  refine fn_conD (con_times CS) F sc_f_times (fun _ => rfl) fun cd A outer s H EE G i hp hr hE => ?_
  obtain ⟨a, b⟩ := i
  obtain ⟨z1, z2, _⟩ := hp
  refine wss_cons (ws_par 0 1 rfl w0_f_times w1_f_times (by decide) rfl rfl rfl (wa_cons (we_call S.share_of hr g_share_of_f_times pass0 (wa_cons (we_var 0 r0_f_times rfl (wa_nil ?_))))))
  refine ck_share_of Sub.rfl (z1.mono (by decide)) (wa_cons (we_call S.share_of hr g_share_of_f_times pass0 (wa_cons (we_var 1 r1_f_times rfl (wa_nil ?_)))))
  refine ck_share_of Sub.rfl (z2.mono (by decide)) (wa_nil ⟨_, _, rfl, ?_⟩)
  refine wss_one (ws_ret (we_make S.mk2 (hr.mono (by decide)) g_Share_f_times pass0 hE (wa_cons (we_bin op_mulU (we_fld (we_var 0 r0_f_times rfl ⟨_, hasF_top S.T, we_fld (we_var 1 r1_f_times rfl ⟨_, hasF_top S.T, ?_⟩)⟩))))))
  refine opw_of (by walk_at "mul") (wa_cons (we_bin op_mulU (we_fld (we_var 0 r0_f_times rfl ⟨_, hasF_bot S.T, we_fld (we_var 1 r1_f_times rfl ⟨_, hasF_bot S.T, ?_⟩)⟩))))
  refine opw_of (by walk_at "mul") (wa_nil (mk_Share Sub.rfl Sub.rfl (Int.mul_ne_zero (den_ne _) (den_ne _)) ?_ ?_ ?_))
  · exact (bd_mul z1.num z2.num).mono (by decide)
  · exact (bd_mul z1.den z2.den).mono (by decide)
  · rw [mul_q]; exact ⟨(), [], trivial, Sub.rfl, .nil⟩
theorem ok_over {f : Addr} {fd : FuncData} (F : FdD K "over" "over" s_f_over [] f fd) (S : ShN P w K mg base CS) : FnOk P w K mg base CX0 5 f fd ["one", "two"] (conSp (con_over CS)) := by
  refine fn_conD (con_over CS) F sc_f_over (fun _ => rfl) fun cd A outer s H EE G i hp hr hE => ?_
  obtain ⟨a, b⟩ := i
  obtain ⟨z1, z2, h0⟩ := hp
  have h0 : b.val ≠ 0 := h0
  refine wss_cons (ws_par 0 1 rfl w0_f_over w1_f_over (by decide) rfl rfl rfl (wa_cons (we_call S.share_of hr g_share_of_f_over pass0 (wa_cons (we_var 0 r0_f_over rfl (wa_nil ?_))))))
  refine ck_share_of Sub.rfl (z1.mono (by decide)) (wa_cons (we_call S.share_of hr g_share_of_f_over pass0 (wa_cons (we_var 1 r1_f_over rfl (wa_nil ?_)))))
  refine ck_share_of Sub.rfl (z2.mono (by decide)) (wa_nil ⟨_, _, rfl, ?_⟩)
  refine wss_cons (ws_if (wt_cmp (op_eqD hr.units) (nomark _) (we_fld (we_var 1 r1_f_over rfl ⟨_, hasF_top S.T, we_int ?_⟩))))
  refine opw_of (opv_eq isD_i isD_i shaped_i shaped_i) ⟨_, Sub.rfl, fun hk => ?_, fun hk => wss_nil ?_⟩
  · rw [eqv_ii] at hk; exact absurd (by simpa using hk) (num_ne h0)
  refine wss_one (ws_ret (we_make S.mk2 (hr.mono (by decide)) g_Share_f_over pass0 hE (wa_cons (we_bin op_mulU (we_fld (we_var 0 r0_f_over rfl ⟨_, hasF_top S.T, we_fld (we_var 1 r1_f_over rfl ⟨_, hasF_bot S.T, ?_⟩)⟩))))))
  refine opw_of (by walk_at "mul") (wa_cons (we_bin op_mulU (we_fld (we_var 0 r0_f_over rfl ⟨_, hasF_bot S.T, we_fld (we_var 1 r1_f_over rfl ⟨_, hasF_top S.T, ?_⟩)⟩))))
  refine opw_of (by walk_at "mul") (wa_nil (mk_Share Sub.rfl Sub.rfl (Int.mul_ne_zero (den_ne _) (num_ne h0)) ?_ ?_ ?_))
  · exact (bd_mul z1.num z2.den).mono (by decide)
  · exact (bd_mul z1.den z2.num).mono (by decide)
  · rw [div_q]; exact ⟨(), [], trivial, Sub.rfl, .nil⟩
theorem ok_before {f : Addr} {fd : FuncData} (F : FdD K "before" "before" s_f_before [] f fd) (S : ShN P w K mg base CS) : FnOk P w K mg base CX0 5 f fd ["one", "two"] (conSp (con_before CS)) := by
  refine fn_conD (con_before CS) F sc_f_before (fun _ => rfl) fun cd A outer s H EE G i hp hr hE => ?_
  obtain ⟨a, b⟩ := i
  obtain ⟨z1, z2⟩ := hp
  refine wss_cons (ws_par 0 1 rfl w0_f_before w1_f_before (by decide) rfl rfl rfl (wa_cons (we_call S.share_of hr g_share_of_f_before pass0 (wa_cons (we_var 0 r0_f_before rfl (wa_nil ?_))))))
  refine ck_share_of Sub.rfl (z1.mono (by decide)) (wa_cons (we_call S.share_of hr g_share_of_f_before pass0 (wa_cons (we_var 1 r1_f_before rfl (wa_nil ?_)))))
  refine ck_share_of Sub.rfl (z2.mono (by decide)) (wa_nil ⟨_, _, rfl, ?_⟩)
  refine wss_one (ws_ret (we_cmp op_lt (nomark _) (we_bin op_mulU (we_fld (we_var 0 r0_f_before rfl ⟨_, hasF_top S.T, we_fld (we_var 1 r1_f_before rfl ⟨_, hasF_bot S.T, ?_⟩)⟩)))))
  refine opw_of (by walk_at "mul") (we_bin op_mulU (we_fld (we_var 1 r1_f_before rfl ⟨_, hasF_top S.T, we_fld (we_var 0 r0_f_before rfl ⟨_, hasF_bot S.T, ?_⟩)⟩)))
  refine opw_of (by walk_at "mul") (opw_of opv_lt_i ⟨(), [], trivial, ?_, .nil⟩)
  have e : decide (a.val.num * (b.val.den : Int) < b.val.num * (a.val.den : Int)) = decide (a.val < b.val) := by
    rw [decide_eq_decide]; exact (Rat.lt_iff _ _).symm
  rw [e]; exact Sub.rfl
theorem ok_whole {f : Addr} {fd : FuncData} (F : FdD K "whole" "whole" s_f_whole [] f fd) (S : ShN P w K mg base CS) : FnOk P w K mg base CX0 5 f fd ["share"] (conSp (con_whole CS)) := by
  refine fn_conD (con_whole CS) F sc_f_whole (fun _ => rfl) fun cd A outer s H EE G i hp hr hE => ?_
  refine wss_cons (ws_set 0 w0_f_whole (we_call S.share_of hr g_share_of_f_whole pass0 (wa_cons (we_var 0 r0_f_whole rfl (wa_nil ?_)))))
  refine ck_share_of Sub.rfl hp ?_
  refine wss_one (ws_ret (we_bin op_fdivA (we_fld (we_var 0 r0_f_whole rfl ⟨_, hasF_top S.T, we_fld (we_var 0 r0_f_whole rfl ⟨_, hasF_bot S.T, ?_⟩)⟩))))
  refine opw_of (opv_div_i (den_pos _) (divOk (i := 0) (den_pos _) hp.den (by decide)).2) ⟨(), [], trivial, ?_, .nil⟩
  rw [← Rat.floor_def]; exact Sub.rfl
end
/-- .. -/
structure ShF (P : Program) (w : World) (K : PySem.W.Frag) (mg : Str → Option Value) (base : Heap) (C : Addr) : Prop extends ShN P w K mg base C where
  plus : Kn P w K mg base 5 "plus" [] (con_plus C)
  minus : Kn P w K mg base 5 "minus" [] (con_minus C)
  times : Kn P w K mg base 5 "times" [] (con_times C)
  over : Kn P w K mg base 5 "over" [] (con_over C)
  before : Kn P w K mg base 5 "before" [] (con_before C)
  whole : Kn P w K mg base 5 "whole" [] (con_whole C)
section
variable {P : Program} {w : World} {K : PySem.W.Frag} {mg : Str → Option Value} {base : Heap} {CS : Addr}
theorem bd_0 {n : Nat} : Bd n 0 := by
  show (0 : Int).natAbs < _
  exact Nat.two_pow_pos n
theorem ceil_neg (q : Rat) : 0 - (0 - q).floor = q.ceil := by
  have h : (0 : Rat) - q = -q := by grind
  rw [h, Rat.ceil_eq_neg_floor_neg]; omega
theorem ok_ceiling {f : Addr} {fd : FuncData} (F : FdD K "ceiling" "ceiling" s_f_ceiling [] f fd) (S : ShF P w K mg base CS) : FnOk P w K mg base CX0 6 f fd ["share"] (conSp (con_ceiling CS)) := by
  refine fn_conD (con_ceiling CS) F sc_f_ceiling (fun _ => rfl) fun cd A outer s H EE G i hp hr hE => ?_
  refine wss_one (ws_ret (we_bin op_sub (we_int (we_call S.whole hr g_whole_f_ceiling pass0 (wa_cons (we_call S.minus hr g_minus_f_ceiling pass0 (wa_cons (we_int (wa_cons (we_var 0 r0_f_ceiling rfl (wa_nil ?_)))))))))))
  refine ck_minus aq_wh Sub.rfl (sz_int bd_0 (by decide)) hp (wa_nil (ck_whole aq_sh ?_ (opw_of opv_sub_i ⟨(), [], trivial, ?_, .nil⟩)))
  · exact (sz_sub (sz_int (n := 1) bd_0 (by decide)) hp).mono (by decide)
  · show Sub (RI (0 - (((0 : Int) : Rat) - i.val).floor)) (RI i.val.ceil)
    rw [show (((0 : Int) : Rat)) = 0 from rfl, ceil_neg]; exact Sub.rfl
end
end MM

namespace MM
open PySem L2 PyProof.Rows
/-! ### the class Calendar -/
structure CalT (K : PySem.W.Frag) (C : Addr) : Prop where
  ci : ClsI K C
  n1 : NoAttr K C "month"
  n2 : NoAttr K C "year"
  n3 : NoAttr K C "moon"
  n4 : NoAttr K C "mark"
  n5 : NoAttr K C "twelfth"
/-- a calendar's four fractions -/
structure Cal where
  month : Rat
  year : Rat
  moon : Rat
  mark : Rat
def fault (m y : Rat) : Str := if m < 1 then "month" else if y / 12 < (m.ceil : Rat) then "between" else if m * 13 < y + 1 then "thirteen" else ""
def RCal (CC CS : Addr) (c : Cal) : Rep := RIns CC [("month", RSh CS c.month), ("year", RSh CS c.year), ("moon", RSh CS c.moon), ("mark", RSh CS c.mark), ("twelfth", RSh CS (c.year / 12))]
theorem ky1 : (("year" : Str) == ("month" : Str)) = false := by decide +kernel
theorem ky2 : (("moon" : Str) == ("month" : Str)) = false := by decide +kernel
theorem ky3 : (("moon" : Str) == ("year" : Str)) = false := by decide +kernel
theorem ky4 : (("mark" : Str) == ("month" : Str)) = false := by decide +kernel
theorem ky5 : (("mark" : Str) == ("year" : Str)) = false := by decide +kernel
theorem ky6 : (("mark" : Str) == ("moon" : Str)) = false := by decide +kernel
theorem ky7 : (("twelfth" : Str) == ("month" : Str)) = false := by decide +kernel
theorem ky8 : (("twelfth" : Str) == ("year" : Str)) = false := by decide +kernel
theorem ky9 : (("twelfth" : Str) == ("moon" : Str)) = false := by decide +kernel
theorem ky10 : (("twelfth" : Str) == ("mark" : Str)) = false := by decide +kernel
section
variable {K : PySem.W.Frag} {CC CS : Addr} {c : Cal}
theorem hasF_month (T : CalT K CC) : HasF K (RCal CC CS c) "month" (RSh CS c.month) := hasF_ins T.ci.cl T.n1 (by simp [List.lookup])
theorem hasF_year (T : CalT K CC) : HasF K (RCal CC CS c) "year" (RSh CS c.year) := hasF_ins T.ci.cl T.n2 (by simp [List.lookup, ky1])
theorem hasF_moon (T : CalT K CC) : HasF K (RCal CC CS c) "moon" (RSh CS c.moon) := hasF_ins T.ci.cl T.n3 (by simp [List.lookup, ky2, ky3])
theorem hasF_mark (T : CalT K CC) : HasF K (RCal CC CS c) "mark" (RSh CS c.mark) := hasF_ins T.ci.cl T.n4 (by simp [List.lookup, ky4, ky5, ky6])
theorem hasF_twelfth (T : CalT K CC) : HasF K (RCal CC CS c) "twelfth" (RSh CS (c.year / 12)) := hasF_ins T.ci.cl T.n5 (by simp [List.lookup, ky7, ky8, ky9, ky10])
end
section
variable {X : Cx} {E : En} {Γ : Gm} {M : Ow} {Ψ : Ed}
/-- a first store of a field -/
theorem ws_fldN {o value : Expr} {f : Str} {pos pos' : Pos} (h : WE X E Γ M value fun ρv M1 => WE X E Γ M1 o fun ρo M2 => ∃ p C l u, Sub ρo (RRef p) ∧ Fnd M2 p (OIns C l) u ∧ Cls X.K C ∧ NoAttr X.K C f ∧ l.length < 1000 ∧ l.lookup f = none ∧ Ψ.nx Γ (u (OIns C (l ++ [(f, ρv)]))))
    (hs : swapsWith value (some (.Attribute o f pos')) pos.line X.env = pure false := by rfl) : WS X E Γ M (.Assign [.Attribute o f pos'] value pos) Ψ := by
  refine ws_fld (fun σ G H a Q q => h σ G H a Q fun ρ M' v G' H' hh => q ρ M' v G' H' (fun σ2 G2 H2 a2 Q2 q2 => hh σ2 G2 H2 a2 Q2 fun ρ2 M2 v2 G3 H3 ⟨p, C, l, u, h1, h2, h3, h4, h5, h6, h7⟩ => q2 ρ2 M2 v2 G3 H3 ⟨p, C, l, u, h1, h2, h3, h4, h5, by rw [putR_new h6]; exact h7⟩)) hs
end
def con_fault (C : Addr) : Con := { I := Rat × Rat, B := Unit, pre := fun i => Sz 1500 i.1 ∧ Sz 1500 i.2, args := fun i => [RSh C i.1, RSh C i.2], own := fun _ => [], post := fun _ _ => True, res := fun i _ => RS (fault i.1 i.2), own' := fun _ _ => [] }
theorem ck_fault {C : Addr} {ρ1 ρ2 : Rep} {a b : Rat} {M : Ow} {Φ : Rep → Ow → Prop} (h1 : Sub ρ1 (RSh C a)) (h2 : Sub ρ2 (RSh C b)) (z1 : Sz 1500 a) (z2 : Sz 1500 b) (k : Φ (RS (fault a b)) M) : CallK (con_fault C) [ρ1, ρ2] M Φ :=
  ⟨(a, b), M, ⟨z1, z2⟩, .cons h1 (.cons h2 .nil), .nil, fun _ _ => k⟩
structure ShG (P : Program) (w : World) (K : PySem.W.Frag) (mg : Str → Option Value) (base : Heap) (C : Addr) : Prop extends ShF P w K mg base C where
  ceiling : Kn P w K mg base 6 "ceiling" [] (con_ceiling C)
theorem bd_ceil {n : Nat} {q : Rat} (h : Sz n q) : Bd n q.ceil := by
  rw [Rat.ceil_eq_neg_floor_neg]
  exact bd_neg (bd_floor (sz_neg h))
section
variable {P : Program} {w : World} {K : PySem.W.Frag} {mg : Str → Option Value} {base : Heap} {CS CC : Addr}
theorem sz_lit {n : Nat} {i : Int} (h : i.natAbs < 2 ^ 60) (hn : 60 ≤ n) : Sz n (i : Rat) := sz_int ((show Bd 60 i from h).mono hn) (by omega)
theorem ok_fault {f : Addr} {fd : FuncData} (F : FdD K "fault" "fault" s_f_fault [] f fd) (S : ShG P w K mg base CS) : FnOk P w K mg base CX0 7 f fd ["month", "year"] (conSp (con_fault CS)) := by
  refine fn_conD (con_fault CS) F sc_f_fault (fun _ => rfl) fun cd A outer s H EE G i hp hr hE => ?_
  obtain ⟨m, y⟩ := i
  obtain ⟨z1, z2⟩ := hp
  have z1 : Sz 1500 m := z1
  have z2 : Sz 1500 y := z2
  have hr5 := hr.mono (show 5 ≤ 6 by decide)
  -- if before(month, 1)
  refine wss_cons (ws_if (wt_val (we_call S.before hr5 g_before_f_fault pass0 (wa_cons (we_var 0 r0_f_fault rfl (wa_cons (we_int (wa_nil ?_))))))))
  refine ck_before aq_sh aq_wh (z1.mono (by decide)) (sz_lit (by decide) (by decide)) ⟨_, Sub.rfl, fun hk => ?_, fun hk => wss_nil ?_⟩
  · have hk : m < 1 := of_decide_eq_true hk
    refine wss_one (ws_ret (we_str ⟨(), [], trivial, ?_, .nil⟩))
    show Sub _ (RS (fault m y))
    unfold fault; rw [if_pos hk]; exact Sub.rfl
  have h1 : ¬ m < 1 := of_decide_eq_false hk
  -- if before(over(year, 12), ceiling(month))
  refine wss_cons (ws_if (wt_val (we_call S.before hr5 g_before_f_fault pass0 (wa_cons (we_call S.over hr5 g_over_f_fault pass0 (wa_cons (we_var 1 r1_f_fault rfl (wa_cons (we_int (wa_nil ?_)))))))))) 
  refine ck_over aq_sh aq_wh (z2.mono (by decide)) (sz_lit (by decide) (by decide)) (by show ((12 : Int) : Rat) ≠ 0; decide) (wa_cons (we_call S.ceiling hr g_ceiling_f_fault pass0 (wa_cons (we_var 0 r0_f_fault rfl (wa_nil ?_)))))
  refine ck_ceiling aq_sh (z1.mono (by decide)) (wa_nil (ck_before aq_sh aq_wh ?_ (sz_int ((bd_ceil z1).mono (by decide)) (by decide)) ⟨_, Sub.rfl, fun hk => ?_, fun hk => wss_nil ?_⟩))
  · exact (sz_div z2 (sz_lit (n := 60) (i := 12) (by decide) (by decide)) (by decide)).mono (by decide)
  · have hk : y / 12 < (m.ceil : Rat) := of_decide_eq_true hk
    refine wss_one (ws_ret (we_str ⟨(), [], trivial, ?_, .nil⟩))
    show Sub _ (RS (fault m y))
    unfold fault; rw [if_neg h1, if_pos hk]; exact Sub.rfl
  have h2 : ¬ y / 12 < (m.ceil : Rat) := of_decide_eq_false hk
  -- if before(times(month, 13), plus(year, 1))
  refine wss_cons (ws_if (wt_val (we_call S.before hr5 g_before_f_fault pass0 (wa_cons (we_call S.times hr5 g_times_f_fault pass0 (wa_cons (we_var 0 r0_f_fault rfl (wa_cons (we_int (wa_nil ?_))))))))))
  refine ck_times aq_sh aq_wh (z1.mono (by decide)) (sz_lit (by decide) (by decide)) (wa_cons (we_call S.plus hr5 g_plus_f_fault pass0 (wa_cons (we_var 1 r1_f_fault rfl (wa_cons (we_int (wa_nil ?_)))))))
  refine ck_plus aq_sh aq_wh (z2.mono (by decide)) (sz_lit (by decide) (by decide)) (wa_nil (ck_before aq_sh aq_sh ?_ ?_ ⟨_, Sub.rfl, fun hk => ?_, fun hk => wss_nil ?_⟩))
  · exact (sz_mul z1 (sz_lit (n := 60) (i := 13) (by decide) (by decide))).mono (by decide)
  · exact (sz_add z2 (sz_lit (n := 60) (i := 1) (by decide) (by decide))).mono (by decide)
  · have hk : m * 13 < y + 1 := of_decide_eq_true hk
    refine wss_one (ws_ret (we_str ⟨(), [], trivial, ?_, .nil⟩))
    show Sub _ (RS (fault m y))
    unfold fault; rw [if_neg h1, if_neg h2, if_pos hk]; exact Sub.rfl
  have h3 : ¬ m * 13 < y + 1 := of_decide_eq_false hk
  refine wss_one (ws_ret (we_str ⟨(), [], trivial, ?_, .nil⟩))
  show Sub _ (RS (fault m y))
  unfold fault; rw [if_neg h1, if_neg h2, if_neg h3]; exact Sub.rfl
end
/-! ### Calendar(month, year, moon, mark) -/
def orep (C : Addr) : Option AQ → Rep
  | none => RN
  | some a => a.rep C
def oval : Option AQ → Rat
  | none => 0
  | some a => a.val
structure CalI where
  p : Addr
  m : AQ
  y : AQ
  o : Option AQ
  k : Option AQ
def CalI.cal (i : CalI) : Cal := ⟨i.m.val, i.y.val, oval i.o, oval i.k⟩
def calF (CS : Addr) (c : Cal) : List (Str × Rep) := [("month", RSh CS c.month), ("year", RSh CS c.year), ("moon", RSh CS c.moon), ("mark", RSh CS c.mark), ("twelfth", RSh CS (c.year / 12))]
def con_Cal_init (CC CS : Addr) : Con := { I := CalI, B := Unit, pre := fun i => (Sz 1000 i.m.val ∧ Sz 1000 i.y.val ∧ Sz 1000 (oval i.o) ∧ Sz 1000 (oval i.k)) ∧ fault i.m.val i.y.val = "", args := fun i => [RRef i.p, i.m.rep CS, i.y.rep CS, orep CS i.o, orep CS i.k], own := fun i => [(i.p, OIns CC [])], post := fun _ _ => True, res := fun _ _ => RN, own' := fun i _ => [(i.p, OIns CC (calF CS i.cal))] }
structure CalM (P : Program) (w : World) (K : PySem.W.Frag) (mg : Str → Option Value) (base : Heap) (CC CS : Addr) : Prop extends ShG P w K mg base CS where
  CT : CalT K CC
  fault : Kn P w K mg base 7 "fault" [] (con_fault CS)
section
variable {X : Cx} {E : En} {Γ : Gm} {M : Ow} {Φ : Rep → Ow → Prop}
/-- x or 0 -/
theorem we_or0 {CS : Addr} {a : Expr} {pos p2 : Pos} {j : Nat} {o : Option AQ} (T : ShT X.K CS) (h : ∀ Ξ : Rep → Ow → Prop, Ξ (orep CS o) M → WE X E Γ M a Ξ) (k : ∀ b : AQ, b.val = oval o → Φ (b.rep CS) M) : WE X E Γ M (.BoolOp .Or [a, .Constant (.int 0) j p2] pos) Φ := by
  refine we_orT (h _ ?_)
  cases o with
  | none => exact ⟨false, truN, fun _ => we_and1 (we_int (k (.wh 0) rfl)), fun h => (by cases h)⟩
  | some a =>
    cases a with
    | sh q => exact ⟨true, truIns T.tb T.tl, fun h => (by cases h), fun _ => k (.sh q) rfl⟩
    | wh i =>
      refine ⟨i != 0, truI, fun hk => we_and1 (we_int (k (.wh 0) ?_)), fun _ => k (.wh i) rfl⟩
      have : i = 0 := by simpa using hk
      subst this; rfl
end
section
variable {P : Program} {w : World} {K : PySem.W.Frag} {mg : Str → Option Value} {base : Heap} {CS CC : Addr}
theorem ok_Cal_init {f : Addr} {fd : FuncData} (F : FdD K "__init__" "Calendar.__init__" s_Calendar_init [.non, .non] f fd) (S : CalM P w K mg base CC CS) : FnOk P w K mg base CX0 8 f fd ["self", "month", "year", "moon", "mark"] (conSp (con_Cal_init CC CS)) := by
  refine fn_conD (con_Cal_init CC CS) F sc_Calendar_init (fun _ => rfl) fun cd A outer s H EE G i hp hr hE => ?_
  obtain ⟨p, m, y, o, k⟩ := i
  obtain ⟨⟨z1, z2, z3, z4⟩, hf⟩ := hp
  have hr4 := hr.mono (show 4 ≤ 7 by decide)
  have hr5 := hr.mono (show 5 ≤ 7 by decide)
  -- self.month = share_of(month)
  refine wss_cons (ws_fldN (we_call S.share_of hr4 g_share_of_Calendar_init pass0 (wa_cons (we_var 1 r1_Calendar_init rfl (wa_nil ?_)))))
  refine ck_share_of Sub.rfl (z1.mono (by decide)) (we_var 0 r0_Calendar_init rfl ⟨p, CC, [], _, Sub.rfl, .here, S.CT.ci.cl, S.CT.n1, by decide, rfl, ?_⟩)
  -- self.year = share_of(year)
  refine wss_cons (ws_fldN (we_call S.share_of hr4 g_share_of_Calendar_init pass0 (wa_cons (we_var 2 r2_Calendar_init rfl (wa_nil ?_)))))
  refine ck_share_of Sub.rfl (z2.mono (by decide)) (we_var 0 r0_Calendar_init rfl ⟨p, CC, _, _, Sub.rfl, .here, S.CT.ci.cl, S.CT.n2, by show 1 < 1000; decide, by simp [List.lookup, ky1], ?_⟩)
  -- self.moon = share_of(moon or 0)
  refine wss_cons (ws_fldN (we_call S.share_of hr4 g_share_of_Calendar_init pass0 (wa_cons (we_or0 (o := o) S.T (fun Ξ h => we_var 3 r3_Calendar_init rfl h) fun b hb => wa_nil ?_))))
  refine ck_share_of Sub.rfl (by rw [hb]; exact z3.mono (by decide)) (we_var 0 r0_Calendar_init rfl ⟨p, CC, _, _, Sub.rfl, .here, S.CT.ci.cl, S.CT.n3, by show 2 < 1000; decide, by simp [List.lookup, ky2, ky3], ?_⟩)
  -- self.mark = share_of(mark or 0)
  refine wss_cons (ws_fldN (we_call S.share_of hr4 g_share_of_Calendar_init pass0 (wa_cons (we_or0 (o := k) S.T (fun Ξ h => we_var 4 r4_Calendar_init rfl h) fun b2 hb2 => wa_nil ?_))))
  refine ck_share_of Sub.rfl (by rw [hb2]; exact z4.mono (by decide)) (we_var 0 r0_Calendar_init rfl ⟨p, CC, _, _, Sub.rfl, .here, S.CT.ci.cl, S.CT.n4, by show 3 < 1000; decide, by simp [List.lookup, ky4, ky5, ky6], ?_⟩)
  -- self.twelfth = over(self.year, 12)
  refine wss_cons (ws_fldN (we_call S.over hr5 g_over_Calendar_init pass0 (wa_cons (we_fldO (we_var 0 r0_Calendar_init rfl ⟨p, CC, _, _, _, Sub.rfl, .here, S.CT.ci.cl, S.CT.n2, by show List.lookup _ _ = some (RSh CS y.val); simp [List.lookup, ky1], wa_cons (we_int (wa_nil ?_))⟩)))))
  refine ck_over aq_sh aq_wh (z2.mono (by decide)) (sz_lit (by decide) (by decide)) (by show ((12 : Int) : Rat) ≠ 0; decide) (we_var 0 r0_Calendar_init rfl ⟨p, CC, _, _, Sub.rfl, .here, S.CT.ci.cl, S.CT.n5, by show 4 < 1000; decide, by simp [List.lookup, ky7, ky8, ky9, ky10], ?_⟩)
  -- why = fault(self.month, self.year)
  refine wss_cons (ws_set 5 w5_Calendar_init (we_call S.fault hr g_fault_Calendar_init pass0 (wa_cons (we_fldO (we_var 0 r0_Calendar_init rfl ⟨p, CC, _, _, _, Sub.rfl, .here, S.CT.ci.cl, S.CT.n1, by show List.lookup _ _ = some (RSh CS m.val); simp [List.lookup], wa_cons (we_fldO (we_var 0 r0_Calendar_init rfl ⟨p, CC, _, _, _, Sub.rfl, .here, S.CT.ci.cl, S.CT.n2, by show List.lookup _ _ = some (RSh CS y.val); simp [List.lookup, ky1], wa_nil ?_⟩))⟩)))))
  refine ck_fault Sub.rfl Sub.rfl (z1.mono (by decide)) (z2.mono (by decide)) ?_
  -- if why != '': raise
  refine wss_cons (ws_if (wt_cmp (op_neD hr.units) (nomark _) (we_var 5 r5_Calendar_init rfl (we_str ?_))))
  refine opw_of (opv_ne isD_s isD_s ?_ (by decide +kernel)) ⟨_, Sub.rfl, fun hk => ?_, fun hk => wss_nil (wss_nil ?_)⟩
  · rw [hf]; decide +kernel
  · rw [hf, eqv_ss] at hk; simp at hk
  · refine ⟨(), [], trivial, Sub.rfl, .cons .here ?_ .nil⟩
    show OSub (OIns CC [("month", RSh CS m.val), ("year", RSh CS y.val), ("moon", RSh CS b.val), ("mark", RSh CS b2.val), ("twelfth", RSh CS (y.val / 12))]) (OIns CC (calF CS _))
    rw [hb, hb2]
    exact OSub.rfl
end
end MM

namespace MM
open PySem L2 PyProof.Rows
theorem bd_lit {i : Int} (h : i.natAbs < 1180591620717411303424) : Bd 70 i := h
theorem cpow_lit {i j : Int} (h1 : 0 ≤ j) (h2 : j ≤ 1000000) (h3 : i.natAbs < 2 ^ 64) : CPow i j := ⟨h1, h2, h3⟩
local macro_rules | `(tactic| walk_at "bd") => `(tactic| first
  | assumption
  | exact Sz.num (by assumption)
  | exact Sz.den (by assumption)
  | exact bd_lit (by decide)
  | (refine' bd_mul ?h1 ?h2; (case h1 => walk_at "bd"); (case h2 => walk_at "bd"))
  | (refine' bd_add ?h1 ?h2; (case h1 => walk_at "bd"); (case h2 => walk_at "bd"))
  | (refine' bd_sub ?h1 ?h2; (case h1 => walk_at "bd"); (case h2 => walk_at "bd"))
  | (refine' bd_mod ?h1 ?h2; (case h1 => decide); (case h2 => walk_at "bd"))
  | (refine' bd_neg ?h1; (case h1 => walk_at "bd")))
local macro_rules | `(tactic| walk_at "mul") => `(tactic| (refine' opv_mul_i (mulOk ?h1 ?h2 ?h3); (case h1 => walk_at "bd"); (case h2 => walk_at "bd"); (case h3 => decide)))
/-! ### owned things told in part -/
def OEx {ι : Type} (c : ι → Prop) (r : ι → ORep) : ORep := ⟨fun o G => ∃ y, c y ∧ (r y).p o G, fun o G G' s ⟨y, h, k⟩ => ⟨y, h, (r y).mono _ _ _ s k⟩⟩
theorem oex_in {ι : Type} {c : ι → Prop} {r : ι → ORep} {ρ : ORep} (y : ι) (h : c y) (s : OSub ρ (r y)) : OSub ρ (OEx c r) := fun o G k => ⟨y, h, s o G k⟩
section
variable {X : Cx} {E : En} {Γ : Gm} {M : Ow} {st : List Stmt} {Ψ : Ed} {ι : Type}
theorem wss_open {p : Addr} {c : ι → Prop} {r : ι → ORep} {u : ORep → Ow} (f : Fnd M p (OEx c r) u) (k : ∀ y, c y → WSs X E Γ (u (r y)) st Ψ) : WSs X E Γ M st Ψ := fun σ G H a D d => by
  obtain ⟨o, e1, y, hy, ry⟩ := a.own _ f.mem
  have b : At E Γ (u (r y)) σ G H := by
    refine ⟨a.len, a.env, a.gh, fun q hq => ?_, fun q hq => ?_, by rw [f.map]; exact a.nd, a.g0, a.keep, a.nw, fun q hq => ?_, a.there⟩
    · rcases f.of (r y) q hq with e | ⟨h1, _⟩
      · subst e; exact ⟨o, e1, ry⟩
      · exact a.own q h1
    · rcases f.of (r y) q hq with e | ⟨h1, _⟩
      · subst e; exact a.gn (p, OEx c r) f.mem
      · exact a.gn q h1
    · rcases f.of (r y) q hq with e | ⟨h1, _⟩
      · subst e; exact a.loc (p, OEx c r) f.mem
      · exact a.loc q h1
  exact k y hy σ G H b D d
end
/-! ### the law's draws -/
/-- a list of draws, at most n of them made -/
def ODr (n : Nat) : ORep := OEx (fun y : Int × Int × Bool => 0 ≤ y.2.1 ∧ y.2.1 ≤ n) fun y => OL [RI y.1, RI y.2.1, RB y.2.2]
theorem odr_mono {n m : Nat} (h : n ≤ m) : OSub (ODr n) (ODr m) := fun o G ⟨y, ⟨h1, h2⟩, k⟩ => ⟨y, ⟨h1, by omega⟩, k⟩
def con_L_draws : Con := { I := Int, B := Addr, pre := fun _ => True, args := fun i => [RI i], own := fun _ => [], post := fun _ _ => True, res := fun _ p => RRef p, own' := fun _ p => [(p, ODr 0)] }
theorem ck_L_draws {ρ : Rep} {M : Ow} {Φ : Rep → Ow → Prop} {a : Int} (h : Sub ρ (RI a)) (k : ∀ p, Φ (RRef p) ((p, ODr 0) :: M)) : CallK con_L_draws [ρ] M Φ :=
  ⟨a, M, trivial, .cons h .nil, .nil, fun p _ => k p⟩
/-- the next draw: a whole number below 306,783,369 -/
def Dr (x : Int) : Prop := 0 ≤ x ∧ x < 306783369
theorem Dr.bd {x : Int} (h : Dr x) : Bd 29 x := by
  obtain ⟨h1, h2⟩ := h
  show x.natAbs < _
  omega
def con_L_next : Con := { I := Addr × Nat, B := Int, pre := fun i => i.2 ≤ 1000000000, args := fun i => [RRef i.1], own := fun i => [(i.1, ODr i.2)], post := fun _ x => Dr x, res := fun _ x => RI x, own' := fun i _ => [(i.1, ODr (i.2 + 1))] }
theorem ck_L_next {ρ : Rep} {M M1 : Ow} {Φ : Rep → Ow → Prop} {p : Addr} {n : Nat} (h : Sub ρ (RRef p)) (rm : Rm M p (ODr n) M1) (hn : n ≤ 1000000000) (k : ∀ x, Dr x → Φ (RI x) ((p, ODr (n + 1)) :: M1)) : CallK con_L_next [ρ] M Φ :=
  ⟨(p, n), M1, hn, .cons h .nil, .cons rm OSub.rfl .nil, fun x hx => k x hx⟩
section
variable {P : Program} {w : World} {K : PySem.W.Frag} {mg : Str → Option Value} {base : Heap}
theorem bd_ten {n : Nat} (h : n ≤ 100000) : Bd (4 * n + 1) ((10 : Int) ^ n) := by
  show ((10 : Int) ^ n).natAbs < 2 ^ (4 * n + 1)
  have e : ((10 : Int) ^ n).natAbs = 10 ^ n := by
    rw [Int.natAbs_pow]; rfl
  rw [e, Nat.pow_succ, Nat.pow_mul]
  have : 10 ^ n ≤ (2 ^ 4) ^ n := Nat.pow_le_pow_left (by decide) n
  have : 0 < 10 ^ n := Nat.pow_pos (by decide)
  omega
theorem ok_L_draws {f : Addr} {fd : FuncData} (F : FdD K "_law_draws" "_law_draws" s_f_L_draws [] f fd) (hrg : mg "range" = none) : FnOk P w K mg base CX0 1 f fd ["_law_cell"] (conSp con_L_draws) := by
  refine fn_conD con_L_draws F sc_f_L_draws (fun _ => rfl) fun cd A outer s H EE G i hp hr hE => ?_
  -- cut = 10 ** 60
  refine wss_cons (ws_set 1 w1_f_L_draws (we_bin op_pow (we_int (we_int (opw_of (opv_pow_i (cpow_lit (by decide) (by decide) (by decide))) ?_)))))
  -- for k in range(7): cut = cut * cut
  refine wss_cons (ws_for_range1 PassesOwn.never rfl g_range_f_L_draws hrg (wa_cons (we_int (wa_nil ⟨7, .cons Sub.rfl .nil, ⟨by decide, by decide⟩, fun n Γ M => ∃ o, Γ = [some (RI i), some (RI ((10 : Int) ^ (60 * 2 ^ n))), o] ∧ M = [], ⟨none, rfl, rfl⟩, ?_, ?_⟩))))
  · rintro n ρ Γ M hn rfl ⟨o, rfl, rfl⟩
    have hn : n < 7 := hn
    have hb : Bd (4 * (60 * 2 ^ n) + 1) ((10 : Int) ^ (60 * 2 ^ n)) := bd_ten (by
      have : 2 ^ n ≤ 2 ^ 7 := pow2_le (by omega)
      omega)
    refine wg_name 2 w2_f_L_draws (wss_one (ws_set 1 w1_f_L_draws (we_bin op_mulU (we_var 1 r1_f_L_draws rfl (we_var 1 r1_f_L_draws rfl (opw_of (opv_mul_i (mulOk hb hb ?_)) ?_))))))
    · have : 2 ^ n ≤ 2 ^ 7 := pow2_le (by omega)
      omega
    · refine ⟨some (RI (n : Int)), ?_, rfl⟩
      show [some (RI i), some (RI ((10 : Int) ^ (60 * 2 ^ n) * (10 : Int) ^ (60 * 2 ^ n))), _] = _
      rw [← Int.pow_add, Nat.pow_succ]
      have e : 60 * 2 ^ n + 60 * 2 ^ n = 60 * (2 ^ n * 2) := by omega
      rw [e]
  · rintro Γ M ⟨o, rfl, rfl⟩
    -- return [cell % cut, 0, cell >= 10 ** 18]
    have hc : (0 : Int) < (10 : Int) ^ (60 * 2 ^ (7 : Int).toNat) := Int.pow_pos (by decide)
    refine wss_one (ws_ret (we_lstO (wa_cons (we_bin op_modN (we_var 0 r0_f_L_draws rfl (we_var 1 r1_f_L_draws rfl (opw_of (opv_mod_i hc) ?_))))) hE))
    refine wa_cons (we_int (wa_cons (we_cmp op_ge (nomark _) (we_var 0 r0_f_L_draws rfl (we_bin op_pow (we_int (we_int (opw_of (opv_pow_i (cpow_lit (by decide) (by decide) (by decide))) (opw_of opv_ge_i (wa_nil ⟨by show 3 ≤ 100000; decide, fun p _ _ => ?_⟩))))))))))
    exact ⟨p, [], trivial, Sub.rfl, .cons .here (oex_in (_, _, _) ⟨Int.le_refl 0, Int.le_refl 0⟩ OSub.rfl) .nil⟩
theorem ok_L_next {f : Addr} {fd : FuncData} (F : FdD K "_law_next" "_law_next" s_f_L_next [] f fd) : FnOk P w K mg base CX0 1 f fd ["_law_draws_here"] (conSp con_L_next) := by
  refine fn_conD con_L_next F sc_f_L_next (fun _ => rfl) fun cd A outer s H EE G i hp hr hE => ?_
  obtain ⟨p, n⟩ := i
  have hp : n ≤ 1000000000 := hp
  refine wss_open Fnd.here ?_
  rintro ⟨a, j, b⟩ ⟨hj0, hj1⟩
  have hj0 : 0 ≤ j := hj0
  have hj1 : j ≤ n := hj1
  have bj : Bd 40 (j + 1) := by
    show (j + 1).natAbs < _
    omega
  -- d[1] = d[1] + 1
  refine wss_cons (ws_asg (we_bin op_addU (we_ix ix_seq (we_var 0 r0_f_L_next rfl (we_int (opw_ix_o Sub.rfl Sub.rfl .here (show atI [RI a, RI j, RB b] 1 = some (RI j) from rfl) (we_int ?_)))))))
  refine opw_of opv_add_i (wg_setL (we_var 0 r0_f_L_next rfl (we_int ⟨p, _, 1, 1, _, Sub.rfl, Sub.rfl, .here, rfl, ?_⟩)))
  -- k = d[1]
  refine wss_cons (ws_set 1 w1_f_L_next (we_ix ix_seq (we_var 0 r0_f_L_next rfl (we_int (opw_ix_o Sub.rfl Sub.rfl .here (show atI [RI a, RI (j + 1), RB b] 1 = some (RI (j + 1)) from rfl) ?_)))))
  -- if d[2]
  refine wss_cons (ws_if (wt_val (we_ix ix_seq (we_var 0 r0_f_L_next rfl (we_int (opw_ix_o Sub.rfl Sub.rfl .here (show atI [RI a, RI (j + 1), RB b] 2 = some (RB b) from rfl) ⟨_, Sub.rfl, fun hk => ?_, fun hk => wss_nil ?_⟩))))))
  · refine wss_cons (ws_set 2 w2_f_L_next (we_bin op_modN (we_ix ix_seq (we_var 0 r0_f_L_next rfl (we_int (opw_ix_o Sub.rfl Sub.rfl .here (show atI [RI a, RI (j + 1), RB b] 0 = some (RI a) from rfl) (we_bin op_pow (we_int (we_int (opw_of (opv_pow_i (cpow_lit (by decide) (by decide) (by decide))) (opw_of (opv_mod_i (by decide)) ?_))))))))))) 
    refine wss_cons (ws_asg (we_bin op_fdivA (we_ix ix_seq (we_var 0 r0_f_L_next rfl (we_int (opw_ix_o Sub.rfl Sub.rfl .here (show atI [RI a, RI (j + 1), RB b] 0 = some (RI a) from rfl) (we_bin op_pow (we_int (we_int (opw_of (opv_pow_i (cpow_lit (by decide) (by decide) (by decide))) (opw_of (opv_div_i (by decide) (by decide)) ?_)))))))))))
    refine wg_setL (we_var 0 r0_f_L_next rfl (we_int ⟨p, _, 0, 0, _, Sub.rfl, Sub.rfl, .here, rfl, ?_⟩))
    refine wss_one (ws_ret (we_var 2 r2_f_L_next rfl ⟨a % 10 ^ (6 : Int).toNat, [], ?_, Sub.rfl, .cons .here ?_ .nil⟩))
    · show 0 ≤ a % 1000000 ∧ a % 1000000 < 306783369
      omega
    · exact oex_in (_, j + 1, b) ⟨by show 0 ≤ j + 1; omega, by show j + 1 ≤ ((n + 1 : Nat) : Int); omega⟩ OSub.rfl
  -- the mix
  refine wss_cons (ws_set 2 w2_f_L_next (we_bin op_modN (we_bin op_mulU (we_bin op_addU (we_bin op_addU (we_bin op_modN (we_ix ix_seq (we_var 0 r0_f_L_next rfl (we_int (opw_ix_o Sub.rfl Sub.rfl .here (show atI [RI a, RI (j + 1), RB b] 0 = some (RI a) from rfl) (we_int (opw_of (opv_mod_i (by decide)) ?_))))))))))))
  refine we_bin op_mulU (we_bin op_mulU (we_var 1 r1_f_L_next rfl (we_var 1 r1_f_L_next rfl (opw_of (by walk_at "mul") (we_int (opw_of (by walk_at "mul") (opw_of opv_add_i ?_)))))))
  refine we_var 1 r1_f_L_next rfl (opw_of opv_add_i (we_int (opw_of (by walk_at "mul") (we_int (opw_of (opv_mod_i (by decide)) ?_)))))
  have q0 := Int.emod_nonneg ((a % 1000003 + (j + 1) * (j + 1) * 7919 + (j + 1)) * 48271) (show (2147483629 : Int) ≠ 0 by decide)
  have q1 := Int.emod_lt_of_pos ((a % 1000003 + (j + 1) * (j + 1) * 7919 + (j + 1)) * 48271) (show (0 : Int) < 2147483629 by decide)
  generalize (a % 1000003 + (j + 1) * (j + 1) * 7919 + (j + 1)) * 48271 % 2147483629 = z at q0 q1
  have bz : Bd 32 z := by
    show z.natAbs < _
    omega
  refine wss_cons (ws_set 2 w2_f_L_next (we_bin op_modN (we_bin op_mulU (we_var 2 r2_f_L_next rfl (we_var 2 r2_f_L_next rfl (opw_of (by walk_at "mul") (we_int (opw_of (opv_mod_i (by decide)) ?_))))))))
  have p0 := Int.emod_nonneg (z * z) (show (2147483587 : Int) ≠ 0 by decide)
  have p1 := Int.emod_lt_of_pos (z * z) (show (0 : Int) < 2147483587 by decide)
  generalize z * z % 2147483587 = y at p0 p1
  have by_ : Bd 32 y := by
    show y.natAbs < _
    omega
  refine wss_one (ws_ret (we_bin op_fdivA (we_bin op_modN (we_bin op_mulU (we_var 2 r2_f_L_next rfl (we_bin op_addU (we_var 2 r2_f_L_next rfl (we_int (opw_of opv_add_i (opw_of (by walk_at "mul") (we_int (opw_of (opv_mod_i (by decide)) (we_int (opw_of (opv_div_i (by decide) (by decide)) ?_))))))))))))))
  refine ⟨y * (y + 2) % 2147483579 / 7, [], ?_, Sub.rfl, .cons .here ?_ .nil⟩
  · show 0 ≤ _ ∧ _ < 306783369
    have t0 := Int.emod_nonneg (y * (y + 2)) (show (2147483579 : Int) ≠ 0 by decide)
    have t1 := Int.emod_lt_of_pos (y * (y + 2)) (show (0 : Int) < 2147483579 by decide)
    omega
  · exact oex_in (_, j + 1, b) ⟨by show 0 ≤ j + 1; omega, by show j + 1 ≤ ((n + 1 : Nat) : Int); omega⟩ OSub.rfl
end
end MM

namespace MM
open PySem L2 PyProof.Rows
local macro_rules | `(tactic| walk_at "bd") => `(tactic| first
  | assumption
  | exact Sz.num (by assumption)
  | exact Sz.den (by assumption)
  | exact bd_lit (by decide)
  | (refine' bd_mul ?h1 ?h2; (case h1 => walk_at "bd"); (case h2 => walk_at "bd"))
  | (refine' bd_add ?h1 ?h2; (case h1 => walk_at "bd"); (case h2 => walk_at "bd"))
  | (refine' bd_sub ?h1 ?h2; (case h1 => walk_at "bd"); (case h2 => walk_at "bd"))
  | (refine' bd_mod ?h1 ?h2; (case h1 => decide); (case h2 => walk_at "bd"))
  | (refine' bd_neg ?h1; (case h1 => walk_at "bd")))
local macro_rules | `(tactic| walk_at "mul") => `(tactic| (refine' opv_mul_i (mulOk ?h1 ?h2 ?h3); (case h1 => walk_at "bd"); (case h2 => walk_at "bd"); (case h3 => decide)))
/-! ### an item of a written list of ints -/
inductive AllI (Q : Int → Prop) : List Rep → Prop
  | nil : AllI Q []
  | cons {n : Int} {l : List Rep} : Q n → AllI Q l → AllI Q (RI n :: l)
theorem AllI.mem {Q : Int → Prop} {l : List Rep} (h : AllI Q l) : ∀ ρ ∈ l, ∃ n, ρ = RI n ∧ Q n := by
  induction h with
  | nil => intro ρ hm; cases hm
  | cons hq _ ih =>
    intro ρ hm
    rcases List.mem_cons.mp hm with e | hm
    · exact ⟨_, e, hq⟩
    · exact ih ρ hm
theorem opw_pickI {K : PySem.W.Frag} {E : En} {Γ : Gm} {M : Ow} {Φ : Rep → Ow → Prop} {ρs : List Rep} {i : Int} (Q : Int → Prop) (h0 : 0 ≤ i) (h1 : i < ρs.length) (hq : AllI Q ρs) (k : ∀ n, Q n → Φ (RI n) M) : OpW E Γ M (rIx K) (RLt ρs) (RI i) Φ := by
  obtain ⟨x, e, hm, _⟩ := atI_of (l := ρs) h0 h1
  obtain ⟨n, e2, hn⟩ := hq.mem x hm
  subst e2
  exact opw_of (opv_ix_l sub_lt e) (k n hn)
theorem opv_powL {i j v : Int} (h1 : 0 ≤ j) (h2 : j ≤ 1000000) (h3 : i.natAbs < 2 ^ 64) (e : i ^ j.toNat = v) : OpV rPow (RI i) (RI j) (RI v) := by
  subst e; exact opv_pow_i ⟨h1, h2, h3⟩
/-! ### fractions as pairs -/
def RF (q : Rat) : Rep := RTt [RI q.num, RI (q.den : Int)]
def con_L_low : Con := { I := Int × Int, B := Unit, pre := fun i => i.2 ≠ 0 ∧ Bd 8900 i.1 ∧ Bd 8900 i.2, args := fun i => [RI i.1, RI i.2], own := fun _ => [], post := fun _ _ => True, res := fun i _ => RF (rt i.1 i.2), own' := fun _ _ => [] }
theorem ck_L_low {ρ1 ρ2 : Rep} {M : Ow} {Φ : Rep → Ow → Prop} {a b : Int} (h1 : Sub ρ1 (RI a)) (h2 : Sub ρ2 (RI b)) (h : b ≠ 0) (s1 : Bd 8900 a) (s2 : Bd 8900 b) (k : Φ (RF (rt a b)) M) : CallK con_L_low [ρ1, ρ2] M Φ :=
  ⟨(a, b), M, ⟨h, s1, s2⟩, .cons h1 (.cons h2 .nil), .nil, fun _ _ => k⟩
structure F2 where
  a : Int
  b : Int
  c : Int
  d : Int
def F2.ok (i : F2) : Prop := (i.b ≠ 0 ∧ i.d ≠ 0) ∧ Bd 4000 i.a ∧ Bd 4000 i.b ∧ Bd 4000 i.c ∧ Bd 4000 i.d
def con_L_plus : Con := { I := F2, B := Unit, pre := F2.ok, args := fun i => [RTt [RI i.a, RI i.b], RTt [RI i.c, RI i.d]], own := fun _ => [], post := fun _ _ => True, res := fun i _ => RF (rt i.a i.b + rt i.c i.d), own' := fun _ _ => [] }
def con_L_by : Con := { I := F2, B := Unit, pre := F2.ok, args := fun i => [RTt [RI i.a, RI i.b], RTt [RI i.c, RI i.d]], own := fun _ => [], post := fun _ _ => True, res := fun i _ => RF (rt i.a i.b * rt i.c i.d), own' := fun _ _ => [] }
/-- a pair that writes the fraction q, its parts below 2 ^ n -/
structure Pq (n : Nat) (q : Rat) (ρ : Rep) : Prop where
  ex : ∃ a b : Int, Sub ρ (RTt [RI a, RI b]) ∧ b ≠ 0 ∧ Bd n a ∧ Bd n b ∧ rt a b = q
theorem pq_f {n : Nat} {q : Rat} (z : Sz n q) : Pq n q (RF q) := ⟨_, _, Sub.rfl, den_ne q, z.num, z.den, rt_self q⟩
theorem bd_one {n : Nat} (hn : 1 ≤ n) : Bd n 1 := by
  show (1 : Int).natAbs < _
  exact Nat.lt_of_lt_of_le (by decide : 1 < 2 ^ 1) (pow2_le hn)
theorem pq_i {n : Nat} {i : Int} (z : Bd n i) (hn : 1 ≤ n) : Pq n (i : Rat) (RTt [RI i, RI 1]) := ⟨_, _, Sub.rfl, by decide, z, bd_one hn, rt_int i⟩
theorem pq_p {n : Nat} {a b : Int} (z : Bd n a) (z2 : Bd n b) (h : b ≠ 0) : Pq n (rt a b) (RTt [RI a, RI b]) := ⟨_, _, Sub.rfl, h, z, z2, rfl⟩
theorem Pq.mono {n m : Nat} {q : Rat} {ρ : Rep} (h : Pq n q ρ) (l : n ≤ m) : Pq m q ρ := let ⟨a, b, h1, h2, h3, h4, h5⟩ := h.ex; ⟨a, b, h1, h2, h3.mono l, h4.mono l, h5⟩
theorem ck_L_plus {ρ1 ρ2 : Rep} {M : Ow} {Φ : Rep → Ow → Prop} {p q : Rat} {n m : Nat} (h1 : Pq n p ρ1) (h2 : Pq m q ρ2) (k : Φ (RF (p + q)) M) (hn : n ≤ 4000 := by decide) (hm : m ≤ 4000 := by decide) : CallK con_L_plus [ρ1, ρ2] M Φ := by
  obtain ⟨a, b, s1, b0, z1, z2, e1⟩ := (h1.mono hn).ex
  obtain ⟨c, d, s2, d0, z3, z4, e2⟩ := (h2.mono hm).ex
  subst e1 e2
  exact ⟨⟨a, b, c, d⟩, M, ⟨⟨b0, d0⟩, z1, z2, z3, z4⟩, .cons s1 (.cons s2 .nil), .nil, fun _ _ => k⟩
theorem ck_L_by {ρ1 ρ2 : Rep} {M : Ow} {Φ : Rep → Ow → Prop} {p q : Rat} {n m : Nat} (h1 : Pq n p ρ1) (h2 : Pq m q ρ2) (k : Φ (RF (p * q)) M) (hn : n ≤ 4000 := by decide) (hm : m ≤ 4000 := by decide) : CallK con_L_by [ρ1, ρ2] M Φ := by
  obtain ⟨a, b, s1, b0, z1, z2, e1⟩ := (h1.mono hn).ex
  obtain ⟨c, d, s2, d0, z3, z4, e2⟩ := (h2.mono hm).ex
  subst e1 e2
  exact ⟨⟨a, b, c, d⟩, M, ⟨⟨b0, d0⟩, z1, z2, z3, z4⟩, .cons s1 (.cons s2 .nil), .nil, fun _ _ => k⟩
section
variable {P : Program} {w : World} {K : PySem.W.Frag} {mg : Str → Option Value} {base : Heap}
theorem ok_L_low {f : Addr} {fd : FuncData} (F : FdD K "_law_low" "_law_low" s_f_L_low [] f fd) (hab : mg "abs" = none) : FnOk P w K mg base CX0 1 f fd ["_law_top", "_law_bottom"] (conSp con_L_low) := by
  refine fn_conD con_L_low F sc_f_L_low (fun _ => rfl) fun cd A outer s H EE G i hp hr hE => ?_
  obtain ⟨a, b⟩ := i
  obtain ⟨hb, z1, z2⟩ := hp
  have hb : b ≠ 0 := hb
  have z2 : Bd 8900 b := z2
  refine wss_cons (ws_par 2 3 rfl w2_f_L_low w3_f_L_low (by decide) rfl rfl rfl ?_)
  refine wa_cons (we_callB call_abs g_abs_f_L_low hab (by decide +kernel) (wa_cons (we_var 0 r0_f_L_low rfl (wa_nil ?_))))
  refine caw_of cav_abs ?_
  refine wa_cons (we_callB call_abs g_abs_f_L_low hab (by decide +kernel) (wa_cons (we_var 1 r1_f_L_low rfl (wa_nil ?_))))
  refine caw_of cav_abs ?_
  refine wa_nil ⟨_, _, rfl, ?_⟩
  refine wss_cons (ws_while PassesOwn.never (fun n Γ M => ∃ x : Nat, Γ = [some (RI a), some (RI b), some (RI (x : Int)), some (RI (n : Int))] ∧ M = [] ∧ Nat.gcd x n = Int.gcd a b) b.natAbs ⟨a.natAbs, rfl, rfl, rfl⟩ ?_)
  rintro n Γ M ⟨x, rfl, rfl, hg⟩
  refine wt_cmp op_gt (nomark _) (we_var 3 r3_f_L_low rfl (we_int ?_))
  refine opw_of opv_gt_i ⟨_, Sub.rfl, fun hk => ?_, fun hk => ?_⟩
  · have hn : 0 < n := by have := of_decide_eq_true hk; omega
    refine wss_one (ws_par 2 3 rfl w2_f_L_low w3_f_L_low (by decide) rfl rfl rfl ?_)
    refine wa_cons (we_var 3 r3_f_L_low rfl (wa_cons (we_bin op_modN (we_var 2 r2_f_L_low rfl (we_var 3 r3_f_L_low rfl ?_)))))
    refine opw_of (opv_mod_i (by omega)) ?_
    refine wa_nil ⟨_, _, rfl, x % n, Nat.mod_lt _ hn, n, ?_, rfl, ?_⟩
    · show [_, _, some (RI (n : Int)), some (RI ((x : Int) % (n : Int)))] = _
      rw [Int.natCast_emod]
    · rw [← hg, Nat.gcd_comm x n, Nat.gcd_rec n x, Nat.gcd_comm]
  · have hn : n = 0 := by have := of_decide_eq_false hk; omega
    subst hn
    rw [Nat.gcd_zero_right] at hg
    refine wss_cut (fun Γ M => ∃ o, Γ = [some (RI a), some (RI b), some (RI (lowBy a b)), o] ∧ M = []) (ws_if (wt_cmp op_lt (nomark _) (we_var 1 r1_f_L_low rfl (we_int (opw_of opv_lt_i ⟨_, Sub.rfl, fun hk => ?_, fun hk => wss_nil ⟨some (RI ((0 : Nat) : Int)), ?_, rfl⟩⟩))))) ?_
    · have hk := of_decide_eq_true hk
      refine wss_one (ws_set 2 w2_f_L_low (we_bin op_sub (we_int (we_var 2 r2_f_L_low rfl (opw_of opv_sub_i ⟨some (RI ((0 : Nat) : Int)), ?_, rfl⟩)))))
      show [_, _, some (RI (0 - (x : Int))), _] = _
      unfold lowBy; rw [if_pos hk, hg]
    · have hk := of_decide_eq_false hk
      unfold lowBy; rw [if_neg hk, hg]
    · rintro Γ M ⟨o, rfl, rfl⟩
      have dv : CDivA a (lowBy a b) := divOkA (lowBy_ne hb) (bd_lowBy z2 hb) (by decide)
      have dv2 : CDivA b (lowBy a b) := divOkA (lowBy_ne hb) (bd_lowBy z2 hb) (by decide)
      refine wss_one (ws_ret (we_tup (wa_cons (we_bin op_fdivA (we_var 0 r0_f_L_low rfl (we_var 2 r2_f_L_low rfl (opw_of (opv_fdiv_i dv) (wa_cons (we_bin op_fdivA (we_var 1 r1_f_L_low rfl (we_var 2 r2_f_L_low rfl (opw_of (opv_fdiv_i dv2) (wa_nil ⟨by show 2 ≤ 100000; decide, (), [], trivial, ?_, .nil⟩)))))))))))))
      show Sub _ (RF (rt a b))
      rw [low_top hb, low_bot hb]; exact Sub.rfl
theorem ok_L_plus {f : Addr} {fd : FuncData} (F : FdD K "_law_plus" "_law_plus" s_f_L_plus [] f fd) (L : Kn P w K mg base 1 "_law_low" [] con_L_low) : FnOk P w K mg base CX0 2 f fd (N_f_L_plus) (conSp con_L_plus) := by
  refine fn_conD con_L_plus F sc_f_L_plus (fun _ => rfl) fun cd A outer s H EE G i hp hr hE => ?_
  obtain ⟨a, b, c, d⟩ := i
  obtain ⟨⟨hb, hd⟩, z1, z2, z3, z4⟩ := hp
  have z1 : Bd 4000 a := z1
  have z2 : Bd 4000 b := z2
  have z3 : Bd 4000 c := z3
  have z4 : Bd 4000 d := z4
  refine wss_one (ws_ret (we_call L hr g__law_low_f_L_plus pass0 (wa_cons (we_bin op_addU (we_bin op_mulU (we_ix ix_seq (we_var 0 r0_f_L_plus rfl (we_int (opw_of (opv_ix_t sub_tt rfl) ?_)))))))))
  refine we_ix ix_seq (we_var 1 r1_f_L_plus rfl (we_int (opw_of (opv_ix_t sub_tt rfl) (opw_of (by walk_at "mul") (we_bin op_mulU (we_ix ix_seq (we_var 1 r1_f_L_plus rfl (we_int (opw_of (opv_ix_t sub_tt rfl) ?_)))))))))
  refine we_ix ix_seq (we_var 0 r0_f_L_plus rfl (we_int (opw_of (opv_ix_t sub_tt rfl) (opw_of (by walk_at "mul") (opw_of opv_add_i (wa_cons (we_bin op_mulU (we_ix ix_seq (we_var 0 r0_f_L_plus rfl (we_int (opw_of (opv_ix_t sub_tt rfl) ?_)))))))))))
  refine we_ix ix_seq (we_var 1 r1_f_L_plus rfl (we_int (opw_of (opv_ix_t sub_tt rfl) (opw_of (by walk_at "mul") (wa_nil (ck_L_low Sub.rfl Sub.rfl (Int.mul_ne_zero hb hd) ?_ ?_ ⟨(), [], trivial, ?_, .nil⟩))))))
  · exact (bd_add (bd_mul z1 z4) (bd_mul z3 z2)).mono (by decide)
  · exact (bd_mul z2 z4).mono (by decide)
  · show Sub (RF (rt (a * d + c * b) (b * d))) (RF (rt a b + rt c d))
    rw [rt_add _ _ hb hd]; exact Sub.rfl
theorem ok_L_by {f : Addr} {fd : FuncData} (F : FdD K "_law_by" "_law_by" s_f_L_by [] f fd) (L : Kn P w K mg base 1 "_law_low" [] con_L_low) : FnOk P w K mg base CX0 2 f fd (N_f_L_by) (conSp con_L_by) := by
  refine fn_conD con_L_by F sc_f_L_by (fun _ => rfl) fun cd A outer s H EE G i hp hr hE => ?_
  obtain ⟨a, b, c, d⟩ := i
  obtain ⟨⟨hb, hd⟩, z1, z2, z3, z4⟩ := hp
  have z1 : Bd 4000 a := z1
  have z2 : Bd 4000 b := z2
  have z3 : Bd 4000 c := z3
  have z4 : Bd 4000 d := z4
  refine wss_one (ws_ret (we_call L hr g__law_low_f_L_by pass0 (wa_cons (we_bin op_mulU (we_ix ix_seq (we_var 0 r0_f_L_by rfl (we_int (opw_of (opv_ix_t sub_tt rfl) ?_))))))))
  refine we_ix ix_seq (we_var 1 r1_f_L_by rfl (we_int (opw_of (opv_ix_t sub_tt rfl) (opw_of (by walk_at "mul") (wa_cons (we_bin op_mulU (we_ix ix_seq (we_var 0 r0_f_L_by rfl (we_int (opw_of (opv_ix_t sub_tt rfl) ?_))))))))))
  refine we_ix ix_seq (we_var 1 r1_f_L_by rfl (we_int (opw_of (opv_ix_t sub_tt rfl) (opw_of (by walk_at "mul") (wa_nil (ck_L_low Sub.rfl Sub.rfl (Int.mul_ne_zero hb hd) ?_ ?_ ⟨(), [], trivial, ?_, .nil⟩))))))
  · exact (bd_mul z1 z3).mono (by decide)
  · exact (bd_mul z2 z4).mono (by decide)
  · show Sub (RF (rt (a * c) (b * d))) (RF (rt a b * rt c d))
    rw [rt_mul]; exact Sub.rfl
end
/-! ### drawn parts -/
def con_L_part : Con := { I := Addr × Nat, B := Rat, pre := fun i => i.2 ≤ 100000000, args := fun i => [RRef i.1], own := fun i => [(i.1, ODr i.2)], post := fun _ q => 0 ≤ q ∧ q ≤ 1 ∧ Sz 20 q, res := fun _ q => RF q, own' := fun i _ => [(i.1, ODr (i.2 + 2))] }
theorem ck_L_part {ρ : Rep} {M M1 : Ow} {Φ : Rep → Ow → Prop} {p : Addr} {n : Nat} (h : Sub ρ (RRef p)) (rm : Rm M p (ODr n) M1) (hn : n ≤ 100000000) (k : ∀ q : Rat, 0 ≤ q → q ≤ 1 → Sz 20 q → Φ (RF q) ((p, ODr (n + 2)) :: M1)) : CallK con_L_part [ρ] M Φ :=
  ⟨(p, n), M1, hn, .cons h .nil, .cons rm OSub.rfl .nil, fun q hq => k q hq.1 hq.2.1 hq.2.2⟩
def con_L_moment : Con := { I := Addr × Nat, B := Rat, pre := fun i => i.2 ≤ 10000000, args := fun i => [RRef i.1], own := fun i => [(i.1, ODr i.2)], post := fun _ q => Sz 51 q, res := fun _ q => RF q, own' := fun i _ => [(i.1, ODr (i.2 + 3))] }
theorem ck_L_moment {ρ : Rep} {M M1 : Ow} {Φ : Rep → Ow → Prop} {p : Addr} {n : Nat} (h : Sub ρ (RRef p)) (rm : Rm M p (ODr n) M1) (hn : n ≤ 10000000) (k : ∀ q : Rat, Sz 51 q → Φ (RF q) ((p, ODr (n + 3)) :: M1)) : CallK con_L_moment [ρ] M Φ :=
  ⟨(p, n), M1, hn, .cons h .nil, .cons rm OSub.rfl .nil, fun q hq => k q hq⟩
theorem rt_nonneg {a b : Int} (ha : 0 ≤ a) (hb : 0 < b) : 0 ≤ rt a b := by
  rw [rt]; exact Rat.divInt_nonneg ha (by omega)
theorem rt_le_one {a b : Int} (h : a ≤ b) (hb : 0 < b) : rt a b ≤ 1 := by
  have e : (1 : Rat) - rt a b = rt (b - a) b := by
    have e1 : rt b b = 1 := by
      rw [rt, Rat.divInt_eq_div]
      have : (b : Rat) ≠ 0 := by
        intro z
        have : b = 0 := by exact_mod_cast z
        omega
      grind
    rw [← e1, rt, rt, rt, Rat.divInt_eq_div, Rat.divInt_eq_div, Rat.divInt_eq_div, Rat.intCast_sub]
    grind
  have h2 := rt_nonneg (a := b - a) (b := b) (by omega) hb
  rw [← e] at h2
  grind
section
variable {P : Program} {w : World} {K : PySem.W.Frag} {mg : Str → Option Value} {base : Heap}
theorem ok_L_moment {f : Addr} {fd : FuncData} (F : FdD K "_law_moment" "_law_moment" s_f_L_moment [] f fd) (L : Kn P w K mg base 2 "_law_plus" [] con_L_plus) (Nx : Kn P w K mg base 1 "_law_next" [] con_L_next) (Pt : Kn P w K mg base 2 "_law_part" [] con_L_part) : FnOk P w K mg base CX0 3 f fd ["_law_draws_here"] (conSp con_L_moment) := by
  refine fn_conD con_L_moment F sc_f_L_moment (fun _ => rfl) fun cd A outer s H EE G i hp hr hE => ?_
  obtain ⟨p, n⟩ := i
  have hp : n ≤ 10000000 := hp
  have hr1 := hr.mono (show 1 ≤ 2 by decide)
  refine wss_cons (ws_set 1 w1_f_L_moment (we_call Pt hr g__law_part_f_L_moment pass0 (wa_cons (we_var 0 r0_f_L_moment rfl (wa_nil (ck_L_part Sub.rfl .here (by omega) fun q q0 q1 qz => ?_))))))
  refine wss_cons (ws_set 2 w2_f_L_moment (we_call Nx hr1 g__law_next_f_L_moment pass0 (wa_cons (we_var 0 r0_f_L_moment rfl (wa_nil (ck_L_next Sub.rfl .here (by omega) fun x hx => ?_))))))
  obtain ⟨x0, x1⟩ := hx
  refine wss_cons (ws_set 3 w3_f_L_moment (we_ix ix_seq (we_lst (wa_cons (we_int (wa_cons (we_bin op_modN (we_bin op_fdivA (we_var 2 r2_f_L_moment rfl (we_int (opw_of (opv_div_i (by decide) (by decide)) (we_int (opw_of (opv_mod_i (by decide)) ?_)))))))))))))
  refine wa_cons (we_bin op_addU (we_bin op_pow (we_int (we_int (opw_of (opv_powL (v := 1000000) (by decide) (by decide) (by decide) (by decide)) (we_bin op_fdivA (we_var 2 r2_f_L_moment rfl (we_int (opw_of (opv_div_i (by decide) (by decide)) (opw_of opv_add_i ?_))))))))))
  refine wa_cons (we_bin op_sub (we_int (we_bin op_modN (we_bin op_fdivA (we_var 2 r2_f_L_moment rfl (we_int (opw_of (opv_div_i (by decide) (by decide)) (we_bin op_pow (we_int (we_int (opw_of (opv_powL (v := 100000) (by decide) (by decide) (by decide) (by decide)) (opw_of (opv_mod_i (by decide)) (opw_of opv_sub_i ?_)))))))))))))
  refine wa_nil ⟨by show 4 ≤ 100000; decide, we_bin op_modN (we_var 2 r2_f_L_moment rfl (we_int (opw_of (opv_mod_i (by decide)) ?_)))⟩
  refine opw_pickI (fun b => -1000000 ≤ b ∧ b ≤ 500000000) (by omega) (by show x % 4 < 4; omega) (.cons (by omega) (.cons (by omega) (.cons (by omega) (.cons (by omega) .nil)))) fun b hb => ?_
  obtain ⟨b1, b2⟩ := hb
  have zb : Bd 30 b := by
    show b.natAbs < 2 ^ 30
    omega
  refine wss_one (ws_ret (we_call L hr g__law_plus_f_L_moment pass0 (wa_cons (we_var 1 r1_f_L_moment rfl (wa_cons (we_tup (wa_cons (we_var 3 r3_f_L_moment rfl (wa_cons (we_int (wa_nil ⟨by show 2 ≤ 100000; decide, wa_nil ?_⟩)))))))))))
  exact ck_L_plus (pq_f qz) (pq_i zb (by decide)) ⟨q + (b : Rat), [], sz_add qz (sz_int zb (by decide)), Sub.rfl, .cons .here OSub.rfl .nil⟩
end
end MM

namespace MM
open PySem L2 PyProof.Rows
local macro_rules | `(tactic| walk_at "bd") => `(tactic| first
  | assumption
  | exact Sz.num (by assumption)
  | exact Sz.den (by assumption)
  | exact bd_lit (by decide)
  | (refine' bd_mul ?h1 ?h2; (case h1 => walk_at "bd"); (case h2 => walk_at "bd"))
  | (refine' bd_add ?h1 ?h2; (case h1 => walk_at "bd"); (case h2 => walk_at "bd"))
  | (refine' bd_sub ?h1 ?h2; (case h1 => walk_at "bd"); (case h2 => walk_at "bd"))
  | (refine' bd_mod ?h1 ?h2; (case h1 => decide); (case h2 => walk_at "bd"))
  | (refine' bd_neg ?h1; (case h1 => walk_at "bd")))
local macro_rules | `(tactic| walk_at "mul") => `(tactic| (refine' opv_mul_i (mulOk ?h1 ?h2 ?h3); (case h1 => walk_at "bd"); (case h2 => walk_at "bd"); (case h3 => decide)))
/-! ### a drawn calendar -/
structure CalOk (c : Cal) : Prop where
  m : Sz 200 c.month
  y : Sz 200 c.year
  o : Sz 200 c.moon
  k : Sz 200 c.mark
  ft : fault c.month c.year = ""
def RCf (c : Cal) : Rep := RTt [RF c.month, RF c.year, RF c.moon, RF c.mark]
theorem fault_none {m y : Rat} (h1 : 1 ≤ m) (h2 : (m.ceil : Rat) ≤ y / 12) (h3 : y + 1 ≤ m * 13) : fault m y = "" := by
  unfold fault
  rw [if_neg (by grind), if_neg (by grind), if_neg (by grind)]
theorem fault_drawn {w s r : Rat} {n : Int} (e : w = (n : Rat)) (hw : 1 ≤ w) (s0 : 0 ≤ s) (s1 : s ≤ 1) (r0 : 0 ≤ r) (r1 : r ≤ 1) : fault ((12 * w + 1 + s * (w - 1)) * rt 1 13) (12 * w + r * s * (w - 1)) = "" := by
  have x0 : 0 ≤ s * (w - 1) := Rat.mul_nonneg s0 (by grind)
  have x1 : 0 ≤ (1 - s) * (w - 1) := Rat.mul_nonneg (by grind) (by grind)
  have x2 : 0 ≤ r * (s * (w - 1)) := Rat.mul_nonneg r0 x0
  have x3 : 0 ≤ (1 - r) * (s * (w - 1)) := Rat.mul_nonneg (by grind) x0
  have e13 : rt 1 13 = 1 / 13 := by rw [rt, Rat.divInt_eq_div]; rfl
  rw [e13]
  have hm : (12 * w + 1 + s * (w - 1)) * (1 / 13) ≤ w := by grind
  have hc : (((12 * w + 1 + s * (w - 1)) * (1 / 13)).ceil : Rat) ≤ w := by
    rw [e] at hm ⊢
    have := Rat.ceil_le_iff.mpr hm
    exact_mod_cast this
  refine fault_none (by grind) ?_ (by grind)
  have : w ≤ (12 * w + r * s * (w - 1)) / 12 := by grind
  exact Rat.le_trans hc this

theorem opw_pickR {K : PySem.W.Frag} {E : En} {Γ : Gm} {M : Ow} {Φ : Rep → Ow → Prop} {ρs : List Rep} {i : Int} (h0 : 0 ≤ i) (h1 : i < ρs.length) (k : ∀ ρ ∈ ρs, Φ ρ M) : OpW E Γ M (rIx K) (RLt ρs) (RI i) Φ := by
  obtain ⟨x, e, hm, _⟩ := atI_of (l := ρs) h0 h1
  exact opw_of (opv_ix_l sub_lt e) (k x hm)
theorem rf_lit {q : Rat} {a b : Int} (h1 : q.num = a) (h2 : (q.den : Int) = b) : RF q = RTt [RI a, RI b] := by
  unfold RF; rw [h1, h2]
/-- what is drawn is small -/
structure CalS (c : Cal) : Prop where
  m : Sz 70 c.month
  y : Sz 70 c.year
  o : Sz 51 c.moon
  k : Sz 51 c.mark
def con_L_four : Con := { I := Addr × Nat, B := Cal, pre := fun i => i.2 ≤ 1000000, args := fun i => [RRef i.1], own := fun i => [(i.1, ODr i.2)], post := fun _ c => CalOk c ∧ CalS c, res := fun _ c => RCf c, own' := fun i _ => [(i.1, ODr (i.2 + 11))] }
theorem ck_L_four {ρ : Rep} {M M1 : Ow} {Φ : Rep → Ow → Prop} {p : Addr} {n : Nat} (h : Sub ρ (RRef p)) (rm : Rm M p (ODr n) M1) (hn : n ≤ 1000000) (k : ∀ c : Cal, CalOk c → CalS c → Φ (RCf c) ((p, ODr (n + 11)) :: M1)) : CallK con_L_four [ρ] M Φ :=
  ⟨(p, n), M1, hn, .cons h .nil, .cons rm OSub.rfl .nil, fun q hq => k q hq.1 hq.2⟩
structure MyOk (m y : Rat) : Prop where
  zm : Sz 70 m
  zy : Sz 70 y
  ft : fault m y = ""
section
variable {X : Cx} {E : En} {Γ : Gm} {M : Ow} {Φ : Rep → Ow → Prop}
theorem we_pairI {a b : Int} {j1 j2 : Nat} {p1 p2 pos : Pos} {x1} (k : Φ (RTt [RI a, RI b]) M) : WE X E Γ M (.Tuple [.Constant (.int a) j1 p1, .Constant (.int b) j2 p2] x1 pos) Φ :=
  we_tup (wa_cons (we_int (wa_cons (we_int (wa_nil ⟨by show 2 ≤ 100000; decide, k⟩)))))
theorem we_tup2 {a b : Expr} {pos : Pos} {x1} (k : WE X E Γ M a fun ρ1 M1 => WE X E Γ M1 b fun ρ2 M2 => Φ (RTt [ρ1, ρ2]) M2) (hs : starEach [a, b] X.env = (false, eval a X.env) :: starEach [b] X.env := by rfl) (hs2 : starEach [b] X.env = (false, eval b X.env) :: starEach [] X.env := by rfl) : WE X E Γ M (.Tuple [a, b] x1 pos) Φ := by
  refine we_tup (wa_cons (fun σ G H a Q q => k σ G H a Q fun ρ M' v G' H' hh => q ρ M' v G' H' (wa_cons (fun σ2 G2 H2 a2 Q2 q2 => hh σ2 G2 H2 a2 Q2 fun ρ2 M2 v2 G3 H3 h3 => q2 ρ2 M2 v2 G3 H3 (wa_nil ⟨?_, h3⟩)) hs2)) hs)
  show 2 ≤ 100000
  decide
theorem we_lst1 {a : Expr} {pos : Pos} (k : WE X E Γ M a fun ρ1 M1 => Φ (RLt [ρ1]) M1) (hs : starEach [a] X.env = (false, eval a X.env) :: starEach [] X.env := by rfl) : WE X E Γ M (.List [a] pos) Φ := by
  refine we_lst (wa_cons (fun σ2 G2 H2 a2 Q2 q2 => k σ2 G2 H2 a2 Q2 fun ρ2 M2 v2 G3 H3 h3 => q2 ρ2 M2 v2 G3 H3 (wa_nil ⟨?_, h3⟩)) hs)
  show 1 ≤ 100000
  decide
theorem we_lst2 {a b : Expr} {pos : Pos} (k : WE X E Γ M a fun ρ1 M1 => WE X E Γ M1 b fun ρ2 M2 => Φ (RLt [ρ1, ρ2]) M2) (hs : starEach [a, b] X.env = (false, eval a X.env) :: starEach [b] X.env := by rfl) (hs2 : starEach [b] X.env = (false, eval b X.env) :: starEach [] X.env := by rfl) : WE X E Γ M (.List [a, b] pos) Φ := by
  refine we_lst (wa_cons (fun σ G H a Q q => k σ G H a Q fun ρ M' v G' H' hh => q ρ M' v G' H' (wa_cons (fun σ2 G2 H2 a2 Q2 q2 => hh σ2 G2 H2 a2 Q2 fun ρ2 M2 v2 G3 H3 h3 => q2 ρ2 M2 v2 G3 H3 (wa_nil ⟨?_, h3⟩)) hs2)) hs)
  show 2 ≤ 100000
  decide
end
section
variable {P : Program} {w : World} {K : PySem.W.Frag} {mg : Str → Option Value} {base : Heap}
theorem ok_L_four {f : Addr} {fd : FuncData} (F : FdD K "_law_four" "_law_four" s_f_L_four [] f fd) (Pl : Kn P w K mg base 2 "_law_plus" [] con_L_plus) (By : Kn P w K mg base 2 "_law_by" [] con_L_by) (Nx : Kn P w K mg base 1 "_law_next" [] con_L_next) (Pt : Kn P w K mg base 2 "_law_part" [] con_L_part) (Mo : Kn P w K mg base 3 "_law_moment" [] con_L_moment) : FnOk P w K mg base CX0 4 f fd ["_law_draws_here"] (conSp con_L_four) := by
  refine fn_conD con_L_four F sc_f_L_four (fun _ => rfl) fun cd A outer s H EE G i hp hr hE => ?_
  obtain ⟨p, n⟩ := i
  have hp : n ≤ 1000000 := hp
  have hr1 := hr.mono (show 1 ≤ 3 by decide)
  have hr2 := hr.mono (show 2 ≤ 3 by decide)
  refine wss_cons (ws_set 1 w1_f_L_four (we_call Nx hr1 g__law_next_f_L_four pass0 (wa_cons (we_var 0 r0_f_L_four rfl (wa_nil (ck_L_next Sub.rfl .here (by omega) fun x hx => ?_))))))
  obtain ⟨x0, x1⟩ := hx
  refine wss_cut (fun Γ M => ∃ m y o1 o2 o5 o6 o7 n', Γ = [some (RRef p), o1, o2, some (RF m), some (RF y), o5, o6, o7] ∧ M = [(p, ODr n')] ∧ n' ≤ n + 5 ∧ MyOk m y) (ws_if (wt_cmp (op_eqD hr.units) (nomark _) (we_bin op_modN (we_var 1 r1_f_L_four rfl (we_int (opw_of (opv_mod_i (by decide)) (we_int (opw_of (opv_eq isD_i isD_i shaped_i shaped_i) ⟨_, Sub.rfl, fun hk => ?yes, fun hk => ?no⟩)))))))) ?rest
  case yes =>
    -- a known one
    refine wss_cons ?st
    refine ws_set 2 ?ww ?hh ?hs
    case ww => exact w2_f_L_four
    case hs => rfl
    refine (we_lst2 (we_tup2 (we_pairI (we_pairI (we_tup2 (we_pairI (we_pairI ?_)))))))
    refine wss_one (ws_asg (we_ix ix_seq (we_bin op_addU (we_var 2 r2_f_L_four rfl (we_lst2 (we_tup2 (we_pairI (we_pairI (we_tup2 (we_pairI (we_pairI (opw_of (opv_add_l (by show 4 ≤ 100000; decide)) ?_))))))))))))
    refine we_bin op_modN (we_bin op_fdivA (we_var 1 r1_f_L_four rfl (we_int (opw_of (opv_div_i (by decide) (by decide)) (we_int (opw_of (opv_mod_i (by decide)) ?_))))))
    refine opw_pickR (by omega) (by show x / 8 % 4 < 4; omega) fun ρ hρ => ?_
    have key : ∃ m y, Sub ρ (RTt [RF m, RF y]) ∧ MyOk m y := by
      have hρ : ρ ∈ [RTt [RTt [RI 27759, RI 940], RTt [RI 1461, RI 4]], RTt [RTt [RI 765433, RI 25920], RTt [RI 35975351, RI 98496]], RTt [RTt [RI 59, RI 2], RTt [RI 365, RI 1]], RTt [RTt [RI 30, RI 1], RTt [RI 366, RI 1]]] := hρ
      simp only [List.mem_cons, List.not_mem_nil, or_false] at hρ
      rcases hρ with rfl | rfl | rfl | rfl
      · refine ⟨rt 27759 940, rt 1461 4, ?_, (sz_rt (n := 70) (m := 70) (bd_lit (by decide)) (bd_lit (by decide)) (by decide)).mono (by decide), (sz_rt (n := 70) (m := 70) (bd_lit (by decide)) (bd_lit (by decide)) (by decide)).mono (by decide), by decide +kernel⟩
        rw [rf_lit (q := rt 27759 940) (a := 27759) (b := 940) (by decide +kernel) (by decide +kernel), rf_lit (q := rt 1461 4) (a := 1461) (b := 4) (by decide +kernel) (by decide +kernel)]
        exact Sub.rfl
      · refine ⟨rt 765433 25920, rt 35975351 98496, ?_, (sz_rt (n := 70) (m := 70) (bd_lit (by decide)) (bd_lit (by decide)) (by decide)).mono (by decide), (sz_rt (n := 70) (m := 70) (bd_lit (by decide)) (bd_lit (by decide)) (by decide)).mono (by decide), by decide +kernel⟩
        rw [rf_lit (q := rt 765433 25920) (a := 765433) (b := 25920) (by decide +kernel) (by decide +kernel), rf_lit (q := rt 35975351 98496) (a := 35975351) (b := 98496) (by decide +kernel) (by decide +kernel)]
        exact Sub.rfl
      · refine ⟨rt 59 2, rt 365 1, ?_, (sz_rt (n := 70) (m := 70) (bd_lit (by decide)) (bd_lit (by decide)) (by decide)).mono (by decide), (sz_rt (n := 70) (m := 70) (bd_lit (by decide)) (bd_lit (by decide)) (by decide)).mono (by decide), by decide +kernel⟩
        rw [rf_lit (q := rt 59 2) (a := 59) (b := 2) (by decide +kernel) (by decide +kernel), rf_lit (q := rt 365 1) (a := 365) (b := 1) (by decide +kernel) (by decide +kernel)]
        exact Sub.rfl
      · refine ⟨rt 30 1, rt 366 1, ?_, (sz_rt (n := 70) (m := 70) (bd_lit (by decide)) (bd_lit (by decide)) (by decide)).mono (by decide), (sz_rt (n := 70) (m := 70) (bd_lit (by decide)) (bd_lit (by decide)) (by decide)).mono (by decide), by decide +kernel⟩
        rw [rf_lit (q := rt 30 1) (a := 30) (b := 1) (by decide +kernel) (by decide +kernel), rf_lit (q := rt 366 1) (a := 366) (b := 1) (by decide +kernel) (by decide +kernel)]
        exact Sub.rfl
    obtain ⟨m, y, sb, ok⟩ := key
    refine wg_tup rfl (sb.trans sub_tt) rfl (wgs_cons (wg_name 3 w3_f_L_four (wgs_cons (wg_name 4 w4_f_L_four (wgs_nil ?_)))))
    exact ⟨m, y, _, _, none, none, none, _, rfl, rfl, by omega, ok⟩
  case no =>
    -- a drawn one
    refine wss_cons (ws_set 5 w5_f_L_four (we_ix ix_seq (we_lst (wa_cons (we_bin op_addU (we_int (we_bin op_modN (we_bin op_fdivA (we_var 1 r1_f_L_four rfl (we_int (opw_of (opv_div_i (by decide) (by decide)) (we_int (opw_of (opv_mod_i (by decide)) (opw_of opv_add_i ?_))))))))))))))
    refine wa_cons (we_bin op_addU (we_int (we_bin op_modN (we_bin op_fdivA (we_var 1 r1_f_L_four rfl (we_int (opw_of (opv_div_i (by decide) (by decide)) (we_int (opw_of (opv_mod_i (by decide)) (opw_of opv_add_i ?_))))))))))
    refine wa_cons (we_bin op_addU (we_int (we_bin op_modN (we_bin op_fdivA (we_var 1 r1_f_L_four rfl (we_int (opw_of (opv_div_i (by decide) (by decide)) (we_int (opw_of (opv_mod_i (by decide)) (opw_of opv_add_i ?_))))))))))
    refine wa_cons (we_int (wa_cons (we_int (wa_nil ⟨by show 5 ≤ 100000; decide, we_bin op_modN (we_bin op_fdivA (we_var 1 r1_f_L_four rfl (we_int (opw_of (opv_div_i (by decide) (by decide)) (we_int (opw_of (opv_mod_i (by decide)) ?_))))))⟩))))
    refine opw_pickI (fun b => 1 ≤ b ∧ b ≤ 32) (by omega) (by show x / 400 % 5 < 5; omega) (.cons (by omega) (.cons (by omega) (.cons (by omega) (.cons (by omega) (.cons (by omega) .nil))))) fun v hv => ?_
    obtain ⟨v1, v2⟩ := hv
    refine wss_cons (ws_set 6 w6_f_L_four (we_call Pt hr2 g__law_part_f_L_four pass0 (wa_cons (we_var 0 r0_f_L_four rfl (wa_nil (ck_L_part Sub.rfl .here (by omega) fun s s0 s1 sz => ?_))))))
    refine wss_cons (ws_set 7 w7_f_L_four (we_call Pt hr2 g__law_part_f_L_four pass0 (wa_cons (we_var 0 r0_f_L_four rfl (wa_nil (ck_L_part Sub.rfl .here (by omega) fun r r0 r1 rz => ?_))))))
    have bv : Bd 6 v := by
      show v.natAbs < 2 ^ 6
      omega
    have b1 : Bd 10 (12 * v + 1) := by
      show (12 * v + 1).natAbs < 2 ^ 10
      omega
    have b2 : Bd 10 (12 * v) := by
      show (12 * v).natAbs < 2 ^ 10
      omega
    have b3 : Bd 10 (v - 1) := by
      show (v - 1).natAbs < 2 ^ 10
      omega
    refine wss_cons (ws_set 3 w3_f_L_four (we_call By hr2 g__law_by_f_L_four pass0 (wa_cons (we_call Pl hr2 g__law_plus_f_L_four pass0 (wa_cons (we_tup (wa_cons (we_bin op_addU (we_bin op_mulU (we_int (we_var 5 r5_f_L_four rfl (opw_of (by walk_at "mul") (we_int (opw_of opv_add_i (wa_cons (we_int (wa_nil ⟨by show 2 ≤ 100000; decide, ?_⟩)))))))))))))))) )
    refine wa_cons (we_call By hr2 g__law_by_f_L_four pass0 (wa_cons (we_var 6 r6_f_L_four rfl (wa_cons (we_tup (wa_cons (we_bin op_sub (we_var 5 r5_f_L_four rfl (we_int (opw_of opv_sub_i (wa_cons (we_int (wa_nil ⟨by show 2 ≤ 100000; decide, wa_nil (ck_L_by (pq_f sz) (pq_i b3 (by decide)) (wa_nil ?_))⟩)))))))))))))
    refine ck_L_plus (pq_i b1 (by decide)) (pq_f (sz_mul sz (sz_int b3 (by decide)))) (wa_cons (we_tup (wa_cons (we_int (wa_cons (we_int (wa_nil ⟨by show 2 ≤ 100000; decide, wa_nil ?_⟩)))))))
    refine ck_L_by (pq_f (sz_add (sz_int b1 (by decide)) (sz_mul sz (sz_int b3 (by decide))))) (pq_p (n := 70) (bd_lit (by decide)) (bd_lit (by decide)) (by decide)) ?_
    refine wss_one (ws_set 4 w4_f_L_four (we_call Pl hr2 g__law_plus_f_L_four pass0 (wa_cons (we_tup (wa_cons (we_bin op_mulU (we_int (we_var 5 r5_f_L_four rfl (opw_of (by walk_at "mul") (wa_cons (we_int (wa_nil ⟨by show 2 ≤ 100000; decide, ?_⟩))))))))))))
    refine wa_cons (we_call By hr2 g__law_by_f_L_four pass0 (wa_cons (we_call By hr2 g__law_by_f_L_four pass0 (wa_cons (we_var 7 r7_f_L_four rfl (wa_cons (we_var 6 r6_f_L_four rfl (wa_nil (ck_L_by (pq_f rz) (pq_f sz) ?_)))))))))
    refine wa_cons (we_tup (wa_cons (we_bin op_sub (we_var 5 r5_f_L_four rfl (we_int (opw_of opv_sub_i (wa_cons (we_int (wa_nil ⟨by show 2 ≤ 100000; decide, wa_nil ?_⟩)))))))))
    refine ck_L_by (pq_f (sz_mul rz sz)) (pq_i b3 (by decide)) (wa_nil (ck_L_plus (pq_i b2 (by decide)) (pq_f (sz_mul (sz_mul rz sz) (sz_int b3 (by decide)))) ?_))
    refine ⟨_, _, _, none, _, _, _, _, rfl, rfl, by omega, ⟨?_, ?_, ?_⟩⟩
    · exact (sz_mul (sz_add (sz_int b1 (by decide)) (sz_mul sz (sz_int b3 (by decide)))) ((sz_rt (n := 4) (m := 4) (a := 1) (b := 13) (show (1 : Int).natAbs < 2 ^ 4 by decide) (show (13 : Int).natAbs < 2 ^ 4 by decide) (by decide)))).mono (by decide)
    · exact (sz_add (sz_int b2 (by decide)) (sz_mul (sz_mul rz sz) (sz_int b3 (by decide)))).mono (by decide)
    · have e1 : ((12 * v + 1 : Int) : Rat) = 12 * (v : Rat) + 1 := by push_cast; rfl
      have e2 : ((12 * v : Int) : Rat) = 12 * (v : Rat) := by push_cast; rfl
      have e3 : ((v - 1 : Int) : Rat) = (v : Rat) - 1 := by push_cast; rfl
      rw [e1, e2, e3]
      exact fault_drawn rfl (by exact_mod_cast v1) s0 s1 r0 r1
  case rest =>
    rintro Γ M ⟨m, y, o1, o2, o5, o6, o7, n', rfl, rfl, hn, ok⟩
    refine wss_one (ws_ret (we_tup (wa_cons (we_var 3 r3_f_L_four rfl (wa_cons (we_var 4 r4_f_L_four rfl (wa_cons (we_call Mo hr g__law_moment_f_L_four pass0 (wa_cons (we_var 0 r0_f_L_four rfl (wa_nil (ck_L_moment Sub.rfl .here (by omega) fun u uz => ?_))))))))))) )
    refine wa_cons (we_call Mo hr g__law_moment_f_L_four pass0 (wa_cons (we_var 0 r0_f_L_four rfl (wa_nil (ck_L_moment Sub.rfl .here (by omega) fun v vz => ?_)))))
    exact wa_nil ⟨by show 4 ≤ 100000; decide, ⟨m, y, u, v⟩, [], ⟨⟨ok.zm.mono (by decide), ok.zy.mono (by decide), uz.mono (by decide), vz.mono (by decide), ok.ft⟩, ⟨ok.zm, ok.zy, uz, vz⟩⟩, Sub.rfl, .cons .here (odr_mono (by omega)) .nil⟩
end
end MM

namespace MM
open PySem L2 PyProof.Rows
/-! ### slices of lists -/
def tWO (X : Cx) : Option Expr → TO
  | none => tNoPart
  | some e => tPart (tW X e)
theorem po_w {X : Cx} : ∀ {o : Option Expr}, PO X o (tWO X o)
  | none => po_none
  | some _ => po_some pe_w
def WO (X : Cx) (E : En) (Γ : Gm) (M : Ow) (o : Option Expr) (Φ : Option Int → Ow → Prop) : Prop :=
  ∀ σ G H, At E Γ M σ G H → ∀ Q : Option Int → Hp → Prop, (∀ k M' G' H', Φ k M' → Same G G' → At E Γ M' σ G' H' → Q k H') → tWO X o σ H Q
def cutL {α : Type} (l : List α) (lo hi : Option Int) : List α := (l.drop (HT.sIx l.length 0 lo)).take (HT.sIx l.length l.length hi - HT.sIx l.length 0 lo)
theorem cutL_map {α β : Type} {f : α → β} {l : List α} {lo hi : Option Int} : cutL (l.map f) lo hi = (cutL l lo hi).map f := by
  unfold cutL
  rw [List.length_map, List.map_take, List.map_drop]
theorem cutL_len {α : Type} {l : List α} {lo hi : Option Int} : (cutL l lo hi).length ≤ l.length := by
  unfold cutL
  rw [List.length_take, List.length_drop]
  omega
theorem reps_drop {G : Hp} : ∀ {ρs : List Rep} {vs : List V} (n : Nat), Reps ρs vs G → Reps (ρs.drop n) (vs.drop n) G
  | _, _, 0, h => h
  | [], [], _ + 1, h => h
  | _ :: _, _ :: _, n + 1, h => reps_drop n h.2
  | [], _ :: _, _ + 1, h => h.elim
  | _ :: _, [], _ + 1, h => h.elim
theorem reps_take {G : Hp} : ∀ {ρs : List Rep} {vs : List V} (n : Nat), Reps ρs vs G → Reps (ρs.take n) (vs.take n) G
  | _, _, 0, h => trivial
  | [], [], _ + 1, h => h
  | _ :: _, _ :: _, n + 1, h => ⟨h.1, reps_take n h.2⟩
  | [], _ :: _, _ + 1, h => h.elim
  | _ :: _, [], _ + 1, h => h.elim
theorem reps_cut {G : Hp} {ρs : List Rep} {vs : List V} (r : Reps ρs vs G) (lo hi : Option Int) : Reps (cutL ρs lo hi) (cutV vs lo hi) G := by
  unfold cutL cutV
  rw [r.length]
  exact reps_take _ (reps_drop _ r)
section
variable {X : Cx} {E : En} {Γ : Gm} {M : Ow} {a e : Expr} {pos p2 : Pos} {Φ : Rep → Ow → Prop} {lo hi : Option Expr}
theorem wo_none {Φ : Option Int → Ow → Prop} (k : Φ none M) : WO X E Γ M none Φ := fun σ G H a Q q => q none M G H k (Same.refl _) a
theorem wo_some {Φ : Option Int → Ow → Prop} (h : WE X E Γ M e fun ρ M' => ∃ i, Sub ρ (RI i) ∧ Φ (some i) M') : WO X E Γ M (some e) Φ := fun σ G H a Q q =>
  h σ G H a _ fun ρ M' v G' H' ⟨i, sb, hk⟩ s' a' r' => ⟨i, sb _ _ r', q (some i) M' G' H' hk s' a'⟩
theorem we_slL (h : WE X E Γ M a fun ρ M1 => ∃ ρs, Sub ρ (RL X.K ρs) ∧ WO X E Γ M1 lo fun l M2 => WO X E Γ M2 hi fun u M3 => Φ (RLt (cutL ρs l u)) M3) : WE X E Γ M (.Subscript a (.Slice lo hi none p2) pos) Φ :=
  we_of (pe_slice sl_list pe_w po_w po_w) fun σ G H at' Q q => h σ G H at' _ fun ρ M1 x G1 H1 ⟨ρs, sb, h1⟩ s1 a1 r1 => h1 σ G1 H1 a1 _ fun l M2 G2 H2 h2 s2 a2 => h2 σ G2 H2 a2 _ fun u M3 G3 H3 hk s3 a3 => by
    obtain ⟨b, vs, e, hq, rr⟩ := sb _ _ (ρ.mono _ _ _ (s2.trans s3) r1)
    refine ⟨b, vs, e, Same.seq a3.gh hq, fun p hp => ?_⟩
    have n : New G3 H3 (upd G3 p (.lst (cutV vs l u))) (upd H3 p (.lst (cutV vs l u))) := New.put a3.gh hp
    exact q _ M3 _ _ _ hk ((s1.trans (s2.trans s3)).trans n.gg) (a3.new n) ⟨p, _, rfl, upd_same, (reps_cut rr l u).mono n.gg⟩
end
/-! ### a law's own promise -/
def con_law (K : PySem.W.Frag) : Con := { I := List Int, B := Unit, pre := fun ns => ns.length ≤ 63, args := fun ns => [RL K (ns.map RI)], own := fun _ => [], post := fun _ _ => True, res := fun _ _ => RB true, own' := fun _ _ => [] }
theorem reps_ints {G : Hp} : ∀ ns : List Int, Reps (ns.map RI) (ns.map V.int) G
  | [] => trivial
  | _ :: ns => ⟨rfl, reps_ints ns⟩
theorem law_start {K : PySem.W.Frag} {H : Hp} {a : Addr} {ns : List Int} {Q : VK} {EE : XK} (h : SqL K H a (ns.map V.int)) (hl : ns.length ≤ 63) (q : ∀ H', Q (.bl true) H') : conSp (con_law K) [.ref a] H Q EE := by
  refine ⟨H, ns, Same.refl _, hl, ⟨⟨a, _, rfl, h, reps_ints ns⟩, trivial⟩, fun _ hq => (List.not_mem_nil hq).elim, fun _ hq => (List.not_mem_nil hq).elim, List.nodup_nil, fun _ v G' H' _ _ r => ?_⟩
  have r : v = .bl true := r
  subst r
  exact q H'
/-- the turns of a law: over script[:k] + [0] -/
theorem cells_of {ns : List Int} {lo hi : Option Int} {i : Nat} {ρ : Rep} (h : (cutL (ns.map RI) lo hi ++ [RI 0])[i]? = some ρ) : ∃ n, ρ = RI n := by
  have e : cutL (ns.map RI) lo hi ++ [RI 0] = (cutL ns lo hi ++ [0]).map RI := by rw [cutL_map, List.map_append]; rfl
  rw [e, List.getElem?_map] at h
  obtain ⟨n, _, h2⟩ := Option.map_eq_some_iff.mp h
  exact ⟨n, h2.symm⟩
end MM

namespace MM
open PySem L2 PyProof.Rows
/-! ### what the top has written -/
def DefE (K : PySem.W.Frag) (x : Str) (st : Stmt) (dvs : List V) : Prop := ∃ f fd, PySem.W.nsIn K mainGlobals x = some (some (.ref f)) ∧ FdD K x x st dvs f fd
theorem defE_mk {K : PySem.W.Frag} {x : Str} {st : Stmt} {f : Addr} {oc : Value} {od an : Option Addr} {osl : Array (Option Value)} {kV doc pm cdv ct : Value} (a : PySem.W.nsIn K mainGlobals x = some (some (.ref f))) (l : K.lookup f = some ⟨oc, od, .func (PySem.W.fnOf x x (defArgs st) (defBody st) (defScope st) .none kV doc pm an cdv ct), osl⟩)
    (c : PySem.W.codeIn K cdv x = true) (k : PySem.W.keepIn K (.ref f) = true) : DefE K x st [] := ⟨f, _, a, fdD_mk l c k⟩
theorem defE_mkT {K : PySem.W.Frag} {x : Str} {st : Stmt} {dvs : List V} {f T : Addr} {oc tc : Value} {od td an : Option Addr} {osl tsl : Array (Option Value)} {kV doc pm cdv ct : Value} {its : Array Value} {n : Nat} (a : PySem.W.nsIn K mainGlobals x = some (some (.ref f))) (l : K.lookup f = some ⟨oc, od, .func (PySem.W.fnOf x x (defArgs st) (defBody st) (defScope st) (.ref T) kV doc pm an cdv ct), osl⟩)
    (c : PySem.W.codeIn K cdv x = true) (k : PySem.W.keepIn K (.ref f) = true) (lT : K.lookup T = some ⟨tc, td, .seq its n, tsl⟩) (hd : dvs ≠ []) (hv : Vals dvs its.toList) : DefE K x st dvs := ⟨f, _, a, fdD_mkT l c k lT hd hv⟩
/-- a method, or __init__, of the class at C -/
def MetE (K : PySem.W.Frag) (C : Addr) (x qual : Str) (st : Stmt) (dvs : List V) : Prop := ∃ f fd, PySem.W.findIn K (.ref C) x = some (some (.ref f)) ∧ PySem.W.isFn K (.ref f) = true ∧ FdD K x qual st dvs f fd
theorem metE_mk {K : PySem.W.Frag} {C : Addr} {x qual : Str} {st : Stmt} {f : Addr} {oc : Value} {od an : Option Addr} {osl : Array (Option Value)} {kV doc pm cdv ct : Value} (a : PySem.W.findIn K (.ref C) x = some (some (.ref f))) (i : PySem.W.isFn K (.ref f) = true) (l : K.lookup f = some ⟨oc, od, .func (PySem.W.fnOf x qual (defArgs st) (defBody st) (defScope st) .none kV doc pm an cdv ct), osl⟩)
    (c : PySem.W.codeIn K cdv qual = true) (k : PySem.W.keepIn K (.ref f) = true) : MetE K C x qual st [] := ⟨f, _, a, i, fdD_mk l c k⟩
theorem metE_mkT {K : PySem.W.Frag} {C : Addr} {x qual : Str} {st : Stmt} {dvs : List V} {f T : Addr} {oc tc : Value} {od td an : Option Addr} {osl tsl : Array (Option Value)} {kV doc pm cdv ct : Value} {its : Array Value} {n : Nat} (a : PySem.W.findIn K (.ref C) x = some (some (.ref f))) (i : PySem.W.isFn K (.ref f) = true) (l : K.lookup f = some ⟨oc, od, .func (PySem.W.fnOf x qual (defArgs st) (defBody st) (defScope st) (.ref T) kV doc pm an cdv ct), osl⟩)
    (c : PySem.W.codeIn K cdv qual = true) (k : PySem.W.keepIn K (.ref f) = true) (lT : K.lookup T = some ⟨tc, td, .seq its n, tsl⟩) (hd : dvs ≠ []) (hv : Vals dvs its.toList) : MetE K C x qual st dvs := ⟨f, _, a, i, fdD_mkT l c k lT hd hv⟩
/-- an own class -/
structure ClsE (K : PySem.W.Frag) (x : Str) (C : Addr) : Prop where
  at_ : PySem.W.nsIn K mainGlobals x = some (some (.ref C))
  pg : PySem.W.plainGet K C Str.empty = true
  hd : PySem.W.hasDictIn K C = true
  po : PySem.W.plainOver K C = true
  sa : PySem.W.findIn K (.ref C) "__setattr__" = some (some (.builtin "object.__setattr__"))
  ha : PySem.W.findIn K (.ref C) "__class__" = some (some (.builtin "object.__class__"))
  hn : PySem.W.specialIn K (.builtin "object.__class__") "__get__" = some (some (.builtin "getset_descriptor.__get__"))
  htk : PySem.W.takesIn K (.builtin "object.__class__") = some true
  hm : PySem.W.mroIn K C (.type "object") = some true
  makes : PySem.W.makesIn K C = true
  kp : PySem.W.keepIn K (.ref C) = true
theorem ClsE.ci {K : PySem.W.Frag} {x : Str} {C : Addr} (c : ClsE K x C) : ClsI K C := ⟨⟨c.pg, c.hd, c.po, c.sa⟩, c.ha, c.hn, c.htk, c.hm⟩
theorem kitInt {K : PySem.W.Frag} {C : Addr} {T : String} (h1 : PySem.W.isClsIn K C = true) (h2 : PySem.W.typeIn K (.ref C) = some (.type "type")) (h3 : PySem.W.subIn K (.type T) (.ref C) = some false) : PySem.W.kitOne K (.type T) (.ref C) = some false := by
  unfold PySem.W.kitOne
  rw [if_neg (by simp)]
  unfold PySem.W.kitCls
  have h1 : (PySem.W.clsIn K C).isSome = true := h1
  simp [h1, h2, h3]
section
variable {P : Program} {w : World} {K : PySem.W.Frag} {mg : Str → Option Value} {base h : Heap} {k : Nat} {x : Str} {st : Stmt} {f : Addr} {fd : FuncData} {ps : List Str} {c : Con}
theorem kn_of (X : K.In h) (G : h.Ns mainGlobals mg) (a : PySem.W.nsIn K mainGlobals x = some (some (.ref f))) (F : FdD K x x st [] f fd) (ok : FnOk P w K mg base CX0 k f fd ps (conSp c))
    (hb : ∀ (kV doc pm : Value) (an : Option Addr) (cdv ct : Value) (us : List Value), us.length = ps.length → bindArgs (PySem.W.fnOf x x (defArgs st) (defBody st) (defScope st) .none kV doc pm an cdv ct) ⟨us, []⟩ = pure (ps.zip us)) : Kn P w K mg base k x [] c :=
  ⟨f, fd, ps, [], PySem.W.mg_of X G a, F.kp, F.bindsN hb, .nil, ok⟩
/-- n arguments, the defaults behind the first j fill up -/
theorem knD_of {dvs : List V} (n j : Nat) (X : K.In h) (G : h.Ns mainGlobals mg) (a : PySem.W.nsIn K mainGlobals x = some (some (.ref f))) (F : FdD K x x st dvs f fd) (ok : FnOk P w K mg base CX0 k f fd ps (conSp c)) (hd : dvs ≠ []) (hn : n + (dvs.length - j) = ps.length)
    (hb : ∀ (T : Addr) (kV doc pm : Value) (an : Option Addr) (cdv ct : Value) (us its : List Value), us.length = n → its.length = dvs.length → ∃ k, bindArgs (PySem.W.fnOf x x (defArgs st) (defBody st) (defScope st) (.ref T) kV doc pm an cdv ct) ⟨us, []⟩ = seqItems? (.ref T) >>= k ∧ k (some its.toArray) = pure (ps.zip (us ++ its.drop j))) : Kn P w K mg base k x (dvs.drop j) c := by
  obtain ⟨ds, h1, h2⟩ := F.binds1 n j hd hn hb
  exact ⟨f, fd, ps, ds, PySem.W.mg_of X G a, F.kp, h2, h1, ok⟩
theorem knC_of {C : Addr} {qual : Str} {dvs : List V} (n j : Nat) (X : K.In h) (G : h.Ns mainGlobals mg) (e : ClsE K x C) (a : PySem.W.findIn K (.ref C) "__init__" = some (some (.ref f))) (i : PySem.W.isFn K (.ref f) = true) (F : FdD K "__init__" qual st dvs f fd) (ok : FnOk P w K mg base CX0 k f fd ps (conSp c)) (hd : dvs ≠ []) (hn : n + (dvs.length - j) = ps.length)
    (hb : ∀ (T : Addr) (kV doc pm : Value) (an : Option Addr) (cdv ct : Value) (us its : List Value), us.length = n → its.length = dvs.length → ∃ k, bindArgs (PySem.W.fnOf "__init__" qual (defArgs st) (defBody st) (defScope st) (.ref T) kV doc pm an cdv ct) ⟨us, []⟩ = seqItems? (.ref T) >>= k ∧ k (some its.toArray) = pure (ps.zip (us ++ its.drop j))) : KnC P w K mg base k x C (dvs.drop j) c := by
  obtain ⟨ds, h1, h2⟩ := F.binds1 n j hd hn hb
  exact ⟨f, fd, ps, ds, PySem.W.mg_of X G e.at_, ⟨e.makes, a, i, e.kp⟩, h2, h1, ok⟩
theorem knCK_of {C : Addr} {qual : Str} {dvs : List V} (n : Nat) (ks : List Str) (g : {α : Type} → List α → List α → List α → List α) (X : K.In h) (G : h.Ns mainGlobals mg) (e : ClsE K x C) (a : PySem.W.findIn K (.ref C) "__init__" = some (some (.ref f))) (i : PySem.W.isFn K (.ref f) = true) (F : FdD K "__init__" qual st dvs f fd) (ok : FnOk P w K mg base CX0 k f fd ps (conSp c)) (hd : dvs ≠ [])
    (hrel : ∀ {vs ds zs : List V} {us its ws : List Value}, Vals vs us → Vals ds its → Vals zs ws → Vals (g vs ds zs) (g us its ws))
    (hb : ∀ (T : Addr) (kV doc pm : Value) (an : Option Addr) (cdv ct : Value) (us its ws : List Value), us.length = n + 1 → its.length = dvs.length → ws.length = ks.length →
      ∃ k, bindArgs (PySem.W.fnOf "__init__" qual (defArgs st) (defBody st) (defScope st) (.ref T) kV doc pm an cdv ct) ⟨us, ks.zip ws⟩ = seqItems? (.ref T) >>= k ∧ k (some its.toArray) = pure (ps.zip (g us its ws))) : KnCK P w K mg base k x C n ks (fun vs zs => g vs dvs zs) c := by
  obtain ⟨its, h1⟩ := F.kbindsD (n + 1) ks g hd hrel hb
  exact ⟨f, fd, ps, _, PySem.W.mg_of X G e.at_, ⟨e.makes, a, i, e.kp⟩, h1, ok⟩
theorem knK_of {dvs : List V} (n : Nat) (ks : List Str) (g : {α : Type} → List α → List α → List α → List α) (X : K.In h) (G : h.Ns mainGlobals mg) (a : PySem.W.nsIn K mainGlobals x = some (some (.ref f))) (F : FdD K x x st dvs f fd) (ok : FnOk P w K mg base CX0 k f fd ps (conSp c)) (hd : dvs ≠ [])
    (hrel : ∀ {vs ds zs : List V} {us its ws : List Value}, Vals vs us → Vals ds its → Vals zs ws → Vals (g vs ds zs) (g us its ws))
    (hb : ∀ (T : Addr) (kV doc pm : Value) (an : Option Addr) (cdv ct : Value) (us its ws : List Value), us.length = n → its.length = dvs.length → ws.length = ks.length →
      ∃ k, bindArgs (PySem.W.fnOf x x (defArgs st) (defBody st) (defScope st) (.ref T) kV doc pm an cdv ct) ⟨us, ks.zip ws⟩ = seqItems? (.ref T) >>= k ∧ k (some its.toArray) = pure (ps.zip (g us its ws))) : KnK P w K mg base k x n ks (fun vs zs => g vs dvs zs) c := by
  obtain ⟨its, h1⟩ := F.kbindsD n ks g hd hrel hb
  exact ⟨f, fd, ps, _, PySem.W.mg_of X G a, F.kp, h1, ok⟩
end
/-- the law's end -/
theorem walk_law {l : PySem.W.OpenLaw} {k : Nat} {q : Program} {loose : List Str} {XP : (Str → Option Value) → Heap → Prop} {YP : World → Heap → Prop} {d : DefRec} {K : Params → PySem.W.Frag} (hn : l.most = some 63) (hdf : d.params.defaults = []) (hr : Room k callerA)
    (hY : ∀ (w : World) (h : Heap), YP w h → (K w.params).In h)
    (F : ∀ (w : World) (mg : Str → Option Value) (fa : Addr) (h : Heap), (K w.params).In h → h.Ns mainGlobals mg → mg d.name = some (.ref fa) →
      ∃ fd : FuncData, (∀ (s : Shared) (u : Value), BindsTo s fd ⟨[u], []⟩ [("_law_script", u)]) ∧ ∀ base : Heap, (K w.params).In base → base.Ns mainGlobals mg → FnOk l.prog w (K w.params) mg base CX0 k fa fd ["_law_script"] (conSp (con_law (K w.params)))) :
    PySem.W.WalkO q loose XP YP l.row.toRowW d [] (fun f vs => PySem.call f vs) := by
  refine L2.walk_of (n := 63) (k := k) (x := "_law_script") (CX := fun _ => CX0) (sp := fun w => conSp (con_law (K w.params))) hn (by decide) hdf hr hY F (fun _ _ a ns hl _ hS => ?_) fun _ _ _ _ _ z => z
  exact law_start hS hl fun _ => rfl
end MM

namespace MM
open PySem L2 PyProof.Rows
structure TopS (K : PySem.W.Frag) (CS : Addr) : Prop where
  cls : ClsE K "Share" CS
  nT : PySem.W.findIn K (.ref CS) "top" = some none
  nB : PySem.W.findIn K (.ref CS) "bottom" = some none
  tb : PySem.W.findIn K (.ref CS) "__bool__" = some none
  tl : PySem.W.findIn K (.ref CS) "__len__" = some none
  k1 : PySem.W.isClsIn K CS = true
  k2 : PySem.W.typeIn K (.ref CS) = some (.type "type")
  k3 : PySem.W.subIn K (.type "int") (.ref CS) = some false
  zA : PySem.W.nsIn K mainGlobals "abs" = some none
  zI : PySem.W.nsIn K mainGlobals "isinstance" = some none
  init : MetE K CS "__init__" "Share.__init__" s_Share_init [.int 1]
  common : DefE K "common" s_f_common []
  share_of : DefE K "share_of" s_f_share_of []
  plus : DefE K "plus" s_f_plus []
  minus : DefE K "minus" s_f_minus []
  times : DefE K "times" s_f_times []
  over : DefE K "over" s_f_over []
  before : DefE K "before" s_f_before []
  whole : DefE K "whole" s_f_whole []
  ceiling : DefE K "ceiling" s_f_ceiling []
section
variable {P : Program} {w : World} {K : PySem.W.Frag} {mg : Str → Option Value} {base h : Heap} {CS CC : Addr}
theorem shG_of (X : K.In h) (G : h.Ns mainGlobals mg) (T : TopS K CS) : ShG P w K mg base CS := by
  have hab := PySem.W.mg_none_of X G T.zA
  have TT : ShT K CS := ⟨T.cls.ci, T.nT, T.nB, T.tb, T.tl, kitInt T.k1 T.k2 T.k3⟩
  obtain ⟨f0, d0, a0, F0⟩ := T.common
  have K0 : Kn P w K mg base 1 "common" [] con_common := kn_of X G a0 F0 (ok_common F0 hab) fun _ _ _ _ _ _ us hl => match us, hl with | [_, _], _ => rfl
  obtain ⟨f1, d1, a1, i1, F1⟩ := T.init
  have M2 : KnC P w K mg base 2 "Share" CS [] (con_Share_init CS) := knC_of (ps := ["self", "top", "bottom"]) 3 1 X G T.cls a1 i1 F1 (ok_Share_init F1 TT K0) (by simp) rfl fun _ _ _ _ _ _ _ us its l1 l2 => match us, its, l1, l2 with | [_, _, _], [_], _, _ => ⟨_, rfl, rfl⟩
  have M1 : KnC P w K mg base 2 "Share" CS [.int 1] (con_Share_init CS) := knC_of (ps := ["self", "top", "bottom"]) 2 0 X G T.cls a1 i1 F1 (ok_Share_init F1 TT K0) (by simp) rfl fun _ _ _ _ _ _ _ us its l1 l2 => match us, its, l1, l2 with | [_, _], [_], _, _ => ⟨_, rfl, rfl⟩
  have SM : ShM P w K mg base CS := ⟨TT, PySem.W.mg_of X G T.cls.at_, PySem.W.mg_none_of X G T.zI, M2, M1⟩
  obtain ⟨f2, d2, a2, F2⟩ := T.share_of
  have SN : ShN P w K mg base CS := ⟨SM, kn_of X G a2 F2 (ok_share_of F2 SM) fun _ _ _ _ _ _ us hl => match us, hl with | [_], _ => rfl⟩
  obtain ⟨f3, d3, a3, F3⟩ := T.plus
  obtain ⟨f4, d4, a4, F4⟩ := T.minus
  obtain ⟨f5, d5, a5, F5⟩ := T.times
  obtain ⟨f6, d6, a6, F6⟩ := T.over
  obtain ⟨f7, d7, a7, F7⟩ := T.before
  obtain ⟨f8, d8, a8, F8⟩ := T.whole
  obtain ⟨f9, d9, a9, F9⟩ := T.ceiling
  have SF : ShF P w K mg base CS := by
    refine ⟨SN, ?_, ?_, ?_, ?_, ?_, ?_⟩
    · exact kn_of X G a3 F3 (ok_plus F3 SN) fun _ _ _ _ _ _ us hl => match us, hl with | [_, _], _ => rfl
    · exact kn_of X G a4 F4 (ok_minus F4 SN) fun _ _ _ _ _ _ us hl => match us, hl with | [_, _], _ => rfl
    · exact kn_of X G a5 F5 (ok_times F5 SN) fun _ _ _ _ _ _ us hl => match us, hl with | [_, _], _ => rfl
    · exact kn_of X G a6 F6 (ok_over F6 SN) fun _ _ _ _ _ _ us hl => match us, hl with | [_, _], _ => rfl
    · exact kn_of X G a7 F7 (ok_before F7 SN) fun _ _ _ _ _ _ us hl => match us, hl with | [_, _], _ => rfl
    · exact kn_of X G a8 F8 (ok_whole F8 SN) fun _ _ _ _ _ _ us hl => match us, hl with | [_], _ => rfl
  exact ⟨SF, kn_of X G a9 F9 (ok_ceiling F9 SF) fun _ _ _ _ _ _ us hl => match us, hl with | [_], _ => rfl⟩
end
end MM

namespace MM
open PySem L2 PyProof.Rows
/-! ### methods called with keywords -/
def tMethN (C : Addr) (m : Str) (n k : Nat) (sp : Sp) (gV : List V → List V → List V) (E : XK) (ta : TE) (t tk : TA) : TE := fun σ H Q => ta σ H fun x H1 => ∃ a dx fs, x = .ref a ∧ H1 a = some (.ins C dx fs) ∧ fs.lookup m = none ∧ t σ H1 fun vs H2 => tk σ H2 fun zs H3 => vs.length = n ∧ zs.length = k ∧ sp (gV (x :: vs) zs) H3 Q E
def tMethN0 (C : Addr) (m : Str) (k : Nat) (sp : Sp) (gV : List V → List V → List V) (E : XK) (ta : TE) (tk : TA) : TE := fun σ H Q => ta σ H fun x H1 => ∃ a dx fs, x = .ref a ∧ H1 a = some (.ins C dx fs) ∧ fs.lookup m = none ∧ tk σ H1 fun zs H3 => zs.length = k ∧ sp (gV [x] zs) H3 Q E
section
variable {X : Cx} {CX : CXT} {k n : Nat} {f C : Addr} {fd : FuncData} {ps : List Str} {sp : Sp} {EE : XK} {m : Str} {p pos apos : Pos} {e o : Expr} {es : List Expr} {kws : List Keyword} {ks : List Str} {ta : TE} {t tk : TA} {g : List Value → List Value → List Value} {gV : List V → List V → List V}
theorem pe_methN {pl : Sem Bool} (he : PE X o ta) (c : Cls X.K C) (hm : L2.Meth X.K C m f) (F : FnOk X.prog X.w X.K X.mg X.base CX k f fd ps sp) (hr : Room k X.A) (hb : KBn X.K fd ps (n + 1) ks g gV) (hx : Passes CX X EE) (ha : PA X (e :: es) t) (hkw : PK X kws tk)
    (hall : (backToKw pos (keywordEach kws X.env)).all (·.1.isSome) = true := by rfl) (hks : (backToKw pos (keywordEach kws X.env)).filterMap (·.1) = ks := by rfl)
    (hst : starEach (e :: es) X.env = (false, eval e X.env) :: starEach es X.env := by rfl) (hpl : ((backTo pos (starEach (e :: es) X.env)).any (·.1) || (backToKw pos (keywordEach kws X.env)).any (·.1.isNone)) = false := by rfl)
    (ht : eval (.Call (.Attribute o m apos) (e :: es) kws pos) X.env = (do
      let ov ← eval o X.env
      standAt apos.atName
      let (f, first) ← holding [ov] (getMethod ov m pl)
      callWith pos f first (backTo pos (starEach (e :: es) X.env)) (backToKw pos (keywordEach kws X.env))) := by rfl) :
    PE X (.Call (.Attribute o m apos) (e :: es) kws pos) (tMethN C m n ks.length sp gV EE ta t tk) := by
  refine ⟨fun pins s σ H Q I h => ?_⟩
  refine PySem.W.methodCall_KW (pl := pl) (thn (he.run pins s σ H _ I h) fun u s1 ⟨x, H1, I1, rx, a, dx, fs, ex, ea, l, q⟩ => ?_) ht
  subst ex
  obtain rfl : u = Value.ref a := rx
  refine getmeth_ok I1 ea c hm l ?_
  refine PySem.W.callWith_KW (first := [.ref a]) (h₀ := X.base) I.ok.mod.kin hm.kp hall (thn (ha.run pos pins s1 σ H1 _ I1 q) fun us s2 ⟨vs, H2, I2, r, q2⟩ => ?_) hpl hst
  refine thn (hkw.run pos pins s2 σ H2 _ I2 q2) fun ws s3 ⟨zs, H3, I3, rz, l1, l2, q3⟩ => ⟨I3.kIn, ?_⟩
  rw [hks]
  exact run_fnN (us := .ref a :: us) (vs := .ref a :: vs) F hr hb hx I3 (.cons rfl r) rz (by simp [l1]) l2 q3
theorem pe_methN0 {pl : Sem Bool} (he : PE X o ta) (c : Cls X.K C) (hm : L2.Meth X.K C m f) (F : FnOk X.prog X.w X.K X.mg X.base CX k f fd ps sp) (hr : Room k X.A) (hb : KBn X.K fd ps 1 ks g gV) (hx : Passes CX X EE) (hkw : PK X kws tk)
    (hall : (backToKw pos (keywordEach kws X.env)).all (·.1.isSome) = true := by rfl) (hks : (backToKw pos (keywordEach kws X.env)).filterMap (·.1) = ks := by rfl)
    (hpl : ((backTo pos (starEach [] X.env)).any (·.1) || (backToKw pos (keywordEach kws X.env)).any (·.1.isNone)) = false := by rfl)
    (ht : eval (.Call (.Attribute o m apos) [] kws pos) X.env = (do
      let ov ← eval o X.env
      standAt apos.atName
      let (f, first) ← holding [ov] (getMethod ov m pl)
      callWith pos f first (backTo pos (starEach [] X.env)) (backToKw pos (keywordEach kws X.env))) := by rfl) :
    PE X (.Call (.Attribute o m apos) [] kws pos) (tMethN0 C m ks.length sp gV EE ta tk) := by
  refine ⟨fun pins s σ H Q I h => ?_⟩
  refine PySem.W.methodCall_KW (pl := pl) (thn (he.run pins s σ H _ I h) fun u s1 ⟨x, H1, I1, rx, a, dx, fs, ex, ea, l, q⟩ => ?_) ht
  subst ex
  obtain rfl : u = Value.ref a := rx
  refine getmeth_ok I1 ea c hm l ?_
  refine PySem.W.callWith_KW0 (first := [.ref a]) (h₀ := X.base) I.ok.mod.kin hm.kp hall ?_ hpl
  refine thn (hkw.run pos pins s1 σ H1 _ I1 q) fun ws s3 ⟨zs, H3, I3, rz, l2, q3⟩ => ⟨I3.kIn, ?_⟩
  rw [hks]
  exact run_fnN (us := [.ref a]) (vs := [.ref a]) F hr hb hx I3 (.cons rfl .nil) rz rfl l2 q3
end
section
variable {X : Cx} {E : En} {Γ : Gm} {M : Ow} {a b e o : Expr} {es : List Expr} {kws : List Keyword} {ks : List Str} {pos p apos : Pos} {Φ : Rep → Ow → Prop} {k n : Nat} {m : Str} {C : Addr} {c : Con} {gV : List V → List V → List V} {gR : List Rep → List Rep → List Rep}
theorem we_methN {pl : Sem Bool} (F : KnMK X.prog X.w X.K X.mg X.base k C m n ks gV c) (gr : GvR gV gR (n + 1) ks.length) (hr : Room k X.A) (hx : Passes CX0 X E0)
    (h : WE X E Γ M o fun ρ M1 => HasI ρ C m ∧ WA X E Γ M1 (e :: es) fun ρs M2 => ρs.length = n ∧ WK X E Γ M2 kws fun ρz M3 => ρz.length = ks.length ∧ CallK c (gR (ρ :: ρs) ρz) M3 Φ)
    (hall : (backToKw pos (keywordEach kws X.env)).all (·.1.isSome) = true := by rfl) (hks : (backToKw pos (keywordEach kws X.env)).filterMap (·.1) = ks := by rfl)
    (hst : starEach (e :: es) X.env = (false, eval e X.env) :: starEach es X.env := by rfl) (hpl : ((backTo pos (starEach (e :: es) X.env)).any (·.1) || (backToKw pos (keywordEach kws X.env)).any (·.1.isNone)) = false := by rfl)
    (ht : eval (.Call (.Attribute o m apos) (e :: es) kws pos) X.env = (do
      let ov ← eval o X.env
      standAt apos.atName
      let (f, first) ← holding [ov] (getMethod ov m pl)
      callWith pos f first (backTo pos (starEach (e :: es) X.env)) (backToKw pos (keywordEach kws X.env))) := by rfl) :
    WE X E Γ M (.Call (.Attribute o m apos) (e :: es) kws pos) Φ := by
  obtain ⟨f, fd, ps, g, hm, hc, hb, F⟩ := F
  refine we_of (pe_methN pe_w hc hm F hr hb hx pa_w pk_w hall hks hst hpl ht) fun σ G H a Q q => ?_
  exact h σ G H a _ fun ρ M1 v G1 H1 ⟨hi, h1⟩ s1 a1 r1 => by
    obtain ⟨b, dx, fs, e1, e2, e3⟩ := hi v G1 r1
    refine ⟨b, dx, fs, e1, a1.gh _ _ e2, e3, h1 σ G1 H1 a1 _ fun ρs M' vs G2 H2 ⟨l1, h2⟩ s2 a2 r2 => ?_⟩
    refine h2 σ G2 H2 a2 _ fun ρz M3 zs G3 H3 ⟨l2, hh⟩ s3 a3 r3 => ⟨by rw [← r2.length]; exact l1, by rw [← r3.length]; exact l2, ?_⟩
    exact callK_run hh a3 (gr.run (by simp [l1]) l2 ⟨ρ.mono _ _ _ (s2.trans s3) r1, r2.mono s3⟩ r3) fun ρ' M4 w G4 H4 h4 s4 => q ρ' M4 w G4 H4 h4 (((s1.trans s2).trans s3).trans s4)
theorem we_methN0 {pl : Sem Bool} (F : KnMK X.prog X.w X.K X.mg X.base k C m 0 ks gV c) (gr : GvR gV gR 1 ks.length) (hr : Room k X.A) (hx : Passes CX0 X E0)
    (h : WE X E Γ M o fun ρ M1 => HasI ρ C m ∧ WK X E Γ M1 kws fun ρz M3 => ρz.length = ks.length ∧ CallK c (gR [ρ] ρz) M3 Φ)
    (hall : (backToKw pos (keywordEach kws X.env)).all (·.1.isSome) = true := by rfl) (hks : (backToKw pos (keywordEach kws X.env)).filterMap (·.1) = ks := by rfl)
    (hpl : ((backTo pos (starEach [] X.env)).any (·.1) || (backToKw pos (keywordEach kws X.env)).any (·.1.isNone)) = false := by rfl)
    (ht : eval (.Call (.Attribute o m apos) [] kws pos) X.env = (do
      let ov ← eval o X.env
      standAt apos.atName
      let (f, first) ← holding [ov] (getMethod ov m pl)
      callWith pos f first (backTo pos (starEach [] X.env)) (backToKw pos (keywordEach kws X.env))) := by rfl) :
    WE X E Γ M (.Call (.Attribute o m apos) [] kws pos) Φ := by
  obtain ⟨f, fd, ps, g, hm, hc, hb, F⟩ := F
  refine we_of (pe_methN0 pe_w hc hm F hr hb hx pk_w hall hks hpl ht) fun σ G H a Q q => ?_
  exact h σ G H a _ fun ρ M1 v G1 H1 ⟨hi, h1⟩ s1 a1 r1 => by
    obtain ⟨b, dx, fs, e1, e2, e3⟩ := hi v G1 r1
    refine ⟨b, dx, fs, e1, a1.gh _ _ e2, e3, h1 σ G1 H1 a1 _ fun ρz M3 zs G3 H3 ⟨l2, hh⟩ s3 a3 r3 => ⟨by rw [← r3.length]; exact l2, ?_⟩⟩
    exact callK_run hh a3 (gr.run rfl l2 ⟨ρ.mono _ _ _ s3 r1, trivial⟩ r3) fun ρ' M4 w G4 H4 h4 s4 => q ρ' M4 w G4 H4 h4 ((s1.trans s3).trans s4)
end
/-! ### defs without defaults, called with keywords; methods -/
section
variable {P : Program} {w : World} {K : PySem.W.Frag} {mg : Str → Option Value} {base h : Heap} {k : Nat} {x qual : Str} {st : Stmt} {f C : Addr} {fd : FuncData} {ps : List Str} {c : Con}
theorem kb0_of (n : Nat) (ks : List Str) (g : {α : Type} → List α → List α → List α) (F : FdD K x qual st [] f fd)
    (hrel : ∀ {vs zs : List V} {us ws : List Value}, Vals vs us → Vals zs ws → Vals (g vs zs) (g us ws))
    (hb : ∀ (kV doc pm : Value) (an : Option Addr) (cdv ct : Value) (us ws : List Value), us.length = n → ws.length = ks.length → bindArgs (PySem.W.fnOf x qual (defArgs st) (defBody st) (defScope st) .none kV doc pm an cdv ct) ⟨us, ks.zip ws⟩ = pure (ps.zip (g us ws))) : KBn K fd ps n ks (fun us ws => g us ws) (fun vs zs => g vs zs) := by
  obtain ⟨oc, od, dV, kV, doc, pm, an, cdv, ct, osl, rfl, lk, hcd, hD, hK⟩ := F.ex
  rcases hD with ⟨_, rfl⟩ | ⟨e, _⟩
  · exact ⟨fun s us ws _ l1 l2 => .of_eq (hb kV doc pm an cdv ct us ws l1 l2), hrel⟩
  · exact absurd rfl e
theorem knK0_of (n : Nat) (ks : List Str) (g : {α : Type} → List α → List α → List α) (X : K.In h) (G : h.Ns mainGlobals mg) (a : PySem.W.nsIn K mainGlobals x = some (some (.ref f))) (F : FdD K x x st [] f fd) (ok : FnOk P w K mg base CX0 k f fd ps (conSp c))
    (hrel : ∀ {vs zs : List V} {us ws : List Value}, Vals vs us → Vals zs ws → Vals (g vs zs) (g us ws))
    (hb : ∀ (kV doc pm : Value) (an : Option Addr) (cdv ct : Value) (us ws : List Value), us.length = n → ws.length = ks.length → bindArgs (PySem.W.fnOf x x (defArgs st) (defBody st) (defScope st) .none kV doc pm an cdv ct) ⟨us, ks.zip ws⟩ = pure (ps.zip (g us ws))) : KnK P w K mg base k x n ks (fun vs zs => g vs zs) c :=
  ⟨f, fd, ps, _, PySem.W.mg_of X G a, F.kp, kb0_of n ks g F hrel hb, ok⟩
theorem knM_of (cl : Cls K C) (a : PySem.W.findIn K (.ref C) x = some (some (.ref f))) (i : PySem.W.isFn K (.ref f) = true) (F : FdD K x qual st [] f fd) (ok : FnOk P w K mg base CX0 k f fd ps (conSp c))
    (hb : ∀ (kV doc pm : Value) (an : Option Addr) (cdv ct : Value) (us : List Value), us.length = ps.length → bindArgs (PySem.W.fnOf x qual (defArgs st) (defBody st) (defScope st) .none kV doc pm an cdv ct) ⟨us, []⟩ = pure (ps.zip us)) : KnM P w K mg base k C x [] c :=
  ⟨f, fd, ps, [], ⟨a, i, F.kp⟩, cl, F.bindsN hb, .nil, ok⟩
theorem knMK0_of (n : Nat) (ks : List Str) (g : {α : Type} → List α → List α → List α) (cl : Cls K C) (a : PySem.W.findIn K (.ref C) x = some (some (.ref f))) (i : PySem.W.isFn K (.ref f) = true) (F : FdD K x qual st [] f fd) (ok : FnOk P w K mg base CX0 k f fd ps (conSp c))
    (hrel : ∀ {vs zs : List V} {us ws : List Value}, Vals vs us → Vals zs ws → Vals (g vs zs) (g us ws))
    (hb : ∀ (kV doc pm : Value) (an : Option Addr) (cdv ct : Value) (us ws : List Value), us.length = n + 1 → ws.length = ks.length → bindArgs (PySem.W.fnOf x qual (defArgs st) (defBody st) (defScope st) .none kV doc pm an cdv ct) ⟨us, ks.zip ws⟩ = pure (ps.zip (g us ws))) : KnMK P w K mg base k C x n ks (fun vs zs => g vs zs) c :=
  ⟨f, fd, ps, _, ⟨a, i, F.kp⟩, cl, kb0_of (n + 1) ks g F hrel hb, ok⟩
end
/-! ### values put in the parameters' order -/
def permL {α : Type} (idx : List Nat) (l : List α) : List α := idx.filterMap fun i => l[i]?
theorem vals_perm {vs : List V} {us : List Value} (h : Vals vs us) : ∀ idx : List Nat, Vals (permL idx vs) (permL idx us)
  | [] => .nil
  | i :: idx => by
    have ih := vals_perm h idx
    unfold permL at ih ⊢
    cases e : vs[i]? with
    | none =>
      have e2 := h.none_of e
      rw [List.filterMap_cons_none e, List.filterMap_cons_none e2]
      exact ih
    | some v =>
      obtain ⟨u, e2, r⟩ := h.get e
      rw [List.filterMap_cons_some e, List.filterMap_cons_some e2]
      exact .cons r ih
theorem reps_perm {ρs : List Rep} {vs : List V} {G : Hp} (h : Reps ρs vs G) : ∀ idx : List Nat, Reps (permL idx ρs) (permL idx vs) G
  | [] => trivial
  | i :: idx => by
    have ih := reps_perm h idx
    unfold permL at ih ⊢
    cases e : ρs[i]? with
    | none =>
      have e2 : vs[i]? = none := by
        rw [List.getElem?_eq_none_iff] at e ⊢
        rw [← h.length]
        exact e
      rw [List.filterMap_cons_none e, List.filterMap_cons_none e2]
      exact ih
    | some ρ =>
      obtain ⟨v, e2, r⟩ := h.get e
      rw [List.filterMap_cons_some e, List.filterMap_cons_some e2]
      exact ⟨r, ih⟩
def gvP (idx : List Nat) {α : Type} (a z : List α) : List α := permL idx (a ++ z)
theorem gr_P (idx : List Nat) {n m : Nat} : GvR (gvP idx) (gvP idx) n m := ⟨fun _ _ r1 r2 => reps_perm (r1.app r2) idx⟩
theorem rel_P (idx : List Nat) {vs zs : List V} {us ws : List Value} (r1 : Vals vs us) (r2 : Vals zs ws) : Vals (gvP idx vs zs) (gvP idx us ws) := vals_perm (Vals.append r1 r2) idx
end MM

namespace MM
open PySem L2 PyProof.Rows
structure TopC (K : PySem.W.Frag) (CC : Addr) : Prop where
  cls : ClsE K "Calendar" CC
  n1 : PySem.W.findIn K (.ref CC) "month" = some none
  n2 : PySem.W.findIn K (.ref CC) "year" = some none
  n3 : PySem.W.findIn K (.ref CC) "moon" = some none
  n4 : PySem.W.findIn K (.ref CC) "mark" = some none
  n5 : PySem.W.findIn K (.ref CC) "twelfth" = some none
  init : MetE K CC "__init__" "Calendar.__init__" s_Calendar_init [.non, .non]
  fault : DefE K "fault" s_f_fault []
section
variable {P : Program} {w : World} {K : PySem.W.Frag} {mg : Str → Option Value} {base h : Heap} {CS CC : Addr}
theorem calM_of (X : K.In h) (G : h.Ns mainGlobals mg) (S : ShG P w K mg base CS) (T : TopC K CC) : CalM P w K mg base CC CS := by
  have TT : CalT K CC := ⟨T.cls.ci, T.n1, T.n2, T.n3, T.n4, T.n5⟩
  obtain ⟨f0, d0, a0, F0⟩ := T.fault
  exact ⟨S, TT, kn_of X G a0 F0 (ok_fault F0 S) fun _ _ _ _ _ _ us hl => match us, hl with | [_, _], _ => rfl⟩
theorem cal4_of (X : K.In h) (G : h.Ns mainGlobals mg) (SM : CalM P w K mg base CC CS) (T : TopC K CC) : KnC P w K mg base 8 "Calendar" CC [] (con_Cal_init CC CS) := by
  obtain ⟨f1, d1, a1, i1, F1⟩ := T.init
  exact knC_of (ps := ["self", "month", "year", "moon", "mark"]) 5 2 X G T.cls a1 i1 F1 (ok_Cal_init F1 SM) (by simp) rfl fun _ _ _ _ _ _ _ us its l1 l2 => match us, its, l1, l2 with | [_, _, _, _, _], [_, _], _, _ => ⟨_, rfl, rfl⟩
/-- n places, and keywords ks -/
theorem calP_of (n : Nat) (ks : List Str) (idx : List Nat) (X : K.In h) (G : h.Ns mainGlobals mg) (SM : CalM P w K mg base CC CS) (T : TopC K CC)
    (hb : ∀ (T : Addr) (kV doc pm : Value) (an : Option Addr) (cdv ct : Value) (us its ws : List Value), us.length = n + 1 → its.length = 2 → ws.length = ks.length →
      ∃ k, bindArgs (PySem.W.fnOf "__init__" "Calendar.__init__" (defArgs s_Calendar_init) (defBody s_Calendar_init) (defScope s_Calendar_init) (.ref T) kV doc pm an cdv ct) ⟨us, ks.zip ws⟩ = seqItems? (.ref T) >>= k ∧ k (some its.toArray) = pure ((["self", "month", "year", "moon", "mark"] : List Str).zip (gvP idx us ws))) : KnCK P w K mg base 8 "Calendar" CC n ks (gvP idx) (con_Cal_init CC CS) := by
  obtain ⟨f1, d1, a1, i1, F1⟩ := T.init
  exact knCK_of (ps := ["self", "month", "year", "moon", "mark"]) n ks (fun a _ z => gvP idx a z) X G T.cls a1 i1 F1 (ok_Cal_init F1 SM) (by simp) (fun r1 _ r2 => rel_P idx r1 r2) hb
end
end MM

namespace MM
open PySem L2 PyProof.Rows
section
variable {P : Program} {w : World} {K : PySem.W.Frag} {mg : Str → Option Value} {base : Heap}
theorem ok_L_part {f : Addr} {fd : FuncData} (F : FdD K "_law_part" "_law_part" s_f_L_part [] f fd) (L : Kn P w K mg base 1 "_law_low" [] con_L_low) (Nx : Kn P w K mg base 1 "_law_next" [] con_L_next) : FnOk P w K mg base CX0 2 f fd ["_law_draws_here"] (conSp con_L_part) := by
  refine fn_conD con_L_part F sc_f_L_part (fun _ => rfl) fun cd A outer s H EE G i hp hr hE => ?_
  obtain ⟨p, n⟩ := i
  have hp : n ≤ 100000000 := hp
  refine wss_cons (ws_set 1 w1_f_L_part (we_call Nx hr g__law_next_f_L_part pass0 (wa_cons (we_var 0 r0_f_L_part rfl (wa_nil (ck_L_next Sub.rfl .here (by omega) fun x hx => ?_))))))
  obtain ⟨x0, x1⟩ := hx
  -- far = 10 ** 5 + pick // 4 % 10 ** 5
  refine wss_cons (ws_set 2 w2_f_L_part (we_bin op_addU (we_bin op_pow (we_int (we_int (opw_of (opv_powL (v := 100000) (by decide) (by decide) (by decide) (by decide)) ?_))))))
  refine we_bin op_modN (we_bin op_fdivA (we_var 1 r1_f_L_part rfl (we_int (opw_of (opv_div_i (by decide) (by decide)) (we_bin op_pow (we_int (we_int (opw_of (opv_powL (v := 100000) (by decide) (by decide) (by decide) (by decide)) (opw_of (opv_mod_i (by decide)) (opw_of opv_add_i ?_))))))))))
  -- bottom
  refine wss_cons (ws_set 3 w3_f_L_part (we_ix ix_seq (we_lst (wa_cons (we_bin op_addU (we_int (we_bin op_modN (we_bin op_fdivA (we_var 1 r1_f_L_part rfl (we_int (opw_of (opv_div_i (by decide) (by decide)) (we_int (opw_of (opv_mod_i (by decide)) (opw_of opv_add_i ?_))))))))))))) )
  refine wa_cons (we_bin op_addU (we_int (we_bin op_modN (we_bin op_fdivA (we_var 1 r1_f_L_part rfl (we_int (opw_of (opv_div_i (by decide) (by decide)) (we_int (opw_of (opv_mod_i (by decide)) (opw_of opv_add_i ?_))))))))))
  refine wa_cons (we_bin op_addU (we_int (we_bin op_modN (we_bin op_fdivA (we_var 1 r1_f_L_part rfl (we_int (opw_of (opv_div_i (by decide) (by decide)) (we_int (opw_of (opv_mod_i (by decide)) (opw_of opv_add_i ?_))))))))))
  refine wa_cons (we_var 2 r2_f_L_part rfl (wa_nil ⟨by show 4 ≤ 100000; decide, we_bin op_modN (we_var 1 r1_f_L_part rfl (we_int (opw_of (opv_mod_i (by decide)) ?_)))⟩))
  refine opw_pickI (fun b => 1 ≤ b ∧ b ≤ 200000) (by omega) (by show x % 4 < 4; omega) (.cons (by omega) (.cons (by omega) (.cons (by omega) (.cons (by omega) .nil)))) fun b hb => ?_
  refine wss_one (ws_ret (we_call L hr g__law_low_f_L_part pass0 (wa_cons (we_bin op_modN (we_call Nx hr g__law_next_f_L_part pass0 (wa_cons (we_var 0 r0_f_L_part rfl (wa_nil (ck_L_next Sub.rfl .here (by omega) fun y hy => ?_)))))))))
  refine we_bin op_addU (we_var 3 r3_f_L_part rfl (we_int (opw_of opv_add_i (opw_of (opv_mod_i (by omega)) (wa_cons (we_var 3 r3_f_L_part rfl (wa_nil ?_)))))))
  obtain ⟨b1, b2⟩ := hb
  have m0 := Int.emod_nonneg y (show b + 1 ≠ 0 by omega)
  have m1 := Int.emod_lt_of_pos y (show 0 < b + 1 by omega)
  have zb : Bd 20 b := by
    show b.natAbs < 2 ^ 20
    omega
  have zm : Bd 20 (y % (b + 1)) := by
    show (y % (b + 1)).natAbs < 2 ^ 20
    omega
  refine ck_L_low Sub.rfl Sub.rfl (by omega) (zm.mono (by decide)) (zb.mono (by decide)) ⟨rt (y % (b + 1)) b, [], ⟨rt_nonneg m0 (by omega), rt_le_one (by omega) (by omega), (sz_rt zm zb (by omega))⟩, Sub.rfl, .cons .here OSub.rfl .nil⟩
end
end MM

namespace MM
open PySem L2 PyProof.Rows
structure TopB (K : PySem.W.Frag) : Prop where
  zR : PySem.W.nsIn K mainGlobals "range" = some none
  draws : DefE K "_law_draws" s_f_L_draws []
  next : DefE K "_law_next" s_f_L_next []
  low : DefE K "_law_low" s_f_L_low []
  plus : DefE K "_law_plus" s_f_L_plus []
  by_ : DefE K "_law_by" s_f_L_by []
  part : DefE K "_law_part" s_f_L_part []
  moment : DefE K "_law_moment" s_f_L_moment []
  four : DefE K "_law_four" s_f_L_four []
structure LawB (P : Program) (w : World) (K : PySem.W.Frag) (mg : Str → Option Value) (base : Heap) : Prop where
  draws : Kn P w K mg base 1 "_law_draws" [] con_L_draws
  next : Kn P w K mg base 1 "_law_next" [] con_L_next
  low : Kn P w K mg base 1 "_law_low" [] con_L_low
  plus : Kn P w K mg base 2 "_law_plus" [] con_L_plus
  by_ : Kn P w K mg base 2 "_law_by" [] con_L_by
  part : Kn P w K mg base 2 "_law_part" [] con_L_part
  moment : Kn P w K mg base 3 "_law_moment" [] con_L_moment
  four : Kn P w K mg base 4 "_law_four" [] con_L_four
section
variable {P : Program} {w : World} {K : PySem.W.Frag} {mg : Str → Option Value} {base h : Heap} {CS CC : Addr}
theorem lawB_of (X : K.In h) (G : h.Ns mainGlobals mg) (hab : mg "abs" = none) (T : TopB K) : LawB P w K mg base := by
  obtain ⟨f0, d0, a0, F0⟩ := T.draws
  obtain ⟨f1, d1, a1, F1⟩ := T.next
  obtain ⟨f2, d2, a2, F2⟩ := T.low
  obtain ⟨f3, d3, a3, F3⟩ := T.plus
  obtain ⟨f4, d4, a4, F4⟩ := T.by_
  obtain ⟨f5, d5, a5, F5⟩ := T.part
  obtain ⟨f6, d6, a6, F6⟩ := T.moment
  obtain ⟨f7, d7, a7, F7⟩ := T.four
  have Dr : Kn P w K mg base 1 "_law_draws" [] con_L_draws := kn_of X G a0 F0 (ok_L_draws F0 (PySem.W.mg_none_of X G T.zR)) fun _ _ _ _ _ _ us hl => match us, hl with | [_], _ => rfl
  have Nx : Kn P w K mg base 1 "_law_next" [] con_L_next := kn_of X G a1 F1 (ok_L_next F1) fun _ _ _ _ _ _ us hl => match us, hl with | [_], _ => rfl
  have Lo : Kn P w K mg base 1 "_law_low" [] con_L_low := kn_of X G a2 F2 (ok_L_low F2 hab) fun _ _ _ _ _ _ us hl => match us, hl with | [_, _], _ => rfl
  have Pl : Kn P w K mg base 2 "_law_plus" [] con_L_plus := kn_of X G a3 F3 (ok_L_plus F3 Lo) fun _ _ _ _ _ _ us hl => match us, hl with | [_, _], _ => rfl
  have By : Kn P w K mg base 2 "_law_by" [] con_L_by := kn_of X G a4 F4 (ok_L_by F4 Lo) fun _ _ _ _ _ _ us hl => match us, hl with | [_, _], _ => rfl
  have Pt : Kn P w K mg base 2 "_law_part" [] con_L_part := kn_of X G a5 F5 (ok_L_part F5 Lo Nx) fun _ _ _ _ _ _ us hl => match us, hl with | [_], _ => rfl
  have Mo : Kn P w K mg base 3 "_law_moment" [] con_L_moment := kn_of X G a6 F6 (ok_L_moment F6 Pl Nx Pt) fun _ _ _ _ _ _ us hl => match us, hl with | [_], _ => rfl
  have Fo : Kn P w K mg base 4 "_law_four" [] con_L_four := kn_of X G a7 F7 (ok_L_four F7 Pl By Nx Pt Mo) fun _ _ _ _ _ _ us hl => match us, hl with | [_], _ => rfl
  exact ⟨Dr, Nx, Lo, Pl, By, Pt, Mo, Fo⟩
end
end MM

namespace MM
open PySem L2 PyProof.Rows
section
variable {X : Cx} {E : En} {Γ : Gm} {M : Ow} {ρ : Rep} {Ξ : Gm → Ow → Prop} {pos : Pos}
theorem wg_lst {es : List Expr} {k0 : Nat} {n : Nat} {ρs : List Rep} (hc : X.calm = true) (hsub : Sub ρ (RL X.K ρs)) (hl : ρs.length = n) (h : WGs X E Γ M es ρs Ξ) (hn : (assignEach es X.env).length = n := by rfl) (hst : (assignEach es X.env).findIdx? (·.1) = none := by rfl) : WG X E Γ M (.Tuple es k0 pos) ρ Ξ :=
  wg_of (pg_lst hc pgs_w hn hst) fun σ G H a v r Q k => by
    obtain ⟨b, vs, e, hq, rr⟩ := hsub _ _ r
    exact ⟨b, vs, e, Same.seq a.gh hq, by rw [← rr.length]; exact hl, h σ G H a vs rr Q k⟩
end
end MM

namespace MM
open PySem L2 PyProof.Rows
theorem ck_CalP {CC CS : Addr} {ρ1 ρ2 ρ3 ρ4 : Rep} {M : Ow} {Φ : Rep → Ow → Prop} {c : Cal} {p : Addr} (h1 : Sub ρ1 (RSh CS c.month)) (h2 : Sub ρ2 (RSh CS c.year)) (h3 : Sub ρ3 (RSh CS c.moon)) (h4 : Sub ρ4 (RSh CS c.mark)) (hc : CalOk c) (k : Φ (RCal CC CS c) M) :
    CallK (con_Cal_init CC CS) [RRef p, ρ1, ρ2, ρ3, ρ4] ((p, OIns CC []) :: M) fun ρ M' => Sub ρ RN ∧ ∃ l M2, Rm M' p (OIns CC l) M2 ∧ Φ (RIns CC l) M2 :=
  ⟨⟨p, .sh c.month, .sh c.year, some (.sh c.moon), some (.sh c.mark)⟩, M, ⟨⟨hc.m.mono (by decide), hc.y.mono (by decide), hc.o.mono (by decide), hc.k.mono (by decide)⟩, hc.ft⟩, .cons Sub.rfl (.cons h1 (.cons h2 (.cons h3 (.cons h4 .nil)))), .cons .here OSub.rfl .nil, fun _ _ => ⟨Sub.rfl, calF CS c, M, .here, k⟩⟩
def con_L_made (CC CS : Addr) : Con := { I := Cal × Int, B := Unit, pre := fun i => CalOk i.1, args := fun i => [RCf i.1, RI i.2], own := fun _ => [], post := fun _ _ => True, res := fun i _ => RCal CC CS i.1, own' := fun _ _ => [] }
theorem ck_L_made {CC CS : Addr} {ρ1 ρ2 : Rep} {M : Ow} {Φ : Rep → Ow → Prop} {c : Cal} {i : Int} (h1 : Sub ρ1 (RCf c)) (h2 : Sub ρ2 (RI i)) (hc : CalOk c) (k : Φ (RCal CC CS c) M) : CallK (con_L_made CC CS) [ρ1, ρ2] M Φ :=
  ⟨(c, i), M, hc, .cons h1 (.cons h2 .nil), .nil, fun _ _ => k⟩
def calL (c : Cal) : List Rat := [c.month, c.year, c.moon, c.mark]
theorem calL_sz {c : Cal} (h : CalOk c) : ∀ q ∈ calL c, Sz 200 q := by
  intro q hq
  have hq : q ∈ [c.month, c.year, c.moon, c.mark] := hq
  simp only [List.mem_cons, List.not_mem_nil, or_false] at hq
  rcases hq with rfl | rfl | rfl | rfl
  · exact h.m
  · exact h.y
  · exact h.o
  · exact h.k
section
variable {P : Program} {w : World} {K : PySem.W.Frag} {mg : Str → Option Value} {base : Heap} {CS CC : Addr}
theorem ok_L_made {f : Addr} {fd : FuncData} (F : FdD K "_law_made" "_law_made" s_f_L_made [] f fd) (S : ShM P w K mg base CS) (C4 : KnC P w K mg base 8 "Calendar" CC [] (con_Cal_init CC CS)) (Ka : KnCK P w K mg base 8 "Calendar" CC 2 ["moon", "mark"] (gvP [0, 1, 2, 3, 4]) (con_Cal_init CC CS)) (Kb : KnCK P w K mg base 8 "Calendar" CC 0 ["mark", "moon", "year", "month"] (gvP [0, 4, 3, 2, 1]) (con_Cal_init CC CS)) : FnOk P w K mg base CX0 10 f fd (N_f_L_made.take 2) (conSp (con_L_made CC CS)) := by
  refine fn_conD (con_L_made CC CS) F sc_f_L_made (fun _ => rfl) fun cd A outer s H EE G i hp hr hE => ?_
  obtain ⟨c, way⟩ := i
  have hp0 : CalOk c := hp
  have hr3 := hr.mono (show 3 ≤ 9 by decide)
  refine wss_cons (ws_asg (we_freeze (we_lc (t := gTup K 2 (gNames [6, 7])) (own := [("_law_top", 6), ("_law_bottom", 7)]) rfl sc_f_L_made.nd (pi_tup pe_w) (blkOk_by ?ok) ?hg hE ?src)))
  case ok =>
    show blkC N_f_L_made (defScope s_f_L_made) _ _ = true
    decide +kernel
  case hg =>
    intro s H C cl fp
    exact pg_tup (n := 2) (t := gNames [6, 7]) rfl (pgs_cons (pg_name sc_f_L_made.nd rfl (.inl rfl)) (pgs_cons (pg_name sc_f_L_made.nd rfl (.inl rfl)) pgs_nil))
  case src =>
    refine src_tup (we_var 0 r0_f_L_made rfl ⟨(calL c).map RF, sub_tt, fun i o M => M = [] ∧ o = ((calL c).map (RSh CS)).take i, ⟨rfl, rfl⟩, ?turn, ?done⟩)
    case turn =>
      rintro i ρ o M1 D hi he ⟨rfl, rfl⟩
      rw [List.getElem?_map] at he
      obtain ⟨q, hq, rfl⟩ := Option.map_eq_some_iff.mp he
      have zq : Sz 200 q := calL_sz hp0 q (List.mem_of_getElem? hq)
      refine ⟨setAll [6, 7] [RI q.num, RI (q.den : Int)], blkT_tup (is := [6, 7]) (by decide) rfl sub_tt, fun s H0 C cl fp => ?_⟩
      refine we_make S.mk2 hr3 ?g1 pass0 hE (wa_cons (we_var 6 ?r6 rfl (wa_cons (we_var 7 ?r7 rfl (wa_nil (mk_Share Sub.rfl Sub.rfl (den_ne q) (zq.num.mono (by decide)) (zq.den.mono (by decide)) ⟨[], RSh CS (rt q.num q.den), rfl, Sub.rfl, ?len, rfl, ?tk⟩))))))
      case g1 => rfl
      case r6 => exact ⟨rfl, by first | exact .inl rfl | exact .inr (.inl rfl), by decide, by decide⟩
      case r7 => exact ⟨rfl, by first | exact .inl rfl | exact .inr (.inl rfl), by decide, by decide⟩
      case len =>
        rw [List.length_take]
        have : i < 4 := hi
        omega
      case tk => rw [rt_self, List.take_add_one, List.getElem?_map, hq]; rfl
    case done =>
      rintro D o M1 hD hM ⟨rfl, rfl⟩
      have key : List.take ((calL c).map RF).length ((calL c).map (RSh CS)) = [RSh CS c.month, RSh CS c.year, RSh CS c.moon, RSh CS c.mark] := rfl
      rw [key]
      refine ⟨D, _, [], Sub.rfl, .here, hD, wg_lst rfl sub_lt rfl (wgs_cons (wg_name 2 w2_f_L_made (wgs_cons (wg_name 3 w3_f_L_made (wgs_cons (wg_name 4 w4_f_L_made (wgs_cons (wg_name 5 w5_f_L_made (wgs_nil ?_))))))))) ⟩
      refine wss_cons (ws_if (wt_cmp (op_eqD hr.units) (nomark _) (we_bin op_modN (we_var 1 r1_f_L_made rfl (we_int (opw_of (opv_mod_i (by decide)) (we_int (opw_of (opv_eq isD_i isD_i shaped_i shaped_i) ⟨_, Sub.rfl, fun hk => ?yes, fun hk => wss_nil ?no⟩))))))))
      case yes =>
        refine wss_one (ws_ret (we_make C4 hr g_Calendar_f_L_made pass0 hE (wa_cons (we_var 2 r2_f_L_made rfl (wa_cons (we_var 3 r3_f_L_made rfl (wa_cons (we_var 4 r4_f_L_made rfl (wa_cons (we_var 5 r5_f_L_made rfl (wa_nil fun p hp hpE => ?_)))))))))))
        exact ck_CalP Sub.rfl Sub.rfl Sub.rfl Sub.rfl hp0 ⟨(), [], trivial, Sub.rfl, .nil⟩
      case no =>
        refine wss_cons (ws_if (wt_cmp (op_eqD hr.units) (nomark _) (we_bin op_modN (we_var 1 r1_f_L_made rfl (we_int (opw_of (opv_mod_i (by decide)) (we_int (opw_of (opv_eq isD_i isD_i shaped_i shaped_i) ⟨_, Sub.rfl, fun hk => ?yes2, fun hk => wss_nil ?no2⟩))))))))
        case yes2 =>
          refine wss_one (ws_ret (we_makeN (gR := gvP [0, 1, 2, 3, 4]) Ka (gr_P _) hr g_Calendar_f_L_made pass0 hE (wa_cons (we_var 2 r2_f_L_made rfl (wa_cons (we_var 3 r3_f_L_made rfl (wa_nil ⟨rfl, wk_cons (we_var 4 r4_f_L_made rfl (wk_cons (we_var 5 r5_f_L_made rfl (wk_nil ⟨rfl, fun p hp hpE => ?_⟩))))⟩)))))))
          exact ck_CalP Sub.rfl Sub.rfl Sub.rfl Sub.rfl hp0 ⟨(), [], trivial, Sub.rfl, .nil⟩
        case no2 =>
          refine wss_one (ws_ret (we_makeN0 (gR := gvP [0, 4, 3, 2, 1]) Kb (gr_P _) hr g_Calendar_f_L_made pass0 hE (wk_cons (we_var 5 r5_f_L_made rfl (wk_cons (we_var 4 r4_f_L_made rfl (wk_cons (we_var 3 r3_f_L_made rfl (wk_cons (we_var 2 r2_f_L_made rfl (wk_nil ⟨rfl, fun p hp hpE => ?_⟩)))))))))))
          exact ck_CalP Sub.rfl Sub.rfl Sub.rfl Sub.rfl hp0 ⟨(), [], trivial, Sub.rfl, .nil⟩
end
end MM

namespace MM
open PySem L2 PyProof.Rows
section
variable {X : Cx} {E : En} {Γ : Gm} {M : Ow} {K : PySem.W.Frag} {Φ : Rep → Ow → Prop} {ρs : List Rep} {e : Expr} {pos : Pos}
/-- list(a tuple), owned -/
theorem caw_listT (hE : ∀ a ∈ E.M, E.H a ≠ none) (k : ∀ l, l ∉ M.map (·.1) → l ∉ E.M → Φ (RRef l) ((l, OL ρs) :: M)) : CaW E Γ M (fun xs H Q => ∃ p ys, xs = [.ref p] ∧ (SqL K H p ys ∨ SqT K H p ys) ∧ ∀ l, H l = none → Q (.ref l) (upd H l (.lst ys))) [RTt ρs] Φ := fun σ G H a vs hv Q q => by
  match vs, hv with
  | [v], ⟨⟨t, ws, e, h, rr⟩, _⟩ =>
    subst e
    exact ⟨t, ws, rfl, .inr (.inl (.inl (a.gh _ _ h))), fun l hl => q _ _ _ _ _ (k l (a.freshM hl) fun z => hE l z (a.fresh hl)) (Same.refl _) (a.own1 hl ⟨ws, rfl, rr⟩) rfl⟩
/-- tuple(an owned list) -/
theorem caw_tupO {l : Addr} {u : ORep → Ow} {ρ : Rep} (sb : Sub ρ (RRef l)) (fd : Fnd M l (OL ρs) u) (k : Φ (RTt ρs) M) : CaW E Γ M (fun xs H Q => ∃ p ys, xs = [.ref p] ∧ ((SqL K H p ys ∧ ∀ l, H l = none → Q (.ref l) (upd H l (.tup ys))) ∨ (SqT K H p ys ∧ Q (.ref p) H))) [ρ] Φ := fun σ G H a vs hv Q q => by
  match vs, hv with
  | [v], ⟨r, _⟩ =>
    have e : v = .ref l := sb _ _ r
    subst e
    obtain ⟨o, e1, ws, e2, rf⟩ := a.own _ fd.mem
    subst e2
    refine ⟨l, ws, rfl, .inl ⟨SqL.of e1, fun t ht => ?_⟩⟩
    have n : New G H (upd G t (.tup ws)) (upd H t (.tup ws)) := New.put a.gh ht
    exact q _ M _ _ _ k n.gg (a.new n) ⟨t, ws, rfl, upd_same, rf.mono n.gg⟩
theorem we_negI {i : Int} (h : WE X E Γ M e fun ρ M1 => Sub ρ (RI i) ∧ Φ (RI (-i)) M1) : WE X E Γ M (.UnaryOp .USub e pos) Φ :=
  we_un un_neg fun σ G H a Q q => h σ G H a Q fun ρ M1 v G1 H1 ⟨sb, hk⟩ s1 a1 r1 => q ρ M1 v G1 H1 ⟨RI (-i), fun x G H hx Q q => by
    have e : x = .int i := sb _ _ hx
    subst e
    exact ⟨i, rfl, q _ rfl⟩, hk⟩ s1 a1 r1
end
end MM

namespace MM
open PySem PySem.Spec L2 PyProof.Rows
/-! ### set(a list of ints), sorted of a set, sorted of tuples -/
section
variable {P : Program} {w : World} {A : Around} {E : Value → Shared → Prop} {s : Shared}
abbrev hole (w : World) : Obj := { cls := .type "set", dict := none, data := .set #[] 0 (.fresh 0 0 (!w.params.followText "set-order")) }
abbrev withHole (w : World) (s : Shared) : Heap := s.heap.push (hole w)
/-- what stands behind set(xs) -/
structure Filled (w : World) (s : Shared) (ns : List Int) (h : Heap) : Prop where
  got : ∃ c, SetR w h s.heap.objs.size (fun j => decide (j ∈ ns)) c ∧ c ≤ ns.length
  kept : ∀ b o, s.heap.get? b = some o → h.get? b = some o
theorem at_pos {items : Array Value} {ns : List Int} (hi : IntsAre items.toList ns) (i : Nat) (v : Value) (hv : items[i]? = some v) : ∃ k t, ns[i]? = some k ∧ v = .int k t := by
  have hlen : items.size = ns.length := by rw [← IntsAre.length hi, Array.length_toList]
  obtain ⟨hlt, _⟩ := Array.getElem?_eq_some_iff.mp hv
  rw [hlen] at hlt
  obtain ⟨t, rfl⟩ := IntsAre.int_at hi i v (by rw [Array.getElem?_toList]; exact hv)
  have e : ns[i]? = some ns[i] := List.getElem?_eq_getElem hlt
  exact ⟨ns[i], t, e, by rw [List.getD_eq_getElem?_getD, e, Option.getD_some]⟩
set_option maxHeartbeats 8000000 in
theorem set_ints {l : Addr} {items : Array Value} {ns : List Int} {Q : Value → Shared → Prop} (hh : A.handled = none) (hl : s.heap.IsList l items) (hi : IntsAre items.toList ns) (hb : ns.length + 1 < scanBound)
    (h : ∀ h' tk, Filled w s ns h' → Q (.ref s.heap.objs.size) { s with heap := h', toks := tk }) : wpAny (model P w) A (call (.type "set") [.ref l]) Q E s := by
  have size : items.size = ns.length := by rw [← IntsAre.length hi, Array.length_toList]
  have under : l < s.heap.objs.size := by
    obtain ⟨o, e, _⟩ := hl
    exact Heap.lt_size e
  have pushed : (withHole w s).objs.size = s.heap.objs.size + 1 := Heap.size_push ..
  have self : (withHole w s).get? s.heap.objs.size = some (hole w) := Heap.get?_push_size _ rfl
  have beside : l ≠ (withHole w s).objs.size := fun z => Nat.ne_of_lt (Nat.lt_succ_of_lt under) (z.trans pushed)
  have apart : s.heap.objs.size ∉ [(withHole w s).objs.size, l] := by
    intro z
    rcases List.mem_cons.mp z with z | z
    · exact Nat.ne_of_lt (Nat.lt_succ_self _) (z.trans pushed)
    · rw [List.mem_singleton] at z
      exact Nat.ne_of_gt under z
  have hlp : (withHole w s).IsList l items := hl.push _
  obtain ⟨c, tl, hmro⟩ := F.called_set.mro
  have hmade := F.called_set.made
  have hsub := F.called_set.sub
  have h1 := F.called_set.notType
  have h2 := F.called_set.canCreate
  have hct := F.typeCall_set_1 (.ref l)
  refine wpAny_call (codeAny_of_tree ?_)
  show wpAny _ _ (callAny (.type "set") _) _ _ _
  refine wpAny_pure ⟨Code.quiet_builtin _ (by decide +kernel), codeAny_builtin F.entry_type_call ?_⟩
  rw [Around.under_plain (weight_type_call_type "set" [.ref l] []) rfl]
  repeat (any_goals (first | assumption | wp_step))
  refine codeAny_mono (code_set_led1 (.ref l) (E := E) (Q₁ := fun v t => v = .ref s.heap.objs.size ∧ t = { s with heap := withHole w s }) ⟨rfl, rfl⟩) fun r t hr => ?_
  match r, hr with
  | .error e, hr => exact hr
  | .ok (.ret v), ⟨ev, et⟩ =>
    subst ev et
    have hT : Shared.TypeIs { s with heap := withHole w s } (.ref s.heap.objs.size) "set" := ⟨_, self, rfl⟩
    have hli := F.called_set.init.lookup
    have hbi := F.called_set.init.bind (.ref s.heap.objs.size)
    repeat (any_goals (first | assumption | wp_step))
    refine codeAny_mono (codeAny_call_builtin (R := wants (fun v t => v = .none ∧ ∃ h' tk, t = { s with heap := h', toks := tk } ∧ Filled w s ns h') E) F.called_set.init.plain F.entry_set_init (check_set_init_1 hT ?init)) fun r t hr => ?after
    case after =>
      match r, hr with
      | .error e, hr => exact hr
      | .ok (.ret v), ⟨ev, h', tk, et, ok⟩ =>
        subst ev et
        repeat (any_goals (first | assumption | wp_step))
        exact h _ _ ok
      | .ok .next, hr => exact hr.elim
      | .ok .brk, hr => exact hr.elim
      | .ok .cont, hr => exact hr.elim
    case init =>
      obtain ⟨⟨lc, ld, lx, ls⟩, hol, hcl, nl, hdl⟩ := hlp
      simp only at hcl hdl
      subst hcl
      subst hdl
      have n1 := F.sub_list_set
      have n2 := F.sub_list_frozenset
      have n3 : (Value.type "list" == Value.type "dict") = false := by decide
      have there : (withHole w s).IsList l items := ⟨_, hol, rfl, nl, rfl⟩
      unfold Builtin.«set.__init__» noKeywords Builtin.Frozenset.updateFrom
      generalize hPI : pyIter = PI
      wp_walk
      subst hPI
      refine wpAny_pyIter_list there (wpAny_bind (wpAny_runValue ?_))
      have quiet : A.in1.in1.in1.handled = none := by simp [hh]
      refine set_update_ints ((Walks.list quiet _ l beside items).toS) s.heap.objs.size apart ns size hb (at_pos hi) (items.size - 0) 0 _ (by omega) (Nat.zero_le _) ⟨⟨_, Heap.get?_push_size _ rfl, rfl, rfl⟩, there.push _⟩ ?start ?stop
      case start => exact ⟨0, Nat.le_refl 0, setR_new_at (Heap.get?_push_of_some _ self)⟩
      case stop =>
        rintro ⟨h', g', d', tk', os'⟩ n moved hn got
        have eg : g' = s.gens := moved.gens
        have ed : d' = s.drawn := moved.drawn
        have eo : os' = s.os := moved.os
        subst eg ed eo
        show wpAny _ _ _ _ _ _
        refine wpAny_pure ?_
        show wpAny _ _ (ret Value.none) _ _ _
        refine wpAny_pure ⟨rfl, h', tk', rfl, ⟨n, got, by rw [← size]; exact hn⟩, fun b o e => ?_⟩
        have hb0 : b < s.heap.objs.size := Heap.lt_size e
        refine moved.heap b o ?_ (Heap.get?_push_of_some _ (Heap.get?_push_of_some _ e))
        intro z
        rcases List.mem_cons.mp z with z | z
        · exact Nat.ne_of_lt hb0 z
        · rw [List.mem_singleton] at z
          exact Nat.ne_of_lt (Nat.lt_succ_of_lt hb0) (z.trans pushed)
  | .ok .next, hr => exact hr.elim
  | .ok .brk, hr => exact hr.elim
  | .ok .cont, hr => exact hr.elim
end
section
variable {X : Cx} {E : En} {Γ : Gm} {M : Ow} {Φ : Rep → Ow → Prop}
def rSetI (X : Cx) : List V → Hp → VK → Prop := fun xs H Q => ∃ (l : Addr) (ns : List Int), xs = [.ref l] ∧ SqL X.K H l (ns.map V.int) ∧ ns.length + 1 < scanBound ∧ ∀ p c, H p = none → c ≤ ns.length → Q (.ref p) (upd H p (SetO X.w p (fun j => decide (j ∈ ns)) c))
theorem call_setI (hc : X.calm = true) : CallR X (.type "set") (rSetI X) := by
  intro pins s σ H xs us Q I r h
  obtain ⟨l, ns, rfl, hl, hb, q⟩ := h
  rw [Vals.ref1 r]
  obtain ⟨its, rv, pl, hz⟩ := I.list hl
  refine set_ints (P := X.prog) (w := X.w) (I.ok.hd hc) pl.isList (by simpa using ints_of_vals rv) hb fun h' tk ok => ?_
  obtain ⟨⟨c, got, hc⟩, kept⟩ := ok
  exact ⟨.ref s.heap.objs.size, upd H s.heap.objs.size (SetO X.w s.heap.objs.size (fun j => decide (j ∈ ns)) c), I.laid (t' := tk) kept (Nat.le_refl _) (setO_new got), rfl, q _ c (I.hok.fresh (Nat.le_refl _)) hc⟩
end
end MM

namespace MM
open PySem L2 PyProof.Rows
section
variable {X : Cx} {E : En} {Γ : Gm} {M : Ow} {e : Expr} {pos p p2 : Pos} {Φ : Rep → Ow → Prop} {x : Str}
theorem we_bltn {v : V} {u : Value} (hg : Gl X x) (hm : X.mg x = none) (hv : bootBuiltins x = some u) (r : RelV v u) (k : Φ (RV v) M) (hn : x ≠ "__name__" := by decide) (hd : (x == ("__debug__" : Str)) = false := by decide) : WE X E Γ M (.Name x pos) Φ := we_of (pe_bltn hg hm hv r hn hd) (wte_c (fun _ => rfl) k)
/-- isinstance(e, a built-in type) -/
theorem we_isiB {t c : String} {b : Bool} (hg : Gl X "isinstance") (hgc : Gl X x) (hm : X.mg "isinstance" = none) (hmc : X.mg x = none) (hv : bootBuiltins x = some (.type c)) (hk : L2.kitB t c = some b)
    (h : WE X E Γ M e fun ρ M1 => TyIs X.K ρ (.type t) ∧ Φ (RB b) M1) (hn : x ≠ "__name__" := by decide) (hd : (x == ("__debug__" : Str)) = false := by decide)
    (he : starEach [e, .Name x p2] X.env = (false, eval e X.env) :: starEach [.Name x p2] X.env := by rfl) (he2 : starEach [.Name x p2] X.env = (false, eval (.Name x p2) X.env) :: starEach [] X.env := by rfl) (hpl : (backTo pos (starEach [.Name x p2] X.env)).any (·.1) = false := by rfl) :
    WE X E Γ M (.Call (.Name "isinstance" p) [e, .Name x p2] [] pos) Φ := by
  refine we_callB call_isi hg hm (by decide +kernel) (wa_cons (fun σ G H a Q q => h σ G H a Q fun ρ M1 v G1 H1 ⟨ty, hk2⟩ => q ρ M1 v G1 H1 (wa_cons (we_bltn (v := .ty c) hgc hmc hv rfl (wa_nil ?_) hn hd) he2)) he) (by decide) (by decide) he hpl
  exact caw_of (cav_isi ty (.ty c) (kit_ty hk)) hk2
theorem cav_len_tt {K : PySem.W.Frag} {ρs : List Rep} : CaV (fun xs H Q => ∃ p ys, xs = [.ref p] ∧ (SqL K H p ys ∨ SqT K H p ys) ∧ Q (.int ys.length) H) [RTt ρs] (RI ρs.length) := fun vs G H s r Q q => by
  match vs, r with
  | [v], ⟨⟨a, ws, e, h, rr⟩, _⟩ =>
    subst e
    refine ⟨a, ws, rfl, .inr (.inl (.inl (s _ _ h))), q _ G H (New.refl s) ?_⟩
    show V.int _ = V.int _
    rw [rr.length]
theorem cav_len_lt {K : PySem.W.Frag} {ρs : List Rep} : CaV (fun xs H Q => ∃ p ys, xs = [.ref p] ∧ (SqL K H p ys ∨ SqT K H p ys) ∧ Q (.int ys.length) H) [RLt ρs] (RI ρs.length) := fun vs G H s r Q q => by
  match vs, r with
  | [v], ⟨⟨a, ws, e, h, rr⟩, _⟩ =>
    subst e
    refine ⟨a, ws, rfl, .inl (.inl (.inl (s _ _ h))), q _ G H (New.refl s) ?_⟩
    show V.int _ = V.int _
    rw [rr.length]
end
end MM

namespace MM
open PySem L2 PyProof.Rows
/-! ### range of any two ints -/
theorem turn_long {P : Program} {w : World} {K : PySem.W.Frag} {tg : Expr} (it : Addr) (lo : Int) (n : Nat) : Turn P w K tg (Itr lo n) [it] it (fun i h => IsLongIter h it (lo + (i : Nat) * 1) ((n : Int) - (i : Nat)) 1) where
  mem := by simp
  obj := fun i h st b hb => by
    have e : b = it := by simpa using hb
    subst e
    exact ⟨_, st, fun v z => by
      have z' : Data.fields _ = Data.cell v := z
      cases z'⟩
  keep := fun i h h' st k => k it (by simp) _ st
  item := by
    intro X hP hw hK hc i pins s σ H E I hf st hg
    subst hP hw hK
    obtain ⟨f0, f1, f2, f3, f4, f5⟩ := hf it (by simp)
    have W := Walks.longrange (prog := X.prog) (w := X.w) (I.ok.hd hc) it lo 1 n
    refine W.item i s _ _ hg st fun v h' tk hv st' kk => ?_
    obtain ⟨t, rfl⟩ := hv
    have I1 : L2.Inv X pins σ H { s with heap := h', toks := tk } := I.turned (fun b o hb e => kk b o (by simpa using hb) e) f0 f1 f3 f4 f5
    refine ⟨_, rfl, go_of (s := { s with heap := h', toks := tk }) (n := "longrange_iterator") st' rfl rfl (by decide) ⟨.int (lo + i), H, I1, ⟨t, ?_⟩, ⟨rfl, rfl⟩, st', fun b hb => (hf b hb).1⟩⟩
    rw [Int.mul_one]
  done := by
    intro X hP hw hK hc i pins s σ H E I hf st hg
    subst hP hw hK
    obtain ⟨f0, f1, f2, f3, f4, f5⟩ := hf it (by simp)
    exact wpAny_pyNext_long_end (I.ok.hd hc) st (by have : n ≤ i := hg; omega) fun h' eb => ⟨rfl, I.turned (t' := s.toks) (fun b o hb e => eb b o hb e) f0 f1 f3 f4 f5⟩
  self := fun _ _ _ _ _ st h => wpAny_pyIter_longiter st h
section
variable {X : Cx} {tg : Expr}
theorem range_itW {pins : List (Addr × Obj)} {σ : L2.St} {H : Hp} {s : Shared} {R : It → Hp → Prop} {E : Value → Shared → Prop} {lo hi : Int} {t u v : Tok} {tk : Nat} (I : L2.Inv X pins σ H s)
    (q : R (Itr lo (hi - lo).toNat) H) : wpAny (model X.prog X.w) X.A (pyIter (.ref s.heap.objs.size)) (PIE X pins σ tg R) E { s with heap := s.heap.push { cls := .type "range", data := .fields #[.int lo t, .int hi u, .int 1 v] }, toks := tk } := by
  have I1 : L2.Inv X pins σ H { s with heap := s.heap.push { cls := .type "range", data := .fields #[.int lo t, .int hi u, .int 1 v] }, toks := tk } := I.kept fun b o e => Heap.get?_push_of_some _ e
  have e1 : lo + ((0 : Nat) : Int) * 1 = lo := by simp
  have e2 : (((hi - lo).toNat : Nat) : Int) - ((0 : Nat) : Int) = Builtin.Range.rangeSize lo hi 1 := by rw [rangeSize_one]; split <;> omega
  cases hs : Builtin.Range.small lo hi 1 with
  | true =>
    refine wpAny_pyIter_range (IsRange.new ..) hs ?_
    refine ⟨(s.heap.push { cls := .type "range", data := .fields #[.int lo t, .int hi u, .int 1 v] }).objs.size, [(s.heap.push { cls := .type "range", data := .fields #[.int lo t, .int hi u, .int 1 v] }).objs.size], _, _, H, rfl, I1.kept (t' := tk) fun b o e => Heap.get?_push_of_some _ e, turn_range _ lo (hi - lo).toNat, ?_, fun b hb => ?_, q⟩
    · show IsRangeIter _ _ (lo + ((0 : Nat) : Int) * 1) ((((hi - lo).toNat : Nat) : Int) - ((0 : Nat) : Int)) 1
      rw [e1, e2]
      exact Heap.get?_push_size _ rfl
    · have e : b = (s.heap.push { cls := .type "range", data := .fields #[.int lo t, .int hi u, .int 1 v] }).objs.size := by simpa using hb
      subst e
      exact I1.fpOk (Nat.le_refl _) (I1.hok.fresh (Nat.le_refl _))
  | false =>
    refine wpAny_pyIter_longrange (IsRange.new ..) hs ?_
    refine ⟨(s.heap.push { cls := .type "range", data := .fields #[.int lo t, .int hi u, .int 1 v] }).objs.size, [(s.heap.push { cls := .type "range", data := .fields #[.int lo t, .int hi u, .int 1 v] }).objs.size], _, _, H, rfl, I1.kept (t' := tk) fun b o e => Heap.get?_push_of_some _ e, turn_long _ lo (hi - lo).toNat, ?_, fun b hb => ?_, q⟩
    · show IsLongIter _ _ (lo + ((0 : Nat) : Int) * 1) ((((hi - lo).toNat : Nat) : Int) - ((0 : Nat) : Int)) 1
      rw [e1, e2]
      exact Heap.get?_push_size _ rfl
    · have e : b = (s.heap.push { cls := .type "range", data := .fields #[.int lo t, .int hi u, .int 1 v] }).objs.size := by simpa using hb
      subst e
      exact I1.fpOk (Nat.le_refl _) (I1.hok.fresh (Nat.le_refl _))
def iRngW (ta : TA) : TI := fun σ H R => ta σ H fun vs H1 => ∃ i j : Int, vs = [.int i, .int j] ∧ R (Itr i (j - i).toNat) H1
theorem pi_rangeW {a b : Expr} {ta : TA} {p pos : Pos} (hg : Gl X "range") (hm : X.mg "range" = none) (ha : PA X [a, b] ta) (hs : starEach [a, b] X.env = [(false, eval a X.env), (false, eval b X.env)] := by rfl) (hs2 : starEach [b] X.env = [(false, eval b X.env)] := by rfl) :
    PI X tg (.Call (.Name "range" p) [a, b] [] pos) (iRngW ta) := by
  refine ⟨fun pins s σ H R I h => ?_⟩
  refine Call_ (ld_blt I hg hm boot_range (PyProof.Rows.callWith_type1 (thn (ha.run pos pins s σ H _ I h) fun us s1 ⟨vs, H1, I1, r1, q1⟩ => ?_) (by rw [hs, hs2]) (by rw [hs2]; rfl)))
  obtain ⟨i, j, e, q⟩ := q1
  subst e
  cases r1 with
  | cons r rr =>
    cases rr with
    | cons r' rr =>
      cases rr
      obtain ⟨t, rfl⟩ := r
      obtain ⟨t', rfl⟩ := r'
      exact call_range_2 (range_itW I1 q)
end
section
variable {X : Cx} {E : En} {Γ : Gm} {M : Ow} {a b tg : Expr} {pos p apos : Pos} {Ψ : Ed} {body : List Stmt}
theorem ws_for_rangeW (hp : PassesOwn (model X.prog X.w) X.A X.env X.xe) (hc : X.calm = true) (hg : Gl X "range") (hm : X.mg "range" = none)
    (h : WA X E Γ M [a, b] fun ρs M1 => ∃ i j : Int, SubL ρs [RI i, RI j] ∧ ForK X E Γ M1 tg body Ψ (j - i).toNat fun n ρ => ρ = RI (i + n))
    (hse : starEach [a, b] X.env = [(false, eval a X.env), (false, eval b X.env)] := by rfl) (hs2 : starEach [b] X.env = [(false, eval b X.env)] := by rfl) (hs : ∀ x, foldedSetIterable (.Call (.Name "range" p) [a, b] [] apos) X.env x = pure x := by intro _; rfl) : WS X E Γ M (.For tg (.Call (.Name "range" p) [a, b] [] apos) body [] pos) Ψ :=
  ws_of (ps_for hp hc (pi_rangeW hg hm pa_w hse hs2) pg_w pss_w hs) fun σ G H a D k => h σ G H a _ fun ρs M1 vs G1 H1 ⟨i0, j, sb, I, h0, ht, hd⟩ s1 a1 r1 => by
    have ks := k.mono s1
    have e : vs = [.int i0, .int j] := by
      match vs, sb.reps r1 with
      | [v, w], ⟨r, r', _⟩ =>
        have r : v = .int i0 := r
        have r' : w = .int j := r'
        rw [r, r']
    refine ⟨i0, j, e, for_range (lo := i0) (fun i σ H => ∃ Γ' M' G', I i Γ' M' ∧ Same G1 G' ∧ At E Γ' M' σ G' H) ⟨Γ, M1, G1, h0, Same.refl _, a1⟩ ?_ ?_⟩
    · rintro i σ H hx ⟨Γ', M', G', hI, s', a'⟩
      exact for_turn ks (ht i _ Γ' M' hx rfl hI) s' a' rfl
    · rintro σ H ⟨Γ', M', G', hI, s', a'⟩
      exact ks.nx _ _ (hd _ _ hI) _ _ _ s' a'
theorem src_rangeW {Z : Ow → Nat → (Nat → Rep → Prop) → Prop} (h : WA X E Γ M [a, b] fun ρs M1 => ∃ i j : Int, SubL ρs [RI i, RI j] ∧ Z M1 (j - i).toNat fun n ρ => ρ = RI (i + n)) : Src X E Γ M (iRngW (tWA X [a, b])) Z :=
  ⟨fun {σ G H} R a' k => h σ G H a' _ fun ρs M1 vs G1 H1 ⟨i0, j, sb, hz⟩ s1 a1 r1 => by
    have e : vs = [.int i0, .int j] := by
      match vs, sb.reps r1 with
      | [v, w], ⟨r, r', _⟩ =>
        have r : v = .int i0 := r
        have r' : w = .int j := r'
        rw [r, r']
    refine ⟨i0, j, e, k _ _ _ _ _ _ hz s1 a1 fun i H2 G2 s2 g2 => ⟨fun hi => hi, fun hi => hi, fun x H3 hi ⟨e3, y⟩ => ?_⟩⟩
    subst e3
    exact ⟨G2, _, New.refl g2, rfl, y⟩⟩
end
end MM

namespace MM
open PySem L2 PyProof.Rows
/-! ### owned lists of ints -/
theorem reps_RI {G : Hp} : ∀ {ns : List Int} {vs : List V}, Reps (ns.map RI) vs G → vs = ns.map V.int
  | [], [], _ => rfl
  | n :: ns, v :: vs, h => by
    have h1 : v = .int n := h.1
    rw [h1, reps_RI (ns := ns) (vs := vs) h.2]
    rfl
  | [], _ :: _, h => h.elim
  | _ :: _, [], h => h.elim
theorem reps_ints0 {G : Hp} : ∀ ns : List Int, Reps (ns.map RI) (ns.map V.int) G
  | [] => trivial
  | _ :: ns => ⟨rfl, reps_ints0 ns⟩
section
variable {X : Cx} {E : En} {Γ : Gm} {M : Ow} {a b e iter tg : Expr} {pos p p2 apos : Pos} {Φ : Rep → Ow → Prop} {Ψ : Ed} {body : List Stmt} {x : Str}
theorem own_ints {σ : L2.St} {G H : Hp} {q : Addr} {ns : List Int} {u : ORep → Ow} (at_ : At E Γ M σ G H) (fd : Fnd M q (OL (ns.map RI)) u) : H q = some (.lst (ns.map V.int)) := by
  obtain ⟨o, e1, ws, e2, rf⟩ := at_.own _ fd.mem
  subst e2
  rw [reps_RI rf] at e1
  exact e1
theorem ws_for_ownI (hp : PassesOwn (model X.prog X.w) X.A X.env X.xe) (hc : X.calm = true)
    (h : WE X E Γ M iter fun ρ M1 => ∃ (q : Addr) (ns : List Int), Sub ρ (RRef q) ∧ ∃ I : Nat → Gm → Ow → Prop, I 0 Γ M1 ∧ (∀ i Γ1 M2, I i Γ1 M2 → ∃ u, Fnd M2 q (OL (ns.map RI)) u) ∧
      (∀ i n Γ1 M2, ns[i]? = some n → I i Γ1 M2 → WG X E Γ1 M2 tg (RI n) fun Γ2 M3 => WSs X E Γ2 M3 body { nx := I (i + 1), ct := I (i + 1), bk := Ψ.nx, rt := Ψ.rt }) ∧ ∀ Γ1 M2, I ns.length Γ1 M2 → Ψ.nx Γ1 M2)
    (hs : ∀ x, foldedSetIterable iter X.env x = pure x := by intro _; rfl) : WS X E Γ M (.For tg iter body [] pos) Ψ :=
  ws_of (ps_for hp hc (pi_list pe_w) pg_w pss_w hs) fun σ G H a D k => h σ G H a _ fun ρ M1 v G1 H1 ⟨q, ns, sb, I, h0, hI, ht, hd⟩ s1 a1 r1 => by
    have e : v = .ref q := sb _ _ r1
    have ks := k.mono s1
    obtain ⟨u, fd⟩ := hI _ _ _ h0
    have e1 := own_ints a1 fd
    refine ⟨q, e, ⟨ns.map V.int, .inl (.inl e1)⟩, for_list (K := X.K) (a := q) (xs := ns.map V.int) (fun i σ H => ∃ Γ' M' G', I i Γ' M' ∧ Same G1 G' ∧ At E Γ' M' σ G' H) ⟨Γ, M1, G1, h0, Same.refl _, a1⟩ (fun i σ H _ ⟨Γ', M', G', hI', s', a'⟩ => ?_) ?_ ?_⟩
    · obtain ⟨u', fd'⟩ := hI _ _ _ hI'
      exact .inl (.inl (own_ints a' fd'))
    · rintro i x σ H hx ⟨Γ', M', G', hI', s', a'⟩
      rw [List.getElem?_map] at hx
      obtain ⟨n, hn, rfl⟩ := Option.map_eq_some_iff.mp hx
      exact for_turn ks (ht i n Γ' M' hn hI') s' a' rfl
    · rintro σ H ⟨Γ', M', G', hI', s', a'⟩
      rw [List.length_map] at hI'
      exact ks.nx _ _ (hd _ _ hI') _ _ _ s' a'
/-- isinstance(e, a built-in type), of an owned list -/
theorem we_isiO {c : String} {k : Bool} (hg : Gl X "isinstance") (hgc : Gl X x) (hm : X.mg "isinstance" = none) (hmc : X.mg x = none) (hv : bootBuiltins x = some (.type c)) (hk : L2.kitB "list" c = some k)
    (h : WE X E Γ M e fun ρ M1 => (∃ q ns u, Sub ρ (RRef q) ∧ Fnd M1 q (OL ns) u) ∧ Φ (RB k) M1) (hn : x ≠ "__name__" := by decide) (hd : (x == ("__debug__" : Str)) = false := by decide)
    (he : starEach [e, .Name x p2] X.env = (false, eval e X.env) :: starEach [.Name x p2] X.env := by rfl) (he2 : starEach [.Name x p2] X.env = (false, eval (.Name x p2) X.env) :: starEach [] X.env := by rfl) (hpl : (backTo pos (starEach [.Name x p2] X.env)).any (·.1) = false := by rfl) :
    WE X E Γ M (.Call (.Name "isinstance" p) [e, .Name x p2] [] pos) Φ := by
  refine we_callB call_isi hg hm (by decide +kernel) (wa_cons (fun σ G H a Q q => h σ G H a Q fun ρ M1 v G1 H1 ⟨⟨q0, ns, u, sb, fd⟩, hk2⟩ => q ρ M1 v G1 H1 (wa_cons (we_bltn (v := .ty c) hgc hmc hv rfl (wa_nil ?_) hn hd) he2)) he) (by decide) (by decide) he hpl
  intro σ G H a vs r Q q
  match vs, r with
  | [v, w], ⟨r1, r2, _⟩ =>
    have r2 : w = .ty c := r2
    have r1 : v = .ref q0 := sb _ _ r1
    subst r2 r1
    obtain ⟨o, e1, ws, e2, rf⟩ := a.own _ fd.mem
    subst e2
    exact ⟨_, _, .type "list", .type c, k, rfl, .ty c, .base (.lst e1), kit_ty hk, q (RB k) M1 _ G H hk2 (Same.refl _) a rfl⟩
/-- == and != of an owned list of ints -/
theorem opw_neO {ρ ρ' : Rep} {q : Addr} {ns : List Int} {u : ORep → Ow} {d : PyData} (sb : Sub ρ (RRef q)) (fd : Fnd M q (OL (ns.map RI)) u) (h2 : IsD X.K ρ' d) (s2 : SeqAt.shaped d = true) (s1 : SeqAt.shaped (.list (ns.map PyData.int)) = true) (k : Φ (RB (!PyData.eqv (.list (ns.map PyData.int)) d)) M) : OpW E Γ M (rNeD X.K) ρ ρ' Φ := fun σ G H a x y hx hy Q q0 => by
  have e : x = .ref q := sb _ _ hx
  subst e
  have e1 := own_ints a fd
  refine ⟨.list (ns.map PyData.int), d, .lst (.inl (.inl e1)) ?_, h2 y G H a.gh hy, s1, s2, q0 _ M _ G H k (Same.refl _) a rfl⟩
  exact isDs_map (f := RI) (g := PyData.int) (fun _ => isD_i) ns _ H H (Same.refl _) (reps_ints0 ns)
/-- == and != of an owned list of ints -/
theorem opw_eqI {ρ ρ' : Rep} {q : Addr} {ns : List Int} {u : ORep → Ow} {d : PyData} (sb : Sub ρ (RRef q)) (fd : Fnd M q (OL (ns.map RI)) u) (h2 : IsD X.K ρ' d) (s2 : SeqAt.shaped d = true) (s1 : SeqAt.shaped (.list (ns.map PyData.int)) = true) (k : Φ (RB (PyData.eqv (.list (ns.map PyData.int)) d)) M) : OpW E Γ M (rEqD X.K) ρ ρ' Φ := fun σ G H a x y hx hy Q q0 => by
  have e : x = .ref q := sb _ _ hx
  subst e
  have e1 := own_ints a fd
  refine ⟨.list (ns.map PyData.int), d, .lst (.inl (.inl e1)) ?_, h2 y G H a.gh hy, s1, s2, q0 _ M _ G H k (Same.refl _) a rfl⟩
  exact isDs_map (f := RI) (g := PyData.int) (fun _ => isD_i) ns _ H H (Same.refl _) (reps_ints0 ns)
end
end MM

namespace MM
open PySem L2 PyProof.Rows
theorem reps2 {ρ1 ρ2 : Rep} {vs : List V} {G : Hp} (h : Reps [ρ1, ρ2] vs G) : ∃ v w, vs = [v, w] ∧ ρ1.p v G ∧ ρ2.p w G :=
  match vs, h with
  | [v, w], ⟨a, b, _⟩ => ⟨v, w, rfl, a, b⟩
section
variable {X : Cx} {E : En} {Γ : Gm} {M : Ow} {a b e : Expr} {pos p : Pos}
/-- zip of two lists that stay as they are -/
theorem src_zip {Z : Ow → Nat → (Nat → Rep → Prop) → Prop} (h : WA X E Γ M [a, b] fun ρs M1 => ∃ r1 r2, SubL ρs [RL X.K r1, RL X.K r2] ∧ Z M1 (min r1.length r2.length) fun i ρ => ∃ ρ1 ρ2, r1[i]? = some ρ1 ∧ r2[i]? = some ρ2 ∧ ρ = RTt [ρ1, ρ2]) : Src X E Γ M (iZip X.K (tWA X [a, b])) Z :=
  ⟨fun {σ G H} R a' k => h σ G H a' _ fun ρs M1 vs G1 H1 ⟨l1, l2, sb, hz⟩ s1 a1 r1 => by
    obtain ⟨v, w, rfl, t1, t2⟩ := reps2 (sb.reps r1)
    obtain ⟨b1, vs1, e1, q1, t1⟩ := t1
    obtain ⟨b2, vs2, e2, q2, t2⟩ := t2
    subst e1 e2
    refine ⟨b1, b2, vs1, vs2, rfl, Same.seq a1.gh q1, Same.seq a1.gh q2, ?_⟩
    refine k _ _ _ _ _ _ hz s1 a1 fun i H2 G2 s2 g2 => ⟨fun hi => ?_, fun hi => ?_, fun x H3 hi hy => ?_⟩
    · have h1 : i < vs1.length := by rw [← t1.length]; omega
      have h2 : i < vs2.length := by rw [← t2.length]; omega
      exact ⟨vs1, vs2, vs1[i], vs2[i], Same.seq (s2.trans g2) q1, Same.seq (s2.trans g2) q2, List.getElem?_eq_getElem h1, List.getElem?_eq_getElem h2⟩
    · refine ⟨vs1, vs2, Same.seq (s2.trans g2) q1, Same.seq (s2.trans g2) q2, ?_⟩
      rw [← t1.length, ← t2.length]
      omega
    · obtain ⟨T, x', y', rfl, hT, rfl, f1, f2⟩ := hy
      obtain ⟨ρ1, i1, r1'⟩ := (t1.mono s2).get2 (f1 vs1 (Same.seq (s2.trans g2) q1))
      obtain ⟨ρ2, i2, r2'⟩ := (t2.mono s2).get2 (f2 vs2 (Same.seq (s2.trans g2) q2))
      have n := New.put (o := HO.tup [x', y']) g2 hT
      exact ⟨_, RTt [ρ1, ρ2], n, ⟨ρ1, ρ2, i1, i2, rfl⟩, T, [x', y'], rfl, upd_same, ρ1.mono _ _ _ n.gg r1', ρ2.mono _ _ _ n.gg r2', trivial⟩⟩
end
theorem cav_sum {K : PySem.W.Frag} {ns : List Int} : CaV (rSum K) [RLt (ns.map RI)] (RI ns.sum) := fun vs G H s r Q q => by
  match vs, r with
  | [v], ⟨⟨a, ws, e, h, rr⟩, _⟩ =>
    subst e
    rw [reps_RI rr] at h
    exact ⟨a, ns, rfl, .inl (.inl (s _ _ h)), q _ G H (New.refl s) rfl⟩
theorem eqv_ints {ns : List Int} : PyData.eqv (.list (ns.map PyData.int)) (.list (ns.map PyData.int)) = true := by
  have h : ∀ l : List Int, PyData.eqvAll (l.map PyData.int) (l.map PyData.int) = true := by
    intro l
    induction l with
    | nil => simp [PyData.eqvAll]
    | cons x l ih => simp [PyData.eqvAll, PyData.eqv, ih]
  simp only [PyData.eqv]
  exact h ns
theorem shaped_ints {ns : List Int} : SeqAt.shaped (.list (ns.map PyData.int)) = true := by
  have h : ∀ l : List Int, PyData.canLayAll0 (l.map PyData.int) = true := by
    intro l
    induction l with
    | nil => rfl
    | cons x l ih => simp [PyData.canLayAll0, PyData.canLay0, ih]
  have h2 : ∀ l : List Int, PyData.depthAll (l.map PyData.int) = 0 := by
    intro l
    induction l with
    | nil => rfl
    | cons x l ih => simp [PyData.depthAll, PyData.depth, ih]
  simp [SeqAt.shaped, PyData.canLay0, PyData.depth, h, h2]
theorem isD_ints {K : PySem.W.Frag} {ns : List Int} : IsD K (RLt (ns.map RI)) (.list (ns.map PyData.int)) := isD_lt (isDs_map (fun _ => isD_i) ns)
theorem atI_last {α : Type} {l : List α} {x : α} (h : l.getLast? = some x) : atI l (-1) = some x := by
  have hl : l ≠ [] := by
    intro e
    subst e
    cases h
  have h0 : 0 < l.length := List.length_pos_iff.mpr hl
  unfold atI ixN
  rw [if_neg (by decide)]
  rw [List.getLast?_eq_getElem?] at h
  rw [if_pos (by omega)]
  have e : ((-1 : Int) + (l.length : Int)).toNat = l.length - 1 := by omega
  rw [e]
  exact h
end MM

namespace MM
open PySem PySem.Spec L2 PyProof.Rows
/-! ### sum of a tuple -/
section
variable {P : Program} {w : World} {A : Around} {E : Value → Shared → Prop} {s : Shared}
theorem sum_tup {l : Addr} {its : List Value} {ns : List Int} {Q : Value → Shared → Prop} (hh : A.handled = none) (hl : s.heap.IsTuple l its.toArray) (hi : IntsAre its ns)
    (h : ∀ h' tk t', (∀ b o, s.heap.get? b = some o → h'.get? b = some o) → Q (.int ns.sum t') { s with heap := h', toks := tk }) : wpAny (model P w) A (call (.builtin "sum") [.ref l]) Q E s := by
  obtain ⟨xs, e⟩ := hi.allInts.items
  have hn : numsOf (intItems xs).toList = ns := by rw [← e]; exact hi.numsOf
  rw [nums_intItems] at hn
  rw [e] at hl
  have under : l < s.heap.objs.size := by
    obtain ⟨o, e, _⟩ := hl
    exact Heap.lt_size e
  refine call_sum_walkG (wpAny_pyIter_tuple hl ?_)
  refine ⟨_, _, _, _, _, _, numAt xs, rfl, Walks.tuple (A := A.in1) hh s.heap.objs.size l (Nat.ne_of_lt under) (intItems xs), ⟨⟨_, Heap.get?_push_size _ rfl, rfl, rfl⟩, hl.push _⟩, fun b hb => ?_, (fun _ _ => intItems_at), fun h' tk t' hk => ?_⟩
  · show b < (s.heap.push _).objs.size
    rw [Heap.size_push]
    rcases List.mem_cons.mp hb with z | z
    · rw [z]; exact Nat.lt_succ_self _
    · rw [List.mem_singleton.mp z]; exact Nat.lt_succ_of_lt under
  · have q := h h' tk t' fun b o e => hk b o (fun z => Nat.ne_of_lt (Heap.lt_size e) (List.mem_singleton.mp z)) (Heap.get?_push_of_some _ e)
    have e2 : preSum (numAt xs) (intItems xs).size = ns.sum := by
      rw [preSum_eq, List.take_of_length_le (by simp [intItems]), hn]
    rw [e2]
    exact q
end
section
variable {X : Cx}
def rSumT (K : PySem.W.Frag) : List V → Hp → VK → Prop := fun vs H Q => ∃ (a : Addr) (ns : List Int), vs = [V.ref a] ∧ SqT K H a (ns.map V.int) ∧ Q (.int ns.sum) H
theorem cr_sumT (hc : X.calm = true) : CallR X (.builtin "sum") (rSumT X.K) := by
  intro pins s σ H vs us Q I r h
  obtain ⟨a, ns, rfl, hs, q⟩ := h
  obtain ⟨its, rv, hl, _⟩ := I.tuple hs
  rw [Vals.ref1 r]
  exact sum_tup (I.ok.hd hc) hl (ints_of_vals rv) fun h' tk t' hk => ⟨.int _, H, I.kept hk, ⟨_, rfl⟩, q⟩
end
theorem cav_sumT {K : PySem.W.Frag} {ns : List Int} : CaV (rSumT K) [RTt (ns.map RI)] (RI ns.sum) := fun vs G H s r Q q => by
  match vs, r with
  | [v], ⟨⟨a, ws, e, h, rr⟩, _⟩ =>
    subst e
    rw [reps_RI rr] at h
    exact ⟨a, ns, rfl, SqT.of (s _ _ h), q _ G H (New.refl s) rfl⟩
section
variable {X : Cx} {E : En} {Γ : Gm} {M : Ow} {Φ : Rep → Ow → Prop} {K : PySem.W.Frag}
/-! ### max and min of a list -/
theorem caw_max {ns : List Int} (hl : 0 < ns.length) (k : ∀ m, m ∈ ns → (∀ y, y ∈ ns → y ≤ m) → Φ (RI m) M) : CaW E Γ M (rMax K) [RLt (ns.map RI)] Φ := fun σ G H at_ vs hv Q q => by
  match vs, hv with
  | [v], ⟨⟨a, ws, e, h, rr⟩, _⟩ =>
    subst e
    rw [reps_RI rr] at h
    exact ⟨a, ns, rfl, SqL.of (at_.gh _ _ h), hl, fun m h1 h2 => q _ _ _ _ _ (k m h1 h2) (Same.refl _) at_ rfl⟩
theorem caw_min {ns : List Int} (hl : 0 < ns.length) (k : ∀ m, m ∈ ns → (∀ y, y ∈ ns → m ≤ y) → Φ (RI m) M) : CaW E Γ M (rMin K) [RLt (ns.map RI)] Φ := fun σ G H at_ vs hv Q q => by
  match vs, hv with
  | [v], ⟨⟨a, ws, e, h, rr⟩, _⟩ =>
    subst e
    rw [reps_RI rr] at h
    exact ⟨a, ns, rfl, SqL.of (at_.gh _ _ h), hl, fun m h1 h2 => q _ _ _ _ _ (k m h1 h2) (Same.refl _) at_ rfl⟩
/-! ### sets of ints, owned -/
def OSt (w : World) (p : Addr) (ns : List Int) (c : Nat) : ORep := ⟨fun o _ => o = SetO w p (fun j => decide (j ∈ ns)) c, fun _ _ _ _ h => h⟩
theorem caw_setI {ns : List Int} (hE : ∀ a ∈ E.M, E.H a ≠ none) (hb : ns.length < 4000) (k : ∀ l c, l ∉ M.map (·.1) → l ∉ E.M → c ≤ ns.length → Φ (RRef l) ((l, OSt X.w l ns c) :: M)) : CaW E Γ M (rSetI X) [RLt (ns.map RI)] Φ := fun σ G H at_ vs hv Q q => by
  match vs, hv with
  | [v], ⟨⟨a, ws, e, h, rr⟩, _⟩ =>
    subst e
    rw [reps_RI rr] at h
    exact ⟨a, ns, rfl, SqL.of (at_.gh _ _ h), by unfold scanBound; omega, fun p c hp hc => q _ _ _ _ _ (k p c (at_.freshM hp) (fun z => hE p z (at_.fresh hp)) hc) (Same.refl _) (at_.own1 hp rfl) rfl⟩
theorem caw_sortedS {w : World} {l : Addr} {ns : List Int} {c : Nat} {u : ORep → Ow} {ρ : Rep} (hE : ∀ a ∈ E.M, E.H a ≠ none) (sb : Sub ρ (RRef l)) (fd : Fnd M l (OSt w l ns c) u) (hc : c < 64)
    (k : ∀ p (ks : List Int), p ∉ M.map (·.1) → p ∉ E.M → ks.Pairwise (· < ·) → (∀ j : Int, j ∈ ks ↔ j ∈ ns) → ks.length = c → Φ (RRef p) ((p, OL (ks.map RI)) :: M)) : CaW E Γ M (rSortedSet w) [ρ] Φ := fun σ G H at_ vs hv Q q => by
  match vs, hv with
  | [v], ⟨r, _⟩ =>
    have e : v = .ref l := sb _ _ r
    subst e
    obtain ⟨o, e1, e2⟩ := at_.own _ fd.mem
    have e2 : o = SetO w l (fun j => decide (j ∈ ns)) c := e2
    subst e2
    refine ⟨l, _, c, rfl, e1, hc, fun ks p h1 h2 h3 hp => ?_⟩
    exact q _ _ _ _ _ (k p ks (at_.freshM hp) (fun z => hE p z (at_.fresh hp)) h1 (fun j => (h2 j).trans (by rw [decide_eq_true_eq])) h3) (Same.refl _) (at_.own1 hp ⟨_, rfl, reps_ints0 ks⟩) rfl
/-! ### sorted of tuples -/
def RTI (ns : List Int) : Rep := RTt (ns.map RI)
theorem reps_perm2 {G : Hp} {ys xs : List V} (hp : ys.Perm xs) : ∀ {ρs : List Rep}, Reps ρs xs G → ∃ ρs', ρs'.Perm ρs ∧ Reps ρs' ys G := by
  induction hp with
  | nil => exact fun {ρs} r => ⟨ρs, List.Perm.refl _, r⟩
  | cons x _ ih =>
    intro ρs r
    cases ρs with
    | nil => exact r.elim
    | cons ρ ρs =>
      obtain ⟨ρs', p, r'⟩ := ih r.2
      exact ⟨ρ :: ρs', p.cons _, r.1, r'⟩
  | swap x y l =>
    intro ρs r
    match ρs, r with
    | ρ1 :: ρ2 :: ρs, ⟨r1, r2, r3⟩ => exact ⟨ρ2 :: ρ1 :: ρs, List.Perm.swap _ _ _, r2, r1, r3⟩
  | trans _ _ ih1 ih2 =>
    intro ρs r
    obtain ⟨ρs1, p1, r1⟩ := ih2 r
    obtain ⟨ρs2, p2, r2⟩ := ih1 r1
    exact ⟨ρs2, p2.trans p1, r2⟩
theorem perm_map {α β : Type} {f : α → β} : ∀ {l : List β} {xs : List α}, l.Perm (xs.map f) → ∃ ys : List α, l = ys.map f ∧ ys.Perm xs := by
  intro l
  induction l with
  | nil =>
    intro xs h
    have h := h.nil_eq
    have : xs = [] := by simpa using h.symm
    exact ⟨[], rfl, by rw [this]⟩
  | cons b l ih =>
    intro xs h
    have hm : b ∈ xs.map f := h.mem_iff.mp List.mem_cons_self
    obtain ⟨a, ha, rfl⟩ := List.mem_map.mp hm
    obtain ⟨s, t, rfl⟩ := List.append_of_mem ha
    have h2 : (f a :: l).Perm (f a :: (s ++ t).map f) := h.trans (by
      simp only [List.map_append, List.map_cons]
      exact List.perm_middle)
    obtain ⟨ys, rfl, p⟩ := ih ((List.perm_cons _).mp h2)
    exact ⟨a :: ys, rfl, (p.cons a).trans List.perm_middle.symm⟩
theorem caw_sortT {d : Nat} {B : Int} {rows : List (List Int)} (hE : ∀ a ∈ E.M, E.H a ≠ none) (hl : rows.length < 64) (hr : ∀ r ∈ rows, r.length = d ∧ TS.Bd B r)
    (k : ∀ p (rows' : List (List Int)), p ∉ M.map (·.1) → p ∉ E.M → rows'.Perm rows → Φ (RRef p) ((p, OL (rows'.map RTI)) :: M)) : CaW E Γ M (rSortU K d B) [RLt (rows.map RTI)] Φ := fun σ G H at_ vs hv Q q => by
  match vs, hv with
  | [v], ⟨⟨a, ws, e, h, rr⟩, _⟩ =>
    subst e
    have hlen : ws.length = rows.length := by rw [← rr.length, List.length_map]
    refine ⟨a, ws, rfl, SqL.of (at_.gh _ _ h), by omega, fun x hx => ?_, fun ys p hp _ hn => ?_⟩
    · obtain ⟨i, hi⟩ := List.getElem?_of_mem hx
      obtain ⟨ρ, e1, r1⟩ := rr.get2 hi
      rw [List.getElem?_map] at e1
      cases e2 : rows[i]? with
      | none =>
        rw [e2] at e1
        cases e1
      | some r =>
        rw [e2] at e1
        have e1 : RTI r = ρ := Option.some.inj e1
        subst e1
        obtain ⟨t, ts, et, ht, rt⟩ := r1
        rw [reps_RI rt] at ht
        obtain ⟨h1, h2⟩ := hr r (List.mem_of_getElem? e2)
        exact ⟨r, ⟨t, et, SqT.of (at_.gh _ _ ht)⟩, h1, h2⟩
    · obtain ⟨ρs', p1, r1⟩ := reps_perm2 hp rr
      obtain ⟨rows', rfl, p2⟩ := perm_map p1
      exact q _ _ _ _ _ (k p rows' (at_.freshM hn) (fun z => hE p z (at_.fresh hn)) p2) (Same.refl _) (at_.own1 hn ⟨_, rfl, r1⟩) rfl
end
/-! ### in -/
theorem opv_inD {K : PySem.W.Frag} {ρ ρ' : Rep} {d : PyData} {ds : List PyData} (h1 : IsD K ρ d) (h2 : IsD K ρ' (.list ds)) (s1 : SeqAt.shaped d = true) (s2 : SeqAt.shaped (.list ds) = true) : OpV (rInD K) ρ ρ' (RB (ds.any fun z => PyData.eqv z d)) := fun x y G H s hx hy Q q =>
  ⟨d, ds, h1 x G H s hx, h2 y G H s hy, s1, s2, q _ G H (New.refl s) rfl⟩
theorem opv_notInD {K : PySem.W.Frag} {ρ ρ' : Rep} {d : PyData} {ds : List PyData} (h1 : IsD K ρ d) (h2 : IsD K ρ' (.list ds)) (s1 : SeqAt.shaped d = true) (s2 : SeqAt.shaped (.list ds) = true) : OpV (rNotInD K) ρ ρ' (RB (!ds.any fun z => PyData.eqv z d)) := fun x y G H s hx hy Q q =>
  ⟨d, ds, h1 x G H s hx, h2 y G H s hy, s1, s2, q _ G H (New.refl s) rfl⟩
theorem room65 {k : Nat} {A : Around} (r : Room k A) : A.units + 65 < cLine := by
  have := r.un
  omega
def dTI (ns : List Int) : PyData := .tuple (ns.map PyData.int)
theorem isD_ti {K : PySem.W.Frag} {ns : List Int} : IsD K (RTI ns) (dTI ns) := isD_tt (isDs_map (fun _ => isD_i) ns)
theorem isD_tis {K : PySem.W.Frag} {rows : List (List Int)} : IsD K (RLt (rows.map RTI)) (.list (rows.map dTI)) := isD_lt (isDs_map (fun _ => isD_ti) rows)
theorem lay_ints : ∀ ns : List Int, PyData.canLayAll0 (ns.map PyData.int) = true
  | [] => rfl
  | n :: ns => by
    rw [List.map_cons]
    simp [PyData.canLayAll0, PyData.canLay0, lay_ints ns]
theorem deep_ints : ∀ ns : List Int, PyData.depthAll (ns.map PyData.int) = 0
  | [] => rfl
  | n :: ns => by
    rw [List.map_cons]
    simp [PyData.depthAll, PyData.depth, deep_ints ns]
theorem shaped_ti {ns : List Int} : SeqAt.shaped (dTI ns) = true := by
  simp [dTI, SeqAt.shaped, PyData.canLay0, PyData.depth, lay_ints, deep_ints]
theorem shaped_tis {rows : List (List Int)} : SeqAt.shaped (.list (rows.map dTI)) = true := by
  have h1 : ∀ rows : List (List Int), PyData.canLayAll0 (rows.map dTI) = true := by
    intro rows
    induction rows with
    | nil => rfl
    | cons r rows ih => simp [PyData.canLayAll0, PyData.canLay0, dTI, lay_ints, ih]
  have h2 : ∀ rows : List (List Int), PyData.depthAll (rows.map dTI) ≤ 1 := by
    intro rows
    induction rows with
    | nil => simp [PyData.depthAll]
    | cons r rows ih =>
      simp only [List.map_cons, PyData.depthAll, dTI, PyData.depth, deep_ints]
      omega
  have := h2 rows
  have lim : 1 + PyData.depthAll (rows.map dTI) ≤ 32 := by omega
  simp only [SeqAt.shaped, PyData.canLay0, PyData.depth, h1]
  simp
  omega
theorem eqv_ti {a b : List Int} : PyData.eqv (dTI a) (dTI b) = decide (a = b) := by
  have h : ∀ a b : List Int, PyData.eqvAll (a.map PyData.int) (b.map PyData.int) = decide (a = b) := by
    intro a
    induction a with
    | nil =>
      intro b
      cases b with
      | nil => simp [PyData.eqvAll]
      | cons y b => simp [PyData.eqvAll]
    | cons x a ih =>
      intro b
      cases b with
      | nil => simp [PyData.eqvAll]
      | cons y b =>
        simp only [List.map_cons, PyData.eqvAll, PyData.eqv, ih]
        by_cases h1 : x = y <;> by_cases h2 : a = b <;> simp [h1, h2]
  show PyData.eqvAll _ _ = _
  exact h a b
theorem any_ti {a : List Int} {rows : List (List Int)} : ((rows.map dTI).any fun z => PyData.eqv z (dTI a)) = decide (a ∈ rows) := by
  rw [List.any_map]
  rw [Bool.eq_iff_iff, List.any_eq_true, decide_eq_true_eq]
  constructor
  · rintro ⟨r, hr, e⟩
    have e : PyData.eqv (dTI r) (dTI a) = true := e
    rw [eqv_ti, decide_eq_true_eq] at e
    rw [← e]; exact hr
  · intro h
    refine ⟨a, h, ?_⟩
    show PyData.eqv (dTI a) (dTI a) = true
    rw [eqv_ti, decide_eq_true_eq]
end MM

namespace MM
open PySem L2 PyProof.Rows
section
variable {X : Cx} {E : En} {Γ : Gm} {M : Ow} {a : Expr} {pos p2 : Pos} {Φ : Rep → Ow → Prop} {lo hi : Option Expr}
/-- a slice of a tuple, not the whole of it -/
theorem we_slT (h : WE X E Γ M a fun ρ M1 => ∃ ρs, Sub ρ (RT X.K ρs) ∧ WO X E Γ M1 lo fun l M2 => WO X E Γ M2 hi fun u M3 => ¬ (HT.sIx ρs.length 0 l = 0 ∧ HT.sIx ρs.length ρs.length u = ρs.length) ∧ Φ (RTt (cutL ρs l u)) M3) : WE X E Γ M (.Subscript a (.Slice lo hi none p2) pos) Φ :=
  we_of (pe_slice sl_tup pe_w po_w po_w) fun σ G H at' Q q => h σ G H at' _ fun ρ M1 x G1 H1 ⟨ρs, sb, h1⟩ s1 a1 r1 => h1 σ G1 H1 a1 _ fun l M2 G2 H2 h2 s2 a2 => h2 σ G2 H2 a2 _ fun u M3 G3 H3 ⟨hw, hk⟩ s3 a3 => by
    obtain ⟨b, vs, e, hq, rr⟩ := sb _ _ (ρ.mono _ _ _ (s2.trans s3) r1)
    refine ⟨b, vs, e, same_seqT a3.gh hq, by rw [← rr.length]; exact hw, fun p hp => ?_⟩
    have n : New G3 H3 (upd G3 p (.tup (cutV vs l u))) (upd H3 p (.tup (cutV vs l u))) := New.put a3.gh hp
    exact q _ M3 _ _ _ hk ((s1.trans (s2.trans s3)).trans n.gg) (a3.new n) ⟨p, _, rfl, upd_same, (reps_cut rr l u).mono n.gg⟩
end
theorem cut3 {α : Type} {a b c : α} : cutL [a, b, c] (some 1) none = [b, c] := rfl
end MM

namespace MM
open PySem L2 PyProof.Rows
section
variable {X : Cx} {E : En} {Γ : Gm} {M M' : Ow} {Ψ : Ed} {st : List Stmt} {σ : L2.St} {G H : Hp}
/-- an owned thing is forgotten -/
theorem wss_drop {p : Addr} {r : ORep} (rm : Rm M p r M') (h : WSs X E Γ M' st Ψ) : WSs X E Γ M st Ψ := fun σ G H a D k => h σ G H (a.drop rm) D k
theorem At.perm (a : At E Γ M σ G H) (hm : ∀ q ∈ M', q ∈ M) (nd : (M'.map (·.1)).Nodup) : At E Γ M' σ G H :=
  ⟨a.len, a.env, a.gh, fun q hq => a.own q (hm q hq), fun q hq => a.gn q (hm q hq), nd, a.g0, a.keep, a.nw, fun q hq => a.loc q (hm q hq), a.there⟩
/-- the first two change places -/
theorem wss_swap {x y : Addr × ORep} (h : WSs X E Γ (y :: x :: M) st Ψ) : WSs X E Γ (x :: y :: M) st Ψ := fun σ G H a D k =>
  h σ G H (a.perm (fun q hq => by
    rcases List.mem_cons.mp hq with e | hq
    · subst e; exact List.mem_cons_of_mem _ List.mem_cons_self
    · rcases List.mem_cons.mp hq with e | hq
      · subst e; exact List.mem_cons_self
      · exact List.mem_cons_of_mem _ (List.mem_cons_of_mem _ hq)) (by
    have n := a.nd
    simp only [List.map_cons, List.nodup_cons, List.mem_cons, not_or] at n ⊢
    exact ⟨⟨fun e => n.1.1 e.symm, n.2.1⟩, n.1.2, n.2.2⟩)) D k
end
/-- tuple + tuple, neither empty -/
theorem opv_add_t {K : PySem.W.Frag} {ρ ρ' : Rep} {ρs ρs' : List Rep} (h : (ρ :: ρs).length + (ρ' :: ρs').length ≤ 100000) : OpV (rAddU K) (RTt (ρ :: ρs)) (RTt (ρ' :: ρs')) (RTt ((ρ :: ρs) ++ (ρ' :: ρs'))) := fun x y G H s ⟨a, xs, e1, h1, r1⟩ ⟨b, ys, e2, h2, r2⟩ Q q => by
  subst e1 e2
  have hx : xs ≠ [] := fun z => by subst z; exact r1.elim
  have hy : ys ≠ [] := fun z => by subst z; exact r2.elim
  refine .inr (.inr (.inr ⟨a, b, xs, ys, rfl, rfl, .inl (.inl (s _ _ h1)), .inl (.inl (s _ _ h2)), hx, by rw [← r1.length, ← r2.length]; exact szOf h, fun z => absurd z hy, fun _ p hp => ?_⟩))
  have n : New G H (upd G p (.tup (xs ++ ys))) (upd H p (.tup (xs ++ ys))) := New.put s hp
  exact q _ _ _ n ⟨p, _, rfl, upd_same, (r1.app r2).mono n.gg⟩
end MM

namespace MM
open PySem L2 PyProof.Rows
/-! ### a calendar's days -/
def Cal.st (c : Cal) (k : Int) : Int := (c.moon + c.month * (k : Rat)).floor
def Cal.tw (c : Cal) : Rat := c.year / 12
def Cal.md (c : Cal) (j : Int) : Int := (c.mark + c.tw * (j : Rat)).floor
def Cal.ma (c : Cal) (d : Int) : Int := ((((d + 1 : Int) : Rat) - c.moon) / c.month).ceil - 1
def Cal.mf (c : Cal) (d : Int) : Int := (((d : Rat) - c.mark) / c.tw).ceil
def Cal.mw (c : Cal) (j : Int) : Int := c.ma (c.md j)
def Cal.mi (c : Cal) (k : Int) : Option Int := if c.md (c.mf (c.st k)) < c.st (k + 1) then some (c.mf (c.st k)) else none
structure CalF (c : Cal) : Prop where
  m1 : 1 ≤ c.month
  tc : (c.month.ceil : Rat) ≤ c.tw
  tm : c.year + 1 ≤ c.month * 13
theorem calF_of {c : Cal} (h : fault c.month c.year = "") : CalF c := by
  unfold fault at h
  split at h
  · exact absurd h (by decide +kernel)
  split at h
  · exact absurd h (by decide +kernel)
  split at h
  · exact absurd h (by decide +kernel)
  refine ⟨by grind, ?_, by grind⟩
  unfold Cal.tw
  grind
theorem le_ceil (q : Rat) : q ≤ (q.ceil : Rat) := Rat.ceil_le_iff.mp (Int.le_refl _)
theorem CalF.mp {c : Cal} (h : CalF c) : 0 < c.month := by have := h.m1; grind
theorem CalF.t1 {c : Cal} (h : CalF c) : c.month ≤ c.tw := Rat.le_trans (le_ceil _) h.tc
theorem CalF.tp {c : Cal} (h : CalF c) : 0 < c.tw := by have := h.mp; have := h.t1; grind
theorem floor_le' (q : Rat) : (q.floor : Rat) ≤ q := Rat.le_floor_iff.mp (Int.le_refl _)
theorem lt_floor' (q : Rat) : q < (q.floor : Rat) + 1 := by
  have h : ¬ (q.floor + 1 ≤ q.floor) := by omega
  rw [Rat.le_floor_iff] at h
  have e : ((q.floor + 1 : Int) : Rat) = (q.floor : Rat) + 1 := by push_cast; rfl
  rw [e] at h
  grind
theorem ceil_lt' (q : Rat) : (q.ceil : Rat) < q + 1 := by
  have h : ¬ (q.ceil ≤ q.ceil - 1) := by omega
  rw [Rat.ceil_le_iff] at h
  have e : ((q.ceil - 1 : Int) : Rat) = (q.ceil : Rat) - 1 := by push_cast; rfl
  rw [e] at h
  grind
theorem div_lt_of {a b k : Rat} (hb : 0 < b) : k < a / b ↔ k * b < a := by
  rw [Rat.lt_div_iff hb]
theorem le_ceil_pred {q : Rat} {k : Int} : k ≤ q.ceil - 1 ↔ (k : Rat) < q := by
  have h := @Rat.ceil_le_iff q k
  constructor
  · intro hk
    have : ¬ q.ceil ≤ k := by omega
    rw [h] at this
    grind
  · intro hk
    have : ¬ q.ceil ≤ k := by
      rw [h]; grind
    omega
theorem floor_lt_int {q : Rat} {n : Int} : q.floor < n ↔ q < (n : Rat) := by
  have h := @Rat.le_floor_iff n q
  constructor
  · intro hk
    have : ¬ n ≤ q.floor := by omega
    rw [h] at this
    grind
  · intro hk
    have : ¬ n ≤ q.floor := by rw [h]; grind
    omega
/-- a month begins not behind a day just where it is not behind the day's month -/
theorem st_le {c : Cal} (h : CalF c) {k d : Int} : c.st k ≤ d ↔ k ≤ c.ma d := by
  have hm := h.mp
  unfold Cal.st Cal.ma
  rw [le_ceil_pred, Rat.lt_div_iff hm]
  have : (c.moon + c.month * (k : Rat)).floor ≤ d ↔ (c.moon + c.month * (k : Rat)).floor < d + 1 := by omega
  rw [this, floor_lt_int]
  constructor <;> intro hh <;> grind
theorem md_ge {c : Cal} (h : CalF c) {j d : Int} : d ≤ c.md j ↔ c.mf d ≤ j := by
  have ht := h.tp
  unfold Cal.md Cal.mf
  rw [Rat.le_floor_iff, Rat.ceil_le_iff]
  have e := Rat.lt_div_iff (a := (j : Rat)) (b := (d : Rat) - c.mark) ht
  constructor
  · intro hh
    have : ¬ (j : Rat) < ((d : Rat) - c.mark) / c.tw := by rw [e]; grind
    grind
  · intro hh
    have : ¬ (j : Rat) * c.tw < (d : Rat) - c.mark := by rw [← e]; grind
    grind
/-! ### months and marks -/
theorem tw_le {c : Cal} (h : CalF c) : c.tw * 12 + 1 ≤ c.month * 13 := by
  have := h.tm
  unfold Cal.tw
  grind
theorem mi_prev {c : Cal} (h : CalF c) {k : Int} (hn : ¬ c.md (c.mf (c.st k)) < c.st (k + 1)) : c.mi (k - 1) = some (c.mf (c.st k) - 1) := by
  have hm := h.m1
  have ht := tw_le h
  have g0 : c.st (k + 1) ≤ c.md (c.mf (c.st k)) := by omega
  have g1 : ¬ c.st k ≤ c.md (c.mf (c.st k) - 1) := by rw [md_ge h]; omega
  generalize hj : c.mf (c.st k) = j at g0 g1 ⊢
  -- in numbers
  have a1 : ((c.st (k + 1) : Int) : Rat) ≤ c.mark + c.tw * (j : Rat) := by
    have := Rat.le_trans (a := ((c.st (k + 1) : Int) : Rat)) (b := ((c.md j : Int) : Rat)) (by exact_mod_cast g0) (floor_le' _)
    exact this
  have a2 : c.mark + c.tw * ((j - 1 : Int) : Rat) < (c.st k : Rat) := by
    rw [← floor_lt_int]
    show c.md (j - 1) < c.st k
    omega
  have e1 : ((j - 1 : Int) : Rat) = (j : Rat) - 1 := by push_cast; rfl
  have e2 : ((j - 1 - 1 : Int) : Rat) = (j : Rat) - 2 := by push_cast; grind
  have e3 : ((k + 1 : Int) : Rat) = (k : Rat) + 1 := by push_cast; rfl
  have e4 : ((k - 1 : Int) : Rat) = (k : Rat) - 1 := by push_cast; rfl
  have b1 : c.moon + c.month * ((k + 1 : Int) : Rat) < (c.st (k + 1) : Rat) + 1 := lt_floor' _
  have b2 : (c.st (k - 1) : Rat) ≤ c.moon + c.month * ((k - 1 : Int) : Rat) := floor_le' _
  have b3 : (c.st k : Rat) ≤ c.moon + c.month * (k : Rat) := floor_le' _
  rw [e1] at a2
  rw [e3] at b1
  have A : c.st (k - 1) ≤ c.md (j - 1) := by
    unfold Cal.md
    rw [Rat.le_floor_iff, e1]
    rw [e4] at b2
    grind
  have B : ¬ c.st (k - 1) ≤ c.md (j - 1 - 1) := by
    have hc := le_ceil c.month
    have htc := h.tc
    have C : c.st k - c.month.ceil ≤ c.st (k - 1) := by
      show _ ≤ (c.moon + c.month * ((k - 1 : Int) : Rat)).floor
      rw [Rat.le_floor_iff, e4]
      have e5 : ((c.st k - c.month.ceil : Int) : Rat) = (c.st k : Rat) - (c.month.ceil : Rat) := by push_cast; rfl
      rw [e5]
      grind
    have D : c.md (j - 1 - 1) < c.st k - c.month.ceil := by
      unfold Cal.md
      rw [floor_lt_int, e2]
      have e5 : ((c.st k - c.month.ceil : Int) : Rat) = (c.st k : Rat) - (c.month.ceil : Rat) := by push_cast; rfl
      rw [e5]
      grind
    omega
  have E : c.mf (c.st (k - 1)) = j - 1 := by
    rw [md_ge h] at A B
    omega
  unfold Cal.mi
  rw [E]
  have F : k - 1 + 1 = k := by omega
  rw [F, if_pos (by omega)]
/-! ### the first guesses -/
theorem ediv_rt {a b : Int} (hb : 0 < b) : ((a / b : Int) : Rat) ≤ rt a b := by
  have h1 : a / b * b ≤ a := Int.ediv_mul_le a (by omega)
  have h2 : ((a / b : Int) : Rat) * (b : Rat) ≤ (a : Rat) := by exact_mod_cast h1
  have h3 : (0 : Rat) < (b : Rat) := by exact_mod_cast hb
  rw [rt, Rat.divInt_eq_div]
  have e := Rat.lt_div_iff (a := ((a / b : Int) : Rat)) (b := (a : Rat)) h3
  have e2 : (a : Rat) / (b : Rat) * (b : Rat) = (a : Rat) := Rat.div_mul_cancel (by grind)
  have : ¬ (a : Rat) / (b : Rat) < ((a / b : Int) : Rat) := by
    intro hh
    have := Rat.mul_lt_mul_of_pos_right hh h3
    grind
  grind
theorem num_pos' {q : Rat} (h : 0 < q) : 0 < q.num := by
  have h1 : 0 ≤ q.num := Rat.num_nonneg.mpr (by grind)
  have h2 := num_ne (q := q) (by grind)
  omega
theorem k0_le {c : Cal} (h : CalF c) {d : Int} {x : Rat} (hx : x = (d : Rat) - c.moon) : x.num * c.month.den / (x.den * c.month.num) ≤ c.ma d := by
  have hm := h.mp
  have hn : 0 < c.month.num := num_pos' hm
  have q := ediv_rt (a := x.num * c.month.den) (b := x.den * c.month.num) (Int.mul_pos (den_pos x) hn)
  rw [div_q] at q
  rw [← st_le h]
  generalize x.num * c.month.den / (x.den * c.month.num) = i at q ⊢
  have q2 : (i : Rat) * c.month ≤ x := by
    have e2 : x / c.month * c.month = x := Rat.div_mul_cancel (by grind)
    have := Rat.mul_le_mul_of_nonneg_right q (by grind : 0 ≤ c.month)
    grind
  show (c.moon + c.month * (i : Rat)).floor ≤ d
  have : (c.moon + c.month * (i : Rat)).floor < d + 1 := by
    rw [floor_lt_int]
    have e3 : ((d + 1 : Int) : Rat) = (d : Rat) + 1 := by push_cast; rfl
    rw [e3]
    grind
  omega
theorem j0_le {c : Cal} (h : CalF c) {d : Int} {x : Rat} (hx : x = (d : Rat) - c.mark) : x.num * 12 * c.year.den / (x.den * c.year.num) ≤ c.mf d := by
  have ht := h.tp
  have hy : 0 < c.year := by unfold Cal.tw at ht; grind
  have hn : 0 < c.year.num := num_pos' hy
  have q := ediv_rt (a := x.num * 12 * c.year.den) (b := x.den * c.year.num) (Int.mul_pos (den_pos x) hn)
  have e : rt (x.num * 12 * c.year.den) (x.den * c.year.num) = 12 * (x / c.year) := by
    rw [← div_q, rt, rt, Rat.divInt_eq_div, Rat.divInt_eq_div]
    have : ((x.num * 12 * (c.year.den : Int) : Int) : Rat) = 12 * ((x.num * (c.year.den : Int) : Int) : Rat) := by push_cast; grind
    rw [this]
    grind
  rw [e] at q
  generalize x.num * 12 * c.year.den / (x.den * c.year.num) = i at q ⊢
  have q2 : (i : Rat) * c.tw ≤ x := by
    have e2 : x / c.year * c.year = x := Rat.div_mul_cancel (by grind)
    have := Rat.mul_le_mul_of_nonneg_right q (by grind : 0 ≤ c.tw)
    unfold Cal.tw at this ⊢
    grind
  have q3 : (i : Rat) < (c.mf d : Rat) + 1 := by
    have l := le_ceil (((d : Rat) - c.mark) / c.tw)
    have e2 : ((d : Rat) - c.mark) / c.tw * c.tw = (d : Rat) - c.mark := Rat.div_mul_cancel (by grind)
    have : ¬ (c.mf d : Rat) + 1 ≤ (i : Rat) := by
      intro hh
      have l1 := Rat.mul_le_mul_of_nonneg_right hh (by grind : 0 ≤ c.tw)
      have l2 := Rat.mul_le_mul_of_nonneg_right l (by grind : 0 ≤ c.tw)
      unfold Cal.mf at l1
      grind
    grind
  have e3 : ((c.mf d + 1 : Int) : Rat) = (c.mf d : Rat) + 1 := by push_cast; rfl
  rw [← e3] at q3
  have q4 : i < c.mf d + 1 := by exact_mod_cast q3
  omega
/-! ### names of months -/
def Cal.nm (c : Cal) (k : Int) : Int × Int × Bool := match c.mi k with
  | some j => (j / 12, j % 12 + 1, false)
  | none => ((c.mf (c.st k) - 1) / 12, (c.mf (c.st k) - 1) % 12 + 1, true)
/-! ### sizes -/
theorem sz_12 : Sz 5 (12 : Rat) := by
  have : (12 : Rat) = ((12 : Int) : Rat) := rfl
  rw [this]
  exact sz_int (show (12 : Int).natAbs < 2 ^ 5 by decide) (by decide)
theorem CalOk.f {c : Cal} (h : CalOk c) : CalF c := calF_of h.ft
theorem sz_tw {c : Cal} (h : CalOk c) : Sz 205 c.tw := sz_div h.y sz_12 (by decide)
theorem bd_st {c : Cal} (h : CalOk c) {k : Int} {n : Nat} (z : Bd n k) (hn : 1 ≤ n) : Bd (n + 410) (c.st k) :=
  (bd_floor (sz_add h.o (sz_mul h.m (sz_int z hn)))).mono (by omega)
theorem bd_md {c : Cal} (h : CalOk c) {k : Int} {n : Nat} (z : Bd n k) (hn : 1 ≤ n) : Bd (n + 410) (c.md k) :=
  (bd_floor (sz_add h.k (sz_mul (sz_tw h) (sz_int z hn)))).mono (by omega)
theorem bd_add1 {n : Nat} {k : Int} (z : Bd n k) (hn : 1 ≤ n) : Bd (n + 1) (k + 1) := (bd_add z (bd_one hn)).mono (by rw [Nat.max_self]; exact Nat.le_refl _)
theorem bd_sub1 {n : Nat} {k : Int} (z : Bd n k) (hn : 1 ≤ n) : Bd (n + 1) (k - 1) := (bd_sub z (bd_one hn)).mono (by rw [Nat.max_self]; exact Nat.le_refl _)
theorem bd_ma {c : Cal} (h : CalOk c) {k : Int} {n : Nat} (z : Bd n k) (hn : 1 ≤ n) : Bd (n + 410) (c.ma k) := by
  have hm := h.f.mp
  have z2 := sz_sub (sz_int (bd_add1 z hn) (by omega)) h.o
  have z3 := bd_ceil (sz_div z2 h.m (by grind))
  exact (bd_sub1 z3 (by omega)).mono (by omega)
theorem bd_mf {c : Cal} (h : CalOk c) {k : Int} {n : Nat} (z : Bd n k) (hn : 1 ≤ n) : Bd (n + 410) (c.mf k) := by
  have ht := h.f.tp
  exact (bd_ceil (sz_div (sz_sub (sz_int z hn) h.k) (sz_tw h) (by grind))).mono (by omega)
theorem bd_between {n : Nat} {a b k : Int} (ha : Bd n a) (hb : Bd n b) (h1 : a ≤ k) (h2 : k ≤ b) : Bd n k := by
  have ha : a.natAbs < 2 ^ n := ha
  have hb : b.natAbs < 2 ^ n := hb
  show k.natAbs < 2 ^ n
  omega
def RNm (n : Int × Int × Bool) : Rep := RTt [RI n.1, RI n.2.1, RB n.2.2]
theorem nm_some {c : Cal} {k j : Int} (h : c.mi k = some j) : c.nm k = (j / 12, j % 12 + 1, false) := by
  unfold Cal.nm
  rw [h]
theorem nm_none {c : Cal} {k : Int} (h : c.mi k = none) : c.nm k = ((c.mf (c.st k) - 1) / 12, (c.mf (c.st k) - 1) % 12 + 1, true) := by
  unfold Cal.nm
  rw [h]
end MM

namespace MM
open PySem L2 PyProof.Rows
/-! ### tighter sizes -/
def pw2 (n : Nat) : Rat := (((2 ^ n : Nat) : Int) : Rat)
def Ab (n : Nat) (q : Rat) : Prop := -(pw2 n) < q ∧ q < pw2 n
theorem pw2_pos (n : Nat) : 0 < pw2 n := by
  have : (0 : Int) < ((2 ^ n : Nat) : Int) := by
    have := Nat.two_pow_pos n
    omega
  unfold pw2
  exact_mod_cast this
theorem pw2_add (n m : Nat) : pw2 (n + m) = pw2 n * pw2 m := by
  unfold pw2
  rw [Nat.pow_add]
  push_cast
  rfl
theorem pw2_max {n m : Nat} : pw2 n + pw2 m ≤ pw2 (max n m + 1) := by
  have h := @pow_max n m
  have h2 : ((2 ^ n : Nat) : Int) + ((2 ^ m : Nat) : Int) ≤ ((2 ^ (max n m + 1) : Nat) : Int) := by exact_mod_cast h
  unfold pw2
  exact_mod_cast h2
theorem pw2_mono {n m : Nat} (l : n ≤ m) : pw2 n ≤ pw2 m := by
  have h := pow2_le l
  have h2 : ((2 ^ n : Nat) : Int) ≤ ((2 ^ m : Nat) : Int) := by exact_mod_cast h
  unfold pw2
  exact_mod_cast h2
theorem Ab.mono {n m : Nat} {q : Rat} (h : Ab n q) (l : n ≤ m) : Ab m q := by
  have := pw2_mono l
  unfold Ab at *
  grind
theorem ab_sz {n : Nat} {q : Rat} (z : Sz n q) : Ab n q := by
  have e : q * (q.den : Rat) = (q.num : Rat) := by
    have h := rt_self q
    rw [rt, Rat.divInt_eq_div] at h
    have h0 : ((q.den : Int) : Rat) ≠ 0 := by
      have := den_ne q
      exact_mod_cast this
    have h2 := Rat.div_mul_cancel (a := (q.num : Rat)) h0
    rw [h] at h2
    exact h2
  have d1 : (1 : Rat) ≤ (q.den : Rat) := by
    have : 1 ≤ q.den := q.den_pos
    exact_mod_cast this
  have h1 := z.num.lo
  have h2 := z.num.hi
  have h3 : -(pw2 n) < (q.num : Rat) := by unfold pw2; exact_mod_cast h1
  have h4 : (q.num : Rat) < pw2 n := by unfold pw2; exact_mod_cast h2
  unfold Ab
  generalize pw2 n = B at h3 h4 ⊢
  constructor
  · by_cases hq : 0 ≤ q
    · have : 0 ≤ q * (q.den : Rat) := Rat.mul_nonneg hq (by grind)
      have := Rat.mul_le_mul_of_nonneg_left d1 hq
      grind
    · have := Rat.mul_le_mul_of_nonneg_left d1 (by grind : 0 ≤ -q)
      grind
  · by_cases hq : 0 ≤ q
    · have := Rat.mul_le_mul_of_nonneg_left d1 hq
      grind
    · have := Rat.mul_le_mul_of_nonneg_left d1 (by grind : 0 ≤ -q)
      grind
theorem ab_int {n : Nat} {i : Int} (h : Bd n i) : Ab n (i : Rat) := by
  have h1 := h.lo
  have h2 := h.hi
  unfold Ab pw2
  constructor
  · exact_mod_cast h1
  · exact_mod_cast h2
theorem ab_add {n m : Nat} {p q : Rat} (hp : Ab n p) (hq : Ab m q) : Ab (max n m + 1) (p + q) := by
  have := @pw2_max n m
  unfold Ab at *
  grind
theorem ab_sub {n m : Nat} {p q : Rat} (hp : Ab n p) (hq : Ab m q) : Ab (max n m + 1) (p - q) := by
  have := @pw2_max n m
  unfold Ab at *
  grind
theorem ab_mul {n m : Nat} {p q : Rat} (hp : Ab n p) (hq : Ab m q) : Ab (n + m) (p * q) := by
  obtain ⟨h1, h2⟩ := hp
  obtain ⟨h3, h4⟩ := hq
  unfold Ab
  rw [pw2_add]
  generalize pw2 n = A at *
  generalize pw2 m = B at *
  have a1 : 0 < A - p := by grind
  have a2 : 0 < A + p := by grind
  have b1 : 0 < B - q := by grind
  have b2 : 0 < B + q := by grind
  have c1 := Rat.mul_pos a1 b2
  have c2 := Rat.mul_pos a2 b1
  have c3 := Rat.mul_pos a1 b1
  have c4 := Rat.mul_pos a2 b2
  constructor <;> grind
theorem ab_div {n : Nat} {p q : Rat} (hp : Ab n p) (hq : 1 ≤ q) : Ab n (p / q) := by
  obtain ⟨h1, h2⟩ := hp
  have hb := pw2_pos n
  unfold Ab
  generalize pw2 n = A at *
  have e : p / q * q = p := Rat.div_mul_cancel (by grind)
  have hm := Rat.mul_le_mul_of_nonneg_left hq (by grind : 0 ≤ A)
  have hq0 : 0 < q := by grind
  constructor
  · rw [Rat.lt_div_iff hq0]
    grind
  · have : ¬ A ≤ p / q := by
      intro hh
      have := Rat.mul_le_mul_of_nonneg_right hh (by grind : 0 ≤ q)
      grind
    grind
theorem bd_of_ab {n : Nat} {i : Int} {q : Rat} (h : Ab n q) (h1 : (i : Rat) < q + 1) (h2 : q - 1 < (i : Rat)) : Bd (n + 1) i := by
  obtain ⟨a1, a2⟩ := h
  have l : pw2 n + 1 ≤ pw2 (n + 1) := by
    have p1 : (2 ^ n : Nat) + 1 ≤ 2 ^ (n + 1) := by
      have := Nat.two_pow_pos n
      rw [Nat.pow_succ]
      omega
    have p2 : ((2 ^ n : Nat) : Int) + 1 ≤ ((2 ^ (n + 1) : Nat) : Int) := by exact_mod_cast p1
    unfold pw2
    exact_mod_cast p2
  refine bd_range ?_ ?_
  · have : -(pw2 (n + 1)) < (i : Rat) := by grind
    unfold pw2 at this
    exact_mod_cast this
  · have : (i : Rat) < pw2 (n + 1) := by grind
    unfold pw2 at this
    exact_mod_cast this
theorem bd_floorA {n : Nat} {q : Rat} (h : Ab n q) : Bd (n + 1) q.floor := by
  have h1 := floor_le' q
  have h2 := lt_floor' q
  exact bd_of_ab h (by grind) (by grind)
theorem bd_ceilA {n : Nat} {q : Rat} (h : Ab n q) : Bd (n + 1) q.ceil := by
  have h1 := le_ceil q
  have h2 := ceil_lt' q
  exact bd_of_ab h (by grind) (by grind)
theorem ab_tw {c : Cal} (h : CalOk c) : Ab 200 c.tw := ab_div (ab_sz h.y) (by grind)
theorem CalF.tw1 {c : Cal} (h : CalF c) : 1 ≤ c.tw := by have := h.m1; have := h.t1; grind
theorem bdt_st {c : Cal} (h : CalOk c) {k : Int} {n : Nat} (z : Bd n k) : Bd (n + 203) (c.st k) :=
  (bd_floorA (ab_add (ab_sz h.o) (ab_mul (ab_sz h.m) (ab_int z)))).mono (by omega)
theorem bdt_md {c : Cal} (h : CalOk c) {k : Int} {n : Nat} (z : Bd n k) : Bd (n + 203) (c.md k) :=
  (bd_floorA (ab_add (ab_sz h.k) (ab_mul (ab_tw h) (ab_int z)))).mono (by omega)
theorem bdt_ma {c : Cal} (h : CalOk c) {k : Int} {n : Nat} (z : Bd n k) (hn : 200 ≤ n) : Bd (n + 5) (c.ma k) := by
  have z2 := ab_div (ab_sub (ab_int (bd_add1 z (by omega))) (ab_sz h.o)) h.f.m1
  exact (bd_sub1 (bd_ceilA z2) (by omega)).mono (by omega)
theorem bdt_mf {c : Cal} (h : CalOk c) {k : Int} {n : Nat} (z : Bd n k) (hn : 200 ≤ n) : Bd (n + 3) (c.mf k) :=
  (bd_ceilA (ab_div (ab_sub (ab_int z) (ab_sz h.k)) h.f.tw1)).mono (by omega)
/-! ### months side by side -/
theorem st_lt {c : Cal} (h : CalF c) (k : Int) : c.st k < c.st (k + 1) := by
  have hm := h.m1
  have : c.st k + 1 ≤ c.st (k + 1) := by
    show _ ≤ (c.moon + c.month * ((k + 1 : Int) : Rat)).floor
    rw [Rat.le_floor_iff]
    have e : ((k + 1 : Int) : Rat) = (k : Rat) + 1 := by push_cast; rfl
    have e2 : ((c.st k + 1 : Int) : Rat) = (c.st k : Rat) + 1 := by push_cast; rfl
    rw [e, e2]
    have : (c.st k : Rat) ≤ c.moon + c.month * (k : Rat) := floor_le' _
    grind
  omega
theorem ma_st {c : Cal} (h : CalF c) (k : Int) : c.ma (c.st k) = k := by
  have a := (st_le h (k := k) (d := c.st k)).mp (Int.le_refl _)
  have b : ¬ k + 1 ≤ c.ma (c.st k) := by
    rw [← st_le h]
    have := st_lt h k
    omega
  omega
theorem ma_end {c : Cal} (h : CalF c) (k : Int) : c.ma (c.st (k + 1) - 1) = k := by
  have l := st_lt h k
  have a := (st_le h (k := k) (d := c.st (k + 1) - 1)).mp (by omega)
  have b : ¬ k + 1 ≤ c.ma (c.st (k + 1) - 1) := by
    rw [← st_le h]
    omega
  omega
theorem ma_pre {c : Cal} (h : CalF c) (k : Int) : c.ma (c.st k - 1) = k - 1 := by
  have e := ma_end h (k - 1)
  rw [show k - 1 + 1 = k by omega] at e
  exact e
theorem mi_none {c : Cal} (h : CalF c) {k : Int} (e : c.mi k = none) : c.mi (k - 1) = some (c.mf (c.st k) - 1) := by
  refine mi_prev h fun hh => ?_
  unfold Cal.mi at e
  rw [if_pos hh] at e
  cases e
theorem mi_some {c : Cal} {k j : Int} (e : c.mi k = some j) : j = c.mf (c.st k) := by
  unfold Cal.mi at e
  split at e
  · cases e; rfl
  · cases e
end MM

namespace MM
open PySem L2 PyProof.Rows
theorem floor_add_i (q : Rat) (n : Int) : (q + (n : Rat)).floor = q.floor + n := by
  apply Int.le_antisymm
  · have h : ((q + (n : Rat)).floor - n : Int) ≤ q.floor := by
      rw [Rat.le_floor_iff, Rat.intCast_sub]
      have := floor_le' (q + (n : Rat))
      grind
    omega
  · rw [Rat.le_floor_iff, Rat.intCast_add]
    have := floor_le' q
    grind
/-! ### marks and their months -/
theorem mi_some' {c : Cal} {k j : Int} (e : c.mi k = some j) : j = c.mf (c.st k) ∧ c.md j < c.st (k + 1) := by
  unfold Cal.mi at e
  split at e
  · cases e
    exact ⟨rfl, by assumption⟩
  · cases e
theorem mw_of_mi {c : Cal} (h : CalF c) {k j : Int} (e : c.mi k = some j) : c.mw j = k := by
  obtain ⟨e1, e2⟩ := mi_some' e
  have g : c.st k ≤ c.md j := by rw [md_ge h, e1]; exact Int.le_refl _
  have a := (st_le h (k := k) (d := c.md j)).mp g
  have b : ¬ k + 1 ≤ c.ma (c.md j) := by
    rw [← st_le h]
    omega
  show c.ma (c.md j) = k
  omega
/-- a month is at most so long -/
theorem st_len {c : Cal} (h : CalF c) (k : Int) : c.st (k + 1) ≤ c.st k + c.month.ceil := by
  have hc := le_ceil c.month
  have e : ((k + 1 : Int) : Rat) = (k : Rat) + 1 := by push_cast; rfl
  unfold Cal.st
  rw [e]
  have e2 : (c.moon + c.month * (k : Rat)).floor + c.month.ceil = (c.moon + c.month * (k : Rat) + (c.month.ceil : Rat)).floor := (floor_add_i _ _).symm
  rw [e2, Rat.le_floor_iff]
  have := floor_le' (c.moon + c.month * ((k : Rat) + 1))
  grind
/-- and from a mark to the next it is at least so far -/
theorem md_far {c : Cal} (h : CalF c) (j : Int) : c.md (j - 1) + c.month.ceil ≤ c.md j := by
  have ht := h.tc
  have e : ((j - 1 : Int) : Rat) = (j : Rat) - 1 := by push_cast; rfl
  unfold Cal.md
  rw [e]
  have e2 : (c.mark + c.tw * ((j : Rat) - 1)).floor + c.month.ceil = (c.mark + c.tw * ((j : Rat) - 1) + (c.month.ceil : Rat)).floor := (floor_add_i _ _).symm
  rw [e2, Rat.le_floor_iff]
  have := floor_le' (c.mark + c.tw * ((j : Rat) - 1) + (c.month.ceil : Rat))
  grind
theorem mw_in {c : Cal} (h : CalF c) (j : Int) : c.st (c.mw j) ≤ c.md j ∧ c.md j < c.st (c.mw j + 1) := by
  have a := (st_le h (k := c.mw j) (d := c.md j)).mpr (Int.le_refl _)
  have b : ¬ c.st (c.mw j + 1) ≤ c.md j := by
    rw [st_le h]
    show ¬ c.mw j + 1 ≤ c.mw j
    omega
  exact ⟨a, by omega⟩
theorem mi_mw {c : Cal} (h : CalF c) (j : Int) : c.mi (c.mw j) = some j := by
  obtain ⟨a, b⟩ := mw_in h j
  have l := st_len h (c.mw j)
  have f := md_far h j
  have e : c.mf (c.st (c.mw j)) = j := by
    have x := (md_ge h (j := j) (d := c.st (c.mw j))).mp a
    have y : ¬ c.mf (c.st (c.mw j)) ≤ j - 1 := by
      rw [← md_ge h]
      omega
    omega
  unfold Cal.mi
  rw [e, if_pos b]
end MM

namespace MM
open PySem L2 PyProof.Rows
/-! ### kept forms -/
/-- a moment taken down to a whole part -/
def dn (q : Rat) (b : Int) : Rat := rt (q * (b : Rat)).floor b
def Cal.kept (c : Cal) : Cal := ⟨c.month, c.year, dn (c.moon - c.month * ((c.moon / c.month).floor : Rat)) (c.month.den : Int), dn c.mark ((c.year / 12).den : Int)⟩
theorem rt_div (a b : Int) : rt a b = (a : Rat) / (b : Rat) := Rat.divInt_eq_div a b
theorem rt_times {a b : Int} (h : 0 < b) : rt a b * (b : Rat) = (a : Rat) := by
  have h0 : ((b : Int) : Rat) ≠ 0 := by
    have : (0 : Rat) < (b : Rat) := by exact_mod_cast h
    grind
  rw [rt_div]
  exact Rat.div_mul_cancel h0
theorem floor_rdiv {x : Rat} {M : Int} (h : 0 < M) : (x / (M : Rat)).floor = x.floor / M := by
  have hM : (0 : Rat) < (M : Rat) := by exact_mod_cast h
  apply Int.le_antisymm
  · rw [Int.le_ediv_iff_mul_le h, Rat.le_floor_iff]
    have := floor_le' (x / (M : Rat))
    have h2 := Rat.mul_le_mul_of_nonneg_right this (Rat.le_of_lt hM)
    rw [Rat.div_mul_cancel (by grind)] at h2
    push_cast
    exact h2
  · rw [Rat.le_floor_iff]
    have h1 : x.floor / M * M ≤ x.floor := Int.ediv_mul_le _ (by omega)
    have h2 : ((x.floor / M * M : Int) : Rat) ≤ x := Rat.le_trans (by exact_mod_cast h1) (floor_le' x)
    push_cast at h2
    have h3 : ((x.floor / M : Int) : Rat) = ((x.floor / M : Int) : Rat) * (M : Rat) / (M : Rat) := by
      rw [Rat.mul_div_cancel (by grind)]
    rw [h3, Rat.div_def, Rat.div_def]
    exact Rat.mul_le_mul_of_nonneg_right h2 (Rat.le_of_lt (Rat.inv_pos.mpr hM))
theorem floor_rt {a b : Int} (h : 0 < b) : (rt a b).floor = a / b := by
  rw [rt_div, floor_rdiv h]
  rw [Rat.floor_intCast]
theorem dn_dn {q : Rat} {b : Int} (h : 0 < b) : dn (dn q b) b = dn q b := by
  show rt (dn q b * (b : Rat)).floor b = _
  have e : dn q b * (b : Rat) = ((q * (b : Rat)).floor : Rat) := rt_times h
  rw [e, Rat.floor_intCast]
  rfl
theorem dn_of {q r : Rat} {b : Int} (h : (q * (b : Rat)).floor = (r * (b : Rat)).floor) : dn q b = dn r b := by
  unfold dn
  rw [h]
theorem num_pos {m : Rat} (h : 0 < m) : 0 < m.num := by
  have := (Rat.lt_iff 0 m).mp h
  simpa using this
theorem mul_denK {m : Rat} : m * ((m.den : Int) : Rat) = (m.num : Rat) := by
  have := rt_times (a := m.num) (den_pos m)
  rw [rt_self] at this
  exact this
/-- what is left of the moon by the month, in whole parts -/
theorem moon_in {o m : Rat} (h : 0 < m) : ((o - m * ((o / m).floor : Rat)) * ((m.den : Int) : Rat)).floor = (o * ((m.den : Int) : Rat)).floor % m.num := by
  have hn := num_pos h
  have hd := den_pos m
  have hdR : ((m.den : Int) : Rat) ≠ 0 := by
    have : (0 : Rat) < ((m.den : Int) : Rat) := by exact_mod_cast hd
    grind
  have e1 : (o - m * ((o / m).floor : Rat)) * ((m.den : Int) : Rat) = o * ((m.den : Int) : Rat) + ((-(m.num * (o / m).floor) : Int) : Rat) := by
    have md := mul_denK (m := m)
    generalize ((m.den : Int) : Rat) = D at md
    generalize (o / m).floor = f
    rw [Rat.intCast_neg, Rat.intCast_mul, ← md]
    grind
  have e2 : o / m = o * ((m.den : Int) : Rat) / (m.num : Rat) := by
    rw [← mul_denK]
    have hm : m ≠ 0 := by grind
    grind
  rw [e1, floor_add_i]
  rw [e2, floor_rdiv hn, Int.emod_def]
  omega
theorem kept_moon {c : Cal} (h : 0 < c.month) : c.kept.moon = rt ((c.moon * ((c.month.den : Int) : Rat)).floor % c.month.num) (c.month.den : Int) := by
  have e : c.kept.moon = rt ((c.moon - c.month * ((c.moon / c.month).floor : Rat)) * ((c.month.den : Int) : Rat)).floor (c.month.den : Int) := rfl
  rw [e, moon_in h]
theorem kept_kept {c : Cal} (h : 0 < c.month) : c.kept.kept = c.kept := by
  have e1 : c.kept.kept.moon = c.kept.moon := by
    rw [kept_moon (c := c.kept) h]
    show rt ((c.kept.moon * ((c.month.den : Int) : Rat)).floor % c.month.num) (c.month.den : Int) = c.kept.moon
    rw [kept_moon h, rt_times (den_pos _), Rat.floor_intCast, Int.emod_emod]
  have e2 : c.kept.kept.mark = c.kept.mark := dn_dn (den_pos _)
  show (⟨c.month, c.year, c.kept.kept.moon, c.kept.kept.mark⟩ : Cal) = ⟨c.month, c.year, c.kept.moon, c.kept.mark⟩
  rw [e1, e2]
/-- a part of a whole part more does not count -/
theorem floor_part {n : Int} {p : Rat} (h0 : 0 ≤ p) (h1 : p < 1) : ((n : Rat) + p).floor = n := by
  apply Int.le_antisymm
  · have h : ((n : Rat) + p).floor < n + 1 := by
      rw [floor_lt_int]
      push_cast
      grind
    omega
  · rw [Rat.le_floor_iff]
    grind
/-- within what changes no whole part -/
theorem within_floor {q p : Rat} {b : Int} (hb : 0 < b) (h0 : 0 ≤ p) (h1 : p < 1) : ((dn q b + p * rt 1 b) * (b : Rat)).floor = (q * (b : Rat)).floor := by
  have e : (dn q b + p * rt 1 b) * (b : Rat) = ((q * (b : Rat)).floor : Rat) + p := by
    have e1 : dn q b * (b : Rat) = ((q * (b : Rat)).floor : Rat) := rt_times hb
    have e2 : rt 1 b * (b : Rat) = ((1 : Int) : Rat) := rt_times hb
    have e3 : ((1 : Int) : Rat) = 1 := rfl
    rw [e3] at e2
    rw [← e1]
    grind
  rw [e, floor_part h0 h1]
theorem kept_ext {c d : Cal} (h1 : d.month = c.month) (h2 : d.year = c.year) (h3 : d.kept.moon = c.kept.moon) (h4 : d.kept.mark = c.kept.mark) : d.kept = c.kept := by
  show (⟨d.month, d.year, d.kept.moon, d.kept.mark⟩ : Cal) = ⟨c.month, c.year, c.kept.moon, c.kept.mark⟩
  rw [h1, h2, h3, h4]
def Cal.near (c : Cal) (p p' : Rat) (k : Int) : Cal := ⟨c.month, c.year, (dn c.moon (c.month.den : Int) + p * rt 1 (c.month.den : Int)) + c.month * (k : Rat), dn c.mark ((c.year / 12).den : Int) + p' * rt 1 ((c.year / 12).den : Int)⟩
theorem kept_near {c : Cal} {p p' : Rat} {k : Int} (h : 0 < c.month) (h0 : 0 ≤ p) (h1 : p < 1) (h0' : 0 ≤ p') (h1' : p' < 1) : (c.near p p' k).kept = c.kept := by
  refine kept_ext rfl rfl ?_ ?_
  · rw [kept_moon (c := c.near p p' k) h, kept_moon h]
    show rt ((((dn c.moon (c.month.den : Int) + p * rt 1 (c.month.den : Int)) + c.month * (k : Rat)) * ((c.month.den : Int) : Rat)).floor % c.month.num) (c.month.den : Int) = _
    have e : ((dn c.moon (c.month.den : Int) + p * rt 1 (c.month.den : Int)) + c.month * (k : Rat)) * ((c.month.den : Int) : Rat) = (dn c.moon (c.month.den : Int) + p * rt 1 (c.month.den : Int)) * ((c.month.den : Int) : Rat) + ((c.month.num * k : Int) : Rat) := by
      have md := mul_denK (m := c.month)
      generalize dn c.moon (c.month.den : Int) + p * rt 1 (c.month.den : Int) = W
      generalize ((c.month.den : Int) : Rat) = D at md ⊢
      rw [Rat.intCast_mul, ← md]
      grind
    rw [e, floor_add_i, within_floor (den_pos _) h0 h1, Int.add_mul_emod_self_left]
  · exact dn_of (within_floor (den_pos _) h0' h1')
theorem kept_low {c : Cal} (h : 0 < c.month) : 0 ≤ c.kept.moon ∧ c.kept.moon < c.month := by
  have hn := num_pos h
  rw [kept_moon h]
  have r0 := Int.emod_nonneg (c.moon * ((c.month.den : Int) : Rat)).floor (show c.month.num ≠ 0 by omega)
  have r1 := Int.emod_lt_of_pos (c.moon * ((c.month.den : Int) : Rat)).floor hn
  generalize (c.moon * ((c.month.den : Int) : Rat)).floor % c.month.num = r at r0 r1
  have hdR : (0 : Rat) < ((c.month.den : Int) : Rat) := by exact_mod_cast den_pos c.month
  have e := rt_times (a := r) (den_pos c.month)
  have e2 := mul_denK (m := c.month)
  have g0 : (0 : Rat) ≤ (r : Rat) := by exact_mod_cast r0
  have g1 : (r : Rat) < (c.month.num : Rat) := by exact_mod_cast r1
  constructor
  · rw [rt_div, Rat.div_def]
    exact Rat.mul_nonneg g0 (Rat.le_of_lt (Rat.inv_pos.mpr hdR))
  · rw [← e, ← e2] at g1
    exact Rat.lt_of_mul_lt_mul_right g1 (Rat.le_of_lt hdR)
theorem bd_emod {n : Nat} {a b : Int} (h : 0 < b) (z : Bd n b) : Bd n (a % b) := by
  have r0 := Int.emod_nonneg a (show b ≠ 0 by omega)
  have r1 := Int.emod_lt_of_pos a h
  have z : b.natAbs < 2 ^ n := z
  show (a % b).natAbs < 2 ^ n
  omega
theorem sz_dn {n m : Nat} {q : Rat} {b : Int} (h : 0 < b) (z : Sz n q) (zb : Bd m b) : Sz (n + m) (dn q b) := by
  have zi : Sz (n + m) (q * (b : Rat)) := sz_mul z ⟨by rw [Rat.num_intCast]; exact zb, by
    show Bd m ((Rat.den (b : Rat) : Nat) : Int)
    rw [Rat.den_intCast]
    have z : b.natAbs < 2 ^ m := zb
    show (1 : Int).natAbs < 2 ^ m
    have : (1 : Int).natAbs = 1 := rfl
    omega⟩
  exact (sz_rt (bd_floor zi) zb (by omega)).mono (by omega)
end MM

namespace MM
/-! ### rows of lengths, by where in a day the first moon stands -/
theorem floor_addI {x : Rat} {n : Int} : (x + (n : Rat)).floor = x.floor + n := by
  apply Int.le_antisymm
  · have h : (x + (n : Rat)).floor - n ≤ x.floor := by
      rw [Rat.le_floor_iff]
      have := floor_le' (x + (n : Rat))
      push_cast
      grind
    omega
  · rw [Rat.le_floor_iff]
    have := floor_le' x
    push_cast
    grind
theorem st_as (c : Cal) (k : Int) : c.st k = ((c.moon * ((c.month.den : Int) : Rat)).floor + k * c.month.num) / (c.month.den : Int) := by
  have hd := den_pos c.month
  have hR : (0 : Rat) < ((c.month.den : Int) : Rat) := by exact_mod_cast hd
  rw [← floor_addI, ← floor_rdiv hd]
  show (c.moon + c.month * (k : Rat)).floor = _
  congr 1
  have md := mul_denK (m := c.month)
  rw [Rat.div_def]
  push_cast
  rw [← md]
  have e : ((c.month.den : Int) : Rat) * ((c.month.den : Int) : Rat)⁻¹ = 1 := Rat.mul_inv_cancel _ (by grind)
  have e2 : (c.moon * ((c.month.den : Int) : Rat) + (k : Rat) * (c.month * ((c.month.den : Int) : Rat))) * ((c.month.den : Int) : Rat)⁻¹ = (c.moon + c.month * (k : Rat)) * (((c.month.den : Int) : Rat) * ((c.month.den : Int) : Rat)⁻¹) := by grind
  have e3 := e2
  rw [e, Rat.mul_one] at e3
  exact e3.symm
/-- how many days from the first moon's day's beginning to the i-th moon's -/
def dayB (t b s : Int) (i : Nat) : Int := (s + (i : Int) * t) / b
def rowB (t b s : Int) (n : Nat) : List Int := (List.range n).map fun i => dayB t b s (i + 1) - dayB t b s i
def spotL (t b : Int) (n : Nat) : List Int := (List.range (n + 1)).map fun (i : Nat) => (0 - (i : Int) * t) % b
theorem rowB_len {t b s : Int} {n : Nat} : (rowB t b s n).length = n := by simp [rowB]
theorem spotL_len {t b : Int} {n : Nat} : (spotL t b n).length = n + 1 := by simp [spotL]
theorem rowB_succ {t b s : Int} {n : Nat} : rowB t b s (n + 1) = rowB t b s n ++ [dayB t b s (n + 1) - dayB t b s n] := by
  unfold rowB
  rw [List.range_succ, List.map_append]
  rfl
theorem spotL_succ {t b : Int} {n : Nat} : spotL t b (n + 1) = spotL t b n ++ [(0 - ((n + 1 : Nat) : Int) * t) % b] := by
  unfold spotL
  rw [List.range_succ, List.map_append]
  rfl
theorem dayB_0 {t b s : Int} (h0 : 0 ≤ s) (h1 : s < b) : dayB t b s 0 = 0 := by
  unfold dayB
  rw [Int.natCast_zero, Int.zero_mul, Int.add_zero]
  exact Int.ediv_eq_zero_of_lt h0 h1
theorem rowB_sum {t b s : Int} {n : Nat} : (rowB t b s n).sum = dayB t b s n - dayB t b s 0 := by
  induction n with
  | zero => simp [rowB]
  | succ n ih =>
    rw [rowB_succ, List.sum_append, ih]
    simp only [List.sum_cons, List.sum_nil]
    omega
theorem spot_in {t b s : Int} {n : Nat} (hb : 0 < b) (h : s ∈ spotL t b n) : 0 ≤ s ∧ s < b := by
  obtain ⟨i, _, rfl⟩ := List.mem_map.mp h
  exact ⟨Int.emod_nonneg _ (by omega), Int.emod_lt_of_pos _ hb⟩
theorem zero_in {t b : Int} {n : Nat} : (0 : Int) ∈ spotL t b n := List.mem_map.mpr ⟨0, by simp, by simp⟩
/-- a sum's share of days -/
theorem two_days {x y b : Int} (hb : 0 < b) : y / b ≤ (x + y) / b - x / b ∧ (x + y) / b - x / b ≤ y / b + 1 := by
  have a1 := Int.ediv_mul_le x (show b ≠ 0 by omega)
  have a2 := Int.lt_ediv_add_one_mul_self x hb
  have b1 := Int.ediv_mul_le y (show b ≠ 0 by omega)
  have b2 := Int.lt_ediv_add_one_mul_self y hb
  constructor
  · have h : x / b + y / b ≤ (x + y) / b := by
      rw [Int.le_ediv_iff_mul_le hb, Int.add_mul]
      omega
    omega
  · have h : (x + y) / b < x / b + y / b + 2 := by
      rw [Int.ediv_lt_iff_lt_mul hb]
      have e : (x / b + y / b + 2) * b = (x / b + 1) * b + (y / b + 1) * b := by
        rw [← Int.add_mul]
        congr 1
        omega
      rw [e]
      omega
    omega
theorem row_two {t b s : Int} {n : Nat} (hb : 0 < b) (h0 : 0 ≤ s) (h1 : s < b) : (n : Int) * t / b ≤ (rowB t b s n).sum ∧ (rowB t b s n).sum ≤ (n : Int) * t / b + 1 := by
  have h := two_days (x := s) (y := (n : Int) * t) hb
  rw [rowB_sum, dayB_0 h0 h1]
  rw [Int.ediv_eq_zero_of_lt h0 h1] at h
  unfold dayB
  omega
theorem row_bd {t b s : Int} {n : Nat} (hb : 0 < b) (ht : 0 ≤ t) : ∀ m ∈ rowB t b s n, 0 ≤ m ∧ m < t / b + 2 := by
  intro m hm
  obtain ⟨i, _, rfl⟩ := List.mem_map.mp hm
  have h := two_days (x := s + (i : Int) * t) (y := t) hb
  have e : s + ((i + 1 : Nat) : Int) * t = s + (i : Int) * t + t := by
    push_cast
    rw [Int.add_mul]
    omega
  have h2 : 0 ≤ t / b := Int.ediv_nonneg ht (by omega)
  unfold dayB
  rw [e]
  omega
theorem greatest {r : Int} : ∀ {L : List Int}, (∃ s ∈ L, s ≤ r) → ∃ s ∈ L, s ≤ r ∧ ∀ u ∈ L, u ≤ r → u ≤ s := by
  intro L
  induction L with
  | nil =>
    rintro ⟨s, h, _⟩
    cases h
  | cons x L ih =>
    intro h
    by_cases hx : ∃ s ∈ L, s ≤ r
    · obtain ⟨s, hs, h1, h2⟩ := ih hx
      by_cases hc : x ≤ r ∧ s < x
      · refine ⟨x, List.mem_cons_self, hc.1, fun u hu hr => ?_⟩
        rcases List.mem_cons.mp hu with e | hu
        · omega
        · have := h2 u hu hr
          omega
      · refine ⟨s, List.mem_cons_of_mem _ hs, h1, fun u hu hr => ?_⟩
        rcases List.mem_cons.mp hu with e | hu
        · omega
        · exact h2 u hu hr
    · obtain ⟨s, hs, h1⟩ := h
      rcases List.mem_cons.mp hs with e | hs
      · subst e
        refine ⟨s, List.mem_cons_self, h1, fun u hu hr => ?_⟩
        rcases List.mem_cons.mp hu with e | hu
        · omega
        · exact absurd ⟨u, hu, hr⟩ hx
      · exact absurd ⟨s, hs, h1⟩ hx
/-- the row of any place in the day is that of the last spot ahead -/
theorem row_spot {t b r : Int} {n : Nat} (hb : 0 < b) (h0 : 0 ≤ r) (h1 : r < b) : ∃ s ∈ spotL t b n, rowB t b r n = rowB t b s n := by
  obtain ⟨s, hs, hr, hg⟩ := greatest (r := r) ⟨0, zero_in (t := t) (b := b) (n := n), h0⟩
  refine ⟨s, hs, ?_⟩
  have same : ∀ i : Nat, i ≤ n → dayB t b r i = dayB t b s i := by
    intro i hi
    unfold dayB
    have le : (s + (i : Int) * t) / b ≤ (r + (i : Int) * t) / b := Int.ediv_le_ediv hb (by omega)
    rcases Int.lt_or_eq_of_le le with lt | e
    · exfalso
      have q1 := Int.ediv_mul_le (r + (i : Int) * t) (show b ≠ 0 by omega)
      have q2 : s + (i : Int) * t < (r + (i : Int) * t) / b * b := (Int.ediv_lt_iff_lt_mul hb).mp lt
      generalize (r + (i : Int) * t) / b = M at q1 q2
      have s0 := (spot_in hb hs).1
      have hu : M * b - (i : Int) * t ∈ spotL t b n := by
        refine List.mem_map.mpr ⟨i, List.mem_range.mpr (by omega), ?_⟩
        have e : 0 - (i : Int) * t = (M * b - (i : Int) * t) + b * (-M) := by
          rw [Int.mul_neg, Int.mul_comm b M]
          omega
        rw [e, Int.add_mul_emod_self_left]
        exact Int.emod_eq_of_lt (by omega) (by omega)
      have := hg _ hu (by omega)
      omega
    · exact e.symm
  unfold rowB
  refine List.map_congr_left fun i hi => ?_
  have := List.mem_range.mp hi
  rw [same (i + 1) (by omega), same i (by omega)]
/-- days of months by the moon's place -/
def Cal.ph (c : Cal) (k : Int) : Int := ((c.moon * ((c.month.den : Int) : Rat)).floor + k * c.month.num) % (c.month.den : Int)
theorem ph_in (c : Cal) (k : Int) : 0 ≤ c.ph k ∧ c.ph k < (c.month.den : Int) := ⟨Int.emod_nonneg _ (by have := den_pos c.month; omega), Int.emod_lt_of_pos _ (den_pos c.month)⟩
theorem st_day (c : Cal) (k : Int) (i : Nat) : c.st (k + (i : Int)) = c.st k + dayB c.month.num (c.month.den : Int) (c.ph k) i := by
  have hd := den_pos c.month
  rw [st_as, st_as]
  unfold dayB Cal.ph
  generalize hX : (c.moon * ((c.month.den : Int) : Rat)).floor + k * c.month.num = X
  have e : (c.moon * ((c.month.den : Int) : Rat)).floor + (k + (i : Int)) * c.month.num = X % (c.month.den : Int) + (i : Int) * c.month.num + (c.month.den : Int) * (X / (c.month.den : Int)) := by
    rw [Int.add_mul, ← Int.add_assoc, hX]
    have := Int.emod_add_mul_ediv X (c.month.den : Int)
    omega
  rw [e, Int.add_mul_ediv_left _ _ (by omega)]
  omega
theorem st_between (c : Cal) (k : Int) (n : Nat) : (n : Int) * c.month.num / (c.month.den : Int) ≤ c.st (k + (n : Int)) - c.st k ∧ c.st (k + (n : Int)) - c.st k ≤ (n : Int) * c.month.num / (c.month.den : Int) + 1 := by
  rw [st_as, st_as, Int.add_mul, ← Int.add_assoc]
  exact two_days (den_pos c.month)
theorem st_round (c : Cal) (k : Int) : c.st (k + (c.month.den : Int)) - c.st k = c.month.num := by
  have hd := den_pos c.month
  rw [st_as, st_as, Int.add_mul, ← Int.add_assoc, Int.add_mul_ediv_left _ _ (by omega)]
  omega
end MM

namespace MM
open PySem L2 PyProof.Rows
/-! ### sorted of tuples of ints, as many as there are -/
def llt : List Int → List Int → Bool
  | [], [] => false
  | [], _ :: _ => true
  | _ :: _, [] => false
  | x :: r, y :: t => decide (x < y) || (!decide (y < x) && llt r t)
theorem lex_llt : ∀ a b : List Int, PyProof.Rows.lexLt PyProof.Rows.itemOrd (a.map Sum.inl) (b.map Sum.inl) = llt a b
  | [], [] => rfl
  | [], _ :: _ => rfl
  | _ :: _, [] => rfl
  | x :: r, y :: t => by
    have ih := lex_llt r t
    show (decide (x < y) || (!decide (y < x) && PyProof.Rows.lexLt PyProof.Rows.itemOrd (r.map Sum.inl) (t.map Sum.inl))) = _
    rw [ih]
    rfl
def sh0 : Nat → Bool := fun _ => false
theorem items_sh0 {vs : List Value} {ns : List Int} (h : IntsAre vs ns) : ∀ i : Nat, PyProof.Rows.tupItems sh0 i vs = some (ns.map Sum.inl) := by
  induction h with
  | nil => exact fun _ => rfl
  | cons n t _ ih =>
    intro i
    show (if sh0 i = true then none else (PyProof.Rows.tupItems sh0 (i + 1) _).map (Sum.inl n :: ·)) = _
    rw [if_neg (show ¬ sh0 i = true from fun z => Bool.noConfusion (show false = true from z)), ih (i + 1)]
    rfl
theorem key_sh0 {h : Heap} {v : Value} {ns : List Int} (x : TS.TupInts h v ns) : PyProof.Rows.G.tupKeyC h sh0 v = some (ns.map Sum.inl) := by
  obtain ⟨a, xs, rfl, ⟨o, ho, hc, n, hd⟩, hi⟩ := x
  have e1 : PyProof.Rows.G.isTupObj h (.ref a) = true := by
    simp [PyProof.Rows.G.isTupObj, ho, hc]
  unfold PyProof.Rows.G.tupKeyC
  rw [if_pos e1]
  simp only [PyProof.Rows.tupKey, ho, hd]
  exact items_sh0 hi 0
theorem tupOf_sh0 {h : Heap} {v : Value} {n : Int} {ns : List Int} (x : TS.TupInts h v (n :: ns)) : ∃ f, PyProof.Rows.TupOf h sh0 v f := by
  obtain ⟨a, xs, rfl, ⟨o, ho, hc, k, hd⟩, hi⟩ := x
  obtain ⟨l, rfl⟩ : ∃ l : List Value, xs = l.toArray := ⟨xs.toList, by simp⟩
  have hi : IntsAre l (n :: ns) := by simpa using hi
  cases hi with
  | cons _ t h2 => exact ⟨.int n t, a, o, _, k, rfl, ho, hc, hd, by simp, fun _ => ⟨n, t, rfl⟩, fun z => by cases z⟩
theorem tupsOf_sh0 {h : Heap} : ∀ {vs : List Value}, (∀ v ∈ vs, ∃ n ns, TS.TupInts h v (n :: ns)) → ∃ fs, PyProof.Rows.TupsOf h sh0 vs fs
  | [], _ => ⟨[], .nil⟩
  | v :: vs, hv => by
    obtain ⟨n, ns, x⟩ := hv v List.mem_cons_self
    obtain ⟨f, hf⟩ := tupOf_sh0 x
    obtain ⟨fs, hfs⟩ := tupsOf_sh0 (vs := vs) fun u hu => hv u (List.mem_cons_of_mem _ hu)
    exact ⟨f :: fs, .cons hf hfs⟩
/-- sorted(xs), xs a list of tuples of ints, none without one -/
def rSortG (K : PySem.W.Frag) : List V → Hp → VK → Prop := fun vs H Q => ∃ (a : Addr) (xs : List V), vs = [V.ref a] ∧ SqL K H a xs ∧ (∀ x ∈ xs, ∃ n ns, TupI K H x (n :: ns)) ∧
  ∀ (ys : List V) (p : Addr), ys.Perm xs → ys.Pairwise (fun x y => ∀ n m, TupI K H x n → TupI K H y m → llt m n = false) → H p = none → Q (.ref p) (upd H p (.lst ys))
section
variable {X : Cx}
theorem cr_sortG : CallR X (.builtin "sorted") (rSortG X.K) := by
  intro pins s σ H vs us Q I r h
  obtain ⟨a, xs, rfl, hs, hx, q⟩ := h
  obtain ⟨its, rv, hl, hz⟩ := I.list hs
  rw [Vals.ref1 r]
  obtain ⟨e1, e2⟩ := bkV_refs rv fun x m => by
    obtain ⟨n, ns, ⟨t, e, _⟩⟩ := hx x m
    exact ⟨t, e⟩
  have raw : ∀ v ∈ its, ∃ n ns, TS.TupInts s.heap v (n :: ns) := fun v hv => by
    obtain ⟨t, rfl⟩ := e2 v hv
    have hm : V.ref t ∈ xs := by
      rw [e1]
      exact List.mem_map.mpr ⟨_, hv, rfl⟩
    obtain ⟨n, ns, ⟨t', e, ht⟩⟩ := hx _ hm
    cases e
    exact ⟨n, ns, tupI_raw I ht⟩
  obtain ⟨fs, hfs⟩ := tupsOf_sh0 raw
  refine PyProof.Rows.G.sorted_tups (shape := sh0) hl.isList hfs (fun v hv => ?_) (by rw [← rv.length]; exact hz) fun st' h1 h2 _ => ?_
  · obtain ⟨n, ns, x⟩ := raw v hv
    exact ⟨_, key_sh0 x⟩
  · have p1 : (arrOf st').toList.Perm (its.zip its) := by
      have z := Array.perm_iff_toList_perm.mp h1
      rw [pairsOf_toList] at z
      exact z
    have snd : ((arrOf st').map (·.2)).toList = (arrOf st').toList.map Prod.snd := by rw [Array.toList_map]
    have p2 : ((arrOf st').map (·.2)).toList.Perm its := by
      rw [snd]
      have z := p1.map Prod.snd
      rw [List.map_snd_zip (Nat.le_refl _)] at z
      exact z
    have same : ∀ p ∈ (arrOf st').toList, p.1 = p.2 := fun p hp => (mem_zip_self (p1.mem_iff.mp hp)).1
    obtain ⟨ep, he'⟩ := PyProof.Rows.sortedAll_at s.heap its ((arrOf st').map (·.2))
    have h3 : ∀ u ∈ ((arrOf st').map (·.2)).toList, ∃ a, u = Value.ref a := fun u hu => e2 u (p2.mem_iff.mp hu)
    have hp : (((arrOf st').map (·.2)).toList.map bkV).Perm xs := by
      rw [e1]
      exact p2.map bkV
    have hlen : (((arrOf st').map (·.2)).toList.map bkV).length ≤ sizeLine := by
      rw [hp.length_eq]
      exact hz
    refine ⟨.ref _, upd H (s.heap.objs.size + 1) (.lst (((arrOf st').map (·.2)).toList.map bkV)), I.laid (t' := s.toks) (fun _ _ => PyProof.Rows.sortedAll_old) (Nat.le_succ _) ⟨hlen, ((arrOf st').map (·.2)).toList, ep, bkV_vals h3, he'⟩, rfl, q _ _ hp ?_ (I.hok.fresh (Nat.le_succ _))⟩
    rw [snd, List.map_map, List.pairwise_map, List.pairwise_iff_getElem]
    intro i j hi hj lt n m hn hm
    have hi' : i < (arrOf st').size := by simpa using hi
    have hj' : j < (arrOf st').size := by simpa using hj
    have srt := h2 i j (Nat.le_of_lt lt) (by
      have z := p1.length_eq
      rw [pairsOf_size]
      rw [List.length_zip, Nat.min_self, Array.length_toList] at z
      omega)
    have kk : ∀ (k : Nat) (hk : k < (arrOf st').size) (l : List Int), TupI X.K H (bkV (((arrOf st').toList[k]'(by simpa using hk))).2) l → KK (PyProof.Rows.G.tupKindC s.heap sh0) (arrOf st') k = l.map Sum.inl := fun k hk l ⟨t, et, ht⟩ => by
      have ev := bkV_ref et
      have mm := same _ (List.getElem_mem (show k < (arrOf st').toList.length by simpa using hk))
      unfold KK
      have eg : (arrOf st')[k]? = some ((arrOf st').toList[k]'(by simpa using hk)) := by simp [hk]
      rw [eg]
      show (PyProof.Rows.G.tupKeyC s.heap sh0 _).getD _ = _
      rw [mm, ev, key_sh0 (tupI_raw I ht)]
      rfl
    rw [kk i hi' n hn, kk j hj' m hm] at srt
    rw [← lex_llt]
    exact srt
end
section
variable {E : En} {Γ : Gm} {M : Ow} {Φ : Rep → Ow → Prop} {K : PySem.W.Frag}
theorem caw_sortG {rows : List (List Int)} (hE : ∀ a ∈ E.M, E.H a ≠ none) (hr : ∀ r ∈ rows, r ≠ [])
    (k : ∀ p (rows' : List (List Int)), p ∉ M.map (·.1) → p ∉ E.M → rows'.Perm rows → rows'.Pairwise (fun r t => llt t r = false) → Φ (RRef p) ((p, OL (rows'.map RTI)) :: M)) : CaW E Γ M (rSortG K) [RLt (rows.map RTI)] Φ := fun σ G H at_ vs hv Q q => by
  match vs, hv with
  | [v], ⟨⟨a, ws, e, h, rr⟩, _⟩ =>
    subst e
    have tup : ∀ {x : V} {r : List Int}, (RTI r).p x G → TupI K H x r := fun {x r} ⟨t, ts, et, ht, rt⟩ => by
      rw [reps_RI rt] at ht
      exact ⟨t, et, SqT.of (at_.gh _ _ ht)⟩
    refine ⟨a, ws, rfl, SqL.of (at_.gh _ _ h), fun x hx => ?_, fun ys p hp hs hn => ?_⟩
    · obtain ⟨i, hi⟩ := List.getElem?_of_mem hx
      obtain ⟨ρ, e1, r1⟩ := rr.get2 hi
      rw [List.getElem?_map] at e1
      obtain ⟨r, e2, rfl⟩ := Option.map_eq_some_iff.mp e1
      have ne := hr r (List.mem_of_getElem? e2)
      obtain ⟨n, ns, rfl⟩ : ∃ n ns, r = n :: ns := by
        cases r with
        | nil => exact absurd rfl ne
        | cons n ns => exact ⟨n, ns, rfl⟩
      exact ⟨n, ns, tup r1⟩
    · obtain ⟨ρs', p1, r1⟩ := reps_perm2 hp rr
      obtain ⟨rows', rfl, p2⟩ := perm_map p1
      refine q _ _ _ _ _ (k p rows' (at_.freshM hn) (fun z => hE p z (at_.fresh hn)) p2 ?_) (Same.refl _) (at_.own1 hn ⟨_, rfl, r1⟩) rfl
      rw [List.pairwise_iff_getElem] at hs ⊢
      intro i j hi hj lt
      have li : i < ys.length := by
        have := r1.length
        rw [List.length_map] at this
        omega
      have lj : j < ys.length := by
        have := r1.length
        rw [List.length_map] at this
        omega
      obtain ⟨x, ex, rx⟩ := r1.get (i := i) (ρ := RTI rows'[i]) (by rw [List.getElem?_map, List.getElem?_eq_getElem hi]; rfl)
      obtain ⟨y, ey, ry⟩ := r1.get (i := j) (ρ := RTI rows'[j]) (by rw [List.getElem?_map, List.getElem?_eq_getElem hj]; rfl)
      rw [List.getElem?_eq_getElem li] at ex
      rw [List.getElem?_eq_getElem lj] at ey
      cases ex
      cases ey
      exact hs i j li lj lt _ _ (tup rx) (tup ry)
end
end MM

namespace MM
open PySem L2 PyProof.Rows
/-! ### all unlike rows of a month's lengths -/
theorem llt_eq : ∀ {a b : List Int}, llt a b = false → llt b a = false → a = b
  | [], [], _, _ => rfl
  | [], _ :: _, h, _ => by cases h
  | _ :: _, [], _, h => by cases h
  | x :: r, y :: t, h1, h2 => by
    have h1 : (decide (x < y) || (!decide (y < x) && llt r t)) = false := h1
    have h2 : (decide (y < x) || (!decide (x < y) && llt t r)) = false := h2
    simp only [Bool.or_eq_false_iff, Bool.and_eq_false_iff, decide_eq_false_iff_not, Bool.not_eq_false', decide_eq_true_eq] at h1 h2
    have e : x = y := by omega
    have a : llt r t = false := h1.2.resolve_left fun z => h2.1 z
    have b : llt t r = false := h2.2.resolve_left fun z => h1.1 z
    rw [e, llt_eq a b]
theorem rows_uniq {a b : List (List Int)} (na : a.Nodup) (nb : b.Nodup) (pa : a.Pairwise fun r t => llt t r = false) (pb : b.Pairwise fun r t => llt t r = false) (h : ∀ r, r ∈ a ↔ r ∈ b) : a = b :=
  List.Perm.eq_of_pairwise (fun x y _ _ h1 h2 => llt_eq h2 h1) pa pb ((List.perm_ext_iff_of_nodup na nb).mpr h)
theorem res_ne {T x : Int} {B i j : Nat} (cop : Nat.Coprime B T.natAbs) (hij : i < j) (hj : j < B) : (x + (i : Int) * T) % (B : Int) ≠ (x + (j : Int) * T) % (B : Int) := by
  intro e
  have z := Int.emod_eq_emod_iff_emod_sub_eq_zero.mp e.symm
  have f : x + (j : Int) * T - (x + (i : Int) * T) = ((j - i : Nat) : Int) * T := by
    rw [Int.ofNat_sub (by omega), Int.sub_mul]
    omega
  rw [f] at z
  have dv := Int.natAbs_dvd_natAbs.mpr (Int.dvd_of_emod_eq_zero z)
  rw [Int.natAbs_mul, Int.natAbs_natCast, Int.natAbs_natCast] at dv
  have := Nat.le_of_dvd (by omega) (cop.dvd_of_dvd_mul_right dv)
  omega
theorem int_few {l : List Int} {B : Nat} (nd : l.Nodup) (h : ∀ x ∈ l, 0 ≤ x ∧ x < (B : Int)) : l.length ≤ B := by
  have q := List.Nodup.length_le_of_subset (l₂ := (List.range B).map fun (i : Nat) => (i : Int)) nd fun x hx => by
    obtain ⟨a, b⟩ := h x hx
    exact List.mem_map.mpr ⟨x.toNat, List.mem_range.mpr (by omega), by omega⟩
  rw [List.length_map, List.length_range] at q
  exact q
theorem res_all {T x s : Int} {B : Nat} (cop : Nat.Coprime B T.natAbs) (s0 : 0 ≤ s) (s1 : s < (B : Int)) : ∃ i : Nat, i < B ∧ (x + (i : Int) * T) % (B : Int) = s := by
  rcases Classical.em (s ∈ (List.range B).map fun (i : Nat) => (x + (i : Int) * T) % (B : Int)) with c | c
  · obtain ⟨i, hi, e⟩ := List.mem_map.mp c
    exact ⟨i, List.mem_range.mp hi, e⟩
  · exfalso
    have nd : ((List.range B).map fun (i : Nat) => (x + (i : Int) * T) % (B : Int)).Nodup := by
      refine List.pairwise_map.mpr (List.Pairwise.imp_of_mem (fun {a b} ha hb lt => ?_) (List.pairwise_lt_range (n := B)))
      exact res_ne cop lt (List.mem_range.mp hb)
    have q := int_few (B := B) (List.nodup_cons.mpr ⟨c, nd⟩) fun y hy => by
      rcases List.mem_cons.mp hy with e | hy
      · rw [e]
        exact ⟨s0, s1⟩
      · obtain ⟨i, _, rfl⟩ := List.mem_map.mp hy
        exact ⟨Int.emod_nonneg _ (by omega), Int.emod_lt_of_pos _ (by omega)⟩
    rw [List.length_cons, List.length_map, List.length_range] at q
    omega
theorem row_days {t b s s' : Int} {n : Nat} (h0 : dayB t b s 0 = dayB t b s' 0) (e : rowB t b s n = rowB t b s' n) : ∀ i : Nat, i ≤ n → dayB t b s i = dayB t b s' i
  | 0, _ => h0
  | i + 1, hi => by
    have ih := row_days h0 e i (by omega)
    have g : (rowB t b s n)[i]? = (rowB t b s' n)[i]? := by rw [e]
    unfold rowB at g
    rw [List.getElem?_map, List.getElem?_map, List.getElem?_range (by omega)] at g
    have g : dayB t b s (i + 1) - dayB t b s i = dayB t b s' (i + 1) - dayB t b s' i := Option.some.inj g
    omega
theorem row_less {t b s s' : Int} {n : Nat} (hb : 0 < b) (h : s ∈ spotL t b n) (h' : s' ∈ spotL t b n) (lt : s < s') : rowB t b s n ≠ rowB t b s' n := by
  intro e
  obtain ⟨a0, a1⟩ := spot_in hb h
  obtain ⟨b0, b1⟩ := spot_in hb h'
  obtain ⟨a, ha, ea⟩ := List.mem_map.mp h'
  have ha := List.mem_range.mp ha
  have same := row_days (by rw [dayB_0 a0 a1, dayB_0 b0 b1]) e a (by omega)
  unfold dayB at same
  have ex : s' + (a : Int) * t = b * (-((0 - (a : Int) * t) / b)) := by
    have := Int.emod_add_mul_ediv (0 - (a : Int) * t) b
    have ea : (0 - (a : Int) * t) % b = s' := ea
    rw [ea] at this
    rw [Int.mul_neg]
    omega
  rw [ex, Int.mul_ediv_cancel_left _ (by omega)] at same
  generalize -((0 - (a : Int) * t) / b) = m at ex same
  have q := Int.lt_ediv_add_one_mul_self (s + (a : Int) * t) hb
  have q2 := Int.ediv_mul_le (s + (a : Int) * t) (show b ≠ 0 by omega)
  rw [same] at q2
  rw [Int.mul_comm] at q2
  omega
theorem row_inj {t b s s' : Int} {n : Nat} (hb : 0 < b) (h : s ∈ spotL t b n) (h' : s' ∈ spotL t b n) (e : rowB t b s n = rowB t b s' n) : s = s' := by
  rcases Int.lt_trichotomy s s' with z | z | z
  · exact absurd e (row_less hb h h' z)
  · exact z
  · exact absurd e.symm (row_less hb h' h z)
theorem cop_num (q : Rat) : Nat.Coprime q.den q.num.natAbs := q.reduced.symm
/-- what stretches tells -/
structure StrK (c : Cal) (n : Nat) (rows : List (List Int)) : Prop where
  nd : rows.Nodup
  pw : rows.Pairwise fun r t => llt t r = false
  mem : ∀ r, r ∈ rows ↔ ∃ s ∈ spotL c.month.num (c.month.den : Int) n, r = rowB c.month.num (c.month.den : Int) s n
  len : rows.length = min (n + 1) c.month.den
theorem StrK.any {c : Cal} {n : Nat} {rows : List (List Int)} (h : StrK c n rows) {s : Int} (s0 : 0 ≤ s) (s1 : s < (c.month.den : Int)) : rowB c.month.num (c.month.den : Int) s n ∈ rows := by
  obtain ⟨u, hu, e⟩ := row_spot (n := n) (t := c.month.num) (den_pos c.month) s0 s1
  exact (h.mem _).mpr ⟨u, hu, e⟩
theorem strK_of {c : Cal} {n : Nat} {ks : List Int} {rows : List (List Int)} (hk : ks.Nodup) (km : ∀ j : Int, j ∈ ks ↔ j ∈ spotL c.month.num (c.month.den : Int) n) (rp : rows.Perm (ks.map fun s => rowB c.month.num (c.month.den : Int) s n)) (pw : rows.Pairwise fun r t => llt t r = false) : StrK c n rows := by
  have hb := den_pos c.month
  have nd : (ks.map fun s => rowB c.month.num (c.month.den : Int) s n).Nodup := by
    refine List.pairwise_map.mpr (List.Pairwise.imp_of_mem (fun {a b} ha hb2 ne e => ?_) hk)
    exact ne (row_inj hb ((km a).mp ha) ((km b).mp hb2) e)
  refine ⟨rp.nodup_iff.mpr nd, pw, fun r => ?_, ?_⟩
  · rw [rp.mem_iff, List.mem_map]
    exact ⟨fun ⟨s, h, e⟩ => ⟨s, (km s).mp h, e.symm⟩, fun ⟨s, h, e⟩ => ⟨s, (km s).mpr h, e.symm⟩⟩
  · rw [rp.length_eq, List.length_map]
    have u1 := List.Nodup.length_le_of_subset hk (l₂ := spotL c.month.num (c.month.den : Int) n) fun j hj => (km j).mp hj
    rw [spotL_len] at u1
    have u2 := int_few (B := c.month.den) hk fun x hx => spot_in hb ((km x).mp hx)
    have lo : min (n + 1) c.month.den ≤ ks.length := by
      have nd2 : ((List.range (min (n + 1) c.month.den)).map fun (i : Nat) => (0 + (i : Int) * (-c.month.num)) % (c.month.den : Int)).Nodup := by
        refine List.pairwise_map.mpr (List.Pairwise.imp_of_mem (fun {a b} ha hb2 lt => ?_) (List.pairwise_lt_range (n := min (n + 1) c.month.den)))
        have hb2 := List.mem_range.mp hb2
        exact res_ne (by rw [Int.natAbs_neg]; exact cop_num c.month) lt (by omega)
      have q := List.Nodup.length_le_of_subset nd2 (l₂ := ks) fun j hj => by
        obtain ⟨i, hi, rfl⟩ := List.mem_map.mp hj
        have hi := List.mem_range.mp hi
        refine (km _).mpr (List.mem_map.mpr ⟨i, List.mem_range.mpr (by omega), ?_⟩)
        show (0 - (i : Int) * c.month.num) % _ = _
        rw [Int.mul_neg, Int.sub_eq_add_neg]
      rw [List.length_map, List.length_range] at q
      exact q
    omega
theorem ph_add (c : Cal) (k : Int) (i : Nat) : c.ph (k + (i : Int)) = (c.ph k + (i : Int) * c.month.num) % (c.month.den : Int) := by
  unfold Cal.ph
  rw [Int.add_mul, ← Int.add_assoc, Int.emod_add_emod]
/-- so many rows on end are all there are -/
theorem ph_all (c : Cal) (k : Int) {s : Int} (s0 : 0 ≤ s) (s1 : s < (c.month.den : Int)) : ∃ i : Nat, i < c.month.den ∧ c.ph (k + (i : Int)) = s := by
  obtain ⟨i, hi, e⟩ := res_all (x := c.ph k) (cop_num c.month) s0 s1
  exact ⟨i, hi, (ph_add c k i).trans e⟩
end MM

namespace MM
open PySem L2 PyProof.Rows
theorem eqv_r {i : Int} : PyData.eqv (.int i) (.int i) = true := by simp [PyData.eqv]
theorem cut_1 {α : Type} {l : List α} : cutL l (some 1) none = l.drop 1 := by
  unfold cutL HT.sIx
  cases l with
  | nil => rfl
  | cons x l =>
    have e : min (1 : Int).toNat (x :: l).length = 1 := by
      show min 1 (x :: l).length = 1
      rw [List.length_cons]
      omega
    show List.take ((x :: l).length - min (1 : Int).toNat (x :: l).length) (List.drop (min (1 : Int).toNat (x :: l).length) (x :: l)) = _
    rw [e, List.take_of_length_le]
    rw [List.length_drop]
    omega
section
variable {X : Cx} {E : En} {Γ : Gm} {M : Ow} {e : Expr} {Φ : Rep → Ow → Prop}
/-- an owned thing that is no more spoken of -/
theorem we_drop (h : WE X E Γ M e fun ρ M' => ∃ p r M2, Rm M' p r M2 ∧ Φ ρ M2) : WE X E Γ M e Φ := fun σ G H a Q q =>
  h σ G H a Q fun ρ M' v G1 H1 ⟨p, r, M2, rm, hk⟩ s1 a1 r1 => q ρ M2 v G1 H1 hk s1 (a1.drop rm) r1
end
def daysB (t b s : Int) (n : Nat) : List Int := (List.range n).map fun i => dayB t b s i
theorem daysB_succ {t b s : Int} {n : Nat} : daysB t b s (n + 1) = daysB t b s n ++ [dayB t b s n] := by
  unfold daysB
  rw [List.range_succ, List.map_append]
  rfl
theorem daysB_len {t b s : Int} {n : Nat} : (daysB t b s n).length = n := by simp [daysB]
theorem daysB_get {t b s : Int} {n i : Nat} (h : i < n) : (daysB t b s n)[i]? = some (dayB t b s i) := by simp [daysB, h]
def con_row : Con := { I := Int × Int × Int × Nat, B := Unit, pre := fun i => Bd 400 i.1 ∧ 0 < i.2.1 ∧ Bd 400 i.2.1 ∧ i.2.2.2 ≤ 400, args := fun i => [RI i.1, RI i.2.1, RI i.2.2.1, RI (i.2.2.2 : Int)], own := fun _ => [], post := fun _ _ => True, res := fun i _ => RTI (rowB i.1 i.2.1 i.2.2.1 i.2.2.2), own' := fun _ _ => [] }
theorem ck_row {ρ1 ρ2 ρ3 ρ4 : Rep} {M : Ow} {Φ : Rep → Ow → Prop} {t b s : Int} {n : Nat} (h1 : Sub ρ1 (RI t)) (h2 : Sub ρ2 (RI b)) (h3 : Sub ρ3 (RI s)) (h4 : Sub ρ4 (RI (n : Int))) (zt : Bd 400 t) (hb : 0 < b) (zb : Bd 400 b) (hn : n ≤ 400) (k : Φ (RTI (rowB t b s n)) M) : CallK con_row [ρ1, ρ2, ρ3, ρ4] M Φ :=
  ⟨(t, b, s, n), M, ⟨zt, hb, zb, hn⟩, .cons h1 (.cons h2 (.cons h3 (.cons h4 .nil))), .nil, fun _ _ => k⟩
structure BltS (mg : Str → Option Value) : Prop where
  rng : mg "range" = none
  zip : mg "zip" = none
  tup : mg "tuple" = none
  set : mg "set" = none
  srt : mg "sorted" = none
  mn : mg "min" = none
  len : mg "len" = none
  isi : mg "isinstance" = none
  lst : mg "list" = none
section
variable {P : Program} {w : World} {K : PySem.W.Frag} {mg : Str → Option Value} {base : Heap} {CS CC : Addr}
theorem ok_row {f : Addr} {fd : FuncData} (F : FdD K "row_behind" "row_behind" s_f_row_behind [] f fd) (B : BltS mg) : FnOk P w K mg base CX0 1 f fd (N_f_row_behind.take 4) (conSp con_row) := by
  refine fn_conD con_row F sc_f_row_behind (fun _ => rfl) fun cd A outer s H EE G i hp hr hE => ?_
  obtain ⟨t, b, sp, n⟩ := i
  obtain ⟨zt, hb, zb, hn⟩ := hp
  have zt : Bd 400 t := zt
  have hb : 0 < b := hb
  have zb : Bd 400 b := zb
  have hn : n ≤ 400 := hn
  have lb : b.natAbs.log2 < 9000 := Nat.lt_trans (bd_log zb (by decide)) (by decide)
  refine wss_cons (ws_setLc (t := gName 5) (own := [("at", 5)]) 4 rfl sc_f_row_behind.nd rfl rfl ?hsw (pi_range1 g_range_f_row_behind B.rng pa_w) (blkOk_by ?ok) ?hg hE ?src)
  case hsw => rfl
  case ok =>
    show blkC N_f_row_behind (defScope s_f_row_behind) _ _ = true
    decide +kernel
  case hg =>
    intro s H C cl fp
    exact pg_name sc_f_row_behind.nd rfl (.inl rfl)
  case src =>
    refine src_range1 (wa_cons (we_bin op_addU (we_var 3 r3_f_row_behind rfl (we_int (opw_of opv_add_i (wa_nil ⟨(n : Int) + 1, .cons Sub.rfl .nil, by omega, ?lc⟩))))))
    have e : ((n : Int) + 1).toNat = n + 1 := by omega
    rw [e]
    refine ⟨fun i o M' => M' = [] ∧ o = (daysB t b sp i).map RI, ⟨rfl, rfl⟩, ?turn, ?done⟩
    case turn =>
      rintro i ρ o M1 D hi rfl ⟨rfl, rfl⟩
      have zi : Bd 10 (i : Int) := by
        show (i : Int).natAbs < 2 ^ 10
        omega
      refine ⟨fun Γ => Γ.set 5 (some (RI (i : Int))), blkT_name 5 (by decide), fun s H0 C cl fp => ?_⟩
      refine we_bin op_fdivA (we_bin op_addU (we_var 2 ?r2 rfl (we_bin op_mulU (we_var 5 ?r5 rfl (we_var 0 ?r0 rfl (opw_of (opv_mul_i (mulOk zi zt (by decide))) (opw_of opv_add_i (we_var 1 ?r1 rfl (opw_of (opv_div_i hb lb) ⟨_, RI (dayB t b sp i), rfl, Sub.rfl, ?len, rfl, ?tk⟩)))))))))
      case r2 => exact ⟨rfl, by first | exact .inl rfl | exact .inr (.inl rfl), by decide, by decide⟩
      case r5 => exact ⟨rfl, by first | exact .inl rfl | exact .inr (.inl rfl), by decide, by decide⟩
      case r0 => exact ⟨rfl, by first | exact .inl rfl | exact .inr (.inl rfl), by decide, by decide⟩
      case r1 => exact ⟨rfl, by first | exact .inl rfl | exact .inr (.inl rfl), by decide, by decide⟩
      case len =>
        rw [List.length_map, daysB_len]
        omega
      case tk =>
        rw [daysB_succ, List.map_append]
        rfl
    case done =>
      rintro D o M1 hD hM ⟨rfl, rfl⟩
      refine wss_freeze 4 rfl .here hD ?_
      refine wss_one (ws_ret (we_callTy call_tuple_of g_tuple_f_row_behind B.tup (by decide +kernel) (wa_cons (we_lc (t := gTup K 2 (gNames [6, 7])) (own := [("soon", 6), ("late", 7)]) rfl sc_f_row_behind.nd (pi_zip g_zip_f_row_behind B.zip pa_w) (blkOk_by ?ok2) ?hg2 hE ?src2))))
      case ok2 =>
        show blkC N_f_row_behind (defScope s_f_row_behind) _ _ = true
        decide +kernel
      case hg2 =>
        intro s H C cl fp
        exact pg_tup (n := 2) (t := gNames [6, 7]) rfl (pgs_cons (pg_name sc_f_row_behind.nd rfl (.inl rfl)) (pgs_cons (pg_name sc_f_row_behind.nd rfl (.inl rfl)) pgs_nil))
      case src2 =>
        refine src_zip (wa_cons (we_var 4 r4_f_row_behind rfl (wa_cons (we_slL (we_var 4 r4_f_row_behind rfl ⟨_, sub_lt, wo_some (we_int ⟨1, Sub.rfl, wo_none (wa_nil ⟨_, _, .cons sub_lt (.cons sub_lt .nil), ?lc2⟩)⟩)⟩)))))
        rw [cut_1]
        have e : min ((daysB t b sp (n + 1)).map RI).length (((daysB t b sp (n + 1)).map RI).drop 1).length = n := by
          rw [List.length_drop, List.length_map, daysB_len]
          omega
        rw [e]
        refine ⟨fun i o M' => M' = [] ∧ o = (rowB t b sp i).map RI, ⟨rfl, rfl⟩, ?turn2, ?done2⟩
        case turn2 =>
          rintro i ρ o M1 D2 hi ⟨ρ1, ρ2, h1, h2, rfl⟩ ⟨rfl, rfl⟩
          rw [List.getElem?_map, daysB_get (by omega)] at h1
          rw [List.getElem?_drop, List.getElem?_map, daysB_get (by omega)] at h2
          have h1 : RI (dayB t b sp i) = ρ1 := Option.some.inj h1
          have h2 : RI (dayB t b sp (1 + i)) = ρ2 := Option.some.inj h2
          rw [Nat.add_comm] at h2
          subst h1 h2
          refine ⟨setAll [6, 7] [RI (dayB t b sp i), RI (dayB t b sp (i + 1))], blkT_tup (is := [6, 7]) (by decide) rfl sub_tt, fun s H0 C cl fp => ?_⟩
          refine we_bin op_sub (we_var 7 ?r7 rfl (we_var 6 ?r6 rfl (opw_of opv_sub_i ⟨_, RI (dayB t b sp (i + 1) - dayB t b sp i), rfl, Sub.rfl, ?len2, rfl, ?tk2⟩)))
          case r7 => exact ⟨rfl, by first | exact .inl rfl | exact .inr (.inl rfl), by decide, by decide⟩
          case r6 => exact ⟨rfl, by first | exact .inl rfl | exact .inr (.inl rfl), by decide, by decide⟩
          case len2 =>
            rw [List.length_map, rowB_len]
            omega
          case tk2 =>
            rw [rowB_succ, List.map_append]
            rfl
        case done2 =>
          rintro D2 o M1 hD2 hM2 ⟨rfl, rfl⟩
          exact wa_nil (caw_tupO Sub.rfl .here ⟨(), _, trivial, Sub.rfl, .nil⟩)
end
end MM

namespace MM
open PySem PySem.Spec L2 PyProof.Rows
/-! ### tables of any size: i -> 5 i + 1 goes round all of a power of two -/
def fiv : Nat → Nat
  | 0 => 0
  | k + 1 => fiv k * 5 + 1
theorem fiv_pow : ∀ d, 5 ^ d = 4 * fiv d + 1
  | 0 => rfl
  | d + 1 => by
    rw [Nat.pow_succ, fiv_pow d]
    show (4 * fiv d + 1) * 5 = 4 * (fiv d * 5 + 1) + 1
    omega
theorem fiv_two : ∀ d, fiv d % 2 = d % 2
  | 0 => rfl
  | d + 1 => by
    have := fiv_two d
    show (fiv d * 5 + 1) % 2 = (d + 1) % 2
    omega
theorem fiv_add (a : Nat) : ∀ d, fiv (a + d) = fiv a * (4 * fiv d + 1) + fiv d
  | 0 => by
    show fiv a = fiv a * 1 + 0
    omega
  | d + 1 => by
    show fiv (a + d) * 5 + 1 = fiv a * (4 * (fiv d * 5 + 1) + 1) + (fiv d * 5 + 1)
    rw [fiv_add a d]
    have e : fiv a * (4 * (fiv d * 5 + 1) + 1) = fiv a * (4 * fiv d + 1) * 5 := by
      rw [Nat.mul_assoc]
      congr 1
      omega
    rw [e]
    omega
theorem odd_cut {q : Nat} (hq : q % 2 = 1) : ∀ (n a : Nat), 2 ^ n ∣ a * q → 2 ^ n ∣ a
  | 0, a, _ => ⟨a, by omega⟩
  | n + 1, a, h => by
    have two : a % 2 = 0 := by
      have h2 : 2 ∣ a * q := Nat.dvd_trans ⟨2 ^ n, by rw [Nat.pow_succ]; omega⟩ h
      have := Nat.mod_eq_zero_of_dvd h2
      rw [Nat.mul_mod, hq] at this
      omega
    obtain ⟨b, rfl⟩ : ∃ b, a = 2 * b := ⟨a / 2, by omega⟩
    obtain ⟨c, hc⟩ := h
    have h3 : b * q = 2 ^ n * c := by
      rw [Nat.pow_succ] at hc
      refine Nat.eq_of_mul_eq_mul_left (show 0 < 2 by decide) ?_
      grind
    obtain ⟨d, hd⟩ := odd_cut hq n b ⟨c, h3⟩
    refine ⟨d, ?_⟩
    rw [hd, Nat.pow_succ]
    grind
theorem fiv_cut : ∀ (n d : Nat), 2 ^ n ∣ fiv d → 2 ^ n ∣ d
  | 0, d, _ => ⟨d, by omega⟩
  | n + 1, d, h => by
    have two : d % 2 = 0 := by
      have h2 : 2 ∣ fiv d := Nat.dvd_trans ⟨2 ^ n, by rw [Nat.pow_succ]; omega⟩ h
      have := Nat.mod_eq_zero_of_dvd h2
      rw [fiv_two] at this
      exact this
    obtain ⟨e, rfl⟩ : ∃ e, d = e + e := ⟨d / 2, by omega⟩
    have f : fiv (e + e) = 2 * (fiv e * (2 * fiv e + 1)) := by
      rw [fiv_add]
      grind
    rw [f] at h
    obtain ⟨c, hc⟩ := h
    have h3 : fiv e * (2 * fiv e + 1) = 2 ^ n * c := by
      rw [Nat.pow_succ] at hc
      refine Nat.eq_of_mul_eq_mul_left (show 0 < 2 by decide) ?_
      grind
    obtain ⟨b, hb⟩ := fiv_cut n e (odd_cut (by omega) n _ ⟨c, h3⟩)
    refine ⟨b, ?_⟩
    rw [Nat.pow_succ]
    grind
theorem lcg_form {m i : Nat} (hi : i ≤ m) : ∀ k, lcgI m i k = (5 ^ k * i + fiv k) % (m + 1)
  | 0 => by
    show i = (5 ^ 0 * i + 0) % (m + 1)
    rw [Nat.pow_zero, Nat.one_mul, Nat.add_zero, Nat.mod_eq_of_lt (Nat.lt_succ_of_le hi)]
  | k + 1 => by
    show (lcgI m i k * 5 + 1) % (m + 1) = (5 ^ (k + 1) * i + (fiv k * 5 + 1)) % (m + 1)
    rw [lcg_form hi k]
    have e : 5 ^ (k + 1) * i + (fiv k * 5 + 1) = (5 ^ k * i + fiv k) * 5 + 1 := by
      rw [Nat.pow_succ, Nat.add_mul, Nat.mul_assoc, Nat.mul_comm 5 i, ← Nat.mul_assoc]
      omega
    rw [e, Nat.add_mod, Nat.mod_mul_mod, ← Nat.add_mod]
theorem lcg_one {m n i a d : Nat} (pw : m + 1 = 2 ^ n) (hi : i ≤ m) (hd : 0 < d) (hl : d ≤ m) : lcgI m i a ≠ lcgI m i (a + d) := by
  intro e
  rw [lcg_form hi, lcg_form hi] at e
  have f : 5 ^ (a + d) * i + fiv (a + d) = (5 ^ a * i + fiv a) + fiv d * (5 ^ a * (4 * i + 1)) := by
    rw [Nat.pow_add, fiv_pow d, Nat.add_comm a d, fiv_add, fiv_pow a]
    generalize fiv a = x
    generalize fiv d = y
    grind
  rw [f] at e
  have z := Nat.sub_mod_eq_zero_of_mod_eq e.symm
  rw [Nat.add_sub_cancel_left] at z
  have dv : 2 ^ n ∣ fiv d * (5 ^ a * (4 * i + 1)) := pw ▸ Nat.dvd_of_mod_eq_zero z
  have odd : (5 ^ a * (4 * i + 1)) % 2 = 1 := by
    rw [fiv_pow a, Nat.mul_mod]
    have h1 : (4 * fiv a + 1) % 2 = 1 := by omega
    have h2 : (4 * i + 1) % 2 = 1 := by omega
    rw [h1, h2]
  have := Nat.le_of_dvd hd (fiv_cut n d (odd_cut odd n _ dv))
  omega
theorem lcg_le {m i : Nat} (hi : i ≤ m) : ∀ k, lcgI m i k ≤ m
  | 0 => hi
  | k + 1 => Nat.le_of_lt_succ (Nat.mod_lt _ (Nat.succ_pos _))
theorem lcg_hits {m n i j : Nat} (pw : m + 1 = 2 ^ n) (hi : i ≤ m) (hj : j ≤ m) : ∃ k, k ≤ m ∧ lcgI m i k = j := by
  rcases Classical.em (j ∈ (List.range (m + 1)).map (lcgI m i)) with c | c
  · obtain ⟨k, hk, e⟩ := List.mem_map.mp c
    exact ⟨k, Nat.le_of_lt_succ (List.mem_range.mp hk), e⟩
  · exfalso
    have nd : ((List.range (m + 1)).map (lcgI m i)).Nodup := by
      refine List.pairwise_map.mpr (List.Pairwise.imp_of_mem (fun {a b} ha hb lt e => ?_) (List.pairwise_lt_range (n := m + 1)))
      have hb := List.mem_range.mp hb
      have lt : a < b := lt
      rw [show b = a + (b - a) by omega] at e
      exact lcg_one pw hi (by omega) (by omega) e
    have q := nat_nodup_len (j :: (List.range (m + 1)).map (lcgI m i)) (List.range (m + 1)) (List.nodup_cons.mpr ⟨c, nd⟩) fun x hx => by
      rcases List.mem_cons.mp hx with e | hx
      · rw [e]
        exact List.mem_range.mpr (Nat.lt_succ_of_le hj)
      · obtain ⟨k, _, e⟩ := List.mem_map.mp hx
        rw [← e]
        exact List.mem_range.mpr (Nat.lt_succ_of_le (lcg_le hi k))
    rw [List.length_cons, List.length_map, List.length_range] at q
    omega
/-- masks -/
def Pw (m : Nat) : Prop := ∃ n, 1 ≤ n ∧ m + 1 = 2 ^ n
theorem Pw.odd {m : Nat} (h : Pw m) : m % 2 = 1 := by
  obtain ⟨n, h1, h2⟩ := h
  obtain ⟨k, rfl⟩ : ∃ k, n = k + 1 := ⟨n - 1, by omega⟩
  rw [Nat.pow_succ] at h2
  omega
theorem run_hits {m : Nat} (hm : Pw m) (h : Int) {j : Nat} (hj : j ≤ m) : ∃ n, n ≤ m + 12 ∧ runI m (SetTable.bits h) n = j := by
  obtain ⟨n, _, pw⟩ := hm
  obtain ⟨k, hk, e⟩ := lcg_hits pw (runI_le m (SetTable.bits h) 12) hj
  exact ⟨12 + k, by omega, (runI_tail (bits_lt h) k).trans e⟩
theorem way_hits {m : Nat} (hm : Pw m) (h : Int) {j : Nat} (hj : j ≤ m) : ∃ k, k < 10 * SetTable.turns m ∧ way m h k = j := by
  obtain ⟨n, hn, e⟩ := run_hits hm h hj
  obtain ⟨k, hk, e2⟩ := run_nth m (SetTable.bits h) n
  refine ⟨k, by unfold SetTable.turns; omega, ?_⟩
  show (nth m (runAt m (SetTable.bits h % (m + 1)) (SetTable.bits h)) k).j = j
  rw [e2]
  exact e
theorem way_in (m : Nat) (h : Int) (k : Nat) : way m h k ≤ m := by
  have a : SetTable.bits h % (m + 1) ≤ m := Nat.le_of_lt_succ (Nat.mod_lt _ (Nat.succ_pos _))
  have b := runEnd_bd a
  have c := nth_in (m := m) k (runAt m (SetTable.bits h % (m + 1)) (SetTable.bits h)) (show SetTable.bits h % (m + 1) + (SetTable.runEnd m (SetTable.bits h % (m + 1)) - SetTable.bits h % (m + 1)) ≤ m by omega)
  exact Nat.le_trans (Nat.le_add_right _ _) c
/-! sizes -/
theorem size_go (n : Nat) : ∀ f k, ∃ r, SetTable.sizeAbove.go n f (2 ^ k) = 2 ^ r ∧ k ≤ r ∧ (n < 2 ^ (k + f) → n < 2 ^ r) ∧ (2 ^ r ≤ 2 ^ k ∨ 2 ^ r ≤ 2 * n)
  | 0, k => ⟨k, rfl, Nat.le_refl _, fun h => h, .inl (Nat.le_refl _)⟩
  | f + 1, k => by
    show ∃ r, (if 2 ^ k ≤ n then SetTable.sizeAbove.go n f (2 ^ k * 2) else 2 ^ k) = 2 ^ r ∧ _
    by_cases c : 2 ^ k ≤ n
    · rw [if_pos c, ← Nat.pow_succ]
      obtain ⟨r, a, b, d, e⟩ := size_go n f (k + 1)
      refine ⟨r, a, by omega, fun h => d (by rw [show k + 1 + f = k + (f + 1) by omega]; exact h), ?_⟩
      rcases e with e | e
      · rw [Nat.pow_succ] at e
        exact .inr (by omega)
      · exact .inr e
    · rw [if_neg c]
      exact ⟨k, rfl, Nat.le_refl _, fun _ => by omega, .inl (Nat.le_refl _)⟩
theorem size_above {n : Nat} (h : n < 1000000) (h4 : 4 ≤ n) : Pw (SetTable.sizeAbove n - 1) ∧ n ≤ SetTable.sizeAbove n - 1 ∧ SetTable.sizeAbove n ≤ 2 * n := by
  obtain ⟨r, a, b, c, d⟩ := size_go n 64 3
  have a : SetTable.sizeAbove n = 2 ^ r := a
  have lt : n < 2 ^ r := c (Nat.lt_trans h (by decide))
  rw [a]
  refine ⟨⟨r, by omega, by omega⟩, by omega, ?_⟩
  rcases d with d | d
  · omega
  · exact d
end MM

namespace MM
open PySem PySem.Spec L2 PyProof.Rows
/-! ### what a table of any size keeps -/
/-- slot j lies on the way of h, and all before it is taken -/
def OnWay (m : Nat) (h : Int) (taken : Nat → Prop) (j : Nat) : Prop := ∃ k, way m h k = j ∧ ∀ i, i < k → taken (way m h i)
theorem OnWay.up {m : Nat} {h : Int} {T T' : Nat → Prop} {j : Nat} (up : ∀ i, T (way m h i) → T' (way m h i)) (o : OnWay m h T j) : OnWay m h T' j := by
  obtain ⟨k, a, b⟩ := o
  exact ⟨k, a, fun i hi => up i (b i hi)⟩
structure TabP (t : SetTable) (hs : List Int) : Prop where
  ris : Ris t.place.toList
  dm : t.dummies = #[]
  sz : t.place.size = hs.length
  pw : Pw t.mask
  way_ : ∀ (i : Nat) (h : Int) (j : Nat), hs[i]? = some h → t.place.toList[i]? = some j → OnWay t.mask h (· ∈ t.place.toList) j
/-- the first slot of a way that isn't taken -/
theorem way_first {m : Nat} (pw : Pw m) (h : Int) {l : List Nat} (hl : l.length ≤ m) : ∃ K, K < 10 * SetTable.turns m ∧ way m h K ∉ l ∧ ∀ k, k < K → way m h k ∈ l := by
  obtain ⟨j, hj, hn⟩ := st_missing l (m + 1) (by omega)
  obtain ⟨k, hk, e⟩ := way_hits pw h (Nat.le_of_lt_succ hj)
  obtain ⟨K, h1, h2, h3⟩ := st_least (p := fun k => way m h k ∉ l) k (by rw [e]; exact hn)
  exact ⟨K, by omega, h2, fun k' hk' => Classical.byContradiction fun c => h3 k' hk' c⟩
section
variable {t : SetTable} {hs : List Int}
theorem TabP.len (T : TabP t hs) : t.place.toList.length = hs.length := by
  rw [Array.length_toList]
  exact T.sz
/-- what has the hash comes before the first free slot -/
theorem TabP.ahead (T : TabP t hs) {h : Int} {K i j : Nat} (hK : way t.mask h K ∉ t.place.toList) (hi : hs[i]? = some h) (hj : t.place.toList[i]? = some j) : ∃ k, k < K ∧ way t.mask h k = j := by
  obtain ⟨k, e, b⟩ := T.way_ i h j hi hj
  refine ⟨k, ?_, e⟩
  by_cases c : k < K
  · exact c
  · exfalso
    rcases Nat.lt_or_ge K k with z | z
    · exact hK (b K z)
    · have : k = K := by omega
      rw [← this, e] at hK
      exact hK (List.mem_of_getElem? hj)
theorem TabP.add (T : TabP t hs) {h : Int} {K : Nat} (hK : way t.mask h K ∉ t.place.toList) (hb : ∀ k, k < K → way t.mask h k ∈ t.place.toList) :
    ∃ p, (t.put (way t.mask h K)).2 = p ∧ p ≤ hs.length ∧ TabP (t.put (way t.mask h K)).1 (hs.take p ++ h :: hs.drop p) := by
  generalize hj : way t.mask h K = j at hK
  have cut := (below_cut T.ris j).1
  have sz := T.sz
  have l1 : SetTable.below t.place j ≤ t.place.toList.length := by
    rw [Array.length_toList]
    exact cut
  have l2 : SetTable.below t.place j ≤ hs.length := by omega
  have pl := put_place t j
  have fresh : t.place[SetTable.below t.place j]? ≠ some j := fun e => hK (List.mem_of_getElem? (by rw [Array.getElem?_toList]; exact e))
  have more : ∀ x, x ∈ t.place.toList → x ∈ (t.put j).1.place.toList := fun x hx => by
    rw [pl]
    exact mem_ins.2 (.inr hx)
  refine ⟨SetTable.below t.place j, rfl, l2, ris_insert T.ris fresh, put_dm T.dm j, ?_, T.pw, fun i h' j' a b => ?_⟩
  · rw [len_ins _ l2, ← Array.length_toList, pl, len_ins _ l1, T.len]
  · show OnWay t.mask h' (· ∈ (t.put j).1.place.toList) j'
    rw [tins_get hs l2] at a
    rw [pl, tins_get _ l1] at b
    by_cases c : i < SetTable.below t.place j
    · rw [if_pos c] at a b
      exact (T.way_ i h' j' a b).up fun i => more (way t.mask h' i)
    · rw [if_neg c] at a b
      by_cases d : i = SetTable.below t.place j
      · rw [if_pos d] at a b
        rw [← Option.some.inj a, ← Option.some.inj b]
        exact ⟨K, hj, fun k hk => more _ (hb k hk)⟩
      · rw [if_neg d] at a b
        exact (T.way_ (i - 1) h' j' a b).up fun i => more (way t.mask h' i)
end
/-! laying anew -/
/-- the hashes laid so far -/
structure Laid (m : Nat) (done : List Int) (ow : Array (Option Nat)) : Prop where
  sz : ow.size = m + 1
  way_ : ∀ j k, j ≤ m → oAt ow j = some k → ∃ h, done[k]? = some h ∧ OnWay m h (fun x => oAt ow x ≠ none) j
  has : ∀ k, k < done.length → ∃ j, j ≤ m ∧ oAt ow j = some k
  few : ∃ ps : List Nat, ps.length = done.length ∧ ∀ j, j ≤ m → oAt ow j ≠ none → j ∈ ps
theorem free_hits {m : Nat} (pw : Pw m) (ow : Array (Option Nat)) (h : Int) {j : Nat} (hj : j ≤ m) (hf : oAt ow j = none) :
    ∃ K, SetTable.layClean.free m ow (SetTable.turns m) (SetTable.bits h % (m + 1)) (SetTable.bits h) = some (way m h K) ∧ oAt ow (way m h K) = none ∧ ∀ k, k < K → oAt ow (way m h k) ≠ none := by
  obtain ⟨n, hn, e⟩ := run_hits pw h hj
  have at_ : way m h (off m (SetTable.bits h % (m + 1)) (SetTable.bits h) n) = j := by
    show (nth m (runAt m _ _) (off m _ _ n)).j = j
    rw [nth_off, itL_run]
    exact e
  obtain ⟨K, a, b, c⟩ := st_least (p := fun k => oAt ow (way m h k) = none) _ (by rw [at_]; exact hf)
  refine ⟨K, free_spec m ow _ n _ _ K (by unfold SetTable.turns; omega) a (fun k hk => ?_) ?_, b, c⟩
  · have q := c k hk
    revert q
    show oAt ow (nth m (runAt m _ _) k).j ≠ none → _
    cases oAt ow (nth m (runAt m (SetTable.bits h % (m + 1)) (SetTable.bits h)) k).j with
    | none => exact fun q => absurd rfl q
    | some _ => exact fun _ => rfl
  · have q : oAt ow (nth m (runAt m (SetTable.bits h % (m + 1)) (SetTable.bits h)) K).j = none := b
    rw [q]
    rfl
theorem Laid.one {m : Nat} (pw : Pw m) {done : List Int} {ow : Array (Option Nat)} (L : Laid m done ow) (hl : done.length ≤ m) (h : Int) :
    ∃ j, SetTable.layClean.free m ow (SetTable.turns m) (SetTable.bits h % (m + 1)) (SetTable.bits h) = some j ∧ Laid m (done ++ [h]) (ow.setIfInBounds j (some done.length)) := by
  obtain ⟨ps, hps, hin⟩ := L.few
  obtain ⟨x, hx, hn⟩ := st_missing ps (m + 1) (by omega)
  have free : oAt ow x = none := Classical.byContradiction fun c => hn (hin x (Nat.le_of_lt_succ hx) c)
  obtain ⟨K, a, b, c⟩ := free_hits pw ow h (Nat.le_of_lt_succ hx) free
  have jm := way_in m h K
  generalize hj : way m h K = j at a b jm
  have self := oAt_set_self (owner := ow) (j := j) (some done.length) (by rw [L.sz]; omega)
  have still : ∀ i, oAt ow i ≠ none → oAt (ow.setIfInBounds j (some done.length)) i ≠ none := fun i hi => by
    by_cases z : i = j
    · rw [z, self]
      simp
    · rw [oAt_set_ne _ z]
      exact hi
  refine ⟨j, a, by rw [Array.size_setIfInBounds]; exact L.sz, fun i k hi e => ?_, fun k hk => ?_, j :: ps, by rw [List.length_cons, List.length_append, hps]; rfl, fun i hi e => ?_⟩
  · by_cases z : i = j
    · rw [z, self] at e
      have e : done.length = k := Option.some.inj e
      refine ⟨h, ?_, K, hj.trans z.symm, fun q hq => still _ (c q hq)⟩
      rw [← e, List.getElem?_append_right (Nat.le_refl _), Nat.sub_self]
      rfl
    · rw [oAt_set_ne _ z] at e
      obtain ⟨h', e1, o⟩ := L.way_ i k hi e
      exact ⟨h', by rw [List.getElem?_append_left (List.getElem?_eq_some_iff.mp e1).1]; exact e1, o.up fun i => still (way m h' i)⟩
  · rw [List.length_append] at hk
    by_cases z : k < done.length
    · obtain ⟨i, hi, e⟩ := L.has k z
      refine ⟨i, hi, ?_⟩
      rw [oAt_set_ne _ (fun y => by rw [y, b] at e; cases e)]
      exact e
    · have hk : k < done.length + 1 := hk
      exact ⟨j, jm, by rw [self, show k = done.length by omega]⟩
  · by_cases z : i = j
    · rw [z]
      exact List.mem_cons_self
    · rw [oAt_set_ne _ z] at e
      exact List.mem_cons_of_mem _ (hin i hi e)
theorem lay_fold {m : Nat} (pw : Pw m) : ∀ (rest done : List Int) (ow : Array (Option Nat)), Laid m done ow → done.length + rest.length ≤ m →
    ∃ ow', rest.foldl (stepF m) (some (ow, done.length)) = some (ow', done.length + rest.length) ∧ Laid m (done ++ rest) ow'
  | [], done, ow, L, _ => ⟨ow, rfl, by rw [List.append_nil]; exact L⟩
  | h :: rest, done, ow, L, hl => by
    have hl : done.length + (rest.length + 1) ≤ m := hl
    obtain ⟨j, e, L1⟩ := L.one pw (by omega) h
    have l1 : (done ++ [h]).length = done.length + 1 := List.length_append
    obtain ⟨ow', f, L2⟩ := lay_fold pw rest (done ++ [h]) _ L1 (by omega)
    rw [l1] at f
    refine ⟨ow', ?_, by rw [List.append_assoc] at L2; exact L2⟩
    rw [List.foldl_cons, stepF_some e, f]
    congr 2
    show done.length + 1 + rest.length = done.length + (rest.length + 1)
    omega
theorem laid_nil (m : Nat) : Laid m [] (Array.replicate (m + 1) none) :=
  ⟨by simp, fun j k hj e => (by rw [oAt_init hj] at e; cases e), fun k hk => absurd hk (Nat.not_lt_zero _), [], rfl, fun j hj e => absurd (oAt_init hj) e⟩
theorem relay_table (t : SetTable) {hs : Array Int} {wanted M : Nat} (hw : SetTable.sizeAbove wanted - 1 = M) (pw : Pw M) (hn : hs.size ≤ M) :
    ∃ t' order, t.relaid hs wanted = some (t', order) ∧ order.toList.Perm (List.range hs.size) ∧ TabP t' (order.toList.map fun i => hs.getD i 0) ∧ t'.mask = M ∧ t'.led = t.led ∧ t'.plain = t.plain := by
  obtain ⟨ow, f, L⟩ := lay_fold pw hs.toList [] _ (laid_nil M) (by rw [Array.length_toList]; show 0 + hs.size ≤ M; omega)
  rw [List.nil_append] at L
  have lc : SetTable.layClean M hs = some ow := by
    rw [layClean_eq]
    have f : hs.toList.foldl (stepF M) (some (Array.replicate (M + 1) none, 0)) = _ := f
    rw [f]
    rfl
  have rl : t.relaid hs wanted = some (tabOf t M ow, ((liveOf M ow).map (·.2)).toArray) := by
    rw [relaid_eq, hw, lc]
    rfl
  have ml := fun {j k : Nat} => mem_live (m := M) (j := j) (k := k) L.sz
  have ris : Ris ((liveOf M ow).map (·.1)) := (ris_live (fun j => ow.getD j none) (List.range (M + 1)) (by unfold Ris; exact List.pairwise_lt_range)).1
  have len : (liveOf M ow).length = hs.size := by
    obtain ⟨ps, p1, p2⟩ := L.few
    have nd : ((liveOf M ow).map (·.1)).Nodup := List.Pairwise.imp (fun h => Nat.ne_of_lt h) ris
    have up := nat_nodup_len ((liveOf M ow).map (·.1)) ps nd fun x hx => by
      obtain ⟨⟨y, k⟩, hq, rfl⟩ := List.mem_map.mp hx
      obtain ⟨b1, b2⟩ := ml.1 hq
      exact p2 y b1 (by rw [b2]; simp)
    have dn := nat_nodup_len (List.range hs.size) ((liveOf M ow).map (·.2)) List.nodup_range fun k hk => by
      obtain ⟨j, b1, b2⟩ := L.has k (by rw [Array.length_toList]; exact List.mem_range.mp hk)
      exact List.mem_map.mpr ⟨(j, k), ml.2 ⟨b1, b2⟩, rfl⟩
    have hz : hs.toList.length = hs.size := rfl
    rw [List.length_map, p1] at up
    rw [List.length_map, List.length_range] at dn
    omega
  refine ⟨_, _, rl, perm_range hs.size _ ((List.length_map _).trans len) fun k hk => ?_, ⟨ris, rfl, ?_, pw, fun i h j a b => ?_⟩, rfl, rfl, rfl⟩
  · obtain ⟨j, b1, b2⟩ := L.has k (by rw [Array.length_toList]; exact hk)
    exact List.mem_map.mpr ⟨(j, k), ml.2 ⟨b1, b2⟩, rfl⟩
  · show ((liveOf M ow).map (·.1)).toArray.size = (((liveOf M ow).map (·.2)).map fun i => hs.getD i 0).length
    rw [List.size_toArray, List.length_map, List.length_map, List.length_map]
  · have a : (((liveOf M ow).map (·.2)).map fun i => hs.getD i 0)[i]? = some h := a
    have b : ((liveOf M ow).map (·.1))[i]? = some j := b
    rw [List.getElem?_map, List.getElem?_map] at a
    rw [List.getElem?_map] at b
    obtain ⟨⟨y, k⟩, hq, rfl⟩ := Option.map_eq_some_iff.mp b
    rw [hq] at a
    have a : hs.getD k 0 = h := Option.some.inj a
    obtain ⟨b1, b2⟩ := ml.1 (List.mem_of_getElem? hq)
    obtain ⟨h0, e1, o⟩ := L.way_ y k b1 b2
    have e0 : hs.getD k 0 = h0 := by
      rw [Array.getD_eq_getD_getElem?, ← Array.getElem?_toList, e1]
      rfl
    rw [← a, e0]
    refine o.up fun q hq => ?_
    show way M h0 q ∈ (liveOf M ow).map (·.1)
    cases z : oAt ow (way M h0 q) with
    | none => exact absurd z hq
    | some k2 => exact List.mem_map.mpr ⟨(way M h0 q, k2), ml.2 ⟨way_in M h0 q, z⟩, rfl⟩
end MM

namespace MM
open PySem PySem.Spec L2 PyProof.Rows
/-! ### sets of tuples of ints, up to a thousand -/
section
variable {P : Program} {w : World} {A : Around} {E : Value → Shared → Prop} {s : Shared}
abbrev Ks := List (Addr × List Int)
abbrev hsh (P : Program) (w : World) (L : Ks) : List Int := L.map fun p => thash P w p.2
/-- what does not hang on the heap -/
structure Flat (P : Program) (w : World) (L : Ks) (es : Array (Int × Value)) (t : SetTable) : Prop where
  rows : es.toList = rowsOf P w L
  tab : TabP t (hsh P w L)
  nd : (L.map (·.2)).Nodup
  plain : t.plain = true
  led : w.params.followText "set-order" = true ∨ t.led = true
  room : L.length * 5 < t.mask * 3
  cap : t.mask ≤ 8 * L.length + 7
  few : L.length ≤ 1000
structure SetB (P : Program) (w : World) (h : Heap) (a : Addr) (L : Ks) (es : Array (Int × Value)) (ep : Nat) (t : SetTable) : Prop extends Flat P w L es t where
  ob : ∃ o, h.get? a = some o ∧ o.ExactSet ∧ o.data = .set es ep t
  tup : ∀ p ∈ L, IsT P w h p.2 p.1
theorem rows_size {L : Ks} {es : Array (Int × Value)} (h : es.toList = rowsOf P w L) : es.size = L.length := by
  have e := congrArg List.length h
  unfold rowsOf at e
  rw [List.length_map] at e
  exact e
theorem tab_fits {t : SetTable} {L : Ks} {es : Array (Int × Value)} (h : es.toList = rowsOf P w L) (T : TabP t (hsh P w L)) (hm : L.length ≤ t.mask) : t.fits es.size = true := by
  have a := T.sz
  have b := rows_size h
  rw [List.length_map] at a
  have d : t.dummies.size = 0 := by rw [T.dm]; rfl
  unfold SetTable.fits SetTable.fill
  simp only [Bool.and_eq_true, beq_iff_eq, decide_eq_true_eq]
  omega
variable {a : Addr} {L : Ks} {es : Array (Int × Value)} {ep : Nat} {t : SetTable}
theorem Flat.len (R : Flat P w L es t) : es.size = L.length := rows_size R.rows
theorem Flat.fits (R : Flat P w L es t) : t.fits es.size = true := tab_fits R.rows R.tab (by have := R.room; omega)
theorem Flat.row (R : Flat P w L es t) {i : Nat} {p : Addr × List Int} (h : L[i]? = some p) : es[i]? = some (thash P w p.2, Value.ref p.1) := by
  rw [← Array.getElem?_toList, R.rows]
  show (L.map _)[i]? = _
  rw [List.getElem?_map, h]
  rfl
/-- the c-th step of the way of h -/
abbrev stp (m : Nat) (h : Int) (c : Nat) : SetTable.Probe := nth m (runAt m (SetTable.bits h % (m + 1)) (SetTable.bits h)) c
theorem stp_go (m : Nat) (h : Int) (c q : Nat) : nth m (stp m h c) q = stp m h (c + q) := (nth_add m c _ q).symm
theorem stp_dummy (m : Nat) (h : Int) (c : Nat) : (stp m h c).dummy = none := by
  have all : ∀ (n : Nat) (p : SetTable.Probe), p.dummy = none → (nth m p n).dummy = none := by
    intro n
    induction n with
    | zero => exact fun _ h => h
    | succ n ih =>
      intro p h
      refine ih _ ?_
      unfold adv
      split <;> exact h
  exact all c _ rfl
section
variable (R : SetB P w s.heap a L es ep t) {x : Addr} {k : List Int} (hx : IsT P w s.heap k x) (hu : A.units < cLine) {K : Nat} (hf : K < 10 * SetTable.turns t.mask) (hK : way t.mask (thash P w k) K ∉ t.place.toList) (hb : ∀ c, c < K → way t.mask (thash P w k) c ∈ t.place.toList)
include R hx hu hf hK hb
/-- the search from the c-th step on; d steps are left -/
theorem seek {Q : SetFound → Shared → Prop} (hin : k ∈ L.map (·.2) → Q (.there none) s) (hout : k ∉ L.map (·.2) → Q (.free (way t.mask (thash P w k) K) false) s) :
    ∀ (f d c : Nat) (stand : Option SetTable.Probe), c + d = K → d < f → stand.getD (t.probeStart (thash P w k)) = stp t.mask (thash P w k) c →
      (∀ (i : Nat) p, L[i]? = some p → p.2 = k → ∃ q, q < d ∧ t.place.toList[i]? = some (way t.mask (thash P w k) (c + q))) →
      wpAny (model P w) A (setSearchFrom a (.ref x) (thash P w k) true f stand) Q E s := by
  intro f
  induction f with
  | zero => exact fun d c stand _ h => absurd h (Nat.not_lt_zero _)
  | succ f ih =>
    intro d c stand ecd hd hst near
    obtain ⟨o, ho, hex, hdat⟩ := R.ob
    have wy : ∀ q, (nth t.mask (stp t.mask (thash P w k) c) q).j = way t.mask (thash P w k) (c + q) := fun q => congrArg SetTable.Probe.j (stp_go _ _ _ _)
    have hashAt : ∀ (i : Nat) p, L[i]? = some p → (fun i => (es[i]?.map (·.1)).getD 0) i = thash P w p.2 := fun i p hp => by
      show (es[i]?.map (·.1)).getD 0 = _
      rw [R.row hp]
      rfl
    have spec := go_spec t R.tab.ris R.tab.dm (fun i => (es[i]?.map (·.1)).getD 0) (thash P w k) (10 * SetTable.turns t.mask) d (stp t.mask (thash P w k) c) (stp_dummy _ _ _) (by omega)
      (fun q hq => by rw [wy]; exact hb (c + q) (by omega)) (by rw [wy, ecd]; exact hK)
    rw [setSearchFrom_succ]
    refine wpAny_bind (wpAny_setState_of ho hdat R.fits ?_)
    dsimp only
    refine wp_if_neg (by unfold SetTable.gaveWay; rw [R.tab.pw.odd]; decide) ?_
    try refine wpAny_bind (wpAny_pure ?_)
    rcases spec with ⟨q, i, hq, hi, hh, no, pr⟩ | ⟨no, pr⟩
    · have pr : t.probe (fun i => (es[i]?.map (·.1)).getD 0) (thash P w k) (stand.getD (t.probeStart (thash P w k))) = some (.candidate (way t.mask (thash P w k) (c + q)) i (stp t.mask (thash P w k) (c + (q + 1)))) := by
        rw [hst, ← wy, ← stp_go]
        exact pr
      rw [pr]
      dsimp only
      rw [wy] at hi
      have il : i < L.length := by
        have u := (List.getElem?_eq_some_iff.mp hi).1
        rw [R.tab.len, List.length_map] at u
        exact u
      obtain ⟨p, hp⟩ : ∃ p, L[i]? = some p := ⟨L[i], List.getElem?_eq_getElem il⟩
      have hm : p ∈ L := List.mem_of_getElem? hp
      have lv : t.slot (way t.mask (thash P w k) (c + q)) = .live i := slot_live R.tab.ris hi
      have rest : wpAny (model P w) A (searchRest a (.ref x) (thash P w k) true f es t (way t.mask (thash P w k) (c + q)) i (stp t.mask (thash P w k) (c + (q + 1)))) Q E s := by
        unfold searchRest
        rw [R.row hp]
        dsimp only
        refine wpAny_bind (wpAny_holding (wpAny_eqBool_tuple hu (R.tup p hm) hx ?_))
        refine wpAny_bind (wpAny_setState_of ho hdat R.fits ?_)
        dsimp only
        by_cases same : p.2 = k
        · exact wp_if_pos (by simp [same]) (wpAny_pure (hin (List.mem_map.mpr ⟨p, hm, same⟩)))
        · refine wp_if_neg (by simp [same]) ?_
          try refine wpAny_bind (wpAny_pure ?_)
          rw [sameMem]
          dsimp only
          simp only [if_true, lv, R.row hp]
          refine wpAny_bind (wpAny_isSame_ref_self (wpAny_bind (wpAny_pure ?_)))
          simp only [if_true]
          refine wp_if_neg (by simp [same]) (ih (d - (q + 1)) (c + (q + 1)) _ (by omega) (by omega) rfl fun i0 p0 h0 k0 => ?_)
          obtain ⟨r, r1, r2⟩ := near i0 p0 h0 k0
          have past : q < r := by
            rcases Nat.lt_trichotomy r q with z | z | z
            · exact absurd ((hashAt i0 p0 h0).trans (congrArg (thash P w) k0)) (no r i0 z (by rw [wy]; exact r2))
            · rw [z] at r2
              have z2 := slot_live R.tab.ris r2
              rw [lv] at z2
              injection z2 with z2
              rw [← z2, hp] at h0
              exact absurd ((congrArg Prod.snd (Option.some.inj h0)).trans k0) same
            · exact z
          exact ⟨r - (q + 1), by omega, by rw [r2, show c + (q + 1) + (r - (q + 1)) = c + r by omega]⟩
      by_cases hl : t.led = true
      · refine wp_if_neg (by simp [hl]) ?_
        try refine wpAny_bind (wpAny_pure ?_)
        exact rest
      · refine wp_if_pos (by simp [hl]) (wpAny_bind (seen_tup hx (fun y hy => ?_) ?_))
        · obtain ⟨e, he, rfl⟩ := List.mem_map.mp hy
          have he : e ∈ es ∧ e.1 = thash P w k := by simpa using he
          have he : e ∈ es.toList := by simpa using he.1
          rw [R.rows] at he
          obtain ⟨p2, hp2, rfl⟩ := List.mem_map.mp he
          exact ⟨p2.2, p2.1, rfl, R.tup p2 hp2⟩
        · refine wp_if_neg (by decide) ?_
          try refine wpAny_bind (wpAny_pure ?_)
          exact rest
    · have pr : t.probe (fun i => (es[i]?.map (·.1)).getD 0) (thash P w k) (stand.getD (t.probeStart (thash P w k))) = some (.empty (way t.mask (thash P w k) K) none) := by
        rw [hst, ← ecd, ← wy]
        exact pr
      rw [pr]
      dsimp only
      refine wpAny_pure (hout fun m => ?_)
      obtain ⟨p0, h0, k0⟩ := List.mem_map.mp m
      obtain ⟨i0, h0⟩ := List.getElem?_of_mem h0
      obtain ⟨r, r1, r2⟩ := near i0 p0 h0 k0
      exact no r i0 r1 (by rw [wy]; exact r2) ((hashAt i0 p0 h0).trans (congrArg (thash P w) k0))
end
theorem seek_all (R : SetB P w s.heap a L es ep t) {x : Addr} {k : List Int} (hx : IsT P w s.heap k x) (hu : A.units < cLine) {Q : SetFound → Shared → Prop} (hin : k ∈ L.map (·.2) → Q (.there none) s)
    (hout : ∀ K, k ∉ L.map (·.2) → way t.mask (thash P w k) K ∉ t.place.toList → (∀ c, c < K → way t.mask (thash P w k) c ∈ t.place.toList) → Q (.free (way t.mask (thash P w k) K) false) s) :
    wpAny (model P w) A (setSearch a (.ref x) (thash P w k) true) Q E s := by
  have r1 := R.room
  have r2 := R.cap
  have r3 := R.few
  have tl := R.tab.len
  rw [List.length_map] at tl
  obtain ⟨K, hf, hK, hb⟩ := way_first R.tab.pw (thash P w k) (l := t.place.toList) (by omega)
  have big : K < 100000 := by
    unfold SetTable.turns at hf
    omega
  refine seek R hx hu hf hK hb hin (fun hn => hout K hn hK hb) 100000 K 0 none (by omega) big rfl fun i p hp hk => ?_
  have hi : (hsh P w L)[i]? = some (thash P w k) := by
    rw [List.getElem?_map, hp, ← hk]
    rfl
  have il : i < t.place.toList.length := by
    have := (List.getElem?_eq_some_iff.mp hp).1
    omega
  obtain ⟨q, q1, q2⟩ := R.tab.ahead hK hi (List.getElem?_eq_getElem il)
  exact ⟨q, q1, by rw [List.getElem?_eq_getElem il, Nat.zero_add, q2]⟩
end
end MM


namespace MM
open PySem PySem.Spec L2 PyProof.Rows
section
variable {P : Program} {w : World} {A : Around} {E : Value → Shared → Prop} {s : Shared} {a : Addr} {L : Ks} {es : Array (Int × Value)} {ep : Nat} {t : SetTable}
/-- laid anew, larger -/
theorem enlarge {o : Obj} (ho : s.heap.get? a = some o) (hex : o.ExactSet) (hd : o.data = .set es ep t) (rows : es.toList = rowsOf P w L) (T : TabP t (hsh P w L)) (nd : (L.map (·.2)).Nodup) (tup : ∀ p ∈ L, IsT P w s.heap p.2 p.1) (pl : t.plain = true) (ld : w.params.followText "set-order" = true ∨ t.led = true)
    (hm : L.length ≤ t.mask) (one : 1 ≤ L.length) (few : L.length ≤ 1000) {Q : Unit → Shared → Prop} (hQ : ∀ h' L' es' ep' t', Heap.SameBut a s.heap h' → SetB P w h' a L' es' ep' t' → L'.Perm L → Q () { s with heap := h' }) :
    wpAny (model P w) A (setRelay a (SetTable.grown L.length)) Q E s := by
  have gr : SetTable.grown L.length = L.length * 4 := by
    unfold SetTable.grown
    rw [if_neg (by omega)]
  rw [gr]
  obtain ⟨pw, lo, hi⟩ := size_above (n := L.length * 4) (by omega) (by omega)
  have sl := rows_size rows
  have fits := tab_fits rows T hm
  obtain ⟨t', order, e, perm, T', em, el, epl⟩ := relay_table t (hs := es.map (·.1)) (wanted := L.length * 4) rfl pw (by rw [Array.size_map, sl]; omega)
  rw [Array.size_map, sl] at perm
  obtain ⟨L2, r1, r2, r3⟩ := order_rows L es order rows perm
  rw [← r3] at T'
  have sz2 : (order.filterMap (es[·]?)).size = L.length := (rows_size r1).trans r2.length_eq
  rw [setRelay_eq]
  refine wpAny_bind (wpAny_setState_of ho hd fits ?_)
  dsimp only
  refine wp_if_neg (by rw [sizeLine_eq]; omega) ?_
  try refine wpAny_bind (wpAny_pure ?_)
  rw [e]
  dsimp only
  refine wpAny_bind (wp_if_neg (by rw [sz2, sl]; simp) ?_)
  try refine wpAny_bind (wpAny_pure ?_)
  refine wpAny_pure ?_
  dsimp only
  refine wpAny_storeSet_of ho hd ?_ (by rw [sz2, sizeLine_eq]; omega)
  have sb : Heap.SameBut a s.heap (s.heap.update a (Obj.putSet (order.filterMap (es[·]?)) t')) := Heap.SameBut.update ..
  have lq := r2.length_eq
  exact hQ _ L2 _ (ep + 1) t' sb ⟨⟨r1, T', (r2.map (·.2)).nodup_iff.mpr nd, by rw [epl]; exact pl, by rw [el]; exact ld, by rw [em, lq]; omega, by rw [em, lq]; omega, by rw [lq]; exact few⟩, ⟨_, store_at ho hd, ⟨hex.1, hex.2.1, hex.2.2⟩, rfl⟩, fun p hp => isT_same (tup p (r2.mem_iff.mp hp)) ho hd sb⟩ r2
theorem put_in (R : SetB P w s.heap a L es ep t) {x : Addr} {k : List Int} (hx : IsT P w s.heap k x) (hu : A.units < cLine) (hfew : L.length + 1 ≤ 1000) {Q : Bool → Shared → Prop}
    (hQ : ∀ b h' L' es' ep' t', Heap.SameBut a s.heap h' → SetB P w h' a L' es' ep' t' → (k ∈ L.map (·.2) → L' = L) → (k ∉ L.map (·.2) → L'.Perm ((x, k) :: L)) → Q b { s with heap := h' }) :
    wpAny (model P w) A (setAddHashed a (.ref x) (thash P w k)) Q E s := by
  obtain ⟨o, ho, hex, hd⟩ := R.ob
  have sl := R.len
  have r1 := R.room
  have r2 := R.cap
  unfold setAddHashed
  refine wpAny_holding ?_
  rw [show (100000 : Nat) = 99999 + 1 from rfl, setAddHashedIn_succ]
  refine wpAny_bind (wpAny_setState_of ho hd R.fits ?_)
  dsimp only
  refine wp_if_neg (by simp [byScan, Value.scannable]) ?_
  try refine wpAny_bind (wpAny_pure ?_)
  refine wpAny_bind (seek_all R hx hu (fun m => ?_) fun K m hK hb => ?_)
  · exact wpAny_pure (hQ false s.heap L es ep t (Heap.SameBut.refl a s.heap) R (fun _ => rfl) fun z => absurd m z)
  dsimp only
  refine wpAny_bind (wpAny_setState_of ho hd R.fits ?_)
  dsimp only
  obtain ⟨p, p1, p2, T⟩ := R.tab.add hK hb
  have mk : (t.put (way t.mask (thash P w k) K)).1.mask = t.mask := rfl
  have ld1 : w.params.followText "set-order" = true ∨ (t.put (way t.mask (thash P w k) K)).1.led = true := R.led
  have pl1 : (t.put (way t.mask (thash P w k) K)).1.plain = true := R.plain
  generalize t.put (way t.mask (thash P w k) K) = pt at p1 T mk ld1 pl1 ⊢
  obtain ⟨t1, p'⟩ := pt
  dsimp only at p1 T mk ld1 pl1 ⊢
  subst p1
  first
    | (refine wpAny_bind ?_; refine wp_if_pos pl1 ?_; refine hashBy_tup hx ?_)
    | refine wp_if_pos pl1 (wpAny_bind (hashBy_tup hx ?_))
  simp only [if_true]
  have ins : (SetTable.insertAt es p' (thash P w k, Value.ref x)).toList = rowsOf P w (L.take p' ++ (x, k) :: L.drop p') := by
    rw [SetTable.toList_insertAt, rows_put, R.rows]
  have pm := put_perm L p' (x, k)
  have T1 : TabP t1 (hsh P w (L.take p' ++ (x, k) :: L.drop p')) := by
    show TabP t1 ((L.take p' ++ (x, k) :: L.drop p').map fun p => thash P w p.2)
    rw [List.map_append, List.map_cons, List.map_take, List.map_drop]
    exact T
  generalize SetTable.insertAt es p' (thash P w k, Value.ref x) = es1 at ins ⊢
  generalize L.take p' ++ (x, k) :: L.drop p' = L1 at ins pm T1
  have ll : L1.length = L.length + 1 := pm.length_eq
  have nd1 : (L1.map (·.2)).Nodup := (pm.map (·.2)).nodup_iff.mpr (List.nodup_cons.mpr ⟨m, R.nd⟩)
  have s1 := rows_size ins
  refine wpAny_bind (wpAny_storeSet_of ho hd ?_ (by rw [s1, sizeLine_eq]; omega))
  have sb : Heap.SameBut a s.heap (s.heap.update a (Obj.putSet es1 t1)) := Heap.SameBut.update ..
  have ho1 := store_at (es' := es1) (t' := t1) ho hd
  generalize s.heap.update a (Obj.putSet es1 t1) = h1 at sb ho1 ⊢
  have tup1 : ∀ p ∈ L1, IsT P w h1 p.2 p.1 := fun p hp => by
    rcases List.mem_cons.mp (pm.mem_iff.mp hp) with e | hp
    · rw [e]
      exact isT_same hx ho hd sb
    · exact isT_same (R.tup p hp) ho hd sb
  have fl : t1.fill = L1.length := by
    have d : t1.dummies.size = 0 := by rw [T1.dm]; rfl
    have z := T1.sz
    rw [List.length_map] at z
    unfold SetTable.fill
    omega
  have full : t1.tooFull = decide (t1.fill * 5 ≥ t1.mask * 3) := rfl
  by_cases hf : t1.tooFull = true
  · first
      | (refine wpAny_bind ?_; refine wp_if_pos (by simp [hf]) ?_)
      | (refine wp_if_pos (by simp [hf]) ?_; refine wpAny_bind ?_)
    rw [show es.size + 1 = L1.length by omega]
    refine enlarge (s := { s with heap := h1 }) ho1 ⟨hex.1, hex.2.1, hex.2.2⟩ rfl ins T1 nd1 tup1 pl1 ld1 (by omega) (by omega) (by omega) fun h2 L2 es2 ep2 t2 sb2 R2 pm2 => ?_
    exact wpAny_pure (hQ true h2 L2 es2 ep2 t2 (sb.trans sb2) R2 (fun z => absurd z m) fun _ => pm2.trans pm)
  · first
      | refine wp_if_neg (by simp [hf]) ?_
      | (refine wpAny_bind ?_; refine wp_if_neg (by simp [hf]) ?_; refine wpAny_pure ?_)
    rw [full, decide_eq_true_eq, fl] at hf
    exact wpAny_pure (hQ true h1 L1 es1 (ep + 1) t1 sb ⟨⟨ins, T1, nd1, pl1, ld1, by omega, by omega, by omega⟩, ⟨_, ho1, ⟨hex.1, hex.2.1, hex.2.2⟩, rfl⟩, tup1⟩ (fun z => absurd z m) fun _ => pm)
theorem SetB.up {h h' : Heap} (R : SetB P w h a L es ep t) (ha : ∀ o, h.get? a = some o → h'.get? a = some o) (ht : ∀ p ∈ L, IsT P w h' p.2 p.1) : SetB P w h' a L es ep t := by
  obtain ⟨o, ho, r⟩ := R.ob
  exact ⟨R.toFlat, ⟨o, ha o ho, r⟩, ht⟩
theorem setB_new {h : Heap} (ho : h.get? a = some (hole w)) : SetB P w h a [] #[] 0 (.fresh 0 0 (!w.params.followText "set-order")) := by
  refine ⟨⟨rfl, ⟨List.Pairwise.nil, rfl, rfl, ⟨3, by decide, rfl⟩, fun i h j hi => by simp at hi⟩, List.nodup_nil, rfl, ?_, (show 0 * 5 < 7 * 3 by decide), (show 7 ≤ 8 * 0 + 7 by decide), (show 0 ≤ 1000 by decide)⟩, ⟨_, ho, ⟨rfl, rfl, rfl⟩, rfl⟩, fun p hp => by cases hp⟩
  show _ ∨ (!w.params.followText "set-order") = true
  cases w.params.followText "set-order"
  · exact .inr rfl
  · exact .inl rfl
/-- the first i of ks are in -/
def Holds (P : Program) (w : World) (ks : Ks) (a : Addr) (i : Nat) (h : Heap) : Prop := ∃ L es ep t, SetB P w h a L es ep t ∧ Got ks i L
section
variable {Rz : Result → Shared → Prop} {I : Addr} {fp wr : List Addr} {G : Array GenState → Array GenState → Prop} {V' : Nat → Value → Prop} {St : Nat → Shared → Prop} {ks : Ks}
theorem put_each (W : WalksS P w A.in1 I fp wr G ks.length V' St) (far : a ∉ fp) (few : ks.length ≤ 1000) (hu : A.in1.units < cLine) (val : ∀ i v, V' i v → ∃ p, ks[i]? = some p ∧ v = .ref p.1) {h0 : Heap} (hk : ∀ p ∈ ks, IsT P w h0 p.2 p.1) (a0 : h0.get? a = none) (w0 : ∀ b ∈ wr, h0.get? b = none) :
    ∀ d i : Nat, i + d = ks.length → ∀ s : Shared, St i s → (∀ b o, h0.get? b = some o → s.heap.get? b = some o) → Holds P w ks a i s.heap → (∀ s', Moved (a :: wr) G s s' → (∀ b o, h0.get? b = some o → s'.heap.get? b = some o) → Holds P w ks a ks.length s'.heap → Rz (.ok (.ret .none)) s') →
      codeAny (model P w) A (.builtin "set.update.loop" ⟨[.ref a, .ref I], []⟩) Rz s := by
  have out : a ∉ wr := fun z => far (W.sub _ z)
  have kept : ∀ {s1 s2 : Shared}, Moved wr G s1 s2 → (∀ b o, h0.get? b = some o → s1.heap.get? b = some o) → ∀ b o, h0.get? b = some o → s2.heap.get? b = some o := fun mv k b o e =>
    mv.heap b o (fun hb => by rw [w0 b hb] at e; cases e) (k b o e)
  have hold : ∀ {i : Nat} {s1 s2 : Shared}, Moved wr G s1 s2 → (∀ b o, h0.get? b = some o → s2.heap.get? b = some o) → Holds P w ks a i s1.heap → Holds P w ks a i s2.heap := fun mv k ⟨L, es, ep, t, R, g⟩ =>
    ⟨L, es, ep, t, R.up (fun o e => mv.heap a o out e) fun p hp => isT_keep (hk p (List.mem_of_mem_take (g.sub p hp))) k, g⟩
  intro d
  induction d with
  | zero =>
    intro i e s st k0 z res
    have e : i = ks.length := e
    subst e
    refine codeAny_builtin F.entry_set_update_loop ?_
    rw [Around.under_plainId F.plain_set_update_loop _]
    refine wpAny_bind (m := pyNext (.ref I)) (W.done s _ _ st fun s2 mv => wpAny_pure ?_)
    exact res s2 (mv.mono fun b hb => List.mem_cons_of_mem _ hb) (kept mv k0) (hold mv (kept mv k0) z)
  | succ d ih =>
    intro i e s st k0 z res
    have hi : i < ks.length := by omega
    refine codeAny_builtin F.entry_set_update_loop ?_
    rw [Around.under_plainId F.plain_set_update_loop _]
    refine wpAny_bind (m := pyNext (.ref I)) (W.item i s _ _ hi st fun v s2 hv st2 mv => ?_)
    obtain ⟨p, hp, rfl⟩ := val i v hv
    have k2 := kept mv k0
    obtain ⟨L, es, ep, t, R, g⟩ := hold mv k2 z
    have hx : IsT P w s2.heap p.2 p.1 := isT_keep (hk p (List.mem_of_getElem? hp)) k2
    refine wpAny_bind (m := holding [Value.ref p.1] (setAdd a (.ref p.1))) (wpAny_holding ?_)
    unfold setAdd
    refine wpAny_holding (wpAny_bind (wpAny_pyHash_tuple hu hx ?_))
    have le := g.len
    refine put_in (s := { s2 with toks := s2.toks + (p.2.length + 1) }) R hx hu (by omega) fun b h3 L' es' ep' t' same R3 c1 c2 => ?_
    have g3 : Got ks (i + 1) L' := by
      rcases Classical.em (p.2 ∈ L.map (·.2)) with c | c
      · rw [c1 c]
        exact g.same hp c
      · exact g.more hp (c2 c)
    have keep : ∀ b o, b ≠ a → s2.heap.get? b = some o → h3.get? b = some o := fun b o hb ho => (same.2 b hb).trans ho
    have k3 : ∀ b o, h0.get? b = some o → h3.get? b = some o := fun b o e => keep b o (fun y => by rw [y, a0] at e; cases e) (k2 b o e)
    refine wpAny_pure ⟨plainId_quiet F.plain_set_update_loop _, ih (i + 1) (by omega) _ (W.frame _ s2 _ _ st2 (Nat.le_add_right _ _) fun b hb o ho => keep b o (fun y => far (y ▸ hb)) ho) k3 ⟨L', es', ep', t', R3, g3⟩ fun s4 mv2 k4 z4 => ?_⟩
    refine res s4 (Moved.trans W.gtrans ((mv.mono fun b hb => List.mem_cons_of_mem _ hb).then_heap (Nat.le_add_right _ _) fun b o hb ho => ?_) mv2) k4 z4
    exact keep b o (fun y => hb (y ▸ List.mem_cons_self)) ho
end
end
end MM

namespace MM
open PySem PySem.Spec L2 PyProof.Rows
section
variable {P : Program} {w : World} {A : Around} {E : Value → Shared → Prop} {s : Shared}
set_option maxHeartbeats 8000000 in
/-- set(a list of tuples of ints) -/
theorem set_rows {l : Addr} {items : Array Value} {ks : Ks} {Q : Value → Shared → Prop} (hh : A.handled = none) (hl : s.heap.IsList l items) (hi : items.toList = ks.map fun p => Value.ref p.1) (hk : ∀ p ∈ ks, IsT P w s.heap p.2 p.1) (few : ks.length ≤ 1000) (hu : A.units + 3 < cLine)
    (h : ∀ h' tk, Holds P w ks s.heap.objs.size ks.length h' → (∀ b o, s.heap.get? b = some o → h'.get? b = some o) → Q (.ref s.heap.objs.size) { s with heap := h', toks := tk }) : wpAny (model P w) A (call (.type "set") [.ref l]) Q E s := by
  have size : ks.length = items.size := by
    have e := congrArg List.length hi
    rw [List.length_map] at e
    exact e.symm
  have under : l < s.heap.objs.size := by
    obtain ⟨o, e, _⟩ := hl
    exact Heap.lt_size e
  have grown : (s.heap.push (hole w)).objs.size = s.heap.objs.size + 1 := Heap.size_push ..
  have self : (s.heap.push (hole w)).get? s.heap.objs.size = some (hole w) := Heap.get?_push_size _ rfl
  have beside : l ≠ (s.heap.push (hole w)).objs.size := fun z => Nat.ne_of_lt (Nat.lt_succ_of_lt under) (z.trans grown)
  have apart : s.heap.objs.size ∉ [(s.heap.push (hole w)).objs.size, l] := by
    intro z
    rcases List.mem_cons.mp z with z | z
    · exact Nat.ne_of_lt (Nat.lt_succ_self _) (z.trans grown)
    · rw [List.mem_singleton] at z
      exact Nat.ne_of_gt under z
  have there0 : (s.heap.push (hole w)).IsList l items := hl.push _
  obtain ⟨c, tl, hmro⟩ := F.called_set.mro
  have hmade := F.called_set.made
  have hsub := F.called_set.sub
  have h1 := F.called_set.notType
  have h2 := F.called_set.canCreate
  have hct := F.typeCall_set_1 (.ref l)
  refine wpAny_call (codeAny_of_tree ?_)
  show wpAny _ _ (callAny (.type "set") _) _ _ _
  refine wpAny_pure ⟨Code.quiet_builtin _ (by decide +kernel), codeAny_builtin F.entry_type_call ?_⟩
  rw [Around.under_plain (weight_type_call_type "set" [.ref l] []) rfl]
  repeat (any_goals (first | assumption | wp_step))
  refine codeAny_mono (code_set_led1 (.ref l) (E := E) (Q₁ := fun v t => v = .ref s.heap.objs.size ∧ t = { s with heap := s.heap.push (hole w) }) ⟨rfl, rfl⟩) fun r t hr => ?_
  match r, hr with
  | .error e, hr => exact hr
  | .ok (.ret v), ⟨ev, et⟩ =>
    subst ev et
    have hT : Shared.TypeIs { s with heap := s.heap.push (hole w) } (.ref s.heap.objs.size) "set" := ⟨_, self, rfl⟩
    have hli := F.called_set.init.lookup
    have hbi := F.called_set.init.bind (.ref s.heap.objs.size)
    repeat (any_goals (first | assumption | wp_step))
    refine codeAny_mono (codeAny_call_builtin (R := wants (fun v t => v = .none ∧ ∃ h' tk, t = { s with heap := h', toks := tk } ∧ Holds P w ks s.heap.objs.size ks.length h' ∧ (∀ b o, s.heap.get? b = some o → h'.get? b = some o)) E) F.called_set.init.plain F.entry_set_init (check_set_init_1 hT ?init)) fun r t hr => ?after
    case after =>
      match r, hr with
      | .error e, hr => exact hr
      | .ok (.ret v), ⟨ev, h', tk, et, z, kp⟩ =>
        subst ev et
        repeat (any_goals (first | assumption | wp_step))
        exact h _ _ z kp
      | .ok .next, hr => exact hr.elim
      | .ok .brk, hr => exact hr.elim
      | .ok .cont, hr => exact hr.elim
    case init =>
      obtain ⟨⟨lc, ld, lx, ls⟩, hol, hcl, nl, hdl⟩ := there0
      simp only at hcl hdl
      subst hcl
      subst hdl
      have n1 := F.sub_list_set
      have n2 := F.sub_list_frozenset
      have n3 : (Value.type "list" == Value.type "dict") = false := by decide
      have there : (s.heap.push (hole w)).IsList l items := ⟨_, hol, rfl, nl, rfl⟩
      unfold Builtin.«set.__init__» noKeywords Builtin.Frozenset.updateFrom
      generalize hPI : pyIter = PI
      wp_walk
      subst hPI
      refine wpAny_pyIter_list there (wpAny_bind (wpAny_runValue ?_))
      have quiet : A.in1.in1.in1.handled = none := by simp [hh]
      have W := (Walks.list (prog := P) (w := w) quiet (s.heap.push (hole w)).objs.size l beside items).toS
      rw [← size] at W
      refine put_each (a := s.heap.objs.size) (h0 := s.heap) W apart few hu (fun i v hv => ?_) hk ?a0 ?w0 ks.length 0 (Nat.zero_add _) _ ⟨⟨_, Heap.get?_push_size _ rfl, rfl, rfl⟩, there.push _⟩ ?k0 ?start ?stop
      case a0 => exact Heap.get?_none_of_le (Nat.le_refl _)
      case w0 =>
        intro b hb
        rw [List.mem_singleton.mp hb]
        exact Heap.get?_none_of_le (by rw [grown]; exact Nat.le_succ _)
      case k0 => exact fun b o ho => Heap.get?_push_of_some _ (Heap.get?_push_of_some _ ho)
      case start =>
        have g0 : ((s.heap.push (hole w)).push { cls := .type "list_iterator", data := .fields #[.ref l, .int 0 0] }).get? s.heap.objs.size = some (hole w) := Heap.get?_push_of_some _ self
        exact ⟨[], _, _, _, setB_new g0, Got.zero ks⟩
      case stop =>
        rintro ⟨h', g', d', tk', os'⟩ moved kp z
        have eg : g' = s.gens := moved.gens
        have ed : d' = s.drawn := moved.drawn
        have eo : os' = s.os := moved.os
        subst eg ed eo
        show wpAny _ _ _ _ _ _
        refine wpAny_pure ?_
        show wpAny _ _ (ret Value.none) _ _ _
        exact wpAny_pure ⟨rfl, h', tk', rfl, z, kp⟩
      · have q : items.toList[i]? = some v := by
          rw [Array.getElem?_toList]
          exact hv
        rw [hi, List.getElem?_map] at q
        obtain ⟨p, h1, h2⟩ := Option.map_eq_some_iff.mp q
        exact ⟨p, h1, h2.symm⟩
  | .ok .next, hr => exact hr.elim
  | .ok .brk, hr => exact hr.elim
  | .ok .cont, hr => exact hr.elim
/-- sorted(a set of tuples of ints) -/
theorem sort_rows {a : Addr} {L : Ks} {es : Array (Int × Value)} {ep : Nat} {t : SetTable} {Q : Value → Shared → Prop} (R : SetB P w s.heap a L es ep t) (hh : A.handled = none) (ne : ∀ p ∈ L, p.2 ≠ [])
    (hQ : ∀ s' p (L' : Ks) (out : Array Value) (c : Nat), (∀ b o, s.heap.get? b = some o → s'.heap.get? b = some o) → s'.gens = s.gens → s'.os = s.os → s.heap.objs.size ≤ p →
      s'.heap.get? p = some (seqObj "list" out c) → out.toList = L'.map (fun q => Value.ref q.1) → L'.Perm L → (L'.map (·.2)).Pairwise (fun r t => llt t r = false) → Q (.ref p) s') :
    wpAny (model P w) A (call (.builtin "sorted") [.ref a]) Q E s := by
  obtain ⟨o, ho, hex, hd⟩ := R.ob
  have few := R.few
  have sl := R.len
  refine Calls.call_function_entry kind_sorted plain_sorted entry_sorted (args_sorted1 _) ?_
  unfold Builtin.«sorted»
  refine wpAny_bind (m := checkCount "sorted" 1 1 _) (wpAny_pure ?_)
  refine wpAny_bind (collect_set (A := A.in1) hh ⟨o, ho, hex.1, hd⟩ R.fits (by unfold scanBound; omega) R.tab.ris R.led fun s1 vs k1 hz g1 o1 pm => ?_)
  have refs : es.toList.map (·.2) = L.map fun q => Value.ref q.1 := by
    rw [R.rows]
    unfold rowsOf
    rw [List.map_map]
    rfl
  rw [refs] at pm
  obtain ⟨L1, rfl, pL⟩ := perm_map pm
  have l1 := pL.length_eq
  refine wpAny_bind (wpAny_newList ?_ (by rw [sizeLine_eq]; simp; omega))
  have hoL : (s1.heap.push (seqObj "list" (L1.map fun q => Value.ref q.1).toArray 0)).get? s1.heap.objs.size = some (seqObj "list" (L1.map fun q => Value.ref q.1).toArray 0) := Heap.get?_push_size _ rfl
  generalize hh1 : s1.heap.push (seqObj "list" (L1.map fun q => Value.ref q.1).toArray 0) = h1 at hoL ⊢
  have tk : ∀ q ∈ L1, TS.TupInts h1 (.ref q.1) q.2 := fun q hq => by
    rw [← hh1]
    exact tupInts_of (P := P) (w := w) (isT_keep (R.tup q (pL.mem_iff.mp hq)) fun b u e => Heap.get?_push_of_some _ (k1 b u e))
  have raw : ∀ v ∈ L1.map (fun q => Value.ref q.1), ∃ n ns, TS.TupInts h1 v (n :: ns) := fun v hv => by
    obtain ⟨q, hq, rfl⟩ := List.mem_map.mp hv
    have t1 := tk q hq
    have n1 := ne q (pL.mem_iff.mp hq)
    cases e : q.2 with
    | nil => exact absurd e n1
    | cons n ns =>
      rw [e] at t1
      exact ⟨n, ns, t1⟩
  obtain ⟨fs, hfs⟩ := tupsOf_sh0 raw
  refine wpAny_bind (wpAny_holding (wpAny_call_entry slot_list_sort ⟨_, hoL, rfl⟩ entry_list_sort (PyProof.Rows.G.list_sort_tups (shape := sh0) (s := { s1 with heap := h1 }) hoL hfs (fun v hv => ?key) (by rw [sizeLine_eq]; simp; omega) fun st' b1 b2 _ => ⟨_, rfl, ?ret⟩) (args_list_sort _)))
  case key =>
    obtain ⟨n, ns, x⟩ := raw v hv
    exact ⟨_, key_sh0 x⟩
  case ret =>
    have p1 : (arrOf st').toList.Perm ((L1.map fun q => Value.ref q.1).zip (L1.map fun q => Value.ref q.1)) := by
      have z := Array.perm_iff_toList_perm.mp b1
      rw [pairsOf_toList] at z
      exact z
    have snd : ((arrOf st').map (·.2)).toList = (arrOf st').toList.map Prod.snd := by rw [Array.toList_map]
    have p2 : ((arrOf st').map (·.2)).toList.Perm (L1.map fun q => Value.ref q.1) := by
      rw [snd]
      have z := p1.map Prod.snd
      rw [List.map_snd_zip (Nat.le_refl _)] at z
      exact z
    have same : ∀ p ∈ (arrOf st').toList, p.1 = p.2 := fun p hp => (mem_zip_self (p1.mem_iff.mp hp)).1
    obtain ⟨L', e', pm'⟩ := perm_map p2
    obtain ⟨c, hc⟩ := sortedHeap_at (vs := L1.map fun q => Value.ref q.1) (out := (arrOf st').map (·.2)) hoL
    have old : ∀ b u, s.heap.get? b = some u → (sortedHeap h1 s1.heap.objs.size (L1.map fun q => Value.ref q.1) ((arrOf st').map (·.2))).get? b = some u := fun b u e => by
      have q := k1 b u e
      have lt := Heap.lt_size q
      rw [sortedHeap_old (Nat.ne_of_lt lt) (by rw [← hh1, size_push']; exact Nat.lt_succ_of_lt lt), ← hh1]
      exact Heap.get?_push_of_some _ q
    refine wpAny_pure ⟨_, rfl, hQ _ s1.heap.objs.size L' _ c old g1 o1 hz hc e' (pm'.trans pL) ?_⟩
    rw [snd] at e'
    rw [List.pairwise_map, List.pairwise_iff_getElem]
    intro i j hi hj lt
    have ll := congrArg List.length e'
    rw [List.length_map, List.length_map] at ll
    have size : (arrOf st').toList.length = (arrOf st').size := rfl
    have srt := b2 i j (Nat.le_of_lt lt) (by
      have z := p1.length_eq
      rw [pairsOf_size]
      rw [List.length_zip, Nat.min_self] at z
      omega)
    have kk : ∀ (k : Nat) (hk : k < L'.length), KK (PyProof.Rows.G.tupKindC h1 sh0) (arrOf st') k = (L'[k]).2.map Sum.inl := fun k hk => by
      have hk2 : k < (arrOf st').toList.length := by omega
      have ev : ((arrOf st').toList[k]).2 = Value.ref (L'[k]).1 := by
        have a : ((arrOf st').toList.map Prod.snd)[k]? = (L'.map fun q => Value.ref q.1)[k]? := by rw [e']
        rw [List.getElem?_map, List.getElem?_map, List.getElem?_eq_getElem hk2, List.getElem?_eq_getElem hk] at a
        exact Option.some.inj a
      have mm := same _ (List.getElem_mem hk2)
      unfold KK
      have eg : (arrOf st')[k]? = some ((arrOf st').toList[k]) := by simp [show k < (arrOf st').size by omega]
      rw [eg]
      show (PyProof.Rows.G.tupKeyC h1 sh0 _).getD _ = _
      rw [mm, ev, key_sh0 (tk _ (pm'.mem_iff.mp (List.getElem_mem hk)))]
      rfl
    rw [kk i hi, kk j hj] at srt
    rw [← lex_llt]
    exact srt
end
end MM

namespace MM
open PySem PySem.Spec L2 PyProof.Rows
section
variable {P : Program} {w : World} {A : Around} {E : Value → Shared → Prop} {s : Shared}
/-- sorted(a set of ints), as many as there are -/
theorem sort_intset {a : Addr} {S : Int → Bool} {n : Nat} {Q : Value → Shared → Prop} (R : SetR w s.heap a S n) (hh : A.handled = none)
    (hQ : ∀ s' p (out : Array Value) (c : Nat) (ns : List Int), (∀ b o, s.heap.get? b = some o → s'.heap.get? b = some o) → s'.gens = s.gens → s'.os = s.os → s.heap.objs.size ≤ p →
      s'.heap.get? p = some (seqObj "list" out c) → IntsAre out.toList ns → ns.Pairwise (· < ·) → (∀ k, k ∈ ns ↔ S k = true) → ns.length = n → Q (.ref p) s') :
    wpAny (model P w) A (call (.builtin "sorted") [.ref a]) Q E s := by
  obtain ⟨o, es, ep, t, ho, hex, hd, good, nd, mem, few, fits, size, ris, led⟩ := R
  have line : (4096 : Nat) ≤ sizeLine := by decide
  have few2 : es.size < 4096 := few
  refine Calls.call_function_entry kind_sorted plain_sorted entry_sorted (args_sorted1 _) ?_
  unfold Builtin.«sorted»
  refine wpAny_bind (m := checkCount "sorted" 1 1 _) (wpAny_pure ?_)
  refine wpAny_bind (collect_set (A := A.in1) hh ⟨o, ho, hex.1, hd⟩ fits few ris led fun s1 vs k1 hz g1 o1 pm => ?_)
  have hvl : vs.length = es.size := by rw [pm.length_eq, List.length_map, Array.length_toList]
  have hI : IntsAre vs (vs.map Builtin.Re.reRawOf) := ints_of vs fun v hv => by
    obtain ⟨e, he, rfl⟩ := List.mem_map.mp (pm.mem_iff.mp hv)
    obtain ⟨k, tk, h1, _⟩ := good e he
    exact ⟨k, tk, h1⟩
  have pk : (vs.map Builtin.Re.reRawOf).Perm (es.toList.map keyOf) := by
    have q := pm.map Builtin.Re.reRawOf
    rw [List.map_map] at q
    exact q
  refine wpAny_bind (wpAny_newList ?_ (by rw [hvl]; omega))
  have hoL : (s1.heap.push (seqObj "list" vs.toArray 0)).get? s1.heap.objs.size = some (seqObj "list" vs.toArray 0) := Heap.get?_push_size _ rfl
  refine wpAny_bind (wpAny_holding (wpAny_call_entry slot_list_sort ⟨_, hoL, rfl⟩ entry_list_sort (list_sort_treeAny hoL hI (by rw [hvl]; omega) fun out ns' a1 a2 a3 => ⟨_, rfl, ?ret⟩) (args_list_sort _)))
  case ret =>
    obtain ⟨c, hc⟩ := sortedHeap_at (vs := vs) (out := out) hoL
    have pn : ns'.Perm (es.toList.map keyOf) := a2.trans pk
    refine wpAny_pure ⟨_, rfl, hQ _ s1.heap.objs.size out c ns' (fun b u e => ?_) g1 o1 hz hc a1 (lt_of_le_nodup ns' a3 (pn.nodup_iff.mpr nd)) (fun k => by rw [pn.mem_iff, ← mem k]) ?_⟩
    · have q := k1 b u e
      have lt := Heap.lt_size q
      show (sortedHeap (s1.heap.push (seqObj "list" vs.toArray 0)) s1.heap.objs.size vs out).get? b = some u
      rw [sortedHeap_old (Nat.ne_of_lt lt) (by rw [size_push']; exact Nat.lt_succ_of_lt lt)]
      exact Heap.get?_push_of_some _ q
    · rw [pn.length_eq, List.length_map, Array.length_toList, size]
end
/-- a new list, laid behind -/
theorem laid_list {X : Cx} {pins : List (Addr × Obj)} {σ : L2.St} {H : Hp} {s s' : Shared} {p : Addr} {vs : List V} {us : List Value} {c : Nat} (I : Inv X pins σ H s) (k : ∀ b o, s.heap.get? b = some o → s'.heap.get? b = some o) (g : s'.gens = s.gens) (o : s'.os = s.os) (hp : s.heap.objs.size ≤ p)
    (hg : s'.heap.get? p = some (seqObj "list" us.toArray c)) (hv : Vals vs us) (hl : vs.length ≤ sizeLine) : Inv X pins σ (upd H p (.lst vs)) s' := by
  have hn : H p = none := I.hok.fresh hp
  have J : Inv X pins σ (upd H p (.lst vs)) { s with heap := s'.heap, gens := s'.gens, drawn := s'.drawn, toks := s'.toks } :=
    I.call (ch := []) (Un.laid k hp hn) (I.hok.laid k hp ⟨hl, us, c, hv, hg⟩) (by rw [g]; exact I.bare) (fun _ z => nomatch z)
  have e : s' = { s with heap := s'.heap, gens := s'.gens, drawn := s'.drawn, toks := s'.toks } := by
    cases s'
    cases s
    cases o
    rfl
  rw [e]
  exact J
def rSortedSA (w : World) : List V → Hp → VK → Prop := fun xs H Q => ∃ (a : Addr) (S : Int → Bool) (n : Nat), xs = [V.ref a] ∧ H a = some (SetO w a S n) ∧ n < 4000 ∧
  ∀ (ns : List Int) (p : Addr), ns.Pairwise (· < ·) → (∀ k, k ∈ ns ↔ S k = true) → ns.length = n → H p = none → Q (.ref p) (upd H p (.lst (ns.map V.int)))
section
variable {X : Cx}
theorem cr_sortedSA (hc : X.calm = true) : CallR X (.builtin "sorted") (rSortedSA X.w) := by
  intro pins s σ H vs us Q I r h
  obtain ⟨a, S, n, rfl, ha, few, q⟩ := h
  rw [Vals.ref1 r]
  refine sort_intset (setO_get I ha) (I.ok.hd hc) fun s' p out c ns k g o hp hg hi hs hm hl => ?_
  have line : (4000 : Nat) ≤ sizeLine := by decide
  exact ⟨.ref p, _, laid_list (us := out.toList) I k g o hp hg (vals_of_ints hi) (by rw [List.length_map]; omega), rfl, q ns p hs hm hl (I.hok.fresh hp)⟩
/-- rows of ints, as they lie -/
def RowsAt (K : PySem.W.Frag) (H : Hp) (l : Addr) (ks : Ks) : Prop := SqL K H l (ks.map fun p => V.ref p.1) ∧ ∀ p ∈ ks, SqT K H p.1 (p.2.map V.int)
def tSrtSet (K : PySem.W.Frag) (ta : TE) : TE := fun σ H Q => ta σ H fun x H1 => ∃ l ks, x = .ref l ∧ RowsAt K H1 l ks ∧ ks.length ≤ 1000 ∧ (∀ p ∈ ks, p.2 ≠ []) ∧
  ∀ (L : Ks) (p : Addr), (∀ q ∈ L, q ∈ ks) → (∀ q ∈ ks, q.2 ∈ L.map (·.2)) → (L.map (·.2)).Nodup → (L.map (·.2)).Pairwise (fun r t => llt t r = false) → H1 p = none → Q (.ref p) (upd H1 p (.lst (L.map fun q => V.ref q.1)))
theorem pe_srtSet {k : Nat} {a : Expr} {ta : TE} {p p2 q pos : Pos} (hc : X.calm = true) (hr : Room k X.A) (hg : Gl X "sorted") (hm : X.mg "sorted" = none) (hg2 : Gl X "set") (hm2 : X.mg "set" = none) (ha : PE X a ta)
    (na : starEach [a] X.env = (false, eval a X.env) :: starEach [] X.env := by rfl) : PE X (.Call (.Name "sorted" p) [.Call (.Name "set" p2) [a] [] q] [] pos) (tSrtSet X.K ta) := by
  refine ⟨fun pins s σ H Q I hyp => ?_⟩
  have un := hr.un
  refine Call_ (ld_blt I hg hm (show bootBuiltins "sorted" = some (.builtin "sorted") by decide +kernel) (callWith_builtin1 (args_cons ?_ rfl) rfl rfl))
  refine Call_ (ld_blt I hg2 hm2 PyProof.Rows.boot_set (callWith_type1 (args_cons (thn (ha.run pins s σ H _ I hyp) fun v s1 ⟨x, H1, I1, r1, l, ks, ex, ⟨hq, ht⟩, few, ne, res⟩ => args_nil ?_) na) na rfl))
  subst ex
  cases r1
  obtain ⟨its, r, pl, _⟩ := I1.list hq
  refine set_rows (P := X.prog) (w := X.w) (ks := ks) (I1.ok.hd hc) pl.isList (by simpa using refs_of_vals r) (fun p hp => I1.isT (ht p hp)) few (by omega) fun h' tk ⟨L, es, ep, t, R, g⟩ kp => ?_
  have I2 : Inv X pins σ H1 { s1 with heap := h', toks := tk } := I1.kept kp
  have sub : ∀ q ∈ L, q ∈ ks := fun q hq => List.mem_of_mem_take (g.sub q hq)
  refine args_nil (sort_rows (s := { s1 with heap := h', toks := tk }) R (I2.ok.hd hc) (fun q hq => ne q (sub q hq)) fun s' p L' out c k2 g2 o2 hp hg3 hout pm pw => ?_)
  have line : (4000 : Nat) ≤ sizeLine := by decide
  have few2 := R.few
  have ll := pm.length_eq
  have hg4 : s'.heap.get? p = some (seqObj "list" (L'.map fun q => Value.ref q.1).toArray c) := by
    rw [hg3, ← hout]
  refine ⟨.ref p, _, laid_list I2 k2 g2 o2 hp hg4 (vals_of_refs L') (by rw [List.length_map]; omega), rfl, res L' p (fun q hq => sub q (pm.mem_iff.mp hq)) (fun q hq => ?_) ((pm.map (·.2)).nodup_iff.mpr R.nd) pw (I2.hok.fresh hp)⟩
  rw [(pm.map (·.2)).mem_iff]
  exact g.all q (by rw [List.take_length]; exact hq)
end
section
variable {X : Cx} {E : En} {Γ : Gm} {M : Ow} {a : Expr} {p p2 q pos : Pos} {Φ : Rep → Ow → Prop}
theorem caw_sortedSA {w : World} {l : Addr} {ns : List Int} {c : Nat} {u : ORep → Ow} {ρ : Rep} (hE : ∀ a ∈ E.M, E.H a ≠ none) (sb : MM.Sub ρ (RRef l)) (fd : Fnd M l (OSt w l ns c) u) (hc : c < 4000)
    (k : ∀ p (ks : List Int), p ∉ M.map (·.1) → p ∉ E.M → ks.Pairwise (· < ·) → (∀ j : Int, j ∈ ks ↔ j ∈ ns) → ks.length = c → Φ (RRef p) ((p, OL (ks.map RI)) :: M)) : CaW E Γ M (rSortedSA w) [ρ] Φ := fun σ G H at_ vs hv Q q => by
  match vs, hv with
  | [v], ⟨r, _⟩ =>
    have e : v = .ref l := sb _ _ r
    subst e
    obtain ⟨o, e1, e2⟩ := at_.own _ fd.mem
    have e2 : o = SetO w l (fun j => decide (j ∈ ns)) c := e2
    subst e2
    refine ⟨l, _, c, rfl, e1, hc, fun ks p h1 h2 h3 hp => ?_⟩
    exact q _ _ _ _ _ (k p ks (at_.freshM hp) (fun z => hE p z (at_.fresh hp)) h1 (fun j => (h2 j).trans (by rw [decide_eq_true_eq])) h3) (Same.refl _) (at_.own1 hp ⟨_, rfl, reps_ints0 ks⟩) rfl
/-- a list of rows, frozen or owned -/
def ListOf (K : PySem.W.Frag) (E : En) (Γ : Gm) (M : Ow) (ρ : Rep) (ρs : List Rep) : Prop := ∀ σ G H, At E Γ M σ G H → ∀ v, ρ.p v G → ∃ l vs, v = .ref l ∧ SqL K H l vs ∧ Reps ρs vs G
theorem listOf_lt {K : PySem.W.Frag} {ρ : Rep} {ρs : List Rep} (sb : MM.Sub ρ (RLt ρs)) : ListOf K E Γ M ρ ρs := fun σ G H a v r => by
  obtain ⟨l, vs, e, h, rr⟩ := sb _ _ r
  exact ⟨l, vs, e, SqL.of (a.gh _ _ h), rr⟩
theorem listOf_ow {K : PySem.W.Frag} {ρ : Rep} {ρs : List Rep} {q : Addr} {u : ORep → Ow} (sb : MM.Sub ρ (RRef q)) (fd : Fnd M q (OL ρs) u) : ListOf K E Γ M ρ ρs := fun σ G H a v r => by
  obtain ⟨o, e1, ws, e2, rf⟩ := a.own _ fd.mem
  subst e2
  exact ⟨q, ws, sb _ _ r, SqL.of e1, rf⟩
theorem rows_lie {K : PySem.W.Frag} {G H : Hp} (s : Same G H) : ∀ {rows : List (List Int)} {vs : List V}, Reps (rows.map RTI) vs G → ∃ ks : Ks, vs = ks.map (fun p => V.ref p.1) ∧ ks.map (·.2) = rows ∧ ∀ p ∈ ks, SqT K H p.1 (p.2.map V.int) ∧ (RTI p.2).p (V.ref p.1) G
  | [], [], _ => ⟨[], rfl, rfl, fun p h => absurd h List.not_mem_nil⟩
  | row :: rows, v :: vs, ⟨r0, r⟩ => by
    obtain ⟨ks, e1, e2, e3⟩ := rows_lie (K := K) s r
    obtain ⟨t, ws, ev, ht, rt⟩ := id r0
    subst ev
    refine ⟨(t, row) :: ks, by rw [e1]; rfl, by rw [← e2]; rfl, fun p hp => ?_⟩
    rcases List.mem_cons.mp hp with e | hp
    · subst e
      rw [reps_RI rt] at ht
      exact ⟨SqT.of (s _ _ ht), r0⟩
    · exact e3 p hp
  | [], _ :: _, h => h.elim
  | _ :: _, [], h => h.elim
theorem we_srtSet {k : Nat} (hc : X.calm = true) (hr : Room k X.A) (hg : Gl X "sorted") (hm : X.mg "sorted" = none) (hg2 : Gl X "set") (hm2 : X.mg "set" = none) (hE : ∀ a ∈ E.M, E.H a ≠ none)
    (h : WE X E Γ M a fun ρ M1 => ∃ rows : List (List Int), ListOf X.K E Γ M1 ρ (rows.map RTI) ∧ rows.length ≤ 1000 ∧ (∀ r ∈ rows, r ≠ []) ∧
      ∀ p (out : List (List Int)), p ∉ M1.map (·.1) → p ∉ E.M → out.Nodup → (∀ r, r ∈ out ↔ r ∈ rows) → out.Pairwise (fun r t => llt t r = false) → Φ (RRef p) ((p, OL (out.map RTI)) :: M1))
    (na : starEach [a] X.env = (false, eval a X.env) :: starEach [] X.env := by rfl) : WE X E Γ M (.Call (.Name "sorted" p) [.Call (.Name "set" p2) [a] [] q] [] pos) Φ :=
  we_of (pe_srtSet hc hr hg hm hg2 hm2 pe_w na) fun σ G H at_ Q kq => h σ G H at_ _ fun ρ M1 v G1 H1 ⟨rows, li, few, ne, hk⟩ s1 a1 r1 => by
    obtain ⟨l, vs, e, hq, rr⟩ := li _ _ _ a1 _ r1
    obtain ⟨ks, e1, e2, e3⟩ := rows_lie (K := X.K) a1.gh rr
    subst e1
    have lk : ks.length = rows.length := by rw [← e2, List.length_map]
    refine ⟨l, ks, e, ⟨hq, fun p hp => (e3 p hp).1⟩, by omega, fun p hp => ne _ (by rw [← e2]; exact List.mem_map_of_mem hp), fun L p sub all nd pw hn => ?_⟩
    have rL : ∀ L : Ks, (∀ q ∈ L, q ∈ ks) → Reps ((L.map (·.2)).map RTI) (L.map fun q => V.ref q.1) G1 := by
      intro L
      induction L with
      | nil => exact fun _ => trivial
      | cons q L ih => exact fun hs => ⟨(e3 q (hs q List.mem_cons_self)).2, ih fun r hr => hs r (List.mem_cons_of_mem _ hr)⟩
    refine kq _ _ _ _ _ (hk p (L.map (·.2)) (a1.freshM hn) (fun z => hE p z (a1.fresh hn)) nd (fun r => ⟨fun m => ?_, fun m => ?_⟩) pw) s1 (a1.own1 hn ⟨_, rfl, rL L sub⟩) rfl
    · obtain ⟨q, hq, rfl⟩ := List.mem_map.mp m
      rw [← e2]
      exact List.mem_map_of_mem (sub q hq)
    · rw [← e2] at m
      obtain ⟨q, hq, rfl⟩ := List.mem_map.mp m
      exact all q hq
end
end MM

namespace MM
open PySem L2 PyProof.Rows
def con_L_floor : Con := { I := Rat, B := Unit, pre := fun q => Sz 8000 q, args := fun q => [RF q], own := fun _ => [], post := fun _ _ => True, res := fun q _ => RI q.floor, own' := fun _ _ => [] }
theorem ck_L_floor {ρ1 : Rep} {M : Ow} {Φ : Rep → Ow → Prop} {q : Rat} (h1 : Sub ρ1 (RF q)) (z : Sz 8000 q) (k : Φ (RI q.floor) M) : CallK con_L_floor [ρ1] M Φ :=
  ⟨q, M, z, .cons h1 .nil, .nil, fun _ _ => k⟩
def con_Lci (f : Cal → Int → Int) : Con := { I := Cal × Int, B := Unit, pre := fun i => CalOk i.1 ∧ Bd 2500 i.2, args := fun i => [RCf i.1, RI i.2], own := fun _ => [], post := fun _ _ => True, res := fun i _ => RI (f i.1 i.2), own' := fun _ _ => [] }
theorem ck_Lci {f : Cal → Int → Int} {ρ1 ρ2 : Rep} {M : Ow} {Φ : Rep → Ow → Prop} {c : Cal} {k : Int} (h1 : Sub ρ1 (RCf c)) (h2 : Sub ρ2 (RI k)) (hc : CalOk c) (z : Bd 2500 k) (q : Φ (RI (f c k)) M) : CallK (con_Lci f) [ρ1, ρ2] M Φ :=
  ⟨(c, k), M, ⟨hc, z⟩, .cons h1 (.cons h2 .nil), .nil, fun _ _ => q⟩
section
variable {P : Program} {w : World} {K : PySem.W.Frag} {mg : Str → Option Value} {base : Heap} {CS CC : Addr}

theorem ok_L_floor {f : Addr} {fd : FuncData} (F : FdD K "_law_floor" "_law_floor" s_f_L_floor [] f fd) : FnOk P w K mg base CX0 1 f fd (N_f_L_floor) (conSp con_L_floor) := by
  refine fn_conD con_L_floor F sc_f_L_floor (fun _ => rfl) fun cd A outer s H EE G (q : Rat) z hr hE => ?_
  have z : Sz 8000 q := z
  refine wss_one (ws_ret (we_bin op_fdivA (we_ix ix_seq (we_var 0 r0_f_L_floor rfl (we_int (opw_of (opv_ix_t sub_tt rfl) (we_ix ix_seq (we_var 0 r0_f_L_floor rfl (we_int (opw_of (opv_ix_t sub_tt rfl) ?_))))))))))
  have h9 : (q.den : Int).natAbs.log2 < 9000 := Nat.lt_trans (bd_log z.den (by decide)) (by decide)
  refine opw_of (opv_div_i (den_pos q) h9) ⟨(), [], trivial, ?_, .nil⟩
  show Sub _ (RI q.floor)
  rw [Rat.floor_def]
  exact Sub.rfl
theorem ok_L_start {f : Addr} {fd : FuncData} (F : FdD K "_law_start" "_law_start" s_f_L_start [] f fd) (Pl : Kn P w K mg base 2 "_law_plus" [] con_L_plus) (By : Kn P w K mg base 2 "_law_by" [] con_L_by) (Fl : Kn P w K mg base 1 "_law_floor" [] con_L_floor) : FnOk P w K mg base CX0 3 f fd (N_f_L_start) (conSp (con_Lci Cal.st)) := by
  refine fn_conD (con_Lci Cal.st) F sc_f_L_start (fun _ => rfl) fun cd A outer s H EE G i hp hr hE => ?_
  obtain ⟨c, k⟩ := i
  obtain ⟨hc, z⟩ := hp
  have hc : CalOk c := hc
  have z : Bd 2500 k := z
  have hr1 := hr.mono (show 1 ≤ 2 by decide)
  refine wss_one (ws_ret (we_call Fl hr1 g__law_floor_f_L_start pass0 (wa_cons (we_call Pl hr g__law_plus_f_L_start pass0 (wa_cons (we_ix ix_seq (we_var 0 r0_f_L_start rfl (we_int (opw_of (opv_ix_t sub_tt rfl) ?_)))))))))
  refine wa_cons (we_call By hr g__law_by_f_L_start pass0 (wa_cons (we_ix ix_seq (we_var 0 r0_f_L_start rfl (we_int (opw_of (opv_ix_t sub_tt rfl) ?_))))))
  refine wa_cons (we_tup (wa_cons (we_var 1 r1_f_L_start rfl (wa_cons (we_int (wa_nil ⟨by show 2 ≤ 100000; decide, wa_nil (ck_L_by (pq_f hc.m) (pq_i z (by decide)) (wa_nil ?_))⟩))))))
  have zz : Sz 2700 (c.month * (k : Rat)) := (sz_mul hc.m (sz_int z (by decide))).mono (by decide)
  exact ck_L_plus (pq_f hc.o) (pq_f zz) (wa_nil (ck_L_floor Sub.rfl ((sz_add hc.o zz).mono (by decide)) ⟨(), [], trivial, Sub.rfl, .nil⟩))
end
end MM

namespace MM
open PySem L2 PyProof.Rows
def con_str (CC CS : Addr) : Con := { I := Cal × Nat, B := Addr × List (List Int), pre := fun i => CalOk i.1 ∧ 1 ≤ i.2 ∧ i.2 ≤ 400, args := fun i => [RCal CC CS i.1, RI (i.2 : Int)], own := fun _ => [], post := fun i z => StrK i.1 i.2 z.2, res := fun _ z => RRef z.1, own' := fun _ z => [(z.1, OL (z.2.map RTI))] }
theorem ck_str {CC CS : Addr} {ρ1 ρ2 : Rep} {M : Ow} {Φ : Rep → Ow → Prop} {c : Cal} {n : Nat} (h1 : Sub ρ1 (RCal CC CS c)) (h2 : Sub ρ2 (RI (n : Int))) (hc : CalOk c) (n1 : 1 ≤ n) (hn : n ≤ 400) (k : ∀ q rows, StrK c n rows → Φ (RRef q) ((q, OL (rows.map RTI)) :: M)) : CallK (con_str CC CS) [ρ1, ρ2] M Φ :=
  ⟨(c, n), M, ⟨hc, n1, hn⟩, .cons h1 (.cons h2 .nil), .nil, fun z h => k z.1 z.2 h⟩
abbrev rowC (c : Cal) (k : Int) (n : Nat) : List Int := rowB c.month.num (c.month.den : Int) (c.ph k) n
structure RwI where
  c : Cal
  k : Int
  n : Nat
structure RwOk (i : RwI) : Prop where
  c : CalOk i.c
  lo : -1000000000 ≤ i.k
  hi : i.k ≤ 1000000000
  n : i.n ≤ 400
def con_L_row : Con := { I := RwI, B := Unit, pre := fun i => RwOk i, args := fun i => [RCf i.c, RI i.k, RI (i.n : Int)], own := fun _ => [], post := fun _ _ => True, res := fun i _ => RTI (rowC i.c i.k i.n), own' := fun _ _ => [] }
theorem ck_L_row {ρ1 ρ2 ρ3 : Rep} {M : Ow} {Φ : Rep → Ow → Prop} {c : Cal} {k : Int} {n : Nat} (h1 : Sub ρ1 (RCf c)) (h2 : Sub ρ2 (RI k)) (h3 : Sub ρ3 (RI (n : Int))) (hc : CalOk c) (lo : -1000000000 ≤ k) (hi : k ≤ 1000000000) (hn : n ≤ 400) (q : Φ (RTI (rowC c k n)) M) : CallK con_L_row [ρ1, ρ2, ρ3] M Φ :=
  ⟨⟨c, k, n⟩, M, ⟨hc, lo, hi, hn⟩, .cons h1 (.cons h2 (.cons h3 .nil)), .nil, fun _ _ => q⟩
def con_L_small : Con := { I := Addr × Nat × { c : Cal // CalOk c ∧ CalS c }, B := { c : Cal // CalOk c }, pre := fun i => i.2.1 ≤ 1000, args := fun i => [RRef i.1, RCf i.2.2.1], own := fun i => [(i.1, ODr i.2.1)], post := fun _ _ => True, res := fun _ c => RCf c.1, own' := fun i _ => [(i.1, ODr (i.2.1 + 1))] }
theorem ck_L_small {ρ1 ρ2 : Rep} {M M1 : Ow} {Φ : Rep → Ow → Prop} {p : Addr} {n : Nat} {c : Cal} (h1 : Sub ρ1 (RRef p)) (h2 : Sub ρ2 (RCf c)) (rm : Rm M p (ODr n) M1) (hn : n ≤ 1000) (hc : CalOk c) (hs : CalS c) (k : ∀ c', CalOk c' → Φ (RCf c') ((p, ODr (n + 1)) :: M1)) : CallK con_L_small [ρ1, ρ2] M Φ :=
  ⟨(p, n, ⟨c, hc, hs⟩), M1, hn, .cons h1 (.cons h2 .nil), .cons rm OSub.rfl .nil, fun c' _ => k c'.1 c'.2⟩
/-- the rows of the spots, as they come -/
def gridL (c : Cal) (n m : Nat) : List (List Int) := (List.range m).map fun (i : Nat) => rowB c.month.num (c.month.den : Int) ((0 - (i : Int) * c.month.num) % (c.month.den : Int)) n
def con_L_grid : Con := { I := Cal × Nat, B := Addr, pre := fun i => CalOk i.1 ∧ i.2 ≤ 400, args := fun i => [RF i.1.month, RI (i.2 : Int)], own := fun _ => [], post := fun _ _ => True, res := fun _ q => RRef q, own' := fun i q => [(q, OL ((gridL i.1 i.2 (i.2 + 1)).map RTI))] }
theorem ck_L_grid {ρ1 ρ2 : Rep} {M : Ow} {Φ : Rep → Ow → Prop} {c : Cal} {n : Nat} (h1 : Sub ρ1 (RF c.month)) (h2 : Sub ρ2 (RI (n : Int))) (hc : CalOk c) (hn : n ≤ 400) (k : ∀ q, Φ (RRef q) ((q, OL ((gridL c n (n + 1)).map RTI)) :: M)) : CallK con_L_grid [ρ1, ρ2] M Φ :=
  ⟨(c, n), M, ⟨hc, hn⟩, .cons h1 (.cons h2 .nil), .nil, fun q _ => k q⟩
theorem spot_sup {c : Cal} {b : Nat} (hc : CalOk c) (hs : CalS c) (b1 : 1 ≤ b) (b2 : b ≤ 60) {q : Rat} (eq : q = rt (c.month.num * (b : Int) / (c.month.den : Int)) (b : Int)) (h1 : ¬ q.num < (q.den : Int)) (h2 : ¬ 13 * q.num / (q.den : Int) < c.year.floor + 2) : CalOk { c with month := q } := by
  have hb : (0 : Rat) < ((b : Int) : Rat) := by exact_mod_cast (show (0 : Int) < (b : Int) by omega)
  have hd := den_pos c.month
  have zb : Bd 6 (b : Int) := by
    show (b : Int).natAbs < 2 ^ 6
    omega
  have small : Sz 200 q := by
    rw [eq]
    exact (sz_rt (bd_div hd (bd_mul hs.m.num zb)) zb (by omega)).mono (by decide)
  have qb : q * ((b : Int) : Rat) = ((c.month.num * (b : Int) / (c.month.den : Int) : Int) : Rat) := by
    rw [eq, rt, Rat.divInt_eq_div]
    exact Rat.div_mul_cancel (by grind)
  have mb : c.month * ((b : Int) : Rat) = rt (c.month.num * (b : Int)) (c.month.den : Int) := by
    rw [rt, Rat.divInt_eq_div]
    have m1 := mul_denK (m := c.month)
    have d0 : ((c.month.den : Int) : Rat) ≠ 0 := by
      intro z
      have : (c.month.den : Int) = 0 := by exact_mod_cast z
      omega
    rw [Rat.div_def, Rat.intCast_mul, ← m1]
    have inv : ((c.month.den : Int) : Rat) * ((c.month.den : Int) : Rat)⁻¹ = 1 := Rat.mul_inv_cancel _ d0
    generalize ((c.month.den : Int) : Rat)⁻¹ = D' at inv
    generalize ((c.month.den : Int) : Rat) = D at inv
    generalize ((b : Int) : Rat) = B
    generalize c.month = m
    grind
  have le : q ≤ c.month := by
    have a := ediv_rt (a := c.month.num * (b : Int)) hd
    rw [← qb, ← mb] at a
    have : ¬ c.month < q := fun z => by
      have := Rat.mul_lt_mul_of_pos_right z hb
      grind
    grind
  have one : 1 ≤ q := by
    have a := mul_denK (m := q)
    have d1 : (1 : Rat) ≤ ((q.den : Int) : Rat) := by
      have := den_pos q
      exact_mod_cast (show (1 : Int) ≤ (q.den : Int) by omega)
    have n1 : ((q.den : Int) : Rat) ≤ ((q.num : Int) : Rat) := by exact_mod_cast (show (q.den : Int) ≤ q.num by omega)
    have : ¬ q < 1 := fun z => by
      have := Rat.mul_lt_mul_of_pos_right z (show (0 : Rat) < ((q.den : Int) : Rat) by grind)
      grind
    grind
  have thirteen : c.year + 1 ≤ q * 13 := by
    have dq := den_pos q
    have a : (c.year.floor + 2) * (q.den : Int) ≤ 13 * q.num := (Int.le_ediv_iff_mul_le dq).mp (by omega)
    have a : (((c.year.floor + 2) * (q.den : Int) : Int) : Rat) ≤ ((13 * q.num : Int) : Rat) := by exact_mod_cast a
    rw [Rat.intCast_mul, Rat.intCast_add, Rat.intCast_mul] at a
    have m1 := mul_denK (m := q)
    have fl := lt_floor' c.year
    have d1 : (0 : Rat) < ((q.den : Int) : Rat) := by exact_mod_cast dq
    have t2 : ((2 : Int) : Rat) = 2 := rfl
    have t13 : ((13 : Int) : Rat) = 13 := rfl
    rw [t2, t13] at a
    rw [← m1] at a
    have : ¬ q * 13 < c.year + 1 := fun z => by
      have w := Rat.mul_lt_mul_of_pos_right (show q * 13 < (c.year.floor : Rat) + 2 by grind) d1
      clear z fl
      generalize ((q.den : Int) : Rat) = D at a w
      generalize (c.year.floor : Rat) = f at a w
      grind
    grind
  have tc : (q.ceil : Rat) ≤ c.year / 12 := by
    have a : q.ceil ≤ c.month.ceil := Rat.ceil_le_iff.mpr (Rat.le_trans le (le_ceil _))
    have a : (q.ceil : Rat) ≤ (c.month.ceil : Rat) := by exact_mod_cast a
    have t := hc.f.tc
    unfold Cal.tw at t
    grind
  exact ⟨small, hc.y, hc.o, hc.k, fault_none one tc thirteen⟩
section
variable {P : Program} {w : World} {K : PySem.W.Frag} {mg : Str → Option Value} {base : Heap} {CS CC : Addr}
theorem ok_str {f : Addr} {fd : FuncData} (F : FdD K "stretches" "stretches" s_f_stretches [] f fd) (B : BltS mg) (T : ShT K CS) (C : CalT K CC) (Ro : Kn P w K mg base 1 "row_behind" [] con_row) : FnOk P w K mg base CX0 2 f fd (N_f_stretches.take 2) (conSp (con_str CC CS)) := by
  refine fn_conD (con_str CC CS) F sc_f_stretches (fun _ => rfl) fun cd A outer s H EE G i hp hr hE => ?_
  obtain ⟨c, n⟩ := i
  obtain ⟨hc, n1, hn⟩ := hp
  have hc : CalOk c := hc
  have n1 : 1 ≤ n := n1
  have hn : n ≤ 400 := hn
  have hb := den_pos c.month
  have zt : Bd 400 c.month.num := hc.m.num.mono (by decide)
  have zb : Bd 400 (c.month.den : Int) := hc.m.den.mono (by decide)
  refine wss_cons (ws_asg (we_tup (wa_cons (we_fld (we_fld (we_var 0 r0_f_stretches rfl ⟨_, hasF_month C, ⟨_, hasF_top T, ?rest⟩⟩))))))
  case rest =>
    refine wa_cons (we_fld (we_fld (we_var 0 r0_f_stretches rfl ⟨_, hasF_month C, ⟨_, hasF_bot T, wa_nil ⟨by show 2 ≤ 100000; decide, ?_⟩⟩⟩)))
    refine wg_tup rfl sub_tt rfl (wgs_cons (wg_name 2 w2_f_stretches (wgs_cons (wg_name 3 w3_f_stretches (wgs_nil ?_)))))
    refine wss_cons (ws_set 4 w4_f_stretches (we_callB (cr_sortedSA rfl) g_sorted_f_stretches B.srt (by decide +kernel) (wa_cons (we_callTy (call_setI rfl) g_set_f_stretches B.set (by decide +kernel) (wa_cons (we_freeze (we_lc (t := gName 6) (own := [("at", 6)]) rfl sc_f_stretches.nd (pi_range1 g_range_f_stretches B.rng pa_w) (blkOk_by ?ok) ?hg hE ?src)))))))
    case ok =>
      show blkC N_f_stretches (defScope s_f_stretches) _ _ = true
      decide +kernel
    case hg =>
      intro s H C cl fp
      exact pg_name sc_f_stretches.nd rfl (.inl rfl)
    case src =>
      refine src_range1 (wa_cons (we_bin op_addU (we_var 1 r1_f_stretches rfl (we_int (opw_of opv_add_i (wa_nil ⟨(n : Int) + 1, .cons Sub.rfl .nil, by omega, ?lc⟩))))))
      have e : ((n : Int) + 1).toNat = n + 1 := by omega
      rw [e]
      refine ⟨fun i o M' => M' = [] ∧ o = ((List.range i).map fun (j : Nat) => (0 - (j : Int) * c.month.num) % (c.month.den : Int)).map RI, ⟨rfl, rfl⟩, ?turn, ?done⟩
      case turn =>
        rintro i ρ o M1 D hi rfl ⟨rfl, rfl⟩
        have zi : Bd 10 (i : Int) := by
          show (i : Int).natAbs < 2 ^ 10
          omega
        refine ⟨fun Γ => Γ.set 6 (some (RI (i : Int))), blkT_name 6 (by decide), fun s H0 C cl fp => ?_⟩
        refine we_bin op_modN (we_bin op_sub (we_int (we_bin op_mulU (we_var 6 ?r6 rfl (we_var 2 ?r2 rfl (opw_of (opv_mul_i (mulOk zi zt (by decide))) (opw_of opv_sub_i (we_var 3 ?r3 rfl (opw_of (opv_mod_i hb) ⟨_, RI ((0 - (i : Int) * c.month.num) % (c.month.den : Int)), rfl, Sub.rfl, ?len, rfl, ?tk⟩)))))))))
        case r6 => exact ⟨rfl, by first | exact .inl rfl | exact .inr (.inl rfl), by decide, by decide⟩
        case r2 => exact ⟨rfl, by first | exact .inl rfl | exact .inr (.inl rfl), by decide, by decide⟩
        case r3 => exact ⟨rfl, by first | exact .inl rfl | exact .inr (.inl rfl), by decide, by decide⟩
        case len =>
          rw [List.length_map, List.length_map, List.length_range]
          omega
        case tk =>
          rw [List.range_succ, List.map_append, List.map_append]
          rfl
      case done =>
        rintro D o M1 hD hM ⟨rfl, rfl⟩
        have hl : (spotL c.month.num (c.month.den : Int) n).length = n + 1 := spotL_len
        refine ⟨D, _, [], Sub.rfl, .here, hD, wa_nil (caw_setI (ns := spotL c.month.num (c.month.den : Int) n) hE (by omega) fun l k hl1 hl2 hk => ?_)⟩
        refine wa_nil (caw_sortedSA hE Sub.rfl .here (by omega) fun p ks hp1 hp2 hpw hks hkl => ?_)
        refine wss_freeze 4 rfl .here hp2 ?_
        refine wss_one (ws_ret (we_callB cr_sortG g_sorted_f_stretches B.srt (by decide +kernel) (wa_cons (we_freeze (we_lc (t := gName 5) (own := [("spot", 5)]) rfl sc_f_stretches.nd (pi_list pe_w) (blkOk_by ?ok2) ?hg2 hE ?src2)))))
        case ok2 =>
          show blkC N_f_stretches (defScope s_f_stretches) _ _ = true
          decide +kernel
        case hg2 =>
          intro s H C cl fp
          exact pg_name sc_f_stretches.nd rfl (.inl rfl)
        case src2 =>
          refine src_list (we_var 4 r4_f_stretches rfl ⟨ks.map RI, sub_lt, ?lc2⟩)
          rw [List.length_map]
          refine ⟨fun i o M' => M' = [(l, OSt w l (spotL c.month.num (c.month.den : Int) n) k)] ∧ o = ((ks.map fun s => rowB c.month.num (c.month.den : Int) s n).map RTI).take i, ⟨rfl, rfl⟩, ?turn2, ?done2⟩
          case turn2 =>
            rintro i ρ o M1 D2 hi he ⟨rfl, rfl⟩
            rw [List.getElem?_map] at he
            obtain ⟨sp, hs, rfl⟩ := Option.map_eq_some_iff.mp he
            refine ⟨fun Γ => Γ.set 5 (some (RI sp)), blkT_name 5 (by decide), fun s H0 C cl fp => ?_⟩
            refine we_call Ro hr ?g1 pass0 (wa_cons (we_var 2 ?r2 rfl (wa_cons (we_var 3 ?r3 rfl (wa_cons (we_var 5 ?r5 rfl (wa_cons (we_var 1 ?r1 rfl (wa_nil (ck_row Sub.rfl Sub.rfl Sub.rfl Sub.rfl zt hb zb hn ⟨_, RTI (rowB c.month.num (c.month.den : Int) sp n), rfl, Sub.rfl, ?len, rfl, ?tk⟩))))))))))
            case g1 => rfl
            case r2 => exact ⟨rfl, by first | exact .inl rfl | exact .inr (.inl rfl), by decide, by decide⟩
            case r3 => exact ⟨rfl, by first | exact .inl rfl | exact .inr (.inl rfl), by decide, by decide⟩
            case r5 => exact ⟨rfl, by first | exact .inl rfl | exact .inr (.inl rfl), by decide, by decide⟩
            case r1 => exact ⟨rfl, by first | exact .inl rfl | exact .inr (.inl rfl), by decide, by decide⟩
            case len =>
              rw [List.length_take, List.length_map, List.length_map]
              omega
            case tk =>
              rw [List.take_add_one, List.getElem?_map, List.getElem?_map, hs]
              rfl
          case done2 =>
            rintro D2 o M1 hD2 hM2 ⟨rfl, rfl⟩
            have et : ((ks.map fun s => rowB c.month.num (c.month.den : Int) s n).map RTI).take ks.length = (ks.map fun s => rowB c.month.num (c.month.den : Int) s n).map RTI := List.take_of_length_le (by rw [List.length_map, List.length_map]; exact Nat.le_refl _)
            rw [et]
            refine ⟨D2, _, _, Sub.rfl, .here, hD2, wa_nil (caw_sortG (rows := ks.map fun s => rowB c.month.num (c.month.den : Int) s n) hE (fun r hr' => ?rws) fun q rows' hq1 hq2 perm pw => ?_)⟩
            case rws =>
              obtain ⟨s, hs, rfl⟩ := List.mem_map.mp hr'
              intro z
              have := congrArg List.length z
              rw [rowB_len] at this
              exact absurd this (by show n ≠ 0; omega)
            exact ⟨(q, rows'), _, strK_of (hpw.imp fun h => Int.ne_of_lt h) hks perm pw, Sub.rfl, .cons .here OSub.rfl .nil⟩
end
end MM

namespace MM
open PySem L2 PyProof.Rows
def stL (c : Cal) (k : Int) (m : Nat) : List Int := (List.range m).map fun (i : Nat) => c.st (k + (i : Int))
theorem stL_len {c : Cal} {k : Int} {m : Nat} : (stL c k m).length = m := by simp [stL]
theorem stL_get {c : Cal} {k : Int} {m i : Nat} (h : i < m) : (stL c k m)[i]? = some (c.st (k + (i : Int))) := by simp [stL, h]
section
variable {P : Program} {w : World} {K : PySem.W.Frag} {mg : Str → Option Value} {base : Heap} {CS CC : Addr}
theorem ok_L_row {f : Addr} {fd : FuncData} (F : FdD K "_law_row" "_law_row" s_f_L_row [] f fd) (B : BltS mg) (St : Kn P w K mg base 3 "_law_start" [] (con_Lci Cal.st)) : FnOk P w K mg base CX0 4 f fd (N_f_L_row.take 3) (conSp con_L_row) := by
  refine fn_conD con_L_row F sc_f_L_row (fun _ => rfl) fun cd A outer s H EE G i hp hr hE => ?_
  obtain ⟨c, k, n⟩ := i
  obtain ⟨hc, lo, hi, hn⟩ := hp
  have hc : CalOk c := hc
  have lo : -1000000000 ≤ k := lo
  have hi : k ≤ 1000000000 := hi
  have hn : n ≤ 400 := hn
  refine wss_cons (ws_setLc (t := gName 4) (own := [("_law_at", 4)]) 3 rfl sc_f_L_row.nd rfl rfl ?hsw (pi_range2 g_range_f_L_row B.rng pa_w) (blkOk_by ?ok) ?hg hE ?src)
  case hsw => rfl
  case ok =>
    show blkC N_f_L_row (defScope s_f_L_row) _ _ = true
    decide +kernel
  case hg =>
    intro s H C cl fp
    exact pg_name sc_f_L_row.nd rfl (.inl rfl)
  case src =>
    refine src_range2 (wa_cons (we_var 1 r1_f_L_row rfl (wa_cons (we_bin op_addU (we_bin op_addU (we_var 1 r1_f_L_row rfl (we_var 2 r2_f_L_row rfl (opw_of opv_add_i (we_int (opw_of opv_add_i (wa_nil ⟨k, k + (n : Int) + 1, .cons Sub.rfl (.cons Sub.rfl .nil), by omega, ?lc⟩)))))))))) )
    have e : (k + (n : Int) + 1 - k).toNat = n + 1 := by omega
    rw [e]
    refine ⟨fun i o M' => M' = [] ∧ o = (stL c k i).map RI, ⟨rfl, rfl⟩, ?turn, ?done⟩
    case turn =>
      rintro i ρ o M1 D hi2 rfl ⟨rfl, rfl⟩
      have zi : Bd 40 (k + (i : Int)) := by
        show (k + (i : Int)).natAbs < 2 ^ 40
        omega
      refine ⟨fun Γ => Γ.set 4 (some (RI (k + (i : Int)))), blkT_name 4 (by decide), fun s H0 C cl fp => ?_⟩
      refine we_call St hr ?gs pass0 (wa_cons (we_var 0 ?v0 rfl (wa_cons (we_var 4 ?v4 rfl (wa_nil (ck_Lci Sub.rfl Sub.rfl hc (zi.mono (by decide)) ⟨_, RI (c.st (k + (i : Int))), rfl, Sub.rfl, ?len, rfl, ?tk⟩))))))
      case gs => rfl
      case v0 => exact ⟨rfl, by first | exact .inl rfl | exact .inr (.inl rfl), by decide, by decide⟩
      case v4 => exact ⟨rfl, by first | exact .inl rfl | exact .inr (.inl rfl), by decide, by decide⟩
      case len =>
        rw [List.length_map, stL_len]
        omega
      case tk =>
        unfold stL
        rw [List.range_succ, List.map_append, List.map_append]
        rfl
    case done =>
      rintro D o M1 hD hM ⟨rfl, rfl⟩
      refine wss_freeze 3 rfl .here hD ?_
      refine wss_one (ws_ret (we_callTy call_tuple_of g_tuple_f_L_row B.tup (by decide +kernel) (wa_cons (we_lc (t := gTup K 2 (gNames [5, 6])) (own := [("_law_soon", 5), ("_law_late", 6)]) rfl sc_f_L_row.nd (pi_zip g_zip_f_L_row B.zip pa_w) (blkOk_by ?ok2) ?hg2 hE ?src2))))
      case ok2 =>
        show blkC N_f_L_row (defScope s_f_L_row) _ _ = true
        decide +kernel
      case hg2 =>
        intro s H C cl fp
        exact pg_tup (n := 2) (t := gNames [5, 6]) rfl (pgs_cons (pg_name sc_f_L_row.nd rfl (.inl rfl)) (pgs_cons (pg_name sc_f_L_row.nd rfl (.inl rfl)) pgs_nil))
      case src2 =>
        refine src_zip (wa_cons (we_var 3 r3_f_L_row rfl (wa_cons (we_slL (we_var 3 r3_f_L_row rfl ⟨_, sub_lt, wo_some (we_int ⟨1, Sub.rfl, wo_none (wa_nil ⟨_, _, .cons sub_lt (.cons sub_lt .nil), ?lc2⟩)⟩)⟩)))))
        rw [cut_1]
        have e : min ((stL c k (n + 1)).map RI).length (((stL c k (n + 1)).map RI).drop 1).length = n := by
          rw [List.length_drop, List.length_map, stL_len]
          omega
        rw [e]
        refine ⟨fun i o M' => M' = [] ∧ o = (rowC c k i).map RI, ⟨rfl, rfl⟩, ?turn2, ?done2⟩
        case turn2 =>
          rintro i ρ o M1 D2 hi2 ⟨ρ1, ρ2, h1, h2, rfl⟩ ⟨rfl, rfl⟩
          rw [List.getElem?_map, stL_get (by omega)] at h1
          rw [List.getElem?_drop, List.getElem?_map, stL_get (by omega)] at h2
          have h1 : RI (c.st (k + (i : Int))) = ρ1 := Option.some.inj h1
          have h2 : RI (c.st (k + ((1 + i : Nat) : Int))) = ρ2 := Option.some.inj h2
          rw [Nat.add_comm] at h2
          subst h1 h2
          refine ⟨setAll [5, 6] [RI (c.st (k + (i : Int))), RI (c.st (k + ((i + 1 : Nat) : Int)))], blkT_tup (is := [5, 6]) (by decide) rfl sub_tt, fun s H0 C cl fp => ?_⟩
          refine we_bin op_sub (we_var 6 ?v6 rfl (we_var 5 ?v5 rfl (opw_of opv_sub_i ⟨_, RI (c.st (k + ((i + 1 : Nat) : Int)) - c.st (k + (i : Int))), rfl, Sub.rfl, ?len2, rfl, ?tk2⟩)))
          case v6 => exact ⟨rfl, by first | exact .inl rfl | exact .inr (.inl rfl), by decide, by decide⟩
          case v5 => exact ⟨rfl, by first | exact .inl rfl | exact .inr (.inl rfl), by decide, by decide⟩
          case len2 =>
            rw [List.length_map, rowB_len]
            omega
          case tk2 =>
            have es : c.st (k + ((i + 1 : Nat) : Int)) - c.st (k + (i : Int)) = dayB c.month.num (c.month.den : Int) (c.ph k) (i + 1) - dayB c.month.num (c.month.den : Int) (c.ph k) i := by
              rw [st_day, st_day]
              omega
            unfold rowC
            rw [rowB_succ, List.map_append, es]
            rfl
        case done2 =>
          rintro D2 o M1 hD2 hM2 ⟨rfl, rfl⟩
          exact wa_nil (caw_tupO Sub.rfl .here ⟨(), _, trivial, Sub.rfl, .nil⟩)
theorem ok_L_grid {f : Addr} {fd : FuncData} (F : FdD K "_law_grid" "_law_grid" s_f_L_grid [] f fd) (B : BltS mg) : FnOk P w K mg base CX0 1 f fd (N_f_L_grid.take 2) (conSp con_L_grid) := by
  refine fn_conD con_L_grid F sc_f_L_grid (fun _ => rfl) fun cd A outer s H EE G i hp hr hE => ?_
  obtain ⟨c, n⟩ := i
  obtain ⟨hc, hn⟩ := hp
  have hc : CalOk c := hc
  have hn : n ≤ 400 := hn
  have hb := den_pos c.month
  have zt : Bd 400 c.month.num := hc.m.num.mono (by decide)
  have zb : Bd 400 (c.month.den : Int) := hc.m.den.mono (by decide)
  have lb : (c.month.den : Int).natAbs.log2 < 9000 := Nat.lt_trans (bd_log zb (by decide)) (by decide)
  have e1 : ((n : Int) + 1).toNat = n + 1 := by omega
  refine wss_cons (ws_set 2 w2_f_L_grid (we_lstO (wa_nil ⟨by show 0 ≤ 100000; decide, fun q hq1 hq2 => ?_⟩) hE))
  refine wss_cons (ws_for_range1 PassesOwn.never rfl g_range_f_L_grid B.rng (wa_cons (we_bin op_addU (we_var 1 r1_f_L_grid rfl (we_int (opw_of opv_add_i (wa_nil ⟨(n : Int) + 1, .cons Sub.rfl .nil, ⟨by omega, by omega⟩, ?loop⟩)))))))
  case loop =>
    rw [e1]
    refine ⟨fun i Γ M => M = [(q, OL ((gridL c n i).map RTI))] ∧ ∃ o3 o4 o5, Γ = [some (RF c.month), some (RI (n : Int)), some (RRef q), o3, o4, o5, none, none, none], ⟨rfl, none, none, none, rfl⟩, ?turn, ?done⟩
    case turn =>
      rintro a ρ Γ M ha rfl ⟨rfl, o3, o4, o5, rfl⟩
      have za : Bd 10 (a : Int) := by
        show (a : Int).natAbs < 2 ^ 10
        omega
      refine wg_name 3 w3_f_L_grid ?_
      refine wss_cons (ws_set 4 w4_f_L_grid (we_bin op_modN (we_bin op_sub (we_int (we_bin op_mulU (we_var 3 r3_f_L_grid rfl (we_ix ix_seq (we_var 0 r0_f_L_grid rfl (we_int (opw_of (opv_ix_t sub_tt rfl) ?_))))))))))
      refine opw_of (opv_mul_i (mulOk za zt (by decide))) (opw_of opv_sub_i (we_ix ix_seq (we_var 0 r0_f_L_grid rfl (we_int (opw_of (opv_ix_t sub_tt rfl) (opw_of (opv_mod_i hb) ?_))))))
      generalize hsp : (0 - (a : Int) * c.month.num) % (c.month.den : Int) = sp
      refine wss_cons (ws_setLc (t := gName 6) (own := [("_law_k", 6)]) 5 rfl sc_f_L_grid.nd rfl rfl ?hsw (pi_range1 g_range_f_L_grid B.rng pa_w) (blkOk_by ?ok) ?hg hE ?src)
      case hsw => rfl
      case ok =>
        show blkC N_f_L_grid (defScope s_f_L_grid) _ _ = true
        decide +kernel
      case hg =>
        intro s H C cl fp
        exact pg_name sc_f_L_grid.nd rfl (.inl rfl)
      case src =>
        refine src_range1 (wa_cons (we_bin op_addU (we_var 1 r1_f_L_grid rfl (we_int (opw_of opv_add_i (wa_nil ⟨(n : Int) + 1, .cons Sub.rfl .nil, by omega, ?lc⟩))))))
        rw [e1]
        refine ⟨fun i o M' => M' = [(q, OL ((gridL c n a).map RTI))] ∧ o = (daysB c.month.num (c.month.den : Int) sp i).map RI, ⟨rfl, rfl⟩, ?turn1, ?done1⟩
        case turn1 =>
          rintro i ρ o M1 D hi rfl ⟨rfl, rfl⟩
          have zi : Bd 10 (i : Int) := by
            show (i : Int).natAbs < 2 ^ 10
            omega
          refine ⟨fun Γ => Γ.set 6 (some (RI (i : Int))), blkT_name 6 (by decide), fun s H0 C cl fp => ?_⟩
          refine we_bin op_fdivA (we_bin op_addU (we_var 4 ?v4 rfl (we_bin op_mulU (we_var 6 ?v6 rfl (we_ix ix_seq (we_var 0 ?v0 rfl (we_int (opw_of (opv_ix_t sub_tt rfl) (opw_of (opv_mul_i (mulOk zi zt (by decide))) (opw_of opv_add_i ?nx))))))))) )
          case v4 => exact ⟨rfl, by first | exact .inl rfl | exact .inr (.inl rfl), by decide, by decide⟩
          case v6 => exact ⟨rfl, by first | exact .inl rfl | exact .inr (.inl rfl), by decide, by decide⟩
          case v0 => exact ⟨rfl, by first | exact .inl rfl | exact .inr (.inl rfl), by decide, by decide⟩
          case nx =>
            refine we_ix ix_seq (we_var 0 ?v0b rfl (we_int (opw_of (opv_ix_t sub_tt rfl) (opw_of (opv_div_i hb lb) ⟨_, RI (dayB c.month.num (c.month.den : Int) sp i), rfl, Sub.rfl, ?len, rfl, ?tk⟩))))
            case v0b => exact ⟨rfl, by first | exact .inl rfl | exact .inr (.inl rfl), by decide, by decide⟩
            case len =>
              rw [List.length_map, daysB_len]
              omega
            case tk =>
              rw [daysB_succ, List.map_append]
              rfl
        case done1 =>
          rintro D o M1 hD hM ⟨rfl, rfl⟩
          refine wss_freeze 5 rfl .here hD ?_
          refine wss_one (ws_expr (we_bm PySem.F.plainAttrs_list PySem.F.slot_list_append PySem.F.type_list_append mt_append (we_var 2 r2_f_L_grid rfl ⟨tyw_listO Sub.rfl .here, ?arg⟩)))
          case arg =>
            refine wa_cons (we_drop (we_callTy call_tuple_of g_tuple_f_L_grid B.tup (by decide +kernel) (wa_cons (we_lc (t := gTup K 2 (gNames [7, 8])) (own := [("_law_soon", 7), ("_law_late", 8)]) rfl sc_f_L_grid.nd (pi_zip g_zip_f_L_grid B.zip pa_w) (blkOk_by ?ok2) ?hg2 hE ?src2))))
            case ok2 =>
              show blkC N_f_L_grid (defScope s_f_L_grid) _ _ = true
              decide +kernel
            case hg2 =>
              intro s H C cl fp
              exact pg_tup (n := 2) (t := gNames [7, 8]) rfl (pgs_cons (pg_name sc_f_L_grid.nd rfl (.inl rfl)) (pgs_cons (pg_name sc_f_L_grid.nd rfl (.inl rfl)) pgs_nil))
            case src2 =>
              refine src_zip (wa_cons (we_var 5 r5_f_L_grid rfl (wa_cons (we_slL (we_var 5 r5_f_L_grid rfl ⟨_, sub_lt, wo_some (we_int ⟨1, Sub.rfl, wo_none (wa_nil ⟨_, _, .cons sub_lt (.cons sub_lt .nil), ?lc2⟩)⟩)⟩)))))
              rw [cut_1]
              have e : min ((daysB c.month.num (c.month.den : Int) sp (n + 1)).map RI).length (((daysB c.month.num (c.month.den : Int) sp (n + 1)).map RI).drop 1).length = n := by
                rw [List.length_drop, List.length_map, daysB_len]
                omega
              rw [e]
              refine ⟨fun i o M' => M' = [(q, OL ((gridL c n a).map RTI))] ∧ o = (rowB c.month.num (c.month.den : Int) sp i).map RI, ⟨rfl, rfl⟩, ?turn2, ?done2⟩
              case turn2 =>
                rintro i ρ o M1 D2 hi ⟨ρ1, ρ2, h1, h2, rfl⟩ ⟨rfl, rfl⟩
                rw [List.getElem?_map, daysB_get (by omega)] at h1
                rw [List.getElem?_drop, List.getElem?_map, daysB_get (by omega)] at h2
                have h1 : RI (dayB c.month.num (c.month.den : Int) sp i) = ρ1 := Option.some.inj h1
                have h2 : RI (dayB c.month.num (c.month.den : Int) sp (1 + i)) = ρ2 := Option.some.inj h2
                rw [Nat.add_comm] at h2
                subst h1 h2
                refine ⟨setAll [7, 8] [RI (dayB c.month.num (c.month.den : Int) sp i), RI (dayB c.month.num (c.month.den : Int) sp (i + 1))], blkT_tup (is := [7, 8]) (by decide) rfl sub_tt, fun s H0 C cl fp => ?_⟩
                refine we_bin op_sub (we_var 8 ?v8 rfl (we_var 7 ?v7 rfl (opw_of opv_sub_i ⟨_, RI (dayB c.month.num (c.month.den : Int) sp (i + 1) - dayB c.month.num (c.month.den : Int) sp i), rfl, Sub.rfl, ?len2, rfl, ?tk2⟩)))
                case v8 => exact ⟨rfl, by first | exact .inl rfl | exact .inr (.inl rfl), by decide, by decide⟩
                case v7 => exact ⟨rfl, by first | exact .inl rfl | exact .inr (.inl rfl), by decide, by decide⟩
                case len2 =>
                  rw [List.length_map, rowB_len]
                  omega
                case tk2 =>
                  rw [rowB_succ, List.map_append]
                  rfl
              case done2 =>
                rintro D2 o M1 hD2 hM2 ⟨rfl, rfl⟩
                refine wa_nil (caw_tupO Sub.rfl .here ⟨_, _, _, .here, wa_nil (mtw_append (ρ := RTI (rowB c.month.num (c.month.den : Int) sp n)) Sub.rfl .here ?lenA ⟨?_, _, _, _, rfl⟩)⟩)
                case lenA =>
                  unfold gridL
                  rw [List.length_map, List.length_map, List.length_range]
                  omega
                unfold gridL
                rw [List.range_succ, List.map_append, List.map_append, ← hsp]
                rfl
    case done =>
      rintro Γ M ⟨rfl, o3, o4, o5, rfl⟩
      exact wss_one (ws_ret (we_var 2 r2_f_L_grid rfl ⟨q, [], trivial, Sub.rfl, .cons .here OSub.rfl .nil⟩))
end
end MM

namespace MM
open PySem L2 PyProof.Rows
theorem nw4 : ¬ (HT.sIx 4 0 (some 1) = 0 ∧ HT.sIx 4 4 none = 4) := by decide
theorem cut4 {α : Type} {a b c d : α} : cutL [a, b, c, d] (some 1) none = [b, c, d] := rfl
section
variable {P : Program} {w : World} {K : PySem.W.Frag} {mg : Str → Option Value} {base : Heap} {CS CC : Addr}
theorem ok_L_small {f : Addr} {fd : FuncData} (F : FdD K "_law_small" "_law_small" s_f_L_small [] f fd) (Nx : Kn P w K mg base 1 "_law_next" [] con_L_next) (Lw : Kn P w K mg base 1 "_law_low" [] con_L_low) (Fl : Kn P w K mg base 1 "_law_floor" [] con_L_floor) : FnOk P w K mg base CX0 2 f fd (N_f_L_small.take 2) (conSp con_L_small) := by
  refine fn_conD con_L_small F sc_f_L_small (fun _ => rfl) fun cd A outer s H EE G i hp hr hE => ?_
  obtain ⟨p, n, c, hc, hs⟩ := i
  have hp : n ≤ 1000 := hp
  have hd := den_pos c.month
  refine wss_cons (ws_set 2 w2_f_L_small (we_bin op_addU (we_int (we_bin op_modN (we_call Nx hr g__law_next_f_L_small pass0 (wa_cons (we_var 0 r0_f_L_small rfl (wa_nil (ck_L_next (n := n) Sub.rfl .here (show n ≤ 1000000000 by omega) fun x hx => we_int (opw_of (opv_mod_i (by decide)) (opw_of opv_add_i ?_)))))))))))
  obtain ⟨b, eb, b1, b2⟩ : ∃ b : Nat, 1 + x % 60 = (b : Int) ∧ 1 ≤ b ∧ b ≤ 60 := ⟨(1 + x % 60).toNat, by omega, by omega, by omega⟩
  rw [eb]
  have zb : Bd 6 (b : Int) := by
    show (b : Int).natAbs < 2 ^ 6
    omega
  have zt : Bd 400 c.month.num := hc.m.num.mono (by decide)
  have lb : (c.month.den : Int).natAbs.log2 < 9000 := Nat.lt_trans (bd_log (n := 400) (hc.m.den.mono (by decide)) (by decide)) (by decide)
  refine wss_cons (ws_set 3 w3_f_L_small (we_bin op_fdivA (we_bin op_mulU (we_ix ix_seq (we_ix ix_seq (we_var 1 r1_f_L_small rfl (we_int (opw_of (opv_ix_t sub_tt rfl) (we_int (opw_of (opv_ix_t sub_tt rfl) ?_))))))))))
  refine we_var 2 r2_f_L_small rfl (opw_of (opv_mul_i (mulOk zt zb (by decide))) (we_ix ix_seq (we_ix ix_seq (we_var 1 r1_f_L_small rfl (we_int (opw_of (opv_ix_t sub_tt rfl) (we_int (opw_of (opv_ix_t sub_tt rfl) (opw_of (opv_div_i hd lb) ?_)))))))))
  refine wss_cons (ws_set 4 w4_f_L_small (we_call Lw hr g__law_low_f_L_small pass0 (wa_cons (we_var 3 r3_f_L_small rfl (wa_cons (we_var 2 r2_f_L_small rfl (wa_nil (ck_L_low Sub.rfl Sub.rfl (by omega) ((bd_div hd (bd_mul zt zb)).mono (by decide)) (zb.mono (by decide)) ?_))))))))
  generalize eq : rt (c.month.num * (b : Int) / (c.month.den : Int)) (b : Int) = q
  have zq : Sz 76 q := by
    rw [← eq]
    exact (sz_rt (bd_div hd (bd_mul hs.m.num zb)) zb (by omega)).mono (by decide)
  have hdq := den_pos q
  have lq : (q.den : Int).natAbs.log2 < 9000 := Nat.lt_trans (bd_log (n := 400) (zq.den.mono (by decide)) (by decide)) (by decide)
  have z13 : Bd 4 (13 : Int) := by
    show (13 : Int).natAbs < 2 ^ 4
    decide
  refine wss_cons (ws_if (wt_bool (wp_or (wt_cmp op_lt (nomark _) (we_ix ix_seq (we_var 4 r4_f_L_small rfl (we_int (opw_of (opv_ix_t sub_tt rfl) (we_ix ix_seq (we_var 4 r4_f_L_small rfl (we_int (opw_of (opv_ix_t sub_tt rfl) (opw_of opv_lt_i ⟨_, Sub.rfl, fun h1 => ?t2, fun _ => ⟨fun _ => wss_one (ws_ret (we_var 1 r1_f_L_small rfl ?same)), fun z => Bool.noConfusion z⟩⟩)))))))))))))
  case same => exact ⟨⟨c, hc⟩, [], trivial, Sub.rfl, .cons .here OSub.rfl .nil⟩
  case t2 =>
    have h1 := of_decide_eq_false h1
    refine wp_or1 (wt_cmp op_lt (nomark _) (we_bin op_fdivA (we_bin op_mulU (we_int (we_ix ix_seq (we_var 4 r4_f_L_small rfl (we_int (opw_of (opv_ix_t sub_tt rfl) (opw_of (opv_mul_i (mulOk z13 (zq.num.mono (show 76 ≤ 400 by decide)) (by decide))) ?_)))))))))
    refine we_ix ix_seq (we_var 4 r4_f_L_small rfl (we_int (opw_of (opv_ix_t sub_tt rfl) (opw_of (opv_div_i hdq lq) ?_))))
    refine we_bin op_addU (we_call Fl hr g__law_floor_f_L_small pass0 (wa_cons (we_ix ix_seq (we_var 1 r1_f_L_small rfl (we_int (opw_of (opv_ix_t (ρ := RF c.year) sub_tt rfl) (wa_nil (ck_L_floor Sub.rfl (hc.y.mono (by decide)) (we_int (opw_of opv_add_i (opw_of opv_lt_i ⟨_, Sub.rfl, fun _ => ?ret, fun h2 => wss_nil ?go⟩)))))))))) )
    case ret => exact wss_one (ws_ret (we_var 1 r1_f_L_small rfl ⟨⟨c, hc⟩, [], trivial, Sub.rfl, .cons .here OSub.rfl .nil⟩))
    case go =>
      have h2 := of_decide_eq_false h2
      have ok := spot_sup hc hs b1 b2 eq.symm h1 h2
      refine wss_one (ws_ret (we_bin op_addU (we_tup (wa_cons (we_var 4 r4_f_L_small rfl (wa_nil ⟨by show 1 ≤ 100000; decide, ?_⟩)))))) 
      refine we_slT (we_var 1 r1_f_L_small rfl ⟨_, sub_tt, wo_some (we_int ⟨1, Sub.rfl, wo_none ⟨nw4, ?_⟩⟩)⟩)
      rw [cut4]
      exact opw_of (opv_add_t (by show 1 + 3 ≤ 100000; decide)) ⟨⟨_, ok⟩, [], trivial, Sub.rfl, .cons .here OSub.rfl .nil⟩
end
end MM

namespace MM
open PySem L2 PyProof.Rows
theorem reps1 {ρ1 : Rep} {vs : List V} {G : Hp} (h : Reps [ρ1] vs G) : ∃ v, vs = [v] ∧ ρ1.p v G :=
  match vs, h with
  | [v], ⟨a, _⟩ => ⟨v, rfl, a⟩
section
variable {X : Cx} {E : En} {Γ : Gm} {M : Ow} {a b e iter tg : Expr} {body : List Stmt} {pos p : Pos} {Ψ : Ed} {wi : TI}
/-- a loop over any source -/
theorem ws_for_src (hp : PassesOwn (model X.prog X.w) X.A X.env X.xe) (hc : X.calm = true) (hi : PI X tg iter wi) (src : Src X E Γ M wi fun M1 n item => ForK X E Γ M1 tg body Ψ n item)
    (hs : ∀ x, foldedSetIterable iter X.env x = pure x := by intro _; rfl) : WS X E Γ M (.For tg iter body [] pos) Ψ :=
  ws_of (ps_for hp hc hi pg_w pss_w hs) fun σ G H at_ D k => src.lc _ at_ fun J M1 n item G1 H1 ⟨I, h0, ht, hd⟩ s1 a1 hJ => by
    have ks := k.mono s1
    refine ⟨fun i m σ H => m = n - i ∧ i ≤ n ∧ ∃ Γ' M' G', I i Γ' M' ∧ Same G1 G' ∧ At E Γ' M' σ G' H, ⟨n, rfl, Nat.zero_le _, Γ, M1, G1, h0, Same.refl _, a1⟩, ?_⟩
    rintro i m σ2 H2 ⟨rfl, hi, Γ', M', G', hI, s', a'⟩
    obtain ⟨j1, j2, j3⟩ := hJ i H2 G' s' a'.gh
    by_cases hlt : i < n
    · refine .inr ⟨j1 hlt, fun σ' H' => ∃ Γ2 M2 G2, I (i + 1) Γ2 M2 ∧ Same G1 G2 ∧ At E Γ2 M2 σ' G2 H', fun σ' H' hN => ⟨n - (i + 1), by omega, rfl, by omega, hN⟩, fun x H' hy => ?_⟩
      obtain ⟨G3, ρ, n3, hit, rx⟩ := j3 x H' hlt hy
      have a3 := a'.new n3
      have t := for_turn ks (ht i ρ Γ' M' hlt hit hI) (s'.trans n3.gg) a3 rx
      exact t
    · have e : i = n := by omega
      subst e
      exact .inl ⟨j2 (Nat.le_refl _), ks.nx _ _ (hd _ _ hI) _ _ _ s' a'⟩
theorem src_enum {Z : Ow → Nat → (Nat → Rep → Prop) → Prop} (h : WA X E Γ M [e] fun ρs M1 => ∃ r1, SubL ρs [RL X.K r1] ∧ Z M1 r1.length fun i ρ => ∃ ρ1, r1[i]? = some ρ1 ∧ ρ = RTt [RI (i : Int), ρ1]) : Src X E Γ M (iEnum X.K (tWA X [e])) Z :=
  ⟨fun {σ G H} R a' k => h σ G H a' _ fun ρs M1 vs G1 H1 ⟨l1, sb, hz⟩ s1 a1 r1 => by
    obtain ⟨v, rfl, t1⟩ := reps1 (sb.reps r1)
    obtain ⟨b1, vs1, e1, q1, t1⟩ := t1
    subst e1
    refine ⟨b1, vs1, rfl, Same.seq a1.gh q1, ?_⟩
    refine k _ _ _ _ _ _ hz s1 a1 fun i H2 G2 s2 g2 => ⟨fun hi => ?_, fun hi => ?_, fun x H3 hi hy => ?_⟩
    · have h1 : i < vs1.length := by rw [← t1.length]; exact hi
      exact ⟨vs1, vs1[i], Same.seq (s2.trans g2) q1, List.getElem?_eq_getElem h1⟩
    · exact ⟨vs1, Same.seq (s2.trans g2) q1, by rw [← t1.length]; exact hi⟩
    · obtain ⟨T, x', rfl, hT, rfl, f1⟩ := hy
      obtain ⟨ρ1, i1, r1'⟩ := (t1.mono s2).get2 (f1 vs1 (Same.seq (s2.trans g2) q1))
      have n := New.put (o := HO.tup [.int (i : Nat), x']) g2 hT
      exact ⟨_, RTt [RI (i : Int), ρ1], n, ⟨ρ1, i1, rfl⟩, T, [.int (i : Nat), x'], rfl, upd_same, rfl, ρ1.mono _ _ _ n.gg r1', trivial⟩⟩
end
end MM

namespace MM
open PySem L2 PyProof.Rows
section
variable {E : En} {Γ : Gm} {M : Ow} {Φ : Rep → Ow → Prop} {K : PySem.W.Frag}
theorem opw_neG {ρ ρ' : Rep} {q : Addr} {ρs : List Rep} {ds : List PyData} {u : ORep → Ow} {d : PyData} (sb : MM.Sub ρ (RRef q)) (fd : Fnd M q (OL ρs) u) (h1 : IsDs K ρs ds) (h2 : MM.IsD K ρ' d) (s1 : SeqAt.shaped (.list ds) = true) (s2 : SeqAt.shaped d = true) (k : Φ (RB (!PyData.eqv (.list ds) d)) M) : OpW E Γ M (rNeD K) ρ ρ' Φ := fun σ G H a x y hx hy Q q0 => by
  have e : x = .ref q := sb _ _ hx
  subst e
  obtain ⟨ob, e1, ws, e2, rf⟩ := a.own _ fd.mem
  subst e2
  exact ⟨.list ds, d, .lst (.inl (.inl e1)) (h1 ws G H a.gh rf), h2 y G H a.gh hy, s1, s2, q0 _ M _ G H k (Same.refl _) a rfl⟩
theorem opw_eqG {ρ ρ' : Rep} {q : Addr} {ρs : List Rep} {ds : List PyData} {u : ORep → Ow} {d : PyData} (sb : MM.Sub ρ (RRef q)) (fd : Fnd M q (OL ρs) u) (h1 : IsDs K ρs ds) (h2 : MM.IsD K ρ' d) (s1 : SeqAt.shaped (.list ds) = true) (s2 : SeqAt.shaped d = true) (k : Φ (RB (PyData.eqv (.list ds) d)) M) : OpW E Γ M (rEqD K) ρ ρ' Φ := fun σ G H a x y hx hy Q q0 => by
  have e : x = .ref q := sb _ _ hx
  subst e
  obtain ⟨ob, e1, ws, e2, rf⟩ := a.own _ fd.mem
  subst e2
  exact ⟨.list ds, d, .lst (.inl (.inl e1)) (h1 ws G H a.gh rf), h2 y G H a.gh hy, s1, s2, q0 _ M _ G H k (Same.refl _) a rfl⟩
theorem opw_notInG {ρ ρ' : Rep} {q : Addr} {ρs : List Rep} {ds : List PyData} {u : ORep → Ow} {d : PyData} (h1 : MM.IsD K ρ d) (sb : MM.Sub ρ' (RRef q)) (fd : Fnd M q (OL ρs) u) (h2 : IsDs K ρs ds) (s1 : SeqAt.shaped d = true) (s2 : SeqAt.shaped (.list ds) = true) (k : Φ (RB (!ds.any fun z => PyData.eqv z d)) M) : OpW E Γ M (rNotInD K) ρ ρ' Φ := fun σ G H a x y hx hy Q q0 => by
  have e : y = .ref q := sb _ _ hy
  subst e
  obtain ⟨ob, e1, ws, e2, rf⟩ := a.own _ fd.mem
  subst e2
  exact ⟨d, ds, h1 x G H a.gh hx, .lst (.inl (.inl e1)) (h2 ws G H a.gh rf), s1, s2, q0 _ M _ G H k (Same.refl _) a rfl⟩
theorem caw_lenOO {l : Addr} {ρs : List Rep} {u : ORep → Ow} {ρ : Rep} (sb : MM.Sub ρ (RRef l)) (fd : Fnd M l (OL ρs) u) (k : Φ (RI ρs.length) M) : CaW E Γ M (fun xs H Q => ∃ p ys, xs = [.ref p] ∧ (SqL K H p ys ∨ SqT K H p ys) ∧ Q (.int ys.length) H) [ρ] Φ := fun σ G H a vs hv Q q => by
  match vs, hv with
  | [v], ⟨r, _⟩ =>
    have e : v = .ref l := sb _ _ r
    subst e
    obtain ⟨o, e1, ws, e2, rf⟩ := a.own _ fd.mem
    subst e2
    refine ⟨l, ws, rfl, .inl (SqL.of e1), ?_⟩
    rw [← rf.length]
    exact q _ _ _ _ _ k (Same.refl _) a rfl
end
theorem eqv_i1 {a b : Int} (h : a = b) : PyData.eqv (.int a) (.int b) = true := by simp [PyData.eqv, h]
theorem eqv_tis {rows : List (List Int)} : PyData.eqv (.list (rows.map dTI)) (.list (rows.map dTI)) = true := by
  show PyData.eqvAll (rows.map dTI) (rows.map dTI) = true
  induction rows with
  | nil => rfl
  | cons r rows ih =>
    show (PyData.eqv (dTI r) (dTI r) && PyData.eqvAll (rows.map dTI) (rows.map dTI)) = true
    rw [ih, eqv_ti, decide_eq_true rfl]
    rfl
theorem StrK.same {c : Cal} {n : Nat} {rows out X : List (List Int)} (h : StrK c n rows) (nd : out.Nodup) (pw : out.Pairwise fun r t => llt t r = false) (m : ∀ r, r ∈ out ↔ r ∈ X) (hX : ∀ r, r ∈ X ↔ ∃ s ∈ spotL c.month.num (c.month.den : Int) n, r = rowB c.month.num (c.month.den : Int) s n) : out = rows :=
  rows_uniq nd h.nd pw h.pw fun r => (m r).trans ((hX r).trans (h.mem r).symm)
theorem StrK.few {c : Cal} {n : Nat} {rows : List (List Int)} (h : StrK c n rows) (hn : n ≤ 400) : rows.length ≤ 401 := by
  have := h.len
  omega
theorem StrK.ne {c : Cal} {n : Nat} {rows : List (List Int)} (h : StrK c n rows) (n1 : 1 ≤ n) : ∀ r ∈ rows, r ≠ [] := fun r hr z => by
  obtain ⟨s, _, e⟩ := (h.mem r).mp hr
  have := congrArg List.length e
  rw [z, rowB_len] at this
  exact absurd this (by show 0 ≠ n; omega)
theorem rowB_ne {t b s : Int} {n : Nat} (n1 : 1 ≤ n) : rowB t b s n ≠ [] := fun z => by
  have := congrArg List.length z
  rw [rowB_len] at this
  exact absurd this (by show n ≠ 0; omega)
theorem grid_mem {c : Cal} {n : Nat} (r : List Int) : r ∈ gridL c n (n + 1) ↔ ∃ s ∈ spotL c.month.num (c.month.den : Int) n, r = rowB c.month.num (c.month.den : Int) s n := by
  unfold gridL spotL
  constructor
  · intro h
    obtain ⟨i, hi, rfl⟩ := List.mem_map.mp h
    exact ⟨_, List.mem_map.mpr ⟨i, hi, rfl⟩, rfl⟩
  · rintro ⟨s, hs, rfl⟩
    obtain ⟨i, hi, rfl⟩ := List.mem_map.mp hs
    exact List.mem_map.mpr ⟨i, hi, rfl⟩
def cycL (c : Cal) (k : Int) (n m : Nat) : List (List Int) := (List.range m).map fun (i : Nat) => rowC c (k + (i : Int)) n
theorem cyc_mem {c : Cal} {k : Int} {n : Nat} (r : List Int) : r ∈ cycL c k n c.month.den ↔ ∃ s ∈ spotL c.month.num (c.month.den : Int) n, r = rowB c.month.num (c.month.den : Int) s n := by
  unfold cycL
  constructor
  · intro h
    obtain ⟨i, hi, rfl⟩ := List.mem_map.mp h
    obtain ⟨a, b⟩ := ph_in c (k + (i : Int))
    exact row_spot (den_pos c.month) a b
  · rintro ⟨s, hs, rfl⟩
    obtain ⟨a, b⟩ := spot_in (den_pos c.month) hs
    obtain ⟨i, hi, e⟩ := ph_all c k a b
    exact List.mem_map.mpr ⟨i, List.mem_range.mpr hi, by unfold rowC; rw [e]⟩
def con_L_rt : Con := { I := Addr × Bool, B := Unit, pre := fun _ => True, args := fun i => [RRef i.1, RB i.2], own := fun i => [(i.1, ODr 0)], post := fun _ _ => True, res := fun _ _ => RB true, own' := fun _ _ => [] }
theorem ck_L_rt {ρ ρ2 : Rep} {M M1 : Ow} {Φ : Rep → Ow → Prop} {p : Addr} (g : Bool) (h : Sub ρ (RRef p)) (h2 : Sub ρ2 (RB g)) (rm : Rm M p (ODr 0) M1) (k : Φ (RB true) M1) : CallK con_L_rt [ρ, ρ2] M Φ :=
  ⟨(p, g), M1, trivial, .cons h (.cons h2 .nil), .cons rm OSub.rfl .nil, fun _ _ => k⟩
/-- what the law calls -/
structure TlR (P : Program) (w : World) (K : PySem.W.Frag) (mg : Str → Option Value) (base : Heap) (CC CS : Addr) : Prop where
  nx : Kn P w K mg base 1 "_law_next" [] con_L_next
  four : Kn P w K mg base 5 "_law_four" [] con_L_four
  small : Kn P w K mg base 2 "_law_small" [] con_L_small
  made : Kn P w K mg base 10 "_law_made" [] (con_L_made CC CS)
  str : Kn P w K mg base 2 "stretches" [] (con_str CC CS)
  strK : KnK P w K mg base 2 "stretches" 0 ["many", "calendar"] (gvP [1, 0]) (con_str CC CS)
  row : Kn P w K mg base 4 "_law_row" [] con_L_row
  grid : Kn P w K mg base 1 "_law_grid" [] con_L_grid
section
variable {P : Program} {w : World} {K : PySem.W.Frag} {mg : Str → Option Value} {base : Heap} {CS CC : Addr}
theorem ok_L_right {f : Addr} {fd : FuncData} (F : FdD K "_law_right" "_law_right" s_f_L_right [] f fd) (B : BltS mg) (L : TlR P w K mg base CC CS) : FnOk P w K mg base CX0 12 f fd (N_f_L_right.take 2) (conSp con_L_rt) := by
  refine fn_conD con_L_rt F sc_f_L_right (fun _ => rfl) fun cd A outer s H EE G i hp hr hE => ?_
  obtain ⟨p, g⟩ := i
  have hr1 := hr.mono (show 1 ≤ 11 by decide)
  have hr2 := hr.mono (show 2 ≤ 11 by decide)
  have hr4 := hr.mono (show 4 ≤ 11 by decide)
  have hr5 := hr.mono (show 5 ≤ 11 by decide)
  have hr10 := hr.mono (show 10 ≤ 11 by decide)
  show WSs _ _ _ [(p, ODr 0)] _ _
  refine wss_cons (ws_set 2 w2_f_L_right (we_call L.four hr5 g__law_four_f_L_right pass0 (wa_cons (we_var 0 r0_f_L_right rfl (wa_nil (ck_L_four (n := 0) Sub.rfl .here (by decide) fun c0 hc0 hs0 => ?_))))))
  refine wss_cut (fun Γ M => ∃ (c : Cal) (m : Nat), CalOk c ∧ m ≤ 500 ∧ Γ = [some (RRef p), some (RB g), some (RCf c), none, none, none, none, none, none, none] ∧ M = [(p, ODr m)]) ?iff1 ?rest1
  case iff1 =>
    refine ws_if (wt_cmp (op_eqD hr.units) (nomark _) (we_bin op_modN (we_call L.nx hr1 g__law_next_f_L_right pass0 (wa_cons (we_var 0 r0_f_L_right rfl (wa_nil (ck_L_next Sub.rfl .here (by decide) fun x hx => ?_)))))))
    refine we_int (opw_of (opv_mod_i (by decide)) (we_int (opw_of (opv_eq isD_i isD_i shaped_i shaped_i) ⟨_, Sub.rfl, fun _ => ?y1, fun _ => wss_nil ⟨c0, _, hc0, by decide, rfl, rfl⟩⟩)))
    case y1 => exact wss_one (ws_set 2 w2_f_L_right (we_call L.small hr2 g__law_small_f_L_right pass0 (wa_cons (we_var 0 r0_f_L_right rfl (wa_cons (we_var 2 r2_f_L_right rfl (wa_nil (ck_L_small Sub.rfl Sub.rfl .here (by decide) hc0 hs0 fun c' hc' => ⟨c', _, hc', by decide, rfl, rfl⟩))))))))
  case rest1 =>
    rintro Γ M ⟨c, m, hc, hm, rfl, rfl⟩
    have hd := den_pos c.month
    refine wss_cons (ws_set 3 w3_f_L_right (we_bin op_addU (we_int (we_bin op_modN (we_call L.nx hr1 g__law_next_f_L_right pass0 (wa_cons (we_var 0 r0_f_L_right rfl (wa_nil (ck_L_next Sub.rfl .here (by omega) fun x1 hx1 => ?cnt)))))))))
    case cnt =>
      refine we_ix ix_seq (we_lst (wa_cons (we_int (wa_cons (we_int (wa_cons (we_int (wa_cons (we_int (wa_nil ⟨by show 4 ≤ 100000; decide, ?_⟩))))))))))
      refine we_bin op_modN (we_call L.nx hr1 g__law_next_f_L_right pass0 (wa_cons (we_var 0 r0_f_L_right rfl (wa_nil (ck_L_next Sub.rfl .here (by omega) fun x2 hx2 => we_int (opw_of (opv_mod_i (by decide)) ?_))))))
      refine opw_pickI (fun b => b = 12 ∨ b = 90) (by omega) (by show x2 % 4 < 4; omega) (.cons (.inl rfl) (.cons (.inl rfl) (.cons (.inl rfl) (.cons (.inr rfl) .nil)))) fun b hb2 => ?_
      refine opw_of (opv_mod_i (by omega)) (opw_of opv_add_i ?_)
      have a1 := Int.emod_nonneg x1 (show b ≠ 0 by omega)
      have a2 := Int.emod_lt_of_pos x1 (show 0 < b by omega)
      refine wss_cut (fun Γ M => ∃ (n : Nat) (m' : Nat), 1 ≤ n ∧ n ≤ 400 ∧ m' ≤ 600 ∧ Γ = [some (RRef p), some (RB g), some (RCf c), some (RI (n : Int)), none, none, none, none, none, none] ∧ M = [(p, ODr m')]) ?iff2 ?rest2
      case iff2 =>
        have en : 1 + x1 % b = (((1 + x1 % b).toNat : Nat) : Int) := by omega
        rw [en]
        refine ws_if (wt_bool (wp_and (wt_val (we_var 1 r1_f_L_right rfl ⟨g, Sub.rfl, fun _ => ?g1, fun _ => ⟨fun z => Bool.noConfusion z, fun _ => wss_nil ⟨_, _, by omega, by omega, by omega, rfl, rfl⟩⟩⟩))))
        case g1 =>
          refine wp_and1 (wt_cmp (op_eqD hr.units) (nomark _) (we_bin op_modN (we_call L.nx hr1 g__law_next_f_L_right pass0 (wa_cons (we_var 0 r0_f_L_right rfl (wa_nil (ck_L_next Sub.rfl .here (by omega) fun x hx => ?_)))))))
          refine we_int (opw_of (opv_mod_i (by decide)) (we_int (opw_of (opv_eq isD_i isD_i shaped_i shaped_i) ⟨_, Sub.rfl, fun _ => ?y2, fun _ => wss_nil ⟨_, _, by omega, by omega, by omega, rfl, rfl⟩⟩)))
          case y2 =>
            refine wss_one (ws_set 3 w3_f_L_right (we_bin op_sub (we_int (we_bin op_modN (we_call L.nx hr1 g__law_next_f_L_right pass0 (wa_cons (we_var 0 r0_f_L_right rfl (wa_nil (ck_L_next Sub.rfl .here (by omega) fun x3 hx3 => ?_)))))))))
            refine we_int (opw_of (opv_mod_i (by decide)) (opw_of opv_sub_i ?_))
            have e3 : 400 - x3 % 50 = (((400 - x3 % 50).toNat : Nat) : Int) := by omega
            rw [e3]
            exact ⟨_, _, by omega, by omega, by omega, rfl, rfl⟩
      case rest2 =>
        rintro Γ M ⟨n, m', n1, hn, hm', rfl, rfl⟩
        refine wss_cons (ws_set 4 w4_f_L_right (we_call L.made hr10 g__law_made_f_L_right pass0 (wa_cons (we_var 2 r2_f_L_right rfl (wa_cons (we_call L.nx hr1 g__law_next_f_L_right pass0 (wa_cons (we_var 0 r0_f_L_right rfl (wa_nil (ck_L_next Sub.rfl .here (by omega) fun x hx => wa_nil (ck_L_made Sub.rfl Sub.rfl hc ?_)))))))))))
        refine wss_cons (ws_set 5 w5_f_L_right (we_call L.str hr2 g_stretches_f_L_right pass0 (wa_cons (we_var 4 r4_f_L_right rfl (wa_cons (we_var 3 r3_f_L_right rfl (wa_nil (ck_str Sub.rfl Sub.rfl hc n1 hn fun t rows ht => ?_))))))))
        refine wss_cons (ws_set 6 w6_f_L_right (we_bin op_sub (we_call L.nx hr1 g__law_next_f_L_right pass0 (wa_cons (we_var 0 r0_f_L_right rfl (wa_nil (ck_L_next Sub.rfl (.there .here) (by omega) fun x4 hx4 => we_int (opw_of opv_sub_i ?_))))))))
        obtain ⟨x40, x41⟩ := hx4
        have few := ht.few hn
        have same : PyData.eqv (.list (rows.map dTI)) (.list (rows.map dTI)) = true := eqv_tis
        refine wss_cons (ws_if (wt_bool (wp_or (wt_not (wt_val (we_isiO (c := "list") (k := true) g_isinstance_f_L_right g_list_f_L_right B.isi B.lst (by decide +kernel) (by decide +kernel) (we_var 5 r5_f_L_right rfl ⟨⟨t, _, _, Sub.rfl, .there .here⟩, true, Sub.rfl, fun _ => ?t1, fun hk => Bool.noConfusion hk⟩)))))))
        case t1 =>
          refine wp_or (wt_cmp (op_neD hr.units) (nomark _) (we_var 5 r5_f_L_right rfl (we_freeze (we_srtSet rfl hr g_sorted_f_L_right B.srt g_set_f_L_right B.set hE (we_var 5 r5_f_L_right rfl ⟨rows, listOf_ow Sub.rfl (.there .here), by omega, ht.ne n1, fun q out hq1 hq2 nd mem pw => ⟨q, _, _, Sub.rfl, .here, hq2, ?cmp1⟩⟩)))))
          case cmp1 =>
            have e : out = rows := rows_uniq nd ht.nd pw ht.pw mem
            subst e
            refine opw_neG Sub.rfl (.there .here) (isDs_map (fun _ => isD_ti) out) isD_tis shaped_tis shaped_tis ⟨_, Sub.rfl, fun _ => ?t2, fun hk => ?bad1⟩
            case bad1 =>
              rw [same] at hk
              cases hk
            case t2 =>
              refine wp_or1 (wt_cmp (op_neD hr.units) (nomark _) (we_callB call_len_seq g_len_f_L_right B.len (by decide +kernel) (wa_cons (we_var 5 r5_f_L_right rfl (wa_nil (caw_lenOO Sub.rfl (.there .here) ?rhs))))))
              refine we_callB (call_min2 rfl) g_min_f_L_right B.mn (by decide +kernel) (wa_cons (we_bin op_addU (we_var 3 r3_f_L_right rfl (we_int (opw_of opv_add_i ?_)))))
              refine wa_cons (we_ix ix_seq (we_ix ix_seq (we_var 2 r2_f_L_right rfl (we_int (opw_of (opv_ix_t (ρ := RF c.month) sub_tt rfl) (we_int (opw_of (opv_ix_t (ρ := RI (c.month.den : Int)) sub_tt rfl) (wa_nil (caw_of cav_min2 ?_)))))))))
              refine opw_of (opv_ne isD_i isD_i shaped_i shaped_i) ⟨_, Sub.rfl, fun hk => ?bad2, fun _ => wss_nil ?go1⟩
              case bad2 =>
                have el := ht.len
                rw [eqv_i1 (show (((out.map RTI).length : Nat) : Int) = min ((n : Int) + 1) (c.month.den : Int) by rw [List.length_map]; omega)] at hk
                cases hk
              case go1 =>
                refine wss_cut (fun Γ M => ∃ o7, Γ = [some (RRef p), some (RB g), some (RCf c), some (RI (n : Int)), some (RCal CC CS c), some (RRef t), some (RI (x4 - 500)), o7, none, none] ∧ M = [(p, ODr (m' + 1 + 1)), (t, OL (out.map RTI))]) ?iff3 ?rest3
                case iff3 =>
                  refine ws_if (wt_cmp op_lt (nomark _) (we_ix ix_seq (we_ix ix_seq (we_var 2 r2_f_L_right rfl (we_int (opw_of (opv_ix_t (ρ := RF c.month) sub_tt rfl) (we_int (opw_of (opv_ix_t (ρ := RI (c.month.den : Int)) sub_tt rfl) ?_))))))))
                  refine we_int (opw_of opv_lt_i ⟨_, Sub.rfl, fun hk => ?y3, fun _ => wss_nil ⟨none, rfl, rfl⟩⟩)
                  case y3 =>
                    have hk : (c.month.den : Int) < 61 := of_decide_eq_true hk
                    refine wss_cons (ws_setLc (t := gName 8) (own := [("_law_k", 8)]) 7 rfl sc_f_L_right.nd rfl rfl ?hsw (pi_range1 g_range_f_L_right B.rng pa_w) (blkOk_by ?ok) ?hg hE ?src)
                    case hsw => rfl
                    case ok =>
                      show blkC N_f_L_right (defScope s_f_L_right) _ _ = true
                      decide +kernel
                    case hg =>
                      intro s H C cl fp
                      exact pg_name sc_f_L_right.nd rfl (.inl rfl)
                    case src =>
                      refine src_range1 (wa_cons (we_ix ix_seq (we_ix ix_seq (we_var 2 r2_f_L_right rfl (we_int (opw_of (opv_ix_t (ρ := RF c.month) sub_tt rfl) (we_int (opw_of (opv_ix_t (ρ := RI (c.month.den : Int)) sub_tt rfl) (wa_nil ⟨(c.month.den : Int), .cons Sub.rfl .nil, ⟨by omega, by omega⟩, ?lc⟩)))))))) )
                      have e1 : (c.month.den : Int).toNat = c.month.den := by omega
                      rw [e1]
                      refine ⟨fun i o M' => M' = [(p, ODr (m' + 1 + 1)), (t, OL (out.map RTI))] ∧ o = (cycL c (x4 - 500) n i).map RTI, ⟨rfl, rfl⟩, ?turn, ?done⟩
                      case turn =>
                        rintro i ρ o M1 D hi rfl ⟨rfl, rfl⟩
                        refine ⟨fun Γ => Γ.set 8 (some (RI (i : Int))), blkT_name 8 (by decide), fun s H0 C cl fp => ?_⟩
                        refine we_call L.row hr4 ?gr pass0 (wa_cons (we_var 2 ?v2 rfl (wa_cons (we_bin op_addU (we_var 6 ?v6 rfl (we_var 8 ?v8 rfl (opw_of opv_add_i (wa_cons (we_var 3 ?v3 rfl (wa_nil (ck_L_row Sub.rfl Sub.rfl Sub.rfl hc (by omega) (by omega) hn ⟨_, RTI (rowC c (x4 - 500 + (i : Int)) n), rfl, Sub.rfl, ?len, rfl, ?tk⟩)))))))))))
                        case gr => rfl
                        case v2 => exact ⟨rfl, by first | exact .inl rfl | exact .inr (.inl rfl), by decide, by decide⟩
                        case v6 => exact ⟨rfl, by first | exact .inl rfl | exact .inr (.inl rfl), by decide, by decide⟩
                        case v8 => exact ⟨rfl, by first | exact .inl rfl | exact .inr (.inl rfl), by decide, by decide⟩
                        case v3 => exact ⟨rfl, by first | exact .inl rfl | exact .inr (.inl rfl), by decide, by decide⟩
                        case len =>
                          unfold cycL
                          rw [List.length_map, List.length_map, List.length_range]
                          omega
                        case tk =>
                          unfold cycL
                          rw [List.range_succ, List.map_append, List.map_append]
                          rfl
                      case done =>
                        rintro D o M1 hD hM ⟨rfl, rfl⟩
                        refine wss_freeze 7 rfl .here hD ?_
                        have lc : (cycL c (x4 - 500) n c.month.den).length ≤ 1000 := by
                          unfold cycL
                          rw [List.length_map, List.length_range]
                          omega
                        refine wss_one (ws_if (wt_cmp (op_neD hr.units) (nomark _) (we_var 5 r5_f_L_right rfl (we_freeze (we_srtSet rfl hr g_sorted_f_L_right B.srt g_set_f_L_right B.set hE (we_var 7 r7_f_L_right rfl ⟨_, listOf_lt Sub.rfl, lc, fun r hr3 => ?nec, fun q2 out2 hq3 hq4 nd2 mem2 pw2 => ⟨q2, _, _, Sub.rfl, .here, hq4, ?cmp2⟩⟩))))))
                        case nec =>
                          unfold cycL at hr3
                          obtain ⟨i, _, rfl⟩ := List.mem_map.mp hr3
                          exact rowB_ne n1
                        case cmp2 =>
                          have e2 : out2 = out := ht.same nd2 pw2 mem2 cyc_mem
                          subst e2
                          refine opw_neG Sub.rfl (.there .here) (isDs_map (fun _ => isD_ti) out2) isD_tis shaped_tis shaped_tis ⟨_, Sub.rfl, fun hk => ?bad3, fun _ => wss_nil ⟨_, rfl, rfl⟩⟩
                          case bad3 =>
                            rw [same] at hk
                            cases hk
                case rest3 =>
                  rintro Γ M ⟨o7, rfl, rfl⟩
                  refine wss_cons (ws_for_range1 PassesOwn.never rfl g_range_f_L_right B.rng (wa_cons (we_int (wa_nil ⟨40, .cons Sub.rfl .nil, ⟨by decide, by decide⟩, ?loop⟩))))
                  case loop =>
                    refine ⟨fun i Γ M => M = [(p, ODr (m' + 1 + 1)), (t, OL (out.map RTI))] ∧ ∃ o8, Γ = [some (RRef p), some (RB g), some (RCf c), some (RI (n : Int)), some (RCal CC CS c), some (RRef t), some (RI (x4 - 500)), o7, o8, none], ⟨rfl, none, rfl⟩, ?turnL, ?doneL⟩
                    case turnL =>
                      rintro i ρ Γ M hi rfl ⟨rfl, o8, rfl⟩
                      have hi : i < 40 := hi
                      have zi : Bd 10 (i : Int) := by
                        show (i : Int).natAbs < 2 ^ 10
                        omega
                      have z7 : Bd 13 (7919 : Int) := by
                        show (7919 : Int).natAbs < 2 ^ 13
                        decide
                      have sq0 : 0 ≤ (i : Int) * (i : Int) := Int.mul_nonneg (by omega) (by omega)
                      have sq1 : (i : Int) * (i : Int) ≤ 1600 := by
                        have := Nat.mul_le_mul (show i ≤ 40 by omega) (show i ≤ 40 by omega)
                        rw [← Int.natCast_mul]
                        omega
                      refine wg_name 8 w8_f_L_right ?_
                      refine wss_one (ws_if (wt_cmp (op_notInD (room65 hr)) rfl (we_call L.row hr4 g__law_row_f_L_right pass0 (wa_cons (we_var 2 r2_f_L_right rfl (wa_cons (we_bin op_addU (we_var 6 r6_f_L_right rfl (we_bin op_mulU (we_bin op_mulU (we_var 8 r8_f_L_right rfl (we_var 8 r8_f_L_right rfl ?_))))))))))))
                      refine opw_of (opv_mul_i (mulOk zi zi (by decide))) (we_int (opw_of (opv_mul_i (mulOk (bd_mul zi zi) z7 (by decide))) (opw_of opv_add_i ?_)))
                      refine wa_cons (we_var 3 r3_f_L_right rfl (wa_nil (ck_L_row Sub.rfl Sub.rfl Sub.rfl hc (by omega) (by omega) hn ?_)))
                      obtain ⟨a, b⟩ := ph_in c (x4 - 500 + (i : Int) * (i : Int) * 7919)
                      refine we_var 5 r5_f_L_right rfl (opw_notInG isD_ti Sub.rfl (.there .here) (isDs_map (fun _ => isD_ti) out) shaped_ti shaped_tis ⟨_, Sub.rfl, fun hk => ?bad4, fun _ => wss_nil ⟨rfl, _, rfl⟩⟩)
                      case bad4 =>
                        rw [any_ti, decide_eq_true (ht.any a b)] at hk
                        cases hk
                    case doneL =>
                      rintro Γ M ⟨rfl, o8, rfl⟩
                      refine wss_cons (ws_set 9 w9_f_L_right (we_srtSet rfl hr g_sorted_f_L_right B.srt g_set_f_L_right B.set hE (we_call L.grid hr1 g__law_grid_f_L_right pass0 (wa_cons (we_ix ix_seq (we_var 2 r2_f_L_right rfl (we_int (opw_of (opv_ix_t (ρ := RF c.month) sub_tt rfl) ?_))))))))
                      refine wa_cons (we_var 3 r3_f_L_right rfl (wa_nil (ck_L_grid Sub.rfl Sub.rfl hc hn fun q3 => ⟨gridL c n (n + 1), listOf_ow Sub.rfl .here, ?lg, fun r hr3 => ?neg, fun d out3 hd1 hd2 nd3 mem3 pw3 => ?go2⟩)))
                      case lg =>
                        unfold gridL
                        rw [List.length_map, List.length_range]
                        omega
                      case neg =>
                        unfold gridL at hr3
                        obtain ⟨i, _, rfl⟩ := List.mem_map.mp hr3
                        exact rowB_ne n1
                      case go2 =>
                        have e3 : out3 = out := ht.same nd3 pw3 mem3 grid_mem
                        subst e3
                        refine wss_freeze 9 rfl .here hd2 ?_
                        refine wss_cons (ws_if (wt_cmp (op_neD hr.units) (nomark _) (we_var 5 r5_f_L_right rfl (we_var 9 r9_f_L_right rfl (opw_neG Sub.rfl (.there (.there .here)) (isDs_map (fun _ => isD_ti) out3) isD_tis shaped_tis shaped_tis ⟨_, Sub.rfl, fun hk => ?bad5, fun _ => wss_nil ?go3⟩)))))
                        case bad5 =>
                          rw [same] at hk
                          cases hk
                        case go3 =>
                          refine wss_cons (ws_expr (we_bm PySem.F.plainAttrs_list PySem.F.slot_list_append PySem.F.type_list_append mt_append (we_var 5 r5_f_L_right rfl ⟨tyw_listO Sub.rfl (.there (.there .here)), wa_cons (we_tup (wa_cons (we_int (wa_nil ⟨by show 1 ≤ 100000; decide, wa_nil (mtw_append Sub.rfl (.there (.there .here)) ?lenT ?_)⟩))))⟩)))
                          case lenT =>
                            rw [List.length_map]
                            omega
                          refine wss_one (ws_ret (we_cmp (op_eqD hr.units) (nomark _) (we_callN0 (gR := gvP [1, 0]) L.strK (gr_P _) hr2 g_stretches_f_L_right pass0 (wk_cons (we_var 3 r3_f_L_right rfl (wk_cons (we_var 4 r4_f_L_right rfl (wk_nil ⟨rfl, ck_str Sub.rfl Sub.rfl hc n1 hn fun t2 rows2 ht2 => ?fin⟩))))))))
                          case fin =>
                            have e4 : rows2 = out3 := rows_uniq ht2.nd ht.nd ht2.pw ht.pw fun r => (ht2.mem r).trans (ht.mem r).symm
                            subst e4
                            refine we_var 9 r9_f_L_right rfl (opw_eqG Sub.rfl .here (isDs_map (fun _ => isD_ti) rows2) isD_tis shaped_tis shaped_tis ?_)
                            rw [same]
                            exact ⟨(), _, trivial, Sub.rfl, .nil⟩
theorem ok_LAW {f : Addr} {fd : FuncData} (F : FdD K "law" "law" s_f_LAW [] f fd) (hen : mg "enumerate" = none) (L : LawB P w K mg base) (Rg : Kn P w K mg base 12 "_law_right" [] con_L_rt) : FnOk P w K mg base CX0 13 f fd ["_law_script"] (conSp (con_law K)) := by
  refine fn_conD (con_law K) F sc_f_LAW (fun _ => rfl) fun cd A outer s H EE G (ns : List Int) hp hr hE => ?_
  have hp : ns.length ≤ 63 := hp
  have hr1 := hr.mono (show 1 ≤ 12 by decide)
  refine wss_cut (fun _ _ => True) (ws_for_src PassesOwn.never rfl (pi_enum g_enumerate_f_LAW hen pa_w) (src_enum (wa_cons (we_bin op_addU (we_slL (we_var 0 r0_f_LAW rfl ⟨_, Sub.rfl, wo_none (wo_some (we_int ⟨6, Sub.rfl, we_lst (wa_cons (we_int (wa_nil ⟨by show 1 ≤ 100000; decide, ?add⟩)))⟩))⟩)))))) ?rest
  case rest =>
    rintro Γ M -
    exact wss_one (ws_ret (we_bl ⟨(), _, trivial, Sub.rfl, .nil⟩))
  case add =>
    refine opw_of (opv_add_l ?len) (wa_nil ⟨_, .cons sub_lt .nil, fun _ Γ _ => ∃ o1 o2, Γ = [some (RL K (ns.map RI)), o1, o2], ⟨none, none, rfl⟩, ?turn, fun _ _ _ => trivial⟩)
    case len =>
      have h1 := cutL_len (l := ns.map RI) (lo := none) (hi := some 6)
      rw [List.length_map] at h1
      show (cutL (ns.map RI) none (some 6)).length + 1 ≤ 100000
      omega
    case turn =>
      rintro i ρ Γ M hi ⟨ρ1, hρ, rfl⟩ ⟨o1, o2, rfl⟩
      obtain ⟨cell, rfl⟩ := cells_of hρ
      refine wg_tup rfl sub_tt rfl (wgs_cons (wg_name 1 w1_f_LAW (wgs_cons (wg_name 2 w2_f_LAW (wgs_nil ?_)))))
      refine wss_one (ws_if (wt_not (wt_val (we_call Rg hr g__law_right_f_LAW pass0 (wa_cons (we_call L.draws hr1 g__law_draws_f_LAW pass0 (wa_cons (we_var 2 r2_f_LAW rfl (wa_nil (ck_L_draws Sub.rfl fun p => ?_))))))))))
      refine wa_cons (we_cmp (op_eqD hr.units) (nomark _) (we_var 1 r1_f_LAW rfl (we_int (opw_of (opv_eq isD_i isD_i shaped_i shaped_i) (wa_nil (ck_L_rt _ Sub.rfl Sub.rfl .here ⟨_, Sub.rfl, fun hk => (by cases hk), fun _ => wss_nil ⟨_, _, rfl⟩⟩))))))
end
end MM

namespace MM
open PySem L2 PyProof.Rows
structure TopL (K : PySem.W.Frag) (CC : Addr) : Prop where
  zZ : PySem.W.nsIn K mainGlobals "zip" = some none
  zT : PySem.W.nsIn K mainGlobals "tuple" = some none
  zE : PySem.W.nsIn K mainGlobals "set" = some none
  zO : PySem.W.nsIn K mainGlobals "sorted" = some none
  zN : PySem.W.nsIn K mainGlobals "min" = some none
  zL : PySem.W.nsIn K mainGlobals "len" = some none
  zLi : PySem.W.nsIn K mainGlobals "list" = some none
  zEn : PySem.W.nsIn K mainGlobals "enumerate" = some none
  row : DefE K "row_behind" s_f_row_behind []
  str : DefE K "stretches" s_f_stretches []
  floor : DefE K "_law_floor" s_f_L_floor []
  start : DefE K "_law_start" s_f_L_start []
  made : DefE K "_law_made" s_f_L_made []
  lrow : DefE K "_law_row" s_f_L_row []
  small : DefE K "_law_small" s_f_L_small []
  grid : DefE K "_law_grid" s_f_L_grid []
  right : DefE K "_law_right" s_f_L_right []
  law : DefE K "law" s_f_LAW []
section
variable {P : Program} {w : World} {K : PySem.W.Frag} {mg : Str → Option Value} {base h : Heap} {CS CC : Addr}
theorem all_mk {l : PySem.W.OpenLaw} {fa : Addr} (X : K.In h) (G : h.Ns mainGlobals mg) (hfa : mg "law" = some (.ref fa)) (S : TopS K CS) (C : TopC K CC) (D : TopB K) (L : TopL K CC) :
    ∃ fd : FuncData, (∀ (s : Shared) (v : Value), BindsTo s fd ⟨[v], []⟩ [("_law_script", v)]) ∧ ∀ base : Heap, K.In base → base.Ns mainGlobals mg → FnOk l.prog w K mg base CX0 13 fa fd ["_law_script"] (conSp (con_law K)) := by
  obtain ⟨f0, d0, a0, F0⟩ := L.law
  have e := hfa.symm.trans (PySem.W.mg_of X G a0)
  cases e
  refine ⟨d0, fun s v => F0.bindsA (ps := ["_law_script"]) (fun _ _ _ _ _ _ us hl => match us, hl with | [_], _ => rfl) s [v] rfl, fun base _ _ => ?_⟩
  have SG : ShG l.prog w K mg base CS := shG_of X G S
  have SM : CalM l.prog w K mg base CC CS := calM_of X G SG C
  have LB : LawB l.prog w K mg base := lawB_of X G (PySem.W.mg_none_of X G S.zA) D
  have CI := SM.CT.ci.cl
  have BN : BltS mg := ⟨PySem.W.mg_none_of X G D.zR, PySem.W.mg_none_of X G L.zZ, PySem.W.mg_none_of X G L.zT, PySem.W.mg_none_of X G L.zE, PySem.W.mg_none_of X G L.zO, PySem.W.mg_none_of X G L.zN, PySem.W.mg_none_of X G L.zL, PySem.W.mg_none_of X G S.zI, PySem.W.mg_none_of X G L.zLi⟩
  have EN := PySem.W.mg_none_of X G L.zEn
  have C4 := cal4_of X G SM C
  have Ka : KnCK l.prog w K mg base 8 "Calendar" CC 2 ["moon", "mark"] (gvP [0, 1, 2, 3, 4]) (con_Cal_init CC CS) := calP_of 2 ["moon", "mark"] [0, 1, 2, 3, 4] X G SM C (fun _ _ _ _ _ _ _ us its ws l1 l2 l3 => match us, its, ws, l1, l2, l3 with | [_, _, _], [_, _], [_, _], _, _, _ => ⟨_, rfl, rfl⟩)
  have Kb : KnCK l.prog w K mg base 8 "Calendar" CC 0 ["mark", "moon", "year", "month"] (gvP [0, 4, 3, 2, 1]) (con_Cal_init CC CS) := calP_of 0 ["mark", "moon", "year", "month"] [0, 4, 3, 2, 1] X G SM C (fun _ _ _ _ _ _ _ us its ws l1 l2 l3 => match us, its, ws, l1, l2, l3 with | [_], [_, _], [_, _, _, _], _, _, _ => ⟨_, rfl, rfl⟩)
  obtain ⟨f1, d1, a1, F1⟩ := L.row
  have Ro : Kn l.prog w K mg base 1 "row_behind" [] con_row := kn_of X G a1 F1 (ok_row F1 BN) (fun _ _ _ _ _ _ us hl => match us, hl with | [_, _, _, _], _ => rfl)
  obtain ⟨f2, d2, a2, F2⟩ := L.str
  have Sr : Kn l.prog w K mg base 2 "stretches" [] (con_str CC CS) := kn_of X G a2 F2 (ok_str F2 BN SG.T SM.CT Ro) (fun _ _ _ _ _ _ us hl => match us, hl with | [_, _], _ => rfl)
  have SrK : KnK l.prog w K mg base 2 "stretches" 0 ["many", "calendar"] (gvP [1, 0]) (con_str CC CS) := knK0_of 0 ["many", "calendar"] (gvP [1, 0]) X G a2 F2 (ok_str F2 BN SG.T SM.CT Ro) (fun r1 r2 => rel_P [1, 0] r1 r2) (fun _ _ _ _ _ _ us ws l1 l3 => match us, ws, l1, l3 with | [], [_, _], _, _ => rfl)
  obtain ⟨f3, d3, a3, F3⟩ := L.floor
  have Lo : Kn l.prog w K mg base 1 "_law_floor" [] con_L_floor := kn_of X G a3 F3 (ok_L_floor F3) (fun _ _ _ _ _ _ us hl => match us, hl with | [_], _ => rfl)
  obtain ⟨f4, d4, a4, F4⟩ := L.start
  have Ls : Kn l.prog w K mg base 3 "_law_start" [] (con_Lci Cal.st) := kn_of X G a4 F4 (ok_L_start F4 LB.plus LB.by_ Lo) (fun _ _ _ _ _ _ us hl => match us, hl with | [_, _], _ => rfl)
  obtain ⟨f5, d5, a5, F5⟩ := L.made
  have Lm : Kn l.prog w K mg base 10 "_law_made" [] (con_L_made CC CS) := kn_of X G a5 F5 (ok_L_made F5 SG.toShM C4 Ka Kb) (fun _ _ _ _ _ _ us hl => match us, hl with | [_, _], _ => rfl)
  obtain ⟨f6, d6, a6, F6⟩ := L.lrow
  have Lr : Kn l.prog w K mg base 4 "_law_row" [] con_L_row := kn_of X G a6 F6 (ok_L_row F6 BN Ls) (fun _ _ _ _ _ _ us hl => match us, hl with | [_, _, _], _ => rfl)
  obtain ⟨f7, d7, a7, F7⟩ := L.small
  have Lsm : Kn l.prog w K mg base 2 "_law_small" [] con_L_small := kn_of X G a7 F7 (ok_L_small F7 LB.next LB.low Lo) (fun _ _ _ _ _ _ us hl => match us, hl with | [_, _], _ => rfl)
  obtain ⟨f8, d8, a8, F8⟩ := L.grid
  have Lg : Kn l.prog w K mg base 1 "_law_grid" [] con_L_grid := kn_of X G a8 F8 (ok_L_grid F8 BN) (fun _ _ _ _ _ _ us hl => match us, hl with | [_, _], _ => rfl)
  have TL : TlR l.prog w K mg base CC CS := ⟨LB.next, (let ⟨a, b, c, d, e, f, g, h, o⟩ := LB.four; ⟨a, b, c, d, e, f, g, h, o.mono (by decide)⟩), Lsm, Lm, Sr, SrK, Lr, Lg⟩
  obtain ⟨f9, d9, a9, F9⟩ := L.right
  have Rg : Kn l.prog w K mg base 12 "_law_right" [] con_L_rt := kn_of X G a9 F9 (ok_L_right F9 BN TL) (fun _ _ _ _ _ _ us hl => match us, hl with | [_, _], _ => rfl)
  exact ok_LAW F0 EN LB Rg
end
end MM

open PySem PySem.W PyProof.Rows
local macro_rules | `(tactic| walk_at "def") => `(tactic| (refine' MM.defE_mk ?a ?l ?c ?k; (case a => k_is); (case l => k_is); (case c => k_is); (case k => k_is)))
local macro_rules | `(tactic| walk_at "met") => `(tactic| (refine' MM.metE_mk ?a ?i ?l ?c ?k; (case a => k_is); (case i => k_is); (case l => k_is); (case c => k_is); (case k => k_is)))
local macro_rules | `(tactic| walk_at "def1") => `(tactic| (refine' MM.defE_mkT ?a ?l ?c ?k ?lT ?hd ?hv; (case a => k_is); (case l => k_is); (case c => k_is); (case k => k_is); (case lT => k_is); (case hd => simp); (case hv => exact .cons ⟨_, rfl⟩ .nil)))
local macro_rules | `(tactic| walk_at "init1") => `(tactic| (refine' MM.metE_mkT ?a ?i ?l ?c ?k ?lT ?hd ?hv; (case a => k_is); (case i => k_is); (case l => k_is); (case c => k_is); (case k => k_is); (case lT => k_is); (case hd => simp); (case hv => exact .cons ⟨_, rfl⟩ .nil)))
local macro_rules | `(tactic| walk_at "init2") => `(tactic| (refine' MM.metE_mkT ?a ?i ?l ?c ?k ?lT ?hd ?hv; (case a => k_is); (case i => k_is); (case l => k_is); (case c => k_is); (case k => k_is); (case lT => k_is); (case hd => simp); (case hv => exact .cons rfl (.cons rfl .nil))))
local macro_rules | `(tactic| walk_at "cls") => `(tactic| (refine' MM.ClsE.mk ?at_ ?pg ?hd ?po ?sa ?ha ?hn ?htk ?hm ?makes ?kp; (case at_ => k_is); (case pg => k_is); (case hd => k_is); (case po => k_is); (case sa => k_is); (case ha => k_is); (case hn => k_is); (case htk => k_is); (case hm => k_is); (case makes => k_is); (case kp => k_is)))
set_option maxHeartbeats 0 in
theorem PySem.Challenge.cw_meanmoon_k32_all_unlike_stretches_holds : PySem.Challenge.rw_meanmoon_k32_all_unlike_stretches.Holds := by
  w_on; o_law; k_head; (case hw => w_witness2)
  k_fill
  refine MM.walk_law (k := 13) (l := PySem.Challenge.rw_meanmoon_k32_all_unlike_stretches) rfl rfl ⟨rfl, by decide, by decide⟩ (fun w h Y => PySem.W.kIn_of Y) ?F
  case F =>
    intro w mg fa h KX G hmg
    refine' MM.all_mk KX G hmg ?S ?C ?D ?L
    case S =>
      refine' MM.TopS.mk ?cls ?nT ?nB ?tb ?tl ?k1 ?k2 ?k3 ?zA ?zI ?init ?common ?share_of ?plus ?minus ?times ?over ?before ?whole ?ceiling
      case cls => walk_at "cls"
      case nT => k_is
      case nB => k_is
      case tb => k_is
      case tl => k_is
      case k1 => k_is
      case k2 => k_is
      case k3 => k_is
      case zA => k_is
      case zI => k_is
      case init => walk_at "init1"
      case common => walk_at "def"
      case share_of => walk_at "def"
      case plus => walk_at "def"
      case minus => walk_at "def"
      case times => walk_at "def"
      case over => walk_at "def"
      case before => walk_at "def"
      case whole => walk_at "def"
      case ceiling => walk_at "def"
    case C =>
      refine' MM.TopC.mk ?cls ?n1 ?n2 ?n3 ?n4 ?n5 ?init ?fault
      case cls => walk_at "cls"
      case n1 => k_is
      case n2 => k_is
      case n3 => k_is
      case n4 => k_is
      case n5 => k_is
      case init => walk_at "init2"
      case fault => walk_at "def"
    case D =>
      refine' MM.TopB.mk ?zR ?draws ?next ?low ?plus ?by_ ?part ?moment ?four
      case zR => k_is
      case draws => walk_at "def"
      case next => walk_at "def"
      case low => walk_at "def"
      case plus => walk_at "def"
      case by_ => walk_at "def"
      case part => walk_at "def"
      case moment => walk_at "def"
      case four => walk_at "def"
    case L =>
      refine' MM.TopL.mk ?zZ ?zT ?zE ?zO ?zN ?zL ?zLi ?zEn ?row ?str ?floor ?start ?made ?lrow ?small ?grid ?right ?law
      case zZ => k_is
      case zT => k_is
      case zE => k_is
      case zO => k_is
      case zN => k_is
      case zL => k_is
      case zLi => k_is
      case zEn => k_is
      case row => walk_at "def"
      case str => walk_at "def"
      case floor => walk_at "def"
      case start => walk_at "def"
      case made => walk_at "def"
      case lrow => walk_at "def"
      case small => walk_at "def"
      case grid => walk_at "def"
      case right => walk_at "def"
      case law => walk_at "def"

