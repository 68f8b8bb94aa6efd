import PyProof.Rows.All
import Wide.All
import OpenK.AllK
import Wide.FinOn
import HandS.ForMost
import HandS.ForExc
import HandS.Wide
import HandS.Defaults
import HandS.IsInst
import HandS.Flow
import HandS.MakeKw
import HandS.MakeKwOnly
import PySem.Challenge.RW_meanmoon_k71_figures
import HandS.OwnEq
import KE.KCallOwn
import KE.KFmtOwn
import HandS.FStr
import HandS.StrMore
import HandS.Text
import PyProof.FString2
import PyProof.CallFns
import HandS.IntHex
import HandS.Exc
set_option Elab.async false
set_option linter.all false
set_option maxRecDepth 100000
set_option maxHeartbeats 4000000
namespace MM
open PySem L2

/-! ### representations -/
/-- what a value stands for, over the lasting part of the heap -/
structure Rep where
  p : V → Hp → Prop
  mono : ∀ v G G', Same G G' → p v G → p v G'
/-- what an owned (changeable) object holds -/
structure ORep where
  p : HO → Hp → Prop
  mono : ∀ o G G', Same G G' → p o G → p o G'
abbrev Gm := List (Option Rep)
abbrev Ow := List (Addr × ORep)
structure En where
  G : Hp
  H : Hp
  M : List Addr
structure At (E : En) (Γ : Gm) (M : Ow) (σ : L2.St) (G H : Hp) : Prop where
  len : Γ.length = σ.length
  env : ∀ (i : Nat) (ρ : Rep), Γ[i]? = some (some ρ) → ∃ v, σ[i]? = some (some v) ∧ ρ.p v G
  gh : Same G H
  own : ∀ q ∈ M, ∃ o, H q.1 = some o ∧ q.2.p o G
  gn : ∀ q ∈ M, G q.1 = none
  nd : (M.map (·.1)).Nodup
  g0 : Same E.G G
  keep : ∀ a o, a ∉ E.M → E.H a = some o → H a = some o
  nw : ∀ a, E.H a ≠ none → G a ≠ none → E.G a ≠ none
  loc : ∀ q ∈ M, q.1 ∈ E.M ∨ E.H q.1 = none
  there : ∀ a, E.H a ≠ none → H a ≠ none
/-- a pure step: things are added -/
structure New (G H G' H' : Hp) : Prop where
  gg : Same G G'
  gh : Same G' H'
  hh : Same H H'
  nw : ∀ a, H a ≠ none → G' a ≠ none → G a ≠ none
theorem New.refl {G H : Hp} (s : Same G H) : New G H G H := ⟨Same.refl _, s, Same.refl _, fun _ _ h => h⟩
theorem New.trans {G H G1 H1 G2 H2 : Hp} (a : New G H G1 H1) (b : New G1 H1 G2 H2) : New G H G2 H2 :=
  ⟨a.gg.trans b.gg, b.gh, a.hh.trans b.hh, fun x h1 h2 => a.nw x h1 (b.nw x (by
    cases q : H x with
    | none => exact absurd q h1
    | some o => rw [a.hh x o q]; simp) h2)⟩
theorem same_upd {H : Hp} {p : Addr} {o : HO} (h : H p = none) : Same H (upd H p o) := fun b u e => by
  rw [upd_ne (ne_of_none e h)]; exact e
theorem same_upd2 {G H : Hp} {p : Addr} {o : HO} (s : Same G H) : Same (upd G p o) (upd H p o) := fun b u e => by
  by_cases hb : b = p
  · subst hb; rw [upd_same] at e ⊢; exact e
  · rw [upd_ne hb] at e ⊢; exact s b u e
theorem Same.fr {G H : Hp} {p : Addr} (s : Same G H) (h : H p = none) : G p = none := Same.free s h
/-- a new lasting object -/
theorem New.put {G H : Hp} {p : Addr} {o : HO} (s : Same G H) (h : H p = none) : New G H (upd G p o) (upd H p o) :=
  ⟨same_upd (Same.fr s h), same_upd2 s, same_upd h, fun a ha hg => by
    by_cases e : a = p
    · subst e; exact absurd h ha
    · rw [upd_ne e] at hg; exact hg⟩
/-- a new object that nobody speaks of -/
theorem New.side {G H : Hp} {p : Addr} {o : HO} (s : Same G H) (h : H p = none) : New G H G (upd H p o) :=
  ⟨Same.refl _, s.trans (same_upd h), same_upd h, fun _ _ hg => hg⟩
theorem ne_none {α : Type} {o : Option α} {x : α} (h : o = some x) : o ≠ none := by rw [h]; simp
section
variable {E : En} {Γ Γ' : Gm} {M M' : Ow} {σ : L2.St} {G H G' H' : Hp}
theorem At.new (a : At E Γ M σ G H) (n : New G H G' H') : At E Γ M σ G' H' where
  len := a.len
  env := fun i ρ h => let ⟨v, e, r⟩ := a.env i ρ h; ⟨v, e, ρ.mono _ _ _ n.gg r⟩
  gh := n.gh
  own := fun q hq => let ⟨o, e, r⟩ := a.own q hq; ⟨o, n.hh _ _ e, q.2.mono _ _ _ n.gg r⟩
  gn := fun q hq => by
    obtain ⟨o, e, _⟩ := a.own q hq
    cases z : G' q.1 with
    | none => rfl
    | some u => exact absurd (a.gn q hq) (n.nw q.1 (ne_none e) (ne_none z))
  nd := a.nd
  g0 := a.g0.trans n.gg
  keep := fun x o h1 h2 => n.hh _ _ (a.keep x o h1 h2)
  nw := fun x h1 h2 => a.nw x h1 (n.nw x (a.there x h1) h2)
  loc := a.loc
  there := fun x h => by
    cases z : H x with
    | none => exact absurd z (a.there x h)
    | some o => rw [n.hh _ _ z]; simp
theorem At.fresh (a : At E Γ M σ G H) {p : Addr} (h : H p = none) : E.H p = none := by
  cases z : E.H p with
  | none => rfl
  | some o => exact absurd h (a.there p (ne_none z))
theorem At.freshG (a : At E Γ M σ G H) {p : Addr} (h : H p = none) : G p = none := Same.fr a.gh h
theorem At.freshM (a : At E Γ M σ G H) {p : Addr} (h : H p = none) : p ∉ M.map (·.1) := fun hm => by
  obtain ⟨q, hq, e⟩ := List.mem_map.mp hm
  obtain ⟨o, e2, _⟩ := a.own q hq
  rw [e, h] at e2; cases e2
/-- a new owned object -/
theorem At.own1 (a : At E Γ M σ G H) {p : Addr} {o : HO} {r : ORep} (h : H p = none) (hr : r.p o G) : At E Γ ((p, r) :: M) σ G (upd H p o) where
  len := a.len
  env := a.env
  gh := a.gh.trans (same_upd h)
  own := fun q hq => by
    rcases List.mem_cons.mp hq with e | hq
    · subst e; exact ⟨o, upd_same, hr⟩
    · obtain ⟨u, e, r⟩ := a.own q hq
      exact ⟨u, by rw [upd_ne (ne_of_none e h)]; exact e, r⟩
  gn := fun q hq => by
    rcases List.mem_cons.mp hq with e | hq
    · subst e; exact a.freshG h
    · exact a.gn q hq
  nd := List.nodup_cons.mpr ⟨a.freshM h, a.nd⟩
  g0 := a.g0
  keep := fun x u h1 h2 => by
    have := a.keep x u h1 h2
    rw [upd_ne (ne_of_none this h)]; exact this
  nw := a.nw
  loc := fun q hq => by
    rcases List.mem_cons.mp hq with e | hq
    · subst e; exact .inr (a.fresh h)
    · exact a.loc q hq
  there := fun x hx => by
    have := a.there x hx
    by_cases e : x = p
    · subst e; rw [upd_same]; simp
    · rw [upd_ne e]; exact this
/-- where p stands in M, and M with another thing there -/
inductive Fnd : Ow → Addr → ORep → (ORep → Ow) → Prop
  | here {M : Ow} {p : Addr} {r : ORep} : Fnd ((p, r) :: M) p r (fun r' => (p, r') :: M)
  | there {M : Ow} {p : Addr} {r : ORep} {u : ORep → Ow} {q : Addr × ORep} : Fnd M p r u → Fnd (q :: M) p r (fun r' => q :: u r')
theorem Fnd.mem {p : Addr} {r : ORep} {u : ORep → Ow} (f : Fnd M p r u) : (p, r) ∈ M := by
  induction f with
  | here => exact List.mem_cons_self
  | there _ ih => exact List.mem_cons_of_mem _ ih
theorem Fnd.map {p : Addr} {r : ORep} {u : ORep → Ow} (f : Fnd M p r u) (r' : ORep) : (u r').map (·.1) = M.map (·.1) := by
  induction f with
  | here => rfl
  | there _ ih => simp only [List.map_cons, ih]
theorem Fnd.of {p : Addr} {r : ORep} {u : ORep → Ow} (f : Fnd M p r u) (r' : ORep) : ∀ q ∈ u r', q = (p, r') ∨ (q ∈ M ∧ (q.1 ≠ p ∨ ¬ (M.map (·.1)).Nodup)) := by
  induction f with
  | @here M p r =>
    intro q hq
    rcases List.mem_cons.mp hq with e | hq
    · exact .inl e
    · refine .inr ⟨List.mem_cons_of_mem _ hq, ?_⟩
      by_cases e : q.1 = p
      · refine .inr fun nd => ?_
        have := (List.nodup_cons.mp nd).1
        exact this (List.mem_map.mpr ⟨q, hq, e⟩)
      · exact .inl e
  | @there M p r u q0 f ih =>
    intro q hq
    rcases List.mem_cons.mp hq with e | hq
    · subst e
      refine .inr ⟨List.mem_cons_self, ?_⟩
      by_cases e : q.1 = p
      · refine .inr fun nd => ?_
        have := (List.nodup_cons.mp nd).1
        exact this (List.mem_map.mpr ⟨_, f.mem, e.symm⟩)
      · exact .inl e
    · rcases ih q hq with e | ⟨h1, h2⟩
      · exact .inl e
      · refine .inr ⟨List.mem_cons_of_mem _ h1, ?_⟩
        rcases h2 with h2 | h2
        · exact .inl h2
        · exact .inr fun nd => h2 (List.nodup_cons.mp nd).2
theorem At.write (a : At E Γ M σ G H) {p : Addr} {o : HO} {r r' : ORep} {u : ORep → Ow} (f : Fnd M p r u) (hr : r'.p o G) : At E Γ (u r') σ G (upd H p o) where
  len := a.len
  env := a.env
  gh := fun b w e => by
    have : b ≠ p := fun z => by subst z; rw [a.gn _ f.mem] at e; cases e
    rw [upd_ne this]; exact a.gh b w e
  own := fun q hq => by
    rcases f.of r' q hq with e | ⟨h1, h2⟩
    · subst e; exact ⟨o, upd_same, hr⟩
    · rcases h2 with h2 | h2
      · obtain ⟨w, e, r⟩ := a.own q h1
        exact ⟨w, by rw [upd_ne h2]; exact e, r⟩
      · exact absurd a.nd h2
  gn := fun q hq => by
    rcases f.of r' q hq with e | ⟨h1, _⟩
    · subst e; exact a.gn (p, r) f.mem
    · exact a.gn q h1
  nd := by rw [f.map]; exact a.nd
  g0 := a.g0
  keep := fun x w h1 h2 => by
    by_cases e : x = p
    · subst e
      rcases a.loc _ f.mem with z | z
      · exact absurd z h1
      · rw [z] at h2; cases h2
    · rw [upd_ne e]; exact a.keep x w h1 h2
  nw := a.nw
  loc := fun q hq => by
    rcases f.of r' q hq with e | ⟨h1, _⟩
    · subst e; exact a.loc (p, r) f.mem
    · exact a.loc q h1
  there := fun x hx => by
    by_cases e : x = p
    · subst e; rw [upd_same]; simp
    · rw [upd_ne e]; exact a.there x hx
/-- what may be forgotten -/
def Sub (ρ ρ' : Rep) : Prop := ∀ v G, ρ.p v G → ρ'.p v G
theorem Sub.rfl {ρ : Rep} : Sub ρ ρ := fun _ _ h => h
theorem Sub.trans {a b c : Rep} (x : Sub a b) (y : Sub b c) : Sub a c := fun v G h => y v G (x v G h)
def OSub (ρ ρ' : ORep) : Prop := ∀ v G, ρ.p v G → ρ'.p v G
theorem OSub.rfl {ρ : ORep} : OSub ρ ρ := fun _ _ h => h
/-- Γ' says no more than Γ -/
inductive Wk : Gm → Gm → Prop
  | nil : Wk [] []
  | skip {o : Option Rep} {Γ Γ' : Gm} : Wk Γ Γ' → Wk (o :: Γ) (none :: Γ')
  | cons {ρ ρ' : Rep} {Γ Γ' : Gm} : Sub ρ ρ' → Wk Γ Γ' → Wk (some ρ :: Γ) (some ρ' :: Γ')
theorem Wk.len (w : Wk Γ Γ') : Γ.length = Γ'.length := by
  induction w with
  | nil => rfl
  | skip _ ih => simp [ih]
  | cons _ _ ih => simp [ih]
theorem Wk.get (w : Wk Γ Γ') : ∀ (i : Nat) (ρ' : Rep), Γ'[i]? = some (some ρ') → ∃ ρ, Γ[i]? = some (some ρ) ∧ Sub ρ ρ' := by
  induction w with
  | nil => intro i ρ h; simp at h
  | skip _ ih =>
    intro i ρ h
    cases i with
    | zero => simp at h
    | succ i => exact ih i ρ (by simpa using h)
  | @cons r r' _ _ s _ ih =>
    intro i ρ h
    cases i with
    | zero =>
      have e : r' = ρ := by simpa using h
      subst e
      exact ⟨r, by simp, s⟩
    | succ i => exact ih i ρ (by simpa using h)
theorem Wk.refl : ∀ Γ : Gm, Wk Γ Γ
  | [] => .nil
  | none :: Γ => .skip (Wk.refl Γ)
  | some _ :: Γ => .cons Sub.rfl (Wk.refl Γ)
theorem At.weak (a : At E Γ M σ G H) (w : Wk Γ Γ') : At E Γ' M σ G H :=
  ⟨w.len.symm.trans a.len, fun i ρ' h => let ⟨ρ, e, s⟩ := w.get i ρ' h; let ⟨v, e2, r⟩ := a.env i ρ e; ⟨v, e2, s _ _ r⟩, a.gh, a.own, a.gn, a.nd, a.g0, a.keep, a.nw, a.loc, a.there⟩
/-- the name in slot i is given a value -/
theorem At.set (a : At E Γ M σ G H) {i : Nat} {ρ : Rep} {v : V} (h : ρ.p v G) : At E (Γ.set i (some ρ)) M (σ.set i (some v)) G H :=
  ⟨by simp [a.len], fun j ρ' e => by
    by_cases hj : i = j
    · subst hj
      by_cases hl : i < Γ.length
      · rw [List.getElem?_set_self hl] at e
        have e : ρ = ρ' := by simpa using e
        subst e
        exact ⟨v, List.getElem?_set_self (by rw [← a.len]; exact hl), h⟩
      · rw [List.getElem?_eq_none (by simp; omega)] at e; cases e
    · rw [List.getElem?_set_ne hj] at e
      obtain ⟨w, e2, r⟩ := a.env j ρ' e
      exact ⟨w, by rw [List.getElem?_set_ne hj]; exact e2, r⟩, a.gh, a.own, a.gn, a.nd, a.g0, a.keep, a.nw, a.loc, a.there⟩
/-- an owned object is given up: it lasts from now on -/
inductive Rm : Ow → Addr → ORep → Ow → Prop
  | here {M : Ow} {p : Addr} {r : ORep} : Rm ((p, r) :: M) p r M
  | there {M M' : Ow} {p : Addr} {r : ORep} {q : Addr × ORep} : Rm M p r M' → Rm (q :: M) p r (q :: M')
theorem Rm.mem {p : Addr} {r : ORep} (f : Rm M p r M') : (p, r) ∈ M := by
  induction f with
  | here => exact List.mem_cons_self
  | there _ ih => exact List.mem_cons_of_mem _ ih
theorem Rm.sub {p : Addr} {r : ORep} (f : Rm M p r M') : ∀ q ∈ M', q ∈ M := by
  induction f with
  | here => exact fun q hq => List.mem_cons_of_mem _ hq
  | there _ ih =>
    intro q hq
    rcases List.mem_cons.mp hq with e | hq
    · subst e; exact List.mem_cons_self
    · exact List.mem_cons_of_mem _ (ih q hq)
theorem Rm.nd {p : Addr} {r : ORep} (f : Rm M p r M') (nd : (M.map (·.1)).Nodup) : (M'.map (·.1)).Nodup ∧ p ∉ M'.map (·.1) := by
  induction f with
  | here => rw [List.map_cons, List.nodup_cons] at nd; exact ⟨nd.2, nd.1⟩
  | @there M M' p r q f ih =>
    rw [List.map_cons, List.nodup_cons] at nd
    obtain ⟨h1, h2⟩ := ih nd.2
    refine ⟨by
      rw [List.map_cons, List.nodup_cons]
      refine ⟨fun hm => nd.1 ?_, h1⟩
      obtain ⟨z, hz, e⟩ := List.mem_map.mp hm
      exact List.mem_map.mpr ⟨z, f.sub z hz, e⟩, ?_⟩
    rw [List.map_cons, List.mem_cons]
    rintro (e | h)
    · exact nd.1 (List.mem_map.mpr ⟨_, f.mem, e⟩)
    · exact h2 h
theorem At.drop (a : At E Γ M σ G H) {p : Addr} {r : ORep} (f : Rm M p r M') : At E Γ M' σ G H :=
  ⟨a.len, a.env, a.gh, fun q hq => a.own q (f.sub q hq), fun q hq => a.gn q (f.sub q hq), (f.nd a.nd).1, a.g0, a.keep, a.nw, fun q hq => a.loc q (f.sub q hq), a.there⟩
theorem At.freeze (a : At E Γ M σ G H) {p : Addr} {r : ORep} (f : Rm M p r M') (hp : p ∉ E.M) : ∃ o, H p = some o ∧ r.p o G ∧ Same G (upd G p o) ∧ At E Γ M' σ (upd G p o) H := by
  obtain ⟨o, e, ro⟩ := a.own _ f.mem
  have gn := a.gn _ f.mem
  have sg : Same G (upd G p o) := same_upd gn
  have b := a.drop f
  refine ⟨o, e, ro, sg, b.len, fun i ρ h => ?_, fun c u h => ?_, fun q hq => ?_, fun q hq => ?_, b.nd, b.g0.trans sg, b.keep, fun c h1 h2 => ?_, b.loc, b.there⟩
  · obtain ⟨v, e1, r1⟩ := b.env i ρ h
    exact ⟨v, e1, ρ.mono _ _ _ sg r1⟩
  · by_cases z : c = p
    · subst z; rw [upd_same] at h; rw [← h]; exact e
    · rw [upd_ne z] at h; exact b.gh c u h
  · obtain ⟨u, e1, r1⟩ := b.own q hq
    exact ⟨u, e1, q.2.mono _ _ _ sg r1⟩
  · have : q.1 ≠ p := fun z => (f.nd a.nd).2 (List.mem_map.mpr ⟨q, hq, z⟩)
    rw [upd_ne this]; exact b.gn q hq
  · by_cases z : c = p
    · subst z
      rcases a.loc _ f.mem with q | q
      · exact absurd q hp
      · exact absurd q h1
    · rw [upd_ne z] at h2; exact b.nw c h1 h2
end

/-! ### the judgements -/
def WTE (E : En) (Γ : Gm) (M : Ow) (t : TE) (Φ : Rep → Ow → Prop) : Prop :=
  ∀ σ G H, At E Γ M σ G H → ∀ Q : VK, (∀ ρ M' v G' H', Φ ρ M' → Same G G' → At E Γ M' σ G' H' → ρ.p v G' → Q v H') → t σ H Q
def WTT (E : En) (Γ : Gm) (M : Ow) (t : TT) (Φ : Bool → Ow → Prop) : Prop :=
  ∀ σ G H, At E Γ M σ G H → ∀ Q : Bool → Hp → Prop, (∀ k M' G' H', Φ k M' → Same G G' → At E Γ M' σ G' H' → Q k H') → t σ H Q
def Reps : List Rep → List V → Hp → Prop
  | [], [], _ => True
  | ρ :: ρs, v :: vs, G => ρ.p v G ∧ Reps ρs vs G
  | _, _, _ => False
theorem Reps.mono {G G' : Hp} (s : Same G G') : ∀ {ρs : List Rep} {vs : List V}, Reps ρs vs G → Reps ρs vs G'
  | [], [], _ => trivial
  | _ :: _, _ :: _, h => ⟨Rep.mono _ _ _ _ s h.1, Reps.mono s h.2⟩
  | [], _ :: _, h => h.elim
  | _ :: _, [], h => h.elim
theorem Reps.length {G : Hp} : ∀ {ρs : List Rep} {vs : List V}, Reps ρs vs G → ρs.length = vs.length
  | [], [], _ => rfl
  | _ :: _, _ :: _, h => congrArg Nat.succ (Reps.length h.2)
  | [], _ :: _, h => h.elim
  | _ :: _, [], h => h.elim
theorem Reps.get {G : Hp} : ∀ {ρs : List Rep} {vs : List V} {i : Nat} {ρ : Rep}, Reps ρs vs G → ρs[i]? = some ρ → ∃ v, vs[i]? = some v ∧ ρ.p v G
  | [], [], i, ρ, _, e => by simp at e
  | r :: _, v :: _, 0, ρ, h, e => by
    have e : r = ρ := by simpa using e
    subst e
    exact ⟨v, by simp, h.1⟩
  | _ :: _, _ :: _, i + 1, ρ, h, e => by
    obtain ⟨v, e1, r⟩ := Reps.get (i := i) (ρ := ρ) h.2 (by simpa using e)
    exact ⟨v, by simpa using e1, r⟩
  | [], _ :: _, _, _, h, _ => h.elim
  | _ :: _, [], _, _, h, _ => h.elim
theorem Reps.get2 {G : Hp} {ρs : List Rep} {vs : List V} {i : Nat} {v : V} (h : Reps ρs vs G) (e : vs[i]? = some v) : ∃ ρ, ρs[i]? = some ρ ∧ ρ.p v G := by
  have hl := h.length
  have hi : i < vs.length := (List.getElem?_eq_some_iff.mp e).1
  obtain ⟨w, e1, r⟩ := h.get (i := i) (ρ := ρs[i]) (by simp [hl, hi])
  rw [e] at e1; cases e1
  exact ⟨_, by simp [hl, hi], r⟩
theorem Reps.app {G : Hp} : ∀ {ρs ρs' : List Rep} {vs vs' : List V}, Reps ρs vs G → Reps ρs' vs' G → Reps (ρs ++ ρs') (vs ++ vs') G
  | [], _, [], _, _, h' => h'
  | _ :: _, _, _ :: _, _, h, h' => ⟨h.1, Reps.app h.2 h'⟩
  | [], _, _ :: _, _, h, _ => h.elim
  | _ :: _, _, [], _, h, _ => h.elim
theorem Reps.set {G : Hp} {ρ : Rep} {v : V} (r : ρ.p v G) : ∀ {ρs : List Rep} {vs : List V} (i : Nat), Reps ρs vs G → Reps (ρs.set i ρ) (vs.set i v) G
  | [], [], _, _ => trivial
  | _ :: _, _ :: _, 0, h => ⟨r, h.2⟩
  | _ :: _, _ :: _, i + 1, h => ⟨h.1, Reps.set r i h.2⟩
  | [], _ :: _, _, h => h.elim
  | _ :: _, [], _, h => h.elim
inductive SubL : List Rep → List Rep → Prop
  | nil : SubL [] []
  | cons {ρ ρ' : Rep} {ρs ρs' : List Rep} : Sub ρ ρ' → SubL ρs ρs' → SubL (ρ :: ρs) (ρ' :: ρs')
theorem SubL.reps {ρs ρs' : List Rep} (s : SubL ρs ρs') : ∀ {vs : List V} {G : Hp}, Reps ρs vs G → Reps ρs' vs G := by
  induction s with
  | nil => intro vs G h; exact h
  | cons h1 _ ih =>
    intro vs G h
    cases vs with
    | nil => exact h.elim
    | cons v vs => exact ⟨h1 _ _ h.1, ih h.2⟩
theorem SubL.refl : ∀ ρs : List Rep, SubL ρs ρs
  | [] => .nil
  | _ :: ρs => .cons Sub.rfl (SubL.refl ρs)
def WTA (E : En) (Γ : Gm) (M : Ow) (t : TA) (Φ : List Rep → Ow → Prop) : Prop :=
  ∀ σ G H, At E Γ M σ G H → ∀ Q : List V → Hp → Prop, (∀ ρs M' vs G' H', Φ ρs M' → Same G G' → At E Γ M' σ G' H' → Reps ρs vs G' → Q vs H') → t σ H Q
/-- what is wanted behind a statement, of what is known -/
structure Ed where
  nx : Gm → Ow → Prop
  rt : Rep → Ow → Prop
  bk : Gm → Ow → Prop := fun _ _ => False
  ct : Gm → Ow → Prop := fun _ _ => False
structure Cov (E : En) (G : Hp) (Ψ : Ed) (D : Ends) : Prop where
  nx : ∀ Γ M, Ψ.nx Γ M → ∀ σ G' H, Same G G' → At E Γ M σ G' H → D.nx σ H
  rt : ∀ ρ M, Ψ.rt ρ M → ∀ v G' H, Same G G' → At E [] M [] G' H → ρ.p v G' → D.rt v H
  bk : ∀ Γ M, Ψ.bk Γ M → ∀ σ G' H, Same G G' → At E Γ M σ G' H → D.bk σ H
  ct : ∀ Γ M, Ψ.ct Γ M → ∀ σ G' H, Same G G' → At E Γ M σ G' H → D.ct σ H
theorem Cov.mono {E : En} {G G' : Hp} {Ψ : Ed} {D : Ends} (s : Same G G') (c : Cov E G Ψ D) : Cov E G' Ψ D :=
  ⟨fun Γ M h σ G2 H s2 => c.nx Γ M h σ G2 H (s.trans s2), fun ρ M h v G2 H s2 => c.rt ρ M h v G2 H (s.trans s2), fun Γ M h σ G2 H s2 => c.bk Γ M h σ G2 H (s.trans s2), fun Γ M h σ G2 H s2 => c.ct Γ M h σ G2 H (s.trans s2)⟩
theorem At.env0 {E : En} {Γ : Gm} {M : Ow} {σ : L2.St} {G H : Hp} (a : At E Γ M σ G H) : At E [] M [] G H :=
  ⟨rfl, fun i ρ h => by simp at h, a.gh, a.own, a.gn, a.nd, a.g0, a.keep, a.nw, a.loc, a.there⟩
def WTS (E : En) (Γ : Gm) (M : Ow) (t : TS) (Ψ : Ed) : Prop :=
  ∀ σ G H, At E Γ M σ G H → ∀ D : Ends, Cov E G Ψ D → t D σ H
def WTG (E : En) (Γ : Gm) (M : Ow) (t : TG) (ρ : Rep) (Φ : Gm → Ow → Prop) : Prop :=
  ∀ σ G H, At E Γ M σ G H → ∀ v, ρ.p v G → ∀ Q : L2.St → Hp → Prop, (∀ Γ' M' σ' G' H', Φ Γ' M' → Same G G' → At E Γ' M' σ' G' H' → Q σ' H') → t v σ H Q
def WTGs (E : En) (Γ : Gm) (M : Ow) (t : TGs) (ρs : List Rep) (Φ : Gm → Ow → Prop) : Prop :=
  ∀ σ G H, At E Γ M σ G H → ∀ vs, Reps ρs vs G → ∀ Q : L2.St → Hp → Prop, (∀ Γ' M' σ' G' H', Φ Γ' M' → Same G G' → At E Γ' M' σ' G' H' → Q σ' H') → t vs σ H Q

/-! ### of the grammar: each piece has its weakest reading -/
def tW (X : Cx) (e : Expr) : TE := fun σ H Q => ∀ (pins : List (Addr × Obj)) (s : Shared), L2.Inv X pins σ H s → wpAny (model X.prog X.w) X.A (eval e X.env) (EP X pins σ Q) X.xe s
theorem pe_w {X : Cx} {e : Expr} : PE X e (tW X e) := ⟨fun pins s σ H Q I h => h pins s I⟩
def tWT (X : Cx) (e : Expr) : TT := fun σ H Q => ∀ (pins : List (Addr × Obj)) (s : Shared), L2.Inv X pins σ H s → wpAny (model X.prog X.w) X.A (isTrue e X.env (eval e X.env)) (TP X pins σ Q) X.xe s
theorem pt_w {X : Cx} {e : Expr} : PT X e (tWT X e) := ⟨fun pins s σ H Q I h => h pins s I⟩
def tWP (X : Cx) (e : Expr) : TT := fun σ H Q => ∀ (whole : Sem Value) (pins : List (Addr × Obj)) (s : Shared), L2.Inv X pins σ H s → wpAny (model X.prog X.w) X.A (isTrue e X.env whole) (TP X pins σ Q) X.xe s
theorem pw_w {X : Cx} {e : Expr} : PW X e (tWP X e) := ⟨fun w pins s σ H Q I h => h w pins s I⟩
def tWA (X : Cx) (es : List Expr) : TA := fun σ H Q => ∀ (pos : Pos) (pins : List (Addr × Obj)) (s : Shared), L2.Inv X pins σ H s → wpAny (model X.prog X.w) X.A (spliced (backTo pos (starEach es X.env))) (AP X pins σ Q) X.xe s
theorem pa_w {X : Cx} {es : List Expr} : PA X es (tWA X es) := ⟨fun pos pins s σ H Q I h => h pos pins s I⟩
def tWK (X : Cx) (es : List Keyword) : TA := fun σ H Q => ∀ (pos : Pos) (pins : List (Addr × Obj)) (s : Shared), L2.Inv X pins σ H s → wpAny (model X.prog X.w) X.A (evalAll ((backToKw pos (keywordEach es X.env)).map (·.2))) (AP X pins σ Q) X.xe s
theorem pk_w {X : Cx} {es : List Keyword} : PK X es (tWK X es) := ⟨fun pos pins s σ H Q I h => h pos pins s I⟩
def tWS (X : Cx) (st : Stmt) : TS := fun D σ H => ∀ (pins : List (Addr × Obj)) (s : Shared), L2.Inv X pins σ H s → wpAny (model X.prog X.w) X.A (exec st X.env) (SP X pins D) X.xe s
theorem ps_w {X : Cx} {e : Stmt} : PS X e (tWS X e) := ⟨fun pins s σ H D I h => h pins s I⟩
def tWSs (X : Cx) (st : List Stmt) : TS := fun D σ H => ∀ (pins : List (Addr × Obj)) (s : Shared), L2.Inv X pins σ H s → wpAny (model X.prog X.w) X.A (execs st X.env) (SP X pins D) X.xe s
theorem pss_w {X : Cx} {e : List Stmt} : PSs X e (tWSs X e) := ⟨fun pins s σ H D I h => h pins s I⟩
def tWG (X : Cx) (tg : Expr) : TG := fun v σ H Q => ∀ (pins : List (Addr × Obj)) (s : Shared) (u : Value), L2.Inv X pins σ H s → RelV v u → wpAny (model X.prog X.w) X.A (assign tg X.env u) (fun _ s' => ∃ σ' H', L2.Inv X pins σ' H' s' ∧ Q σ' H') X.xe s
theorem pg_w {X : Cx} {tg : Expr} : PG X tg (tWG X tg) := ⟨fun pins s σ H v u Q I r h => h pins s u I r⟩
def tWGs (X : Cx) (ts : List Expr) : TGs := fun vs σ H Q => ∀ (pins : List (Addr × Obj)) (s : Shared) (us : List Value), L2.Inv X pins σ H s → Vals vs us → wpAny (model X.prog X.w) X.A (assignInOrder ((assignEach ts X.env).map (·.2)) us) (fun _ s' => ∃ σ' H', L2.Inv X pins σ' H' s' ∧ Q σ' H') X.xe s
theorem pgs_w {X : Cx} {ts : List Expr} : PGs X ts (tWGs X ts) := ⟨fun pins s σ H vs us Q I r h => h pins s us I r⟩

def WE (X : Cx) (E : En) (Γ : Gm) (M : Ow) (e : Expr) (Φ : Rep → Ow → Prop) : Prop := WTE E Γ M (tW X e) Φ
def WT (X : Cx) (E : En) (Γ : Gm) (M : Ow) (e : Expr) (Φ : Bool → Ow → Prop) : Prop := WTT E Γ M (tWT X e) Φ
def WP (X : Cx) (E : En) (Γ : Gm) (M : Ow) (e : Expr) (Φ : Bool → Ow → Prop) : Prop := WTT E Γ M (tWP X e) Φ
def WA (X : Cx) (E : En) (Γ : Gm) (M : Ow) (es : List Expr) (Φ : List Rep → Ow → Prop) : Prop := WTA E Γ M (tWA X es) Φ
def WK (X : Cx) (E : En) (Γ : Gm) (M : Ow) (es : List Keyword) (Φ : List Rep → Ow → Prop) : Prop := WTA E Γ M (tWK X es) Φ
def WS (X : Cx) (E : En) (Γ : Gm) (M : Ow) (st : Stmt) (Ψ : Ed) : Prop := WTS E Γ M (tWS X st) Ψ
def WSs (X : Cx) (E : En) (Γ : Gm) (M : Ow) (st : List Stmt) (Ψ : Ed) : Prop := WTS E Γ M (tWSs X st) Ψ
def WG (X : Cx) (E : En) (Γ : Gm) (M : Ow) (tg : Expr) (ρ : Rep) (Φ : Gm → Ow → Prop) : Prop := WTG E Γ M (tWG X tg) ρ Φ
def WGs (X : Cx) (E : En) (Γ : Gm) (M : Ow) (ts : List Expr) (ρs : List Rep) (Φ : Gm → Ow → Prop) : Prop := WTGs E Γ M (tWGs X ts) ρs Φ
section
variable {X : Cx} {E : En} {Γ : Gm} {M : Ow}
theorem we_of {e : Expr} {t : TE} {Φ : Rep → Ow → Prop} (hp : PE X e t) (h : WTE E Γ M t Φ) : WE X E Γ M e Φ := fun σ G H a Q k pins s I => hp.run pins s σ H Q I (h σ G H a Q k)
theorem wt_of {e : Expr} {t : TT} {Φ : Bool → Ow → Prop} (hp : PT X e t) (h : WTT E Γ M t Φ) : WT X E Γ M e Φ := fun σ G H a Q k pins s I => hp.run pins s σ H Q I (h σ G H a Q k)
theorem wp_of {e : Expr} {t : TT} {Φ : Bool → Ow → Prop} (hp : PW X e t) (h : WTT E Γ M t Φ) : WP X E Γ M e Φ := fun σ G H a Q k w pins s I => hp.run w pins s σ H Q I (h σ G H a Q k)
theorem wa_of {e : List Expr} {t : TA} {Φ : List Rep → Ow → Prop} (hp : PA X e t) (h : WTA E Γ M t Φ) : WA X E Γ M e Φ := fun σ G H a Q k pos pins s I => hp.run pos pins s σ H Q I (h σ G H a Q k)
theorem wk_of {e : List Keyword} {t : TA} {Φ : List Rep → Ow → Prop} (hp : PK X e t) (h : WTA E Γ M t Φ) : WK X E Γ M e Φ := fun σ G H a Q k pos pins s I => hp.run pos pins s σ H Q I (h σ G H a Q k)
theorem ws_of {e : Stmt} {t : TS} {Ψ : Ed} (hp : PS X e t) (h : WTS E Γ M t Ψ) : WS X E Γ M e Ψ := fun σ G H a D k pins s I => hp.run pins s σ H D I (h σ G H a D k)
theorem wss_of {e : List Stmt} {t : TS} {Ψ : Ed} (hp : PSs X e t) (h : WTS E Γ M t Ψ) : WSs X E Γ M e Ψ := fun σ G H a D k pins s I => hp.run pins s σ H D I (h σ G H a D k)
theorem wg_of {e : Expr} {t : TG} {ρ : Rep} {Φ : Gm → Ow → Prop} (hp : PG X e t) (h : WTG E Γ M t ρ Φ) : WG X E Γ M e ρ Φ := fun σ G H a v r Q k pins s u I rv => hp.run pins s σ H v u Q I rv (h σ G H a v r Q k)
theorem wgs_of {e : List Expr} {t : TGs} {ρs : List Rep} {Φ : Gm → Ow → Prop} (hp : PGs X e t) (h : WTGs E Γ M t ρs Φ) : WGs X E Γ M e ρs Φ := fun σ G H a v r Q k pins s u I rv => hp.run pins s σ H v u Q I rv (h σ G H a v r Q k)
end
end MM

namespace MM
open PySem L2
/-! ### representations of plain values -/
def RI (i : Int) : Rep := ⟨fun v _ => v = .int i, fun _ _ _ _ h => h⟩
def RB (b : Bool) : Rep := ⟨fun v _ => v = .bl b, fun _ _ _ _ h => h⟩
def RS (s : Str) : Rep := ⟨fun v _ => v = .str s, fun _ _ _ _ h => h⟩
def RN : Rep := ⟨fun v _ => v = .non, fun _ _ _ _ h => h⟩
def RV (w : V) : Rep := ⟨fun v _ => v = w, fun _ _ _ _ h => h⟩
def RRef (p : Addr) : Rep := ⟨fun v _ => v = .ref p, fun _ _ _ _ h => h⟩
/-- an int or None -/
def RO (o : Option Int) : Rep := match o with
  | none => RN
  | some i => RI i
theorem same_seqT {K : PySem.W.Frag} {H H' : Hp} {a : Addr} {xs : List V} (e : Same H H') (h : SqT K H a xs) : SqT K H' a xs := by
  rcases h with (h | ⟨o, h⟩) | h
  · exact .inl (.inl (e _ _ h))
  · exact .inl (.inr ⟨o, e _ _ h⟩)
  · exact .inr h
/-- a list that stays as it is; a tuple -/
def RL (K : PySem.W.Frag) (ρs : List Rep) : Rep := ⟨fun v G => ∃ a vs, v = .ref a ∧ SqL K G a vs ∧ Reps ρs vs G, fun v G G' s ⟨a, vs, e, h, r⟩ => ⟨a, vs, e, Same.seq s h, r.mono s⟩⟩
def RT (K : PySem.W.Frag) (ρs : List Rep) : Rep := ⟨fun v G => ∃ a vs, v = .ref a ∧ SqT K G a vs ∧ Reps ρs vs G, fun v G G' s ⟨a, vs, e, h, r⟩ => ⟨a, vs, e, same_seqT s h, r.mono s⟩⟩
/-- .. that stands in the lasting part -/
def RLt (ρs : List Rep) : Rep := ⟨fun v G => ∃ a vs, v = .ref a ∧ G a = some (.lst vs) ∧ Reps ρs vs G, fun v G G' s ⟨a, vs, e, h, r⟩ => ⟨a, vs, e, s _ _ h, r.mono s⟩⟩
theorem sub_lt {K : PySem.W.Frag} {ρs : List Rep} : Sub (RLt ρs) (RL K ρs) := fun v G ⟨a, vs, e, h, r⟩ => ⟨a, vs, e, .inl (.inl h), r⟩
def RTt (ρs : List Rep) : Rep := ⟨fun v G => ∃ a vs, v = .ref a ∧ G a = some (.tup vs) ∧ Reps ρs vs G, fun v G G' s ⟨a, vs, e, h, r⟩ => ⟨a, vs, e, s _ _ h, r.mono s⟩⟩
theorem sub_tt {K : PySem.W.Frag} {ρs : List Rep} : Sub (RTt ρs) (RT K ρs) := fun v G ⟨a, vs, e, h, r⟩ => ⟨a, vs, e, .inl (.inl h), r⟩
/-- an owned list -/
def OL (ρs : List Rep) : ORep := ⟨fun o G => ∃ vs, o = .lst vs ∧ Reps ρs vs G, fun o G G' s ⟨vs, e, r⟩ => ⟨vs, e, r.mono s⟩⟩
/-- attributes -/
def FRep : List (Str × Rep) → List (Str × V) → Hp → Prop
  | [], [], _ => True
  | (f, ρ) :: l, (g, v) :: m, G => f = g ∧ ρ.p v G ∧ FRep l m G
  | _, _, _ => False
theorem FRep.mono {G G' : Hp} (s : Same G G') : ∀ {l : List (Str × Rep)} {m : List (Str × V)}, FRep l m G → FRep l m G'
  | [], [], _ => trivial
  | (_, ρ) :: _, (_, _) :: _, h => ⟨h.1, ρ.mono _ _ _ s h.2.1, FRep.mono s h.2.2⟩
  | [], _ :: _, h => h.elim
  | _ :: _, [], h => h.elim
theorem FRep.len {G : Hp} : ∀ {l : List (Str × Rep)} {m : List (Str × V)}, FRep l m G → l.length = m.length
  | [], [], _ => rfl
  | (_, _) :: _, (_, _) :: _, h => congrArg Nat.succ (FRep.len h.2.2)
  | [], _ :: _, h => h.elim
  | _ :: _, [], h => h.elim
theorem FRep.look {G : Hp} {f : Str} {ρ : Rep} : ∀ {l : List (Str × Rep)} {m : List (Str × V)}, FRep l m G → l.lookup f = some ρ → ∃ v, m.lookup f = some v ∧ ρ.p v G
  | [], [], _, e => by simp at e
  | (g, r) :: l, (g', v) :: m, h, e => by
    obtain ⟨h1, h2, h3⟩ := h
    subst h1
    rw [List.lookup_cons] at e ⊢
    cases q : f == g with
    | true =>
      rw [q] at e
      have e : r = ρ := by simpa using e
      subst e
      exact ⟨v, rfl, h2⟩
    | false =>
      rw [q] at e
      exact FRep.look (l := l) (m := m) h3 e
  | [], _ :: _, h, _ => h.elim
  | _ :: _, [], h, _ => h.elim
theorem FRep.miss {G : Hp} {f : Str} : ∀ {l : List (Str × Rep)} {m : List (Str × V)}, FRep l m G → l.lookup f = none → m.lookup f = none
  | [], [], _, _ => rfl
  | (g, r) :: l, (g', v) :: m, h, e => by
    obtain ⟨h1, h2, h3⟩ := h
    subst h1
    rw [List.lookup_cons] at e ⊢
    cases q : f == g with
    | true => rw [q] at e; simp at e
    | false => rw [q] at e; exact FRep.miss (l := l) (m := m) h3 e
  | [], _ :: _, h, _ => h.elim
  | _ :: _, [], h, _ => h.elim
def putR (f : Str) (ρ : Rep) : List (Str × Rep) → List (Str × Rep)
  | [] => [(f, ρ)]
  | (g, r) :: l => if g = f then (g, ρ) :: l else (g, r) :: putR f ρ l
theorem putF_cons (f g : Str) (v w : V) (l : List (Str × V)) : putF f v ((g, w) :: l) = if g = f then (g, v) :: l else (g, w) :: putF f v l := rfl
theorem FRep.put {G : Hp} {f : Str} {ρ : Rep} {v : V} (r : ρ.p v G) : ∀ {l : List (Str × Rep)} {m : List (Str × V)}, FRep l m G → FRep (putR f ρ l) (putF f v m) G
  | [], [], _ => ⟨rfl, r, trivial⟩
  | (g, r0) :: l, (g', w) :: m, h => by
    obtain ⟨h1, h2, h3⟩ := h
    subst h1
    rw [putF_cons]
    unfold putR
    by_cases q : g = f
    · rw [if_pos q, if_pos q]; exact ⟨rfl, r, h3⟩
    · rw [if_neg q, if_neg q]; exact ⟨rfl, h2, FRep.put r h3⟩
  | [], _ :: _, h => h.elim
  | _ :: _, [], h => h.elim
/-- an instance that stays as it is; an owned one -/
def RIns (C : Addr) (l : List (Str × Rep)) : Rep := ⟨fun v G => ∃ a dx fs, v = .ref a ∧ G a = some (.ins C dx fs) ∧ FRep l fs G, fun v G G' s ⟨a, dx, fs, e, h, r⟩ => ⟨a, dx, fs, e, s _ _ h, r.mono s⟩⟩
def OIns (C : Addr) (l : List (Str × Rep)) : ORep := ⟨fun o G => ∃ dx fs, o = .ins C dx fs ∧ FRep l fs G, fun o G G' s ⟨dx, fs, e, r⟩ => ⟨dx, fs, e, r.mono s⟩⟩

/-! ### names -/
structure Rd1 (X : Cx) (i : Nat) (x : Str) : Prop where
  at_ : X.N[i]? = some x
  vis : Vis X.env.scope x
  hd : (x == ("__debug__" : Str)) = false
  hcd : (x == ("__classdict__" : Str)) = false
structure Wr1 (X : Cx) (i : Nat) (x : Str) : Prop where
  nd : X.N.Nodup
  at_ : X.N[i]? = some x
  loc : Loc X.env.scope x
  fn : X.fn x = true ∨ X.env.scope.names.lookup x = some .local
section
variable {X : Cx} {E : En} {Γ : Gm} {M : Ow} {a b e : Expr} {pos : Pos} {Φ : Rep → Ow → Prop}
theorem wte_var {i : Nat} {ρ : Rep} (h : Γ[i]? = some (some ρ)) (k : Φ ρ M) : WTE E Γ M (tVar i) Φ := fun σ G H a Q q =>
  let ⟨v, e, r⟩ := a.env i ρ h; ⟨v, e, q ρ M v G H k (Same.refl _) a r⟩
theorem wte_c {v : V} {ρ : Rep} (h : ∀ G, ρ.p v G) (k : Φ ρ M) : WTE E Γ M (tC v) Φ := fun σ G H a Q q => q ρ M v G H k (Same.refl _) a (h G)
theorem we_var (i : Nat) {x : Str} {ρ : Rep} (r : Rd1 X i x) (h : Γ[i]? = some (some ρ)) (k : Φ ρ M) : WE X E Γ M (.Name x pos) Φ := we_of (pe_var r.at_ r.vis r.hd r.hcd) (wte_var h k)
theorem we_int {i : Int} {j} (k : Φ (RI i) M) : WE X E Γ M (.Constant (.int i) j pos) Φ := we_of pe_int (wte_c (fun _ => rfl) k)
theorem we_bl {i : Bool} {j} (k : Φ (RB i) M) : WE X E Γ M (.Constant (.bool i) j pos) Φ := we_of pe_bl (wte_c (fun _ => rfl) k)
theorem we_str {i : Str} {j} (k : Φ (RS i) M) : WE X E Γ M (.Constant (.str i) j pos) Φ := we_of pe_str (wte_c (fun _ => rfl) k)
theorem we_non {j} (k : Φ RN M) : WE X E Γ M (.Constant .none j pos) Φ := we_of pe_non (wte_c (fun _ => rfl) k)
/-- a value of the module's -/
theorem we_glob {x : Str} {v : V} {u : Value} (hg : Gl X x) (hm : X.mg x = some u) (r : RelV v u) {ρ : Rep} (h : ∀ G, ρ.p v G) (k : Φ ρ M) (hd : (x == ("__debug__" : Str)) = false := by decide) : WE X E Γ M (.Name x pos) Φ := we_of (pe_glob hg hm r hd) (wte_c h k)

/-! ### operators -/
def OpW (E : En) (Γ : Gm) (M : Ow) (r : R2) (ρa ρb : Rep) (Φ : Rep → Ow → Prop) : Prop :=
  ∀ σ G H, At E Γ M σ G H → ∀ x y, ρa.p x G → ρb.p y G → ∀ Q : VK, (∀ ρ M' v G' H', Φ ρ M' → Same G G' → At E Γ M' σ G' H' → ρ.p v G' → Q v H') → r x y H Q
/-- a pure operation -/
def OpV (r : R2) (ρa ρb ρ : Rep) : Prop := ∀ x y G H, Same G H → ρa.p x G → ρb.p y G → ∀ Q : VK, (∀ v G' H', New G H G' H' → ρ.p v G' → Q v H') → r x y H Q
theorem opw_of {r : R2} {ρa ρb ρ : Rep} (h : OpV r ρa ρb ρ) (k : Φ ρ M) : OpW E Γ M r ρa ρb Φ := fun σ G H a x y hx hy Q q =>
  h x y G H a.gh hx hy Q fun v G' H' n hr => q ρ M v G' H' k n.gg (a.new n) hr
theorem wte_op {r : R2} {ta tb : TE} (h : WTE E Γ M ta fun ρa Ma => WTE E Γ Ma tb fun ρb Mb => OpW E Γ Mb r ρa ρb Φ) : WTE E Γ M (tOp r ta tb) Φ := fun σ G H a Q k =>
  h σ G H a _ fun ρa Ma x G1 H1 h1 s1 a1 r1 => h1 σ G1 H1 a1 _ fun ρb Mb y G2 H2 h2 s2 a2 r2 =>
    h2 σ G2 H2 a2 x y (ρa.mono _ _ _ s2 r1) r2 Q fun ρ M' v G' H' k' s3 => k ρ M' v G' H' k' ((s1.trans s2).trans s3)
theorem we_bin {op : Operator} {r : R2} (ho : OpR X (binaryOp op) r) (h : WE X E Γ M a fun ρa Ma => WE X E Γ Ma b fun ρb Mb => OpW E Γ Mb r ρa ρb Φ) : WE X E Γ M (.BinOp a op b pos) Φ :=
  we_of (pe_op ho pe_w pe_w) (wte_op h)
theorem we_cmp {op : CmpOp} {r : R2} (ho : OpR X (compareOp op) r) (hm : behindInMarks op b = false) (h : WE X E Γ M a fun ρa Ma => WE X E Γ Ma b fun ρb Mb => OpW E Γ Mb r ρa ρb Φ) : WE X E Γ M (.Compare a [op] [b] pos) Φ :=
  we_of (pe_cmpR ho pe_w pe_w hm) (wte_op h)
theorem wtt_test {t : TE} {Φ : Bool → Ow → Prop} (h : WTE E Γ M t fun ρ M' => ∃ k, Sub ρ (RB k) ∧ Φ k M') : WTT E Γ M (tTest t) Φ := fun σ G H a Q q =>
  h σ G H a _ fun ρ M' v G' H' ⟨k, s, hk⟩ s1 a1 r => ⟨k, s _ _ r, q k M' G' H' hk s1 a1⟩
theorem wt_cmp {op : CmpOp} {r : R2} {Φ : Bool → Ow → Prop} (ho : OpR X (compareOp op) r) (hm : behindInMarks op b = false)
    (h : WE X E Γ M a fun ρa Ma => WE X E Γ Ma b fun ρb Mb => OpW E Γ Mb r ρa ρb fun ρ M' => ∃ k, Sub ρ (RB k) ∧ Φ k M') : WT X E Γ M (.Compare a [op] [b] pos) Φ :=
  wt_of (pt_cmpR ho pe_w pe_w hm) (wtt_test (wte_op h))
/-- an expression that gives a bool -/
theorem wt_val {Φ : Bool → Ow → Prop} (h : WE X E Γ M e fun ρ M' => ∃ k, Sub ρ (RB k) ∧ Φ k M') (he : ∀ whole, isTrue e X.env whole = (do let v ← whole; standAt e.pos; holding [v] (truthy v)) := by intro _; rfl) : WT X E Γ M e Φ :=
  wt_of (pt_val pe_w he) (wtt_test h)
/-- an expression by its truth -/
theorem wt_truth {Φ : Bool → Ow → Prop} (h : WE X E Γ M e fun ρ M' => ∃ k, (∀ v G, ρ.p v G → TruV X.K v G k) ∧ (∀ v G H, Same G H → TruV X.K v G k → TruV X.K v H k) ∧ Φ k M') (he : ∀ whole, isTrue e X.env whole = (do let v ← whole; standAt e.pos; holding [v] (truthy v)) := by intro _; rfl) : WT X E Γ M e Φ :=
  wt_of (pt_truth pe_w he) (fun σ G H a Q q => h σ G H a _ fun ρ M' v G' H' ⟨k, s, s', hk⟩ s1 a1 r => ⟨k, s' _ _ _ a1.gh (s _ _ r), q k M' G' H' hk s1 a1⟩)
theorem wt_not {Φ : Bool → Ow → Prop} (h : WT X E Γ M a fun k M' => Φ (!k) M') : WT X E Γ M (.UnaryOp .Not a pos) Φ :=
  wt_of (pt_not pt_w) (fun σ G H at' Q q => h σ G H at' _ fun k M' G' H' hk s1 a1 => q (!k) M' G' H' hk s1 a1)
theorem wt_bool {Φ : Bool → Ow → Prop} (h : WP X E Γ M e Φ) : WT X E Γ M e Φ := wt_of (PW.pt pw_w) h
theorem wp_and1 {Φ : Bool → Ow → Prop} (h : WT X E Γ M a Φ) : WP X E Γ M (.BoolOp .And [a] pos) Φ := wp_of (pw_and1 pt_w) h
theorem wp_or1 {Φ : Bool → Ow → Prop} (h : WT X E Γ M a Φ) : WP X E Γ M (.BoolOp .Or [a] pos) Φ := wp_of (pw_or1 pt_w) h
theorem wp_and {rest : List Expr} {Φ : Bool → Ow → Prop} (h : WT X E Γ M a fun k M' => (k = true → WP X E Γ M' (.BoolOp .And (b :: rest) pos) Φ) ∧ (k = false → Φ false M')) : WP X E Γ M (.BoolOp .And (a :: b :: rest) pos) Φ :=
  wp_of (pw_and pt_w pw_w) (fun σ G H at' Q q => h σ G H at' _ fun k M' G' H' hk s1 a1 => by
    cases k with
    | true =>
      show tWP X _ σ H' Q
      exact hk.1 rfl σ G' H' a1 Q fun k2 M2 G2 H2 h2 s2 => q k2 M2 G2 H2 h2 (s1.trans s2)
    | false =>
      show Q false H'
      exact q false M' G' H' (hk.2 rfl) s1 a1)
theorem wp_or {rest : List Expr} {Φ : Bool → Ow → Prop} (h : WT X E Γ M a fun k M' => (k = false → WP X E Γ M' (.BoolOp .Or (b :: rest) pos) Φ) ∧ (k = true → Φ true M')) : WP X E Γ M (.BoolOp .Or (a :: b :: rest) pos) Φ :=
  wp_of (pw_or pt_w pw_w) (fun σ G H at' Q q => h σ G H at' _ fun k M' G' H' hk s1 a1 => by
    cases k with
    | false =>
      show tWP X _ σ H' Q
      exact hk.1 rfl σ G' H' a1 Q fun k2 M2 G2 H2 h2 s2 => q k2 M2 G2 H2 h2 (s1.trans s2)
    | true =>
      show Q true H'
      exact q true M' G' H' (hk.2 rfl) s1 a1)
/-- .. as values: all but the last are bools -/
theorem we_and1 {op} (h : WE X E Γ M a Φ) : WE X E Γ M (.BoolOp op [a] pos) Φ := we_of (pe_one pe_w) h
theorem we_and {rest : List Expr} (h : WE X E Γ M a fun ρ M' => ∃ k, Sub ρ (RB k) ∧ (k = true → WE X E Γ M' (.BoolOp .And (b :: rest) pos) Φ) ∧ (k = false → Φ (RB false) M')) : WE X E Γ M (.BoolOp .And (a :: b :: rest) pos) Φ :=
  we_of (pe_and pe_w pe_w) (fun σ G H at' Q q => h σ G H at' _ fun ρ M' v G' H' ⟨k, sb, hk1, hk2⟩ s1 a1 r => ⟨k, sb _ _ r, by
    cases k with
    | true =>
      show tW X _ σ H' Q
      exact hk1 rfl σ G' H' a1 Q fun k2 M2 v2 G2 H2 h2 s2 => q k2 M2 v2 G2 H2 h2 (s1.trans s2)
    | false =>
      show Q (.bl false) H'
      exact q (RB false) M' _ G' H' (hk2 rfl) s1 a1 rfl⟩)
theorem we_or {rest : List Expr} (h : WE X E Γ M a fun ρ M' => ∃ k, Sub ρ (RB k) ∧ (k = false → WE X E Γ M' (.BoolOp .Or (b :: rest) pos) Φ) ∧ (k = true → Φ (RB true) M')) : WE X E Γ M (.BoolOp .Or (a :: b :: rest) pos) Φ :=
  we_of (pe_or pe_w pe_w) (fun σ G H at' Q q => h σ G H at' _ fun ρ M' v G' H' ⟨k, sb, hk1, hk2⟩ s1 a1 r => ⟨k, sb _ _ r, by
    cases k with
    | false =>
      show tW X _ σ H' Q
      exact hk1 rfl σ G' H' a1 Q fun k2 M2 v2 G2 H2 h2 s2 => q k2 M2 v2 G2 H2 h2 (s1.trans s2)
    | true =>
      show Q (.bl true) H'
      exact q (RB true) M' _ G' H' (hk2 rfl) s1 a1 rfl⟩)
theorem we_not (h : WE X E Γ M a fun ρ M' => ∃ k, Sub ρ (RB k) ∧ Φ (RB (!k)) M') : WE X E Γ M (.UnaryOp .Not a pos) Φ :=
  we_of (pe_not pe_w) (fun σ G H at' Q q => h σ G H at' _ fun ρ M' v G' H' ⟨k, sb, hk⟩ s1 a1 r => ⟨k, sb _ _ r, q _ M' _ G' H' hk s1 a1 rfl⟩)
theorem we_ifExp {c : Expr} (h : WT X E Γ M c fun k M' => (k = true → WE X E Γ M' a Φ) ∧ (k = false → WE X E Γ M' b Φ)) : WE X E Γ M (.IfExp c a b pos) Φ :=
  we_of (pe_ifExp pt_w pe_w pe_w) (fun σ G H at' Q q => h σ G H at' _ fun k M' G' H' hk s1 a1 => by
    cases k with
    | true =>
      show tW X _ σ H' Q
      exact hk.1 rfl σ G' H' a1 Q fun k2 M2 v2 G2 H2 h2 s2 => q k2 M2 v2 G2 H2 h2 (s1.trans s2)
    | false =>
      show tW X _ σ H' Q
      exact hk.2 rfl σ G' H' a1 Q fun k2 M2 v2 G2 H2 h2 s2 => q k2 M2 v2 G2 H2 h2 (s1.trans s2))
theorem we_un {op : UnaryOp} {r : V → Hp → VK → Prop} (ho : UnR X (unaryOp op) r) (h : WE X E Γ M a fun ρa Ma => ∃ ρ, (∀ x G H, ρa.p x G → ∀ Q : VK, (∀ v, ρ.p v G → Q v H) → r x H Q) ∧ Φ ρ Ma) : WE X E Γ M (.UnaryOp op a pos) Φ :=
  we_of (pe_un ho pe_w) (fun σ G H at' Q q => h σ G H at' _ fun ρa Ma x G1 H1 ⟨ρ, ho, hk⟩ s1 a1 r1 => ho x G1 H1 r1 Q fun v r2 => q ρ Ma v G1 H1 hk s1 a1 r2)

/-! ### argument lists, displays -/
theorem wa_nil {Φ : List Rep → Ow → Prop} (k : Φ [] M) : WA X E Γ M [] Φ := wa_of pa_nil fun σ G H a Q q => q [] M [] G H k (Same.refl _) a trivial
theorem wa_cons {es : List Expr} {Φ : List Rep → Ow → Prop} (h : WE X E Γ M e fun ρ M1 => WA X E Γ M1 es fun ρs M2 => Φ (ρ :: ρs) M2) (hs : starEach (e :: es) X.env = (false, eval e X.env) :: starEach es X.env := by rfl) : WA X E Γ M (e :: es) Φ :=
  wa_of (pa_cons pe_w pa_w hs) fun σ G H a Q q => h σ G H a _ fun ρ M1 x G1 H1 h1 s1 a1 r1 => h1 σ G1 H1 a1 _ fun ρs M2 xs G2 H2 h2 s2 a2 r2 =>
    q (ρ :: ρs) M2 (x :: xs) G2 H2 h2 (s1.trans s2) a2 ⟨ρ.mono _ _ _ s2 r1, r2⟩
theorem wk_nil {Φ : List Rep → Ow → Prop} (k : Φ [] M) : WK X E Γ M [] Φ := wk_of pk_nil fun σ G H a Q q => q [] M [] G H k (Same.refl _) a trivial
theorem wk_cons {nm : Option Str} {kpos : Pos} {es : List Keyword} {Φ : List Rep → Ow → Prop} (h : WE X E Γ M e fun ρ M1 => WK X E Γ M1 es fun ρs M2 => Φ (ρ :: ρs) M2) : WK X E Γ M (⟨nm, e, kpos⟩ :: es) Φ :=
  wk_of (pk_cons pe_w pk_w) fun σ G H a Q q => h σ G H a _ fun ρ M1 x G1 H1 h1 s1 a1 r1 => h1 σ G1 H1 a1 _ fun ρs M2 xs G2 H2 h2 s2 a2 r2 =>
    q (ρ :: ρs) M2 (x :: xs) G2 H2 h2 (s1.trans s2) a2 ⟨ρ.mono _ _ _ s2 r1, r2⟩
theorem szOf {n : Nat} (h : n ≤ 100000) : n ≤ sizeLine := Nat.le_trans h (by decide)
theorem we_tup {es : List Expr} {x1} (h : WA X E Γ M es fun ρs M' => ρs.length ≤ 100000 ∧ Φ (RTt ρs) M') : WE X E Γ M (.Tuple es x1 pos) Φ :=
  we_of (pe_tup pa_w) fun σ G H a Q q => h σ G H a _ fun ρs M' vs G1 H1 ⟨hl, hk⟩ s1 a1 r1 => ⟨by rw [← r1.length]; exact szOf hl, fun p hp =>
    let n : New G1 H1 (upd G1 p (.tup vs)) (upd H1 p (.tup vs)) := New.put a1.gh hp
    q _ M' _ _ _ hk (s1.trans n.gg) (a1.new n) ⟨p, vs, rfl, upd_same, r1.mono n.gg⟩⟩
/-- a list, to stay as it is -/
theorem we_lst {es : List Expr} (h : WA X E Γ M es fun ρs M' => ρs.length ≤ 100000 ∧ Φ (RLt ρs) M') : WE X E Γ M (.List es pos) Φ :=
  we_of (pe_lst pa_w) fun σ G H a Q q => h σ G H a _ fun ρs M' vs G1 H1 ⟨hl, hk⟩ s1 a1 r1 => ⟨by rw [← r1.length]; exact szOf hl, fun p hp =>
    let n : New G1 H1 (upd G1 p (.lst vs)) (upd H1 p (.lst vs)) := New.put a1.gh hp
    q _ M' _ _ _ hk (s1.trans n.gg) (a1.new n) ⟨p, vs, rfl, upd_same, r1.mono n.gg⟩⟩
/-- a list, owned -/
theorem we_lstO {es : List Expr} (h : WA X E Γ M es fun ρs M' => ρs.length ≤ 100000 ∧ ∀ p, p ∉ M'.map (·.1) → p ∉ E.M → Φ (RRef p) ((p, OL ρs) :: M')) (hE : ∀ a ∈ E.M, E.H a ≠ none) : WE X E Γ M (.List es pos) Φ :=
  we_of (pe_lst pa_w) fun σ G H a Q q => h σ G H a _ fun ρs M' vs G1 H1 ⟨hl, hk⟩ s1 a1 r1 => ⟨by rw [← r1.length]; exact szOf hl, fun p hp =>
    q _ _ _ _ _ (hk p (a1.freshM hp) fun z => hE p z (a1.fresh hp)) s1 (a1.own1 hp ⟨vs, rfl, r1⟩) rfl⟩

/-! ### subscripts -/
theorem we_ix {r : R2} (hr : IxR X r) (h : WE X E Γ M a fun ρa Ma => WE X E Γ Ma b fun ρb Mb => OpW E Γ Mb r ρa ρb Φ) (hs : PlainIx b := by exact fun _ _ => rfl) : WE X E Γ M (.Subscript a b pos) Φ :=
  we_of (pe_ix hr pe_w pe_w hs) (wte_op h)
/-! ### attributes -/
/-- what a field of a thing is -/
def HasF (K : PySem.W.Frag) (ρ : Rep) (f : Str) (ρf : Rep) : Prop := ∀ v G, ρ.p v G → ∃ a C dx fs w, v = .ref a ∧ G a = some (.ins C dx fs) ∧ Cls K C ∧ NoAttr K C f ∧ fs.lookup f = some w ∧ ρf.p w G
theorem hasF_ins {K : PySem.W.Frag} {C : Addr} {l : List (Str × Rep)} {f : Str} {ρ : Rep} (c : Cls K C) (n : NoAttr K C f) (h : l.lookup f = some ρ) : HasF K (RIns C l) f ρ := fun v G ⟨a, dx, fs, e, hG, r⟩ =>
  let ⟨w, e2, r2⟩ := r.look h; ⟨a, C, dx, fs, w, e, hG, c, n, e2, r2⟩
theorem HasF.sub {K : PySem.W.Frag} {ρ ρ' ρf : Rep} {f : Str} (s : Sub ρ ρ') (h : HasF K ρ' f ρf) : HasF K ρ f ρf := fun v G r => h v G (s v G r)
theorem we_fld {f : Str} (h : WE X E Γ M a fun ρ M' => ∃ ρf, HasF X.K ρ f ρf ∧ Φ ρf M') (hb : attributeBase a f X.env (eval a X.env) = eval a X.env := by rfl) : WE X E Γ M (.Attribute a f pos) Φ :=
  we_of (pe_fld pe_w hb) fun σ G H at' Q q => h σ G H at' _ fun ρ M' v G1 H1 ⟨ρf, hf, hk⟩ s1 a1 r1 =>
    let ⟨b, C, dx, fs, w, e1, e2, c, n, e3, r2⟩ := hf v G1 r1
    ⟨b, C, dx, fs, w, e1, a1.gh _ _ e2, c, n, e3, q ρf M' w G1 H1 hk s1 a1 r2⟩
/-- of an owned object -/
theorem we_fldO {f : Str} (h : WE X E Γ M a fun ρ M' => ∃ p C l ρf u, Sub ρ (RRef p) ∧ Fnd M' p (OIns C l) u ∧ Cls X.K C ∧ NoAttr X.K C f ∧ l.lookup f = some ρf ∧ Φ ρf M') (hb : attributeBase a f X.env (eval a X.env) = eval a X.env := by rfl) : WE X E Γ M (.Attribute a f pos) Φ :=
  we_of (pe_fld pe_w hb) fun σ G H at' Q q => h σ G H at' _ fun ρ M' v G1 H1 ⟨p, C, l, ρf, u, sb, fd, c, n, e3, hk⟩ s1 a1 r1 => by
    obtain ⟨o, e1, dx, fs, e2, r2⟩ := a1.own _ fd.mem
    subst e2
    obtain ⟨w, e4, r4⟩ := r2.look e3
    exact ⟨p, C, dx, fs, w, sb _ _ r1, e1, c, n, e4, q ρf M' w G1 H1 hk s1 a1 r4⟩
/-! ### statements -/
variable {Ψ : Ed} {st : Stmt} {rest : List Stmt}
theorem wss_nil (h : Ψ.nx Γ M) : WSs X E Γ M [] Ψ := wss_of pss_nil fun σ G H a D k => k.nx Γ M h σ G H (Same.refl _) a
theorem wts_seq {t u : TS} (h : WTS E Γ M t { Ψ with nx := fun Γ' M' => WTS E Γ' M' u Ψ }) : WTS E Γ M (tSeq t u) Ψ := fun σ G H a D k =>
  h σ G H a _ ⟨fun Γ' M' h' σ' G' H' s' a' => h' σ' G' H' a' D (k.mono s'), k.rt, k.bk, k.ct⟩
theorem wss_cons (h : WS X E Γ M st { Ψ with nx := fun Γ' M' => WSs X E Γ' M' rest Ψ }) : WSs X E Γ M (st :: rest) Ψ := wss_of (pss_cons ps_w pss_w) (wts_seq h)
theorem wss_one (h : WS X E Γ M st Ψ) : WSs X E Γ M [st] Ψ := wss_of (pss_one ps_w) h
theorem ws_pass (h : Ψ.nx Γ M) : WS X E Γ M (.Pass pos) Ψ := ws_of ps_pass fun σ G H a D k => k.nx Γ M h σ G H (Same.refl _) a
theorem ws_brk (h : Ψ.bk Γ M) : WS X E Γ M (.Break pos) Ψ := ws_of ps_break fun σ G H a D k => k.bk Γ M h σ G H (Same.refl _) a
theorem ws_cont (h : Ψ.ct Γ M) : WS X E Γ M (.Continue pos) Ψ := ws_of ps_continue fun σ G H a D k => k.ct Γ M h σ G H (Same.refl _) a
theorem ws_expr (h : WE X E Γ M e fun _ M' => Ψ.nx Γ M') (hs : swapsWith e none pos.line X.env = pure false := by rfl) : WS X E Γ M (.Expr e pos) Ψ :=
  ws_of (ps_expr pe_w hs) fun σ G H a D k => h σ G H a _ fun ρ M' v G' H' h' s' a' r' => k.nx Γ M' h' σ G' H' s' a'
theorem ws_ret (h : WE X E Γ M e Ψ.rt) : WS X E Γ M (.Return (some e) pos) Ψ :=
  ws_of (ps_ret pe_w) fun σ G H a D k => h σ G H a _ fun ρ M' v G' H' h' s' a' r' => k.rt ρ M' h' v G' H' s' a'.env0 r'
theorem ws_retN (h : Ψ.rt RN M) : WS X E Γ M (.Return none pos) Ψ :=
  ws_of ps_retN fun σ G H a D k => k.rt RN M h _ G H (Same.refl _) a.env0 rfl
theorem ws_if {c : Expr} {b1 b2 : List Stmt} (h : WT X E Γ M c fun k M' => (k = true → WSs X E Γ M' b1 Ψ) ∧ (k = false → WSs X E Γ M' b2 Ψ)) : WS X E Γ M (.If c b1 b2 pos) Ψ :=
  ws_of (ps_if pt_w pss_w pss_w) fun σ G H a D k => h σ G H a _ fun b M' G' H' hk s1 a1 => by
    cases b with
    | true =>
      show tWSs X _ D σ H'
      exact hk.1 rfl σ G' H' a1 D (k.mono s1)
    | false =>
      show tWSs X _ D σ H'
      exact hk.2 rfl σ G' H' a1 D (k.mono s1)
theorem ws_set (i : Nat) {x : Str} {pos' : Pos} (w : Wr1 X i x) (h : WE X E Γ M e fun ρ M' => Ψ.nx (Γ.set i (some ρ)) M') (hs : swapsWith e (some (.Name x pos')) pos.line X.env = pure false := by rfl) : WS X E Γ M (.Assign [.Name x pos'] e pos) Ψ :=
  ws_of (ps_set w.nd w.at_ w.loc pe_w hs w.fn) fun σ G H a D k => h σ G H a _ fun ρ M' v G' H' h' s' a' r' => k.nx _ M' h' _ G' H' s' (a'.set r')
theorem ws_asg {tg : Expr} (h : WE X E Γ M e fun ρ M' => WG X E Γ M' tg ρ Ψ.nx) (hs : swapsWithSole [tg] e pos.line X.env = pure false := by rfl) (hw : swappedStores [tg] e X.env = pure none := by rfl)
    (h1 : (assignEach [tg] X.env).map (·.2) = [assign tg X.env] := by rfl) : WS X E Γ M (.Assign [tg] e pos) Ψ :=
  ws_of (ps_asg pe_w pg_w hs hw h1) fun σ G H a D k => h σ G H a _ fun ρ M' v G' H' h' s' a' r' => h' σ G' H' a' v r' _ fun Γ2 M2 σ2 G2 H2 h2 s2 a2 => k.nx Γ2 M2 h2 σ2 G2 H2 (s'.trans s2) a2
/-- a, b = x, y with plain local names -/
theorem ws_par (i j : Nat) {x y : Str} {px py pt : Pos} {kt k2 pt2} (hc : X.calm = true) (wi : Wr1 X i x) (wj : Wr1 X j y) (hij : i ≠ j) (hx : X.env.scope.names.lookup x = some .local) (hy : X.env.scope.names.lookup y = some .local)
    (hw : swappedStores [.Tuple [.Name x px, .Name y py] kt pt] (.Tuple [a, b] k2 pt2) X.env = pure (some [x, y]))
    (h : WA X E Γ M [a, b] fun ρs M' => ∃ ρ1 ρ2, ρs = [ρ1, ρ2] ∧ Ψ.nx ((Γ.set i (some ρ1)).set j (some ρ2)) M')
    (hs : swapsWithSole [.Tuple [.Name x px, .Name y py] kt pt] (.Tuple [a, b] k2 pt2) pos.line X.env = pure false := by rfl) : WS X E Γ M (.Assign [.Tuple [.Name x px, .Name y py] kt pt] (.Tuple [a, b] k2 pt2) pos) Ψ :=
  ws_of (ps_par hc wi.nd wi.at_ wj.at_ hij hx hy pa_w hw hs) fun σ G H a D k => h σ G H a _ fun ρs M' vs G' H' ⟨ρ1, ρ2, e, h'⟩ s' a' r' => by
    subst e
    match vs, r' with
    | [v, w], ⟨r1, r2, _⟩ => exact ⟨v, w, rfl, k.nx _ M' h' _ G' H' s' ((a'.set r1).set r2)⟩
theorem ws_aug (i : Nat) {x : Str} {pos' : Pos} {op : Operator} {r : R2} (w : Wr1 X i x) (ho : OpR X (inplaceOp op) r) {ρ : Rep} (hΓ : Γ[i]? = some (some ρ)) (h : WE X E Γ M e fun ρb M' => OpW E Γ M' r ρ ρb fun ρ' M2 => Ψ.nx (Γ.set i (some ρ')) M2) :
    WS X E Γ M (.AugAssign (.Name x pos') op e pos) Ψ :=
  ws_of (ps_aug (ti := r) w.nd w.at_ w.loc pe_w (fun pins s σ H x y v u Q I r1 r2 hh => augR ho I r1 r2 hh) w.fn) fun σ G H a D k => by
    obtain ⟨v, e1, r1⟩ := a.env i ρ hΓ
    exact ⟨v, e1, h σ G H a _ fun ρb M' y G' H' h' s' a' r' => h' σ G' H' a' v y (ρ.mono _ _ _ s' r1) r' _ fun ρ2 M2 z G2 H2 h2 s2 a2 r2 => k.nx _ M2 h2 _ G2 H2 (s'.trans s2) (a2.set r2)⟩

/-! ### targets -/
variable {ρ : Rep} {Ξ : Gm → Ow → Prop}
theorem wg_name (i : Nat) {x : Str} (w : Wr1 X i x) (h : Ξ (Γ.set i (some ρ)) M) : WG X E Γ M (.Name x pos) ρ Ξ :=
  wg_of (pg_name w.nd w.at_ w.loc w.fn) fun σ G H a v r Q k => k _ M _ G H h (Same.refl _) (a.set r)
theorem wgs_nil (h : Ξ Γ M) : WGs X E Γ M [] [] Ξ :=
  wgs_of pgs_nil fun σ G H a vs r Q k => by
    match vs, r with
    | [], _ => exact ⟨rfl, k _ M _ G H h (Same.refl _) a⟩
theorem wgs_cons {es : List Expr} {ρs : List Rep} (h : WG X E Γ M e ρ fun Γ' M' => WGs X E Γ' M' es ρs Ξ) (hs : (assignEach (e :: es) X.env).map (·.2) = assign e X.env :: (assignEach es X.env).map (·.2) := by rfl) : WGs X E Γ M (e :: es) (ρ :: ρs) Ξ :=
  wgs_of (pgs_cons pg_w pgs_w hs) fun σ G H a vs r Q k => by
    match vs, r with
    | v :: vs, ⟨r1, r2⟩ => exact ⟨v, vs, rfl, h σ G H a v r1 _ fun Γ' M' σ' G' H' h' s' a' => h' σ' G' H' a' vs (r2.mono s') Q fun Γ2 M2 σ2 G2 H2 h2 s2 a2 => k Γ2 M2 σ2 G2 H2 h2 (s'.trans s2) a2⟩
theorem wg_tup {es : List Expr} {k0 : Nat} {n : Nat} {ρs : List Rep} (hc : X.calm = true) (hsub : Sub ρ (RT X.K ρs)) (hl : ρs.length = n) (h : WGs X E Γ M es ρs Ξ) (hn : (assignEach es X.env).length = n := by rfl) (hst : (assignEach es X.env).findIdx? (·.1) = none := by rfl) : WG X E Γ M (.Tuple es k0 pos) ρ Ξ :=
  wg_of (pg_tup hc pgs_w hn hst) fun σ G H a v r Q k => by
    obtain ⟨b, vs, e, hq, rr⟩ := hsub _ _ r
    exact ⟨b, vs, e, same_seqT a.gh hq, by rw [← rr.length]; exact hl, h σ G H a vs rr Q k⟩
end
end MM

namespace MM
open PySem L2 PyProof.Rows
/-! ### what a def promises -/
structure Con where
  I : Type
  B : Type
  pre : I → Prop
  args : I → List Rep
  own : I → Ow
  post : I → B → Prop
  res : I → B → Rep
  own' : I → B → Ow
structure Aft (G H G' H' : Hp) (o o' : Ow) : Prop where
  gg : Same G G'
  gh : Same G' H'
  keep : ∀ a u, a ∉ o.map (·.1) → H a = some u → H' a = some u
  nw : ∀ a, H a ≠ none → G' a ≠ none → G a ≠ none
  own : ∀ q ∈ o', ∃ u, H' q.1 = some u ∧ q.2.p u G'
  gn : ∀ q ∈ o', G' q.1 = none
  nd : (o'.map (·.1)).Nodup
  loc : ∀ q ∈ o', q.1 ∈ o.map (·.1) ∨ H q.1 = none
  there : ∀ a, H a ≠ none → H' a ≠ none
def conSp (c : Con) : Sp := fun vs H Q _ => ∃ (G : Hp) (i : c.I), Same G H ∧ c.pre i ∧ Reps (c.args i) vs G ∧ (∀ q ∈ c.own i, ∃ o, H q.1 = some o ∧ q.2.p o G) ∧ (∀ q ∈ c.own i, G q.1 = none) ∧ ((c.own i).map (·.1)).Nodup ∧
  ∀ x v G' H', c.post i x → Aft G H G' H' (c.own i) (c.own' i x) → (c.res i x).p v G' → Q v H'
/-- own is picked out of M, rest is left -/
inductive Pk : Ow → Ow → Ow → Prop
  | nil {M : Ow} : Pk M [] M
  | cons {M M1 own rest : Ow} {p : Addr} {r r' : ORep} : Rm M p r M1 → OSub r r' → Pk M1 own rest → Pk M ((p, r') :: own) rest
structure PkF (M ow re : Ow) : Prop where
  own : ∀ q ∈ ow, ∃ q' ∈ M, q'.1 = q.1 ∧ OSub q'.2 q.2
  rest : ∀ q ∈ re, q ∈ M
  dis : ∀ q ∈ re, q.1 ∉ ow.map (·.1)
  nd : (re.map (·.1)).Nodup
  ndo : (ow.map (·.1)).Nodup
theorem Pk.f {M own rest : Ow} (h : Pk M own rest) : (M.map (·.1)).Nodup → PkF M own rest := by
  induction h with
  | nil => exact fun nd => ⟨fun q hq => (List.not_mem_nil hq).elim, fun q hq => hq, fun q _ hq => (List.not_mem_nil hq).elim, nd, List.nodup_nil⟩
  | @cons M M1 own rest p r r' rm os pk ih =>
    intro nd
    obtain ⟨nd1, np⟩ := rm.nd nd
    have f := ih nd1
    refine ⟨fun q hq => ?_, fun q hq => rm.sub q (f.rest q hq), fun q hq hm => ?_, f.nd, ?_⟩
    · rcases List.mem_cons.mp hq with e | hq
      · subst e; exact ⟨_, rm.mem, rfl, os⟩
      · obtain ⟨q', h1, h2⟩ := f.own q hq
        exact ⟨q', rm.sub q' h1, h2⟩
    · rw [List.map_cons, List.mem_cons] at hm
      rcases hm with e | hm
      · exact np (List.mem_map.mpr ⟨q, f.rest q hq, e⟩)
      · exact f.dis q hq hm
    · rw [List.map_cons, List.nodup_cons]
      refine ⟨fun hm => ?_, f.ndo⟩
      obtain ⟨z, hz, e⟩ := List.mem_map.mp hm
      obtain ⟨q', h1, h2, _⟩ := f.own z hz
      exact np (List.mem_map.mpr ⟨q', h1, h2.trans e⟩)
section
variable {E : En} {Γ : Gm} {M own own' rest : Ow} {σ : L2.St} {G H G' H' : Hp}
theorem At.picked (a : At E Γ M σ G H) (pk : Pk M own rest) : (∀ q ∈ own, ∃ o, H q.1 = some o ∧ q.2.p o G) ∧ (∀ q ∈ own, G q.1 = none) ∧ (own.map (·.1)).Nodup := by
  have f := pk.f a.nd
  refine ⟨fun q hq => ?_, fun q hq => ?_, f.ndo⟩
  · obtain ⟨q', h1, h2, h3⟩ := f.own q hq
    obtain ⟨o, e, r⟩ := a.own q' h1
    exact ⟨o, by rw [← h2]; exact e, h3 _ _ r⟩
  · obtain ⟨q', h1, h2, h3⟩ := f.own q hq
    rw [← h2]; exact a.gn q' h1
theorem At.aft (a : At E Γ M σ G H) (pk : Pk M own rest) (t : Aft G H G' H' own own') : At E Γ (own' ++ rest) σ G' H' := by
  have f := pk.f a.nd
  have inM : ∀ x, x ∈ own.map (·.1) → ∃ q ∈ M, q.1 = x := fun x hx => by
    obtain ⟨z, hz, e⟩ := List.mem_map.mp hx
    obtain ⟨q', h1, h2, _⟩ := f.own z hz
    exact ⟨q', h1, h2.trans e⟩
  refine ⟨a.len, fun i ρ h => let ⟨v, e, r⟩ := a.env i ρ h; ⟨v, e, ρ.mono _ _ _ t.gg r⟩, t.gh, fun q hq => ?_, fun q hq => ?_, ?_, a.g0.trans t.gg, fun x o h1 h2 => ?_, fun x h1 h2 => a.nw x h1 (t.nw x (a.there x h1) h2), fun q hq => ?_, fun x h => t.there x (a.there x h)⟩
  · rcases List.mem_append.mp hq with hq | hq
    · exact t.own q hq
    · obtain ⟨o, e, r⟩ := a.own q (f.rest q hq)
      exact ⟨o, t.keep _ _ (f.dis q hq) e, q.2.mono _ _ _ t.gg r⟩
  · rcases List.mem_append.mp hq with hq | hq
    · exact t.gn q hq
    · obtain ⟨o, e, r⟩ := a.own q (f.rest q hq)
      cases z : G' q.1 with
      | none => rfl
      | some u => exact absurd (a.gn q (f.rest q hq)) (t.nw q.1 (ne_none e) (ne_none z))
  · rw [List.map_append, List.nodup_append]
    refine ⟨t.nd, f.nd, fun x hx y hy e => ?_⟩
    obtain ⟨q, hq, e1⟩ := List.mem_map.mp hx
    obtain ⟨z, hz, e2⟩ := List.mem_map.mp hy
    have e3 : q.1 = z.1 := e1.trans (e.trans e2.symm)
    rcases t.loc q hq with h | h
    · exact f.dis z hz (by rw [← e3]; exact h)
    · obtain ⟨o, e4, _⟩ := a.own z (f.rest z hz)
      rw [← e3, h] at e4; cases e4
  · have h3 := a.keep x o h1 h2
    refine t.keep x o (fun hm => ?_) h3
    obtain ⟨q, hq, e⟩ := inM x hm
    rcases a.loc q hq with z | z
    · rw [e] at z; exact h1 z
    · rw [e, h2] at z; cases z
  · rcases List.mem_append.mp hq with hq | hq
    · rcases t.loc q hq with h | h
      · obtain ⟨q', h1, h2⟩ := inM _ h
        rw [← h2]; exact a.loc q' h1
      · exact .inr (a.fresh h)
    · exact a.loc q (f.rest q hq)
end
/-- what is left to show at a call: the values are as the promise asks, the owned things are there; behind it goes on -/
def CallK (c : Con) (ρs : List Rep) (M : Ow) (Φ : Rep → Ow → Prop) : Prop :=
  ∃ (i : c.I) (rest : Ow), c.pre i ∧ SubL ρs (c.args i) ∧ Pk M (c.own i) rest ∧ ∀ x, c.post i x → Φ (c.res i x) (c.own' i x ++ rest)
theorem callK_run {E : En} {Γ : Gm} {M : Ow} {σ : L2.St} {G H : Hp} {c : Con} {ρs : List Rep} {vs : List V} {Φ : Rep → Ow → Prop} {Q : VK} {EE : XK} (h : CallK c ρs M Φ) (a : At E Γ M σ G H) (r : Reps ρs vs G)
    (k : ∀ ρ M' v G' H', Φ ρ M' → Same G G' → At E Γ M' σ G' H' → ρ.p v G' → Q v H') : conSp c vs H Q EE := by
  obtain ⟨i, rest, hp, sb, pk, hk⟩ := h
  obtain ⟨o1, o2, o3⟩ := a.picked pk
  exact ⟨G, i, a.gh, hp, sb.reps r, o1, o2, o3, fun x v G' H' px t rv => k _ _ v G' H' (hk x px) t.gg (a.aft pk t) rv⟩
/-- a def that the module's name x holds; dvs: the defaults that fill up -/
def Kn (P : Program) (w : World) (K : PySem.W.Frag) (mg : Str → Option Value) (base : Heap) (k : Nat) (x : Str) (dvs : List V) (c : Con) : Prop :=
  ∃ (f : Addr) (fd : FuncData) (ps : List Str) (ds : List Value), mg x = some (.ref f) ∧ PySem.W.keepIn K (.ref f) = true ∧ Binds K fd ps ds ∧ Vals dvs ds ∧ FnOk P w K mg base CX0 k f fd ps (conSp c)
theorem reps_RV {G : Hp} : ∀ dvs : List V, Reps (dvs.map RV) dvs G
  | [] => trivial
  | _ :: dvs => ⟨rfl, reps_RV dvs⟩
section
variable {X : Cx} {E : En} {Γ : Gm} {M : Ow} {a b e : Expr} {es : List Expr} {pos p apos : Pos} {Φ : Rep → Ow → Prop} {k : Nat} {x : Str} {dvs : List V} {c : Con}
theorem we_call (F : Kn X.prog X.w X.K X.mg X.base k x dvs c) (hr : Room k X.A) (hg : Gl X x) (hx : Passes CX0 X E0)
    (h : WA X E Γ M (e :: es) fun ρs M' => CallK c (ρs ++ dvs.map RV) M' Φ)
    (hdb : (x == ("__debug__" : Str)) = false := by decide) (he : starEach (e :: es) X.env = (false, eval e X.env) :: starEach es X.env := by rfl) (hpl : (backTo pos (starEach es X.env)).any (·.1) = false := by rfl) :
    WE X E Γ M (.Call (.Name x p) (e :: es) [] pos) Φ := by
  obtain ⟨f, fd, ps, ds, hm, hk, hb, hd, F⟩ := F
  refine we_of (pe_call F hr hg hm hk hb hd hx pa_w hdb he hpl) fun σ G H a Q q => ?_
  exact h σ G H a _ fun ρs M' vs G1 H1 hh s1 a1 r1 => callK_run hh a1 (r1.app (reps_RV dvs)) fun ρ M2 v G2 H2 h2 s2 => q ρ M2 v G2 H2 h2 (s1.trans s2)
theorem we_call0 (F : Kn X.prog X.w X.K X.mg X.base k x dvs c) (hr : Room k X.A) (hg : Gl X x) (hx : Passes CX0 X E0)
    (h : CallK c (dvs.map RV) M Φ) (hdb : (x == ("__debug__" : Str)) = false := by decide) : WE X E Γ M (.Call (.Name x p) [] [] pos) Φ := by
  obtain ⟨f, fd, ps, ds, hm, hk, hb, hd, F⟩ := F
  refine we_of (pe_call0 F hr hg hm hk hb hd hx hdb) fun σ G H a Q q => ?_
  show conSp c ([] ++ dvs) H Q E0
  exact callK_run h a (reps_RV dvs) q
/-! ### methods of own classes -/
def KnM (P : Program) (w : World) (K : PySem.W.Frag) (mg : Str → Option Value) (base : Heap) (k : Nat) (C : Addr) (m : Str) (dvs : List V) (c : Con) : Prop :=
  ∃ (f : Addr) (fd : FuncData) (ps : List Str) (ds : List Value), Meth K C m f ∧ Cls K C ∧ Binds K fd ps ds ∧ Vals dvs ds ∧ FnOk P w K mg base CX0 k f fd ps (conSp c)
def HasI (ρ : Rep) (C : Addr) (m : Str) : Prop := ∀ v G, ρ.p v G → ∃ a dx fs, v = .ref a ∧ G a = some (.ins C dx fs) ∧ fs.lookup m = none
theorem hasI_ins {C : Addr} {l : List (Str × Rep)} {m : Str} (h : l.lookup m = none) : HasI (RIns C l) C m := fun v G ⟨a, dx, fs, e, hG, r⟩ => ⟨a, dx, fs, e, hG, r.miss h⟩
theorem HasI.sub {ρ ρ' : Rep} {C : Addr} {m : Str} (s : Sub ρ ρ') (h : HasI ρ' C m) : HasI ρ C m := fun v G r => h v G (s v G r)
theorem we_meth {C : Addr} {m : Str} {o : Expr} {pl : Sem Bool} (F : KnM X.prog X.w X.K X.mg X.base k C m dvs c) (hr : Room k X.A) (hx : Passes CX0 X E0)
    (h : WE X E Γ M o fun ρ M1 => HasI ρ C m ∧ WA X E Γ M1 (e :: es) fun ρs M' => CallK c (ρ :: (ρs ++ dvs.map RV)) M' Φ)
    (hst : starEach (e :: es) X.env = (false, eval e X.env) :: starEach es X.env := by rfl) (hpl : (backTo pos (starEach es X.env)).any (·.1) = false := by rfl)
    (ht : eval (.Call (.Attribute o m apos) (e :: es) [] pos) X.env = (do
      let ov ← eval o X.env
      standAt apos.atName
      let (f, first) ← holding [ov] (getMethod ov m pl)
      callWith pos f first (backTo pos (starEach (e :: es) X.env)) (backToKw pos (keywordEach [] X.env))) := by rfl) :
    WE X E Γ M (.Call (.Attribute o m apos) (e :: es) [] pos) Φ := by
  obtain ⟨f, fd, ps, ds, hm, hc, hb, hd, F⟩ := F
  refine we_of (pe_meth pe_w hc hm F hr hb hd hx pa_w hst hpl ht) fun σ G H a Q q => ?_
  exact h σ G H a _ fun ρ M1 v G1 H1 ⟨hi, h1⟩ s1 a1 r1 => by
    obtain ⟨b, dx, fs, e1, e2, e3⟩ := hi v G1 r1
    refine ⟨b, dx, fs, e1, a1.gh _ _ e2, e3, h1 σ G1 H1 a1 _ fun ρs M' vs G2 H2 hh s2 a2 r2 => ?_⟩
    exact callK_run hh a2 ⟨ρ.mono _ _ _ s2 r1, r2.app (reps_RV dvs)⟩ fun ρ' M3 w G3 H3 h3 s3 => q ρ' M3 w G3 H3 h3 ((s1.trans s2).trans s3)
theorem we_meth0 {C : Addr} {m : Str} {o : Expr} {pl : Sem Bool} (F : KnM X.prog X.w X.K X.mg X.base k C m dvs c) (hr : Room k X.A) (hx : Passes CX0 X E0)
    (h : WE X E Γ M o fun ρ M1 => HasI ρ C m ∧ CallK c (ρ :: dvs.map RV) M1 Φ)
    (ht : eval (.Call (.Attribute o m apos) [] [] pos) X.env = (do
      let ov ← eval o X.env
      standAt apos.atName
      let (f, first) ← holding [ov] (getMethod ov m pl)
      callWith pos f first (backTo pos (starEach [] X.env)) (backToKw pos (keywordEach [] X.env))) := by rfl) :
    WE X E Γ M (.Call (.Attribute o m apos) [] [] pos) Φ := by
  obtain ⟨f, fd, ps, ds, hm, hc, hb, hd, F⟩ := F
  refine we_of (pe_meth0 pe_w hc hm F hr hb hd hx ht) fun σ G H a Q q => ?_
  exact h σ G H a _ fun ρ M1 v G1 H1 ⟨hi, h1⟩ s1 a1 r1 => by
    obtain ⟨b, dx, fs, e1, e2, e3⟩ := hi v G1 r1
    refine ⟨b, dx, fs, e1, a1.gh _ _ e2, e3, ?_⟩
    show conSp c (v :: ([] ++ dvs)) H1 Q E0
    exact callK_run h1 a1 ⟨r1, reps_RV dvs⟩ fun ρ' M3 w G3 H3 h3 s3 => q ρ' M3 w G3 H3 h3 (s1.trans s3)
/-! ### a new object -/
def KnC (P : Program) (w : World) (K : PySem.W.Frag) (mg : Str → Option Value) (base : Heap) (k : Nat) (x : Str) (C : Addr) (dvs : List V) (c : Con) : Prop :=
  ∃ (f : Addr) (fd : FuncData) (ps : List Str) (ds : List Value), mg x = some (.ref C) ∧ Mk K C f ∧ Binds K fd ps ds ∧ Vals dvs ds ∧ FnOk P w K mg base CX0 k f fd ps (conSp c)
/-- __init__ is called on a new thing at p; behind it the thing is to stay as it is -/
def MakeK (E : En) (C : Addr) (c : Con) (ρs : List Rep) (M : Ow) (Φ : Rep → Ow → Prop) : Prop :=
  ∀ p, p ∉ M.map (·.1) → p ∉ E.M → CallK c (RRef p :: ρs) ((p, OIns C []) :: M) fun ρ M' => Sub ρ RN ∧ ∃ l M2, Rm M' p (OIns C l) M2 ∧ Φ (RIns C l) M2
/-- .. or to stay owned -/
def MakeO (E : En) (C : Addr) (c : Con) (ρs : List Rep) (M : Ow) (Φ : Rep → Ow → Prop) : Prop :=
  ∀ p, p ∉ M.map (·.1) → p ∉ E.M → CallK c (RRef p :: ρs) ((p, OIns C []) :: M) fun ρ M' => Sub ρ RN ∧ Φ (RRef p) M'
theorem make_run {C : Addr} {σ : L2.St} {G H : Hp} {ρs : List Rep} {vs : List V} {Q : VK} (hE : ∀ a ∈ E.M, E.H a ≠ none) (h : MakeK E C c ρs M Φ) (a : At E Γ M σ G H) (r : Reps ρs vs G)
    (q : ∀ ρ M' v G' H', Φ ρ M' → Same G G' → At E Γ M' σ G' H' → ρ.p v G' → Q v H') :
    ∀ x dx, H x = none → H dx = none → dx ≠ x → conSp c (.ref x :: vs) (upd (upd H dx (.own x)) x (.ins C dx [])) (fun v H2 => v = .non ∧ Q (.ref x) H2) E0 := fun x dx nx nd ne => by
  have n1 : New G H G (upd H dx (.own x)) := New.side a.gh nd
  have a1 := a.new n1
  have nx1 : upd H dx (.own x) x = none := by rw [upd_ne (Ne.symm ne)]; exact nx
  have hpE : x ∉ E.M := fun z => hE x z (a.fresh nx)
  have a2 := a1.own1 (r := OIns C []) nx1 ⟨dx, [], rfl, trivial⟩
  refine callK_run (h x (a.freshM nx) hpE) a2 ⟨rfl, r⟩ fun ρ M' v G' H' ⟨sb, l, M2, rm, hΦ⟩ s' a' r' => ⟨sb _ _ r', ?_⟩
  obtain ⟨o, e1, ⟨dx', fs, e2, rf⟩, sg, a3⟩ := a'.freeze rm hpE
  subst e2
  exact q _ _ _ _ _ hΦ (s'.trans sg) a3 ⟨x, dx', fs, rfl, upd_same, rf.mono sg⟩
theorem makeO_run {C : Addr} {σ : L2.St} {G H : Hp} {ρs : List Rep} {vs : List V} {Q : VK} (hE : ∀ a ∈ E.M, E.H a ≠ none) (h : MakeO E C c ρs M Φ) (a : At E Γ M σ G H) (r : Reps ρs vs G)
    (q : ∀ ρ M' v G' H', Φ ρ M' → Same G G' → At E Γ M' σ G' H' → ρ.p v G' → Q v H') :
    ∀ x dx, H x = none → H dx = none → dx ≠ x → conSp c (.ref x :: vs) (upd (upd H dx (.own x)) x (.ins C dx [])) (fun v H2 => v = .non ∧ Q (.ref x) H2) E0 := fun x dx nx nd ne => by
  have n1 : New G H G (upd H dx (.own x)) := New.side a.gh nd
  have a1 := a.new n1
  have nx1 : upd H dx (.own x) x = none := by rw [upd_ne (Ne.symm ne)]; exact nx
  have hpE : x ∉ E.M := fun z => hE x z (a.fresh nx)
  have a2 := a1.own1 (r := OIns C []) nx1 ⟨dx, [], rfl, trivial⟩
  exact callK_run (h x (a.freshM nx) hpE) a2 ⟨rfl, r⟩ fun ρ M' v G' H' ⟨sb, hΦ⟩ s' a' r' => ⟨sb _ _ r', q _ _ _ _ _ hΦ s' a' rfl⟩
theorem we_make {C : Addr} (F : KnC X.prog X.w X.K X.mg X.base k x C dvs c) (hr : Room (k + 1) X.A) (hg : Gl X x) (hx : Passes CX0 X E0) (hE : ∀ a ∈ E.M, E.H a ≠ none)
    (h : WA X E Γ M (e :: es) fun ρs M' => MakeK E C c (ρs ++ dvs.map RV) M' Φ)
    (hdb : (x == ("__debug__" : Str)) = false := by decide) (he : starEach (e :: es) X.env = (false, eval e X.env) :: starEach es X.env := by rfl) (hpl : (backTo pos (starEach es X.env)).any (·.1) = false := by rfl) :
    WE X E Γ M (.Call (.Name x p) (e :: es) [] pos) Φ := by
  obtain ⟨f, fd, ps, ds, hm, Mk, hb, hd, F⟩ := F
  refine we_of (pe_make Mk F hr hg hm hb hd hx pa_w hdb he hpl) fun σ G H a Q q => ?_
  exact h σ G H a _ fun ρs M' vs G1 H1 hh s1 a1 r1 => make_run hE hh a1 (r1.app (reps_RV dvs)) fun ρ M2 v G2 H2 h2 s2 => q ρ M2 v G2 H2 h2 (s1.trans s2)
theorem we_makeO {C : Addr} (F : KnC X.prog X.w X.K X.mg X.base k x C dvs c) (hr : Room (k + 1) X.A) (hg : Gl X x) (hx : Passes CX0 X E0) (hE : ∀ a ∈ E.M, E.H a ≠ none)
    (h : WA X E Γ M (e :: es) fun ρs M' => MakeO E C c (ρs ++ dvs.map RV) M' Φ)
    (hdb : (x == ("__debug__" : Str)) = false := by decide) (he : starEach (e :: es) X.env = (false, eval e X.env) :: starEach es X.env := by rfl) (hpl : (backTo pos (starEach es X.env)).any (·.1) = false := by rfl) :
    WE X E Γ M (.Call (.Name x p) (e :: es) [] pos) Φ := by
  obtain ⟨f, fd, ps, ds, hm, Mk, hb, hd, F⟩ := F
  refine we_of (pe_make Mk F hr hg hm hb hd hx pa_w hdb he hpl) fun σ G H a Q q => ?_
  exact h σ G H a _ fun ρs M' vs G1 H1 hh s1 a1 r1 => makeO_run hE hh a1 (r1.app (reps_RV dvs)) fun ρ M2 v G2 H2 h2 s2 => q ρ M2 v G2 H2 h2 (s1.trans s2)

/-! ### stores into owned things -/
variable {Ψ : Ed} {Ξ : Gm → Ow → Prop}
theorem putR_new {f : Str} {ρ : Rep} : ∀ {l : List (Str × Rep)}, l.lookup f = none → putR f ρ l = l ++ [(f, ρ)]
  | [], _ => rfl
  | (g, r) :: l, h => by
    rw [List.lookup_cons] at h
    cases q : f == g with
    | true => rw [q] at h; simp at h
    | false =>
      rw [q] at h
      have ne : ¬ g = f := fun z => by subst z; simp at q
      unfold putR
      rw [if_neg ne, putR_new (l := l) h]; rfl
theorem ws_fld {o value : Expr} {f : Str} {pos' : Pos} (h : WE X E Γ M value fun ρv M1 => WE X E Γ M1 o fun ρo M2 => ∃ p C l u, Sub ρo (RRef p) ∧ Fnd M2 p (OIns C l) u ∧ Cls X.K C ∧ NoAttr X.K C f ∧ l.length < 1000 ∧ Ψ.nx Γ (u (OIns C (putR f ρv l))))
    (hs : swapsWith value (some (.Attribute o f pos')) pos.line X.env = pure false := by rfl) : WS X E Γ M (.Assign [.Attribute o f pos'] value pos) Ψ :=
  ws_of (ps_fld pe_w pe_w hs) fun σ G H a D k => h σ G H a _ fun ρv M1 v G1 H1 h1 s1 a1 r1 => h1 σ G1 H1 a1 _ fun ρo M2 y G2 H2 ⟨p, C, l, u, sb, fd, cl, na, hl, hk⟩ s2 a2 r2 => by
    obtain ⟨o, e1, dx, fs, e2, rf⟩ := a2.own _ fd.mem
    subst e2
    refine ⟨p, C, dx, fs, sb _ _ r2, e1, cl, na, by rw [← rf.len]; exact hl, ?_⟩
    exact k.nx _ _ hk _ _ _ (s1.trans s2) (a2.write fd ⟨dx, _, rfl, rf.put (ρv.mono _ _ _ s2 r1)⟩)
theorem wg_setL {o i : Expr} {ρ : Rep} (h : WE X E Γ M o fun ρo M1 => WE X E Γ M1 i fun ρi M2 => ∃ p ρs z j u, Sub ρo (RRef p) ∧ Sub ρi (RI z) ∧ Fnd M2 p (OL ρs) u ∧ ixN ρs.length z = some j ∧ Ξ Γ (u (OL (ρs.set j ρ))))
    (ha : ∀ v, assign (.Subscript o i pos) X.env v = (do
      let ov ← holding [v] (eval o X.env)
      let iv ← holding [v, ov] (eval i X.env)
      standAt pos
      holding [v, ov, iv] (setItem ov iv v)
      release [v, ov, iv] []) := by intro _; rfl) : WG X E Γ M (.Subscript o i pos) ρ Ξ :=
  wg_of (pg_sub pe_w pe_w set_list ha) fun σ G H a v r Q k => h σ G H a _ fun ρo M1 y G1 H1 h1 s1 a1 r1 => h1 σ G1 H1 a1 _ fun ρi M2 w G2 H2 ⟨p, ρs, z, j, u, sb, si, fd, hj, hk⟩ s2 a2 r2 => by
    obtain ⟨o, e1, vs, e2, rf⟩ := a2.own _ fd.mem
    subst e2
    refine ⟨p, vs, z, j, sb _ _ (ρo.mono _ _ _ s2 r1), si _ _ r2, e1, by rw [← rf.length]; exact hj, ?_⟩
    exact k _ _ _ _ _ hk (s1.trans s2) (a2.write fd ⟨_, rfl, rf.set (ρ.mono _ _ _ (s1.trans s2) r) j⟩)
/-! ### methods of built-in types -/
def MtW (E : En) (Γ : Gm) (M : Ow) (r : V → List V → Hp → VK → Prop) (ρo : Rep) (ρs : List Rep) (Φ : Rep → Ow → Prop) : Prop :=
  ∀ σ G H, At E Γ M σ G H → ∀ x vs, ρo.p x G → Reps ρs vs G → ∀ Q : VK, (∀ ρ M' v G' H', Φ ρ M' → Same G G' → At E Γ M' σ G' H' → ρ.p v G' → Q v H') → r x vs H Q
def TyW (E : En) (Γ : Gm) (M : Ow) (K : PySem.W.Frag) (T : String) (ρo : Rep) : Prop := ∀ σ G H, At E Γ M σ G H → ∀ x, ρo.p x G → tyV K T x H
theorem we_bm {o : Expr} {name : Str} {T id : String} {r : V → List V → Hp → VK → Prop} (pa : PlainAttrs T) (slot : Slot T name id) (hty : typeOf (.builtin id) = pure (.type "method_descriptor")) (hm : MtR X id r)
    (h : WE X E Γ M o fun ρo M1 => TyW E Γ M1 X.K T ρo ∧ WA X E Γ M1 (e :: es) fun ρs M2 => MtW E Γ M2 r ρo ρs Φ)
    (hbase : attributeBase o name X.env (eval o X.env) = eval o X.env := by rfl)
    (hfew : ((backTo pos (starEach (e :: es) X.env)).all (fun x => !x.1) && (backToKw pos (keywordEach [] X.env)).all (fun x => x.1.isSome)
      && decide ((e :: es).length + ([] : List Keyword).length + (if ([] : List Keyword).isEmpty then 0 else 1) < 30)) = true := by rfl)
    (hline : (apos.endLine == pos.line) = true := by rfl) (hs : starEach (e :: es) X.env = (false, eval e X.env) :: starEach es X.env := by rfl) (hplain : (backTo pos (starEach es X.env)).any (·.1) = false := by rfl) :
    WE X E Γ M (.Call (.Attribute o name apos) (e :: es) [] pos) Φ :=
  we_of (pe_bm pa slot hty hm pe_w pa_w hbase hfew hline hs hplain) fun σ G H a Q q => h σ G H a _ fun ρo M1 y G1 H1 ⟨ty, h1⟩ s1 a1 r1 =>
    ⟨ty σ G1 H1 a1 y r1, h1 σ G1 H1 a1 _ fun ρs M2 vs G2 H2 h2 s2 a2 r2 => h2 σ G2 H2 a2 y vs (ρo.mono _ _ _ s2 r1) r2 Q fun ρ M3 v G3 H3 h3 s3 => q ρ M3 v G3 H3 h3 ((s1.trans s2).trans s3)⟩
theorem we_bm0 {o : Expr} {name : Str} {T id : String} {r : V → List V → Hp → VK → Prop} (pa : PlainAttrs T) (slot : Slot T name id) (hty : typeOf (.builtin id) = pure (.type "method_descriptor")) (hm : MtR X id r)
    (h : WE X E Γ M o fun ρo M1 => TyW E Γ M1 X.K T ρo ∧ MtW E Γ M1 r ρo [] Φ)
    (hbase : attributeBase o name X.env (eval o X.env) = eval o X.env := by rfl) (hline : (apos.endLine == pos.line) = true := by rfl) :
    WE X E Γ M (.Call (.Attribute o name apos) [] [] pos) Φ :=
  we_of (pe_bm0 pa slot hty hm pe_w hbase hline) fun σ G H a Q q => h σ G H a _ fun ρo M1 y G1 H1 ⟨ty, h1⟩ s1 a1 r1 =>
    ⟨ty σ G1 H1 a1 y r1, h1 σ G1 H1 a1 y [] r1 trivial Q fun ρ M3 v G3 H3 h3 s3 => q ρ M3 v G3 H3 h3 (s1.trans s3)⟩
theorem tyw_str {K : PySem.W.Frag} {s : Str} : TyW E Γ M K "str" (RS s) := fun σ G H a x h => by
  have h : x = .str s := h
  subst h; rfl
theorem tyw_listO {K : PySem.W.Frag} {p : Addr} {ρ : Rep} {ρs : List Rep} {u : ORep → Ow} (sb : Sub ρ (RRef p)) (fd : Fnd M p (OL ρs) u) : TyW E Γ M K "list" ρ := fun σ G H a x h => by
  have h : x = .ref p := sb _ _ h
  subst h
  obtain ⟨o, e1, vs, e2, rf⟩ := a.own _ fd.mem
  subst e2
  exact .inl ⟨rfl, _, SqL.of e1⟩
theorem tyw_list {K : PySem.W.Frag} {ρ : Rep} {ρs : List Rep} (sb : Sub ρ (RL K ρs)) : TyW E Γ M K "list" ρ := fun σ G H a x h => by
  obtain ⟨b, vs, e, hq, _⟩ := sb _ _ h
  subst e
  exact .inl ⟨rfl, _, Same.seq a.gh hq⟩
theorem mtw_append {p : Addr} {ρo ρ : Rep} {ρs : List Rep} {u : ORep → Ow} (sb : Sub ρo (RRef p)) (fd : Fnd M p (OL ρs) u) (hl : ρs.length < 100000) (k : Φ RN (u (OL (ρs ++ [ρ])))) : MtW E Γ M rAppend ρo [ρ] Φ := fun σ G H a x vs hx hv Q q => by
  obtain ⟨o, e1, ws, e2, rf⟩ := a.own _ fd.mem
  subst e2
  match vs, hv with
  | [v], ⟨r, _⟩ =>
    exact ⟨p, ws, v, sb _ _ hx, rfl, e1, Nat.lt_of_lt_of_le (by rw [← rf.length]; exact hl) (szOf (Nat.le_refl _)), q _ _ _ _ _ k (Same.refl _) (a.write fd ⟨_, rfl, rf.app ⟨r, trivial⟩⟩) rfl⟩
/-! ### built-in functions -/
def CaW (E : En) (Γ : Gm) (M : Ow) (r : List V → Hp → VK → Prop) (ρs : List Rep) (Φ : Rep → Ow → Prop) : Prop :=
  ∀ σ G H, At E Γ M σ G H → ∀ vs, Reps ρs vs G → ∀ Q : VK, (∀ ρ M' v G' H', Φ ρ M' → Same G G' → At E Γ M' σ G' H' → ρ.p v G' → Q v H') → r vs H Q
def CaV (r : List V → Hp → VK → Prop) (ρs : List Rep) (ρ : Rep) : Prop := ∀ vs G H, Same G H → Reps ρs vs G → ∀ Q : VK, (∀ v G' H', New G H G' H' → ρ.p v G' → Q v H') → r vs H Q
theorem caw_of {r : List V → Hp → VK → Prop} {ρs : List Rep} {ρ : Rep} (h : CaV r ρs ρ) (k : Φ ρ M) : CaW E Γ M r ρs Φ := fun σ G H a vs hv Q q =>
  h vs G H a.gh hv Q fun v G' H' n hr => q ρ M v G' H' k n.gg (a.new n) hr
theorem we_callB {id : String} {r : List V → Hp → VK → Prop} (hc : CallR X (.builtin id) r) (hg : Gl X x) (hm : X.mg x = none) (hv : bootBuiltins x = some (.builtin id)) (h : WA X E Γ M (e :: es) fun ρs M' => CaW E Γ M' r ρs Φ) (hn : x ≠ "__name__" := by decide) (hdb : (x == ("__debug__" : Str)) = false := by decide)
    (he : starEach (e :: es) X.env = (false, eval e X.env) :: starEach es X.env := by rfl) (hpl : (backTo pos (starEach es X.env)).any (·.1) = false := by rfl) : WE X E Γ M (.Call (.Name x p) (e :: es) [] pos) Φ :=
  we_of (pe_callB hc hg hm hv pa_w hn hdb he hpl) fun σ G H a Q q => h σ G H a _ fun ρs M1 vs G1 H1 h1 s1 a1 r1 => h1 σ G1 H1 a1 vs r1 Q fun ρ M3 v G3 H3 h3 s3 => q ρ M3 v G3 H3 h3 (s1.trans s3)
theorem we_callTy {T : String} {r : List V → Hp → VK → Prop} (hc : CallR X (.type T) r) (hg : Gl X x) (hm : X.mg x = none) (hv : bootBuiltins x = some (.type T)) (h : WA X E Γ M (e :: es) fun ρs M' => CaW E Γ M' r ρs Φ) (hn : x ≠ "__name__" := by decide) (hdb : (x == ("__debug__" : Str)) = false := by decide)
    (he : starEach (e :: es) X.env = (false, eval e X.env) :: starEach es X.env := by rfl) (hpl : (backTo pos (starEach es X.env)).any (·.1) = false := by rfl) : WE X E Γ M (.Call (.Name x p) (e :: es) [] pos) Φ :=
  we_of (pe_callTy hc hg hm hv pa_w hn hdb he hpl) fun σ G H a Q q => h σ G H a _ fun ρs M1 vs G1 H1 h1 s1 a1 r1 => h1 σ G1 H1 a1 vs r1 Q fun ρ M3 v G3 H3 h3 s3 => q ρ M3 v G3 H3 h3 (s1.trans s3)

/-! ### a def keeps its promise -/
def startG (N : List Str) (ρs : List Rep) : Gm := ρs.map some ++ List.replicate (N.length - ρs.length) none
/-- at a return -/
def Rt (c : Con) (i : c.I) : Rep → Ow → Prop := fun ρ M => ∃ x rest, c.post i x ∧ Sub ρ (c.res i x) ∧ Pk M (c.own' i x) rest
def EdOf (c : Con) (i : c.I) : Ed := { nx := fun _ M => Rt c i RN M, rt := Rt c i }
theorem start_env {N : List Str} {G : Hp} {ρs : List Rep} {vs : List V} (r : Reps ρs vs G) : ∀ (i : Nat) (ρ : Rep), (startG N ρs)[i]? = some (some ρ) → ∃ v, (L2.start N vs)[i]? = some (some v) ∧ ρ.p v G := fun i ρ h => by
  have hl := r.length
  unfold startG at h
  unfold L2.start
  by_cases hi : i < ρs.length
  · rw [List.getElem?_append_left (by simpa using hi), List.getElem?_map] at h
    rw [List.getElem?_append_left (by simpa [← hl] using hi), List.getElem?_map]
    have e : ρs[i]? = some ρ := by simpa using h
    obtain ⟨v, e2, r2⟩ := r.get e
    exact ⟨v, by rw [e2]; rfl, r2⟩
  · rw [List.getElem?_append_right (by simp; omega)] at h
    by_cases h2 : i - (ρs.map some).length < N.length - ρs.length
    · rw [List.getElem?_replicate, if_pos h2] at h; cases h
    · rw [List.getElem?_eq_none (by simp at h2 ⊢; omega)] at h; cases h
abbrev xd (P : Program) (w : World) (K : PySem.W.Frag) (mg : Str → Option Value) (base : Heap) (N : List Str) (qual : Str) (sc : Scope) (f : Addr) (cd : Value) (A : Around) (outer : List Env) (s : Shared) (H : Hp) (EE : XK) : Cx :=
  (cxOf CX0 P w K mg base N qual sc f cd A outer s H EE).nox
theorem fn_con {P : Program} {w : World} {K : PySem.W.Frag} {mg : Str → Option Value} {base : Heap} {x qual : Str} {st : Stmt} {f : Addr} {fd : FuncData} {N ps : List Str} {k : Nat} (c : Con) (F : Fun K x qual st f fd) (S : FnScope N ps (defScope st)) (hl : ∀ i, (c.args i).length = ps.length)
    (h : ∀ (cd : Value) (A : Around) (outer : List Env) (s : Shared) (H : Hp) (EE : XK) (G : Hp) (i : c.I), c.pre i → Room k (A.deeper (PyProof.Rows.envOfC qual (defScope st) s.heap.objs.size f cd)) → (∀ a ∈ (c.own i).map (·.1), H a ≠ none) →
      WSs (xd P w K mg base N qual (defScope st) f cd A outer s H EE) ⟨G, H, (c.own i).map (·.1)⟩ (startG N (c.args i)) (c.own i) (defBody st) (EdOf c i)) : FnOk P w K mg base CX0 (k + 1) f fd ps (conSp c) := by
  refine F.ok S (fun vs H Q EE hh => ?_) fun cdv A outer s H vs Q EE hr hh => ?_
  · obtain ⟨G, i, _, _, r, _⟩ := hh
    rw [← r.length]; exact hl i
  · obtain ⟨G, i, gh, hp, r, o1, o2, o3, kk⟩ := hh
    refine ⟨tWSs _ (defBody st), pss_w, ?_⟩
    have hE : ∀ a ∈ (c.own i).map (·.1), H a ≠ none := fun a ha => by
      obtain ⟨q, hq, e⟩ := List.mem_map.mp ha
      obtain ⟨o, e2, _⟩ := o1 q hq
      rw [← e, e2]; simp
    have a0 : At ⟨G, H, (c.own i).map (·.1)⟩ (startG N (c.args i)) (c.own i) (L2.start N vs) G H :=
      ⟨by simp [startG, L2.start, r.length], start_env r, gh, o1, o2, o3, Same.refl _, fun _ _ _ e => e, fun _ _ hg => hg, fun q hq => .inl (List.mem_map.mpr ⟨q, hq, rfl⟩), fun _ h => h⟩
    have fin : ∀ ρ M, Rt c i ρ M → ∀ v G' H', At ⟨G, H, (c.own i).map (·.1)⟩ [] M [] G' H' → ρ.p v G' → Q v H' := fun ρ M ⟨x, rest, px, sb, pk⟩ v G' H' a rv => by
      obtain ⟨p1, p2, p3⟩ := a.picked pk
      have fm := pk.f a.nd
      refine kk x v G' H' px ⟨a.g0, a.gh, fun b u h1 h2 => a.keep b u h1 h2, fun b h1 h2 => a.nw b h1 h2, p1, p2, p3, fun q hq => ?_, fun b hb => a.there b hb⟩ (sb _ _ rv)
      obtain ⟨q', h1, h2, _⟩ := fm.own q hq
      rw [← h2]; exact a.loc q' h1
    exact h cdv A outer s H EE G i hp hr hE (L2.start N vs) G H a0 _ ⟨fun Γ M h' σ G' H' _ a' => fin _ _ h' _ _ _ a'.env0 rfl, fun ρ M h' v G' H' _ a' rv => fin _ _ h' _ _ _ a' rv, fun _ _ h' => h'.elim, fun _ _ h' => h'.elim⟩
end
end MM

namespace MM
open PySem L2 PyProof.Rows
section
variable {X : Cx} {E : En} {Γ : Gm} {M : Ow} {a b e c tg iter elt : Expr} {es : List Expr} {pos p apos : Pos} {Φ : Rep → Ow → Prop} {Ψ : Ed} {body : List Stmt}
theorem ws_while (hp : PassesOwn (model X.prog X.w) X.A X.env X.xe) (I : Nat → Gm → Ow → Prop) (n0 : Nat) (h0 : I n0 Γ M)
    (hs : ∀ n Γ1 M1, I n Γ1 M1 → WT X E Γ1 M1 c fun k M2 => (k = true → WSs X E Γ1 M2 body { nx := fun Γ3 M3 => ∃ m, m < n ∧ I m Γ3 M3, ct := fun Γ3 M3 => ∃ m, m < n ∧ I m Γ3 M3, bk := Ψ.nx, rt := Ψ.rt }) ∧ (k = false → Ψ.nx Γ1 M2)) :
    WS X E Γ M (.While c body [] pos) Ψ :=
  ws_of (ps_while hp pt_w pss_w) fun σ G H a D k => by
    refine ⟨fun m σ H => ∃ Γ1 M1 G1, I m Γ1 M1 ∧ Same G G1 ∧ At E Γ1 M1 σ G1 H, ⟨n0, Γ, M, G, h0, Same.refl _, a⟩, ?_⟩
    rintro m σ1 H1 ⟨Γ1, M1, G1, hI, s1, a1⟩
    refine hs m Γ1 M1 hI σ1 G1 H1 a1 _ fun b M2 G2 H2 hk s2 a2 => ?_
    cases b with
    | false =>
      show D.nx σ1 H2
      exact k.nx _ _ (hk.2 rfl) _ _ _ (s1.trans s2) a2
    | true =>
      show ∃ N : L2.St → Hp → Prop, _
      refine ⟨fun σ' H' => ∃ m', m' < m ∧ ∃ Γ1 M1 G1, I m' Γ1 M1 ∧ Same G G1 ∧ At E Γ1 M1 σ' G1 H', fun σ' H' h => h, ?_⟩
      have ks := k.mono (s1.trans s2)
      exact hk.1 rfl σ1 G2 H2 a2 _ ⟨fun Γ3 M3 ⟨m', hm, hI'⟩ σ' G' H' s' a' => ⟨m', hm, Γ3, M3, G', hI', (s1.trans s2).trans s', a'⟩, ks.rt, ks.nx, fun Γ3 M3 ⟨m', hm, hI'⟩ σ' G' H' s' a' => ⟨m', hm, Γ3, M3, G', hI', (s1.trans s2).trans s', a'⟩⟩
/-- what a for asks: the invariant by the turn -/
def ForK (X : Cx) (E : En) (Γ : Gm) (M : Ow) (tg : Expr) (body : List Stmt) (Ψ : Ed) (n : Nat) (item : Nat → Rep → Prop) : Prop :=
  ∃ I : Nat → Gm → Ow → Prop, I 0 Γ M ∧ (∀ i ρ Γ1 M1, i < n → item i ρ → I i Γ1 M1 → WG X E Γ1 M1 tg ρ fun Γ2 M2 => WSs X E Γ2 M2 body { nx := I (i + 1), ct := I (i + 1), bk := Ψ.nx, rt := Ψ.rt }) ∧ ∀ Γ1 M1, I n Γ1 M1 → Ψ.nx Γ1 M1
theorem for_turn {I : Nat → Gm → Ow → Prop} {G : Hp} {D : Ends} {i : Nat} {ρ : Rep} {Γ1 : Gm} {M1 : Ow} (k : Cov E G Ψ D) (h : WG X E Γ1 M1 tg ρ fun Γ2 M2 => WSs X E Γ2 M2 body { nx := I (i + 1), ct := I (i + 1), bk := Ψ.nx, rt := Ψ.rt })
    {σ : L2.St} {G1 H : Hp} (s1 : Same G G1) (a : At E Γ1 M1 σ G1 H) {x : V} (r : ρ.p x G1) :
    tWG X tg x σ H fun σ2 H2 => tWSs X body { D with nx := fun σ' H' => ∃ Γ' M' G', I (i + 1) Γ' M' ∧ Same G G' ∧ At E Γ' M' σ' G' H', ct := fun σ' H' => ∃ Γ' M' G', I (i + 1) Γ' M' ∧ Same G G' ∧ At E Γ' M' σ' G' H', bk := D.nx } σ2 H2 := by
  refine h σ G1 H a x r _ fun Γ2 M2 σ2 G2 H2 h2 s2 a2 => ?_
  have ks := k.mono (s1.trans s2)
  exact h2 σ2 G2 H2 a2 _ ⟨fun Γ3 M3 hI σ' G' H' s' a' => ⟨Γ3, M3, G', hI, (s1.trans s2).trans s', a'⟩, ks.rt, ks.nx, fun Γ3 M3 hI σ' G' H' s' a' => ⟨Γ3, M3, G', hI, (s1.trans s2).trans s', a'⟩⟩
theorem ws_for_list (hp : PassesOwn (model X.prog X.w) X.A X.env X.xe) (hc : X.calm = true)
    (h : WE X E Γ M iter fun ρ M1 => ∃ ρs, Sub ρ (RL X.K ρs) ∧ ForK X E Γ M1 tg body Ψ ρs.length fun i ρ => ρs[i]? = some ρ)
    (hs : ∀ x, foldedSetIterable iter X.env x = pure x := by intro _; rfl) : WS X E Γ M (.For tg iter body [] pos) Ψ :=
  ws_of (ps_for hp hc (pi_list pe_w) pg_w pss_w hs) fun σ G H a D k => h σ G H a _ fun ρ M1 v G1 H1 ⟨ρs, sb, I, h0, ht, hd⟩ s1 a1 r1 => by
    obtain ⟨b, vs, e, hq, rr⟩ := sb _ _ r1
    have ks := k.mono s1
    refine ⟨b, e, ⟨vs, Same.seq a1.gh hq⟩, for_list (K := X.K) (a := b) (xs := vs) (fun i σ H => ∃ Γ' M' G', I i Γ' M' ∧ Same G1 G' ∧ At E Γ' M' σ G' H) ⟨Γ, M1, G1, h0, Same.refl _, a1⟩ (fun i σ H _ ⟨_, _, G', _, s', a'⟩ => Same.seq (s'.trans a'.gh) hq) ?_ ?_⟩
    · rintro i x σ H hx ⟨Γ', M', G', hI, s', a'⟩
      obtain ⟨ρi, e1, r2⟩ := (rr.mono s').get2 hx
      exact for_turn ks (ht i ρi Γ' M' (List.getElem?_eq_some_iff.mp e1).1 e1 hI) s' a' r2
    · rintro σ H ⟨Γ', M', G', hI, s', a'⟩
      exact ks.nx _ _ (hd _ _ (by rw [rr.length]; exact hI)) _ _ _ s' a'
theorem ws_for_tup (hp : PassesOwn (model X.prog X.w) X.A X.env X.xe) (hc : X.calm = true)
    (h : WE X E Γ M iter fun ρ M1 => ∃ ρs, Sub ρ (RT X.K ρs) ∧ ForK X E Γ M1 tg body Ψ ρs.length fun i ρ => ρs[i]? = some ρ)
    (hs : ∀ x, foldedSetIterable iter X.env x = pure x := by intro _; rfl) : WS X E Γ M (.For tg iter body [] pos) Ψ :=
  ws_of (ps_for hp hc (pi_tup pe_w) pg_w pss_w hs) fun σ G H a D k => h σ G H a _ fun ρ M1 v G1 H1 ⟨ρs, sb, I, h0, ht, hd⟩ s1 a1 r1 => by
    obtain ⟨b, vs, e, hq, rr⟩ := sb _ _ r1
    have ks := k.mono s1
    refine ⟨b, e, ⟨vs, same_seqT a1.gh hq⟩, for_tup (K := X.K) (a := b) (xs := vs) (fun i σ H => ∃ Γ' M' G', I i Γ' M' ∧ Same G1 G' ∧ At E Γ' M' σ G' H) ⟨Γ, M1, G1, h0, Same.refl _, a1⟩ (fun i σ H _ ⟨_, _, G', _, s', a'⟩ => same_seqT (s'.trans a'.gh) hq) ?_ ?_⟩
    · rintro i x σ H hx ⟨Γ', M', G', hI, s', a'⟩
      obtain ⟨ρi, e1, r2⟩ := (rr.mono s').get2 hx
      exact for_turn ks (ht i ρi Γ' M' (List.getElem?_eq_some_iff.mp e1).1 e1 hI) s' a' r2
    · rintro σ H ⟨Γ', M', G', hI, s', a'⟩
      exact ks.nx _ _ (hd _ _ (by rw [rr.length]; exact hI)) _ _ _ s' a'
theorem ws_for_range1 (hp : PassesOwn (model X.prog X.w) X.A X.env X.xe) (hc : X.calm = true) (hg : Gl X "range") (hm : X.mg "range" = none)
    (h : WA X E Γ M [a] fun ρs M1 => ∃ j : Int, SubL ρs [RI j] ∧ (-(2 ^ 62) ≤ j ∧ j < 2 ^ 62) ∧ ForK X E Γ M1 tg body Ψ j.toNat fun i ρ => ρ = RI (i : Int))
    (hse : starEach [a] X.env = [(false, eval a X.env)] := by rfl) (hs : ∀ x, foldedSetIterable (.Call (.Name "range" p) [a] [] apos) X.env x = pure x := by intro _; rfl) : WS X E Γ M (.For tg (.Call (.Name "range" p) [a] [] apos) body [] pos) Ψ :=
  ws_of (ps_for hp hc (pi_range1 hg hm pa_w hse) pg_w pss_w hs) fun σ G H a D k => h σ G H a _ fun ρs M1 vs G1 H1 ⟨j, sb, ⟨b1, b2⟩, I, h0, ht, hd⟩ s1 a1 r1 => by
    have ks := k.mono s1
    have e : vs = [.int j] := by
      match vs, sb.reps r1 with
      | [v], ⟨r, _⟩ => exact congrArg (fun z => [z]) r
    refine ⟨j, e, b1, b2, for_range (lo := 0) (fun i σ H => ∃ Γ' M' G', I i Γ' M' ∧ Same G1 G' ∧ At E Γ' M' σ G' H) ⟨Γ, M1, G1, h0, Same.refl _, a1⟩ ?_ ?_⟩
    · rintro i σ H hx ⟨Γ', M', G', hI, s', a'⟩
      exact for_turn ks (ht i _ Γ' M' hx rfl hI) s' a' (by rw [Int.zero_add]; rfl)
    · rintro σ H ⟨Γ', M', G', hI, s', a'⟩
      exact ks.nx _ _ (hd _ _ hI) _ _ _ s' a'
theorem ws_for_range2 (hp : PassesOwn (model X.prog X.w) X.A X.env X.xe) (hc : X.calm = true) (hg : Gl X "range") (hm : X.mg "range" = none)
    (h : WA X E Γ M [a, b] fun ρs M1 => ∃ i j : Int, SubL ρs [RI i, RI j] ∧ (-(2 ^ 62) ≤ i ∧ i < 2 ^ 62 ∧ -(2 ^ 62) ≤ j ∧ j < 2 ^ 62) ∧ ForK X E Γ M1 tg body Ψ (j - i).toNat fun n ρ => ρ = RI (i + n))
    (hse : starEach [a, b] X.env = [(false, eval a X.env), (false, eval b X.env)] := by rfl) (hs2 : starEach [b] X.env = [(false, eval b X.env)] := by rfl) (hs : ∀ x, foldedSetIterable (.Call (.Name "range" p) [a, b] [] apos) X.env x = pure x := by intro _; rfl) : WS X E Γ M (.For tg (.Call (.Name "range" p) [a, b] [] apos) body [] pos) Ψ :=
  ws_of (ps_for hp hc (pi_range2 hg hm pa_w hse hs2) pg_w pss_w hs) fun σ G H a D k => h σ G H a _ fun ρs M1 vs G1 H1 ⟨i0, j, sb, bs, I, h0, ht, hd⟩ s1 a1 r1 => by
    have ks := k.mono s1
    have e : vs = [.int i0, .int j] := by
      match vs, sb.reps r1 with
      | [v, w], ⟨r, r', _⟩ =>
        have r : v = .int i0 := r
        have r' : w = .int j := r'
        rw [r, r']
    refine ⟨i0, j, e, bs, for_range (lo := i0) (fun i σ H => ∃ Γ' M' G', I i Γ' M' ∧ Same G1 G' ∧ At E Γ' M' σ G' H) ⟨Γ, M1, G1, h0, Same.refl _, a1⟩ ?_ ?_⟩
    · rintro i σ H hx ⟨Γ', M', G', hI, s', a'⟩
      exact for_turn ks (ht i _ Γ' M' hx rfl hI) s' a' rfl
    · rintro σ H ⟨Γ', M', G', hI, s', a'⟩
      exact ks.nx _ _ (hd _ _ hI) _ _ _ s' a'

/-! ### an owned list is given up -/
theorem we_freeze (h : WE X E Γ M e fun ρ M' => ∃ p ρs M2, Sub ρ (RRef p) ∧ Rm M' p (OL ρs) M2 ∧ p ∉ E.M ∧ Φ (RLt ρs) M2) : WE X E Γ M e Φ := fun σ G H a Q q =>
  h σ G H a Q fun ρ M' v G1 H1 ⟨p, ρs, M2, sb, rm, hp, hk⟩ s1 a1 r1 => by
    obtain ⟨o, e1, ⟨vs, e2, rf⟩, sg, a2⟩ := a1.freeze rm hp
    subst e2
    have : v = .ref p := sb _ _ r1
    subst this
    exact q _ _ _ _ _ hk (s1.trans sg) a2 ⟨p, vs, rfl, upd_same, rf.mono sg⟩
theorem wss_freeze {st : List Stmt} (i : Nat) {p : Addr} {ρs : List Rep} {M2 : Ow} (hΓ : Γ[i]? = some (some (RRef p))) (rm : Rm M p (OL ρs) M2) (hp : p ∉ E.M) (h : WSs X E (Γ.set i (some (RLt ρs))) M2 st Ψ) : WSs X E Γ M st Ψ := fun σ G H a D k => by
  obtain ⟨v, e0, r0⟩ := a.env i _ hΓ
  have r0 : v = .ref p := r0
  subst r0
  obtain ⟨o, e1, ⟨vs, e2, rf⟩, sg, a2⟩ := a.freeze rm hp
  subst e2
  have a3 := a2.set (i := i) (ρ := RLt ρs) (v := .ref p) ⟨p, vs, rfl, upd_same, rf.mono sg⟩
  have e4 : σ.set i (some (V.ref p)) = σ := by
    refine List.ext_getElem? fun j => ?_
    by_cases hj : i = j
    · subst hj
      have hl : i < σ.length := (List.getElem?_eq_some_iff.mp e0).1
      rw [List.getElem?_set_self hl, e0]
    · rw [List.getElem?_set_ne hj]
  rw [e4] at a3
  exact h σ _ H a3 D (k.mono sg)
theorem wss_weak {Γ' : Gm} {st : List Stmt} (w : Wk Γ Γ') (h : WSs X E Γ' M st Ψ) : WSs X E Γ M st Ψ := fun σ G H a D k => h σ G H (a.weak w) D k

/-! ### list comprehensions -/
def wipeG (Γ : Gm) : List Nat → Gm
  | [] => Γ
  | v :: vs => (wipeG Γ vs).set v none
theorem At.wipe {σ : L2.St} {G H : Hp} (a : At E Γ M σ G H) : ∀ vs : List Nat, At E (wipeG Γ vs) M (L2.wipe σ vs) G H
  | [] => a
  | v :: vs => by
    have b := At.wipe a vs
    unfold wipeG L2.wipe
    refine ⟨by simp [b.len], fun i ρ h => ?_, b.gh, b.own, b.gn, b.nd, b.g0, b.keep, b.nw, b.loc, b.there⟩
    by_cases hi : v = i
    · subst hi
      by_cases hv : v < (wipeG Γ vs).length
      · rw [List.getElem?_set_self hv] at h; cases h
      · rw [List.getElem?_eq_none (by simpa using hv)] at h; cases h
    · rw [List.getElem?_set_ne hi] at h
      obtain ⟨w, e, r⟩ := b.env i ρ h
      exact ⟨w, by rw [List.getElem?_set_ne hi]; exact e, r⟩
theorem At.back {σ σ' : L2.St} {G H G' H' : Hp} {Γ' : Gm} {M' : Ow} (a : At E Γ M σ G H) (b : At E Γ' M' σ' G' H') (s : Same G G') : At E Γ M' σ G' H' :=
  ⟨a.len, fun i ρ h => let ⟨v, e, r⟩ := a.env i ρ h; ⟨v, e, ρ.mono _ _ _ s r⟩, b.gh, b.own, b.gn, b.nd, b.g0, b.keep, b.nw, b.loc, b.there⟩
/-- a block's target: one name, or a tuple of names; what it leaves in the slots -/
structure BlkT (K : PySem.W.Frag) (t : TG) (vs : List Nat) (ρ : Rep) (f : Gm → Gm) : Prop where
  run : ∀ {E : En} {Γ : Gm} {M : Ow} {σ : L2.St} {G H : Hp} {v : V} (Q : L2.St → Hp → Prop), At E Γ M (L2.wipe σ vs) G H → ρ.p v G → (∀ σ', L2.wipe σ' vs = L2.wipe σ vs → At E (f Γ) M σ' G H → Q σ' H) → t v (L2.wipe σ vs) H Q
theorem wipe_set {σ : L2.St} {i : Nat} {o : Option V} : ∀ {vs : List Nat}, i ∈ vs → L2.wipe (σ.set i o) vs = L2.wipe σ vs
  | v :: vs, h => by
    unfold L2.wipe
    by_cases hi : i = v
    · subst hi
      by_cases hm : i ∈ vs
      · rw [wipe_set hm]
      · have : L2.wipe (σ.set i o) vs = (L2.wipe σ vs).set i o := by
          clear h
          induction vs with
          | nil => rfl
          | cons u us ih =>
            have h1 : i ≠ u := fun z => hm (by rw [z]; exact List.mem_cons_self)
            have h2 : i ∉ us := fun z => hm (List.mem_cons_of_mem _ z)
            show (L2.wipe (σ.set i o) us).set u none = ((L2.wipe σ us).set u none).set i o
            rw [ih h2, List.set_comm _ _ h1]
        rw [this, List.set_set]
    · have hm : i ∈ vs := by
        rcases List.mem_cons.mp h with e | hm
        · exact absurd e hi
        · exact hm
      rw [wipe_set hm]
theorem wipe_wipe {σ : L2.St} : ∀ {vs ws : List Nat}, (∀ v ∈ ws, v ∈ vs) → L2.wipe (L2.wipe σ ws) vs = L2.wipe σ vs
  | vs, [], _ => rfl
  | vs, w :: ws, h => by
    show L2.wipe ((L2.wipe σ ws).set w none) vs = _
    rw [wipe_set (h w List.mem_cons_self)]
    exact wipe_wipe fun v hv => h v (List.mem_cons_of_mem _ hv)
theorem blkT_name {K : PySem.W.Frag} {vs : List Nat} {ρ : Rep} (i : Nat) (hi : i ∈ vs) : BlkT K (gName i) vs ρ fun Γ => Γ.set i (some ρ) :=
  ⟨fun {E Γ M σ G H v} Q a r k => k _ (by rw [wipe_set hi, wipe_wipe fun _ h => h]) (a.set r)⟩
def gNames : List Nat → TGs
  | [] => gNil
  | i :: is => gCons (gName i) (gNames is)
def setAll : List Nat → List Rep → Gm → Gm
  | i :: is, ρ :: ρs, Γ => setAll is ρs (Γ.set i (some ρ))
  | _, _, Γ => Γ
theorem gNames_run {vs : List Nat} : ∀ {is : List Nat} {ρs : List Rep} {xs : List V} {E : En} {Γ : Gm} {M : Ow} {σ σ0 : L2.St} {G H : Hp} (Q : L2.St → Hp → Prop), (∀ i ∈ is, i ∈ vs) → is.length = ρs.length → At E Γ M σ G H → L2.wipe σ vs = L2.wipe σ0 vs → Reps ρs xs G →
    (∀ σ', L2.wipe σ' vs = L2.wipe σ0 vs → At E (setAll is ρs Γ) M σ' G H → Q σ' H) → gNames is xs σ H Q
  | [], [], [], _, _, _, σ, _, _, H, Q, _, _, a, e, _, k => ⟨rfl, k σ e a⟩
  | i :: is, ρ :: ρs, x :: xs, _, _, _, σ, _, _, H, Q, hi, hl, a, e, r, k => ⟨x, xs, rfl, gNames_run (vs := vs) (is := is) (ρs := ρs) Q (fun j hj => hi j (List.mem_cons_of_mem _ hj)) (by simpa using hl) (a.set r.1) (by rw [wipe_set (hi i List.mem_cons_self)]; exact e) r.2 k⟩
  | [], _ :: _, _, _, _, _, _, _, _, _, _, _, hl, _, _, _, _ => by simp at hl
  | _ :: _, [], _, _, _, _, _, _, _, _, _, _, hl, _, _, _, _ => by simp at hl
  | [], [], _ :: _, _, _, _, _, _, _, _, _, _, _, _, _, r, _ => r.elim
  | _ :: _, _ :: _, [], _, _, _, _, _, _, _, _, _, _, _, _, r, _ => r.elim
theorem blkT_tup {K : PySem.W.Frag} {vs is : List Nat} {ρ : Rep} {ρs : List Rep} (hi : ∀ i ∈ is, i ∈ vs) (hl : is.length = ρs.length) (sb : Sub ρ (RT K ρs)) : BlkT K (gTup K is.length (gNames is)) vs ρ (setAll is ρs) :=
  ⟨fun {E Γ M σ G H v} Q a r k => by
    obtain ⟨b, ws, e, hq, rr⟩ := sb _ _ r
    refine ⟨b, ws, e, same_seqT a.gh hq, by rw [hl, rr.length], gNames_run (σ0 := σ) Q hi hl a (wipe_wipe fun _ h => h) rr k⟩⟩
/-- the readings of a block's element and test, of whatever context -/
def tBE (X : Cx) (scope : Scope) (e : Expr) : TE := fun σ H Q => ∀ (s : Shared) (H0 : Hp) (C : Addr) (cl : List (Str × Addr)) (fp : List Addr), tW (X.blk s H0 scope (compEnvC scope cl C X.env) fp) e σ H Q
def tBT (X : Cx) (scope : Scope) (e : Expr) : TT := fun σ H Q => ∀ (s : Shared) (H0 : Hp) (C : Addr) (cl : List (Str × Addr)) (fp : List Addr), tWT (X.blk s H0 scope (compEnvC scope cl C X.env) fp) e σ H Q
theorem pe_blk {scope : Scope} (s : Shared) (H : Hp) (C : Addr) (cl : List (Str × Addr)) (fp : List Addr) : PE (X.blk s H scope (compEnvC scope cl C X.env) fp) e (tBE X scope e) := ⟨fun pins s' σ H' Q I h => h s H C cl fp pins s' I⟩
theorem pt_blk {scope : Scope} (s : Shared) (H : Hp) (C : Addr) (cl : List (Str × Addr)) (fp : List Addr) : PT (X.blk s H scope (compEnvC scope cl C X.env) fp) e (tBT X scope e) := ⟨fun pins s' σ H' Q I h => h s H C cl fp pins s' I⟩
/-- a turn: the element is evaluated, and put behind what is made so far -/
def LcTurn (X : Cx) (E : En) (Γ : Gm) (M1 : Ow) (scope : Scope) (elt : Expr) (D : Addr) (o : List Rep) (K : List Rep → Ow → Prop) : Prop :=
  ∀ (s : Shared) (H0 : Hp) (C : Addr) (cl : List (Str × Addr)) (fp : List Addr), WE (X.blk s H0 scope (compEnvC scope cl C X.env) fp) E Γ ((D, OL o) :: M1) elt fun ρ M2 => ∃ M3 ρ', M2 = (D, OL o) :: M3 ∧ Sub ρ ρ' ∧ o.length < 100000 ∧ K (o ++ [ρ']) M3
def LcTest (X : Cx) (E : En) (Γ : Gm) (M1 : Ow) (scope : Scope) (tst : Expr) (D : Addr) (o : List Rep) (K : Bool → Ow → Prop) : Prop :=
  ∀ (s : Shared) (H0 : Hp) (C : Addr) (cl : List (Str × Addr)) (fp : List Addr), WT (X.blk s H0 scope (compEnvC scope cl C X.env) fp) E Γ ((D, OL o) :: M1) tst fun k M2 => ∃ M3, M2 = (D, OL o) :: M3 ∧ K k M3
/-- what a comprehension asks -/
def LcK (X : Cx) (E : En) (Γ : Gm) (M : Ow) (scope : Scope) (vs : List Nat) (elt : Expr) (tg : TG) (n : Nat) (item : Nat → Rep → Prop) (Φ : Rep → Ow → Prop) : Prop :=
  ∃ I : Nat → List Rep → Ow → Prop, I 0 [] M ∧ (∀ i ρ o M1 D, i < n → item i ρ → I i o M1 → ∃ f, BlkT X.K tg vs ρ f ∧ LcTurn X E (f (wipeG Γ vs)) M1 scope elt D o (I (i + 1))) ∧ ∀ D o M1, D ∉ E.M → D ∉ M1.map (·.1) → I n o M1 → Φ (RRef D) ((D, OL o) :: M1)
def LcKT (X : Cx) (E : En) (Γ : Gm) (M : Ow) (scope : Scope) (vs : List Nat) (elt tst : Expr) (tg : TG) (n : Nat) (item : Nat → Rep → Prop) (Φ : Rep → Ow → Prop) : Prop :=
  ∃ I : Nat → List Rep → Ow → Prop, I 0 [] M ∧ (∀ i ρ o M1 D, i < n → item i ρ → I i o M1 → ∃ f, BlkT X.K tg vs ρ f ∧ LcTest X E (f (wipeG Γ vs)) M1 scope tst D o fun k M2 => (k = true → LcTurn X E (f (wipeG Γ vs)) M2 scope elt D o (I (i + 1))) ∧ (k = false → I (i + 1) o M2)) ∧ ∀ D o M1, D ∉ E.M → D ∉ M1.map (·.1) → I n o M1 → Φ (RRef D) ((D, OL o) :: M1)
/-- the turn's reading -/
theorem lc_turn {scope : Scope} {vs : List Nat} {tg : TG} {σ : L2.St} {D : Addr} {o : List Rep} {M1 : Ow} {Kc : List Rep → Ow → Prop} {f : Gm → Gm} {ρ : Rep} {x : V} {G H : Hp} {N : Hp → Prop}
    (bt : BlkT X.K tg vs ρ f) (ht : LcTurn X E (f (wipeG Γ vs)) M1 scope elt D o Kc) (a : At E (wipeG Γ vs) ((D, OL o) :: M1) (L2.wipe σ vs) G H) (r : ρ.p x G)
    (k : ∀ o' M2 σ2 G2 H2 Γ2, Kc o' M2 → Same G G2 → At E Γ2 ((D, OL o') :: M2) σ2 G2 H2 → N H2) :
    tg x (L2.wipe σ vs) H fun σ2 H2 => L2.wipe σ2 vs = L2.wipe σ vs ∧ tYes σ2 H2 fun b H3 => if b = true then tBE X scope elt σ2 H3 fun y H4 => ∃ acc, H4 D = some (.lst acc) ∧ acc.length < sizeLine ∧ N (upd H4 D (.lst (acc ++ [y]))) else N H3 := by
  refine bt.run _ a r fun σ' e a1 => ⟨e, ?_⟩
  show tBE X scope elt σ' H _
  intro s H0 C cl fp
  refine ht s H0 C cl fp σ' G H a1 _ fun ρ2 M2 v G2 H2 ⟨M3, ρ', e2, sb, hl, hk⟩ s2 a2 r2 => ?_
  subst e2
  obtain ⟨u, e3, ws, e4, rf⟩ := a2.own _ List.mem_cons_self
  subst e4
  refine ⟨ws, e3, Nat.lt_of_lt_of_le (by rw [← rf.length]; exact hl) (szOf (Nat.le_refl _)), ?_⟩
  exact k _ _ _ _ _ _ hk s2 (a2.write (r' := OL (o ++ [ρ'])) Fnd.here ⟨_, rfl, rf.app ⟨sb _ _ r2, trivial⟩⟩)
theorem lc_turnT {tst : Expr} {scope : Scope} {vs : List Nat} {tg : TG} {σ : L2.St} {D : Addr} {o : List Rep} {M1 : Ow} {Kc : List Rep → Ow → Prop} {f : Gm → Gm} {ρ : Rep} {x : V} {G H : Hp} {N : Hp → Prop}
    (bt : BlkT X.K tg vs ρ f) (ht : LcTest X E (f (wipeG Γ vs)) M1 scope tst D o fun k M2 => (k = true → LcTurn X E (f (wipeG Γ vs)) M2 scope elt D o Kc) ∧ (k = false → Kc o M2)) (a : At E (wipeG Γ vs) ((D, OL o) :: M1) (L2.wipe σ vs) G H) (r : ρ.p x G)
    (k : ∀ o' M2 σ2 G2 H2 Γ2, Kc o' M2 → Same G G2 → At E Γ2 ((D, OL o') :: M2) σ2 G2 H2 → N H2) :
    tg x (L2.wipe σ vs) H fun σ2 H2 => L2.wipe σ2 vs = L2.wipe σ vs ∧ tBT X scope tst σ2 H2 fun b H3 => if b = true then tBE X scope elt σ2 H3 fun y H4 => ∃ acc, H4 D = some (.lst acc) ∧ acc.length < sizeLine ∧ N (upd H4 D (.lst (acc ++ [y]))) else N H3 := by
  refine bt.run _ a r fun σ' e a1 => ⟨e, ?_⟩
  intro s H0 C cl fp
  refine ht s H0 C cl fp σ' G H a1 _ fun b M2 G2 H2 ⟨M3, e2, h1, h2⟩ s2 a2 => ?_
  subst e2
  cases b with
  | false =>
    show N H2
    exact k _ _ _ _ _ _ (h2 rfl) s2 a2
  | true =>
    show tBE X scope elt σ' H2 _
    intro s H0 C cl fp
    refine h1 rfl s H0 C cl fp σ' G2 H2 a2 _ fun ρ2 M4 v G3 H3 ⟨M5, ρ', e5, sb, hl, hk⟩ s3 a3 r2 => ?_
    subst e5
    obtain ⟨u, e3, ws, e4, rf⟩ := a3.own _ List.mem_cons_self
    subst e4
    refine ⟨ws, e3, Nat.lt_of_lt_of_le (by rw [← rf.length]; exact hl) (szOf (Nat.le_refl _)), ?_⟩
    exact k _ _ _ _ _ _ hk (s2.trans s3) (a3.write (r' := OL (o ++ [ρ'])) Fnd.here ⟨_, rfl, rf.app ⟨sb _ _ r2, trivial⟩⟩)
/-- an abstract source of items: from where it begins, how it is walked -/
structure Src (X : Cx) (E : En) (Γ : Gm) (M : Ow) (wi : TI) (Z : Ow → Nat → (Nat → Rep → Prop) → Prop) : Prop where
  lc : ∀ {σ : L2.St} {G H : Hp} (R : It → Hp → Prop), At E Γ M σ G H →
    (∀ J M1 n item G1 H1, Z M1 n item → Same G G1 → At E Γ M1 σ G1 H1 → (∀ i H2 G2, Same G1 G2 → Same G2 H2 → (i < n → J.go i H2) ∧ (n ≤ i → J.stop i H2) ∧ ∀ x H3, i < n → J.yld i H2 x H3 → ∃ G3 ρ, New G2 H2 G3 H3 ∧ item i ρ ∧ ρ.p x G3) → R J H1) → wi σ H R
theorem src_list (h : WE X E Γ M iter fun ρ M1 => ∃ ρs, Sub ρ (RL X.K ρs) ∧ Z M1 ρs.length fun i ρ => ρs[i]? = some ρ) : Src X E Γ M (iList X.K (tW X iter)) Z :=
  ⟨fun {σ G H} R a k => h σ G H a _ fun ρ M1 v G1 H1 ⟨ρs, sb, hz⟩ s1 a1 r1 => by
    obtain ⟨b, vs, e, hq, rr⟩ := sb _ _ r1
    refine ⟨b, e, ⟨vs, Same.seq a1.gh hq⟩, k _ _ _ _ _ _ hz s1 a1 fun i H2 G2 s2 g2 => ⟨fun hi => ⟨vs, vs[i]'(by rw [← rr.length]; exact hi), Same.seq (s2.trans g2) hq, by simp [← rr.length, hi]⟩, fun hi => ⟨vs, Same.seq (s2.trans g2) hq, by rw [← rr.length]; exact hi⟩, fun x H3 hi ⟨e3, y⟩ => ?_⟩⟩
    subst e3
    obtain ⟨ρi, e4, r4⟩ := (rr.mono s2).get2 (y vs (Same.seq (s2.trans g2) hq))
    exact ⟨G2, ρi, New.refl g2, e4, r4⟩⟩
theorem src_tup (h : WE X E Γ M iter fun ρ M1 => ∃ ρs, Sub ρ (RT X.K ρs) ∧ Z M1 ρs.length fun i ρ => ρs[i]? = some ρ) : Src X E Γ M (iTup X.K (tW X iter)) Z :=
  ⟨fun {σ G H} R a k => h σ G H a _ fun ρ M1 v G1 H1 ⟨ρs, sb, hz⟩ s1 a1 r1 => by
    obtain ⟨b, vs, e, hq, rr⟩ := sb _ _ r1
    refine ⟨b, e, ⟨vs, same_seqT a1.gh hq⟩, k _ _ _ _ _ _ hz s1 a1 fun i H2 G2 s2 g2 => ⟨fun hi => ⟨vs, vs[i]'(by rw [← rr.length]; exact hi), same_seqT (s2.trans g2) hq, by simp [← rr.length, hi]⟩, fun hi => ⟨vs, same_seqT (s2.trans g2) hq, by rw [← rr.length]; exact hi⟩, fun x H3 hi ⟨e3, y⟩ => ?_⟩⟩
    subst e3
    obtain ⟨ρi, e4, r4⟩ := (rr.mono s2).get2 (y vs (same_seqT (s2.trans g2) hq))
    exact ⟨G2, ρi, New.refl g2, e4, r4⟩⟩
theorem src_range1 (h : WA X E Γ M [a] fun ρs M1 => ∃ j : Int, SubL ρs [RI j] ∧ (-(2 ^ 62) ≤ j ∧ j < 2 ^ 62) ∧ Z M1 j.toNat fun i ρ => ρ = RI (i : Int)) : Src X E Γ M (iRng1 (tWA X [a])) Z :=
  ⟨fun {σ G H} R a' k => h σ G H a' _ fun ρs M1 vs G1 H1 ⟨j, sb, ⟨b1, b2⟩, hz⟩ s1 a1 r1 => by
    have e : vs = [.int j] := by
      match vs, sb.reps r1 with
      | [v], ⟨r, _⟩ => exact congrArg (fun z => [z]) r
    refine ⟨j, e, b1, b2, k _ _ _ _ _ _ hz s1 a1 fun i H2 G2 s2 g2 => ⟨fun hi => hi, fun hi => hi, fun x H3 hi ⟨e3, y⟩ => ?_⟩⟩
    subst e3
    exact ⟨G2, _, New.refl g2, rfl, by rw [y, Int.zero_add]; rfl⟩⟩
theorem src_range2 (h : WA X E Γ M [a, b] fun ρs M1 => ∃ i j : Int, SubL ρs [RI i, RI j] ∧ (-(2 ^ 62) ≤ i ∧ i < 2 ^ 62 ∧ -(2 ^ 62) ≤ j ∧ j < 2 ^ 62) ∧ Z M1 (j - i).toNat fun n ρ => ρ = RI (i + n)) : Src X E Γ M (iRng2 (tWA X [a, b])) Z :=
  ⟨fun {σ G H} R a' k => h σ G H a' _ fun ρs M1 vs G1 H1 ⟨i0, j, sb, bs, hz⟩ s1 a1 r1 => by
    have e : vs = [.int i0, .int j] := by
      match vs, sb.reps r1 with
      | [v, w], ⟨r, r', _⟩ =>
        have r : v = .int i0 := r
        have r' : w = .int j := r'
        rw [r, r']
    refine ⟨i0, j, e, bs, k _ _ _ _ _ _ hz s1 a1 fun i H2 G2 s2 g2 => ⟨fun hi => hi, fun hi => hi, fun x H3 hi ⟨e3, y⟩ => ?_⟩⟩
    subst e3
    exact ⟨G2, _, New.refl g2, rfl, y⟩⟩
theorem wte_lc {scope : Scope} {vs : List Nat} {wi : TI} {tg : TG} (src : Src X E Γ M wi fun M1 n item => LcK X E Γ M1 scope vs elt tg n item Φ) (hE : ∀ a ∈ E.M, E.H a ≠ none) : WTE E Γ M (tLc wi tg tYes (tBE X scope elt) vs) Φ := fun σ G H a Q q =>
  src.lc _ a fun J M1 n item G1 H1 ⟨I, h0, ht, hd⟩ s1 a1 hJ => by
    intro D hD
    have aD := a1.own1 (r := OL []) hD ⟨[], rfl, trivial⟩
    have dE : D ∉ E.M := fun z => hE D z (a1.fresh hD)
    refine ⟨fun i m H2 => m = n - i ∧ i ≤ n ∧ ∃ o M2 G2 Γ2 σ2, I i o M2 ∧ Same G1 G2 ∧ At E Γ2 ((D, OL o) :: M2) σ2 G2 H2, ⟨n, by simp, Nat.zero_le _, [], M1, G1, Γ, σ, h0, Same.refl _, aD⟩, ?_⟩
    rintro i m H2 ⟨rfl, hi, o, M2, G2, Γ2, σ2, hI, s2, a2⟩
    obtain ⟨j1, j2, j3⟩ := hJ i H2 G2 s2 a2.gh
    have ab : At E Γ ((D, OL o) :: M2) σ G2 H2 := a1.back a2 s2
    by_cases hlt : i < n
    · refine .inr ⟨j1 hlt, fun H' => ∃ o' M' G' Γ' σ', I (i + 1) o' M' ∧ Same G1 G' ∧ At E Γ' ((D, OL o') :: M') σ' G' H', fun H' ⟨o', M', G', Γ', σ', h'⟩ => ⟨n - (i + 1), by omega, rfl, hlt, o', M', G', Γ', σ', h'⟩, fun x H3 y => ?_⟩
      obtain ⟨G3, ρ, nw, hit, r⟩ := j3 x H3 hlt y
      obtain ⟨f, bt, hturn⟩ := ht i ρ o M2 D hlt hit hI
      exact lc_turn bt hturn ((ab.new nw).wipe vs) r fun o' M' σ' G' H' Γ' hk s' a' => ⟨o', M', G', Γ', σ', hk, (s2.trans nw.gg).trans s', a'⟩
    · have e : i = n := by omega
      subst e
      refine .inl ⟨j2 (Nat.le_refl _), q _ _ _ _ _ (hd D o M2 dE ?_ hI) (s1.trans s2) ab rfl⟩
      have := ab.nd
      rw [List.map_cons, List.nodup_cons] at this
      exact this.1
theorem wte_lcT {tst : Expr} {scope : Scope} {vs : List Nat} {wi : TI} {tg : TG} (src : Src X E Γ M wi fun M1 n item => LcKT X E Γ M1 scope vs elt tst tg n item Φ) (hE : ∀ a ∈ E.M, E.H a ≠ none) : WTE E Γ M (tLc wi tg (tBT X scope tst) (tBE X scope elt) vs) Φ := fun σ G H a Q q =>
  src.lc _ a fun J M1 n item G1 H1 ⟨I, h0, ht, hd⟩ s1 a1 hJ => by
    intro D hD
    have aD := a1.own1 (r := OL []) hD ⟨[], rfl, trivial⟩
    have dE : D ∉ E.M := fun z => hE D z (a1.fresh hD)
    refine ⟨fun i m H2 => m = n - i ∧ i ≤ n ∧ ∃ o M2 G2 Γ2 σ2, I i o M2 ∧ Same G1 G2 ∧ At E Γ2 ((D, OL o) :: M2) σ2 G2 H2, ⟨n, by simp, Nat.zero_le _, [], M1, G1, Γ, σ, h0, Same.refl _, aD⟩, ?_⟩
    rintro i m H2 ⟨rfl, hi, o, M2, G2, Γ2, σ2, hI, s2, a2⟩
    obtain ⟨j1, j2, j3⟩ := hJ i H2 G2 s2 a2.gh
    have ab : At E Γ ((D, OL o) :: M2) σ G2 H2 := a1.back a2 s2
    by_cases hlt : i < n
    · refine .inr ⟨j1 hlt, fun H' => ∃ o' M' G' Γ' σ', I (i + 1) o' M' ∧ Same G1 G' ∧ At E Γ' ((D, OL o') :: M') σ' G' H', fun H' ⟨o', M', G', Γ', σ', h'⟩ => ⟨n - (i + 1), by omega, rfl, hlt, o', M', G', Γ', σ', h'⟩, fun x H3 y => ?_⟩
      obtain ⟨G3, ρ, nw, hit, r⟩ := j3 x H3 hlt y
      obtain ⟨f, bt, hturn⟩ := ht i ρ o M2 D hlt hit hI
      exact lc_turnT bt hturn ((ab.new nw).wipe vs) r fun o' M' σ' G' H' Γ' hk s' a' => ⟨o', M', G', Γ', σ', hk, (s2.trans nw.gg).trans s', a'⟩
    · have e : i = n := by omega
      subst e
      refine .inl ⟨j2 (Nat.le_refl _), q _ _ _ _ _ (hd D o M2 dE ?_ hI) (s1.trans s2) ab rfl⟩
      have := ab.nd
      rw [List.map_cons, List.nodup_cons] at this
      exact this.1
/-- [e for target in iter] as a value; y = [..] -/
theorem we_lc {scope : Scope} {own : List (Str × Nat)} {wi : TI} {t : TG} (hc : X.calm = true) (hN : X.N.Nodup) (hi : PI X tg iter wi) (ok : BlkOk X.N X.env.scope scope own)
    (hg : ∀ (s : Shared) (H : Hp) (C : Addr) (cl : List (Str × Addr)) (fp : List Addr), PG (X.blk s H scope (compEnvC scope cl C X.env) fp) tg t) (hE : ∀ a ∈ E.M, E.H a ≠ none)
    (src : Src X E Γ M wi fun M1 n item => LcK X E Γ M1 scope (own.map (·.2)) elt t n item Φ) (hs : ∀ x, foldedSetIterable iter X.env x = pure x := by intro _; rfl) : WE X E Γ M (.ListComp elt [⟨tg, iter, [], 0⟩] scope pos) Φ :=
  we_of (pe_lc hc hN hi ok hg (fun _ _ _ _ _ => pts_nil) pe_blk hs) (wte_lc src hE)
theorem we_lcT {tst : Expr} {scope : Scope} {own : List (Str × Nat)} {wi : TI} {t : TG} (hc : X.calm = true) (hN : X.N.Nodup) (hi : PI X tg iter wi) (ok : BlkOk X.N X.env.scope scope own)
    (hg : ∀ (s : Shared) (H : Hp) (C : Addr) (cl : List (Str × Addr)) (fp : List Addr), PG (X.blk s H scope (compEnvC scope cl C X.env) fp) tg t) (hE : ∀ a ∈ E.M, E.H a ≠ none)
    (src : Src X E Γ M wi fun M1 n item => LcKT X E Γ M1 scope (own.map (·.2)) elt tst t n item Φ) (hs : ∀ x, foldedSetIterable iter X.env x = pure x := by intro _; rfl) : WE X E Γ M (.ListComp elt [⟨tg, iter, [tst], 0⟩] scope pos) Φ :=
  we_of (pe_lc hc hN hi ok hg (fun s H C cl fp => pts_one (pt_blk s H C cl fp)) pe_blk hs) (wte_lcT src hE)
theorem ws_setLc (i : Nat) {y : Str} {py : Pos} {scope : Scope} {own : List (Str × Nat)} {spos : Pos} {wi : TI} {t : TG} (hc : X.calm = true) (hN : X.N.Nodup) (hy : X.N[i]? = some y) (hyl : X.env.scope.names.lookup y = some .local)
    (hsw : swapsWith (.ListComp elt [⟨tg, iter, [], 0⟩] scope pos) (some (.Name y py)) spos.line X.env = pure true) (hi : PI X tg iter wi) (ok : BlkOk X.N X.env.scope scope own)
    (hg : ∀ (s : Shared) (H : Hp) (C : Addr) (cl : List (Str × Addr)) (fp : List Addr), PG (X.blk s H scope (compEnvC scope cl C X.env) fp) tg t) (hE : ∀ a ∈ E.M, E.H a ≠ none)
    (src : Src X E Γ M wi fun M1 n item => LcK X E Γ M1 scope (own.map (·.2)) elt t n item fun ρ M' => Ψ.nx (Γ.set i (some ρ)) M') (hs : ∀ x, foldedSetIterable iter X.env x = pure x := by intro _; rfl) : WS X E Γ M (.Assign [.Name y py] (.ListComp elt [⟨tg, iter, [], 0⟩] scope pos) spos) Ψ :=
  ws_of (ps_setLc hc hN hy hyl hsw hi ok hg (fun _ _ _ _ _ => pts_nil) pe_blk hs) fun σ G H a D k => wte_lc src hE σ G H a _ fun ρ M' v G' H' h' s' a' r' => k.nx _ M' h' _ G' H' s' (a'.set r')
theorem ws_setLcT {tst : Expr} (i : Nat) {y : Str} {py : Pos} {scope : Scope} {own : List (Str × Nat)} {spos : Pos} {wi : TI} {t : TG} (hc : X.calm = true) (hN : X.N.Nodup) (hy : X.N[i]? = some y) (hyl : X.env.scope.names.lookup y = some .local)
    (hsw : swapsWith (.ListComp elt [⟨tg, iter, [tst], 0⟩] scope pos) (some (.Name y py)) spos.line X.env = pure true) (hi : PI X tg iter wi) (ok : BlkOk X.N X.env.scope scope own)
    (hg : ∀ (s : Shared) (H : Hp) (C : Addr) (cl : List (Str × Addr)) (fp : List Addr), PG (X.blk s H scope (compEnvC scope cl C X.env) fp) tg t) (hE : ∀ a ∈ E.M, E.H a ≠ none)
    (src : Src X E Γ M wi fun M1 n item => LcKT X E Γ M1 scope (own.map (·.2)) elt tst t n item fun ρ M' => Ψ.nx (Γ.set i (some ρ)) M') (hs : ∀ x, foldedSetIterable iter X.env x = pure x := by intro _; rfl) : WS X E Γ M (.Assign [.Name y py] (.ListComp elt [⟨tg, iter, [tst], 0⟩] scope pos) spos) Ψ :=
  ws_of (ps_setLc hc hN hy hyl hsw hi ok hg (fun s H C cl fp => pts_one (pt_blk s H C cl fp)) pe_blk hs) fun σ G H a D k => wte_lcT src hE σ G H a _ fun ρ M' v G' H' h' s' a' r' => k.nx _ M' h' _ G' H' s' (a'.set r')
end
end MM

namespace MM
open PySem L2 PyProof.Rows
/-! ### sizes -/
def Bd (n : Nat) (i : Int) : Prop := i.natAbs < 2 ^ n
theorem pow2_le {a b : Nat} (h : a ≤ b) : 2 ^ a ≤ 2 ^ b := Nat.pow_le_pow_right (by decide) h
theorem Bd.mono {n m : Nat} {i : Int} (h : Bd n i) (l : n ≤ m) : Bd m i := Nat.lt_of_lt_of_le h (pow2_le l)
theorem bd_mul {n m : Nat} {i j : Int} (h : Bd n i) (h' : Bd m j) : Bd (n + m) (i * j) := wide_lt h h'
theorem pow_max {n m : Nat} : 2 ^ n + 2 ^ m ≤ 2 ^ (max n m + 1) := by
  have h1 : 2 ^ n ≤ 2 ^ (max n m) := pow2_le (Nat.le_max_left _ _)
  have h2 : 2 ^ m ≤ 2 ^ (max n m) := pow2_le (Nat.le_max_right _ _)
  rw [Nat.pow_succ]; omega
theorem bd_add {n m : Nat} {i j : Int} (h : Bd n i) (h' : Bd m j) : Bd (max n m + 1) (i + j) := by
  have h1 : i.natAbs < 2 ^ n := h
  have h2 : j.natAbs < 2 ^ m := h'
  have h3 := @pow_max n m
  have h4 := Int.natAbs_add_le i j
  show (i + j).natAbs < _
  omega
theorem bd_sub {n m : Nat} {i j : Int} (h : Bd n i) (h' : Bd m j) : Bd (max n m + 1) (i - j) := by
  have h1 : i.natAbs < 2 ^ n := h
  have h2 : j.natAbs < 2 ^ m := h'
  have h3 := @pow_max n m
  show (i - j).natAbs < _
  omega
theorem bd_neg {n : Nat} {i : Int} (h : Bd n i) : Bd n (-i) := by
  show (-i).natAbs < _
  rw [Int.natAbs_neg]; exact h
theorem bd_div {n : Nat} {i j : Int} (hj : 0 < j) (h : Bd n i) : Bd n (i / j) := by
  have h1 : i.natAbs < 2 ^ n := h
  show (i / j).natAbs < _
  have := Int.natAbs_ediv_le_natAbs i j
  omega
theorem bd_mod {n : Nat} {i j : Int} (hj : 0 < j) (h : Bd n j) : Bd n (i % j) := by
  have h1 : j.natAbs < 2 ^ n := h
  have h2 := Int.emod_nonneg i (by omega : j ≠ 0)
  have h3 := Int.emod_lt_of_pos i hj
  show (i % j).natAbs < _
  omega
theorem bd_range {n : Nat} {i : Int} (h0 : -(2 ^ n : Nat) < i) (h1 : i < (2 ^ n : Nat)) : Bd n i := by
  show i.natAbs < _
  omega
theorem Bd.lo {n : Nat} {i : Int} (h : Bd n i) : -((2 ^ n : Nat) : Int) < i := by
  have h1 : i.natAbs < 2 ^ n := h
  omega
theorem Bd.hi {n : Nat} {i : Int} (h : Bd n i) : i < ((2 ^ n : Nat) : Int) := by
  have h1 : i.natAbs < 2 ^ n := h
  omega
theorem bd_log {n : Nat} {i : Int} (h : Bd n i) (hn : 0 < n) : i.natAbs.log2 < n := PySem.Flt.log2_lt_of hn h
theorem mulOk {n m : Nat} {i j : Int} (h : Bd n i) (h' : Bd m j) (l : n + m ≤ 900000) : CMulW i j := by
  have h1 := bd_log (h.mono (Nat.le_succ n)) (by omega)
  have h2 := bd_log (h'.mono (Nat.le_succ m)) (by omega)
  unfold CMulW
  omega
theorem divOk {n : Nat} {i j : Int} (h0 : 0 < j) (h : Bd n j) (l : n < 9000) : CDivW i j := by
  refine ⟨h0, ?_⟩
  have h1 := bd_log (h.mono (Nat.le_succ n)) (by omega)
  omega
/-! ### operators on plain values -/
section
variable {X : Cx}
def CDivA (_ j : Int) : Prop := j ≠ 0 ∧ j.natAbs.log2 < 9000
theorem divOkA {n : Nat} {i j : Int} (h0 : j ≠ 0) (h : Bd n j) (l : n < 9000) : CDivA i j := by
  refine ⟨h0, ?_⟩
  have h1 := bd_log (h.mono (Nat.le_succ n)) (by omega)
  omega
theorem op_fdivA : OpR X (binaryOp .FloorDiv) (rI CDivA fun i j => .int (i.fdiv j)) := opI fun i j _ _ _ _ _ hc q => floordiv_int hc.1 q (.inl (PyProof.noPylong_of_log2 hc.2))
theorem iop_fdivA : OpR X (inplaceOp .FloorDiv) (rI CDivA fun i j => .int (i.fdiv j)) := opI fun i j _ _ _ _ _ hc q => ifloordiv_int hc.1 q (.inl (PyProof.noPylong_of_log2 hc.2))
/-- s * 0, s * 1 -/
theorem op_rep_str : OpR X (binaryOp .Mult) (fun x y H Q => ∃ z i, x = .str z ∧ y = .int i ∧ (i = 0 ∨ i = 1) ∧ Q (.str (if i = 1 then z else Str.empty)) H) := by
  intro pins s σ H x y v u Q I rx ry h
  obtain ⟨z, i, rfl, rfl, h0, q⟩ := h
  obtain ⟨t, rfl⟩ := rx
  obtain ⟨t', rfl⟩ := ry
  rcases h0 with rfl | rfl
  · exact PySem.P.mul_str_none (by decide) (by decide) ⟨.str _, H, I.tok _, ⟨_, rfl⟩, q⟩
  · refine PySem.P.mul_str (by decide) (fun _ h => by simp at h) (fun _ h => by simp at h) ?_
    rw [if_neg (by decide), if_pos (by simp)]
    exact ⟨.str z, H, I, ⟨_, rfl⟩, q⟩
def rAddU (K : PySem.W.Frag) : R2 := fun x y H Q => (rI0 fun i j => .int (i + j)) x y H Q ∨ (∃ i j, x = .str i ∧ y = .str j ∧ i.length + j.length ≤ sizeLine ∧ Q (.str (i ++ j)) H) ∨ rCat x y H Q ∨ rCatT K x y H Q
theorem op_addU : OpR X (binaryOp .Add) (rAddU X.K) := op_add.or (op_add_str.or (op_cat.or op_catT))
def rMulU : R2 := fun x y H Q => (rI CMulW fun i j => .int (i * j)) x y H Q ∨ (∃ z i, x = .str z ∧ y = .int i ∧ (i = 0 ∨ i = 1) ∧ Q (.str (if i = 1 then z else Str.empty)) H) ∨ rRep x y H Q
theorem op_mulU : OpR X (binaryOp .Mult) rMulU := op_mulW.or (op_rep_str.or op_rep)
abbrev rSubI : R2 := rI0 fun i j => .int (i - j)
abbrev rDivA : R2 := rI CDivA fun i j => .int (i.fdiv j)
abbrev rModN : R2 := rI (fun _ j => j ≠ 0) fun i j => .int (i.fmod j)
abbrev rPow : R2 := rI CPow fun i j => .int (i ^ j.toNat)
theorem opv_i {r : R2} {i j : Int} {v : V} {ρ : Rep} (h : ∀ (H : Hp) (Q : VK), Q v H → r (.int i) (.int j) H Q) (hv : ∀ G, ρ.p v G) : OpV r (RI i) (RI j) ρ := fun x y G H s hx hy Q q => by
  have hx : x = .int i := hx
  have hy : y = .int j := hy
  subst hx hy
  exact h H Q (q v G H (New.refl s) (hv G))
theorem opv_add_i {K : PySem.W.Frag} {i j : Int} : OpV (rAddU K) (RI i) (RI j) (RI (i + j)) := opv_i (fun H Q q => .inl ⟨i, j, rfl, rfl, q⟩) fun _ => rfl
theorem opv_sub_i {i j : Int} : OpV rSubI (RI i) (RI j) (RI (i - j)) := opv_i (fun H Q q => ⟨i, j, rfl, rfl, q⟩) fun _ => rfl
theorem opv_mul_i {i j : Int} (h : CMulW i j) : OpV rMulU (RI i) (RI j) (RI (i * j)) := opv_i (fun H Q q => .inl ⟨i, j, rfl, rfl, h, q⟩) fun _ => rfl
theorem opv_div_i {i j : Int} (h : 0 < j) (h9 : j.natAbs.log2 < 9000) : OpV rDivA (RI i) (RI j) (RI (i / j)) := opv_i (fun H Q q => ⟨i, j, rfl, rfl, ⟨by omega, h9⟩, by show Q (V.int (i.fdiv j)) H; rw [Int.fdiv_eq_ediv_of_nonneg i (by omega)]; exact q⟩) fun _ => rfl
theorem opv_fdiv_i {i j : Int} (h : CDivA i j) : OpV rDivA (RI i) (RI j) (RI (i.fdiv j)) := opv_i (fun H Q q => ⟨i, j, rfl, rfl, h, q⟩) fun _ => rfl
theorem opv_mod_i {i j : Int} (h : 0 < j) : OpV rModN (RI i) (RI j) (RI (i % j)) := opv_i (fun H Q q => ⟨i, j, rfl, rfl, by omega, by show Q (V.int (i.fmod j)) H; rw [Int.fmod_eq_emod_of_nonneg i (by omega)]; exact q⟩) fun _ => rfl
theorem opv_fmod_i {i j : Int} (h : j ≠ 0) : OpV rModN (RI i) (RI j) (RI (i.fmod j)) := opv_i (fun H Q q => ⟨i, j, rfl, rfl, h, q⟩) fun _ => rfl
theorem opv_pow_i {i j : Int} (h : CPow i j) : OpV rPow (RI i) (RI j) (RI (i ^ j.toNat)) := opv_i (fun H Q q => ⟨i, j, rfl, rfl, h, q⟩) fun _ => rfl
abbrev rLtI : R2 := rI0 fun i j => .bl (decide (i < j))
abbrev rLeI : R2 := rI0 fun i j => .bl (decide (i ≤ j))
abbrev rGtI : R2 := rI0 fun i j => .bl (decide (j < i))
abbrev rGeI : R2 := rI0 fun i j => .bl (decide (j ≤ i))
theorem opv_lt_i {i j : Int} : OpV rLtI (RI i) (RI j) (RB (decide (i < j))) := opv_i (fun H Q q => ⟨i, j, rfl, rfl, q⟩) fun _ => rfl
theorem opv_le_i {i j : Int} : OpV rLeI (RI i) (RI j) (RB (decide (i ≤ j))) := opv_i (fun H Q q => ⟨i, j, rfl, rfl, q⟩) fun _ => rfl
theorem opv_gt_i {i j : Int} : OpV rGtI (RI i) (RI j) (RB (decide (j < i))) := opv_i (fun H Q q => ⟨i, j, rfl, rfl, q⟩) fun _ => rfl
theorem opv_ge_i {i j : Int} : OpV rGeI (RI i) (RI j) (RB (decide (j ≤ i))) := opv_i (fun H Q q => ⟨i, j, rfl, rfl, q⟩) fun _ => rfl
theorem opv_add_s {K : PySem.W.Frag} {i j : Str} (h : i.length + j.length ≤ 100000) : OpV (rAddU K) (RS i) (RS j) (RS (i ++ j)) := fun x y G H s hx hy Q q => by
  have hx : x = .str i := hx
  have hy : y = .str j := hy
  subst hx hy
  exact .inr (.inl ⟨i, j, rfl, rfl, szOf h, q _ G H (New.refl s) rfl⟩)
theorem opv_add_l {K : PySem.W.Frag} {ρs ρs' : List Rep} (h : ρs.length + ρs'.length ≤ 100000) : OpV (rAddU K) (RLt ρs) (RLt ρs') (RLt (ρs ++ ρs')) := fun x y G H s ⟨a, xs, e1, h1, r1⟩ ⟨b, ys, e2, h2, r2⟩ Q q => by
  subst e1 e2
  refine .inr (.inr (.inl ⟨a, b, xs, ys, rfl, rfl, s _ _ h1, s _ _ h2, by rw [← r1.length, ← r2.length]; exact szOf h, fun p hp => ?_⟩))
  have n : New G H (upd G p (.lst (xs ++ ys))) (upd H p (.lst (xs ++ ys))) := New.put s hp
  exact q _ _ _ n ⟨p, _, rfl, upd_same, (r1.app r2).mono n.gg⟩
theorem opv_mul_s {i : Int} {z : Str} (h : i = 0 ∨ i = 1) : OpV rMulU (RS z) (RI i) (RS (if i = 1 then z else Str.empty)) := fun x y G H s hx hy Q q => by
  have hx : x = .str z := hx
  have hy : y = .int i := hy
  subst hx hy
  exact .inr (.inl ⟨z, i, rfl, rfl, h, q _ G H (New.refl s) rfl⟩)
/-! ### data compared -/
def IsD (K : PySem.W.Frag) (ρ : Rep) (d : PyData) : Prop := ∀ v G H, Same G H → ρ.p v G → Dp K H v d
def IsDs (K : PySem.W.Frag) (ρs : List Rep) (ds : List PyData) : Prop := ∀ vs G H, Same G H → Reps ρs vs G → DpAll K H vs ds
theorem isD_i {K : PySem.W.Frag} {i : Int} : IsD K (RI i) (.int i) := fun v G H _ h => by
  have h : v = .int i := h
  subst h; exact .int i
theorem isD_b {K : PySem.W.Frag} {i : Bool} : IsD K (RB i) (.bool i) := fun v G H _ h => by
  have h : v = .bl i := h
  subst h; exact .bl i
theorem isD_s {K : PySem.W.Frag} {i : Str} : IsD K (RS i) (.str i) := fun v G H _ h => by
  have h : v = .str i := h
  subst h; exact .str i
theorem isD_n {K : PySem.W.Frag} : IsD K RN .none := fun v G H _ h => by
  have h : v = .non := h
  subst h; exact .non
def oD : Option Int → PyData
  | none => .none
  | some i => .int i
theorem isD_o {K : PySem.W.Frag} : ∀ {o : Option Int}, IsD K (RO o) (oD o)
  | none => isD_n
  | some _ => isD_i
theorem isDs_nil {K : PySem.W.Frag} : IsDs K [] [] := fun vs G H _ h => by
  match vs, h with
  | [], _ => exact .nil
theorem isDs_cons {K : PySem.W.Frag} {ρ : Rep} {ρs : List Rep} {d : PyData} {ds : List PyData} (h : IsD K ρ d) (hs : IsDs K ρs ds) : IsDs K (ρ :: ρs) (d :: ds) := fun vs G H s r => by
  match vs, r with
  | v :: vs, ⟨r1, r2⟩ => exact .cons (h v G H s r1) (hs vs G H s r2)
theorem isDs_map {K : PySem.W.Frag} {α : Type} {f : α → Rep} {g : α → PyData} (h : ∀ a, IsD K (f a) (g a)) : ∀ l : List α, IsDs K (l.map f) (l.map g)
  | [] => isDs_nil
  | a :: l => isDs_cons (h a) (isDs_map h l)
theorem isD_t {K : PySem.W.Frag} {ρs : List Rep} {ds : List PyData} (h : IsDs K ρs ds) : IsD K (RT K ρs) (.tuple ds) := fun v G H s ⟨a, vs, e, hq, r⟩ => by
  subst e; exact .tup (same_seqT s hq) (h vs G H s r)
theorem isD_tt {K : PySem.W.Frag} {ρs : List Rep} {ds : List PyData} (h : IsDs K ρs ds) : IsD K (RTt ρs) (.tuple ds) := fun v G H s r => isD_t h v G H s (sub_tt v G r)
theorem isD_l {K : PySem.W.Frag} {ρs : List Rep} {ds : List PyData} (h : IsDs K ρs ds) : IsD K (RL K ρs) (.list ds) := fun v G H s ⟨a, vs, e, hq, r⟩ => by
  subst e; exact .lst (Same.seq s hq) (h vs G H s r)
theorem isD_lt {K : PySem.W.Frag} {ρs : List Rep} {ds : List PyData} (h : IsDs K ρs ds) : IsD K (RLt ρs) (.list ds) := fun v G H s r => isD_l h v G H s (sub_lt v G r)
theorem isD_sub {K : PySem.W.Frag} {ρ ρ' : Rep} {d : PyData} (sb : Sub ρ ρ') (h : IsD K ρ' d) : IsD K ρ d := fun v G H s r => h v G H s (sb v G r)
theorem opv_eq {K : PySem.W.Frag} {ρ ρ' : Rep} {d e : PyData} (h1 : IsD K ρ d) (h2 : IsD K ρ' e) (s1 : SeqAt.shaped d = true) (s2 : SeqAt.shaped e = true) : OpV (rEqD K) ρ ρ' (RB (PyData.eqv d e)) := fun x y G H s hx hy Q q =>
  ⟨d, e, h1 x G H s hx, h2 y G H s hy, s1, s2, q _ G H (New.refl s) rfl⟩
theorem opv_ne {K : PySem.W.Frag} {ρ ρ' : Rep} {d e : PyData} (h1 : IsD K ρ d) (h2 : IsD K ρ' e) (s1 : SeqAt.shaped d = true) (s2 : SeqAt.shaped e = true) : OpV (rNeD K) ρ ρ' (RB (!PyData.eqv d e)) := fun x y G H s hx hy Q q =>
  ⟨d, e, h1 x G H s hx, h2 y G H s hy, s1, s2, q _ G H (New.refl s) rfl⟩
theorem opv_sub {r : R2} {a b a' b' ρ : Rep} (h1 : Sub a a') (h2 : Sub b b') (h : OpV r a' b' ρ) : OpV r a b ρ := fun x y G H s hx hy Q q => h x y G H s (h1 _ _ hx) (h2 _ _ hy) Q q
/-- is None -/
abbrev rIsN : R2 := fun x y H Q => y = .non ∧ Q (.bl (decide (x = .non))) H
abbrev rNotN : R2 := fun x y H Q => y = .non ∧ Q (.bl (!decide (x = .non))) H
theorem opv_isN {ρ : Rep} {b : Bool} (h : ∀ v G, ρ.p v G → decide (v = V.non) = b) : OpV rIsN ρ RN (RB b) := fun x y G H s hx hy Q q => ⟨hy, q _ G H (New.refl s) (congrArg V.bl (h x G hx))⟩
theorem opv_notN {ρ : Rep} {b : Bool} (h : ∀ v G, ρ.p v G → decide (v = V.non) = b) : OpV rNotN ρ RN (RB (!b)) := fun x y G H s hx hy Q q => ⟨hy, q _ G H (New.refl s) (by show V.bl _ = V.bl _; rw [h x G hx])⟩
theorem isN_o {o : Option Int} : ∀ v G, (RO o).p v G → decide (v = V.non) = o.isNone := fun v G h => by
  cases o with
  | none =>
    have h : v = .non := h
    subst h; rfl
  | some i =>
    have h : v = .int i := h
    subst h; rfl
theorem isN_i {i : Int} : ∀ v G, (RI i).p v G → decide (v = V.non) = false := fun v G h => by
  have h : v = .int i := h
  subst h; rfl
theorem isN_n : ∀ v G, RN.p v G → decide (v = V.non) = true := fun v G h => by
  have h : v = .non := h
  subst h; rfl
/-! ### subscripts -/
theorem opv_ix_l {K : PySem.W.Frag} {ρa ρ : Rep} {ρs : List Rep} {i : Int} (sb : Sub ρa (RL K ρs)) (h : atI ρs i = some ρ) : OpV (rIx K) ρa (RI i) ρ := fun x y G H s hx hy Q q => by
  obtain ⟨a, vs, e, hq, r⟩ := sb _ _ hx
  have hy : y = .int i := hy
  subst e hy
  obtain ⟨j, h1, h2, h3, h4, h5⟩ := atI_get h
  obtain ⟨v, e2, r2⟩ := r.get h2
  refine .inl ⟨a, vs, i, v, rfl, rfl, Same.seq s hq, ?_, q v G H (New.refl s) r2⟩
  unfold atI at h ⊢
  rw [← r.length]
  cases z : ixN ρs.length i with
  | none => rw [z] at h; cases h
  | some j' =>
    rw [z] at h
    have := (ixN_seq z).1
    rw [h1] at this
    cases this
    exact e2
theorem opv_ix_t {K : PySem.W.Frag} {ρa ρ : Rep} {ρs : List Rep} {i : Int} (sb : Sub ρa (RT K ρs)) (h : atI ρs i = some ρ) : OpV (rIx K) ρa (RI i) ρ := fun x y G H s hx hy Q q => by
  obtain ⟨a, vs, e, hq, r⟩ := sb _ _ hx
  have hy : y = .int i := hy
  subst e hy
  obtain ⟨j, h1, h2, h3, h4, h5⟩ := atI_get h
  obtain ⟨v, e2, r2⟩ := r.get h2
  refine .inr (.inl ⟨a, vs, i, v, rfl, rfl, same_seqT s hq, ?_, q v G H (New.refl s) r2⟩)
  unfold atI at h ⊢
  rw [← r.length]
  cases z : ixN ρs.length i with
  | none => rw [z] at h; cases h
  | some j' =>
    rw [z] at h
    have := (ixN_seq z).1
    rw [h1] at this
    cases this
    exact e2
theorem opw_ix_o {K : PySem.W.Frag} {E : En} {Γ : Gm} {M : Ow} {Φ : Rep → Ow → Prop} {ρa ρb ρ : Rep} {ρs : List Rep} {p : Addr} {u : ORep → Ow} {i : Int} (sb : Sub ρa (RRef p)) (si : Sub ρb (RI i)) (fd : Fnd M p (OL ρs) u) (h : atI ρs i = some ρ) (k : Φ ρ M) : OpW E Γ M (rIx K) ρa ρb Φ := fun σ G H a x y hx hy Q q => by
  have e1 : x = .ref p := sb _ _ hx
  have e2 : y = .int i := si _ _ hy
  subst e1 e2
  obtain ⟨o, e3, vs, e4, r⟩ := a.own _ fd.mem
  subst e4
  obtain ⟨j, h1, h2, h3, h4, h5⟩ := atI_get h
  obtain ⟨v, e5, r2⟩ := r.get h2
  refine .inl ⟨p, vs, i, v, rfl, rfl, SqL.of e3, ?_, q ρ M v G H k (Same.refl _) a r2⟩
  unfold atI at h ⊢
  rw [← r.length]
  cases z : ixN ρs.length i with
  | none => rw [z] at h; cases h
  | some j' =>
    rw [z] at h
    have := (ixN_seq z).1
    rw [h1] at this
    cases this
    exact e5
/-- an item at an open place: one of the list's -/
theorem atI_of {α : Type} {l : List α} {i : Int} (h0 : 0 ≤ i) (h1 : i < l.length) : ∃ x, atI l i = some x ∧ x ∈ l ∧ l[i.toNat]? = some x := by
  have hl : i.toNat < l.length := by omega
  have e : ((i.toNat : Nat) : Int) = i := by omega
  have h := atI_nat (xs := l) (j := i.toNat) (v := l[i.toNat]) (by simp [hl])
  rw [e] at h
  exact ⟨l[i.toNat], h, List.getElem_mem hl, by simp [hl]⟩
/-! ### built-in functions -/
theorem cav_abs {i : Int} : CaV (fun xs H Q => ∃ i, xs = [.int i] ∧ Q (.int (if i < 0 then -i else i)) H) [RI i] (RI (i.natAbs : Int)) := fun vs G H s r Q q => by
  match vs, r with
  | [v], ⟨r1, _⟩ =>
    have r1 : v = .int i := r1
    subst r1
    refine ⟨i, rfl, q _ G H (New.refl s) ?_⟩
    show V.int _ = V.int _
    congr 1
    split <;> omega
theorem cav_int_b {b : Bool} : CaV (fun xs H Q => (∃ i, xs = [.int i] ∧ Q (.int i) H) ∨ ∃ k, xs = [.bl k] ∧ Q (.int (if k then 1 else 0)) H) [RB b] (RI (if b then 1 else 0)) := fun vs G H s r Q q => by
  match vs, r with
  | [v], ⟨r1, _⟩ =>
    have r1 : v = .bl b := r1
    subst r1
    exact .inr ⟨b, rfl, q _ G H (New.refl s) rfl⟩
theorem cav_max2 {i j : Int} : CaV (fun xs H Q => ∃ i j, xs = [.int i, .int j] ∧ Q (.int (if j > i then j else i)) H) [RI i, RI j] (RI (max i j)) := fun vs G H s r Q q => by
  match vs, r with
  | [v, w], ⟨r1, r2, _⟩ =>
    have r1 : v = .int i := r1
    have r2 : w = .int j := r2
    subst r1 r2
    refine ⟨i, j, rfl, q _ G H (New.refl s) ?_⟩
    show V.int _ = V.int _
    congr 1
    split <;> omega
theorem cav_min2 {i j : Int} : CaV (fun xs H Q => ∃ i j, xs = [.int i, .int j] ∧ Q (.int (if j < i then j else i)) H) [RI i, RI j] (RI (min i j)) := fun vs G H s r Q q => by
  match vs, r with
  | [v, w], ⟨r1, r2, _⟩ =>
    have r1 : v = .int i := r1
    have r2 : w = .int j := r2
    subst r1 r2
    refine ⟨i, j, rfl, q _ G H (New.refl s) ?_⟩
    show V.int _ = V.int _
    congr 1
    split <;> omega
theorem cav_str_i {i : Int} (h : i.natAbs.log2 < 1920) : CaV (fun xs H Q => ∃ i, xs = [.int i] ∧ i.natAbs.log2 < 1920 ∧ Q (.str (toString i)) H) [RI i] (RS (Str.ofString (toString i))) := fun vs G H s r Q q => by
  match vs, r with
  | [v], ⟨r1, _⟩ =>
    have r1 : v = .int i := r1
    subst r1
    exact ⟨i, rfl, h, q _ G H (New.refl s) rfl⟩
/-- isinstance -/
def TyIs (K : PySem.W.Frag) (ρ : Rep) (t : Value) : Prop := ∀ v G H, Same G H → ρ.p v G → TyX K H v t
theorem tyIs_i {K : PySem.W.Frag} {i : Int} : TyIs K (RI i) (.type "int") := fun v G H _ h => by
  have h : v = .int i := h
  subst h; exact .base (.int i)
theorem tyIs_b {K : PySem.W.Frag} {i : Bool} : TyIs K (RB i) (.type "bool") := fun v G H _ h => by
  have h : v = .bl i := h
  subst h; exact .base (.bl i)
theorem tyIs_s {K : PySem.W.Frag} {i : Str} : TyIs K (RS i) (.type "str") := fun v G H _ h => by
  have h : v = .str i := h
  subst h; exact .base (.str i)
theorem tyIs_n {K : PySem.W.Frag} : TyIs K RN (.type "NoneType") := fun v G H _ h => by
  have h : v = .non := h
  subst h; exact .base .non
theorem tyIs_lt {K : PySem.W.Frag} {ρs : List Rep} : TyIs K (RLt ρs) (.type "list") := fun v G H s ⟨a, vs, e, h, _⟩ => by
  subst e; exact .base (.lst (s _ _ h))
theorem tyIs_tt {K : PySem.W.Frag} {ρs : List Rep} : TyIs K (RTt ρs) (.type "tuple") := fun v G H s ⟨a, vs, e, h, _⟩ => by
  subst e; exact .base (.tup (s _ _ h))
/-- what isinstance asks of an own class -/
structure ClsI (K : PySem.W.Frag) (C : Addr) : Prop where
  cl : Cls K C
  ha : PySem.W.findIn K (.ref C) "__class__" = some (some (.builtin "object.__class__"))
  hn : PySem.W.specialIn K (.builtin "object.__class__") "__get__" = some (some (.builtin "getset_descriptor.__get__"))
  htk : PySem.W.takesIn K (.builtin "object.__class__") = some true
  hm : PySem.W.mroIn K C (.type "object") = some true
theorem tyIs_ins {K : PySem.W.Frag} {C : Addr} {l : List (Str × Rep)} (c : ClsI K C) : TyIs K (RIns C l) (.ref C) := fun v G H s ⟨a, dx, fs, e, h, _⟩ => by
  subst e; exact .base (.ins (s _ _ h) c.cl c.ha c.hn c.htk c.hm)
theorem tyIs_sub {K : PySem.W.Frag} {ρ ρ' : Rep} {t : Value} (sb : Sub ρ ρ') (h : TyIs K ρ' t) : TyIs K ρ t := fun v G H s r => h v G H s (sb v G r)
theorem cav_isi {K : PySem.W.Frag} {ρ : Rep} {c : V} {t u : Value} {b : Bool} (h : TyIs K ρ t) (hc : ClsV c u) (e : PySem.W.kitOne K t u = some b) : CaV (rIsi K) [ρ, RV c] (RB b) := fun vs G H s r Q q => by
  match vs, r with
  | [v, w], ⟨r1, r2, _⟩ =>
    have r2 : w = c := r2
    subst r2
    exact ⟨v, w, t, u, b, rfl, hc, h v G H s r1, e, q _ G H (New.refl s) rfl⟩
theorem kit_self {K : PySem.W.Frag} {C : Addr} : PySem.W.kitOne K (.ref C) (.ref C) = some true := by
  unfold PySem.W.kitOne
  rw [if_pos (by simp)]
/-! ### the truth of own things without __bool__ and __len__ -/
theorem tru_ins {C : Addr} (hb : PySem.W.findIn X.K (.ref C) "__bool__" = some none) (hl : PySem.W.findIn X.K (.ref C) "__len__" = some none) {pins : List (Addr × Obj)} {s : Shared} {σ : L2.St} {H : Hp} {a dx : Addr} {fs : List (Str × V)} {Q : Bool → Hp → Prop} (I : L2.Inv X pins σ H s) (h : H a = some (.ins C dx fs)) (q : Q true H) :
    wpAny (model X.prog X.w) X.A (truthy (.ref a)) (TP X pins σ Q) X.xe s := by
  obtain ⟨mA, O, _, _, _, _⟩ := ins_get I.hok h
  obtain ⟨od, J, _⟩ := O.look
  have K' := I.kIn
  unfold truthy
  refine wpAny_bind (m := callSpecial? (.ref a) (Str.ofString "__bool__")) (wpAny_bind (wpAny_bind (J.type.here ((PySem.W.looks_findIn K' hb).here (wpAny_pure ?_)))))
  refine wpAny_bind (wpAny_bind (J.type.here ((PySem.W.looks_findIn K' hl).here ?_)))
  exact wpAny_pure ⟨H, I, q⟩
end
/-- x or y, x an own thing, or a plain value of known truth -/
def Tru (X : Cx) (ρ : Rep) (k : Bool) : Prop := ∀ {pins : List (Addr × Obj)} {s : Shared} {σ : L2.St} {G H : Hp} {x : V} {v : Value} {Q : Bool → Hp → Prop}, L2.Inv X pins σ H s → Same G H → ρ.p x G → RelV x v → Q k H → wpAny (model X.prog X.w) X.A (truthy v) (TP X pins σ Q) X.xe s
section
variable {X : Cx} {E : En} {Γ : Gm} {M : Ow} {a b e : Expr} {pos : Pos} {Φ : Rep → Ow → Prop}
theorem tru_of {ρ : Rep} {k : Bool} (h : ∀ x G H, Same G H → ρ.p x G → TruV X.K x H k) : Tru X ρ k := fun {pins s σ G H x v Q} I sg hx r q => tru_ok pins s σ H x v Q I r ⟨k, h x G H sg hx, q⟩
theorem truIns {C : Addr} {l : List (Str × Rep)} (hb : PySem.W.findIn X.K (.ref C) "__bool__" = some none) (hl : PySem.W.findIn X.K (.ref C) "__len__" = some none) : Tru X (RIns C l) true := fun {pins s σ G H x v Q} I sg ⟨a, dx, fs, e, h, _⟩ r q => by
  subst e
  obtain rfl : v = Value.ref a := r
  exact tru_ins hb hl I (sg _ _ h) q
theorem truSub {ρ ρ' : Rep} {k : Bool} (sb : Sub ρ ρ') (h : Tru X ρ' k) : Tru X ρ k := fun {pins s σ G H x v Q} I sg hx r q => h I sg (sb _ _ hx) r q
theorem truN : Tru X RN false := tru_of fun x G H _ h => by
  have h : x = .non := h
  subst h; rfl
theorem truI {i : Int} : Tru X (RI i) (i != 0) := tru_of fun x G H _ h => by
  have h : x = .int i := h
  subst h; rfl
theorem truB {i : Bool} : Tru X (RB i) i := fun {pins s σ G H x v Q} I sg hx r q => by
  have h : x = .bl i := hx
  subst h
  obtain rfl : v = Value.bool i := r
  exact wpAny_truthy_bool ⟨H, I, q⟩
theorem we_orT {rest : List Expr} (h : WE X E Γ M a fun ρ M' => ∃ k, Tru X ρ k ∧ (k = false → WE X E Γ M' (.BoolOp .Or (b :: rest) pos) Φ) ∧ (k = true → Φ ρ M')) : WE X E Γ M (.BoolOp .Or (a :: b :: rest) pos) Φ := fun σ G H at' Q q pins s I => by
  refine BoolOp_or (thn (h σ G H at' (fun v H1 => ∃ ρ M' G1 k, Tru X ρ k ∧ (k = false → WE X E Γ M' (.BoolOp .Or (b :: rest) pos) Φ) ∧ (k = true → Φ ρ M') ∧ Same G G1 ∧ At E Γ M' σ G1 H1 ∧ ρ.p v G1) (fun ρ M' v G1 H1 ⟨k, t, h1, h2⟩ s1 a1 r1 => ⟨ρ, M', G1, k, t, h1, h2, s1, a1, r1⟩) pins s I) fun v s1 ⟨x, H1, I1, r1, ρ, M', G1, k, t, h1, h2, sg, a1, rx⟩ => ?_)
  refine thn (t (Q := fun c H2 => c = k ∧ H2 = H1) I1 a1.gh rx r1 ⟨rfl, rfl⟩) fun c s2 ⟨H2, I2, e1, e2⟩ => ?_
  subst e1 e2
  cases c with
  | true => exact ⟨x, H2, I2, r1, q ρ M' x G1 H2 (h2 rfl) sg a1 rx⟩
  | false => exact h1 rfl σ G1 H2 a1 Q (fun ρ' M2 v2 G2 H3 hk s3 => q ρ' M2 v2 G2 H3 hk (sg.trans s3)) pins s2 I2
/-- any expression as a test, by its truth -/
theorem wt_tru {Φ : Bool → Ow → Prop} (h : WE X E Γ M e fun ρ M' => ∃ k, Tru X ρ k ∧ Φ k M') (he : ∀ whole, isTrue e X.env whole = (do let v ← whole; standAt e.pos; holding [v] (truthy v)) := by intro _; rfl) : WT X E Γ M e Φ := fun σ G H a Q q pins s I => by
  refine isTrue_plain (thn (h σ G H a (fun v H1 => ∃ ρ M' G1 k, Tru X ρ k ∧ Φ k M' ∧ Same G G1 ∧ At E Γ M' σ G1 H1 ∧ ρ.p v G1) (fun ρ M' v G1 H1 ⟨k, t, hk⟩ s1 a1 r1 => ⟨ρ, M', G1, k, t, hk, s1, a1, r1⟩) pins s I) fun v s1 ⟨x, H1, I1, r1, ρ, M', G1, k, t, hk, sg, a1, rx⟩ => ?_) (he _)
  exact t I1 a1.gh rx r1 (q k M' G1 H1 hk sg a1)
end
end MM

namespace MM
open PySem L2 PyProof.Rows
/-! ### calls with keywords -/
def KnK (P : Program) (w : World) (K : PySem.W.Frag) (mg : Str → Option Value) (base : Heap) (k : Nat) (x : Str) (n : Nat) (ks : List Str) (gV : List V → List V → List V) (c : Con) : Prop :=
  ∃ (f : Addr) (fd : FuncData) (ps : List Str) (g : List Value → List Value → List Value), mg x = some (.ref f) ∧ PySem.W.keepIn K (.ref f) = true ∧ KBn K fd ps n ks g gV ∧ FnOk P w K mg base CX0 k f fd ps (conSp c)
def KnCK (P : Program) (w : World) (K : PySem.W.Frag) (mg : Str → Option Value) (base : Heap) (k : Nat) (x : Str) (C : Addr) (n : Nat) (ks : List Str) (gV : List V → List V → List V) (c : Con) : Prop :=
  ∃ (f : Addr) (fd : FuncData) (ps : List Str) (g : List Value → List Value → List Value), mg x = some (.ref C) ∧ Mk K C f ∧ KBn K fd ps (n + 1) ks g gV ∧ FnOk P w K mg base CX0 k f fd ps (conSp c)
def KnMK (P : Program) (w : World) (K : PySem.W.Frag) (mg : Str → Option Value) (base : Heap) (k : Nat) (C : Addr) (m : Str) (n : Nat) (ks : List Str) (gV : List V → List V → List V) (c : Con) : Prop :=
  ∃ (f : Addr) (fd : FuncData) (ps : List Str) (g : List Value → List Value → List Value), Meth K C m f ∧ Cls K C ∧ KBn K fd ps (n + 1) ks g gV ∧ FnOk P w K mg base CX0 k f fd ps (conSp c)
/-- the same rearrangement of representations as of values -/
structure GvR (gV : List V → List V → List V) (gR : List Rep → List Rep → List Rep) (n m : Nat) : Prop where
  run : ∀ {ρs ρz : List Rep} {vs zs : List V} {G : Hp}, ρs.length = n → ρz.length = m → Reps ρs vs G → Reps ρz zs G → Reps (gR ρs ρz) (gV vs zs) G
section
variable {X : Cx} {E : En} {Γ : Gm} {M : Ow} {a b e : Expr} {es : List Expr} {kws : List Keyword} {ks : List Str} {pos p apos : Pos} {Φ : Rep → Ow → Prop} {k n : Nat} {x : Str} {c : Con} {gV : List V → List V → List V} {gR : List Rep → List Rep → List Rep}
theorem pe_callN0 {CX : CXT} {f : Addr} {fd : FuncData} {ps : List Str} {sp : Sp} {EE : XK} {tk : TA} {g : List Value → List Value → List Value} (F : FnOk X.prog X.w X.K X.mg X.base CX k f fd ps sp) (hr : Room k X.A) (hg : Gl X x) (hm : X.mg x = some (.ref f)) (hk : PySem.W.keepIn X.K (.ref f) = true) (hb : KBn X.K fd ps 0 ks g gV) (hx : Passes CX X EE) (hkw : PK X kws tk)
    (hall : (backToKw pos (keywordEach kws X.env)).all (·.1.isSome) = true := by rfl) (hks : (backToKw pos (keywordEach kws X.env)).filterMap (·.1) = ks := by rfl) (hdb : (x == ("__debug__" : Str)) = false := by decide)
    (hpl : ((backTo pos (starEach [] X.env)).any (·.1) || (backToKw pos (keywordEach kws X.env)).any (·.1.isNone)) = false := by rfl) :
    PE X (.Call (.Name x p) [] kws pos) (tCallN 0 ks.length sp gV EE tNil tk) := by
  refine ⟨fun pins s σ H Q I h => ?_⟩
  refine wpAny_Call_Name_kw (ld_glob I hg hm ?_ hdb)
  refine PySem.W.callWith_KW0 (h₀ := X.base) I.ok.mod.kin hk hall ?_ hpl
  refine thn (hkw.run pos pins s σ H _ I h) fun ws s2 ⟨zs, H2, I2, rz, l1, l2, q2⟩ => ⟨I2.kIn, ?_⟩
  rw [hks]
  exact run_fnN (us := []) (vs := []) F hr hb hx I2 .nil rz rfl l2 q2
theorem we_callN (F : KnK X.prog X.w X.K X.mg X.base k x n ks gV c) (gr : GvR gV gR n ks.length) (hr : Room k X.A) (hg : Gl X x) (hx : Passes CX0 X E0)
    (h : WA X E Γ M (e :: es) fun ρs M1 => ρs.length = n ∧ WK X E Γ M1 kws fun ρz M2 => ρz.length = ks.length ∧ CallK c (gR ρs ρz) M2 Φ)
    (hall : (backToKw pos (keywordEach kws X.env)).all (·.1.isSome) = true := by rfl) (hks : (backToKw pos (keywordEach kws X.env)).filterMap (·.1) = ks := by rfl)
    (hdb : (x == ("__debug__" : Str)) = false := by decide) (he : starEach (e :: es) X.env = (false, eval e X.env) :: starEach es X.env := by rfl)
    (hpl : ((backTo pos (starEach (e :: es) X.env)).any (·.1) || (backToKw pos (keywordEach kws X.env)).any (·.1.isNone)) = false := by rfl) :
    WE X E Γ M (.Call (.Name x p) (e :: es) kws pos) Φ := by
  obtain ⟨f, fd, ps, g, hm, hk, hb, F⟩ := F
  refine we_of (pe_callN F hr hg hm hk hb hx pa_w pk_w hall hks hdb he hpl) fun σ G H a Q q => ?_
  exact h σ G H a _ fun ρs M1 vs G1 H1 ⟨l1, h1⟩ s1 a1 r1 => h1 σ G1 H1 a1 _ fun ρz M2 zs G2 H2 ⟨l2, hh⟩ s2 a2 r2 =>
    ⟨by rw [← r1.length]; exact l1, by rw [← r2.length]; exact l2, callK_run hh a2 (gr.run l1 l2 (r1.mono s2) r2) fun ρ M3 v G3 H3 h3 s3 => q ρ M3 v G3 H3 h3 ((s1.trans s2).trans s3)⟩
theorem we_callN0 (F : KnK X.prog X.w X.K X.mg X.base k x 0 ks gV c) (gr : GvR gV gR 0 ks.length) (hr : Room k X.A) (hg : Gl X x) (hx : Passes CX0 X E0)
    (h : WK X E Γ M kws fun ρz M2 => ρz.length = ks.length ∧ CallK c (gR [] ρz) M2 Φ)
    (hall : (backToKw pos (keywordEach kws X.env)).all (·.1.isSome) = true := by rfl) (hks : (backToKw pos (keywordEach kws X.env)).filterMap (·.1) = ks := by rfl) (hdb : (x == ("__debug__" : Str)) = false := by decide)
    (hpl : ((backTo pos (starEach [] X.env)).any (·.1) || (backToKw pos (keywordEach kws X.env)).any (·.1.isNone)) = false := by rfl) :
    WE X E Γ M (.Call (.Name x p) [] kws pos) Φ := by
  obtain ⟨f, fd, ps, g, hm, hk, hb, F⟩ := F
  refine we_of (pe_callN0 F hr hg hm hk hb hx pk_w hall hks hdb hpl) fun σ G H a Q q => ?_
  show tWK X kws σ H _
  exact h σ G H a _ fun ρz M2 zs G2 H2 ⟨l2, hh⟩ s2 a2 r2 =>
    ⟨rfl, by rw [← r2.length]; exact l2, callK_run hh a2 (gr.run rfl l2 trivial r2) fun ρ M3 v G3 H3 h3 s3 => q ρ M3 v G3 H3 h3 (s2.trans s3)⟩
/-- __init__ with keywords: the thing itself stands first -/
def MakeN (E : En) (C : Addr) (c : Con) (gR : List Rep → List Rep → List Rep) (ρs ρz : List Rep) (M : Ow) (Φ : Rep → Ow → Prop) : Prop :=
  ∀ p, p ∉ M.map (·.1) → p ∉ E.M → CallK c (gR (RRef p :: ρs) ρz) ((p, OIns C []) :: M) fun ρ M' => Sub ρ RN ∧ ∃ l M2, Rm M' p (OIns C l) M2 ∧ Φ (RIns C l) M2
theorem makeN_run {C : Addr} {σ : L2.St} {G H : Hp} {m : Nat} {ρs ρz : List Rep} {vs zs : List V} {Q : VK} (gr : GvR gV gR (n + 1) m) (l1 : ρs.length = n) (l2 : ρz.length = m) (hE : ∀ a ∈ E.M, E.H a ≠ none) (h : MakeN E C c gR ρs ρz M Φ) (a : At E Γ M σ G H) (r : Reps ρs vs G) (r2 : Reps ρz zs G)
    (q : ∀ ρ M' v G' H', Φ ρ M' → Same G G' → At E Γ M' σ G' H' → ρ.p v G' → Q v H') :
    ∀ x dx, H x = none → H dx = none → dx ≠ x → conSp c (gV (.ref x :: vs) zs) (upd (upd H dx (.own x)) x (.ins C dx [])) (fun v H2 => v = .non ∧ Q (.ref x) H2) E0 := fun x dx nx nd ne => by
  have n1 : New G H G (upd H dx (.own x)) := New.side a.gh nd
  have a1 := a.new n1
  have nx1 : upd H dx (.own x) x = none := by rw [upd_ne (Ne.symm ne)]; exact nx
  have hpE : x ∉ E.M := fun z => hE x z (a.fresh nx)
  have a2 := a1.own1 (r := OIns C []) nx1 ⟨dx, [], rfl, trivial⟩
  refine callK_run (h x (a.freshM nx) hpE) a2 (gr.run (by simp [l1]) l2 ⟨rfl, r⟩ r2) fun ρ M' v G' H' ⟨sb, l, M2, rm, hΦ⟩ s' a' r' => ⟨sb _ _ r', ?_⟩
  obtain ⟨o, e1, ⟨dx', fs, e2, rf⟩, sg, a3⟩ := a'.freeze rm hpE
  subst e2
  exact q _ _ _ _ _ hΦ (s'.trans sg) a3 ⟨x, dx', fs, rfl, upd_same, rf.mono sg⟩
theorem we_makeN {C : Addr} (F : KnCK X.prog X.w X.K X.mg X.base k x C n ks gV c) (gr : GvR gV gR (n + 1) ks.length) (hr : Room (k + 1) X.A) (hg : Gl X x) (hx : Passes CX0 X E0) (hE : ∀ a ∈ E.M, E.H a ≠ none)
    (h : WA X E Γ M (e :: es) fun ρs M1 => ρs.length = n ∧ WK X E Γ M1 kws fun ρz M2 => ρz.length = ks.length ∧ MakeN E C c gR ρs ρz M2 Φ)
    (hall : (backToKw pos (keywordEach kws X.env)).all (·.1.isSome) = true := by rfl) (hks : (backToKw pos (keywordEach kws X.env)).filterMap (·.1) = ks := by rfl)
    (hdb : (x == ("__debug__" : Str)) = false := by decide) (he : starEach (e :: es) X.env = (false, eval e X.env) :: starEach es X.env := by rfl)
    (hpl : ((backTo pos (starEach (e :: es) X.env)).any (·.1) || (backToKw pos (keywordEach kws X.env)).any (·.1.isNone)) = false := by rfl) :
    WE X E Γ M (.Call (.Name x p) (e :: es) kws pos) Φ := by
  obtain ⟨f, fd, ps, g, hm, Mk, hb, F⟩ := F
  refine we_of (pe_makeN Mk F hr hg hm hb hx pa_w pk_w hall hks hdb he hpl) fun σ G H a Q q => ?_
  exact h σ G H a _ fun ρs M1 vs G1 H1 ⟨l1, h1⟩ s1 a1 r1 => h1 σ G1 H1 a1 _ fun ρz M2 zs G2 H2 ⟨l2, hh⟩ s2 a2 r2 =>
    ⟨by rw [← r1.length]; exact l1, by rw [← r2.length]; exact l2, makeN_run gr l1 l2 hE hh a2 (r1.mono s2) r2 fun ρ M3 v G3 H3 h3 s3 => q ρ M3 v G3 H3 h3 ((s1.trans s2).trans s3)⟩
theorem we_makeN0 {C : Addr} (F : KnCK X.prog X.w X.K X.mg X.base k x C 0 ks gV c) (gr : GvR gV gR 1 ks.length) (hr : Room (k + 1) X.A) (hg : Gl X x) (hx : Passes CX0 X E0) (hE : ∀ a ∈ E.M, E.H a ≠ none)
    (h : WK X E Γ M kws fun ρz M2 => ρz.length = ks.length ∧ MakeN E C c gR [] ρz M2 Φ)
    (hall : (backToKw pos (keywordEach kws X.env)).all (·.1.isSome) = true := by rfl) (hks : (backToKw pos (keywordEach kws X.env)).filterMap (·.1) = ks := by rfl) (hdb : (x == ("__debug__" : Str)) = false := by decide)
    (hpl : ((backTo pos (starEach [] X.env)).any (·.1) || (backToKw pos (keywordEach kws X.env)).any (·.1.isNone)) = false := by rfl) :
    WE X E Γ M (.Call (.Name x p) [] kws pos) Φ := by
  obtain ⟨f, fd, ps, g, hm, Mk, hb, F⟩ := F
  refine we_of (pe_makeK0 Mk F hr hg hm hb hx pk_w hall hks hdb hpl) fun σ G H a Q q => ?_
  show tWK X kws σ H _
  exact h σ G H a _ fun ρz M2 zs G2 H2 ⟨l2, hh⟩ s2 a2 r2 =>
    ⟨rfl, by rw [← r2.length]; exact l2, makeN_run (n := 0) gr rfl l2 hE hh a2 trivial r2 fun ρ M3 v G3 H3 h3 s3 => q ρ M3 v G3 H3 h3 (s2.trans s3)⟩
end
/-! ### a def with defaults -/
abbrev FdD (K : PySem.W.Frag) (x qual : Str) (st : Stmt) (dvs : List V) (f : Addr) (fd : FuncData) : Prop := FunD K x qual (defArgs st) (defBody st) (defScope st) dvs [] f fd
theorem fn_conD {P : Program} {w : World} {K : PySem.W.Frag} {mg : Str → Option Value} {base : Heap} {x qual : Str} {st : Stmt} {dvs : List V} {f : Addr} {fd : FuncData} {N ps : List Str} {k : Nat} (c : Con) (F : FdD K x qual st dvs f fd) (S : FnScope N ps (defScope st)) (hl : ∀ i, (c.args i).length = ps.length)
    (h : ∀ (cd : Value) (A : Around) (outer : List Env) (s : Shared) (H : Hp) (EE : XK) (G : Hp) (i : c.I), c.pre i → Room k (A.deeper (PyProof.Rows.envOfC qual (defScope st) s.heap.objs.size f cd)) → (∀ a ∈ (c.own i).map (·.1), H a ≠ none) →
      WSs (xd P w K mg base N qual (defScope st) f cd A outer s H EE) ⟨G, H, (c.own i).map (·.1)⟩ (startG N (c.args i)) (c.own i) (defBody st) (EdOf c i)) : FnOk P w K mg base CX0 (k + 1) f fd ps (conSp c) := by
  refine F.ok S (fun vs H Q EE hh => ?_) fun cdv A outer s H vs Q EE hr hh => ?_
  · obtain ⟨G, i, _, _, r, _⟩ := hh
    rw [← r.length]; exact hl i
  · obtain ⟨G, i, gh, hp, r, o1, o2, o3, kk⟩ := hh
    refine ⟨tWSs (xd P w K mg base N qual (defScope st) f cdv A outer s H EE) (defBody st), pss_w.nox, ?_⟩
    have hE : ∀ a ∈ (c.own i).map (·.1), H a ≠ none := fun a ha => by
      obtain ⟨q, hq, e⟩ := List.mem_map.mp ha
      obtain ⟨o, e2, _⟩ := o1 q hq
      rw [← e, e2]; simp
    have a0 : At ⟨G, H, (c.own i).map (·.1)⟩ (startG N (c.args i)) (c.own i) (L2.start N vs) G H :=
      ⟨by simp [startG, L2.start, r.length], start_env r, gh, o1, o2, o3, Same.refl _, fun _ _ _ e => e, fun _ _ hg => hg, fun q hq => .inl (List.mem_map.mpr ⟨q, hq, rfl⟩), fun _ h => h⟩
    have fin : ∀ ρ M, Rt c i ρ M → ∀ v G' H', At ⟨G, H, (c.own i).map (·.1)⟩ [] M [] G' H' → ρ.p v G' → Q v H' := fun ρ M ⟨x, rest, px, sb, pk⟩ v G' H' a rv => by
      obtain ⟨p1, p2, p3⟩ := a.picked pk
      have fm := pk.f a.nd
      refine kk x v G' H' px ⟨a.g0, a.gh, fun b u h1 h2 => a.keep b u h1 h2, fun b h1 h2 => a.nw b h1 h2, p1, p2, p3, fun q hq => ?_, fun b hb => a.there b hb⟩ (sb _ _ rv)
      obtain ⟨q', h1, h2, _⟩ := fm.own q hq
      rw [← h2]; exact a.loc q' h1
    exact h cdv A outer s H EE G i hp hr hE (L2.start N vs) G H a0 _ ⟨fun Γ M h' σ G' H' _ a' => fin _ _ h' _ _ _ a'.env0 rfl, fun ρ M h' v G' H' _ a' rv => fin _ _ h' _ _ _ a' rv, fun _ _ h' => h'.elim, fun _ _ h' => h'.elim⟩
theorem fdD_mk {K : PySem.W.Frag} {x qual : Str} {st : Stmt} {f : Addr} {oc : Value} {od an : Option Addr} {osl : Array (Option Value)} {kV doc pm cdv ct : Value} (l : K.lookup f = some ⟨oc, od, .func (PySem.W.fnOf x qual (defArgs st) (defBody st) (defScope st) .none kV doc pm an cdv ct), osl⟩)
    (c : PySem.W.codeIn K cdv qual = true) (k : PySem.W.keepIn K (.ref f) = true) : FdD K x qual st [] f (PySem.W.fnOf x qual (defArgs st) (defBody st) (defScope st) .none kV doc pm an cdv ct) :=
  ⟨⟨oc, od, .none, kV, doc, pm, an, cdv, ct, osl, rfl, l, c, .inl ⟨rfl, rfl⟩, .inl rfl⟩, k⟩
theorem fdD_mkT {K : PySem.W.Frag} {x qual : Str} {st : Stmt} {dvs : List V} {f T : Addr} {oc tc : Value} {od td an : Option Addr} {osl tsl : Array (Option Value)} {kV doc pm cdv ct : Value} {its : Array Value} {n : Nat} (l : K.lookup f = some ⟨oc, od, .func (PySem.W.fnOf x qual (defArgs st) (defBody st) (defScope st) (.ref T) kV doc pm an cdv ct), osl⟩)
    (c : PySem.W.codeIn K cdv qual = true) (k : PySem.W.keepIn K (.ref f) = true) (lT : K.lookup T = some ⟨tc, td, .seq its n, tsl⟩) (hd : dvs ≠ []) (hv : Vals dvs its.toList) : FdD K x qual st dvs f (PySem.W.fnOf x qual (defArgs st) (defBody st) (defScope st) (.ref T) kV doc pm an cdv ct) :=
  ⟨⟨oc, od, .ref T, kV, doc, pm, an, cdv, ct, osl, rfl, l, c, .inr ⟨hd, T, ⟨tc, td, .seq its n, tsl⟩, its.toList, n, rfl, lT, by simp, hv⟩, .inl rfl⟩, k⟩
end MM

namespace MM
open PySem L2 PyProof.Rows
/-! ### the text by places -/
def top (i : Nat) : Stmt := PySem.Challenge.pw_meanmoon_k71_figures.main.body.getD i (.Pass ⟨0, 0, 0, 0⟩)
abbrev s_f_figures : Stmt := top 4
abbrev N_f_figures : List Str := ["number", "base", "left", "told"]
theorem sc_f_figures : FnScope N_f_figures ["number", "base"] (defScope s_f_figures) := ⟨rfl, rfl, rfl, by decide +kernel, rfl, by decide +kernel, by decide +kernel⟩
abbrev X_f_figures (P : Program) (w : World) (K : PySem.W.Frag) (mg : Str → Option Value) (base : Heap) (f : Addr) (cd : Value) (A : Around) (outer : List Env) (s : Shared) (H : Hp) (EE : XK) : Cx := xd P w K mg base N_f_figures "figures" (defScope s_f_figures) f cd A outer s H EE
section
variable {P : Program} {w : World} {K : PySem.W.Frag} {mg : Str → Option Value} {base : Heap} {f : Addr} {cd : Value} {A : Around} {outer : List Env} {s : Shared} {H : Hp} {EE : XK}
theorem r0_f_figures : Rd1 (X_f_figures P w K mg base f cd A outer s H EE) 0 "number" := ⟨rfl, by first | exact .inl rfl | exact .inr (.inl rfl), by decide, by decide⟩
theorem w0_f_figures : Wr1 (X_f_figures P w K mg base f cd A outer s H EE) 0 "number" := ⟨sc_f_figures.nd, rfl, by first | exact .inl rfl | exact .inr rfl, .inl rfl⟩
theorem r1_f_figures : Rd1 (X_f_figures P w K mg base f cd A outer s H EE) 1 "base" := ⟨rfl, by first | exact .inl rfl | exact .inr (.inl rfl), by decide, by decide⟩
theorem w1_f_figures : Wr1 (X_f_figures P w K mg base f cd A outer s H EE) 1 "base" := ⟨sc_f_figures.nd, rfl, by first | exact .inl rfl | exact .inr rfl, .inl rfl⟩
theorem r2_f_figures : Rd1 (X_f_figures P w K mg base f cd A outer s H EE) 2 "left" := ⟨rfl, by first | exact .inl rfl | exact .inr (.inl rfl), by decide, by decide⟩
theorem w2_f_figures : Wr1 (X_f_figures P w K mg base f cd A outer s H EE) 2 "left" := ⟨sc_f_figures.nd, rfl, by first | exact .inl rfl | exact .inr rfl, .inl rfl⟩
theorem r3_f_figures : Rd1 (X_f_figures P w K mg base f cd A outer s H EE) 3 "told" := ⟨rfl, by first | exact .inl rfl | exact .inr (.inl rfl), by decide, by decide⟩
theorem w3_f_figures : Wr1 (X_f_figures P w K mg base f cd A outer s H EE) 3 "told" := ⟨sc_f_figures.nd, rfl, by first | exact .inl rfl | exact .inr rfl, .inl rfl⟩
theorem g_abs_f_figures : Gl (X_f_figures P w K mg base f cd A outer s H EE) "abs" := rfl
theorem g_FIGURES_f_figures : Gl (X_f_figures P w K mg base f cd A outer s H EE) "FIGURES" := rfl
end
abbrev s_f_number_in : Stmt := top 5
abbrev N_f_number_in : List Str := ["word", "base", "number"]
theorem sc_f_number_in : FnScope N_f_number_in ["word", "base"] (defScope s_f_number_in) := ⟨rfl, rfl, rfl, by decide +kernel, rfl, by decide +kernel, by decide +kernel⟩
abbrev X_f_number_in (P : Program) (w : World) (K : PySem.W.Frag) (mg : Str → Option Value) (base : Heap) (f : Addr) (cd : Value) (A : Around) (outer : List Env) (s : Shared) (H : Hp) (EE : XK) : Cx := xd P w K mg base N_f_number_in "number_in" (defScope s_f_number_in) f cd A outer s H EE
section
variable {P : Program} {w : World} {K : PySem.W.Frag} {mg : Str → Option Value} {base : Heap} {f : Addr} {cd : Value} {A : Around} {outer : List Env} {s : Shared} {H : Hp} {EE : XK}
theorem r0_f_number_in : Rd1 (X_f_number_in P w K mg base f cd A outer s H EE) 0 "word" := ⟨rfl, by first | exact .inl rfl | exact .inr (.inl rfl), by decide, by decide⟩
theorem w0_f_number_in : Wr1 (X_f_number_in P w K mg base f cd A outer s H EE) 0 "word" := ⟨sc_f_number_in.nd, rfl, by first | exact .inl rfl | exact .inr rfl, .inl rfl⟩
theorem r1_f_number_in : Rd1 (X_f_number_in P w K mg base f cd A outer s H EE) 1 "base" := ⟨rfl, by first | exact .inl rfl | exact .inr (.inl rfl), by decide, by decide⟩
theorem w1_f_number_in : Wr1 (X_f_number_in P w K mg base f cd A outer s H EE) 1 "base" := ⟨sc_f_number_in.nd, rfl, by first | exact .inl rfl | exact .inr rfl, .inl rfl⟩
theorem r2_f_number_in : Rd1 (X_f_number_in P w K mg base f cd A outer s H EE) 2 "number" := ⟨rfl, by first | exact .inl rfl | exact .inr (.inl rfl), by decide, by decide⟩
theorem w2_f_number_in : Wr1 (X_f_number_in P w K mg base f cd A outer s H EE) 2 "number" := ⟨sc_f_number_in.nd, rfl, by first | exact .inl rfl | exact .inr rfl, .inl rfl⟩
theorem g_int_f_number_in : Gl (X_f_number_in P w K mg base f cd A outer s H EE) "int" := rfl
theorem g_ValueError_f_number_in : Gl (X_f_number_in P w K mg base f cd A outer s H EE) "ValueError" := rfl
end
abbrev s_f_read_figures : Stmt := top 6
abbrev N_f_read_figures : List Str := ["text", "base", "number"]
theorem sc_f_read_figures : FnScope N_f_read_figures ["text", "base"] (defScope s_f_read_figures) := ⟨rfl, rfl, rfl, by decide +kernel, rfl, by decide +kernel, by decide +kernel⟩
abbrev X_f_read_figures (P : Program) (w : World) (K : PySem.W.Frag) (mg : Str → Option Value) (base : Heap) (f : Addr) (cd : Value) (A : Around) (outer : List Env) (s : Shared) (H : Hp) (EE : XK) : Cx := xd P w K mg base N_f_read_figures "read_figures" (defScope s_f_read_figures) f cd A outer s H EE
section
variable {P : Program} {w : World} {K : PySem.W.Frag} {mg : Str → Option Value} {base : Heap} {f : Addr} {cd : Value} {A : Around} {outer : List Env} {s : Shared} {H : Hp} {EE : XK}
theorem r0_f_read_figures : Rd1 (X_f_read_figures P w K mg base f cd A outer s H EE) 0 "text" := ⟨rfl, by first | exact .inl rfl | exact .inr (.inl rfl), by decide, by decide⟩
theorem w0_f_read_figures : Wr1 (X_f_read_figures P w K mg base f cd A outer s H EE) 0 "text" := ⟨sc_f_read_figures.nd, rfl, by first | exact .inl rfl | exact .inr rfl, .inl rfl⟩
theorem r1_f_read_figures : Rd1 (X_f_read_figures P w K mg base f cd A outer s H EE) 1 "base" := ⟨rfl, by first | exact .inl rfl | exact .inr (.inl rfl), by decide, by decide⟩
theorem w1_f_read_figures : Wr1 (X_f_read_figures P w K mg base f cd A outer s H EE) 1 "base" := ⟨sc_f_read_figures.nd, rfl, by first | exact .inl rfl | exact .inr rfl, .inl rfl⟩
theorem r2_f_read_figures : Rd1 (X_f_read_figures P w K mg base f cd A outer s H EE) 2 "number" := ⟨rfl, by first | exact .inl rfl | exact .inr (.inl rfl), by decide, by decide⟩
theorem w2_f_read_figures : Wr1 (X_f_read_figures P w K mg base f cd A outer s H EE) 2 "number" := ⟨sc_f_read_figures.nd, rfl, by first | exact .inl rfl | exact .inr rfl, .inl rfl⟩
theorem g_number_in_f_read_figures : Gl (X_f_read_figures P w K mg base f cd A outer s H EE) "number_in" := rfl
theorem g_figures_f_read_figures : Gl (X_f_read_figures P w K mg base f cd A outer s H EE) "figures" := rfl
theorem g_NoText_f_read_figures : Gl (X_f_read_figures P w K mg base f cd A outer s H EE) "NoText" := rfl
end
abbrev s_f_L_draws : Stmt := top 8
abbrev N_f_L_draws : List Str := ["_law_cell", "_law_cut", "_law_k"]
theorem sc_f_L_draws : FnScope N_f_L_draws ["_law_cell"] (defScope s_f_L_draws) := ⟨rfl, rfl, rfl, by decide +kernel, rfl, by decide +kernel, by decide +kernel⟩
abbrev X_f_L_draws (P : Program) (w : World) (K : PySem.W.Frag) (mg : Str → Option Value) (base : Heap) (f : Addr) (cd : Value) (A : Around) (outer : List Env) (s : Shared) (H : Hp) (EE : XK) : Cx := xd P w K mg base N_f_L_draws "_law_draws" (defScope s_f_L_draws) f cd A outer s H EE
section
variable {P : Program} {w : World} {K : PySem.W.Frag} {mg : Str → Option Value} {base : Heap} {f : Addr} {cd : Value} {A : Around} {outer : List Env} {s : Shared} {H : Hp} {EE : XK}
theorem r0_f_L_draws : Rd1 (X_f_L_draws P w K mg base f cd A outer s H EE) 0 "_law_cell" := ⟨rfl, by first | exact .inl rfl | exact .inr (.inl rfl), by decide, by decide⟩
theorem w0_f_L_draws : Wr1 (X_f_L_draws P w K mg base f cd A outer s H EE) 0 "_law_cell" := ⟨sc_f_L_draws.nd, rfl, by first | exact .inl rfl | exact .inr rfl, .inl rfl⟩
theorem r1_f_L_draws : Rd1 (X_f_L_draws P w K mg base f cd A outer s H EE) 1 "_law_cut" := ⟨rfl, by first | exact .inl rfl | exact .inr (.inl rfl), by decide, by decide⟩
theorem w1_f_L_draws : Wr1 (X_f_L_draws P w K mg base f cd A outer s H EE) 1 "_law_cut" := ⟨sc_f_L_draws.nd, rfl, by first | exact .inl rfl | exact .inr rfl, .inl rfl⟩
theorem r2_f_L_draws : Rd1 (X_f_L_draws P w K mg base f cd A outer s H EE) 2 "_law_k" := ⟨rfl, by first | exact .inl rfl | exact .inr (.inl rfl), by decide, by decide⟩
theorem w2_f_L_draws : Wr1 (X_f_L_draws P w K mg base f cd A outer s H EE) 2 "_law_k" := ⟨sc_f_L_draws.nd, rfl, by first | exact .inl rfl | exact .inr rfl, .inl rfl⟩
theorem g_range_f_L_draws : Gl (X_f_L_draws P w K mg base f cd A outer s H EE) "range" := rfl
end
abbrev s_f_L_next : Stmt := top 9
abbrev N_f_L_next : List Str := ["_law_draws_here", "_law_k", "_law_a_number"]
theorem sc_f_L_next : FnScope N_f_L_next ["_law_draws_here"] (defScope s_f_L_next) := ⟨rfl, rfl, rfl, by decide +kernel, rfl, by decide +kernel, by decide +kernel⟩
abbrev X_f_L_next (P : Program) (w : World) (K : PySem.W.Frag) (mg : Str → Option Value) (base : Heap) (f : Addr) (cd : Value) (A : Around) (outer : List Env) (s : Shared) (H : Hp) (EE : XK) : Cx := xd P w K mg base N_f_L_next "_law_next" (defScope s_f_L_next) f cd A outer s H EE
section
variable {P : Program} {w : World} {K : PySem.W.Frag} {mg : Str → Option Value} {base : Heap} {f : Addr} {cd : Value} {A : Around} {outer : List Env} {s : Shared} {H : Hp} {EE : XK}
theorem r0_f_L_next : Rd1 (X_f_L_next P w K mg base f cd A outer s H EE) 0 "_law_draws_here" := ⟨rfl, by first | exact .inl rfl | exact .inr (.inl rfl), by decide, by decide⟩
theorem w0_f_L_next : Wr1 (X_f_L_next P w K mg base f cd A outer s H EE) 0 "_law_draws_here" := ⟨sc_f_L_next.nd, rfl, by first | exact .inl rfl | exact .inr rfl, .inl rfl⟩
theorem r1_f_L_next : Rd1 (X_f_L_next P w K mg base f cd A outer s H EE) 1 "_law_k" := ⟨rfl, by first | exact .inl rfl | exact .inr (.inl rfl), by decide, by decide⟩
theorem w1_f_L_next : Wr1 (X_f_L_next P w K mg base f cd A outer s H EE) 1 "_law_k" := ⟨sc_f_L_next.nd, rfl, by first | exact .inl rfl | exact .inr rfl, .inl rfl⟩
theorem r2_f_L_next : Rd1 (X_f_L_next P w K mg base f cd A outer s H EE) 2 "_law_a_number" := ⟨rfl, by first | exact .inl rfl | exact .inr (.inl rfl), by decide, by decide⟩
theorem w2_f_L_next : Wr1 (X_f_L_next P w K mg base f cd A outer s H EE) 2 "_law_a_number" := ⟨sc_f_L_next.nd, rfl, by first | exact .inl rfl | exact .inr rfl, .inl rfl⟩
end
abbrev s_f_L_whole : Stmt := top 10
abbrev N_f_L_whole : List Str := ["_law_told"]
theorem sc_f_L_whole : FnScope N_f_L_whole ["_law_told"] (defScope s_f_L_whole) := ⟨rfl, rfl, rfl, by decide +kernel, rfl, by decide +kernel, by decide +kernel⟩
abbrev X_f_L_whole (P : Program) (w : World) (K : PySem.W.Frag) (mg : Str → Option Value) (base : Heap) (f : Addr) (cd : Value) (A : Around) (outer : List Env) (s : Shared) (H : Hp) (EE : XK) : Cx := xd P w K mg base N_f_L_whole "_law_whole" (defScope s_f_L_whole) f cd A outer s H EE
section
variable {P : Program} {w : World} {K : PySem.W.Frag} {mg : Str → Option Value} {base : Heap} {f : Addr} {cd : Value} {A : Around} {outer : List Env} {s : Shared} {H : Hp} {EE : XK}
theorem r0_f_L_whole : Rd1 (X_f_L_whole P w K mg base f cd A outer s H EE) 0 "_law_told" := ⟨rfl, by first | exact .inl rfl | exact .inr (.inl rfl), by decide, by decide⟩
theorem w0_f_L_whole : Wr1 (X_f_L_whole P w K mg base f cd A outer s H EE) 0 "_law_told" := ⟨sc_f_L_whole.nd, rfl, by first | exact .inl rfl | exact .inr rfl, .inl rfl⟩
theorem g_isinstance_f_L_whole : Gl (X_f_L_whole P w K mg base f cd A outer s H EE) "isinstance" := rfl
theorem g_int_f_L_whole : Gl (X_f_L_whole P w K mg base f cd A outer s H EE) "int" := rfl
theorem g_bool_f_L_whole : Gl (X_f_L_whole P w K mg base f cd A outer s H EE) "bool" := rfl
end
abbrev s_f_L_text : Stmt := top 11
abbrev N_f_L_text : List Str := ["_law_a_number", "_law_a_base", "_law_left", "_law_told"]
theorem sc_f_L_text : FnScope N_f_L_text ["_law_a_number", "_law_a_base"] (defScope s_f_L_text) := ⟨rfl, rfl, rfl, by decide +kernel, rfl, by decide +kernel, by decide +kernel⟩
abbrev X_f_L_text (P : Program) (w : World) (K : PySem.W.Frag) (mg : Str → Option Value) (base : Heap) (f : Addr) (cd : Value) (A : Around) (outer : List Env) (s : Shared) (H : Hp) (EE : XK) : Cx := xd P w K mg base N_f_L_text "_law_text" (defScope s_f_L_text) f cd A outer s H EE
section
variable {P : Program} {w : World} {K : PySem.W.Frag} {mg : Str → Option Value} {base : Heap} {f : Addr} {cd : Value} {A : Around} {outer : List Env} {s : Shared} {H : Hp} {EE : XK}
theorem r0_f_L_text : Rd1 (X_f_L_text P w K mg base f cd A outer s H EE) 0 "_law_a_number" := ⟨rfl, by first | exact .inl rfl | exact .inr (.inl rfl), by decide, by decide⟩
theorem w0_f_L_text : Wr1 (X_f_L_text P w K mg base f cd A outer s H EE) 0 "_law_a_number" := ⟨sc_f_L_text.nd, rfl, by first | exact .inl rfl | exact .inr rfl, .inl rfl⟩
theorem r1_f_L_text : Rd1 (X_f_L_text P w K mg base f cd A outer s H EE) 1 "_law_a_base" := ⟨rfl, by first | exact .inl rfl | exact .inr (.inl rfl), by decide, by decide⟩
theorem w1_f_L_text : Wr1 (X_f_L_text P w K mg base f cd A outer s H EE) 1 "_law_a_base" := ⟨sc_f_L_text.nd, rfl, by first | exact .inl rfl | exact .inr rfl, .inl rfl⟩
theorem r2_f_L_text : Rd1 (X_f_L_text P w K mg base f cd A outer s H EE) 2 "_law_left" := ⟨rfl, by first | exact .inl rfl | exact .inr (.inl rfl), by decide, by decide⟩
theorem w2_f_L_text : Wr1 (X_f_L_text P w K mg base f cd A outer s H EE) 2 "_law_left" := ⟨sc_f_L_text.nd, rfl, by first | exact .inl rfl | exact .inr rfl, .inl rfl⟩
theorem r3_f_L_text : Rd1 (X_f_L_text P w K mg base f cd A outer s H EE) 3 "_law_told" := ⟨rfl, by first | exact .inl rfl | exact .inr (.inl rfl), by decide, by decide⟩
theorem w3_f_L_text : Wr1 (X_f_L_text P w K mg base f cd A outer s H EE) 3 "_law_told" := ⟨sc_f_L_text.nd, rfl, by first | exact .inl rfl | exact .inr rfl, .inl rfl⟩
theorem g_abs_f_L_text : Gl (X_f_L_text P w K mg base f cd A outer s H EE) "abs" := rfl
theorem g_int_f_L_text : Gl (X_f_L_text P w K mg base f cd A outer s H EE) "int" := rfl
end
abbrev s_f_L_number : Stmt := top 12
abbrev N_f_L_number : List Str := ["_law_draws_here", "_law_a_base", "_law_pick", "_law_a_number", "_law_power", "_law_k", "_law_some"]
theorem sc_f_L_number : FnScope N_f_L_number ["_law_draws_here", "_law_a_base"] (defScope s_f_L_number) := ⟨rfl, rfl, rfl, by decide +kernel, rfl, by decide +kernel, by decide +kernel⟩
abbrev X_f_L_number (P : Program) (w : World) (K : PySem.W.Frag) (mg : Str → Option Value) (base : Heap) (f : Addr) (cd : Value) (A : Around) (outer : List Env) (s : Shared) (H : Hp) (EE : XK) : Cx := xd P w K mg base N_f_L_number "_law_number" (defScope s_f_L_number) f cd A outer s H EE
section
variable {P : Program} {w : World} {K : PySem.W.Frag} {mg : Str → Option Value} {base : Heap} {f : Addr} {cd : Value} {A : Around} {outer : List Env} {s : Shared} {H : Hp} {EE : XK}
theorem r0_f_L_number : Rd1 (X_f_L_number P w K mg base f cd A outer s H EE) 0 "_law_draws_here" := ⟨rfl, by first | exact .inl rfl | exact .inr (.inl rfl), by decide, by decide⟩
theorem w0_f_L_number : Wr1 (X_f_L_number P w K mg base f cd A outer s H EE) 0 "_law_draws_here" := ⟨sc_f_L_number.nd, rfl, by first | exact .inl rfl | exact .inr rfl, .inl rfl⟩
theorem r1_f_L_number : Rd1 (X_f_L_number P w K mg base f cd A outer s H EE) 1 "_law_a_base" := ⟨rfl, by first | exact .inl rfl | exact .inr (.inl rfl), by decide, by decide⟩
theorem w1_f_L_number : Wr1 (X_f_L_number P w K mg base f cd A outer s H EE) 1 "_law_a_base" := ⟨sc_f_L_number.nd, rfl, by first | exact .inl rfl | exact .inr rfl, .inl rfl⟩
theorem r2_f_L_number : Rd1 (X_f_L_number P w K mg base f cd A outer s H EE) 2 "_law_pick" := ⟨rfl, by first | exact .inl rfl | exact .inr (.inl rfl), by decide, by decide⟩
theorem w2_f_L_number : Wr1 (X_f_L_number P w K mg base f cd A outer s H EE) 2 "_law_pick" := ⟨sc_f_L_number.nd, rfl, by first | exact .inl rfl | exact .inr rfl, .inl rfl⟩
theorem r3_f_L_number : Rd1 (X_f_L_number P w K mg base f cd A outer s H EE) 3 "_law_a_number" := ⟨rfl, by first | exact .inl rfl | exact .inr (.inl rfl), by decide, by decide⟩
theorem w3_f_L_number : Wr1 (X_f_L_number P w K mg base f cd A outer s H EE) 3 "_law_a_number" := ⟨sc_f_L_number.nd, rfl, by first | exact .inl rfl | exact .inr rfl, .inl rfl⟩
theorem r4_f_L_number : Rd1 (X_f_L_number P w K mg base f cd A outer s H EE) 4 "_law_power" := ⟨rfl, by first | exact .inl rfl | exact .inr (.inl rfl), by decide, by decide⟩
theorem w4_f_L_number : Wr1 (X_f_L_number P w K mg base f cd A outer s H EE) 4 "_law_power" := ⟨sc_f_L_number.nd, rfl, by first | exact .inl rfl | exact .inr rfl, .inl rfl⟩
theorem r5_f_L_number : Rd1 (X_f_L_number P w K mg base f cd A outer s H EE) 5 "_law_k" := ⟨rfl, by first | exact .inl rfl | exact .inr (.inl rfl), by decide, by decide⟩
theorem w5_f_L_number : Wr1 (X_f_L_number P w K mg base f cd A outer s H EE) 5 "_law_k" := ⟨sc_f_L_number.nd, rfl, by first | exact .inl rfl | exact .inr rfl, .inl rfl⟩
theorem r6_f_L_number : Rd1 (X_f_L_number P w K mg base f cd A outer s H EE) 6 "_law_some" := ⟨rfl, by first | exact .inl rfl | exact .inr (.inl rfl), by decide, by decide⟩
theorem w6_f_L_number : Wr1 (X_f_L_number P w K mg base f cd A outer s H EE) 6 "_law_some" := ⟨sc_f_L_number.nd, rfl, by first | exact .inl rfl | exact .inr rfl, .inl rfl⟩
theorem g__law_next_f_L_number : Gl (X_f_L_number P w K mg base f cd A outer s H EE) "_law_next" := rfl
theorem g_range_f_L_number : Gl (X_f_L_number P w K mg base f cd A outer s H EE) "range" := rfl
end
abbrev s_f_L_right : Stmt := top 13
abbrev N_f_L_right : List Str := ["_law_draws_here", "_law_a_base", "_law_k", "_law_a_number", "_law_due", "_law_told", "_law_back", "_law_plain"]
theorem sc_f_L_right : FnScope N_f_L_right ["_law_draws_here"] (defScope s_f_L_right) := ⟨rfl, rfl, rfl, by decide +kernel, rfl, by decide +kernel, by decide +kernel⟩
abbrev X_f_L_right (P : Program) (w : World) (K : PySem.W.Frag) (mg : Str → Option Value) (base : Heap) (f : Addr) (cd : Value) (A : Around) (outer : List Env) (s : Shared) (H : Hp) (EE : XK) : Cx := xd P w K mg base N_f_L_right "_law_right" (defScope s_f_L_right) f cd A outer s H EE
section
variable {P : Program} {w : World} {K : PySem.W.Frag} {mg : Str → Option Value} {base : Heap} {f : Addr} {cd : Value} {A : Around} {outer : List Env} {s : Shared} {H : Hp} {EE : XK}
theorem r0_f_L_right : Rd1 (X_f_L_right P w K mg base f cd A outer s H EE) 0 "_law_draws_here" := ⟨rfl, by first | exact .inl rfl | exact .inr (.inl rfl), by decide, by decide⟩
theorem w0_f_L_right : Wr1 (X_f_L_right P w K mg base f cd A outer s H EE) 0 "_law_draws_here" := ⟨sc_f_L_right.nd, rfl, by first | exact .inl rfl | exact .inr rfl, .inl rfl⟩
theorem r1_f_L_right : Rd1 (X_f_L_right P w K mg base f cd A outer s H EE) 1 "_law_a_base" := ⟨rfl, by first | exact .inl rfl | exact .inr (.inl rfl), by decide, by decide⟩
theorem w1_f_L_right : Wr1 (X_f_L_right P w K mg base f cd A outer s H EE) 1 "_law_a_base" := ⟨sc_f_L_right.nd, rfl, by first | exact .inl rfl | exact .inr rfl, .inl rfl⟩
theorem r2_f_L_right : Rd1 (X_f_L_right P w K mg base f cd A outer s H EE) 2 "_law_k" := ⟨rfl, by first | exact .inl rfl | exact .inr (.inl rfl), by decide, by decide⟩
theorem w2_f_L_right : Wr1 (X_f_L_right P w K mg base f cd A outer s H EE) 2 "_law_k" := ⟨sc_f_L_right.nd, rfl, by first | exact .inl rfl | exact .inr rfl, .inl rfl⟩
theorem r3_f_L_right : Rd1 (X_f_L_right P w K mg base f cd A outer s H EE) 3 "_law_a_number" := ⟨rfl, by first | exact .inl rfl | exact .inr (.inl rfl), by decide, by decide⟩
theorem w3_f_L_right : Wr1 (X_f_L_right P w K mg base f cd A outer s H EE) 3 "_law_a_number" := ⟨sc_f_L_right.nd, rfl, by first | exact .inl rfl | exact .inr rfl, .inl rfl⟩
theorem r4_f_L_right : Rd1 (X_f_L_right P w K mg base f cd A outer s H EE) 4 "_law_due" := ⟨rfl, by first | exact .inl rfl | exact .inr (.inl rfl), by decide, by decide⟩
theorem w4_f_L_right : Wr1 (X_f_L_right P w K mg base f cd A outer s H EE) 4 "_law_due" := ⟨sc_f_L_right.nd, rfl, by first | exact .inl rfl | exact .inr rfl, .inl rfl⟩
theorem r5_f_L_right : Rd1 (X_f_L_right P w K mg base f cd A outer s H EE) 5 "_law_told" := ⟨rfl, by first | exact .inl rfl | exact .inr (.inl rfl), by decide, by decide⟩
theorem w5_f_L_right : Wr1 (X_f_L_right P w K mg base f cd A outer s H EE) 5 "_law_told" := ⟨sc_f_L_right.nd, rfl, by first | exact .inl rfl | exact .inr rfl, .inl rfl⟩
theorem r6_f_L_right : Rd1 (X_f_L_right P w K mg base f cd A outer s H EE) 6 "_law_back" := ⟨rfl, by first | exact .inl rfl | exact .inr (.inl rfl), by decide, by decide⟩
theorem w6_f_L_right : Wr1 (X_f_L_right P w K mg base f cd A outer s H EE) 6 "_law_back" := ⟨sc_f_L_right.nd, rfl, by first | exact .inl rfl | exact .inr rfl, .inl rfl⟩
theorem r7_f_L_right : Rd1 (X_f_L_right P w K mg base f cd A outer s H EE) 7 "_law_plain" := ⟨rfl, by first | exact .inl rfl | exact .inr (.inl rfl), by decide, by decide⟩
theorem w7_f_L_right : Wr1 (X_f_L_right P w K mg base f cd A outer s H EE) 7 "_law_plain" := ⟨sc_f_L_right.nd, rfl, by first | exact .inl rfl | exact .inr rfl, .inl rfl⟩
theorem g__law_next_f_L_right : Gl (X_f_L_right P w K mg base f cd A outer s H EE) "_law_next" := rfl
theorem g_range_f_L_right : Gl (X_f_L_right P w K mg base f cd A outer s H EE) "range" := rfl
theorem g__law_number_f_L_right : Gl (X_f_L_right P w K mg base f cd A outer s H EE) "_law_number" := rfl
theorem g__law_text_f_L_right : Gl (X_f_L_right P w K mg base f cd A outer s H EE) "_law_text" := rfl
theorem g_figures_f_L_right : Gl (X_f_L_right P w K mg base f cd A outer s H EE) "figures" := rfl
theorem g_isinstance_f_L_right : Gl (X_f_L_right P w K mg base f cd A outer s H EE) "isinstance" := rfl
theorem g_str_f_L_right : Gl (X_f_L_right P w K mg base f cd A outer s H EE) "str" := rfl
theorem g_read_figures_f_L_right : Gl (X_f_L_right P w K mg base f cd A outer s H EE) "read_figures" := rfl
theorem g__law_whole_f_L_right : Gl (X_f_L_right P w K mg base f cd A outer s H EE) "_law_whole" := rfl
end
abbrev s_f_LAW : Stmt := top 14
abbrev N_f_LAW : List Str := ["_law_script", "_law_cell"]
theorem sc_f_LAW : FnScope N_f_LAW ["_law_script"] (defScope s_f_LAW) := ⟨rfl, rfl, rfl, by decide +kernel, rfl, by decide +kernel, by decide +kernel⟩
abbrev X_f_LAW (P : Program) (w : World) (K : PySem.W.Frag) (mg : Str → Option Value) (base : Heap) (f : Addr) (cd : Value) (A : Around) (outer : List Env) (s : Shared) (H : Hp) (EE : XK) : Cx := xd P w K mg base N_f_LAW "law" (defScope s_f_LAW) f cd A outer s H EE
section
variable {P : Program} {w : World} {K : PySem.W.Frag} {mg : Str → Option Value} {base : Heap} {f : Addr} {cd : Value} {A : Around} {outer : List Env} {s : Shared} {H : Hp} {EE : XK}
theorem r0_f_LAW : Rd1 (X_f_LAW P w K mg base f cd A outer s H EE) 0 "_law_script" := ⟨rfl, by first | exact .inl rfl | exact .inr (.inl rfl), by decide, by decide⟩
theorem w0_f_LAW : Wr1 (X_f_LAW P w K mg base f cd A outer s H EE) 0 "_law_script" := ⟨sc_f_LAW.nd, rfl, by first | exact .inl rfl | exact .inr rfl, .inl rfl⟩
theorem r1_f_LAW : Rd1 (X_f_LAW P w K mg base f cd A outer s H EE) 1 "_law_cell" := ⟨rfl, by first | exact .inl rfl | exact .inr (.inl rfl), by decide, by decide⟩
theorem w1_f_LAW : Wr1 (X_f_LAW P w K mg base f cd A outer s H EE) 1 "_law_cell" := ⟨sc_f_LAW.nd, rfl, by first | exact .inl rfl | exact .inr rfl, .inl rfl⟩
theorem g__law_right_f_LAW : Gl (X_f_LAW P w K mg base f cd A outer s H EE) "_law_right" := rfl
theorem g__law_draws_f_LAW : Gl (X_f_LAW P w K mg base f cd A outer s H EE) "_law_draws" := rfl
end
end MM

namespace MM
open PySem L2 PyProof.Rows
/-! ### fractions -/
abbrev rt (t b : Int) : Rat := Rat.divInt t b
theorem rt_self (q : Rat) : rt q.num q.den = q := by
  rw [rt, Rat.divInt_eq_div]
  exact Rat.num_divInt_den q |> fun h => by rw [← Rat.divInt_eq_div]; exact h
/-- by the greatest common part, its sign the bottom's -/
def lowBy (t b : Int) : Int := if b < 0 then 0 - (Int.gcd t b : Int) else (Int.gcd t b : Int)
theorem gcd_pos {t b : Int} (hb : b ≠ 0) : 0 < Int.gcd t b := Int.gcd_pos_of_ne_zero_right _ hb
theorem lowBy_ne {t b : Int} (hb : b ≠ 0) : lowBy t b ≠ 0 := by
  have := gcd_pos (t := t) hb
  unfold lowBy
  split <;> omega
theorem low_top {t b : Int} (hb : b ≠ 0) : t.fdiv (lowBy t b) = (rt t b).num := by
  have hg := gcd_pos (t := t) hb
  obtain ⟨c, hc⟩ := Int.gcd_dvd_left (a := t) (b := b)
  rw [rt, Rat.num_divInt, Int.gcd_comm b t]
  unfold lowBy
  by_cases h : b < 0
  · rw [if_pos h, Int.sign_eq_neg_one_of_neg h]
    have e1 : t = (0 - (Int.gcd t b : Int)) * (-c) := by rw [Int.zero_sub, Int.neg_mul_neg]; exact hc
    have e2 : -1 * t = (Int.gcd t b : Int) * (-c) := by rw [Int.mul_neg, ← hc]; omega
    have n1 : (0 - (Int.gcd t b : Int)) ≠ 0 := by omega
    have n2 : (Int.gcd t b : Int) ≠ 0 := by omega
    rw [e2, Int.mul_ediv_cancel_left _ n2]
    conv => lhs; arg 1; rw [e1]
    exact Int.mul_fdiv_cancel_left _ n1
  · have h0 : 0 < b := by omega
    rw [if_neg h, Int.sign_eq_one_of_pos h0, Int.one_mul]
    have n2 : (Int.gcd t b : Int) ≠ 0 := by omega
    conv => lhs; arg 1; rw [hc]
    conv => rhs; arg 1; rw [hc]
    rw [Int.mul_ediv_cancel_left _ n2]
    exact Int.mul_fdiv_cancel_left _ n2
theorem low_bot {t b : Int} (hb : b ≠ 0) : b.fdiv (lowBy t b) = ((rt t b).den : Int) := by
  have hg := gcd_pos (t := t) hb
  obtain ⟨c, hc⟩ := Int.gcd_dvd_right (a := t) (b := b)
  rw [rt, Rat.den_divInt, if_neg hb, Int.gcd_comm b t]
  unfold lowBy
  have n2 : (Int.gcd t b : Int) ≠ 0 := by omega
  by_cases h : b < 0
  · rw [if_pos h]
    have e1 : b = (0 - (Int.gcd t b : Int)) * (-c) := by rw [Int.zero_sub, Int.neg_mul_neg]; exact hc
    have n1 : (0 - (Int.gcd t b : Int)) ≠ 0 := by omega
    have e3 : (b.natAbs : Int) = (Int.gcd t b : Int) * (-c) := by rw [Int.mul_neg, ← hc]; omega
    rw [Int.natCast_ediv, e3, Int.mul_ediv_cancel_left _ n2]
    conv => lhs; arg 1; rw [e1]
    exact Int.mul_fdiv_cancel_left _ n1
  · rw [if_neg h]
    have e3 : (b.natAbs : Int) = (Int.gcd t b : Int) * c := by rw [← hc]; omega
    rw [Int.natCast_ediv, e3, Int.mul_ediv_cancel_left _ n2]
    conv => lhs; arg 1; rw [hc]
    exact Int.mul_fdiv_cancel_left _ n2
theorem den_pos (q : Rat) : (0 : Int) < q.den := by have := q.den_pos; omega
theorem den_ne (q : Rat) : (q.den : Int) ≠ 0 := by have := den_pos q; omega
theorem rt_add (a c : Int) {b d : Int} (hb : b ≠ 0) (hd : d ≠ 0) : rt (a * d + c * b) (b * d) = rt a b + rt c d := (Rat.divInt_add_divInt a c hb hd).symm
theorem rt_mul (a c : Int) {b d : Int} : rt (a * c) (b * d) = rt a b * rt c d := (Rat.divInt_mul_divInt a c).symm
theorem rt_neg (a b : Int) : rt (-a) b = - rt a b := by
  rw [rt, rt, Rat.divInt_eq_div, Rat.divInt_eq_div, Rat.intCast_neg, Rat.div_def, Rat.div_def, Rat.neg_mul]
theorem rt_sub (a c : Int) {b d : Int} (hb : b ≠ 0) (hd : d ≠ 0) : rt (a * d - c * b) (b * d) = rt a b - rt c d := by
  have e : a * d - c * b = a * d + (-c) * b := by rw [Int.neg_mul]; omega
  rw [e, rt_add a (-c) hb hd, rt_neg, Rat.sub_eq_add_neg]
theorem rt_int (i : Int) : rt i 1 = (i : Rat) := by
  rw [rt, Rat.divInt_eq_div]
  grind
theorem add_q (p q : Rat) : rt (p.num * q.den + q.num * p.den) (p.den * q.den) = p + q := by
  rw [rt_add _ _ (den_ne p) (den_ne q), rt_self, rt_self]
theorem sub_q (p q : Rat) : rt (p.num * q.den - q.num * p.den) (p.den * q.den) = p - q := by
  rw [rt_sub _ _ (den_ne p) (den_ne q), rt_self, rt_self]
theorem mul_q (p q : Rat) : rt (p.num * q.num) (p.den * q.den) = p * q := by
  rw [rt_mul, rt_self, rt_self]
theorem rt_inv (a b : Int) : rt b a = (rt a b)⁻¹ := by
  rw [rt, rt, Rat.divInt_eq_div, Rat.divInt_eq_div, Rat.div_def, Rat.div_def, Rat.inv_mul_rev, Rat.inv_inv]
theorem div_q (p q : Rat) : rt (p.num * q.den) (p.den * q.num) = p / q := by
  rw [rt_mul, rt_self, rt_inv, rt_self, Rat.div_def]
theorem num_ne {q : Rat} (h : q ≠ 0) : q.num ≠ 0 := fun e => h (by
  have := Rat.num_eq_zero.mp e
  exact this)
/-! ### sizes of fractions -/
structure Sz (n : Nat) (q : Rat) : Prop where
  num : Bd n q.num
  den : Bd n q.den
theorem Sz.mono {n m : Nat} {q : Rat} (h : Sz n q) (l : n ≤ m) : Sz m q := ⟨h.num.mono l, h.den.mono l⟩
theorem ediv_le {a b : Nat} : a / b ≤ a := Nat.div_le_self a b
theorem sz_rt {n m : Nat} {a b : Int} (ha : Bd n a) (hb : Bd m b) (h0 : b ≠ 0) : Sz (max n m) (rt a b) := by
  have h1 : a.natAbs < 2 ^ n := ha
  have h2 : b.natAbs < 2 ^ m := hb
  constructor
  · show (rt a b).num.natAbs < _
    rw [rt, Rat.num_divInt]
    have e : (b.sign * a).natAbs ≤ a.natAbs := by
      rcases Int.lt_or_gt_of_ne h0 with h | h
      · rw [Int.sign_eq_neg_one_of_neg h]; omega
      · rw [Int.sign_eq_one_of_pos h]; omega
    have e2 := Int.natAbs_ediv_le_natAbs (b.sign * a) (Int.gcd b a : Int)
    have := @pow2_le n (max n m) (Nat.le_max_left _ _)
    omega
  · show ((rt a b).den : Int).natAbs < _
    rw [rt, Rat.den_divInt, if_neg h0, Int.natAbs_natCast]
    have := @pow2_le m (max n m) (Nat.le_max_right _ _)
    have e3 := Nat.div_le_self b.natAbs (Int.gcd b a)
    omega
theorem sz_add {n m : Nat} {p q : Rat} (hp : Sz n p) (hq : Sz m q) : Sz (n + m + 1) (p + q) := by
  rw [← add_q]
  refine (sz_rt (bd_add (bd_mul hp.num hq.den) (bd_mul hq.num hp.den)) (bd_mul hp.den hq.den) ?_).mono (by omega)
  exact Int.mul_ne_zero (den_ne p) (den_ne q)
theorem sz_sub {n m : Nat} {p q : Rat} (hp : Sz n p) (hq : Sz m q) : Sz (n + m + 1) (p - q) := by
  rw [← sub_q]
  refine (sz_rt (bd_sub (bd_mul hp.num hq.den) (bd_mul hq.num hp.den)) (bd_mul hp.den hq.den) ?_).mono (by omega)
  exact Int.mul_ne_zero (den_ne p) (den_ne q)
theorem sz_mul {n m : Nat} {p q : Rat} (hp : Sz n p) (hq : Sz m q) : Sz (n + m) (p * q) := by
  rw [← mul_q]
  refine (sz_rt (bd_mul hp.num hq.num) (bd_mul hp.den hq.den) ?_).mono (by omega)
  exact Int.mul_ne_zero (den_ne p) (den_ne q)
theorem sz_div {n m : Nat} {p q : Rat} (hp : Sz n p) (hq : Sz m q) (h : q ≠ 0) : Sz (n + m) (p / q) := by
  rw [← div_q]
  refine (sz_rt (bd_mul hp.num hq.den) (bd_mul hp.den hq.num) ?_).mono (by omega)
  exact Int.mul_ne_zero (den_ne p) (num_ne h)
theorem sz_int {n : Nat} {i : Int} (h : Bd n i) (h1 : 1 ≤ n) : Sz n (i : Rat) := by
  refine ⟨by rw [Rat.num_intCast]; exact h, ?_⟩
  rw [Rat.den_intCast]
  show (1 : Nat) < 2 ^ n
  exact Nat.lt_of_lt_of_le (by decide : 1 < 2 ^ 1) (pow2_le h1)
theorem sz_neg {n : Nat} {p : Rat} (h : Sz n p) : Sz n (-p) := ⟨by rw [Rat.neg_num]; exact bd_neg h.num, by rw [Rat.neg_den]; exact h.den⟩
theorem bd_floor {n : Nat} {q : Rat} (h : Sz n q) : Bd n q.floor := by
  rw [Rat.floor_def]
  exact bd_div (den_pos q) h.num
end MM

namespace MM
open PySem L2 PyProof.Rows
section
variable {X : Cx} {E : En} {Γ : Gm} {M : Ow} {st : Stmt} {rest : List Stmt} {Ψ : Ed}
theorem wss_cut (J : Gm → Ow → Prop) (h : WS X E Γ M st { Ψ with nx := J }) (k : ∀ Γ' M', J Γ' M' → WSs X E Γ' M' rest Ψ) : WSs X E Γ M (st :: rest) Ψ :=
  wss_cons fun σ G H a D c => h σ G H a D ⟨fun Γ' M' hj => c.nx Γ' M' (k Γ' M' hj), c.rt, c.bk, c.ct⟩
end
theorem eqv_ii {a b : Int} : PyData.eqv (.int a) (.int b) = (a == b) := by simp [PyData.eqv]
theorem eqv_ss {a b : Str} : PyData.eqv (.str a) (.str b) = (a == b) := by simp [PyData.eqv]
theorem shaped_i {a : Int} : SeqAt.shaped (.int a) = true := rfl
end MM

namespace MM
open PySem L2 PyProof.Rows
section
variable {X : Cx} {E : En} {Γ : Gm} {M : Ow} {Ψ : Ed}
/-- a first store of a field -/
theorem ws_fldN {o value : Expr} {f : Str} {pos pos' : Pos} (h : WE X E Γ M value fun ρv M1 => WE X E Γ M1 o fun ρo M2 => ∃ p C l u, Sub ρo (RRef p) ∧ Fnd M2 p (OIns C l) u ∧ Cls X.K C ∧ NoAttr X.K C f ∧ l.length < 1000 ∧ l.lookup f = none ∧ Ψ.nx Γ (u (OIns C (l ++ [(f, ρv)]))))
    (hs : swapsWith value (some (.Attribute o f pos')) pos.line X.env = pure false := by rfl) : WS X E Γ M (.Assign [.Attribute o f pos'] value pos) Ψ := by
  refine ws_fld (fun σ G H a Q q => h σ G H a Q fun ρ M' v G' H' hh => q ρ M' v G' H' (fun σ2 G2 H2 a2 Q2 q2 => hh σ2 G2 H2 a2 Q2 fun ρ2 M2 v2 G3 H3 ⟨p, C, l, u, h1, h2, h3, h4, h5, h6, h7⟩ => q2 ρ2 M2 v2 G3 H3 ⟨p, C, l, u, h1, h2, h3, h4, h5, by rw [putR_new h6]; exact h7⟩)) hs
end
theorem bd_0 {n : Nat} : Bd n 0 := by
  show (0 : Int).natAbs < _
  exact Nat.two_pow_pos n
end MM

namespace MM
open PySem L2 PyProof.Rows
theorem bd_lit {i : Int} (h : i.natAbs < 1180591620717411303424) : Bd 70 i := h
theorem cpow_lit {i j : Int} (h1 : 0 ≤ j) (h2 : j ≤ 1000000) (h3 : i.natAbs < 2 ^ 64) : CPow i j := ⟨h1, h2, h3⟩
local macro_rules | `(tactic| walk_at "bd") => `(tactic| first
  | assumption
  | exact Sz.num (by assumption)
  | exact Sz.den (by assumption)
  | exact bd_lit (by decide)
  | (refine' bd_mul ?h1 ?h2; (case h1 => walk_at "bd"); (case h2 => walk_at "bd"))
  | (refine' bd_add ?h1 ?h2; (case h1 => walk_at "bd"); (case h2 => walk_at "bd"))
  | (refine' bd_sub ?h1 ?h2; (case h1 => walk_at "bd"); (case h2 => walk_at "bd"))
  | (refine' bd_mod ?h1 ?h2; (case h1 => decide); (case h2 => walk_at "bd"))
  | (refine' bd_neg ?h1; (case h1 => walk_at "bd")))
local macro_rules | `(tactic| walk_at "mul") => `(tactic| (refine' opv_mul_i (mulOk ?h1 ?h2 ?h3); (case h1 => walk_at "bd"); (case h2 => walk_at "bd"); (case h3 => decide)))
/-! ### owned things told in part -/
def OEx {ι : Type} (c : ι → Prop) (r : ι → ORep) : ORep := ⟨fun o G => ∃ y, c y ∧ (r y).p o G, fun o G G' s ⟨y, h, k⟩ => ⟨y, h, (r y).mono _ _ _ s k⟩⟩
theorem oex_in {ι : Type} {c : ι → Prop} {r : ι → ORep} {ρ : ORep} (y : ι) (h : c y) (s : OSub ρ (r y)) : OSub ρ (OEx c r) := fun o G k => ⟨y, h, s o G k⟩
section
variable {X : Cx} {E : En} {Γ : Gm} {M : Ow} {st : List Stmt} {Ψ : Ed} {ι : Type}
theorem wss_open {p : Addr} {c : ι → Prop} {r : ι → ORep} {u : ORep → Ow} (f : Fnd M p (OEx c r) u) (k : ∀ y, c y → WSs X E Γ (u (r y)) st Ψ) : WSs X E Γ M st Ψ := fun σ G H a D d => by
  obtain ⟨o, e1, y, hy, ry⟩ := a.own _ f.mem
  have b : At E Γ (u (r y)) σ G H := by
    refine ⟨a.len, a.env, a.gh, fun q hq => ?_, fun q hq => ?_, by rw [f.map]; exact a.nd, a.g0, a.keep, a.nw, fun q hq => ?_, a.there⟩
    · rcases f.of (r y) q hq with e | ⟨h1, _⟩
      · subst e; exact ⟨o, e1, ry⟩
      · exact a.own q h1
    · rcases f.of (r y) q hq with e | ⟨h1, _⟩
      · subst e; exact a.gn (p, OEx c r) f.mem
      · exact a.gn q h1
    · rcases f.of (r y) q hq with e | ⟨h1, _⟩
      · subst e; exact a.loc (p, OEx c r) f.mem
      · exact a.loc q h1
  exact k y hy σ G H b D d
end
/-! ### the law's draws -/
/-- a list of draws, at most n of them made -/
def ODr (n : Nat) : ORep := OEx (fun y : Int × Int × Bool => 0 ≤ y.2.1 ∧ y.2.1 ≤ n) fun y => OL [RI y.1, RI y.2.1, RB y.2.2]
theorem odr_mono {n m : Nat} (h : n ≤ m) : OSub (ODr n) (ODr m) := fun o G ⟨y, ⟨h1, h2⟩, k⟩ => ⟨y, ⟨h1, by omega⟩, k⟩
def con_L_draws : Con := { I := Int, B := Addr, pre := fun _ => True, args := fun i => [RI i], own := fun _ => [], post := fun _ _ => True, res := fun _ p => RRef p, own' := fun _ p => [(p, ODr 0)] }
theorem ck_L_draws {ρ : Rep} {M : Ow} {Φ : Rep → Ow → Prop} {a : Int} (h : Sub ρ (RI a)) (k : ∀ p, Φ (RRef p) ((p, ODr 0) :: M)) : CallK con_L_draws [ρ] M Φ :=
  ⟨a, M, trivial, .cons h .nil, .nil, fun p _ => k p⟩
/-- the next draw: a whole number below 306,783,369 -/
def Dr (x : Int) : Prop := 0 ≤ x ∧ x < 306783369
theorem Dr.bd {x : Int} (h : Dr x) : Bd 29 x := by
  obtain ⟨h1, h2⟩ := h
  show x.natAbs < _
  omega
def con_L_next : Con := { I := Addr × Nat, B := Int, pre := fun i => i.2 ≤ 1000000000, args := fun i => [RRef i.1], own := fun i => [(i.1, ODr i.2)], post := fun _ x => Dr x, res := fun _ x => RI x, own' := fun i _ => [(i.1, ODr (i.2 + 1))] }
theorem ck_L_next {ρ : Rep} {M M1 : Ow} {Φ : Rep → Ow → Prop} {p : Addr} {n : Nat} (h : Sub ρ (RRef p)) (rm : Rm M p (ODr n) M1) (hn : n ≤ 1000000000) (k : ∀ x, Dr x → Φ (RI x) ((p, ODr (n + 1)) :: M1)) : CallK con_L_next [ρ] M Φ :=
  ⟨(p, n), M1, hn, .cons h .nil, .cons rm OSub.rfl .nil, fun x hx => k x hx⟩
section
variable {P : Program} {w : World} {K : PySem.W.Frag} {mg : Str → Option Value} {base : Heap}
theorem bd_ten {n : Nat} (h : n ≤ 100000) : Bd (4 * n + 1) ((10 : Int) ^ n) := by
  show ((10 : Int) ^ n).natAbs < 2 ^ (4 * n + 1)
  have e : ((10 : Int) ^ n).natAbs = 10 ^ n := by
    rw [Int.natAbs_pow]; rfl
  rw [e, Nat.pow_succ, Nat.pow_mul]
  have : 10 ^ n ≤ (2 ^ 4) ^ n := Nat.pow_le_pow_left (by decide) n
  have : 0 < 10 ^ n := Nat.pow_pos (by decide)
  omega
theorem ok_L_draws {f : Addr} {fd : FuncData} (F : FdD K "_law_draws" "_law_draws" s_f_L_draws [] f fd) (hrg : mg "range" = none) : FnOk P w K mg base CX0 1 f fd ["_law_cell"] (conSp con_L_draws) := by
  refine fn_conD con_L_draws F sc_f_L_draws (fun _ => rfl) fun cd A outer s H EE G i hp hr hE => ?_
  -- cut = 10 ** 60
  refine wss_cons (ws_set 1 w1_f_L_draws (we_bin op_pow (we_int (we_int (opw_of (opv_pow_i (cpow_lit (by decide) (by decide) (by decide))) ?_)))))
  -- for k in range(7): cut = cut * cut
  refine wss_cons (ws_for_range1 PassesOwn.never rfl g_range_f_L_draws hrg (wa_cons (we_int (wa_nil ⟨7, .cons Sub.rfl .nil, ⟨by decide, by decide⟩, fun n Γ M => ∃ o, Γ = [some (RI i), some (RI ((10 : Int) ^ (60 * 2 ^ n))), o] ∧ M = [], ⟨none, rfl, rfl⟩, ?_, ?_⟩))))
  · rintro n ρ Γ M hn rfl ⟨o, rfl, rfl⟩
    have hn : n < 7 := hn
    have hb : Bd (4 * (60 * 2 ^ n) + 1) ((10 : Int) ^ (60 * 2 ^ n)) := bd_ten (by
      have : 2 ^ n ≤ 2 ^ 7 := pow2_le (by omega)
      omega)
    refine wg_name 2 w2_f_L_draws (wss_one (ws_set 1 w1_f_L_draws (we_bin op_mulU (we_var 1 r1_f_L_draws rfl (we_var 1 r1_f_L_draws rfl (opw_of (opv_mul_i (mulOk hb hb ?_)) ?_))))))
    · have : 2 ^ n ≤ 2 ^ 7 := pow2_le (by omega)
      omega
    · refine ⟨some (RI (n : Int)), ?_, rfl⟩
      show [some (RI i), some (RI ((10 : Int) ^ (60 * 2 ^ n) * (10 : Int) ^ (60 * 2 ^ n))), _] = _
      rw [← Int.pow_add, Nat.pow_succ]
      have e : 60 * 2 ^ n + 60 * 2 ^ n = 60 * (2 ^ n * 2) := by omega
      rw [e]
  · rintro Γ M ⟨o, rfl, rfl⟩
    -- return [cell % cut, 0, cell >= 10 ** 18]
    have hc : (0 : Int) < (10 : Int) ^ (60 * 2 ^ (7 : Int).toNat) := Int.pow_pos (by decide)
    refine wss_one (ws_ret (we_lstO (wa_cons (we_bin op_modN (we_var 0 r0_f_L_draws rfl (we_var 1 r1_f_L_draws rfl (opw_of (opv_mod_i hc) ?_))))) hE))
    refine wa_cons (we_int (wa_cons (we_cmp op_ge (nomark _) (we_var 0 r0_f_L_draws rfl (we_bin op_pow (we_int (we_int (opw_of (opv_pow_i (cpow_lit (by decide) (by decide) (by decide))) (opw_of opv_ge_i (wa_nil ⟨by show 3 ≤ 100000; decide, fun p _ _ => ?_⟩))))))))))
    exact ⟨p, [], trivial, Sub.rfl, .cons .here (oex_in (_, _, _) ⟨Int.le_refl 0, Int.le_refl 0⟩ OSub.rfl) .nil⟩
theorem ok_L_next {f : Addr} {fd : FuncData} (F : FdD K "_law_next" "_law_next" s_f_L_next [] f fd) : FnOk P w K mg base CX0 1 f fd ["_law_draws_here"] (conSp con_L_next) := by
  refine fn_conD con_L_next F sc_f_L_next (fun _ => rfl) fun cd A outer s H EE G i hp hr hE => ?_
  obtain ⟨p, n⟩ := i
  have hp : n ≤ 1000000000 := hp
  refine wss_open Fnd.here ?_
  rintro ⟨a, j, b⟩ ⟨hj0, hj1⟩
  have hj0 : 0 ≤ j := hj0
  have hj1 : j ≤ n := hj1
  have bj : Bd 40 (j + 1) := by
    show (j + 1).natAbs < _
    omega
  -- d[1] = d[1] + 1
  refine wss_cons (ws_asg (we_bin op_addU (we_ix ix_seq (we_var 0 r0_f_L_next rfl (we_int (opw_ix_o Sub.rfl Sub.rfl .here (show atI [RI a, RI j, RB b] 1 = some (RI j) from rfl) (we_int ?_)))))))
  refine opw_of opv_add_i (wg_setL (we_var 0 r0_f_L_next rfl (we_int ⟨p, _, 1, 1, _, Sub.rfl, Sub.rfl, .here, rfl, ?_⟩)))
  -- k = d[1]
  refine wss_cons (ws_set 1 w1_f_L_next (we_ix ix_seq (we_var 0 r0_f_L_next rfl (we_int (opw_ix_o Sub.rfl Sub.rfl .here (show atI [RI a, RI (j + 1), RB b] 1 = some (RI (j + 1)) from rfl) ?_)))))
  -- if d[2]
  refine wss_cons (ws_if (wt_val (we_ix ix_seq (we_var 0 r0_f_L_next rfl (we_int (opw_ix_o Sub.rfl Sub.rfl .here (show atI [RI a, RI (j + 1), RB b] 2 = some (RB b) from rfl) ⟨_, Sub.rfl, fun hk => ?_, fun hk => wss_nil ?_⟩))))))
  · refine wss_cons (ws_set 2 w2_f_L_next (we_bin op_modN (we_ix ix_seq (we_var 0 r0_f_L_next rfl (we_int (opw_ix_o Sub.rfl Sub.rfl .here (show atI [RI a, RI (j + 1), RB b] 0 = some (RI a) from rfl) (we_bin op_pow (we_int (we_int (opw_of (opv_pow_i (cpow_lit (by decide) (by decide) (by decide))) (opw_of (opv_mod_i (by decide)) ?_))))))))))) 
    refine wss_cons (ws_asg (we_bin op_fdivA (we_ix ix_seq (we_var 0 r0_f_L_next rfl (we_int (opw_ix_o Sub.rfl Sub.rfl .here (show atI [RI a, RI (j + 1), RB b] 0 = some (RI a) from rfl) (we_bin op_pow (we_int (we_int (opw_of (opv_pow_i (cpow_lit (by decide) (by decide) (by decide))) (opw_of (opv_div_i (by decide) (by decide)) ?_)))))))))))
    refine wg_setL (we_var 0 r0_f_L_next rfl (we_int ⟨p, _, 0, 0, _, Sub.rfl, Sub.rfl, .here, rfl, ?_⟩))
    refine wss_one (ws_ret (we_var 2 r2_f_L_next rfl ⟨a % 10 ^ (6 : Int).toNat, [], ?_, Sub.rfl, .cons .here ?_ .nil⟩))
    · show 0 ≤ a % 1000000 ∧ a % 1000000 < 306783369
      omega
    · exact oex_in (_, j + 1, b) ⟨by show 0 ≤ j + 1; omega, by show j + 1 ≤ ((n + 1 : Nat) : Int); omega⟩ OSub.rfl
  -- the mix
  refine wss_cons (ws_set 2 w2_f_L_next (we_bin op_modN (we_bin op_mulU (we_bin op_addU (we_bin op_addU (we_bin op_modN (we_ix ix_seq (we_var 0 r0_f_L_next rfl (we_int (opw_ix_o Sub.rfl Sub.rfl .here (show atI [RI a, RI (j + 1), RB b] 0 = some (RI a) from rfl) (we_int (opw_of (opv_mod_i (by decide)) ?_))))))))))))
  refine we_bin op_mulU (we_bin op_mulU (we_var 1 r1_f_L_next rfl (we_var 1 r1_f_L_next rfl (opw_of (by walk_at "mul") (we_int (opw_of (by walk_at "mul") (opw_of opv_add_i ?_)))))))
  refine we_var 1 r1_f_L_next rfl (opw_of opv_add_i (we_int (opw_of (by walk_at "mul") (we_int (opw_of (opv_mod_i (by decide)) ?_)))))
  have q0 := Int.emod_nonneg ((a % 1000003 + (j + 1) * (j + 1) * 7919 + (j + 1)) * 48271) (show (2147483629 : Int) ≠ 0 by decide)
  have q1 := Int.emod_lt_of_pos ((a % 1000003 + (j + 1) * (j + 1) * 7919 + (j + 1)) * 48271) (show (0 : Int) < 2147483629 by decide)
  generalize (a % 1000003 + (j + 1) * (j + 1) * 7919 + (j + 1)) * 48271 % 2147483629 = z at q0 q1
  have bz : Bd 32 z := by
    show z.natAbs < _
    omega
  refine wss_cons (ws_set 2 w2_f_L_next (we_bin op_modN (we_bin op_mulU (we_var 2 r2_f_L_next rfl (we_var 2 r2_f_L_next rfl (opw_of (by walk_at "mul") (we_int (opw_of (opv_mod_i (by decide)) ?_))))))))
  have p0 := Int.emod_nonneg (z * z) (show (2147483587 : Int) ≠ 0 by decide)
  have p1 := Int.emod_lt_of_pos (z * z) (show (0 : Int) < 2147483587 by decide)
  generalize z * z % 2147483587 = y at p0 p1
  have by_ : Bd 32 y := by
    show y.natAbs < _
    omega
  refine wss_one (ws_ret (we_bin op_fdivA (we_bin op_modN (we_bin op_mulU (we_var 2 r2_f_L_next rfl (we_bin op_addU (we_var 2 r2_f_L_next rfl (we_int (opw_of opv_add_i (opw_of (by walk_at "mul") (we_int (opw_of (opv_mod_i (by decide)) (we_int (opw_of (opv_div_i (by decide) (by decide)) ?_))))))))))))))
  refine ⟨y * (y + 2) % 2147483579 / 7, [], ?_, Sub.rfl, .cons .here ?_ .nil⟩
  · show 0 ≤ _ ∧ _ < 306783369
    have t0 := Int.emod_nonneg (y * (y + 2)) (show (2147483579 : Int) ≠ 0 by decide)
    have t1 := Int.emod_lt_of_pos (y * (y + 2)) (show (0 : Int) < 2147483579 by decide)
    omega
  · exact oex_in (_, j + 1, b) ⟨by show 0 ≤ j + 1; omega, by show j + 1 ≤ ((n + 1 : Nat) : Int); omega⟩ OSub.rfl
end
end MM

namespace MM
open PySem L2 PyProof.Rows
/-! ### an item of a written list of ints -/
inductive AllI (Q : Int → Prop) : List Rep → Prop
  | nil : AllI Q []
  | cons {n : Int} {l : List Rep} : Q n → AllI Q l → AllI Q (RI n :: l)
theorem AllI.mem {Q : Int → Prop} {l : List Rep} (h : AllI Q l) : ∀ ρ ∈ l, ∃ n, ρ = RI n ∧ Q n := by
  induction h with
  | nil => intro ρ hm; cases hm
  | cons hq _ ih =>
    intro ρ hm
    rcases List.mem_cons.mp hm with e | hm
    · exact ⟨_, e, hq⟩
    · exact ih ρ hm
theorem opw_pickI {K : PySem.W.Frag} {E : En} {Γ : Gm} {M : Ow} {Φ : Rep → Ow → Prop} {ρs : List Rep} {i : Int} (Q : Int → Prop) (h0 : 0 ≤ i) (h1 : i < ρs.length) (hq : AllI Q ρs) (k : ∀ n, Q n → Φ (RI n) M) : OpW E Γ M (rIx K) (RLt ρs) (RI i) Φ := by
  obtain ⟨x, e, hm, _⟩ := atI_of (l := ρs) h0 h1
  obtain ⟨n, e2, hn⟩ := hq.mem x hm
  subst e2
  exact opw_of (opv_ix_l sub_lt e) (k n hn)
theorem opv_powL {i j v : Int} (h1 : 0 ≤ j) (h2 : j ≤ 1000000) (h3 : i.natAbs < 2 ^ 64) (e : i ^ j.toNat = v) : OpV rPow (RI i) (RI j) (RI v) := by
  subst e; exact opv_pow_i ⟨h1, h2, h3⟩
theorem bd_one {n : Nat} (hn : 1 ≤ n) : Bd n 1 := by
  show (1 : Int).natAbs < _
  exact Nat.lt_of_lt_of_le (by decide : 1 < 2 ^ 1) (pow2_le hn)
end MM

namespace MM
open PySem L2 PyProof.Rows
theorem opw_pickR {K : PySem.W.Frag} {E : En} {Γ : Gm} {M : Ow} {Φ : Rep → Ow → Prop} {ρs : List Rep} {i : Int} (h0 : 0 ≤ i) (h1 : i < ρs.length) (k : ∀ ρ ∈ ρs, Φ ρ M) : OpW E Γ M (rIx K) (RLt ρs) (RI i) Φ := by
  obtain ⟨x, e, hm, _⟩ := atI_of (l := ρs) h0 h1
  exact opw_of (opv_ix_l sub_lt e) (k x hm)
end MM

namespace MM
open PySem L2 PyProof.Rows
/-! ### slices of lists -/
def tWO (X : Cx) : Option Expr → TO
  | none => tNoPart
  | some e => tPart (tW X e)
theorem po_w {X : Cx} : ∀ {o : Option Expr}, PO X o (tWO X o)
  | none => po_none
  | some _ => po_some pe_w
def WO (X : Cx) (E : En) (Γ : Gm) (M : Ow) (o : Option Expr) (Φ : Option Int → Ow → Prop) : Prop :=
  ∀ σ G H, At E Γ M σ G H → ∀ Q : Option Int → Hp → Prop, (∀ k M' G' H', Φ k M' → Same G G' → At E Γ M' σ G' H' → Q k H') → tWO X o σ H Q
def cutL {α : Type} (l : List α) (lo hi : Option Int) : List α := (l.drop (HT.sIx l.length 0 lo)).take (HT.sIx l.length l.length hi - HT.sIx l.length 0 lo)
theorem cutL_map {α β : Type} {f : α → β} {l : List α} {lo hi : Option Int} : cutL (l.map f) lo hi = (cutL l lo hi).map f := by
  unfold cutL
  rw [List.length_map, List.map_take, List.map_drop]
theorem cutL_len {α : Type} {l : List α} {lo hi : Option Int} : (cutL l lo hi).length ≤ l.length := by
  unfold cutL
  rw [List.length_take, List.length_drop]
  omega
theorem reps_drop {G : Hp} : ∀ {ρs : List Rep} {vs : List V} (n : Nat), Reps ρs vs G → Reps (ρs.drop n) (vs.drop n) G
  | _, _, 0, h => h
  | [], [], _ + 1, h => h
  | _ :: _, _ :: _, n + 1, h => reps_drop n h.2
  | [], _ :: _, _ + 1, h => h.elim
  | _ :: _, [], _ + 1, h => h.elim
theorem reps_take {G : Hp} : ∀ {ρs : List Rep} {vs : List V} (n : Nat), Reps ρs vs G → Reps (ρs.take n) (vs.take n) G
  | _, _, 0, h => trivial
  | [], [], _ + 1, h => h
  | _ :: _, _ :: _, n + 1, h => ⟨h.1, reps_take n h.2⟩
  | [], _ :: _, _ + 1, h => h.elim
  | _ :: _, [], _ + 1, h => h.elim
theorem reps_cut {G : Hp} {ρs : List Rep} {vs : List V} (r : Reps ρs vs G) (lo hi : Option Int) : Reps (cutL ρs lo hi) (cutV vs lo hi) G := by
  unfold cutL cutV
  rw [r.length]
  exact reps_take _ (reps_drop _ r)
section
variable {X : Cx} {E : En} {Γ : Gm} {M : Ow} {a e : Expr} {pos p2 : Pos} {Φ : Rep → Ow → Prop} {lo hi : Option Expr}
theorem wo_none {Φ : Option Int → Ow → Prop} (k : Φ none M) : WO X E Γ M none Φ := fun σ G H a Q q => q none M G H k (Same.refl _) a
theorem wo_some {Φ : Option Int → Ow → Prop} (h : WE X E Γ M e fun ρ M' => ∃ i, Sub ρ (RI i) ∧ Φ (some i) M') : WO X E Γ M (some e) Φ := fun σ G H a Q q =>
  h σ G H a _ fun ρ M' v G' H' ⟨i, sb, hk⟩ s' a' r' => ⟨i, sb _ _ r', q (some i) M' G' H' hk s' a'⟩
theorem we_slL (h : WE X E Γ M a fun ρ M1 => ∃ ρs, Sub ρ (RL X.K ρs) ∧ WO X E Γ M1 lo fun l M2 => WO X E Γ M2 hi fun u M3 => Φ (RLt (cutL ρs l u)) M3) : WE X E Γ M (.Subscript a (.Slice lo hi none p2) pos) Φ :=
  we_of (pe_slice sl_list pe_w po_w po_w) fun σ G H at' Q q => h σ G H at' _ fun ρ M1 x G1 H1 ⟨ρs, sb, h1⟩ s1 a1 r1 => h1 σ G1 H1 a1 _ fun l M2 G2 H2 h2 s2 a2 => h2 σ G2 H2 a2 _ fun u M3 G3 H3 hk s3 a3 => by
    obtain ⟨b, vs, e, hq, rr⟩ := sb _ _ (ρ.mono _ _ _ (s2.trans s3) r1)
    refine ⟨b, vs, e, Same.seq a3.gh hq, fun p hp => ?_⟩
    have n : New G3 H3 (upd G3 p (.lst (cutV vs l u))) (upd H3 p (.lst (cutV vs l u))) := New.put a3.gh hp
    exact q _ M3 _ _ _ hk ((s1.trans (s2.trans s3)).trans n.gg) (a3.new n) ⟨p, _, rfl, upd_same, (reps_cut rr l u).mono n.gg⟩
end
/-! ### a law's own promise -/
def con_law (K : PySem.W.Frag) : Con := { I := List Int, B := Unit, pre := fun ns => ns.length ≤ 63, args := fun ns => [RL K (ns.map RI)], own := fun _ => [], post := fun _ _ => True, res := fun _ _ => RB true, own' := fun _ _ => [] }
theorem reps_ints {G : Hp} : ∀ ns : List Int, Reps (ns.map RI) (ns.map V.int) G
  | [] => trivial
  | _ :: ns => ⟨rfl, reps_ints ns⟩
theorem law_start {K : PySem.W.Frag} {H : Hp} {a : Addr} {ns : List Int} {Q : VK} {EE : XK} (h : SqL K H a (ns.map V.int)) (hl : ns.length ≤ 63) (q : ∀ H', Q (.bl true) H') : conSp (con_law K) [.ref a] H Q EE := by
  refine ⟨H, ns, Same.refl _, hl, ⟨⟨a, _, rfl, h, reps_ints ns⟩, trivial⟩, fun _ hq => (List.not_mem_nil hq).elim, fun _ hq => (List.not_mem_nil hq).elim, List.nodup_nil, fun _ v G' H' _ _ r => ?_⟩
  have r : v = .bl true := r
  subst r
  exact q H'
/-- the turns of a law: over script[:k] + [0] -/
theorem cells_of {ns : List Int} {lo hi : Option Int} {i : Nat} {ρ : Rep} (h : (cutL (ns.map RI) lo hi ++ [RI 0])[i]? = some ρ) : ∃ n, ρ = RI n := by
  have e : cutL (ns.map RI) lo hi ++ [RI 0] = (cutL ns lo hi ++ [0]).map RI := by rw [cutL_map, List.map_append]; rfl
  rw [e, List.getElem?_map] at h
  obtain ⟨n, _, h2⟩ := Option.map_eq_some_iff.mp h
  exact ⟨n, h2.symm⟩
end MM

namespace MM
open PySem L2 PyProof.Rows
/-! ### what the top has written -/
def DefE (K : PySem.W.Frag) (x : Str) (st : Stmt) (dvs : List V) : Prop := ∃ f fd, PySem.W.nsIn K mainGlobals x = some (some (.ref f)) ∧ FdD K x x st dvs f fd
theorem defE_mk {K : PySem.W.Frag} {x : Str} {st : Stmt} {f : Addr} {oc : Value} {od an : Option Addr} {osl : Array (Option Value)} {kV doc pm cdv ct : Value} (a : PySem.W.nsIn K mainGlobals x = some (some (.ref f))) (l : K.lookup f = some ⟨oc, od, .func (PySem.W.fnOf x x (defArgs st) (defBody st) (defScope st) .none kV doc pm an cdv ct), osl⟩)
    (c : PySem.W.codeIn K cdv x = true) (k : PySem.W.keepIn K (.ref f) = true) : DefE K x st [] := ⟨f, _, a, fdD_mk l c k⟩
theorem defE_mkT {K : PySem.W.Frag} {x : Str} {st : Stmt} {dvs : List V} {f T : Addr} {oc tc : Value} {od td an : Option Addr} {osl tsl : Array (Option Value)} {kV doc pm cdv ct : Value} {its : Array Value} {n : Nat} (a : PySem.W.nsIn K mainGlobals x = some (some (.ref f))) (l : K.lookup f = some ⟨oc, od, .func (PySem.W.fnOf x x (defArgs st) (defBody st) (defScope st) (.ref T) kV doc pm an cdv ct), osl⟩)
    (c : PySem.W.codeIn K cdv x = true) (k : PySem.W.keepIn K (.ref f) = true) (lT : K.lookup T = some ⟨tc, td, .seq its n, tsl⟩) (hd : dvs ≠ []) (hv : Vals dvs its.toList) : DefE K x st dvs := ⟨f, _, a, fdD_mkT l c k lT hd hv⟩
/-- a method, or __init__, of the class at C -/
def MetE (K : PySem.W.Frag) (C : Addr) (x qual : Str) (st : Stmt) (dvs : List V) : Prop := ∃ f fd, PySem.W.findIn K (.ref C) x = some (some (.ref f)) ∧ PySem.W.isFn K (.ref f) = true ∧ FdD K x qual st dvs f fd
theorem metE_mk {K : PySem.W.Frag} {C : Addr} {x qual : Str} {st : Stmt} {f : Addr} {oc : Value} {od an : Option Addr} {osl : Array (Option Value)} {kV doc pm cdv ct : Value} (a : PySem.W.findIn K (.ref C) x = some (some (.ref f))) (i : PySem.W.isFn K (.ref f) = true) (l : K.lookup f = some ⟨oc, od, .func (PySem.W.fnOf x qual (defArgs st) (defBody st) (defScope st) .none kV doc pm an cdv ct), osl⟩)
    (c : PySem.W.codeIn K cdv qual = true) (k : PySem.W.keepIn K (.ref f) = true) : MetE K C x qual st [] := ⟨f, _, a, i, fdD_mk l c k⟩
theorem metE_mkT {K : PySem.W.Frag} {C : Addr} {x qual : Str} {st : Stmt} {dvs : List V} {f T : Addr} {oc tc : Value} {od td an : Option Addr} {osl tsl : Array (Option Value)} {kV doc pm cdv ct : Value} {its : Array Value} {n : Nat} (a : PySem.W.findIn K (.ref C) x = some (some (.ref f))) (i : PySem.W.isFn K (.ref f) = true) (l : K.lookup f = some ⟨oc, od, .func (PySem.W.fnOf x qual (defArgs st) (defBody st) (defScope st) (.ref T) kV doc pm an cdv ct), osl⟩)
    (c : PySem.W.codeIn K cdv qual = true) (k : PySem.W.keepIn K (.ref f) = true) (lT : K.lookup T = some ⟨tc, td, .seq its n, tsl⟩) (hd : dvs ≠ []) (hv : Vals dvs its.toList) : MetE K C x qual st dvs := ⟨f, _, a, i, fdD_mkT l c k lT hd hv⟩
/-- an own class -/
structure ClsE (K : PySem.W.Frag) (x : Str) (C : Addr) : Prop where
  at_ : PySem.W.nsIn K mainGlobals x = some (some (.ref C))
  pg : PySem.W.plainGet K C Str.empty = true
  hd : PySem.W.hasDictIn K C = true
  po : PySem.W.plainOver K C = true
  sa : PySem.W.findIn K (.ref C) "__setattr__" = some (some (.builtin "object.__setattr__"))
  ha : PySem.W.findIn K (.ref C) "__class__" = some (some (.builtin "object.__class__"))
  hn : PySem.W.specialIn K (.builtin "object.__class__") "__get__" = some (some (.builtin "getset_descriptor.__get__"))
  htk : PySem.W.takesIn K (.builtin "object.__class__") = some true
  hm : PySem.W.mroIn K C (.type "object") = some true
  makes : PySem.W.makesIn K C = true
  kp : PySem.W.keepIn K (.ref C) = true
theorem ClsE.ci {K : PySem.W.Frag} {x : Str} {C : Addr} (c : ClsE K x C) : ClsI K C := ⟨⟨c.pg, c.hd, c.po, c.sa⟩, c.ha, c.hn, c.htk, c.hm⟩
theorem kitInt {K : PySem.W.Frag} {C : Addr} {T : String} (h1 : PySem.W.isClsIn K C = true) (h2 : PySem.W.typeIn K (.ref C) = some (.type "type")) (h3 : PySem.W.subIn K (.type T) (.ref C) = some false) : PySem.W.kitOne K (.type T) (.ref C) = some false := by
  unfold PySem.W.kitOne
  rw [if_neg (by simp)]
  unfold PySem.W.kitCls
  have h1 : (PySem.W.clsIn K C).isSome = true := h1
  simp [h1, h2, h3]
section
variable {P : Program} {w : World} {K : PySem.W.Frag} {mg : Str → Option Value} {base h : Heap} {k : Nat} {x : Str} {st : Stmt} {f : Addr} {fd : FuncData} {ps : List Str} {c : Con}
theorem kn_of (X : K.In h) (G : h.Ns mainGlobals mg) (a : PySem.W.nsIn K mainGlobals x = some (some (.ref f))) (F : FdD K x x st [] f fd) (ok : FnOk P w K mg base CX0 k f fd ps (conSp c))
    (hb : ∀ (kV doc pm : Value) (an : Option Addr) (cdv ct : Value) (us : List Value), us.length = ps.length → bindArgs (PySem.W.fnOf x x (defArgs st) (defBody st) (defScope st) .none kV doc pm an cdv ct) ⟨us, []⟩ = pure (ps.zip us)) : Kn P w K mg base k x [] c :=
  ⟨f, fd, ps, [], PySem.W.mg_of X G a, F.kp, F.bindsN hb, .nil, ok⟩
/-- n arguments, the defaults behind the first j fill up -/
theorem knD_of {dvs : List V} (n j : Nat) (X : K.In h) (G : h.Ns mainGlobals mg) (a : PySem.W.nsIn K mainGlobals x = some (some (.ref f))) (F : FdD K x x st dvs f fd) (ok : FnOk P w K mg base CX0 k f fd ps (conSp c)) (hd : dvs ≠ []) (hn : n + (dvs.length - j) = ps.length)
    (hb : ∀ (T : Addr) (kV doc pm : Value) (an : Option Addr) (cdv ct : Value) (us its : List Value), us.length = n → its.length = dvs.length → ∃ k, bindArgs (PySem.W.fnOf x x (defArgs st) (defBody st) (defScope st) (.ref T) kV doc pm an cdv ct) ⟨us, []⟩ = seqItems? (.ref T) >>= k ∧ k (some its.toArray) = pure (ps.zip (us ++ its.drop j))) : Kn P w K mg base k x (dvs.drop j) c := by
  obtain ⟨ds, h1, h2⟩ := F.binds1 n j hd hn hb
  exact ⟨f, fd, ps, ds, PySem.W.mg_of X G a, F.kp, h2, h1, ok⟩
theorem knC_of {C : Addr} {qual : Str} {dvs : List V} (n j : Nat) (X : K.In h) (G : h.Ns mainGlobals mg) (e : ClsE K x C) (a : PySem.W.findIn K (.ref C) "__init__" = some (some (.ref f))) (i : PySem.W.isFn K (.ref f) = true) (F : FdD K "__init__" qual st dvs f fd) (ok : FnOk P w K mg base CX0 k f fd ps (conSp c)) (hd : dvs ≠ []) (hn : n + (dvs.length - j) = ps.length)
    (hb : ∀ (T : Addr) (kV doc pm : Value) (an : Option Addr) (cdv ct : Value) (us its : List Value), us.length = n → its.length = dvs.length → ∃ k, bindArgs (PySem.W.fnOf "__init__" qual (defArgs st) (defBody st) (defScope st) (.ref T) kV doc pm an cdv ct) ⟨us, []⟩ = seqItems? (.ref T) >>= k ∧ k (some its.toArray) = pure (ps.zip (us ++ its.drop j))) : KnC P w K mg base k x C (dvs.drop j) c := by
  obtain ⟨ds, h1, h2⟩ := F.binds1 n j hd hn hb
  exact ⟨f, fd, ps, ds, PySem.W.mg_of X G e.at_, ⟨e.makes, a, i, e.kp⟩, h2, h1, ok⟩
theorem knCK_of {C : Addr} {qual : Str} {dvs : List V} (n : Nat) (ks : List Str) (g : {α : Type} → List α → List α → List α → List α) (X : K.In h) (G : h.Ns mainGlobals mg) (e : ClsE K x C) (a : PySem.W.findIn K (.ref C) "__init__" = some (some (.ref f))) (i : PySem.W.isFn K (.ref f) = true) (F : FdD K "__init__" qual st dvs f fd) (ok : FnOk P w K mg base CX0 k f fd ps (conSp c)) (hd : dvs ≠ [])
    (hrel : ∀ {vs ds zs : List V} {us its ws : List Value}, Vals vs us → Vals ds its → Vals zs ws → Vals (g vs ds zs) (g us its ws))
    (hb : ∀ (T : Addr) (kV doc pm : Value) (an : Option Addr) (cdv ct : Value) (us its ws : List Value), us.length = n + 1 → its.length = dvs.length → ws.length = ks.length →
      ∃ k, bindArgs (PySem.W.fnOf "__init__" qual (defArgs st) (defBody st) (defScope st) (.ref T) kV doc pm an cdv ct) ⟨us, ks.zip ws⟩ = seqItems? (.ref T) >>= k ∧ k (some its.toArray) = pure (ps.zip (g us its ws))) : KnCK P w K mg base k x C n ks (fun vs zs => g vs dvs zs) c := by
  obtain ⟨its, h1⟩ := F.kbindsD (n + 1) ks g hd hrel hb
  exact ⟨f, fd, ps, _, PySem.W.mg_of X G e.at_, ⟨e.makes, a, i, e.kp⟩, h1, ok⟩
theorem knK_of {dvs : List V} (n : Nat) (ks : List Str) (g : {α : Type} → List α → List α → List α → List α) (X : K.In h) (G : h.Ns mainGlobals mg) (a : PySem.W.nsIn K mainGlobals x = some (some (.ref f))) (F : FdD K x x st dvs f fd) (ok : FnOk P w K mg base CX0 k f fd ps (conSp c)) (hd : dvs ≠ [])
    (hrel : ∀ {vs ds zs : List V} {us its ws : List Value}, Vals vs us → Vals ds its → Vals zs ws → Vals (g vs ds zs) (g us its ws))
    (hb : ∀ (T : Addr) (kV doc pm : Value) (an : Option Addr) (cdv ct : Value) (us its ws : List Value), us.length = n → its.length = dvs.length → ws.length = ks.length →
      ∃ k, bindArgs (PySem.W.fnOf x x (defArgs st) (defBody st) (defScope st) (.ref T) kV doc pm an cdv ct) ⟨us, ks.zip ws⟩ = seqItems? (.ref T) >>= k ∧ k (some its.toArray) = pure (ps.zip (g us its ws))) : KnK P w K mg base k x n ks (fun vs zs => g vs dvs zs) c := by
  obtain ⟨its, h1⟩ := F.kbindsD n ks g hd hrel hb
  exact ⟨f, fd, ps, _, PySem.W.mg_of X G a, F.kp, h1, ok⟩
end
/-- the law's end -/
theorem walk_law {l : PySem.W.OpenLaw} {k : Nat} {q : Program} {loose : List Str} {XP : (Str → Option Value) → Heap → Prop} {YP : World → Heap → Prop} {d : DefRec} {K : Params → PySem.W.Frag} (hn : l.most = some 63) (hdf : d.params.defaults = []) (hr : Room k callerA)
    (hY : ∀ (w : World) (h : Heap), YP w h → (K w.params).In h)
    (F : ∀ (w : World) (mg : Str → Option Value) (fa : Addr) (h : Heap), (K w.params).In h → h.Ns mainGlobals mg → mg d.name = some (.ref fa) →
      ∃ fd : FuncData, (∀ (s : Shared) (u : Value), BindsTo s fd ⟨[u], []⟩ [("_law_script", u)]) ∧ ∀ base : Heap, (K w.params).In base → base.Ns mainGlobals mg → FnOk l.prog w (K w.params) mg base CX0 k fa fd ["_law_script"] (conSp (con_law (K w.params)))) :
    PySem.W.WalkO q loose XP YP l.row.toRowW d [] (fun f vs => PySem.call f vs) := by
  refine L2.walk_of (n := 63) (k := k) (x := "_law_script") (CX := fun _ => CX0) (sp := fun w => conSp (con_law (K w.params))) hn (by decide) hdf hr hY F (fun _ _ a ns hl _ hS => ?_) fun _ _ _ _ _ z => z
  exact law_start hS hl fun _ => rfl
end MM

namespace MM
open PySem L2 PyProof.Rows
structure TopB (K : PySem.W.Frag) : Prop where
  zR : PySem.W.nsIn K mainGlobals "range" = some none
  draws : DefE K "_law_draws" s_f_L_draws []
  next : DefE K "_law_next" s_f_L_next []
structure LawB (P : Program) (w : World) (K : PySem.W.Frag) (mg : Str → Option Value) (base : Heap) : Prop where
  draws : Kn P w K mg base 1 "_law_draws" [] con_L_draws
  next : Kn P w K mg base 1 "_law_next" [] con_L_next
section
variable {P : Program} {w : World} {K : PySem.W.Frag} {mg : Str → Option Value} {base h : Heap} {CS CC : Addr}
theorem lawB_of (X : K.In h) (G : h.Ns mainGlobals mg) (T : TopB K) : LawB P w K mg base := by
  obtain ⟨f0, d0, a0, F0⟩ := T.draws
  obtain ⟨f1, d1, a1, F1⟩ := T.next
  have Dr : Kn P w K mg base 1 "_law_draws" [] con_L_draws := kn_of X G a0 F0 (ok_L_draws F0 (PySem.W.mg_none_of X G T.zR)) fun _ _ _ _ _ _ us hl => match us, hl with | [_], _ => rfl
  have Nx : Kn P w K mg base 1 "_law_next" [] con_L_next := kn_of X G a1 F1 (ok_L_next F1) fun _ _ _ _ _ _ us hl => match us, hl with | [_], _ => rfl
  exact ⟨Dr, Nx⟩
end
end MM

namespace MM
open PySem L2 PyProof.Rows
/-! ### == by an own __eq__ that tells True -/
def KnE (P : Program) (w : World) (K : PySem.W.Frag) (mg : Str → Option Value) (base : Heap) (k : Nat) (C : Addr) (c : Con) : Prop :=
  ∃ (f : Addr) (fd : FuncData) (ps : List Str), PySem.W.findIn K (.ref C) "__eq__" = some (some (.ref f)) ∧ PySem.W.isFn K (.ref f) = true ∧ Binds K fd ps [] ∧ FnOk P w K mg base CX0 k f fd ps (conSp c)
/-- what the two stand for -/
def REq (c : Con) : Addr → Addr → Hp → Prop := fun a b H => ∃ (G : Hp) (i : c.I), Same G H ∧ c.pre i ∧ Reps (c.args i) [.ref a, .ref b] G
structure EqTrue (c : Con) : Prop where
  own : ∀ i, c.own i = []
  res : ∀ i x, c.res i x = RB true
theorem spEq_of {c : Con} (t : EqTrue c) : ∀ vs H Q E, spEq (REq c) vs H Q E → conSp c vs H Q E := by
  rintro vs H Q E ⟨a, b, rfl, ⟨G, i, s, hp, r⟩, q⟩
  refine ⟨G, i, s, hp, r, ?_, ?_, ?_, fun x v G' H' px tf rv => ?_⟩
  · rw [t.own]; exact fun q hq => (List.not_mem_nil hq).elim
  · rw [t.own]; exact fun q hq => (List.not_mem_nil hq).elim
  · rw [t.own]; exact List.nodup_nil
  · rw [t.res] at rv
    have rv : v = .bl true := rv
    subst rv
    refine q H' fun z u hz => tf.keep z u ?_ hz
    rw [t.own]
    exact List.not_mem_nil
section
variable {X : Cx} {E : En} {Γ : Gm} {M : Ow} {a b : Expr} {pos : Pos} {Φ : Rep → Ow → Prop} {k : Nat} {C : Addr} {c : Con}
theorem opw_eqC {ρ ρ' : Rep} {l l' : List (Str × Rep)} (i : c.I) (hp : c.pre i) (ha : c.args i = [RIns C l, RIns C l']) (s1 : MM.Sub ρ (RIns C l)) (s2 : MM.Sub ρ' (RIns C l')) (q0 : Φ (RB true) M) : OpW E Γ M (rEqG (DIns C (REq c))) ρ ρ' Φ := fun σ G H at_ x y hx hy Q q => by
  obtain ⟨b1, dx, fs, e1, h1, r1⟩ := s1 _ _ hx
  obtain ⟨b2, dy, gs, e2, h2, r2⟩ := s2 _ _ hy
  subst e1 e2
  refine ⟨⟨b1, b2, dx, dy, fs, gs, rfl, rfl, at_.gh _ _ h1, at_.gh _ _ h2, G, i, at_.gh, hp, ?_⟩, fun H' e => q (RB true) M _ G H' q0 (Same.refl _) (at_.new ⟨Same.refl _, at_.gh.trans e, e, fun _ _ h => h⟩) rfl⟩
  rw [ha]
  exact ⟨⟨b1, dx, fs, rfl, h1, r1⟩, ⟨b2, dy, gs, rfl, h2, r2⟩, trivial⟩
theorem we_eqC (F : KnE X.prog X.w X.K X.mg X.base k C c) (t : EqTrue c) (hr : Room k X.A) (hx : Passes CX0 X E0)
    (h : WE X E Γ M a fun ρa Ma => WE X E Γ Ma b fun ρb Mb => ∃ (i : c.I) (l l' : List (Str × Rep)), c.pre i ∧ c.args i = [RIns C l, RIns C l'] ∧ MM.Sub ρa (RIns C l) ∧ MM.Sub ρb (RIns C l') ∧ Φ (RB true) Mb) (hm : behindInMarks .Eq b = false := by exact nomark _) : WE X E Γ M (.Compare a [.Eq] [b] pos) Φ := by
  obtain ⟨f, fd, ps, hs, hf, hb, ok⟩ := F
  refine we_cmp (op_eqG (rcG_ins (ok.imp (spEq_of t)) hs hf hb hx) hr) hm ?_
  intro σ G H at_ Q q
  refine h σ G H at_ Q fun ρ M' v G' H' hh => q ρ M' v G' H' ?_
  intro σ2 G2 H2 at2 Q2 q2
  refine hh σ2 G2 H2 at2 Q2 fun ρ2 M2 v2 G3 H3 ⟨i, l, l', hp, ha, s1, s2, q0⟩ => q2 ρ2 M2 v2 G3 H3 (opw_eqC i hp ha s1 s2 q0)
end
end MM

namespace MM
open PySem L2 PyProof.Rows
/-! ### str(x) of an own instance; f-strings -/
/-- an own method of one argument, by its name -/
def KnO (P : Program) (w : World) (K : PySem.W.Frag) (mg : Str → Option Value) (base : Heap) (k : Nat) (C : Addr) (m : Str) (c : Con) : Prop :=
  ∃ (f : Addr) (fd : FuncData) (ps : List Str), PySem.W.findIn K (.ref C) m = some (some (.ref f)) ∧ PySem.W.isFn K (.ref f) = true ∧ Binds K fd ps [] ∧ FnOk P w K mg base CX0 k f fd ps (conSp c)
section
variable {X : Cx} {n : Nat} {C f a : Addr} {fd : FuncData} {ps : List Str} {sp : Sp}
/-- an own method of the instance at a, called below the running body -/
theorem run_own {A : Around} {pins : List (Addr × Obj)} {σ : L2.St} {H : Hp} {s : Shared} {Q : VK} (F : FnOk X.prog X.w X.K X.mg X.base CX0 n f fd ps sp) (hb : Binds X.K fd ps []) (hr : Room n A) (e0 : Env0 X.prog X.w X.K X.mg X.base A X.stack s H) (hx : Passes CX0 X E0) (I : Inv X pins σ H s) (h : sp [.ref a] H Q E0) :
    wpAny (model X.prog X.w) A (call (.ref f) [.ref a]) (EP X pins σ Q) X.xe s := by
  have hl := F.len _ _ _ _ h
  refine wpAny_call (codeAny_mono (F.run A X.stack s H ⟨[.ref a], []⟩ [.ref a] [.ref a] _ E0 hr e0 (by
    have := hb s [.ref a] I.kIn (by simpa using hl)
    simpa using this) (.cons rfl .nil) h) fun r s' hq => ?_)
  cases r with
  | error e => exact hx pins σ H s e s' I hq
  | ok fl =>
    cases fl with
    | ret w => exact I.after hq
    | next => exact False.elim hq
    | brk => exact False.elim hq
    | cont => exact False.elim hq
/-- what tells a text -/
def TxQ (Q : VK) : VK := fun v H' => ∃ t : Str, v = .str t ∧ Q v H'
theorem txBack {pins : List (Addr × Obj)} {σ : L2.St} {Q : VK} {v : Value} {s' : Shared} (h : EP X pins σ (TxQ Q) v s') : PySem.W.StrBack (EP X pins σ Q) v s' := by
  obtain ⟨z, H', I', rz, t, ez, qz⟩ := h
  subst ez
  obtain ⟨tk, e⟩ := (show ∃ tk, v = Value.str t tk from rz)
  cases e
  exact ⟨.str t, H', I', ⟨tk, rfl⟩, qz⟩
def rStrO (C : Addr) (sp : Sp) : List V → Hp → VK → Prop := fun xs H Q => ∃ (a dx : Addr) (fs : List (Str × V)), xs = [V.ref a] ∧ H a = some (.ins C dx fs) ∧ sp [.ref a] H (TxQ Q) E0
theorem call_strO (F : FnOk X.prog X.w X.K X.mg X.base CX0 n f fd ps sp) (hs : PySem.W.findIn X.K (.ref C) "__str__" = some (some (.ref f))) (hf : PySem.W.isFn X.K (.ref f) = true) (hb : Binds X.K fd ps []) (hx : Passes CX0 X E0) (hr : Room (n + 2) X.A) : CallR X (.type "str") (rStrO C sp) := by
  intro pins s σ H xs us Q I r h
  obtain ⟨a, dx, fs, rfl, ha, q⟩ := h
  obtain ⟨u, rfl, ru⟩ := r.one
  cases (show u = Value.ref a from ru)
  obtain ⟨mA, J, _⟩ := ins_get I.hok ha
  obtain ⟨od, J, _⟩ := J.look
  have hr2 : Room n X.A.in1.in1 := (show Room (n + 1) X.A.in1 from Room.in1 hr).in1
  exact PySem.W.kso_call hr2.units0 I.kIn J hs hf (wpAny_mono (run_own F hb hr2 I.env0.in1.in1 hx I q) (fun w s' z => txBack z) fun _ _ x => x)
end
section
variable {X : Cx} {E : En} {Γ : Gm} {M : Ow} {e : Expr} {pos p : Pos} {Φ : Rep → Ow → Prop} {k : Nat} {C : Addr} {c : Con}
theorem caw_own {sp : Sp} {ρ : Rep} (hsp : sp = conSp c) (s1 : ∃ l, MM.Sub ρ (RIns C l)) (ck : CallK c [ρ] M fun ρ' M' => (∃ t, MM.Sub ρ' (RS t)) ∧ Φ ρ' M') : CaW E Γ M (rStrO C sp) [ρ] Φ := fun σ G H a vs hv Q q => by
  subst hsp
  match vs, hv with
  | [v], ⟨hv, _⟩ =>
    obtain ⟨l, s1⟩ := s1
    obtain ⟨b, dx, fs, e1, h1, r1⟩ := s1 _ _ hv
    have cr := callK_run (EE := E0) (Q := TxQ Q) ck a (vs := [v]) ⟨hv, trivial⟩ fun ρ4 M4 v4 G5 H5 ⟨⟨t, st⟩, hφ⟩ s4 a4 r4 => ⟨t, st _ _ r4, q ρ4 M4 v4 G5 H5 hφ s4 a4 r4⟩
    subst e1
    exact ⟨b, dx, fs, rfl, a.gh _ _ h1, cr⟩
/-- str(x) -/
theorem we_strO (F : KnO X.prog X.w X.K X.mg X.base k C "__str__" c) (hr : Room (k + 2) X.A) (hg : Gl X "str") (hm : X.mg "str" = none) (hx : Passes CX0 X E0)
    (h : WE X E Γ M e fun ρ M1 => (∃ l, MM.Sub ρ (RIns C l)) ∧ CallK c [ρ] M1 fun ρ' M' => (∃ t, MM.Sub ρ' (RS t)) ∧ Φ ρ' M')
    (he : starEach [e] X.env = (false, eval e X.env) :: starEach [] X.env := by rfl) (hpl : (backTo pos (starEach [] X.env)).any (·.1) = false := by rfl) : WE X E Γ M (.Call (.Name "str" p) [e] [] pos) Φ := by
  obtain ⟨f, fd, ps, hs, hf, hb, ok⟩ := F
  refine we_callTy (call_strO ok hs hf hb hx hr) hg hm (by decide +kernel) (wa_cons ?_ he) (by decide) (by decide) he hpl
  intro σ G H at_ Q q
  exact h σ G H at_ Q fun ρ M' v G' H' ⟨s1, ck⟩ => q ρ M' v G' H' (wa_nil (caw_own rfl s1 ck))
/-- str(i) -/
theorem we_strI (hg : Gl X "str") (hm : X.mg "str" = none) (h : WE X E Γ M e fun ρ M1 => ∃ i : Int, MM.Sub ρ (RI i) ∧ i.natAbs.log2 < 1920 ∧ Φ (RS (Str.ofString (toString i))) M1)
    (he : starEach [e] X.env = (false, eval e X.env) :: starEach [] X.env := by rfl) (hpl : (backTo pos (starEach [] X.env)).any (·.1) = false := by rfl) : WE X E Γ M (.Call (.Name "str" p) [e] [] pos) Φ := by
  refine we_callTy call_str_int hg hm (by decide +kernel) (wa_cons ?_ he) (by decide) (by decide) he hpl
  intro σ G H at_ Q q
  refine h σ G H at_ Q fun ρ M' v G' H' ⟨i, sb, hl, hk⟩ => q ρ M' v G' H' (wa_nil fun σ2 G2 H2 a2 vs hv Q2 q2 => ?_)
  match vs, hv with
  | [x], ⟨hv, _⟩ =>
    have e1 : x = .int i := sb _ _ hv
    subst e1
    exact ⟨i, rfl, hl, q2 _ _ _ _ _ hk (Same.refl _) a2 rfl⟩
/-- {i} in an f-string -/
theorem we_fmtI (h : WE X E Γ M e fun ρ M1 => ∃ i : Int, MM.Sub ρ (RI i) ∧ i.natAbs.log2 < 1920 ∧ Φ (RS (Str.ofString (toString i))) M1) : WE X E Γ M (.FormattedValue e (-1) none pos) Φ :=
  we_of (pe_fmt pe_w) fun σ G H a Q q => h σ G H a _ fun ρ M1 v G1 H1 ⟨i, sb, hl, hk⟩ s1 a1 r1 => .inr ⟨i, sb _ _ r1, hl, q _ M1 _ G1 H1 hk s1 a1 rfl⟩
/-- the parts of an f-string -/
def WJ (X : Cx) (E : En) (Γ : Gm) : Ow → List Expr → Str → (Str → Ow → Prop) → Prop
  | M, [], acc, Φ => Φ acc M
  | M, e :: es, acc, Φ => WE X E Γ M e fun ρ M' => ∃ y : Str, MM.Sub ρ (RS y) ∧ (acc ++ y).length ≤ sizeLine ∧ WJ X E Γ M' es (acc ++ y) Φ
theorem pj_w : ∀ es : List Expr, PJ X es (es.map (tW X))
  | [] => .nil
  | _ :: es => .cons pe_w (pj_w es)
theorem wj_run : ∀ (es : List Expr) (acc : Str) (M : Ow) (Ξ : Str → Ow → Prop), WJ X E Γ M es acc Ξ → ∀ σ G H, At E Γ M σ G H → ∀ Q : Str → Hp → Prop, (∀ out M' G' H', Ξ out M' → Same G G' → At E Γ M' σ G' H' → Q out H') → tJs (es.map (tW X)) acc σ H Q
  | [], acc, M, Ξ, h, σ, G, H, a, Q, q => q acc M G H h (Same.refl _) a
  | e :: es, acc, M, Ξ, h, σ, G, H, a, Q, q => h σ G H a _ fun ρ M1 v G1 H1 ⟨y, sb, hl, hk⟩ s1 a1 r1 => ⟨y, sb _ _ r1, hl, wj_run es (acc ++ y) M1 Ξ hk σ G1 H1 a1 Q fun out M2 G2 H2 h2 s2 a2 => q out M2 G2 H2 h2 (s1.trans s2) a2⟩
/-- f'..' -/
theorem we_joined {v1 v2 : Expr} {rest : List Expr} (h : WJ X E Γ M (v1 :: v2 :: rest) Str.empty fun out M' => Φ (RS out) M') : WE X E Γ M (.JoinedStr (v1 :: v2 :: rest) pos) Φ :=
  we_of (pe_joined (pj_w _)) fun σ G H a Q q => wj_run _ _ _ _ h σ G H a _ fun out M' G' H' hk s1 a1 => q _ M' _ G' H' hk s1 a1 rfl
end
end MM

namespace MM
open PySem L2 PyProof.Rows
/-! ### methods of texts; truths as texts -/
def boT (b : Bool) : Str := if b then "True" else "False"
section
variable {X : Cx}
theorem call_str_bl : CallR X (.type "str") (fun xs H Q => ∃ b, xs = [.bl b] ∧ Q (.str (boT b)) H) := by
  intro pins s σ H xs us Q I r h
  obtain ⟨b, rfl, q⟩ := h
  obtain ⟨u, rfl, ru⟩ := r.one
  cases (show u = Value.bool b from ru)
  exact PySem.P.str_of_bool ⟨.str (boT b), H, I.tok _, ⟨_, rfl⟩, q⟩
theorem pe_fmtBl {e : Expr} {te : TE} {pos : Pos} (he : PE X e te) : PE X (.FormattedValue e (-1) none pos) (fun σ H Q => te σ H fun x H1 => ∃ b, x = .bl b ∧ Q (.str (boT b)) H1) := by
  refine ⟨fun pins s σ H Q I h => wpAny_FormattedValue_plain (thn (he.run pins s σ H _ I h) fun v s1 hv => ?_)⟩
  obtain ⟨x, H1, I1, r1, b, rfl, q⟩ := hv
  cases (show v = Value.bool b from r1)
  exact wpAny_formatField_bool ⟨.str (boT b), H1, I1.tok _, ⟨_, rfl⟩, q⟩
end
theorem rvals_strs {G : Hp} : ∀ {ys : List Str} {vs : List V}, Reps (ys.map RS) vs G → vs = ys.map V.str
  | [], [], _ => rfl
  | [], _ :: _, h => h.elim
  | _ :: _, [], h => h.elim
  | y :: ys, v :: vs, ⟨h1, h2⟩ => by
    have h1 : v = .str y := h1
    rw [h1, rvals_strs h2]
    rfl
section
variable {X : Cx} {E : En} {Γ : Gm} {M : Ow} {e : Expr} {pos p : Pos} {Φ : Rep → Ow → Prop}
/-- str(b) -/
theorem we_strB (hg : Gl X "str") (hm : X.mg "str" = none) (h : WE X E Γ M e fun ρ M1 => ∃ b : Bool, MM.Sub ρ (RB b) ∧ Φ (RS (boT b)) M1)
    (he : starEach [e] X.env = (false, eval e X.env) :: starEach [] X.env := by rfl) (hpl : (backTo pos (starEach [] X.env)).any (·.1) = false := by rfl) : WE X E Γ M (.Call (.Name "str" p) [e] [] pos) Φ := by
  refine we_callTy call_str_bl hg hm (by decide +kernel) (wa_cons ?_ he) (by decide) (by decide) he hpl
  intro σ G H at_ Q q
  refine h σ G H at_ Q fun ρ M' v G' H' ⟨b, sb, hk⟩ => q ρ M' v G' H' (wa_nil fun σ2 G2 H2 a2 vs hv Q2 q2 => ?_)
  match vs, hv with
  | [x], ⟨hv, _⟩ => exact ⟨b, by rw [show x = .bl b from sb _ _ hv], q2 _ _ _ _ _ hk (Same.refl _) a2 rfl⟩
/-- {b} in an f-string -/
theorem we_fmtB (h : WE X E Γ M e fun ρ M1 => ∃ b : Bool, MM.Sub ρ (RB b) ∧ Φ (RS (boT b)) M1) : WE X E Γ M (.FormattedValue e (-1) none pos) Φ :=
  we_of (pe_fmtBl pe_w) fun σ G H a Q q => h σ G H a _ fun ρ M1 v G1 H1 ⟨b, sb, hk⟩ s1 a1 r1 => ⟨b, sb _ _ r1, q _ M1 _ G1 H1 hk s1 a1 rfl⟩
/-- {text} in an f-string -/
theorem we_fmtS (h : WE X E Γ M e fun ρ M1 => ∃ y : Str, MM.Sub ρ (RS y) ∧ y.length ≤ sizeLine ∧ Φ (RS y) M1) : WE X E Γ M (.FormattedValue e (-1) none pos) Φ :=
  we_of (pe_fmt pe_w) fun σ G H a Q q => h σ G H a _ fun ρ M1 v G1 H1 ⟨y, sb, hl, hk⟩ s1 a1 r1 => .inl ⟨y, sb _ _ r1, hl, q _ M1 _ G1 H1 hk s1 a1 rfl⟩
theorem mtw_zfill {a : Str} {i : Int} (hp : PadOk i = true) (k : Φ (RS (Txt.zfill a i)) M) : MtW E Γ M (fun x xs H Q => ∃ (a : Str) (i : Int), x = .str a ∧ xs = [.int i] ∧ PadOk i = true ∧ Q (.str (Txt.zfill a i)) H) (RS a) [RI i] Φ := fun σ G H at_ x vs hx hv Q q => by
  match vs, hv with
  | [v], ⟨hv, _⟩ => exact ⟨a, i, hx, by rw [show v = .int i from hv], hp, q _ _ _ _ _ k (Same.refl _) at_ rfl⟩
theorem mtw_join {K : PySem.W.Frag} {a : Str} {ys : List Str} (hl : (ys.map (·.length)).sum + ys.length * a.length ≤ 16777216) (k : Φ (RS (Txt.join a ys)) M) : MtW E Γ M (fun x xs H Q => ∃ a p, ∃ ys : List Str, x = .str a ∧ xs = [.ref p] ∧ (SqL K H p (ys.map V.str) ∨ SqT K H p (ys.map V.str)) ∧ (ys.map (·.length)).sum + ys.length * a.length ≤ 16777216 ∧ Q (.str (Txt.join a ys)) H) (RS a) [RLt (ys.map RS)] Φ := fun σ G H at_ x vs hx hv Q q => by
  match vs, hv with
  | [v], ⟨⟨p, zs, e1, h1, r1⟩, _⟩ =>
    subst e1
    rw [rvals_strs r1] at h1
    exact ⟨a, p, ys, hx, rfl, .inl (SqL.of (at_.gh _ _ h1)), hl, q _ _ _ _ _ k (Same.refl _) at_ rfl⟩
/-- text.zfill(i) -/
theorem we_zfill {o : Expr} {apos : Pos} (h : WE X E Γ M o fun ρ M1 => ∃ a : Str, ρ = RS a ∧ WE X E Γ M1 e fun ρi M2 => ∃ i : Int, ρi = RI i ∧ PadOk i = true ∧ Φ (RS (Txt.zfill a i)) M2)
    (hbase : attributeBase o "zfill" X.env (eval o X.env) = eval o X.env := by rfl)
    (hfew : ((backTo pos (starEach [e] X.env)).all (fun x => !x.1) && (backToKw pos (keywordEach [] X.env)).all (fun x => x.1.isSome)
      && decide ([e].length + ([] : List Keyword).length + (if ([] : List Keyword).isEmpty then 0 else 1) < 30)) = true := by rfl)
    (hline : (apos.endLine == pos.line) = true := by rfl) (hs : starEach [e] X.env = (false, eval e X.env) :: starEach [] X.env := by rfl) (hplain : (backTo pos (starEach [] X.env)).any (·.1) = false := by rfl) :
    WE X E Γ M (.Call (.Attribute o "zfill" apos) [e] [] pos) Φ := by
  refine we_bm PySem.F.plainAttrs_str PySem.F.slot_str_zfill PySem.F.type_str_zfill mt_zfill ?_ hbase hfew hline hs hplain
  intro σ G H at_ Q q
  refine h σ G H at_ Q fun ρ M' v G' H' ⟨a, ea, hh⟩ => q ρ M' v G' H' ?_
  subst ea
  refine ⟨tyw_str, wa_cons ?_ hs⟩
  intro σ2 G2 H2 at2 Q2 q2
  refine hh σ2 G2 H2 at2 Q2 fun ρ2 M2 v2 G3 H3 ⟨i, ei, hp, hk⟩ => q2 ρ2 M2 v2 G3 H3 ?_
  subst ei
  exact wa_nil (mtw_zfill hp hk)
end
theorem join0 : ∀ ys : List Str, Txt.join Str.empty ys = ys.foldr (· ++ ·) Str.empty := fun ys => by
  rw [TL.join_eq]
  induction ys with
  | nil => rfl
  | cons y ys ih =>
    cases ys with
    | nil => exact (Str.append_empty y).symm
    | cons z r =>
      show y ++ Str.empty ++ Str.join Str.empty (z :: r) = y ++ _
      rw [Str.append_empty, ih]
end MM

namespace MM
open PySem L2 PyProof.Rows
/-! ### repr(x) of an own instance -/
section
open PySem.W
variable {prog : Program} {w : World} {A : Around} {E : Value → Shared → Prop} {s : Shared} {K : PySem.W.Frag} {x C f : Addr} {ox : Obj} {od : Option Obj}
theorem repr_own {Q : Value → Shared → Prop} (hu : A.in1.units < cLine) (X : K.In s.heap) (I : InstAt s.heap x ox C od) (hs : findIn K (.ref C) "__repr__" = some (some (.ref f))) (hf : isFn K (.ref f) = true)
    (h : wpAny (model prog w) A.in1 (call (.ref f) [.ref x]) (StrBack Q) E s) : wpAny (model prog w) A (call (.builtin "repr") [.ref x]) Q E s := by
  have last : wpAny (model prog w) A.in1 (callSpecialIfBound? (.ref x) (Str.ofString "__repr__") []) (fun r s' => ∃ y t, r = some (.str y t) ∧ Q (.str y t) s') E s := ifBound_K X I hs hf (wpAny_mono h (fun r s' hr => by cases r <;> first | exact hr.elim | exact ⟨_, _, rfl, hr⟩) fun _ _ z => z)
  refine Calls.call_function_entry PySem.F.kind_repr PySem.F.plain_repr PySem.F.entry_repr (PySem.F.args_repr1 _) ?_
  unfold Builtin.«repr»
  refine wpAny_bind (m := oneArg "repr" _) (wpAny_pure ?_)
  refine wpAny_bind (m := cRoomFor _ _) (wpAny_cRoomFor hu ?_)
  refine wpAny_bind (m := specialOf (.ref x) (Str.ofString "__repr__")) (wpAny_bind (I.type.here ((looks_findIn X hs).here ?_)))
  refine wpAny_bind (m := callSpecialIfBound? (.ref x) (Str.ofString "__repr__") []) (wpAny_mono last (fun r s' ⟨y, t, er, q⟩ => ?_) fun _ _ z => z)
  subst er
  refine wpAny_bind (wpAny_isInstance (T := "str") (b := true) (typeIs_str _ _ _) isSubtype_str_str ?_)
  exact wpAny_pure ⟨_, rfl, q⟩
end
section
variable {X : Cx} {n : Nat} {C f a : Addr} {fd : FuncData} {ps : List Str} {sp : Sp}
theorem call_reprO (F : FnOk X.prog X.w X.K X.mg X.base CX0 n f fd ps sp) (hs : PySem.W.findIn X.K (.ref C) "__repr__" = some (some (.ref f))) (hf : PySem.W.isFn X.K (.ref f) = true) (hb : Binds X.K fd ps []) (hx : Passes CX0 X E0) (hr : Room (n + 1) X.A) : CallR X (.builtin "repr") (rStrO C sp) := by
  intro pins s σ H xs us Q I r h
  obtain ⟨a, dx, fs, rfl, ha, q⟩ := h
  obtain ⟨u, rfl, ru⟩ := r.one
  cases (show u = Value.ref a from ru)
  obtain ⟨mA, J, _⟩ := ins_get I.hok ha
  obtain ⟨od, J, _⟩ := J.look
  have hr1 : Room n X.A.in1 := Room.in1 hr
  exact repr_own hr1.units0 I.kIn J hs hf (wpAny_mono (run_own F hb hr1 I.env0.in1 hx I q) (fun w s' z => txBack z) fun _ _ x => x)
end
section
variable {X : Cx} {E : En} {Γ : Gm} {M : Ow} {e : Expr} {pos p : Pos} {Φ : Rep → Ow → Prop} {k : Nat} {C : Addr} {c : Con}
/-- repr(x) -/
theorem we_reprO (F : KnO X.prog X.w X.K X.mg X.base k C "__repr__" c) (hr : Room (k + 1) X.A) (hg : Gl X "repr") (hm : X.mg "repr" = none) (hx : Passes CX0 X E0)
    (h : WE X E Γ M e fun ρ M1 => (∃ l, MM.Sub ρ (RIns C l)) ∧ CallK c [ρ] M1 fun ρ' M' => (∃ t, MM.Sub ρ' (RS t)) ∧ Φ ρ' M')
    (he : starEach [e] X.env = (false, eval e X.env) :: starEach [] X.env := by rfl) (hpl : (backTo pos (starEach [] X.env)).any (·.1) = false := by rfl) : WE X E Γ M (.Call (.Name "repr" p) [e] [] pos) Φ := by
  obtain ⟨f, fd, ps, hs, hf, hb, ok⟩ := F
  refine we_callB (call_reprO ok hs hf hb hx hr) hg hm (by decide +kernel) (wa_cons ?_ he) (by decide) (by decide) he hpl
  intro σ G H at_ Q q
  exact h σ G H at_ Q fun ρ M' v G' H' ⟨s1, ck⟩ => q ρ M' v G' H' (wa_nil (caw_own rfl s1 ck))
end
/-! ### texts that may be laid -/
theorem strOk_of {s : String} : PyData.strOk (Str.ofString s) = true := by
  rw [Str.ofString_eq_toList]
  unfold PyData.strOk
  rw [Array.all_eq_true_iff_forall_mem]
  intro c hc
  have hc : c ∈ s.toList.map Char.toNat := by simpa using hc
  obtain ⟨d, _, rfl⟩ := List.mem_map.mp hc
  have hv : d.val.toNat < 1114112 := by
    rcases d.valid with h | ⟨_, h⟩ <;> omega
  show decide (d.toNat < 0x110000) = true
  exact decide_eq_true hv
theorem strOk_app {a b : Str} (h1 : PyData.strOk a = true) (h2 : PyData.strOk b = true) : PyData.strOk (a ++ b) = true := by
  unfold PyData.strOk at *
  rw [Str.cps_append, Array.all_append, h1, h2]
  rfl
theorem shaped_so {s : Str} (h : PyData.strOk s = true) : SeqAt.shaped (.str s) = true := by
  simp [SeqAt.shaped, PyData.canLay0, PyData.depth, h]
end MM

namespace MM
open PySem L2 PyProof.Rows PySem.Spec PySem.Calls
section
variable {X : Cx} {E : En} {Γ : Gm} {M : Ow} {Ψ : Ed} {body : List Stmt} {h0 : ExceptHandler} {hs : List ExceptHandler} {pos : Pos}
/-- a try whose body raises nothing -/
theorem ws_try0 (h : WSs X.nox E Γ M body Ψ) : WS X E Γ M (.Try body (h0 :: hs) [] [] pos) Ψ := ws_of (ps_try_thru0 pss_w) h
end
theorem neg_abs {i : Int} (h : i < 0) : -(i.natAbs : Int) = i := by omega
theorem pos_abs {i : Int} (h : ¬ i < 0) : (i.natAbs : Int) = i := by omega
/-! ### figures -/
def sgn (d : Nat) : Nat := if d < 10 then 48 + d else 87 + d
def dv (b n : Nat) : List Nat := if h : n < b ∨ b < 2 then [n] else dv b (n / b) ++ [n % b]
termination_by n
decreasing_by exact Nat.div_lt_self (by omega) (by omega)
theorem dv_lo {b n : Nat} (h : n < b) : dv b n = [n] := by
  rw [dv, dif_pos (.inl h)]
theorem dv_hi {b n : Nat} (hb : 2 ≤ b) (h : b ≤ n) : dv b n = dv b (n / b) ++ [n % b] := by
  rw [dv, dif_neg (by omega)]
theorem dv_all {b : Nat} (hb : 2 ≤ b) (n : Nat) : (∀ d ∈ dv b n, d < b) ∧ (dv b n).foldl (fun a d => a * b + d) 0 = n ∧ dv b n ≠ [] ∧ (1 ≤ n → ∃ d l, dv b n = d :: l ∧ 1 ≤ d) := by
  induction n using Nat.strongRecOn with
  | _ n ih =>
    rcases Nat.lt_or_ge n b with h | h
    · rw [dv_lo h]
      refine ⟨fun d hd => ?_, by simp, by simp, fun h1 => ⟨n, [], rfl, h1⟩⟩
      rw [List.mem_singleton.mp hd]
      exact h
    · rw [dv_hi hb h]
      have hlt : n / b < n := Nat.div_lt_self (by omega) (by omega)
      have h1 : 1 ≤ n / b := (Nat.one_le_div_iff (by omega)).mpr h
      obtain ⟨a1, a2, a3, a4⟩ := ih (n / b) hlt
      refine ⟨fun d hd => ?_, ?_, by simp, fun _ => ?_⟩
      · rcases List.mem_append.mp hd with q | q
        · exact a1 d q
        · rw [List.mem_singleton.mp q]
          exact Nat.mod_lt _ (by omega)
      · rw [List.foldl_append, a2]
        show n / b * b + n % b = n
        have := Nat.div_add_mod n b
        rw [Nat.mul_comm] at this
        exact this
      · obtain ⟨d, l, e, hd⟩ := a4 h1
        exact ⟨d, l ++ [n % b], by rw [e]; rfl, hd⟩
theorem dv_len {b : Nat} (hb : 2 ≤ b) : ∀ {k n : Nat}, n < 2 ^ k → (dv b n).length ≤ k + 1 := by
  intro k
  induction k with
  | zero =>
    intro n h
    have : n < b := by
      have h : n < 1 := h
      omega
    rw [dv_lo this]
    exact Nat.le_refl _
  | succ k ih =>
    intro n h
    rcases Nat.lt_or_ge n b with q | q
    · rw [dv_lo q]
      show 1 ≤ _
      omega
    · rw [dv_hi hb q, List.length_append]
      have h2 : n / b ≤ n / 2 := Nat.div_le_div_left hb (by decide)
      have h3 : n / 2 < 2 ^ k := by
        rw [Nat.pow_succ] at h
        omega
      have := ih (n := n / b) (by omega)
      show _ + 1 ≤ _
      omega
/-- the figures' signs -/
def dg (b n : Nat) : List Nat := (dv b n).map sgn
theorem dg_lo {b n : Nat} (h : n < b) : dg b n = [sgn n] := by unfold dg; rw [dv_lo h]; rfl
theorem dg_hi {b n : Nat} (hb : 2 ≤ b) (h : b ≤ n) : dg b n = dg b (n / b) ++ [sgn (n % b)] := by
  unfold dg
  rw [dv_hi hb h, List.map_append]
  rfl
theorem sgn_in : ∀ d, d < 16 → ((48 ≤ sgn d ∧ sgn d ≤ 57) ∨ (97 ≤ sgn d ∧ sgn d ≤ 102)) ∧ NumText.digit? (sgn d) = some d := by decide
theorem sgn_0 : ∀ d, d < 16 → sgn d = 48 → d = 0 := by decide
def Plain (c : Nat) : Prop := (48 ≤ c ∧ c ≤ 57) ∨ (97 ≤ c ∧ c ≤ 102)
theorem dg_plain {b n : Nat} (hb : 2 ≤ b) (h16 : b ≤ 16) : ∀ c ∈ dg b n, Plain c := by
  intro c hc
  obtain ⟨d, hd, rfl⟩ := List.mem_map.mp hc
  have := (dv_all hb n).1 d hd
  exact (sgn_in d (by omega)).1
theorem drop_no {p : Nat → Bool} {l : List Nat} (h : ∀ c ∈ l, p c = false) : l.dropWhile p = l := by
  cases l with
  | nil => rfl
  | cons c l => rw [List.dropWhile_cons, h c List.mem_cons_self]; rfl
theorem take_all {p : Nat → Bool} {l : List Nat} (h : ∀ c ∈ l, p c = true) : l.takeWhile p = l := by
  induction l with
  | nil => rfl
  | cons c l ih =>
    rw [List.takeWhile_cons, h c List.mem_cons_self]
    show c :: List.takeWhile p l = _
    rw [ih fun d hd => h d (List.mem_cons_of_mem _ hd)]
theorem blank_no {c : Nat} (h : Plain c ∨ c = 45) : NumText.blank c = false := by
  unfold Plain at h
  unfold NumText.blank
  have h1 : (c == 32) = false := beq_eq_false_iff_ne.mpr (by omega)
  have h2 : (decide (9 ≤ c) && decide (c ≤ 13)) = false := by
    rw [Bool.and_eq_false_iff]
    rcases Nat.lt_or_ge 13 c with q | q
    · exact .inr (decide_eq_false (by omega))
    · exfalso
      omega
  rw [h1, h2]
  rfl
theorem step_fig {b d : Nat} {ds : Array Nat} {k : Bool} (hd : d < b) (h16 : b ≤ 16) : NumText.step b (ds, k) (sgn d) = some (ds.push d, true) := by
  have hs := sgn_in d (by omega)
  unfold NumText.step
  rw [if_neg (by rw [beq_iff_eq]; have := hs.1; omega), hs.2]
  exact if_pos hd
theorem fold_fig {b : Nat} (h16 : b ≤ 16) : ∀ (l : List Nat) (ds : Array Nat) (k : Bool), (∀ d ∈ l, d < b) → (l.map sgn).foldlM (NumText.step b) (ds, k) = some (l.foldl (fun a d => a.push d) ds, if l = [] then k else true)
  | [], _, _, _ => rfl
  | d :: l, ds, k, h => by
    rw [List.map_cons, List.foldlM_cons, step_fig (h d List.mem_cons_self) h16]
    show (l.map sgn).foldlM (NumText.step b) (ds.push d, true) = _
    rw [fold_fig h16 l (ds.push d) true fun e he => h e (List.mem_cons_of_mem _ he)]
    simp
theorem push_fold {b : Nat} : ∀ (l : List Nat) (ds : Array Nat), (l.foldl (fun a d => a.push d) ds).foldl (fun acc d => acc * b + d) 0 = l.foldl (fun a d => a * b + d) (ds.foldl (fun acc d => acc * b + d) 0)
  | [], _ => rfl
  | d :: l, ds => by
    rw [List.foldl_cons, push_fold l (ds.push d), List.foldl_cons]
    congr 1
    simp
theorem push_size : ∀ (l : List Nat) (ds : Array Nat), (l.foldl (fun a d => a.push d) ds).size = ds.size + l.length
  | [], _ => rfl
  | d :: l, ds => by
    rw [List.foldl_cons, push_size l (ds.push d), Array.size_push, List.length_cons]
    omega
theorem based_fig {b n : Nat} (hb : 2 ≤ b) (h16 : b ≤ 16) : NumText.based b (dg b n) = (b, false, dg b n) := by
  have pn : NumText.prefix? (dg b n) = none := by
    rcases Nat.lt_or_ge n b with q | q
    · rw [dg_lo q]
      generalize sgn n = c
      unfold NumText.prefix?
      split
      · rename_i e
        cases e
      · rfl
    · obtain ⟨d, l, e, hd⟩ := (dv_all hb n).2.2.2 (by omega)
      have dl := (dv_all hb n).1 d (by rw [e]; exact List.mem_cons_self)
      have eg : dg b n = sgn d :: l.map sgn := by
        unfold dg
        rw [e]
        rfl
      rw [eg]
      unfold NumText.prefix?
      split
      · rename_i e2
        have := sgn_0 d (by omega) (List.cons.inj e2).1
        omega
      · rfl
  unfold NumText.based
  rw [pn]
  have hb0 : (b == 0) = false := beq_eq_false_iff_ne.mpr (by omega)
  show (if (b == 0) = true then _ else (b, false, dg b n)) = _
  rw [hb0]
  rfl
/-- a number's text -/
def figL (b : Nat) (i : Int) : List Nat := (if i < 0 then [45] else []) ++ dg b i.natAbs
theorem figL_plain {b : Nat} {i : Int} (hb : 2 ≤ b) (h16 : b ≤ 16) : ∀ c ∈ figL b i, Plain c ∨ c = 45 := by
  intro c hc
  rcases List.mem_append.mp hc with q | q
  · split at q
    · exact .inr (List.mem_singleton.mp q)
    · cases q
  · exact .inl (dg_plain hb h16 c q)
theorem read_fig {b : Nat} {i : Int} (hb : 2 ≤ b) (h16 : b ≤ 16) (hs : i.natAbs < 2 ^ 5000) : (int_private% "readNumeral") 0 b (figL b i) = (int_private% "Numeral.value") i := by
  obtain ⟨a1, a2, a3, a4⟩ := dv_all hb i.natAbs
  have sg : NumText.sign (figL b i) = (decide (i < 0), dg b i.natAbs) := by
    unfold figL
    by_cases hi : i < 0
    · rw [if_pos hi, decide_eq_true hi]
      rfl
    · rw [if_neg hi, decide_eq_false hi, List.nil_append]
      cases e : dg b i.natAbs with
      | nil =>
        exfalso
        unfold dg at e
        exact a3 (List.map_eq_nil_iff.mp e)
      | cons c l =>
        have hp := dg_plain (n := i.natAbs) hb h16 c (by rw [e]; exact List.mem_cons_self)
        unfold Plain at hp
        unfold NumText.sign
        split
        · rename_i e2
          have := (List.cons.inj e2).1
          omega
        · rename_i e2
          have := (List.cons.inj e2).1
          omega
        · rfl
  have db : (figL b i).dropWhile NumText.blank = figL b i := drop_no fun c hc => blank_no (figL_plain hb h16 c hc)
  have dr : (dg b i.natAbs).reverse.dropWhile NumText.blank = (dg b i.natAbs).reverse := drop_no fun c hc => blank_no (.inl (dg_plain hb h16 c (List.mem_reverse.mp hc)))
  refine (NumText.readNumeral_eq 0 b (figL b i)).trans ?_
  rw [db, sg]
  show NumText.judge 0 (decide (i < 0)) (NumText.based b (dg b i.natAbs)).1 (NumText.based b (dg b i.natAbs)).2.1 (NumText.digits? (NumText.based b (dg b i.natAbs)).1 (((NumText.based b (dg b i.natAbs)).2.2.reverse.dropWhile NumText.blank).reverse)) = _
  rw [based_fig hb h16]
  show NumText.judge 0 (decide (i < 0)) b false (NumText.digits? b (((dg b i.natAbs).reverse.dropWhile NumText.blank).reverse)) = _
  rw [dr, List.reverse_reverse]
  have dd : NumText.digits? b (dg b i.natAbs) = some ((dv b i.natAbs).foldl (fun a d => a.push d) #[]) := by
    unfold NumText.digits? dg
    rw [fold_fig h16 (dv b i.natAbs) #[] false a1, if_neg a3]
    rfl
  rw [dd]
  have sz : ((dv b i.natAbs).foldl (fun a d => a.push d) (#[] : Array Nat)).size ≤ 6000 := by
    rw [push_size]
    have := dv_len hb hs
    show 0 + _ ≤ 6000
    omega
  have val : ((dv b i.natAbs).foldl (fun a d => a.push d) (#[] : Array Nat)).foldl (fun acc d => acc * b + d) 0 = i.natAbs := by
    rw [push_fold]
    have z : (#[] : Array Nat).foldl (fun acc d => acc * b + d) 0 = 0 := by first | rfl | simp
    rw [z, a2]
  unfold NumText.judge
  have c1 : (![2, 4, 8, 16, 32].contains b && (0 : Nat) != 0 && decide (((dv b i.natAbs).foldl (fun a d => a.push d) (#[] : Array Nat)).size > 0)) = false := by
    have : ((0 : Nat) != 0) = false := rfl
    rw [this, Bool.and_false, Bool.false_and]
  have c2 : (b == 10 && decide (((dv b i.natAbs).foldl (fun a d => a.push d) (#[] : Array Nat)).size > 6000)) = false := by
    rw [decide_eq_false (by omega), Bool.and_false]
  simp only [c1, c2, val, Bool.false_and]
  show (int_private% "Numeral.value") (if decide (i < 0) = true then -(i.natAbs : Int) else (i.natAbs : Int)) = _
  by_cases hi : i < 0
  · have e := neg_abs hi
    rw [decide_eq_true hi, if_pos rfl, e]
  · have e := pos_abs hi
    rw [decide_eq_false hi, if_neg (by decide), e]
def figS (b : Nat) (i : Int) : Str := ⟨(figL b i).toArray⟩
theorem figS_len {b : Nat} {i : Int} (hb : 2 ≤ b) {k : Nat} (hs : i.natAbs < 2 ^ k) : (figS b i).length ≤ k + 2 := by
  show (figL b i).toArray.size ≤ _
  rw [List.size_toArray]
  unfold figL
  rw [List.length_append]
  have h := dv_len hb hs
  have e : (dg b i.natAbs).length = (dv b i.natAbs).length := by simp [dg]
  rw [e]
  split
  · show 1 + _ ≤ _
    omega
  · show 0 + _ ≤ _
    omega
theorem seen_fig {b : Nat} {i : Int} (hb : 2 ≤ b) (h16 : b ≤ 16) : numTextOf (figS b i) = figL b i ∧ numSeenOf (figS b i) = figL b i := by
  have e0 : (figS b i).cps.toList = figL b i := rfl
  have e1 : numTextOf (figS b i) = figL b i := by
    refine (if_pos ?_).trans e0
    rw [← Array.all_toList, e0, List.all_eq_true]
    intro c hc
    have := figL_plain hb h16 c hc
    unfold Plain at this
    exact decide_eq_true (by omega)
  refine ⟨e1, ?_⟩
  show (numTextOf (figS b i)).takeWhile _ = _
  rw [e1]
  refine take_all fun c hc => ?_
  have := figL_plain hb h16 c hc
  unfold Plain at this
  exact bne_iff_ne.mpr (by omega)
end MM

namespace MM
open PySem L2 PyProof.Rows PySem.Spec PySem.Calls
set_option maxHeartbeats 16000000 in
theorem gives_fig {b : Nat} {i : Int} {u t : Tok} (hb : 2 ≤ b) (h16 : b ≤ 16) (hs : i.natAbs < 2 ^ 600) : Gives (Builtin.«int.__new__» ⟨[.type "int", .str (figS b i) u, .int (b : Int) t], []⟩) (.int i) :=
  .of_wp fun M A E s Q hQ => by
    obtain ⟨hp, g, d, tk, os⟩ := s
    have f1 := F.conv_sub_int
    have f2 := F.madeHere_int
    have f6 : typeOf (.str (figS b i) u) = pure (.type "str") := rfl
    obtain ⟨e1, e2⟩ := seen_fig (i := i) hb h16
    have hl : (numSeenOf (figS b i)).length ≤ 640 := by
      rw [e2]
      have := figS_len (i := i) hb hs
      have e : (figS b i).length = (figL b i).length := by
        show (figL b i).toArray.size = _
        rw [List.size_toArray]
      omega
    have hr : (int_private% "readNumeral") 0 ((b : Int).toNat) (numSeenOf (figS b i)) = (int_private% "Numeral.value") i := by
      rw [e2, Int.toNat_natCast]
      exact read_fig hb h16 (Nat.lt_of_lt_of_le hs (Nat.pow_le_pow_right (by decide) (by decide)))
    have ha : ((numSeenOf (figS b i)).length == (numTextOf (figS b i)).length) = true := by
      rw [e1, e2]
      exact beq_self_eq_true _
    have hk := Hx.Hid.mk (And.intro hl (And.intro hr ha))
    have hbx : (((b : Int) != 0 && decide ((b : Int) < 2)) || decide ((b : Int) > 36)) = false := by
      rw [decide_eq_false (by omega), decide_eq_false (by omega), Bool.and_false]
      rfl
    clear hl hr ha e1 e2 hs
    generalize figS b i = x at hk f6
    repeat (any_goals (first
      | assumption
      | ((with_reducible show wpAny _ _ ((int_private% "intFromText") _ _ _) _ _ _); refine Hx.wp_textB hk.out.1 hk.out.2.1 hk.out.2.2 ?_)
      | (with_reducible refine wpAny_ite_false hbx ?_)
      | wp_step))
    all_goals first | exact ⟨_, rfl, hQ⟩ | skip
section
variable {X : Cx} {E : En} {Γ : Gm} {M : Ow} {Φ : Rep → Ow → Prop}
def rIntB : List V → Hp → VK → Prop := fun xs H Q => ∃ (b : Nat) (i : Int), xs = [.str (figS b i), .int (b : Int)] ∧ 2 ≤ b ∧ b ≤ 16 ∧ i.natAbs < 2 ^ 600 ∧ Q (.int i) H
theorem call_intB : CallR X (.type "int") rIntB := by
  intro pins s σ H xs us Q I r h
  obtain ⟨b, i, rfl, hb, h16, hs, q⟩ := h
  obtain ⟨u, w', rfl, r1, r2⟩ := vals2 r
  obtain ⟨t1, rfl⟩ := r1
  obtain ⟨t2, rfl⟩ := r2
  exact callType_new F.called_int F.newNe_int (Hx.typeCall_int_2 _ _) (Hx.newCall_int_2 _ _) (fun obj => F.initArgs_range_2 obj _ _) F.entry_int_new (gives_fig hb h16 hs).meets (show (Made.int i).post _ s from ⟨rfl, ⟨.int i, H, I.tok _, ⟨_, rfl⟩, q⟩⟩)
theorem caw_intB {b : Nat} {i : Int} (hb : 2 ≤ b) (h16 : b ≤ 16) (hs : i.natAbs < 2 ^ 600) (k : Φ (RI i) M) : CaW E Γ M rIntB [RS (figS b i), RI (b : Int)] Φ := fun σ G H a vs hv Q q => by
  match vs, hv with
  | [v, w], ⟨r1, r2, _⟩ =>
    have r1 : v = .str (figS b i) := r1
    have r2 : w = .int (b : Int) := r2
    subst r1 r2
    exact ⟨b, i, rfl, hb, h16, hs, q _ _ _ _ _ k (Same.refl _) a rfl⟩
end
end MM

namespace MM
open PySem L2 PyProof.Rows
section
variable {X : Cx} {E : En} {Γ : Gm} {M : Ow} {e : Expr} {pos p p2 : Pos} {Φ : Rep → Ow → Prop} {x : Str}
theorem we_bltn {v : V} {u : Value} (hg : Gl X x) (hm : X.mg x = none) (hv : bootBuiltins x = some u) (r : RelV v u) (k : Φ (RV v) M) (hn : x ≠ "__name__" := by decide) (hd : (x == ("__debug__" : Str)) = false := by decide) : WE X E Γ M (.Name x pos) Φ := we_of (pe_bltn hg hm hv r hn hd) (wte_c (fun _ => rfl) k)
/-- isinstance(e, a built-in type) -/
theorem we_isiB {t c : String} {b : Bool} (hg : Gl X "isinstance") (hgc : Gl X x) (hm : X.mg "isinstance" = none) (hmc : X.mg x = none) (hv : bootBuiltins x = some (.type c)) (hk : L2.kitB t c = some b)
    (h : WE X E Γ M e fun ρ M1 => TyIs X.K ρ (.type t) ∧ Φ (RB b) M1) (hn : x ≠ "__name__" := by decide) (hd : (x == ("__debug__" : Str)) = false := by decide)
    (he : starEach [e, .Name x p2] X.env = (false, eval e X.env) :: starEach [.Name x p2] X.env := by rfl) (he2 : starEach [.Name x p2] X.env = (false, eval (.Name x p2) X.env) :: starEach [] X.env := by rfl) (hpl : (backTo pos (starEach [.Name x p2] X.env)).any (·.1) = false := by rfl) :
    WE X E Γ M (.Call (.Name "isinstance" p) [e, .Name x p2] [] pos) Φ := by
  refine we_callB call_isi hg hm (by decide +kernel) (wa_cons (fun σ G H a Q q => h σ G H a Q fun ρ M1 v G1 H1 ⟨ty, hk2⟩ => q ρ M1 v G1 H1 (wa_cons (we_bltn (v := .ty c) hgc hmc hv rfl (wa_nil ?_) hn hd) he2)) he) (by decide) (by decide) he hpl
  exact caw_of (cav_isi ty (.ty c) (kit_ty hk)) hk2
theorem cav_len_tt {K : PySem.W.Frag} {ρs : List Rep} : CaV (fun xs H Q => ∃ p ys, xs = [.ref p] ∧ (SqL K H p ys ∨ SqT K H p ys) ∧ Q (.int ys.length) H) [RTt ρs] (RI ρs.length) := fun vs G H s r Q q => by
  match vs, r with
  | [v], ⟨⟨a, ws, e, h, rr⟩, _⟩ =>
    subst e
    refine ⟨a, ws, rfl, .inr (.inl (.inl (s _ _ h))), q _ G H (New.refl s) ?_⟩
    show V.int _ = V.int _
    rw [rr.length]
theorem cav_len_lt {K : PySem.W.Frag} {ρs : List Rep} : CaV (fun xs H Q => ∃ p ys, xs = [.ref p] ∧ (SqL K H p ys ∨ SqT K H p ys) ∧ Q (.int ys.length) H) [RLt ρs] (RI ρs.length) := fun vs G H s r Q q => by
  match vs, r with
  | [v], ⟨⟨a, ws, e, h, rr⟩, _⟩ =>
    subst e
    refine ⟨a, ws, rfl, .inl (.inl (.inl (s _ _ h))), q _ G H (New.refl s) ?_⟩
    show V.int _ = V.int _
    rw [rr.length]
end
end MM

namespace MM
open PySem L2 PyProof.Rows
/-! ### methods called with keywords -/
def tMethN (C : Addr) (m : Str) (n k : Nat) (sp : Sp) (gV : List V → List V → List V) (E : XK) (ta : TE) (t tk : TA) : TE := fun σ H Q => ta σ H fun x H1 => ∃ a dx fs, x = .ref a ∧ H1 a = some (.ins C dx fs) ∧ fs.lookup m = none ∧ t σ H1 fun vs H2 => tk σ H2 fun zs H3 => vs.length = n ∧ zs.length = k ∧ sp (gV (x :: vs) zs) H3 Q E
def tMethN0 (C : Addr) (m : Str) (k : Nat) (sp : Sp) (gV : List V → List V → List V) (E : XK) (ta : TE) (tk : TA) : TE := fun σ H Q => ta σ H fun x H1 => ∃ a dx fs, x = .ref a ∧ H1 a = some (.ins C dx fs) ∧ fs.lookup m = none ∧ tk σ H1 fun zs H3 => zs.length = k ∧ sp (gV [x] zs) H3 Q E
section
variable {X : Cx} {CX : CXT} {k n : Nat} {f C : Addr} {fd : FuncData} {ps : List Str} {sp : Sp} {EE : XK} {m : Str} {p pos apos : Pos} {e o : Expr} {es : List Expr} {kws : List Keyword} {ks : List Str} {ta : TE} {t tk : TA} {g : List Value → List Value → List Value} {gV : List V → List V → List V}
theorem pe_methN {pl : Sem Bool} (he : PE X o ta) (c : Cls X.K C) (hm : L2.Meth X.K C m f) (F : FnOk X.prog X.w X.K X.mg X.base CX k f fd ps sp) (hr : Room k X.A) (hb : KBn X.K fd ps (n + 1) ks g gV) (hx : Passes CX X EE) (ha : PA X (e :: es) t) (hkw : PK X kws tk)
    (hall : (backToKw pos (keywordEach kws X.env)).all (·.1.isSome) = true := by rfl) (hks : (backToKw pos (keywordEach kws X.env)).filterMap (·.1) = ks := by rfl)
    (hst : starEach (e :: es) X.env = (false, eval e X.env) :: starEach es X.env := by rfl) (hpl : ((backTo pos (starEach (e :: es) X.env)).any (·.1) || (backToKw pos (keywordEach kws X.env)).any (·.1.isNone)) = false := by rfl)
    (ht : eval (.Call (.Attribute o m apos) (e :: es) kws pos) X.env = (do
      let ov ← eval o X.env
      standAt apos.atName
      let (f, first) ← holding [ov] (getMethod ov m pl)
      callWith pos f first (backTo pos (starEach (e :: es) X.env)) (backToKw pos (keywordEach kws X.env))) := by rfl) :
    PE X (.Call (.Attribute o m apos) (e :: es) kws pos) (tMethN C m n ks.length sp gV EE ta t tk) := by
  refine ⟨fun pins s σ H Q I h => ?_⟩
  refine PySem.W.methodCall_KW (pl := pl) (thn (he.run pins s σ H _ I h) fun u s1 ⟨x, H1, I1, rx, a, dx, fs, ex, ea, l, q⟩ => ?_) ht
  subst ex
  obtain rfl : u = Value.ref a := rx
  refine getmeth_ok I1 ea c hm l ?_
  refine PySem.W.callWith_KW (first := [.ref a]) (h₀ := X.base) I.ok.mod.kin hm.kp hall (thn (ha.run pos pins s1 σ H1 _ I1 q) fun us s2 ⟨vs, H2, I2, r, q2⟩ => ?_) hpl hst
  refine thn (hkw.run pos pins s2 σ H2 _ I2 q2) fun ws s3 ⟨zs, H3, I3, rz, l1, l2, q3⟩ => ⟨I3.kIn, ?_⟩
  rw [hks]
  exact run_fnN (us := .ref a :: us) (vs := .ref a :: vs) F hr hb hx I3 (.cons rfl r) rz (by simp [l1]) l2 q3
theorem pe_methN0 {pl : Sem Bool} (he : PE X o ta) (c : Cls X.K C) (hm : L2.Meth X.K C m f) (F : FnOk X.prog X.w X.K X.mg X.base CX k f fd ps sp) (hr : Room k X.A) (hb : KBn X.K fd ps 1 ks g gV) (hx : Passes CX X EE) (hkw : PK X kws tk)
    (hall : (backToKw pos (keywordEach kws X.env)).all (·.1.isSome) = true := by rfl) (hks : (backToKw pos (keywordEach kws X.env)).filterMap (·.1) = ks := by rfl)
    (hpl : ((backTo pos (starEach [] X.env)).any (·.1) || (backToKw pos (keywordEach kws X.env)).any (·.1.isNone)) = false := by rfl)
    (ht : eval (.Call (.Attribute o m apos) [] kws pos) X.env = (do
      let ov ← eval o X.env
      standAt apos.atName
      let (f, first) ← holding [ov] (getMethod ov m pl)
      callWith pos f first (backTo pos (starEach [] X.env)) (backToKw pos (keywordEach kws X.env))) := by rfl) :
    PE X (.Call (.Attribute o m apos) [] kws pos) (tMethN0 C m ks.length sp gV EE ta tk) := by
  refine ⟨fun pins s σ H Q I h => ?_⟩
  refine PySem.W.methodCall_KW (pl := pl) (thn (he.run pins s σ H _ I h) fun u s1 ⟨x, H1, I1, rx, a, dx, fs, ex, ea, l, q⟩ => ?_) ht
  subst ex
  obtain rfl : u = Value.ref a := rx
  refine getmeth_ok I1 ea c hm l ?_
  refine PySem.W.callWith_KW0 (first := [.ref a]) (h₀ := X.base) I.ok.mod.kin hm.kp hall ?_ hpl
  refine thn (hkw.run pos pins s1 σ H1 _ I1 q) fun ws s3 ⟨zs, H3, I3, rz, l2, q3⟩ => ⟨I3.kIn, ?_⟩
  rw [hks]
  exact run_fnN (us := [.ref a]) (vs := [.ref a]) F hr hb hx I3 (.cons rfl .nil) rz rfl l2 q3
end
section
variable {X : Cx} {E : En} {Γ : Gm} {M : Ow} {a b e o : Expr} {es : List Expr} {kws : List Keyword} {ks : List Str} {pos p apos : Pos} {Φ : Rep → Ow → Prop} {k n : Nat} {m : Str} {C : Addr} {c : Con} {gV : List V → List V → List V} {gR : List Rep → List Rep → List Rep}
theorem we_methN {pl : Sem Bool} (F : KnMK X.prog X.w X.K X.mg X.base k C m n ks gV c) (gr : GvR gV gR (n + 1) ks.length) (hr : Room k X.A) (hx : Passes CX0 X E0)
    (h : WE X E Γ M o fun ρ M1 => HasI ρ C m ∧ WA X E Γ M1 (e :: es) fun ρs M2 => ρs.length = n ∧ WK X E Γ M2 kws fun ρz M3 => ρz.length = ks.length ∧ CallK c (gR (ρ :: ρs) ρz) M3 Φ)
    (hall : (backToKw pos (keywordEach kws X.env)).all (·.1.isSome) = true := by rfl) (hks : (backToKw pos (keywordEach kws X.env)).filterMap (·.1) = ks := by rfl)
    (hst : starEach (e :: es) X.env = (false, eval e X.env) :: starEach es X.env := by rfl) (hpl : ((backTo pos (starEach (e :: es) X.env)).any (·.1) || (backToKw pos (keywordEach kws X.env)).any (·.1.isNone)) = false := by rfl)
    (ht : eval (.Call (.Attribute o m apos) (e :: es) kws pos) X.env = (do
      let ov ← eval o X.env
      standAt apos.atName
      let (f, first) ← holding [ov] (getMethod ov m pl)
      callWith pos f first (backTo pos (starEach (e :: es) X.env)) (backToKw pos (keywordEach kws X.env))) := by rfl) :
    WE X E Γ M (.Call (.Attribute o m apos) (e :: es) kws pos) Φ := by
  obtain ⟨f, fd, ps, g, hm, hc, hb, F⟩ := F
  refine we_of (pe_methN pe_w hc hm F hr hb hx pa_w pk_w hall hks hst hpl ht) fun σ G H a Q q => ?_
  exact h σ G H a _ fun ρ M1 v G1 H1 ⟨hi, h1⟩ s1 a1 r1 => by
    obtain ⟨b, dx, fs, e1, e2, e3⟩ := hi v G1 r1
    refine ⟨b, dx, fs, e1, a1.gh _ _ e2, e3, h1 σ G1 H1 a1 _ fun ρs M' vs G2 H2 ⟨l1, h2⟩ s2 a2 r2 => ?_⟩
    refine h2 σ G2 H2 a2 _ fun ρz M3 zs G3 H3 ⟨l2, hh⟩ s3 a3 r3 => ⟨by rw [← r2.length]; exact l1, by rw [← r3.length]; exact l2, ?_⟩
    exact callK_run hh a3 (gr.run (by simp [l1]) l2 ⟨ρ.mono _ _ _ (s2.trans s3) r1, r2.mono s3⟩ r3) fun ρ' M4 w G4 H4 h4 s4 => q ρ' M4 w G4 H4 h4 (((s1.trans s2).trans s3).trans s4)
theorem we_methN0 {pl : Sem Bool} (F : KnMK X.prog X.w X.K X.mg X.base k C m 0 ks gV c) (gr : GvR gV gR 1 ks.length) (hr : Room k X.A) (hx : Passes CX0 X E0)
    (h : WE X E Γ M o fun ρ M1 => HasI ρ C m ∧ WK X E Γ M1 kws fun ρz M3 => ρz.length = ks.length ∧ CallK c (gR [ρ] ρz) M3 Φ)
    (hall : (backToKw pos (keywordEach kws X.env)).all (·.1.isSome) = true := by rfl) (hks : (backToKw pos (keywordEach kws X.env)).filterMap (·.1) = ks := by rfl)
    (hpl : ((backTo pos (starEach [] X.env)).any (·.1) || (backToKw pos (keywordEach kws X.env)).any (·.1.isNone)) = false := by rfl)
    (ht : eval (.Call (.Attribute o m apos) [] kws pos) X.env = (do
      let ov ← eval o X.env
      standAt apos.atName
      let (f, first) ← holding [ov] (getMethod ov m pl)
      callWith pos f first (backTo pos (starEach [] X.env)) (backToKw pos (keywordEach kws X.env))) := by rfl) :
    WE X E Γ M (.Call (.Attribute o m apos) [] kws pos) Φ := by
  obtain ⟨f, fd, ps, g, hm, hc, hb, F⟩ := F
  refine we_of (pe_methN0 pe_w hc hm F hr hb hx pk_w hall hks hpl ht) fun σ G H a Q q => ?_
  exact h σ G H a _ fun ρ M1 v G1 H1 ⟨hi, h1⟩ s1 a1 r1 => by
    obtain ⟨b, dx, fs, e1, e2, e3⟩ := hi v G1 r1
    refine ⟨b, dx, fs, e1, a1.gh _ _ e2, e3, h1 σ G1 H1 a1 _ fun ρz M3 zs G3 H3 ⟨l2, hh⟩ s3 a3 r3 => ⟨by rw [← r3.length]; exact l2, ?_⟩⟩
    exact callK_run hh a3 (gr.run rfl l2 ⟨ρ.mono _ _ _ s3 r1, trivial⟩ r3) fun ρ' M4 w G4 H4 h4 s4 => q ρ' M4 w G4 H4 h4 ((s1.trans s3).trans s4)
end
/-! ### defs without defaults, called with keywords; methods -/
section
variable {P : Program} {w : World} {K : PySem.W.Frag} {mg : Str → Option Value} {base h : Heap} {k : Nat} {x qual : Str} {st : Stmt} {f C : Addr} {fd : FuncData} {ps : List Str} {c : Con}
theorem kb0_of (n : Nat) (ks : List Str) (g : {α : Type} → List α → List α → List α) (F : FdD K x qual st [] f fd)
    (hrel : ∀ {vs zs : List V} {us ws : List Value}, Vals vs us → Vals zs ws → Vals (g vs zs) (g us ws))
    (hb : ∀ (kV doc pm : Value) (an : Option Addr) (cdv ct : Value) (us ws : List Value), us.length = n → ws.length = ks.length → bindArgs (PySem.W.fnOf x qual (defArgs st) (defBody st) (defScope st) .none kV doc pm an cdv ct) ⟨us, ks.zip ws⟩ = pure (ps.zip (g us ws))) : KBn K fd ps n ks (fun us ws => g us ws) (fun vs zs => g vs zs) := by
  obtain ⟨oc, od, dV, kV, doc, pm, an, cdv, ct, osl, rfl, lk, hcd, hD, hK⟩ := F.ex
  rcases hD with ⟨_, rfl⟩ | ⟨e, _⟩
  · exact ⟨fun s us ws _ l1 l2 => .of_eq (hb kV doc pm an cdv ct us ws l1 l2), hrel⟩
  · exact absurd rfl e
theorem knK0_of (n : Nat) (ks : List Str) (g : {α : Type} → List α → List α → List α) (X : K.In h) (G : h.Ns mainGlobals mg) (a : PySem.W.nsIn K mainGlobals x = some (some (.ref f))) (F : FdD K x x st [] f fd) (ok : FnOk P w K mg base CX0 k f fd ps (conSp c))
    (hrel : ∀ {vs zs : List V} {us ws : List Value}, Vals vs us → Vals zs ws → Vals (g vs zs) (g us ws))
    (hb : ∀ (kV doc pm : Value) (an : Option Addr) (cdv ct : Value) (us ws : List Value), us.length = n → ws.length = ks.length → bindArgs (PySem.W.fnOf x x (defArgs st) (defBody st) (defScope st) .none kV doc pm an cdv ct) ⟨us, ks.zip ws⟩ = pure (ps.zip (g us ws))) : KnK P w K mg base k x n ks (fun vs zs => g vs zs) c :=
  ⟨f, fd, ps, _, PySem.W.mg_of X G a, F.kp, kb0_of n ks g F hrel hb, ok⟩
theorem knM_of (cl : Cls K C) (a : PySem.W.findIn K (.ref C) x = some (some (.ref f))) (i : PySem.W.isFn K (.ref f) = true) (F : FdD K x qual st [] f fd) (ok : FnOk P w K mg base CX0 k f fd ps (conSp c))
    (hb : ∀ (kV doc pm : Value) (an : Option Addr) (cdv ct : Value) (us : List Value), us.length = ps.length → bindArgs (PySem.W.fnOf x qual (defArgs st) (defBody st) (defScope st) .none kV doc pm an cdv ct) ⟨us, []⟩ = pure (ps.zip us)) : KnM P w K mg base k C x [] c :=
  ⟨f, fd, ps, [], ⟨a, i, F.kp⟩, cl, F.bindsN hb, .nil, ok⟩
theorem knMK0_of (n : Nat) (ks : List Str) (g : {α : Type} → List α → List α → List α) (cl : Cls K C) (a : PySem.W.findIn K (.ref C) x = some (some (.ref f))) (i : PySem.W.isFn K (.ref f) = true) (F : FdD K x qual st [] f fd) (ok : FnOk P w K mg base CX0 k f fd ps (conSp c))
    (hrel : ∀ {vs zs : List V} {us ws : List Value}, Vals vs us → Vals zs ws → Vals (g vs zs) (g us ws))
    (hb : ∀ (kV doc pm : Value) (an : Option Addr) (cdv ct : Value) (us ws : List Value), us.length = n + 1 → ws.length = ks.length → bindArgs (PySem.W.fnOf x qual (defArgs st) (defBody st) (defScope st) .none kV doc pm an cdv ct) ⟨us, ks.zip ws⟩ = pure (ps.zip (g us ws))) : KnMK P w K mg base k C x n ks (fun vs zs => g vs zs) c :=
  ⟨f, fd, ps, _, ⟨a, i, F.kp⟩, cl, kb0_of (n + 1) ks g F hrel hb, ok⟩
end
/-! ### values put in the parameters' order -/
def permL {α : Type} (idx : List Nat) (l : List α) : List α := idx.filterMap fun i => l[i]?
theorem vals_perm {vs : List V} {us : List Value} (h : Vals vs us) : ∀ idx : List Nat, Vals (permL idx vs) (permL idx us)
  | [] => .nil
  | i :: idx => by
    have ih := vals_perm h idx
    unfold permL at ih ⊢
    cases e : vs[i]? with
    | none =>
      have e2 := h.none_of e
      rw [List.filterMap_cons_none e, List.filterMap_cons_none e2]
      exact ih
    | some v =>
      obtain ⟨u, e2, r⟩ := h.get e
      rw [List.filterMap_cons_some e, List.filterMap_cons_some e2]
      exact .cons r ih
theorem reps_perm {ρs : List Rep} {vs : List V} {G : Hp} (h : Reps ρs vs G) : ∀ idx : List Nat, Reps (permL idx ρs) (permL idx vs) G
  | [] => trivial
  | i :: idx => by
    have ih := reps_perm h idx
    unfold permL at ih ⊢
    cases e : ρs[i]? with
    | none =>
      have e2 : vs[i]? = none := by
        rw [List.getElem?_eq_none_iff] at e ⊢
        rw [← h.length]
        exact e
      rw [List.filterMap_cons_none e, List.filterMap_cons_none e2]
      exact ih
    | some ρ =>
      obtain ⟨v, e2, r⟩ := h.get e
      rw [List.filterMap_cons_some e, List.filterMap_cons_some e2]
      exact ⟨r, ih⟩
def gvP (idx : List Nat) {α : Type} (a z : List α) : List α := permL idx (a ++ z)
theorem gr_P (idx : List Nat) {n m : Nat} : GvR (gvP idx) (gvP idx) n m := ⟨fun _ _ r1 r2 => reps_perm (r1.app r2) idx⟩
theorem rel_P (idx : List Nat) {vs zs : List V} {us ws : List Value} (r1 : Vals vs us) (r2 : Vals zs ws) : Vals (gvP idx vs zs) (gvP idx us ws) := vals_perm (Vals.append r1 r2) idx
end MM

namespace MM
open PySem L2 PyProof.Rows
theorem eqv_sr {a : Str} : PyData.eqv (.str a) (.str a) = true := by simp [PyData.eqv]
theorem eqv_ss' {a b : Str} : PyData.eqv (.str a) (.str b) = decide (a = b) := by
  by_cases h : a = b
  · subst h
    simp [PyData.eqv]
  · simp [PyData.eqv, h]
def FIG : Str := "0123456789abcdef"
def TX (l : List Nat) : Str := ⟨l.toArray⟩
theorem tx_app (a b : List Nat) : TX a ++ TX b = TX (a ++ b) := by
  have h : (TX a ++ TX b).cps = (TX (a ++ b)).cps := by
    rw [Str.cps_append]
    simp [TX]
  cases e : TX a ++ TX b
  cases e2 : TX (a ++ b)
  rw [e, e2] at h
  have h : _ = _ := h
  simp only at h
  rw [h]
theorem tx_len (l : List Nat) : (TX l).length = l.length := by
  show l.toArray.size = _
  simp
theorem tx_empty : TX [] = Str.empty := rfl
theorem tx_dash : ("-" : Str) = TX [45] := by decide +kernel
theorem fig_tx {b : Nat} {i : Int} : figS b i = TX (figL b i) := rfl
theorem fig_at : ∀ d : Nat, d < 16 → atI FIG.cps.toList (d : Int) = some (sgn d) := by decide +kernel
theorem tx_ok {l : List Nat} (h : ∀ c ∈ l, c < 128) : PyData.strOk (TX l) = true := by
  unfold PyData.strOk
  rw [Array.all_eq_true_iff_forall_mem]
  intro c hc
  have hc : c ∈ l := by simpa [TX] using hc
  have := h c hc
  show decide (c < 0x110000) = true
  exact decide_eq_true (by omega)
theorem fig_ok {b : Nat} {i : Int} (hb : 2 ≤ b) (h16 : b ≤ 16) : PyData.strOk (figS b i) = true := by
  rw [fig_tx]
  refine tx_ok fun c hc => ?_
  have := figL_plain hb h16 c hc
  unfold Plain at this
  omega
theorem opv_ix_s {K : PySem.W.Frag} {z : Str} {i : Int} {c : Nat} (hl : z.length ≤ sizeLine) (h : atI z.cps.toList i = some c) : OpV (rIx K) (RS z) (RI i) (RS (TX [c])) := fun x y G H s hx hy Q q =>
  .inr (.inr ⟨z, i, c, hx, hy, hl, h, q _ G H (New.refl s) rfl⟩)
theorem opv_repS {z : Str} {b : Bool} : OpV rMulU (RS z) (RI (if b then 1 else 0)) (RS (if b then z else Str.empty)) := fun x y G H s hx hy Q q => by
  have hx : x = .str z := hx
  have hy : y = .int (if b then 1 else 0) := hy
  subst hx hy
  refine .inr (.inl ⟨z, _, rfl, rfl, ?_, ?_⟩)
  · cases b
    · exact .inl rfl
    · exact .inr rfl
  · have h := q (.str (if b then z else Str.empty)) G H (New.refl s) rfl
    cases b <;> exact h
theorem fig_small : (FIG : Str).length ≤ sizeLine := by decide +kernel
theorem dg_len {b n : Nat} (hb : 2 ≤ b) (h : n < 2 ^ 70) : (dg b n).length ≤ 71 := by
  have := dv_len hb h
  simp only [dg, List.length_map]
  omega
/-! ### contracts -/
theorem wp_mono {X : Cx} {E : En} {Γ : Gm} {M : Ow} {e : Expr} {Φ Φ' : Bool → Ow → Prop} (h : WP X E Γ M e Φ) (k : ∀ b M', Φ b M' → Φ' b M') : WP X E Γ M e Φ' := fun σ G H a Q q =>
  h σ G H a Q fun b M' G' H' hb s1 a1 => q b M' G' H' (k b M' hb) s1 a1
theorem tx_nil {l : List Nat} : TX l = ("" : Str) ↔ l = [] := by
  have e : ("" : Str) = TX [] := by decide +kernel
  rw [e]
  constructor
  · intro h
    have h2 := congrArg Str.length h
    rw [tx_len, tx_len] at h2
    exact List.length_eq_zero_iff.mp h2
  · intro h
    rw [h]
structure NB (i : Nat × Int) : Prop where
  b2 : 2 ≤ i.1
  b16 : i.1 ≤ 16
  z : Bd 70 i.2
def con_fig : Con := { I := Nat × Int, B := Unit, pre := fun i => NB i, args := fun i => [RI i.2, RI (i.1 : Int)], own := fun _ => [], post := fun _ _ => True, res := fun i _ => RS (figS i.1 i.2), own' := fun _ _ => [] }
theorem ck_fig {ρ1 ρ2 : Rep} {M : Ow} {Φ : Rep → Ow → Prop} {b : Nat} {i : Int} (h1 : Sub ρ1 (RI i)) (h2 : Sub ρ2 (RI (b : Int))) (nb : NB (b, i)) (k : Φ (RS (figS b i)) M) : CallK con_fig [ρ1, ρ2] M Φ :=
  ⟨(b, i), M, nb, .cons h1 (.cons h2 .nil), .nil, fun _ _ => k⟩
def con_rd : Con := { I := Nat × Int, B := Unit, pre := fun i => NB i, args := fun i => [RS (figS i.1 i.2), RI (i.1 : Int)], own := fun _ => [], post := fun _ _ => True, res := fun i _ => RI i.2, own' := fun _ _ => [] }
theorem ck_rd {ρ1 ρ2 : Rep} {M : Ow} {Φ : Rep → Ow → Prop} {b : Nat} {i : Int} (h1 : Sub ρ1 (RS (figS b i))) (h2 : Sub ρ2 (RI (b : Int))) (nb : NB (b, i)) (k : Φ (RI i) M) : CallK con_rd [ρ1, ρ2] M Φ :=
  ⟨(b, i), M, nb, .cons h1 (.cons h2 .nil), .nil, fun _ _ => k⟩
structure BltG (mg : Str → Option Value) : Prop where
  abs : mg "abs" = none
  int : mg "int" = none
  isi : mg "isinstance" = none
  bool : mg "bool" = none
  str : mg "str" = none
  rng : mg "range" = none
  fig : ∃ tk, mg "FIGURES" = some (.str FIG tk)
section
variable {P : Program} {w : World} {K : PySem.W.Frag} {mg : Str → Option Value} {base : Heap}
theorem ok_fig {f : Addr} {fd : FuncData} {ds : List V} (F : FdD K "figures" "figures" s_f_figures ds f fd) (B : BltG mg) : FnOk P w K mg base CX0 1 f fd (N_f_figures.take 2) (conSp con_fig) := by
  refine fn_conD con_fig F sc_f_figures (fun _ => rfl) fun cd A outer s H EE G i hp hr hE => ?_
  obtain ⟨b, i⟩ := i
  obtain ⟨hb, h16, hz⟩ := hp
  have hb : 2 ≤ b := hb
  have h16 : b ≤ 16 := h16
  have hz : i.natAbs < 2 ^ 70 := hz
  obtain ⟨tk, hF⟩ := B.fig
  have lb : (b : Int).natAbs.log2 < 9000 := by
    rw [Int.natAbs_natCast]
    exact Nat.lt_of_le_of_lt (Nat.log2_le_self b) (by omega)
  have bp : (0 : Int) < (b : Int) := by omega
  have len := dg_len hb hz
  refine wss_cons (ws_set 2 w2_f_figures (we_callB call_abs g_abs_f_figures B.abs (by decide +kernel) (wa_cons (we_var 0 r0_f_figures rfl (wa_nil (caw_of cav_abs ?_))))))
  have one : ∀ n : Nat, OpV (rIx K) (RS FIG) (RI ((n : Int) % (b : Int))) (RS (TX [sgn (n % b)])) := fun n => by
    have e : (n : Int) % (b : Int) = ((n % b : Nat) : Int) := by rw [Int.natCast_emod]
    rw [e]
    have := Nat.mod_lt n (show 0 < b by omega)
    exact opv_ix_s fig_small (fig_at _ (by omega))
  refine wss_cons (ws_set 3 w3_f_figures (we_ix ix_seq (we_glob (v := .str FIG) (ρ := RS FIG) g_FIGURES_f_figures hF ⟨tk, rfl⟩ (fun _ => rfl) (we_bin op_modN (we_var 2 r2_f_figures rfl (we_var 1 r1_f_figures rfl (opw_of (opv_mod_i bp) ?_)))))))
  refine opw_of (one i.natAbs) ?_
  refine wss_cons (ws_while PassesOwn.never (fun k Γ M => ∃ l : List Nat, Γ = [some (RI i), some (RI (b : Int)), some (RI (k : Int)), some (RS (TX l))] ∧ M = [] ∧ dg b i.natAbs = (if k < b then [] else dg b (k / b)) ++ l) i.natAbs ⟨[sgn (i.natAbs % b)], rfl, rfl, ?start⟩ ?_)
  case start =>
    split
    · rename_i h
      rw [dg_lo h, Nat.mod_eq_of_lt h]
      rfl
    · rename_i h
      exact dg_hi hb (by omega)
  rintro k Γ M ⟨l, rfl, rfl, hl⟩
  have llen : l.length ≤ 71 := by
    have := congrArg List.length hl
    rw [List.length_append] at this
    omega
  refine wt_cmp op_ge (nomark _) (we_var 2 r2_f_figures rfl (we_var 1 r1_f_figures rfl (opw_of opv_ge_i ⟨_, Sub.rfl, fun hk => ?more, fun hk => ?out⟩)))
  case more =>
    have hk : b ≤ k := by
      have : (b : Int) ≤ (k : Int) := of_decide_eq_true hk
      omega
    have ed : (k : Int) / (b : Int) = ((k / b : Nat) : Int) := by rw [Int.natCast_ediv]
    refine wss_cons (ws_aug 2 w2_f_figures iop_fdivA rfl (we_var 1 r1_f_figures rfl (opw_of (opv_div_i bp lb) ?_)))
    refine wss_one (ws_set 3 w3_f_figures (we_bin op_addU (we_ix ix_seq (we_glob (v := .str FIG) (ρ := RS FIG) g_FIGURES_f_figures hF ⟨tk, rfl⟩ (fun _ => rfl) (we_bin op_modN (we_var 2 r2_f_figures rfl (we_var 1 r1_f_figures rfl (opw_of (opv_mod_i bp) ?_))))))))
    rw [ed]
    refine opw_of (one (k / b)) (we_var 3 r3_f_figures rfl (opw_of (opv_add_s ?sz) ?_))
    case sz =>
      rw [tx_len, tx_len]
      show 1 + l.length ≤ 100000
      omega
    rw [tx_app]
    refine ⟨k / b, Nat.div_lt_self (by omega) (by omega), sgn (k / b % b) :: l, rfl, rfl, ?_⟩
    rw [hl, if_neg (by omega)]
    split
    · rename_i h
      rw [dg_lo h, Nat.mod_eq_of_lt h]
      rfl
    · rename_i h
      rw [dg_hi hb (by omega), List.append_assoc]
      rfl
  case out =>
    have hk : k < b := by
      have : ¬ (b : Int) ≤ (k : Int) := of_decide_eq_false hk
      omega
    rw [if_pos hk, List.nil_append] at hl
    refine wss_cons (ws_if (wt_cmp op_lt (nomark _) (we_var 0 r0_f_figures rfl (we_int (opw_of opv_lt_i ⟨_, Sub.rfl, fun h => ?neg, fun h => wss_nil ?_⟩)))))
    case neg =>
      have h : i < 0 := of_decide_eq_true h
      refine wss_one (ws_ret (we_bin op_addU (we_str (we_var 3 r3_f_figures rfl (opw_of (opv_add_s ?sz2) ⟨(), [], trivial, ?_, .nil⟩)))))
      case sz2 =>
        rw [tx_len]
        have : ("-" : Str).length = 1 := by decide +kernel
        omega
      rw [tx_dash, tx_app]
      show Sub (RS (TX ([45] ++ l))) (RS (TX (figL b i)))
      unfold figL
      rw [if_pos h, hl]
      exact Sub.rfl
    have h : ¬ i < 0 := of_decide_eq_false h
    refine wss_one (ws_ret (we_var 3 r3_f_figures rfl ⟨(), [], trivial, ?_, .nil⟩))
    show Sub (RS (TX l)) (RS (TX (figL b i)))
    unfold figL
    rw [if_neg h, hl]
    exact Sub.rfl
theorem ok_num {f : Addr} {fd : FuncData} (F : FdD K "number_in" "number_in" s_f_number_in [] f fd) (B : BltG mg) : FnOk P w K mg base CX0 1 f fd (N_f_number_in.take 2) (conSp con_rd) := by
  refine fn_conD con_rd F sc_f_number_in (fun _ => rfl) fun cd A outer s H EE G i hp hr hE => ?_
  obtain ⟨b, i⟩ := i
  obtain ⟨hb, h16, hz⟩ := hp
  have hb : 2 ≤ b := hb
  have h16 : b ≤ 16 := h16
  have hz : i.natAbs < 2 ^ 70 := hz
  refine wss_cons (ws_set 2 w2_f_number_in (we_non ?_))
  refine wss_cons (ws_try0 (wss_one (ws_set 2 ?wr (we_callTy call_intB ?g1 B.int (by decide +kernel) (wa_cons (we_var 0 ?r0 rfl (wa_cons (we_var 1 ?r1 rfl (wa_nil (caw_intB hb h16 (Nat.lt_of_lt_of_le hz (Nat.pow_le_pow_right (by decide) (by decide))) ?_))))))))))
  case wr => exact ⟨sc_f_number_in.nd, rfl, by first | exact .inl rfl | exact .inr rfl, .inl rfl⟩
  case g1 => rfl
  case r0 => exact ⟨rfl, by first | exact .inl rfl | exact .inr (.inl rfl), by decide, by decide⟩
  case r1 => exact ⟨rfl, by first | exact .inl rfl | exact .inr (.inl rfl), by decide, by decide⟩
  exact wss_one (ws_ret (we_var 2 r2_f_number_in rfl ⟨(), [], trivial, Sub.rfl, .nil⟩))
theorem ok_rd {f : Addr} {fd : FuncData} {ds : List V} (F : FdD K "read_figures" "read_figures" s_f_read_figures ds f fd) (Nu : Kn P w K mg base 1 "number_in" [] con_rd) (Fi : Kn P w K mg base 1 "figures" [] con_fig) : FnOk P w K mg base CX0 2 f fd (N_f_read_figures.take 2) (conSp con_rd) := by
  refine fn_conD con_rd F sc_f_read_figures (fun _ => rfl) fun cd A outer s H EE G i hp hr hE => ?_
  obtain ⟨b, i⟩ := i
  have nb : NB (b, i) := hp
  obtain ⟨hb, h16, hz⟩ := hp
  have hb : 2 ≤ b := hb
  have h16 : b ≤ 16 := h16
  refine wss_cons (ws_set 2 w2_f_read_figures (we_call Nu hr g_number_in_f_read_figures pass0 (wa_cons (we_var 0 r0_f_read_figures rfl (wa_cons (we_var 1 r1_f_read_figures rfl (wa_nil (ck_rd Sub.rfl Sub.rfl nb ?_))))))))
  refine wss_cons (ws_if (wt_bool (wp_or (wt_cmp op_isN (nomark _) (we_var 2 r2_f_read_figures rfl (we_non (opw_of (opv_isN isN_i) ⟨false, Sub.rfl, fun _ => ?t1, fun h => (by cases h)⟩)))))))
  refine wp_or1 (wt_cmp (op_neD hr.units) (nomark _) (we_call Fi hr g_figures_f_read_figures pass0 (wa_cons (we_var 2 r2_f_read_figures rfl (wa_cons (we_var 1 r1_f_read_figures rfl (wa_nil (ck_fig Sub.rfl Sub.rfl nb ?_))))))))
  refine we_var 0 r0_f_read_figures rfl (opw_of (opv_ne isD_s isD_s (shaped_so (fig_ok hb h16)) (shaped_so (s := figS b i) (fig_ok hb h16))) ⟨_, Sub.rfl, fun h => ?bad, fun _ => wss_nil ?_⟩)
  case bad =>
    have h : (!PyData.eqv (.str (figS b i)) (.str (figS b i))) = true := h
    rw [eqv_sr] at h
    cases h
  exact wss_one (ws_ret (we_var 2 r2_f_read_figures rfl ⟨(), [], trivial, Sub.rfl, .nil⟩))
theorem ok_L_text {f : Addr} {fd : FuncData} (F : FdD K "_law_text" "_law_text" s_f_L_text [] f fd) (B : BltG mg) : FnOk P w K mg base CX0 1 f fd (N_f_L_text.take 2) (conSp con_fig) := by
  refine fn_conD con_fig F sc_f_L_text (fun _ => rfl) fun cd A outer s H EE G i hp hr hE => ?_
  obtain ⟨b, i⟩ := i
  obtain ⟨hb, h16, hz⟩ := hp
  have hb : 2 ≤ b := hb
  have h16 : b ≤ 16 := h16
  have hz : i.natAbs < 2 ^ 70 := hz
  have lb : (b : Int).natAbs.log2 < 9000 := by
    rw [Int.natAbs_natCast]
    exact Nat.lt_of_le_of_lt (Nat.log2_le_self b) (by omega)
  have bp : (0 : Int) < (b : Int) := by omega
  have len := dg_len hb hz
  refine wss_cons (ws_set 2 w2_f_L_text (we_callB call_abs g_abs_f_L_text B.abs (by decide +kernel) (wa_cons (we_var 0 r0_f_L_text rfl (wa_nil (caw_of cav_abs ?_))))))
  refine wss_cons (ws_set 3 w3_f_L_text (we_str ?_))
  have one : ∀ n : Nat, OpV (rIx K) (RS ("0123456789abcdef" : Str)) (RI ((n : Int) % (b : Int))) (RS (TX [sgn (n % b)])) := fun n => by
    have e : (n : Int) % (b : Int) = ((n % b : Nat) : Int) := by rw [Int.natCast_emod]
    rw [e]
    have := Nat.mod_lt n (show 0 < b by omega)
    exact opv_ix_s fig_small (fig_at _ (by omega))
  refine wss_cons (ws_while PassesOwn.never (fun k Γ M => ∃ (n : Nat) (l : List Nat), k = n + (if l = [] then 1 else 0) ∧ Γ = [some (RI i), some (RI (b : Int)), some (RI (n : Int)), some (RS (TX l))] ∧ M = [] ∧ ((l = [] ∧ n = i.natAbs) ∨ (l ≠ [] ∧ dg b i.natAbs = (if n = 0 then [] else dg b n) ++ l)) ∧ ∀ c ∈ l, c < 128) (i.natAbs + 1) ⟨i.natAbs, [], rfl, rfl, rfl, .inl ⟨rfl, rfl⟩, fun _ h => (by cases h)⟩ ?_)
  rintro k Γ M ⟨n, l, hk, rfl, rfl, hl, hc⟩
  have llen : l.length ≤ 71 := by
    rcases hl with ⟨rfl, _⟩ | ⟨_, e⟩
    · show 0 ≤ 71
      omega
    · have := congrArg List.length e
      rw [List.length_append] at this
      omega
  refine wt_bool (wp_mono (Φ := fun b M' => M' = [] ∧ b = decide (0 < n ∨ l = [])) ?cond ?imp)
  case cond =>
    refine wp_or (wt_cmp op_gt (nomark _) (we_var 2 r2_f_L_text rfl (we_int (opw_of opv_gt_i ⟨_, Sub.rfl, fun h => ?zer, fun h => ?posi⟩))))
    case posi =>
      have h : (0 : Int) < (n : Int) := of_decide_eq_true h
      exact ⟨rfl, (decide_eq_true (.inl (by omega))).symm⟩
    case zer =>
      have h : ¬ (0 : Int) < (n : Int) := of_decide_eq_false h
      refine wp_or1 (wt_cmp (op_eqD hr.units) (nomark _) (we_var 3 r3_f_L_text rfl (we_str (opw_of (opv_eq isD_s isD_s (shaped_so (tx_ok hc)) (by decide +kernel)) ⟨_, Sub.rfl, rfl, ?_⟩))))
      rw [eqv_ss', decide_eq_decide, tx_nil]
      constructor
      · exact .inr
      · rintro (h2 | h2)
        · omega
        · exact h2
  case imp =>
    rintro b2 M' ⟨rfl, rfl⟩
    refine ⟨fun h => ?more, fun h => ?out⟩
    case more =>
      have h := of_decide_eq_true h
      have ed : (n : Int) / (b : Int) = ((n / b : Nat) : Int) := by rw [Int.natCast_ediv]
      refine wss_cons (ws_set 3 w3_f_L_text (we_bin op_addU (we_ix ix_seq (we_str (we_bin op_modN (we_var 2 r2_f_L_text rfl (we_var 1 r1_f_L_text rfl (opw_of (opv_mod_i bp) ?_))))))))
      refine opw_of (one n) (we_var 3 r3_f_L_text rfl (opw_of (opv_add_s ?sz) ?_))
      case sz =>
        rw [tx_len, tx_len]
        show 1 + l.length ≤ 100000
        omega
      rw [tx_app]
      refine wss_one (ws_set 2 w2_f_L_text (we_bin op_fdivA (we_var 2 r2_f_L_text rfl (we_var 1 r1_f_L_text rfl (opw_of (opv_div_i bp lb) ?_)))))
      rw [ed]
      have step : (if n = 0 then [] else dg b n) ++ l = (if n / b = 0 then [] else dg b (n / b)) ++ (sgn (n % b) :: l) ∨ l = [] := by
        rcases Nat.eq_zero_or_pos n with e | e
        · right
          rcases h with h | h
          · omega
          · exact h
        · left
          rw [if_neg (by omega)]
          rcases Nat.lt_or_ge n b with q | q
          · rw [dg_lo q, Nat.div_eq_of_lt q, Nat.mod_eq_of_lt q]
            rfl
          · have : 1 ≤ n / b := (Nat.one_le_div_iff (by omega)).mpr q
            rw [if_neg (by omega), dg_hi hb q, List.append_assoc]
            rfl
      have first : l = [] → n = i.natAbs := by
        intro e
        rcases hl with ⟨_, h2⟩ | ⟨h2, _⟩
        · exact h2
        · exact absurd e h2
      refine ⟨n / b, ?_, n / b, sgn (n % b) :: l, by simp, rfl, rfl, .inr ⟨by simp, ?_⟩, fun c hc2 => ?_⟩
      · rcases Nat.eq_zero_or_pos n with e | e
        · have e2 : l = [] := by
            rcases h with h | h
            · omega
            · exact h
          rw [hk, if_pos e2, e, Nat.zero_div]
          omega
        · have := Nat.div_lt_self e (show 1 < b by omega)
          omega
      · rcases hl with ⟨e1, e2⟩ | ⟨e1, e2⟩
        · subst e1 e2
          rcases Nat.lt_or_ge i.natAbs b with q | q
          · rw [dg_lo q, Nat.div_eq_of_lt q, Nat.mod_eq_of_lt q]
            rfl
          · have : 1 ≤ i.natAbs / b := (Nat.one_le_div_iff (by omega)).mpr q
            rw [if_neg (by omega), dg_hi hb q]
        · rw [e2]
          rcases step with s1 | s1
          · exact s1
          · exact absurd s1 e1
      · rcases List.mem_cons.mp hc2 with e | e
        · rw [e]
          have := (sgn_in (n % b) (by have := Nat.mod_lt n (show 0 < b by omega); omega)).1
          omega
        · exact hc c e
    case out =>
      have h : ¬ (0 < n ∨ l = []) := of_decide_eq_false h
      have n0 : n = 0 := by
        rcases Nat.eq_zero_or_pos n with e | e
        · exact e
        · exact absurd (.inl e) h
      have l0 : l ≠ [] := fun e => h (.inr e)
      have el : dg b i.natAbs = l := by
        rcases hl with ⟨e1, _⟩ | ⟨_, e2⟩
        · exact absurd e1 l0
        · rw [e2, if_pos n0]
          rfl
      refine wss_one (ws_ret (we_bin op_addU (we_bin op_mulU (we_str (we_callTy call_int1 g_int_f_L_text B.int (by decide +kernel) (wa_cons (we_cmp op_lt (nomark _) (we_var 0 r0_f_L_text rfl (we_int (opw_of opv_lt_i (wa_nil (caw_of cav_int_b (opw_of opv_repS ?_)))))))))))))
      refine we_var 3 r3_f_L_text rfl (opw_of (opv_add_s ?sz2) ⟨(), [], trivial, ?_, .nil⟩)
      case sz2 =>
        rw [tx_len]
        have : (if decide (i < 0) = true then ("-" : Str) else Str.empty).length ≤ 1 := by split <;> decide +kernel
        omega
      show Sub (RS ((if decide (i < 0) = true then ("-" : Str) else Str.empty) ++ TX l)) (RS (TX (figL b i)))
      unfold figL
      rw [el]
      by_cases hi : i < 0
      · rw [decide_eq_true hi, if_pos rfl, if_pos hi, tx_dash, tx_app]
        exact Sub.rfl
      · rw [decide_eq_false hi, if_neg (by decide), if_neg hi, Str.empty_append]
        exact Sub.rfl
end
end MM

namespace MM
open PySem L2 PyProof.Rows
theorem gr_D (idx : List Nat) (dvs : List V) {n m : Nat} : GvR (fun vs zs => gvP idx (vs ++ dvs) zs) (fun ρs ρz => gvP idx (ρs ++ dvs.map RV) ρz) n m := ⟨fun _ _ r1 r2 => reps_perm ((r1.app (reps_RV dvs)).app r2) idx⟩
theorem shaped_2s {s : Str} (h : PyData.strOk s = true) : SeqAt.shaped (.list [.str s, .str s]) = true := by
  simp [SeqAt.shaped, PyData.canLay0, PyData.canLayAll0, PyData.depth, PyData.depthAll, h]
theorem eqv_2s {s : Str} : PyData.eqv (.list [.str s, .str s]) (.list [.str s, .str s]) = true := by
  simp [PyData.eqv, PyData.eqvAll]
theorem eqv_2i {i : Int} : PyData.eqv (.list [.int i, .int i]) (.list [.int i, .int i]) = true := by
  simp [PyData.eqv, PyData.eqvAll]
theorem eqv_r {i : Int} : PyData.eqv (.int i) (.int i) = true := by simp [PyData.eqv]
def con_L_whole : Con := { I := Int, B := Unit, pre := fun _ => True, args := fun i => [RI i], own := fun _ => [], post := fun _ _ => True, res := fun _ _ => RB true, own' := fun _ _ => [] }
theorem ck_L_whole {ρ : Rep} {M : Ow} {Φ : Rep → Ow → Prop} {i : Int} (h : Sub ρ (RI i)) (k : Φ (RB true) M) : CallK con_L_whole [ρ] M Φ :=
  ⟨i, M, trivial, .cons h .nil, .nil, fun _ _ => k⟩
def con_L_number : Con := { I := Addr × Nat × Nat, B := Int, pre := fun i => i.2.1 ≤ 1000 ∧ 2 ≤ i.2.2 ∧ i.2.2 ≤ 16, args := fun i => [RRef i.1, RI (i.2.2 : Int)], own := fun i => [(i.1, ODr i.2.1)], post := fun _ x => Bd 70 x, res := fun _ x => RI x, own' := fun i _ => [(i.1, ODr (i.2.1 + 3))] }
theorem ck_L_number {ρ1 ρ2 : Rep} {M M1 : Ow} {Φ : Rep → Ow → Prop} {p : Addr} {n b : Nat} (h1 : Sub ρ1 (RRef p)) (h2 : Sub ρ2 (RI (b : Int))) (rm : Rm M p (ODr n) M1) (hn : n ≤ 1000) (hb : 2 ≤ b) (h16 : b ≤ 16) (k : ∀ x, Bd 70 x → Φ (RI x) ((p, ODr (n + 3)) :: M1)) : CallK con_L_number [ρ1, ρ2] M Φ :=
  ⟨(p, n, b), M1, ⟨hn, hb, h16⟩, .cons h1 (.cons h2 .nil), .cons rm OSub.rfl .nil, fun x hx => k x hx⟩
def con_L_rt : Con := { I := Addr, B := Unit, pre := fun _ => True, args := fun p => [RRef p], own := fun p => [(p, ODr 0)], post := fun _ _ => True, res := fun _ _ => RB true, own' := fun _ _ => [] }
theorem ck_L_rt {ρ : Rep} {M M1 : Ow} {Φ : Rep → Ow → Prop} {p : Addr} (h : Sub ρ (RRef p)) (rm : Rm M p (ODr 0) M1) (k : Φ (RB true) M1) : CallK con_L_rt [ρ] M Φ :=
  ⟨p, M1, trivial, .cons h .nil, .cons rm OSub.rfl .nil, fun _ _ => k⟩
structure FigK (P : Program) (w : World) (K : PySem.W.Frag) (mg : Str → Option Value) (base : Heap) : Prop where
  f2 : Kn P w K mg base 1 "figures" [] con_fig
  f1 : Kn P w K mg base 1 "figures" [.int 10] con_fig
  fk : KnK P w K mg base 1 "figures" 0 ["base", "number"] (gvP [1, 0]) con_fig
  fn : KnK P w K mg base 1 "figures" 0 ["number"] (fun vs zs => gvP [1, 0] (vs ++ [.int 10]) zs) con_fig
  r2 : Kn P w K mg base 2 "read_figures" [] con_rd
  r1 : Kn P w K mg base 2 "read_figures" [.int 10] con_rd
  rk : KnK P w K mg base 2 "read_figures" 0 ["base", "text"] (gvP [1, 0]) con_rd
section
variable {P : Program} {w : World} {K : PySem.W.Frag} {mg : Str → Option Value} {base : Heap}
theorem ok_L_whole {f : Addr} {fd : FuncData} (F : FdD K "_law_whole" "_law_whole" s_f_L_whole [] f fd) (B : BltG mg) : FnOk P w K mg base CX0 1 f fd (N_f_L_whole.take 1) (conSp con_L_whole) := by
  refine fn_conD con_L_whole F sc_f_L_whole (fun _ => rfl) fun cd A outer s H EE G (i : Int) hp hr hE => ?_
  refine wss_one (ws_ret (we_and (we_isiB (t := "int") (c := "int") (b := true) g_isinstance_f_L_whole g_int_f_L_whole B.isi B.int (by decide +kernel) (by decide +kernel) (we_var 0 r0_f_L_whole rfl ⟨tyIs_i, ?_⟩))))
  refine ⟨true, Sub.rfl, fun _ => ?_, fun h => (by cases h)⟩
  exact we_and1 (we_not (we_isiB (t := "int") (c := "bool") (b := false) g_isinstance_f_L_whole g_bool_f_L_whole B.isi B.bool (by decide +kernel) (by decide +kernel) (we_var 0 r0_f_L_whole rfl ⟨tyIs_i, ⟨false, Sub.rfl, (), [], trivial, Sub.rfl, .nil⟩⟩)))
theorem ok_L_number {f : Addr} {fd : FuncData} (F : FdD K "_law_number" "_law_number" s_f_L_number [] f fd) (B : BltG mg) (Nx : Kn P w K mg base 1 "_law_next" [] con_L_next) : FnOk P w K mg base CX0 2 f fd (N_f_L_number.take 2) (conSp con_L_number) := by
  refine fn_conD con_L_number F sc_f_L_number (fun _ => rfl) fun cd A outer s H EE G i hp hr hE => ?_
  obtain ⟨p, m, b⟩ := i
  obtain ⟨hm, hb, h16⟩ := hp
  have hm : m ≤ 1000 := hm
  have hb : 2 ≤ b := hb
  have h16 : b ≤ 16 := h16
  have lb : (b : Int).natAbs.log2 < 9000 := by
    rw [Int.natAbs_natCast]
    exact Nat.lt_of_le_of_lt (Nat.log2_le_self b) (by omega)
  have zb : Bd 5 (b : Int) := by
    show ((b : Int)).natAbs < 2 ^ 5
    omega
  refine wss_cons (ws_set 2 w2_f_L_number (we_call Nx hr g__law_next_f_L_number pass0 (wa_cons (we_var 0 r0_f_L_number rfl (wa_nil (ck_L_next Sub.rfl .here (by omega) fun x hx => ?_))))))
  obtain ⟨x0, x1⟩ := hx
  refine wss_cons (ws_set 3 w3_f_L_number (we_bin op_addU (we_bin op_mulU (we_call Nx hr g__law_next_f_L_number pass0 (wa_cons (we_var 0 r0_f_L_number rfl (wa_nil (ck_L_next Sub.rfl .here (by omega) fun u hu => ?num))))))))
  obtain ⟨u0, u1⟩ := hu
  have zu : Bd 40 u := by
    show u.natAbs < 2 ^ 40
    omega
  have z12 : Bd 40 (1000000000000 : Int) := by
    show (1000000000000 : Int).natAbs < 2 ^ 40
    decide
  have z4 : Bd 40 (10000 : Int) := by
    show (10000 : Int).natAbs < 2 ^ 40
    decide
  refine we_bin op_pow (we_int (we_int (opw_of (opv_powL (v := 1000000000000) (by decide) (by decide) (by decide) (by decide)) (opw_of (opv_mul_i (mulOk zu z12 (by decide))) ?_))))
  refine we_bin op_mulU (we_call Nx hr g__law_next_f_L_number pass0 (wa_cons (we_var 0 r0_f_L_number rfl (wa_nil (ck_L_next Sub.rfl .here (by omega) fun v hv => ?_)))))
  obtain ⟨v0, v1⟩ := hv
  have zv : Bd 40 v := by
    show v.natAbs < 2 ^ 40
    omega
  refine we_bin op_pow (we_int (we_int (opw_of (opv_powL (v := 10000) (by decide) (by decide) (by decide) (by decide)) (opw_of (opv_mul_i (mulOk zv z4 (by decide))) (opw_of opv_add_i ?_)))))
  generalize u * 1000000000000 + v * 10000 = N
  refine wss_cons (ws_set 4 w4_f_L_number (we_int ?_))
  have k0 : 0 ≤ x / 8 % 20 := by omega
  have k1 : x / 8 % 20 < 20 := by omega
  refine wss_cons (ws_for_range1 PassesOwn.never rfl g_range_f_L_number B.rng (wa_cons (we_bin op_modN (we_bin op_fdivA (we_var 2 r2_f_L_number rfl (we_int (opw_of (opv_div_i (by decide) (by decide)) (we_int (opw_of (opv_mod_i (by decide)) (wa_nil ⟨x / 8 % 20, .cons Sub.rfl .nil, by omega, ?loop⟩))))))))))
  refine ⟨fun t Γ M => ∃ (po : Int) (o5 : Option Rep), 1 ≤ po ∧ Bd (5 * t + 1) po ∧ Γ = [some (RRef p), some (RI (b : Int)), some (RI x), some (RI N), some (RI po), o5, none] ∧ M = [(p, ODr (m + 3))], ⟨1, none, by decide, bd_one (by decide), rfl, rfl⟩, ?turn, ?done⟩
  case turn =>
    rintro t ρ Γ M ht rfl ⟨po, o5, p1, zp, rfl, rfl⟩
    have ht : t < 20 := by omega
    refine wg_name 5 w5_f_L_number ?_
    refine wss_one (ws_set 4 w4_f_L_number (we_bin op_mulU (we_var 4 r4_f_L_number rfl (we_var 1 r1_f_L_number rfl (opw_of (opv_mul_i (mulOk zp zb (by omega))) ⟨po * (b : Int), _, ?_, (bd_mul zp zb).mono (by omega), rfl, rfl⟩)))))
    have : 1 * 1 ≤ po * (b : Int) := Int.mul_le_mul p1 (by omega) (by omega) (by omega)
    omega
  case done =>
    rintro Γ M ⟨po, o5, p1, zp, rfl, rfl⟩
    refine wss_cons (ws_while PassesOwn.never (fun k Γ M => ∃ po : Int, k = po.toNat ∧ 1 ≤ po ∧ Γ = [some (RRef p), some (RI (b : Int)), some (RI x), some (RI N), some (RI po), o5, none] ∧ M = [(p, ODr (m + 3))]) po.toNat ⟨po, rfl, p1, rfl, rfl⟩ ?_)
    rintro k Γ M ⟨po, hk, p1, rfl, rfl⟩
    refine wt_cmp op_ge (nomark _) (we_var 4 r4_f_L_number rfl (we_bin op_sub (we_bin op_pow (we_int (we_int (opw_of (opv_powL (v := 100000000000000000000) (by decide) (by decide) (by decide) (by decide)) (we_int (opw_of opv_sub_i ?cmp))))))))
    refine opw_of opv_ge_i ⟨_, Sub.rfl, fun h => ?more, fun h => ?out⟩
    case more =>
      have h : (100000000000000000000 - 2 : Int) ≤ po := of_decide_eq_true h
      have d1 : po / (b : Int) < po := Int.ediv_lt_of_lt_mul (by omega) (by
        have : po * 2 ≤ po * (b : Int) := Int.mul_le_mul_of_nonneg_left (by omega) (by omega)
        omega)
      have d2 : 1 ≤ po / (b : Int) := by
        rw [Int.le_ediv_iff_mul_le (by omega)]
        omega
      exact wss_one (ws_set 4 w4_f_L_number (we_bin op_fdivA (we_var 4 r4_f_L_number rfl (we_var 1 r1_f_L_number rfl (opw_of (opv_div_i (by omega) lb) ⟨(po / (b : Int)).toNat, by omega, po / (b : Int), rfl, d2, rfl, rfl⟩)))))
    case out =>
      have h : ¬ (100000000000000000000 - 2 : Int) ≤ po := of_decide_eq_false h
      refine wss_cons (ws_set 6 w6_f_L_number (we_lst (wa_cons (we_bin op_modN (we_var 3 r3_f_L_number rfl (we_bin op_pow (we_int (we_int (opw_of (opv_powL (v := 100000000000000000000) (by decide) (by decide) (by decide) (by decide)) (opw_of (opv_mod_i (by decide)) ?l1))))))))))
      refine wa_cons (we_bin op_modN (we_var 2 r2_f_L_number rfl (we_int (opw_of (opv_mod_i (by decide)) ?_))))
      refine wa_cons (we_var 4 r4_f_L_number rfl (wa_cons (we_bin op_sub (we_var 4 r4_f_L_number rfl (we_int (opw_of opv_sub_i ?_))))))
      refine wa_cons (we_bin op_addU (we_var 4 r4_f_L_number rfl (we_int (opw_of opv_add_i (wa_cons (we_int ?_))))))
      refine wa_cons (we_bin op_sub (we_bin op_sub (we_bin op_pow (we_int (we_int (opw_of (opv_powL (v := 100000000000000000000) (by decide) (by decide) (by decide) (by decide)) (we_int (opw_of opv_sub_i (we_var 2 r2_f_L_number rfl (opw_of opv_sub_i ?_))))))))))
      refine wa_cons (we_var 1 r1_f_L_number rfl (wa_nil ⟨by show 8 ≤ 100000; decide, ?_⟩))
      have n0 := Int.emod_nonneg N (show (100000000000000000000 : Int) ≠ 0 by decide)
      have n1 := Int.emod_lt_of_pos N (show (0 : Int) < 100000000000000000000 by decide)
      refine wss_one (ws_ret (we_bin op_mulU (we_ix ix_seq (we_var 6 r6_f_L_number rfl (we_bin op_modN (we_bin op_fdivA (we_var 2 r2_f_L_number rfl (we_int (opw_of (opv_div_i (by decide) (by decide)) (we_int (opw_of (opv_mod_i (by decide)) ?_)))))))))))
      refine opw_pickI (fun z => -100000000000000000000 ≤ z ∧ z ≤ 200000000000000000000) (by omega) (by show x / 512 % 8 < 8; omega) (.cons (by omega) (.cons (by omega) (.cons (by omega) (.cons (by omega) (.cons (by omega) (.cons (by omega) (.cons (by omega) (.cons (by omega) .nil)))))))) fun z hz => ?_
      have zz : Bd 68 z := by
        show z.natAbs < 2 ^ 68
        omega
      refine we_ix ix_seq (we_lst (wa_cons (we_int (wa_cons (we_bin op_sub (we_int (we_int (opw_of opv_sub_i (wa_nil ⟨by show 2 ≤ 100000; decide, ?_⟩)))))))))
      refine we_bin op_modN (we_var 2 r2_f_L_number rfl (we_int (opw_of (opv_mod_i (by decide)) ?_)))
      refine opw_pickI (fun y => y = 1 ∨ y = -1) (by omega) (by show x % 2 < 2; omega) (.cons (by omega) (.cons (by omega) .nil)) fun y hy => ?_
      have zy : Bd 1 y := by
        show y.natAbs < 2 ^ 1
        omega
      exact opw_of (opv_mul_i (mulOk zz zy (by decide))) ⟨z * y, [], (bd_mul zz zy).mono (by decide), Sub.rfl, .cons .here OSub.rfl .nil⟩
theorem ok_L_right {f : Addr} {fd : FuncData} (F : FdD K "_law_right" "_law_right" s_f_L_right [] f fd) (B : BltG mg) (Nx : Kn P w K mg base 1 "_law_next" [] con_L_next) (Nu : Kn P w K mg base 2 "_law_number" [] con_L_number) (Tx : Kn P w K mg base 1 "_law_text" [] con_fig) (Wh : Kn P w K mg base 1 "_law_whole" [] con_L_whole) (Fg : FigK P w K mg base) : FnOk P w K mg base CX0 3 f fd (N_f_L_right.take 1) (conSp con_L_rt) := by
  refine fn_conD con_L_rt F sc_f_L_right (fun _ => rfl) fun cd A outer s H EE G (p : Addr) hp hr hE => ?_
  have hr1 := hr.mono (show 1 ≤ 2 by decide)
  refine wss_cons (ws_set 1 w1_f_L_right (we_bin op_addU (we_int (we_bin op_modN (we_call Nx hr1 g__law_next_f_L_right pass0 (wa_cons (we_var 0 r0_f_L_right rfl (wa_nil (ck_L_next Sub.rfl .here (by decide) fun x hx => ?_)))))))))
  refine we_int (opw_of (opv_mod_i (by decide)) (opw_of opv_add_i ?_))
  have m0 := Int.emod_nonneg x (show (15 : Int) ≠ 0 by decide)
  have m1 := Int.emod_lt_of_pos x (show (0 : Int) < 15 by decide)
  obtain ⟨b, hbe⟩ := Int.eq_ofNat_of_zero_le (show 0 ≤ 2 + x % 15 by omega)
  rw [hbe]
  have hb : 2 ≤ b := by omega
  have h16 : b ≤ 16 := by omega
  refine wss_cut (fun _ _ => True) (ws_for_range1 PassesOwn.never rfl g_range_f_L_right B.rng (wa_cons (we_int (wa_nil ⟨8, .cons Sub.rfl .nil, by decide, ?loop⟩)))) ?rest
  case rest =>
    rintro Γ M -
    exact wss_one (ws_ret (we_bl ⟨(), _, trivial, Sub.rfl, .nil⟩))
  refine ⟨fun t Γ M => ∃ (k : Nat) (o2 o3 o4 o5 o6 o7 : Option Rep), k ≤ 10 + 3 * t ∧ Γ = [some (RRef p), some (RI (b : Int)), o2, o3, o4, o5, o6, o7] ∧ M = [(p, ODr k)], ⟨_, none, none, none, none, none, none, by decide, rfl, rfl⟩, ?turn, fun _ _ _ => trivial⟩
  rintro t ρ Γ M ht rfl ⟨k, o2, o3, o4, o5, o6, o7, hk, rfl, rfl⟩
  have ht : t < 8 := ht
  refine wg_name 2 w2_f_L_right ?_
  refine wss_cons (ws_set 3 w3_f_L_right (we_call Nu hr g__law_number_f_L_right pass0 (wa_cons (we_var 0 r0_f_L_right rfl (wa_cons (we_var 1 r1_f_L_right rfl (wa_nil (ck_L_number Sub.rfl Sub.rfl .here (by omega) hb h16 fun i zi => ?_))))))))
  have nb : NB (b, i) := ⟨hb, h16, zi⟩
  have n10 : NB (10, i) := ⟨by show 2 ≤ 10; decide, by show 10 ≤ 16; decide, zi⟩
  refine wss_cons (ws_set 4 w4_f_L_right (we_call Tx hr1 g__law_text_f_L_right pass0 (wa_cons (we_var 3 r3_f_L_right rfl (wa_cons (we_var 1 r1_f_L_right rfl (wa_nil (ck_fig Sub.rfl Sub.rfl nb ?_))))))))
  refine wss_cons (ws_set 5 w5_f_L_right (we_lst (wa_cons (we_call Fg.f2 hr1 g_figures_f_L_right pass0 (wa_cons (we_var 3 r3_f_L_right rfl (wa_cons (we_var 1 r1_f_L_right rfl (wa_nil (ck_fig Sub.rfl Sub.rfl nb ?told))))))))))
  refine wa_cons (we_callN0 (gR := gvP [1, 0]) Fg.fk (gr_P _) hr1 g_figures_f_L_right pass0 (wk_cons (we_var 1 r1_f_L_right rfl (wk_cons (we_var 3 r3_f_L_right rfl (wk_nil ⟨rfl, ck_fig Sub.rfl Sub.rfl nb (wa_nil ⟨by show 2 ≤ 100000; decide, ?_⟩)⟩))))))
  have sh := fig_ok (i := i) hb h16
  have sh10 := fig_ok (b := 10) (i := i) (by decide) (by decide)
  refine wss_cons (ws_if (wt_bool (wp_or (wt_cmp (op_neD hr.units) (nomark _) (we_var 5 r5_f_L_right rfl (we_lst (wa_cons (we_var 4 r4_f_L_right rfl (wa_cons (we_var 4 r4_f_L_right rfl (wa_nil ⟨by show 2 ≤ 100000; decide, ?c1⟩)))))))))) )
  refine opw_of (opv_ne (d := .list [.str (figS b i), .str (figS b i)]) (e := .list [.str (figS b i), .str (figS b i)]) (isD_lt (isDs_cons isD_s (isDs_cons isD_s isDs_nil))) (isD_lt (isDs_cons isD_s (isDs_cons isD_s isDs_nil))) (shaped_2s sh) (shaped_2s sh)) ⟨_, Sub.rfl, fun _ => ?t1, fun h => ?bad1⟩
  case bad1 =>
    rw [eqv_2s] at h
    cases h
  refine wp_or1 (wt_not (wt_val (we_isiB (t := "str") (c := "str") (b := true) g_isinstance_f_L_right g_str_f_L_right B.isi B.str (by decide +kernel) (by decide +kernel) (we_ix ix_seq (we_var 5 r5_f_L_right rfl (we_int (opw_of (opv_ix_l sub_lt rfl) ⟨tyIs_s, true, Sub.rfl, fun h => (by cases h), fun _ => wss_nil ?_⟩)))))))
  -- read back
  refine wss_cons (ws_set 6 w6_f_L_right (we_lst (wa_cons (we_call Fg.r2 hr g_read_figures_f_L_right pass0 (wa_cons (we_var 4 r4_f_L_right rfl (wa_cons (we_var 1 r1_f_L_right rfl (wa_nil (ck_rd Sub.rfl Sub.rfl nb ?back))))))))))
  refine wa_cons (we_callN0 (gR := gvP [1, 0]) Fg.rk (gr_P _) hr g_read_figures_f_L_right pass0 (wk_cons (we_var 1 r1_f_L_right rfl (wk_cons (we_var 4 r4_f_L_right rfl (wk_nil ⟨rfl, ck_rd (b := b) (i := i) Sub.rfl Sub.rfl nb (wa_nil ⟨by show 2 ≤ 100000; decide, ?_⟩)⟩))))))
  refine wss_cons (ws_if (wt_bool (wp_or (wt_cmp (op_neD hr.units) (nomark _) (we_var 6 r6_f_L_right rfl (we_lst (wa_cons (we_var 3 r3_f_L_right rfl (wa_cons (we_var 3 r3_f_L_right rfl (wa_nil ⟨by show 2 ≤ 100000; decide, ?c2⟩)))))))))))
  refine opw_of (opv_ne (d := .list [.int i, .int i]) (e := .list [.int i, .int i]) (isD_lt (isDs_cons isD_i (isDs_cons isD_i isDs_nil))) (isD_lt (isDs_cons isD_i (isDs_cons isD_i isDs_nil))) rfl rfl) ⟨_, Sub.rfl, fun _ => ?t2, fun h => ?bad2⟩
  case bad2 =>
    rw [eqv_2i] at h
    cases h
  refine wp_or1 (wt_not (wt_val (we_call Wh hr1 g__law_whole_f_L_right pass0 (wa_cons (we_ix ix_seq (we_var 6 r6_f_L_right rfl (we_int (opw_of (opv_ix_l sub_lt rfl) (wa_nil (ck_L_whole Sub.rfl ⟨true, Sub.rfl, fun h => (by cases h), fun _ => wss_nil ?_⟩))))))))) )
  -- by ten
  refine wss_cons (ws_set 7 w7_f_L_right (we_call Tx hr1 g__law_text_f_L_right pass0 (wa_cons (we_var 3 r3_f_L_right rfl (wa_cons (we_int (wa_nil (ck_fig (b := 10) Sub.rfl Sub.rfl n10 ?_))))))))
  refine wss_one (ws_if (wt_bool (wp_or (wt_cmp (op_neD hr.units) (nomark _) (we_call Fg.f1 hr1 g_figures_f_L_right pass0 (wa_cons (we_var 3 r3_f_L_right rfl (wa_nil (ck_fig (b := 10) Sub.rfl Sub.rfl n10 ?p1)))))))))
  refine we_var 7 r7_f_L_right rfl (opw_of (opv_ne isD_s isD_s (shaped_so sh10) (shaped_so (s := figS 10 i) sh10)) ⟨_, Sub.rfl, fun _ => ?t3, fun h => ?bad3⟩)
  case bad3 =>
    have h : (!PyData.eqv (.str (figS 10 i)) (.str (figS 10 i))) = true := h
    rw [eqv_sr] at h
    cases h
  refine wp_or (wt_cmp (op_neD hr.units) (nomark _) (we_callN0 (gR := fun ρs ρz => gvP [1, 0] (ρs ++ [RV (.int 10)]) ρz) Fg.fn (gr_D _ _) hr1 g_figures_f_L_right pass0 (wk_cons (we_var 3 r3_f_L_right rfl (wk_nil ⟨rfl, ck_fig (b := 10) (i := i) Sub.rfl Sub.rfl n10 ?_⟩)))))
  refine we_var 7 r7_f_L_right rfl (opw_of (opv_ne isD_s isD_s (shaped_so sh10) (shaped_so (s := figS 10 i) sh10)) ⟨_, Sub.rfl, fun _ => ?t4, fun h => ?bad4⟩)
  case bad4 =>
    have h : (!PyData.eqv (.str (figS 10 i)) (.str (figS 10 i))) = true := h
    rw [eqv_sr] at h
    cases h
  refine wp_or1 (wt_cmp (op_neD hr.units) (nomark _) (we_call Fg.r1 hr g_read_figures_f_L_right pass0 (wa_cons (we_var 7 r7_f_L_right rfl (wa_nil (ck_rd (b := 10) (i := i) Sub.rfl Sub.rfl n10 ?_))))))
  refine we_var 3 r3_f_L_right rfl (opw_of (opv_ne isD_i isD_i shaped_i shaped_i) ⟨_, Sub.rfl, fun h => ?bad5, fun _ => wss_nil ⟨_, _, _, _, _, _, _, ?kk, rfl, rfl⟩⟩)
  case bad5 =>
    rw [eqv_r] at h
    cases h
  case kk => omega
theorem ok_LAW {f : Addr} {fd : FuncData} (F : FdD K "law" "law" s_f_LAW [] f fd) (L : LawB P w K mg base) (Rg : Kn P w K mg base 3 "_law_right" [] con_L_rt) : FnOk P w K mg base CX0 4 f fd ["_law_script"] (conSp (con_law K)) := by
  refine fn_conD (con_law K) F sc_f_LAW (fun _ => rfl) fun cd A outer s H EE G (ns : List Int) hp hr hE => ?_
  have hp : ns.length ≤ 63 := hp
  have hr1 := hr.mono (show 1 ≤ 3 by decide)
  refine wss_cut (fun _ _ => True) (ws_for_list PassesOwn.never rfl (we_bin op_addU (we_slL (we_var 0 r0_f_LAW rfl ⟨_, Sub.rfl, wo_none (wo_some (we_int ⟨6, Sub.rfl, we_lst (wa_cons (we_int (wa_nil ⟨by show 1 ≤ 100000; decide, ?add⟩)))⟩))⟩)))) ?rest
  case rest =>
    rintro Γ M -
    exact wss_one (ws_ret (we_bl ⟨(), _, trivial, Sub.rfl, .nil⟩))
  case add =>
    refine opw_of (opv_add_l ?len) ⟨_, sub_lt, fun _ Γ _ => ∃ o1, Γ = [some (RL K (ns.map RI)), o1], ⟨none, rfl⟩, ?turn, fun _ _ _ => trivial⟩
    case len =>
      have h1 := cutL_len (l := ns.map RI) (lo := none) (hi := some 6)
      rw [List.length_map] at h1
      show (cutL (ns.map RI) none (some 6)).length + 1 ≤ 100000
      omega
    case turn =>
      rintro i ρ Γ M hi' hρ ⟨o1, rfl⟩
      obtain ⟨cell, rfl⟩ := cells_of hρ
      refine wg_name 1 w1_f_LAW ?_
      refine wss_one (ws_if (wt_not (wt_val (we_call Rg hr g__law_right_f_LAW pass0 (wa_cons (we_call L.draws hr1 g__law_draws_f_LAW pass0 ?dr))))))
      refine wa_cons (we_var 1 r1_f_LAW rfl (wa_nil (ck_L_draws Sub.rfl fun q => wa_nil (ck_L_rt Sub.rfl .here ⟨true, Sub.rfl, fun hk => absurd hk (by decide), fun _ => wss_nil ⟨_, rfl⟩⟩))))
end
end MM

namespace MM
open PySem L2 PyProof.Rows
structure TopBl (K : PySem.W.Frag) : Prop where
  zA : PySem.W.nsIn K mainGlobals "abs" = some none
  zN : PySem.W.nsIn K mainGlobals "int" = some none
  zI : PySem.W.nsIn K mainGlobals "isinstance" = some none
  zB : PySem.W.nsIn K mainGlobals "bool" = some none
  zS : PySem.W.nsIn K mainGlobals "str" = some none
  fig : ∃ z tk, PySem.W.nsIn K mainGlobals "FIGURES" = some (some (.str z tk)) ∧ z = FIG
structure TopL (K : PySem.W.Frag) : Prop where
  figures : DefE K "figures" s_f_figures [.int 10]
  number_in : DefE K "number_in" s_f_number_in []
  read : DefE K "read_figures" s_f_read_figures [.int 10]
  whole : DefE K "_law_whole" s_f_L_whole []
  text : DefE K "_law_text" s_f_L_text []
  number : DefE K "_law_number" s_f_L_number []
  right : DefE K "_law_right" s_f_L_right []
  law : DefE K "law" s_f_LAW []
theorem figE_mk {K : PySem.W.Frag} {n z : Str} {tk : Tok} (h : PySem.W.nsIn K mainGlobals n = some (some (.str z tk))) (e : z = FIG) : ∃ z tk, PySem.W.nsIn K mainGlobals n = some (some (.str z tk)) ∧ z = FIG := ⟨z, tk, h, e⟩
section
variable {P : Program} {w : World} {K : PySem.W.Frag} {mg : Str → Option Value} {base h : Heap} 
theorem all_mk {l : PySem.W.OpenLaw} {fa : Addr} (X : K.In h) (G : h.Ns mainGlobals mg) (hfa : mg "law" = some (.ref fa)) (Bl : TopBl K) (D : TopB K) (L : TopL K) :
    ∃ fd : FuncData, (∀ (s : Shared) (v : Value), BindsTo s fd ⟨[v], []⟩ [("_law_script", v)]) ∧ ∀ base : Heap, K.In base → base.Ns mainGlobals mg → FnOk l.prog w K mg base CX0 4 fa fd ["_law_script"] (conSp (con_law K)) := by
  obtain ⟨f0, d0, a0, F0⟩ := L.law
  have e := hfa.symm.trans (PySem.W.mg_of X G a0)
  cases e
  refine ⟨d0, fun s v => F0.bindsA (ps := ["_law_script"]) (fun _ _ _ _ _ _ us hl => match us, hl with | [_], _ => rfl) s [v] rfl, fun base _ _ => ?_⟩
  have LB : LawB l.prog w K mg base := lawB_of X G D
  obtain ⟨zf, tk, htk, ezf⟩ := Bl.fig
  subst ezf
  have B : BltG mg := ⟨PySem.W.mg_none_of X G Bl.zA, PySem.W.mg_none_of X G Bl.zN, PySem.W.mg_none_of X G Bl.zI, PySem.W.mg_none_of X G Bl.zB, PySem.W.mg_none_of X G Bl.zS, PySem.W.mg_none_of X G D.zR, tk, PySem.W.mg_of X G htk⟩
  obtain ⟨fg, dg, ag, Fg⟩ := L.figures
  obtain ⟨fr, dr, ar, Fr⟩ := L.read
  have Fa : Kn l.prog w K mg base 1 "figures" [] con_fig := knD_of (dvs := [.int 10]) 2 1 X G ag Fg (ok_fig Fg B) (by simp) rfl (fun _ _ _ _ _ _ _ us its l1 l2 => match us, its, l1, l2 with | [_, _], [_], _, _ => ⟨_, rfl, rfl⟩)
  have Fb : Kn l.prog w K mg base 1 "figures" [.int 10] con_fig := knD_of (dvs := [.int 10]) 1 0 X G ag Fg (ok_fig Fg B) (by simp) rfl (fun _ _ _ _ _ _ _ us its l1 l2 => match us, its, l1, l2 with | [_], [_], _, _ => ⟨_, rfl, rfl⟩)
  have fk : KnK l.prog w K mg base 1 "figures" 0 ["base", "number"] (gvP [1, 0]) con_fig := knK_of (dvs := [.int 10]) 0 ["base", "number"] (fun a _ z => gvP [1, 0] a z) X G ag Fg (ok_fig Fg B) (by simp) (fun r1 _ r2 => rel_P [1, 0] r1 r2) (fun _ _ _ _ _ _ _ us its ws l1 l2 l3 => match us, its, ws, l1, l2, l3 with | [], [_], [_, _], _, _, _ => ⟨_, rfl, rfl⟩)
  have fn : KnK l.prog w K mg base 1 "figures" 0 ["number"] (fun vs zs => gvP [1, 0] (vs ++ [.int 10]) zs) con_fig := knK_of (dvs := [.int 10]) 0 ["number"] (fun a d z => gvP [1, 0] (a ++ d) z) X G ag Fg (ok_fig Fg B) (by simp) (fun r1 r2 r3 => rel_P [1, 0] (Vals.append r1 r2) r3) (fun _ _ _ _ _ _ _ us its ws l1 l2 l3 => match us, its, ws, l1, l2, l3 with | [], [_], [_], _, _, _ => ⟨_, rfl, rfl⟩)
  obtain ⟨f1, d1, a1, F1⟩ := L.number_in
  have Nu : Kn l.prog w K mg base 1 "number_in" [] con_rd := kn_of X G a1 F1 (ok_num F1 B) (fun _ _ _ _ _ _ us hl => match us, hl with | [_, _], _ => rfl)
  have r2 : Kn l.prog w K mg base 2 "read_figures" [] con_rd := knD_of (dvs := [.int 10]) 2 1 X G ar Fr (ok_rd Fr Nu Fa) (by simp) rfl (fun _ _ _ _ _ _ _ us its l1 l2 => match us, its, l1, l2 with | [_, _], [_], _, _ => ⟨_, rfl, rfl⟩)
  have r1 : Kn l.prog w K mg base 2 "read_figures" [.int 10] con_rd := knD_of (dvs := [.int 10]) 1 0 X G ar Fr (ok_rd Fr Nu Fa) (by simp) rfl (fun _ _ _ _ _ _ _ us its l1 l2 => match us, its, l1, l2 with | [_], [_], _, _ => ⟨_, rfl, rfl⟩)
  have rk : KnK l.prog w K mg base 2 "read_figures" 0 ["base", "text"] (gvP [1, 0]) con_rd := knK_of (dvs := [.int 10]) 0 ["base", "text"] (fun a _ z => gvP [1, 0] a z) X G ar Fr (ok_rd Fr Nu Fa) (by simp) (fun r1 _ r2 => rel_P [1, 0] r1 r2) (fun _ _ _ _ _ _ _ us its ws l1 l2 l3 => match us, its, ws, l1, l2, l3 with | [], [_], [_, _], _, _, _ => ⟨_, rfl, rfl⟩)
  have FK : FigK l.prog w K mg base := ⟨Fa, Fb, fk, fn, r2, r1, rk⟩
  obtain ⟨f2, d2, a2, F2⟩ := L.whole
  have Wh : Kn l.prog w K mg base 1 "_law_whole" [] con_L_whole := kn_of X G a2 F2 (ok_L_whole F2 B) (fun _ _ _ _ _ _ us hl => match us, hl with | [_], _ => rfl)
  obtain ⟨f3, d3, a3, F3⟩ := L.text
  have Tx : Kn l.prog w K mg base 1 "_law_text" [] con_fig := kn_of X G a3 F3 (ok_L_text F3 B) (fun _ _ _ _ _ _ us hl => match us, hl with | [_, _], _ => rfl)
  obtain ⟨f4, d4, a4, F4⟩ := L.number
  have Nm : Kn l.prog w K mg base 2 "_law_number" [] con_L_number := kn_of X G a4 F4 (ok_L_number F4 B LB.next) (fun _ _ _ _ _ _ us hl => match us, hl with | [_, _], _ => rfl)
  obtain ⟨f5, d5, a5, F5⟩ := L.right
  have Rg : Kn l.prog w K mg base 3 "_law_right" [] con_L_rt := kn_of X G a5 F5 (ok_L_right F5 B LB.next Nm Tx Wh FK) (fun _ _ _ _ _ _ us hl => match us, hl with | [_], _ => rfl)
  exact ok_LAW F0 LB Rg
end
end MM

open PySem PySem.W PyProof.Rows
local macro_rules | `(tactic| walk_at "def") => `(tactic| (refine' MM.defE_mk ?a ?l ?c ?k; (case a => k_is); (case l => k_is); (case c => k_is); (case k => k_is)))
local macro_rules | `(tactic| walk_at "met") => `(tactic| (refine' MM.metE_mk ?a ?i ?l ?c ?k; (case a => k_is); (case i => k_is); (case l => k_is); (case c => k_is); (case k => k_is)))
local macro_rules | `(tactic| walk_at "def1") => `(tactic| (refine' MM.defE_mkT ?a ?l ?c ?k ?lT ?hd ?hv; (case a => k_is); (case l => k_is); (case c => k_is); (case k => k_is); (case lT => k_is); (case hd => simp); (case hv => exact .cons ⟨_, rfl⟩ .nil)))
local macro_rules | `(tactic| walk_at "init1") => `(tactic| (refine' MM.metE_mkT ?a ?i ?l ?c ?k ?lT ?hd ?hv; (case a => k_is); (case i => k_is); (case l => k_is); (case c => k_is); (case k => k_is); (case lT => k_is); (case hd => simp); (case hv => exact .cons ⟨_, rfl⟩ .nil)))
local macro_rules | `(tactic| walk_at "defI") => `(tactic| (refine' MM.defE_mkT ?a ?l ?c ?k ?lT ?hd ?hv; (case a => k_is); (case l => k_is); (case c => k_is); (case k => k_is); (case lT => k_is); (case hd => simp); (case hv => exact .cons rfl .nil)))
local macro_rules | `(tactic| walk_at "initB") => `(tactic| (refine' MM.metE_mkT ?a ?i ?l ?c ?k ?lT ?hd ?hv; (case a => k_is); (case i => k_is); (case l => k_is); (case c => k_is); (case k => k_is); (case lT => k_is); (case hd => simp); (case hv => exact .cons rfl .nil)))
local macro_rules | `(tactic| walk_at "init2") => `(tactic| (refine' MM.metE_mkT ?a ?i ?l ?c ?k ?lT ?hd ?hv; (case a => k_is); (case i => k_is); (case l => k_is); (case c => k_is); (case k => k_is); (case lT => k_is); (case hd => simp); (case hv => exact .cons rfl (.cons rfl .nil))))
local macro_rules | `(tactic| walk_at "cls") => `(tactic| (refine' MM.ClsE.mk ?at_ ?pg ?hd ?po ?sa ?ha ?hn ?htk ?hm ?makes ?kp; (case at_ => k_is); (case pg => k_is); (case hd => k_is); (case po => k_is); (case sa => k_is); (case ha => k_is); (case hn => k_is); (case htk => k_is); (case hm => k_is); (case makes => k_is); (case kp => k_is)))
set_option maxHeartbeats 0 in
theorem PySem.Challenge.cw_meanmoon_k71_figures_holds : PySem.Challenge.rw_meanmoon_k71_figures.Holds := by
  w_on; o_law; k_head; (case hw => w_witness2)
  k_fill
  refine MM.walk_law (k := 4) (l := PySem.Challenge.rw_meanmoon_k71_figures) rfl rfl ⟨rfl, by decide, by decide⟩ (fun w h Y => PySem.W.kIn_of Y) ?F
  case F =>
    intro w mg fa h KX G hmg
    refine' MM.all_mk KX G hmg ?Bl ?D ?L
    case Bl =>
      refine' MM.TopBl.mk ?zA ?zN ?zI ?zB ?zS ?fig
      case zA => k_is
      case zN => k_is
      case zI => k_is
      case zB => k_is
      case zS => k_is
      case fig => refine' MM.figE_mk ?hf ?he; (case hf => k_is); (case he => decide +kernel)
    case D =>
      refine' MM.TopB.mk ?zR ?draws ?next
      case zR => k_is
      case draws => walk_at "def"
      case next => walk_at "def"
    case L =>
      refine' MM.TopL.mk ?figures ?number_in ?read ?whole ?text ?number ?right ?law
      case figures => walk_at "def1"
      case number_in => walk_at "def"
      case read => walk_at "def1"
      case whole => walk_at "def"
      case text => walk_at "def"
      case number => walk_at "def"
      case right => walk_at "def"
      case law => walk_at "def"

