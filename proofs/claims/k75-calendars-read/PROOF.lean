import PyProof.Rows.All
import Wide.All
import OpenK.AllK
import Wide.FinOn
import HandS.ForMost
import HandS.ForExc
import HandS.Wide
import HandS.Defaults
import HandS.IsInst
import HandS.Flow
import HandS.MakeKw
import HandS.MakeKwOnly
import PySem.Challenge.RW_meanmoon_k75_calendars_read
import HandS.OwnEq
import KE.KCallOwn
import KE.KFmtOwn
import HandS.FStr
import PyProof.CallFns
import PyProof.InstNe
import PyProof.Rows.RegStrFacts
import HandS.StrMore
import HandS.Text
import PyProof.FString2
import HandS.IntHex
import HandS.Exc
import HandS.Style
import HandS.More
import HandS.RaiseOp
import PyProof.LongRange
import HandS.Zip
import KE.GoesZip
import KE.GoesMore
import HandS.TryOnly
set_option Elab.async false
set_option linter.all false
set_option maxRecDepth 100000
set_option maxHeartbeats 4000000
namespace MM
open PySem L2

/-! ### representations -/
/-- what a value stands for, over the lasting part of the heap -/
structure Rep where
  p : V → Hp → Prop
  mono : ∀ v G G', Same G G' → p v G → p v G'
/-- what an owned (changeable) object holds -/
structure ORep where
  p : HO → Hp → Prop
  mono : ∀ o G G', Same G G' → p o G → p o G'
abbrev Gm := List (Option Rep)
abbrev Ow := List (Addr × ORep)
structure En where
  G : Hp
  H : Hp
  M : List Addr
structure At (E : En) (Γ : Gm) (M : Ow) (σ : L2.St) (G H : Hp) : Prop where
  len : Γ.length = σ.length
  env : ∀ (i : Nat) (ρ : Rep), Γ[i]? = some (some ρ) → ∃ v, σ[i]? = some (some v) ∧ ρ.p v G
  gh : Same G H
  own : ∀ q ∈ M, ∃ o, H q.1 = some o ∧ q.2.p o G
  gn : ∀ q ∈ M, G q.1 = none
  nd : (M.map (·.1)).Nodup
  g0 : Same E.G G
  keep : ∀ a o, a ∉ E.M → E.H a = some o → H a = some o
  nw : ∀ a, E.H a ≠ none → G a ≠ none → E.G a ≠ none
  loc : ∀ q ∈ M, q.1 ∈ E.M ∨ E.H q.1 = none
  there : ∀ a, E.H a ≠ none → H a ≠ none
/-- a pure step: things are added -/
structure New (G H G' H' : Hp) : Prop where
  gg : Same G G'
  gh : Same G' H'
  hh : Same H H'
  nw : ∀ a, H a ≠ none → G' a ≠ none → G a ≠ none
theorem New.refl {G H : Hp} (s : Same G H) : New G H G H := ⟨Same.refl _, s, Same.refl _, fun _ _ h => h⟩
theorem New.trans {G H G1 H1 G2 H2 : Hp} (a : New G H G1 H1) (b : New G1 H1 G2 H2) : New G H G2 H2 :=
  ⟨a.gg.trans b.gg, b.gh, a.hh.trans b.hh, fun x h1 h2 => a.nw x h1 (b.nw x (by
    cases q : H x with
    | none => exact absurd q h1
    | some o => rw [a.hh x o q]; simp) h2)⟩
theorem same_upd {H : Hp} {p : Addr} {o : HO} (h : H p = none) : Same H (upd H p o) := fun b u e => by
  rw [upd_ne (ne_of_none e h)]; exact e
theorem same_upd2 {G H : Hp} {p : Addr} {o : HO} (s : Same G H) : Same (upd G p o) (upd H p o) := fun b u e => by
  by_cases hb : b = p
  · subst hb; rw [upd_same] at e ⊢; exact e
  · rw [upd_ne hb] at e ⊢; exact s b u e
theorem Same.fr {G H : Hp} {p : Addr} (s : Same G H) (h : H p = none) : G p = none := Same.free s h
/-- a new lasting object -/
theorem New.put {G H : Hp} {p : Addr} {o : HO} (s : Same G H) (h : H p = none) : New G H (upd G p o) (upd H p o) :=
  ⟨same_upd (Same.fr s h), same_upd2 s, same_upd h, fun a ha hg => by
    by_cases e : a = p
    · subst e; exact absurd h ha
    · rw [upd_ne e] at hg; exact hg⟩
/-- a new object that nobody speaks of -/
theorem New.side {G H : Hp} {p : Addr} {o : HO} (s : Same G H) (h : H p = none) : New G H G (upd H p o) :=
  ⟨Same.refl _, s.trans (same_upd h), same_upd h, fun _ _ hg => hg⟩
theorem ne_none {α : Type} {o : Option α} {x : α} (h : o = some x) : o ≠ none := by rw [h]; simp
section
variable {E : En} {Γ Γ' : Gm} {M M' : Ow} {σ : L2.St} {G H G' H' : Hp}
theorem At.new (a : At E Γ M σ G H) (n : New G H G' H') : At E Γ M σ G' H' where
  len := a.len
  env := fun i ρ h => let ⟨v, e, r⟩ := a.env i ρ h; ⟨v, e, ρ.mono _ _ _ n.gg r⟩
  gh := n.gh
  own := fun q hq => let ⟨o, e, r⟩ := a.own q hq; ⟨o, n.hh _ _ e, q.2.mono _ _ _ n.gg r⟩
  gn := fun q hq => by
    obtain ⟨o, e, _⟩ := a.own q hq
    cases z : G' q.1 with
    | none => rfl
    | some u => exact absurd (a.gn q hq) (n.nw q.1 (ne_none e) (ne_none z))
  nd := a.nd
  g0 := a.g0.trans n.gg
  keep := fun x o h1 h2 => n.hh _ _ (a.keep x o h1 h2)
  nw := fun x h1 h2 => a.nw x h1 (n.nw x (a.there x h1) h2)
  loc := a.loc
  there := fun x h => by
    cases z : H x with
    | none => exact absurd z (a.there x h)
    | some o => rw [n.hh _ _ z]; simp
theorem At.fresh (a : At E Γ M σ G H) {p : Addr} (h : H p = none) : E.H p = none := by
  cases z : E.H p with
  | none => rfl
  | some o => exact absurd h (a.there p (ne_none z))
theorem At.freshG (a : At E Γ M σ G H) {p : Addr} (h : H p = none) : G p = none := Same.fr a.gh h
theorem At.freshM (a : At E Γ M σ G H) {p : Addr} (h : H p = none) : p ∉ M.map (·.1) := fun hm => by
  obtain ⟨q, hq, e⟩ := List.mem_map.mp hm
  obtain ⟨o, e2, _⟩ := a.own q hq
  rw [e, h] at e2; cases e2
/-- a new owned object -/
theorem At.own1 (a : At E Γ M σ G H) {p : Addr} {o : HO} {r : ORep} (h : H p = none) (hr : r.p o G) : At E Γ ((p, r) :: M) σ G (upd H p o) where
  len := a.len
  env := a.env
  gh := a.gh.trans (same_upd h)
  own := fun q hq => by
    rcases List.mem_cons.mp hq with e | hq
    · subst e; exact ⟨o, upd_same, hr⟩
    · obtain ⟨u, e, r⟩ := a.own q hq
      exact ⟨u, by rw [upd_ne (ne_of_none e h)]; exact e, r⟩
  gn := fun q hq => by
    rcases List.mem_cons.mp hq with e | hq
    · subst e; exact a.freshG h
    · exact a.gn q hq
  nd := List.nodup_cons.mpr ⟨a.freshM h, a.nd⟩
  g0 := a.g0
  keep := fun x u h1 h2 => by
    have := a.keep x u h1 h2
    rw [upd_ne (ne_of_none this h)]; exact this
  nw := a.nw
  loc := fun q hq => by
    rcases List.mem_cons.mp hq with e | hq
    · subst e; exact .inr (a.fresh h)
    · exact a.loc q hq
  there := fun x hx => by
    have := a.there x hx
    by_cases e : x = p
    · subst e; rw [upd_same]; simp
    · rw [upd_ne e]; exact this
/-- where p stands in M, and M with another thing there -/
inductive Fnd : Ow → Addr → ORep → (ORep → Ow) → Prop
  | here {M : Ow} {p : Addr} {r : ORep} : Fnd ((p, r) :: M) p r (fun r' => (p, r') :: M)
  | there {M : Ow} {p : Addr} {r : ORep} {u : ORep → Ow} {q : Addr × ORep} : Fnd M p r u → Fnd (q :: M) p r (fun r' => q :: u r')
theorem Fnd.mem {p : Addr} {r : ORep} {u : ORep → Ow} (f : Fnd M p r u) : (p, r) ∈ M := by
  induction f with
  | here => exact List.mem_cons_self
  | there _ ih => exact List.mem_cons_of_mem _ ih
theorem Fnd.map {p : Addr} {r : ORep} {u : ORep → Ow} (f : Fnd M p r u) (r' : ORep) : (u r').map (·.1) = M.map (·.1) := by
  induction f with
  | here => rfl
  | there _ ih => simp only [List.map_cons, ih]
theorem Fnd.of {p : Addr} {r : ORep} {u : ORep → Ow} (f : Fnd M p r u) (r' : ORep) : ∀ q ∈ u r', q = (p, r') ∨ (q ∈ M ∧ (q.1 ≠ p ∨ ¬ (M.map (·.1)).Nodup)) := by
  induction f with
  | @here M p r =>
    intro q hq
    rcases List.mem_cons.mp hq with e | hq
    · exact .inl e
    · refine .inr ⟨List.mem_cons_of_mem _ hq, ?_⟩
      by_cases e : q.1 = p
      · refine .inr fun nd => ?_
        have := (List.nodup_cons.mp nd).1
        exact this (List.mem_map.mpr ⟨q, hq, e⟩)
      · exact .inl e
  | @there M p r u q0 f ih =>
    intro q hq
    rcases List.mem_cons.mp hq with e | hq
    · subst e
      refine .inr ⟨List.mem_cons_self, ?_⟩
      by_cases e : q.1 = p
      · refine .inr fun nd => ?_
        have := (List.nodup_cons.mp nd).1
        exact this (List.mem_map.mpr ⟨_, f.mem, e.symm⟩)
      · exact .inl e
    · rcases ih q hq with e | ⟨h1, h2⟩
      · exact .inl e
      · refine .inr ⟨List.mem_cons_of_mem _ h1, ?_⟩
        rcases h2 with h2 | h2
        · exact .inl h2
        · exact .inr fun nd => h2 (List.nodup_cons.mp nd).2
theorem At.write (a : At E Γ M σ G H) {p : Addr} {o : HO} {r r' : ORep} {u : ORep → Ow} (f : Fnd M p r u) (hr : r'.p o G) : At E Γ (u r') σ G (upd H p o) where
  len := a.len
  env := a.env
  gh := fun b w e => by
    have : b ≠ p := fun z => by subst z; rw [a.gn _ f.mem] at e; cases e
    rw [upd_ne this]; exact a.gh b w e
  own := fun q hq => by
    rcases f.of r' q hq with e | ⟨h1, h2⟩
    · subst e; exact ⟨o, upd_same, hr⟩
    · rcases h2 with h2 | h2
      · obtain ⟨w, e, r⟩ := a.own q h1
        exact ⟨w, by rw [upd_ne h2]; exact e, r⟩
      · exact absurd a.nd h2
  gn := fun q hq => by
    rcases f.of r' q hq with e | ⟨h1, _⟩
    · subst e; exact a.gn (p, r) f.mem
    · exact a.gn q h1
  nd := by rw [f.map]; exact a.nd
  g0 := a.g0
  keep := fun x w h1 h2 => by
    by_cases e : x = p
    · subst e
      rcases a.loc _ f.mem with z | z
      · exact absurd z h1
      · rw [z] at h2; cases h2
    · rw [upd_ne e]; exact a.keep x w h1 h2
  nw := a.nw
  loc := fun q hq => by
    rcases f.of r' q hq with e | ⟨h1, _⟩
    · subst e; exact a.loc (p, r) f.mem
    · exact a.loc q h1
  there := fun x hx => by
    by_cases e : x = p
    · subst e; rw [upd_same]; simp
    · rw [upd_ne e]; exact a.there x hx
/-- what may be forgotten -/
def Sub (ρ ρ' : Rep) : Prop := ∀ v G, ρ.p v G → ρ'.p v G
theorem Sub.rfl {ρ : Rep} : Sub ρ ρ := fun _ _ h => h
theorem Sub.trans {a b c : Rep} (x : Sub a b) (y : Sub b c) : Sub a c := fun v G h => y v G (x v G h)
def OSub (ρ ρ' : ORep) : Prop := ∀ v G, ρ.p v G → ρ'.p v G
theorem OSub.rfl {ρ : ORep} : OSub ρ ρ := fun _ _ h => h
/-- Γ' says no more than Γ -/
inductive Wk : Gm → Gm → Prop
  | nil : Wk [] []
  | skip {o : Option Rep} {Γ Γ' : Gm} : Wk Γ Γ' → Wk (o :: Γ) (none :: Γ')
  | cons {ρ ρ' : Rep} {Γ Γ' : Gm} : Sub ρ ρ' → Wk Γ Γ' → Wk (some ρ :: Γ) (some ρ' :: Γ')
theorem Wk.len (w : Wk Γ Γ') : Γ.length = Γ'.length := by
  induction w with
  | nil => rfl
  | skip _ ih => simp [ih]
  | cons _ _ ih => simp [ih]
theorem Wk.get (w : Wk Γ Γ') : ∀ (i : Nat) (ρ' : Rep), Γ'[i]? = some (some ρ') → ∃ ρ, Γ[i]? = some (some ρ) ∧ Sub ρ ρ' := by
  induction w with
  | nil => intro i ρ h; simp at h
  | skip _ ih =>
    intro i ρ h
    cases i with
    | zero => simp at h
    | succ i => exact ih i ρ (by simpa using h)
  | @cons r r' _ _ s _ ih =>
    intro i ρ h
    cases i with
    | zero =>
      have e : r' = ρ := by simpa using h
      subst e
      exact ⟨r, by simp, s⟩
    | succ i => exact ih i ρ (by simpa using h)
theorem Wk.refl : ∀ Γ : Gm, Wk Γ Γ
  | [] => .nil
  | none :: Γ => .skip (Wk.refl Γ)
  | some _ :: Γ => .cons Sub.rfl (Wk.refl Γ)
theorem At.weak (a : At E Γ M σ G H) (w : Wk Γ Γ') : At E Γ' M σ G H :=
  ⟨w.len.symm.trans a.len, fun i ρ' h => let ⟨ρ, e, s⟩ := w.get i ρ' h; let ⟨v, e2, r⟩ := a.env i ρ e; ⟨v, e2, s _ _ r⟩, a.gh, a.own, a.gn, a.nd, a.g0, a.keep, a.nw, a.loc, a.there⟩
/-- the name in slot i is given a value -/
theorem At.set (a : At E Γ M σ G H) {i : Nat} {ρ : Rep} {v : V} (h : ρ.p v G) : At E (Γ.set i (some ρ)) M (σ.set i (some v)) G H :=
  ⟨by simp [a.len], fun j ρ' e => by
    by_cases hj : i = j
    · subst hj
      by_cases hl : i < Γ.length
      · rw [List.getElem?_set_self hl] at e
        have e : ρ = ρ' := by simpa using e
        subst e
        exact ⟨v, List.getElem?_set_self (by rw [← a.len]; exact hl), h⟩
      · rw [List.getElem?_eq_none (by simp; omega)] at e; cases e
    · rw [List.getElem?_set_ne hj] at e
      obtain ⟨w, e2, r⟩ := a.env j ρ' e
      exact ⟨w, by rw [List.getElem?_set_ne hj]; exact e2, r⟩, a.gh, a.own, a.gn, a.nd, a.g0, a.keep, a.nw, a.loc, a.there⟩
/-- an owned object is given up: it lasts from now on -/
inductive Rm : Ow → Addr → ORep → Ow → Prop
  | here {M : Ow} {p : Addr} {r : ORep} : Rm ((p, r) :: M) p r M
  | there {M M' : Ow} {p : Addr} {r : ORep} {q : Addr × ORep} : Rm M p r M' → Rm (q :: M) p r (q :: M')
theorem Rm.mem {p : Addr} {r : ORep} (f : Rm M p r M') : (p, r) ∈ M := by
  induction f with
  | here => exact List.mem_cons_self
  | there _ ih => exact List.mem_cons_of_mem _ ih
theorem Rm.sub {p : Addr} {r : ORep} (f : Rm M p r M') : ∀ q ∈ M', q ∈ M := by
  induction f with
  | here => exact fun q hq => List.mem_cons_of_mem _ hq
  | there _ ih =>
    intro q hq
    rcases List.mem_cons.mp hq with e | hq
    · subst e; exact List.mem_cons_self
    · exact List.mem_cons_of_mem _ (ih q hq)
theorem Rm.nd {p : Addr} {r : ORep} (f : Rm M p r M') (nd : (M.map (·.1)).Nodup) : (M'.map (·.1)).Nodup ∧ p ∉ M'.map (·.1) := by
  induction f with
  | here => rw [List.map_cons, List.nodup_cons] at nd; exact ⟨nd.2, nd.1⟩
  | @there M M' p r q f ih =>
    rw [List.map_cons, List.nodup_cons] at nd
    obtain ⟨h1, h2⟩ := ih nd.2
    refine ⟨by
      rw [List.map_cons, List.nodup_cons]
      refine ⟨fun hm => nd.1 ?_, h1⟩
      obtain ⟨z, hz, e⟩ := List.mem_map.mp hm
      exact List.mem_map.mpr ⟨z, f.sub z hz, e⟩, ?_⟩
    rw [List.map_cons, List.mem_cons]
    rintro (e | h)
    · exact nd.1 (List.mem_map.mpr ⟨_, f.mem, e⟩)
    · exact h2 h
theorem At.drop (a : At E Γ M σ G H) {p : Addr} {r : ORep} (f : Rm M p r M') : At E Γ M' σ G H :=
  ⟨a.len, a.env, a.gh, fun q hq => a.own q (f.sub q hq), fun q hq => a.gn q (f.sub q hq), (f.nd a.nd).1, a.g0, a.keep, a.nw, fun q hq => a.loc q (f.sub q hq), a.there⟩
theorem At.freeze (a : At E Γ M σ G H) {p : Addr} {r : ORep} (f : Rm M p r M') (hp : p ∉ E.M) : ∃ o, H p = some o ∧ r.p o G ∧ Same G (upd G p o) ∧ At E Γ M' σ (upd G p o) H := by
  obtain ⟨o, e, ro⟩ := a.own _ f.mem
  have gn := a.gn _ f.mem
  have sg : Same G (upd G p o) := same_upd gn
  have b := a.drop f
  refine ⟨o, e, ro, sg, b.len, fun i ρ h => ?_, fun c u h => ?_, fun q hq => ?_, fun q hq => ?_, b.nd, b.g0.trans sg, b.keep, fun c h1 h2 => ?_, b.loc, b.there⟩
  · obtain ⟨v, e1, r1⟩ := b.env i ρ h
    exact ⟨v, e1, ρ.mono _ _ _ sg r1⟩
  · by_cases z : c = p
    · subst z; rw [upd_same] at h; rw [← h]; exact e
    · rw [upd_ne z] at h; exact b.gh c u h
  · obtain ⟨u, e1, r1⟩ := b.own q hq
    exact ⟨u, e1, q.2.mono _ _ _ sg r1⟩
  · have : q.1 ≠ p := fun z => (f.nd a.nd).2 (List.mem_map.mpr ⟨q, hq, z⟩)
    rw [upd_ne this]; exact b.gn q hq
  · by_cases z : c = p
    · subst z
      rcases a.loc _ f.mem with q | q
      · exact absurd q hp
      · exact absurd q h1
    · rw [upd_ne z] at h2; exact b.nw c h1 h2
end

/-! ### the judgements -/
def WTE (E : En) (Γ : Gm) (M : Ow) (t : TE) (Φ : Rep → Ow → Prop) : Prop :=
  ∀ σ G H, At E Γ M σ G H → ∀ Q : VK, (∀ ρ M' v G' H', Φ ρ M' → Same G G' → At E Γ M' σ G' H' → ρ.p v G' → Q v H') → t σ H Q
def WTT (E : En) (Γ : Gm) (M : Ow) (t : TT) (Φ : Bool → Ow → Prop) : Prop :=
  ∀ σ G H, At E Γ M σ G H → ∀ Q : Bool → Hp → Prop, (∀ k M' G' H', Φ k M' → Same G G' → At E Γ M' σ G' H' → Q k H') → t σ H Q
def Reps : List Rep → List V → Hp → Prop
  | [], [], _ => True
  | ρ :: ρs, v :: vs, G => ρ.p v G ∧ Reps ρs vs G
  | _, _, _ => False
theorem Reps.mono {G G' : Hp} (s : Same G G') : ∀ {ρs : List Rep} {vs : List V}, Reps ρs vs G → Reps ρs vs G'
  | [], [], _ => trivial
  | _ :: _, _ :: _, h => ⟨Rep.mono _ _ _ _ s h.1, Reps.mono s h.2⟩
  | [], _ :: _, h => h.elim
  | _ :: _, [], h => h.elim
theorem Reps.length {G : Hp} : ∀ {ρs : List Rep} {vs : List V}, Reps ρs vs G → ρs.length = vs.length
  | [], [], _ => rfl
  | _ :: _, _ :: _, h => congrArg Nat.succ (Reps.length h.2)
  | [], _ :: _, h => h.elim
  | _ :: _, [], h => h.elim
theorem Reps.get {G : Hp} : ∀ {ρs : List Rep} {vs : List V} {i : Nat} {ρ : Rep}, Reps ρs vs G → ρs[i]? = some ρ → ∃ v, vs[i]? = some v ∧ ρ.p v G
  | [], [], i, ρ, _, e => by simp at e
  | r :: _, v :: _, 0, ρ, h, e => by
    have e : r = ρ := by simpa using e
    subst e
    exact ⟨v, by simp, h.1⟩
  | _ :: _, _ :: _, i + 1, ρ, h, e => by
    obtain ⟨v, e1, r⟩ := Reps.get (i := i) (ρ := ρ) h.2 (by simpa using e)
    exact ⟨v, by simpa using e1, r⟩
  | [], _ :: _, _, _, h, _ => h.elim
  | _ :: _, [], _, _, h, _ => h.elim
theorem Reps.get2 {G : Hp} {ρs : List Rep} {vs : List V} {i : Nat} {v : V} (h : Reps ρs vs G) (e : vs[i]? = some v) : ∃ ρ, ρs[i]? = some ρ ∧ ρ.p v G := by
  have hl := h.length
  have hi : i < vs.length := (List.getElem?_eq_some_iff.mp e).1
  obtain ⟨w, e1, r⟩ := h.get (i := i) (ρ := ρs[i]) (by simp [hl, hi])
  rw [e] at e1; cases e1
  exact ⟨_, by simp [hl, hi], r⟩
theorem Reps.app {G : Hp} : ∀ {ρs ρs' : List Rep} {vs vs' : List V}, Reps ρs vs G → Reps ρs' vs' G → Reps (ρs ++ ρs') (vs ++ vs') G
  | [], _, [], _, _, h' => h'
  | _ :: _, _, _ :: _, _, h, h' => ⟨h.1, Reps.app h.2 h'⟩
  | [], _, _ :: _, _, h, _ => h.elim
  | _ :: _, _, [], _, h, _ => h.elim
theorem Reps.set {G : Hp} {ρ : Rep} {v : V} (r : ρ.p v G) : ∀ {ρs : List Rep} {vs : List V} (i : Nat), Reps ρs vs G → Reps (ρs.set i ρ) (vs.set i v) G
  | [], [], _, _ => trivial
  | _ :: _, _ :: _, 0, h => ⟨r, h.2⟩
  | _ :: _, _ :: _, i + 1, h => ⟨h.1, Reps.set r i h.2⟩
  | [], _ :: _, _, h => h.elim
  | _ :: _, [], _, h => h.elim
inductive SubL : List Rep → List Rep → Prop
  | nil : SubL [] []
  | cons {ρ ρ' : Rep} {ρs ρs' : List Rep} : Sub ρ ρ' → SubL ρs ρs' → SubL (ρ :: ρs) (ρ' :: ρs')
theorem SubL.reps {ρs ρs' : List Rep} (s : SubL ρs ρs') : ∀ {vs : List V} {G : Hp}, Reps ρs vs G → Reps ρs' vs G := by
  induction s with
  | nil => intro vs G h; exact h
  | cons h1 _ ih =>
    intro vs G h
    cases vs with
    | nil => exact h.elim
    | cons v vs => exact ⟨h1 _ _ h.1, ih h.2⟩
theorem SubL.refl : ∀ ρs : List Rep, SubL ρs ρs
  | [] => .nil
  | _ :: ρs => .cons Sub.rfl (SubL.refl ρs)
def WTA (E : En) (Γ : Gm) (M : Ow) (t : TA) (Φ : List Rep → Ow → Prop) : Prop :=
  ∀ σ G H, At E Γ M σ G H → ∀ Q : List V → Hp → Prop, (∀ ρs M' vs G' H', Φ ρs M' → Same G G' → At E Γ M' σ G' H' → Reps ρs vs G' → Q vs H') → t σ H Q
/-- what is wanted behind a statement, of what is known -/
structure Ed where
  nx : Gm → Ow → Prop
  rt : Rep → Ow → Prop
  bk : Gm → Ow → Prop := fun _ _ => False
  ct : Gm → Ow → Prop := fun _ _ => False
structure Cov (E : En) (G : Hp) (Ψ : Ed) (D : Ends) : Prop where
  nx : ∀ Γ M, Ψ.nx Γ M → ∀ σ G' H, Same G G' → At E Γ M σ G' H → D.nx σ H
  rt : ∀ ρ M, Ψ.rt ρ M → ∀ v G' H, Same G G' → At E [] M [] G' H → ρ.p v G' → D.rt v H
  bk : ∀ Γ M, Ψ.bk Γ M → ∀ σ G' H, Same G G' → At E Γ M σ G' H → D.bk σ H
  ct : ∀ Γ M, Ψ.ct Γ M → ∀ σ G' H, Same G G' → At E Γ M σ G' H → D.ct σ H
theorem Cov.mono {E : En} {G G' : Hp} {Ψ : Ed} {D : Ends} (s : Same G G') (c : Cov E G Ψ D) : Cov E G' Ψ D :=
  ⟨fun Γ M h σ G2 H s2 => c.nx Γ M h σ G2 H (s.trans s2), fun ρ M h v G2 H s2 => c.rt ρ M h v G2 H (s.trans s2), fun Γ M h σ G2 H s2 => c.bk Γ M h σ G2 H (s.trans s2), fun Γ M h σ G2 H s2 => c.ct Γ M h σ G2 H (s.trans s2)⟩
theorem At.env0 {E : En} {Γ : Gm} {M : Ow} {σ : L2.St} {G H : Hp} (a : At E Γ M σ G H) : At E [] M [] G H :=
  ⟨rfl, fun i ρ h => by simp at h, a.gh, a.own, a.gn, a.nd, a.g0, a.keep, a.nw, a.loc, a.there⟩
def WTS (E : En) (Γ : Gm) (M : Ow) (t : TS) (Ψ : Ed) : Prop :=
  ∀ σ G H, At E Γ M σ G H → ∀ D : Ends, Cov E G Ψ D → t D σ H
def WTG (E : En) (Γ : Gm) (M : Ow) (t : TG) (ρ : Rep) (Φ : Gm → Ow → Prop) : Prop :=
  ∀ σ G H, At E Γ M σ G H → ∀ v, ρ.p v G → ∀ Q : L2.St → Hp → Prop, (∀ Γ' M' σ' G' H', Φ Γ' M' → Same G G' → At E Γ' M' σ' G' H' → Q σ' H') → t v σ H Q
def WTGs (E : En) (Γ : Gm) (M : Ow) (t : TGs) (ρs : List Rep) (Φ : Gm → Ow → Prop) : Prop :=
  ∀ σ G H, At E Γ M σ G H → ∀ vs, Reps ρs vs G → ∀ Q : L2.St → Hp → Prop, (∀ Γ' M' σ' G' H', Φ Γ' M' → Same G G' → At E Γ' M' σ' G' H' → Q σ' H') → t vs σ H Q

/-! ### of the grammar: each piece has its weakest reading -/
def tW (X : Cx) (e : Expr) : TE := fun σ H Q => ∀ (pins : List (Addr × Obj)) (s : Shared), L2.Inv X pins σ H s → wpAny (model X.prog X.w) X.A (eval e X.env) (EP X pins σ Q) X.xe s
theorem pe_w {X : Cx} {e : Expr} : PE X e (tW X e) := ⟨fun pins s σ H Q I h => h pins s I⟩
def tWT (X : Cx) (e : Expr) : TT := fun σ H Q => ∀ (pins : List (Addr × Obj)) (s : Shared), L2.Inv X pins σ H s → wpAny (model X.prog X.w) X.A (isTrue e X.env (eval e X.env)) (TP X pins σ Q) X.xe s
theorem pt_w {X : Cx} {e : Expr} : PT X e (tWT X e) := ⟨fun pins s σ H Q I h => h pins s I⟩
def tWP (X : Cx) (e : Expr) : TT := fun σ H Q => ∀ (whole : Sem Value) (pins : List (Addr × Obj)) (s : Shared), L2.Inv X pins σ H s → wpAny (model X.prog X.w) X.A (isTrue e X.env whole) (TP X pins σ Q) X.xe s
theorem pw_w {X : Cx} {e : Expr} : PW X e (tWP X e) := ⟨fun w pins s σ H Q I h => h w pins s I⟩
def tWA (X : Cx) (es : List Expr) : TA := fun σ H Q => ∀ (pos : Pos) (pins : List (Addr × Obj)) (s : Shared), L2.Inv X pins σ H s → wpAny (model X.prog X.w) X.A (spliced (backTo pos (starEach es X.env))) (AP X pins σ Q) X.xe s
theorem pa_w {X : Cx} {es : List Expr} : PA X es (tWA X es) := ⟨fun pos pins s σ H Q I h => h pos pins s I⟩
def tWK (X : Cx) (es : List Keyword) : TA := fun σ H Q => ∀ (pos : Pos) (pins : List (Addr × Obj)) (s : Shared), L2.Inv X pins σ H s → wpAny (model X.prog X.w) X.A (evalAll ((backToKw pos (keywordEach es X.env)).map (·.2))) (AP X pins σ Q) X.xe s
theorem pk_w {X : Cx} {es : List Keyword} : PK X es (tWK X es) := ⟨fun pos pins s σ H Q I h => h pos pins s I⟩
def tWS (X : Cx) (st : Stmt) : TS := fun D σ H => ∀ (pins : List (Addr × Obj)) (s : Shared), L2.Inv X pins σ H s → wpAny (model X.prog X.w) X.A (exec st X.env) (SP X pins D) X.xe s
theorem ps_w {X : Cx} {e : Stmt} : PS X e (tWS X e) := ⟨fun pins s σ H D I h => h pins s I⟩
def tWSs (X : Cx) (st : List Stmt) : TS := fun D σ H => ∀ (pins : List (Addr × Obj)) (s : Shared), L2.Inv X pins σ H s → wpAny (model X.prog X.w) X.A (execs st X.env) (SP X pins D) X.xe s
theorem pss_w {X : Cx} {e : List Stmt} : PSs X e (tWSs X e) := ⟨fun pins s σ H D I h => h pins s I⟩
def tWG (X : Cx) (tg : Expr) : TG := fun v σ H Q => ∀ (pins : List (Addr × Obj)) (s : Shared) (u : Value), L2.Inv X pins σ H s → RelV v u → wpAny (model X.prog X.w) X.A (assign tg X.env u) (fun _ s' => ∃ σ' H', L2.Inv X pins σ' H' s' ∧ Q σ' H') X.xe s
theorem pg_w {X : Cx} {tg : Expr} : PG X tg (tWG X tg) := ⟨fun pins s σ H v u Q I r h => h pins s u I r⟩
def tWGs (X : Cx) (ts : List Expr) : TGs := fun vs σ H Q => ∀ (pins : List (Addr × Obj)) (s : Shared) (us : List Value), L2.Inv X pins σ H s → Vals vs us → wpAny (model X.prog X.w) X.A (assignInOrder ((assignEach ts X.env).map (·.2)) us) (fun _ s' => ∃ σ' H', L2.Inv X pins σ' H' s' ∧ Q σ' H') X.xe s
theorem pgs_w {X : Cx} {ts : List Expr} : PGs X ts (tWGs X ts) := ⟨fun pins s σ H vs us Q I r h => h pins s us I r⟩

def WE (X : Cx) (E : En) (Γ : Gm) (M : Ow) (e : Expr) (Φ : Rep → Ow → Prop) : Prop := WTE E Γ M (tW X e) Φ
def WT (X : Cx) (E : En) (Γ : Gm) (M : Ow) (e : Expr) (Φ : Bool → Ow → Prop) : Prop := WTT E Γ M (tWT X e) Φ
def WP (X : Cx) (E : En) (Γ : Gm) (M : Ow) (e : Expr) (Φ : Bool → Ow → Prop) : Prop := WTT E Γ M (tWP X e) Φ
def WA (X : Cx) (E : En) (Γ : Gm) (M : Ow) (es : List Expr) (Φ : List Rep → Ow → Prop) : Prop := WTA E Γ M (tWA X es) Φ
def WK (X : Cx) (E : En) (Γ : Gm) (M : Ow) (es : List Keyword) (Φ : List Rep → Ow → Prop) : Prop := WTA E Γ M (tWK X es) Φ
def WS (X : Cx) (E : En) (Γ : Gm) (M : Ow) (st : Stmt) (Ψ : Ed) : Prop := WTS E Γ M (tWS X st) Ψ
def WSs (X : Cx) (E : En) (Γ : Gm) (M : Ow) (st : List Stmt) (Ψ : Ed) : Prop := WTS E Γ M (tWSs X st) Ψ
def WG (X : Cx) (E : En) (Γ : Gm) (M : Ow) (tg : Expr) (ρ : Rep) (Φ : Gm → Ow → Prop) : Prop := WTG E Γ M (tWG X tg) ρ Φ
def WGs (X : Cx) (E : En) (Γ : Gm) (M : Ow) (ts : List Expr) (ρs : List Rep) (Φ : Gm → Ow → Prop) : Prop := WTGs E Γ M (tWGs X ts) ρs Φ
section
variable {X : Cx} {E : En} {Γ : Gm} {M : Ow}
theorem we_of {e : Expr} {t : TE} {Φ : Rep → Ow → Prop} (hp : PE X e t) (h : WTE E Γ M t Φ) : WE X E Γ M e Φ := fun σ G H a Q k pins s I => hp.run pins s σ H Q I (h σ G H a Q k)
theorem wt_of {e : Expr} {t : TT} {Φ : Bool → Ow → Prop} (hp : PT X e t) (h : WTT E Γ M t Φ) : WT X E Γ M e Φ := fun σ G H a Q k pins s I => hp.run pins s σ H Q I (h σ G H a Q k)
theorem wp_of {e : Expr} {t : TT} {Φ : Bool → Ow → Prop} (hp : PW X e t) (h : WTT E Γ M t Φ) : WP X E Γ M e Φ := fun σ G H a Q k w pins s I => hp.run w pins s σ H Q I (h σ G H a Q k)
theorem wa_of {e : List Expr} {t : TA} {Φ : List Rep → Ow → Prop} (hp : PA X e t) (h : WTA E Γ M t Φ) : WA X E Γ M e Φ := fun σ G H a Q k pos pins s I => hp.run pos pins s σ H Q I (h σ G H a Q k)
theorem wk_of {e : List Keyword} {t : TA} {Φ : List Rep → Ow → Prop} (hp : PK X e t) (h : WTA E Γ M t Φ) : WK X E Γ M e Φ := fun σ G H a Q k pos pins s I => hp.run pos pins s σ H Q I (h σ G H a Q k)
theorem ws_of {e : Stmt} {t : TS} {Ψ : Ed} (hp : PS X e t) (h : WTS E Γ M t Ψ) : WS X E Γ M e Ψ := fun σ G H a D k pins s I => hp.run pins s σ H D I (h σ G H a D k)
theorem wss_of {e : List Stmt} {t : TS} {Ψ : Ed} (hp : PSs X e t) (h : WTS E Γ M t Ψ) : WSs X E Γ M e Ψ := fun σ G H a D k pins s I => hp.run pins s σ H D I (h σ G H a D k)
theorem wg_of {e : Expr} {t : TG} {ρ : Rep} {Φ : Gm → Ow → Prop} (hp : PG X e t) (h : WTG E Γ M t ρ Φ) : WG X E Γ M e ρ Φ := fun σ G H a v r Q k pins s u I rv => hp.run pins s σ H v u Q I rv (h σ G H a v r Q k)
theorem wgs_of {e : List Expr} {t : TGs} {ρs : List Rep} {Φ : Gm → Ow → Prop} (hp : PGs X e t) (h : WTGs E Γ M t ρs Φ) : WGs X E Γ M e ρs Φ := fun σ G H a v r Q k pins s u I rv => hp.run pins s σ H v u Q I rv (h σ G H a v r Q k)
end
end MM

namespace MM
open PySem L2
/-! ### representations of plain values -/
def RI (i : Int) : Rep := ⟨fun v _ => v = .int i, fun _ _ _ _ h => h⟩
def RB (b : Bool) : Rep := ⟨fun v _ => v = .bl b, fun _ _ _ _ h => h⟩
def RS (s : Str) : Rep := ⟨fun v _ => v = .str s, fun _ _ _ _ h => h⟩
def RN : Rep := ⟨fun v _ => v = .non, fun _ _ _ _ h => h⟩
def RV (w : V) : Rep := ⟨fun v _ => v = w, fun _ _ _ _ h => h⟩
def RRef (p : Addr) : Rep := ⟨fun v _ => v = .ref p, fun _ _ _ _ h => h⟩
/-- an int or None -/
def RO (o : Option Int) : Rep := match o with
  | none => RN
  | some i => RI i
theorem same_seqT {K : PySem.W.Frag} {H H' : Hp} {a : Addr} {xs : List V} (e : Same H H') (h : SqT K H a xs) : SqT K H' a xs := by
  rcases h with (h | ⟨o, h⟩) | h
  · exact .inl (.inl (e _ _ h))
  · exact .inl (.inr ⟨o, e _ _ h⟩)
  · exact .inr h
/-- a list that stays as it is; a tuple -/
def RL (K : PySem.W.Frag) (ρs : List Rep) : Rep := ⟨fun v G => ∃ a vs, v = .ref a ∧ SqL K G a vs ∧ Reps ρs vs G, fun v G G' s ⟨a, vs, e, h, r⟩ => ⟨a, vs, e, Same.seq s h, r.mono s⟩⟩
def RT (K : PySem.W.Frag) (ρs : List Rep) : Rep := ⟨fun v G => ∃ a vs, v = .ref a ∧ SqT K G a vs ∧ Reps ρs vs G, fun v G G' s ⟨a, vs, e, h, r⟩ => ⟨a, vs, e, same_seqT s h, r.mono s⟩⟩
/-- .. that stands in the lasting part -/
def RLt (ρs : List Rep) : Rep := ⟨fun v G => ∃ a vs, v = .ref a ∧ G a = some (.lst vs) ∧ Reps ρs vs G, fun v G G' s ⟨a, vs, e, h, r⟩ => ⟨a, vs, e, s _ _ h, r.mono s⟩⟩
theorem sub_lt {K : PySem.W.Frag} {ρs : List Rep} : Sub (RLt ρs) (RL K ρs) := fun v G ⟨a, vs, e, h, r⟩ => ⟨a, vs, e, .inl (.inl h), r⟩
def RTt (ρs : List Rep) : Rep := ⟨fun v G => ∃ a vs, v = .ref a ∧ G a = some (.tup vs) ∧ Reps ρs vs G, fun v G G' s ⟨a, vs, e, h, r⟩ => ⟨a, vs, e, s _ _ h, r.mono s⟩⟩
theorem sub_tt {K : PySem.W.Frag} {ρs : List Rep} : Sub (RTt ρs) (RT K ρs) := fun v G ⟨a, vs, e, h, r⟩ => ⟨a, vs, e, .inl (.inl h), r⟩
/-- an owned list -/
def OL (ρs : List Rep) : ORep := ⟨fun o G => ∃ vs, o = .lst vs ∧ Reps ρs vs G, fun o G G' s ⟨vs, e, r⟩ => ⟨vs, e, r.mono s⟩⟩
/-- attributes -/
def FRep : List (Str × Rep) → List (Str × V) → Hp → Prop
  | [], [], _ => True
  | (f, ρ) :: l, (g, v) :: m, G => f = g ∧ ρ.p v G ∧ FRep l m G
  | _, _, _ => False
theorem FRep.mono {G G' : Hp} (s : Same G G') : ∀ {l : List (Str × Rep)} {m : List (Str × V)}, FRep l m G → FRep l m G'
  | [], [], _ => trivial
  | (_, ρ) :: _, (_, _) :: _, h => ⟨h.1, ρ.mono _ _ _ s h.2.1, FRep.mono s h.2.2⟩
  | [], _ :: _, h => h.elim
  | _ :: _, [], h => h.elim
theorem FRep.len {G : Hp} : ∀ {l : List (Str × Rep)} {m : List (Str × V)}, FRep l m G → l.length = m.length
  | [], [], _ => rfl
  | (_, _) :: _, (_, _) :: _, h => congrArg Nat.succ (FRep.len h.2.2)
  | [], _ :: _, h => h.elim
  | _ :: _, [], h => h.elim
theorem FRep.look {G : Hp} {f : Str} {ρ : Rep} : ∀ {l : List (Str × Rep)} {m : List (Str × V)}, FRep l m G → l.lookup f = some ρ → ∃ v, m.lookup f = some v ∧ ρ.p v G
  | [], [], _, e => by simp at e
  | (g, r) :: l, (g', v) :: m, h, e => by
    obtain ⟨h1, h2, h3⟩ := h
    subst h1
    rw [List.lookup_cons] at e ⊢
    cases q : f == g with
    | true =>
      rw [q] at e
      have e : r = ρ := by simpa using e
      subst e
      exact ⟨v, rfl, h2⟩
    | false =>
      rw [q] at e
      exact FRep.look (l := l) (m := m) h3 e
  | [], _ :: _, h, _ => h.elim
  | _ :: _, [], h, _ => h.elim
theorem FRep.miss {G : Hp} {f : Str} : ∀ {l : List (Str × Rep)} {m : List (Str × V)}, FRep l m G → l.lookup f = none → m.lookup f = none
  | [], [], _, _ => rfl
  | (g, r) :: l, (g', v) :: m, h, e => by
    obtain ⟨h1, h2, h3⟩ := h
    subst h1
    rw [List.lookup_cons] at e ⊢
    cases q : f == g with
    | true => rw [q] at e; simp at e
    | false => rw [q] at e; exact FRep.miss (l := l) (m := m) h3 e
  | [], _ :: _, h, _ => h.elim
  | _ :: _, [], h, _ => h.elim
def putR (f : Str) (ρ : Rep) : List (Str × Rep) → List (Str × Rep)
  | [] => [(f, ρ)]
  | (g, r) :: l => if g = f then (g, ρ) :: l else (g, r) :: putR f ρ l
theorem putF_cons (f g : Str) (v w : V) (l : List (Str × V)) : putF f v ((g, w) :: l) = if g = f then (g, v) :: l else (g, w) :: putF f v l := rfl
theorem FRep.put {G : Hp} {f : Str} {ρ : Rep} {v : V} (r : ρ.p v G) : ∀ {l : List (Str × Rep)} {m : List (Str × V)}, FRep l m G → FRep (putR f ρ l) (putF f v m) G
  | [], [], _ => ⟨rfl, r, trivial⟩
  | (g, r0) :: l, (g', w) :: m, h => by
    obtain ⟨h1, h2, h3⟩ := h
    subst h1
    rw [putF_cons]
    unfold putR
    by_cases q : g = f
    · rw [if_pos q, if_pos q]; exact ⟨rfl, r, h3⟩
    · rw [if_neg q, if_neg q]; exact ⟨rfl, h2, FRep.put r h3⟩
  | [], _ :: _, h => h.elim
  | _ :: _, [], h => h.elim
/-- an instance that stays as it is; an owned one -/
def RIns (C : Addr) (l : List (Str × Rep)) : Rep := ⟨fun v G => ∃ a dx fs, v = .ref a ∧ G a = some (.ins C dx fs) ∧ FRep l fs G, fun v G G' s ⟨a, dx, fs, e, h, r⟩ => ⟨a, dx, fs, e, s _ _ h, r.mono s⟩⟩
def OIns (C : Addr) (l : List (Str × Rep)) : ORep := ⟨fun o G => ∃ dx fs, o = .ins C dx fs ∧ FRep l fs G, fun o G G' s ⟨dx, fs, e, r⟩ => ⟨dx, fs, e, r.mono s⟩⟩

/-! ### names -/
structure Rd1 (X : Cx) (i : Nat) (x : Str) : Prop where
  at_ : X.N[i]? = some x
  vis : Vis X.env.scope x
  hd : (x == ("__debug__" : Str)) = false
  hcd : (x == ("__classdict__" : Str)) = false
structure Wr1 (X : Cx) (i : Nat) (x : Str) : Prop where
  nd : X.N.Nodup
  at_ : X.N[i]? = some x
  loc : Loc X.env.scope x
  fn : X.fn x = true ∨ X.env.scope.names.lookup x = some .local
section
variable {X : Cx} {E : En} {Γ : Gm} {M : Ow} {a b e : Expr} {pos : Pos} {Φ : Rep → Ow → Prop}
theorem wte_var {i : Nat} {ρ : Rep} (h : Γ[i]? = some (some ρ)) (k : Φ ρ M) : WTE E Γ M (tVar i) Φ := fun σ G H a Q q =>
  let ⟨v, e, r⟩ := a.env i ρ h; ⟨v, e, q ρ M v G H k (Same.refl _) a r⟩
theorem wte_c {v : V} {ρ : Rep} (h : ∀ G, ρ.p v G) (k : Φ ρ M) : WTE E Γ M (tC v) Φ := fun σ G H a Q q => q ρ M v G H k (Same.refl _) a (h G)
theorem we_var (i : Nat) {x : Str} {ρ : Rep} (r : Rd1 X i x) (h : Γ[i]? = some (some ρ)) (k : Φ ρ M) : WE X E Γ M (.Name x pos) Φ := we_of (pe_var r.at_ r.vis r.hd r.hcd) (wte_var h k)
theorem we_int {i : Int} {j} (k : Φ (RI i) M) : WE X E Γ M (.Constant (.int i) j pos) Φ := we_of pe_int (wte_c (fun _ => rfl) k)
theorem we_bl {i : Bool} {j} (k : Φ (RB i) M) : WE X E Γ M (.Constant (.bool i) j pos) Φ := we_of pe_bl (wte_c (fun _ => rfl) k)
theorem we_str {i : Str} {j} (k : Φ (RS i) M) : WE X E Γ M (.Constant (.str i) j pos) Φ := we_of pe_str (wte_c (fun _ => rfl) k)
theorem we_non {j} (k : Φ RN M) : WE X E Γ M (.Constant .none j pos) Φ := we_of pe_non (wte_c (fun _ => rfl) k)
/-- a value of the module's -/
theorem we_glob {x : Str} {v : V} {u : Value} (hg : Gl X x) (hm : X.mg x = some u) (r : RelV v u) {ρ : Rep} (h : ∀ G, ρ.p v G) (k : Φ ρ M) (hd : (x == ("__debug__" : Str)) = false := by decide) : WE X E Γ M (.Name x pos) Φ := we_of (pe_glob hg hm r hd) (wte_c h k)

/-! ### operators -/
def OpW (E : En) (Γ : Gm) (M : Ow) (r : R2) (ρa ρb : Rep) (Φ : Rep → Ow → Prop) : Prop :=
  ∀ σ G H, At E Γ M σ G H → ∀ x y, ρa.p x G → ρb.p y G → ∀ Q : VK, (∀ ρ M' v G' H', Φ ρ M' → Same G G' → At E Γ M' σ G' H' → ρ.p v G' → Q v H') → r x y H Q
/-- a pure operation -/
def OpV (r : R2) (ρa ρb ρ : Rep) : Prop := ∀ x y G H, Same G H → ρa.p x G → ρb.p y G → ∀ Q : VK, (∀ v G' H', New G H G' H' → ρ.p v G' → Q v H') → r x y H Q
theorem opw_of {r : R2} {ρa ρb ρ : Rep} (h : OpV r ρa ρb ρ) (k : Φ ρ M) : OpW E Γ M r ρa ρb Φ := fun σ G H a x y hx hy Q q =>
  h x y G H a.gh hx hy Q fun v G' H' n hr => q ρ M v G' H' k n.gg (a.new n) hr
theorem wte_op {r : R2} {ta tb : TE} (h : WTE E Γ M ta fun ρa Ma => WTE E Γ Ma tb fun ρb Mb => OpW E Γ Mb r ρa ρb Φ) : WTE E Γ M (tOp r ta tb) Φ := fun σ G H a Q k =>
  h σ G H a _ fun ρa Ma x G1 H1 h1 s1 a1 r1 => h1 σ G1 H1 a1 _ fun ρb Mb y G2 H2 h2 s2 a2 r2 =>
    h2 σ G2 H2 a2 x y (ρa.mono _ _ _ s2 r1) r2 Q fun ρ M' v G' H' k' s3 => k ρ M' v G' H' k' ((s1.trans s2).trans s3)
theorem we_bin {op : Operator} {r : R2} (ho : OpR X (binaryOp op) r) (h : WE X E Γ M a fun ρa Ma => WE X E Γ Ma b fun ρb Mb => OpW E Γ Mb r ρa ρb Φ) : WE X E Γ M (.BinOp a op b pos) Φ :=
  we_of (pe_op ho pe_w pe_w) (wte_op h)
theorem we_cmp {op : CmpOp} {r : R2} (ho : OpR X (compareOp op) r) (hm : behindInMarks op b = false) (h : WE X E Γ M a fun ρa Ma => WE X E Γ Ma b fun ρb Mb => OpW E Γ Mb r ρa ρb Φ) : WE X E Γ M (.Compare a [op] [b] pos) Φ :=
  we_of (pe_cmpR ho pe_w pe_w hm) (wte_op h)
theorem wtt_test {t : TE} {Φ : Bool → Ow → Prop} (h : WTE E Γ M t fun ρ M' => ∃ k, Sub ρ (RB k) ∧ Φ k M') : WTT E Γ M (tTest t) Φ := fun σ G H a Q q =>
  h σ G H a _ fun ρ M' v G' H' ⟨k, s, hk⟩ s1 a1 r => ⟨k, s _ _ r, q k M' G' H' hk s1 a1⟩
theorem wt_cmp {op : CmpOp} {r : R2} {Φ : Bool → Ow → Prop} (ho : OpR X (compareOp op) r) (hm : behindInMarks op b = false)
    (h : WE X E Γ M a fun ρa Ma => WE X E Γ Ma b fun ρb Mb => OpW E Γ Mb r ρa ρb fun ρ M' => ∃ k, Sub ρ (RB k) ∧ Φ k M') : WT X E Γ M (.Compare a [op] [b] pos) Φ :=
  wt_of (pt_cmpR ho pe_w pe_w hm) (wtt_test (wte_op h))
/-- an expression that gives a bool -/
theorem wt_val {Φ : Bool → Ow → Prop} (h : WE X E Γ M e fun ρ M' => ∃ k, Sub ρ (RB k) ∧ Φ k M') (he : ∀ whole, isTrue e X.env whole = (do let v ← whole; standAt e.pos; holding [v] (truthy v)) := by intro _; rfl) : WT X E Γ M e Φ :=
  wt_of (pt_val pe_w he) (wtt_test h)
/-- an expression by its truth -/
theorem wt_truth {Φ : Bool → Ow → Prop} (h : WE X E Γ M e fun ρ M' => ∃ k, (∀ v G, ρ.p v G → TruV X.K v G k) ∧ (∀ v G H, Same G H → TruV X.K v G k → TruV X.K v H k) ∧ Φ k M') (he : ∀ whole, isTrue e X.env whole = (do let v ← whole; standAt e.pos; holding [v] (truthy v)) := by intro _; rfl) : WT X E Γ M e Φ :=
  wt_of (pt_truth pe_w he) (fun σ G H a Q q => h σ G H a _ fun ρ M' v G' H' ⟨k, s, s', hk⟩ s1 a1 r => ⟨k, s' _ _ _ a1.gh (s _ _ r), q k M' G' H' hk s1 a1⟩)
theorem wt_not {Φ : Bool → Ow → Prop} (h : WT X E Γ M a fun k M' => Φ (!k) M') : WT X E Γ M (.UnaryOp .Not a pos) Φ :=
  wt_of (pt_not pt_w) (fun σ G H at' Q q => h σ G H at' _ fun k M' G' H' hk s1 a1 => q (!k) M' G' H' hk s1 a1)
theorem wt_bool {Φ : Bool → Ow → Prop} (h : WP X E Γ M e Φ) : WT X E Γ M e Φ := wt_of (PW.pt pw_w) h
theorem wp_and1 {Φ : Bool → Ow → Prop} (h : WT X E Γ M a Φ) : WP X E Γ M (.BoolOp .And [a] pos) Φ := wp_of (pw_and1 pt_w) h
theorem wp_or1 {Φ : Bool → Ow → Prop} (h : WT X E Γ M a Φ) : WP X E Γ M (.BoolOp .Or [a] pos) Φ := wp_of (pw_or1 pt_w) h
theorem wp_and {rest : List Expr} {Φ : Bool → Ow → Prop} (h : WT X E Γ M a fun k M' => (k = true → WP X E Γ M' (.BoolOp .And (b :: rest) pos) Φ) ∧ (k = false → Φ false M')) : WP X E Γ M (.BoolOp .And (a :: b :: rest) pos) Φ :=
  wp_of (pw_and pt_w pw_w) (fun σ G H at' Q q => h σ G H at' _ fun k M' G' H' hk s1 a1 => by
    cases k with
    | true =>
      show tWP X _ σ H' Q
      exact hk.1 rfl σ G' H' a1 Q fun k2 M2 G2 H2 h2 s2 => q k2 M2 G2 H2 h2 (s1.trans s2)
    | false =>
      show Q false H'
      exact q false M' G' H' (hk.2 rfl) s1 a1)
theorem wp_or {rest : List Expr} {Φ : Bool → Ow → Prop} (h : WT X E Γ M a fun k M' => (k = false → WP X E Γ M' (.BoolOp .Or (b :: rest) pos) Φ) ∧ (k = true → Φ true M')) : WP X E Γ M (.BoolOp .Or (a :: b :: rest) pos) Φ :=
  wp_of (pw_or pt_w pw_w) (fun σ G H at' Q q => h σ G H at' _ fun k M' G' H' hk s1 a1 => by
    cases k with
    | false =>
      show tWP X _ σ H' Q
      exact hk.1 rfl σ G' H' a1 Q fun k2 M2 G2 H2 h2 s2 => q k2 M2 G2 H2 h2 (s1.trans s2)
    | true =>
      show Q true H'
      exact q true M' G' H' (hk.2 rfl) s1 a1)
/-- .. as values: all but the last are bools -/
theorem we_and1 {op} (h : WE X E Γ M a Φ) : WE X E Γ M (.BoolOp op [a] pos) Φ := we_of (pe_one pe_w) h
theorem we_and {rest : List Expr} (h : WE X E Γ M a fun ρ M' => ∃ k, Sub ρ (RB k) ∧ (k = true → WE X E Γ M' (.BoolOp .And (b :: rest) pos) Φ) ∧ (k = false → Φ (RB false) M')) : WE X E Γ M (.BoolOp .And (a :: b :: rest) pos) Φ :=
  we_of (pe_and pe_w pe_w) (fun σ G H at' Q q => h σ G H at' _ fun ρ M' v G' H' ⟨k, sb, hk1, hk2⟩ s1 a1 r => ⟨k, sb _ _ r, by
    cases k with
    | true =>
      show tW X _ σ H' Q
      exact hk1 rfl σ G' H' a1 Q fun k2 M2 v2 G2 H2 h2 s2 => q k2 M2 v2 G2 H2 h2 (s1.trans s2)
    | false =>
      show Q (.bl false) H'
      exact q (RB false) M' _ G' H' (hk2 rfl) s1 a1 rfl⟩)
theorem we_or {rest : List Expr} (h : WE X E Γ M a fun ρ M' => ∃ k, Sub ρ (RB k) ∧ (k = false → WE X E Γ M' (.BoolOp .Or (b :: rest) pos) Φ) ∧ (k = true → Φ (RB true) M')) : WE X E Γ M (.BoolOp .Or (a :: b :: rest) pos) Φ :=
  we_of (pe_or pe_w pe_w) (fun σ G H at' Q q => h σ G H at' _ fun ρ M' v G' H' ⟨k, sb, hk1, hk2⟩ s1 a1 r => ⟨k, sb _ _ r, by
    cases k with
    | false =>
      show tW X _ σ H' Q
      exact hk1 rfl σ G' H' a1 Q fun k2 M2 v2 G2 H2 h2 s2 => q k2 M2 v2 G2 H2 h2 (s1.trans s2)
    | true =>
      show Q (.bl true) H'
      exact q (RB true) M' _ G' H' (hk2 rfl) s1 a1 rfl⟩)
theorem we_not (h : WE X E Γ M a fun ρ M' => ∃ k, Sub ρ (RB k) ∧ Φ (RB (!k)) M') : WE X E Γ M (.UnaryOp .Not a pos) Φ :=
  we_of (pe_not pe_w) (fun σ G H at' Q q => h σ G H at' _ fun ρ M' v G' H' ⟨k, sb, hk⟩ s1 a1 r => ⟨k, sb _ _ r, q _ M' _ G' H' hk s1 a1 rfl⟩)
theorem we_ifExp {c : Expr} (h : WT X E Γ M c fun k M' => (k = true → WE X E Γ M' a Φ) ∧ (k = false → WE X E Γ M' b Φ)) : WE X E Γ M (.IfExp c a b pos) Φ :=
  we_of (pe_ifExp pt_w pe_w pe_w) (fun σ G H at' Q q => h σ G H at' _ fun k M' G' H' hk s1 a1 => by
    cases k with
    | true =>
      show tW X _ σ H' Q
      exact hk.1 rfl σ G' H' a1 Q fun k2 M2 v2 G2 H2 h2 s2 => q k2 M2 v2 G2 H2 h2 (s1.trans s2)
    | false =>
      show tW X _ σ H' Q
      exact hk.2 rfl σ G' H' a1 Q fun k2 M2 v2 G2 H2 h2 s2 => q k2 M2 v2 G2 H2 h2 (s1.trans s2))
theorem we_un {op : UnaryOp} {r : V → Hp → VK → Prop} (ho : UnR X (unaryOp op) r) (h : WE X E Γ M a fun ρa Ma => ∃ ρ, (∀ x G H, ρa.p x G → ∀ Q : VK, (∀ v, ρ.p v G → Q v H) → r x H Q) ∧ Φ ρ Ma) : WE X E Γ M (.UnaryOp op a pos) Φ :=
  we_of (pe_un ho pe_w) (fun σ G H at' Q q => h σ G H at' _ fun ρa Ma x G1 H1 ⟨ρ, ho, hk⟩ s1 a1 r1 => ho x G1 H1 r1 Q fun v r2 => q ρ Ma v G1 H1 hk s1 a1 r2)

/-! ### argument lists, displays -/
theorem wa_nil {Φ : List Rep → Ow → Prop} (k : Φ [] M) : WA X E Γ M [] Φ := wa_of pa_nil fun σ G H a Q q => q [] M [] G H k (Same.refl _) a trivial
theorem wa_cons {es : List Expr} {Φ : List Rep → Ow → Prop} (h : WE X E Γ M e fun ρ M1 => WA X E Γ M1 es fun ρs M2 => Φ (ρ :: ρs) M2) (hs : starEach (e :: es) X.env = (false, eval e X.env) :: starEach es X.env := by rfl) : WA X E Γ M (e :: es) Φ :=
  wa_of (pa_cons pe_w pa_w hs) fun σ G H a Q q => h σ G H a _ fun ρ M1 x G1 H1 h1 s1 a1 r1 => h1 σ G1 H1 a1 _ fun ρs M2 xs G2 H2 h2 s2 a2 r2 =>
    q (ρ :: ρs) M2 (x :: xs) G2 H2 h2 (s1.trans s2) a2 ⟨ρ.mono _ _ _ s2 r1, r2⟩
theorem wk_nil {Φ : List Rep → Ow → Prop} (k : Φ [] M) : WK X E Γ M [] Φ := wk_of pk_nil fun σ G H a Q q => q [] M [] G H k (Same.refl _) a trivial
theorem wk_cons {nm : Option Str} {kpos : Pos} {es : List Keyword} {Φ : List Rep → Ow → Prop} (h : WE X E Γ M e fun ρ M1 => WK X E Γ M1 es fun ρs M2 => Φ (ρ :: ρs) M2) : WK X E Γ M (⟨nm, e, kpos⟩ :: es) Φ :=
  wk_of (pk_cons pe_w pk_w) fun σ G H a Q q => h σ G H a _ fun ρ M1 x G1 H1 h1 s1 a1 r1 => h1 σ G1 H1 a1 _ fun ρs M2 xs G2 H2 h2 s2 a2 r2 =>
    q (ρ :: ρs) M2 (x :: xs) G2 H2 h2 (s1.trans s2) a2 ⟨ρ.mono _ _ _ s2 r1, r2⟩
theorem szOf {n : Nat} (h : n ≤ 100000) : n ≤ sizeLine := Nat.le_trans h (by decide)
theorem we_tup {es : List Expr} {x1} (h : WA X E Γ M es fun ρs M' => ρs.length ≤ 100000 ∧ Φ (RTt ρs) M') : WE X E Γ M (.Tuple es x1 pos) Φ :=
  we_of (pe_tup pa_w) fun σ G H a Q q => h σ G H a _ fun ρs M' vs G1 H1 ⟨hl, hk⟩ s1 a1 r1 => ⟨by rw [← r1.length]; exact szOf hl, fun p hp =>
    let n : New G1 H1 (upd G1 p (.tup vs)) (upd H1 p (.tup vs)) := New.put a1.gh hp
    q _ M' _ _ _ hk (s1.trans n.gg) (a1.new n) ⟨p, vs, rfl, upd_same, r1.mono n.gg⟩⟩
/-- a list, to stay as it is -/
theorem we_lst {es : List Expr} (h : WA X E Γ M es fun ρs M' => ρs.length ≤ 100000 ∧ Φ (RLt ρs) M') : WE X E Γ M (.List es pos) Φ :=
  we_of (pe_lst pa_w) fun σ G H a Q q => h σ G H a _ fun ρs M' vs G1 H1 ⟨hl, hk⟩ s1 a1 r1 => ⟨by rw [← r1.length]; exact szOf hl, fun p hp =>
    let n : New G1 H1 (upd G1 p (.lst vs)) (upd H1 p (.lst vs)) := New.put a1.gh hp
    q _ M' _ _ _ hk (s1.trans n.gg) (a1.new n) ⟨p, vs, rfl, upd_same, r1.mono n.gg⟩⟩
/-- a list, owned -/
theorem we_lstO {es : List Expr} (h : WA X E Γ M es fun ρs M' => ρs.length ≤ 100000 ∧ ∀ p, p ∉ M'.map (·.1) → p ∉ E.M → Φ (RRef p) ((p, OL ρs) :: M')) (hE : ∀ a ∈ E.M, E.H a ≠ none) : WE X E Γ M (.List es pos) Φ :=
  we_of (pe_lst pa_w) fun σ G H a Q q => h σ G H a _ fun ρs M' vs G1 H1 ⟨hl, hk⟩ s1 a1 r1 => ⟨by rw [← r1.length]; exact szOf hl, fun p hp =>
    q _ _ _ _ _ (hk p (a1.freshM hp) fun z => hE p z (a1.fresh hp)) s1 (a1.own1 hp ⟨vs, rfl, r1⟩) rfl⟩

/-! ### subscripts -/
theorem we_ix {r : R2} (hr : IxR X r) (h : WE X E Γ M a fun ρa Ma => WE X E Γ Ma b fun ρb Mb => OpW E Γ Mb r ρa ρb Φ) (hs : PlainIx b := by exact fun _ _ => rfl) : WE X E Γ M (.Subscript a b pos) Φ :=
  we_of (pe_ix hr pe_w pe_w hs) (wte_op h)
/-! ### attributes -/
/-- what a field of a thing is -/
def HasF (K : PySem.W.Frag) (ρ : Rep) (f : Str) (ρf : Rep) : Prop := ∀ v G, ρ.p v G → ∃ a C dx fs w, v = .ref a ∧ G a = some (.ins C dx fs) ∧ Cls K C ∧ NoAttr K C f ∧ fs.lookup f = some w ∧ ρf.p w G
theorem hasF_ins {K : PySem.W.Frag} {C : Addr} {l : List (Str × Rep)} {f : Str} {ρ : Rep} (c : Cls K C) (n : NoAttr K C f) (h : l.lookup f = some ρ) : HasF K (RIns C l) f ρ := fun v G ⟨a, dx, fs, e, hG, r⟩ =>
  let ⟨w, e2, r2⟩ := r.look h; ⟨a, C, dx, fs, w, e, hG, c, n, e2, r2⟩
theorem HasF.sub {K : PySem.W.Frag} {ρ ρ' ρf : Rep} {f : Str} (s : Sub ρ ρ') (h : HasF K ρ' f ρf) : HasF K ρ f ρf := fun v G r => h v G (s v G r)
theorem we_fld {f : Str} (h : WE X E Γ M a fun ρ M' => ∃ ρf, HasF X.K ρ f ρf ∧ Φ ρf M') (hb : attributeBase a f X.env (eval a X.env) = eval a X.env := by rfl) : WE X E Γ M (.Attribute a f pos) Φ :=
  we_of (pe_fld pe_w hb) fun σ G H at' Q q => h σ G H at' _ fun ρ M' v G1 H1 ⟨ρf, hf, hk⟩ s1 a1 r1 =>
    let ⟨b, C, dx, fs, w, e1, e2, c, n, e3, r2⟩ := hf v G1 r1
    ⟨b, C, dx, fs, w, e1, a1.gh _ _ e2, c, n, e3, q ρf M' w G1 H1 hk s1 a1 r2⟩
/-- of an owned object -/
theorem we_fldO {f : Str} (h : WE X E Γ M a fun ρ M' => ∃ p C l ρf u, Sub ρ (RRef p) ∧ Fnd M' p (OIns C l) u ∧ Cls X.K C ∧ NoAttr X.K C f ∧ l.lookup f = some ρf ∧ Φ ρf M') (hb : attributeBase a f X.env (eval a X.env) = eval a X.env := by rfl) : WE X E Γ M (.Attribute a f pos) Φ :=
  we_of (pe_fld pe_w hb) fun σ G H at' Q q => h σ G H at' _ fun ρ M' v G1 H1 ⟨p, C, l, ρf, u, sb, fd, c, n, e3, hk⟩ s1 a1 r1 => by
    obtain ⟨o, e1, dx, fs, e2, r2⟩ := a1.own _ fd.mem
    subst e2
    obtain ⟨w, e4, r4⟩ := r2.look e3
    exact ⟨p, C, dx, fs, w, sb _ _ r1, e1, c, n, e4, q ρf M' w G1 H1 hk s1 a1 r4⟩
/-! ### statements -/
variable {Ψ : Ed} {st : Stmt} {rest : List Stmt}
theorem wss_nil (h : Ψ.nx Γ M) : WSs X E Γ M [] Ψ := wss_of pss_nil fun σ G H a D k => k.nx Γ M h σ G H (Same.refl _) a
theorem wts_seq {t u : TS} (h : WTS E Γ M t { Ψ with nx := fun Γ' M' => WTS E Γ' M' u Ψ }) : WTS E Γ M (tSeq t u) Ψ := fun σ G H a D k =>
  h σ G H a _ ⟨fun Γ' M' h' σ' G' H' s' a' => h' σ' G' H' a' D (k.mono s'), k.rt, k.bk, k.ct⟩
theorem wss_cons (h : WS X E Γ M st { Ψ with nx := fun Γ' M' => WSs X E Γ' M' rest Ψ }) : WSs X E Γ M (st :: rest) Ψ := wss_of (pss_cons ps_w pss_w) (wts_seq h)
theorem wss_one (h : WS X E Γ M st Ψ) : WSs X E Γ M [st] Ψ := wss_of (pss_one ps_w) h
theorem ws_pass (h : Ψ.nx Γ M) : WS X E Γ M (.Pass pos) Ψ := ws_of ps_pass fun σ G H a D k => k.nx Γ M h σ G H (Same.refl _) a
theorem ws_brk (h : Ψ.bk Γ M) : WS X E Γ M (.Break pos) Ψ := ws_of ps_break fun σ G H a D k => k.bk Γ M h σ G H (Same.refl _) a
theorem ws_cont (h : Ψ.ct Γ M) : WS X E Γ M (.Continue pos) Ψ := ws_of ps_continue fun σ G H a D k => k.ct Γ M h σ G H (Same.refl _) a
theorem ws_expr (h : WE X E Γ M e fun _ M' => Ψ.nx Γ M') (hs : swapsWith e none pos.line X.env = pure false := by rfl) : WS X E Γ M (.Expr e pos) Ψ :=
  ws_of (ps_expr pe_w hs) fun σ G H a D k => h σ G H a _ fun ρ M' v G' H' h' s' a' r' => k.nx Γ M' h' σ G' H' s' a'
theorem ws_ret (h : WE X E Γ M e Ψ.rt) : WS X E Γ M (.Return (some e) pos) Ψ :=
  ws_of (ps_ret pe_w) fun σ G H a D k => h σ G H a _ fun ρ M' v G' H' h' s' a' r' => k.rt ρ M' h' v G' H' s' a'.env0 r'
theorem ws_retN (h : Ψ.rt RN M) : WS X E Γ M (.Return none pos) Ψ :=
  ws_of ps_retN fun σ G H a D k => k.rt RN M h _ G H (Same.refl _) a.env0 rfl
theorem ws_if {c : Expr} {b1 b2 : List Stmt} (h : WT X E Γ M c fun k M' => (k = true → WSs X E Γ M' b1 Ψ) ∧ (k = false → WSs X E Γ M' b2 Ψ)) : WS X E Γ M (.If c b1 b2 pos) Ψ :=
  ws_of (ps_if pt_w pss_w pss_w) fun σ G H a D k => h σ G H a _ fun b M' G' H' hk s1 a1 => by
    cases b with
    | true =>
      show tWSs X _ D σ H'
      exact hk.1 rfl σ G' H' a1 D (k.mono s1)
    | false =>
      show tWSs X _ D σ H'
      exact hk.2 rfl σ G' H' a1 D (k.mono s1)
theorem ws_set (i : Nat) {x : Str} {pos' : Pos} (w : Wr1 X i x) (h : WE X E Γ M e fun ρ M' => Ψ.nx (Γ.set i (some ρ)) M') (hs : swapsWith e (some (.Name x pos')) pos.line X.env = pure false := by rfl) : WS X E Γ M (.Assign [.Name x pos'] e pos) Ψ :=
  ws_of (ps_set w.nd w.at_ w.loc pe_w hs w.fn) fun σ G H a D k => h σ G H a _ fun ρ M' v G' H' h' s' a' r' => k.nx _ M' h' _ G' H' s' (a'.set r')
theorem ws_asg {tg : Expr} (h : WE X E Γ M e fun ρ M' => WG X E Γ M' tg ρ Ψ.nx) (hs : swapsWithSole [tg] e pos.line X.env = pure false := by rfl) (hw : swappedStores [tg] e X.env = pure none := by rfl)
    (h1 : (assignEach [tg] X.env).map (·.2) = [assign tg X.env] := by rfl) : WS X E Γ M (.Assign [tg] e pos) Ψ :=
  ws_of (ps_asg pe_w pg_w hs hw h1) fun σ G H a D k => h σ G H a _ fun ρ M' v G' H' h' s' a' r' => h' σ G' H' a' v r' _ fun Γ2 M2 σ2 G2 H2 h2 s2 a2 => k.nx Γ2 M2 h2 σ2 G2 H2 (s'.trans s2) a2
/-- a, b = x, y with plain local names -/
theorem ws_par (i j : Nat) {x y : Str} {px py pt : Pos} {kt k2 pt2} (hc : X.calm = true) (wi : Wr1 X i x) (wj : Wr1 X j y) (hij : i ≠ j) (hx : X.env.scope.names.lookup x = some .local) (hy : X.env.scope.names.lookup y = some .local)
    (hw : swappedStores [.Tuple [.Name x px, .Name y py] kt pt] (.Tuple [a, b] k2 pt2) X.env = pure (some [x, y]))
    (h : WA X E Γ M [a, b] fun ρs M' => ∃ ρ1 ρ2, ρs = [ρ1, ρ2] ∧ Ψ.nx ((Γ.set i (some ρ1)).set j (some ρ2)) M')
    (hs : swapsWithSole [.Tuple [.Name x px, .Name y py] kt pt] (.Tuple [a, b] k2 pt2) pos.line X.env = pure false := by rfl) : WS X E Γ M (.Assign [.Tuple [.Name x px, .Name y py] kt pt] (.Tuple [a, b] k2 pt2) pos) Ψ :=
  ws_of (ps_par hc wi.nd wi.at_ wj.at_ hij hx hy pa_w hw hs) fun σ G H a D k => h σ G H a _ fun ρs M' vs G' H' ⟨ρ1, ρ2, e, h'⟩ s' a' r' => by
    subst e
    match vs, r' with
    | [v, w], ⟨r1, r2, _⟩ => exact ⟨v, w, rfl, k.nx _ M' h' _ G' H' s' ((a'.set r1).set r2)⟩
theorem ws_aug (i : Nat) {x : Str} {pos' : Pos} {op : Operator} {r : R2} (w : Wr1 X i x) (ho : OpR X (inplaceOp op) r) {ρ : Rep} (hΓ : Γ[i]? = some (some ρ)) (h : WE X E Γ M e fun ρb M' => OpW E Γ M' r ρ ρb fun ρ' M2 => Ψ.nx (Γ.set i (some ρ')) M2) :
    WS X E Γ M (.AugAssign (.Name x pos') op e pos) Ψ :=
  ws_of (ps_aug (ti := r) w.nd w.at_ w.loc pe_w (fun pins s σ H x y v u Q I r1 r2 hh => augR ho I r1 r2 hh) w.fn) fun σ G H a D k => by
    obtain ⟨v, e1, r1⟩ := a.env i ρ hΓ
    exact ⟨v, e1, h σ G H a _ fun ρb M' y G' H' h' s' a' r' => h' σ G' H' a' v y (ρ.mono _ _ _ s' r1) r' _ fun ρ2 M2 z G2 H2 h2 s2 a2 r2 => k.nx _ M2 h2 _ G2 H2 (s'.trans s2) (a2.set r2)⟩

/-! ### targets -/
variable {ρ : Rep} {Ξ : Gm → Ow → Prop}
theorem wg_name (i : Nat) {x : Str} (w : Wr1 X i x) (h : Ξ (Γ.set i (some ρ)) M) : WG X E Γ M (.Name x pos) ρ Ξ :=
  wg_of (pg_name w.nd w.at_ w.loc w.fn) fun σ G H a v r Q k => k _ M _ G H h (Same.refl _) (a.set r)
theorem wgs_nil (h : Ξ Γ M) : WGs X E Γ M [] [] Ξ :=
  wgs_of pgs_nil fun σ G H a vs r Q k => by
    match vs, r with
    | [], _ => exact ⟨rfl, k _ M _ G H h (Same.refl _) a⟩
theorem wgs_cons {es : List Expr} {ρs : List Rep} (h : WG X E Γ M e ρ fun Γ' M' => WGs X E Γ' M' es ρs Ξ) (hs : (assignEach (e :: es) X.env).map (·.2) = assign e X.env :: (assignEach es X.env).map (·.2) := by rfl) : WGs X E Γ M (e :: es) (ρ :: ρs) Ξ :=
  wgs_of (pgs_cons pg_w pgs_w hs) fun σ G H a vs r Q k => by
    match vs, r with
    | v :: vs, ⟨r1, r2⟩ => exact ⟨v, vs, rfl, h σ G H a v r1 _ fun Γ' M' σ' G' H' h' s' a' => h' σ' G' H' a' vs (r2.mono s') Q fun Γ2 M2 σ2 G2 H2 h2 s2 a2 => k Γ2 M2 σ2 G2 H2 h2 (s'.trans s2) a2⟩
theorem wg_tup {es : List Expr} {k0 : Nat} {n : Nat} {ρs : List Rep} (hc : X.calm = true) (hsub : Sub ρ (RT X.K ρs)) (hl : ρs.length = n) (h : WGs X E Γ M es ρs Ξ) (hn : (assignEach es X.env).length = n := by rfl) (hst : (assignEach es X.env).findIdx? (·.1) = none := by rfl) : WG X E Γ M (.Tuple es k0 pos) ρ Ξ :=
  wg_of (pg_tup hc pgs_w hn hst) fun σ G H a v r Q k => by
    obtain ⟨b, vs, e, hq, rr⟩ := hsub _ _ r
    exact ⟨b, vs, e, same_seqT a.gh hq, by rw [← rr.length]; exact hl, h σ G H a vs rr Q k⟩
end
end MM

namespace MM
open PySem L2 PyProof.Rows
/-! ### what a def promises -/
structure Con where
  I : Type
  B : Type
  pre : I → Prop
  args : I → List Rep
  own : I → Ow
  post : I → B → Prop
  res : I → B → Rep
  own' : I → B → Ow
structure Aft (G H G' H' : Hp) (o o' : Ow) : Prop where
  gg : Same G G'
  gh : Same G' H'
  keep : ∀ a u, a ∉ o.map (·.1) → H a = some u → H' a = some u
  nw : ∀ a, H a ≠ none → G' a ≠ none → G a ≠ none
  own : ∀ q ∈ o', ∃ u, H' q.1 = some u ∧ q.2.p u G'
  gn : ∀ q ∈ o', G' q.1 = none
  nd : (o'.map (·.1)).Nodup
  loc : ∀ q ∈ o', q.1 ∈ o.map (·.1) ∨ H q.1 = none
  there : ∀ a, H a ≠ none → H' a ≠ none
def conSp (c : Con) : Sp := fun vs H Q _ => ∃ (G : Hp) (i : c.I), Same G H ∧ c.pre i ∧ Reps (c.args i) vs G ∧ (∀ q ∈ c.own i, ∃ o, H q.1 = some o ∧ q.2.p o G) ∧ (∀ q ∈ c.own i, G q.1 = none) ∧ ((c.own i).map (·.1)).Nodup ∧
  ∀ x v G' H', c.post i x → Aft G H G' H' (c.own i) (c.own' i x) → (c.res i x).p v G' → Q v H'
/-- own is picked out of M, rest is left -/
inductive Pk : Ow → Ow → Ow → Prop
  | nil {M : Ow} : Pk M [] M
  | cons {M M1 own rest : Ow} {p : Addr} {r r' : ORep} : Rm M p r M1 → OSub r r' → Pk M1 own rest → Pk M ((p, r') :: own) rest
structure PkF (M ow re : Ow) : Prop where
  own : ∀ q ∈ ow, ∃ q' ∈ M, q'.1 = q.1 ∧ OSub q'.2 q.2
  rest : ∀ q ∈ re, q ∈ M
  dis : ∀ q ∈ re, q.1 ∉ ow.map (·.1)
  nd : (re.map (·.1)).Nodup
  ndo : (ow.map (·.1)).Nodup
theorem Pk.f {M own rest : Ow} (h : Pk M own rest) : (M.map (·.1)).Nodup → PkF M own rest := by
  induction h with
  | nil => exact fun nd => ⟨fun q hq => (List.not_mem_nil hq).elim, fun q hq => hq, fun q _ hq => (List.not_mem_nil hq).elim, nd, List.nodup_nil⟩
  | @cons M M1 own rest p r r' rm os pk ih =>
    intro nd
    obtain ⟨nd1, np⟩ := rm.nd nd
    have f := ih nd1
    refine ⟨fun q hq => ?_, fun q hq => rm.sub q (f.rest q hq), fun q hq hm => ?_, f.nd, ?_⟩
    · rcases List.mem_cons.mp hq with e | hq
      · subst e; exact ⟨_, rm.mem, rfl, os⟩
      · obtain ⟨q', h1, h2⟩ := f.own q hq
        exact ⟨q', rm.sub q' h1, h2⟩
    · rw [List.map_cons, List.mem_cons] at hm
      rcases hm with e | hm
      · exact np (List.mem_map.mpr ⟨q, f.rest q hq, e⟩)
      · exact f.dis q hq hm
    · rw [List.map_cons, List.nodup_cons]
      refine ⟨fun hm => ?_, f.ndo⟩
      obtain ⟨z, hz, e⟩ := List.mem_map.mp hm
      obtain ⟨q', h1, h2, _⟩ := f.own z hz
      exact np (List.mem_map.mpr ⟨q', h1, h2.trans e⟩)
section
variable {E : En} {Γ : Gm} {M own own' rest : Ow} {σ : L2.St} {G H G' H' : Hp}
theorem At.picked (a : At E Γ M σ G H) (pk : Pk M own rest) : (∀ q ∈ own, ∃ o, H q.1 = some o ∧ q.2.p o G) ∧ (∀ q ∈ own, G q.1 = none) ∧ (own.map (·.1)).Nodup := by
  have f := pk.f a.nd
  refine ⟨fun q hq => ?_, fun q hq => ?_, f.ndo⟩
  · obtain ⟨q', h1, h2, h3⟩ := f.own q hq
    obtain ⟨o, e, r⟩ := a.own q' h1
    exact ⟨o, by rw [← h2]; exact e, h3 _ _ r⟩
  · obtain ⟨q', h1, h2, h3⟩ := f.own q hq
    rw [← h2]; exact a.gn q' h1
theorem At.aft (a : At E Γ M σ G H) (pk : Pk M own rest) (t : Aft G H G' H' own own') : At E Γ (own' ++ rest) σ G' H' := by
  have f := pk.f a.nd
  have inM : ∀ x, x ∈ own.map (·.1) → ∃ q ∈ M, q.1 = x := fun x hx => by
    obtain ⟨z, hz, e⟩ := List.mem_map.mp hx
    obtain ⟨q', h1, h2, _⟩ := f.own z hz
    exact ⟨q', h1, h2.trans e⟩
  refine ⟨a.len, fun i ρ h => let ⟨v, e, r⟩ := a.env i ρ h; ⟨v, e, ρ.mono _ _ _ t.gg r⟩, t.gh, fun q hq => ?_, fun q hq => ?_, ?_, a.g0.trans t.gg, fun x o h1 h2 => ?_, fun x h1 h2 => a.nw x h1 (t.nw x (a.there x h1) h2), fun q hq => ?_, fun x h => t.there x (a.there x h)⟩
  · rcases List.mem_append.mp hq with hq | hq
    · exact t.own q hq
    · obtain ⟨o, e, r⟩ := a.own q (f.rest q hq)
      exact ⟨o, t.keep _ _ (f.dis q hq) e, q.2.mono _ _ _ t.gg r⟩
  · rcases List.mem_append.mp hq with hq | hq
    · exact t.gn q hq
    · obtain ⟨o, e, r⟩ := a.own q (f.rest q hq)
      cases z : G' q.1 with
      | none => rfl
      | some u => exact absurd (a.gn q (f.rest q hq)) (t.nw q.1 (ne_none e) (ne_none z))
  · rw [List.map_append, List.nodup_append]
    refine ⟨t.nd, f.nd, fun x hx y hy e => ?_⟩
    obtain ⟨q, hq, e1⟩ := List.mem_map.mp hx
    obtain ⟨z, hz, e2⟩ := List.mem_map.mp hy
    have e3 : q.1 = z.1 := e1.trans (e.trans e2.symm)
    rcases t.loc q hq with h | h
    · exact f.dis z hz (by rw [← e3]; exact h)
    · obtain ⟨o, e4, _⟩ := a.own z (f.rest z hz)
      rw [← e3, h] at e4; cases e4
  · have h3 := a.keep x o h1 h2
    refine t.keep x o (fun hm => ?_) h3
    obtain ⟨q, hq, e⟩ := inM x hm
    rcases a.loc q hq with z | z
    · rw [e] at z; exact h1 z
    · rw [e, h2] at z; cases z
  · rcases List.mem_append.mp hq with hq | hq
    · rcases t.loc q hq with h | h
      · obtain ⟨q', h1, h2⟩ := inM _ h
        rw [← h2]; exact a.loc q' h1
      · exact .inr (a.fresh h)
    · exact a.loc q (f.rest q hq)
end
/-- what is left to show at a call: the values are as the promise asks, the owned things are there; behind it goes on -/
def CallK (c : Con) (ρs : List Rep) (M : Ow) (Φ : Rep → Ow → Prop) : Prop :=
  ∃ (i : c.I) (rest : Ow), c.pre i ∧ SubL ρs (c.args i) ∧ Pk M (c.own i) rest ∧ ∀ x, c.post i x → Φ (c.res i x) (c.own' i x ++ rest)
theorem callK_run {E : En} {Γ : Gm} {M : Ow} {σ : L2.St} {G H : Hp} {c : Con} {ρs : List Rep} {vs : List V} {Φ : Rep → Ow → Prop} {Q : VK} {EE : XK} (h : CallK c ρs M Φ) (a : At E Γ M σ G H) (r : Reps ρs vs G)
    (k : ∀ ρ M' v G' H', Φ ρ M' → Same G G' → At E Γ M' σ G' H' → ρ.p v G' → Q v H') : conSp c vs H Q EE := by
  obtain ⟨i, rest, hp, sb, pk, hk⟩ := h
  obtain ⟨o1, o2, o3⟩ := a.picked pk
  exact ⟨G, i, a.gh, hp, sb.reps r, o1, o2, o3, fun x v G' H' px t rv => k _ _ v G' H' (hk x px) t.gg (a.aft pk t) rv⟩
/-- a def that the module's name x holds; dvs: the defaults that fill up -/
def Kn (P : Program) (w : World) (K : PySem.W.Frag) (mg : Str → Option Value) (base : Heap) (k : Nat) (x : Str) (dvs : List V) (c : Con) : Prop :=
  ∃ (f : Addr) (fd : FuncData) (ps : List Str) (ds : List Value), mg x = some (.ref f) ∧ PySem.W.keepIn K (.ref f) = true ∧ Binds K fd ps ds ∧ Vals dvs ds ∧ FnOk P w K mg base CX0 k f fd ps (conSp c)
theorem reps_RV {G : Hp} : ∀ dvs : List V, Reps (dvs.map RV) dvs G
  | [] => trivial
  | _ :: dvs => ⟨rfl, reps_RV dvs⟩
section
variable {X : Cx} {E : En} {Γ : Gm} {M : Ow} {a b e : Expr} {es : List Expr} {pos p apos : Pos} {Φ : Rep → Ow → Prop} {k : Nat} {x : Str} {dvs : List V} {c : Con}
theorem we_call (F : Kn X.prog X.w X.K X.mg X.base k x dvs c) (hr : Room k X.A) (hg : Gl X x) (hx : Passes CX0 X E0)
    (h : WA X E Γ M (e :: es) fun ρs M' => CallK c (ρs ++ dvs.map RV) M' Φ)
    (hdb : (x == ("__debug__" : Str)) = false := by decide) (he : starEach (e :: es) X.env = (false, eval e X.env) :: starEach es X.env := by rfl) (hpl : (backTo pos (starEach es X.env)).any (·.1) = false := by rfl) :
    WE X E Γ M (.Call (.Name x p) (e :: es) [] pos) Φ := by
  obtain ⟨f, fd, ps, ds, hm, hk, hb, hd, F⟩ := F
  refine we_of (pe_call F hr hg hm hk hb hd hx pa_w hdb he hpl) fun σ G H a Q q => ?_
  exact h σ G H a _ fun ρs M' vs G1 H1 hh s1 a1 r1 => callK_run hh a1 (r1.app (reps_RV dvs)) fun ρ M2 v G2 H2 h2 s2 => q ρ M2 v G2 H2 h2 (s1.trans s2)
theorem we_call0 (F : Kn X.prog X.w X.K X.mg X.base k x dvs c) (hr : Room k X.A) (hg : Gl X x) (hx : Passes CX0 X E0)
    (h : CallK c (dvs.map RV) M Φ) (hdb : (x == ("__debug__" : Str)) = false := by decide) : WE X E Γ M (.Call (.Name x p) [] [] pos) Φ := by
  obtain ⟨f, fd, ps, ds, hm, hk, hb, hd, F⟩ := F
  refine we_of (pe_call0 F hr hg hm hk hb hd hx hdb) fun σ G H a Q q => ?_
  show conSp c ([] ++ dvs) H Q E0
  exact callK_run h a (reps_RV dvs) q
/-! ### methods of own classes -/
def KnM (P : Program) (w : World) (K : PySem.W.Frag) (mg : Str → Option Value) (base : Heap) (k : Nat) (C : Addr) (m : Str) (dvs : List V) (c : Con) : Prop :=
  ∃ (f : Addr) (fd : FuncData) (ps : List Str) (ds : List Value), Meth K C m f ∧ Cls K C ∧ Binds K fd ps ds ∧ Vals dvs ds ∧ FnOk P w K mg base CX0 k f fd ps (conSp c)
def HasI (ρ : Rep) (C : Addr) (m : Str) : Prop := ∀ v G, ρ.p v G → ∃ a dx fs, v = .ref a ∧ G a = some (.ins C dx fs) ∧ fs.lookup m = none
theorem hasI_ins {C : Addr} {l : List (Str × Rep)} {m : Str} (h : l.lookup m = none) : HasI (RIns C l) C m := fun v G ⟨a, dx, fs, e, hG, r⟩ => ⟨a, dx, fs, e, hG, r.miss h⟩
theorem HasI.sub {ρ ρ' : Rep} {C : Addr} {m : Str} (s : Sub ρ ρ') (h : HasI ρ' C m) : HasI ρ C m := fun v G r => h v G (s v G r)
theorem we_meth {C : Addr} {m : Str} {o : Expr} {pl : Sem Bool} (F : KnM X.prog X.w X.K X.mg X.base k C m dvs c) (hr : Room k X.A) (hx : Passes CX0 X E0)
    (h : WE X E Γ M o fun ρ M1 => HasI ρ C m ∧ WA X E Γ M1 (e :: es) fun ρs M' => CallK c (ρ :: (ρs ++ dvs.map RV)) M' Φ)
    (hst : starEach (e :: es) X.env = (false, eval e X.env) :: starEach es X.env := by rfl) (hpl : (backTo pos (starEach es X.env)).any (·.1) = false := by rfl)
    (ht : eval (.Call (.Attribute o m apos) (e :: es) [] pos) X.env = (do
      let ov ← eval o X.env
      standAt apos.atName
      let (f, first) ← holding [ov] (getMethod ov m pl)
      callWith pos f first (backTo pos (starEach (e :: es) X.env)) (backToKw pos (keywordEach [] X.env))) := by rfl) :
    WE X E Γ M (.Call (.Attribute o m apos) (e :: es) [] pos) Φ := by
  obtain ⟨f, fd, ps, ds, hm, hc, hb, hd, F⟩ := F
  refine we_of (pe_meth pe_w hc hm F hr hb hd hx pa_w hst hpl ht) fun σ G H a Q q => ?_
  exact h σ G H a _ fun ρ M1 v G1 H1 ⟨hi, h1⟩ s1 a1 r1 => by
    obtain ⟨b, dx, fs, e1, e2, e3⟩ := hi v G1 r1
    refine ⟨b, dx, fs, e1, a1.gh _ _ e2, e3, h1 σ G1 H1 a1 _ fun ρs M' vs G2 H2 hh s2 a2 r2 => ?_⟩
    exact callK_run hh a2 ⟨ρ.mono _ _ _ s2 r1, r2.app (reps_RV dvs)⟩ fun ρ' M3 w G3 H3 h3 s3 => q ρ' M3 w G3 H3 h3 ((s1.trans s2).trans s3)
theorem we_meth0 {C : Addr} {m : Str} {o : Expr} {pl : Sem Bool} (F : KnM X.prog X.w X.K X.mg X.base k C m dvs c) (hr : Room k X.A) (hx : Passes CX0 X E0)
    (h : WE X E Γ M o fun ρ M1 => HasI ρ C m ∧ CallK c (ρ :: dvs.map RV) M1 Φ)
    (ht : eval (.Call (.Attribute o m apos) [] [] pos) X.env = (do
      let ov ← eval o X.env
      standAt apos.atName
      let (f, first) ← holding [ov] (getMethod ov m pl)
      callWith pos f first (backTo pos (starEach [] X.env)) (backToKw pos (keywordEach [] X.env))) := by rfl) :
    WE X E Γ M (.Call (.Attribute o m apos) [] [] pos) Φ := by
  obtain ⟨f, fd, ps, ds, hm, hc, hb, hd, F⟩ := F
  refine we_of (pe_meth0 pe_w hc hm F hr hb hd hx ht) fun σ G H a Q q => ?_
  exact h σ G H a _ fun ρ M1 v G1 H1 ⟨hi, h1⟩ s1 a1 r1 => by
    obtain ⟨b, dx, fs, e1, e2, e3⟩ := hi v G1 r1
    refine ⟨b, dx, fs, e1, a1.gh _ _ e2, e3, ?_⟩
    show conSp c (v :: ([] ++ dvs)) H1 Q E0
    exact callK_run h1 a1 ⟨r1, reps_RV dvs⟩ fun ρ' M3 w G3 H3 h3 s3 => q ρ' M3 w G3 H3 h3 (s1.trans s3)
/-! ### a new object -/
def KnC (P : Program) (w : World) (K : PySem.W.Frag) (mg : Str → Option Value) (base : Heap) (k : Nat) (x : Str) (C : Addr) (dvs : List V) (c : Con) : Prop :=
  ∃ (f : Addr) (fd : FuncData) (ps : List Str) (ds : List Value), mg x = some (.ref C) ∧ Mk K C f ∧ Binds K fd ps ds ∧ Vals dvs ds ∧ FnOk P w K mg base CX0 k f fd ps (conSp c)
/-- __init__ is called on a new thing at p; behind it the thing is to stay as it is -/
def MakeK (E : En) (C : Addr) (c : Con) (ρs : List Rep) (M : Ow) (Φ : Rep → Ow → Prop) : Prop :=
  ∀ p, p ∉ M.map (·.1) → p ∉ E.M → CallK c (RRef p :: ρs) ((p, OIns C []) :: M) fun ρ M' => Sub ρ RN ∧ ∃ l M2, Rm M' p (OIns C l) M2 ∧ Φ (RIns C l) M2
/-- .. or to stay owned -/
def MakeO (E : En) (C : Addr) (c : Con) (ρs : List Rep) (M : Ow) (Φ : Rep → Ow → Prop) : Prop :=
  ∀ p, p ∉ M.map (·.1) → p ∉ E.M → CallK c (RRef p :: ρs) ((p, OIns C []) :: M) fun ρ M' => Sub ρ RN ∧ Φ (RRef p) M'
theorem make_run {C : Addr} {σ : L2.St} {G H : Hp} {ρs : List Rep} {vs : List V} {Q : VK} (hE : ∀ a ∈ E.M, E.H a ≠ none) (h : MakeK E C c ρs M Φ) (a : At E Γ M σ G H) (r : Reps ρs vs G)
    (q : ∀ ρ M' v G' H', Φ ρ M' → Same G G' → At E Γ M' σ G' H' → ρ.p v G' → Q v H') :
    ∀ x dx, H x = none → H dx = none → dx ≠ x → conSp c (.ref x :: vs) (upd (upd H dx (.own x)) x (.ins C dx [])) (fun v H2 => v = .non ∧ Q (.ref x) H2) E0 := fun x dx nx nd ne => by
  have n1 : New G H G (upd H dx (.own x)) := New.side a.gh nd
  have a1 := a.new n1
  have nx1 : upd H dx (.own x) x = none := by rw [upd_ne (Ne.symm ne)]; exact nx
  have hpE : x ∉ E.M := fun z => hE x z (a.fresh nx)
  have a2 := a1.own1 (r := OIns C []) nx1 ⟨dx, [], rfl, trivial⟩
  refine callK_run (h x (a.freshM nx) hpE) a2 ⟨rfl, r⟩ fun ρ M' v G' H' ⟨sb, l, M2, rm, hΦ⟩ s' a' r' => ⟨sb _ _ r', ?_⟩
  obtain ⟨o, e1, ⟨dx', fs, e2, rf⟩, sg, a3⟩ := a'.freeze rm hpE
  subst e2
  exact q _ _ _ _ _ hΦ (s'.trans sg) a3 ⟨x, dx', fs, rfl, upd_same, rf.mono sg⟩
theorem makeO_run {C : Addr} {σ : L2.St} {G H : Hp} {ρs : List Rep} {vs : List V} {Q : VK} (hE : ∀ a ∈ E.M, E.H a ≠ none) (h : MakeO E C c ρs M Φ) (a : At E Γ M σ G H) (r : Reps ρs vs G)
    (q : ∀ ρ M' v G' H', Φ ρ M' → Same G G' → At E Γ M' σ G' H' → ρ.p v G' → Q v H') :
    ∀ x dx, H x = none → H dx = none → dx ≠ x → conSp c (.ref x :: vs) (upd (upd H dx (.own x)) x (.ins C dx [])) (fun v H2 => v = .non ∧ Q (.ref x) H2) E0 := fun x dx nx nd ne => by
  have n1 : New G H G (upd H dx (.own x)) := New.side a.gh nd
  have a1 := a.new n1
  have nx1 : upd H dx (.own x) x = none := by rw [upd_ne (Ne.symm ne)]; exact nx
  have hpE : x ∉ E.M := fun z => hE x z (a.fresh nx)
  have a2 := a1.own1 (r := OIns C []) nx1 ⟨dx, [], rfl, trivial⟩
  exact callK_run (h x (a.freshM nx) hpE) a2 ⟨rfl, r⟩ fun ρ M' v G' H' ⟨sb, hΦ⟩ s' a' r' => ⟨sb _ _ r', q _ _ _ _ _ hΦ s' a' rfl⟩
theorem we_make {C : Addr} (F : KnC X.prog X.w X.K X.mg X.base k x C dvs c) (hr : Room (k + 1) X.A) (hg : Gl X x) (hx : Passes CX0 X E0) (hE : ∀ a ∈ E.M, E.H a ≠ none)
    (h : WA X E Γ M (e :: es) fun ρs M' => MakeK E C c (ρs ++ dvs.map RV) M' Φ)
    (hdb : (x == ("__debug__" : Str)) = false := by decide) (he : starEach (e :: es) X.env = (false, eval e X.env) :: starEach es X.env := by rfl) (hpl : (backTo pos (starEach es X.env)).any (·.1) = false := by rfl) :
    WE X E Γ M (.Call (.Name x p) (e :: es) [] pos) Φ := by
  obtain ⟨f, fd, ps, ds, hm, Mk, hb, hd, F⟩ := F
  refine we_of (pe_make Mk F hr hg hm hb hd hx pa_w hdb he hpl) fun σ G H a Q q => ?_
  exact h σ G H a _ fun ρs M' vs G1 H1 hh s1 a1 r1 => make_run hE hh a1 (r1.app (reps_RV dvs)) fun ρ M2 v G2 H2 h2 s2 => q ρ M2 v G2 H2 h2 (s1.trans s2)
theorem we_makeO {C : Addr} (F : KnC X.prog X.w X.K X.mg X.base k x C dvs c) (hr : Room (k + 1) X.A) (hg : Gl X x) (hx : Passes CX0 X E0) (hE : ∀ a ∈ E.M, E.H a ≠ none)
    (h : WA X E Γ M (e :: es) fun ρs M' => MakeO E C c (ρs ++ dvs.map RV) M' Φ)
    (hdb : (x == ("__debug__" : Str)) = false := by decide) (he : starEach (e :: es) X.env = (false, eval e X.env) :: starEach es X.env := by rfl) (hpl : (backTo pos (starEach es X.env)).any (·.1) = false := by rfl) :
    WE X E Γ M (.Call (.Name x p) (e :: es) [] pos) Φ := by
  obtain ⟨f, fd, ps, ds, hm, Mk, hb, hd, F⟩ := F
  refine we_of (pe_make Mk F hr hg hm hb hd hx pa_w hdb he hpl) fun σ G H a Q q => ?_
  exact h σ G H a _ fun ρs M' vs G1 H1 hh s1 a1 r1 => makeO_run hE hh a1 (r1.app (reps_RV dvs)) fun ρ M2 v G2 H2 h2 s2 => q ρ M2 v G2 H2 h2 (s1.trans s2)

/-! ### stores into owned things -/
variable {Ψ : Ed} {Ξ : Gm → Ow → Prop}
theorem putR_new {f : Str} {ρ : Rep} : ∀ {l : List (Str × Rep)}, l.lookup f = none → putR f ρ l = l ++ [(f, ρ)]
  | [], _ => rfl
  | (g, r) :: l, h => by
    rw [List.lookup_cons] at h
    cases q : f == g with
    | true => rw [q] at h; simp at h
    | false =>
      rw [q] at h
      have ne : ¬ g = f := fun z => by subst z; simp at q
      unfold putR
      rw [if_neg ne, putR_new (l := l) h]; rfl
theorem ws_fld {o value : Expr} {f : Str} {pos' : Pos} (h : WE X E Γ M value fun ρv M1 => WE X E Γ M1 o fun ρo M2 => ∃ p C l u, Sub ρo (RRef p) ∧ Fnd M2 p (OIns C l) u ∧ Cls X.K C ∧ NoAttr X.K C f ∧ l.length < 1000 ∧ Ψ.nx Γ (u (OIns C (putR f ρv l))))
    (hs : swapsWith value (some (.Attribute o f pos')) pos.line X.env = pure false := by rfl) : WS X E Γ M (.Assign [.Attribute o f pos'] value pos) Ψ :=
  ws_of (ps_fld pe_w pe_w hs) fun σ G H a D k => h σ G H a _ fun ρv M1 v G1 H1 h1 s1 a1 r1 => h1 σ G1 H1 a1 _ fun ρo M2 y G2 H2 ⟨p, C, l, u, sb, fd, cl, na, hl, hk⟩ s2 a2 r2 => by
    obtain ⟨o, e1, dx, fs, e2, rf⟩ := a2.own _ fd.mem
    subst e2
    refine ⟨p, C, dx, fs, sb _ _ r2, e1, cl, na, by rw [← rf.len]; exact hl, ?_⟩
    exact k.nx _ _ hk _ _ _ (s1.trans s2) (a2.write fd ⟨dx, _, rfl, rf.put (ρv.mono _ _ _ s2 r1)⟩)
theorem wg_setL {o i : Expr} {ρ : Rep} (h : WE X E Γ M o fun ρo M1 => WE X E Γ M1 i fun ρi M2 => ∃ p ρs z j u, Sub ρo (RRef p) ∧ Sub ρi (RI z) ∧ Fnd M2 p (OL ρs) u ∧ ixN ρs.length z = some j ∧ Ξ Γ (u (OL (ρs.set j ρ))))
    (ha : ∀ v, assign (.Subscript o i pos) X.env v = (do
      let ov ← holding [v] (eval o X.env)
      let iv ← holding [v, ov] (eval i X.env)
      standAt pos
      holding [v, ov, iv] (setItem ov iv v)
      release [v, ov, iv] []) := by intro _; rfl) : WG X E Γ M (.Subscript o i pos) ρ Ξ :=
  wg_of (pg_sub pe_w pe_w set_list ha) fun σ G H a v r Q k => h σ G H a _ fun ρo M1 y G1 H1 h1 s1 a1 r1 => h1 σ G1 H1 a1 _ fun ρi M2 w G2 H2 ⟨p, ρs, z, j, u, sb, si, fd, hj, hk⟩ s2 a2 r2 => by
    obtain ⟨o, e1, vs, e2, rf⟩ := a2.own _ fd.mem
    subst e2
    refine ⟨p, vs, z, j, sb _ _ (ρo.mono _ _ _ s2 r1), si _ _ r2, e1, by rw [← rf.length]; exact hj, ?_⟩
    exact k _ _ _ _ _ hk (s1.trans s2) (a2.write fd ⟨_, rfl, rf.set (ρ.mono _ _ _ (s1.trans s2) r) j⟩)
/-! ### methods of built-in types -/
def MtW (E : En) (Γ : Gm) (M : Ow) (r : V → List V → Hp → VK → Prop) (ρo : Rep) (ρs : List Rep) (Φ : Rep → Ow → Prop) : Prop :=
  ∀ σ G H, At E Γ M σ G H → ∀ x vs, ρo.p x G → Reps ρs vs G → ∀ Q : VK, (∀ ρ M' v G' H', Φ ρ M' → Same G G' → At E Γ M' σ G' H' → ρ.p v G' → Q v H') → r x vs H Q
def TyW (E : En) (Γ : Gm) (M : Ow) (K : PySem.W.Frag) (T : String) (ρo : Rep) : Prop := ∀ σ G H, At E Γ M σ G H → ∀ x, ρo.p x G → tyV K T x H
theorem we_bm {o : Expr} {name : Str} {T id : String} {r : V → List V → Hp → VK → Prop} (pa : PlainAttrs T) (slot : Slot T name id) (hty : typeOf (.builtin id) = pure (.type "method_descriptor")) (hm : MtR X id r)
    (h : WE X E Γ M o fun ρo M1 => TyW E Γ M1 X.K T ρo ∧ WA X E Γ M1 (e :: es) fun ρs M2 => MtW E Γ M2 r ρo ρs Φ)
    (hbase : attributeBase o name X.env (eval o X.env) = eval o X.env := by rfl)
    (hfew : ((backTo pos (starEach (e :: es) X.env)).all (fun x => !x.1) && (backToKw pos (keywordEach [] X.env)).all (fun x => x.1.isSome)
      && decide ((e :: es).length + ([] : List Keyword).length + (if ([] : List Keyword).isEmpty then 0 else 1) < 30)) = true := by rfl)
    (hline : (apos.endLine == pos.line) = true := by rfl) (hs : starEach (e :: es) X.env = (false, eval e X.env) :: starEach es X.env := by rfl) (hplain : (backTo pos (starEach es X.env)).any (·.1) = false := by rfl) :
    WE X E Γ M (.Call (.Attribute o name apos) (e :: es) [] pos) Φ :=
  we_of (pe_bm pa slot hty hm pe_w pa_w hbase hfew hline hs hplain) fun σ G H a Q q => h σ G H a _ fun ρo M1 y G1 H1 ⟨ty, h1⟩ s1 a1 r1 =>
    ⟨ty σ G1 H1 a1 y r1, h1 σ G1 H1 a1 _ fun ρs M2 vs G2 H2 h2 s2 a2 r2 => h2 σ G2 H2 a2 y vs (ρo.mono _ _ _ s2 r1) r2 Q fun ρ M3 v G3 H3 h3 s3 => q ρ M3 v G3 H3 h3 ((s1.trans s2).trans s3)⟩
theorem we_bm0 {o : Expr} {name : Str} {T id : String} {r : V → List V → Hp → VK → Prop} (pa : PlainAttrs T) (slot : Slot T name id) (hty : typeOf (.builtin id) = pure (.type "method_descriptor")) (hm : MtR X id r)
    (h : WE X E Γ M o fun ρo M1 => TyW E Γ M1 X.K T ρo ∧ MtW E Γ M1 r ρo [] Φ)
    (hbase : attributeBase o name X.env (eval o X.env) = eval o X.env := by rfl) (hline : (apos.endLine == pos.line) = true := by rfl) :
    WE X E Γ M (.Call (.Attribute o name apos) [] [] pos) Φ :=
  we_of (pe_bm0 pa slot hty hm pe_w hbase hline) fun σ G H a Q q => h σ G H a _ fun ρo M1 y G1 H1 ⟨ty, h1⟩ s1 a1 r1 =>
    ⟨ty σ G1 H1 a1 y r1, h1 σ G1 H1 a1 y [] r1 trivial Q fun ρ M3 v G3 H3 h3 s3 => q ρ M3 v G3 H3 h3 (s1.trans s3)⟩
theorem tyw_str {K : PySem.W.Frag} {s : Str} : TyW E Γ M K "str" (RS s) := fun σ G H a x h => by
  have h : x = .str s := h
  subst h; rfl
theorem tyw_listO {K : PySem.W.Frag} {p : Addr} {ρ : Rep} {ρs : List Rep} {u : ORep → Ow} (sb : Sub ρ (RRef p)) (fd : Fnd M p (OL ρs) u) : TyW E Γ M K "list" ρ := fun σ G H a x h => by
  have h : x = .ref p := sb _ _ h
  subst h
  obtain ⟨o, e1, vs, e2, rf⟩ := a.own _ fd.mem
  subst e2
  exact .inl ⟨rfl, _, SqL.of e1⟩
theorem tyw_list {K : PySem.W.Frag} {ρ : Rep} {ρs : List Rep} (sb : Sub ρ (RL K ρs)) : TyW E Γ M K "list" ρ := fun σ G H a x h => by
  obtain ⟨b, vs, e, hq, _⟩ := sb _ _ h
  subst e
  exact .inl ⟨rfl, _, Same.seq a.gh hq⟩
theorem mtw_append {p : Addr} {ρo ρ : Rep} {ρs : List Rep} {u : ORep → Ow} (sb : Sub ρo (RRef p)) (fd : Fnd M p (OL ρs) u) (hl : ρs.length < 100000) (k : Φ RN (u (OL (ρs ++ [ρ])))) : MtW E Γ M rAppend ρo [ρ] Φ := fun σ G H a x vs hx hv Q q => by
  obtain ⟨o, e1, ws, e2, rf⟩ := a.own _ fd.mem
  subst e2
  match vs, hv with
  | [v], ⟨r, _⟩ =>
    exact ⟨p, ws, v, sb _ _ hx, rfl, e1, Nat.lt_of_lt_of_le (by rw [← rf.length]; exact hl) (szOf (Nat.le_refl _)), q _ _ _ _ _ k (Same.refl _) (a.write fd ⟨_, rfl, rf.app ⟨r, trivial⟩⟩) rfl⟩
/-! ### built-in functions -/
def CaW (E : En) (Γ : Gm) (M : Ow) (r : List V → Hp → VK → Prop) (ρs : List Rep) (Φ : Rep → Ow → Prop) : Prop :=
  ∀ σ G H, At E Γ M σ G H → ∀ vs, Reps ρs vs G → ∀ Q : VK, (∀ ρ M' v G' H', Φ ρ M' → Same G G' → At E Γ M' σ G' H' → ρ.p v G' → Q v H') → r vs H Q
def CaV (r : List V → Hp → VK → Prop) (ρs : List Rep) (ρ : Rep) : Prop := ∀ vs G H, Same G H → Reps ρs vs G → ∀ Q : VK, (∀ v G' H', New G H G' H' → ρ.p v G' → Q v H') → r vs H Q
theorem caw_of {r : List V → Hp → VK → Prop} {ρs : List Rep} {ρ : Rep} (h : CaV r ρs ρ) (k : Φ ρ M) : CaW E Γ M r ρs Φ := fun σ G H a vs hv Q q =>
  h vs G H a.gh hv Q fun v G' H' n hr => q ρ M v G' H' k n.gg (a.new n) hr
theorem we_callB {id : String} {r : List V → Hp → VK → Prop} (hc : CallR X (.builtin id) r) (hg : Gl X x) (hm : X.mg x = none) (hv : bootBuiltins x = some (.builtin id)) (h : WA X E Γ M (e :: es) fun ρs M' => CaW E Γ M' r ρs Φ) (hn : x ≠ "__name__" := by decide) (hdb : (x == ("__debug__" : Str)) = false := by decide)
    (he : starEach (e :: es) X.env = (false, eval e X.env) :: starEach es X.env := by rfl) (hpl : (backTo pos (starEach es X.env)).any (·.1) = false := by rfl) : WE X E Γ M (.Call (.Name x p) (e :: es) [] pos) Φ :=
  we_of (pe_callB hc hg hm hv pa_w hn hdb he hpl) fun σ G H a Q q => h σ G H a _ fun ρs M1 vs G1 H1 h1 s1 a1 r1 => h1 σ G1 H1 a1 vs r1 Q fun ρ M3 v G3 H3 h3 s3 => q ρ M3 v G3 H3 h3 (s1.trans s3)
theorem we_callTy {T : String} {r : List V → Hp → VK → Prop} (hc : CallR X (.type T) r) (hg : Gl X x) (hm : X.mg x = none) (hv : bootBuiltins x = some (.type T)) (h : WA X E Γ M (e :: es) fun ρs M' => CaW E Γ M' r ρs Φ) (hn : x ≠ "__name__" := by decide) (hdb : (x == ("__debug__" : Str)) = false := by decide)
    (he : starEach (e :: es) X.env = (false, eval e X.env) :: starEach es X.env := by rfl) (hpl : (backTo pos (starEach es X.env)).any (·.1) = false := by rfl) : WE X E Γ M (.Call (.Name x p) (e :: es) [] pos) Φ :=
  we_of (pe_callTy hc hg hm hv pa_w hn hdb he hpl) fun σ G H a Q q => h σ G H a _ fun ρs M1 vs G1 H1 h1 s1 a1 r1 => h1 σ G1 H1 a1 vs r1 Q fun ρ M3 v G3 H3 h3 s3 => q ρ M3 v G3 H3 h3 (s1.trans s3)

/-! ### a def keeps its promise -/
def startG (N : List Str) (ρs : List Rep) : Gm := ρs.map some ++ List.replicate (N.length - ρs.length) none
/-- at a return -/
def Rt (c : Con) (i : c.I) : Rep → Ow → Prop := fun ρ M => ∃ x rest, c.post i x ∧ Sub ρ (c.res i x) ∧ Pk M (c.own' i x) rest
def EdOf (c : Con) (i : c.I) : Ed := { nx := fun _ M => Rt c i RN M, rt := Rt c i }
theorem start_env {N : List Str} {G : Hp} {ρs : List Rep} {vs : List V} (r : Reps ρs vs G) : ∀ (i : Nat) (ρ : Rep), (startG N ρs)[i]? = some (some ρ) → ∃ v, (L2.start N vs)[i]? = some (some v) ∧ ρ.p v G := fun i ρ h => by
  have hl := r.length
  unfold startG at h
  unfold L2.start
  by_cases hi : i < ρs.length
  · rw [List.getElem?_append_left (by simpa using hi), List.getElem?_map] at h
    rw [List.getElem?_append_left (by simpa [← hl] using hi), List.getElem?_map]
    have e : ρs[i]? = some ρ := by simpa using h
    obtain ⟨v, e2, r2⟩ := r.get e
    exact ⟨v, by rw [e2]; rfl, r2⟩
  · rw [List.getElem?_append_right (by simp; omega)] at h
    by_cases h2 : i - (ρs.map some).length < N.length - ρs.length
    · rw [List.getElem?_replicate, if_pos h2] at h; cases h
    · rw [List.getElem?_eq_none (by simp at h2 ⊢; omega)] at h; cases h
abbrev xd (P : Program) (w : World) (K : PySem.W.Frag) (mg : Str → Option Value) (base : Heap) (N : List Str) (qual : Str) (sc : Scope) (f : Addr) (cd : Value) (A : Around) (outer : List Env) (s : Shared) (H : Hp) (EE : XK) : Cx :=
  (cxOf CX0 P w K mg base N qual sc f cd A outer s H EE).nox
theorem fn_con {P : Program} {w : World} {K : PySem.W.Frag} {mg : Str → Option Value} {base : Heap} {x qual : Str} {st : Stmt} {f : Addr} {fd : FuncData} {N ps : List Str} {k : Nat} (c : Con) (F : Fun K x qual st f fd) (S : FnScope N ps (defScope st)) (hl : ∀ i, (c.args i).length = ps.length)
    (h : ∀ (cd : Value) (A : Around) (outer : List Env) (s : Shared) (H : Hp) (EE : XK) (G : Hp) (i : c.I), c.pre i → Room k (A.deeper (PyProof.Rows.envOfC qual (defScope st) s.heap.objs.size f cd)) → (∀ a ∈ (c.own i).map (·.1), H a ≠ none) →
      WSs (xd P w K mg base N qual (defScope st) f cd A outer s H EE) ⟨G, H, (c.own i).map (·.1)⟩ (startG N (c.args i)) (c.own i) (defBody st) (EdOf c i)) : FnOk P w K mg base CX0 (k + 1) f fd ps (conSp c) := by
  refine F.ok S (fun vs H Q EE hh => ?_) fun cdv A outer s H vs Q EE hr hh => ?_
  · obtain ⟨G, i, _, _, r, _⟩ := hh
    rw [← r.length]; exact hl i
  · obtain ⟨G, i, gh, hp, r, o1, o2, o3, kk⟩ := hh
    refine ⟨tWSs _ (defBody st), pss_w, ?_⟩
    have hE : ∀ a ∈ (c.own i).map (·.1), H a ≠ none := fun a ha => by
      obtain ⟨q, hq, e⟩ := List.mem_map.mp ha
      obtain ⟨o, e2, _⟩ := o1 q hq
      rw [← e, e2]; simp
    have a0 : At ⟨G, H, (c.own i).map (·.1)⟩ (startG N (c.args i)) (c.own i) (L2.start N vs) G H :=
      ⟨by simp [startG, L2.start, r.length], start_env r, gh, o1, o2, o3, Same.refl _, fun _ _ _ e => e, fun _ _ hg => hg, fun q hq => .inl (List.mem_map.mpr ⟨q, hq, rfl⟩), fun _ h => h⟩
    have fin : ∀ ρ M, Rt c i ρ M → ∀ v G' H', At ⟨G, H, (c.own i).map (·.1)⟩ [] M [] G' H' → ρ.p v G' → Q v H' := fun ρ M ⟨x, rest, px, sb, pk⟩ v G' H' a rv => by
      obtain ⟨p1, p2, p3⟩ := a.picked pk
      have fm := pk.f a.nd
      refine kk x v G' H' px ⟨a.g0, a.gh, fun b u h1 h2 => a.keep b u h1 h2, fun b h1 h2 => a.nw b h1 h2, p1, p2, p3, fun q hq => ?_, fun b hb => a.there b hb⟩ (sb _ _ rv)
      obtain ⟨q', h1, h2, _⟩ := fm.own q hq
      rw [← h2]; exact a.loc q' h1
    exact h cdv A outer s H EE G i hp hr hE (L2.start N vs) G H a0 _ ⟨fun Γ M h' σ G' H' _ a' => fin _ _ h' _ _ _ a'.env0 rfl, fun ρ M h' v G' H' _ a' rv => fin _ _ h' _ _ _ a' rv, fun _ _ h' => h'.elim, fun _ _ h' => h'.elim⟩
end
end MM

namespace MM
open PySem L2 PyProof.Rows
section
variable {X : Cx} {E : En} {Γ : Gm} {M : Ow} {a b e c tg iter elt : Expr} {es : List Expr} {pos p apos : Pos} {Φ : Rep → Ow → Prop} {Ψ : Ed} {body : List Stmt}
theorem ws_while (hp : PassesOwn (model X.prog X.w) X.A X.env X.xe) (I : Nat → Gm → Ow → Prop) (n0 : Nat) (h0 : I n0 Γ M)
    (hs : ∀ n Γ1 M1, I n Γ1 M1 → WT X E Γ1 M1 c fun k M2 => (k = true → WSs X E Γ1 M2 body { nx := fun Γ3 M3 => ∃ m, m < n ∧ I m Γ3 M3, ct := fun Γ3 M3 => ∃ m, m < n ∧ I m Γ3 M3, bk := Ψ.nx, rt := Ψ.rt }) ∧ (k = false → Ψ.nx Γ1 M2)) :
    WS X E Γ M (.While c body [] pos) Ψ :=
  ws_of (ps_while hp pt_w pss_w) fun σ G H a D k => by
    refine ⟨fun m σ H => ∃ Γ1 M1 G1, I m Γ1 M1 ∧ Same G G1 ∧ At E Γ1 M1 σ G1 H, ⟨n0, Γ, M, G, h0, Same.refl _, a⟩, ?_⟩
    rintro m σ1 H1 ⟨Γ1, M1, G1, hI, s1, a1⟩
    refine hs m Γ1 M1 hI σ1 G1 H1 a1 _ fun b M2 G2 H2 hk s2 a2 => ?_
    cases b with
    | false =>
      show D.nx σ1 H2
      exact k.nx _ _ (hk.2 rfl) _ _ _ (s1.trans s2) a2
    | true =>
      show ∃ N : L2.St → Hp → Prop, _
      refine ⟨fun σ' H' => ∃ m', m' < m ∧ ∃ Γ1 M1 G1, I m' Γ1 M1 ∧ Same G G1 ∧ At E Γ1 M1 σ' G1 H', fun σ' H' h => h, ?_⟩
      have ks := k.mono (s1.trans s2)
      exact hk.1 rfl σ1 G2 H2 a2 _ ⟨fun Γ3 M3 ⟨m', hm, hI'⟩ σ' G' H' s' a' => ⟨m', hm, Γ3, M3, G', hI', (s1.trans s2).trans s', a'⟩, ks.rt, ks.nx, fun Γ3 M3 ⟨m', hm, hI'⟩ σ' G' H' s' a' => ⟨m', hm, Γ3, M3, G', hI', (s1.trans s2).trans s', a'⟩⟩
/-- what a for asks: the invariant by the turn -/
def ForK (X : Cx) (E : En) (Γ : Gm) (M : Ow) (tg : Expr) (body : List Stmt) (Ψ : Ed) (n : Nat) (item : Nat → Rep → Prop) : Prop :=
  ∃ I : Nat → Gm → Ow → Prop, I 0 Γ M ∧ (∀ i ρ Γ1 M1, i < n → item i ρ → I i Γ1 M1 → WG X E Γ1 M1 tg ρ fun Γ2 M2 => WSs X E Γ2 M2 body { nx := I (i + 1), ct := I (i + 1), bk := Ψ.nx, rt := Ψ.rt }) ∧ ∀ Γ1 M1, I n Γ1 M1 → Ψ.nx Γ1 M1
theorem for_turn {I : Nat → Gm → Ow → Prop} {G : Hp} {D : Ends} {i : Nat} {ρ : Rep} {Γ1 : Gm} {M1 : Ow} (k : Cov E G Ψ D) (h : WG X E Γ1 M1 tg ρ fun Γ2 M2 => WSs X E Γ2 M2 body { nx := I (i + 1), ct := I (i + 1), bk := Ψ.nx, rt := Ψ.rt })
    {σ : L2.St} {G1 H : Hp} (s1 : Same G G1) (a : At E Γ1 M1 σ G1 H) {x : V} (r : ρ.p x G1) :
    tWG X tg x σ H fun σ2 H2 => tWSs X body { D with nx := fun σ' H' => ∃ Γ' M' G', I (i + 1) Γ' M' ∧ Same G G' ∧ At E Γ' M' σ' G' H', ct := fun σ' H' => ∃ Γ' M' G', I (i + 1) Γ' M' ∧ Same G G' ∧ At E Γ' M' σ' G' H', bk := D.nx } σ2 H2 := by
  refine h σ G1 H a x r _ fun Γ2 M2 σ2 G2 H2 h2 s2 a2 => ?_
  have ks := k.mono (s1.trans s2)
  exact h2 σ2 G2 H2 a2 _ ⟨fun Γ3 M3 hI σ' G' H' s' a' => ⟨Γ3, M3, G', hI, (s1.trans s2).trans s', a'⟩, ks.rt, ks.nx, fun Γ3 M3 hI σ' G' H' s' a' => ⟨Γ3, M3, G', hI, (s1.trans s2).trans s', a'⟩⟩
theorem ws_for_list (hp : PassesOwn (model X.prog X.w) X.A X.env X.xe) (hc : X.calm = true)
    (h : WE X E Γ M iter fun ρ M1 => ∃ ρs, Sub ρ (RL X.K ρs) ∧ ForK X E Γ M1 tg body Ψ ρs.length fun i ρ => ρs[i]? = some ρ)
    (hs : ∀ x, foldedSetIterable iter X.env x = pure x := by intro _; rfl) : WS X E Γ M (.For tg iter body [] pos) Ψ :=
  ws_of (ps_for hp hc (pi_list pe_w) pg_w pss_w hs) fun σ G H a D k => h σ G H a _ fun ρ M1 v G1 H1 ⟨ρs, sb, I, h0, ht, hd⟩ s1 a1 r1 => by
    obtain ⟨b, vs, e, hq, rr⟩ := sb _ _ r1
    have ks := k.mono s1
    refine ⟨b, e, ⟨vs, Same.seq a1.gh hq⟩, for_list (K := X.K) (a := b) (xs := vs) (fun i σ H => ∃ Γ' M' G', I i Γ' M' ∧ Same G1 G' ∧ At E Γ' M' σ G' H) ⟨Γ, M1, G1, h0, Same.refl _, a1⟩ (fun i σ H _ ⟨_, _, G', _, s', a'⟩ => Same.seq (s'.trans a'.gh) hq) ?_ ?_⟩
    · rintro i x σ H hx ⟨Γ', M', G', hI, s', a'⟩
      obtain ⟨ρi, e1, r2⟩ := (rr.mono s').get2 hx
      exact for_turn ks (ht i ρi Γ' M' (List.getElem?_eq_some_iff.mp e1).1 e1 hI) s' a' r2
    · rintro σ H ⟨Γ', M', G', hI, s', a'⟩
      exact ks.nx _ _ (hd _ _ (by rw [rr.length]; exact hI)) _ _ _ s' a'
theorem ws_for_tup (hp : PassesOwn (model X.prog X.w) X.A X.env X.xe) (hc : X.calm = true)
    (h : WE X E Γ M iter fun ρ M1 => ∃ ρs, Sub ρ (RT X.K ρs) ∧ ForK X E Γ M1 tg body Ψ ρs.length fun i ρ => ρs[i]? = some ρ)
    (hs : ∀ x, foldedSetIterable iter X.env x = pure x := by intro _; rfl) : WS X E Γ M (.For tg iter body [] pos) Ψ :=
  ws_of (ps_for hp hc (pi_tup pe_w) pg_w pss_w hs) fun σ G H a D k => h σ G H a _ fun ρ M1 v G1 H1 ⟨ρs, sb, I, h0, ht, hd⟩ s1 a1 r1 => by
    obtain ⟨b, vs, e, hq, rr⟩ := sb _ _ r1
    have ks := k.mono s1
    refine ⟨b, e, ⟨vs, same_seqT a1.gh hq⟩, for_tup (K := X.K) (a := b) (xs := vs) (fun i σ H => ∃ Γ' M' G', I i Γ' M' ∧ Same G1 G' ∧ At E Γ' M' σ G' H) ⟨Γ, M1, G1, h0, Same.refl _, a1⟩ (fun i σ H _ ⟨_, _, G', _, s', a'⟩ => same_seqT (s'.trans a'.gh) hq) ?_ ?_⟩
    · rintro i x σ H hx ⟨Γ', M', G', hI, s', a'⟩
      obtain ⟨ρi, e1, r2⟩ := (rr.mono s').get2 hx
      exact for_turn ks (ht i ρi Γ' M' (List.getElem?_eq_some_iff.mp e1).1 e1 hI) s' a' r2
    · rintro σ H ⟨Γ', M', G', hI, s', a'⟩
      exact ks.nx _ _ (hd _ _ (by rw [rr.length]; exact hI)) _ _ _ s' a'
theorem ws_for_range1 (hp : PassesOwn (model X.prog X.w) X.A X.env X.xe) (hc : X.calm = true) (hg : Gl X "range") (hm : X.mg "range" = none)
    (h : WA X E Γ M [a] fun ρs M1 => ∃ j : Int, SubL ρs [RI j] ∧ (-(2 ^ 62) ≤ j ∧ j < 2 ^ 62) ∧ ForK X E Γ M1 tg body Ψ j.toNat fun i ρ => ρ = RI (i : Int))
    (hse : starEach [a] X.env = [(false, eval a X.env)] := by rfl) (hs : ∀ x, foldedSetIterable (.Call (.Name "range" p) [a] [] apos) X.env x = pure x := by intro _; rfl) : WS X E Γ M (.For tg (.Call (.Name "range" p) [a] [] apos) body [] pos) Ψ :=
  ws_of (ps_for hp hc (pi_range1 hg hm pa_w hse) pg_w pss_w hs) fun σ G H a D k => h σ G H a _ fun ρs M1 vs G1 H1 ⟨j, sb, ⟨b1, b2⟩, I, h0, ht, hd⟩ s1 a1 r1 => by
    have ks := k.mono s1
    have e : vs = [.int j] := by
      match vs, sb.reps r1 with
      | [v], ⟨r, _⟩ => exact congrArg (fun z => [z]) r
    refine ⟨j, e, b1, b2, for_range (lo := 0) (fun i σ H => ∃ Γ' M' G', I i Γ' M' ∧ Same G1 G' ∧ At E Γ' M' σ G' H) ⟨Γ, M1, G1, h0, Same.refl _, a1⟩ ?_ ?_⟩
    · rintro i σ H hx ⟨Γ', M', G', hI, s', a'⟩
      exact for_turn ks (ht i _ Γ' M' hx rfl hI) s' a' (by rw [Int.zero_add]; rfl)
    · rintro σ H ⟨Γ', M', G', hI, s', a'⟩
      exact ks.nx _ _ (hd _ _ hI) _ _ _ s' a'
theorem ws_for_range2 (hp : PassesOwn (model X.prog X.w) X.A X.env X.xe) (hc : X.calm = true) (hg : Gl X "range") (hm : X.mg "range" = none)
    (h : WA X E Γ M [a, b] fun ρs M1 => ∃ i j : Int, SubL ρs [RI i, RI j] ∧ (-(2 ^ 62) ≤ i ∧ i < 2 ^ 62 ∧ -(2 ^ 62) ≤ j ∧ j < 2 ^ 62) ∧ ForK X E Γ M1 tg body Ψ (j - i).toNat fun n ρ => ρ = RI (i + n))
    (hse : starEach [a, b] X.env = [(false, eval a X.env), (false, eval b X.env)] := by rfl) (hs2 : starEach [b] X.env = [(false, eval b X.env)] := by rfl) (hs : ∀ x, foldedSetIterable (.Call (.Name "range" p) [a, b] [] apos) X.env x = pure x := by intro _; rfl) : WS X E Γ M (.For tg (.Call (.Name "range" p) [a, b] [] apos) body [] pos) Ψ :=
  ws_of (ps_for hp hc (pi_range2 hg hm pa_w hse hs2) pg_w pss_w hs) fun σ G H a D k => h σ G H a _ fun ρs M1 vs G1 H1 ⟨i0, j, sb, bs, I, h0, ht, hd⟩ s1 a1 r1 => by
    have ks := k.mono s1
    have e : vs = [.int i0, .int j] := by
      match vs, sb.reps r1 with
      | [v, w], ⟨r, r', _⟩ =>
        have r : v = .int i0 := r
        have r' : w = .int j := r'
        rw [r, r']
    refine ⟨i0, j, e, bs, for_range (lo := i0) (fun i σ H => ∃ Γ' M' G', I i Γ' M' ∧ Same G1 G' ∧ At E Γ' M' σ G' H) ⟨Γ, M1, G1, h0, Same.refl _, a1⟩ ?_ ?_⟩
    · rintro i σ H hx ⟨Γ', M', G', hI, s', a'⟩
      exact for_turn ks (ht i _ Γ' M' hx rfl hI) s' a' rfl
    · rintro σ H ⟨Γ', M', G', hI, s', a'⟩
      exact ks.nx _ _ (hd _ _ hI) _ _ _ s' a'

/-! ### an owned list is given up -/
theorem we_freeze (h : WE X E Γ M e fun ρ M' => ∃ p ρs M2, Sub ρ (RRef p) ∧ Rm M' p (OL ρs) M2 ∧ p ∉ E.M ∧ Φ (RLt ρs) M2) : WE X E Γ M e Φ := fun σ G H a Q q =>
  h σ G H a Q fun ρ M' v G1 H1 ⟨p, ρs, M2, sb, rm, hp, hk⟩ s1 a1 r1 => by
    obtain ⟨o, e1, ⟨vs, e2, rf⟩, sg, a2⟩ := a1.freeze rm hp
    subst e2
    have : v = .ref p := sb _ _ r1
    subst this
    exact q _ _ _ _ _ hk (s1.trans sg) a2 ⟨p, vs, rfl, upd_same, rf.mono sg⟩
theorem wss_freeze {st : List Stmt} (i : Nat) {p : Addr} {ρs : List Rep} {M2 : Ow} (hΓ : Γ[i]? = some (some (RRef p))) (rm : Rm M p (OL ρs) M2) (hp : p ∉ E.M) (h : WSs X E (Γ.set i (some (RLt ρs))) M2 st Ψ) : WSs X E Γ M st Ψ := fun σ G H a D k => by
  obtain ⟨v, e0, r0⟩ := a.env i _ hΓ
  have r0 : v = .ref p := r0
  subst r0
  obtain ⟨o, e1, ⟨vs, e2, rf⟩, sg, a2⟩ := a.freeze rm hp
  subst e2
  have a3 := a2.set (i := i) (ρ := RLt ρs) (v := .ref p) ⟨p, vs, rfl, upd_same, rf.mono sg⟩
  have e4 : σ.set i (some (V.ref p)) = σ := by
    refine List.ext_getElem? fun j => ?_
    by_cases hj : i = j
    · subst hj
      have hl : i < σ.length := (List.getElem?_eq_some_iff.mp e0).1
      rw [List.getElem?_set_self hl, e0]
    · rw [List.getElem?_set_ne hj]
  rw [e4] at a3
  exact h σ _ H a3 D (k.mono sg)
theorem wss_weak {Γ' : Gm} {st : List Stmt} (w : Wk Γ Γ') (h : WSs X E Γ' M st Ψ) : WSs X E Γ M st Ψ := fun σ G H a D k => h σ G H (a.weak w) D k

/-! ### list comprehensions -/
def wipeG (Γ : Gm) : List Nat → Gm
  | [] => Γ
  | v :: vs => (wipeG Γ vs).set v none
theorem At.wipe {σ : L2.St} {G H : Hp} (a : At E Γ M σ G H) : ∀ vs : List Nat, At E (wipeG Γ vs) M (L2.wipe σ vs) G H
  | [] => a
  | v :: vs => by
    have b := At.wipe a vs
    unfold wipeG L2.wipe
    refine ⟨by simp [b.len], fun i ρ h => ?_, b.gh, b.own, b.gn, b.nd, b.g0, b.keep, b.nw, b.loc, b.there⟩
    by_cases hi : v = i
    · subst hi
      by_cases hv : v < (wipeG Γ vs).length
      · rw [List.getElem?_set_self hv] at h; cases h
      · rw [List.getElem?_eq_none (by simpa using hv)] at h; cases h
    · rw [List.getElem?_set_ne hi] at h
      obtain ⟨w, e, r⟩ := b.env i ρ h
      exact ⟨w, by rw [List.getElem?_set_ne hi]; exact e, r⟩
theorem At.back {σ σ' : L2.St} {G H G' H' : Hp} {Γ' : Gm} {M' : Ow} (a : At E Γ M σ G H) (b : At E Γ' M' σ' G' H') (s : Same G G') : At E Γ M' σ G' H' :=
  ⟨a.len, fun i ρ h => let ⟨v, e, r⟩ := a.env i ρ h; ⟨v, e, ρ.mono _ _ _ s r⟩, b.gh, b.own, b.gn, b.nd, b.g0, b.keep, b.nw, b.loc, b.there⟩
/-- a block's target: one name, or a tuple of names; what it leaves in the slots -/
structure BlkT (K : PySem.W.Frag) (t : TG) (vs : List Nat) (ρ : Rep) (f : Gm → Gm) : Prop where
  run : ∀ {E : En} {Γ : Gm} {M : Ow} {σ : L2.St} {G H : Hp} {v : V} (Q : L2.St → Hp → Prop), At E Γ M (L2.wipe σ vs) G H → ρ.p v G → (∀ σ', L2.wipe σ' vs = L2.wipe σ vs → At E (f Γ) M σ' G H → Q σ' H) → t v (L2.wipe σ vs) H Q
theorem wipe_set {σ : L2.St} {i : Nat} {o : Option V} : ∀ {vs : List Nat}, i ∈ vs → L2.wipe (σ.set i o) vs = L2.wipe σ vs
  | v :: vs, h => by
    unfold L2.wipe
    by_cases hi : i = v
    · subst hi
      by_cases hm : i ∈ vs
      · rw [wipe_set hm]
      · have : L2.wipe (σ.set i o) vs = (L2.wipe σ vs).set i o := by
          clear h
          induction vs with
          | nil => rfl
          | cons u us ih =>
            have h1 : i ≠ u := fun z => hm (by rw [z]; exact List.mem_cons_self)
            have h2 : i ∉ us := fun z => hm (List.mem_cons_of_mem _ z)
            show (L2.wipe (σ.set i o) us).set u none = ((L2.wipe σ us).set u none).set i o
            rw [ih h2, List.set_comm _ _ h1]
        rw [this, List.set_set]
    · have hm : i ∈ vs := by
        rcases List.mem_cons.mp h with e | hm
        · exact absurd e hi
        · exact hm
      rw [wipe_set hm]
theorem wipe_wipe {σ : L2.St} : ∀ {vs ws : List Nat}, (∀ v ∈ ws, v ∈ vs) → L2.wipe (L2.wipe σ ws) vs = L2.wipe σ vs
  | vs, [], _ => rfl
  | vs, w :: ws, h => by
    show L2.wipe ((L2.wipe σ ws).set w none) vs = _
    rw [wipe_set (h w List.mem_cons_self)]
    exact wipe_wipe fun v hv => h v (List.mem_cons_of_mem _ hv)
theorem blkT_name {K : PySem.W.Frag} {vs : List Nat} {ρ : Rep} (i : Nat) (hi : i ∈ vs) : BlkT K (gName i) vs ρ fun Γ => Γ.set i (some ρ) :=
  ⟨fun {E Γ M σ G H v} Q a r k => k _ (by rw [wipe_set hi, wipe_wipe fun _ h => h]) (a.set r)⟩
def gNames : List Nat → TGs
  | [] => gNil
  | i :: is => gCons (gName i) (gNames is)
def setAll : List Nat → List Rep → Gm → Gm
  | i :: is, ρ :: ρs, Γ => setAll is ρs (Γ.set i (some ρ))
  | _, _, Γ => Γ
theorem gNames_run {vs : List Nat} : ∀ {is : List Nat} {ρs : List Rep} {xs : List V} {E : En} {Γ : Gm} {M : Ow} {σ σ0 : L2.St} {G H : Hp} (Q : L2.St → Hp → Prop), (∀ i ∈ is, i ∈ vs) → is.length = ρs.length → At E Γ M σ G H → L2.wipe σ vs = L2.wipe σ0 vs → Reps ρs xs G →
    (∀ σ', L2.wipe σ' vs = L2.wipe σ0 vs → At E (setAll is ρs Γ) M σ' G H → Q σ' H) → gNames is xs σ H Q
  | [], [], [], _, _, _, σ, _, _, H, Q, _, _, a, e, _, k => ⟨rfl, k σ e a⟩
  | i :: is, ρ :: ρs, x :: xs, _, _, _, σ, _, _, H, Q, hi, hl, a, e, r, k => ⟨x, xs, rfl, gNames_run (vs := vs) (is := is) (ρs := ρs) Q (fun j hj => hi j (List.mem_cons_of_mem _ hj)) (by simpa using hl) (a.set r.1) (by rw [wipe_set (hi i List.mem_cons_self)]; exact e) r.2 k⟩
  | [], _ :: _, _, _, _, _, _, _, _, _, _, _, hl, _, _, _, _ => by simp at hl
  | _ :: _, [], _, _, _, _, _, _, _, _, _, _, hl, _, _, _, _ => by simp at hl
  | [], [], _ :: _, _, _, _, _, _, _, _, _, _, _, _, _, r, _ => r.elim
  | _ :: _, _ :: _, [], _, _, _, _, _, _, _, _, _, _, _, _, r, _ => r.elim
theorem blkT_tup {K : PySem.W.Frag} {vs is : List Nat} {ρ : Rep} {ρs : List Rep} (hi : ∀ i ∈ is, i ∈ vs) (hl : is.length = ρs.length) (sb : Sub ρ (RT K ρs)) : BlkT K (gTup K is.length (gNames is)) vs ρ (setAll is ρs) :=
  ⟨fun {E Γ M σ G H v} Q a r k => by
    obtain ⟨b, ws, e, hq, rr⟩ := sb _ _ r
    refine ⟨b, ws, e, same_seqT a.gh hq, by rw [hl, rr.length], gNames_run (σ0 := σ) Q hi hl a (wipe_wipe fun _ h => h) rr k⟩⟩
/-- the readings of a block's element and test, of whatever context -/
def tBE (X : Cx) (scope : Scope) (e : Expr) : TE := fun σ H Q => ∀ (s : Shared) (H0 : Hp) (C : Addr) (cl : List (Str × Addr)) (fp : List Addr), tW (X.blk s H0 scope (compEnvC scope cl C X.env) fp) e σ H Q
def tBT (X : Cx) (scope : Scope) (e : Expr) : TT := fun σ H Q => ∀ (s : Shared) (H0 : Hp) (C : Addr) (cl : List (Str × Addr)) (fp : List Addr), tWT (X.blk s H0 scope (compEnvC scope cl C X.env) fp) e σ H Q
theorem pe_blk {scope : Scope} (s : Shared) (H : Hp) (C : Addr) (cl : List (Str × Addr)) (fp : List Addr) : PE (X.blk s H scope (compEnvC scope cl C X.env) fp) e (tBE X scope e) := ⟨fun pins s' σ H' Q I h => h s H C cl fp pins s' I⟩
theorem pt_blk {scope : Scope} (s : Shared) (H : Hp) (C : Addr) (cl : List (Str × Addr)) (fp : List Addr) : PT (X.blk s H scope (compEnvC scope cl C X.env) fp) e (tBT X scope e) := ⟨fun pins s' σ H' Q I h => h s H C cl fp pins s' I⟩
/-- a turn: the element is evaluated, and put behind what is made so far -/
def LcTurn (X : Cx) (E : En) (Γ : Gm) (M1 : Ow) (scope : Scope) (elt : Expr) (D : Addr) (o : List Rep) (K : List Rep → Ow → Prop) : Prop :=
  ∀ (s : Shared) (H0 : Hp) (C : Addr) (cl : List (Str × Addr)) (fp : List Addr), WE (X.blk s H0 scope (compEnvC scope cl C X.env) fp) E Γ ((D, OL o) :: M1) elt fun ρ M2 => ∃ M3 ρ', M2 = (D, OL o) :: M3 ∧ Sub ρ ρ' ∧ o.length < 100000 ∧ K (o ++ [ρ']) M3
def LcTest (X : Cx) (E : En) (Γ : Gm) (M1 : Ow) (scope : Scope) (tst : Expr) (D : Addr) (o : List Rep) (K : Bool → Ow → Prop) : Prop :=
  ∀ (s : Shared) (H0 : Hp) (C : Addr) (cl : List (Str × Addr)) (fp : List Addr), WT (X.blk s H0 scope (compEnvC scope cl C X.env) fp) E Γ ((D, OL o) :: M1) tst fun k M2 => ∃ M3, M2 = (D, OL o) :: M3 ∧ K k M3
/-- what a comprehension asks -/
def LcK (X : Cx) (E : En) (Γ : Gm) (M : Ow) (scope : Scope) (vs : List Nat) (elt : Expr) (tg : TG) (n : Nat) (item : Nat → Rep → Prop) (Φ : Rep → Ow → Prop) : Prop :=
  ∃ I : Nat → List Rep → Ow → Prop, I 0 [] M ∧ (∀ i ρ o M1 D, i < n → item i ρ → I i o M1 → ∃ f, BlkT X.K tg vs ρ f ∧ LcTurn X E (f (wipeG Γ vs)) M1 scope elt D o (I (i + 1))) ∧ ∀ D o M1, D ∉ E.M → D ∉ M1.map (·.1) → I n o M1 → Φ (RRef D) ((D, OL o) :: M1)
def LcKT (X : Cx) (E : En) (Γ : Gm) (M : Ow) (scope : Scope) (vs : List Nat) (elt tst : Expr) (tg : TG) (n : Nat) (item : Nat → Rep → Prop) (Φ : Rep → Ow → Prop) : Prop :=
  ∃ I : Nat → List Rep → Ow → Prop, I 0 [] M ∧ (∀ i ρ o M1 D, i < n → item i ρ → I i o M1 → ∃ f, BlkT X.K tg vs ρ f ∧ LcTest X E (f (wipeG Γ vs)) M1 scope tst D o fun k M2 => (k = true → LcTurn X E (f (wipeG Γ vs)) M2 scope elt D o (I (i + 1))) ∧ (k = false → I (i + 1) o M2)) ∧ ∀ D o M1, D ∉ E.M → D ∉ M1.map (·.1) → I n o M1 → Φ (RRef D) ((D, OL o) :: M1)
/-- the turn's reading -/
theorem lc_turn {scope : Scope} {vs : List Nat} {tg : TG} {σ : L2.St} {D : Addr} {o : List Rep} {M1 : Ow} {Kc : List Rep → Ow → Prop} {f : Gm → Gm} {ρ : Rep} {x : V} {G H : Hp} {N : Hp → Prop}
    (bt : BlkT X.K tg vs ρ f) (ht : LcTurn X E (f (wipeG Γ vs)) M1 scope elt D o Kc) (a : At E (wipeG Γ vs) ((D, OL o) :: M1) (L2.wipe σ vs) G H) (r : ρ.p x G)
    (k : ∀ o' M2 σ2 G2 H2 Γ2, Kc o' M2 → Same G G2 → At E Γ2 ((D, OL o') :: M2) σ2 G2 H2 → N H2) :
    tg x (L2.wipe σ vs) H fun σ2 H2 => L2.wipe σ2 vs = L2.wipe σ vs ∧ tYes σ2 H2 fun b H3 => if b = true then tBE X scope elt σ2 H3 fun y H4 => ∃ acc, H4 D = some (.lst acc) ∧ acc.length < sizeLine ∧ N (upd H4 D (.lst (acc ++ [y]))) else N H3 := by
  refine bt.run _ a r fun σ' e a1 => ⟨e, ?_⟩
  show tBE X scope elt σ' H _
  intro s H0 C cl fp
  refine ht s H0 C cl fp σ' G H a1 _ fun ρ2 M2 v G2 H2 ⟨M3, ρ', e2, sb, hl, hk⟩ s2 a2 r2 => ?_
  subst e2
  obtain ⟨u, e3, ws, e4, rf⟩ := a2.own _ List.mem_cons_self
  subst e4
  refine ⟨ws, e3, Nat.lt_of_lt_of_le (by rw [← rf.length]; exact hl) (szOf (Nat.le_refl _)), ?_⟩
  exact k _ _ _ _ _ _ hk s2 (a2.write (r' := OL (o ++ [ρ'])) Fnd.here ⟨_, rfl, rf.app ⟨sb _ _ r2, trivial⟩⟩)
theorem lc_turnT {tst : Expr} {scope : Scope} {vs : List Nat} {tg : TG} {σ : L2.St} {D : Addr} {o : List Rep} {M1 : Ow} {Kc : List Rep → Ow → Prop} {f : Gm → Gm} {ρ : Rep} {x : V} {G H : Hp} {N : Hp → Prop}
    (bt : BlkT X.K tg vs ρ f) (ht : LcTest X E (f (wipeG Γ vs)) M1 scope tst D o fun k M2 => (k = true → LcTurn X E (f (wipeG Γ vs)) M2 scope elt D o Kc) ∧ (k = false → Kc o M2)) (a : At E (wipeG Γ vs) ((D, OL o) :: M1) (L2.wipe σ vs) G H) (r : ρ.p x G)
    (k : ∀ o' M2 σ2 G2 H2 Γ2, Kc o' M2 → Same G G2 → At E Γ2 ((D, OL o') :: M2) σ2 G2 H2 → N H2) :
    tg x (L2.wipe σ vs) H fun σ2 H2 => L2.wipe σ2 vs = L2.wipe σ vs ∧ tBT X scope tst σ2 H2 fun b H3 => if b = true then tBE X scope elt σ2 H3 fun y H4 => ∃ acc, H4 D = some (.lst acc) ∧ acc.length < sizeLine ∧ N (upd H4 D (.lst (acc ++ [y]))) else N H3 := by
  refine bt.run _ a r fun σ' e a1 => ⟨e, ?_⟩
  intro s H0 C cl fp
  refine ht s H0 C cl fp σ' G H a1 _ fun b M2 G2 H2 ⟨M3, e2, h1, h2⟩ s2 a2 => ?_
  subst e2
  cases b with
  | false =>
    show N H2
    exact k _ _ _ _ _ _ (h2 rfl) s2 a2
  | true =>
    show tBE X scope elt σ' H2 _
    intro s H0 C cl fp
    refine h1 rfl s H0 C cl fp σ' G2 H2 a2 _ fun ρ2 M4 v G3 H3 ⟨M5, ρ', e5, sb, hl, hk⟩ s3 a3 r2 => ?_
    subst e5
    obtain ⟨u, e3, ws, e4, rf⟩ := a3.own _ List.mem_cons_self
    subst e4
    refine ⟨ws, e3, Nat.lt_of_lt_of_le (by rw [← rf.length]; exact hl) (szOf (Nat.le_refl _)), ?_⟩
    exact k _ _ _ _ _ _ hk (s2.trans s3) (a3.write (r' := OL (o ++ [ρ'])) Fnd.here ⟨_, rfl, rf.app ⟨sb _ _ r2, trivial⟩⟩)
/-- an abstract source of items: from where it begins, how it is walked -/
structure Src (X : Cx) (E : En) (Γ : Gm) (M : Ow) (wi : TI) (Z : Ow → Nat → (Nat → Rep → Prop) → Prop) : Prop where
  lc : ∀ {σ : L2.St} {G H : Hp} (R : It → Hp → Prop), At E Γ M σ G H →
    (∀ J M1 n item G1 H1, Z M1 n item → Same G G1 → At E Γ M1 σ G1 H1 → (∀ i H2 G2, Same G1 G2 → Same G2 H2 → (i < n → J.go i H2) ∧ (n ≤ i → J.stop i H2) ∧ ∀ x H3, i < n → J.yld i H2 x H3 → ∃ G3 ρ, New G2 H2 G3 H3 ∧ item i ρ ∧ ρ.p x G3) → R J H1) → wi σ H R
theorem src_list (h : WE X E Γ M iter fun ρ M1 => ∃ ρs, Sub ρ (RL X.K ρs) ∧ Z M1 ρs.length fun i ρ => ρs[i]? = some ρ) : Src X E Γ M (iList X.K (tW X iter)) Z :=
  ⟨fun {σ G H} R a k => h σ G H a _ fun ρ M1 v G1 H1 ⟨ρs, sb, hz⟩ s1 a1 r1 => by
    obtain ⟨b, vs, e, hq, rr⟩ := sb _ _ r1
    refine ⟨b, e, ⟨vs, Same.seq a1.gh hq⟩, k _ _ _ _ _ _ hz s1 a1 fun i H2 G2 s2 g2 => ⟨fun hi => ⟨vs, vs[i]'(by rw [← rr.length]; exact hi), Same.seq (s2.trans g2) hq, by simp [← rr.length, hi]⟩, fun hi => ⟨vs, Same.seq (s2.trans g2) hq, by rw [← rr.length]; exact hi⟩, fun x H3 hi ⟨e3, y⟩ => ?_⟩⟩
    subst e3
    obtain ⟨ρi, e4, r4⟩ := (rr.mono s2).get2 (y vs (Same.seq (s2.trans g2) hq))
    exact ⟨G2, ρi, New.refl g2, e4, r4⟩⟩
theorem src_tup (h : WE X E Γ M iter fun ρ M1 => ∃ ρs, Sub ρ (RT X.K ρs) ∧ Z M1 ρs.length fun i ρ => ρs[i]? = some ρ) : Src X E Γ M (iTup X.K (tW X iter)) Z :=
  ⟨fun {σ G H} R a k => h σ G H a _ fun ρ M1 v G1 H1 ⟨ρs, sb, hz⟩ s1 a1 r1 => by
    obtain ⟨b, vs, e, hq, rr⟩ := sb _ _ r1
    refine ⟨b, e, ⟨vs, same_seqT a1.gh hq⟩, k _ _ _ _ _ _ hz s1 a1 fun i H2 G2 s2 g2 => ⟨fun hi => ⟨vs, vs[i]'(by rw [← rr.length]; exact hi), same_seqT (s2.trans g2) hq, by simp [← rr.length, hi]⟩, fun hi => ⟨vs, same_seqT (s2.trans g2) hq, by rw [← rr.length]; exact hi⟩, fun x H3 hi ⟨e3, y⟩ => ?_⟩⟩
    subst e3
    obtain ⟨ρi, e4, r4⟩ := (rr.mono s2).get2 (y vs (same_seqT (s2.trans g2) hq))
    exact ⟨G2, ρi, New.refl g2, e4, r4⟩⟩
theorem src_range1 (h : WA X E Γ M [a] fun ρs M1 => ∃ j : Int, SubL ρs [RI j] ∧ (-(2 ^ 62) ≤ j ∧ j < 2 ^ 62) ∧ Z M1 j.toNat fun i ρ => ρ = RI (i : Int)) : Src X E Γ M (iRng1 (tWA X [a])) Z :=
  ⟨fun {σ G H} R a' k => h σ G H a' _ fun ρs M1 vs G1 H1 ⟨j, sb, ⟨b1, b2⟩, hz⟩ s1 a1 r1 => by
    have e : vs = [.int j] := by
      match vs, sb.reps r1 with
      | [v], ⟨r, _⟩ => exact congrArg (fun z => [z]) r
    refine ⟨j, e, b1, b2, k _ _ _ _ _ _ hz s1 a1 fun i H2 G2 s2 g2 => ⟨fun hi => hi, fun hi => hi, fun x H3 hi ⟨e3, y⟩ => ?_⟩⟩
    subst e3
    exact ⟨G2, _, New.refl g2, rfl, by rw [y, Int.zero_add]; rfl⟩⟩
theorem src_range2 (h : WA X E Γ M [a, b] fun ρs M1 => ∃ i j : Int, SubL ρs [RI i, RI j] ∧ (-(2 ^ 62) ≤ i ∧ i < 2 ^ 62 ∧ -(2 ^ 62) ≤ j ∧ j < 2 ^ 62) ∧ Z M1 (j - i).toNat fun n ρ => ρ = RI (i + n)) : Src X E Γ M (iRng2 (tWA X [a, b])) Z :=
  ⟨fun {σ G H} R a' k => h σ G H a' _ fun ρs M1 vs G1 H1 ⟨i0, j, sb, bs, hz⟩ s1 a1 r1 => by
    have e : vs = [.int i0, .int j] := by
      match vs, sb.reps r1 with
      | [v, w], ⟨r, r', _⟩ =>
        have r : v = .int i0 := r
        have r' : w = .int j := r'
        rw [r, r']
    refine ⟨i0, j, e, bs, k _ _ _ _ _ _ hz s1 a1 fun i H2 G2 s2 g2 => ⟨fun hi => hi, fun hi => hi, fun x H3 hi ⟨e3, y⟩ => ?_⟩⟩
    subst e3
    exact ⟨G2, _, New.refl g2, rfl, y⟩⟩
theorem wte_lc {scope : Scope} {vs : List Nat} {wi : TI} {tg : TG} (src : Src X E Γ M wi fun M1 n item => LcK X E Γ M1 scope vs elt tg n item Φ) (hE : ∀ a ∈ E.M, E.H a ≠ none) : WTE E Γ M (tLc wi tg tYes (tBE X scope elt) vs) Φ := fun σ G H a Q q =>
  src.lc _ a fun J M1 n item G1 H1 ⟨I, h0, ht, hd⟩ s1 a1 hJ => by
    intro D hD
    have aD := a1.own1 (r := OL []) hD ⟨[], rfl, trivial⟩
    have dE : D ∉ E.M := fun z => hE D z (a1.fresh hD)
    refine ⟨fun i m H2 => m = n - i ∧ i ≤ n ∧ ∃ o M2 G2 Γ2 σ2, I i o M2 ∧ Same G1 G2 ∧ At E Γ2 ((D, OL o) :: M2) σ2 G2 H2, ⟨n, by simp, Nat.zero_le _, [], M1, G1, Γ, σ, h0, Same.refl _, aD⟩, ?_⟩
    rintro i m H2 ⟨rfl, hi, o, M2, G2, Γ2, σ2, hI, s2, a2⟩
    obtain ⟨j1, j2, j3⟩ := hJ i H2 G2 s2 a2.gh
    have ab : At E Γ ((D, OL o) :: M2) σ G2 H2 := a1.back a2 s2
    by_cases hlt : i < n
    · refine .inr ⟨j1 hlt, fun H' => ∃ o' M' G' Γ' σ', I (i + 1) o' M' ∧ Same G1 G' ∧ At E Γ' ((D, OL o') :: M') σ' G' H', fun H' ⟨o', M', G', Γ', σ', h'⟩ => ⟨n - (i + 1), by omega, rfl, hlt, o', M', G', Γ', σ', h'⟩, fun x H3 y => ?_⟩
      obtain ⟨G3, ρ, nw, hit, r⟩ := j3 x H3 hlt y
      obtain ⟨f, bt, hturn⟩ := ht i ρ o M2 D hlt hit hI
      exact lc_turn bt hturn ((ab.new nw).wipe vs) r fun o' M' σ' G' H' Γ' hk s' a' => ⟨o', M', G', Γ', σ', hk, (s2.trans nw.gg).trans s', a'⟩
    · have e : i = n := by omega
      subst e
      refine .inl ⟨j2 (Nat.le_refl _), q _ _ _ _ _ (hd D o M2 dE ?_ hI) (s1.trans s2) ab rfl⟩
      have := ab.nd
      rw [List.map_cons, List.nodup_cons] at this
      exact this.1
theorem wte_lcT {tst : Expr} {scope : Scope} {vs : List Nat} {wi : TI} {tg : TG} (src : Src X E Γ M wi fun M1 n item => LcKT X E Γ M1 scope vs elt tst tg n item Φ) (hE : ∀ a ∈ E.M, E.H a ≠ none) : WTE E Γ M (tLc wi tg (tBT X scope tst) (tBE X scope elt) vs) Φ := fun σ G H a Q q =>
  src.lc _ a fun J M1 n item G1 H1 ⟨I, h0, ht, hd⟩ s1 a1 hJ => by
    intro D hD
    have aD := a1.own1 (r := OL []) hD ⟨[], rfl, trivial⟩
    have dE : D ∉ E.M := fun z => hE D z (a1.fresh hD)
    refine ⟨fun i m H2 => m = n - i ∧ i ≤ n ∧ ∃ o M2 G2 Γ2 σ2, I i o M2 ∧ Same G1 G2 ∧ At E Γ2 ((D, OL o) :: M2) σ2 G2 H2, ⟨n, by simp, Nat.zero_le _, [], M1, G1, Γ, σ, h0, Same.refl _, aD⟩, ?_⟩
    rintro i m H2 ⟨rfl, hi, o, M2, G2, Γ2, σ2, hI, s2, a2⟩
    obtain ⟨j1, j2, j3⟩ := hJ i H2 G2 s2 a2.gh
    have ab : At E Γ ((D, OL o) :: M2) σ G2 H2 := a1.back a2 s2
    by_cases hlt : i < n
    · refine .inr ⟨j1 hlt, fun H' => ∃ o' M' G' Γ' σ', I (i + 1) o' M' ∧ Same G1 G' ∧ At E Γ' ((D, OL o') :: M') σ' G' H', fun H' ⟨o', M', G', Γ', σ', h'⟩ => ⟨n - (i + 1), by omega, rfl, hlt, o', M', G', Γ', σ', h'⟩, fun x H3 y => ?_⟩
      obtain ⟨G3, ρ, nw, hit, r⟩ := j3 x H3 hlt y
      obtain ⟨f, bt, hturn⟩ := ht i ρ o M2 D hlt hit hI
      exact lc_turnT bt hturn ((ab.new nw).wipe vs) r fun o' M' σ' G' H' Γ' hk s' a' => ⟨o', M', G', Γ', σ', hk, (s2.trans nw.gg).trans s', a'⟩
    · have e : i = n := by omega
      subst e
      refine .inl ⟨j2 (Nat.le_refl _), q _ _ _ _ _ (hd D o M2 dE ?_ hI) (s1.trans s2) ab rfl⟩
      have := ab.nd
      rw [List.map_cons, List.nodup_cons] at this
      exact this.1
/-- [e for target in iter] as a value; y = [..] -/
theorem we_lc {scope : Scope} {own : List (Str × Nat)} {wi : TI} {t : TG} (hc : X.calm = true) (hN : X.N.Nodup) (hi : PI X tg iter wi) (ok : BlkOk X.N X.env.scope scope own)
    (hg : ∀ (s : Shared) (H : Hp) (C : Addr) (cl : List (Str × Addr)) (fp : List Addr), PG (X.blk s H scope (compEnvC scope cl C X.env) fp) tg t) (hE : ∀ a ∈ E.M, E.H a ≠ none)
    (src : Src X E Γ M wi fun M1 n item => LcK X E Γ M1 scope (own.map (·.2)) elt t n item Φ) (hs : ∀ x, foldedSetIterable iter X.env x = pure x := by intro _; rfl) : WE X E Γ M (.ListComp elt [⟨tg, iter, [], 0⟩] scope pos) Φ :=
  we_of (pe_lc hc hN hi ok hg (fun _ _ _ _ _ => pts_nil) pe_blk hs) (wte_lc src hE)
theorem we_lcT {tst : Expr} {scope : Scope} {own : List (Str × Nat)} {wi : TI} {t : TG} (hc : X.calm = true) (hN : X.N.Nodup) (hi : PI X tg iter wi) (ok : BlkOk X.N X.env.scope scope own)
    (hg : ∀ (s : Shared) (H : Hp) (C : Addr) (cl : List (Str × Addr)) (fp : List Addr), PG (X.blk s H scope (compEnvC scope cl C X.env) fp) tg t) (hE : ∀ a ∈ E.M, E.H a ≠ none)
    (src : Src X E Γ M wi fun M1 n item => LcKT X E Γ M1 scope (own.map (·.2)) elt tst t n item Φ) (hs : ∀ x, foldedSetIterable iter X.env x = pure x := by intro _; rfl) : WE X E Γ M (.ListComp elt [⟨tg, iter, [tst], 0⟩] scope pos) Φ :=
  we_of (pe_lc hc hN hi ok hg (fun s H C cl fp => pts_one (pt_blk s H C cl fp)) pe_blk hs) (wte_lcT src hE)
theorem ws_setLc (i : Nat) {y : Str} {py : Pos} {scope : Scope} {own : List (Str × Nat)} {spos : Pos} {wi : TI} {t : TG} (hc : X.calm = true) (hN : X.N.Nodup) (hy : X.N[i]? = some y) (hyl : X.env.scope.names.lookup y = some .local)
    (hsw : swapsWith (.ListComp elt [⟨tg, iter, [], 0⟩] scope pos) (some (.Name y py)) spos.line X.env = pure true) (hi : PI X tg iter wi) (ok : BlkOk X.N X.env.scope scope own)
    (hg : ∀ (s : Shared) (H : Hp) (C : Addr) (cl : List (Str × Addr)) (fp : List Addr), PG (X.blk s H scope (compEnvC scope cl C X.env) fp) tg t) (hE : ∀ a ∈ E.M, E.H a ≠ none)
    (src : Src X E Γ M wi fun M1 n item => LcK X E Γ M1 scope (own.map (·.2)) elt t n item fun ρ M' => Ψ.nx (Γ.set i (some ρ)) M') (hs : ∀ x, foldedSetIterable iter X.env x = pure x := by intro _; rfl) : WS X E Γ M (.Assign [.Name y py] (.ListComp elt [⟨tg, iter, [], 0⟩] scope pos) spos) Ψ :=
  ws_of (ps_setLc hc hN hy hyl hsw hi ok hg (fun _ _ _ _ _ => pts_nil) pe_blk hs) fun σ G H a D k => wte_lc src hE σ G H a _ fun ρ M' v G' H' h' s' a' r' => k.nx _ M' h' _ G' H' s' (a'.set r')
theorem ws_setLcT {tst : Expr} (i : Nat) {y : Str} {py : Pos} {scope : Scope} {own : List (Str × Nat)} {spos : Pos} {wi : TI} {t : TG} (hc : X.calm = true) (hN : X.N.Nodup) (hy : X.N[i]? = some y) (hyl : X.env.scope.names.lookup y = some .local)
    (hsw : swapsWith (.ListComp elt [⟨tg, iter, [tst], 0⟩] scope pos) (some (.Name y py)) spos.line X.env = pure true) (hi : PI X tg iter wi) (ok : BlkOk X.N X.env.scope scope own)
    (hg : ∀ (s : Shared) (H : Hp) (C : Addr) (cl : List (Str × Addr)) (fp : List Addr), PG (X.blk s H scope (compEnvC scope cl C X.env) fp) tg t) (hE : ∀ a ∈ E.M, E.H a ≠ none)
    (src : Src X E Γ M wi fun M1 n item => LcKT X E Γ M1 scope (own.map (·.2)) elt tst t n item fun ρ M' => Ψ.nx (Γ.set i (some ρ)) M') (hs : ∀ x, foldedSetIterable iter X.env x = pure x := by intro _; rfl) : WS X E Γ M (.Assign [.Name y py] (.ListComp elt [⟨tg, iter, [tst], 0⟩] scope pos) spos) Ψ :=
  ws_of (ps_setLc hc hN hy hyl hsw hi ok hg (fun s H C cl fp => pts_one (pt_blk s H C cl fp)) pe_blk hs) fun σ G H a D k => wte_lcT src hE σ G H a _ fun ρ M' v G' H' h' s' a' r' => k.nx _ M' h' _ G' H' s' (a'.set r')
end
end MM

namespace MM
open PySem L2 PyProof.Rows
/-! ### sizes -/
def Bd (n : Nat) (i : Int) : Prop := i.natAbs < 2 ^ n
theorem pow2_le {a b : Nat} (h : a ≤ b) : 2 ^ a ≤ 2 ^ b := Nat.pow_le_pow_right (by decide) h
theorem Bd.mono {n m : Nat} {i : Int} (h : Bd n i) (l : n ≤ m) : Bd m i := Nat.lt_of_lt_of_le h (pow2_le l)
theorem bd_mul {n m : Nat} {i j : Int} (h : Bd n i) (h' : Bd m j) : Bd (n + m) (i * j) := wide_lt h h'
theorem pow_max {n m : Nat} : 2 ^ n + 2 ^ m ≤ 2 ^ (max n m + 1) := by
  have h1 : 2 ^ n ≤ 2 ^ (max n m) := pow2_le (Nat.le_max_left _ _)
  have h2 : 2 ^ m ≤ 2 ^ (max n m) := pow2_le (Nat.le_max_right _ _)
  rw [Nat.pow_succ]; omega
theorem bd_add {n m : Nat} {i j : Int} (h : Bd n i) (h' : Bd m j) : Bd (max n m + 1) (i + j) := by
  have h1 : i.natAbs < 2 ^ n := h
  have h2 : j.natAbs < 2 ^ m := h'
  have h3 := @pow_max n m
  have h4 := Int.natAbs_add_le i j
  show (i + j).natAbs < _
  omega
theorem bd_sub {n m : Nat} {i j : Int} (h : Bd n i) (h' : Bd m j) : Bd (max n m + 1) (i - j) := by
  have h1 : i.natAbs < 2 ^ n := h
  have h2 : j.natAbs < 2 ^ m := h'
  have h3 := @pow_max n m
  show (i - j).natAbs < _
  omega
theorem bd_neg {n : Nat} {i : Int} (h : Bd n i) : Bd n (-i) := by
  show (-i).natAbs < _
  rw [Int.natAbs_neg]; exact h
theorem bd_div {n : Nat} {i j : Int} (hj : 0 < j) (h : Bd n i) : Bd n (i / j) := by
  have h1 : i.natAbs < 2 ^ n := h
  show (i / j).natAbs < _
  have := Int.natAbs_ediv_le_natAbs i j
  omega
theorem bd_mod {n : Nat} {i j : Int} (hj : 0 < j) (h : Bd n j) : Bd n (i % j) := by
  have h1 : j.natAbs < 2 ^ n := h
  have h2 := Int.emod_nonneg i (by omega : j ≠ 0)
  have h3 := Int.emod_lt_of_pos i hj
  show (i % j).natAbs < _
  omega
theorem bd_range {n : Nat} {i : Int} (h0 : -(2 ^ n : Nat) < i) (h1 : i < (2 ^ n : Nat)) : Bd n i := by
  show i.natAbs < _
  omega
theorem Bd.lo {n : Nat} {i : Int} (h : Bd n i) : -((2 ^ n : Nat) : Int) < i := by
  have h1 : i.natAbs < 2 ^ n := h
  omega
theorem Bd.hi {n : Nat} {i : Int} (h : Bd n i) : i < ((2 ^ n : Nat) : Int) := by
  have h1 : i.natAbs < 2 ^ n := h
  omega
theorem bd_log {n : Nat} {i : Int} (h : Bd n i) (hn : 0 < n) : i.natAbs.log2 < n := PySem.Flt.log2_lt_of hn h
theorem mulOk {n m : Nat} {i j : Int} (h : Bd n i) (h' : Bd m j) (l : n + m ≤ 900000) : CMulW i j := by
  have h1 := bd_log (h.mono (Nat.le_succ n)) (by omega)
  have h2 := bd_log (h'.mono (Nat.le_succ m)) (by omega)
  unfold CMulW
  omega
theorem divOk {n : Nat} {i j : Int} (h0 : 0 < j) (h : Bd n j) (l : n < 9000) : CDivW i j := by
  refine ⟨h0, ?_⟩
  have h1 := bd_log (h.mono (Nat.le_succ n)) (by omega)
  omega
/-! ### operators on plain values -/
section
variable {X : Cx}
def CDivA (_ j : Int) : Prop := j ≠ 0 ∧ j.natAbs.log2 < 9000
theorem divOkA {n : Nat} {i j : Int} (h0 : j ≠ 0) (h : Bd n j) (l : n < 9000) : CDivA i j := by
  refine ⟨h0, ?_⟩
  have h1 := bd_log (h.mono (Nat.le_succ n)) (by omega)
  omega
theorem op_fdivA : OpR X (binaryOp .FloorDiv) (rI CDivA fun i j => .int (i.fdiv j)) := opI fun i j _ _ _ _ _ hc q => floordiv_int hc.1 q (.inl (PyProof.noPylong_of_log2 hc.2))
theorem iop_fdivA : OpR X (inplaceOp .FloorDiv) (rI CDivA fun i j => .int (i.fdiv j)) := opI fun i j _ _ _ _ _ hc q => ifloordiv_int hc.1 q (.inl (PyProof.noPylong_of_log2 hc.2))
/-- s * 0, s * 1 -/
theorem op_rep_str : OpR X (binaryOp .Mult) (fun x y H Q => ∃ z i, x = .str z ∧ y = .int i ∧ (i = 0 ∨ i = 1) ∧ Q (.str (if i = 1 then z else Str.empty)) H) := by
  intro pins s σ H x y v u Q I rx ry h
  obtain ⟨z, i, rfl, rfl, h0, q⟩ := h
  obtain ⟨t, rfl⟩ := rx
  obtain ⟨t', rfl⟩ := ry
  rcases h0 with rfl | rfl
  · exact PySem.P.mul_str_none (by decide) (by decide) ⟨.str _, H, I.tok _, ⟨_, rfl⟩, q⟩
  · refine PySem.P.mul_str (by decide) (fun _ h => by simp at h) (fun _ h => by simp at h) ?_
    rw [if_neg (by decide), if_pos (by simp)]
    exact ⟨.str z, H, I, ⟨_, rfl⟩, q⟩
def rAddU (K : PySem.W.Frag) : R2 := fun x y H Q => (rI0 fun i j => .int (i + j)) x y H Q ∨ (∃ i j, x = .str i ∧ y = .str j ∧ i.length + j.length ≤ sizeLine ∧ Q (.str (i ++ j)) H) ∨ rCat x y H Q ∨ rCatT K x y H Q
theorem op_addU : OpR X (binaryOp .Add) (rAddU X.K) := op_add.or (op_add_str.or (op_cat.or op_catT))
def rMulU : R2 := fun x y H Q => (rI CMulW fun i j => .int (i * j)) x y H Q ∨ (∃ z i, x = .str z ∧ y = .int i ∧ (i = 0 ∨ i = 1) ∧ Q (.str (if i = 1 then z else Str.empty)) H) ∨ rRep x y H Q
theorem op_mulU : OpR X (binaryOp .Mult) rMulU := op_mulW.or (op_rep_str.or op_rep)
abbrev rSubI : R2 := rI0 fun i j => .int (i - j)
abbrev rDivA : R2 := rI CDivA fun i j => .int (i.fdiv j)
abbrev rModN : R2 := rI (fun _ j => j ≠ 0) fun i j => .int (i.fmod j)
abbrev rPow : R2 := rI CPow fun i j => .int (i ^ j.toNat)
theorem opv_i {r : R2} {i j : Int} {v : V} {ρ : Rep} (h : ∀ (H : Hp) (Q : VK), Q v H → r (.int i) (.int j) H Q) (hv : ∀ G, ρ.p v G) : OpV r (RI i) (RI j) ρ := fun x y G H s hx hy Q q => by
  have hx : x = .int i := hx
  have hy : y = .int j := hy
  subst hx hy
  exact h H Q (q v G H (New.refl s) (hv G))
theorem opv_add_i {K : PySem.W.Frag} {i j : Int} : OpV (rAddU K) (RI i) (RI j) (RI (i + j)) := opv_i (fun H Q q => .inl ⟨i, j, rfl, rfl, q⟩) fun _ => rfl
theorem opv_sub_i {i j : Int} : OpV rSubI (RI i) (RI j) (RI (i - j)) := opv_i (fun H Q q => ⟨i, j, rfl, rfl, q⟩) fun _ => rfl
theorem opv_mul_i {i j : Int} (h : CMulW i j) : OpV rMulU (RI i) (RI j) (RI (i * j)) := opv_i (fun H Q q => .inl ⟨i, j, rfl, rfl, h, q⟩) fun _ => rfl
theorem opv_div_i {i j : Int} (h : 0 < j) (h9 : j.natAbs.log2 < 9000) : OpV rDivA (RI i) (RI j) (RI (i / j)) := opv_i (fun H Q q => ⟨i, j, rfl, rfl, ⟨by omega, h9⟩, by show Q (V.int (i.fdiv j)) H; rw [Int.fdiv_eq_ediv_of_nonneg i (by omega)]; exact q⟩) fun _ => rfl
theorem opv_fdiv_i {i j : Int} (h : CDivA i j) : OpV rDivA (RI i) (RI j) (RI (i.fdiv j)) := opv_i (fun H Q q => ⟨i, j, rfl, rfl, h, q⟩) fun _ => rfl
theorem opv_mod_i {i j : Int} (h : 0 < j) : OpV rModN (RI i) (RI j) (RI (i % j)) := opv_i (fun H Q q => ⟨i, j, rfl, rfl, by omega, by show Q (V.int (i.fmod j)) H; rw [Int.fmod_eq_emod_of_nonneg i (by omega)]; exact q⟩) fun _ => rfl
theorem opv_fmod_i {i j : Int} (h : j ≠ 0) : OpV rModN (RI i) (RI j) (RI (i.fmod j)) := opv_i (fun H Q q => ⟨i, j, rfl, rfl, h, q⟩) fun _ => rfl
theorem opv_pow_i {i j : Int} (h : CPow i j) : OpV rPow (RI i) (RI j) (RI (i ^ j.toNat)) := opv_i (fun H Q q => ⟨i, j, rfl, rfl, h, q⟩) fun _ => rfl
abbrev rLtI : R2 := rI0 fun i j => .bl (decide (i < j))
abbrev rLeI : R2 := rI0 fun i j => .bl (decide (i ≤ j))
abbrev rGtI : R2 := rI0 fun i j => .bl (decide (j < i))
abbrev rGeI : R2 := rI0 fun i j => .bl (decide (j ≤ i))
theorem opv_lt_i {i j : Int} : OpV rLtI (RI i) (RI j) (RB (decide (i < j))) := opv_i (fun H Q q => ⟨i, j, rfl, rfl, q⟩) fun _ => rfl
theorem opv_le_i {i j : Int} : OpV rLeI (RI i) (RI j) (RB (decide (i ≤ j))) := opv_i (fun H Q q => ⟨i, j, rfl, rfl, q⟩) fun _ => rfl
theorem opv_gt_i {i j : Int} : OpV rGtI (RI i) (RI j) (RB (decide (j < i))) := opv_i (fun H Q q => ⟨i, j, rfl, rfl, q⟩) fun _ => rfl
theorem opv_ge_i {i j : Int} : OpV rGeI (RI i) (RI j) (RB (decide (j ≤ i))) := opv_i (fun H Q q => ⟨i, j, rfl, rfl, q⟩) fun _ => rfl
theorem opv_add_s {K : PySem.W.Frag} {i j : Str} (h : i.length + j.length ≤ 100000) : OpV (rAddU K) (RS i) (RS j) (RS (i ++ j)) := fun x y G H s hx hy Q q => by
  have hx : x = .str i := hx
  have hy : y = .str j := hy
  subst hx hy
  exact .inr (.inl ⟨i, j, rfl, rfl, szOf h, q _ G H (New.refl s) rfl⟩)
theorem opv_add_l {K : PySem.W.Frag} {ρs ρs' : List Rep} (h : ρs.length + ρs'.length ≤ 100000) : OpV (rAddU K) (RLt ρs) (RLt ρs') (RLt (ρs ++ ρs')) := fun x y G H s ⟨a, xs, e1, h1, r1⟩ ⟨b, ys, e2, h2, r2⟩ Q q => by
  subst e1 e2
  refine .inr (.inr (.inl ⟨a, b, xs, ys, rfl, rfl, s _ _ h1, s _ _ h2, by rw [← r1.length, ← r2.length]; exact szOf h, fun p hp => ?_⟩))
  have n : New G H (upd G p (.lst (xs ++ ys))) (upd H p (.lst (xs ++ ys))) := New.put s hp
  exact q _ _ _ n ⟨p, _, rfl, upd_same, (r1.app r2).mono n.gg⟩
theorem opv_mul_s {i : Int} {z : Str} (h : i = 0 ∨ i = 1) : OpV rMulU (RS z) (RI i) (RS (if i = 1 then z else Str.empty)) := fun x y G H s hx hy Q q => by
  have hx : x = .str z := hx
  have hy : y = .int i := hy
  subst hx hy
  exact .inr (.inl ⟨z, i, rfl, rfl, h, q _ G H (New.refl s) rfl⟩)
/-! ### data compared -/
def IsD (K : PySem.W.Frag) (ρ : Rep) (d : PyData) : Prop := ∀ v G H, Same G H → ρ.p v G → Dp K H v d
def IsDs (K : PySem.W.Frag) (ρs : List Rep) (ds : List PyData) : Prop := ∀ vs G H, Same G H → Reps ρs vs G → DpAll K H vs ds
theorem isD_i {K : PySem.W.Frag} {i : Int} : IsD K (RI i) (.int i) := fun v G H _ h => by
  have h : v = .int i := h
  subst h; exact .int i
theorem isD_b {K : PySem.W.Frag} {i : Bool} : IsD K (RB i) (.bool i) := fun v G H _ h => by
  have h : v = .bl i := h
  subst h; exact .bl i
theorem isD_s {K : PySem.W.Frag} {i : Str} : IsD K (RS i) (.str i) := fun v G H _ h => by
  have h : v = .str i := h
  subst h; exact .str i
theorem isD_n {K : PySem.W.Frag} : IsD K RN .none := fun v G H _ h => by
  have h : v = .non := h
  subst h; exact .non
def oD : Option Int → PyData
  | none => .none
  | some i => .int i
theorem isD_o {K : PySem.W.Frag} : ∀ {o : Option Int}, IsD K (RO o) (oD o)
  | none => isD_n
  | some _ => isD_i
theorem isDs_nil {K : PySem.W.Frag} : IsDs K [] [] := fun vs G H _ h => by
  match vs, h with
  | [], _ => exact .nil
theorem isDs_cons {K : PySem.W.Frag} {ρ : Rep} {ρs : List Rep} {d : PyData} {ds : List PyData} (h : IsD K ρ d) (hs : IsDs K ρs ds) : IsDs K (ρ :: ρs) (d :: ds) := fun vs G H s r => by
  match vs, r with
  | v :: vs, ⟨r1, r2⟩ => exact .cons (h v G H s r1) (hs vs G H s r2)
theorem isDs_map {K : PySem.W.Frag} {α : Type} {f : α → Rep} {g : α → PyData} (h : ∀ a, IsD K (f a) (g a)) : ∀ l : List α, IsDs K (l.map f) (l.map g)
  | [] => isDs_nil
  | a :: l => isDs_cons (h a) (isDs_map h l)
theorem isD_t {K : PySem.W.Frag} {ρs : List Rep} {ds : List PyData} (h : IsDs K ρs ds) : IsD K (RT K ρs) (.tuple ds) := fun v G H s ⟨a, vs, e, hq, r⟩ => by
  subst e; exact .tup (same_seqT s hq) (h vs G H s r)
theorem isD_tt {K : PySem.W.Frag} {ρs : List Rep} {ds : List PyData} (h : IsDs K ρs ds) : IsD K (RTt ρs) (.tuple ds) := fun v G H s r => isD_t h v G H s (sub_tt v G r)
theorem isD_l {K : PySem.W.Frag} {ρs : List Rep} {ds : List PyData} (h : IsDs K ρs ds) : IsD K (RL K ρs) (.list ds) := fun v G H s ⟨a, vs, e, hq, r⟩ => by
  subst e; exact .lst (Same.seq s hq) (h vs G H s r)
theorem isD_lt {K : PySem.W.Frag} {ρs : List Rep} {ds : List PyData} (h : IsDs K ρs ds) : IsD K (RLt ρs) (.list ds) := fun v G H s r => isD_l h v G H s (sub_lt v G r)
theorem isD_sub {K : PySem.W.Frag} {ρ ρ' : Rep} {d : PyData} (sb : Sub ρ ρ') (h : IsD K ρ' d) : IsD K ρ d := fun v G H s r => h v G H s (sb v G r)
theorem opv_eq {K : PySem.W.Frag} {ρ ρ' : Rep} {d e : PyData} (h1 : IsD K ρ d) (h2 : IsD K ρ' e) (s1 : SeqAt.shaped d = true) (s2 : SeqAt.shaped e = true) : OpV (rEqD K) ρ ρ' (RB (PyData.eqv d e)) := fun x y G H s hx hy Q q =>
  ⟨d, e, h1 x G H s hx, h2 y G H s hy, s1, s2, q _ G H (New.refl s) rfl⟩
theorem opv_ne {K : PySem.W.Frag} {ρ ρ' : Rep} {d e : PyData} (h1 : IsD K ρ d) (h2 : IsD K ρ' e) (s1 : SeqAt.shaped d = true) (s2 : SeqAt.shaped e = true) : OpV (rNeD K) ρ ρ' (RB (!PyData.eqv d e)) := fun x y G H s hx hy Q q =>
  ⟨d, e, h1 x G H s hx, h2 y G H s hy, s1, s2, q _ G H (New.refl s) rfl⟩
theorem opv_sub {r : R2} {a b a' b' ρ : Rep} (h1 : Sub a a') (h2 : Sub b b') (h : OpV r a' b' ρ) : OpV r a b ρ := fun x y G H s hx hy Q q => h x y G H s (h1 _ _ hx) (h2 _ _ hy) Q q
/-- is None -/
abbrev rIsN : R2 := fun x y H Q => y = .non ∧ Q (.bl (decide (x = .non))) H
abbrev rNotN : R2 := fun x y H Q => y = .non ∧ Q (.bl (!decide (x = .non))) H
theorem opv_isN {ρ : Rep} {b : Bool} (h : ∀ v G, ρ.p v G → decide (v = V.non) = b) : OpV rIsN ρ RN (RB b) := fun x y G H s hx hy Q q => ⟨hy, q _ G H (New.refl s) (congrArg V.bl (h x G hx))⟩
theorem opv_notN {ρ : Rep} {b : Bool} (h : ∀ v G, ρ.p v G → decide (v = V.non) = b) : OpV rNotN ρ RN (RB (!b)) := fun x y G H s hx hy Q q => ⟨hy, q _ G H (New.refl s) (by show V.bl _ = V.bl _; rw [h x G hx])⟩
theorem isN_o {o : Option Int} : ∀ v G, (RO o).p v G → decide (v = V.non) = o.isNone := fun v G h => by
  cases o with
  | none =>
    have h : v = .non := h
    subst h; rfl
  | some i =>
    have h : v = .int i := h
    subst h; rfl
theorem isN_i {i : Int} : ∀ v G, (RI i).p v G → decide (v = V.non) = false := fun v G h => by
  have h : v = .int i := h
  subst h; rfl
theorem isN_n : ∀ v G, RN.p v G → decide (v = V.non) = true := fun v G h => by
  have h : v = .non := h
  subst h; rfl
/-! ### subscripts -/
theorem opv_ix_l {K : PySem.W.Frag} {ρa ρ : Rep} {ρs : List Rep} {i : Int} (sb : Sub ρa (RL K ρs)) (h : atI ρs i = some ρ) : OpV (rIx K) ρa (RI i) ρ := fun x y G H s hx hy Q q => by
  obtain ⟨a, vs, e, hq, r⟩ := sb _ _ hx
  have hy : y = .int i := hy
  subst e hy
  obtain ⟨j, h1, h2, h3, h4, h5⟩ := atI_get h
  obtain ⟨v, e2, r2⟩ := r.get h2
  refine .inl ⟨a, vs, i, v, rfl, rfl, Same.seq s hq, ?_, q v G H (New.refl s) r2⟩
  unfold atI at h ⊢
  rw [← r.length]
  cases z : ixN ρs.length i with
  | none => rw [z] at h; cases h
  | some j' =>
    rw [z] at h
    have := (ixN_seq z).1
    rw [h1] at this
    cases this
    exact e2
theorem opv_ix_t {K : PySem.W.Frag} {ρa ρ : Rep} {ρs : List Rep} {i : Int} (sb : Sub ρa (RT K ρs)) (h : atI ρs i = some ρ) : OpV (rIx K) ρa (RI i) ρ := fun x y G H s hx hy Q q => by
  obtain ⟨a, vs, e, hq, r⟩ := sb _ _ hx
  have hy : y = .int i := hy
  subst e hy
  obtain ⟨j, h1, h2, h3, h4, h5⟩ := atI_get h
  obtain ⟨v, e2, r2⟩ := r.get h2
  refine .inr (.inl ⟨a, vs, i, v, rfl, rfl, same_seqT s hq, ?_, q v G H (New.refl s) r2⟩)
  unfold atI at h ⊢
  rw [← r.length]
  cases z : ixN ρs.length i with
  | none => rw [z] at h; cases h
  | some j' =>
    rw [z] at h
    have := (ixN_seq z).1
    rw [h1] at this
    cases this
    exact e2
theorem opw_ix_o {K : PySem.W.Frag} {E : En} {Γ : Gm} {M : Ow} {Φ : Rep → Ow → Prop} {ρa ρb ρ : Rep} {ρs : List Rep} {p : Addr} {u : ORep → Ow} {i : Int} (sb : Sub ρa (RRef p)) (si : Sub ρb (RI i)) (fd : Fnd M p (OL ρs) u) (h : atI ρs i = some ρ) (k : Φ ρ M) : OpW E Γ M (rIx K) ρa ρb Φ := fun σ G H a x y hx hy Q q => by
  have e1 : x = .ref p := sb _ _ hx
  have e2 : y = .int i := si _ _ hy
  subst e1 e2
  obtain ⟨o, e3, vs, e4, r⟩ := a.own _ fd.mem
  subst e4
  obtain ⟨j, h1, h2, h3, h4, h5⟩ := atI_get h
  obtain ⟨v, e5, r2⟩ := r.get h2
  refine .inl ⟨p, vs, i, v, rfl, rfl, SqL.of e3, ?_, q ρ M v G H k (Same.refl _) a r2⟩
  unfold atI at h ⊢
  rw [← r.length]
  cases z : ixN ρs.length i with
  | none => rw [z] at h; cases h
  | some j' =>
    rw [z] at h
    have := (ixN_seq z).1
    rw [h1] at this
    cases this
    exact e5
/-- an item at an open place: one of the list's -/
theorem atI_of {α : Type} {l : List α} {i : Int} (h0 : 0 ≤ i) (h1 : i < l.length) : ∃ x, atI l i = some x ∧ x ∈ l ∧ l[i.toNat]? = some x := by
  have hl : i.toNat < l.length := by omega
  have e : ((i.toNat : Nat) : Int) = i := by omega
  have h := atI_nat (xs := l) (j := i.toNat) (v := l[i.toNat]) (by simp [hl])
  rw [e] at h
  exact ⟨l[i.toNat], h, List.getElem_mem hl, by simp [hl]⟩
/-! ### built-in functions -/
theorem cav_abs {i : Int} : CaV (fun xs H Q => ∃ i, xs = [.int i] ∧ Q (.int (if i < 0 then -i else i)) H) [RI i] (RI (i.natAbs : Int)) := fun vs G H s r Q q => by
  match vs, r with
  | [v], ⟨r1, _⟩ =>
    have r1 : v = .int i := r1
    subst r1
    refine ⟨i, rfl, q _ G H (New.refl s) ?_⟩
    show V.int _ = V.int _
    congr 1
    split <;> omega
theorem cav_int_b {b : Bool} : CaV (fun xs H Q => (∃ i, xs = [.int i] ∧ Q (.int i) H) ∨ ∃ k, xs = [.bl k] ∧ Q (.int (if k then 1 else 0)) H) [RB b] (RI (if b then 1 else 0)) := fun vs G H s r Q q => by
  match vs, r with
  | [v], ⟨r1, _⟩ =>
    have r1 : v = .bl b := r1
    subst r1
    exact .inr ⟨b, rfl, q _ G H (New.refl s) rfl⟩
theorem cav_max2 {i j : Int} : CaV (fun xs H Q => ∃ i j, xs = [.int i, .int j] ∧ Q (.int (if j > i then j else i)) H) [RI i, RI j] (RI (max i j)) := fun vs G H s r Q q => by
  match vs, r with
  | [v, w], ⟨r1, r2, _⟩ =>
    have r1 : v = .int i := r1
    have r2 : w = .int j := r2
    subst r1 r2
    refine ⟨i, j, rfl, q _ G H (New.refl s) ?_⟩
    show V.int _ = V.int _
    congr 1
    split <;> omega
theorem cav_min2 {i j : Int} : CaV (fun xs H Q => ∃ i j, xs = [.int i, .int j] ∧ Q (.int (if j < i then j else i)) H) [RI i, RI j] (RI (min i j)) := fun vs G H s r Q q => by
  match vs, r with
  | [v, w], ⟨r1, r2, _⟩ =>
    have r1 : v = .int i := r1
    have r2 : w = .int j := r2
    subst r1 r2
    refine ⟨i, j, rfl, q _ G H (New.refl s) ?_⟩
    show V.int _ = V.int _
    congr 1
    split <;> omega
theorem cav_str_i {i : Int} (h : i.natAbs.log2 < 1920) : CaV (fun xs H Q => ∃ i, xs = [.int i] ∧ i.natAbs.log2 < 1920 ∧ Q (.str (toString i)) H) [RI i] (RS (Str.ofString (toString i))) := fun vs G H s r Q q => by
  match vs, r with
  | [v], ⟨r1, _⟩ =>
    have r1 : v = .int i := r1
    subst r1
    exact ⟨i, rfl, h, q _ G H (New.refl s) rfl⟩
/-- isinstance -/
def TyIs (K : PySem.W.Frag) (ρ : Rep) (t : Value) : Prop := ∀ v G H, Same G H → ρ.p v G → TyX K H v t
theorem tyIs_i {K : PySem.W.Frag} {i : Int} : TyIs K (RI i) (.type "int") := fun v G H _ h => by
  have h : v = .int i := h
  subst h; exact .base (.int i)
theorem tyIs_b {K : PySem.W.Frag} {i : Bool} : TyIs K (RB i) (.type "bool") := fun v G H _ h => by
  have h : v = .bl i := h
  subst h; exact .base (.bl i)
theorem tyIs_s {K : PySem.W.Frag} {i : Str} : TyIs K (RS i) (.type "str") := fun v G H _ h => by
  have h : v = .str i := h
  subst h; exact .base (.str i)
theorem tyIs_n {K : PySem.W.Frag} : TyIs K RN (.type "NoneType") := fun v G H _ h => by
  have h : v = .non := h
  subst h; exact .base .non
theorem tyIs_lt {K : PySem.W.Frag} {ρs : List Rep} : TyIs K (RLt ρs) (.type "list") := fun v G H s ⟨a, vs, e, h, _⟩ => by
  subst e; exact .base (.lst (s _ _ h))
theorem tyIs_tt {K : PySem.W.Frag} {ρs : List Rep} : TyIs K (RTt ρs) (.type "tuple") := fun v G H s ⟨a, vs, e, h, _⟩ => by
  subst e; exact .base (.tup (s _ _ h))
/-- what isinstance asks of an own class -/
structure ClsI (K : PySem.W.Frag) (C : Addr) : Prop where
  cl : Cls K C
  ha : PySem.W.findIn K (.ref C) "__class__" = some (some (.builtin "object.__class__"))
  hn : PySem.W.specialIn K (.builtin "object.__class__") "__get__" = some (some (.builtin "getset_descriptor.__get__"))
  htk : PySem.W.takesIn K (.builtin "object.__class__") = some true
  hm : PySem.W.mroIn K C (.type "object") = some true
theorem tyIs_ins {K : PySem.W.Frag} {C : Addr} {l : List (Str × Rep)} (c : ClsI K C) : TyIs K (RIns C l) (.ref C) := fun v G H s ⟨a, dx, fs, e, h, _⟩ => by
  subst e; exact .base (.ins (s _ _ h) c.cl c.ha c.hn c.htk c.hm)
theorem tyIs_sub {K : PySem.W.Frag} {ρ ρ' : Rep} {t : Value} (sb : Sub ρ ρ') (h : TyIs K ρ' t) : TyIs K ρ t := fun v G H s r => h v G H s (sb v G r)
theorem cav_isi {K : PySem.W.Frag} {ρ : Rep} {c : V} {t u : Value} {b : Bool} (h : TyIs K ρ t) (hc : ClsV c u) (e : PySem.W.kitOne K t u = some b) : CaV (rIsi K) [ρ, RV c] (RB b) := fun vs G H s r Q q => by
  match vs, r with
  | [v, w], ⟨r1, r2, _⟩ =>
    have r2 : w = c := r2
    subst r2
    exact ⟨v, w, t, u, b, rfl, hc, h v G H s r1, e, q _ G H (New.refl s) rfl⟩
theorem kit_self {K : PySem.W.Frag} {C : Addr} : PySem.W.kitOne K (.ref C) (.ref C) = some true := by
  unfold PySem.W.kitOne
  rw [if_pos (by simp)]
/-! ### the truth of own things without __bool__ and __len__ -/
theorem tru_ins {C : Addr} (hb : PySem.W.findIn X.K (.ref C) "__bool__" = some none) (hl : PySem.W.findIn X.K (.ref C) "__len__" = some none) {pins : List (Addr × Obj)} {s : Shared} {σ : L2.St} {H : Hp} {a dx : Addr} {fs : List (Str × V)} {Q : Bool → Hp → Prop} (I : L2.Inv X pins σ H s) (h : H a = some (.ins C dx fs)) (q : Q true H) :
    wpAny (model X.prog X.w) X.A (truthy (.ref a)) (TP X pins σ Q) X.xe s := by
  obtain ⟨mA, O, _, _, _, _⟩ := ins_get I.hok h
  obtain ⟨od, J, _⟩ := O.look
  have K' := I.kIn
  unfold truthy
  refine wpAny_bind (m := callSpecial? (.ref a) (Str.ofString "__bool__")) (wpAny_bind (wpAny_bind (J.type.here ((PySem.W.looks_findIn K' hb).here (wpAny_pure ?_)))))
  refine wpAny_bind (wpAny_bind (J.type.here ((PySem.W.looks_findIn K' hl).here ?_)))
  exact wpAny_pure ⟨H, I, q⟩
end
/-- x or y, x an own thing, or a plain value of known truth -/
def Tru (X : Cx) (ρ : Rep) (k : Bool) : Prop := ∀ {pins : List (Addr × Obj)} {s : Shared} {σ : L2.St} {G H : Hp} {x : V} {v : Value} {Q : Bool → Hp → Prop}, L2.Inv X pins σ H s → Same G H → ρ.p x G → RelV x v → Q k H → wpAny (model X.prog X.w) X.A (truthy v) (TP X pins σ Q) X.xe s
section
variable {X : Cx} {E : En} {Γ : Gm} {M : Ow} {a b e : Expr} {pos : Pos} {Φ : Rep → Ow → Prop}
theorem tru_of {ρ : Rep} {k : Bool} (h : ∀ x G H, Same G H → ρ.p x G → TruV X.K x H k) : Tru X ρ k := fun {pins s σ G H x v Q} I sg hx r q => tru_ok pins s σ H x v Q I r ⟨k, h x G H sg hx, q⟩
theorem truIns {C : Addr} {l : List (Str × Rep)} (hb : PySem.W.findIn X.K (.ref C) "__bool__" = some none) (hl : PySem.W.findIn X.K (.ref C) "__len__" = some none) : Tru X (RIns C l) true := fun {pins s σ G H x v Q} I sg ⟨a, dx, fs, e, h, _⟩ r q => by
  subst e
  obtain rfl : v = Value.ref a := r
  exact tru_ins hb hl I (sg _ _ h) q
theorem truSub {ρ ρ' : Rep} {k : Bool} (sb : Sub ρ ρ') (h : Tru X ρ' k) : Tru X ρ k := fun {pins s σ G H x v Q} I sg hx r q => h I sg (sb _ _ hx) r q
theorem truN : Tru X RN false := tru_of fun x G H _ h => by
  have h : x = .non := h
  subst h; rfl
theorem truI {i : Int} : Tru X (RI i) (i != 0) := tru_of fun x G H _ h => by
  have h : x = .int i := h
  subst h; rfl
theorem truB {i : Bool} : Tru X (RB i) i := fun {pins s σ G H x v Q} I sg hx r q => by
  have h : x = .bl i := hx
  subst h
  obtain rfl : v = Value.bool i := r
  exact wpAny_truthy_bool ⟨H, I, q⟩
theorem we_orT {rest : List Expr} (h : WE X E Γ M a fun ρ M' => ∃ k, Tru X ρ k ∧ (k = false → WE X E Γ M' (.BoolOp .Or (b :: rest) pos) Φ) ∧ (k = true → Φ ρ M')) : WE X E Γ M (.BoolOp .Or (a :: b :: rest) pos) Φ := fun σ G H at' Q q pins s I => by
  refine BoolOp_or (thn (h σ G H at' (fun v H1 => ∃ ρ M' G1 k, Tru X ρ k ∧ (k = false → WE X E Γ M' (.BoolOp .Or (b :: rest) pos) Φ) ∧ (k = true → Φ ρ M') ∧ Same G G1 ∧ At E Γ M' σ G1 H1 ∧ ρ.p v G1) (fun ρ M' v G1 H1 ⟨k, t, h1, h2⟩ s1 a1 r1 => ⟨ρ, M', G1, k, t, h1, h2, s1, a1, r1⟩) pins s I) fun v s1 ⟨x, H1, I1, r1, ρ, M', G1, k, t, h1, h2, sg, a1, rx⟩ => ?_)
  refine thn (t (Q := fun c H2 => c = k ∧ H2 = H1) I1 a1.gh rx r1 ⟨rfl, rfl⟩) fun c s2 ⟨H2, I2, e1, e2⟩ => ?_
  subst e1 e2
  cases c with
  | true => exact ⟨x, H2, I2, r1, q ρ M' x G1 H2 (h2 rfl) sg a1 rx⟩
  | false => exact h1 rfl σ G1 H2 a1 Q (fun ρ' M2 v2 G2 H3 hk s3 => q ρ' M2 v2 G2 H3 hk (sg.trans s3)) pins s2 I2
/-- any expression as a test, by its truth -/
theorem wt_tru {Φ : Bool → Ow → Prop} (h : WE X E Γ M e fun ρ M' => ∃ k, Tru X ρ k ∧ Φ k M') (he : ∀ whole, isTrue e X.env whole = (do let v ← whole; standAt e.pos; holding [v] (truthy v)) := by intro _; rfl) : WT X E Γ M e Φ := fun σ G H a Q q pins s I => by
  refine isTrue_plain (thn (h σ G H a (fun v H1 => ∃ ρ M' G1 k, Tru X ρ k ∧ Φ k M' ∧ Same G G1 ∧ At E Γ M' σ G1 H1 ∧ ρ.p v G1) (fun ρ M' v G1 H1 ⟨k, t, hk⟩ s1 a1 r1 => ⟨ρ, M', G1, k, t, hk, s1, a1, r1⟩) pins s I) fun v s1 ⟨x, H1, I1, r1, ρ, M', G1, k, t, hk, sg, a1, rx⟩ => ?_) (he _)
  exact t I1 a1.gh rx r1 (q k M' G1 H1 hk sg a1)
end
end MM

namespace MM
open PySem L2 PyProof.Rows
/-! ### calls with keywords -/
def KnK (P : Program) (w : World) (K : PySem.W.Frag) (mg : Str → Option Value) (base : Heap) (k : Nat) (x : Str) (n : Nat) (ks : List Str) (gV : List V → List V → List V) (c : Con) : Prop :=
  ∃ (f : Addr) (fd : FuncData) (ps : List Str) (g : List Value → List Value → List Value), mg x = some (.ref f) ∧ PySem.W.keepIn K (.ref f) = true ∧ KBn K fd ps n ks g gV ∧ FnOk P w K mg base CX0 k f fd ps (conSp c)
def KnCK (P : Program) (w : World) (K : PySem.W.Frag) (mg : Str → Option Value) (base : Heap) (k : Nat) (x : Str) (C : Addr) (n : Nat) (ks : List Str) (gV : List V → List V → List V) (c : Con) : Prop :=
  ∃ (f : Addr) (fd : FuncData) (ps : List Str) (g : List Value → List Value → List Value), mg x = some (.ref C) ∧ Mk K C f ∧ KBn K fd ps (n + 1) ks g gV ∧ FnOk P w K mg base CX0 k f fd ps (conSp c)
def KnMK (P : Program) (w : World) (K : PySem.W.Frag) (mg : Str → Option Value) (base : Heap) (k : Nat) (C : Addr) (m : Str) (n : Nat) (ks : List Str) (gV : List V → List V → List V) (c : Con) : Prop :=
  ∃ (f : Addr) (fd : FuncData) (ps : List Str) (g : List Value → List Value → List Value), Meth K C m f ∧ Cls K C ∧ KBn K fd ps (n + 1) ks g gV ∧ FnOk P w K mg base CX0 k f fd ps (conSp c)
/-- the same rearrangement of representations as of values -/
structure GvR (gV : List V → List V → List V) (gR : List Rep → List Rep → List Rep) (n m : Nat) : Prop where
  run : ∀ {ρs ρz : List Rep} {vs zs : List V} {G : Hp}, ρs.length = n → ρz.length = m → Reps ρs vs G → Reps ρz zs G → Reps (gR ρs ρz) (gV vs zs) G
section
variable {X : Cx} {E : En} {Γ : Gm} {M : Ow} {a b e : Expr} {es : List Expr} {kws : List Keyword} {ks : List Str} {pos p apos : Pos} {Φ : Rep → Ow → Prop} {k n : Nat} {x : Str} {c : Con} {gV : List V → List V → List V} {gR : List Rep → List Rep → List Rep}
theorem pe_callN0 {CX : CXT} {f : Addr} {fd : FuncData} {ps : List Str} {sp : Sp} {EE : XK} {tk : TA} {g : List Value → List Value → List Value} (F : FnOk X.prog X.w X.K X.mg X.base CX k f fd ps sp) (hr : Room k X.A) (hg : Gl X x) (hm : X.mg x = some (.ref f)) (hk : PySem.W.keepIn X.K (.ref f) = true) (hb : KBn X.K fd ps 0 ks g gV) (hx : Passes CX X EE) (hkw : PK X kws tk)
    (hall : (backToKw pos (keywordEach kws X.env)).all (·.1.isSome) = true := by rfl) (hks : (backToKw pos (keywordEach kws X.env)).filterMap (·.1) = ks := by rfl) (hdb : (x == ("__debug__" : Str)) = false := by decide)
    (hpl : ((backTo pos (starEach [] X.env)).any (·.1) || (backToKw pos (keywordEach kws X.env)).any (·.1.isNone)) = false := by rfl) :
    PE X (.Call (.Name x p) [] kws pos) (tCallN 0 ks.length sp gV EE tNil tk) := by
  refine ⟨fun pins s σ H Q I h => ?_⟩
  refine wpAny_Call_Name_kw (ld_glob I hg hm ?_ hdb)
  refine PySem.W.callWith_KW0 (h₀ := X.base) I.ok.mod.kin hk hall ?_ hpl
  refine thn (hkw.run pos pins s σ H _ I h) fun ws s2 ⟨zs, H2, I2, rz, l1, l2, q2⟩ => ⟨I2.kIn, ?_⟩
  rw [hks]
  exact run_fnN (us := []) (vs := []) F hr hb hx I2 .nil rz rfl l2 q2
theorem we_callN (F : KnK X.prog X.w X.K X.mg X.base k x n ks gV c) (gr : GvR gV gR n ks.length) (hr : Room k X.A) (hg : Gl X x) (hx : Passes CX0 X E0)
    (h : WA X E Γ M (e :: es) fun ρs M1 => ρs.length = n ∧ WK X E Γ M1 kws fun ρz M2 => ρz.length = ks.length ∧ CallK c (gR ρs ρz) M2 Φ)
    (hall : (backToKw pos (keywordEach kws X.env)).all (·.1.isSome) = true := by rfl) (hks : (backToKw pos (keywordEach kws X.env)).filterMap (·.1) = ks := by rfl)
    (hdb : (x == ("__debug__" : Str)) = false := by decide) (he : starEach (e :: es) X.env = (false, eval e X.env) :: starEach es X.env := by rfl)
    (hpl : ((backTo pos (starEach (e :: es) X.env)).any (·.1) || (backToKw pos (keywordEach kws X.env)).any (·.1.isNone)) = false := by rfl) :
    WE X E Γ M (.Call (.Name x p) (e :: es) kws pos) Φ := by
  obtain ⟨f, fd, ps, g, hm, hk, hb, F⟩ := F
  refine we_of (pe_callN F hr hg hm hk hb hx pa_w pk_w hall hks hdb he hpl) fun σ G H a Q q => ?_
  exact h σ G H a _ fun ρs M1 vs G1 H1 ⟨l1, h1⟩ s1 a1 r1 => h1 σ G1 H1 a1 _ fun ρz M2 zs G2 H2 ⟨l2, hh⟩ s2 a2 r2 =>
    ⟨by rw [← r1.length]; exact l1, by rw [← r2.length]; exact l2, callK_run hh a2 (gr.run l1 l2 (r1.mono s2) r2) fun ρ M3 v G3 H3 h3 s3 => q ρ M3 v G3 H3 h3 ((s1.trans s2).trans s3)⟩
theorem we_callN0 (F : KnK X.prog X.w X.K X.mg X.base k x 0 ks gV c) (gr : GvR gV gR 0 ks.length) (hr : Room k X.A) (hg : Gl X x) (hx : Passes CX0 X E0)
    (h : WK X E Γ M kws fun ρz M2 => ρz.length = ks.length ∧ CallK c (gR [] ρz) M2 Φ)
    (hall : (backToKw pos (keywordEach kws X.env)).all (·.1.isSome) = true := by rfl) (hks : (backToKw pos (keywordEach kws X.env)).filterMap (·.1) = ks := by rfl) (hdb : (x == ("__debug__" : Str)) = false := by decide)
    (hpl : ((backTo pos (starEach [] X.env)).any (·.1) || (backToKw pos (keywordEach kws X.env)).any (·.1.isNone)) = false := by rfl) :
    WE X E Γ M (.Call (.Name x p) [] kws pos) Φ := by
  obtain ⟨f, fd, ps, g, hm, hk, hb, F⟩ := F
  refine we_of (pe_callN0 F hr hg hm hk hb hx pk_w hall hks hdb hpl) fun σ G H a Q q => ?_
  show tWK X kws σ H _
  exact h σ G H a _ fun ρz M2 zs G2 H2 ⟨l2, hh⟩ s2 a2 r2 =>
    ⟨rfl, by rw [← r2.length]; exact l2, callK_run hh a2 (gr.run rfl l2 trivial r2) fun ρ M3 v G3 H3 h3 s3 => q ρ M3 v G3 H3 h3 (s2.trans s3)⟩
/-- __init__ with keywords: the thing itself stands first -/
def MakeN (E : En) (C : Addr) (c : Con) (gR : List Rep → List Rep → List Rep) (ρs ρz : List Rep) (M : Ow) (Φ : Rep → Ow → Prop) : Prop :=
  ∀ p, p ∉ M.map (·.1) → p ∉ E.M → CallK c (gR (RRef p :: ρs) ρz) ((p, OIns C []) :: M) fun ρ M' => Sub ρ RN ∧ ∃ l M2, Rm M' p (OIns C l) M2 ∧ Φ (RIns C l) M2
theorem makeN_run {C : Addr} {σ : L2.St} {G H : Hp} {m : Nat} {ρs ρz : List Rep} {vs zs : List V} {Q : VK} (gr : GvR gV gR (n + 1) m) (l1 : ρs.length = n) (l2 : ρz.length = m) (hE : ∀ a ∈ E.M, E.H a ≠ none) (h : MakeN E C c gR ρs ρz M Φ) (a : At E Γ M σ G H) (r : Reps ρs vs G) (r2 : Reps ρz zs G)
    (q : ∀ ρ M' v G' H', Φ ρ M' → Same G G' → At E Γ M' σ G' H' → ρ.p v G' → Q v H') :
    ∀ x dx, H x = none → H dx = none → dx ≠ x → conSp c (gV (.ref x :: vs) zs) (upd (upd H dx (.own x)) x (.ins C dx [])) (fun v H2 => v = .non ∧ Q (.ref x) H2) E0 := fun x dx nx nd ne => by
  have n1 : New G H G (upd H dx (.own x)) := New.side a.gh nd
  have a1 := a.new n1
  have nx1 : upd H dx (.own x) x = none := by rw [upd_ne (Ne.symm ne)]; exact nx
  have hpE : x ∉ E.M := fun z => hE x z (a.fresh nx)
  have a2 := a1.own1 (r := OIns C []) nx1 ⟨dx, [], rfl, trivial⟩
  refine callK_run (h x (a.freshM nx) hpE) a2 (gr.run (by simp [l1]) l2 ⟨rfl, r⟩ r2) fun ρ M' v G' H' ⟨sb, l, M2, rm, hΦ⟩ s' a' r' => ⟨sb _ _ r', ?_⟩
  obtain ⟨o, e1, ⟨dx', fs, e2, rf⟩, sg, a3⟩ := a'.freeze rm hpE
  subst e2
  exact q _ _ _ _ _ hΦ (s'.trans sg) a3 ⟨x, dx', fs, rfl, upd_same, rf.mono sg⟩
theorem we_makeN {C : Addr} (F : KnCK X.prog X.w X.K X.mg X.base k x C n ks gV c) (gr : GvR gV gR (n + 1) ks.length) (hr : Room (k + 1) X.A) (hg : Gl X x) (hx : Passes CX0 X E0) (hE : ∀ a ∈ E.M, E.H a ≠ none)
    (h : WA X E Γ M (e :: es) fun ρs M1 => ρs.length = n ∧ WK X E Γ M1 kws fun ρz M2 => ρz.length = ks.length ∧ MakeN E C c gR ρs ρz M2 Φ)
    (hall : (backToKw pos (keywordEach kws X.env)).all (·.1.isSome) = true := by rfl) (hks : (backToKw pos (keywordEach kws X.env)).filterMap (·.1) = ks := by rfl)
    (hdb : (x == ("__debug__" : Str)) = false := by decide) (he : starEach (e :: es) X.env = (false, eval e X.env) :: starEach es X.env := by rfl)
    (hpl : ((backTo pos (starEach (e :: es) X.env)).any (·.1) || (backToKw pos (keywordEach kws X.env)).any (·.1.isNone)) = false := by rfl) :
    WE X E Γ M (.Call (.Name x p) (e :: es) kws pos) Φ := by
  obtain ⟨f, fd, ps, g, hm, Mk, hb, F⟩ := F
  refine we_of (pe_makeN Mk F hr hg hm hb hx pa_w pk_w hall hks hdb he hpl) fun σ G H a Q q => ?_
  exact h σ G H a _ fun ρs M1 vs G1 H1 ⟨l1, h1⟩ s1 a1 r1 => h1 σ G1 H1 a1 _ fun ρz M2 zs G2 H2 ⟨l2, hh⟩ s2 a2 r2 =>
    ⟨by rw [← r1.length]; exact l1, by rw [← r2.length]; exact l2, makeN_run gr l1 l2 hE hh a2 (r1.mono s2) r2 fun ρ M3 v G3 H3 h3 s3 => q ρ M3 v G3 H3 h3 ((s1.trans s2).trans s3)⟩
theorem we_makeN0 {C : Addr} (F : KnCK X.prog X.w X.K X.mg X.base k x C 0 ks gV c) (gr : GvR gV gR 1 ks.length) (hr : Room (k + 1) X.A) (hg : Gl X x) (hx : Passes CX0 X E0) (hE : ∀ a ∈ E.M, E.H a ≠ none)
    (h : WK X E Γ M kws fun ρz M2 => ρz.length = ks.length ∧ MakeN E C c gR [] ρz M2 Φ)
    (hall : (backToKw pos (keywordEach kws X.env)).all (·.1.isSome) = true := by rfl) (hks : (backToKw pos (keywordEach kws X.env)).filterMap (·.1) = ks := by rfl) (hdb : (x == ("__debug__" : Str)) = false := by decide)
    (hpl : ((backTo pos (starEach [] X.env)).any (·.1) || (backToKw pos (keywordEach kws X.env)).any (·.1.isNone)) = false := by rfl) :
    WE X E Γ M (.Call (.Name x p) [] kws pos) Φ := by
  obtain ⟨f, fd, ps, g, hm, Mk, hb, F⟩ := F
  refine we_of (pe_makeK0 Mk F hr hg hm hb hx pk_w hall hks hdb hpl) fun σ G H a Q q => ?_
  show tWK X kws σ H _
  exact h σ G H a _ fun ρz M2 zs G2 H2 ⟨l2, hh⟩ s2 a2 r2 =>
    ⟨rfl, by rw [← r2.length]; exact l2, makeN_run (n := 0) gr rfl l2 hE hh a2 trivial r2 fun ρ M3 v G3 H3 h3 s3 => q ρ M3 v G3 H3 h3 (s2.trans s3)⟩
end
/-! ### a def with defaults -/
abbrev FdD (K : PySem.W.Frag) (x qual : Str) (st : Stmt) (dvs : List V) (f : Addr) (fd : FuncData) : Prop := FunD K x qual (defArgs st) (defBody st) (defScope st) dvs [] f fd
theorem fn_conD {P : Program} {w : World} {K : PySem.W.Frag} {mg : Str → Option Value} {base : Heap} {x qual : Str} {st : Stmt} {dvs : List V} {f : Addr} {fd : FuncData} {N ps : List Str} {k : Nat} (c : Con) (F : FdD K x qual st dvs f fd) (S : FnScope N ps (defScope st)) (hl : ∀ i, (c.args i).length = ps.length)
    (h : ∀ (cd : Value) (A : Around) (outer : List Env) (s : Shared) (H : Hp) (EE : XK) (G : Hp) (i : c.I), c.pre i → Room k (A.deeper (PyProof.Rows.envOfC qual (defScope st) s.heap.objs.size f cd)) → (∀ a ∈ (c.own i).map (·.1), H a ≠ none) →
      WSs (xd P w K mg base N qual (defScope st) f cd A outer s H EE) ⟨G, H, (c.own i).map (·.1)⟩ (startG N (c.args i)) (c.own i) (defBody st) (EdOf c i)) : FnOk P w K mg base CX0 (k + 1) f fd ps (conSp c) := by
  refine F.ok S (fun vs H Q EE hh => ?_) fun cdv A outer s H vs Q EE hr hh => ?_
  · obtain ⟨G, i, _, _, r, _⟩ := hh
    rw [← r.length]; exact hl i
  · obtain ⟨G, i, gh, hp, r, o1, o2, o3, kk⟩ := hh
    refine ⟨tWSs (xd P w K mg base N qual (defScope st) f cdv A outer s H EE) (defBody st), pss_w.nox, ?_⟩
    have hE : ∀ a ∈ (c.own i).map (·.1), H a ≠ none := fun a ha => by
      obtain ⟨q, hq, e⟩ := List.mem_map.mp ha
      obtain ⟨o, e2, _⟩ := o1 q hq
      rw [← e, e2]; simp
    have a0 : At ⟨G, H, (c.own i).map (·.1)⟩ (startG N (c.args i)) (c.own i) (L2.start N vs) G H :=
      ⟨by simp [startG, L2.start, r.length], start_env r, gh, o1, o2, o3, Same.refl _, fun _ _ _ e => e, fun _ _ hg => hg, fun q hq => .inl (List.mem_map.mpr ⟨q, hq, rfl⟩), fun _ h => h⟩
    have fin : ∀ ρ M, Rt c i ρ M → ∀ v G' H', At ⟨G, H, (c.own i).map (·.1)⟩ [] M [] G' H' → ρ.p v G' → Q v H' := fun ρ M ⟨x, rest, px, sb, pk⟩ v G' H' a rv => by
      obtain ⟨p1, p2, p3⟩ := a.picked pk
      have fm := pk.f a.nd
      refine kk x v G' H' px ⟨a.g0, a.gh, fun b u h1 h2 => a.keep b u h1 h2, fun b h1 h2 => a.nw b h1 h2, p1, p2, p3, fun q hq => ?_, fun b hb => a.there b hb⟩ (sb _ _ rv)
      obtain ⟨q', h1, h2, _⟩ := fm.own q hq
      rw [← h2]; exact a.loc q' h1
    exact h cdv A outer s H EE G i hp hr hE (L2.start N vs) G H a0 _ ⟨fun Γ M h' σ G' H' _ a' => fin _ _ h' _ _ _ a'.env0 rfl, fun ρ M h' v G' H' _ a' rv => fin _ _ h' _ _ _ a' rv, fun _ _ h' => h'.elim, fun _ _ h' => h'.elim⟩
theorem fdD_mk {K : PySem.W.Frag} {x qual : Str} {st : Stmt} {f : Addr} {oc : Value} {od an : Option Addr} {osl : Array (Option Value)} {kV doc pm cdv ct : Value} (l : K.lookup f = some ⟨oc, od, .func (PySem.W.fnOf x qual (defArgs st) (defBody st) (defScope st) .none kV doc pm an cdv ct), osl⟩)
    (c : PySem.W.codeIn K cdv qual = true) (k : PySem.W.keepIn K (.ref f) = true) : FdD K x qual st [] f (PySem.W.fnOf x qual (defArgs st) (defBody st) (defScope st) .none kV doc pm an cdv ct) :=
  ⟨⟨oc, od, .none, kV, doc, pm, an, cdv, ct, osl, rfl, l, c, .inl ⟨rfl, rfl⟩, .inl rfl⟩, k⟩
theorem fdD_mkT {K : PySem.W.Frag} {x qual : Str} {st : Stmt} {dvs : List V} {f T : Addr} {oc tc : Value} {od td an : Option Addr} {osl tsl : Array (Option Value)} {kV doc pm cdv ct : Value} {its : Array Value} {n : Nat} (l : K.lookup f = some ⟨oc, od, .func (PySem.W.fnOf x qual (defArgs st) (defBody st) (defScope st) (.ref T) kV doc pm an cdv ct), osl⟩)
    (c : PySem.W.codeIn K cdv qual = true) (k : PySem.W.keepIn K (.ref f) = true) (lT : K.lookup T = some ⟨tc, td, .seq its n, tsl⟩) (hd : dvs ≠ []) (hv : Vals dvs its.toList) : FdD K x qual st dvs f (PySem.W.fnOf x qual (defArgs st) (defBody st) (defScope st) (.ref T) kV doc pm an cdv ct) :=
  ⟨⟨oc, od, .ref T, kV, doc, pm, an, cdv, ct, osl, rfl, l, c, .inr ⟨hd, T, ⟨tc, td, .seq its n, tsl⟩, its.toList, n, rfl, lT, by simp, hv⟩, .inl rfl⟩, k⟩
end MM

namespace MM
open PySem L2 PyProof.Rows
/-! ### the text by places -/
def top (i : Nat) : Stmt := PySem.Challenge.pw_meanmoon_k75_calendars_read.main.body.getD i (.Pass ⟨0, 0, 0, 0⟩)
abbrev s_f_common : Stmt := top 6
abbrev N_f_common : List Str := ["one", "two"]
theorem sc_f_common : FnScope N_f_common ["one", "two"] (defScope s_f_common) := ⟨rfl, rfl, rfl, by decide +kernel, rfl, by decide +kernel, by decide +kernel⟩
abbrev X_f_common (P : Program) (w : World) (K : PySem.W.Frag) (mg : Str → Option Value) (base : Heap) (f : Addr) (cd : Value) (A : Around) (outer : List Env) (s : Shared) (H : Hp) (EE : XK) : Cx := xd P w K mg base N_f_common "common" (defScope s_f_common) f cd A outer s H EE
section
variable {P : Program} {w : World} {K : PySem.W.Frag} {mg : Str → Option Value} {base : Heap} {f : Addr} {cd : Value} {A : Around} {outer : List Env} {s : Shared} {H : Hp} {EE : XK}
theorem r0_f_common : Rd1 (X_f_common P w K mg base f cd A outer s H EE) 0 "one" := ⟨rfl, by first | exact .inl rfl | exact .inr (.inl rfl), by decide, by decide⟩
theorem w0_f_common : Wr1 (X_f_common P w K mg base f cd A outer s H EE) 0 "one" := ⟨sc_f_common.nd, rfl, by first | exact .inl rfl | exact .inr rfl, .inl rfl⟩
theorem r1_f_common : Rd1 (X_f_common P w K mg base f cd A outer s H EE) 1 "two" := ⟨rfl, by first | exact .inl rfl | exact .inr (.inl rfl), by decide, by decide⟩
theorem w1_f_common : Wr1 (X_f_common P w K mg base f cd A outer s H EE) 1 "two" := ⟨sc_f_common.nd, rfl, by first | exact .inl rfl | exact .inr rfl, .inl rfl⟩
theorem g_abs_f_common : Gl (X_f_common P w K mg base f cd A outer s H EE) "abs" := rfl
end
abbrev s_Share_init : Stmt := inClass (top 7) 0
abbrev N_Share_init : List Str := ["self", "top", "bottom", "by"]
theorem sc_Share_init : FnScope N_Share_init ["self", "top", "bottom"] (defScope s_Share_init) := ⟨rfl, rfl, rfl, by decide +kernel, rfl, by decide +kernel, by decide +kernel⟩
abbrev X_Share_init (P : Program) (w : World) (K : PySem.W.Frag) (mg : Str → Option Value) (base : Heap) (f : Addr) (cd : Value) (A : Around) (outer : List Env) (s : Shared) (H : Hp) (EE : XK) : Cx := xd P w K mg base N_Share_init "Share.__init__" (defScope s_Share_init) f cd A outer s H EE
section
variable {P : Program} {w : World} {K : PySem.W.Frag} {mg : Str → Option Value} {base : Heap} {f : Addr} {cd : Value} {A : Around} {outer : List Env} {s : Shared} {H : Hp} {EE : XK}
theorem r0_Share_init : Rd1 (X_Share_init P w K mg base f cd A outer s H EE) 0 "self" := ⟨rfl, by first | exact .inl rfl | exact .inr (.inl rfl), by decide, by decide⟩
theorem w0_Share_init : Wr1 (X_Share_init P w K mg base f cd A outer s H EE) 0 "self" := ⟨sc_Share_init.nd, rfl, by first | exact .inl rfl | exact .inr rfl, .inl rfl⟩
theorem r1_Share_init : Rd1 (X_Share_init P w K mg base f cd A outer s H EE) 1 "top" := ⟨rfl, by first | exact .inl rfl | exact .inr (.inl rfl), by decide, by decide⟩
theorem w1_Share_init : Wr1 (X_Share_init P w K mg base f cd A outer s H EE) 1 "top" := ⟨sc_Share_init.nd, rfl, by first | exact .inl rfl | exact .inr rfl, .inl rfl⟩
theorem r2_Share_init : Rd1 (X_Share_init P w K mg base f cd A outer s H EE) 2 "bottom" := ⟨rfl, by first | exact .inl rfl | exact .inr (.inl rfl), by decide, by decide⟩
theorem w2_Share_init : Wr1 (X_Share_init P w K mg base f cd A outer s H EE) 2 "bottom" := ⟨sc_Share_init.nd, rfl, by first | exact .inl rfl | exact .inr rfl, .inl rfl⟩
theorem r3_Share_init : Rd1 (X_Share_init P w K mg base f cd A outer s H EE) 3 "by" := ⟨rfl, by first | exact .inl rfl | exact .inr (.inl rfl), by decide, by decide⟩
theorem w3_Share_init : Wr1 (X_Share_init P w K mg base f cd A outer s H EE) 3 "by" := ⟨sc_Share_init.nd, rfl, by first | exact .inl rfl | exact .inr rfl, .inl rfl⟩
theorem g_NoShare_Share_init : Gl (X_Share_init P w K mg base f cd A outer s H EE) "NoShare" := rfl
theorem g_common_Share_init : Gl (X_Share_init P w K mg base f cd A outer s H EE) "common" := rfl
end
abbrev s_Share_eq : Stmt := inClass (top 7) 1
abbrev N_Share_eq : List Str := ["self", "other"]
theorem sc_Share_eq : FnScope N_Share_eq ["self", "other"] (defScope s_Share_eq) := ⟨rfl, rfl, rfl, by decide +kernel, rfl, by decide +kernel, by decide +kernel⟩
abbrev X_Share_eq (P : Program) (w : World) (K : PySem.W.Frag) (mg : Str → Option Value) (base : Heap) (f : Addr) (cd : Value) (A : Around) (outer : List Env) (s : Shared) (H : Hp) (EE : XK) : Cx := xd P w K mg base N_Share_eq "Share.__eq__" (defScope s_Share_eq) f cd A outer s H EE
section
variable {P : Program} {w : World} {K : PySem.W.Frag} {mg : Str → Option Value} {base : Heap} {f : Addr} {cd : Value} {A : Around} {outer : List Env} {s : Shared} {H : Hp} {EE : XK}
theorem r0_Share_eq : Rd1 (X_Share_eq P w K mg base f cd A outer s H EE) 0 "self" := ⟨rfl, by first | exact .inl rfl | exact .inr (.inl rfl), by decide, by decide⟩
theorem w0_Share_eq : Wr1 (X_Share_eq P w K mg base f cd A outer s H EE) 0 "self" := ⟨sc_Share_eq.nd, rfl, by first | exact .inl rfl | exact .inr rfl, .inl rfl⟩
theorem r1_Share_eq : Rd1 (X_Share_eq P w K mg base f cd A outer s H EE) 1 "other" := ⟨rfl, by first | exact .inl rfl | exact .inr (.inl rfl), by decide, by decide⟩
theorem w1_Share_eq : Wr1 (X_Share_eq P w K mg base f cd A outer s H EE) 1 "other" := ⟨sc_Share_eq.nd, rfl, by first | exact .inl rfl | exact .inr rfl, .inl rfl⟩
theorem g_isinstance_Share_eq : Gl (X_Share_eq P w K mg base f cd A outer s H EE) "isinstance" := rfl
theorem g_Share_Share_eq : Gl (X_Share_eq P w K mg base f cd A outer s H EE) "Share" := rfl
end
abbrev s_Share_repr : Stmt := inClass (top 7) 2
abbrev N_Share_repr : List Str := ["self"]
theorem sc_Share_repr : FnScope N_Share_repr ["self"] (defScope s_Share_repr) := ⟨rfl, rfl, rfl, by decide +kernel, rfl, by decide +kernel, by decide +kernel⟩
abbrev X_Share_repr (P : Program) (w : World) (K : PySem.W.Frag) (mg : Str → Option Value) (base : Heap) (f : Addr) (cd : Value) (A : Around) (outer : List Env) (s : Shared) (H : Hp) (EE : XK) : Cx := xd P w K mg base N_Share_repr "Share.__repr__" (defScope s_Share_repr) f cd A outer s H EE
section
variable {P : Program} {w : World} {K : PySem.W.Frag} {mg : Str → Option Value} {base : Heap} {f : Addr} {cd : Value} {A : Around} {outer : List Env} {s : Shared} {H : Hp} {EE : XK}
theorem r0_Share_repr : Rd1 (X_Share_repr P w K mg base f cd A outer s H EE) 0 "self" := ⟨rfl, by first | exact .inl rfl | exact .inr (.inl rfl), by decide, by decide⟩
theorem w0_Share_repr : Wr1 (X_Share_repr P w K mg base f cd A outer s H EE) 0 "self" := ⟨sc_Share_repr.nd, rfl, by first | exact .inl rfl | exact .inr rfl, .inl rfl⟩
end
abbrev s_Share_str : Stmt := inClass (top 7) 3
abbrev N_Share_str : List Str := ["self"]
theorem sc_Share_str : FnScope N_Share_str ["self"] (defScope s_Share_str) := ⟨rfl, rfl, rfl, by decide +kernel, rfl, by decide +kernel, by decide +kernel⟩
abbrev X_Share_str (P : Program) (w : World) (K : PySem.W.Frag) (mg : Str → Option Value) (base : Heap) (f : Addr) (cd : Value) (A : Around) (outer : List Env) (s : Shared) (H : Hp) (EE : XK) : Cx := xd P w K mg base N_Share_str "Share.__str__" (defScope s_Share_str) f cd A outer s H EE
section
variable {P : Program} {w : World} {K : PySem.W.Frag} {mg : Str → Option Value} {base : Heap} {f : Addr} {cd : Value} {A : Around} {outer : List Env} {s : Shared} {H : Hp} {EE : XK}
theorem r0_Share_str : Rd1 (X_Share_str P w K mg base f cd A outer s H EE) 0 "self" := ⟨rfl, by first | exact .inl rfl | exact .inr (.inl rfl), by decide, by decide⟩
theorem w0_Share_str : Wr1 (X_Share_str P w K mg base f cd A outer s H EE) 0 "self" := ⟨sc_Share_str.nd, rfl, by first | exact .inl rfl | exact .inr rfl, .inl rfl⟩
theorem g_str_Share_str : Gl (X_Share_str P w K mg base f cd A outer s H EE) "str" := rfl
end
abbrev s_f_share_of : Stmt := top 8
abbrev N_f_share_of : List Str := ["thing"]
theorem sc_f_share_of : FnScope N_f_share_of ["thing"] (defScope s_f_share_of) := ⟨rfl, rfl, rfl, by decide +kernel, rfl, by decide +kernel, by decide +kernel⟩
abbrev X_f_share_of (P : Program) (w : World) (K : PySem.W.Frag) (mg : Str → Option Value) (base : Heap) (f : Addr) (cd : Value) (A : Around) (outer : List Env) (s : Shared) (H : Hp) (EE : XK) : Cx := xd P w K mg base N_f_share_of "share_of" (defScope s_f_share_of) f cd A outer s H EE
section
variable {P : Program} {w : World} {K : PySem.W.Frag} {mg : Str → Option Value} {base : Heap} {f : Addr} {cd : Value} {A : Around} {outer : List Env} {s : Shared} {H : Hp} {EE : XK}
theorem r0_f_share_of : Rd1 (X_f_share_of P w K mg base f cd A outer s H EE) 0 "thing" := ⟨rfl, by first | exact .inl rfl | exact .inr (.inl rfl), by decide, by decide⟩
theorem w0_f_share_of : Wr1 (X_f_share_of P w K mg base f cd A outer s H EE) 0 "thing" := ⟨sc_f_share_of.nd, rfl, by first | exact .inl rfl | exact .inr rfl, .inl rfl⟩
theorem g_isinstance_f_share_of : Gl (X_f_share_of P w K mg base f cd A outer s H EE) "isinstance" := rfl
theorem g_Share_f_share_of : Gl (X_f_share_of P w K mg base f cd A outer s H EE) "Share" := rfl
end
abbrev s_f_plus : Stmt := top 9
abbrev N_f_plus : List Str := ["one", "two"]
theorem sc_f_plus : FnScope N_f_plus ["one", "two"] (defScope s_f_plus) := ⟨rfl, rfl, rfl, by decide +kernel, rfl, by decide +kernel, by decide +kernel⟩
abbrev X_f_plus (P : Program) (w : World) (K : PySem.W.Frag) (mg : Str → Option Value) (base : Heap) (f : Addr) (cd : Value) (A : Around) (outer : List Env) (s : Shared) (H : Hp) (EE : XK) : Cx := xd P w K mg base N_f_plus "plus" (defScope s_f_plus) f cd A outer s H EE
section
variable {P : Program} {w : World} {K : PySem.W.Frag} {mg : Str → Option Value} {base : Heap} {f : Addr} {cd : Value} {A : Around} {outer : List Env} {s : Shared} {H : Hp} {EE : XK}
theorem r0_f_plus : Rd1 (X_f_plus P w K mg base f cd A outer s H EE) 0 "one" := ⟨rfl, by first | exact .inl rfl | exact .inr (.inl rfl), by decide, by decide⟩
theorem w0_f_plus : Wr1 (X_f_plus P w K mg base f cd A outer s H EE) 0 "one" := ⟨sc_f_plus.nd, rfl, by first | exact .inl rfl | exact .inr rfl, .inl rfl⟩
theorem r1_f_plus : Rd1 (X_f_plus P w K mg base f cd A outer s H EE) 1 "two" := ⟨rfl, by first | exact .inl rfl | exact .inr (.inl rfl), by decide, by decide⟩
theorem w1_f_plus : Wr1 (X_f_plus P w K mg base f cd A outer s H EE) 1 "two" := ⟨sc_f_plus.nd, rfl, by first | exact .inl rfl | exact .inr rfl, .inl rfl⟩
theorem g_share_of_f_plus : Gl (X_f_plus P w K mg base f cd A outer s H EE) "share_of" := rfl
theorem g_Share_f_plus : Gl (X_f_plus P w K mg base f cd A outer s H EE) "Share" := rfl
end
abbrev s_f_minus : Stmt := top 10
abbrev N_f_minus : List Str := ["one", "two"]
theorem sc_f_minus : FnScope N_f_minus ["one", "two"] (defScope s_f_minus) := ⟨rfl, rfl, rfl, by decide +kernel, rfl, by decide +kernel, by decide +kernel⟩
abbrev X_f_minus (P : Program) (w : World) (K : PySem.W.Frag) (mg : Str → Option Value) (base : Heap) (f : Addr) (cd : Value) (A : Around) (outer : List Env) (s : Shared) (H : Hp) (EE : XK) : Cx := xd P w K mg base N_f_minus "minus" (defScope s_f_minus) f cd A outer s H EE
section
variable {P : Program} {w : World} {K : PySem.W.Frag} {mg : Str → Option Value} {base : Heap} {f : Addr} {cd : Value} {A : Around} {outer : List Env} {s : Shared} {H : Hp} {EE : XK}
theorem r0_f_minus : Rd1 (X_f_minus P w K mg base f cd A outer s H EE) 0 "one" := ⟨rfl, by first | exact .inl rfl | exact .inr (.inl rfl), by decide, by decide⟩
theorem w0_f_minus : Wr1 (X_f_minus P w K mg base f cd A outer s H EE) 0 "one" := ⟨sc_f_minus.nd, rfl, by first | exact .inl rfl | exact .inr rfl, .inl rfl⟩
theorem r1_f_minus : Rd1 (X_f_minus P w K mg base f cd A outer s H EE) 1 "two" := ⟨rfl, by first | exact .inl rfl | exact .inr (.inl rfl), by decide, by decide⟩
theorem w1_f_minus : Wr1 (X_f_minus P w K mg base f cd A outer s H EE) 1 "two" := ⟨sc_f_minus.nd, rfl, by first | exact .inl rfl | exact .inr rfl, .inl rfl⟩
theorem g_share_of_f_minus : Gl (X_f_minus P w K mg base f cd A outer s H EE) "share_of" := rfl
theorem g_Share_f_minus : Gl (X_f_minus P w K mg base f cd A outer s H EE) "Share" := rfl
end
abbrev s_f_times : Stmt := top 11
abbrev N_f_times : List Str := ["one", "two"]
theorem sc_f_times : FnScope N_f_times ["one", "two"] (defScope s_f_times) := ⟨rfl, rfl, rfl, by decide +kernel, rfl, by decide +kernel, by decide +kernel⟩
abbrev X_f_times (P : Program) (w : World) (K : PySem.W.Frag) (mg : Str → Option Value) (base : Heap) (f : Addr) (cd : Value) (A : Around) (outer : List Env) (s : Shared) (H : Hp) (EE : XK) : Cx := xd P w K mg base N_f_times "times" (defScope s_f_times) f cd A outer s H EE
section
variable {P : Program} {w : World} {K : PySem.W.Frag} {mg : Str → Option Value} {base : Heap} {f : Addr} {cd : Value} {A : Around} {outer : List Env} {s : Shared} {H : Hp} {EE : XK}
theorem r0_f_times : Rd1 (X_f_times P w K mg base f cd A outer s H EE) 0 "one" := ⟨rfl, by first | exact .inl rfl | exact .inr (.inl rfl), by decide, by decide⟩
theorem w0_f_times : Wr1 (X_f_times P w K mg base f cd A outer s H EE) 0 "one" := ⟨sc_f_times.nd, rfl, by first | exact .inl rfl | exact .inr rfl, .inl rfl⟩
theorem r1_f_times : Rd1 (X_f_times P w K mg base f cd A outer s H EE) 1 "two" := ⟨rfl, by first | exact .inl rfl | exact .inr (.inl rfl), by decide, by decide⟩
theorem w1_f_times : Wr1 (X_f_times P w K mg base f cd A outer s H EE) 1 "two" := ⟨sc_f_times.nd, rfl, by first | exact .inl rfl | exact .inr rfl, .inl rfl⟩
theorem g_share_of_f_times : Gl (X_f_times P w K mg base f cd A outer s H EE) "share_of" := rfl
theorem g_Share_f_times : Gl (X_f_times P w K mg base f cd A outer s H EE) "Share" := rfl
end
abbrev s_f_over : Stmt := top 12
abbrev N_f_over : List Str := ["one", "two"]
theorem sc_f_over : FnScope N_f_over ["one", "two"] (defScope s_f_over) := ⟨rfl, rfl, rfl, by decide +kernel, rfl, by decide +kernel, by decide +kernel⟩
abbrev X_f_over (P : Program) (w : World) (K : PySem.W.Frag) (mg : Str → Option Value) (base : Heap) (f : Addr) (cd : Value) (A : Around) (outer : List Env) (s : Shared) (H : Hp) (EE : XK) : Cx := xd P w K mg base N_f_over "over" (defScope s_f_over) f cd A outer s H EE
section
variable {P : Program} {w : World} {K : PySem.W.Frag} {mg : Str → Option Value} {base : Heap} {f : Addr} {cd : Value} {A : Around} {outer : List Env} {s : Shared} {H : Hp} {EE : XK}
theorem r0_f_over : Rd1 (X_f_over P w K mg base f cd A outer s H EE) 0 "one" := ⟨rfl, by first | exact .inl rfl | exact .inr (.inl rfl), by decide, by decide⟩
theorem w0_f_over : Wr1 (X_f_over P w K mg base f cd A outer s H EE) 0 "one" := ⟨sc_f_over.nd, rfl, by first | exact .inl rfl | exact .inr rfl, .inl rfl⟩
theorem r1_f_over : Rd1 (X_f_over P w K mg base f cd A outer s H EE) 1 "two" := ⟨rfl, by first | exact .inl rfl | exact .inr (.inl rfl), by decide, by decide⟩
theorem w1_f_over : Wr1 (X_f_over P w K mg base f cd A outer s H EE) 1 "two" := ⟨sc_f_over.nd, rfl, by first | exact .inl rfl | exact .inr rfl, .inl rfl⟩
theorem g_share_of_f_over : Gl (X_f_over P w K mg base f cd A outer s H EE) "share_of" := rfl
theorem g_NoShare_f_over : Gl (X_f_over P w K mg base f cd A outer s H EE) "NoShare" := rfl
theorem g_Share_f_over : Gl (X_f_over P w K mg base f cd A outer s H EE) "Share" := rfl
end
abbrev s_f_before : Stmt := top 13
abbrev N_f_before : List Str := ["one", "two"]
theorem sc_f_before : FnScope N_f_before ["one", "two"] (defScope s_f_before) := ⟨rfl, rfl, rfl, by decide +kernel, rfl, by decide +kernel, by decide +kernel⟩
abbrev X_f_before (P : Program) (w : World) (K : PySem.W.Frag) (mg : Str → Option Value) (base : Heap) (f : Addr) (cd : Value) (A : Around) (outer : List Env) (s : Shared) (H : Hp) (EE : XK) : Cx := xd P w K mg base N_f_before "before" (defScope s_f_before) f cd A outer s H EE
section
variable {P : Program} {w : World} {K : PySem.W.Frag} {mg : Str → Option Value} {base : Heap} {f : Addr} {cd : Value} {A : Around} {outer : List Env} {s : Shared} {H : Hp} {EE : XK}
theorem r0_f_before : Rd1 (X_f_before P w K mg base f cd A outer s H EE) 0 "one" := ⟨rfl, by first | exact .inl rfl | exact .inr (.inl rfl), by decide, by decide⟩
theorem w0_f_before : Wr1 (X_f_before P w K mg base f cd A outer s H EE) 0 "one" := ⟨sc_f_before.nd, rfl, by first | exact .inl rfl | exact .inr rfl, .inl rfl⟩
theorem r1_f_before : Rd1 (X_f_before P w K mg base f cd A outer s H EE) 1 "two" := ⟨rfl, by first | exact .inl rfl | exact .inr (.inl rfl), by decide, by decide⟩
theorem w1_f_before : Wr1 (X_f_before P w K mg base f cd A outer s H EE) 1 "two" := ⟨sc_f_before.nd, rfl, by first | exact .inl rfl | exact .inr rfl, .inl rfl⟩
theorem g_share_of_f_before : Gl (X_f_before P w K mg base f cd A outer s H EE) "share_of" := rfl
end
abbrev s_f_whole : Stmt := top 14
abbrev N_f_whole : List Str := ["share"]
theorem sc_f_whole : FnScope N_f_whole ["share"] (defScope s_f_whole) := ⟨rfl, rfl, rfl, by decide +kernel, rfl, by decide +kernel, by decide +kernel⟩
abbrev X_f_whole (P : Program) (w : World) (K : PySem.W.Frag) (mg : Str → Option Value) (base : Heap) (f : Addr) (cd : Value) (A : Around) (outer : List Env) (s : Shared) (H : Hp) (EE : XK) : Cx := xd P w K mg base N_f_whole "whole" (defScope s_f_whole) f cd A outer s H EE
section
variable {P : Program} {w : World} {K : PySem.W.Frag} {mg : Str → Option Value} {base : Heap} {f : Addr} {cd : Value} {A : Around} {outer : List Env} {s : Shared} {H : Hp} {EE : XK}
theorem r0_f_whole : Rd1 (X_f_whole P w K mg base f cd A outer s H EE) 0 "share" := ⟨rfl, by first | exact .inl rfl | exact .inr (.inl rfl), by decide, by decide⟩
theorem w0_f_whole : Wr1 (X_f_whole P w K mg base f cd A outer s H EE) 0 "share" := ⟨sc_f_whole.nd, rfl, by first | exact .inl rfl | exact .inr rfl, .inl rfl⟩
theorem g_share_of_f_whole : Gl (X_f_whole P w K mg base f cd A outer s H EE) "share_of" := rfl
end
abbrev s_f_ceiling : Stmt := top 15
abbrev N_f_ceiling : List Str := ["share"]
theorem sc_f_ceiling : FnScope N_f_ceiling ["share"] (defScope s_f_ceiling) := ⟨rfl, rfl, rfl, by decide +kernel, rfl, by decide +kernel, by decide +kernel⟩
abbrev X_f_ceiling (P : Program) (w : World) (K : PySem.W.Frag) (mg : Str → Option Value) (base : Heap) (f : Addr) (cd : Value) (A : Around) (outer : List Env) (s : Shared) (H : Hp) (EE : XK) : Cx := xd P w K mg base N_f_ceiling "ceiling" (defScope s_f_ceiling) f cd A outer s H EE
section
variable {P : Program} {w : World} {K : PySem.W.Frag} {mg : Str → Option Value} {base : Heap} {f : Addr} {cd : Value} {A : Around} {outer : List Env} {s : Shared} {H : Hp} {EE : XK}
theorem r0_f_ceiling : Rd1 (X_f_ceiling P w K mg base f cd A outer s H EE) 0 "share" := ⟨rfl, by first | exact .inl rfl | exact .inr (.inl rfl), by decide, by decide⟩
theorem w0_f_ceiling : Wr1 (X_f_ceiling P w K mg base f cd A outer s H EE) 0 "share" := ⟨sc_f_ceiling.nd, rfl, by first | exact .inl rfl | exact .inr rfl, .inl rfl⟩
theorem g_whole_f_ceiling : Gl (X_f_ceiling P w K mg base f cd A outer s H EE) "whole" := rfl
theorem g_minus_f_ceiling : Gl (X_f_ceiling P w K mg base f cd A outer s H EE) "minus" := rfl
end
abbrev s_Calendar_init : Stmt := inClass (top 17) 0
abbrev N_Calendar_init : List Str := ["self", "month", "year", "moon", "mark", "why"]
theorem sc_Calendar_init : FnScope N_Calendar_init ["self", "month", "year", "moon", "mark"] (defScope s_Calendar_init) := ⟨rfl, rfl, rfl, by decide +kernel, rfl, by decide +kernel, by decide +kernel⟩
abbrev X_Calendar_init (P : Program) (w : World) (K : PySem.W.Frag) (mg : Str → Option Value) (base : Heap) (f : Addr) (cd : Value) (A : Around) (outer : List Env) (s : Shared) (H : Hp) (EE : XK) : Cx := xd P w K mg base N_Calendar_init "Calendar.__init__" (defScope s_Calendar_init) f cd A outer s H EE
section
variable {P : Program} {w : World} {K : PySem.W.Frag} {mg : Str → Option Value} {base : Heap} {f : Addr} {cd : Value} {A : Around} {outer : List Env} {s : Shared} {H : Hp} {EE : XK}
theorem r0_Calendar_init : Rd1 (X_Calendar_init P w K mg base f cd A outer s H EE) 0 "self" := ⟨rfl, by first | exact .inl rfl | exact .inr (.inl rfl), by decide, by decide⟩
theorem w0_Calendar_init : Wr1 (X_Calendar_init P w K mg base f cd A outer s H EE) 0 "self" := ⟨sc_Calendar_init.nd, rfl, by first | exact .inl rfl | exact .inr rfl, .inl rfl⟩
theorem r1_Calendar_init : Rd1 (X_Calendar_init P w K mg base f cd A outer s H EE) 1 "month" := ⟨rfl, by first | exact .inl rfl | exact .inr (.inl rfl), by decide, by decide⟩
theorem w1_Calendar_init : Wr1 (X_Calendar_init P w K mg base f cd A outer s H EE) 1 "month" := ⟨sc_Calendar_init.nd, rfl, by first | exact .inl rfl | exact .inr rfl, .inl rfl⟩
theorem r2_Calendar_init : Rd1 (X_Calendar_init P w K mg base f cd A outer s H EE) 2 "year" := ⟨rfl, by first | exact .inl rfl | exact .inr (.inl rfl), by decide, by decide⟩
theorem w2_Calendar_init : Wr1 (X_Calendar_init P w K mg base f cd A outer s H EE) 2 "year" := ⟨sc_Calendar_init.nd, rfl, by first | exact .inl rfl | exact .inr rfl, .inl rfl⟩
theorem r3_Calendar_init : Rd1 (X_Calendar_init P w K mg base f cd A outer s H EE) 3 "moon" := ⟨rfl, by first | exact .inl rfl | exact .inr (.inl rfl), by decide, by decide⟩
theorem w3_Calendar_init : Wr1 (X_Calendar_init P w K mg base f cd A outer s H EE) 3 "moon" := ⟨sc_Calendar_init.nd, rfl, by first | exact .inl rfl | exact .inr rfl, .inl rfl⟩
theorem r4_Calendar_init : Rd1 (X_Calendar_init P w K mg base f cd A outer s H EE) 4 "mark" := ⟨rfl, by first | exact .inl rfl | exact .inr (.inl rfl), by decide, by decide⟩
theorem w4_Calendar_init : Wr1 (X_Calendar_init P w K mg base f cd A outer s H EE) 4 "mark" := ⟨sc_Calendar_init.nd, rfl, by first | exact .inl rfl | exact .inr rfl, .inl rfl⟩
theorem r5_Calendar_init : Rd1 (X_Calendar_init P w K mg base f cd A outer s H EE) 5 "why" := ⟨rfl, by first | exact .inl rfl | exact .inr (.inl rfl), by decide, by decide⟩
theorem w5_Calendar_init : Wr1 (X_Calendar_init P w K mg base f cd A outer s H EE) 5 "why" := ⟨sc_Calendar_init.nd, rfl, by first | exact .inl rfl | exact .inr rfl, .inl rfl⟩
theorem g_share_of_Calendar_init : Gl (X_Calendar_init P w K mg base f cd A outer s H EE) "share_of" := rfl
theorem g_over_Calendar_init : Gl (X_Calendar_init P w K mg base f cd A outer s H EE) "over" := rfl
theorem g_fault_Calendar_init : Gl (X_Calendar_init P w K mg base f cd A outer s H EE) "fault" := rfl
theorem g_NoCalendar_Calendar_init : Gl (X_Calendar_init P w K mg base f cd A outer s H EE) "NoCalendar" := rfl
end
abbrev s_Calendar_start : Stmt := inClass (top 17) 1
abbrev N_Calendar_start : List Str := ["self", "k"]
theorem sc_Calendar_start : FnScope N_Calendar_start ["self", "k"] (defScope s_Calendar_start) := ⟨rfl, rfl, rfl, by decide +kernel, rfl, by decide +kernel, by decide +kernel⟩
abbrev X_Calendar_start (P : Program) (w : World) (K : PySem.W.Frag) (mg : Str → Option Value) (base : Heap) (f : Addr) (cd : Value) (A : Around) (outer : List Env) (s : Shared) (H : Hp) (EE : XK) : Cx := xd P w K mg base N_Calendar_start "Calendar.start" (defScope s_Calendar_start) f cd A outer s H EE
section
variable {P : Program} {w : World} {K : PySem.W.Frag} {mg : Str → Option Value} {base : Heap} {f : Addr} {cd : Value} {A : Around} {outer : List Env} {s : Shared} {H : Hp} {EE : XK}
theorem r0_Calendar_start : Rd1 (X_Calendar_start P w K mg base f cd A outer s H EE) 0 "self" := ⟨rfl, by first | exact .inl rfl | exact .inr (.inl rfl), by decide, by decide⟩
theorem w0_Calendar_start : Wr1 (X_Calendar_start P w K mg base f cd A outer s H EE) 0 "self" := ⟨sc_Calendar_start.nd, rfl, by first | exact .inl rfl | exact .inr rfl, .inl rfl⟩
theorem r1_Calendar_start : Rd1 (X_Calendar_start P w K mg base f cd A outer s H EE) 1 "k" := ⟨rfl, by first | exact .inl rfl | exact .inr (.inl rfl), by decide, by decide⟩
theorem w1_Calendar_start : Wr1 (X_Calendar_start P w K mg base f cd A outer s H EE) 1 "k" := ⟨sc_Calendar_start.nd, rfl, by first | exact .inl rfl | exact .inr rfl, .inl rfl⟩
theorem g_whole_Calendar_start : Gl (X_Calendar_start P w K mg base f cd A outer s H EE) "whole" := rfl
theorem g_plus_Calendar_start : Gl (X_Calendar_start P w K mg base f cd A outer s H EE) "plus" := rfl
theorem g_times_Calendar_start : Gl (X_Calendar_start P w K mg base f cd A outer s H EE) "times" := rfl
end
abbrev s_Calendar_mark_day : Stmt := inClass (top 17) 3
abbrev N_Calendar_mark_day : List Str := ["self", "j"]
theorem sc_Calendar_mark_day : FnScope N_Calendar_mark_day ["self", "j"] (defScope s_Calendar_mark_day) := ⟨rfl, rfl, rfl, by decide +kernel, rfl, by decide +kernel, by decide +kernel⟩
abbrev X_Calendar_mark_day (P : Program) (w : World) (K : PySem.W.Frag) (mg : Str → Option Value) (base : Heap) (f : Addr) (cd : Value) (A : Around) (outer : List Env) (s : Shared) (H : Hp) (EE : XK) : Cx := xd P w K mg base N_Calendar_mark_day "Calendar.mark_day" (defScope s_Calendar_mark_day) f cd A outer s H EE
section
variable {P : Program} {w : World} {K : PySem.W.Frag} {mg : Str → Option Value} {base : Heap} {f : Addr} {cd : Value} {A : Around} {outer : List Env} {s : Shared} {H : Hp} {EE : XK}
theorem r0_Calendar_mark_day : Rd1 (X_Calendar_mark_day P w K mg base f cd A outer s H EE) 0 "self" := ⟨rfl, by first | exact .inl rfl | exact .inr (.inl rfl), by decide, by decide⟩
theorem w0_Calendar_mark_day : Wr1 (X_Calendar_mark_day P w K mg base f cd A outer s H EE) 0 "self" := ⟨sc_Calendar_mark_day.nd, rfl, by first | exact .inl rfl | exact .inr rfl, .inl rfl⟩
theorem r1_Calendar_mark_day : Rd1 (X_Calendar_mark_day P w K mg base f cd A outer s H EE) 1 "j" := ⟨rfl, by first | exact .inl rfl | exact .inr (.inl rfl), by decide, by decide⟩
theorem w1_Calendar_mark_day : Wr1 (X_Calendar_mark_day P w K mg base f cd A outer s H EE) 1 "j" := ⟨sc_Calendar_mark_day.nd, rfl, by first | exact .inl rfl | exact .inr rfl, .inl rfl⟩
theorem g_whole_Calendar_mark_day : Gl (X_Calendar_mark_day P w K mg base f cd A outer s H EE) "whole" := rfl
theorem g_plus_Calendar_mark_day : Gl (X_Calendar_mark_day P w K mg base f cd A outer s H EE) "plus" := rfl
theorem g_times_Calendar_mark_day : Gl (X_Calendar_mark_day P w K mg base f cd A outer s H EE) "times" := rfl
end
abbrev s_Calendar_eq : Stmt := inClass (top 17) 8
abbrev N_Calendar_eq : List Str := ["self", "other"]
theorem sc_Calendar_eq : FnScope N_Calendar_eq ["self", "other"] (defScope s_Calendar_eq) := ⟨rfl, rfl, rfl, by decide +kernel, rfl, by decide +kernel, by decide +kernel⟩
abbrev X_Calendar_eq (P : Program) (w : World) (K : PySem.W.Frag) (mg : Str → Option Value) (base : Heap) (f : Addr) (cd : Value) (A : Around) (outer : List Env) (s : Shared) (H : Hp) (EE : XK) : Cx := xd P w K mg base N_Calendar_eq "Calendar.__eq__" (defScope s_Calendar_eq) f cd A outer s H EE
section
variable {P : Program} {w : World} {K : PySem.W.Frag} {mg : Str → Option Value} {base : Heap} {f : Addr} {cd : Value} {A : Around} {outer : List Env} {s : Shared} {H : Hp} {EE : XK}
theorem r0_Calendar_eq : Rd1 (X_Calendar_eq P w K mg base f cd A outer s H EE) 0 "self" := ⟨rfl, by first | exact .inl rfl | exact .inr (.inl rfl), by decide, by decide⟩
theorem w0_Calendar_eq : Wr1 (X_Calendar_eq P w K mg base f cd A outer s H EE) 0 "self" := ⟨sc_Calendar_eq.nd, rfl, by first | exact .inl rfl | exact .inr rfl, .inl rfl⟩
theorem r1_Calendar_eq : Rd1 (X_Calendar_eq P w K mg base f cd A outer s H EE) 1 "other" := ⟨rfl, by first | exact .inl rfl | exact .inr (.inl rfl), by decide, by decide⟩
theorem w1_Calendar_eq : Wr1 (X_Calendar_eq P w K mg base f cd A outer s H EE) 1 "other" := ⟨sc_Calendar_eq.nd, rfl, by first | exact .inl rfl | exact .inr rfl, .inl rfl⟩
theorem g_isinstance_Calendar_eq : Gl (X_Calendar_eq P w K mg base f cd A outer s H EE) "isinstance" := rfl
theorem g_Calendar_Calendar_eq : Gl (X_Calendar_eq P w K mg base f cd A outer s H EE) "Calendar" := rfl
theorem g_kept_form_Calendar_eq : Gl (X_Calendar_eq P w K mg base f cd A outer s H EE) "kept_form" := rfl
end
abbrev s_Calendar_repr : Stmt := inClass (top 17) 9
abbrev N_Calendar_repr : List Str := ["self"]
theorem sc_Calendar_repr : FnScope N_Calendar_repr ["self"] (defScope s_Calendar_repr) := ⟨rfl, rfl, rfl, by decide +kernel, rfl, by decide +kernel, by decide +kernel⟩
abbrev X_Calendar_repr (P : Program) (w : World) (K : PySem.W.Frag) (mg : Str → Option Value) (base : Heap) (f : Addr) (cd : Value) (A : Around) (outer : List Env) (s : Shared) (H : Hp) (EE : XK) : Cx := xd P w K mg base N_Calendar_repr "Calendar.__repr__" (defScope s_Calendar_repr) f cd A outer s H EE
section
variable {P : Program} {w : World} {K : PySem.W.Frag} {mg : Str → Option Value} {base : Heap} {f : Addr} {cd : Value} {A : Around} {outer : List Env} {s : Shared} {H : Hp} {EE : XK}
theorem r0_Calendar_repr : Rd1 (X_Calendar_repr P w K mg base f cd A outer s H EE) 0 "self" := ⟨rfl, by first | exact .inl rfl | exact .inr (.inl rfl), by decide, by decide⟩
theorem w0_Calendar_repr : Wr1 (X_Calendar_repr P w K mg base f cd A outer s H EE) 0 "self" := ⟨sc_Calendar_repr.nd, rfl, by first | exact .inl rfl | exact .inr rfl, .inl rfl⟩
end
abbrev s_Calendar_str : Stmt := inClass (top 17) 10
abbrev N_Calendar_str : List Str := ["self"]
theorem sc_Calendar_str : FnScope N_Calendar_str ["self"] (defScope s_Calendar_str) := ⟨rfl, rfl, rfl, by decide +kernel, rfl, by decide +kernel, by decide +kernel⟩
abbrev X_Calendar_str (P : Program) (w : World) (K : PySem.W.Frag) (mg : Str → Option Value) (base : Heap) (f : Addr) (cd : Value) (A : Around) (outer : List Env) (s : Shared) (H : Hp) (EE : XK) : Cx := xd P w K mg base N_Calendar_str "Calendar.__str__" (defScope s_Calendar_str) f cd A outer s H EE
section
variable {P : Program} {w : World} {K : PySem.W.Frag} {mg : Str → Option Value} {base : Heap} {f : Addr} {cd : Value} {A : Around} {outer : List Env} {s : Shared} {H : Hp} {EE : XK}
theorem r0_Calendar_str : Rd1 (X_Calendar_str P w K mg base f cd A outer s H EE) 0 "self" := ⟨rfl, by first | exact .inl rfl | exact .inr (.inl rfl), by decide, by decide⟩
theorem w0_Calendar_str : Wr1 (X_Calendar_str P w K mg base f cd A outer s H EE) 0 "self" := ⟨sc_Calendar_str.nd, rfl, by first | exact .inl rfl | exact .inr rfl, .inl rfl⟩
end
abbrev s_f_fault : Stmt := top 18
abbrev N_f_fault : List Str := ["month", "year"]
theorem sc_f_fault : FnScope N_f_fault ["month", "year"] (defScope s_f_fault) := ⟨rfl, rfl, rfl, by decide +kernel, rfl, by decide +kernel, by decide +kernel⟩
abbrev X_f_fault (P : Program) (w : World) (K : PySem.W.Frag) (mg : Str → Option Value) (base : Heap) (f : Addr) (cd : Value) (A : Around) (outer : List Env) (s : Shared) (H : Hp) (EE : XK) : Cx := xd P w K mg base N_f_fault "fault" (defScope s_f_fault) f cd A outer s H EE
section
variable {P : Program} {w : World} {K : PySem.W.Frag} {mg : Str → Option Value} {base : Heap} {f : Addr} {cd : Value} {A : Around} {outer : List Env} {s : Shared} {H : Hp} {EE : XK}
theorem r0_f_fault : Rd1 (X_f_fault P w K mg base f cd A outer s H EE) 0 "month" := ⟨rfl, by first | exact .inl rfl | exact .inr (.inl rfl), by decide, by decide⟩
theorem w0_f_fault : Wr1 (X_f_fault P w K mg base f cd A outer s H EE) 0 "month" := ⟨sc_f_fault.nd, rfl, by first | exact .inl rfl | exact .inr rfl, .inl rfl⟩
theorem r1_f_fault : Rd1 (X_f_fault P w K mg base f cd A outer s H EE) 1 "year" := ⟨rfl, by first | exact .inl rfl | exact .inr (.inl rfl), by decide, by decide⟩
theorem w1_f_fault : Wr1 (X_f_fault P w K mg base f cd A outer s H EE) 1 "year" := ⟨sc_f_fault.nd, rfl, by first | exact .inl rfl | exact .inr rfl, .inl rfl⟩
theorem g_before_f_fault : Gl (X_f_fault P w K mg base f cd A outer s H EE) "before" := rfl
theorem g_over_f_fault : Gl (X_f_fault P w K mg base f cd A outer s H EE) "over" := rfl
theorem g_ceiling_f_fault : Gl (X_f_fault P w K mg base f cd A outer s H EE) "ceiling" := rfl
theorem g_times_f_fault : Gl (X_f_fault P w K mg base f cd A outer s H EE) "times" := rfl
theorem g_plus_f_fault : Gl (X_f_fault P w K mg base f cd A outer s H EE) "plus" := rfl
end
abbrev s_f_lowered : Stmt := top 19
abbrev N_f_lowered : List Str := ["moment", "bottom"]
theorem sc_f_lowered : FnScope N_f_lowered ["moment", "bottom"] (defScope s_f_lowered) := ⟨rfl, rfl, rfl, by decide +kernel, rfl, by decide +kernel, by decide +kernel⟩
abbrev X_f_lowered (P : Program) (w : World) (K : PySem.W.Frag) (mg : Str → Option Value) (base : Heap) (f : Addr) (cd : Value) (A : Around) (outer : List Env) (s : Shared) (H : Hp) (EE : XK) : Cx := xd P w K mg base N_f_lowered "lowered" (defScope s_f_lowered) f cd A outer s H EE
section
variable {P : Program} {w : World} {K : PySem.W.Frag} {mg : Str → Option Value} {base : Heap} {f : Addr} {cd : Value} {A : Around} {outer : List Env} {s : Shared} {H : Hp} {EE : XK}
theorem r0_f_lowered : Rd1 (X_f_lowered P w K mg base f cd A outer s H EE) 0 "moment" := ⟨rfl, by first | exact .inl rfl | exact .inr (.inl rfl), by decide, by decide⟩
theorem w0_f_lowered : Wr1 (X_f_lowered P w K mg base f cd A outer s H EE) 0 "moment" := ⟨sc_f_lowered.nd, rfl, by first | exact .inl rfl | exact .inr rfl, .inl rfl⟩
theorem r1_f_lowered : Rd1 (X_f_lowered P w K mg base f cd A outer s H EE) 1 "bottom" := ⟨rfl, by first | exact .inl rfl | exact .inr (.inl rfl), by decide, by decide⟩
theorem w1_f_lowered : Wr1 (X_f_lowered P w K mg base f cd A outer s H EE) 1 "bottom" := ⟨sc_f_lowered.nd, rfl, by first | exact .inl rfl | exact .inr rfl, .inl rfl⟩
theorem g_Share_f_lowered : Gl (X_f_lowered P w K mg base f cd A outer s H EE) "Share" := rfl
theorem g_whole_f_lowered : Gl (X_f_lowered P w K mg base f cd A outer s H EE) "whole" := rfl
theorem g_times_f_lowered : Gl (X_f_lowered P w K mg base f cd A outer s H EE) "times" := rfl
end
abbrev s_f_kept_form : Stmt := top 20
abbrev N_f_kept_form : List Str := ["calendar", "month", "moon", "mark"]
theorem sc_f_kept_form : FnScope N_f_kept_form ["calendar"] (defScope s_f_kept_form) := ⟨rfl, rfl, rfl, by decide +kernel, rfl, by decide +kernel, by decide +kernel⟩
abbrev X_f_kept_form (P : Program) (w : World) (K : PySem.W.Frag) (mg : Str → Option Value) (base : Heap) (f : Addr) (cd : Value) (A : Around) (outer : List Env) (s : Shared) (H : Hp) (EE : XK) : Cx := xd P w K mg base N_f_kept_form "kept_form" (defScope s_f_kept_form) f cd A outer s H EE
section
variable {P : Program} {w : World} {K : PySem.W.Frag} {mg : Str → Option Value} {base : Heap} {f : Addr} {cd : Value} {A : Around} {outer : List Env} {s : Shared} {H : Hp} {EE : XK}
theorem r0_f_kept_form : Rd1 (X_f_kept_form P w K mg base f cd A outer s H EE) 0 "calendar" := ⟨rfl, by first | exact .inl rfl | exact .inr (.inl rfl), by decide, by decide⟩
theorem w0_f_kept_form : Wr1 (X_f_kept_form P w K mg base f cd A outer s H EE) 0 "calendar" := ⟨sc_f_kept_form.nd, rfl, by first | exact .inl rfl | exact .inr rfl, .inl rfl⟩
theorem r1_f_kept_form : Rd1 (X_f_kept_form P w K mg base f cd A outer s H EE) 1 "month" := ⟨rfl, by first | exact .inl rfl | exact .inr (.inl rfl), by decide, by decide⟩
theorem w1_f_kept_form : Wr1 (X_f_kept_form P w K mg base f cd A outer s H EE) 1 "month" := ⟨sc_f_kept_form.nd, rfl, by first | exact .inl rfl | exact .inr rfl, .inl rfl⟩
theorem r2_f_kept_form : Rd1 (X_f_kept_form P w K mg base f cd A outer s H EE) 2 "moon" := ⟨rfl, by first | exact .inl rfl | exact .inr (.inl rfl), by decide, by decide⟩
theorem w2_f_kept_form : Wr1 (X_f_kept_form P w K mg base f cd A outer s H EE) 2 "moon" := ⟨sc_f_kept_form.nd, rfl, by first | exact .inl rfl | exact .inr rfl, .inl rfl⟩
theorem r3_f_kept_form : Rd1 (X_f_kept_form P w K mg base f cd A outer s H EE) 3 "mark" := ⟨rfl, by first | exact .inl rfl | exact .inr (.inl rfl), by decide, by decide⟩
theorem w3_f_kept_form : Wr1 (X_f_kept_form P w K mg base f cd A outer s H EE) 3 "mark" := ⟨sc_f_kept_form.nd, rfl, by first | exact .inl rfl | exact .inr rfl, .inl rfl⟩
theorem g_minus_f_kept_form : Gl (X_f_kept_form P w K mg base f cd A outer s H EE) "minus" := rfl
theorem g_times_f_kept_form : Gl (X_f_kept_form P w K mg base f cd A outer s H EE) "times" := rfl
theorem g_whole_f_kept_form : Gl (X_f_kept_form P w K mg base f cd A outer s H EE) "whole" := rfl
theorem g_over_f_kept_form : Gl (X_f_kept_form P w K mg base f cd A outer s H EE) "over" := rfl
theorem g_lowered_f_kept_form : Gl (X_f_kept_form P w K mg base f cd A outer s H EE) "lowered" := rfl
end
abbrev s_f_number_in : Stmt := top 23
abbrev N_f_number_in : List Str := ["word", "base", "number"]
theorem sc_f_number_in : FnScope N_f_number_in ["word", "base"] (defScope s_f_number_in) := ⟨rfl, rfl, rfl, by decide +kernel, rfl, by decide +kernel, by decide +kernel⟩
abbrev X_f_number_in (P : Program) (w : World) (K : PySem.W.Frag) (mg : Str → Option Value) (base : Heap) (f : Addr) (cd : Value) (A : Around) (outer : List Env) (s : Shared) (H : Hp) (EE : XK) : Cx := xd P w K mg base N_f_number_in "number_in" (defScope s_f_number_in) f cd A outer s H EE
section
variable {P : Program} {w : World} {K : PySem.W.Frag} {mg : Str → Option Value} {base : Heap} {f : Addr} {cd : Value} {A : Around} {outer : List Env} {s : Shared} {H : Hp} {EE : XK}
theorem r0_f_number_in : Rd1 (X_f_number_in P w K mg base f cd A outer s H EE) 0 "word" := ⟨rfl, by first | exact .inl rfl | exact .inr (.inl rfl), by decide, by decide⟩
theorem w0_f_number_in : Wr1 (X_f_number_in P w K mg base f cd A outer s H EE) 0 "word" := ⟨sc_f_number_in.nd, rfl, by first | exact .inl rfl | exact .inr rfl, .inl rfl⟩
theorem r1_f_number_in : Rd1 (X_f_number_in P w K mg base f cd A outer s H EE) 1 "base" := ⟨rfl, by first | exact .inl rfl | exact .inr (.inl rfl), by decide, by decide⟩
theorem w1_f_number_in : Wr1 (X_f_number_in P w K mg base f cd A outer s H EE) 1 "base" := ⟨sc_f_number_in.nd, rfl, by first | exact .inl rfl | exact .inr rfl, .inl rfl⟩
theorem r2_f_number_in : Rd1 (X_f_number_in P w K mg base f cd A outer s H EE) 2 "number" := ⟨rfl, by first | exact .inl rfl | exact .inr (.inl rfl), by decide, by decide⟩
theorem w2_f_number_in : Wr1 (X_f_number_in P w K mg base f cd A outer s H EE) 2 "number" := ⟨sc_f_number_in.nd, rfl, by first | exact .inl rfl | exact .inr rfl, .inl rfl⟩
theorem g_int_f_number_in : Gl (X_f_number_in P w K mg base f cd A outer s H EE) "int" := rfl
theorem g_ValueError_f_number_in : Gl (X_f_number_in P w K mg base f cd A outer s H EE) "ValueError" := rfl
end
abbrev s_f_share_in : Stmt := top 24
abbrev N_f_share_in : List Str := ["text", "word", "stroke", "rest", "top", "bottom", "share"]
theorem sc_f_share_in : FnScope N_f_share_in ["text"] (defScope s_f_share_in) := ⟨rfl, rfl, rfl, by decide +kernel, rfl, by decide +kernel, by decide +kernel⟩
abbrev X_f_share_in (P : Program) (w : World) (K : PySem.W.Frag) (mg : Str → Option Value) (base : Heap) (f : Addr) (cd : Value) (A : Around) (outer : List Env) (s : Shared) (H : Hp) (EE : XK) : Cx := xd P w K mg base N_f_share_in "share_in" (defScope s_f_share_in) f cd A outer s H EE
section
variable {P : Program} {w : World} {K : PySem.W.Frag} {mg : Str → Option Value} {base : Heap} {f : Addr} {cd : Value} {A : Around} {outer : List Env} {s : Shared} {H : Hp} {EE : XK}
theorem r0_f_share_in : Rd1 (X_f_share_in P w K mg base f cd A outer s H EE) 0 "text" := ⟨rfl, by first | exact .inl rfl | exact .inr (.inl rfl), by decide, by decide⟩
theorem w0_f_share_in : Wr1 (X_f_share_in P w K mg base f cd A outer s H EE) 0 "text" := ⟨sc_f_share_in.nd, rfl, by first | exact .inl rfl | exact .inr rfl, .inl rfl⟩
theorem r1_f_share_in : Rd1 (X_f_share_in P w K mg base f cd A outer s H EE) 1 "word" := ⟨rfl, by first | exact .inl rfl | exact .inr (.inl rfl), by decide, by decide⟩
theorem w1_f_share_in : Wr1 (X_f_share_in P w K mg base f cd A outer s H EE) 1 "word" := ⟨sc_f_share_in.nd, rfl, by first | exact .inl rfl | exact .inr rfl, .inl rfl⟩
theorem r2_f_share_in : Rd1 (X_f_share_in P w K mg base f cd A outer s H EE) 2 "stroke" := ⟨rfl, by first | exact .inl rfl | exact .inr (.inl rfl), by decide, by decide⟩
theorem w2_f_share_in : Wr1 (X_f_share_in P w K mg base f cd A outer s H EE) 2 "stroke" := ⟨sc_f_share_in.nd, rfl, by first | exact .inl rfl | exact .inr rfl, .inl rfl⟩
theorem r3_f_share_in : Rd1 (X_f_share_in P w K mg base f cd A outer s H EE) 3 "rest" := ⟨rfl, by first | exact .inl rfl | exact .inr (.inl rfl), by decide, by decide⟩
theorem w3_f_share_in : Wr1 (X_f_share_in P w K mg base f cd A outer s H EE) 3 "rest" := ⟨sc_f_share_in.nd, rfl, by first | exact .inl rfl | exact .inr rfl, .inl rfl⟩
theorem r4_f_share_in : Rd1 (X_f_share_in P w K mg base f cd A outer s H EE) 4 "top" := ⟨rfl, by first | exact .inl rfl | exact .inr (.inl rfl), by decide, by decide⟩
theorem w4_f_share_in : Wr1 (X_f_share_in P w K mg base f cd A outer s H EE) 4 "top" := ⟨sc_f_share_in.nd, rfl, by first | exact .inl rfl | exact .inr rfl, .inl rfl⟩
theorem r5_f_share_in : Rd1 (X_f_share_in P w K mg base f cd A outer s H EE) 5 "bottom" := ⟨rfl, by first | exact .inl rfl | exact .inr (.inl rfl), by decide, by decide⟩
theorem w5_f_share_in : Wr1 (X_f_share_in P w K mg base f cd A outer s H EE) 5 "bottom" := ⟨sc_f_share_in.nd, rfl, by first | exact .inl rfl | exact .inr rfl, .inl rfl⟩
theorem r6_f_share_in : Rd1 (X_f_share_in P w K mg base f cd A outer s H EE) 6 "share" := ⟨rfl, by first | exact .inl rfl | exact .inr (.inl rfl), by decide, by decide⟩
theorem w6_f_share_in : Wr1 (X_f_share_in P w K mg base f cd A outer s H EE) 6 "share" := ⟨sc_f_share_in.nd, rfl, by first | exact .inl rfl | exact .inr rfl, .inl rfl⟩
theorem g_number_in_f_share_in : Gl (X_f_share_in P w K mg base f cd A outer s H EE) "number_in" := rfl
theorem g_Share_f_share_in : Gl (X_f_share_in P w K mg base f cd A outer s H EE) "Share" := rfl
theorem g_str_f_share_in : Gl (X_f_share_in P w K mg base f cd A outer s H EE) "str" := rfl
end
abbrev s_f_read_calendar : Stmt := top 25
abbrev N_f_read_calendar : List Str := ["text", "rests", "lines", "line", "word", "blank", "rest", "shares"]
theorem sc_f_read_calendar : FnScope N_f_read_calendar ["text"] (defScope s_f_read_calendar) := ⟨rfl, rfl, rfl, by decide +kernel, rfl, by decide +kernel, by decide +kernel⟩
abbrev X_f_read_calendar (P : Program) (w : World) (K : PySem.W.Frag) (mg : Str → Option Value) (base : Heap) (f : Addr) (cd : Value) (A : Around) (outer : List Env) (s : Shared) (H : Hp) (EE : XK) : Cx := xd P w K mg base N_f_read_calendar "read_calendar" (defScope s_f_read_calendar) f cd A outer s H EE
section
variable {P : Program} {w : World} {K : PySem.W.Frag} {mg : Str → Option Value} {base : Heap} {f : Addr} {cd : Value} {A : Around} {outer : List Env} {s : Shared} {H : Hp} {EE : XK}
theorem r0_f_read_calendar : Rd1 (X_f_read_calendar P w K mg base f cd A outer s H EE) 0 "text" := ⟨rfl, by first | exact .inl rfl | exact .inr (.inl rfl), by decide, by decide⟩
theorem w0_f_read_calendar : Wr1 (X_f_read_calendar P w K mg base f cd A outer s H EE) 0 "text" := ⟨sc_f_read_calendar.nd, rfl, by first | exact .inl rfl | exact .inr rfl, .inl rfl⟩
theorem r1_f_read_calendar : Rd1 (X_f_read_calendar P w K mg base f cd A outer s H EE) 1 "rests" := ⟨rfl, by first | exact .inl rfl | exact .inr (.inl rfl), by decide, by decide⟩
theorem w1_f_read_calendar : Wr1 (X_f_read_calendar P w K mg base f cd A outer s H EE) 1 "rests" := ⟨sc_f_read_calendar.nd, rfl, by first | exact .inl rfl | exact .inr rfl, .inl rfl⟩
theorem r2_f_read_calendar : Rd1 (X_f_read_calendar P w K mg base f cd A outer s H EE) 2 "lines" := ⟨rfl, by first | exact .inl rfl | exact .inr (.inl rfl), by decide, by decide⟩
theorem w2_f_read_calendar : Wr1 (X_f_read_calendar P w K mg base f cd A outer s H EE) 2 "lines" := ⟨sc_f_read_calendar.nd, rfl, by first | exact .inl rfl | exact .inr rfl, .inl rfl⟩
theorem r3_f_read_calendar : Rd1 (X_f_read_calendar P w K mg base f cd A outer s H EE) 3 "line" := ⟨rfl, by first | exact .inl rfl | exact .inr (.inl rfl), by decide, by decide⟩
theorem w3_f_read_calendar : Wr1 (X_f_read_calendar P w K mg base f cd A outer s H EE) 3 "line" := ⟨sc_f_read_calendar.nd, rfl, by first | exact .inl rfl | exact .inr rfl, .inl rfl⟩
theorem r4_f_read_calendar : Rd1 (X_f_read_calendar P w K mg base f cd A outer s H EE) 4 "word" := ⟨rfl, by first | exact .inl rfl | exact .inr (.inl rfl), by decide, by decide⟩
theorem w4_f_read_calendar : Wr1 (X_f_read_calendar P w K mg base f cd A outer s H EE) 4 "word" := ⟨sc_f_read_calendar.nd, rfl, by first | exact .inl rfl | exact .inr rfl, .inl rfl⟩
theorem r5_f_read_calendar : Rd1 (X_f_read_calendar P w K mg base f cd A outer s H EE) 5 "blank" := ⟨rfl, by first | exact .inl rfl | exact .inr (.inl rfl), by decide, by decide⟩
theorem w5_f_read_calendar : Wr1 (X_f_read_calendar P w K mg base f cd A outer s H EE) 5 "blank" := ⟨sc_f_read_calendar.nd, rfl, by first | exact .inl rfl | exact .inr rfl, .inl rfl⟩
theorem r6_f_read_calendar : Rd1 (X_f_read_calendar P w K mg base f cd A outer s H EE) 6 "rest" := ⟨rfl, by first | exact .inl rfl | exact .inr (.inl rfl), by decide, by decide⟩
theorem w6_f_read_calendar : Wr1 (X_f_read_calendar P w K mg base f cd A outer s H EE) 6 "rest" := ⟨sc_f_read_calendar.nd, rfl, by first | exact .inl rfl | exact .inr rfl, .inl rfl⟩
theorem r7_f_read_calendar : Rd1 (X_f_read_calendar P w K mg base f cd A outer s H EE) 7 "shares" := ⟨rfl, by first | exact .inl rfl | exact .inr (.inl rfl), by decide, by decide⟩
theorem w7_f_read_calendar : Wr1 (X_f_read_calendar P w K mg base f cd A outer s H EE) 7 "shares" := ⟨sc_f_read_calendar.nd, rfl, by first | exact .inl rfl | exact .inr rfl, .inl rfl⟩
theorem g_WORDS_f_read_calendar : Gl (X_f_read_calendar P w K mg base f cd A outer s H EE) "WORDS" := rfl
theorem g_NoText_f_read_calendar : Gl (X_f_read_calendar P w K mg base f cd A outer s H EE) "NoText" := rfl
theorem g_share_in_f_read_calendar : Gl (X_f_read_calendar P w K mg base f cd A outer s H EE) "share_in" := rfl
theorem g_Calendar_f_read_calendar : Gl (X_f_read_calendar P w K mg base f cd A outer s H EE) "Calendar" := rfl
end
abbrev s_f_L_draws : Stmt := top 27
abbrev N_f_L_draws : List Str := ["_law_cell", "_law_cut", "_law_k"]
theorem sc_f_L_draws : FnScope N_f_L_draws ["_law_cell"] (defScope s_f_L_draws) := ⟨rfl, rfl, rfl, by decide +kernel, rfl, by decide +kernel, by decide +kernel⟩
abbrev X_f_L_draws (P : Program) (w : World) (K : PySem.W.Frag) (mg : Str → Option Value) (base : Heap) (f : Addr) (cd : Value) (A : Around) (outer : List Env) (s : Shared) (H : Hp) (EE : XK) : Cx := xd P w K mg base N_f_L_draws "_law_draws" (defScope s_f_L_draws) f cd A outer s H EE
section
variable {P : Program} {w : World} {K : PySem.W.Frag} {mg : Str → Option Value} {base : Heap} {f : Addr} {cd : Value} {A : Around} {outer : List Env} {s : Shared} {H : Hp} {EE : XK}
theorem r0_f_L_draws : Rd1 (X_f_L_draws P w K mg base f cd A outer s H EE) 0 "_law_cell" := ⟨rfl, by first | exact .inl rfl | exact .inr (.inl rfl), by decide, by decide⟩
theorem w0_f_L_draws : Wr1 (X_f_L_draws P w K mg base f cd A outer s H EE) 0 "_law_cell" := ⟨sc_f_L_draws.nd, rfl, by first | exact .inl rfl | exact .inr rfl, .inl rfl⟩
theorem r1_f_L_draws : Rd1 (X_f_L_draws P w K mg base f cd A outer s H EE) 1 "_law_cut" := ⟨rfl, by first | exact .inl rfl | exact .inr (.inl rfl), by decide, by decide⟩
theorem w1_f_L_draws : Wr1 (X_f_L_draws P w K mg base f cd A outer s H EE) 1 "_law_cut" := ⟨sc_f_L_draws.nd, rfl, by first | exact .inl rfl | exact .inr rfl, .inl rfl⟩
theorem r2_f_L_draws : Rd1 (X_f_L_draws P w K mg base f cd A outer s H EE) 2 "_law_k" := ⟨rfl, by first | exact .inl rfl | exact .inr (.inl rfl), by decide, by decide⟩
theorem w2_f_L_draws : Wr1 (X_f_L_draws P w K mg base f cd A outer s H EE) 2 "_law_k" := ⟨sc_f_L_draws.nd, rfl, by first | exact .inl rfl | exact .inr rfl, .inl rfl⟩
theorem g_range_f_L_draws : Gl (X_f_L_draws P w K mg base f cd A outer s H EE) "range" := rfl
end
abbrev s_f_L_next : Stmt := top 28
abbrev N_f_L_next : List Str := ["_law_draws_here", "_law_k", "_law_number"]
theorem sc_f_L_next : FnScope N_f_L_next ["_law_draws_here"] (defScope s_f_L_next) := ⟨rfl, rfl, rfl, by decide +kernel, rfl, by decide +kernel, by decide +kernel⟩
abbrev X_f_L_next (P : Program) (w : World) (K : PySem.W.Frag) (mg : Str → Option Value) (base : Heap) (f : Addr) (cd : Value) (A : Around) (outer : List Env) (s : Shared) (H : Hp) (EE : XK) : Cx := xd P w K mg base N_f_L_next "_law_next" (defScope s_f_L_next) f cd A outer s H EE
section
variable {P : Program} {w : World} {K : PySem.W.Frag} {mg : Str → Option Value} {base : Heap} {f : Addr} {cd : Value} {A : Around} {outer : List Env} {s : Shared} {H : Hp} {EE : XK}
theorem r0_f_L_next : Rd1 (X_f_L_next P w K mg base f cd A outer s H EE) 0 "_law_draws_here" := ⟨rfl, by first | exact .inl rfl | exact .inr (.inl rfl), by decide, by decide⟩
theorem w0_f_L_next : Wr1 (X_f_L_next P w K mg base f cd A outer s H EE) 0 "_law_draws_here" := ⟨sc_f_L_next.nd, rfl, by first | exact .inl rfl | exact .inr rfl, .inl rfl⟩
theorem r1_f_L_next : Rd1 (X_f_L_next P w K mg base f cd A outer s H EE) 1 "_law_k" := ⟨rfl, by first | exact .inl rfl | exact .inr (.inl rfl), by decide, by decide⟩
theorem w1_f_L_next : Wr1 (X_f_L_next P w K mg base f cd A outer s H EE) 1 "_law_k" := ⟨sc_f_L_next.nd, rfl, by first | exact .inl rfl | exact .inr rfl, .inl rfl⟩
theorem r2_f_L_next : Rd1 (X_f_L_next P w K mg base f cd A outer s H EE) 2 "_law_number" := ⟨rfl, by first | exact .inl rfl | exact .inr (.inl rfl), by decide, by decide⟩
theorem w2_f_L_next : Wr1 (X_f_L_next P w K mg base f cd A outer s H EE) 2 "_law_number" := ⟨sc_f_L_next.nd, rfl, by first | exact .inl rfl | exact .inr rfl, .inl rfl⟩
end
abbrev s_f_L_low : Stmt := top 29
abbrev N_f_L_low : List Str := ["_law_top", "_law_bottom", "_law_one", "_law_two"]
theorem sc_f_L_low : FnScope N_f_L_low ["_law_top", "_law_bottom"] (defScope s_f_L_low) := ⟨rfl, rfl, rfl, by decide +kernel, rfl, by decide +kernel, by decide +kernel⟩
abbrev X_f_L_low (P : Program) (w : World) (K : PySem.W.Frag) (mg : Str → Option Value) (base : Heap) (f : Addr) (cd : Value) (A : Around) (outer : List Env) (s : Shared) (H : Hp) (EE : XK) : Cx := xd P w K mg base N_f_L_low "_law_low" (defScope s_f_L_low) f cd A outer s H EE
section
variable {P : Program} {w : World} {K : PySem.W.Frag} {mg : Str → Option Value} {base : Heap} {f : Addr} {cd : Value} {A : Around} {outer : List Env} {s : Shared} {H : Hp} {EE : XK}
theorem r0_f_L_low : Rd1 (X_f_L_low P w K mg base f cd A outer s H EE) 0 "_law_top" := ⟨rfl, by first | exact .inl rfl | exact .inr (.inl rfl), by decide, by decide⟩
theorem w0_f_L_low : Wr1 (X_f_L_low P w K mg base f cd A outer s H EE) 0 "_law_top" := ⟨sc_f_L_low.nd, rfl, by first | exact .inl rfl | exact .inr rfl, .inl rfl⟩
theorem r1_f_L_low : Rd1 (X_f_L_low P w K mg base f cd A outer s H EE) 1 "_law_bottom" := ⟨rfl, by first | exact .inl rfl | exact .inr (.inl rfl), by decide, by decide⟩
theorem w1_f_L_low : Wr1 (X_f_L_low P w K mg base f cd A outer s H EE) 1 "_law_bottom" := ⟨sc_f_L_low.nd, rfl, by first | exact .inl rfl | exact .inr rfl, .inl rfl⟩
theorem r2_f_L_low : Rd1 (X_f_L_low P w K mg base f cd A outer s H EE) 2 "_law_one" := ⟨rfl, by first | exact .inl rfl | exact .inr (.inl rfl), by decide, by decide⟩
theorem w2_f_L_low : Wr1 (X_f_L_low P w K mg base f cd A outer s H EE) 2 "_law_one" := ⟨sc_f_L_low.nd, rfl, by first | exact .inl rfl | exact .inr rfl, .inl rfl⟩
theorem r3_f_L_low : Rd1 (X_f_L_low P w K mg base f cd A outer s H EE) 3 "_law_two" := ⟨rfl, by first | exact .inl rfl | exact .inr (.inl rfl), by decide, by decide⟩
theorem w3_f_L_low : Wr1 (X_f_L_low P w K mg base f cd A outer s H EE) 3 "_law_two" := ⟨sc_f_L_low.nd, rfl, by first | exact .inl rfl | exact .inr rfl, .inl rfl⟩
theorem g_abs_f_L_low : Gl (X_f_L_low P w K mg base f cd A outer s H EE) "abs" := rfl
end
abbrev s_f_L_plus : Stmt := top 30
abbrev N_f_L_plus : List Str := ["_law_one", "_law_two"]
theorem sc_f_L_plus : FnScope N_f_L_plus ["_law_one", "_law_two"] (defScope s_f_L_plus) := ⟨rfl, rfl, rfl, by decide +kernel, rfl, by decide +kernel, by decide +kernel⟩
abbrev X_f_L_plus (P : Program) (w : World) (K : PySem.W.Frag) (mg : Str → Option Value) (base : Heap) (f : Addr) (cd : Value) (A : Around) (outer : List Env) (s : Shared) (H : Hp) (EE : XK) : Cx := xd P w K mg base N_f_L_plus "_law_plus" (defScope s_f_L_plus) f cd A outer s H EE
section
variable {P : Program} {w : World} {K : PySem.W.Frag} {mg : Str → Option Value} {base : Heap} {f : Addr} {cd : Value} {A : Around} {outer : List Env} {s : Shared} {H : Hp} {EE : XK}
theorem r0_f_L_plus : Rd1 (X_f_L_plus P w K mg base f cd A outer s H EE) 0 "_law_one" := ⟨rfl, by first | exact .inl rfl | exact .inr (.inl rfl), by decide, by decide⟩
theorem w0_f_L_plus : Wr1 (X_f_L_plus P w K mg base f cd A outer s H EE) 0 "_law_one" := ⟨sc_f_L_plus.nd, rfl, by first | exact .inl rfl | exact .inr rfl, .inl rfl⟩
theorem r1_f_L_plus : Rd1 (X_f_L_plus P w K mg base f cd A outer s H EE) 1 "_law_two" := ⟨rfl, by first | exact .inl rfl | exact .inr (.inl rfl), by decide, by decide⟩
theorem w1_f_L_plus : Wr1 (X_f_L_plus P w K mg base f cd A outer s H EE) 1 "_law_two" := ⟨sc_f_L_plus.nd, rfl, by first | exact .inl rfl | exact .inr rfl, .inl rfl⟩
theorem g__law_low_f_L_plus : Gl (X_f_L_plus P w K mg base f cd A outer s H EE) "_law_low" := rfl
end
abbrev s_f_L_by : Stmt := top 31
abbrev N_f_L_by : List Str := ["_law_one", "_law_two"]
theorem sc_f_L_by : FnScope N_f_L_by ["_law_one", "_law_two"] (defScope s_f_L_by) := ⟨rfl, rfl, rfl, by decide +kernel, rfl, by decide +kernel, by decide +kernel⟩
abbrev X_f_L_by (P : Program) (w : World) (K : PySem.W.Frag) (mg : Str → Option Value) (base : Heap) (f : Addr) (cd : Value) (A : Around) (outer : List Env) (s : Shared) (H : Hp) (EE : XK) : Cx := xd P w K mg base N_f_L_by "_law_by" (defScope s_f_L_by) f cd A outer s H EE
section
variable {P : Program} {w : World} {K : PySem.W.Frag} {mg : Str → Option Value} {base : Heap} {f : Addr} {cd : Value} {A : Around} {outer : List Env} {s : Shared} {H : Hp} {EE : XK}
theorem r0_f_L_by : Rd1 (X_f_L_by P w K mg base f cd A outer s H EE) 0 "_law_one" := ⟨rfl, by first | exact .inl rfl | exact .inr (.inl rfl), by decide, by decide⟩
theorem w0_f_L_by : Wr1 (X_f_L_by P w K mg base f cd A outer s H EE) 0 "_law_one" := ⟨sc_f_L_by.nd, rfl, by first | exact .inl rfl | exact .inr rfl, .inl rfl⟩
theorem r1_f_L_by : Rd1 (X_f_L_by P w K mg base f cd A outer s H EE) 1 "_law_two" := ⟨rfl, by first | exact .inl rfl | exact .inr (.inl rfl), by decide, by decide⟩
theorem w1_f_L_by : Wr1 (X_f_L_by P w K mg base f cd A outer s H EE) 1 "_law_two" := ⟨sc_f_L_by.nd, rfl, by first | exact .inl rfl | exact .inr rfl, .inl rfl⟩
theorem g__law_low_f_L_by : Gl (X_f_L_by P w K mg base f cd A outer s H EE) "_law_low" := rfl
end
abbrev s_f_L_part : Stmt := top 32
abbrev N_f_L_part : List Str := ["_law_draws_here", "_law_pick", "_law_bottom"]
theorem sc_f_L_part : FnScope N_f_L_part ["_law_draws_here"] (defScope s_f_L_part) := ⟨rfl, rfl, rfl, by decide +kernel, rfl, by decide +kernel, by decide +kernel⟩
abbrev X_f_L_part (P : Program) (w : World) (K : PySem.W.Frag) (mg : Str → Option Value) (base : Heap) (f : Addr) (cd : Value) (A : Around) (outer : List Env) (s : Shared) (H : Hp) (EE : XK) : Cx := xd P w K mg base N_f_L_part "_law_part" (defScope s_f_L_part) f cd A outer s H EE
section
variable {P : Program} {w : World} {K : PySem.W.Frag} {mg : Str → Option Value} {base : Heap} {f : Addr} {cd : Value} {A : Around} {outer : List Env} {s : Shared} {H : Hp} {EE : XK}
theorem r0_f_L_part : Rd1 (X_f_L_part P w K mg base f cd A outer s H EE) 0 "_law_draws_here" := ⟨rfl, by first | exact .inl rfl | exact .inr (.inl rfl), by decide, by decide⟩
theorem w0_f_L_part : Wr1 (X_f_L_part P w K mg base f cd A outer s H EE) 0 "_law_draws_here" := ⟨sc_f_L_part.nd, rfl, by first | exact .inl rfl | exact .inr rfl, .inl rfl⟩
theorem r1_f_L_part : Rd1 (X_f_L_part P w K mg base f cd A outer s H EE) 1 "_law_pick" := ⟨rfl, by first | exact .inl rfl | exact .inr (.inl rfl), by decide, by decide⟩
theorem w1_f_L_part : Wr1 (X_f_L_part P w K mg base f cd A outer s H EE) 1 "_law_pick" := ⟨sc_f_L_part.nd, rfl, by first | exact .inl rfl | exact .inr rfl, .inl rfl⟩
theorem r2_f_L_part : Rd1 (X_f_L_part P w K mg base f cd A outer s H EE) 2 "_law_bottom" := ⟨rfl, by first | exact .inl rfl | exact .inr (.inl rfl), by decide, by decide⟩
theorem w2_f_L_part : Wr1 (X_f_L_part P w K mg base f cd A outer s H EE) 2 "_law_bottom" := ⟨sc_f_L_part.nd, rfl, by first | exact .inl rfl | exact .inr rfl, .inl rfl⟩
theorem g__law_next_f_L_part : Gl (X_f_L_part P w K mg base f cd A outer s H EE) "_law_next" := rfl
theorem g__law_low_f_L_part : Gl (X_f_L_part P w K mg base f cd A outer s H EE) "_law_low" := rfl
end
abbrev s_f_L_moment : Stmt := top 33
abbrev N_f_L_moment : List Str := ["_law_draws_here", "_law_part_here", "_law_pick", "_law_far"]
theorem sc_f_L_moment : FnScope N_f_L_moment ["_law_draws_here"] (defScope s_f_L_moment) := ⟨rfl, rfl, rfl, by decide +kernel, rfl, by decide +kernel, by decide +kernel⟩
abbrev X_f_L_moment (P : Program) (w : World) (K : PySem.W.Frag) (mg : Str → Option Value) (base : Heap) (f : Addr) (cd : Value) (A : Around) (outer : List Env) (s : Shared) (H : Hp) (EE : XK) : Cx := xd P w K mg base N_f_L_moment "_law_moment" (defScope s_f_L_moment) f cd A outer s H EE
section
variable {P : Program} {w : World} {K : PySem.W.Frag} {mg : Str → Option Value} {base : Heap} {f : Addr} {cd : Value} {A : Around} {outer : List Env} {s : Shared} {H : Hp} {EE : XK}
theorem r0_f_L_moment : Rd1 (X_f_L_moment P w K mg base f cd A outer s H EE) 0 "_law_draws_here" := ⟨rfl, by first | exact .inl rfl | exact .inr (.inl rfl), by decide, by decide⟩
theorem w0_f_L_moment : Wr1 (X_f_L_moment P w K mg base f cd A outer s H EE) 0 "_law_draws_here" := ⟨sc_f_L_moment.nd, rfl, by first | exact .inl rfl | exact .inr rfl, .inl rfl⟩
theorem r1_f_L_moment : Rd1 (X_f_L_moment P w K mg base f cd A outer s H EE) 1 "_law_part_here" := ⟨rfl, by first | exact .inl rfl | exact .inr (.inl rfl), by decide, by decide⟩
theorem w1_f_L_moment : Wr1 (X_f_L_moment P w K mg base f cd A outer s H EE) 1 "_law_part_here" := ⟨sc_f_L_moment.nd, rfl, by first | exact .inl rfl | exact .inr rfl, .inl rfl⟩
theorem r2_f_L_moment : Rd1 (X_f_L_moment P w K mg base f cd A outer s H EE) 2 "_law_pick" := ⟨rfl, by first | exact .inl rfl | exact .inr (.inl rfl), by decide, by decide⟩
theorem w2_f_L_moment : Wr1 (X_f_L_moment P w K mg base f cd A outer s H EE) 2 "_law_pick" := ⟨sc_f_L_moment.nd, rfl, by first | exact .inl rfl | exact .inr rfl, .inl rfl⟩
theorem r3_f_L_moment : Rd1 (X_f_L_moment P w K mg base f cd A outer s H EE) 3 "_law_far" := ⟨rfl, by first | exact .inl rfl | exact .inr (.inl rfl), by decide, by decide⟩
theorem w3_f_L_moment : Wr1 (X_f_L_moment P w K mg base f cd A outer s H EE) 3 "_law_far" := ⟨sc_f_L_moment.nd, rfl, by first | exact .inl rfl | exact .inr rfl, .inl rfl⟩
theorem g__law_part_f_L_moment : Gl (X_f_L_moment P w K mg base f cd A outer s H EE) "_law_part" := rfl
theorem g__law_next_f_L_moment : Gl (X_f_L_moment P w K mg base f cd A outer s H EE) "_law_next" := rfl
theorem g__law_plus_f_L_moment : Gl (X_f_L_moment P w K mg base f cd A outer s H EE) "_law_plus" := rfl
end
abbrev s_f_L_four : Stmt := top 34
abbrev N_f_L_four : List Str := ["_law_draws_here", "_law_pick", "_law_told", "_law_a_month", "_law_a_year", "_law_w", "_law_s", "_law_r"]
theorem sc_f_L_four : FnScope N_f_L_four ["_law_draws_here"] (defScope s_f_L_four) := ⟨rfl, rfl, rfl, by decide +kernel, rfl, by decide +kernel, by decide +kernel⟩
abbrev X_f_L_four (P : Program) (w : World) (K : PySem.W.Frag) (mg : Str → Option Value) (base : Heap) (f : Addr) (cd : Value) (A : Around) (outer : List Env) (s : Shared) (H : Hp) (EE : XK) : Cx := xd P w K mg base N_f_L_four "_law_four" (defScope s_f_L_four) f cd A outer s H EE
section
variable {P : Program} {w : World} {K : PySem.W.Frag} {mg : Str → Option Value} {base : Heap} {f : Addr} {cd : Value} {A : Around} {outer : List Env} {s : Shared} {H : Hp} {EE : XK}
theorem r0_f_L_four : Rd1 (X_f_L_four P w K mg base f cd A outer s H EE) 0 "_law_draws_here" := ⟨rfl, by first | exact .inl rfl | exact .inr (.inl rfl), by decide, by decide⟩
theorem w0_f_L_four : Wr1 (X_f_L_four P w K mg base f cd A outer s H EE) 0 "_law_draws_here" := ⟨sc_f_L_four.nd, rfl, by first | exact .inl rfl | exact .inr rfl, .inl rfl⟩
theorem r1_f_L_four : Rd1 (X_f_L_four P w K mg base f cd A outer s H EE) 1 "_law_pick" := ⟨rfl, by first | exact .inl rfl | exact .inr (.inl rfl), by decide, by decide⟩
theorem w1_f_L_four : Wr1 (X_f_L_four P w K mg base f cd A outer s H EE) 1 "_law_pick" := ⟨sc_f_L_four.nd, rfl, by first | exact .inl rfl | exact .inr rfl, .inl rfl⟩
theorem r2_f_L_four : Rd1 (X_f_L_four P w K mg base f cd A outer s H EE) 2 "_law_told" := ⟨rfl, by first | exact .inl rfl | exact .inr (.inl rfl), by decide, by decide⟩
theorem w2_f_L_four : Wr1 (X_f_L_four P w K mg base f cd A outer s H EE) 2 "_law_told" := ⟨sc_f_L_four.nd, rfl, by first | exact .inl rfl | exact .inr rfl, .inl rfl⟩
theorem r3_f_L_four : Rd1 (X_f_L_four P w K mg base f cd A outer s H EE) 3 "_law_a_month" := ⟨rfl, by first | exact .inl rfl | exact .inr (.inl rfl), by decide, by decide⟩
theorem w3_f_L_four : Wr1 (X_f_L_four P w K mg base f cd A outer s H EE) 3 "_law_a_month" := ⟨sc_f_L_four.nd, rfl, by first | exact .inl rfl | exact .inr rfl, .inl rfl⟩
theorem r4_f_L_four : Rd1 (X_f_L_four P w K mg base f cd A outer s H EE) 4 "_law_a_year" := ⟨rfl, by first | exact .inl rfl | exact .inr (.inl rfl), by decide, by decide⟩
theorem w4_f_L_four : Wr1 (X_f_L_four P w K mg base f cd A outer s H EE) 4 "_law_a_year" := ⟨sc_f_L_four.nd, rfl, by first | exact .inl rfl | exact .inr rfl, .inl rfl⟩
theorem r5_f_L_four : Rd1 (X_f_L_four P w K mg base f cd A outer s H EE) 5 "_law_w" := ⟨rfl, by first | exact .inl rfl | exact .inr (.inl rfl), by decide, by decide⟩
theorem w5_f_L_four : Wr1 (X_f_L_four P w K mg base f cd A outer s H EE) 5 "_law_w" := ⟨sc_f_L_four.nd, rfl, by first | exact .inl rfl | exact .inr rfl, .inl rfl⟩
theorem r6_f_L_four : Rd1 (X_f_L_four P w K mg base f cd A outer s H EE) 6 "_law_s" := ⟨rfl, by first | exact .inl rfl | exact .inr (.inl rfl), by decide, by decide⟩
theorem w6_f_L_four : Wr1 (X_f_L_four P w K mg base f cd A outer s H EE) 6 "_law_s" := ⟨sc_f_L_four.nd, rfl, by first | exact .inl rfl | exact .inr rfl, .inl rfl⟩
theorem r7_f_L_four : Rd1 (X_f_L_four P w K mg base f cd A outer s H EE) 7 "_law_r" := ⟨rfl, by first | exact .inl rfl | exact .inr (.inl rfl), by decide, by decide⟩
theorem w7_f_L_four : Wr1 (X_f_L_four P w K mg base f cd A outer s H EE) 7 "_law_r" := ⟨sc_f_L_four.nd, rfl, by first | exact .inl rfl | exact .inr rfl, .inl rfl⟩
theorem g__law_next_f_L_four : Gl (X_f_L_four P w K mg base f cd A outer s H EE) "_law_next" := rfl
theorem g__law_part_f_L_four : Gl (X_f_L_four P w K mg base f cd A outer s H EE) "_law_part" := rfl
theorem g__law_by_f_L_four : Gl (X_f_L_four P w K mg base f cd A outer s H EE) "_law_by" := rfl
theorem g__law_plus_f_L_four : Gl (X_f_L_four P w K mg base f cd A outer s H EE) "_law_plus" := rfl
theorem g__law_moment_f_L_four : Gl (X_f_L_four P w K mg base f cd A outer s H EE) "_law_moment" := rfl
end
abbrev s_f_L_floor : Stmt := top 35
abbrev N_f_L_floor : List Str := ["_law_fraction"]
theorem sc_f_L_floor : FnScope N_f_L_floor ["_law_fraction"] (defScope s_f_L_floor) := ⟨rfl, rfl, rfl, by decide +kernel, rfl, by decide +kernel, by decide +kernel⟩
abbrev X_f_L_floor (P : Program) (w : World) (K : PySem.W.Frag) (mg : Str → Option Value) (base : Heap) (f : Addr) (cd : Value) (A : Around) (outer : List Env) (s : Shared) (H : Hp) (EE : XK) : Cx := xd P w K mg base N_f_L_floor "_law_floor" (defScope s_f_L_floor) f cd A outer s H EE
section
variable {P : Program} {w : World} {K : PySem.W.Frag} {mg : Str → Option Value} {base : Heap} {f : Addr} {cd : Value} {A : Around} {outer : List Env} {s : Shared} {H : Hp} {EE : XK}
theorem r0_f_L_floor : Rd1 (X_f_L_floor P w K mg base f cd A outer s H EE) 0 "_law_fraction" := ⟨rfl, by first | exact .inl rfl | exact .inr (.inl rfl), by decide, by decide⟩
theorem w0_f_L_floor : Wr1 (X_f_L_floor P w K mg base f cd A outer s H EE) 0 "_law_fraction" := ⟨sc_f_L_floor.nd, rfl, by first | exact .inl rfl | exact .inr rfl, .inl rfl⟩
end
abbrev s_f_L_start : Stmt := top 36
abbrev N_f_L_start : List Str := ["_law_four_here", "_law_k"]
theorem sc_f_L_start : FnScope N_f_L_start ["_law_four_here", "_law_k"] (defScope s_f_L_start) := ⟨rfl, rfl, rfl, by decide +kernel, rfl, by decide +kernel, by decide +kernel⟩
abbrev X_f_L_start (P : Program) (w : World) (K : PySem.W.Frag) (mg : Str → Option Value) (base : Heap) (f : Addr) (cd : Value) (A : Around) (outer : List Env) (s : Shared) (H : Hp) (EE : XK) : Cx := xd P w K mg base N_f_L_start "_law_start" (defScope s_f_L_start) f cd A outer s H EE
section
variable {P : Program} {w : World} {K : PySem.W.Frag} {mg : Str → Option Value} {base : Heap} {f : Addr} {cd : Value} {A : Around} {outer : List Env} {s : Shared} {H : Hp} {EE : XK}
theorem r0_f_L_start : Rd1 (X_f_L_start P w K mg base f cd A outer s H EE) 0 "_law_four_here" := ⟨rfl, by first | exact .inl rfl | exact .inr (.inl rfl), by decide, by decide⟩
theorem w0_f_L_start : Wr1 (X_f_L_start P w K mg base f cd A outer s H EE) 0 "_law_four_here" := ⟨sc_f_L_start.nd, rfl, by first | exact .inl rfl | exact .inr rfl, .inl rfl⟩
theorem r1_f_L_start : Rd1 (X_f_L_start P w K mg base f cd A outer s H EE) 1 "_law_k" := ⟨rfl, by first | exact .inl rfl | exact .inr (.inl rfl), by decide, by decide⟩
theorem w1_f_L_start : Wr1 (X_f_L_start P w K mg base f cd A outer s H EE) 1 "_law_k" := ⟨sc_f_L_start.nd, rfl, by first | exact .inl rfl | exact .inr rfl, .inl rfl⟩
theorem g__law_floor_f_L_start : Gl (X_f_L_start P w K mg base f cd A outer s H EE) "_law_floor" := rfl
theorem g__law_plus_f_L_start : Gl (X_f_L_start P w K mg base f cd A outer s H EE) "_law_plus" := rfl
theorem g__law_by_f_L_start : Gl (X_f_L_start P w K mg base f cd A outer s H EE) "_law_by" := rfl
end
abbrev s_f_L_mark_day : Stmt := top 37
abbrev N_f_L_mark_day : List Str := ["_law_four_here", "_law_j"]
theorem sc_f_L_mark_day : FnScope N_f_L_mark_day ["_law_four_here", "_law_j"] (defScope s_f_L_mark_day) := ⟨rfl, rfl, rfl, by decide +kernel, rfl, by decide +kernel, by decide +kernel⟩
abbrev X_f_L_mark_day (P : Program) (w : World) (K : PySem.W.Frag) (mg : Str → Option Value) (base : Heap) (f : Addr) (cd : Value) (A : Around) (outer : List Env) (s : Shared) (H : Hp) (EE : XK) : Cx := xd P w K mg base N_f_L_mark_day "_law_mark_day" (defScope s_f_L_mark_day) f cd A outer s H EE
section
variable {P : Program} {w : World} {K : PySem.W.Frag} {mg : Str → Option Value} {base : Heap} {f : Addr} {cd : Value} {A : Around} {outer : List Env} {s : Shared} {H : Hp} {EE : XK}
theorem r0_f_L_mark_day : Rd1 (X_f_L_mark_day P w K mg base f cd A outer s H EE) 0 "_law_four_here" := ⟨rfl, by first | exact .inl rfl | exact .inr (.inl rfl), by decide, by decide⟩
theorem w0_f_L_mark_day : Wr1 (X_f_L_mark_day P w K mg base f cd A outer s H EE) 0 "_law_four_here" := ⟨sc_f_L_mark_day.nd, rfl, by first | exact .inl rfl | exact .inr rfl, .inl rfl⟩
theorem r1_f_L_mark_day : Rd1 (X_f_L_mark_day P w K mg base f cd A outer s H EE) 1 "_law_j" := ⟨rfl, by first | exact .inl rfl | exact .inr (.inl rfl), by decide, by decide⟩
theorem w1_f_L_mark_day : Wr1 (X_f_L_mark_day P w K mg base f cd A outer s H EE) 1 "_law_j" := ⟨sc_f_L_mark_day.nd, rfl, by first | exact .inl rfl | exact .inr rfl, .inl rfl⟩
theorem g__law_floor_f_L_mark_day : Gl (X_f_L_mark_day P w K mg base f cd A outer s H EE) "_law_floor" := rfl
theorem g__law_plus_f_L_mark_day : Gl (X_f_L_mark_day P w K mg base f cd A outer s H EE) "_law_plus" := rfl
theorem g__law_by_f_L_mark_day : Gl (X_f_L_mark_day P w K mg base f cd A outer s H EE) "_law_by" := rfl
end
abbrev s_f_L_cal : Stmt := top 38
abbrev N_f_L_cal : List Str := ["_law_draws_here", "_law_four_here", "_law_parts", "_law_one"]
theorem sc_f_L_cal : FnScope N_f_L_cal ["_law_draws_here", "_law_four_here"] (defScope s_f_L_cal) := ⟨rfl, rfl, rfl, by decide +kernel, rfl, by decide +kernel, by decide +kernel⟩
abbrev X_f_L_cal (P : Program) (w : World) (K : PySem.W.Frag) (mg : Str → Option Value) (base : Heap) (f : Addr) (cd : Value) (A : Around) (outer : List Env) (s : Shared) (H : Hp) (EE : XK) : Cx := xd P w K mg base N_f_L_cal "_law_cal" (defScope s_f_L_cal) f cd A outer s H EE
section
variable {P : Program} {w : World} {K : PySem.W.Frag} {mg : Str → Option Value} {base : Heap} {f : Addr} {cd : Value} {A : Around} {outer : List Env} {s : Shared} {H : Hp} {EE : XK}
theorem r0_f_L_cal : Rd1 (X_f_L_cal P w K mg base f cd A outer s H EE) 0 "_law_draws_here" := ⟨rfl, by first | exact .inl rfl | exact .inr (.inl rfl), by decide, by decide⟩
theorem w0_f_L_cal : Wr1 (X_f_L_cal P w K mg base f cd A outer s H EE) 0 "_law_draws_here" := ⟨sc_f_L_cal.nd, rfl, by first | exact .inl rfl | exact .inr rfl, .inl rfl⟩
theorem r1_f_L_cal : Rd1 (X_f_L_cal P w K mg base f cd A outer s H EE) 1 "_law_four_here" := ⟨rfl, by first | exact .inl rfl | exact .inr (.inl rfl), by decide, by decide⟩
theorem w1_f_L_cal : Wr1 (X_f_L_cal P w K mg base f cd A outer s H EE) 1 "_law_four_here" := ⟨sc_f_L_cal.nd, rfl, by first | exact .inl rfl | exact .inr rfl, .inl rfl⟩
theorem r2_f_L_cal : Rd1 (X_f_L_cal P w K mg base f cd A outer s H EE) 2 "_law_parts" := ⟨rfl, by first | exact .inl rfl | exact .inr (.inl rfl), by decide, by decide⟩
theorem w2_f_L_cal : Wr1 (X_f_L_cal P w K mg base f cd A outer s H EE) 2 "_law_parts" := ⟨sc_f_L_cal.nd, rfl, by first | exact .inl rfl | exact .inr rfl, .inl rfl⟩
theorem g__law_next_f_L_cal : Gl (X_f_L_cal P w K mg base f cd A outer s H EE) "_law_next" := rfl
theorem g_Calendar_f_L_cal : Gl (X_f_L_cal P w K mg base f cd A outer s H EE) "Calendar" := rfl
end
abbrev s_f_L_share_text : Stmt := top 39
abbrev N_f_L_share_text : List Str := ["_law_fraction"]
theorem sc_f_L_share_text : FnScope N_f_L_share_text ["_law_fraction"] (defScope s_f_L_share_text) := ⟨rfl, rfl, rfl, by decide +kernel, rfl, by decide +kernel, by decide +kernel⟩
abbrev X_f_L_share_text (P : Program) (w : World) (K : PySem.W.Frag) (mg : Str → Option Value) (base : Heap) (f : Addr) (cd : Value) (A : Around) (outer : List Env) (s : Shared) (H : Hp) (EE : XK) : Cx := xd P w K mg base N_f_L_share_text "_law_share_text" (defScope s_f_L_share_text) f cd A outer s H EE
section
variable {P : Program} {w : World} {K : PySem.W.Frag} {mg : Str → Option Value} {base : Heap} {f : Addr} {cd : Value} {A : Around} {outer : List Env} {s : Shared} {H : Hp} {EE : XK}
theorem r0_f_L_share_text : Rd1 (X_f_L_share_text P w K mg base f cd A outer s H EE) 0 "_law_fraction" := ⟨rfl, by first | exact .inl rfl | exact .inr (.inl rfl), by decide, by decide⟩
theorem w0_f_L_share_text : Wr1 (X_f_L_share_text P w K mg base f cd A outer s H EE) 0 "_law_fraction" := ⟨sc_f_L_share_text.nd, rfl, by first | exact .inl rfl | exact .inr rfl, .inl rfl⟩
theorem g_str_f_L_share_text : Gl (X_f_L_share_text P w K mg base f cd A outer s H EE) "str" := rfl
end
abbrev s_f_L_lines : Stmt := top 40
abbrev N_f_L_lines : List Str := ["_law_four_here", "_law_words", "_law_word", "_law_one"]
theorem sc_f_L_lines : FnScope N_f_L_lines ["_law_four_here"] (defScope s_f_L_lines) := ⟨rfl, rfl, rfl, by decide +kernel, rfl, by decide +kernel, by decide +kernel⟩
abbrev X_f_L_lines (P : Program) (w : World) (K : PySem.W.Frag) (mg : Str → Option Value) (base : Heap) (f : Addr) (cd : Value) (A : Around) (outer : List Env) (s : Shared) (H : Hp) (EE : XK) : Cx := xd P w K mg base N_f_L_lines "_law_lines" (defScope s_f_L_lines) f cd A outer s H EE
section
variable {P : Program} {w : World} {K : PySem.W.Frag} {mg : Str → Option Value} {base : Heap} {f : Addr} {cd : Value} {A : Around} {outer : List Env} {s : Shared} {H : Hp} {EE : XK}
theorem r0_f_L_lines : Rd1 (X_f_L_lines P w K mg base f cd A outer s H EE) 0 "_law_four_here" := ⟨rfl, by first | exact .inl rfl | exact .inr (.inl rfl), by decide, by decide⟩
theorem w0_f_L_lines : Wr1 (X_f_L_lines P w K mg base f cd A outer s H EE) 0 "_law_four_here" := ⟨sc_f_L_lines.nd, rfl, by first | exact .inl rfl | exact .inr rfl, .inl rfl⟩
theorem r1_f_L_lines : Rd1 (X_f_L_lines P w K mg base f cd A outer s H EE) 1 "_law_words" := ⟨rfl, by first | exact .inl rfl | exact .inr (.inl rfl), by decide, by decide⟩
theorem w1_f_L_lines : Wr1 (X_f_L_lines P w K mg base f cd A outer s H EE) 1 "_law_words" := ⟨sc_f_L_lines.nd, rfl, by first | exact .inl rfl | exact .inr rfl, .inl rfl⟩
theorem g_zip_f_L_lines : Gl (X_f_L_lines P w K mg base f cd A outer s H EE) "zip" := rfl
end
abbrev s_f_L_turned : Stmt := top 41
abbrev N_f_L_turned : List Str := ["_law_draws_here", "_law_lines_here", "_law_told", "_law_line"]
theorem sc_f_L_turned : FnScope N_f_L_turned ["_law_draws_here", "_law_lines_here"] (defScope s_f_L_turned) := ⟨rfl, rfl, rfl, by decide +kernel, rfl, by decide +kernel, by decide +kernel⟩
abbrev X_f_L_turned (P : Program) (w : World) (K : PySem.W.Frag) (mg : Str → Option Value) (base : Heap) (f : Addr) (cd : Value) (A : Around) (outer : List Env) (s : Shared) (H : Hp) (EE : XK) : Cx := xd P w K mg base N_f_L_turned "_law_turned" (defScope s_f_L_turned) f cd A outer s H EE
section
variable {P : Program} {w : World} {K : PySem.W.Frag} {mg : Str → Option Value} {base : Heap} {f : Addr} {cd : Value} {A : Around} {outer : List Env} {s : Shared} {H : Hp} {EE : XK}
theorem r0_f_L_turned : Rd1 (X_f_L_turned P w K mg base f cd A outer s H EE) 0 "_law_draws_here" := ⟨rfl, by first | exact .inl rfl | exact .inr (.inl rfl), by decide, by decide⟩
theorem w0_f_L_turned : Wr1 (X_f_L_turned P w K mg base f cd A outer s H EE) 0 "_law_draws_here" := ⟨sc_f_L_turned.nd, rfl, by first | exact .inl rfl | exact .inr rfl, .inl rfl⟩
theorem r1_f_L_turned : Rd1 (X_f_L_turned P w K mg base f cd A outer s H EE) 1 "_law_lines_here" := ⟨rfl, by first | exact .inl rfl | exact .inr (.inl rfl), by decide, by decide⟩
theorem w1_f_L_turned : Wr1 (X_f_L_turned P w K mg base f cd A outer s H EE) 1 "_law_lines_here" := ⟨sc_f_L_turned.nd, rfl, by first | exact .inl rfl | exact .inr rfl, .inl rfl⟩
theorem r2_f_L_turned : Rd1 (X_f_L_turned P w K mg base f cd A outer s H EE) 2 "_law_told" := ⟨rfl, by first | exact .inl rfl | exact .inr (.inl rfl), by decide, by decide⟩
theorem w2_f_L_turned : Wr1 (X_f_L_turned P w K mg base f cd A outer s H EE) 2 "_law_told" := ⟨sc_f_L_turned.nd, rfl, by first | exact .inl rfl | exact .inr rfl, .inl rfl⟩
theorem r3_f_L_turned : Rd1 (X_f_L_turned P w K mg base f cd A outer s H EE) 3 "_law_line" := ⟨rfl, by first | exact .inl rfl | exact .inr (.inl rfl), by decide, by decide⟩
theorem w3_f_L_turned : Wr1 (X_f_L_turned P w K mg base f cd A outer s H EE) 3 "_law_line" := ⟨sc_f_L_turned.nd, rfl, by first | exact .inl rfl | exact .inr rfl, .inl rfl⟩
theorem g__law_next_f_L_turned : Gl (X_f_L_turned P w K mg base f cd A outer s H EE) "_law_next" := rfl
theorem g_len_f_L_turned : Gl (X_f_L_turned P w K mg base f cd A outer s H EE) "len" := rfl
end
abbrev s_f_L_is_it : Stmt := top 42
abbrev N_f_L_is_it : List Str := ["_law_calendar", "_law_four_here", "_law_a_text", "_law_parts", "_law_words", "_law_k", "_law_one"]
theorem sc_f_L_is_it : FnScope N_f_L_is_it ["_law_calendar", "_law_four_here", "_law_a_text"] (defScope s_f_L_is_it) := ⟨rfl, rfl, rfl, by decide +kernel, rfl, by decide +kernel, by decide +kernel⟩
abbrev X_f_L_is_it (P : Program) (w : World) (K : PySem.W.Frag) (mg : Str → Option Value) (base : Heap) (f : Addr) (cd : Value) (A : Around) (outer : List Env) (s : Shared) (H : Hp) (EE : XK) : Cx := xd P w K mg base N_f_L_is_it "_law_is_it" (defScope s_f_L_is_it) f cd A outer s H EE
section
variable {P : Program} {w : World} {K : PySem.W.Frag} {mg : Str → Option Value} {base : Heap} {f : Addr} {cd : Value} {A : Around} {outer : List Env} {s : Shared} {H : Hp} {EE : XK}
theorem r0_f_L_is_it : Rd1 (X_f_L_is_it P w K mg base f cd A outer s H EE) 0 "_law_calendar" := ⟨rfl, by first | exact .inl rfl | exact .inr (.inl rfl), by decide, by decide⟩
theorem w0_f_L_is_it : Wr1 (X_f_L_is_it P w K mg base f cd A outer s H EE) 0 "_law_calendar" := ⟨sc_f_L_is_it.nd, rfl, by first | exact .inl rfl | exact .inr rfl, .inl rfl⟩
theorem r1_f_L_is_it : Rd1 (X_f_L_is_it P w K mg base f cd A outer s H EE) 1 "_law_four_here" := ⟨rfl, by first | exact .inl rfl | exact .inr (.inl rfl), by decide, by decide⟩
theorem w1_f_L_is_it : Wr1 (X_f_L_is_it P w K mg base f cd A outer s H EE) 1 "_law_four_here" := ⟨sc_f_L_is_it.nd, rfl, by first | exact .inl rfl | exact .inr rfl, .inl rfl⟩
theorem r2_f_L_is_it : Rd1 (X_f_L_is_it P w K mg base f cd A outer s H EE) 2 "_law_a_text" := ⟨rfl, by first | exact .inl rfl | exact .inr (.inl rfl), by decide, by decide⟩
theorem w2_f_L_is_it : Wr1 (X_f_L_is_it P w K mg base f cd A outer s H EE) 2 "_law_a_text" := ⟨sc_f_L_is_it.nd, rfl, by first | exact .inl rfl | exact .inr rfl, .inl rfl⟩
theorem r3_f_L_is_it : Rd1 (X_f_L_is_it P w K mg base f cd A outer s H EE) 3 "_law_parts" := ⟨rfl, by first | exact .inl rfl | exact .inr (.inl rfl), by decide, by decide⟩
theorem w3_f_L_is_it : Wr1 (X_f_L_is_it P w K mg base f cd A outer s H EE) 3 "_law_parts" := ⟨sc_f_L_is_it.nd, rfl, by first | exact .inl rfl | exact .inr rfl, .inl rfl⟩
theorem r4_f_L_is_it : Rd1 (X_f_L_is_it P w K mg base f cd A outer s H EE) 4 "_law_words" := ⟨rfl, by first | exact .inl rfl | exact .inr (.inl rfl), by decide, by decide⟩
theorem w4_f_L_is_it : Wr1 (X_f_L_is_it P w K mg base f cd A outer s H EE) 4 "_law_words" := ⟨sc_f_L_is_it.nd, rfl, by first | exact .inl rfl | exact .inr rfl, .inl rfl⟩
theorem r5_f_L_is_it : Rd1 (X_f_L_is_it P w K mg base f cd A outer s H EE) 5 "_law_k" := ⟨rfl, by first | exact .inl rfl | exact .inr (.inl rfl), by decide, by decide⟩
theorem w5_f_L_is_it : Wr1 (X_f_L_is_it P w K mg base f cd A outer s H EE) 5 "_law_k" := ⟨sc_f_L_is_it.nd, rfl, by first | exact .inl rfl | exact .inr rfl, .inl rfl⟩
theorem g_isinstance_f_L_is_it : Gl (X_f_L_is_it P w K mg base f cd A outer s H EE) "isinstance" := rfl
theorem g_Calendar_f_L_is_it : Gl (X_f_L_is_it P w K mg base f cd A outer s H EE) "Calendar" := rfl
theorem g_str_f_L_is_it : Gl (X_f_L_is_it P w K mg base f cd A outer s H EE) "str" := rfl
theorem g_list_f_L_is_it : Gl (X_f_L_is_it P w K mg base f cd A outer s H EE) "list" := rfl
theorem g_repr_f_L_is_it : Gl (X_f_L_is_it P w K mg base f cd A outer s H EE) "repr" := rfl
theorem g__law_start_f_L_is_it : Gl (X_f_L_is_it P w K mg base f cd A outer s H EE) "_law_start" := rfl
theorem g__law_mark_day_f_L_is_it : Gl (X_f_L_is_it P w K mg base f cd A outer s H EE) "_law_mark_day" := rfl
end
abbrev s_f_L_plain : Stmt := top 43
abbrev N_f_L_plain : List Str := ["_law_one"]
theorem sc_f_L_plain : FnScope N_f_L_plain ["_law_one"] (defScope s_f_L_plain) := ⟨rfl, rfl, rfl, by decide +kernel, rfl, by decide +kernel, by decide +kernel⟩
abbrev X_f_L_plain (P : Program) (w : World) (K : PySem.W.Frag) (mg : Str → Option Value) (base : Heap) (f : Addr) (cd : Value) (A : Around) (outer : List Env) (s : Shared) (H : Hp) (EE : XK) : Cx := xd P w K mg base N_f_L_plain "_law_plain" (defScope s_f_L_plain) f cd A outer s H EE
section
variable {P : Program} {w : World} {K : PySem.W.Frag} {mg : Str → Option Value} {base : Heap} {f : Addr} {cd : Value} {A : Around} {outer : List Env} {s : Shared} {H : Hp} {EE : XK}
theorem r0_f_L_plain : Rd1 (X_f_L_plain P w K mg base f cd A outer s H EE) 0 "_law_one" := ⟨rfl, by first | exact .inl rfl | exact .inr (.inl rfl), by decide, by decide⟩
theorem w0_f_L_plain : Wr1 (X_f_L_plain P w K mg base f cd A outer s H EE) 0 "_law_one" := ⟨sc_f_L_plain.nd, rfl, by first | exact .inl rfl | exact .inr rfl, .inl rfl⟩
theorem g_Share_f_L_plain : Gl (X_f_L_plain P w K mg base f cd A outer s H EE) "Share" := rfl
theorem g_int_f_L_plain : Gl (X_f_L_plain P w K mg base f cd A outer s H EE) "int" := rfl
end
abbrev s_f_L_right : Stmt := top 44
abbrev N_f_L_right : List Str := ["_law_draws_here", "_law_four_here", "_law_calendar", "_law_lines_here", "_law_a_text", "_law_other", "_law_k", "_law_turned_here", "_law_told", "_law_one"]
theorem sc_f_L_right : FnScope N_f_L_right ["_law_draws_here"] (defScope s_f_L_right) := ⟨rfl, rfl, rfl, by decide +kernel, rfl, by decide +kernel, by decide +kernel⟩
abbrev X_f_L_right (P : Program) (w : World) (K : PySem.W.Frag) (mg : Str → Option Value) (base : Heap) (f : Addr) (cd : Value) (A : Around) (outer : List Env) (s : Shared) (H : Hp) (EE : XK) : Cx := xd P w K mg base N_f_L_right "_law_right" (defScope s_f_L_right) f cd A outer s H EE
section
variable {P : Program} {w : World} {K : PySem.W.Frag} {mg : Str → Option Value} {base : Heap} {f : Addr} {cd : Value} {A : Around} {outer : List Env} {s : Shared} {H : Hp} {EE : XK}
theorem r0_f_L_right : Rd1 (X_f_L_right P w K mg base f cd A outer s H EE) 0 "_law_draws_here" := ⟨rfl, by first | exact .inl rfl | exact .inr (.inl rfl), by decide, by decide⟩
theorem w0_f_L_right : Wr1 (X_f_L_right P w K mg base f cd A outer s H EE) 0 "_law_draws_here" := ⟨sc_f_L_right.nd, rfl, by first | exact .inl rfl | exact .inr rfl, .inl rfl⟩
theorem r1_f_L_right : Rd1 (X_f_L_right P w K mg base f cd A outer s H EE) 1 "_law_four_here" := ⟨rfl, by first | exact .inl rfl | exact .inr (.inl rfl), by decide, by decide⟩
theorem w1_f_L_right : Wr1 (X_f_L_right P w K mg base f cd A outer s H EE) 1 "_law_four_here" := ⟨sc_f_L_right.nd, rfl, by first | exact .inl rfl | exact .inr rfl, .inl rfl⟩
theorem r2_f_L_right : Rd1 (X_f_L_right P w K mg base f cd A outer s H EE) 2 "_law_calendar" := ⟨rfl, by first | exact .inl rfl | exact .inr (.inl rfl), by decide, by decide⟩
theorem w2_f_L_right : Wr1 (X_f_L_right P w K mg base f cd A outer s H EE) 2 "_law_calendar" := ⟨sc_f_L_right.nd, rfl, by first | exact .inl rfl | exact .inr rfl, .inl rfl⟩
theorem r3_f_L_right : Rd1 (X_f_L_right P w K mg base f cd A outer s H EE) 3 "_law_lines_here" := ⟨rfl, by first | exact .inl rfl | exact .inr (.inl rfl), by decide, by decide⟩
theorem w3_f_L_right : Wr1 (X_f_L_right P w K mg base f cd A outer s H EE) 3 "_law_lines_here" := ⟨sc_f_L_right.nd, rfl, by first | exact .inl rfl | exact .inr rfl, .inl rfl⟩
theorem r4_f_L_right : Rd1 (X_f_L_right P w K mg base f cd A outer s H EE) 4 "_law_a_text" := ⟨rfl, by first | exact .inl rfl | exact .inr (.inl rfl), by decide, by decide⟩
theorem w4_f_L_right : Wr1 (X_f_L_right P w K mg base f cd A outer s H EE) 4 "_law_a_text" := ⟨sc_f_L_right.nd, rfl, by first | exact .inl rfl | exact .inr rfl, .inl rfl⟩
theorem r5_f_L_right : Rd1 (X_f_L_right P w K mg base f cd A outer s H EE) 5 "_law_other" := ⟨rfl, by first | exact .inl rfl | exact .inr (.inl rfl), by decide, by decide⟩
theorem w5_f_L_right : Wr1 (X_f_L_right P w K mg base f cd A outer s H EE) 5 "_law_other" := ⟨sc_f_L_right.nd, rfl, by first | exact .inl rfl | exact .inr rfl, .inl rfl⟩
theorem r6_f_L_right : Rd1 (X_f_L_right P w K mg base f cd A outer s H EE) 6 "_law_k" := ⟨rfl, by first | exact .inl rfl | exact .inr (.inl rfl), by decide, by decide⟩
theorem w6_f_L_right : Wr1 (X_f_L_right P w K mg base f cd A outer s H EE) 6 "_law_k" := ⟨sc_f_L_right.nd, rfl, by first | exact .inl rfl | exact .inr rfl, .inl rfl⟩
theorem r7_f_L_right : Rd1 (X_f_L_right P w K mg base f cd A outer s H EE) 7 "_law_turned_here" := ⟨rfl, by first | exact .inl rfl | exact .inr (.inl rfl), by decide, by decide⟩
theorem w7_f_L_right : Wr1 (X_f_L_right P w K mg base f cd A outer s H EE) 7 "_law_turned_here" := ⟨sc_f_L_right.nd, rfl, by first | exact .inl rfl | exact .inr rfl, .inl rfl⟩
theorem r8_f_L_right : Rd1 (X_f_L_right P w K mg base f cd A outer s H EE) 8 "_law_told" := ⟨rfl, by first | exact .inl rfl | exact .inr (.inl rfl), by decide, by decide⟩
theorem w8_f_L_right : Wr1 (X_f_L_right P w K mg base f cd A outer s H EE) 8 "_law_told" := ⟨sc_f_L_right.nd, rfl, by first | exact .inl rfl | exact .inr rfl, .inl rfl⟩
theorem r9_f_L_right : Rd1 (X_f_L_right P w K mg base f cd A outer s H EE) 9 "_law_one" := ⟨rfl, by first | exact .inl rfl | exact .inr (.inl rfl), by decide, by decide⟩
theorem w9_f_L_right : Wr1 (X_f_L_right P w K mg base f cd A outer s H EE) 9 "_law_one" := ⟨sc_f_L_right.nd, rfl, by first | exact .inl rfl | exact .inr rfl, .inl rfl⟩
theorem g__law_four_f_L_right : Gl (X_f_L_right P w K mg base f cd A outer s H EE) "_law_four" := rfl
theorem g__law_cal_f_L_right : Gl (X_f_L_right P w K mg base f cd A outer s H EE) "_law_cal" := rfl
theorem g__law_lines_f_L_right : Gl (X_f_L_right P w K mg base f cd A outer s H EE) "_law_lines" := rfl
theorem g_Calendar_f_L_right : Gl (X_f_L_right P w K mg base f cd A outer s H EE) "Calendar" := rfl
theorem g__law_plain_f_L_right : Gl (X_f_L_right P w K mg base f cd A outer s H EE) "_law_plain" := rfl
theorem g__law_is_it_f_L_right : Gl (X_f_L_right P w K mg base f cd A outer s H EE) "_law_is_it" := rfl
theorem g_range_f_L_right : Gl (X_f_L_right P w K mg base f cd A outer s H EE) "range" := rfl
theorem g__law_turned_f_L_right : Gl (X_f_L_right P w K mg base f cd A outer s H EE) "_law_turned" := rfl
theorem g_read_calendar_f_L_right : Gl (X_f_L_right P w K mg base f cd A outer s H EE) "read_calendar" := rfl
end
abbrev s_f_LAW : Stmt := top 45
abbrev N_f_LAW : List Str := ["_law_script", "_law_cell"]
theorem sc_f_LAW : FnScope N_f_LAW ["_law_script"] (defScope s_f_LAW) := ⟨rfl, rfl, rfl, by decide +kernel, rfl, by decide +kernel, by decide +kernel⟩
abbrev X_f_LAW (P : Program) (w : World) (K : PySem.W.Frag) (mg : Str → Option Value) (base : Heap) (f : Addr) (cd : Value) (A : Around) (outer : List Env) (s : Shared) (H : Hp) (EE : XK) : Cx := xd P w K mg base N_f_LAW "law" (defScope s_f_LAW) f cd A outer s H EE
section
variable {P : Program} {w : World} {K : PySem.W.Frag} {mg : Str → Option Value} {base : Heap} {f : Addr} {cd : Value} {A : Around} {outer : List Env} {s : Shared} {H : Hp} {EE : XK}
theorem r0_f_LAW : Rd1 (X_f_LAW P w K mg base f cd A outer s H EE) 0 "_law_script" := ⟨rfl, by first | exact .inl rfl | exact .inr (.inl rfl), by decide, by decide⟩
theorem w0_f_LAW : Wr1 (X_f_LAW P w K mg base f cd A outer s H EE) 0 "_law_script" := ⟨sc_f_LAW.nd, rfl, by first | exact .inl rfl | exact .inr rfl, .inl rfl⟩
theorem r1_f_LAW : Rd1 (X_f_LAW P w K mg base f cd A outer s H EE) 1 "_law_cell" := ⟨rfl, by first | exact .inl rfl | exact .inr (.inl rfl), by decide, by decide⟩
theorem w1_f_LAW : Wr1 (X_f_LAW P w K mg base f cd A outer s H EE) 1 "_law_cell" := ⟨sc_f_LAW.nd, rfl, by first | exact .inl rfl | exact .inr rfl, .inl rfl⟩
theorem g__law_right_f_LAW : Gl (X_f_LAW P w K mg base f cd A outer s H EE) "_law_right" := rfl
theorem g__law_draws_f_LAW : Gl (X_f_LAW P w K mg base f cd A outer s H EE) "_law_draws" := rfl
end
end MM

namespace MM
open PySem L2 PyProof.Rows
/-! ### fractions -/
abbrev rt (t b : Int) : Rat := Rat.divInt t b
theorem rt_self (q : Rat) : rt q.num q.den = q := by
  rw [rt, Rat.divInt_eq_div]
  exact Rat.num_divInt_den q |> fun h => by rw [← Rat.divInt_eq_div]; exact h
/-- by the greatest common part, its sign the bottom's -/
def lowBy (t b : Int) : Int := if b < 0 then 0 - (Int.gcd t b : Int) else (Int.gcd t b : Int)
theorem gcd_pos {t b : Int} (hb : b ≠ 0) : 0 < Int.gcd t b := Int.gcd_pos_of_ne_zero_right _ hb
theorem lowBy_ne {t b : Int} (hb : b ≠ 0) : lowBy t b ≠ 0 := by
  have := gcd_pos (t := t) hb
  unfold lowBy
  split <;> omega
theorem low_top {t b : Int} (hb : b ≠ 0) : t.fdiv (lowBy t b) = (rt t b).num := by
  have hg := gcd_pos (t := t) hb
  obtain ⟨c, hc⟩ := Int.gcd_dvd_left (a := t) (b := b)
  rw [rt, Rat.num_divInt, Int.gcd_comm b t]
  unfold lowBy
  by_cases h : b < 0
  · rw [if_pos h, Int.sign_eq_neg_one_of_neg h]
    have e1 : t = (0 - (Int.gcd t b : Int)) * (-c) := by rw [Int.zero_sub, Int.neg_mul_neg]; exact hc
    have e2 : -1 * t = (Int.gcd t b : Int) * (-c) := by rw [Int.mul_neg, ← hc]; omega
    have n1 : (0 - (Int.gcd t b : Int)) ≠ 0 := by omega
    have n2 : (Int.gcd t b : Int) ≠ 0 := by omega
    rw [e2, Int.mul_ediv_cancel_left _ n2]
    conv => lhs; arg 1; rw [e1]
    exact Int.mul_fdiv_cancel_left _ n1
  · have h0 : 0 < b := by omega
    rw [if_neg h, Int.sign_eq_one_of_pos h0, Int.one_mul]
    have n2 : (Int.gcd t b : Int) ≠ 0 := by omega
    conv => lhs; arg 1; rw [hc]
    conv => rhs; arg 1; rw [hc]
    rw [Int.mul_ediv_cancel_left _ n2]
    exact Int.mul_fdiv_cancel_left _ n2
theorem low_bot {t b : Int} (hb : b ≠ 0) : b.fdiv (lowBy t b) = ((rt t b).den : Int) := by
  have hg := gcd_pos (t := t) hb
  obtain ⟨c, hc⟩ := Int.gcd_dvd_right (a := t) (b := b)
  rw [rt, Rat.den_divInt, if_neg hb, Int.gcd_comm b t]
  unfold lowBy
  have n2 : (Int.gcd t b : Int) ≠ 0 := by omega
  by_cases h : b < 0
  · rw [if_pos h]
    have e1 : b = (0 - (Int.gcd t b : Int)) * (-c) := by rw [Int.zero_sub, Int.neg_mul_neg]; exact hc
    have n1 : (0 - (Int.gcd t b : Int)) ≠ 0 := by omega
    have e3 : (b.natAbs : Int) = (Int.gcd t b : Int) * (-c) := by rw [Int.mul_neg, ← hc]; omega
    rw [Int.natCast_ediv, e3, Int.mul_ediv_cancel_left _ n2]
    conv => lhs; arg 1; rw [e1]
    exact Int.mul_fdiv_cancel_left _ n1
  · rw [if_neg h]
    have e3 : (b.natAbs : Int) = (Int.gcd t b : Int) * c := by rw [← hc]; omega
    rw [Int.natCast_ediv, e3, Int.mul_ediv_cancel_left _ n2]
    conv => lhs; arg 1; rw [hc]
    exact Int.mul_fdiv_cancel_left _ n2
theorem den_pos (q : Rat) : (0 : Int) < q.den := by have := q.den_pos; omega
theorem den_ne (q : Rat) : (q.den : Int) ≠ 0 := by have := den_pos q; omega
theorem rt_add (a c : Int) {b d : Int} (hb : b ≠ 0) (hd : d ≠ 0) : rt (a * d + c * b) (b * d) = rt a b + rt c d := (Rat.divInt_add_divInt a c hb hd).symm
theorem rt_mul (a c : Int) {b d : Int} : rt (a * c) (b * d) = rt a b * rt c d := (Rat.divInt_mul_divInt a c).symm
theorem rt_neg (a b : Int) : rt (-a) b = - rt a b := by
  rw [rt, rt, Rat.divInt_eq_div, Rat.divInt_eq_div, Rat.intCast_neg, Rat.div_def, Rat.div_def, Rat.neg_mul]
theorem rt_sub (a c : Int) {b d : Int} (hb : b ≠ 0) (hd : d ≠ 0) : rt (a * d - c * b) (b * d) = rt a b - rt c d := by
  have e : a * d - c * b = a * d + (-c) * b := by rw [Int.neg_mul]; omega
  rw [e, rt_add a (-c) hb hd, rt_neg, Rat.sub_eq_add_neg]
theorem rt_int (i : Int) : rt i 1 = (i : Rat) := by
  rw [rt, Rat.divInt_eq_div]
  grind
theorem add_q (p q : Rat) : rt (p.num * q.den + q.num * p.den) (p.den * q.den) = p + q := by
  rw [rt_add _ _ (den_ne p) (den_ne q), rt_self, rt_self]
theorem sub_q (p q : Rat) : rt (p.num * q.den - q.num * p.den) (p.den * q.den) = p - q := by
  rw [rt_sub _ _ (den_ne p) (den_ne q), rt_self, rt_self]
theorem mul_q (p q : Rat) : rt (p.num * q.num) (p.den * q.den) = p * q := by
  rw [rt_mul, rt_self, rt_self]
theorem rt_inv (a b : Int) : rt b a = (rt a b)⁻¹ := by
  rw [rt, rt, Rat.divInt_eq_div, Rat.divInt_eq_div, Rat.div_def, Rat.div_def, Rat.inv_mul_rev, Rat.inv_inv]
theorem div_q (p q : Rat) : rt (p.num * q.den) (p.den * q.num) = p / q := by
  rw [rt_mul, rt_self, rt_inv, rt_self, Rat.div_def]
theorem num_ne {q : Rat} (h : q ≠ 0) : q.num ≠ 0 := fun e => h (by
  have := Rat.num_eq_zero.mp e
  exact this)
/-! ### sizes of fractions -/
structure Sz (n : Nat) (q : Rat) : Prop where
  num : Bd n q.num
  den : Bd n q.den
theorem Sz.mono {n m : Nat} {q : Rat} (h : Sz n q) (l : n ≤ m) : Sz m q := ⟨h.num.mono l, h.den.mono l⟩
theorem ediv_le {a b : Nat} : a / b ≤ a := Nat.div_le_self a b
theorem sz_rt {n m : Nat} {a b : Int} (ha : Bd n a) (hb : Bd m b) (h0 : b ≠ 0) : Sz (max n m) (rt a b) := by
  have h1 : a.natAbs < 2 ^ n := ha
  have h2 : b.natAbs < 2 ^ m := hb
  constructor
  · show (rt a b).num.natAbs < _
    rw [rt, Rat.num_divInt]
    have e : (b.sign * a).natAbs ≤ a.natAbs := by
      rcases Int.lt_or_gt_of_ne h0 with h | h
      · rw [Int.sign_eq_neg_one_of_neg h]; omega
      · rw [Int.sign_eq_one_of_pos h]; omega
    have e2 := Int.natAbs_ediv_le_natAbs (b.sign * a) (Int.gcd b a : Int)
    have := @pow2_le n (max n m) (Nat.le_max_left _ _)
    omega
  · show ((rt a b).den : Int).natAbs < _
    rw [rt, Rat.den_divInt, if_neg h0, Int.natAbs_natCast]
    have := @pow2_le m (max n m) (Nat.le_max_right _ _)
    have e3 := Nat.div_le_self b.natAbs (Int.gcd b a)
    omega
theorem sz_add {n m : Nat} {p q : Rat} (hp : Sz n p) (hq : Sz m q) : Sz (n + m + 1) (p + q) := by
  rw [← add_q]
  refine (sz_rt (bd_add (bd_mul hp.num hq.den) (bd_mul hq.num hp.den)) (bd_mul hp.den hq.den) ?_).mono (by omega)
  exact Int.mul_ne_zero (den_ne p) (den_ne q)
theorem sz_sub {n m : Nat} {p q : Rat} (hp : Sz n p) (hq : Sz m q) : Sz (n + m + 1) (p - q) := by
  rw [← sub_q]
  refine (sz_rt (bd_sub (bd_mul hp.num hq.den) (bd_mul hq.num hp.den)) (bd_mul hp.den hq.den) ?_).mono (by omega)
  exact Int.mul_ne_zero (den_ne p) (den_ne q)
theorem sz_mul {n m : Nat} {p q : Rat} (hp : Sz n p) (hq : Sz m q) : Sz (n + m) (p * q) := by
  rw [← mul_q]
  refine (sz_rt (bd_mul hp.num hq.num) (bd_mul hp.den hq.den) ?_).mono (by omega)
  exact Int.mul_ne_zero (den_ne p) (den_ne q)
theorem sz_div {n m : Nat} {p q : Rat} (hp : Sz n p) (hq : Sz m q) (h : q ≠ 0) : Sz (n + m) (p / q) := by
  rw [← div_q]
  refine (sz_rt (bd_mul hp.num hq.den) (bd_mul hp.den hq.num) ?_).mono (by omega)
  exact Int.mul_ne_zero (den_ne p) (num_ne h)
theorem sz_int {n : Nat} {i : Int} (h : Bd n i) (h1 : 1 ≤ n) : Sz n (i : Rat) := by
  refine ⟨by rw [Rat.num_intCast]; exact h, ?_⟩
  rw [Rat.den_intCast]
  show (1 : Nat) < 2 ^ n
  exact Nat.lt_of_lt_of_le (by decide : 1 < 2 ^ 1) (pow2_le h1)
theorem sz_neg {n : Nat} {p : Rat} (h : Sz n p) : Sz n (-p) := ⟨by rw [Rat.neg_num]; exact bd_neg h.num, by rw [Rat.neg_den]; exact h.den⟩
theorem bd_floor {n : Nat} {q : Rat} (h : Sz n q) : Bd n q.floor := by
  rw [Rat.floor_def]
  exact bd_div (den_pos q) h.num
end MM

namespace MM
open PySem L2 PyProof.Rows
/-! ### common -/
def con_common : Con := { I := Int × Int, B := Unit, pre := fun _ => True, args := fun i => [RI i.1, RI i.2], own := fun _ => [], post := fun _ _ => True, res := fun i _ => RI (Int.gcd i.1 i.2 : Int), own' := fun _ _ => [] }
theorem ck_common {ρ1 ρ2 : Rep} {M : Ow} {Φ : Rep → Ow → Prop} {a b : Int} (h1 : Sub ρ1 (RI a)) (h2 : Sub ρ2 (RI b)) (k : Φ (RI (Int.gcd a b : Int)) M) : CallK con_common [ρ1, ρ2] M Φ :=
  ⟨(a, b), M, trivial, .cons h1 (.cons h2 .nil), .nil, fun _ _ => k⟩
section
variable {P : Program} {w : World} {K : PySem.W.Frag} {mg : Str → Option Value} {base : Heap}
theorem ok_common {f : Addr} {fd : FuncData} (F : FdD K "common" "common" s_f_common [] f fd) (hab : mg "abs" = none) : FnOk P w K mg base CX0 1 f fd ["one", "two"] (conSp con_common) := by
  refine fn_conD con_common F sc_f_common (fun _ => rfl) fun cd A outer s H EE G i hp hr hE => ?_
  obtain ⟨a, b⟩ := i
  -- one, two = abs(one), abs(two)
  refine wss_cons (ws_par 0 1 rfl w0_f_common w1_f_common (by decide) rfl rfl rfl ?_)
  refine wa_cons (we_callB call_abs g_abs_f_common hab (by decide +kernel) (wa_cons (we_var 0 r0_f_common rfl (wa_nil ?_))))
  refine caw_of cav_abs ?_
  refine wa_cons (we_callB call_abs g_abs_f_common hab (by decide +kernel) (wa_cons (we_var 1 r1_f_common rfl (wa_nil ?_))))
  refine caw_of cav_abs ?_
  refine wa_nil ⟨_, _, rfl, ?_⟩
  -- while two > 0
  refine wss_cons (ws_while PassesOwn.never (fun n Γ M => ∃ x : Nat, Γ = [some (RI (x : Int)), some (RI (n : Int))] ∧ M = [] ∧ Nat.gcd x n = Int.gcd a b) b.natAbs ⟨a.natAbs, rfl, rfl, rfl⟩ ?_)
  rintro n Γ M ⟨x, rfl, rfl, hg⟩
  refine wt_cmp op_gt (nomark _) (we_var 1 r1_f_common rfl (we_int ?_))
  refine opw_of opv_gt_i ⟨_, Sub.rfl, fun hk => ?_, fun hk => ?_⟩
  · have hn : 0 < n := by have := of_decide_eq_true hk; omega
    refine wss_one (ws_par 0 1 rfl w0_f_common w1_f_common (by decide) rfl rfl rfl ?_)
    refine wa_cons (we_var 1 r1_f_common rfl (wa_cons (we_bin op_modN (we_var 0 r0_f_common rfl (we_var 1 r1_f_common rfl ?_)))))
    refine opw_of (opv_mod_i (by omega)) ?_
    refine wa_nil ⟨_, _, rfl, x % n, Nat.mod_lt _ hn, n, ?_, rfl, ?_⟩
    · show [some (RI (n : Int)), some (RI ((x : Int) % (n : Int)))] = _
      rw [Int.natCast_emod]
    · rw [← hg, Nat.gcd_comm x n, Nat.gcd_rec n x, Nat.gcd_comm]
  · have hn : n = 0 := by have := of_decide_eq_false hk; omega
    subst hn
    refine wss_one (ws_ret (we_var 0 r0_f_common rfl ⟨(), [], trivial, ?_, .nil⟩))
    rw [Nat.gcd_zero_right] at hg
    rw [hg]; exact Sub.rfl
end
section
variable {X : Cx} {E : En} {Γ : Gm} {M : Ow} {st : Stmt} {rest : List Stmt} {Ψ : Ed}
theorem wss_cut (J : Gm → Ow → Prop) (h : WS X E Γ M st { Ψ with nx := J }) (k : ∀ Γ' M', J Γ' M' → WSs X E Γ' M' rest Ψ) : WSs X E Γ M (st :: rest) Ψ :=
  wss_cons fun σ G H a D c => h σ G H a D ⟨fun Γ' M' hj => c.nx Γ' M' (k Γ' M' hj), c.rt, c.bk, c.ct⟩
end
theorem eqv_ii {a b : Int} : PyData.eqv (.int a) (.int b) = (a == b) := by simp [PyData.eqv]
theorem eqv_ss {a b : Str} : PyData.eqv (.str a) (.str b) = (a == b) := by simp [PyData.eqv]
theorem shaped_i {a : Int} : SeqAt.shaped (.int a) = true := rfl
local macro_rules | `(tactic| walk_at "bd") => `(tactic| first
  | assumption
  | exact Sz.num (by assumption)
  | exact Sz.den (by assumption)
  | exact (show Bd 70 _ by decide)
  | (refine' bd_mul ?h1 ?h2; (case h1 => walk_at "bd"); (case h2 => walk_at "bd"))
  | (refine' bd_add ?h1 ?h2; (case h1 => walk_at "bd"); (case h2 => walk_at "bd"))
  | (refine' bd_sub ?h1 ?h2; (case h1 => walk_at "bd"); (case h2 => walk_at "bd"))
  | (refine' bd_neg ?h1; (case h1 => walk_at "bd")))
local macro_rules | `(tactic| walk_at "mul") => `(tactic| (refine' opv_mul_i (mulOk ?h1 ?h2 ?h3); (case h1 => walk_at "bd"); (case h2 => walk_at "bd"); (case h3 => decide)))
/-! ### the class Share -/
structure ShT (K : PySem.W.Frag) (C : Addr) : Prop where
  ci : ClsI K C
  nT : NoAttr K C "top"
  nB : NoAttr K C "bottom"
  tb : PySem.W.findIn K (.ref C) "__bool__" = some none
  tl : PySem.W.findIn K (.ref C) "__len__" = some none
  kI : PySem.W.kitOne K (.type "int") (.ref C) = some false
def RSh (C : Addr) (q : Rat) : Rep := RIns C [("top", RI q.num), ("bottom", RI (q.den : Int))]
theorem lk_tb : (("bottom" : Str) == ("top" : Str)) = false := by decide +kernel
theorem hasF_top {K : PySem.W.Frag} {C : Addr} {q : Rat} (T : ShT K C) : HasF K (RSh C q) "top" (RI q.num) := hasF_ins T.ci.cl T.nT (by simp [List.lookup])
theorem hasF_bot {K : PySem.W.Frag} {C : Addr} {q : Rat} (T : ShT K C) : HasF K (RSh C q) "bottom" (RI (q.den : Int)) := hasF_ins T.ci.cl T.nB (by simp [List.lookup, lk_tb])
def con_Share_init (C : Addr) : Con := { I := Addr × Int × Int, B := Unit, pre := fun i => i.2.2 ≠ 0 ∧ Bd 8900 i.2.1 ∧ Bd 8900 i.2.2, args := fun i => [RRef i.1, RI i.2.1, RI i.2.2], own := fun i => [(i.1, OIns C [])], post := fun _ _ => True, res := fun _ _ => RN, own' := fun i _ => [(i.1, OIns C [("top", RI (rt i.2.1 i.2.2).num), ("bottom", RI ((rt i.2.1 i.2.2).den : Int))])] }
/-- Share(t, b) -/
theorem mk_Share {E : En} {C : Addr} {ρ1 ρ2 : Rep} {M : Ow} {Φ : Rep → Ow → Prop} {a b : Int} (h1 : Sub ρ1 (RI a)) (h2 : Sub ρ2 (RI b)) (hb : b ≠ 0) (s1 : Bd 8900 a) (s2 : Bd 8900 b) (k : Φ (RSh C (rt a b)) M) : MakeK E C (con_Share_init C) [ρ1, ρ2] M Φ :=
  fun p hp hpE => ⟨(p, a, b), M, ⟨hb, s1, s2⟩, .cons Sub.rfl (.cons h1 (.cons h2 .nil)), .cons .here OSub.rfl .nil, fun _ _ => ⟨Sub.rfl, _, M, .here, k⟩⟩
theorem bd_lowBy {n : Nat} {t b : Int} (h : Bd n b) (hb : b ≠ 0) : Bd n (lowBy t b) := by
  have h1 : b.natAbs < 2 ^ n := h
  have h2 : Int.gcd t b ≤ b.natAbs := Nat.le_of_dvd (by omega) (Nat.gcd_dvd_right _ _)
  show (lowBy t b).natAbs < _
  unfold lowBy
  split <;> omega
section
variable {P : Program} {w : World} {K : PySem.W.Frag} {mg : Str → Option Value} {base : Heap} {CS : Addr}
theorem ok_Share_init {f : Addr} {fd : FuncData} (F : FdD K "__init__" "Share.__init__" s_Share_init [.int 1] f fd) (T : ShT K CS) (K1 : Kn P w K mg base 1 "common" [] con_common) : FnOk P w K mg base CX0 2 f fd ["self", "top", "bottom"] (conSp (con_Share_init CS)) := by
  refine fn_conD (con_Share_init CS) F sc_Share_init (fun _ => rfl) fun cd A outer s H EE G i hp hr hE => ?_
  obtain ⟨p, t, b⟩ := i
  obtain ⟨hb, z1, z2⟩ := hp
  -- if bottom == 0: raise
  refine wss_cons (ws_if (wt_cmp (op_eqD hr.units) (nomark _) (we_var 2 r2_Share_init rfl (we_int ?_))))
  refine opw_of (opv_eq isD_i isD_i shaped_i shaped_i) ⟨_, Sub.rfl, fun hk => ?_, fun hk => wss_nil ?_⟩
  · rw [eqv_ii] at hk; exact absurd (by simpa using hk) hb
  -- by = common(top, bottom)
  refine wss_cons (ws_set 3 w3_Share_init (we_call K1 hr g_common_Share_init pass0 (wa_cons (we_var 1 r1_Share_init rfl (wa_cons (we_var 2 r2_Share_init rfl (wa_nil ?_)))))))
  refine ck_common Sub.rfl Sub.rfl ?_
  -- if bottom < 0: by = 0 - by
  refine wss_cut (fun Γ M => Γ = [some (RRef p), some (RI t), some (RI b), some (RI (lowBy t b))] ∧ M = [(p, OIns CS [])]) (ws_if (wt_cmp op_lt (nomark _) (we_var 2 r2_Share_init rfl (we_int ?_)))) ?_
  · refine opw_of opv_lt_i ⟨_, Sub.rfl, fun hk => ?_, fun hk => wss_nil ⟨?_, rfl⟩⟩
    · have hk := of_decide_eq_true hk
      refine wss_one (ws_set 3 w3_Share_init (we_bin op_sub (we_int (we_var 3 r3_Share_init rfl ?_))))
      refine opw_of opv_sub_i ⟨?_, rfl⟩
      show [_, _, _, some (RI (0 - _))] = _
      unfold lowBy; rw [if_pos hk]
    · have hk := of_decide_eq_false hk
      show [_, _, _, some (RI _)] = _
      unfold lowBy; rw [if_neg hk]
  · rintro Γ M ⟨rfl, rfl⟩
    have dv : CDivA t (lowBy t b) := divOkA (lowBy_ne hb) (bd_lowBy z2 hb) (by decide)
    have dv2 : CDivA b (lowBy t b) := divOkA (lowBy_ne hb) (bd_lowBy z2 hb) (by decide)
    refine wss_cons (ws_fld (we_bin op_fdivA (we_var 1 r1_Share_init rfl (we_var 3 r3_Share_init rfl ?_))))
    refine opw_of (opv_fdiv_i dv) (we_var 0 r0_Share_init rfl ⟨p, CS, [], _, Sub.rfl, .here, T.ci.cl, T.nT, by decide, ?_⟩)
    refine wss_one (ws_fld (we_bin op_fdivA (we_var 2 r2_Share_init rfl (we_var 3 r3_Share_init rfl ?_))))
    refine opw_of (opv_fdiv_i dv2) (we_var 0 r0_Share_init rfl ⟨p, CS, _, _, Sub.rfl, .here, T.ci.cl, T.nB, by show 1 < 1000; decide, ?_⟩)
    refine ⟨(), [], trivial, Sub.rfl, .cons .here ?_ .nil⟩
    rw [putR_new (by show List.lookup _ [(_, _)] = none; simp [List.lookup, lk_tb]), low_top hb, low_bot hb]
    exact OSub.rfl
end
/-! ### a Share, or a whole number in its stead -/
inductive AQ where
  | sh (q : Rat)
  | wh (i : Int)
def AQ.val : AQ → Rat
  | .sh q => q
  | .wh i => (i : Rat)
def AQ.rep (C : Addr) : AQ → Rep
  | .sh q => RSh C q
  | .wh i => RI i
theorem aq_sh {C : Addr} {q : Rat} : Sub (RSh C q) (AQ.rep C (.sh q)) := Sub.rfl
theorem aq_wh {C : Addr} {i : Int} : Sub (RI i) (AQ.rep C (.wh i)) := Sub.rfl
def con_share_of (C : Addr) : Con := { I := AQ, B := Unit, pre := fun a => Sz 8800 a.val, args := fun a => [a.rep C], own := fun _ => [], post := fun _ _ => True, res := fun a _ => RSh C a.val, own' := fun _ _ => [] }
theorem ck_share_of {C : Addr} {ρ : Rep} {a : AQ} {M : Ow} {Φ : Rep → Ow → Prop} (h : Sub ρ (a.rep C)) (z : Sz 8800 a.val) (k : Φ (RSh C a.val) M) : CallK (con_share_of C) [ρ] M Φ :=
  ⟨a, M, z, .cons h .nil, .nil, fun _ _ => k⟩
def con_bin (C : Addr) (f : Rat → Rat → Rat) (ok : Rat → Prop) : Con := { I := AQ × AQ, B := Unit, pre := fun i => Sz 4000 i.1.val ∧ Sz 4000 i.2.val ∧ ok i.2.val, args := fun i => [i.1.rep C, i.2.rep C], own := fun _ => [], post := fun _ _ => True, res := fun i _ => RSh C (f i.1.val i.2.val), own' := fun _ _ => [] }
theorem ck_bin {C : Addr} {f : Rat → Rat → Rat} {ok : Rat → Prop} {ρ1 ρ2 : Rep} {a b : AQ} {M : Ow} {Φ : Rep → Ow → Prop} (h1 : Sub ρ1 (a.rep C)) (h2 : Sub ρ2 (b.rep C)) (z1 : Sz 4000 a.val) (z2 : Sz 4000 b.val) (hk : ok b.val) (k : Φ (RSh C (f a.val b.val)) M) : CallK (con_bin C f ok) [ρ1, ρ2] M Φ :=
  ⟨(a, b), M, ⟨z1, z2, hk⟩, .cons h1 (.cons h2 .nil), .nil, fun _ _ => k⟩
def con_plus (C : Addr) : Con := con_bin C (· + ·) fun _ => True
def con_minus (C : Addr) : Con := con_bin C (· - ·) fun _ => True
def con_times (C : Addr) : Con := con_bin C (· * ·) fun _ => True
def con_over (C : Addr) : Con := con_bin C (· / ·) fun q => q ≠ 0
theorem ck_plus {C : Addr} {ρ1 ρ2 : Rep} {a b : AQ} {M : Ow} {Φ : Rep → Ow → Prop} (h1 : Sub ρ1 (a.rep C)) (h2 : Sub ρ2 (b.rep C)) (z1 : Sz 4000 a.val) (z2 : Sz 4000 b.val) (k : Φ (RSh C (a.val + b.val)) M) : CallK (con_plus C) [ρ1, ρ2] M Φ := ck_bin h1 h2 z1 z2 trivial k
theorem ck_minus {C : Addr} {ρ1 ρ2 : Rep} {a b : AQ} {M : Ow} {Φ : Rep → Ow → Prop} (h1 : Sub ρ1 (a.rep C)) (h2 : Sub ρ2 (b.rep C)) (z1 : Sz 4000 a.val) (z2 : Sz 4000 b.val) (k : Φ (RSh C (a.val - b.val)) M) : CallK (con_minus C) [ρ1, ρ2] M Φ := ck_bin h1 h2 z1 z2 trivial k
theorem ck_times {C : Addr} {ρ1 ρ2 : Rep} {a b : AQ} {M : Ow} {Φ : Rep → Ow → Prop} (h1 : Sub ρ1 (a.rep C)) (h2 : Sub ρ2 (b.rep C)) (z1 : Sz 4000 a.val) (z2 : Sz 4000 b.val) (k : Φ (RSh C (a.val * b.val)) M) : CallK (con_times C) [ρ1, ρ2] M Φ := ck_bin h1 h2 z1 z2 trivial k
theorem ck_over {C : Addr} {ρ1 ρ2 : Rep} {a b : AQ} {M : Ow} {Φ : Rep → Ow → Prop} (h1 : Sub ρ1 (a.rep C)) (h2 : Sub ρ2 (b.rep C)) (z1 : Sz 4000 a.val) (z2 : Sz 4000 b.val) (h0 : b.val ≠ 0) (k : Φ (RSh C (a.val / b.val)) M) : CallK (con_over C) [ρ1, ρ2] M Φ := ck_bin h1 h2 z1 z2 h0 k
def con_before (C : Addr) : Con := { I := AQ × AQ, B := Unit, pre := fun i => Sz 4000 i.1.val ∧ Sz 4000 i.2.val, args := fun i => [i.1.rep C, i.2.rep C], own := fun _ => [], post := fun _ _ => True, res := fun i _ => RB (decide (i.1.val < i.2.val)), own' := fun _ _ => [] }
theorem ck_before {C : Addr} {ρ1 ρ2 : Rep} {a b : AQ} {M : Ow} {Φ : Rep → Ow → Prop} (h1 : Sub ρ1 (a.rep C)) (h2 : Sub ρ2 (b.rep C)) (z1 : Sz 4000 a.val) (z2 : Sz 4000 b.val) (k : Φ (RB (decide (a.val < b.val))) M) : CallK (con_before C) [ρ1, ρ2] M Φ :=
  ⟨(a, b), M, ⟨z1, z2⟩, .cons h1 (.cons h2 .nil), .nil, fun _ _ => k⟩
def con_whole (C : Addr) : Con := { I := AQ, B := Unit, pre := fun a => Sz 8800 a.val, args := fun a => [a.rep C], own := fun _ => [], post := fun _ _ => True, res := fun a _ => RI a.val.floor, own' := fun _ _ => [] }
theorem ck_whole {C : Addr} {ρ : Rep} {a : AQ} {M : Ow} {Φ : Rep → Ow → Prop} (h : Sub ρ (a.rep C)) (z : Sz 8800 a.val) (k : Φ (RI a.val.floor) M) : CallK (con_whole C) [ρ] M Φ :=
  ⟨a, M, z, .cons h .nil, .nil, fun _ _ => k⟩
def con_ceiling (C : Addr) : Con := { I := AQ, B := Unit, pre := fun a => Sz 4000 a.val, args := fun a => [a.rep C], own := fun _ => [], post := fun _ _ => True, res := fun a _ => RI a.val.ceil, own' := fun _ _ => [] }
theorem ck_ceiling {C : Addr} {ρ : Rep} {a : AQ} {M : Ow} {Φ : Rep → Ow → Prop} (h : Sub ρ (a.rep C)) (z : Sz 4000 a.val) (k : Φ (RI a.val.ceil) M) : CallK (con_ceiling C) [ρ] M Φ :=
  ⟨a, M, z, .cons h .nil, .nil, fun _ _ => k⟩
/-- what the module holds of shares -/
structure ShM (P : Program) (w : World) (K : PySem.W.Frag) (mg : Str → Option Value) (base : Heap) (C : Addr) : Prop where
  T : ShT K C
  mgS : mg "Share" = some (.ref C)
  isi : mg "isinstance" = none
  mk2 : KnC P w K mg base 2 "Share" C [] (con_Share_init C)
  mk1 : KnC P w K mg base 2 "Share" C [.int 1] (con_Share_init C)
section
variable {P : Program} {w : World} {K : PySem.W.Frag} {mg : Str → Option Value} {base : Heap} {CS : Addr}
theorem ok_share_of {f : Addr} {fd : FuncData} (F : FdD K "share_of" "share_of" s_f_share_of [] f fd) (S : ShM P w K mg base CS) : FnOk P w K mg base CX0 4 f fd ["thing"] (conSp (con_share_of CS)) := by
  refine fn_conD (con_share_of CS) F sc_f_share_of (fun _ => rfl) fun cd A outer s H EE G i hp hr hE => ?_
  cases i with
  | sh q =>
    refine wss_cons (ws_if (wt_val (we_callB call_isi g_isinstance_f_share_of S.isi (by decide +kernel) (wa_cons (we_var 0 r0_f_share_of rfl (wa_cons (we_glob (v := .ref CS) (ρ := RV (.ref CS)) g_Share_f_share_of S.mgS rfl (fun _ => rfl) (wa_nil ?_))))))))
    refine caw_of (cav_isi (tyIs_ins S.T.ci) (.own CS) kit_self) ⟨_, Sub.rfl, fun hk => ?_, fun hk => by cases hk⟩
    refine wss_one (ws_ret (we_var 0 r0_f_share_of rfl ⟨(), [], trivial, Sub.rfl, .nil⟩))
  | wh i =>
    refine wss_cons (ws_if (wt_val (we_callB call_isi g_isinstance_f_share_of S.isi (by decide +kernel) (wa_cons (we_var 0 r0_f_share_of rfl (wa_cons (we_glob (v := .ref CS) (ρ := RV (.ref CS)) g_Share_f_share_of S.mgS rfl (fun _ => rfl) (wa_nil ?_))))))))
    refine caw_of (cav_isi tyIs_i (.own CS) S.T.kI) ⟨_, Sub.rfl, fun hk => (by cases hk), fun hk => wss_nil ?_⟩
    refine wss_one (ws_ret (we_make S.mk1 (hr.mono (by decide)) g_Share_f_share_of pass0 hE (wa_cons (we_var 0 r0_f_share_of rfl (wa_nil ?_)))))
    refine mk_Share Sub.rfl Sub.rfl (by decide) ?_ (show Bd 8900 1 by show (1 : Int).natAbs < _; exact Nat.lt_of_lt_of_le (by decide : 1 < 2 ^ 1) (pow2_le (by decide))) ?_
    · have := hp.num
      rw [show (AQ.wh i).val = (i : Rat) from rfl, Rat.num_intCast] at this
      exact this.mono (by decide)
    · rw [rt_int]
      exact ⟨(), [], trivial, Sub.rfl, .nil⟩
end
/-- .. and of what reckons with them -/
structure ShN (P : Program) (w : World) (K : PySem.W.Frag) (mg : Str → Option Value) (base : Heap) (C : Addr) : Prop extends ShM P w K mg base C where
  share_of : Kn P w K mg base 4 "share_of" [] (con_share_of C)
section
variable {P : Program} {w : World} {K : PySem.W.Frag} {mg : Str → Option Value} {base : Heap} {CS : Addr}
theorem ok_plus {f : Addr} {fd : FuncData} (F : FdD K "plus" "plus" s_f_plus [] f fd) (S : ShN P w K mg base CS) : FnOk P w K mg base CX0 5 f fd ["one", "two"] (conSp (con_plus CS)) := by
  refine fn_conD (con_plus CS) F sc_f_plus (fun _ => rfl) fun cd A outer s H EE G i hp hr hE => ?_
  obtain ⟨a, b⟩ := i
  obtain ⟨z1, z2, _⟩ := hp
  refine wss_cons (ws_par 0 1 rfl w0_f_plus w1_f_plus (by decide) rfl rfl rfl (wa_cons (we_call S.share_of hr g_share_of_f_plus pass0 (wa_cons (we_var 0 r0_f_plus rfl (wa_nil ?_))))))
  refine ck_share_of Sub.rfl (z1.mono (by decide)) (wa_cons (we_call S.share_of hr g_share_of_f_plus pass0 (wa_cons (we_var 1 r1_f_plus rfl (wa_nil ?_)))))
  refine ck_share_of Sub.rfl (z2.mono (by decide)) (wa_nil ⟨_, _, rfl, ?_⟩)
  refine wss_one (ws_ret (we_make S.mk2 (hr.mono (by decide)) g_Share_f_plus pass0 hE (wa_cons (we_bin op_addU (we_bin op_mulU (we_fld (we_var 0 r0_f_plus rfl ⟨_, hasF_top S.T, we_fld (we_var 1 r1_f_plus rfl ⟨_, hasF_bot S.T, ?_⟩)⟩)))))))
  refine opw_of (by walk_at "mul") (we_bin op_mulU (we_fld (we_var 1 r1_f_plus rfl ⟨_, hasF_top S.T, we_fld (we_var 0 r0_f_plus rfl ⟨_, hasF_bot S.T, ?_⟩)⟩)))
  refine opw_of (by walk_at "mul") (opw_of opv_add_i (wa_cons (we_bin op_mulU (we_fld (we_var 0 r0_f_plus rfl ⟨_, hasF_bot S.T, we_fld (we_var 1 r1_f_plus rfl ⟨_, hasF_bot S.T, ?_⟩)⟩)))))
  refine opw_of (by walk_at "mul") (wa_nil (mk_Share Sub.rfl Sub.rfl (Int.mul_ne_zero (den_ne _) (den_ne _)) ?_ ?_ ?_))
  · exact (bd_add (bd_mul z1.num z2.den) (bd_mul z2.num z1.den)).mono (by decide)
  · exact (bd_mul z1.den z2.den).mono (by decide)
  · rw [add_q]; exact ⟨(), [], trivial, Sub.rfl, .nil⟩
theorem ok_minus {f : Addr} {fd : FuncData} (F : FdD K "minus" "minus" s_f_minus [] f fd) (S : ShN P w K mg base CS) : FnOk P w K mg base CX0 5 f fd ["one", "two"] (conSp (con_minus CS)) := by
  refine fn_conD (con_minus CS) F sc_f_minus (fun _ => rfl) fun cd A outer s H EE G i hp hr hE => ?_
  obtain ⟨a, b⟩ := i
  obtain ⟨z1, z2, _⟩ := hp
  refine wss_cons (ws_par 0 1 rfl w0_f_minus w1_f_minus (by decide) rfl rfl rfl (wa_cons (we_call S.share_of hr g_share_of_f_minus pass0 (wa_cons (we_var 0 r0_f_minus rfl (wa_nil ?_))))))
  refine ck_share_of Sub.rfl (z1.mono (by decide)) (wa_cons (we_call S.share_of hr g_share_of_f_minus pass0 (wa_cons (we_var 1 r1_f_minus rfl (wa_nil ?_)))))
  refine ck_share_of Sub.rfl (z2.mono (by decide)) (wa_nil ⟨_, _, rfl, ?_⟩)
  refine wss_one (ws_ret (we_make S.mk2 (hr.mono (by decide)) g_Share_f_minus pass0 hE (wa_cons (we_bin op_sub (we_bin op_mulU (we_fld (we_var 0 r0_f_minus rfl ⟨_, hasF_top S.T, we_fld (we_var 1 r1_f_minus rfl ⟨_, hasF_bot S.T, ?_⟩)⟩)))))))
  refine opw_of (by walk_at "mul") (we_bin op_mulU (we_fld (we_var 1 r1_f_minus rfl ⟨_, hasF_top S.T, we_fld (we_var 0 r0_f_minus rfl ⟨_, hasF_bot S.T, ?_⟩)⟩)))
  refine opw_of (by walk_at "mul") (opw_of opv_sub_i (wa_cons (we_bin op_mulU (we_fld (we_var 0 r0_f_minus rfl ⟨_, hasF_bot S.T, we_fld (we_var 1 r1_f_minus rfl ⟨_, hasF_bot S.T, ?_⟩)⟩)))))
  refine opw_of (by walk_at "mul") (wa_nil (mk_Share Sub.rfl Sub.rfl (Int.mul_ne_zero (den_ne _) (den_ne _)) ?_ ?_ ?_))
  · exact (bd_sub (bd_mul z1.num z2.den) (bd_mul z2.num z1.den)).mono (by decide)
  · exact (bd_mul z1.den z2.den).mono (by decide)
  · rw [sub_q]; exact ⟨(), [], trivial, Sub.rfl, .nil⟩
theorem ok_times {f : Addr} {fd : FuncData} (F : FdD K "times" "times" s_f_times [] f fd) (S : ShN P w K mg base CS) : FnOk P w K mg base CX0 5 f fd ["one", "two"] (conSp (con_times CS)) := by
  refine fn_conD (con_times CS) F sc_f_times (fun _ => rfl) fun cd A outer s H EE G i hp hr hE => ?_
  obtain ⟨a, b⟩ := i
  obtain ⟨z1, z2, _⟩ := hp
  refine wss_cons (ws_par 0 1 rfl w0_f_times w1_f_times (by decide) rfl rfl rfl (wa_cons (we_call S.share_of hr g_share_of_f_times pass0 (wa_cons (we_var 0 r0_f_times rfl (wa_nil ?_))))))
  refine ck_share_of Sub.rfl (z1.mono (by decide)) (wa_cons (we_call S.share_of hr g_share_of_f_times pass0 (wa_cons (we_var 1 r1_f_times rfl (wa_nil ?_)))))
  refine ck_share_of Sub.rfl (z2.mono (by decide)) (wa_nil ⟨_, _, rfl, ?_⟩)
  refine wss_one (ws_ret (we_make S.mk2 (hr.mono (by decide)) g_Share_f_times pass0 hE (wa_cons (we_bin op_mulU (we_fld (we_var 0 r0_f_times rfl ⟨_, hasF_top S.T, we_fld (we_var 1 r1_f_times rfl ⟨_, hasF_top S.T, ?_⟩)⟩))))))
  refine opw_of (by walk_at "mul") (wa_cons (we_bin op_mulU (we_fld (we_var 0 r0_f_times rfl ⟨_, hasF_bot S.T, we_fld (we_var 1 r1_f_times rfl ⟨_, hasF_bot S.T, ?_⟩)⟩))))
  refine opw_of (by walk_at "mul") (wa_nil (mk_Share Sub.rfl Sub.rfl (Int.mul_ne_zero (den_ne _) (den_ne _)) ?_ ?_ ?_))
  · exact (bd_mul z1.num z2.num).mono (by decide)
  · exact (bd_mul z1.den z2.den).mono (by decide)
  · rw [mul_q]; exact ⟨(), [], trivial, Sub.rfl, .nil⟩
theorem ok_over {f : Addr} {fd : FuncData} (F : FdD K "over" "over" s_f_over [] f fd) (S : ShN P w K mg base CS) : FnOk P w K mg base CX0 5 f fd ["one", "two"] (conSp (con_over CS)) := by
  refine fn_conD (con_over CS) F sc_f_over (fun _ => rfl) fun cd A outer s H EE G i hp hr hE => ?_
  obtain ⟨a, b⟩ := i
  obtain ⟨z1, z2, h0⟩ := hp
  have h0 : b.val ≠ 0 := h0
  refine wss_cons (ws_par 0 1 rfl w0_f_over w1_f_over (by decide) rfl rfl rfl (wa_cons (we_call S.share_of hr g_share_of_f_over pass0 (wa_cons (we_var 0 r0_f_over rfl (wa_nil ?_))))))
  refine ck_share_of Sub.rfl (z1.mono (by decide)) (wa_cons (we_call S.share_of hr g_share_of_f_over pass0 (wa_cons (we_var 1 r1_f_over rfl (wa_nil ?_)))))
  refine ck_share_of Sub.rfl (z2.mono (by decide)) (wa_nil ⟨_, _, rfl, ?_⟩)
  refine wss_cons (ws_if (wt_cmp (op_eqD hr.units) (nomark _) (we_fld (we_var 1 r1_f_over rfl ⟨_, hasF_top S.T, we_int ?_⟩))))
  refine opw_of (opv_eq isD_i isD_i shaped_i shaped_i) ⟨_, Sub.rfl, fun hk => ?_, fun hk => wss_nil ?_⟩
  · rw [eqv_ii] at hk; exact absurd (by simpa using hk) (num_ne h0)
  refine wss_one (ws_ret (we_make S.mk2 (hr.mono (by decide)) g_Share_f_over pass0 hE (wa_cons (we_bin op_mulU (we_fld (we_var 0 r0_f_over rfl ⟨_, hasF_top S.T, we_fld (we_var 1 r1_f_over rfl ⟨_, hasF_bot S.T, ?_⟩)⟩))))))
  refine opw_of (by walk_at "mul") (wa_cons (we_bin op_mulU (we_fld (we_var 0 r0_f_over rfl ⟨_, hasF_bot S.T, we_fld (we_var 1 r1_f_over rfl ⟨_, hasF_top S.T, ?_⟩)⟩))))
  refine opw_of (by walk_at "mul") (wa_nil (mk_Share Sub.rfl Sub.rfl (Int.mul_ne_zero (den_ne _) (num_ne h0)) ?_ ?_ ?_))
  · exact (bd_mul z1.num z2.den).mono (by decide)
  · exact (bd_mul z1.den z2.num).mono (by decide)
  · rw [div_q]; exact ⟨(), [], trivial, Sub.rfl, .nil⟩
theorem ok_before {f : Addr} {fd : FuncData} (F : FdD K "before" "before" s_f_before [] f fd) (S : ShN P w K mg base CS) : FnOk P w K mg base CX0 5 f fd ["one", "two"] (conSp (con_before CS)) := by
  refine fn_conD (con_before CS) F sc_f_before (fun _ => rfl) fun cd A outer s H EE G i hp hr hE => ?_
  obtain ⟨a, b⟩ := i
  obtain ⟨z1, z2⟩ := hp
  refine wss_cons (ws_par 0 1 rfl w0_f_before w1_f_before (by decide) rfl rfl rfl (wa_cons (we_call S.share_of hr g_share_of_f_before pass0 (wa_cons (we_var 0 r0_f_before rfl (wa_nil ?_))))))
  refine ck_share_of Sub.rfl (z1.mono (by decide)) (wa_cons (we_call S.share_of hr g_share_of_f_before pass0 (wa_cons (we_var 1 r1_f_before rfl (wa_nil ?_)))))
  refine ck_share_of Sub.rfl (z2.mono (by decide)) (wa_nil ⟨_, _, rfl, ?_⟩)
  refine wss_one (ws_ret (we_cmp op_lt (nomark _) (we_bin op_mulU (we_fld (we_var 0 r0_f_before rfl ⟨_, hasF_top S.T, we_fld (we_var 1 r1_f_before rfl ⟨_, hasF_bot S.T, ?_⟩)⟩)))))
  refine opw_of (by walk_at "mul") (we_bin op_mulU (we_fld (we_var 1 r1_f_before rfl ⟨_, hasF_top S.T, we_fld (we_var 0 r0_f_before rfl ⟨_, hasF_bot S.T, ?_⟩)⟩)))
  refine opw_of (by walk_at "mul") (opw_of opv_lt_i ⟨(), [], trivial, ?_, .nil⟩)
  have e : decide (a.val.num * (b.val.den : Int) < b.val.num * (a.val.den : Int)) = decide (a.val < b.val) := by
    rw [decide_eq_decide]; exact (Rat.lt_iff _ _).symm
  rw [e]; exact Sub.rfl
theorem ok_whole {f : Addr} {fd : FuncData} (F : FdD K "whole" "whole" s_f_whole [] f fd) (S : ShN P w K mg base CS) : FnOk P w K mg base CX0 5 f fd ["share"] (conSp (con_whole CS)) := by
  refine fn_conD (con_whole CS) F sc_f_whole (fun _ => rfl) fun cd A outer s H EE G i hp hr hE => ?_
  refine wss_cons (ws_set 0 w0_f_whole (we_call S.share_of hr g_share_of_f_whole pass0 (wa_cons (we_var 0 r0_f_whole rfl (wa_nil ?_)))))
  refine ck_share_of Sub.rfl hp ?_
  refine wss_one (ws_ret (we_bin op_fdivA (we_fld (we_var 0 r0_f_whole rfl ⟨_, hasF_top S.T, we_fld (we_var 0 r0_f_whole rfl ⟨_, hasF_bot S.T, ?_⟩)⟩))))
  refine opw_of (opv_div_i (den_pos _) (divOk (i := 0) (den_pos _) hp.den (by decide)).2) ⟨(), [], trivial, ?_, .nil⟩
  rw [← Rat.floor_def]; exact Sub.rfl
end
/-- .. -/
structure ShF (P : Program) (w : World) (K : PySem.W.Frag) (mg : Str → Option Value) (base : Heap) (C : Addr) : Prop extends ShN P w K mg base C where
  plus : Kn P w K mg base 5 "plus" [] (con_plus C)
  minus : Kn P w K mg base 5 "minus" [] (con_minus C)
  times : Kn P w K mg base 5 "times" [] (con_times C)
  over : Kn P w K mg base 5 "over" [] (con_over C)
  before : Kn P w K mg base 5 "before" [] (con_before C)
  whole : Kn P w K mg base 5 "whole" [] (con_whole C)
section
variable {P : Program} {w : World} {K : PySem.W.Frag} {mg : Str → Option Value} {base : Heap} {CS : Addr}
theorem bd_0 {n : Nat} : Bd n 0 := by
  show (0 : Int).natAbs < _
  exact Nat.two_pow_pos n
theorem ceil_neg (q : Rat) : 0 - (0 - q).floor = q.ceil := by
  have h : (0 : Rat) - q = -q := by grind
  rw [h, Rat.ceil_eq_neg_floor_neg]; omega
theorem ok_ceiling {f : Addr} {fd : FuncData} (F : FdD K "ceiling" "ceiling" s_f_ceiling [] f fd) (S : ShF P w K mg base CS) : FnOk P w K mg base CX0 6 f fd ["share"] (conSp (con_ceiling CS)) := by
  refine fn_conD (con_ceiling CS) F sc_f_ceiling (fun _ => rfl) fun cd A outer s H EE G i hp hr hE => ?_
  refine wss_one (ws_ret (we_bin op_sub (we_int (we_call S.whole hr g_whole_f_ceiling pass0 (wa_cons (we_call S.minus hr g_minus_f_ceiling pass0 (wa_cons (we_int (wa_cons (we_var 0 r0_f_ceiling rfl (wa_nil ?_)))))))))))
  refine ck_minus aq_wh Sub.rfl (sz_int bd_0 (by decide)) hp (wa_nil (ck_whole aq_sh ?_ (opw_of opv_sub_i ⟨(), [], trivial, ?_, .nil⟩)))
  · exact (sz_sub (sz_int (n := 1) bd_0 (by decide)) hp).mono (by decide)
  · show Sub (RI (0 - (((0 : Int) : Rat) - i.val).floor)) (RI i.val.ceil)
    rw [show (((0 : Int) : Rat)) = 0 from rfl, ceil_neg]; exact Sub.rfl
end
end MM

namespace MM
open PySem L2 PyProof.Rows
/-! ### the class Calendar -/
structure CalT (K : PySem.W.Frag) (C : Addr) : Prop where
  ci : ClsI K C
  n1 : NoAttr K C "month"
  n2 : NoAttr K C "year"
  n3 : NoAttr K C "moon"
  n4 : NoAttr K C "mark"
  n5 : NoAttr K C "twelfth"
/-- a calendar's four fractions -/
structure Cal where
  month : Rat
  year : Rat
  moon : Rat
  mark : Rat
def fault (m y : Rat) : Str := if m < 1 then "month" else if y / 12 < (m.ceil : Rat) then "between" else if m * 13 < y + 1 then "thirteen" else ""
def RCal (CC CS : Addr) (c : Cal) : Rep := RIns CC [("month", RSh CS c.month), ("year", RSh CS c.year), ("moon", RSh CS c.moon), ("mark", RSh CS c.mark), ("twelfth", RSh CS (c.year / 12))]
theorem ky1 : (("year" : Str) == ("month" : Str)) = false := by decide +kernel
theorem ky2 : (("moon" : Str) == ("month" : Str)) = false := by decide +kernel
theorem ky3 : (("moon" : Str) == ("year" : Str)) = false := by decide +kernel
theorem ky4 : (("mark" : Str) == ("month" : Str)) = false := by decide +kernel
theorem ky5 : (("mark" : Str) == ("year" : Str)) = false := by decide +kernel
theorem ky6 : (("mark" : Str) == ("moon" : Str)) = false := by decide +kernel
theorem ky7 : (("twelfth" : Str) == ("month" : Str)) = false := by decide +kernel
theorem ky8 : (("twelfth" : Str) == ("year" : Str)) = false := by decide +kernel
theorem ky9 : (("twelfth" : Str) == ("moon" : Str)) = false := by decide +kernel
theorem ky10 : (("twelfth" : Str) == ("mark" : Str)) = false := by decide +kernel
section
variable {K : PySem.W.Frag} {CC CS : Addr} {c : Cal}
theorem hasF_month (T : CalT K CC) : HasF K (RCal CC CS c) "month" (RSh CS c.month) := hasF_ins T.ci.cl T.n1 (by simp [List.lookup])
theorem hasF_year (T : CalT K CC) : HasF K (RCal CC CS c) "year" (RSh CS c.year) := hasF_ins T.ci.cl T.n2 (by simp [List.lookup, ky1])
theorem hasF_moon (T : CalT K CC) : HasF K (RCal CC CS c) "moon" (RSh CS c.moon) := hasF_ins T.ci.cl T.n3 (by simp [List.lookup, ky2, ky3])
theorem hasF_mark (T : CalT K CC) : HasF K (RCal CC CS c) "mark" (RSh CS c.mark) := hasF_ins T.ci.cl T.n4 (by simp [List.lookup, ky4, ky5, ky6])
theorem hasF_twelfth (T : CalT K CC) : HasF K (RCal CC CS c) "twelfth" (RSh CS (c.year / 12)) := hasF_ins T.ci.cl T.n5 (by simp [List.lookup, ky7, ky8, ky9, ky10])
end
section
variable {X : Cx} {E : En} {Γ : Gm} {M : Ow} {Ψ : Ed}
/-- a first store of a field -/
theorem ws_fldN {o value : Expr} {f : Str} {pos pos' : Pos} (h : WE X E Γ M value fun ρv M1 => WE X E Γ M1 o fun ρo M2 => ∃ p C l u, Sub ρo (RRef p) ∧ Fnd M2 p (OIns C l) u ∧ Cls X.K C ∧ NoAttr X.K C f ∧ l.length < 1000 ∧ l.lookup f = none ∧ Ψ.nx Γ (u (OIns C (l ++ [(f, ρv)]))))
    (hs : swapsWith value (some (.Attribute o f pos')) pos.line X.env = pure false := by rfl) : WS X E Γ M (.Assign [.Attribute o f pos'] value pos) Ψ := by
  refine ws_fld (fun σ G H a Q q => h σ G H a Q fun ρ M' v G' H' hh => q ρ M' v G' H' (fun σ2 G2 H2 a2 Q2 q2 => hh σ2 G2 H2 a2 Q2 fun ρ2 M2 v2 G3 H3 ⟨p, C, l, u, h1, h2, h3, h4, h5, h6, h7⟩ => q2 ρ2 M2 v2 G3 H3 ⟨p, C, l, u, h1, h2, h3, h4, h5, by rw [putR_new h6]; exact h7⟩)) hs
end
def con_fault (C : Addr) : Con := { I := Rat × Rat, B := Unit, pre := fun i => Sz 1500 i.1 ∧ Sz 1500 i.2, args := fun i => [RSh C i.1, RSh C i.2], own := fun _ => [], post := fun _ _ => True, res := fun i _ => RS (fault i.1 i.2), own' := fun _ _ => [] }
theorem ck_fault {C : Addr} {ρ1 ρ2 : Rep} {a b : Rat} {M : Ow} {Φ : Rep → Ow → Prop} (h1 : Sub ρ1 (RSh C a)) (h2 : Sub ρ2 (RSh C b)) (z1 : Sz 1500 a) (z2 : Sz 1500 b) (k : Φ (RS (fault a b)) M) : CallK (con_fault C) [ρ1, ρ2] M Φ :=
  ⟨(a, b), M, ⟨z1, z2⟩, .cons h1 (.cons h2 .nil), .nil, fun _ _ => k⟩
structure ShG (P : Program) (w : World) (K : PySem.W.Frag) (mg : Str → Option Value) (base : Heap) (C : Addr) : Prop extends ShF P w K mg base C where
  ceiling : Kn P w K mg base 6 "ceiling" [] (con_ceiling C)
theorem bd_ceil {n : Nat} {q : Rat} (h : Sz n q) : Bd n q.ceil := by
  rw [Rat.ceil_eq_neg_floor_neg]
  exact bd_neg (bd_floor (sz_neg h))
section
variable {P : Program} {w : World} {K : PySem.W.Frag} {mg : Str → Option Value} {base : Heap} {CS CC : Addr}
theorem sz_lit {n : Nat} {i : Int} (h : i.natAbs < 2 ^ 60) (hn : 60 ≤ n) : Sz n (i : Rat) := sz_int ((show Bd 60 i from h).mono hn) (by omega)
theorem ok_fault {f : Addr} {fd : FuncData} (F : FdD K "fault" "fault" s_f_fault [] f fd) (S : ShG P w K mg base CS) : FnOk P w K mg base CX0 7 f fd ["month", "year"] (conSp (con_fault CS)) := by
  refine fn_conD (con_fault CS) F sc_f_fault (fun _ => rfl) fun cd A outer s H EE G i hp hr hE => ?_
  obtain ⟨m, y⟩ := i
  obtain ⟨z1, z2⟩ := hp
  have z1 : Sz 1500 m := z1
  have z2 : Sz 1500 y := z2
  have hr5 := hr.mono (show 5 ≤ 6 by decide)
  -- if before(month, 1)
  refine wss_cons (ws_if (wt_val (we_call S.before hr5 g_before_f_fault pass0 (wa_cons (we_var 0 r0_f_fault rfl (wa_cons (we_int (wa_nil ?_))))))))
  refine ck_before aq_sh aq_wh (z1.mono (by decide)) (sz_lit (by decide) (by decide)) ⟨_, Sub.rfl, fun hk => ?_, fun hk => wss_nil ?_⟩
  · have hk : m < 1 := of_decide_eq_true hk
    refine wss_one (ws_ret (we_str ⟨(), [], trivial, ?_, .nil⟩))
    show Sub _ (RS (fault m y))
    unfold fault; rw [if_pos hk]; exact Sub.rfl
  have h1 : ¬ m < 1 := of_decide_eq_false hk
  -- if before(over(year, 12), ceiling(month))
  refine wss_cons (ws_if (wt_val (we_call S.before hr5 g_before_f_fault pass0 (wa_cons (we_call S.over hr5 g_over_f_fault pass0 (wa_cons (we_var 1 r1_f_fault rfl (wa_cons (we_int (wa_nil ?_)))))))))) 
  refine ck_over aq_sh aq_wh (z2.mono (by decide)) (sz_lit (by decide) (by decide)) (by show ((12 : Int) : Rat) ≠ 0; decide) (wa_cons (we_call S.ceiling hr g_ceiling_f_fault pass0 (wa_cons (we_var 0 r0_f_fault rfl (wa_nil ?_)))))
  refine ck_ceiling aq_sh (z1.mono (by decide)) (wa_nil (ck_before aq_sh aq_wh ?_ (sz_int ((bd_ceil z1).mono (by decide)) (by decide)) ⟨_, Sub.rfl, fun hk => ?_, fun hk => wss_nil ?_⟩))
  · exact (sz_div z2 (sz_lit (n := 60) (i := 12) (by decide) (by decide)) (by decide)).mono (by decide)
  · have hk : y / 12 < (m.ceil : Rat) := of_decide_eq_true hk
    refine wss_one (ws_ret (we_str ⟨(), [], trivial, ?_, .nil⟩))
    show Sub _ (RS (fault m y))
    unfold fault; rw [if_neg h1, if_pos hk]; exact Sub.rfl
  have h2 : ¬ y / 12 < (m.ceil : Rat) := of_decide_eq_false hk
  -- if before(times(month, 13), plus(year, 1))
  refine wss_cons (ws_if (wt_val (we_call S.before hr5 g_before_f_fault pass0 (wa_cons (we_call S.times hr5 g_times_f_fault pass0 (wa_cons (we_var 0 r0_f_fault rfl (wa_cons (we_int (wa_nil ?_))))))))))
  refine ck_times aq_sh aq_wh (z1.mono (by decide)) (sz_lit (by decide) (by decide)) (wa_cons (we_call S.plus hr5 g_plus_f_fault pass0 (wa_cons (we_var 1 r1_f_fault rfl (wa_cons (we_int (wa_nil ?_)))))))
  refine ck_plus aq_sh aq_wh (z2.mono (by decide)) (sz_lit (by decide) (by decide)) (wa_nil (ck_before aq_sh aq_sh ?_ ?_ ⟨_, Sub.rfl, fun hk => ?_, fun hk => wss_nil ?_⟩))
  · exact (sz_mul z1 (sz_lit (n := 60) (i := 13) (by decide) (by decide))).mono (by decide)
  · exact (sz_add z2 (sz_lit (n := 60) (i := 1) (by decide) (by decide))).mono (by decide)
  · have hk : m * 13 < y + 1 := of_decide_eq_true hk
    refine wss_one (ws_ret (we_str ⟨(), [], trivial, ?_, .nil⟩))
    show Sub _ (RS (fault m y))
    unfold fault; rw [if_neg h1, if_neg h2, if_pos hk]; exact Sub.rfl
  have h3 : ¬ m * 13 < y + 1 := of_decide_eq_false hk
  refine wss_one (ws_ret (we_str ⟨(), [], trivial, ?_, .nil⟩))
  show Sub _ (RS (fault m y))
  unfold fault; rw [if_neg h1, if_neg h2, if_neg h3]; exact Sub.rfl
end
/-! ### Calendar(month, year, moon, mark) -/
def orep (C : Addr) : Option AQ → Rep
  | none => RN
  | some a => a.rep C
def oval : Option AQ → Rat
  | none => 0
  | some a => a.val
structure CalI where
  p : Addr
  m : AQ
  y : AQ
  o : Option AQ
  k : Option AQ
def CalI.cal (i : CalI) : Cal := ⟨i.m.val, i.y.val, oval i.o, oval i.k⟩
def calF (CS : Addr) (c : Cal) : List (Str × Rep) := [("month", RSh CS c.month), ("year", RSh CS c.year), ("moon", RSh CS c.moon), ("mark", RSh CS c.mark), ("twelfth", RSh CS (c.year / 12))]
def con_Cal_init (CC CS : Addr) : Con := { I := CalI, B := Unit, pre := fun i => (Sz 1000 i.m.val ∧ Sz 1000 i.y.val ∧ Sz 1000 (oval i.o) ∧ Sz 1000 (oval i.k)) ∧ fault i.m.val i.y.val = "", args := fun i => [RRef i.p, i.m.rep CS, i.y.rep CS, orep CS i.o, orep CS i.k], own := fun i => [(i.p, OIns CC [])], post := fun _ _ => True, res := fun _ _ => RN, own' := fun i _ => [(i.p, OIns CC (calF CS i.cal))] }
structure CalM (P : Program) (w : World) (K : PySem.W.Frag) (mg : Str → Option Value) (base : Heap) (CC CS : Addr) : Prop extends ShG P w K mg base CS where
  CT : CalT K CC
  fault : Kn P w K mg base 7 "fault" [] (con_fault CS)
section
variable {X : Cx} {E : En} {Γ : Gm} {M : Ow} {Φ : Rep → Ow → Prop}
/-- x or 0 -/
theorem we_or0 {CS : Addr} {a : Expr} {pos p2 : Pos} {j : Nat} {o : Option AQ} (T : ShT X.K CS) (h : ∀ Ξ : Rep → Ow → Prop, Ξ (orep CS o) M → WE X E Γ M a Ξ) (k : ∀ b : AQ, b.val = oval o → Φ (b.rep CS) M) : WE X E Γ M (.BoolOp .Or [a, .Constant (.int 0) j p2] pos) Φ := by
  refine we_orT (h _ ?_)
  cases o with
  | none => exact ⟨false, truN, fun _ => we_and1 (we_int (k (.wh 0) rfl)), fun h => (by cases h)⟩
  | some a =>
    cases a with
    | sh q => exact ⟨true, truIns T.tb T.tl, fun h => (by cases h), fun _ => k (.sh q) rfl⟩
    | wh i =>
      refine ⟨i != 0, truI, fun hk => we_and1 (we_int (k (.wh 0) ?_)), fun _ => k (.wh i) rfl⟩
      have : i = 0 := by simpa using hk
      subst this; rfl
end
section
variable {P : Program} {w : World} {K : PySem.W.Frag} {mg : Str → Option Value} {base : Heap} {CS CC : Addr}
theorem ok_Cal_init {f : Addr} {fd : FuncData} (F : FdD K "__init__" "Calendar.__init__" s_Calendar_init [.non, .non] f fd) (S : CalM P w K mg base CC CS) : FnOk P w K mg base CX0 8 f fd ["self", "month", "year", "moon", "mark"] (conSp (con_Cal_init CC CS)) := by
  refine fn_conD (con_Cal_init CC CS) F sc_Calendar_init (fun _ => rfl) fun cd A outer s H EE G i hp hr hE => ?_
  obtain ⟨p, m, y, o, k⟩ := i
  obtain ⟨⟨z1, z2, z3, z4⟩, hf⟩ := hp
  have hr4 := hr.mono (show 4 ≤ 7 by decide)
  have hr5 := hr.mono (show 5 ≤ 7 by decide)
  -- self.month = share_of(month)
  refine wss_cons (ws_fldN (we_call S.share_of hr4 g_share_of_Calendar_init pass0 (wa_cons (we_var 1 r1_Calendar_init rfl (wa_nil ?_)))))
  refine ck_share_of Sub.rfl (z1.mono (by decide)) (we_var 0 r0_Calendar_init rfl ⟨p, CC, [], _, Sub.rfl, .here, S.CT.ci.cl, S.CT.n1, by decide, rfl, ?_⟩)
  -- self.year = share_of(year)
  refine wss_cons (ws_fldN (we_call S.share_of hr4 g_share_of_Calendar_init pass0 (wa_cons (we_var 2 r2_Calendar_init rfl (wa_nil ?_)))))
  refine ck_share_of Sub.rfl (z2.mono (by decide)) (we_var 0 r0_Calendar_init rfl ⟨p, CC, _, _, Sub.rfl, .here, S.CT.ci.cl, S.CT.n2, by show 1 < 1000; decide, by simp [List.lookup, ky1], ?_⟩)
  -- self.moon = share_of(moon or 0)
  refine wss_cons (ws_fldN (we_call S.share_of hr4 g_share_of_Calendar_init pass0 (wa_cons (we_or0 (o := o) S.T (fun Ξ h => we_var 3 r3_Calendar_init rfl h) fun b hb => wa_nil ?_))))
  refine ck_share_of Sub.rfl (by rw [hb]; exact z3.mono (by decide)) (we_var 0 r0_Calendar_init rfl ⟨p, CC, _, _, Sub.rfl, .here, S.CT.ci.cl, S.CT.n3, by show 2 < 1000; decide, by simp [List.lookup, ky2, ky3], ?_⟩)
  -- self.mark = share_of(mark or 0)
  refine wss_cons (ws_fldN (we_call S.share_of hr4 g_share_of_Calendar_init pass0 (wa_cons (we_or0 (o := k) S.T (fun Ξ h => we_var 4 r4_Calendar_init rfl h) fun b2 hb2 => wa_nil ?_))))
  refine ck_share_of Sub.rfl (by rw [hb2]; exact z4.mono (by decide)) (we_var 0 r0_Calendar_init rfl ⟨p, CC, _, _, Sub.rfl, .here, S.CT.ci.cl, S.CT.n4, by show 3 < 1000; decide, by simp [List.lookup, ky4, ky5, ky6], ?_⟩)
  -- self.twelfth = over(self.year, 12)
  refine wss_cons (ws_fldN (we_call S.over hr5 g_over_Calendar_init pass0 (wa_cons (we_fldO (we_var 0 r0_Calendar_init rfl ⟨p, CC, _, _, _, Sub.rfl, .here, S.CT.ci.cl, S.CT.n2, by show List.lookup _ _ = some (RSh CS y.val); simp [List.lookup, ky1], wa_cons (we_int (wa_nil ?_))⟩)))))
  refine ck_over aq_sh aq_wh (z2.mono (by decide)) (sz_lit (by decide) (by decide)) (by show ((12 : Int) : Rat) ≠ 0; decide) (we_var 0 r0_Calendar_init rfl ⟨p, CC, _, _, Sub.rfl, .here, S.CT.ci.cl, S.CT.n5, by show 4 < 1000; decide, by simp [List.lookup, ky7, ky8, ky9, ky10], ?_⟩)
  -- why = fault(self.month, self.year)
  refine wss_cons (ws_set 5 w5_Calendar_init (we_call S.fault hr g_fault_Calendar_init pass0 (wa_cons (we_fldO (we_var 0 r0_Calendar_init rfl ⟨p, CC, _, _, _, Sub.rfl, .here, S.CT.ci.cl, S.CT.n1, by show List.lookup _ _ = some (RSh CS m.val); simp [List.lookup], wa_cons (we_fldO (we_var 0 r0_Calendar_init rfl ⟨p, CC, _, _, _, Sub.rfl, .here, S.CT.ci.cl, S.CT.n2, by show List.lookup _ _ = some (RSh CS y.val); simp [List.lookup, ky1], wa_nil ?_⟩))⟩)))))
  refine ck_fault Sub.rfl Sub.rfl (z1.mono (by decide)) (z2.mono (by decide)) ?_
  -- if why != '': raise
  refine wss_cons (ws_if (wt_cmp (op_neD hr.units) (nomark _) (we_var 5 r5_Calendar_init rfl (we_str ?_))))
  refine opw_of (opv_ne isD_s isD_s ?_ (by decide +kernel)) ⟨_, Sub.rfl, fun hk => ?_, fun hk => wss_nil (wss_nil ?_)⟩
  · rw [hf]; decide +kernel
  · rw [hf, eqv_ss] at hk; simp at hk
  · refine ⟨(), [], trivial, Sub.rfl, .cons .here ?_ .nil⟩
    show OSub (OIns CC [("month", RSh CS m.val), ("year", RSh CS y.val), ("moon", RSh CS b.val), ("mark", RSh CS b2.val), ("twelfth", RSh CS (y.val / 12))]) (OIns CC (calF CS _))
    rw [hb, hb2]
    exact OSub.rfl
end
end MM

namespace MM
open PySem L2 PyProof.Rows
theorem bd_lit {i : Int} (h : i.natAbs < 1180591620717411303424) : Bd 70 i := h
theorem cpow_lit {i j : Int} (h1 : 0 ≤ j) (h2 : j ≤ 1000000) (h3 : i.natAbs < 2 ^ 64) : CPow i j := ⟨h1, h2, h3⟩
local macro_rules | `(tactic| walk_at "bd") => `(tactic| first
  | assumption
  | exact Sz.num (by assumption)
  | exact Sz.den (by assumption)
  | exact bd_lit (by decide)
  | (refine' bd_mul ?h1 ?h2; (case h1 => walk_at "bd"); (case h2 => walk_at "bd"))
  | (refine' bd_add ?h1 ?h2; (case h1 => walk_at "bd"); (case h2 => walk_at "bd"))
  | (refine' bd_sub ?h1 ?h2; (case h1 => walk_at "bd"); (case h2 => walk_at "bd"))
  | (refine' bd_mod ?h1 ?h2; (case h1 => decide); (case h2 => walk_at "bd"))
  | (refine' bd_neg ?h1; (case h1 => walk_at "bd")))
local macro_rules | `(tactic| walk_at "mul") => `(tactic| (refine' opv_mul_i (mulOk ?h1 ?h2 ?h3); (case h1 => walk_at "bd"); (case h2 => walk_at "bd"); (case h3 => decide)))
/-! ### owned things told in part -/
def OEx {ι : Type} (c : ι → Prop) (r : ι → ORep) : ORep := ⟨fun o G => ∃ y, c y ∧ (r y).p o G, fun o G G' s ⟨y, h, k⟩ => ⟨y, h, (r y).mono _ _ _ s k⟩⟩
theorem oex_in {ι : Type} {c : ι → Prop} {r : ι → ORep} {ρ : ORep} (y : ι) (h : c y) (s : OSub ρ (r y)) : OSub ρ (OEx c r) := fun o G k => ⟨y, h, s o G k⟩
section
variable {X : Cx} {E : En} {Γ : Gm} {M : Ow} {st : List Stmt} {Ψ : Ed} {ι : Type}
theorem wss_open {p : Addr} {c : ι → Prop} {r : ι → ORep} {u : ORep → Ow} (f : Fnd M p (OEx c r) u) (k : ∀ y, c y → WSs X E Γ (u (r y)) st Ψ) : WSs X E Γ M st Ψ := fun σ G H a D d => by
  obtain ⟨o, e1, y, hy, ry⟩ := a.own _ f.mem
  have b : At E Γ (u (r y)) σ G H := by
    refine ⟨a.len, a.env, a.gh, fun q hq => ?_, fun q hq => ?_, by rw [f.map]; exact a.nd, a.g0, a.keep, a.nw, fun q hq => ?_, a.there⟩
    · rcases f.of (r y) q hq with e | ⟨h1, _⟩
      · subst e; exact ⟨o, e1, ry⟩
      · exact a.own q h1
    · rcases f.of (r y) q hq with e | ⟨h1, _⟩
      · subst e; exact a.gn (p, OEx c r) f.mem
      · exact a.gn q h1
    · rcases f.of (r y) q hq with e | ⟨h1, _⟩
      · subst e; exact a.loc (p, OEx c r) f.mem
      · exact a.loc q h1
  exact k y hy σ G H b D d
end
/-! ### the law's draws -/
/-- a list of draws, at most n of them made -/
def ODr (n : Nat) : ORep := OEx (fun y : Int × Int × Bool => 0 ≤ y.2.1 ∧ y.2.1 ≤ n) fun y => OL [RI y.1, RI y.2.1, RB y.2.2]
theorem odr_mono {n m : Nat} (h : n ≤ m) : OSub (ODr n) (ODr m) := fun o G ⟨y, ⟨h1, h2⟩, k⟩ => ⟨y, ⟨h1, by omega⟩, k⟩
def con_L_draws : Con := { I := Int, B := Addr, pre := fun _ => True, args := fun i => [RI i], own := fun _ => [], post := fun _ _ => True, res := fun _ p => RRef p, own' := fun _ p => [(p, ODr 0)] }
theorem ck_L_draws {ρ : Rep} {M : Ow} {Φ : Rep → Ow → Prop} {a : Int} (h : Sub ρ (RI a)) (k : ∀ p, Φ (RRef p) ((p, ODr 0) :: M)) : CallK con_L_draws [ρ] M Φ :=
  ⟨a, M, trivial, .cons h .nil, .nil, fun p _ => k p⟩
/-- the next draw: a whole number below 306,783,369 -/
def Dr (x : Int) : Prop := 0 ≤ x ∧ x < 306783369
theorem Dr.bd {x : Int} (h : Dr x) : Bd 29 x := by
  obtain ⟨h1, h2⟩ := h
  show x.natAbs < _
  omega
def con_L_next : Con := { I := Addr × Nat, B := Int, pre := fun i => i.2 ≤ 1000000000, args := fun i => [RRef i.1], own := fun i => [(i.1, ODr i.2)], post := fun _ x => Dr x, res := fun _ x => RI x, own' := fun i _ => [(i.1, ODr (i.2 + 1))] }
theorem ck_L_next {ρ : Rep} {M M1 : Ow} {Φ : Rep → Ow → Prop} {p : Addr} {n : Nat} (h : Sub ρ (RRef p)) (rm : Rm M p (ODr n) M1) (hn : n ≤ 1000000000) (k : ∀ x, Dr x → Φ (RI x) ((p, ODr (n + 1)) :: M1)) : CallK con_L_next [ρ] M Φ :=
  ⟨(p, n), M1, hn, .cons h .nil, .cons rm OSub.rfl .nil, fun x hx => k x hx⟩
section
variable {P : Program} {w : World} {K : PySem.W.Frag} {mg : Str → Option Value} {base : Heap}
theorem bd_ten {n : Nat} (h : n ≤ 100000) : Bd (4 * n + 1) ((10 : Int) ^ n) := by
  show ((10 : Int) ^ n).natAbs < 2 ^ (4 * n + 1)
  have e : ((10 : Int) ^ n).natAbs = 10 ^ n := by
    rw [Int.natAbs_pow]; rfl
  rw [e, Nat.pow_succ, Nat.pow_mul]
  have : 10 ^ n ≤ (2 ^ 4) ^ n := Nat.pow_le_pow_left (by decide) n
  have : 0 < 10 ^ n := Nat.pow_pos (by decide)
  omega
theorem ok_L_draws {f : Addr} {fd : FuncData} (F : FdD K "_law_draws" "_law_draws" s_f_L_draws [] f fd) (hrg : mg "range" = none) : FnOk P w K mg base CX0 1 f fd ["_law_cell"] (conSp con_L_draws) := by
  refine fn_conD con_L_draws F sc_f_L_draws (fun _ => rfl) fun cd A outer s H EE G i hp hr hE => ?_
  -- cut = 10 ** 60
  refine wss_cons (ws_set 1 w1_f_L_draws (we_bin op_pow (we_int (we_int (opw_of (opv_pow_i (cpow_lit (by decide) (by decide) (by decide))) ?_)))))
  -- for k in range(7): cut = cut * cut
  refine wss_cons (ws_for_range1 PassesOwn.never rfl g_range_f_L_draws hrg (wa_cons (we_int (wa_nil ⟨7, .cons Sub.rfl .nil, ⟨by decide, by decide⟩, fun n Γ M => ∃ o, Γ = [some (RI i), some (RI ((10 : Int) ^ (60 * 2 ^ n))), o] ∧ M = [], ⟨none, rfl, rfl⟩, ?_, ?_⟩))))
  · rintro n ρ Γ M hn rfl ⟨o, rfl, rfl⟩
    have hn : n < 7 := hn
    have hb : Bd (4 * (60 * 2 ^ n) + 1) ((10 : Int) ^ (60 * 2 ^ n)) := bd_ten (by
      have : 2 ^ n ≤ 2 ^ 7 := pow2_le (by omega)
      omega)
    refine wg_name 2 w2_f_L_draws (wss_one (ws_set 1 w1_f_L_draws (we_bin op_mulU (we_var 1 r1_f_L_draws rfl (we_var 1 r1_f_L_draws rfl (opw_of (opv_mul_i (mulOk hb hb ?_)) ?_))))))
    · have : 2 ^ n ≤ 2 ^ 7 := pow2_le (by omega)
      omega
    · refine ⟨some (RI (n : Int)), ?_, rfl⟩
      show [some (RI i), some (RI ((10 : Int) ^ (60 * 2 ^ n) * (10 : Int) ^ (60 * 2 ^ n))), _] = _
      rw [← Int.pow_add, Nat.pow_succ]
      have e : 60 * 2 ^ n + 60 * 2 ^ n = 60 * (2 ^ n * 2) := by omega
      rw [e]
  · rintro Γ M ⟨o, rfl, rfl⟩
    -- return [cell % cut, 0, cell >= 10 ** 18]
    have hc : (0 : Int) < (10 : Int) ^ (60 * 2 ^ (7 : Int).toNat) := Int.pow_pos (by decide)
    refine wss_one (ws_ret (we_lstO (wa_cons (we_bin op_modN (we_var 0 r0_f_L_draws rfl (we_var 1 r1_f_L_draws rfl (opw_of (opv_mod_i hc) ?_))))) hE))
    refine wa_cons (we_int (wa_cons (we_cmp op_ge (nomark _) (we_var 0 r0_f_L_draws rfl (we_bin op_pow (we_int (we_int (opw_of (opv_pow_i (cpow_lit (by decide) (by decide) (by decide))) (opw_of opv_ge_i (wa_nil ⟨by show 3 ≤ 100000; decide, fun p _ _ => ?_⟩))))))))))
    exact ⟨p, [], trivial, Sub.rfl, .cons .here (oex_in (_, _, _) ⟨Int.le_refl 0, Int.le_refl 0⟩ OSub.rfl) .nil⟩
theorem ok_L_next {f : Addr} {fd : FuncData} (F : FdD K "_law_next" "_law_next" s_f_L_next [] f fd) : FnOk P w K mg base CX0 1 f fd ["_law_draws_here"] (conSp con_L_next) := by
  refine fn_conD con_L_next F sc_f_L_next (fun _ => rfl) fun cd A outer s H EE G i hp hr hE => ?_
  obtain ⟨p, n⟩ := i
  have hp : n ≤ 1000000000 := hp
  refine wss_open Fnd.here ?_
  rintro ⟨a, j, b⟩ ⟨hj0, hj1⟩
  have hj0 : 0 ≤ j := hj0
  have hj1 : j ≤ n := hj1
  have bj : Bd 40 (j + 1) := by
    show (j + 1).natAbs < _
    omega
  -- d[1] = d[1] + 1
  refine wss_cons (ws_asg (we_bin op_addU (we_ix ix_seq (we_var 0 r0_f_L_next rfl (we_int (opw_ix_o Sub.rfl Sub.rfl .here (show atI [RI a, RI j, RB b] 1 = some (RI j) from rfl) (we_int ?_)))))))
  refine opw_of opv_add_i (wg_setL (we_var 0 r0_f_L_next rfl (we_int ⟨p, _, 1, 1, _, Sub.rfl, Sub.rfl, .here, rfl, ?_⟩)))
  -- k = d[1]
  refine wss_cons (ws_set 1 w1_f_L_next (we_ix ix_seq (we_var 0 r0_f_L_next rfl (we_int (opw_ix_o Sub.rfl Sub.rfl .here (show atI [RI a, RI (j + 1), RB b] 1 = some (RI (j + 1)) from rfl) ?_)))))
  -- if d[2]
  refine wss_cons (ws_if (wt_val (we_ix ix_seq (we_var 0 r0_f_L_next rfl (we_int (opw_ix_o Sub.rfl Sub.rfl .here (show atI [RI a, RI (j + 1), RB b] 2 = some (RB b) from rfl) ⟨_, Sub.rfl, fun hk => ?_, fun hk => wss_nil ?_⟩))))))
  · refine wss_cons (ws_set 2 w2_f_L_next (we_bin op_modN (we_ix ix_seq (we_var 0 r0_f_L_next rfl (we_int (opw_ix_o Sub.rfl Sub.rfl .here (show atI [RI a, RI (j + 1), RB b] 0 = some (RI a) from rfl) (we_bin op_pow (we_int (we_int (opw_of (opv_pow_i (cpow_lit (by decide) (by decide) (by decide))) (opw_of (opv_mod_i (by decide)) ?_))))))))))) 
    refine wss_cons (ws_asg (we_bin op_fdivA (we_ix ix_seq (we_var 0 r0_f_L_next rfl (we_int (opw_ix_o Sub.rfl Sub.rfl .here (show atI [RI a, RI (j + 1), RB b] 0 = some (RI a) from rfl) (we_bin op_pow (we_int (we_int (opw_of (opv_pow_i (cpow_lit (by decide) (by decide) (by decide))) (opw_of (opv_div_i (by decide) (by decide)) ?_)))))))))))
    refine wg_setL (we_var 0 r0_f_L_next rfl (we_int ⟨p, _, 0, 0, _, Sub.rfl, Sub.rfl, .here, rfl, ?_⟩))
    refine wss_one (ws_ret (we_var 2 r2_f_L_next rfl ⟨a % 10 ^ (6 : Int).toNat, [], ?_, Sub.rfl, .cons .here ?_ .nil⟩))
    · show 0 ≤ a % 1000000 ∧ a % 1000000 < 306783369
      omega
    · exact oex_in (_, j + 1, b) ⟨by show 0 ≤ j + 1; omega, by show j + 1 ≤ ((n + 1 : Nat) : Int); omega⟩ OSub.rfl
  -- the mix
  refine wss_cons (ws_set 2 w2_f_L_next (we_bin op_modN (we_bin op_mulU (we_bin op_addU (we_bin op_addU (we_bin op_modN (we_ix ix_seq (we_var 0 r0_f_L_next rfl (we_int (opw_ix_o Sub.rfl Sub.rfl .here (show atI [RI a, RI (j + 1), RB b] 0 = some (RI a) from rfl) (we_int (opw_of (opv_mod_i (by decide)) ?_))))))))))))
  refine we_bin op_mulU (we_bin op_mulU (we_var 1 r1_f_L_next rfl (we_var 1 r1_f_L_next rfl (opw_of (by walk_at "mul") (we_int (opw_of (by walk_at "mul") (opw_of opv_add_i ?_)))))))
  refine we_var 1 r1_f_L_next rfl (opw_of opv_add_i (we_int (opw_of (by walk_at "mul") (we_int (opw_of (opv_mod_i (by decide)) ?_)))))
  have q0 := Int.emod_nonneg ((a % 1000003 + (j + 1) * (j + 1) * 7919 + (j + 1)) * 48271) (show (2147483629 : Int) ≠ 0 by decide)
  have q1 := Int.emod_lt_of_pos ((a % 1000003 + (j + 1) * (j + 1) * 7919 + (j + 1)) * 48271) (show (0 : Int) < 2147483629 by decide)
  generalize (a % 1000003 + (j + 1) * (j + 1) * 7919 + (j + 1)) * 48271 % 2147483629 = z at q0 q1
  have bz : Bd 32 z := by
    show z.natAbs < _
    omega
  refine wss_cons (ws_set 2 w2_f_L_next (we_bin op_modN (we_bin op_mulU (we_var 2 r2_f_L_next rfl (we_var 2 r2_f_L_next rfl (opw_of (by walk_at "mul") (we_int (opw_of (opv_mod_i (by decide)) ?_))))))))
  have p0 := Int.emod_nonneg (z * z) (show (2147483587 : Int) ≠ 0 by decide)
  have p1 := Int.emod_lt_of_pos (z * z) (show (0 : Int) < 2147483587 by decide)
  generalize z * z % 2147483587 = y at p0 p1
  have by_ : Bd 32 y := by
    show y.natAbs < _
    omega
  refine wss_one (ws_ret (we_bin op_fdivA (we_bin op_modN (we_bin op_mulU (we_var 2 r2_f_L_next rfl (we_bin op_addU (we_var 2 r2_f_L_next rfl (we_int (opw_of opv_add_i (opw_of (by walk_at "mul") (we_int (opw_of (opv_mod_i (by decide)) (we_int (opw_of (opv_div_i (by decide) (by decide)) ?_))))))))))))))
  refine ⟨y * (y + 2) % 2147483579 / 7, [], ?_, Sub.rfl, .cons .here ?_ .nil⟩
  · show 0 ≤ _ ∧ _ < 306783369
    have t0 := Int.emod_nonneg (y * (y + 2)) (show (2147483579 : Int) ≠ 0 by decide)
    have t1 := Int.emod_lt_of_pos (y * (y + 2)) (show (0 : Int) < 2147483579 by decide)
    omega
  · exact oex_in (_, j + 1, b) ⟨by show 0 ≤ j + 1; omega, by show j + 1 ≤ ((n + 1 : Nat) : Int); omega⟩ OSub.rfl
end
end MM

namespace MM
open PySem L2 PyProof.Rows
local macro_rules | `(tactic| walk_at "bd") => `(tactic| first
  | assumption
  | exact Sz.num (by assumption)
  | exact Sz.den (by assumption)
  | exact bd_lit (by decide)
  | (refine' bd_mul ?h1 ?h2; (case h1 => walk_at "bd"); (case h2 => walk_at "bd"))
  | (refine' bd_add ?h1 ?h2; (case h1 => walk_at "bd"); (case h2 => walk_at "bd"))
  | (refine' bd_sub ?h1 ?h2; (case h1 => walk_at "bd"); (case h2 => walk_at "bd"))
  | (refine' bd_mod ?h1 ?h2; (case h1 => decide); (case h2 => walk_at "bd"))
  | (refine' bd_neg ?h1; (case h1 => walk_at "bd")))
local macro_rules | `(tactic| walk_at "mul") => `(tactic| (refine' opv_mul_i (mulOk ?h1 ?h2 ?h3); (case h1 => walk_at "bd"); (case h2 => walk_at "bd"); (case h3 => decide)))
/-! ### an item of a written list of ints -/
inductive AllI (Q : Int → Prop) : List Rep → Prop
  | nil : AllI Q []
  | cons {n : Int} {l : List Rep} : Q n → AllI Q l → AllI Q (RI n :: l)
theorem AllI.mem {Q : Int → Prop} {l : List Rep} (h : AllI Q l) : ∀ ρ ∈ l, ∃ n, ρ = RI n ∧ Q n := by
  induction h with
  | nil => intro ρ hm; cases hm
  | cons hq _ ih =>
    intro ρ hm
    rcases List.mem_cons.mp hm with e | hm
    · exact ⟨_, e, hq⟩
    · exact ih ρ hm
theorem opw_pickI {K : PySem.W.Frag} {E : En} {Γ : Gm} {M : Ow} {Φ : Rep → Ow → Prop} {ρs : List Rep} {i : Int} (Q : Int → Prop) (h0 : 0 ≤ i) (h1 : i < ρs.length) (hq : AllI Q ρs) (k : ∀ n, Q n → Φ (RI n) M) : OpW E Γ M (rIx K) (RLt ρs) (RI i) Φ := by
  obtain ⟨x, e, hm, _⟩ := atI_of (l := ρs) h0 h1
  obtain ⟨n, e2, hn⟩ := hq.mem x hm
  subst e2
  exact opw_of (opv_ix_l sub_lt e) (k n hn)
theorem opv_powL {i j v : Int} (h1 : 0 ≤ j) (h2 : j ≤ 1000000) (h3 : i.natAbs < 2 ^ 64) (e : i ^ j.toNat = v) : OpV rPow (RI i) (RI j) (RI v) := by
  subst e; exact opv_pow_i ⟨h1, h2, h3⟩
/-! ### fractions as pairs -/
def RF (q : Rat) : Rep := RTt [RI q.num, RI (q.den : Int)]
def con_L_low : Con := { I := Int × Int, B := Unit, pre := fun i => i.2 ≠ 0 ∧ Bd 8900 i.1 ∧ Bd 8900 i.2, args := fun i => [RI i.1, RI i.2], own := fun _ => [], post := fun _ _ => True, res := fun i _ => RF (rt i.1 i.2), own' := fun _ _ => [] }
theorem ck_L_low {ρ1 ρ2 : Rep} {M : Ow} {Φ : Rep → Ow → Prop} {a b : Int} (h1 : Sub ρ1 (RI a)) (h2 : Sub ρ2 (RI b)) (h : b ≠ 0) (s1 : Bd 8900 a) (s2 : Bd 8900 b) (k : Φ (RF (rt a b)) M) : CallK con_L_low [ρ1, ρ2] M Φ :=
  ⟨(a, b), M, ⟨h, s1, s2⟩, .cons h1 (.cons h2 .nil), .nil, fun _ _ => k⟩
structure F2 where
  a : Int
  b : Int
  c : Int
  d : Int
def F2.ok (i : F2) : Prop := (i.b ≠ 0 ∧ i.d ≠ 0) ∧ Bd 4000 i.a ∧ Bd 4000 i.b ∧ Bd 4000 i.c ∧ Bd 4000 i.d
def con_L_plus : Con := { I := F2, B := Unit, pre := F2.ok, args := fun i => [RTt [RI i.a, RI i.b], RTt [RI i.c, RI i.d]], own := fun _ => [], post := fun _ _ => True, res := fun i _ => RF (rt i.a i.b + rt i.c i.d), own' := fun _ _ => [] }
def con_L_by : Con := { I := F2, B := Unit, pre := F2.ok, args := fun i => [RTt [RI i.a, RI i.b], RTt [RI i.c, RI i.d]], own := fun _ => [], post := fun _ _ => True, res := fun i _ => RF (rt i.a i.b * rt i.c i.d), own' := fun _ _ => [] }
/-- a pair that writes the fraction q, its parts below 2 ^ n -/
structure Pq (n : Nat) (q : Rat) (ρ : Rep) : Prop where
  ex : ∃ a b : Int, Sub ρ (RTt [RI a, RI b]) ∧ b ≠ 0 ∧ Bd n a ∧ Bd n b ∧ rt a b = q
theorem pq_f {n : Nat} {q : Rat} (z : Sz n q) : Pq n q (RF q) := ⟨_, _, Sub.rfl, den_ne q, z.num, z.den, rt_self q⟩
theorem bd_one {n : Nat} (hn : 1 ≤ n) : Bd n 1 := by
  show (1 : Int).natAbs < _
  exact Nat.lt_of_lt_of_le (by decide : 1 < 2 ^ 1) (pow2_le hn)
theorem pq_i {n : Nat} {i : Int} (z : Bd n i) (hn : 1 ≤ n) : Pq n (i : Rat) (RTt [RI i, RI 1]) := ⟨_, _, Sub.rfl, by decide, z, bd_one hn, rt_int i⟩
theorem pq_p {n : Nat} {a b : Int} (z : Bd n a) (z2 : Bd n b) (h : b ≠ 0) : Pq n (rt a b) (RTt [RI a, RI b]) := ⟨_, _, Sub.rfl, h, z, z2, rfl⟩
theorem Pq.mono {n m : Nat} {q : Rat} {ρ : Rep} (h : Pq n q ρ) (l : n ≤ m) : Pq m q ρ := let ⟨a, b, h1, h2, h3, h4, h5⟩ := h.ex; ⟨a, b, h1, h2, h3.mono l, h4.mono l, h5⟩
theorem ck_L_plus {ρ1 ρ2 : Rep} {M : Ow} {Φ : Rep → Ow → Prop} {p q : Rat} {n m : Nat} (h1 : Pq n p ρ1) (h2 : Pq m q ρ2) (k : Φ (RF (p + q)) M) (hn : n ≤ 4000 := by decide) (hm : m ≤ 4000 := by decide) : CallK con_L_plus [ρ1, ρ2] M Φ := by
  obtain ⟨a, b, s1, b0, z1, z2, e1⟩ := (h1.mono hn).ex
  obtain ⟨c, d, s2, d0, z3, z4, e2⟩ := (h2.mono hm).ex
  subst e1 e2
  exact ⟨⟨a, b, c, d⟩, M, ⟨⟨b0, d0⟩, z1, z2, z3, z4⟩, .cons s1 (.cons s2 .nil), .nil, fun _ _ => k⟩
theorem ck_L_by {ρ1 ρ2 : Rep} {M : Ow} {Φ : Rep → Ow → Prop} {p q : Rat} {n m : Nat} (h1 : Pq n p ρ1) (h2 : Pq m q ρ2) (k : Φ (RF (p * q)) M) (hn : n ≤ 4000 := by decide) (hm : m ≤ 4000 := by decide) : CallK con_L_by [ρ1, ρ2] M Φ := by
  obtain ⟨a, b, s1, b0, z1, z2, e1⟩ := (h1.mono hn).ex
  obtain ⟨c, d, s2, d0, z3, z4, e2⟩ := (h2.mono hm).ex
  subst e1 e2
  exact ⟨⟨a, b, c, d⟩, M, ⟨⟨b0, d0⟩, z1, z2, z3, z4⟩, .cons s1 (.cons s2 .nil), .nil, fun _ _ => k⟩
section
variable {P : Program} {w : World} {K : PySem.W.Frag} {mg : Str → Option Value} {base : Heap}
theorem ok_L_low {f : Addr} {fd : FuncData} (F : FdD K "_law_low" "_law_low" s_f_L_low [] f fd) (hab : mg "abs" = none) : FnOk P w K mg base CX0 1 f fd ["_law_top", "_law_bottom"] (conSp con_L_low) := by
  refine fn_conD con_L_low F sc_f_L_low (fun _ => rfl) fun cd A outer s H EE G i hp hr hE => ?_
  obtain ⟨a, b⟩ := i
  obtain ⟨hb, z1, z2⟩ := hp
  have hb : b ≠ 0 := hb
  have z2 : Bd 8900 b := z2
  refine wss_cons (ws_par 2 3 rfl w2_f_L_low w3_f_L_low (by decide) rfl rfl rfl ?_)
  refine wa_cons (we_callB call_abs g_abs_f_L_low hab (by decide +kernel) (wa_cons (we_var 0 r0_f_L_low rfl (wa_nil ?_))))
  refine caw_of cav_abs ?_
  refine wa_cons (we_callB call_abs g_abs_f_L_low hab (by decide +kernel) (wa_cons (we_var 1 r1_f_L_low rfl (wa_nil ?_))))
  refine caw_of cav_abs ?_
  refine wa_nil ⟨_, _, rfl, ?_⟩
  refine wss_cons (ws_while PassesOwn.never (fun n Γ M => ∃ x : Nat, Γ = [some (RI a), some (RI b), some (RI (x : Int)), some (RI (n : Int))] ∧ M = [] ∧ Nat.gcd x n = Int.gcd a b) b.natAbs ⟨a.natAbs, rfl, rfl, rfl⟩ ?_)
  rintro n Γ M ⟨x, rfl, rfl, hg⟩
  refine wt_cmp op_gt (nomark _) (we_var 3 r3_f_L_low rfl (we_int ?_))
  refine opw_of opv_gt_i ⟨_, Sub.rfl, fun hk => ?_, fun hk => ?_⟩
  · have hn : 0 < n := by have := of_decide_eq_true hk; omega
    refine wss_one (ws_par 2 3 rfl w2_f_L_low w3_f_L_low (by decide) rfl rfl rfl ?_)
    refine wa_cons (we_var 3 r3_f_L_low rfl (wa_cons (we_bin op_modN (we_var 2 r2_f_L_low rfl (we_var 3 r3_f_L_low rfl ?_)))))
    refine opw_of (opv_mod_i (by omega)) ?_
    refine wa_nil ⟨_, _, rfl, x % n, Nat.mod_lt _ hn, n, ?_, rfl, ?_⟩
    · show [_, _, some (RI (n : Int)), some (RI ((x : Int) % (n : Int)))] = _
      rw [Int.natCast_emod]
    · rw [← hg, Nat.gcd_comm x n, Nat.gcd_rec n x, Nat.gcd_comm]
  · have hn : n = 0 := by have := of_decide_eq_false hk; omega
    subst hn
    rw [Nat.gcd_zero_right] at hg
    refine wss_cut (fun Γ M => ∃ o, Γ = [some (RI a), some (RI b), some (RI (lowBy a b)), o] ∧ M = []) (ws_if (wt_cmp op_lt (nomark _) (we_var 1 r1_f_L_low rfl (we_int (opw_of opv_lt_i ⟨_, Sub.rfl, fun hk => ?_, fun hk => wss_nil ⟨some (RI ((0 : Nat) : Int)), ?_, rfl⟩⟩))))) ?_
    · have hk := of_decide_eq_true hk
      refine wss_one (ws_set 2 w2_f_L_low (we_bin op_sub (we_int (we_var 2 r2_f_L_low rfl (opw_of opv_sub_i ⟨some (RI ((0 : Nat) : Int)), ?_, rfl⟩)))))
      show [_, _, some (RI (0 - (x : Int))), _] = _
      unfold lowBy; rw [if_pos hk, hg]
    · have hk := of_decide_eq_false hk
      unfold lowBy; rw [if_neg hk, hg]
    · rintro Γ M ⟨o, rfl, rfl⟩
      have dv : CDivA a (lowBy a b) := divOkA (lowBy_ne hb) (bd_lowBy z2 hb) (by decide)
      have dv2 : CDivA b (lowBy a b) := divOkA (lowBy_ne hb) (bd_lowBy z2 hb) (by decide)
      refine wss_one (ws_ret (we_tup (wa_cons (we_bin op_fdivA (we_var 0 r0_f_L_low rfl (we_var 2 r2_f_L_low rfl (opw_of (opv_fdiv_i dv) (wa_cons (we_bin op_fdivA (we_var 1 r1_f_L_low rfl (we_var 2 r2_f_L_low rfl (opw_of (opv_fdiv_i dv2) (wa_nil ⟨by show 2 ≤ 100000; decide, (), [], trivial, ?_, .nil⟩)))))))))))))
      show Sub _ (RF (rt a b))
      rw [low_top hb, low_bot hb]; exact Sub.rfl
theorem ok_L_plus {f : Addr} {fd : FuncData} (F : FdD K "_law_plus" "_law_plus" s_f_L_plus [] f fd) (L : Kn P w K mg base 1 "_law_low" [] con_L_low) : FnOk P w K mg base CX0 2 f fd (N_f_L_plus) (conSp con_L_plus) := by
  refine fn_conD con_L_plus F sc_f_L_plus (fun _ => rfl) fun cd A outer s H EE G i hp hr hE => ?_
  obtain ⟨a, b, c, d⟩ := i
  obtain ⟨⟨hb, hd⟩, z1, z2, z3, z4⟩ := hp
  have z1 : Bd 4000 a := z1
  have z2 : Bd 4000 b := z2
  have z3 : Bd 4000 c := z3
  have z4 : Bd 4000 d := z4
  refine wss_one (ws_ret (we_call L hr g__law_low_f_L_plus pass0 (wa_cons (we_bin op_addU (we_bin op_mulU (we_ix ix_seq (we_var 0 r0_f_L_plus rfl (we_int (opw_of (opv_ix_t sub_tt rfl) ?_)))))))))
  refine we_ix ix_seq (we_var 1 r1_f_L_plus rfl (we_int (opw_of (opv_ix_t sub_tt rfl) (opw_of (by walk_at "mul") (we_bin op_mulU (we_ix ix_seq (we_var 1 r1_f_L_plus rfl (we_int (opw_of (opv_ix_t sub_tt rfl) ?_)))))))))
  refine we_ix ix_seq (we_var 0 r0_f_L_plus rfl (we_int (opw_of (opv_ix_t sub_tt rfl) (opw_of (by walk_at "mul") (opw_of opv_add_i (wa_cons (we_bin op_mulU (we_ix ix_seq (we_var 0 r0_f_L_plus rfl (we_int (opw_of (opv_ix_t sub_tt rfl) ?_)))))))))))
  refine we_ix ix_seq (we_var 1 r1_f_L_plus rfl (we_int (opw_of (opv_ix_t sub_tt rfl) (opw_of (by walk_at "mul") (wa_nil (ck_L_low Sub.rfl Sub.rfl (Int.mul_ne_zero hb hd) ?_ ?_ ⟨(), [], trivial, ?_, .nil⟩))))))
  · exact (bd_add (bd_mul z1 z4) (bd_mul z3 z2)).mono (by decide)
  · exact (bd_mul z2 z4).mono (by decide)
  · show Sub (RF (rt (a * d + c * b) (b * d))) (RF (rt a b + rt c d))
    rw [rt_add _ _ hb hd]; exact Sub.rfl
theorem ok_L_by {f : Addr} {fd : FuncData} (F : FdD K "_law_by" "_law_by" s_f_L_by [] f fd) (L : Kn P w K mg base 1 "_law_low" [] con_L_low) : FnOk P w K mg base CX0 2 f fd (N_f_L_by) (conSp con_L_by) := by
  refine fn_conD con_L_by F sc_f_L_by (fun _ => rfl) fun cd A outer s H EE G i hp hr hE => ?_
  obtain ⟨a, b, c, d⟩ := i
  obtain ⟨⟨hb, hd⟩, z1, z2, z3, z4⟩ := hp
  have z1 : Bd 4000 a := z1
  have z2 : Bd 4000 b := z2
  have z3 : Bd 4000 c := z3
  have z4 : Bd 4000 d := z4
  refine wss_one (ws_ret (we_call L hr g__law_low_f_L_by pass0 (wa_cons (we_bin op_mulU (we_ix ix_seq (we_var 0 r0_f_L_by rfl (we_int (opw_of (opv_ix_t sub_tt rfl) ?_))))))))
  refine we_ix ix_seq (we_var 1 r1_f_L_by rfl (we_int (opw_of (opv_ix_t sub_tt rfl) (opw_of (by walk_at "mul") (wa_cons (we_bin op_mulU (we_ix ix_seq (we_var 0 r0_f_L_by rfl (we_int (opw_of (opv_ix_t sub_tt rfl) ?_))))))))))
  refine we_ix ix_seq (we_var 1 r1_f_L_by rfl (we_int (opw_of (opv_ix_t sub_tt rfl) (opw_of (by walk_at "mul") (wa_nil (ck_L_low Sub.rfl Sub.rfl (Int.mul_ne_zero hb hd) ?_ ?_ ⟨(), [], trivial, ?_, .nil⟩))))))
  · exact (bd_mul z1 z3).mono (by decide)
  · exact (bd_mul z2 z4).mono (by decide)
  · show Sub (RF (rt (a * c) (b * d))) (RF (rt a b * rt c d))
    rw [rt_mul]; exact Sub.rfl
end
/-! ### drawn parts -/
def con_L_part : Con := { I := Addr × Nat, B := Rat, pre := fun i => i.2 ≤ 100000000, args := fun i => [RRef i.1], own := fun i => [(i.1, ODr i.2)], post := fun _ q => 0 ≤ q ∧ q ≤ 1 ∧ Sz 20 q, res := fun _ q => RF q, own' := fun i _ => [(i.1, ODr (i.2 + 2))] }
theorem ck_L_part {ρ : Rep} {M M1 : Ow} {Φ : Rep → Ow → Prop} {p : Addr} {n : Nat} (h : Sub ρ (RRef p)) (rm : Rm M p (ODr n) M1) (hn : n ≤ 100000000) (k : ∀ q : Rat, 0 ≤ q → q ≤ 1 → Sz 20 q → Φ (RF q) ((p, ODr (n + 2)) :: M1)) : CallK con_L_part [ρ] M Φ :=
  ⟨(p, n), M1, hn, .cons h .nil, .cons rm OSub.rfl .nil, fun q hq => k q hq.1 hq.2.1 hq.2.2⟩
def con_L_moment : Con := { I := Addr × Nat, B := Rat, pre := fun i => i.2 ≤ 10000000, args := fun i => [RRef i.1], own := fun i => [(i.1, ODr i.2)], post := fun _ q => Sz 51 q, res := fun _ q => RF q, own' := fun i _ => [(i.1, ODr (i.2 + 3))] }
theorem ck_L_moment {ρ : Rep} {M M1 : Ow} {Φ : Rep → Ow → Prop} {p : Addr} {n : Nat} (h : Sub ρ (RRef p)) (rm : Rm M p (ODr n) M1) (hn : n ≤ 10000000) (k : ∀ q : Rat, Sz 51 q → Φ (RF q) ((p, ODr (n + 3)) :: M1)) : CallK con_L_moment [ρ] M Φ :=
  ⟨(p, n), M1, hn, .cons h .nil, .cons rm OSub.rfl .nil, fun q hq => k q hq⟩
theorem rt_nonneg {a b : Int} (ha : 0 ≤ a) (hb : 0 < b) : 0 ≤ rt a b := by
  rw [rt]; exact Rat.divInt_nonneg ha (by omega)
theorem rt_le_one {a b : Int} (h : a ≤ b) (hb : 0 < b) : rt a b ≤ 1 := by
  have e : (1 : Rat) - rt a b = rt (b - a) b := by
    have e1 : rt b b = 1 := by
      rw [rt, Rat.divInt_eq_div]
      have : (b : Rat) ≠ 0 := by
        intro z
        have : b = 0 := by exact_mod_cast z
        omega
      grind
    rw [← e1, rt, rt, rt, Rat.divInt_eq_div, Rat.divInt_eq_div, Rat.divInt_eq_div, Rat.intCast_sub]
    grind
  have h2 := rt_nonneg (a := b - a) (b := b) (by omega) hb
  rw [← e] at h2
  grind
section
variable {P : Program} {w : World} {K : PySem.W.Frag} {mg : Str → Option Value} {base : Heap}
theorem ok_L_moment {f : Addr} {fd : FuncData} (F : FdD K "_law_moment" "_law_moment" s_f_L_moment [] f fd) (L : Kn P w K mg base 2 "_law_plus" [] con_L_plus) (Nx : Kn P w K mg base 1 "_law_next" [] con_L_next) (Pt : Kn P w K mg base 2 "_law_part" [] con_L_part) : FnOk P w K mg base CX0 3 f fd ["_law_draws_here"] (conSp con_L_moment) := by
  refine fn_conD con_L_moment F sc_f_L_moment (fun _ => rfl) fun cd A outer s H EE G i hp hr hE => ?_
  obtain ⟨p, n⟩ := i
  have hp : n ≤ 10000000 := hp
  have hr1 := hr.mono (show 1 ≤ 2 by decide)
  refine wss_cons (ws_set 1 w1_f_L_moment (we_call Pt hr g__law_part_f_L_moment pass0 (wa_cons (we_var 0 r0_f_L_moment rfl (wa_nil (ck_L_part Sub.rfl .here (by omega) fun q q0 q1 qz => ?_))))))
  refine wss_cons (ws_set 2 w2_f_L_moment (we_call Nx hr1 g__law_next_f_L_moment pass0 (wa_cons (we_var 0 r0_f_L_moment rfl (wa_nil (ck_L_next Sub.rfl .here (by omega) fun x hx => ?_))))))
  obtain ⟨x0, x1⟩ := hx
  refine wss_cons (ws_set 3 w3_f_L_moment (we_ix ix_seq (we_lst (wa_cons (we_int (wa_cons (we_bin op_modN (we_bin op_fdivA (we_var 2 r2_f_L_moment rfl (we_int (opw_of (opv_div_i (by decide) (by decide)) (we_int (opw_of (opv_mod_i (by decide)) ?_)))))))))))))
  refine wa_cons (we_bin op_addU (we_bin op_pow (we_int (we_int (opw_of (opv_powL (v := 1000000) (by decide) (by decide) (by decide) (by decide)) (we_bin op_fdivA (we_var 2 r2_f_L_moment rfl (we_int (opw_of (opv_div_i (by decide) (by decide)) (opw_of opv_add_i ?_))))))))))
  refine wa_cons (we_bin op_sub (we_int (we_bin op_modN (we_bin op_fdivA (we_var 2 r2_f_L_moment rfl (we_int (opw_of (opv_div_i (by decide) (by decide)) (we_bin op_pow (we_int (we_int (opw_of (opv_powL (v := 100000) (by decide) (by decide) (by decide) (by decide)) (opw_of (opv_mod_i (by decide)) (opw_of opv_sub_i ?_)))))))))))))
  refine wa_nil ⟨by show 4 ≤ 100000; decide, we_bin op_modN (we_var 2 r2_f_L_moment rfl (we_int (opw_of (opv_mod_i (by decide)) ?_)))⟩
  refine opw_pickI (fun b => -1000000 ≤ b ∧ b ≤ 500000000) (by omega) (by show x % 4 < 4; omega) (.cons (by omega) (.cons (by omega) (.cons (by omega) (.cons (by omega) .nil)))) fun b hb => ?_
  obtain ⟨b1, b2⟩ := hb
  have zb : Bd 30 b := by
    show b.natAbs < 2 ^ 30
    omega
  refine wss_one (ws_ret (we_call L hr g__law_plus_f_L_moment pass0 (wa_cons (we_var 1 r1_f_L_moment rfl (wa_cons (we_tup (wa_cons (we_var 3 r3_f_L_moment rfl (wa_cons (we_int (wa_nil ⟨by show 2 ≤ 100000; decide, wa_nil ?_⟩)))))))))))
  exact ck_L_plus (pq_f qz) (pq_i zb (by decide)) ⟨q + (b : Rat), [], sz_add qz (sz_int zb (by decide)), Sub.rfl, .cons .here OSub.rfl .nil⟩
end
end MM

namespace MM
open PySem L2 PyProof.Rows
local macro_rules | `(tactic| walk_at "bd") => `(tactic| first
  | assumption
  | exact Sz.num (by assumption)
  | exact Sz.den (by assumption)
  | exact bd_lit (by decide)
  | (refine' bd_mul ?h1 ?h2; (case h1 => walk_at "bd"); (case h2 => walk_at "bd"))
  | (refine' bd_add ?h1 ?h2; (case h1 => walk_at "bd"); (case h2 => walk_at "bd"))
  | (refine' bd_sub ?h1 ?h2; (case h1 => walk_at "bd"); (case h2 => walk_at "bd"))
  | (refine' bd_mod ?h1 ?h2; (case h1 => decide); (case h2 => walk_at "bd"))
  | (refine' bd_neg ?h1; (case h1 => walk_at "bd")))
local macro_rules | `(tactic| walk_at "mul") => `(tactic| (refine' opv_mul_i (mulOk ?h1 ?h2 ?h3); (case h1 => walk_at "bd"); (case h2 => walk_at "bd"); (case h3 => decide)))
/-! ### a drawn calendar -/
structure CalOk (c : Cal) : Prop where
  m : Sz 200 c.month
  y : Sz 200 c.year
  o : Sz 200 c.moon
  k : Sz 200 c.mark
  ft : fault c.month c.year = ""
def RCf (c : Cal) : Rep := RTt [RF c.month, RF c.year, RF c.moon, RF c.mark]
theorem fault_none {m y : Rat} (h1 : 1 ≤ m) (h2 : (m.ceil : Rat) ≤ y / 12) (h3 : y + 1 ≤ m * 13) : fault m y = "" := by
  unfold fault
  rw [if_neg (by grind), if_neg (by grind), if_neg (by grind)]
theorem fault_drawn {w s r : Rat} {n : Int} (e : w = (n : Rat)) (hw : 1 ≤ w) (s0 : 0 ≤ s) (s1 : s ≤ 1) (r0 : 0 ≤ r) (r1 : r ≤ 1) : fault ((12 * w + 1 + s * (w - 1)) * rt 1 13) (12 * w + r * s * (w - 1)) = "" := by
  have x0 : 0 ≤ s * (w - 1) := Rat.mul_nonneg s0 (by grind)
  have x1 : 0 ≤ (1 - s) * (w - 1) := Rat.mul_nonneg (by grind) (by grind)
  have x2 : 0 ≤ r * (s * (w - 1)) := Rat.mul_nonneg r0 x0
  have x3 : 0 ≤ (1 - r) * (s * (w - 1)) := Rat.mul_nonneg (by grind) x0
  have e13 : rt 1 13 = 1 / 13 := by rw [rt, Rat.divInt_eq_div]; rfl
  rw [e13]
  have hm : (12 * w + 1 + s * (w - 1)) * (1 / 13) ≤ w := by grind
  have hc : (((12 * w + 1 + s * (w - 1)) * (1 / 13)).ceil : Rat) ≤ w := by
    rw [e] at hm ⊢
    have := Rat.ceil_le_iff.mpr hm
    exact_mod_cast this
  refine fault_none (by grind) ?_ (by grind)
  have : w ≤ (12 * w + r * s * (w - 1)) / 12 := by grind
  exact Rat.le_trans hc this

theorem opw_pickR {K : PySem.W.Frag} {E : En} {Γ : Gm} {M : Ow} {Φ : Rep → Ow → Prop} {ρs : List Rep} {i : Int} (h0 : 0 ≤ i) (h1 : i < ρs.length) (k : ∀ ρ ∈ ρs, Φ ρ M) : OpW E Γ M (rIx K) (RLt ρs) (RI i) Φ := by
  obtain ⟨x, e, hm, _⟩ := atI_of (l := ρs) h0 h1
  exact opw_of (opv_ix_l sub_lt e) (k x hm)
theorem rf_lit {q : Rat} {a b : Int} (h1 : q.num = a) (h2 : (q.den : Int) = b) : RF q = RTt [RI a, RI b] := by
  unfold RF; rw [h1, h2]
/-- what is drawn is small -/
structure CalS (c : Cal) : Prop where
  m : Sz 70 c.month
  y : Sz 70 c.year
  o : Sz 51 c.moon
  k : Sz 51 c.mark
def con_L_four : Con := { I := Addr × Nat, B := Cal, pre := fun i => i.2 ≤ 1000000, args := fun i => [RRef i.1], own := fun i => [(i.1, ODr i.2)], post := fun _ c => CalOk c ∧ CalS c, res := fun _ c => RCf c, own' := fun i _ => [(i.1, ODr (i.2 + 11))] }
theorem ck_L_four {ρ : Rep} {M M1 : Ow} {Φ : Rep → Ow → Prop} {p : Addr} {n : Nat} (h : Sub ρ (RRef p)) (rm : Rm M p (ODr n) M1) (hn : n ≤ 1000000) (k : ∀ c : Cal, CalOk c → CalS c → Φ (RCf c) ((p, ODr (n + 11)) :: M1)) : CallK con_L_four [ρ] M Φ :=
  ⟨(p, n), M1, hn, .cons h .nil, .cons rm OSub.rfl .nil, fun q hq => k q hq.1 hq.2⟩
structure MyOk (m y : Rat) : Prop where
  zm : Sz 70 m
  zy : Sz 70 y
  ft : fault m y = ""
section
variable {X : Cx} {E : En} {Γ : Gm} {M : Ow} {Φ : Rep → Ow → Prop}
theorem we_pairI {a b : Int} {j1 j2 : Nat} {p1 p2 pos : Pos} {x1} (k : Φ (RTt [RI a, RI b]) M) : WE X E Γ M (.Tuple [.Constant (.int a) j1 p1, .Constant (.int b) j2 p2] x1 pos) Φ :=
  we_tup (wa_cons (we_int (wa_cons (we_int (wa_nil ⟨by show 2 ≤ 100000; decide, k⟩)))))
theorem we_tup2 {a b : Expr} {pos : Pos} {x1} (k : WE X E Γ M a fun ρ1 M1 => WE X E Γ M1 b fun ρ2 M2 => Φ (RTt [ρ1, ρ2]) M2) (hs : starEach [a, b] X.env = (false, eval a X.env) :: starEach [b] X.env := by rfl) (hs2 : starEach [b] X.env = (false, eval b X.env) :: starEach [] X.env := by rfl) : WE X E Γ M (.Tuple [a, b] x1 pos) Φ := by
  refine we_tup (wa_cons (fun σ G H a Q q => k σ G H a Q fun ρ M' v G' H' hh => q ρ M' v G' H' (wa_cons (fun σ2 G2 H2 a2 Q2 q2 => hh σ2 G2 H2 a2 Q2 fun ρ2 M2 v2 G3 H3 h3 => q2 ρ2 M2 v2 G3 H3 (wa_nil ⟨?_, h3⟩)) hs2)) hs)
  show 2 ≤ 100000
  decide
theorem we_lst1 {a : Expr} {pos : Pos} (k : WE X E Γ M a fun ρ1 M1 => Φ (RLt [ρ1]) M1) (hs : starEach [a] X.env = (false, eval a X.env) :: starEach [] X.env := by rfl) : WE X E Γ M (.List [a] pos) Φ := by
  refine we_lst (wa_cons (fun σ2 G2 H2 a2 Q2 q2 => k σ2 G2 H2 a2 Q2 fun ρ2 M2 v2 G3 H3 h3 => q2 ρ2 M2 v2 G3 H3 (wa_nil ⟨?_, h3⟩)) hs)
  show 1 ≤ 100000
  decide
theorem we_lst2 {a b : Expr} {pos : Pos} (k : WE X E Γ M a fun ρ1 M1 => WE X E Γ M1 b fun ρ2 M2 => Φ (RLt [ρ1, ρ2]) M2) (hs : starEach [a, b] X.env = (false, eval a X.env) :: starEach [b] X.env := by rfl) (hs2 : starEach [b] X.env = (false, eval b X.env) :: starEach [] X.env := by rfl) : WE X E Γ M (.List [a, b] pos) Φ := by
  refine we_lst (wa_cons (fun σ G H a Q q => k σ G H a Q fun ρ M' v G' H' hh => q ρ M' v G' H' (wa_cons (fun σ2 G2 H2 a2 Q2 q2 => hh σ2 G2 H2 a2 Q2 fun ρ2 M2 v2 G3 H3 h3 => q2 ρ2 M2 v2 G3 H3 (wa_nil ⟨?_, h3⟩)) hs2)) hs)
  show 2 ≤ 100000
  decide
end
section
variable {P : Program} {w : World} {K : PySem.W.Frag} {mg : Str → Option Value} {base : Heap}
theorem ok_L_four {f : Addr} {fd : FuncData} (F : FdD K "_law_four" "_law_four" s_f_L_four [] f fd) (Pl : Kn P w K mg base 2 "_law_plus" [] con_L_plus) (By : Kn P w K mg base 2 "_law_by" [] con_L_by) (Nx : Kn P w K mg base 1 "_law_next" [] con_L_next) (Pt : Kn P w K mg base 2 "_law_part" [] con_L_part) (Mo : Kn P w K mg base 3 "_law_moment" [] con_L_moment) : FnOk P w K mg base CX0 4 f fd ["_law_draws_here"] (conSp con_L_four) := by
  refine fn_conD con_L_four F sc_f_L_four (fun _ => rfl) fun cd A outer s H EE G i hp hr hE => ?_
  obtain ⟨p, n⟩ := i
  have hp : n ≤ 1000000 := hp
  have hr1 := hr.mono (show 1 ≤ 3 by decide)
  have hr2 := hr.mono (show 2 ≤ 3 by decide)
  refine wss_cons (ws_set 1 w1_f_L_four (we_call Nx hr1 g__law_next_f_L_four pass0 (wa_cons (we_var 0 r0_f_L_four rfl (wa_nil (ck_L_next Sub.rfl .here (by omega) fun x hx => ?_))))))
  obtain ⟨x0, x1⟩ := hx
  refine wss_cut (fun Γ M => ∃ m y o1 o2 o5 o6 o7 n', Γ = [some (RRef p), o1, o2, some (RF m), some (RF y), o5, o6, o7] ∧ M = [(p, ODr n')] ∧ n' ≤ n + 5 ∧ MyOk m y) (ws_if (wt_cmp (op_eqD hr.units) (nomark _) (we_bin op_modN (we_var 1 r1_f_L_four rfl (we_int (opw_of (opv_mod_i (by decide)) (we_int (opw_of (opv_eq isD_i isD_i shaped_i shaped_i) ⟨_, Sub.rfl, fun hk => ?yes, fun hk => ?no⟩)))))))) ?rest
  case yes =>
    -- a known one
    refine wss_cons ?st
    refine ws_set 2 ?ww ?hh ?hs
    case ww => exact w2_f_L_four
    case hs => rfl
    refine (we_lst2 (we_tup2 (we_pairI (we_pairI (we_tup2 (we_pairI (we_pairI ?_)))))))
    refine wss_one (ws_asg (we_ix ix_seq (we_bin op_addU (we_var 2 r2_f_L_four rfl (we_lst2 (we_tup2 (we_pairI (we_pairI (we_tup2 (we_pairI (we_pairI (opw_of (opv_add_l (by show 4 ≤ 100000; decide)) ?_))))))))))))
    refine we_bin op_modN (we_bin op_fdivA (we_var 1 r1_f_L_four rfl (we_int (opw_of (opv_div_i (by decide) (by decide)) (we_int (opw_of (opv_mod_i (by decide)) ?_))))))
    refine opw_pickR (by omega) (by show x / 8 % 4 < 4; omega) fun ρ hρ => ?_
    have key : ∃ m y, Sub ρ (RTt [RF m, RF y]) ∧ MyOk m y := by
      have hρ : ρ ∈ [RTt [RTt [RI 27759, RI 940], RTt [RI 1461, RI 4]], RTt [RTt [RI 765433, RI 25920], RTt [RI 35975351, RI 98496]], RTt [RTt [RI 59, RI 2], RTt [RI 365, RI 1]], RTt [RTt [RI 30, RI 1], RTt [RI 366, RI 1]]] := hρ
      simp only [List.mem_cons, List.not_mem_nil, or_false] at hρ
      rcases hρ with rfl | rfl | rfl | rfl
      · refine ⟨rt 27759 940, rt 1461 4, ?_, (sz_rt (n := 70) (m := 70) (bd_lit (by decide)) (bd_lit (by decide)) (by decide)).mono (by decide), (sz_rt (n := 70) (m := 70) (bd_lit (by decide)) (bd_lit (by decide)) (by decide)).mono (by decide), by decide +kernel⟩
        rw [rf_lit (q := rt 27759 940) (a := 27759) (b := 940) (by decide +kernel) (by decide +kernel), rf_lit (q := rt 1461 4) (a := 1461) (b := 4) (by decide +kernel) (by decide +kernel)]
        exact Sub.rfl
      · refine ⟨rt 765433 25920, rt 35975351 98496, ?_, (sz_rt (n := 70) (m := 70) (bd_lit (by decide)) (bd_lit (by decide)) (by decide)).mono (by decide), (sz_rt (n := 70) (m := 70) (bd_lit (by decide)) (bd_lit (by decide)) (by decide)).mono (by decide), by decide +kernel⟩
        rw [rf_lit (q := rt 765433 25920) (a := 765433) (b := 25920) (by decide +kernel) (by decide +kernel), rf_lit (q := rt 35975351 98496) (a := 35975351) (b := 98496) (by decide +kernel) (by decide +kernel)]
        exact Sub.rfl
      · refine ⟨rt 59 2, rt 365 1, ?_, (sz_rt (n := 70) (m := 70) (bd_lit (by decide)) (bd_lit (by decide)) (by decide)).mono (by decide), (sz_rt (n := 70) (m := 70) (bd_lit (by decide)) (bd_lit (by decide)) (by decide)).mono (by decide), by decide +kernel⟩
        rw [rf_lit (q := rt 59 2) (a := 59) (b := 2) (by decide +kernel) (by decide +kernel), rf_lit (q := rt 365 1) (a := 365) (b := 1) (by decide +kernel) (by decide +kernel)]
        exact Sub.rfl
      · refine ⟨rt 30 1, rt 366 1, ?_, (sz_rt (n := 70) (m := 70) (bd_lit (by decide)) (bd_lit (by decide)) (by decide)).mono (by decide), (sz_rt (n := 70) (m := 70) (bd_lit (by decide)) (bd_lit (by decide)) (by decide)).mono (by decide), by decide +kernel⟩
        rw [rf_lit (q := rt 30 1) (a := 30) (b := 1) (by decide +kernel) (by decide +kernel), rf_lit (q := rt 366 1) (a := 366) (b := 1) (by decide +kernel) (by decide +kernel)]
        exact Sub.rfl
    obtain ⟨m, y, sb, ok⟩ := key
    refine wg_tup rfl (sb.trans sub_tt) rfl (wgs_cons (wg_name 3 w3_f_L_four (wgs_cons (wg_name 4 w4_f_L_four (wgs_nil ?_)))))
    exact ⟨m, y, _, _, none, none, none, _, rfl, rfl, by omega, ok⟩
  case no =>
    -- a drawn one
    refine wss_cons (ws_set 5 w5_f_L_four (we_ix ix_seq (we_lst (wa_cons (we_bin op_addU (we_int (we_bin op_modN (we_bin op_fdivA (we_var 1 r1_f_L_four rfl (we_int (opw_of (opv_div_i (by decide) (by decide)) (we_int (opw_of (opv_mod_i (by decide)) (opw_of opv_add_i ?_))))))))))))))
    refine wa_cons (we_bin op_addU (we_int (we_bin op_modN (we_bin op_fdivA (we_var 1 r1_f_L_four rfl (we_int (opw_of (opv_div_i (by decide) (by decide)) (we_int (opw_of (opv_mod_i (by decide)) (opw_of opv_add_i ?_))))))))))
    refine wa_cons (we_bin op_addU (we_int (we_bin op_modN (we_bin op_fdivA (we_var 1 r1_f_L_four rfl (we_int (opw_of (opv_div_i (by decide) (by decide)) (we_int (opw_of (opv_mod_i (by decide)) (opw_of opv_add_i ?_))))))))))
    refine wa_cons (we_int (wa_cons (we_int (wa_nil ⟨by show 5 ≤ 100000; decide, we_bin op_modN (we_bin op_fdivA (we_var 1 r1_f_L_four rfl (we_int (opw_of (opv_div_i (by decide) (by decide)) (we_int (opw_of (opv_mod_i (by decide)) ?_))))))⟩))))
    refine opw_pickI (fun b => 1 ≤ b ∧ b ≤ 32) (by omega) (by show x / 400 % 5 < 5; omega) (.cons (by omega) (.cons (by omega) (.cons (by omega) (.cons (by omega) (.cons (by omega) .nil))))) fun v hv => ?_
    obtain ⟨v1, v2⟩ := hv
    refine wss_cons (ws_set 6 w6_f_L_four (we_call Pt hr2 g__law_part_f_L_four pass0 (wa_cons (we_var 0 r0_f_L_four rfl (wa_nil (ck_L_part Sub.rfl .here (by omega) fun s s0 s1 sz => ?_))))))
    refine wss_cons (ws_set 7 w7_f_L_four (we_call Pt hr2 g__law_part_f_L_four pass0 (wa_cons (we_var 0 r0_f_L_four rfl (wa_nil (ck_L_part Sub.rfl .here (by omega) fun r r0 r1 rz => ?_))))))
    have bv : Bd 6 v := by
      show v.natAbs < 2 ^ 6
      omega
    have b1 : Bd 10 (12 * v + 1) := by
      show (12 * v + 1).natAbs < 2 ^ 10
      omega
    have b2 : Bd 10 (12 * v) := by
      show (12 * v).natAbs < 2 ^ 10
      omega
    have b3 : Bd 10 (v - 1) := by
      show (v - 1).natAbs < 2 ^ 10
      omega
    refine wss_cons (ws_set 3 w3_f_L_four (we_call By hr2 g__law_by_f_L_four pass0 (wa_cons (we_call Pl hr2 g__law_plus_f_L_four pass0 (wa_cons (we_tup (wa_cons (we_bin op_addU (we_bin op_mulU (we_int (we_var 5 r5_f_L_four rfl (opw_of (by walk_at "mul") (we_int (opw_of opv_add_i (wa_cons (we_int (wa_nil ⟨by show 2 ≤ 100000; decide, ?_⟩)))))))))))))))) )
    refine wa_cons (we_call By hr2 g__law_by_f_L_four pass0 (wa_cons (we_var 6 r6_f_L_four rfl (wa_cons (we_tup (wa_cons (we_bin op_sub (we_var 5 r5_f_L_four rfl (we_int (opw_of opv_sub_i (wa_cons (we_int (wa_nil ⟨by show 2 ≤ 100000; decide, wa_nil (ck_L_by (pq_f sz) (pq_i b3 (by decide)) (wa_nil ?_))⟩)))))))))))))
    refine ck_L_plus (pq_i b1 (by decide)) (pq_f (sz_mul sz (sz_int b3 (by decide)))) (wa_cons (we_tup (wa_cons (we_int (wa_cons (we_int (wa_nil ⟨by show 2 ≤ 100000; decide, wa_nil ?_⟩)))))))
    refine ck_L_by (pq_f (sz_add (sz_int b1 (by decide)) (sz_mul sz (sz_int b3 (by decide))))) (pq_p (n := 70) (bd_lit (by decide)) (bd_lit (by decide)) (by decide)) ?_
    refine wss_one (ws_set 4 w4_f_L_four (we_call Pl hr2 g__law_plus_f_L_four pass0 (wa_cons (we_tup (wa_cons (we_bin op_mulU (we_int (we_var 5 r5_f_L_four rfl (opw_of (by walk_at "mul") (wa_cons (we_int (wa_nil ⟨by show 2 ≤ 100000; decide, ?_⟩))))))))))))
    refine wa_cons (we_call By hr2 g__law_by_f_L_four pass0 (wa_cons (we_call By hr2 g__law_by_f_L_four pass0 (wa_cons (we_var 7 r7_f_L_four rfl (wa_cons (we_var 6 r6_f_L_four rfl (wa_nil (ck_L_by (pq_f rz) (pq_f sz) ?_)))))))))
    refine wa_cons (we_tup (wa_cons (we_bin op_sub (we_var 5 r5_f_L_four rfl (we_int (opw_of opv_sub_i (wa_cons (we_int (wa_nil ⟨by show 2 ≤ 100000; decide, wa_nil ?_⟩)))))))))
    refine ck_L_by (pq_f (sz_mul rz sz)) (pq_i b3 (by decide)) (wa_nil (ck_L_plus (pq_i b2 (by decide)) (pq_f (sz_mul (sz_mul rz sz) (sz_int b3 (by decide)))) ?_))
    refine ⟨_, _, _, none, _, _, _, _, rfl, rfl, by omega, ⟨?_, ?_, ?_⟩⟩
    · exact (sz_mul (sz_add (sz_int b1 (by decide)) (sz_mul sz (sz_int b3 (by decide)))) ((sz_rt (n := 4) (m := 4) (a := 1) (b := 13) (show (1 : Int).natAbs < 2 ^ 4 by decide) (show (13 : Int).natAbs < 2 ^ 4 by decide) (by decide)))).mono (by decide)
    · exact (sz_add (sz_int b2 (by decide)) (sz_mul (sz_mul rz sz) (sz_int b3 (by decide)))).mono (by decide)
    · have e1 : ((12 * v + 1 : Int) : Rat) = 12 * (v : Rat) + 1 := by push_cast; rfl
      have e2 : ((12 * v : Int) : Rat) = 12 * (v : Rat) := by push_cast; rfl
      have e3 : ((v - 1 : Int) : Rat) = (v : Rat) - 1 := by push_cast; rfl
      rw [e1, e2, e3]
      exact fault_drawn rfl (by exact_mod_cast v1) s0 s1 r0 r1
  case rest =>
    rintro Γ M ⟨m, y, o1, o2, o5, o6, o7, n', rfl, rfl, hn, ok⟩
    refine wss_one (ws_ret (we_tup (wa_cons (we_var 3 r3_f_L_four rfl (wa_cons (we_var 4 r4_f_L_four rfl (wa_cons (we_call Mo hr g__law_moment_f_L_four pass0 (wa_cons (we_var 0 r0_f_L_four rfl (wa_nil (ck_L_moment Sub.rfl .here (by omega) fun u uz => ?_))))))))))) )
    refine wa_cons (we_call Mo hr g__law_moment_f_L_four pass0 (wa_cons (we_var 0 r0_f_L_four rfl (wa_nil (ck_L_moment Sub.rfl .here (by omega) fun v vz => ?_)))))
    exact wa_nil ⟨by show 4 ≤ 100000; decide, ⟨m, y, u, v⟩, [], ⟨⟨ok.zm.mono (by decide), ok.zy.mono (by decide), uz.mono (by decide), vz.mono (by decide), ok.ft⟩, ⟨ok.zm, ok.zy, uz, vz⟩⟩, Sub.rfl, .cons .here (odr_mono (by omega)) .nil⟩
end
end MM

namespace MM
open PySem L2 PyProof.Rows
/-! ### slices of lists -/
def tWO (X : Cx) : Option Expr → TO
  | none => tNoPart
  | some e => tPart (tW X e)
theorem po_w {X : Cx} : ∀ {o : Option Expr}, PO X o (tWO X o)
  | none => po_none
  | some _ => po_some pe_w
def WO (X : Cx) (E : En) (Γ : Gm) (M : Ow) (o : Option Expr) (Φ : Option Int → Ow → Prop) : Prop :=
  ∀ σ G H, At E Γ M σ G H → ∀ Q : Option Int → Hp → Prop, (∀ k M' G' H', Φ k M' → Same G G' → At E Γ M' σ G' H' → Q k H') → tWO X o σ H Q
def cutL {α : Type} (l : List α) (lo hi : Option Int) : List α := (l.drop (HT.sIx l.length 0 lo)).take (HT.sIx l.length l.length hi - HT.sIx l.length 0 lo)
theorem cutL_map {α β : Type} {f : α → β} {l : List α} {lo hi : Option Int} : cutL (l.map f) lo hi = (cutL l lo hi).map f := by
  unfold cutL
  rw [List.length_map, List.map_take, List.map_drop]
theorem cutL_len {α : Type} {l : List α} {lo hi : Option Int} : (cutL l lo hi).length ≤ l.length := by
  unfold cutL
  rw [List.length_take, List.length_drop]
  omega
theorem reps_drop {G : Hp} : ∀ {ρs : List Rep} {vs : List V} (n : Nat), Reps ρs vs G → Reps (ρs.drop n) (vs.drop n) G
  | _, _, 0, h => h
  | [], [], _ + 1, h => h
  | _ :: _, _ :: _, n + 1, h => reps_drop n h.2
  | [], _ :: _, _ + 1, h => h.elim
  | _ :: _, [], _ + 1, h => h.elim
theorem reps_take {G : Hp} : ∀ {ρs : List Rep} {vs : List V} (n : Nat), Reps ρs vs G → Reps (ρs.take n) (vs.take n) G
  | _, _, 0, h => trivial
  | [], [], _ + 1, h => h
  | _ :: _, _ :: _, n + 1, h => ⟨h.1, reps_take n h.2⟩
  | [], _ :: _, _ + 1, h => h.elim
  | _ :: _, [], _ + 1, h => h.elim
theorem reps_cut {G : Hp} {ρs : List Rep} {vs : List V} (r : Reps ρs vs G) (lo hi : Option Int) : Reps (cutL ρs lo hi) (cutV vs lo hi) G := by
  unfold cutL cutV
  rw [r.length]
  exact reps_take _ (reps_drop _ r)
section
variable {X : Cx} {E : En} {Γ : Gm} {M : Ow} {a e : Expr} {pos p2 : Pos} {Φ : Rep → Ow → Prop} {lo hi : Option Expr}
theorem wo_none {Φ : Option Int → Ow → Prop} (k : Φ none M) : WO X E Γ M none Φ := fun σ G H a Q q => q none M G H k (Same.refl _) a
theorem wo_some {Φ : Option Int → Ow → Prop} (h : WE X E Γ M e fun ρ M' => ∃ i, Sub ρ (RI i) ∧ Φ (some i) M') : WO X E Γ M (some e) Φ := fun σ G H a Q q =>
  h σ G H a _ fun ρ M' v G' H' ⟨i, sb, hk⟩ s' a' r' => ⟨i, sb _ _ r', q (some i) M' G' H' hk s' a'⟩
theorem we_slL (h : WE X E Γ M a fun ρ M1 => ∃ ρs, Sub ρ (RL X.K ρs) ∧ WO X E Γ M1 lo fun l M2 => WO X E Γ M2 hi fun u M3 => Φ (RLt (cutL ρs l u)) M3) : WE X E Γ M (.Subscript a (.Slice lo hi none p2) pos) Φ :=
  we_of (pe_slice sl_list pe_w po_w po_w) fun σ G H at' Q q => h σ G H at' _ fun ρ M1 x G1 H1 ⟨ρs, sb, h1⟩ s1 a1 r1 => h1 σ G1 H1 a1 _ fun l M2 G2 H2 h2 s2 a2 => h2 σ G2 H2 a2 _ fun u M3 G3 H3 hk s3 a3 => by
    obtain ⟨b, vs, e, hq, rr⟩ := sb _ _ (ρ.mono _ _ _ (s2.trans s3) r1)
    refine ⟨b, vs, e, Same.seq a3.gh hq, fun p hp => ?_⟩
    have n : New G3 H3 (upd G3 p (.lst (cutV vs l u))) (upd H3 p (.lst (cutV vs l u))) := New.put a3.gh hp
    exact q _ M3 _ _ _ hk ((s1.trans (s2.trans s3)).trans n.gg) (a3.new n) ⟨p, _, rfl, upd_same, (reps_cut rr l u).mono n.gg⟩
end
/-! ### a law's own promise -/
def con_law (K : PySem.W.Frag) : Con := { I := List Int, B := Unit, pre := fun ns => ns.length ≤ 63, args := fun ns => [RL K (ns.map RI)], own := fun _ => [], post := fun _ _ => True, res := fun _ _ => RB true, own' := fun _ _ => [] }
theorem reps_ints {G : Hp} : ∀ ns : List Int, Reps (ns.map RI) (ns.map V.int) G
  | [] => trivial
  | _ :: ns => ⟨rfl, reps_ints ns⟩
theorem law_start {K : PySem.W.Frag} {H : Hp} {a : Addr} {ns : List Int} {Q : VK} {EE : XK} (h : SqL K H a (ns.map V.int)) (hl : ns.length ≤ 63) (q : ∀ H', Q (.bl true) H') : conSp (con_law K) [.ref a] H Q EE := by
  refine ⟨H, ns, Same.refl _, hl, ⟨⟨a, _, rfl, h, reps_ints ns⟩, trivial⟩, fun _ hq => (List.not_mem_nil hq).elim, fun _ hq => (List.not_mem_nil hq).elim, List.nodup_nil, fun _ v G' H' _ _ r => ?_⟩
  have r : v = .bl true := r
  subst r
  exact q H'
/-- the turns of a law: over script[:k] + [0] -/
theorem cells_of {ns : List Int} {lo hi : Option Int} {i : Nat} {ρ : Rep} (h : (cutL (ns.map RI) lo hi ++ [RI 0])[i]? = some ρ) : ∃ n, ρ = RI n := by
  have e : cutL (ns.map RI) lo hi ++ [RI 0] = (cutL ns lo hi ++ [0]).map RI := by rw [cutL_map, List.map_append]; rfl
  rw [e, List.getElem?_map] at h
  obtain ⟨n, _, h2⟩ := Option.map_eq_some_iff.mp h
  exact ⟨n, h2.symm⟩
end MM

namespace MM
open PySem L2 PyProof.Rows
/-! ### what the top has written -/
def DefE (K : PySem.W.Frag) (x : Str) (st : Stmt) (dvs : List V) : Prop := ∃ f fd, PySem.W.nsIn K mainGlobals x = some (some (.ref f)) ∧ FdD K x x st dvs f fd
theorem defE_mk {K : PySem.W.Frag} {x : Str} {st : Stmt} {f : Addr} {oc : Value} {od an : Option Addr} {osl : Array (Option Value)} {kV doc pm cdv ct : Value} (a : PySem.W.nsIn K mainGlobals x = some (some (.ref f))) (l : K.lookup f = some ⟨oc, od, .func (PySem.W.fnOf x x (defArgs st) (defBody st) (defScope st) .none kV doc pm an cdv ct), osl⟩)
    (c : PySem.W.codeIn K cdv x = true) (k : PySem.W.keepIn K (.ref f) = true) : DefE K x st [] := ⟨f, _, a, fdD_mk l c k⟩
theorem defE_mkT {K : PySem.W.Frag} {x : Str} {st : Stmt} {dvs : List V} {f T : Addr} {oc tc : Value} {od td an : Option Addr} {osl tsl : Array (Option Value)} {kV doc pm cdv ct : Value} {its : Array Value} {n : Nat} (a : PySem.W.nsIn K mainGlobals x = some (some (.ref f))) (l : K.lookup f = some ⟨oc, od, .func (PySem.W.fnOf x x (defArgs st) (defBody st) (defScope st) (.ref T) kV doc pm an cdv ct), osl⟩)
    (c : PySem.W.codeIn K cdv x = true) (k : PySem.W.keepIn K (.ref f) = true) (lT : K.lookup T = some ⟨tc, td, .seq its n, tsl⟩) (hd : dvs ≠ []) (hv : Vals dvs its.toList) : DefE K x st dvs := ⟨f, _, a, fdD_mkT l c k lT hd hv⟩
/-- a method, or __init__, of the class at C -/
def MetE (K : PySem.W.Frag) (C : Addr) (x qual : Str) (st : Stmt) (dvs : List V) : Prop := ∃ f fd, PySem.W.findIn K (.ref C) x = some (some (.ref f)) ∧ PySem.W.isFn K (.ref f) = true ∧ FdD K x qual st dvs f fd
theorem metE_mk {K : PySem.W.Frag} {C : Addr} {x qual : Str} {st : Stmt} {f : Addr} {oc : Value} {od an : Option Addr} {osl : Array (Option Value)} {kV doc pm cdv ct : Value} (a : PySem.W.findIn K (.ref C) x = some (some (.ref f))) (i : PySem.W.isFn K (.ref f) = true) (l : K.lookup f = some ⟨oc, od, .func (PySem.W.fnOf x qual (defArgs st) (defBody st) (defScope st) .none kV doc pm an cdv ct), osl⟩)
    (c : PySem.W.codeIn K cdv qual = true) (k : PySem.W.keepIn K (.ref f) = true) : MetE K C x qual st [] := ⟨f, _, a, i, fdD_mk l c k⟩
theorem metE_mkT {K : PySem.W.Frag} {C : Addr} {x qual : Str} {st : Stmt} {dvs : List V} {f T : Addr} {oc tc : Value} {od td an : Option Addr} {osl tsl : Array (Option Value)} {kV doc pm cdv ct : Value} {its : Array Value} {n : Nat} (a : PySem.W.findIn K (.ref C) x = some (some (.ref f))) (i : PySem.W.isFn K (.ref f) = true) (l : K.lookup f = some ⟨oc, od, .func (PySem.W.fnOf x qual (defArgs st) (defBody st) (defScope st) (.ref T) kV doc pm an cdv ct), osl⟩)
    (c : PySem.W.codeIn K cdv qual = true) (k : PySem.W.keepIn K (.ref f) = true) (lT : K.lookup T = some ⟨tc, td, .seq its n, tsl⟩) (hd : dvs ≠ []) (hv : Vals dvs its.toList) : MetE K C x qual st dvs := ⟨f, _, a, i, fdD_mkT l c k lT hd hv⟩
/-- an own class -/
structure ClsE (K : PySem.W.Frag) (x : Str) (C : Addr) : Prop where
  at_ : PySem.W.nsIn K mainGlobals x = some (some (.ref C))
  pg : PySem.W.plainGet K C Str.empty = true
  hd : PySem.W.hasDictIn K C = true
  po : PySem.W.plainOver K C = true
  sa : PySem.W.findIn K (.ref C) "__setattr__" = some (some (.builtin "object.__setattr__"))
  ha : PySem.W.findIn K (.ref C) "__class__" = some (some (.builtin "object.__class__"))
  hn : PySem.W.specialIn K (.builtin "object.__class__") "__get__" = some (some (.builtin "getset_descriptor.__get__"))
  htk : PySem.W.takesIn K (.builtin "object.__class__") = some true
  hm : PySem.W.mroIn K C (.type "object") = some true
  makes : PySem.W.makesIn K C = true
  kp : PySem.W.keepIn K (.ref C) = true
theorem ClsE.ci {K : PySem.W.Frag} {x : Str} {C : Addr} (c : ClsE K x C) : ClsI K C := ⟨⟨c.pg, c.hd, c.po, c.sa⟩, c.ha, c.hn, c.htk, c.hm⟩
theorem kitInt {K : PySem.W.Frag} {C : Addr} {T : String} (h1 : PySem.W.isClsIn K C = true) (h2 : PySem.W.typeIn K (.ref C) = some (.type "type")) (h3 : PySem.W.subIn K (.type T) (.ref C) = some false) : PySem.W.kitOne K (.type T) (.ref C) = some false := by
  unfold PySem.W.kitOne
  rw [if_neg (by simp)]
  unfold PySem.W.kitCls
  have h1 : (PySem.W.clsIn K C).isSome = true := h1
  simp [h1, h2, h3]
section
variable {P : Program} {w : World} {K : PySem.W.Frag} {mg : Str → Option Value} {base h : Heap} {k : Nat} {x : Str} {st : Stmt} {f : Addr} {fd : FuncData} {ps : List Str} {c : Con}
theorem kn_of (X : K.In h) (G : h.Ns mainGlobals mg) (a : PySem.W.nsIn K mainGlobals x = some (some (.ref f))) (F : FdD K x x st [] f fd) (ok : FnOk P w K mg base CX0 k f fd ps (conSp c))
    (hb : ∀ (kV doc pm : Value) (an : Option Addr) (cdv ct : Value) (us : List Value), us.length = ps.length → bindArgs (PySem.W.fnOf x x (defArgs st) (defBody st) (defScope st) .none kV doc pm an cdv ct) ⟨us, []⟩ = pure (ps.zip us)) : Kn P w K mg base k x [] c :=
  ⟨f, fd, ps, [], PySem.W.mg_of X G a, F.kp, F.bindsN hb, .nil, ok⟩
/-- n arguments, the defaults behind the first j fill up -/
theorem knD_of {dvs : List V} (n j : Nat) (X : K.In h) (G : h.Ns mainGlobals mg) (a : PySem.W.nsIn K mainGlobals x = some (some (.ref f))) (F : FdD K x x st dvs f fd) (ok : FnOk P w K mg base CX0 k f fd ps (conSp c)) (hd : dvs ≠ []) (hn : n + (dvs.length - j) = ps.length)
    (hb : ∀ (T : Addr) (kV doc pm : Value) (an : Option Addr) (cdv ct : Value) (us its : List Value), us.length = n → its.length = dvs.length → ∃ k, bindArgs (PySem.W.fnOf x x (defArgs st) (defBody st) (defScope st) (.ref T) kV doc pm an cdv ct) ⟨us, []⟩ = seqItems? (.ref T) >>= k ∧ k (some its.toArray) = pure (ps.zip (us ++ its.drop j))) : Kn P w K mg base k x (dvs.drop j) c := by
  obtain ⟨ds, h1, h2⟩ := F.binds1 n j hd hn hb
  exact ⟨f, fd, ps, ds, PySem.W.mg_of X G a, F.kp, h2, h1, ok⟩
theorem knC_of {C : Addr} {qual : Str} {dvs : List V} (n j : Nat) (X : K.In h) (G : h.Ns mainGlobals mg) (e : ClsE K x C) (a : PySem.W.findIn K (.ref C) "__init__" = some (some (.ref f))) (i : PySem.W.isFn K (.ref f) = true) (F : FdD K "__init__" qual st dvs f fd) (ok : FnOk P w K mg base CX0 k f fd ps (conSp c)) (hd : dvs ≠ []) (hn : n + (dvs.length - j) = ps.length)
    (hb : ∀ (T : Addr) (kV doc pm : Value) (an : Option Addr) (cdv ct : Value) (us its : List Value), us.length = n → its.length = dvs.length → ∃ k, bindArgs (PySem.W.fnOf "__init__" qual (defArgs st) (defBody st) (defScope st) (.ref T) kV doc pm an cdv ct) ⟨us, []⟩ = seqItems? (.ref T) >>= k ∧ k (some its.toArray) = pure (ps.zip (us ++ its.drop j))) : KnC P w K mg base k x C (dvs.drop j) c := by
  obtain ⟨ds, h1, h2⟩ := F.binds1 n j hd hn hb
  exact ⟨f, fd, ps, ds, PySem.W.mg_of X G e.at_, ⟨e.makes, a, i, e.kp⟩, h2, h1, ok⟩
theorem knCK_of {C : Addr} {qual : Str} {dvs : List V} (n : Nat) (ks : List Str) (g : {α : Type} → List α → List α → List α → List α) (X : K.In h) (G : h.Ns mainGlobals mg) (e : ClsE K x C) (a : PySem.W.findIn K (.ref C) "__init__" = some (some (.ref f))) (i : PySem.W.isFn K (.ref f) = true) (F : FdD K "__init__" qual st dvs f fd) (ok : FnOk P w K mg base CX0 k f fd ps (conSp c)) (hd : dvs ≠ [])
    (hrel : ∀ {vs ds zs : List V} {us its ws : List Value}, Vals vs us → Vals ds its → Vals zs ws → Vals (g vs ds zs) (g us its ws))
    (hb : ∀ (T : Addr) (kV doc pm : Value) (an : Option Addr) (cdv ct : Value) (us its ws : List Value), us.length = n + 1 → its.length = dvs.length → ws.length = ks.length →
      ∃ k, bindArgs (PySem.W.fnOf "__init__" qual (defArgs st) (defBody st) (defScope st) (.ref T) kV doc pm an cdv ct) ⟨us, ks.zip ws⟩ = seqItems? (.ref T) >>= k ∧ k (some its.toArray) = pure (ps.zip (g us its ws))) : KnCK P w K mg base k x C n ks (fun vs zs => g vs dvs zs) c := by
  obtain ⟨its, h1⟩ := F.kbindsD (n + 1) ks g hd hrel hb
  exact ⟨f, fd, ps, _, PySem.W.mg_of X G e.at_, ⟨e.makes, a, i, e.kp⟩, h1, ok⟩
theorem knK_of {dvs : List V} (n : Nat) (ks : List Str) (g : {α : Type} → List α → List α → List α → List α) (X : K.In h) (G : h.Ns mainGlobals mg) (a : PySem.W.nsIn K mainGlobals x = some (some (.ref f))) (F : FdD K x x st dvs f fd) (ok : FnOk P w K mg base CX0 k f fd ps (conSp c)) (hd : dvs ≠ [])
    (hrel : ∀ {vs ds zs : List V} {us its ws : List Value}, Vals vs us → Vals ds its → Vals zs ws → Vals (g vs ds zs) (g us its ws))
    (hb : ∀ (T : Addr) (kV doc pm : Value) (an : Option Addr) (cdv ct : Value) (us its ws : List Value), us.length = n → its.length = dvs.length → ws.length = ks.length →
      ∃ k, bindArgs (PySem.W.fnOf x x (defArgs st) (defBody st) (defScope st) (.ref T) kV doc pm an cdv ct) ⟨us, ks.zip ws⟩ = seqItems? (.ref T) >>= k ∧ k (some its.toArray) = pure (ps.zip (g us its ws))) : KnK P w K mg base k x n ks (fun vs zs => g vs dvs zs) c := by
  obtain ⟨its, h1⟩ := F.kbindsD n ks g hd hrel hb
  exact ⟨f, fd, ps, _, PySem.W.mg_of X G a, F.kp, h1, ok⟩
end
/-- the law's end -/
theorem walk_law {l : PySem.W.OpenLaw} {k : Nat} {q : Program} {loose : List Str} {XP : (Str → Option Value) → Heap → Prop} {YP : World → Heap → Prop} {d : DefRec} {K : Params → PySem.W.Frag} (hn : l.most = some 63) (hdf : d.params.defaults = []) (hr : Room k callerA)
    (hY : ∀ (w : World) (h : Heap), YP w h → (K w.params).In h)
    (F : ∀ (w : World) (mg : Str → Option Value) (fa : Addr) (h : Heap), (K w.params).In h → h.Ns mainGlobals mg → mg d.name = some (.ref fa) →
      ∃ fd : FuncData, (∀ (s : Shared) (u : Value), BindsTo s fd ⟨[u], []⟩ [("_law_script", u)]) ∧ ∀ base : Heap, (K w.params).In base → base.Ns mainGlobals mg → FnOk l.prog w (K w.params) mg base CX0 k fa fd ["_law_script"] (conSp (con_law (K w.params)))) :
    PySem.W.WalkO q loose XP YP l.row.toRowW d [] (fun f vs => PySem.call f vs) := by
  refine L2.walk_of (n := 63) (k := k) (x := "_law_script") (CX := fun _ => CX0) (sp := fun w => conSp (con_law (K w.params))) hn (by decide) hdf hr hY F (fun _ _ a ns hl _ hS => ?_) fun _ _ _ _ _ z => z
  exact law_start hS hl fun _ => rfl
end MM

namespace MM
open PySem L2 PyProof.Rows
structure TopS (K : PySem.W.Frag) (CS : Addr) : Prop where
  cls : ClsE K "Share" CS
  nT : PySem.W.findIn K (.ref CS) "top" = some none
  nB : PySem.W.findIn K (.ref CS) "bottom" = some none
  tb : PySem.W.findIn K (.ref CS) "__bool__" = some none
  tl : PySem.W.findIn K (.ref CS) "__len__" = some none
  k1 : PySem.W.isClsIn K CS = true
  k2 : PySem.W.typeIn K (.ref CS) = some (.type "type")
  k3 : PySem.W.subIn K (.type "int") (.ref CS) = some false
  zA : PySem.W.nsIn K mainGlobals "abs" = some none
  zI : PySem.W.nsIn K mainGlobals "isinstance" = some none
  init : MetE K CS "__init__" "Share.__init__" s_Share_init [.int 1]
  common : DefE K "common" s_f_common []
  share_of : DefE K "share_of" s_f_share_of []
  plus : DefE K "plus" s_f_plus []
  minus : DefE K "minus" s_f_minus []
  times : DefE K "times" s_f_times []
  over : DefE K "over" s_f_over []
  before : DefE K "before" s_f_before []
  whole : DefE K "whole" s_f_whole []
  ceiling : DefE K "ceiling" s_f_ceiling []
section
variable {P : Program} {w : World} {K : PySem.W.Frag} {mg : Str → Option Value} {base h : Heap} {CS CC : Addr}
theorem shG_of (X : K.In h) (G : h.Ns mainGlobals mg) (T : TopS K CS) : ShG P w K mg base CS := by
  have hab := PySem.W.mg_none_of X G T.zA
  have TT : ShT K CS := ⟨T.cls.ci, T.nT, T.nB, T.tb, T.tl, kitInt T.k1 T.k2 T.k3⟩
  obtain ⟨f0, d0, a0, F0⟩ := T.common
  have K0 : Kn P w K mg base 1 "common" [] con_common := kn_of X G a0 F0 (ok_common F0 hab) fun _ _ _ _ _ _ us hl => match us, hl with | [_, _], _ => rfl
  obtain ⟨f1, d1, a1, i1, F1⟩ := T.init
  have M2 : KnC P w K mg base 2 "Share" CS [] (con_Share_init CS) := knC_of (ps := ["self", "top", "bottom"]) 3 1 X G T.cls a1 i1 F1 (ok_Share_init F1 TT K0) (by simp) rfl fun _ _ _ _ _ _ _ us its l1 l2 => match us, its, l1, l2 with | [_, _, _], [_], _, _ => ⟨_, rfl, rfl⟩
  have M1 : KnC P w K mg base 2 "Share" CS [.int 1] (con_Share_init CS) := knC_of (ps := ["self", "top", "bottom"]) 2 0 X G T.cls a1 i1 F1 (ok_Share_init F1 TT K0) (by simp) rfl fun _ _ _ _ _ _ _ us its l1 l2 => match us, its, l1, l2 with | [_, _], [_], _, _ => ⟨_, rfl, rfl⟩
  have SM : ShM P w K mg base CS := ⟨TT, PySem.W.mg_of X G T.cls.at_, PySem.W.mg_none_of X G T.zI, M2, M1⟩
  obtain ⟨f2, d2, a2, F2⟩ := T.share_of
  have SN : ShN P w K mg base CS := ⟨SM, kn_of X G a2 F2 (ok_share_of F2 SM) fun _ _ _ _ _ _ us hl => match us, hl with | [_], _ => rfl⟩
  obtain ⟨f3, d3, a3, F3⟩ := T.plus
  obtain ⟨f4, d4, a4, F4⟩ := T.minus
  obtain ⟨f5, d5, a5, F5⟩ := T.times
  obtain ⟨f6, d6, a6, F6⟩ := T.over
  obtain ⟨f7, d7, a7, F7⟩ := T.before
  obtain ⟨f8, d8, a8, F8⟩ := T.whole
  obtain ⟨f9, d9, a9, F9⟩ := T.ceiling
  have SF : ShF P w K mg base CS := by
    refine ⟨SN, ?_, ?_, ?_, ?_, ?_, ?_⟩
    · exact kn_of X G a3 F3 (ok_plus F3 SN) fun _ _ _ _ _ _ us hl => match us, hl with | [_, _], _ => rfl
    · exact kn_of X G a4 F4 (ok_minus F4 SN) fun _ _ _ _ _ _ us hl => match us, hl with | [_, _], _ => rfl
    · exact kn_of X G a5 F5 (ok_times F5 SN) fun _ _ _ _ _ _ us hl => match us, hl with | [_, _], _ => rfl
    · exact kn_of X G a6 F6 (ok_over F6 SN) fun _ _ _ _ _ _ us hl => match us, hl with | [_, _], _ => rfl
    · exact kn_of X G a7 F7 (ok_before F7 SN) fun _ _ _ _ _ _ us hl => match us, hl with | [_, _], _ => rfl
    · exact kn_of X G a8 F8 (ok_whole F8 SN) fun _ _ _ _ _ _ us hl => match us, hl with | [_], _ => rfl
  exact ⟨SF, kn_of X G a9 F9 (ok_ceiling F9 SF) fun _ _ _ _ _ _ us hl => match us, hl with | [_], _ => rfl⟩
end
end MM

namespace MM
open PySem L2 PyProof.Rows
/-! ### methods called with keywords -/
def tMethN (C : Addr) (m : Str) (n k : Nat) (sp : Sp) (gV : List V → List V → List V) (E : XK) (ta : TE) (t tk : TA) : TE := fun σ H Q => ta σ H fun x H1 => ∃ a dx fs, x = .ref a ∧ H1 a = some (.ins C dx fs) ∧ fs.lookup m = none ∧ t σ H1 fun vs H2 => tk σ H2 fun zs H3 => vs.length = n ∧ zs.length = k ∧ sp (gV (x :: vs) zs) H3 Q E
def tMethN0 (C : Addr) (m : Str) (k : Nat) (sp : Sp) (gV : List V → List V → List V) (E : XK) (ta : TE) (tk : TA) : TE := fun σ H Q => ta σ H fun x H1 => ∃ a dx fs, x = .ref a ∧ H1 a = some (.ins C dx fs) ∧ fs.lookup m = none ∧ tk σ H1 fun zs H3 => zs.length = k ∧ sp (gV [x] zs) H3 Q E
section
variable {X : Cx} {CX : CXT} {k n : Nat} {f C : Addr} {fd : FuncData} {ps : List Str} {sp : Sp} {EE : XK} {m : Str} {p pos apos : Pos} {e o : Expr} {es : List Expr} {kws : List Keyword} {ks : List Str} {ta : TE} {t tk : TA} {g : List Value → List Value → List Value} {gV : List V → List V → List V}
theorem pe_methN {pl : Sem Bool} (he : PE X o ta) (c : Cls X.K C) (hm : L2.Meth X.K C m f) (F : FnOk X.prog X.w X.K X.mg X.base CX k f fd ps sp) (hr : Room k X.A) (hb : KBn X.K fd ps (n + 1) ks g gV) (hx : Passes CX X EE) (ha : PA X (e :: es) t) (hkw : PK X kws tk)
    (hall : (backToKw pos (keywordEach kws X.env)).all (·.1.isSome) = true := by rfl) (hks : (backToKw pos (keywordEach kws X.env)).filterMap (·.1) = ks := by rfl)
    (hst : starEach (e :: es) X.env = (false, eval e X.env) :: starEach es X.env := by rfl) (hpl : ((backTo pos (starEach (e :: es) X.env)).any (·.1) || (backToKw pos (keywordEach kws X.env)).any (·.1.isNone)) = false := by rfl)
    (ht : eval (.Call (.Attribute o m apos) (e :: es) kws pos) X.env = (do
      let ov ← eval o X.env
      standAt apos.atName
      let (f, first) ← holding [ov] (getMethod ov m pl)
      callWith pos f first (backTo pos (starEach (e :: es) X.env)) (backToKw pos (keywordEach kws X.env))) := by rfl) :
    PE X (.Call (.Attribute o m apos) (e :: es) kws pos) (tMethN C m n ks.length sp gV EE ta t tk) := by
  refine ⟨fun pins s σ H Q I h => ?_⟩
  refine PySem.W.methodCall_KW (pl := pl) (thn (he.run pins s σ H _ I h) fun u s1 ⟨x, H1, I1, rx, a, dx, fs, ex, ea, l, q⟩ => ?_) ht
  subst ex
  obtain rfl : u = Value.ref a := rx
  refine getmeth_ok I1 ea c hm l ?_
  refine PySem.W.callWith_KW (first := [.ref a]) (h₀ := X.base) I.ok.mod.kin hm.kp hall (thn (ha.run pos pins s1 σ H1 _ I1 q) fun us s2 ⟨vs, H2, I2, r, q2⟩ => ?_) hpl hst
  refine thn (hkw.run pos pins s2 σ H2 _ I2 q2) fun ws s3 ⟨zs, H3, I3, rz, l1, l2, q3⟩ => ⟨I3.kIn, ?_⟩
  rw [hks]
  exact run_fnN (us := .ref a :: us) (vs := .ref a :: vs) F hr hb hx I3 (.cons rfl r) rz (by simp [l1]) l2 q3
theorem pe_methN0 {pl : Sem Bool} (he : PE X o ta) (c : Cls X.K C) (hm : L2.Meth X.K C m f) (F : FnOk X.prog X.w X.K X.mg X.base CX k f fd ps sp) (hr : Room k X.A) (hb : KBn X.K fd ps 1 ks g gV) (hx : Passes CX X EE) (hkw : PK X kws tk)
    (hall : (backToKw pos (keywordEach kws X.env)).all (·.1.isSome) = true := by rfl) (hks : (backToKw pos (keywordEach kws X.env)).filterMap (·.1) = ks := by rfl)
    (hpl : ((backTo pos (starEach [] X.env)).any (·.1) || (backToKw pos (keywordEach kws X.env)).any (·.1.isNone)) = false := by rfl)
    (ht : eval (.Call (.Attribute o m apos) [] kws pos) X.env = (do
      let ov ← eval o X.env
      standAt apos.atName
      let (f, first) ← holding [ov] (getMethod ov m pl)
      callWith pos f first (backTo pos (starEach [] X.env)) (backToKw pos (keywordEach kws X.env))) := by rfl) :
    PE X (.Call (.Attribute o m apos) [] kws pos) (tMethN0 C m ks.length sp gV EE ta tk) := by
  refine ⟨fun pins s σ H Q I h => ?_⟩
  refine PySem.W.methodCall_KW (pl := pl) (thn (he.run pins s σ H _ I h) fun u s1 ⟨x, H1, I1, rx, a, dx, fs, ex, ea, l, q⟩ => ?_) ht
  subst ex
  obtain rfl : u = Value.ref a := rx
  refine getmeth_ok I1 ea c hm l ?_
  refine PySem.W.callWith_KW0 (first := [.ref a]) (h₀ := X.base) I.ok.mod.kin hm.kp hall ?_ hpl
  refine thn (hkw.run pos pins s1 σ H1 _ I1 q) fun ws s3 ⟨zs, H3, I3, rz, l2, q3⟩ => ⟨I3.kIn, ?_⟩
  rw [hks]
  exact run_fnN (us := [.ref a]) (vs := [.ref a]) F hr hb hx I3 (.cons rfl .nil) rz rfl l2 q3
end
section
variable {X : Cx} {E : En} {Γ : Gm} {M : Ow} {a b e o : Expr} {es : List Expr} {kws : List Keyword} {ks : List Str} {pos p apos : Pos} {Φ : Rep → Ow → Prop} {k n : Nat} {m : Str} {C : Addr} {c : Con} {gV : List V → List V → List V} {gR : List Rep → List Rep → List Rep}
theorem we_methN {pl : Sem Bool} (F : KnMK X.prog X.w X.K X.mg X.base k C m n ks gV c) (gr : GvR gV gR (n + 1) ks.length) (hr : Room k X.A) (hx : Passes CX0 X E0)
    (h : WE X E Γ M o fun ρ M1 => HasI ρ C m ∧ WA X E Γ M1 (e :: es) fun ρs M2 => ρs.length = n ∧ WK X E Γ M2 kws fun ρz M3 => ρz.length = ks.length ∧ CallK c (gR (ρ :: ρs) ρz) M3 Φ)
    (hall : (backToKw pos (keywordEach kws X.env)).all (·.1.isSome) = true := by rfl) (hks : (backToKw pos (keywordEach kws X.env)).filterMap (·.1) = ks := by rfl)
    (hst : starEach (e :: es) X.env = (false, eval e X.env) :: starEach es X.env := by rfl) (hpl : ((backTo pos (starEach (e :: es) X.env)).any (·.1) || (backToKw pos (keywordEach kws X.env)).any (·.1.isNone)) = false := by rfl)
    (ht : eval (.Call (.Attribute o m apos) (e :: es) kws pos) X.env = (do
      let ov ← eval o X.env
      standAt apos.atName
      let (f, first) ← holding [ov] (getMethod ov m pl)
      callWith pos f first (backTo pos (starEach (e :: es) X.env)) (backToKw pos (keywordEach kws X.env))) := by rfl) :
    WE X E Γ M (.Call (.Attribute o m apos) (e :: es) kws pos) Φ := by
  obtain ⟨f, fd, ps, g, hm, hc, hb, F⟩ := F
  refine we_of (pe_methN pe_w hc hm F hr hb hx pa_w pk_w hall hks hst hpl ht) fun σ G H a Q q => ?_
  exact h σ G H a _ fun ρ M1 v G1 H1 ⟨hi, h1⟩ s1 a1 r1 => by
    obtain ⟨b, dx, fs, e1, e2, e3⟩ := hi v G1 r1
    refine ⟨b, dx, fs, e1, a1.gh _ _ e2, e3, h1 σ G1 H1 a1 _ fun ρs M' vs G2 H2 ⟨l1, h2⟩ s2 a2 r2 => ?_⟩
    refine h2 σ G2 H2 a2 _ fun ρz M3 zs G3 H3 ⟨l2, hh⟩ s3 a3 r3 => ⟨by rw [← r2.length]; exact l1, by rw [← r3.length]; exact l2, ?_⟩
    exact callK_run hh a3 (gr.run (by simp [l1]) l2 ⟨ρ.mono _ _ _ (s2.trans s3) r1, r2.mono s3⟩ r3) fun ρ' M4 w G4 H4 h4 s4 => q ρ' M4 w G4 H4 h4 (((s1.trans s2).trans s3).trans s4)
theorem we_methN0 {pl : Sem Bool} (F : KnMK X.prog X.w X.K X.mg X.base k C m 0 ks gV c) (gr : GvR gV gR 1 ks.length) (hr : Room k X.A) (hx : Passes CX0 X E0)
    (h : WE X E Γ M o fun ρ M1 => HasI ρ C m ∧ WK X E Γ M1 kws fun ρz M3 => ρz.length = ks.length ∧ CallK c (gR [ρ] ρz) M3 Φ)
    (hall : (backToKw pos (keywordEach kws X.env)).all (·.1.isSome) = true := by rfl) (hks : (backToKw pos (keywordEach kws X.env)).filterMap (·.1) = ks := by rfl)
    (hpl : ((backTo pos (starEach [] X.env)).any (·.1) || (backToKw pos (keywordEach kws X.env)).any (·.1.isNone)) = false := by rfl)
    (ht : eval (.Call (.Attribute o m apos) [] kws pos) X.env = (do
      let ov ← eval o X.env
      standAt apos.atName
      let (f, first) ← holding [ov] (getMethod ov m pl)
      callWith pos f first (backTo pos (starEach [] X.env)) (backToKw pos (keywordEach kws X.env))) := by rfl) :
    WE X E Γ M (.Call (.Attribute o m apos) [] kws pos) Φ := by
  obtain ⟨f, fd, ps, g, hm, hc, hb, F⟩ := F
  refine we_of (pe_methN0 pe_w hc hm F hr hb hx pk_w hall hks hpl ht) fun σ G H a Q q => ?_
  exact h σ G H a _ fun ρ M1 v G1 H1 ⟨hi, h1⟩ s1 a1 r1 => by
    obtain ⟨b, dx, fs, e1, e2, e3⟩ := hi v G1 r1
    refine ⟨b, dx, fs, e1, a1.gh _ _ e2, e3, h1 σ G1 H1 a1 _ fun ρz M3 zs G3 H3 ⟨l2, hh⟩ s3 a3 r3 => ⟨by rw [← r3.length]; exact l2, ?_⟩⟩
    exact callK_run hh a3 (gr.run rfl l2 ⟨ρ.mono _ _ _ s3 r1, trivial⟩ r3) fun ρ' M4 w G4 H4 h4 s4 => q ρ' M4 w G4 H4 h4 ((s1.trans s3).trans s4)
end
/-! ### defs without defaults, called with keywords; methods -/
section
variable {P : Program} {w : World} {K : PySem.W.Frag} {mg : Str → Option Value} {base h : Heap} {k : Nat} {x qual : Str} {st : Stmt} {f C : Addr} {fd : FuncData} {ps : List Str} {c : Con}
theorem kb0_of (n : Nat) (ks : List Str) (g : {α : Type} → List α → List α → List α) (F : FdD K x qual st [] f fd)
    (hrel : ∀ {vs zs : List V} {us ws : List Value}, Vals vs us → Vals zs ws → Vals (g vs zs) (g us ws))
    (hb : ∀ (kV doc pm : Value) (an : Option Addr) (cdv ct : Value) (us ws : List Value), us.length = n → ws.length = ks.length → bindArgs (PySem.W.fnOf x qual (defArgs st) (defBody st) (defScope st) .none kV doc pm an cdv ct) ⟨us, ks.zip ws⟩ = pure (ps.zip (g us ws))) : KBn K fd ps n ks (fun us ws => g us ws) (fun vs zs => g vs zs) := by
  obtain ⟨oc, od, dV, kV, doc, pm, an, cdv, ct, osl, rfl, lk, hcd, hD, hK⟩ := F.ex
  rcases hD with ⟨_, rfl⟩ | ⟨e, _⟩
  · exact ⟨fun s us ws _ l1 l2 => .of_eq (hb kV doc pm an cdv ct us ws l1 l2), hrel⟩
  · exact absurd rfl e
theorem knK0_of (n : Nat) (ks : List Str) (g : {α : Type} → List α → List α → List α) (X : K.In h) (G : h.Ns mainGlobals mg) (a : PySem.W.nsIn K mainGlobals x = some (some (.ref f))) (F : FdD K x x st [] f fd) (ok : FnOk P w K mg base CX0 k f fd ps (conSp c))
    (hrel : ∀ {vs zs : List V} {us ws : List Value}, Vals vs us → Vals zs ws → Vals (g vs zs) (g us ws))
    (hb : ∀ (kV doc pm : Value) (an : Option Addr) (cdv ct : Value) (us ws : List Value), us.length = n → ws.length = ks.length → bindArgs (PySem.W.fnOf x x (defArgs st) (defBody st) (defScope st) .none kV doc pm an cdv ct) ⟨us, ks.zip ws⟩ = pure (ps.zip (g us ws))) : KnK P w K mg base k x n ks (fun vs zs => g vs zs) c :=
  ⟨f, fd, ps, _, PySem.W.mg_of X G a, F.kp, kb0_of n ks g F hrel hb, ok⟩
theorem knM_of (cl : Cls K C) (a : PySem.W.findIn K (.ref C) x = some (some (.ref f))) (i : PySem.W.isFn K (.ref f) = true) (F : FdD K x qual st [] f fd) (ok : FnOk P w K mg base CX0 k f fd ps (conSp c))
    (hb : ∀ (kV doc pm : Value) (an : Option Addr) (cdv ct : Value) (us : List Value), us.length = ps.length → bindArgs (PySem.W.fnOf x qual (defArgs st) (defBody st) (defScope st) .none kV doc pm an cdv ct) ⟨us, []⟩ = pure (ps.zip us)) : KnM P w K mg base k C x [] c :=
  ⟨f, fd, ps, [], ⟨a, i, F.kp⟩, cl, F.bindsN hb, .nil, ok⟩
theorem knMK0_of (n : Nat) (ks : List Str) (g : {α : Type} → List α → List α → List α) (cl : Cls K C) (a : PySem.W.findIn K (.ref C) x = some (some (.ref f))) (i : PySem.W.isFn K (.ref f) = true) (F : FdD K x qual st [] f fd) (ok : FnOk P w K mg base CX0 k f fd ps (conSp c))
    (hrel : ∀ {vs zs : List V} {us ws : List Value}, Vals vs us → Vals zs ws → Vals (g vs zs) (g us ws))
    (hb : ∀ (kV doc pm : Value) (an : Option Addr) (cdv ct : Value) (us ws : List Value), us.length = n + 1 → ws.length = ks.length → bindArgs (PySem.W.fnOf x qual (defArgs st) (defBody st) (defScope st) .none kV doc pm an cdv ct) ⟨us, ks.zip ws⟩ = pure (ps.zip (g us ws))) : KnMK P w K mg base k C x n ks (fun vs zs => g vs zs) c :=
  ⟨f, fd, ps, _, ⟨a, i, F.kp⟩, cl, kb0_of (n + 1) ks g F hrel hb, ok⟩
end
/-! ### values put in the parameters' order -/
def permL {α : Type} (idx : List Nat) (l : List α) : List α := idx.filterMap fun i => l[i]?
theorem vals_perm {vs : List V} {us : List Value} (h : Vals vs us) : ∀ idx : List Nat, Vals (permL idx vs) (permL idx us)
  | [] => .nil
  | i :: idx => by
    have ih := vals_perm h idx
    unfold permL at ih ⊢
    cases e : vs[i]? with
    | none =>
      have e2 := h.none_of e
      rw [List.filterMap_cons_none e, List.filterMap_cons_none e2]
      exact ih
    | some v =>
      obtain ⟨u, e2, r⟩ := h.get e
      rw [List.filterMap_cons_some e, List.filterMap_cons_some e2]
      exact .cons r ih
theorem reps_perm {ρs : List Rep} {vs : List V} {G : Hp} (h : Reps ρs vs G) : ∀ idx : List Nat, Reps (permL idx ρs) (permL idx vs) G
  | [] => trivial
  | i :: idx => by
    have ih := reps_perm h idx
    unfold permL at ih ⊢
    cases e : ρs[i]? with
    | none =>
      have e2 : vs[i]? = none := by
        rw [List.getElem?_eq_none_iff] at e ⊢
        rw [← h.length]
        exact e
      rw [List.filterMap_cons_none e, List.filterMap_cons_none e2]
      exact ih
    | some ρ =>
      obtain ⟨v, e2, r⟩ := h.get e
      rw [List.filterMap_cons_some e, List.filterMap_cons_some e2]
      exact ⟨r, ih⟩
def gvP (idx : List Nat) {α : Type} (a z : List α) : List α := permL idx (a ++ z)
theorem gr_P (idx : List Nat) {n m : Nat} : GvR (gvP idx) (gvP idx) n m := ⟨fun _ _ r1 r2 => reps_perm (r1.app r2) idx⟩
theorem rel_P (idx : List Nat) {vs zs : List V} {us ws : List Value} (r1 : Vals vs us) (r2 : Vals zs ws) : Vals (gvP idx vs zs) (gvP idx us ws) := vals_perm (Vals.append r1 r2) idx
end MM

namespace MM
open PySem L2 PyProof.Rows
structure TopC (K : PySem.W.Frag) (CC : Addr) : Prop where
  cls : ClsE K "Calendar" CC
  n1 : PySem.W.findIn K (.ref CC) "month" = some none
  n2 : PySem.W.findIn K (.ref CC) "year" = some none
  n3 : PySem.W.findIn K (.ref CC) "moon" = some none
  n4 : PySem.W.findIn K (.ref CC) "mark" = some none
  n5 : PySem.W.findIn K (.ref CC) "twelfth" = some none
  init : MetE K CC "__init__" "Calendar.__init__" s_Calendar_init [.non, .non]
  fault : DefE K "fault" s_f_fault []
section
variable {P : Program} {w : World} {K : PySem.W.Frag} {mg : Str → Option Value} {base h : Heap} {CS CC : Addr}
theorem calM_of (X : K.In h) (G : h.Ns mainGlobals mg) (S : ShG P w K mg base CS) (T : TopC K CC) : CalM P w K mg base CC CS := by
  have TT : CalT K CC := ⟨T.cls.ci, T.n1, T.n2, T.n3, T.n4, T.n5⟩
  obtain ⟨f0, d0, a0, F0⟩ := T.fault
  exact ⟨S, TT, kn_of X G a0 F0 (ok_fault F0 S) fun _ _ _ _ _ _ us hl => match us, hl with | [_, _], _ => rfl⟩
theorem cal4_of (X : K.In h) (G : h.Ns mainGlobals mg) (SM : CalM P w K mg base CC CS) (T : TopC K CC) : KnC P w K mg base 8 "Calendar" CC [] (con_Cal_init CC CS) := by
  obtain ⟨f1, d1, a1, i1, F1⟩ := T.init
  exact knC_of (ps := ["self", "month", "year", "moon", "mark"]) 5 2 X G T.cls a1 i1 F1 (ok_Cal_init F1 SM) (by simp) rfl fun _ _ _ _ _ _ _ us its l1 l2 => match us, its, l1, l2 with | [_, _, _, _, _], [_, _], _, _ => ⟨_, rfl, rfl⟩
/-- n places, and keywords ks -/
theorem calP_of (n : Nat) (ks : List Str) (idx : List Nat) (X : K.In h) (G : h.Ns mainGlobals mg) (SM : CalM P w K mg base CC CS) (T : TopC K CC)
    (hb : ∀ (T : Addr) (kV doc pm : Value) (an : Option Addr) (cdv ct : Value) (us its ws : List Value), us.length = n + 1 → its.length = 2 → ws.length = ks.length →
      ∃ k, bindArgs (PySem.W.fnOf "__init__" "Calendar.__init__" (defArgs s_Calendar_init) (defBody s_Calendar_init) (defScope s_Calendar_init) (.ref T) kV doc pm an cdv ct) ⟨us, ks.zip ws⟩ = seqItems? (.ref T) >>= k ∧ k (some its.toArray) = pure ((["self", "month", "year", "moon", "mark"] : List Str).zip (gvP idx us ws))) : KnCK P w K mg base 8 "Calendar" CC n ks (gvP idx) (con_Cal_init CC CS) := by
  obtain ⟨f1, d1, a1, i1, F1⟩ := T.init
  exact knCK_of (ps := ["self", "month", "year", "moon", "mark"]) n ks (fun a _ z => gvP idx a z) X G T.cls a1 i1 F1 (ok_Cal_init F1 SM) (by simp) (fun r1 _ r2 => rel_P idx r1 r2) hb
end
end MM

namespace MM
open PySem L2 PyProof.Rows
section
variable {P : Program} {w : World} {K : PySem.W.Frag} {mg : Str → Option Value} {base : Heap}
theorem ok_L_part {f : Addr} {fd : FuncData} (F : FdD K "_law_part" "_law_part" s_f_L_part [] f fd) (L : Kn P w K mg base 1 "_law_low" [] con_L_low) (Nx : Kn P w K mg base 1 "_law_next" [] con_L_next) : FnOk P w K mg base CX0 2 f fd ["_law_draws_here"] (conSp con_L_part) := by
  refine fn_conD con_L_part F sc_f_L_part (fun _ => rfl) fun cd A outer s H EE G i hp hr hE => ?_
  obtain ⟨p, n⟩ := i
  have hp : n ≤ 100000000 := hp
  refine wss_cons (ws_set 1 w1_f_L_part (we_call Nx hr g__law_next_f_L_part pass0 (wa_cons (we_var 0 r0_f_L_part rfl (wa_nil (ck_L_next Sub.rfl .here (by omega) fun x hx => ?_))))))
  obtain ⟨x0, x1⟩ := hx
  -- bottom
  refine wss_cons (ws_set 2 w2_f_L_part (we_ix ix_seq (we_lst (wa_cons (we_bin op_addU (we_int (we_bin op_modN (we_bin op_fdivA (we_var 1 r1_f_L_part rfl (we_int (opw_of (opv_div_i (by decide) (by decide)) (we_int (opw_of (opv_mod_i (by decide)) (opw_of opv_add_i ?_))))))))))))) )
  refine wa_cons (we_bin op_addU (we_int (we_bin op_modN (we_bin op_fdivA (we_var 1 r1_f_L_part rfl (we_int (opw_of (opv_div_i (by decide) (by decide)) (we_int (opw_of (opv_mod_i (by decide)) (opw_of opv_add_i ?_))))))))))
  refine wa_cons (we_bin op_addU (we_int (we_bin op_modN (we_bin op_fdivA (we_var 1 r1_f_L_part rfl (we_int (opw_of (opv_div_i (by decide) (by decide)) (we_int (opw_of (opv_mod_i (by decide)) (opw_of opv_add_i ?_))))))))))
  refine wa_cons (we_bin op_addU (we_bin op_pow (we_int (we_int (opw_of (opv_powL (v := 100000) (by decide) (by decide) (by decide) (by decide)) (we_bin op_modN (we_bin op_fdivA (we_var 1 r1_f_L_part rfl (we_int (opw_of (opv_div_i (by decide) (by decide)) (we_bin op_pow (we_int (we_int (opw_of (opv_powL (v := 100000) (by decide) (by decide) (by decide) (by decide)) (opw_of (opv_mod_i (by decide)) (opw_of opv_add_i ?_))))))))))))))))
  refine wa_nil ⟨by show 4 ≤ 100000; decide, we_bin op_modN (we_var 1 r1_f_L_part rfl (we_int (opw_of (opv_mod_i (by decide)) ?_)))⟩
  refine opw_pickI (fun b => 1 ≤ b ∧ b ≤ 200000) (by omega) (by show x % 4 < 4; omega) (.cons (by omega) (.cons (by omega) (.cons (by omega) (.cons (by omega) .nil)))) fun b hb => ?_
  refine wss_one (ws_ret (we_call L hr g__law_low_f_L_part pass0 (wa_cons (we_bin op_modN (we_call Nx hr g__law_next_f_L_part pass0 (wa_cons (we_var 0 r0_f_L_part rfl (wa_nil (ck_L_next Sub.rfl .here (by omega) fun y hy => ?_)))))))))
  refine we_bin op_addU (we_var 2 r2_f_L_part rfl (we_int (opw_of opv_add_i (opw_of (opv_mod_i (by omega)) (wa_cons (we_var 2 r2_f_L_part rfl (wa_nil ?_)))))))
  obtain ⟨b1, b2⟩ := hb
  have m0 := Int.emod_nonneg y (show b + 1 ≠ 0 by omega)
  have m1 := Int.emod_lt_of_pos y (show 0 < b + 1 by omega)
  have zb : Bd 20 b := by
    show b.natAbs < 2 ^ 20
    omega
  have zm : Bd 20 (y % (b + 1)) := by
    show (y % (b + 1)).natAbs < 2 ^ 20
    omega
  refine ck_L_low Sub.rfl Sub.rfl (by omega) (zm.mono (by decide)) (zb.mono (by decide)) ⟨rt (y % (b + 1)) b, [], ⟨rt_nonneg m0 (by omega), rt_le_one (by omega) (by omega), (sz_rt zm zb (by omega))⟩, Sub.rfl, .cons .here OSub.rfl .nil⟩
end
end MM

namespace MM
open PySem L2 PyProof.Rows
structure TopB (K : PySem.W.Frag) : Prop where
  zR : PySem.W.nsIn K mainGlobals "range" = some none
  draws : DefE K "_law_draws" s_f_L_draws []
  next : DefE K "_law_next" s_f_L_next []
  low : DefE K "_law_low" s_f_L_low []
  plus : DefE K "_law_plus" s_f_L_plus []
  by_ : DefE K "_law_by" s_f_L_by []
  part : DefE K "_law_part" s_f_L_part []
  moment : DefE K "_law_moment" s_f_L_moment []
  four : DefE K "_law_four" s_f_L_four []
structure LawB (P : Program) (w : World) (K : PySem.W.Frag) (mg : Str → Option Value) (base : Heap) : Prop where
  draws : Kn P w K mg base 1 "_law_draws" [] con_L_draws
  next : Kn P w K mg base 1 "_law_next" [] con_L_next
  low : Kn P w K mg base 1 "_law_low" [] con_L_low
  plus : Kn P w K mg base 2 "_law_plus" [] con_L_plus
  by_ : Kn P w K mg base 2 "_law_by" [] con_L_by
  part : Kn P w K mg base 2 "_law_part" [] con_L_part
  moment : Kn P w K mg base 3 "_law_moment" [] con_L_moment
  four : Kn P w K mg base 4 "_law_four" [] con_L_four
section
variable {P : Program} {w : World} {K : PySem.W.Frag} {mg : Str → Option Value} {base h : Heap} {CS CC : Addr}
theorem lawB_of (X : K.In h) (G : h.Ns mainGlobals mg) (hab : mg "abs" = none) (T : TopB K) : LawB P w K mg base := by
  obtain ⟨f0, d0, a0, F0⟩ := T.draws
  obtain ⟨f1, d1, a1, F1⟩ := T.next
  obtain ⟨f2, d2, a2, F2⟩ := T.low
  obtain ⟨f3, d3, a3, F3⟩ := T.plus
  obtain ⟨f4, d4, a4, F4⟩ := T.by_
  obtain ⟨f5, d5, a5, F5⟩ := T.part
  obtain ⟨f6, d6, a6, F6⟩ := T.moment
  obtain ⟨f7, d7, a7, F7⟩ := T.four
  have Dr : Kn P w K mg base 1 "_law_draws" [] con_L_draws := kn_of X G a0 F0 (ok_L_draws F0 (PySem.W.mg_none_of X G T.zR)) fun _ _ _ _ _ _ us hl => match us, hl with | [_], _ => rfl
  have Nx : Kn P w K mg base 1 "_law_next" [] con_L_next := kn_of X G a1 F1 (ok_L_next F1) fun _ _ _ _ _ _ us hl => match us, hl with | [_], _ => rfl
  have Lo : Kn P w K mg base 1 "_law_low" [] con_L_low := kn_of X G a2 F2 (ok_L_low F2 hab) fun _ _ _ _ _ _ us hl => match us, hl with | [_, _], _ => rfl
  have Pl : Kn P w K mg base 2 "_law_plus" [] con_L_plus := kn_of X G a3 F3 (ok_L_plus F3 Lo) fun _ _ _ _ _ _ us hl => match us, hl with | [_, _], _ => rfl
  have By : Kn P w K mg base 2 "_law_by" [] con_L_by := kn_of X G a4 F4 (ok_L_by F4 Lo) fun _ _ _ _ _ _ us hl => match us, hl with | [_, _], _ => rfl
  have Pt : Kn P w K mg base 2 "_law_part" [] con_L_part := kn_of X G a5 F5 (ok_L_part F5 Lo Nx) fun _ _ _ _ _ _ us hl => match us, hl with | [_], _ => rfl
  have Mo : Kn P w K mg base 3 "_law_moment" [] con_L_moment := kn_of X G a6 F6 (ok_L_moment F6 Pl Nx Pt) fun _ _ _ _ _ _ us hl => match us, hl with | [_], _ => rfl
  have Fo : Kn P w K mg base 4 "_law_four" [] con_L_four := kn_of X G a7 F7 (ok_L_four F7 Pl By Nx Pt Mo) fun _ _ _ _ _ _ us hl => match us, hl with | [_], _ => rfl
  exact ⟨Dr, Nx, Lo, Pl, By, Pt, Mo, Fo⟩
end
end MM

namespace MM
open PySem L2 PyProof.Rows
/-! ### a calendar's days -/
def Cal.st (c : Cal) (k : Int) : Int := (c.moon + c.month * (k : Rat)).floor
def Cal.tw (c : Cal) : Rat := c.year / 12
def Cal.md (c : Cal) (j : Int) : Int := (c.mark + c.tw * (j : Rat)).floor
def Cal.ma (c : Cal) (d : Int) : Int := ((((d + 1 : Int) : Rat) - c.moon) / c.month).ceil - 1
def Cal.mf (c : Cal) (d : Int) : Int := (((d : Rat) - c.mark) / c.tw).ceil
def Cal.mw (c : Cal) (j : Int) : Int := c.ma (c.md j)
def Cal.mi (c : Cal) (k : Int) : Option Int := if c.md (c.mf (c.st k)) < c.st (k + 1) then some (c.mf (c.st k)) else none
structure CalF (c : Cal) : Prop where
  m1 : 1 ≤ c.month
  tc : (c.month.ceil : Rat) ≤ c.tw
  tm : c.year + 1 ≤ c.month * 13
theorem calF_of {c : Cal} (h : fault c.month c.year = "") : CalF c := by
  unfold fault at h
  split at h
  · exact absurd h (by decide +kernel)
  split at h
  · exact absurd h (by decide +kernel)
  split at h
  · exact absurd h (by decide +kernel)
  refine ⟨by grind, ?_, by grind⟩
  unfold Cal.tw
  grind
theorem le_ceil (q : Rat) : q ≤ (q.ceil : Rat) := Rat.ceil_le_iff.mp (Int.le_refl _)
theorem CalF.mp {c : Cal} (h : CalF c) : 0 < c.month := by have := h.m1; grind
theorem CalF.t1 {c : Cal} (h : CalF c) : c.month ≤ c.tw := Rat.le_trans (le_ceil _) h.tc
theorem CalF.tp {c : Cal} (h : CalF c) : 0 < c.tw := by have := h.mp; have := h.t1; grind
theorem floor_le' (q : Rat) : (q.floor : Rat) ≤ q := Rat.le_floor_iff.mp (Int.le_refl _)
theorem lt_floor' (q : Rat) : q < (q.floor : Rat) + 1 := by
  have h : ¬ (q.floor + 1 ≤ q.floor) := by omega
  rw [Rat.le_floor_iff] at h
  have e : ((q.floor + 1 : Int) : Rat) = (q.floor : Rat) + 1 := by push_cast; rfl
  rw [e] at h
  grind
theorem ceil_lt' (q : Rat) : (q.ceil : Rat) < q + 1 := by
  have h : ¬ (q.ceil ≤ q.ceil - 1) := by omega
  rw [Rat.ceil_le_iff] at h
  have e : ((q.ceil - 1 : Int) : Rat) = (q.ceil : Rat) - 1 := by push_cast; rfl
  rw [e] at h
  grind
theorem div_lt_of {a b k : Rat} (hb : 0 < b) : k < a / b ↔ k * b < a := by
  rw [Rat.lt_div_iff hb]
theorem le_ceil_pred {q : Rat} {k : Int} : k ≤ q.ceil - 1 ↔ (k : Rat) < q := by
  have h := @Rat.ceil_le_iff q k
  constructor
  · intro hk
    have : ¬ q.ceil ≤ k := by omega
    rw [h] at this
    grind
  · intro hk
    have : ¬ q.ceil ≤ k := by
      rw [h]; grind
    omega
theorem floor_lt_int {q : Rat} {n : Int} : q.floor < n ↔ q < (n : Rat) := by
  have h := @Rat.le_floor_iff n q
  constructor
  · intro hk
    have : ¬ n ≤ q.floor := by omega
    rw [h] at this
    grind
  · intro hk
    have : ¬ n ≤ q.floor := by rw [h]; grind
    omega
/-- a month begins not behind a day just where it is not behind the day's month -/
theorem st_le {c : Cal} (h : CalF c) {k d : Int} : c.st k ≤ d ↔ k ≤ c.ma d := by
  have hm := h.mp
  unfold Cal.st Cal.ma
  rw [le_ceil_pred, Rat.lt_div_iff hm]
  have : (c.moon + c.month * (k : Rat)).floor ≤ d ↔ (c.moon + c.month * (k : Rat)).floor < d + 1 := by omega
  rw [this, floor_lt_int]
  constructor <;> intro hh <;> grind
theorem md_ge {c : Cal} (h : CalF c) {j d : Int} : d ≤ c.md j ↔ c.mf d ≤ j := by
  have ht := h.tp
  unfold Cal.md Cal.mf
  rw [Rat.le_floor_iff, Rat.ceil_le_iff]
  have e := Rat.lt_div_iff (a := (j : Rat)) (b := (d : Rat) - c.mark) ht
  constructor
  · intro hh
    have : ¬ (j : Rat) < ((d : Rat) - c.mark) / c.tw := by rw [e]; grind
    grind
  · intro hh
    have : ¬ (j : Rat) * c.tw < (d : Rat) - c.mark := by rw [← e]; grind
    grind
/-! ### months and marks -/
theorem tw_le {c : Cal} (h : CalF c) : c.tw * 12 + 1 ≤ c.month * 13 := by
  have := h.tm
  unfold Cal.tw
  grind
theorem mi_prev {c : Cal} (h : CalF c) {k : Int} (hn : ¬ c.md (c.mf (c.st k)) < c.st (k + 1)) : c.mi (k - 1) = some (c.mf (c.st k) - 1) := by
  have hm := h.m1
  have ht := tw_le h
  have g0 : c.st (k + 1) ≤ c.md (c.mf (c.st k)) := by omega
  have g1 : ¬ c.st k ≤ c.md (c.mf (c.st k) - 1) := by rw [md_ge h]; omega
  generalize hj : c.mf (c.st k) = j at g0 g1 ⊢
  -- in numbers
  have a1 : ((c.st (k + 1) : Int) : Rat) ≤ c.mark + c.tw * (j : Rat) := by
    have := Rat.le_trans (a := ((c.st (k + 1) : Int) : Rat)) (b := ((c.md j : Int) : Rat)) (by exact_mod_cast g0) (floor_le' _)
    exact this
  have a2 : c.mark + c.tw * ((j - 1 : Int) : Rat) < (c.st k : Rat) := by
    rw [← floor_lt_int]
    show c.md (j - 1) < c.st k
    omega
  have e1 : ((j - 1 : Int) : Rat) = (j : Rat) - 1 := by push_cast; rfl
  have e2 : ((j - 1 - 1 : Int) : Rat) = (j : Rat) - 2 := by push_cast; grind
  have e3 : ((k + 1 : Int) : Rat) = (k : Rat) + 1 := by push_cast; rfl
  have e4 : ((k - 1 : Int) : Rat) = (k : Rat) - 1 := by push_cast; rfl
  have b1 : c.moon + c.month * ((k + 1 : Int) : Rat) < (c.st (k + 1) : Rat) + 1 := lt_floor' _
  have b2 : (c.st (k - 1) : Rat) ≤ c.moon + c.month * ((k - 1 : Int) : Rat) := floor_le' _
  have b3 : (c.st k : Rat) ≤ c.moon + c.month * (k : Rat) := floor_le' _
  rw [e1] at a2
  rw [e3] at b1
  have A : c.st (k - 1) ≤ c.md (j - 1) := by
    unfold Cal.md
    rw [Rat.le_floor_iff, e1]
    rw [e4] at b2
    grind
  have B : ¬ c.st (k - 1) ≤ c.md (j - 1 - 1) := by
    have hc := le_ceil c.month
    have htc := h.tc
    have C : c.st k - c.month.ceil ≤ c.st (k - 1) := by
      show _ ≤ (c.moon + c.month * ((k - 1 : Int) : Rat)).floor
      rw [Rat.le_floor_iff, e4]
      have e5 : ((c.st k - c.month.ceil : Int) : Rat) = (c.st k : Rat) - (c.month.ceil : Rat) := by push_cast; rfl
      rw [e5]
      grind
    have D : c.md (j - 1 - 1) < c.st k - c.month.ceil := by
      unfold Cal.md
      rw [floor_lt_int, e2]
      have e5 : ((c.st k - c.month.ceil : Int) : Rat) = (c.st k : Rat) - (c.month.ceil : Rat) := by push_cast; rfl
      rw [e5]
      grind
    omega
  have E : c.mf (c.st (k - 1)) = j - 1 := by
    rw [md_ge h] at A B
    omega
  unfold Cal.mi
  rw [E]
  have F : k - 1 + 1 = k := by omega
  rw [F, if_pos (by omega)]
/-! ### the first guesses -/
theorem ediv_rt {a b : Int} (hb : 0 < b) : ((a / b : Int) : Rat) ≤ rt a b := by
  have h1 : a / b * b ≤ a := Int.ediv_mul_le a (by omega)
  have h2 : ((a / b : Int) : Rat) * (b : Rat) ≤ (a : Rat) := by exact_mod_cast h1
  have h3 : (0 : Rat) < (b : Rat) := by exact_mod_cast hb
  rw [rt, Rat.divInt_eq_div]
  have e := Rat.lt_div_iff (a := ((a / b : Int) : Rat)) (b := (a : Rat)) h3
  have e2 : (a : Rat) / (b : Rat) * (b : Rat) = (a : Rat) := Rat.div_mul_cancel (by grind)
  have : ¬ (a : Rat) / (b : Rat) < ((a / b : Int) : Rat) := by
    intro hh
    have := Rat.mul_lt_mul_of_pos_right hh h3
    grind
  grind
theorem num_pos' {q : Rat} (h : 0 < q) : 0 < q.num := by
  have h1 : 0 ≤ q.num := Rat.num_nonneg.mpr (by grind)
  have h2 := num_ne (q := q) (by grind)
  omega
theorem k0_le {c : Cal} (h : CalF c) {d : Int} {x : Rat} (hx : x = (d : Rat) - c.moon) : x.num * c.month.den / (x.den * c.month.num) ≤ c.ma d := by
  have hm := h.mp
  have hn : 0 < c.month.num := num_pos' hm
  have q := ediv_rt (a := x.num * c.month.den) (b := x.den * c.month.num) (Int.mul_pos (den_pos x) hn)
  rw [div_q] at q
  rw [← st_le h]
  generalize x.num * c.month.den / (x.den * c.month.num) = i at q ⊢
  have q2 : (i : Rat) * c.month ≤ x := by
    have e2 : x / c.month * c.month = x := Rat.div_mul_cancel (by grind)
    have := Rat.mul_le_mul_of_nonneg_right q (by grind : 0 ≤ c.month)
    grind
  show (c.moon + c.month * (i : Rat)).floor ≤ d
  have : (c.moon + c.month * (i : Rat)).floor < d + 1 := by
    rw [floor_lt_int]
    have e3 : ((d + 1 : Int) : Rat) = (d : Rat) + 1 := by push_cast; rfl
    rw [e3]
    grind
  omega
theorem j0_le {c : Cal} (h : CalF c) {d : Int} {x : Rat} (hx : x = (d : Rat) - c.mark) : x.num * 12 * c.year.den / (x.den * c.year.num) ≤ c.mf d := by
  have ht := h.tp
  have hy : 0 < c.year := by unfold Cal.tw at ht; grind
  have hn : 0 < c.year.num := num_pos' hy
  have q := ediv_rt (a := x.num * 12 * c.year.den) (b := x.den * c.year.num) (Int.mul_pos (den_pos x) hn)
  have e : rt (x.num * 12 * c.year.den) (x.den * c.year.num) = 12 * (x / c.year) := by
    rw [← div_q, rt, rt, Rat.divInt_eq_div, Rat.divInt_eq_div]
    have : ((x.num * 12 * (c.year.den : Int) : Int) : Rat) = 12 * ((x.num * (c.year.den : Int) : Int) : Rat) := by push_cast; grind
    rw [this]
    grind
  rw [e] at q
  generalize x.num * 12 * c.year.den / (x.den * c.year.num) = i at q ⊢
  have q2 : (i : Rat) * c.tw ≤ x := by
    have e2 : x / c.year * c.year = x := Rat.div_mul_cancel (by grind)
    have := Rat.mul_le_mul_of_nonneg_right q (by grind : 0 ≤ c.tw)
    unfold Cal.tw at this ⊢
    grind
  have q3 : (i : Rat) < (c.mf d : Rat) + 1 := by
    have l := le_ceil (((d : Rat) - c.mark) / c.tw)
    have e2 : ((d : Rat) - c.mark) / c.tw * c.tw = (d : Rat) - c.mark := Rat.div_mul_cancel (by grind)
    have : ¬ (c.mf d : Rat) + 1 ≤ (i : Rat) := by
      intro hh
      have l1 := Rat.mul_le_mul_of_nonneg_right hh (by grind : 0 ≤ c.tw)
      have l2 := Rat.mul_le_mul_of_nonneg_right l (by grind : 0 ≤ c.tw)
      unfold Cal.mf at l1
      grind
    grind
  have e3 : ((c.mf d + 1 : Int) : Rat) = (c.mf d : Rat) + 1 := by push_cast; rfl
  rw [← e3] at q3
  have q4 : i < c.mf d + 1 := by exact_mod_cast q3
  omega
/-! ### names of months -/
def Cal.nm (c : Cal) (k : Int) : Int × Int × Bool := match c.mi k with
  | some j => (j / 12, j % 12 + 1, false)
  | none => ((c.mf (c.st k) - 1) / 12, (c.mf (c.st k) - 1) % 12 + 1, true)
/-! ### sizes -/
theorem sz_12 : Sz 5 (12 : Rat) := by
  have : (12 : Rat) = ((12 : Int) : Rat) := rfl
  rw [this]
  exact sz_int (show (12 : Int).natAbs < 2 ^ 5 by decide) (by decide)
theorem CalOk.f {c : Cal} (h : CalOk c) : CalF c := calF_of h.ft
theorem sz_tw {c : Cal} (h : CalOk c) : Sz 205 c.tw := sz_div h.y sz_12 (by decide)
theorem bd_st {c : Cal} (h : CalOk c) {k : Int} {n : Nat} (z : Bd n k) (hn : 1 ≤ n) : Bd (n + 410) (c.st k) :=
  (bd_floor (sz_add h.o (sz_mul h.m (sz_int z hn)))).mono (by omega)
theorem bd_md {c : Cal} (h : CalOk c) {k : Int} {n : Nat} (z : Bd n k) (hn : 1 ≤ n) : Bd (n + 410) (c.md k) :=
  (bd_floor (sz_add h.k (sz_mul (sz_tw h) (sz_int z hn)))).mono (by omega)
theorem bd_add1 {n : Nat} {k : Int} (z : Bd n k) (hn : 1 ≤ n) : Bd (n + 1) (k + 1) := (bd_add z (bd_one hn)).mono (by rw [Nat.max_self]; exact Nat.le_refl _)
theorem bd_sub1 {n : Nat} {k : Int} (z : Bd n k) (hn : 1 ≤ n) : Bd (n + 1) (k - 1) := (bd_sub z (bd_one hn)).mono (by rw [Nat.max_self]; exact Nat.le_refl _)
theorem bd_ma {c : Cal} (h : CalOk c) {k : Int} {n : Nat} (z : Bd n k) (hn : 1 ≤ n) : Bd (n + 410) (c.ma k) := by
  have hm := h.f.mp
  have z2 := sz_sub (sz_int (bd_add1 z hn) (by omega)) h.o
  have z3 := bd_ceil (sz_div z2 h.m (by grind))
  exact (bd_sub1 z3 (by omega)).mono (by omega)
theorem bd_mf {c : Cal} (h : CalOk c) {k : Int} {n : Nat} (z : Bd n k) (hn : 1 ≤ n) : Bd (n + 410) (c.mf k) := by
  have ht := h.f.tp
  exact (bd_ceil (sz_div (sz_sub (sz_int z hn) h.k) (sz_tw h) (by grind))).mono (by omega)
theorem bd_between {n : Nat} {a b k : Int} (ha : Bd n a) (hb : Bd n b) (h1 : a ≤ k) (h2 : k ≤ b) : Bd n k := by
  have ha : a.natAbs < 2 ^ n := ha
  have hb : b.natAbs < 2 ^ n := hb
  show k.natAbs < 2 ^ n
  omega
def RNm (n : Int × Int × Bool) : Rep := RTt [RI n.1, RI n.2.1, RB n.2.2]
theorem nm_some {c : Cal} {k j : Int} (h : c.mi k = some j) : c.nm k = (j / 12, j % 12 + 1, false) := by
  unfold Cal.nm
  rw [h]
theorem nm_none {c : Cal} {k : Int} (h : c.mi k = none) : c.nm k = ((c.mf (c.st k) - 1) / 12, (c.mf (c.st k) - 1) % 12 + 1, true) := by
  unfold Cal.nm
  rw [h]
end MM

namespace MM
open PySem L2 PyProof.Rows
/-! ### tighter sizes -/
def pw2 (n : Nat) : Rat := (((2 ^ n : Nat) : Int) : Rat)
def Ab (n : Nat) (q : Rat) : Prop := -(pw2 n) < q ∧ q < pw2 n
theorem pw2_pos (n : Nat) : 0 < pw2 n := by
  have : (0 : Int) < ((2 ^ n : Nat) : Int) := by
    have := Nat.two_pow_pos n
    omega
  unfold pw2
  exact_mod_cast this
theorem pw2_add (n m : Nat) : pw2 (n + m) = pw2 n * pw2 m := by
  unfold pw2
  rw [Nat.pow_add]
  push_cast
  rfl
theorem pw2_max {n m : Nat} : pw2 n + pw2 m ≤ pw2 (max n m + 1) := by
  have h := @pow_max n m
  have h2 : ((2 ^ n : Nat) : Int) + ((2 ^ m : Nat) : Int) ≤ ((2 ^ (max n m + 1) : Nat) : Int) := by exact_mod_cast h
  unfold pw2
  exact_mod_cast h2
theorem pw2_mono {n m : Nat} (l : n ≤ m) : pw2 n ≤ pw2 m := by
  have h := pow2_le l
  have h2 : ((2 ^ n : Nat) : Int) ≤ ((2 ^ m : Nat) : Int) := by exact_mod_cast h
  unfold pw2
  exact_mod_cast h2
theorem Ab.mono {n m : Nat} {q : Rat} (h : Ab n q) (l : n ≤ m) : Ab m q := by
  have := pw2_mono l
  unfold Ab at *
  grind
theorem ab_sz {n : Nat} {q : Rat} (z : Sz n q) : Ab n q := by
  have e : q * (q.den : Rat) = (q.num : Rat) := by
    have h := rt_self q
    rw [rt, Rat.divInt_eq_div] at h
    have h0 : ((q.den : Int) : Rat) ≠ 0 := by
      have := den_ne q
      exact_mod_cast this
    have h2 := Rat.div_mul_cancel (a := (q.num : Rat)) h0
    rw [h] at h2
    exact h2
  have d1 : (1 : Rat) ≤ (q.den : Rat) := by
    have : 1 ≤ q.den := q.den_pos
    exact_mod_cast this
  have h1 := z.num.lo
  have h2 := z.num.hi
  have h3 : -(pw2 n) < (q.num : Rat) := by unfold pw2; exact_mod_cast h1
  have h4 : (q.num : Rat) < pw2 n := by unfold pw2; exact_mod_cast h2
  unfold Ab
  generalize pw2 n = B at h3 h4 ⊢
  constructor
  · by_cases hq : 0 ≤ q
    · have : 0 ≤ q * (q.den : Rat) := Rat.mul_nonneg hq (by grind)
      have := Rat.mul_le_mul_of_nonneg_left d1 hq
      grind
    · have := Rat.mul_le_mul_of_nonneg_left d1 (by grind : 0 ≤ -q)
      grind
  · by_cases hq : 0 ≤ q
    · have := Rat.mul_le_mul_of_nonneg_left d1 hq
      grind
    · have := Rat.mul_le_mul_of_nonneg_left d1 (by grind : 0 ≤ -q)
      grind
theorem ab_int {n : Nat} {i : Int} (h : Bd n i) : Ab n (i : Rat) := by
  have h1 := h.lo
  have h2 := h.hi
  unfold Ab pw2
  constructor
  · exact_mod_cast h1
  · exact_mod_cast h2
theorem ab_add {n m : Nat} {p q : Rat} (hp : Ab n p) (hq : Ab m q) : Ab (max n m + 1) (p + q) := by
  have := @pw2_max n m
  unfold Ab at *
  grind
theorem ab_sub {n m : Nat} {p q : Rat} (hp : Ab n p) (hq : Ab m q) : Ab (max n m + 1) (p - q) := by
  have := @pw2_max n m
  unfold Ab at *
  grind
theorem ab_mul {n m : Nat} {p q : Rat} (hp : Ab n p) (hq : Ab m q) : Ab (n + m) (p * q) := by
  obtain ⟨h1, h2⟩ := hp
  obtain ⟨h3, h4⟩ := hq
  unfold Ab
  rw [pw2_add]
  generalize pw2 n = A at *
  generalize pw2 m = B at *
  have a1 : 0 < A - p := by grind
  have a2 : 0 < A + p := by grind
  have b1 : 0 < B - q := by grind
  have b2 : 0 < B + q := by grind
  have c1 := Rat.mul_pos a1 b2
  have c2 := Rat.mul_pos a2 b1
  have c3 := Rat.mul_pos a1 b1
  have c4 := Rat.mul_pos a2 b2
  constructor <;> grind
theorem ab_div {n : Nat} {p q : Rat} (hp : Ab n p) (hq : 1 ≤ q) : Ab n (p / q) := by
  obtain ⟨h1, h2⟩ := hp
  have hb := pw2_pos n
  unfold Ab
  generalize pw2 n = A at *
  have e : p / q * q = p := Rat.div_mul_cancel (by grind)
  have hm := Rat.mul_le_mul_of_nonneg_left hq (by grind : 0 ≤ A)
  have hq0 : 0 < q := by grind
  constructor
  · rw [Rat.lt_div_iff hq0]
    grind
  · have : ¬ A ≤ p / q := by
      intro hh
      have := Rat.mul_le_mul_of_nonneg_right hh (by grind : 0 ≤ q)
      grind
    grind
theorem bd_of_ab {n : Nat} {i : Int} {q : Rat} (h : Ab n q) (h1 : (i : Rat) < q + 1) (h2 : q - 1 < (i : Rat)) : Bd (n + 1) i := by
  obtain ⟨a1, a2⟩ := h
  have l : pw2 n + 1 ≤ pw2 (n + 1) := by
    have p1 : (2 ^ n : Nat) + 1 ≤ 2 ^ (n + 1) := by
      have := Nat.two_pow_pos n
      rw [Nat.pow_succ]
      omega
    have p2 : ((2 ^ n : Nat) : Int) + 1 ≤ ((2 ^ (n + 1) : Nat) : Int) := by exact_mod_cast p1
    unfold pw2
    exact_mod_cast p2
  refine bd_range ?_ ?_
  · have : -(pw2 (n + 1)) < (i : Rat) := by grind
    unfold pw2 at this
    exact_mod_cast this
  · have : (i : Rat) < pw2 (n + 1) := by grind
    unfold pw2 at this
    exact_mod_cast this
theorem bd_floorA {n : Nat} {q : Rat} (h : Ab n q) : Bd (n + 1) q.floor := by
  have h1 := floor_le' q
  have h2 := lt_floor' q
  exact bd_of_ab h (by grind) (by grind)
theorem bd_ceilA {n : Nat} {q : Rat} (h : Ab n q) : Bd (n + 1) q.ceil := by
  have h1 := le_ceil q
  have h2 := ceil_lt' q
  exact bd_of_ab h (by grind) (by grind)
theorem ab_tw {c : Cal} (h : CalOk c) : Ab 200 c.tw := ab_div (ab_sz h.y) (by grind)
theorem CalF.tw1 {c : Cal} (h : CalF c) : 1 ≤ c.tw := by have := h.m1; have := h.t1; grind
theorem bdt_st {c : Cal} (h : CalOk c) {k : Int} {n : Nat} (z : Bd n k) : Bd (n + 203) (c.st k) :=
  (bd_floorA (ab_add (ab_sz h.o) (ab_mul (ab_sz h.m) (ab_int z)))).mono (by omega)
theorem bdt_md {c : Cal} (h : CalOk c) {k : Int} {n : Nat} (z : Bd n k) : Bd (n + 203) (c.md k) :=
  (bd_floorA (ab_add (ab_sz h.k) (ab_mul (ab_tw h) (ab_int z)))).mono (by omega)
theorem bdt_ma {c : Cal} (h : CalOk c) {k : Int} {n : Nat} (z : Bd n k) (hn : 200 ≤ n) : Bd (n + 5) (c.ma k) := by
  have z2 := ab_div (ab_sub (ab_int (bd_add1 z (by omega))) (ab_sz h.o)) h.f.m1
  exact (bd_sub1 (bd_ceilA z2) (by omega)).mono (by omega)
theorem bdt_mf {c : Cal} (h : CalOk c) {k : Int} {n : Nat} (z : Bd n k) (hn : 200 ≤ n) : Bd (n + 3) (c.mf k) :=
  (bd_ceilA (ab_div (ab_sub (ab_int z) (ab_sz h.k)) h.f.tw1)).mono (by omega)
/-! ### months side by side -/
theorem st_lt {c : Cal} (h : CalF c) (k : Int) : c.st k < c.st (k + 1) := by
  have hm := h.m1
  have : c.st k + 1 ≤ c.st (k + 1) := by
    show _ ≤ (c.moon + c.month * ((k + 1 : Int) : Rat)).floor
    rw [Rat.le_floor_iff]
    have e : ((k + 1 : Int) : Rat) = (k : Rat) + 1 := by push_cast; rfl
    have e2 : ((c.st k + 1 : Int) : Rat) = (c.st k : Rat) + 1 := by push_cast; rfl
    rw [e, e2]
    have : (c.st k : Rat) ≤ c.moon + c.month * (k : Rat) := floor_le' _
    grind
  omega
theorem ma_st {c : Cal} (h : CalF c) (k : Int) : c.ma (c.st k) = k := by
  have a := (st_le h (k := k) (d := c.st k)).mp (Int.le_refl _)
  have b : ¬ k + 1 ≤ c.ma (c.st k) := by
    rw [← st_le h]
    have := st_lt h k
    omega
  omega
theorem ma_end {c : Cal} (h : CalF c) (k : Int) : c.ma (c.st (k + 1) - 1) = k := by
  have l := st_lt h k
  have a := (st_le h (k := k) (d := c.st (k + 1) - 1)).mp (by omega)
  have b : ¬ k + 1 ≤ c.ma (c.st (k + 1) - 1) := by
    rw [← st_le h]
    omega
  omega
theorem ma_pre {c : Cal} (h : CalF c) (k : Int) : c.ma (c.st k - 1) = k - 1 := by
  have e := ma_end h (k - 1)
  rw [show k - 1 + 1 = k by omega] at e
  exact e
theorem mi_none {c : Cal} (h : CalF c) {k : Int} (e : c.mi k = none) : c.mi (k - 1) = some (c.mf (c.st k) - 1) := by
  refine mi_prev h fun hh => ?_
  unfold Cal.mi at e
  rw [if_pos hh] at e
  cases e
theorem mi_some {c : Cal} {k j : Int} (e : c.mi k = some j) : j = c.mf (c.st k) := by
  unfold Cal.mi at e
  split at e
  · cases e; rfl
  · cases e
end MM

namespace MM
open PySem L2 PyProof.Rows
theorem floor_add_i (q : Rat) (n : Int) : (q + (n : Rat)).floor = q.floor + n := by
  apply Int.le_antisymm
  · have h : ((q + (n : Rat)).floor - n : Int) ≤ q.floor := by
      rw [Rat.le_floor_iff, Rat.intCast_sub]
      have := floor_le' (q + (n : Rat))
      grind
    omega
  · rw [Rat.le_floor_iff, Rat.intCast_add]
    have := floor_le' q
    grind
/-! ### marks and their months -/
theorem mi_some' {c : Cal} {k j : Int} (e : c.mi k = some j) : j = c.mf (c.st k) ∧ c.md j < c.st (k + 1) := by
  unfold Cal.mi at e
  split at e
  · cases e
    exact ⟨rfl, by assumption⟩
  · cases e
theorem mw_of_mi {c : Cal} (h : CalF c) {k j : Int} (e : c.mi k = some j) : c.mw j = k := by
  obtain ⟨e1, e2⟩ := mi_some' e
  have g : c.st k ≤ c.md j := by rw [md_ge h, e1]; exact Int.le_refl _
  have a := (st_le h (k := k) (d := c.md j)).mp g
  have b : ¬ k + 1 ≤ c.ma (c.md j) := by
    rw [← st_le h]
    omega
  show c.ma (c.md j) = k
  omega
/-- a month is at most so long -/
theorem st_len {c : Cal} (h : CalF c) (k : Int) : c.st (k + 1) ≤ c.st k + c.month.ceil := by
  have hc := le_ceil c.month
  have e : ((k + 1 : Int) : Rat) = (k : Rat) + 1 := by push_cast; rfl
  unfold Cal.st
  rw [e]
  have e2 : (c.moon + c.month * (k : Rat)).floor + c.month.ceil = (c.moon + c.month * (k : Rat) + (c.month.ceil : Rat)).floor := (floor_add_i _ _).symm
  rw [e2, Rat.le_floor_iff]
  have := floor_le' (c.moon + c.month * ((k : Rat) + 1))
  grind
/-- and from a mark to the next it is at least so far -/
theorem md_far {c : Cal} (h : CalF c) (j : Int) : c.md (j - 1) + c.month.ceil ≤ c.md j := by
  have ht := h.tc
  have e : ((j - 1 : Int) : Rat) = (j : Rat) - 1 := by push_cast; rfl
  unfold Cal.md
  rw [e]
  have e2 : (c.mark + c.tw * ((j : Rat) - 1)).floor + c.month.ceil = (c.mark + c.tw * ((j : Rat) - 1) + (c.month.ceil : Rat)).floor := (floor_add_i _ _).symm
  rw [e2, Rat.le_floor_iff]
  have := floor_le' (c.mark + c.tw * ((j : Rat) - 1) + (c.month.ceil : Rat))
  grind
theorem mw_in {c : Cal} (h : CalF c) (j : Int) : c.st (c.mw j) ≤ c.md j ∧ c.md j < c.st (c.mw j + 1) := by
  have a := (st_le h (k := c.mw j) (d := c.md j)).mpr (Int.le_refl _)
  have b : ¬ c.st (c.mw j + 1) ≤ c.md j := by
    rw [st_le h]
    show ¬ c.mw j + 1 ≤ c.mw j
    omega
  exact ⟨a, by omega⟩
theorem mi_mw {c : Cal} (h : CalF c) (j : Int) : c.mi (c.mw j) = some j := by
  obtain ⟨a, b⟩ := mw_in h j
  have l := st_len h (c.mw j)
  have f := md_far h j
  have e : c.mf (c.st (c.mw j)) = j := by
    have x := (md_ge h (j := j) (d := c.st (c.mw j))).mp a
    have y : ¬ c.mf (c.st (c.mw j)) ≤ j - 1 := by
      rw [← md_ge h]
      omega
    omega
  unfold Cal.mi
  rw [e, if_pos b]
end MM

namespace MM
open PySem L2 PyProof.Rows
/-! ### kept forms -/
/-- a moment taken down to a whole part -/
def dn (q : Rat) (b : Int) : Rat := rt (q * (b : Rat)).floor b
def Cal.kept (c : Cal) : Cal := ⟨c.month, c.year, dn (c.moon - c.month * ((c.moon / c.month).floor : Rat)) (c.month.den : Int), dn c.mark ((c.year / 12).den : Int)⟩
theorem rt_div (a b : Int) : rt a b = (a : Rat) / (b : Rat) := Rat.divInt_eq_div a b
theorem rt_times {a b : Int} (h : 0 < b) : rt a b * (b : Rat) = (a : Rat) := by
  have h0 : ((b : Int) : Rat) ≠ 0 := by
    have : (0 : Rat) < (b : Rat) := by exact_mod_cast h
    grind
  rw [rt_div]
  exact Rat.div_mul_cancel h0
theorem floor_rdiv {x : Rat} {M : Int} (h : 0 < M) : (x / (M : Rat)).floor = x.floor / M := by
  have hM : (0 : Rat) < (M : Rat) := by exact_mod_cast h
  apply Int.le_antisymm
  · rw [Int.le_ediv_iff_mul_le h, Rat.le_floor_iff]
    have := floor_le' (x / (M : Rat))
    have h2 := Rat.mul_le_mul_of_nonneg_right this (Rat.le_of_lt hM)
    rw [Rat.div_mul_cancel (by grind)] at h2
    push_cast
    exact h2
  · rw [Rat.le_floor_iff]
    have h1 : x.floor / M * M ≤ x.floor := Int.ediv_mul_le _ (by omega)
    have h2 : ((x.floor / M * M : Int) : Rat) ≤ x := Rat.le_trans (by exact_mod_cast h1) (floor_le' x)
    push_cast at h2
    have h3 : ((x.floor / M : Int) : Rat) = ((x.floor / M : Int) : Rat) * (M : Rat) / (M : Rat) := by
      rw [Rat.mul_div_cancel (by grind)]
    rw [h3, Rat.div_def, Rat.div_def]
    exact Rat.mul_le_mul_of_nonneg_right h2 (Rat.le_of_lt (Rat.inv_pos.mpr hM))
theorem floor_rt {a b : Int} (h : 0 < b) : (rt a b).floor = a / b := by
  rw [rt_div, floor_rdiv h]
  rw [Rat.floor_intCast]
theorem dn_dn {q : Rat} {b : Int} (h : 0 < b) : dn (dn q b) b = dn q b := by
  show rt (dn q b * (b : Rat)).floor b = _
  have e : dn q b * (b : Rat) = ((q * (b : Rat)).floor : Rat) := rt_times h
  rw [e, Rat.floor_intCast]
  rfl
theorem dn_of {q r : Rat} {b : Int} (h : (q * (b : Rat)).floor = (r * (b : Rat)).floor) : dn q b = dn r b := by
  unfold dn
  rw [h]
theorem num_pos {m : Rat} (h : 0 < m) : 0 < m.num := by
  have := (Rat.lt_iff 0 m).mp h
  simpa using this
theorem mul_denK {m : Rat} : m * ((m.den : Int) : Rat) = (m.num : Rat) := by
  have := rt_times (a := m.num) (den_pos m)
  rw [rt_self] at this
  exact this
/-- what is left of the moon by the month, in whole parts -/
theorem moon_in {o m : Rat} (h : 0 < m) : ((o - m * ((o / m).floor : Rat)) * ((m.den : Int) : Rat)).floor = (o * ((m.den : Int) : Rat)).floor % m.num := by
  have hn := num_pos h
  have hd := den_pos m
  have hdR : ((m.den : Int) : Rat) ≠ 0 := by
    have : (0 : Rat) < ((m.den : Int) : Rat) := by exact_mod_cast hd
    grind
  have e1 : (o - m * ((o / m).floor : Rat)) * ((m.den : Int) : Rat) = o * ((m.den : Int) : Rat) + ((-(m.num * (o / m).floor) : Int) : Rat) := by
    have md := mul_denK (m := m)
    generalize ((m.den : Int) : Rat) = D at md
    generalize (o / m).floor = f
    rw [Rat.intCast_neg, Rat.intCast_mul, ← md]
    grind
  have e2 : o / m = o * ((m.den : Int) : Rat) / (m.num : Rat) := by
    rw [← mul_denK]
    have hm : m ≠ 0 := by grind
    grind
  rw [e1, floor_add_i]
  rw [e2, floor_rdiv hn, Int.emod_def]
  omega
theorem kept_moon {c : Cal} (h : 0 < c.month) : c.kept.moon = rt ((c.moon * ((c.month.den : Int) : Rat)).floor % c.month.num) (c.month.den : Int) := by
  have e : c.kept.moon = rt ((c.moon - c.month * ((c.moon / c.month).floor : Rat)) * ((c.month.den : Int) : Rat)).floor (c.month.den : Int) := rfl
  rw [e, moon_in h]
theorem kept_kept {c : Cal} (h : 0 < c.month) : c.kept.kept = c.kept := by
  have e1 : c.kept.kept.moon = c.kept.moon := by
    rw [kept_moon (c := c.kept) h]
    show rt ((c.kept.moon * ((c.month.den : Int) : Rat)).floor % c.month.num) (c.month.den : Int) = c.kept.moon
    rw [kept_moon h, rt_times (den_pos _), Rat.floor_intCast, Int.emod_emod]
  have e2 : c.kept.kept.mark = c.kept.mark := dn_dn (den_pos _)
  show (⟨c.month, c.year, c.kept.kept.moon, c.kept.kept.mark⟩ : Cal) = ⟨c.month, c.year, c.kept.moon, c.kept.mark⟩
  rw [e1, e2]
/-- a part of a whole part more does not count -/
theorem floor_part {n : Int} {p : Rat} (h0 : 0 ≤ p) (h1 : p < 1) : ((n : Rat) + p).floor = n := by
  apply Int.le_antisymm
  · have h : ((n : Rat) + p).floor < n + 1 := by
      rw [floor_lt_int]
      push_cast
      grind
    omega
  · rw [Rat.le_floor_iff]
    grind
/-- within what changes no whole part -/
theorem within_floor {q p : Rat} {b : Int} (hb : 0 < b) (h0 : 0 ≤ p) (h1 : p < 1) : ((dn q b + p * rt 1 b) * (b : Rat)).floor = (q * (b : Rat)).floor := by
  have e : (dn q b + p * rt 1 b) * (b : Rat) = ((q * (b : Rat)).floor : Rat) + p := by
    have e1 : dn q b * (b : Rat) = ((q * (b : Rat)).floor : Rat) := rt_times hb
    have e2 : rt 1 b * (b : Rat) = ((1 : Int) : Rat) := rt_times hb
    have e3 : ((1 : Int) : Rat) = 1 := rfl
    rw [e3] at e2
    rw [← e1]
    grind
  rw [e, floor_part h0 h1]
theorem kept_ext {c d : Cal} (h1 : d.month = c.month) (h2 : d.year = c.year) (h3 : d.kept.moon = c.kept.moon) (h4 : d.kept.mark = c.kept.mark) : d.kept = c.kept := by
  show (⟨d.month, d.year, d.kept.moon, d.kept.mark⟩ : Cal) = ⟨c.month, c.year, c.kept.moon, c.kept.mark⟩
  rw [h1, h2, h3, h4]
def Cal.near (c : Cal) (p p' : Rat) (k : Int) : Cal := ⟨c.month, c.year, (dn c.moon (c.month.den : Int) + p * rt 1 (c.month.den : Int)) + c.month * (k : Rat), dn c.mark ((c.year / 12).den : Int) + p' * rt 1 ((c.year / 12).den : Int)⟩
theorem kept_near {c : Cal} {p p' : Rat} {k : Int} (h : 0 < c.month) (h0 : 0 ≤ p) (h1 : p < 1) (h0' : 0 ≤ p') (h1' : p' < 1) : (c.near p p' k).kept = c.kept := by
  refine kept_ext rfl rfl ?_ ?_
  · rw [kept_moon (c := c.near p p' k) h, kept_moon h]
    show rt ((((dn c.moon (c.month.den : Int) + p * rt 1 (c.month.den : Int)) + c.month * (k : Rat)) * ((c.month.den : Int) : Rat)).floor % c.month.num) (c.month.den : Int) = _
    have e : ((dn c.moon (c.month.den : Int) + p * rt 1 (c.month.den : Int)) + c.month * (k : Rat)) * ((c.month.den : Int) : Rat) = (dn c.moon (c.month.den : Int) + p * rt 1 (c.month.den : Int)) * ((c.month.den : Int) : Rat) + ((c.month.num * k : Int) : Rat) := by
      have md := mul_denK (m := c.month)
      generalize dn c.moon (c.month.den : Int) + p * rt 1 (c.month.den : Int) = W
      generalize ((c.month.den : Int) : Rat) = D at md ⊢
      rw [Rat.intCast_mul, ← md]
      grind
    rw [e, floor_add_i, within_floor (den_pos _) h0 h1, Int.add_mul_emod_self_left]
  · exact dn_of (within_floor (den_pos _) h0' h1')
theorem kept_low {c : Cal} (h : 0 < c.month) : 0 ≤ c.kept.moon ∧ c.kept.moon < c.month := by
  have hn := num_pos h
  rw [kept_moon h]
  have r0 := Int.emod_nonneg (c.moon * ((c.month.den : Int) : Rat)).floor (show c.month.num ≠ 0 by omega)
  have r1 := Int.emod_lt_of_pos (c.moon * ((c.month.den : Int) : Rat)).floor hn
  generalize (c.moon * ((c.month.den : Int) : Rat)).floor % c.month.num = r at r0 r1
  have hdR : (0 : Rat) < ((c.month.den : Int) : Rat) := by exact_mod_cast den_pos c.month
  have e := rt_times (a := r) (den_pos c.month)
  have e2 := mul_denK (m := c.month)
  have g0 : (0 : Rat) ≤ (r : Rat) := by exact_mod_cast r0
  have g1 : (r : Rat) < (c.month.num : Rat) := by exact_mod_cast r1
  constructor
  · rw [rt_div, Rat.div_def]
    exact Rat.mul_nonneg g0 (Rat.le_of_lt (Rat.inv_pos.mpr hdR))
  · rw [← e, ← e2] at g1
    exact Rat.lt_of_mul_lt_mul_right g1 (Rat.le_of_lt hdR)
theorem bd_emod {n : Nat} {a b : Int} (h : 0 < b) (z : Bd n b) : Bd n (a % b) := by
  have r0 := Int.emod_nonneg a (show b ≠ 0 by omega)
  have r1 := Int.emod_lt_of_pos a h
  have z : b.natAbs < 2 ^ n := z
  show (a % b).natAbs < 2 ^ n
  omega
theorem sz_dn {n m : Nat} {q : Rat} {b : Int} (h : 0 < b) (z : Sz n q) (zb : Bd m b) : Sz (n + m) (dn q b) := by
  have zi : Sz (n + m) (q * (b : Rat)) := sz_mul z ⟨by rw [Rat.num_intCast]; exact zb, by
    show Bd m ((Rat.den (b : Rat) : Nat) : Int)
    rw [Rat.den_intCast]
    have z : b.natAbs < 2 ^ m := zb
    show (1 : Int).natAbs < 2 ^ m
    have : (1 : Int).natAbs = 1 := rfl
    omega⟩
  exact (sz_rt (bd_floor zi) zb (by omega)).mono (by omega)
end MM

namespace MM
open PySem L2 PyProof.Rows
/-! ### == by an own __eq__ that tells True -/
def KnE (P : Program) (w : World) (K : PySem.W.Frag) (mg : Str → Option Value) (base : Heap) (k : Nat) (C : Addr) (c : Con) : Prop :=
  ∃ (f : Addr) (fd : FuncData) (ps : List Str), PySem.W.findIn K (.ref C) "__eq__" = some (some (.ref f)) ∧ PySem.W.isFn K (.ref f) = true ∧ Binds K fd ps [] ∧ FnOk P w K mg base CX0 k f fd ps (conSp c)
/-- what the two stand for -/
def REq (c : Con) : Addr → Addr → Hp → Prop := fun a b H => ∃ (G : Hp) (i : c.I), Same G H ∧ c.pre i ∧ Reps (c.args i) [.ref a, .ref b] G
structure EqTrue (c : Con) : Prop where
  own : ∀ i, c.own i = []
  res : ∀ i x, c.res i x = RB true
theorem spEq_of {c : Con} (t : EqTrue c) : ∀ vs H Q E, spEq (REq c) vs H Q E → conSp c vs H Q E := by
  rintro vs H Q E ⟨a, b, rfl, ⟨G, i, s, hp, r⟩, q⟩
  refine ⟨G, i, s, hp, r, ?_, ?_, ?_, fun x v G' H' px tf rv => ?_⟩
  · rw [t.own]; exact fun q hq => (List.not_mem_nil hq).elim
  · rw [t.own]; exact fun q hq => (List.not_mem_nil hq).elim
  · rw [t.own]; exact List.nodup_nil
  · rw [t.res] at rv
    have rv : v = .bl true := rv
    subst rv
    refine q H' fun z u hz => tf.keep z u ?_ hz
    rw [t.own]
    exact List.not_mem_nil
section
variable {X : Cx} {E : En} {Γ : Gm} {M : Ow} {a b : Expr} {pos : Pos} {Φ : Rep → Ow → Prop} {k : Nat} {C : Addr} {c : Con}
theorem opw_eqC {ρ ρ' : Rep} {l l' : List (Str × Rep)} (i : c.I) (hp : c.pre i) (ha : c.args i = [RIns C l, RIns C l']) (s1 : MM.Sub ρ (RIns C l)) (s2 : MM.Sub ρ' (RIns C l')) (q0 : Φ (RB true) M) : OpW E Γ M (rEqG (DIns C (REq c))) ρ ρ' Φ := fun σ G H at_ x y hx hy Q q => by
  obtain ⟨b1, dx, fs, e1, h1, r1⟩ := s1 _ _ hx
  obtain ⟨b2, dy, gs, e2, h2, r2⟩ := s2 _ _ hy
  subst e1 e2
  refine ⟨⟨b1, b2, dx, dy, fs, gs, rfl, rfl, at_.gh _ _ h1, at_.gh _ _ h2, G, i, at_.gh, hp, ?_⟩, fun H' e => q (RB true) M _ G H' q0 (Same.refl _) (at_.new ⟨Same.refl _, at_.gh.trans e, e, fun _ _ h => h⟩) rfl⟩
  rw [ha]
  exact ⟨⟨b1, dx, fs, rfl, h1, r1⟩, ⟨b2, dy, gs, rfl, h2, r2⟩, trivial⟩
theorem we_eqC (F : KnE X.prog X.w X.K X.mg X.base k C c) (t : EqTrue c) (hr : Room k X.A) (hx : Passes CX0 X E0)
    (h : WE X E Γ M a fun ρa Ma => WE X E Γ Ma b fun ρb Mb => ∃ (i : c.I) (l l' : List (Str × Rep)), c.pre i ∧ c.args i = [RIns C l, RIns C l'] ∧ MM.Sub ρa (RIns C l) ∧ MM.Sub ρb (RIns C l') ∧ Φ (RB true) Mb) (hm : behindInMarks .Eq b = false := by exact nomark _) : WE X E Γ M (.Compare a [.Eq] [b] pos) Φ := by
  obtain ⟨f, fd, ps, hs, hf, hb, ok⟩ := F
  refine we_cmp (op_eqG (rcG_ins (ok.imp (spEq_of t)) hs hf hb hx) hr) hm ?_
  intro σ G H at_ Q q
  refine h σ G H at_ Q fun ρ M' v G' H' hh => q ρ M' v G' H' ?_
  intro σ2 G2 H2 at2 Q2 q2
  refine hh σ2 G2 H2 at2 Q2 fun ρ2 M2 v2 G3 H3 ⟨i, l, l', hp, ha, s1, s2, q0⟩ => q2 ρ2 M2 v2 G3 H3 (opw_eqC i hp ha s1 s2 q0)
end
end MM

namespace MM
open PySem L2 PyProof.Rows
/-! ### != of tuples that hold own things, where all are equal -/
section
open AutoSeq1 (wpAny_loadPart')
open PySem.SeqAt MeetsSeq MeetsSeq2 MeetsSeq3 SeqRoads2
variable {prog : Program} {w : World} {A : Around} {E : Value → Shared → Prop} {s : Shared} {a b : Addr} {xs ys : Array Value} {Q : Value → Shared → Prop}
/-- t != u, two tuples as long as each other: J tells what holds while these pairs are still to be looked at, and each pair is found equal -/
theorem ne_pairs (hu : A.units < cLine) (J : List (Value × Value) → Shared → Prop) (look : ∀ p r s', J (p :: r) s' → wpAny (model prog w) A.in1 (eqBool p.1 p.2) (fun k s2 => k = true ∧ J r s2) E s') (out : ∀ s', J [] s' → Q (.bool false) s')
    (ta : s.heap.IsTuple a xs) (tb : s.heap.IsTuple b ys) (same : xs.size = ys.size) (start : J (xs.toList.zip ys.toList) s) : wpAny (model prog w) A (richCompare .NotEq (.ref a) (.ref b)) Q E s := by
  obtain ⟨⟨ca, da, pa, za⟩, ga, ea, na, fa⟩ := ta
  obtain ⟨⟨cb, db, pb, zb⟩, gb, eb, nb, fb⟩ := tb
  cases ea
  cases eb
  cases fa
  cases fb
  refine wpAny_richCompare_same_room (op := .NotEq) ⟨_, ga, rfl⟩ ⟨_, gb, rfl⟩ F.slot_tuple_ne ?_ hu
  refine wpAny_call_entry F.slot_tuple_ne ⟨_, ga, rfl⟩ F.entry_tuple_ne ?_ (F.args_tuple_ne_2 _ _)
  have isT := AutoSeq1.sub_tuple_tuple
  have go := start
  obtain ⟨hp, gn, dr, tk, os⟩ := s
  wp_walk using wpAny_loadPart' ga, wpAny_loadPart' gb, wpAny_forIn_list _ (fun r st s' => st.1 = none ∧ J r s') _
  case h => exact ⟨rfl, go⟩
  case fin =>
    rintro ⟨st, _⟩ s' ⟨e, j⟩
    cases (show st = none from e)
    have q := out s' j
    wp_walk
    have sz : (Builtin.Tuple.tupleCompareSizes .NotEq xs.size ys.size) = Value.bool false := by
      rw [same]
      simp [Builtin.Tuple.tupleCompareSizes]
    rw [sz]
    exact ⟨_, rfl, (by intro z; cases z), q⟩
  case turn =>
    intro p r st s' ⟨_, j⟩
    refine wpAny_bind (wpAny_mono (look p r s' j) (fun k s2 ⟨ek, j2⟩ => ?_) fun _ _ z => z)
    cases ek
    wp_walk
    exact ⟨rfl, j2⟩
end
def rNeG (D : Eqv) : R2 := fun x y H Q => D x y H ∧ ∀ H', Ext H H' → Q (.bl false) H'
section
variable {X : Cx} {n : Nat} {D : Eqv}
/-- the values still to be looked at, and their places in the heap -/
def Left (X : Cx) (D : Eqv) (pins : List (Addr × Obj)) (σ : L2.St) (H : Hp) (r : List (Value × Value)) (s' : Shared) : Prop :=
  ∃ (H' : Hp) (us vs : List Value) (xs ys : List V), r = us.zip vs ∧ Vals xs us ∧ Vals ys vs ∧ Prs D xs ys H ∧ Inv X pins σ H' s' ∧ Ext H H'
theorem left_look (hD : Mon D) (h : EqG X n D) {A : Around} (sb : L2.Sub X n A) {pins : List (Addr × Obj)} {σ : L2.St} {H : Hp} (p : Value × Value) (r : List (Value × Value)) (s' : Shared) (l : Left X D pins σ H (p :: r) s') :
    wpAny (model X.prog X.w) A (eqBool p.1 p.2) (fun k s2 => k = true ∧ Left X D pins σ H r s2) X.xe s' := by
  obtain ⟨H', us, vs, xs, ys, e, ru, rv, pr, I, ex⟩ := l
  cases ru with
  | nil => cases e
  | cons r1 rt =>
    cases rv with
    | nil => cases e
    | cons r2 rt2 =>
      rw [List.zip_cons_cons] at e
      cases e
      have d1 := pr.2 0 _ _ rfl rfl
      refine wpAny_mono (h A pins s' σ H' _ _ _ _ sb I r1 r2 (hD _ _ _ _ ex d1)) (fun k s2 ⟨ek, H2, I2, ex2⟩ => ?_) fun _ _ z => z
      exact ⟨ek, H2, _, _, _, _, rfl, rt, rt2, ⟨Nat.succ.inj pr.1, fun i x y h1 h2 => pr.2 (i + 1) x y h1 h2⟩, I2, ex.trans ex2⟩
theorem op_neTupG (hD : Mon D) (h : EqG X n D) (hr : Room (n + 1) X.A) : OpR X (compareOp .NotEq) (rNeG (DTup X.K D)) := by
  intro pins s σ H x y v u Q I rx ry ⟨⟨a, b, xs, ys, ex, ey, ha, hb, p⟩, q⟩
  subst ex ey
  cases rx
  cases ry
  obtain ⟨us, ru, ta, _⟩ := I.tuple ha
  obtain ⟨vs, rv, tb, _⟩ := I.tuple hb
  refine ne_pairs hr.units0 (Left X D pins σ H) (left_look hD h ⟨hr.in1, rfl⟩) (fun s' ⟨H', _, _, _, _, _, _, _, _, I', e'⟩ => ⟨.bl false, H', I', rfl, q H' e'⟩) ta tb ?_ ⟨H, us, vs, xs, ys, rfl, ru, rv, p, I, Ext.rfl'⟩
  rw [List.size_toArray, List.size_toArray, ← ru.length, ← rv.length]
  exact p.1
theorem mon_req {C : Addr} {c : Con} : Mon (DIns C (REq c)) := mon_ins fun a b H H' e ⟨G, i, s, hp, r⟩ => ⟨G, i, fun x o h => e x o (s x o h), hp, r⟩
/-- two rows of own things, pair by pair of one kind -/
inductive PrC (C : Addr) (c : Con) : List Rep → List Rep → Prop
  | nil : PrC C c [] []
  | cons {i : c.I} {l l' : List (Str × Rep)} {ρs ρs' : List Rep} (hp : c.pre i) (ha : c.args i = [RIns C l, RIns C l']) (h : PrC C c ρs ρs') : PrC C c (RIns C l :: ρs) (RIns C l' :: ρs')
theorem PrC.prs {C : Addr} {c : Con} {G H : Hp} (s : Same G H) {ρs ρs' : List Rep} (p : PrC C c ρs ρs') : ∀ {xs ys : List V}, Reps ρs xs G → Reps ρs' ys G → Prs (DIns C (REq c)) xs ys H := by
  induction p with
  | nil =>
    intro xs ys r r'
    cases xs with
    | nil =>
      cases ys with
      | nil => exact Prs.nil
      | cons _ _ => exact r'.elim
    | cons _ _ => exact r.elim
  | cons hp ha _ ih =>
    intro xs ys r r'
    cases xs with
    | nil => exact r.elim
    | cons x xs =>
      cases ys with
      | nil => exact r'.elim
      | cons y ys =>
        obtain ⟨r1, r⟩ := r
        obtain ⟨r1', r'⟩ := r'
        refine Prs.cons ?_ (ih r r')
        obtain ⟨b1, dx, fs, e1, h1, q1⟩ := r1
        obtain ⟨b2, dy, gs, e2, h2, q2⟩ := r1'
        subst e1 e2
        refine ⟨b1, b2, dx, dy, fs, gs, rfl, rfl, s _ _ h1, s _ _ h2, G, _, s, hp, ?_⟩
        rw [ha]
        exact ⟨⟨b1, dx, fs, rfl, h1, q1⟩, ⟨b2, dy, gs, rfl, h2, q2⟩, trivial⟩
end
section
variable {X : Cx} {E : En} {Γ : Gm} {M : Ow} {a b : Expr} {pos : Pos} {Φ : Rep → Ow → Prop} {k : Nat} {C : Addr} {c : Con}
theorem opw_neT {K : PySem.W.Frag} {ρ ρ' : Rep} {ρs ρs' : List Rep} (s1 : MM.Sub ρ (RTt ρs)) (s2 : MM.Sub ρ' (RTt ρs')) (p : PrC C c ρs ρs') (q0 : Φ (RB false) M) : OpW E Γ M (rNeG (DTup K (DIns C (REq c)))) ρ ρ' Φ := fun σ G H at_ x y hx hy Q q => by
  obtain ⟨a1, xs, e1, h1, r1⟩ := s1 _ _ hx
  obtain ⟨a2, ys, e2, h2, r2⟩ := s2 _ _ hy
  subst e1 e2
  exact ⟨⟨a1, a2, xs, ys, rfl, rfl, .inl (.inl (at_.gh _ _ h1)), .inl (.inl (at_.gh _ _ h2)), p.prs at_.gh r1 r2⟩, fun H' e => q (RB false) M _ G H' q0 (Same.refl _) (at_.new ⟨Same.refl _, at_.gh.trans e, e, fun _ _ h => h⟩) rfl⟩
/-- != of two tuples of own things that are all equal -/
theorem op_neT (F : KnE X.prog X.w X.K X.mg X.base k C c) (t : EqTrue c) (hr : Room (k + 1) X.A) (hx : Passes CX0 X E0) : OpR X (compareOp .NotEq) (rNeG (DTup X.K (DIns C (REq c)))) := by
  obtain ⟨f, fd, ps, hs, hf, hb, ok⟩ := F
  exact op_neTupG mon_req (eqG_ins (ok.imp (spEq_of t)) hs hf hb hx) hr
theorem opw_eqT {K : PySem.W.Frag} {ρ ρ' : Rep} {ρs ρs' : List Rep} (s1 : MM.Sub ρ (RTt ρs)) (s2 : MM.Sub ρ' (RTt ρs')) (p : PrC C c ρs ρs') (q0 : Φ (RB true) M) : OpW E Γ M (rEqG (DTup K (DIns C (REq c)))) ρ ρ' Φ := fun σ G H at_ x y hx hy Q q => by
  obtain ⟨a1, xs, e1, h1, r1⟩ := s1 _ _ hx
  obtain ⟨a2, ys, e2, h2, r2⟩ := s2 _ _ hy
  subst e1 e2
  exact ⟨⟨a1, a2, xs, ys, rfl, rfl, .inl (.inl (at_.gh _ _ h1)), .inl (.inl (at_.gh _ _ h2)), p.prs at_.gh r1 r2⟩, fun H' e => q (RB true) M _ G H' q0 (Same.refl _) (at_.new ⟨Same.refl _, at_.gh.trans e, e, fun _ _ h => h⟩) rfl⟩
theorem op_eqT (F : KnE X.prog X.w X.K X.mg X.base k C c) (t : EqTrue c) (hr : Room (k + 1) X.A) (hx : Passes CX0 X E0) : OpR X (compareOp .Eq) (rEqG (DTup X.K (DIns C (REq c)))) := by
  obtain ⟨f, fd, ps, hs, hf, hb, ok⟩ := F
  exact op_eqG (rcG_tup mon_req (eqG_ins (ok.imp (spEq_of t)) hs hf hb hx)) hr
end
end MM

namespace MM
open PySem L2 PyProof.Rows
/-! ### kept forms in the program -/
theorem eqv_ir {i : Int} : PyData.eqv (.int i) (.int i) = true := by simp [PyData.eqv]
def con_Sh_eq (CS : Addr) : Con := { I := Rat, B := Unit, pre := fun _ => True, args := fun q => [RSh CS q, RSh CS q], own := fun _ => [], post := fun _ _ => True, res := fun _ _ => RB true, own' := fun _ _ => [] }
theorem sh_eqTrue {CS : Addr} : EqTrue (con_Sh_eq CS) := ⟨fun _ => rfl, fun _ _ => rfl⟩
theorem prC_sh {CS : Addr} : ∀ l : List Rat, PrC CS (con_Sh_eq CS) (l.map (RSh CS)) (l.map (RSh CS))
  | [] => .nil
  | q :: l => .cons (i := q) trivial rfl (prC_sh l)
def con_lowered (CS : Addr) : Con := { I := Rat × Int, B := Unit, pre := fun i => 0 < i.2 ∧ Sz 1000 i.1 ∧ Bd 1000 i.2, args := fun i => [RSh CS i.1, RI i.2], own := fun _ => [], post := fun _ _ => True, res := fun i _ => RSh CS (dn i.1 i.2), own' := fun _ _ => [] }
theorem ck_lowered {CS : Addr} {ρ1 ρ2 : Rep} {M : Ow} {Φ : Rep → Ow → Prop} {q : Rat} {b : Int} (h1 : Sub ρ1 (RSh CS q)) (h2 : Sub ρ2 (RI b)) (hb : 0 < b) (z : Sz 1000 q) (zb : Bd 1000 b) (k : Φ (RSh CS (dn q b)) M) : CallK (con_lowered CS) [ρ1, ρ2] M Φ :=
  ⟨(q, b), M, ⟨hb, z, zb⟩, .cons h1 (.cons h2 .nil), .nil, fun _ _ => k⟩
def keptL (c : Cal) : List Rat := [c.kept.month, c.kept.year, c.kept.moon, c.kept.mark]
def con_kf (CC CS : Addr) : Con := { I := Cal, B := Unit, pre := fun c => CalOk c, args := fun c => [RCal CC CS c], own := fun _ => [], post := fun _ _ => True, res := fun c _ => RTt ((keptL c).map (RSh CS)), own' := fun _ _ => [] }
theorem ck_kf {CC CS : Addr} {ρ : Rep} {M : Ow} {Φ : Rep → Ow → Prop} {c : Cal} (h : Sub ρ (RCal CC CS c)) (hc : CalOk c) (k : Φ (RTt ((keptL c).map (RSh CS))) M) : CallK (con_kf CC CS) [ρ] M Φ :=
  ⟨c, M, hc, .cons h .nil, .nil, fun _ _ => k⟩
section
variable {P : Program} {w : World} {K : PySem.W.Frag} {mg : Str → Option Value} {base : Heap} {CS CC : Addr}
theorem ok_Sh_eq {f : Addr} {fd : FuncData} (F : FdD K "__eq__" "Share.__eq__" s_Share_eq [] f fd) (S : ShM P w K mg base CS) : FnOk P w K mg base CX0 1 f fd ["self", "other"] (conSp (con_Sh_eq CS)) := by
  refine fn_conD (con_Sh_eq CS) F sc_Share_eq (fun _ => rfl) fun cd A outer s H EE G (q : Rat) hp hr hE => ?_
  refine wss_one (ws_ret (we_and (we_callB call_isi g_isinstance_Share_eq S.isi (by decide +kernel) (wa_cons (we_var 1 r1_Share_eq rfl (wa_cons (we_glob (v := .ref CS) (ρ := RV (.ref CS)) g_Share_Share_eq S.mgS rfl (fun _ => rfl) (wa_nil ?_))))))))
  refine caw_of (cav_isi (tyIs_ins S.T.ci) (.own CS) kit_self) ⟨true, Sub.rfl, fun _ => ?_, fun hk => (by cases hk)⟩
  refine we_and (we_cmp (op_eqD hr.units) (nomark _) (we_fld (we_var 0 r0_Share_eq rfl ⟨_, hasF_top S.T, we_fld (we_var 1 r1_Share_eq rfl ⟨_, hasF_top S.T, ?_⟩)⟩)))
  refine opw_of (opv_eq isD_i isD_i shaped_i shaped_i) ⟨_, Sub.rfl, fun _ => ?_, fun hk => ?bad⟩
  case bad =>
    rw [eqv_ir] at hk
    cases hk
  refine we_and1 (we_cmp (op_eqD hr.units) (nomark _) (we_fld (we_var 0 r0_Share_eq rfl ⟨_, hasF_bot S.T, we_fld (we_var 1 r1_Share_eq rfl ⟨_, hasF_bot S.T, ?_⟩)⟩)))
  refine opw_of (opv_eq isD_i isD_i shaped_i shaped_i) ⟨(), [], trivial, ?_, .nil⟩
  rw [eqv_ir]
  exact Sub.rfl
theorem ok_lowered {f : Addr} {fd : FuncData} (F : FdD K "lowered" "lowered" s_f_lowered [] f fd) (S : ShF P w K mg base CS) : FnOk P w K mg base CX0 6 f fd ["moment", "bottom"] (conSp (con_lowered CS)) := by
  refine fn_conD (con_lowered CS) F sc_f_lowered (fun _ => rfl) fun cd A outer s H EE G i hp hr hE => ?_
  obtain ⟨q, b⟩ := i
  obtain ⟨hb, z, zb⟩ := hp
  have hb : 0 < b := hb
  have z : Sz 1000 q := z
  have zb : Bd 1000 b := zb
  have hr3 := hr.mono (show 3 ≤ 5 by decide)
  have zbR : Sz 1000 (b : Rat) := sz_int zb (by decide)
  refine wss_one (ws_ret (we_make S.mk2 hr3 g_Share_f_lowered pass0 hE (wa_cons (we_call S.whole hr g_whole_f_lowered pass0 (wa_cons (we_call S.times hr g_times_f_lowered pass0 (wa_cons (we_var 0 r0_f_lowered rfl (wa_cons (we_var 1 r1_f_lowered rfl (wa_nil ?_)))))))))))
  refine ck_times aq_sh aq_wh (z.mono (by decide)) (zbR.mono (by decide)) (wa_nil (ck_whole aq_sh ((sz_mul z zbR).mono (by decide)) (wa_cons (we_var 1 r1_f_lowered rfl (wa_nil ?_)))))
  refine mk_Share Sub.rfl Sub.rfl (by omega) ((bd_floor (sz_mul z zbR)).mono (by decide)) (zb.mono (by decide)) ⟨(), [], trivial, Sub.rfl, .nil⟩
theorem ok_kf {f : Addr} {fd : FuncData} (F : FdD K "kept_form" "kept_form" s_f_kept_form [] f fd) (S : CalM P w K mg base CC CS) (Lo : Kn P w K mg base 6 "lowered" [] (con_lowered CS)) : FnOk P w K mg base CX0 7 f fd ["calendar"] (conSp (con_kf CC CS)) := by
  refine fn_conD (con_kf CC CS) F sc_f_kept_form (fun _ => rfl) fun cd A outer s H EE G (c : Cal) hp hr hE => ?_
  have hc : CalOk c := hp
  have hr5 := hr.mono (show 5 ≤ 6 by decide)
  have m0 : c.month ≠ 0 := by
    have := hc.f.m1
    grind
  have z1 : Sz 400 (c.moon / c.month) := sz_div hc.o hc.m m0
  have z2 : Sz 400 ((c.moon / c.month).floor : Rat) := sz_int (bd_floor z1) (by decide)
  have z3 : Sz 600 (c.month * ((c.moon / c.month).floor : Rat)) := sz_mul hc.m z2
  have z4 : Sz 801 (c.moon - c.month * ((c.moon / c.month).floor : Rat)) := sz_sub hc.o z3
  have z5 : Sz 260 (c.year / 12) := (sz_div hc.y (sz_lit (n := 60) (i := 12) (by decide) (by decide)) (by decide)).mono (by decide)
  refine wss_cons (ws_set 1 w1_f_kept_form (we_fld (we_var 0 r0_f_kept_form rfl ⟨_, hasF_month S.CT, ?_⟩)))
  refine wss_cons (ws_set 2 w2_f_kept_form (we_call S.minus hr5 g_minus_f_kept_form pass0 (wa_cons (we_fld (we_var 0 r0_f_kept_form rfl ⟨_, hasF_moon S.CT, ?_⟩)))))
  refine wa_cons (we_call S.times hr5 g_times_f_kept_form pass0 (wa_cons (we_var 1 r1_f_kept_form rfl (wa_cons (we_call S.whole hr5 g_whole_f_kept_form pass0 (wa_cons (we_call S.over hr5 g_over_f_kept_form pass0 (wa_cons (we_fld (we_var 0 r0_f_kept_form rfl ⟨_, hasF_moon S.CT, ?_⟩))))))))))
  refine wa_cons (we_var 1 r1_f_kept_form rfl (wa_nil (ck_over aq_sh aq_sh (hc.o.mono (by decide)) (hc.m.mono (by decide)) m0 (wa_nil (ck_whole aq_sh (z1.mono (by decide)) (wa_nil ?_))))))
  refine ck_times aq_sh aq_wh (hc.m.mono (by decide)) (z2.mono (by decide)) (wa_nil (ck_minus aq_sh aq_sh (hc.o.mono (by decide)) (z3.mono (by decide)) ?_))
  refine wss_cons (ws_set 3 w3_f_kept_form (we_call Lo hr g_lowered_f_kept_form pass0 (wa_cons (we_fld (we_var 0 r0_f_kept_form rfl ⟨_, hasF_mark S.CT, ?_⟩)))))
  refine wa_cons (we_fld (we_fld (we_var 0 r0_f_kept_form rfl ⟨_, hasF_twelfth S.CT, ⟨_, hasF_bot S.T, wa_nil ?_⟩⟩)))
  refine ck_lowered Sub.rfl Sub.rfl (den_pos _) (hc.k.mono (by decide)) (z5.den.mono (by decide)) ?_
  refine wss_one (ws_ret (we_tup (wa_cons (we_var 1 r1_f_kept_form rfl (wa_cons (we_fld (we_var 0 r0_f_kept_form rfl ⟨_, hasF_year S.CT, ?_⟩)))))))
  refine wa_cons (we_call Lo hr g_lowered_f_kept_form pass0 (wa_cons (we_var 2 r2_f_kept_form rfl (wa_cons (we_fld (we_var 1 r1_f_kept_form rfl ⟨_, hasF_bot S.T, wa_nil ?_⟩))))))
  refine ck_lowered Sub.rfl Sub.rfl (den_pos _) (z4.mono (by decide)) (hc.m.den.mono (by decide)) ?_
  exact wa_cons (we_var 3 r3_f_kept_form rfl (wa_nil ⟨by show 4 ≤ 100000; decide, (), [], trivial, Sub.rfl, .nil⟩))
end
end MM

namespace MM
open PySem L2 PyProof.Rows
/-! ### str(x) of an own instance; f-strings -/
/-- an own method of one argument, by its name -/
def KnO (P : Program) (w : World) (K : PySem.W.Frag) (mg : Str → Option Value) (base : Heap) (k : Nat) (C : Addr) (m : Str) (c : Con) : Prop :=
  ∃ (f : Addr) (fd : FuncData) (ps : List Str), PySem.W.findIn K (.ref C) m = some (some (.ref f)) ∧ PySem.W.isFn K (.ref f) = true ∧ Binds K fd ps [] ∧ FnOk P w K mg base CX0 k f fd ps (conSp c)
section
variable {X : Cx} {n : Nat} {C f a : Addr} {fd : FuncData} {ps : List Str} {sp : Sp}
/-- an own method of the instance at a, called below the running body -/
theorem run_own {A : Around} {pins : List (Addr × Obj)} {σ : L2.St} {H : Hp} {s : Shared} {Q : VK} (F : FnOk X.prog X.w X.K X.mg X.base CX0 n f fd ps sp) (hb : Binds X.K fd ps []) (hr : Room n A) (e0 : Env0 X.prog X.w X.K X.mg X.base A X.stack s H) (hx : Passes CX0 X E0) (I : Inv X pins σ H s) (h : sp [.ref a] H Q E0) :
    wpAny (model X.prog X.w) A (call (.ref f) [.ref a]) (EP X pins σ Q) X.xe s := by
  have hl := F.len _ _ _ _ h
  refine wpAny_call (codeAny_mono (F.run A X.stack s H ⟨[.ref a], []⟩ [.ref a] [.ref a] _ E0 hr e0 (by
    have := hb s [.ref a] I.kIn (by simpa using hl)
    simpa using this) (.cons rfl .nil) h) fun r s' hq => ?_)
  cases r with
  | error e => exact hx pins σ H s e s' I hq
  | ok fl =>
    cases fl with
    | ret w => exact I.after hq
    | next => exact False.elim hq
    | brk => exact False.elim hq
    | cont => exact False.elim hq
/-- what tells a text -/
def TxQ (Q : VK) : VK := fun v H' => ∃ t : Str, v = .str t ∧ Q v H'
theorem txBack {pins : List (Addr × Obj)} {σ : L2.St} {Q : VK} {v : Value} {s' : Shared} (h : EP X pins σ (TxQ Q) v s') : PySem.W.StrBack (EP X pins σ Q) v s' := by
  obtain ⟨z, H', I', rz, t, ez, qz⟩ := h
  subst ez
  obtain ⟨tk, e⟩ := (show ∃ tk, v = Value.str t tk from rz)
  cases e
  exact ⟨.str t, H', I', ⟨tk, rfl⟩, qz⟩
def rStrO (C : Addr) (sp : Sp) : List V → Hp → VK → Prop := fun xs H Q => ∃ (a dx : Addr) (fs : List (Str × V)), xs = [V.ref a] ∧ H a = some (.ins C dx fs) ∧ sp [.ref a] H (TxQ Q) E0
theorem call_strO (F : FnOk X.prog X.w X.K X.mg X.base CX0 n f fd ps sp) (hs : PySem.W.findIn X.K (.ref C) "__str__" = some (some (.ref f))) (hf : PySem.W.isFn X.K (.ref f) = true) (hb : Binds X.K fd ps []) (hx : Passes CX0 X E0) (hr : Room (n + 2) X.A) : CallR X (.type "str") (rStrO C sp) := by
  intro pins s σ H xs us Q I r h
  obtain ⟨a, dx, fs, rfl, ha, q⟩ := h
  obtain ⟨u, rfl, ru⟩ := r.one
  cases (show u = Value.ref a from ru)
  obtain ⟨mA, J, _⟩ := ins_get I.hok ha
  obtain ⟨od, J, _⟩ := J.look
  have hr2 : Room n X.A.in1.in1 := (show Room (n + 1) X.A.in1 from Room.in1 hr).in1
  exact PySem.W.kso_call hr2.units0 I.kIn J hs hf (wpAny_mono (run_own F hb hr2 I.env0.in1.in1 hx I q) (fun w s' z => txBack z) fun _ _ x => x)
end
section
variable {X : Cx} {E : En} {Γ : Gm} {M : Ow} {e : Expr} {pos p : Pos} {Φ : Rep → Ow → Prop} {k : Nat} {C : Addr} {c : Con}
theorem caw_own {sp : Sp} {ρ : Rep} (hsp : sp = conSp c) (s1 : ∃ l, MM.Sub ρ (RIns C l)) (ck : CallK c [ρ] M fun ρ' M' => (∃ t, MM.Sub ρ' (RS t)) ∧ Φ ρ' M') : CaW E Γ M (rStrO C sp) [ρ] Φ := fun σ G H a vs hv Q q => by
  subst hsp
  match vs, hv with
  | [v], ⟨hv, _⟩ =>
    obtain ⟨l, s1⟩ := s1
    obtain ⟨b, dx, fs, e1, h1, r1⟩ := s1 _ _ hv
    have cr := callK_run (EE := E0) (Q := TxQ Q) ck a (vs := [v]) ⟨hv, trivial⟩ fun ρ4 M4 v4 G5 H5 ⟨⟨t, st⟩, hφ⟩ s4 a4 r4 => ⟨t, st _ _ r4, q ρ4 M4 v4 G5 H5 hφ s4 a4 r4⟩
    subst e1
    exact ⟨b, dx, fs, rfl, a.gh _ _ h1, cr⟩
/-- str(x) -/
theorem we_strO (F : KnO X.prog X.w X.K X.mg X.base k C "__str__" c) (hr : Room (k + 2) X.A) (hg : Gl X "str") (hm : X.mg "str" = none) (hx : Passes CX0 X E0)
    (h : WE X E Γ M e fun ρ M1 => (∃ l, MM.Sub ρ (RIns C l)) ∧ CallK c [ρ] M1 fun ρ' M' => (∃ t, MM.Sub ρ' (RS t)) ∧ Φ ρ' M')
    (he : starEach [e] X.env = (false, eval e X.env) :: starEach [] X.env := by rfl) (hpl : (backTo pos (starEach [] X.env)).any (·.1) = false := by rfl) : WE X E Γ M (.Call (.Name "str" p) [e] [] pos) Φ := by
  obtain ⟨f, fd, ps, hs, hf, hb, ok⟩ := F
  refine we_callTy (call_strO ok hs hf hb hx hr) hg hm (by decide +kernel) (wa_cons ?_ he) (by decide) (by decide) he hpl
  intro σ G H at_ Q q
  exact h σ G H at_ Q fun ρ M' v G' H' ⟨s1, ck⟩ => q ρ M' v G' H' (wa_nil (caw_own rfl s1 ck))
/-- str(i) -/
theorem we_strI (hg : Gl X "str") (hm : X.mg "str" = none) (h : WE X E Γ M e fun ρ M1 => ∃ i : Int, MM.Sub ρ (RI i) ∧ i.natAbs.log2 < 1920 ∧ Φ (RS (Str.ofString (toString i))) M1)
    (he : starEach [e] X.env = (false, eval e X.env) :: starEach [] X.env := by rfl) (hpl : (backTo pos (starEach [] X.env)).any (·.1) = false := by rfl) : WE X E Γ M (.Call (.Name "str" p) [e] [] pos) Φ := by
  refine we_callTy call_str_int hg hm (by decide +kernel) (wa_cons ?_ he) (by decide) (by decide) he hpl
  intro σ G H at_ Q q
  refine h σ G H at_ Q fun ρ M' v G' H' ⟨i, sb, hl, hk⟩ => q ρ M' v G' H' (wa_nil fun σ2 G2 H2 a2 vs hv Q2 q2 => ?_)
  match vs, hv with
  | [x], ⟨hv, _⟩ =>
    have e1 : x = .int i := sb _ _ hv
    subst e1
    exact ⟨i, rfl, hl, q2 _ _ _ _ _ hk (Same.refl _) a2 rfl⟩
/-- {i} in an f-string -/
theorem we_fmtI (h : WE X E Γ M e fun ρ M1 => ∃ i : Int, MM.Sub ρ (RI i) ∧ i.natAbs.log2 < 1920 ∧ Φ (RS (Str.ofString (toString i))) M1) : WE X E Γ M (.FormattedValue e (-1) none pos) Φ :=
  we_of (pe_fmt pe_w) fun σ G H a Q q => h σ G H a _ fun ρ M1 v G1 H1 ⟨i, sb, hl, hk⟩ s1 a1 r1 => .inr ⟨i, sb _ _ r1, hl, q _ M1 _ G1 H1 hk s1 a1 rfl⟩
/-- the parts of an f-string -/
def WJ (X : Cx) (E : En) (Γ : Gm) : Ow → List Expr → Str → (Str → Ow → Prop) → Prop
  | M, [], acc, Φ => Φ acc M
  | M, e :: es, acc, Φ => WE X E Γ M e fun ρ M' => ∃ y : Str, MM.Sub ρ (RS y) ∧ (acc ++ y).length ≤ sizeLine ∧ WJ X E Γ M' es (acc ++ y) Φ
theorem pj_w : ∀ es : List Expr, PJ X es (es.map (tW X))
  | [] => .nil
  | _ :: es => .cons pe_w (pj_w es)
theorem wj_run : ∀ (es : List Expr) (acc : Str) (M : Ow) (Ξ : Str → Ow → Prop), WJ X E Γ M es acc Ξ → ∀ σ G H, At E Γ M σ G H → ∀ Q : Str → Hp → Prop, (∀ out M' G' H', Ξ out M' → Same G G' → At E Γ M' σ G' H' → Q out H') → tJs (es.map (tW X)) acc σ H Q
  | [], acc, M, Ξ, h, σ, G, H, a, Q, q => q acc M G H h (Same.refl _) a
  | e :: es, acc, M, Ξ, h, σ, G, H, a, Q, q => h σ G H a _ fun ρ M1 v G1 H1 ⟨y, sb, hl, hk⟩ s1 a1 r1 => ⟨y, sb _ _ r1, hl, wj_run es (acc ++ y) M1 Ξ hk σ G1 H1 a1 Q fun out M2 G2 H2 h2 s2 a2 => q out M2 G2 H2 h2 (s1.trans s2) a2⟩
/-- f'..' -/
theorem we_joined {v1 v2 : Expr} {rest : List Expr} (h : WJ X E Γ M (v1 :: v2 :: rest) Str.empty fun out M' => Φ (RS out) M') : WE X E Γ M (.JoinedStr (v1 :: v2 :: rest) pos) Φ :=
  we_of (pe_joined (pj_w _)) fun σ G H a Q q => wj_run _ _ _ _ h σ G H a _ fun out M' G' H' hk s1 a1 => q _ M' _ G' H' hk s1 a1 rfl
end
end MM

namespace MM
open PySem L2 PyProof.Rows
/-! ### repr(x) of an own instance -/
section
open PySem.W
variable {prog : Program} {w : World} {A : Around} {E : Value → Shared → Prop} {s : Shared} {K : PySem.W.Frag} {x C f : Addr} {ox : Obj} {od : Option Obj}
theorem repr_own {Q : Value → Shared → Prop} (hu : A.in1.units < cLine) (X : K.In s.heap) (I : InstAt s.heap x ox C od) (hs : findIn K (.ref C) "__repr__" = some (some (.ref f))) (hf : isFn K (.ref f) = true)
    (h : wpAny (model prog w) A.in1 (call (.ref f) [.ref x]) (StrBack Q) E s) : wpAny (model prog w) A (call (.builtin "repr") [.ref x]) Q E s := by
  have last : wpAny (model prog w) A.in1 (callSpecialIfBound? (.ref x) (Str.ofString "__repr__") []) (fun r s' => ∃ y t, r = some (.str y t) ∧ Q (.str y t) s') E s := ifBound_K X I hs hf (wpAny_mono h (fun r s' hr => by cases r <;> first | exact hr.elim | exact ⟨_, _, rfl, hr⟩) fun _ _ z => z)
  refine Calls.call_function_entry PySem.F.kind_repr PySem.F.plain_repr PySem.F.entry_repr (PySem.F.args_repr1 _) ?_
  unfold Builtin.«repr»
  refine wpAny_bind (m := oneArg "repr" _) (wpAny_pure ?_)
  refine wpAny_bind (m := cRoomFor _ _) (wpAny_cRoomFor hu ?_)
  refine wpAny_bind (m := specialOf (.ref x) (Str.ofString "__repr__")) (wpAny_bind (I.type.here ((looks_findIn X hs).here ?_)))
  refine wpAny_bind (m := callSpecialIfBound? (.ref x) (Str.ofString "__repr__") []) (wpAny_mono last (fun r s' ⟨y, t, er, q⟩ => ?_) fun _ _ z => z)
  subst er
  refine wpAny_bind (wpAny_isInstance (T := "str") (b := true) (typeIs_str _ _ _) isSubtype_str_str ?_)
  exact wpAny_pure ⟨_, rfl, q⟩
end
section
variable {X : Cx} {n : Nat} {C f a : Addr} {fd : FuncData} {ps : List Str} {sp : Sp}
theorem call_reprO (F : FnOk X.prog X.w X.K X.mg X.base CX0 n f fd ps sp) (hs : PySem.W.findIn X.K (.ref C) "__repr__" = some (some (.ref f))) (hf : PySem.W.isFn X.K (.ref f) = true) (hb : Binds X.K fd ps []) (hx : Passes CX0 X E0) (hr : Room (n + 1) X.A) : CallR X (.builtin "repr") (rStrO C sp) := by
  intro pins s σ H xs us Q I r h
  obtain ⟨a, dx, fs, rfl, ha, q⟩ := h
  obtain ⟨u, rfl, ru⟩ := r.one
  cases (show u = Value.ref a from ru)
  obtain ⟨mA, J, _⟩ := ins_get I.hok ha
  obtain ⟨od, J, _⟩ := J.look
  have hr1 : Room n X.A.in1 := Room.in1 hr
  exact repr_own hr1.units0 I.kIn J hs hf (wpAny_mono (run_own F hb hr1 I.env0.in1 hx I q) (fun w s' z => txBack z) fun _ _ x => x)
end
section
variable {X : Cx} {E : En} {Γ : Gm} {M : Ow} {e : Expr} {pos p : Pos} {Φ : Rep → Ow → Prop} {k : Nat} {C : Addr} {c : Con}
/-- repr(x) -/
theorem we_reprO (F : KnO X.prog X.w X.K X.mg X.base k C "__repr__" c) (hr : Room (k + 1) X.A) (hg : Gl X "repr") (hm : X.mg "repr" = none) (hx : Passes CX0 X E0)
    (h : WE X E Γ M e fun ρ M1 => (∃ l, MM.Sub ρ (RIns C l)) ∧ CallK c [ρ] M1 fun ρ' M' => (∃ t, MM.Sub ρ' (RS t)) ∧ Φ ρ' M')
    (he : starEach [e] X.env = (false, eval e X.env) :: starEach [] X.env := by rfl) (hpl : (backTo pos (starEach [] X.env)).any (·.1) = false := by rfl) : WE X E Γ M (.Call (.Name "repr" p) [e] [] pos) Φ := by
  obtain ⟨f, fd, ps, hs, hf, hb, ok⟩ := F
  refine we_callB (call_reprO ok hs hf hb hx hr) hg hm (by decide +kernel) (wa_cons ?_ he) (by decide) (by decide) he hpl
  intro σ G H at_ Q q
  exact h σ G H at_ Q fun ρ M' v G' H' ⟨s1, ck⟩ => q ρ M' v G' H' (wa_nil (caw_own rfl s1 ck))
end
/-! ### texts that may be laid -/
theorem strOk_of {s : String} : PyData.strOk (Str.ofString s) = true := by
  rw [Str.ofString_eq_toList]
  unfold PyData.strOk
  rw [Array.all_eq_true_iff_forall_mem]
  intro c hc
  have hc : c ∈ s.toList.map Char.toNat := by simpa using hc
  obtain ⟨d, _, rfl⟩ := List.mem_map.mp hc
  have hv : d.val.toNat < 1114112 := by
    rcases d.valid with h | ⟨_, h⟩ <;> omega
  show decide (d.toNat < 0x110000) = true
  exact decide_eq_true hv
theorem strOk_app {a b : Str} (h1 : PyData.strOk a = true) (h2 : PyData.strOk b = true) : PyData.strOk (a ++ b) = true := by
  unfold PyData.strOk at *
  rw [Str.cps_append, Array.all_append, h1, h2]
  rfl
theorem shaped_so {s : Str} (h : PyData.strOk s = true) : SeqAt.shaped (.str s) = true := by
  simp [SeqAt.shaped, PyData.canLay0, PyData.depth, h]
end MM

namespace MM
open PySem L2 PyProof.Rows
/-! ### == by an own __eq__, whatever it tells -/
def rEqO (C : Addr) (sp : Sp) : R2 := fun x y H Q => ∃ (a b dx dy : Addr) (fs gs : List (Str × V)), x = .ref a ∧ y = .ref b ∧ H a = some (.ins C dx fs) ∧ H b = some (.ins C dy gs) ∧ sp [.ref a, .ref b] H (fun v H' => (∃ k, v = .bl k) ∧ Q v H') E0
theorem op_eqO {X : Cx} {n : Nat} {C f : Addr} {fd : FuncData} {ps : List Str} {sp : Sp} (F : FnOk X.prog X.w X.K X.mg X.base CX0 n f fd ps sp) (hs : PySem.W.findIn X.K (.ref C) "__eq__" = some (some (.ref f))) (hf : PySem.W.isFn X.K (.ref f) = true) (hb : Binds X.K fd ps []) (hx : Passes CX0 X E0) (hr : Room n X.A) : OpR X (compareOp .Eq) (rEqO C sp) := by
  intro pins s σ H x y v u Q I rx ry hq
  obtain ⟨a, b, dx, dy, fs, gs, rfl, rfl, ha, hb', hsp⟩ := hq
  cases rx
  cases ry
  show wpAny (model X.prog X.w) X.A (richCompare .Eq _ _) (EP X pins σ Q) X.xe s
  obtain ⟨mA, J, _⟩ := ins_get I.hok ha
  obtain ⟨mB, J', _⟩ := ins_get I.hok hb'
  obtain ⟨od, J, _⟩ := J.look
  obtain ⟨od', J', _⟩ := J'.look
  obtain ⟨m, hF⟩ := I.fr
  refine PySem.W.cmp_K (op := .Eq) (tb := .ref C) hr.units0 hF I.ok.mod.kin J J'.type (by simp [PySem.W.notFirst]) hs hf ?_
  have hl := F.len _ _ _ _ hsp
  have r2 : Vals [V.ref a, V.ref b] [Value.ref a, Value.ref b] := .cons rfl (.cons rfl .nil)
  refine wpAny_call (codeAny_mono (F.run X.A X.stack s H ⟨[.ref a, .ref b], []⟩ [.ref a, .ref b] [.ref a, .ref b] _ E0 hr I.env0 (by
    have := hb s [.ref a, .ref b] I.kIn (by simpa using hl)
    simpa using this) r2 hsp) fun r s' hq => ?_)
  cases r with
  | error e => exact hx pins σ H s e s' I hq
  | ok fl =>
    cases fl with
    | ret w =>
      obtain ⟨z, H', I', rz, ez, qz⟩ := I.after hq
      obtain ⟨k, ek⟩ := ez
      subst ek
      cases rz
      exact ⟨.bl k, H', I', rfl, qz⟩
    | next => exact False.elim hq
    | brk => exact False.elim hq
    | cont => exact False.elim hq
section
variable {X : Cx} {E : En} {Γ : Gm} {M : Ow} {a b : Expr} {pos : Pos} {Φ : Rep → Ow → Prop} {k : Nat} {C : Addr} {c : Con}
theorem opw_eqO {sp : Sp} {ρa ρb : Rep} (hsp : sp = conSp c) (s1 : ∃ l, MM.Sub ρa (RIns C l)) (s2 : ∃ l, MM.Sub ρb (RIns C l)) (ck : CallK c [ρa, ρb] M fun ρ M' => (∃ k, MM.Sub ρ (RB k)) ∧ Φ ρ M') : OpW E Γ M (rEqO C sp) ρa ρb Φ := fun σ3 G4 H4 at3 x y hx hy Q3 q3 => by
  subst hsp
  obtain ⟨l, s1⟩ := s1
  obtain ⟨l', s2⟩ := s2
  obtain ⟨b1, dx, fs, e1, h1, r1⟩ := s1 _ _ hx
  obtain ⟨b2, dy, gs, e2, h2, r2⟩ := s2 _ _ hy
  have cr := callK_run (EE := E0) (Q := fun v H' => (∃ k, v = .bl k) ∧ Q3 v H') ck at3 (vs := [x, y]) ⟨hx, hy, trivial⟩ fun ρ4 M4 v4 G5 H5 ⟨⟨k, sk⟩, hφ⟩ s4 a4 r4 => ⟨⟨k, sk _ _ r4⟩, q3 ρ4 M4 v4 G5 H5 hφ s4 a4 r4⟩
  subst e1 e2
  exact ⟨b1, b2, dx, dy, fs, gs, rfl, rfl, at3.gh _ _ h1, at3.gh _ _ h2, cr⟩
theorem we_eqO (F : KnE X.prog X.w X.K X.mg X.base k C c) (hr : Room k X.A) (hx : Passes CX0 X E0)
    (h : WE X E Γ M a fun ρa Ma => WE X E Γ Ma b fun ρb Mb => (∃ l, MM.Sub ρa (RIns C l)) ∧ (∃ l, MM.Sub ρb (RIns C l)) ∧ CallK c [ρa, ρb] Mb fun ρ M' => (∃ k, MM.Sub ρ (RB k)) ∧ Φ ρ M') (hm : behindInMarks .Eq b = false := by exact nomark _) : WE X E Γ M (.Compare a [.Eq] [b] pos) Φ := by
  obtain ⟨f, fd, ps, hs, hf, hb, ok⟩ := F
  refine we_cmp (op_eqO ok hs hf hb hx hr) hm ?_
  intro σ G H at_ Q q
  refine h σ G H at_ Q fun ρ M' v G' H' hh => q ρ M' v G' H' ?_
  intro σ2 G2 H2 at2 Q2 q2
  exact hh σ2 G2 H2 at2 Q2 fun ρ2 M2 v2 G3 H3 ⟨s1, s2, ck⟩ => q2 ρ2 M2 v2 G3 H3 (opw_eqO rfl s1 s2 ck)
theorem wt_eqO {Φ : Bool → Ow → Prop} (F : KnE X.prog X.w X.K X.mg X.base k C c) (hr : Room k X.A) (hx : Passes CX0 X E0)
    (h : WE X E Γ M a fun ρa Ma => WE X E Γ Ma b fun ρb Mb => (∃ l, MM.Sub ρa (RIns C l)) ∧ (∃ l, MM.Sub ρb (RIns C l)) ∧ CallK c [ρa, ρb] Mb fun ρ M' => ∃ k, MM.Sub ρ (RB k) ∧ Φ k M') (hm : behindInMarks .Eq b = false := by exact nomark _) : WT X E Γ M (.Compare a [.Eq] [b] pos) Φ := by
  obtain ⟨f, fd, ps, hs, hf, hb, ok⟩ := F
  refine wt_cmp (op_eqO ok hs hf hb hx hr) hm ?_
  intro σ G H at_ Q q
  refine h σ G H at_ Q fun ρ M' v G' H' hh => q ρ M' v G' H' ?_
  intro σ2 G2 H2 at2 Q2 q2
  refine hh σ2 G2 H2 at2 Q2 fun ρ2 M2 v2 G3 H3 ⟨s1, s2, i, rest, hp, sb, pk, hk⟩ => q2 ρ2 M2 v2 G3 H3 (opw_eqO rfl s1 s2 ⟨i, rest, hp, sb, pk, fun x px => ?_⟩)
  obtain ⟨k, sk, hφ⟩ := hk x px
  exact ⟨⟨k, sk⟩, k, sk, hφ⟩
end
end MM

namespace MM
open PySem L2 PyProof.Rows
open PySem.W
section
variable {prog : Program} {w : World} {A : Around} {E : Value → Shared → Prop} {s : Shared} {K : PySem.W.Frag} {x C L f : Addr} {h₀ : Heap} {m : Str → Option Value} {ox : Obj} {od : Option Obj} {b : Value}
theorem check_K {M : Model} {rest : List Value} {Q : Unit → Shared → Prop} (X : K.In s.heap) (I : InstAt s.heap x ox C od) (hsub : subIn K (.ref C) (.type "object") = some true) (ha : argsOk "object.__ne__" ⟨.ref x :: rest, []⟩) (hq : Q () s) :
    wpAny M A (checkBuiltinCall "object.__ne__" ⟨.ref x :: rest, []⟩) Q E s := by
  simp only [checkBuiltinCall, PySem.F.cmpKind_ne, PySem.F.cmpSplit_ne]
  refine wpAny_bind ?_
  · unfold isInstance
    refine wpAny_bind (I.type.here ((looks_subIn X hsub).here ?_))
    simp only [Bool.not_true, Bool.false_eq_true, if_false]
    cases hsig : Manifest.signature? "object.__ne__" with
    | none => exact wpAny_pure hq
    | some sig =>
      simp only [argsOk, hsig] at ha
      have h2 : Bind.checkArgs "object.__ne__" sig ⟨.ref x :: rest, []⟩ = pure () := ha
      show wpAny M A (Bind.checkArgs "object.__ne__" sig ⟨.ref x :: rest, []⟩) Q E _
      rw [h2]; exact wpAny_pure hq
/-- the body of the default != -/
theorem body_K {Q : Fin → Shared → Prop} (hu : A.units < cLine) (X : K.In s.heap) (I : InstAt s.heap x ox C od) (hs : findIn K (.ref C) "__eq__" = some (some (.ref f))) (hf : isFn K (.ref f) = true)
    (hcall : wpAny (model prog w) A (call (.ref f) [.ref x, b]) (fun v s' => ∃ k, v = .bool k ∧ Q (.done (.ret (.bool (!k)))) s') E s) :
    wpAny (model prog w) A (Builtin.«object.__ne__» ⟨[.ref x, b], []⟩) Q E s := by
  unfold Builtin.«object.__ne__»
  repeat (first
    | with_reducible refine wpAny_cRoomFor hu ?_
    | (refine wpAny_bind (m := callSpecialIfBound? (.ref x) (Str.ofString "__eq__") [b])
        (ifBound_K X I hs hf (wpAny_mono hcall (fun r s' hr => by
          obtain ⟨k, rfl, hq⟩ := hr
          repeat (first | exact hq | exact wpAny_pure hq | exact wpAny_truthy_bool hq | (refine wpAny_bind (m := truthy (.bool _)) (wpAny_truthy_bool ?_)) | wp_step)) fun _ _ e => e)))
    | wp_step)
theorem ne_bound {Q : Option Value → Shared → Prop} (hu : A.units + 1 < cLine) (X : K.In s.heap) (I : InstAt s.heap x ox C od) (hne : findIn K (.ref C) "__ne__" = some (some (.builtin "object.__ne__"))) (hsub : subIn K (.ref C) (.type "object") = some true)
    (hcall : wpAny (model prog w) A (call (.builtin "object.__ne__") [.ref x, b]) (fun v => Q (some v)) E s) : wpAny (model prog w) A (callSpecialIfBound? (.ref x) "__ne__" [b]) Q E s := by
  simp only [callSpecialIfBound?, bindSpecialIfBound?]
  refine wpAny_holding (wpAny_bind (wpAny_bind (wpAny_bind (I.type.here ((looks_findIn X hne).here ?_)))))
  simp only [PySem.F.cmp_object.ne.bind]
  refine wpAny_bind (wpAny_askSetting (wpAny_ite ?_))
  have fin : wpAny (model prog w) A (call (.builtin "object.__ne__") ([.ref x] ++ [b]) >>= fun v => pure (some v)) Q E s :=
    wpAny_bind (wpAny_mono hcall (fun v s' h' => wpAny_pure h') fun _ _ h' => h')
  split
  · exact wpAny_bind (wpAny_pure (wpAny_pure fin))
  · exact wpAny_tryCatch (wpAny_bind (wpAny_pure (wpAny_pure fin)))
theorem ne_K {Q : Value → Shared → Prop} (hu : A.units + 1 < cLine) (F : Fr h₀ L s.heap m) (X₀ : K.In h₀) (I : InstAt s.heap x ox C od) (hb : Looks (model prog w) s.heap (typeOf b) (.ref C)) (hne : findIn K (.ref C) "__ne__" = some (some (.builtin "object.__ne__"))) (hsub : subIn K (.ref C) (.type "object") = some true)
    (hs : findIn K (.ref C) "__eq__" = some (some (.ref f))) (hf : isFn K (.ref f) = true)
    (h : wpAny (model prog w) A.in1 (call (.ref f) [.ref x, b]) (fun v s' => ∃ k, v = .bool k ∧ Q (.bool (!k)) s') E s) : wpAny (model prog w) A (richCompare .NotEq (.ref x) b) Q E s := by
  have X := X₀.keeps F.keep
  have one : wpAny (model prog w) A (tryCompare (.ref x) "__ne__" b) (fun r s' => ∃ v, r = some v ∧ Q v s') E s := by
    simp only [tryCompare]
    refine wpAny_bind (ne_bound hu X I hne hsub (wpAny_call (codeAny_call_builtin PySem.F.cmp_object.ne.plain PySem.F.cmpEntry_ne (check_K X I hsub (PySem.F.cmpArgs_ne _ _) (body_K (A := A.in1) ?_ X I hs hf (wpAny_mono h (fun v s' hv => ?_) fun _ _ e => e))))))
    · exact hu
    · obtain ⟨k, rfl, hq⟩ := hv
      first | exact ⟨k, rfl, wpAny_pure ⟨_, rfl, hq⟩⟩ | exact ⟨k, rfl, wpAny_pure (wpAny_pure ⟨_, rfl, hq⟩)⟩
  unfold richCompare
  simp only [oneThing_ref]
  refine wpAny_holding (wpAny_bind (wpAny_cRoomFor (Nat.lt_of_succ_lt hu) ?_))
  refine wpAny_bind (I.type.here (wpAny_bind (hb.here ?_)))
  rw [show (Value.ref C != Value.ref C) = false from by simp]
  simp only [Bool.false_eq_true, if_false]
  refine wpAny_bind (wpAny_pure ?_)
  simp only [Bool.false_eq_true, if_false]
  refine wpAny_bind (wpAny_mono one (fun r s' z => ?_) fun _ _ e => e)
  obtain ⟨v, rfl, hq⟩ := z
  exact wpAny_pure hq
end
/-! ### != by an own __eq__ -/
def rNeO (C : Addr) (sp : Sp) : R2 := fun x y H Q => ∃ (a b dx dy : Addr) (fs gs : List (Str × V)), x = .ref a ∧ y = .ref b ∧ H a = some (.ins C dx fs) ∧ H b = some (.ins C dy gs) ∧ sp [.ref a, .ref b] H (fun v H' => ∃ k, v = .bl k ∧ Q (.bl (!k)) H') E0
theorem op_neO {X : Cx} {n : Nat} {C f : Addr} {fd : FuncData} {ps : List Str} {sp : Sp} (F : FnOk X.prog X.w X.K X.mg X.base CX0 n f fd ps sp) (hs : PySem.W.findIn X.K (.ref C) "__eq__" = some (some (.ref f))) (hf : PySem.W.isFn X.K (.ref f) = true) (hb : Binds X.K fd ps []) (hne : findIn X.K (.ref C) "__ne__" = some (some (.builtin "object.__ne__"))) (hsub : subIn X.K (.ref C) (.type "object") = some true) (hx : Passes CX0 X E0) (hr : Room (n + 1) X.A) : OpR X (compareOp .NotEq) (rNeO C sp) := by
  intro pins s σ H x y v u Q I rx ry hq
  obtain ⟨a, b, dx, dy, fs, gs, rfl, rfl, ha, hb', hsp⟩ := hq
  cases rx
  cases ry
  show wpAny (model X.prog X.w) X.A (richCompare .NotEq _ _) (EP X pins σ Q) X.xe s
  obtain ⟨mA, J, _⟩ := ins_get I.hok ha
  obtain ⟨mB, J', _⟩ := ins_get I.hok hb'
  obtain ⟨od, J, _⟩ := J.look
  obtain ⟨od', J', _⟩ := J'.look
  obtain ⟨m, hF⟩ := I.fr
  refine ne_K hr.in1.units0 hF I.ok.mod.kin J J'.type hne hsub hs hf ?_
  have hl := F.len _ _ _ _ hsp
  have r2 : Vals [V.ref a, V.ref b] [Value.ref a, Value.ref b] := .cons rfl (.cons rfl .nil)
  refine wpAny_call (codeAny_mono (F.run X.A.in1 X.stack s H ⟨[.ref a, .ref b], []⟩ [.ref a, .ref b] [.ref a, .ref b] _ E0 hr.in1 I.env0.in1 (by
    have := hb s [.ref a, .ref b] I.kIn (by simpa using hl)
    simpa using this) r2 hsp) fun r s' hq => ?_)
  cases r with
  | error e => exact hx pins σ H s e s' I hq
  | ok fl =>
    cases fl with
    | ret w =>
      obtain ⟨z, H', I', rz, ez⟩ := I.after hq
      obtain ⟨k, ek, qz⟩ := ez
      subst ek
      cases rz
      exact ⟨k, rfl, .bl (!k), H', I', rfl, qz⟩
    | next => exact False.elim hq
    | brk => exact False.elim hq
    | cont => exact False.elim hq
structure KnN (P : Program) (w : World) (K : PySem.W.Frag) (mg : Str → Option Value) (base : Heap) (k : Nat) (C : Addr) (c : Con) : Prop where
  eq : KnE P w K mg base k C c
  ne : findIn K (.ref C) "__ne__" = some (some (.builtin "object.__ne__"))
  sub : subIn K (.ref C) (.type "object") = some true
section
variable {X : Cx} {E : En} {Γ : Gm} {M : Ow} {a b : Expr} {pos : Pos} {k : Nat} {C : Addr} {c : Con}
theorem wt_neO {Φ : Bool → Ow → Prop} (F : KnN X.prog X.w X.K X.mg X.base k C c) (hr : Room (k + 1) X.A) (hx : Passes CX0 X E0)
    (h : WE X E Γ M a fun ρa Ma => WE X E Γ Ma b fun ρb Mb => (∃ l, MM.Sub ρa (RIns C l)) ∧ (∃ l, MM.Sub ρb (RIns C l)) ∧ CallK c [ρa, ρb] Mb fun ρ M' => ∃ k, MM.Sub ρ (RB k) ∧ Φ (!k) M') (hm : behindInMarks .NotEq b = false := by exact nomark _) : WT X E Γ M (.Compare a [.NotEq] [b] pos) Φ := by
  obtain ⟨⟨f, fd, ps, hs, hf, hb, ok⟩, hne, hsub⟩ := F
  refine wt_cmp (op_neO ok hs hf hb hne hsub hx hr) hm ?_
  intro σ G H at_ Q q
  refine h σ G H at_ Q fun ρ M' v G' H' hh => q ρ M' v G' H' ?_
  intro σ2 G2 H2 at2 Q2 q2
  refine hh σ2 G2 H2 at2 Q2 fun ρ2 M2 v2 G3 H3 ⟨⟨l, s1⟩, ⟨l', s2⟩, ck⟩ => q2 ρ2 M2 v2 G3 H3 ?_
  intro σ3 G4 H4 at3 x y hx' hy' Q3 q3
  obtain ⟨b1, dx, fs, e1, h1, r1⟩ := s1 _ _ hx'
  obtain ⟨b2, dy, gs, e2, h2, r2⟩ := s2 _ _ hy'
  have cr := callK_run (EE := E0) (Q := fun v H' => ∃ k, v = .bl k ∧ Q3 (.bl (!k)) H') ck at3 (vs := [x, y]) ⟨hx', hy', trivial⟩ fun ρ4 M4 v4 G5 H5 ⟨k, sk, hφ⟩ s4 a4 r4 => ⟨k, sk _ _ r4, q3 (RB (!k)) M4 _ G5 H5 ⟨!k, Sub.rfl, hφ⟩ s4 a4 rfl⟩
  subst e1 e2
  exact ⟨b1, b2, dx, dy, fs, gs, rfl, rfl, at3.gh _ _ h1, at3.gh _ _ h2, cr⟩
end
end MM

namespace MM
open PySem L2 PyProof.Rows
/-! ### an own instance beside a thing of a built-in type -/
section
open PySem.W
variable {prog : Program} {w : World} {A : Around} {E : Value → Shared → Prop} {s : Shared} {K : PySem.W.Frag} {x C L f : Addr} {h₀ : Heap} {m : Str → Option Value} {ox : Obj} {od : Option Obj} {b tb : Value}
/-- the default != of an own thing and another -/
theorem ne_KF {Q : Value → Shared → Prop} (hu : A.units + 1 < cLine) (F : Fr h₀ L s.heap m) (X₀ : K.In h₀) (I : InstAt s.heap x ox C od) (hb : Looks (model prog w) s.heap (typeOf b) tb) (hn : notFirst K C tb = true) (hne : findIn K (.ref C) "__ne__" = some (some (.builtin "object.__ne__"))) (hsub : subIn K (.ref C) (.type "object") = some true)
    (hs : findIn K (.ref C) "__eq__" = some (some (.ref f))) (hf : isFn K (.ref f) = true)
    (h : wpAny (model prog w) A.in1 (call (.ref f) [.ref x, b]) (fun v s' => ∃ k, v = .bool k ∧ Q (.bool (!k)) s') E s) : wpAny (model prog w) A (richCompare .NotEq (.ref x) b) Q E s := by
  have X := X₀.keeps F.keep
  have one : wpAny (model prog w) A (tryCompare (.ref x) "__ne__" b) (fun r s' => ∃ v, r = some v ∧ Q v s') E s := by
    simp only [tryCompare]
    refine wpAny_bind (ne_bound hu X I hne hsub (wpAny_call (codeAny_call_builtin PySem.F.cmp_object.ne.plain PySem.F.cmpEntry_ne (check_K X I hsub (PySem.F.cmpArgs_ne _ _) (body_K (A := A.in1) ?_ X I hs hf (wpAny_mono h (fun v s' hv => ?_) fun _ _ e => e))))))
    · exact hu
    · obtain ⟨k, rfl, hq⟩ := hv
      first | exact ⟨k, rfl, wpAny_pure ⟨_, rfl, hq⟩⟩ | exact ⟨k, rfl, wpAny_pure (wpAny_pure ⟨_, rfl, hq⟩)⟩
  unfold richCompare
  simp only [oneThing_ref]
  refine wpAny_holding (wpAny_bind (wpAny_cRoomFor (Nat.lt_of_succ_lt hu) ?_))
  refine wpAny_bind (I.type.here (wpAny_bind (hb.here ?_)))
  have tail : wpAny (model prog w) A (tryCompare (.ref x) "__ne__" b >>= fun r => match r with
      | some v => pure v
      | none => pure (Value.bool false)) Q E s := wpAny_bind (wpAny_mono one (fun r s' z => by obtain ⟨v, rfl, hq⟩ := z; exact wpAny_pure hq) fun _ _ e => e)
  split
  · rename_i q
    have e : subIn K tb (.ref C) = some false := by
      rcases Bool.or_eq_true_iff.mp hn with e | e
      · rw [beq_iff_eq.mp e] at q; simp at q
      · exact beq_iff_eq.mp e
    refine wpAny_bind ((looks_subIn X e).here ?_)
    simp only [Bool.false_eq_true, if_false]
    refine wpAny_bind (wpAny_mono one (fun r s' z => ?_) fun _ _ e => e)
    obtain ⟨v, rfl, hq⟩ := z
    exact wpAny_pure hq
  · refine wpAny_bind (wpAny_pure ?_)
    simp only [Bool.false_eq_true, if_false]
    refine wpAny_bind (wpAny_mono one (fun r s' z => ?_) fun _ _ e => e)
    obtain ⟨v, rfl, hq⟩ := z
    exact wpAny_pure hq
end
theorem notF {K : PySem.W.Frag} {C : Addr} {t : Value} (h : PySem.W.subIn K t (.ref C) = some false) : PySem.W.notFirst K C t = true := by
  unfold PySem.W.notFirst
  rw [h]
  simp
/-- own == other, own != other: by the own __eq__ -/
def rFrg (K : PySem.W.Frag) (C : Addr) (sp : Sp) (g : Bool → Bool) : R2 := fun x y H Q => ∃ (a dx : Addr) (fs : List (Str × V)) (t : Value), x = .ref a ∧ H a = some (.ins C dx fs) ∧ TyX K H y t ∧ PySem.W.subIn K t (.ref C) = some false ∧ sp [x, y] H (fun v H' => ∃ k, v = .bl k ∧ Q (.bl (g k)) H') E0
section
variable {X : Cx} {n : Nat} {C f : Addr} {fd : FuncData} {ps : List Str} {sp : Sp}
theorem run_eq2 {A : Around} {pins : List (Addr × Obj)} {σ : L2.St} {H : Hp} {s : Shared} {x y : V} {u v : Value} {R : Value → Shared → Prop} {Q : VK} (F : FnOk X.prog X.w X.K X.mg X.base CX0 n f fd ps sp) (hb : Binds X.K fd ps []) (hx : Passes CX0 X E0) (hr : Room n A) (e0 : Env0 X.prog X.w X.K X.mg X.base A X.stack s H) (I : L2.Inv X pins σ H s) (rx : RelV x u) (ry : RelV y v)
    (hsp : sp [x, y] H Q E0) (k : ∀ z s' w, RelV z w → (∃ H', L2.Inv X pins σ H' s' ∧ Q z H') → R w s') : wpAny (model X.prog X.w) A (call (.ref f) [u, v]) R X.xe s := by
  have hl := F.len _ _ _ _ hsp
  have r2 : Vals [x, y] [u, v] := .cons rx (.cons ry .nil)
  refine wpAny_call (codeAny_mono (F.run A X.stack s H ⟨[u, v], []⟩ [u, v] [x, y] _ E0 hr e0 (by
    have := hb s [u, v] I.kIn (by simpa using hl)
    simpa using this) r2 hsp) fun r s' hq => ?_)
  cases r with
  | error e => exact hx pins σ H s e s' I hq
  | ok fl =>
    cases fl with
    | ret w =>
      obtain ⟨z, H', I', rz, q⟩ := I.after hq
      exact k z s' w rz ⟨H', I', q⟩
    | next => exact False.elim hq
    | brk => exact False.elim hq
    | cont => exact False.elim hq
theorem op_eqF (F : FnOk X.prog X.w X.K X.mg X.base CX0 n f fd ps sp) (hs : PySem.W.findIn X.K (.ref C) "__eq__" = some (some (.ref f))) (hf : PySem.W.isFn X.K (.ref f) = true) (hb : Binds X.K fd ps []) (hx : Passes CX0 X E0) (hr : Room n X.A) : OpR X (compareOp .Eq) (rFrg X.K C sp id) := by
  intro pins s σ H x y v u Q I rx ry hq
  obtain ⟨a, dx, fs, t, rfl, ha, ty, hsub, hsp⟩ := hq
  cases rx
  show wpAny (model X.prog X.w) X.A (richCompare .Eq _ _) (EP X pins σ Q) X.xe s
  obtain ⟨mA, J, _⟩ := ins_get I.hok ha
  obtain ⟨od, J, _⟩ := J.look
  obtain ⟨m, hF⟩ := I.fr
  obtain ⟨P, Z, p, _⟩ := kit_of I ry ty
  refine PySem.W.cmp_K (op := .Eq) hr.units0 hF I.ok.mod.kin J (Z.ty _ _ I.kIn p) (notF hsub) hs hf ?_
  refine run_eq2 F hb hx hr I.env0 I (show RelV (V.ref a) (Value.ref a) from rfl) ry hsp fun z s' w rz ⟨H', I', k, ez, q⟩ => ?_
  subst ez
  cases rz
  exact ⟨.bl k, H', I', rfl, q⟩
theorem op_neF (F : FnOk X.prog X.w X.K X.mg X.base CX0 n f fd ps sp) (hs : PySem.W.findIn X.K (.ref C) "__eq__" = some (some (.ref f))) (hf : PySem.W.isFn X.K (.ref f) = true) (hb : Binds X.K fd ps []) (hne : PySem.W.findIn X.K (.ref C) "__ne__" = some (some (.builtin "object.__ne__"))) (hso : PySem.W.subIn X.K (.ref C) (.type "object") = some true) (hx : Passes CX0 X E0) (hr : Room (n + 1) X.A) : OpR X (compareOp .NotEq) (rFrg X.K C sp not) := by
  intro pins s σ H x y v u Q I rx ry hq
  obtain ⟨a, dx, fs, t, rfl, ha, ty, hsub, hsp⟩ := hq
  cases rx
  show wpAny (model X.prog X.w) X.A (richCompare .NotEq _ _) (EP X pins σ Q) X.xe s
  obtain ⟨mA, J, _⟩ := ins_get I.hok ha
  obtain ⟨od, J, _⟩ := J.look
  obtain ⟨m, hF⟩ := I.fr
  obtain ⟨P, Z, p, _⟩ := kit_of I ry ty
  refine ne_KF hr.in1.units0 hF I.ok.mod.kin J (Z.ty _ _ I.kIn p) (notF hsub) hne hso hs hf ?_
  refine run_eq2 F hb hx hr.in1 I.env0.in1 I (show RelV (V.ref a) (Value.ref a) from rfl) ry hsp fun z s' w rz ⟨H', I', k, ez, q⟩ => ?_
  subst ez
  cases rz
  exact ⟨k, rfl, .bl (!k), H', I', rfl, q⟩
end
end MM

namespace MM
open PySem L2 PyProof.Rows
/-! ### x in a list whose items tell by an own __eq__ -/
section
open PySem.SeqAt
open AutoSeq1 (wpAny_loadPart')
open MeetsSeq MeetsSeq2 MeetsSeq3 SeqRoads2
variable {prog : Program} {w : World} {A : Around} {R : Result → Shared → Prop} {l : Addr} {N : Nat}
/-- what stands at l while x is sought: J tells what holds while the items ahead of i were not equal, B what holds of the answer -/
def Seeks (prog : Program) (w : World) (A : Around) (E : Value → Shared → Prop) (l : Addr) (N : Nat) (x : Value) (J : Nat → Shared → Prop) (B : Bool → Shared → Prop) : Prop :=
  ∀ i s, J i s → ∃ (items : Array Value) (n : Nat) (sl : Array (Option Value)), s.heap.get? l = some { cls := .type "list", data := .seq items n, slots := sl } ∧ items.size = N ∧ (N ≤ i → B false s) ∧
    ∀ h : i < items.size, wpAny (model prog w) A.in1 (eqBool items[i] x) (fun r s' => if r = true then B true s' else J (i + 1) s') E s
theorem seek_loop {x : Value} {J : Nat → Shared → Prop} {B : Bool → Shared → Prop} (look : Seeks prog w A (fun e s' => R (.error e) s') l N x J B) (told : ∀ b s, B b s → R (.ok (.ret (.bool b))) s) :
    ∀ (k i : Nat), i + k = N → ∀ s, J i s → wpAny (model prog w) A.in1 (Builtin.«list.__contains__.loop» ⟨[.ref l, x, rawInt i], []⟩) (GQ.FinOf prog w A R) (fun e s' => R (.error e) s') s
  | 0, i, hk, s, j => by
    obtain ⟨items, n, sl, hl, hN, out, _⟩ := look i s j
    have done := told _ _ (out (by omega))
    obtain ⟨hp, g, d, tk, os⟩ := s
    wp_walk using wpAny_loadPart' hl
    have hi : items[((i : Nat) : Int).toNat]? = none := by simp; omega
    rw [hi]
    wp_walk
    exact done
  | k + 1, i, hk, s, j => by
    obtain ⟨items, n, sl, hl, hN, _, turn⟩ := look i s j
    have hlt : i < items.size := by omega
    have tn := turn hlt
    have rest := fun s' j' => seek_loop look told k (i + 1) (by omega) s' j'
    obtain ⟨hp, g, d, tk, os⟩ := s
    wp_walk using wpAny_loadPart' hl
    have hi : items[((i : Nat) : Int).toNat]? = some items[i] := by simp [hlt]
    rw [hi]
    refine wpAny_bind (wpAny_mono tn (fun r s' z => ?_) fun _ _ y => y)
    cases r with
    | true =>
      have done := told _ _ (show B true s' from z)
      obtain ⟨hp, g, d, tk, os⟩ := s'
      wp_walk
      exact done
    | false =>
      have go := rest s' (show J (i + 1) s' from z)
      have hc : ((i : Int) + 1) = ((i + 1 : Nat) : Int) := by omega
      obtain ⟨hp, g, d, tk, os⟩ := s'
      wp_walk
      rw [hc]
      exact ⟨plainId_quiet plain_contains_loop _, codeAny_builtin entry_contains_loop (by
        rw [Around.under_plainId plain_contains_loop _]
        exact go)⟩
theorem seek_call {E : Value → Shared → Prop} {s : Shared} {x : Value} {J : Nat → Shared → Prop} {B : Bool → Shared → Prop} (look : Seeks prog w A E l N x J B) (j : J 0 s) : wpAny (model prog w) A (call (.builtin "list.__contains__") [.ref l, x]) (fun v s' => ∃ b, v = .bool b ∧ B b s') E s := by
  obtain ⟨items, n, sl, hl, hN, _, _⟩ := look 0 s j
  refine GQ.call_here F.slot_list_contains ⟨_, hl, rfl⟩ F.entry_list_contains (F.args_list_contains_2 _ _) ?_
  have go := seek_loop (R := wants (fun v s' => ∃ b, v = .bool b ∧ B b s') E) look (fun b s z => ⟨b, rfl, z⟩) N 0 (by omega) s j
  obtain ⟨hp, g, d, tk, os⟩ := s
  wp_walk using wpAny_loadPart' hl
  exact ⟨plainId_quiet plain_contains_loop _, codeAny_builtin entry_contains_loop (by
    rw [Around.under_plainId plain_contains_loop _]
    exact go)⟩
end
/-! ### pairs that == tells alike or apart -/
/-- D x y k: x == y tells k -/
abbrev Tel := V → V → Bool → Hp → Prop
def TelG (X : Cx) (n : Nat) (D : Tel) : Prop := ∀ (A : Around) (pins : List (Addr × Obj)) (s : Shared) (σ : L2.St) (H : Hp) (x y : V) (k : Bool) (u v : Value), L2.Sub X n A → L2.Inv X pins σ H s → RelV x u → RelV y v → D x y k H →
    wpAny (model X.prog X.w) A (eqBool u v) (fun r s' => r = k ∧ ∃ H', L2.Inv X pins σ H' s' ∧ L2.Ext H H') X.xe s
def TelM (D : Tel) : Prop := ∀ x y k H H', L2.Ext H H' → D x y k H → D x y k H'
/-- which of the items is the first that is equal -/
inductive Seek (D : Tel) (y : V) : List V → Bool → Hp → Prop
  | nil {H : Hp} : Seek D y [] false H
  | hit {x : V} {xs : List V} {H : Hp} : D x y true H → Seek D y (x :: xs) true H
  | miss {x : V} {xs : List V} {b : Bool} {H : Hp} : D x y false H → Seek D y xs b H → Seek D y (x :: xs) b H
theorem Seek.mono {D : Tel} (m : TelM D) {y : V} {xs : List V} {b : Bool} {H H' : Hp} (e : L2.Ext H H') (h : Seek D y xs b H) : Seek D y xs b H' := by
  induction h with
  | nil => exact .nil
  | hit d => exact .hit (m _ _ _ _ _ e d)
  | miss d _ ih => exact .miss (m _ _ _ _ _ e d) (ih e)
def rInG (K : PySem.W.Frag) (D : Tel) (g : Bool → Bool) : R2 := fun x y H Q => ∃ (a : Addr) (xs : List V) (b : Bool), y = .ref a ∧ L2.SqL K H a xs ∧ Seek D x xs b H ∧ ∀ H', L2.Ext H H' → Q (.bl (g b)) H'
section
variable {X : Cx} {n : Nat} {D : Tel}
/-- the answer, of the items from i on -/
def LeftK (X : Cx) (D : Tel) (pins : List (Addr × Obj)) (σ : L2.St) (H : Hp) (x : V) (xs : List V) (b : Bool) (i : Nat) (s' : Shared) : Prop := ∃ H', L2.Inv X pins σ H' s' ∧ L2.Ext H H' ∧ Seek D x (xs.drop i) b H'
theorem seek_run (m : TelM D) (T : TelG X n D) {A : Around} (sb : L2.Sub X (n + 1) A) {pins : List (Addr × Obj)} {s : Shared} {σ : L2.St} {H : Hp} {x : V} {v : Value} {a : Addr} {xs : List V} {b : Bool} (I : L2.Inv X pins σ H s) (rx : RelV x v) (hl : L2.SqL X.K H a xs) (sk : Seek D x xs b H) :
    wpAny (model X.prog X.w) A (call (.builtin "list.__contains__") [.ref a, v]) (fun r s' => ∃ c, r = .bool c ∧ c = b ∧ ∃ H', L2.Inv X pins σ H' s' ∧ L2.Ext H H') X.xe s := by
  refine seek_call (N := xs.length) (J := LeftK X D pins σ H x xs b) (B := fun c s' => c = b ∧ ∃ H', L2.Inv X pins σ H' s' ∧ L2.Ext H H') ?_ ⟨H, I, L2.Ext.rfl', by rw [List.drop_zero]; exact sk⟩
  rintro i s1 ⟨H1, I1, e1, sk1⟩
  obtain ⟨its, rv, ⟨⟨cls, dd, data, sls⟩, n0, ho, hc, hdn, hdt⟩, hlen⟩ := I1.list (hl.ext e1)
  simp only at hc hdn hdt
  subst hc hdn hdt
  refine ⟨its.toArray, n0, sls, ho, by rw [List.size_toArray, ← rv.length], fun hi => ?_, fun hi => ?_⟩
  · rw [List.drop_of_length_le hi] at sk1
    cases sk1
    exact ⟨rfl, H1, I1, e1⟩
  · have hi' : i < its.length := by simpa using hi
    have hx : i < xs.length := by rw [rv.length]; exact hi'
    rw [List.drop_eq_getElem_cons hx] at sk1
    obtain ⟨u, hu, ru⟩ := rv.get (List.getElem?_eq_getElem hx)
    have eu : its.toArray[i] = u := by
      rw [List.getElem?_eq_getElem hi'] at hu
      simpa using hu
    rw [eu]
    cases sk1 with
    | hit d =>
      refine wpAny_mono (T A.in1 pins s1 σ H1 _ _ _ _ _ sb.in1 I1 ru rx d) (fun r s2 ⟨er, H2, I2, e2⟩ => ?_) fun _ _ z => z
      subst er
      exact ⟨rfl, H2, I2, e1.trans e2⟩
    | miss d rest =>
      refine wpAny_mono (T A.in1 pins s1 σ H1 _ _ _ _ _ sb.in1 I1 ru rx d) (fun r s2 ⟨er, H2, I2, e2⟩ => ?_) fun _ _ z => z
      subst er
      exact ⟨H2, I2, e1.trans e2, rest.mono m e2⟩
theorem op_inG (m : TelM D) (T : TelG X n D) (hr : Room (n + 1) X.A) : OpR X (compareOp .In) (rInG X.K D id) := by
  intro pins s σ H x y v u Q I rx ry ⟨a, xs, b, ey, hl, sk, q⟩
  subst ey
  cases ry
  obtain ⟨its, rv, ⟨⟨cls, dd, data, sls⟩, n0, ho, hc, hdn, hdt⟩, hlen⟩ := I.list hl
  refine In_slot ⟨_, ho, hc⟩ F.slot_list_contains (wpAny_mono (seek_run m T ⟨hr, rfl⟩ I rx hl sk) (fun r s' ⟨c, er, ec, H', I', e'⟩ => ?_) fun _ _ z => z)
  subst er ec
  exact wpAny_truthy_bool ⟨.bl c, H', I', rfl, q H' e'⟩
theorem op_notInG (m : TelM D) (T : TelG X n D) (hr : Room (n + 1) X.A) : OpR X (compareOp .NotIn) (rInG X.K D not) := by
  intro pins s σ H x y v u Q I rx ry ⟨a, xs, b, ey, hl, sk, q⟩
  subst ey
  cases ry
  obtain ⟨its, rv, ⟨⟨cls, dd, data, sls⟩, n0, ho, hc, hdn, hdt⟩, hlen⟩ := I.list hl
  refine NotIn_slot ⟨_, ho, hc⟩ F.slot_list_contains (wpAny_mono (seek_run m T ⟨hr, rfl⟩ I rx hl sk) (fun r s' ⟨c, er, ec, H', I', e'⟩ => ?_) fun _ _ z => z)
  subst er ec
  exact wpAny_truthy_bool ⟨.bl (!c), H', I', rfl, q H' e'⟩
end
end MM

namespace MM
open PySem L2 PyProof.Rows
/-! ### a thing of a built-in type beside an own instance -/
section
open AutoSeq1 (wpAny_loadPart')
variable {prog : Program} {w : World} {A : Around} {E : Value → Shared → Prop} {s : Shared} {x C dx : Addr} {Q : Value → Shared → Prop}
theorem decl_int {i : Int} {t : Tok} (hx : s.heap.get? x = some (PySem.W.instObj C dx)) (q : Q .notImplemented s) : wpAny (model prog w) A (call (.builtin "int.__eq__") [.int i t, .ref x]) Q E s := by
  refine GQ.call_here F.slot_int_eq (typeIs_int s i t) F.entry_int_eq (F.args_int_eq_2 _ _) ?_
  obtain ⟨hp, g, d, tk, os⟩ := s
  wp_walk using wpAny_loadPart' hx
  exact q
theorem decl_bool {i : Bool} (hx : s.heap.get? x = some (PySem.W.instObj C dx)) (q : Q .notImplemented s) : wpAny (model prog w) A (call (.builtin "int.__eq__") [.bool i, .ref x]) Q E s := by
  refine GQ.call_here F.slot_bool_eq (s := s) rfl F.entry_int_eq (F.args_int_eq_2 _ _) ?_
  obtain ⟨hp, g, d, tk, os⟩ := s
  wp_walk using wpAny_loadPart' hx
  exact q
theorem decl_str {i : Str} {t : Tok} (hx : s.heap.get? x = some (PySem.W.instObj C dx)) (q : Q .notImplemented s) : wpAny (model prog w) A (call (.builtin "str.__eq__") [.str i t, .ref x]) Q E s := by
  refine GQ.call_here F.slot_str_eq (typeIs_str s i t) F.entry_str_eq (F.args_str_eq_2 _ _) ?_
  obtain ⟨hp, g, d, tk, os⟩ := s
  wp_walk using wpAny_loadPart' hx
  exact q
theorem decl_non (q : Q .notImplemented s) : wpAny (model prog w) A (call (.builtin "NoneType.__eq__") [.none, .ref x]) Q E s := by
  refine GQ.call_here F.slot_NoneType_eq (s := s) rfl F.entry_NoneType_eq (F.args_NoneType_eq_2 _ _) ?_
  obtain ⟨hp, g, d, tk, os⟩ := s
  wp_walk
  exact q
theorem decl_list {a : Addr} {K : PySem.W.Frag} {ox : Obj} {od : Option Obj} (X : K.In s.heap) (ha : s.TypeIs (.ref a) "list") (I : PySem.W.InstAt s.heap x ox C od) (e : PySem.W.subIn K (.ref C) (.type "list") = some false) (q : Q .notImplemented s) : wpAny (model prog w) A (call (.builtin "list.__eq__") [.ref a, .ref x]) Q E s := by
  refine GQ.call_here F.slot_list_eq ha F.entry_list_eq (F.args_list_eq_2 _ _) ?_
  have L : PySem.W.Looks (model prog w) s.heap (isInstance (.ref x) (.type "list")) false := I.type.andThen (PySem.W.looks_subIn X e)
  unfold Builtin.«list.__eq__»
  refine wpAny_bind (m := slotArgs "__eq__" 1 _) (wpAny_pure ?_)
  refine wpAny_bind (L.here ?_)
  wp_walk
  exact q
theorem decl_tup {a : Addr} {K : PySem.W.Frag} {ox : Obj} {od : Option Obj} (X : K.In s.heap) (ha : s.TypeIs (.ref a) "tuple") (I : PySem.W.InstAt s.heap x ox C od) (e : PySem.W.subIn K (.ref C) (.type "tuple") = some false) (q : Q .notImplemented s) : wpAny (model prog w) A (call (.builtin "tuple.__eq__") [.ref a, .ref x]) Q E s := by
  refine GQ.call_here F.slot_tuple_eq ha F.entry_tuple_eq (F.args_tuple_eq_2 _ _) ?_
  have L : PySem.W.Looks (model prog w) s.heap (isInstance (.ref x) (.type "tuple")) false := I.type.andThen (PySem.W.looks_subIn X e)
  unfold Builtin.«tuple.__eq__»
  refine wpAny_bind (m := slotArgs "__eq__" 1 _) (wpAny_pure ?_)
  refine wpAny_bind (L.here ?_)
  wp_walk
  exact q
end
end MM

namespace MM
open PySem L2 PyProof.Rows
/-- a thing of a built-in type, and its type -/
inductive Frg (H : Hp) : V → String → Prop
  | int (i : Int) : Frg H (.int i) "int"
  | bl (b : Bool) : Frg H (.bl b) "bool"
  | str (t : Str) : Frg H (.str t) "str"
  | non : Frg H .non "NoneType"
  | lst {a : Addr} {xs : List V} (e : H a = some (.lst xs)) : Frg H (.ref a) "list"
  | tup {a : Addr} {xs : List V} (e : H a = some (.tup xs)) : Frg H (.ref a) "tuple"
theorem Frg.tyX {K : PySem.W.Frag} {H : Hp} {x : V} {T : String} (f : Frg H x T) : TyX K H x (.type T) := by
  cases f with
  | int i => exact .base (.int i)
  | bl b => exact .base (.bl b)
  | str t => exact .base (.str t)
  | non => exact .base .non
  | lst e => exact .base (.lst e)
  | tup e => exact .base (.tup e)
theorem Frg.ext {H H' : Hp} {x : V} {T : String} (f : Frg H x T) (e : L2.Ext H H') : Frg H' x T := by
  cases f with
  | int i => exact .int i
  | bl b => exact .bl b
  | str t => exact .str t
  | non => exact .non
  | lst h => exact .lst (e _ _ h)
  | tup h => exact .tup (e _ _ h)
/-- what the written part says of a class beside the built-in types -/
structure FrgC (K : PySem.W.Frag) (C : Addr) : Prop where
  i1 : PySem.W.subIn K (.type "int") (.ref C) = some false
  i2 : PySem.W.subIn K (.ref C) (.type "int") = some false
  b1 : PySem.W.subIn K (.type "bool") (.ref C) = some false
  b2 : PySem.W.subIn K (.ref C) (.type "bool") = some false
  s1 : PySem.W.subIn K (.type "str") (.ref C) = some false
  s2 : PySem.W.subIn K (.ref C) (.type "str") = some false
  n1 : PySem.W.subIn K (.type "NoneType") (.ref C) = some false
  n2 : PySem.W.subIn K (.ref C) (.type "NoneType") = some false
  l1 : PySem.W.subIn K (.type "list") (.ref C) = some false
  l2 : PySem.W.subIn K (.ref C) (.type "list") = some false
  t1 : PySem.W.subIn K (.type "tuple") (.ref C) = some false
  t2 : PySem.W.subIn K (.ref C) (.type "tuple") = some false
theorem FrgC.to {K : PySem.W.Frag} {C : Addr} (c : FrgC K C) {H : Hp} {x : V} {T : String} (f : Frg H x T) : PySem.W.subIn K (.type T) (.ref C) = some false := by
  cases f with
  | int i => exact c.i1
  | bl b => exact c.b1
  | str t => exact c.s1
  | non => exact c.n1
  | lst h => exact c.l1
  | tup h => exact c.t1
section
open PySem.W
variable {prog : Program} {w : World} {A : Around} {E : Value → Shared → Prop} {s : Shared} {K : PySem.W.Frag} {x C f : Addr} {ox : Obj} {od : Option Obj} {u : Value} {T id : String}
/-- u == own, where u's == declines -/
theorem cmp_FK {Q : Value → Shared → Prop} (hu : A.units < cLine) (X : K.In s.heap) (hT : s.TypeIs u T) (slot : Slot T "__eq__" id) (I : InstAt s.heap x ox C od) (e : subIn K (.ref C) (.type T) = some false) (hs : findIn K (.ref C) "__eq__" = some (some (.ref f))) (hf : isFn K (.ref f) = true)
    (decl : ∀ Q' : Value → Shared → Prop, Q' .notImplemented s → wpAny (model prog w) A (call (.builtin id) [u, .ref x]) Q' E s) (h : wpAny (model prog w) A (call (.ref f) [.ref x, u]) (PySem.W.CmpBack Q) E s) : wpAny (model prog w) A (richCompare .Eq u (.ref x)) Q E s := by
  unfold richCompare
  simp only [hT.oneThing_none]
  refine wpAny_holding (wpAny_bind (wpAny_cRoomFor hu ?_))
  refine wpAny_bind (wpAny_typeOf hT (wpAny_bind (I.type.here ?_)))
  have ne : (Value.type T != Value.ref C) = true := by simp
  simp only [ne, if_true]
  refine wpAny_bind ((looks_subIn X e).here ?_)
  simp only [Bool.false_eq_true, if_false, Bool.not_false, if_true]
  refine wpAny_bind (m := tryCompare u _ (.ref x)) (wpAny_tryCompare_declines hT slot (wpAny_mono (decl (fun v s2 => v = .notImplemented ∧ s = s2) ⟨rfl, rfl⟩) (fun v s2 z => ⟨z.1, ?_⟩) fun _ _ y => y))
  obtain ⟨_, rfl⟩ := z
  have one : wpAny (model prog w) A (tryCompare (.ref x) (cmpInfo .Eq).2.2 u) (fun r s' => ∃ v, r = some v ∧ Q v s') E s := by
    unfold tryCompare
    refine wpAny_bind (ifBound_K X I hs hf (wpAny_mono h (fun v s' hv => ?_) fun _ _ e => e))
    cases v <;> first | exact hv.elim | exact wpAny_pure ⟨_, rfl, hv⟩
  refine wpAny_bind (wpAny_mono one (fun r s' z => ?_) fun _ _ e => e)
  obtain ⟨v, rfl, hq⟩ := z
  exact wpAny_pure hq
end
theorem eqBool_ne {prog : Program} {w : World} {A : Around} {E : Value → Shared → Prop} {s : Shared} {u v : Value} {Q : Bool → Shared → Prop} (h : u ≠ v) (hf : ∀ x t, u ≠ .float x t) (rc : wpAny (model prog w) A (richCompare .Eq u v) (fun r s' => ∃ b, r = .bool b ∧ Q b s') E s) : wpAny (model prog w) A (eqBool u v) Q E s := by
  unfold eqBool
  refine wpAny_holding (wpAny_ite_split (fun hab => absurd (eq_of_beq hab) h) (fun _ => ?_))
  cases u <;> first
    | exact absurd rfl (hf _ _)
    | (refine wpAny_bind (wpAny_mono rc (fun r s' hr => ?_) fun _ _ y => y)
       obtain ⟨b, rfl, q⟩ := hr
       exact wpAny_truthy_bool q)
/-- what a promise says of two values -/
def Says (c : Con) (x y : V) (k : Bool) (H : Hp) : Prop := ∃ (G : Hp) (i : c.I), Same G H ∧ c.pre i ∧ Reps (c.args i) [x, y] G ∧ ∀ z, c.post i z → c.res i z = RB k
theorem Says.ext {c : Con} {x y : V} {k : Bool} {H H' : Hp} (e : L2.Ext H H') (h : Says c x y k H) : Says c x y k H' := by
  obtain ⟨G, i, s, r⟩ := h
  exact ⟨G, i, fun a o z => e a o (s a o z), r⟩
theorem Says.sp {c : Con} (ho : ∀ i, c.own i = []) {x y : V} {k : Bool} {H : Hp} (h : Says c x y k H) : conSp c [x, y] H (fun v H' => v = .bl k ∧ L2.Ext H H') E0 := by
  obtain ⟨G, i, s, hp, r, hk⟩ := h
  refine ⟨G, i, s, hp, r, ?_, ?_, ?_, fun x v G' H' px tf rv => ?_⟩
  · rw [ho]; exact fun q hq => (List.not_mem_nil hq).elim
  · rw [ho]; exact fun q hq => (List.not_mem_nil hq).elim
  · rw [ho]; exact List.nodup_nil
  · rw [hk _ px] at rv
    refine ⟨rv, fun z u hz => tf.keep z u ?_ hz⟩
    rw [ho]
    exact List.not_mem_nil
/-- own and own -/
def DOO (C : Addr) (c : Con) : Tel := fun x y k H => ∃ (a b dx dy : Addr) (fs gs : List (Str × V)), x = .ref a ∧ y = .ref b ∧ H a = some (.ins C dx fs) ∧ H b = some (.ins C dy gs) ∧ (a = b → k = true) ∧ Says c x y k H
/-- own and another -/
def DOF (C : Addr) (c : Con) : Tel := fun x y k H => ∃ (a dx : Addr) (fs : List (Str × V)) (T : String), x = .ref a ∧ H a = some (.ins C dx fs) ∧ Frg H y T ∧ Says c x y k H
/-- another and own -/
def DFO (C : Addr) (c : Con) : Tel := fun x y k H => ∃ (b dy : Addr) (gs : List (Str × V)) (T : String), y = .ref b ∧ H b = some (.ins C dy gs) ∧ Frg H x T ∧ Says c y x k H
def DFF : Tel := fun x y k _ => flatV x = true ∧ flatV y = true ∧ eqV x y = k
theorem telM_oo {C : Addr} {c : Con} : TelM (DOO C c) := fun x y k H H' e ⟨a, b, dx, dy, fs, gs, h1, h2, h3, h4, h5, h6⟩ => ⟨a, b, dx, dy, fs, gs, h1, h2, e _ _ h3, e _ _ h4, h5, h6.ext e⟩
theorem telM_of {C : Addr} {c : Con} : TelM (DOF C c) := fun x y k H H' e ⟨a, dx, fs, T, h1, h2, h3, h4⟩ => ⟨a, dx, fs, T, h1, e _ _ h2, h3.ext e, h4.ext e⟩
theorem telM_fo {C : Addr} {c : Con} : TelM (DFO C c) := fun x y k H H' e ⟨a, dx, fs, T, h1, h2, h3, h4⟩ => ⟨a, dx, fs, T, h1, e _ _ h2, h3.ext e, h4.ext e⟩
theorem telM_ff : TelM DFF := fun x y k H H' e h => h
def TelOr (D D' : Tel) : Tel := fun x y k H => D x y k H ∨ D' x y k H
theorem TelM.or {D D' : Tel} (h : TelM D) (h' : TelM D') : TelM (TelOr D D') := fun x y k H H' e d => d.elim (fun d => .inl (h _ _ _ _ _ e d)) fun d => .inr (h' _ _ _ _ _ e d)
section
variable {X : Cx} {n m : Nat} {D D' : Tel} {C f : Addr} {fd : FuncData} {ps : List Str} {c : Con}
theorem TelG.or (h : TelG X n D) (h' : TelG X n D') : TelG X n (TelOr D D') := fun A pins s σ H x y k u v sb I rx ry d => by
  rcases d with d | d
  · exact h A pins s σ H x y k u v sb I rx ry d
  · exact h' A pins s σ H x y k u v sb I rx ry d
theorem TelG.mono (h : TelG X n D) (hn : n ≤ m) : TelG X m D := fun A pins s σ H x y k u v sb => h A pins s σ H x y k u v (sb.mono hn)
theorem telG_ff : TelG X 0 DFF := fun A pins s σ H x y k u v sb I rx ry ⟨fx, fy, e⟩ => by
  have q := eqAt_V (A := A) (s := s) rx ry fx fy
  rw [e] at q
  exact q X.prog X.w X.xe _ ⟨rfl, H, I, L2.Ext.rfl'⟩
theorem says_run {A : Around} {pins : List (Addr × Obj)} {σ : L2.St} {H : Hp} {s : Shared} {x y : V} {u v : Value} {k : Bool} (ho : ∀ i, c.own i = []) (F : FnOk X.prog X.w X.K X.mg X.base CX0 n f fd ps (conSp c)) (hb : Binds X.K fd ps []) (hx : Passes CX0 X E0) (sb : L2.Sub X n A) (I : L2.Inv X pins σ H s) (rx : RelV x u) (ry : RelV y v) (h : Says c x y k H) :
    wpAny (model X.prog X.w) A (call (.ref f) [u, v]) (fun r s' => r = .bool k ∧ ∃ H', L2.Inv X pins σ H' s' ∧ L2.Ext H H') X.xe s := by
  refine run_eq2 F hb hx sb.room (let e := I.env0; ⟨by rw [sb.fr]; exact e.frames, e.mod, e.bs, e.bsz, e.funs, e.frf, e.hok, e.bare⟩) I rx ry (h.sp ho) fun z s' w rz ⟨H', I', ez, e⟩ => ?_
  subst ez
  cases rz
  exact ⟨rfl, H', I', e⟩
/-- what == asks of an own class: its __eq__ keeps c -/
structure EqIn (X : Cx) (n : Nat) (C : Addr) (c : Con) : Prop where
  ho : ∀ i, c.own i = []
  kn : KnE X.prog X.w X.K X.mg X.base n C c
theorem telG_oo (K : EqIn X n C c) (hx : Passes CX0 X E0) : TelG X n (DOO C c) := by
  obtain ⟨ho, f, fd, ps, hs, hf, hb, F⟩ := K
  intro A pins s σ H x y k u v sb I rx ry ⟨a, b, dx, dy, fs, gs, ex, ey, ha, hb', hab, says⟩
  subst ex ey
  cases rx
  cases ry
  by_cases e : a = b
  · have ek := hab e
    subst e ek
    exact SeqAt.EqAt.same (A := A) (s := s) (.ref a) X.prog X.w X.xe _ ⟨rfl, H, I, L2.Ext.rfl'⟩
  obtain ⟨mA, J, _⟩ := ins_get I.hok ha
  obtain ⟨mB, J', _⟩ := ins_get I.hok hb'
  obtain ⟨od, J, _⟩ := J.look
  obtain ⟨od', J', _⟩ := J'.look
  obtain ⟨m, hF⟩ := I.fr
  refine GQ.eqBool_refG e (PySem.W.cmp_K (op := .Eq) (tb := .ref C) sb.room.units0 hF I.ok.mod.kin J J'.type (by simp [PySem.W.notFirst]) hs hf ?_)
  refine wpAny_mono (says_run ho F hb hx sb I (show RelV (V.ref a) (Value.ref a) from rfl) (show RelV (V.ref b) (Value.ref b) from rfl) says) (fun r s' ⟨er, H', I', e'⟩ => ?_) fun _ _ z => z
  subst er
  exact ⟨k, rfl, rfl, H', I', e'⟩
theorem telG_of (K : EqIn X n C c) (hc : FrgC X.K C) (hx : Passes CX0 X E0) : TelG X n (DOF C c) := by
  obtain ⟨ho, f, fd, ps, hs, hf, hb, F⟩ := K
  intro A pins s σ H x y k u v sb I rx ry ⟨a, dx, fs, T, ex, ha, fr, says⟩
  subst ex
  cases rx
  obtain ⟨mA, J, _⟩ := ins_get I.hok ha
  obtain ⟨od, J, _⟩ := J.look
  obtain ⟨m, hF⟩ := I.fr
  obtain ⟨P, Z, p, _⟩ := kit_of I ry (fr.tyX (K := X.K))
  have ne : Value.ref a ≠ v := by
    intro z
    subst z
    cases fr with
    | lst e => cases ry; rw [e] at ha; cases ha
    | tup e => cases ry; rw [e] at ha; cases ha
    | int i => obtain ⟨t, z⟩ := ry; cases z
    | bl i => cases ry
    | str i => obtain ⟨t, z⟩ := ry; cases z
    | non => cases ry
  refine eqBool_ne ne (fun _ _ z => by cases z) (PySem.W.cmp_K (op := .Eq) sb.room.units0 hF I.ok.mod.kin J (Z.ty _ _ I.kIn p) (notF (hc.to fr)) hs hf ?_)
  refine wpAny_mono (says_run ho F hb hx sb I (show RelV (V.ref a) (Value.ref a) from rfl) ry says) (fun r s' ⟨er, H', I', e'⟩ => ?_) fun _ _ z => z
  subst er
  exact ⟨k, rfl, rfl, H', I', e'⟩
theorem telG_fo (K : EqIn X n C c) (hc : FrgC X.K C) (hx : Passes CX0 X E0) : TelG X n (DFO C c) := by
  obtain ⟨ho, f, fd, ps, hs, hf, hb, F⟩ := K
  intro A pins s σ H x y k u v sb I rx ry ⟨a, dx, fs, T, ex, ha, fr, says⟩
  subst ex
  cases ry
  obtain ⟨mA, O, _⟩ := ins_get I.hok ha
  obtain ⟨od, J, _⟩ := O.look
  have run := says_run ho F hb hx sb I (show RelV (V.ref a) (Value.ref a) from rfl) rx says
  have fin : ∀ (Tn id : String), s.TypeIs u Tn → Slot Tn "__eq__" id → PySem.W.subIn X.K (.ref C) (.type Tn) = some false → u ≠ .ref a → (∀ x t, u ≠ .float x t) →
      (∀ Q' : Value → Shared → Prop, Q' .notImplemented s → wpAny (model X.prog X.w) A (call (.builtin id) [u, .ref a]) Q' X.xe s) →
      wpAny (model X.prog X.w) A (eqBool u (.ref a)) (fun r s' => r = k ∧ ∃ H', L2.Inv X pins σ H' s' ∧ L2.Ext H H') X.xe s := by
    intro Tn id hT slot e ne nf decl
    refine eqBool_ne ne nf (cmp_FK sb.room.units0 I.kIn hT slot J e hs hf decl (wpAny_mono run (fun r s' ⟨er, H', I', e'⟩ => ?_) fun _ _ z => z))
    subst er
    exact ⟨k, rfl, rfl, H', I', e'⟩
  cases fr with
  | int i =>
    obtain ⟨t, rfl⟩ := rx
    exact fin "int" _ (typeIs_int _ _ _) PySem.F.slot_int_eq hc.i2 (by simp) (by simp) fun Q' q => decl_int O.obj q
  | bl i =>
    cases rx
    exact fin "bool" _ rfl PySem.F.slot_bool_eq hc.b2 (by simp) (by simp) fun Q' q => decl_bool O.obj q
  | str i =>
    obtain ⟨t, rfl⟩ := rx
    exact fin "str" _ (typeIs_str _ _ _) PySem.F.slot_str_eq hc.s2 (by simp) (by simp) fun Q' q => decl_str O.obj q
  | non =>
    cases rx
    exact fin "NoneType" _ rfl PySem.F.slot_NoneType_eq hc.n2 (by simp) (by simp) fun Q' q => decl_non q
  | @lst b xs e =>
    cases rx
    have ne : Value.ref b ≠ Value.ref a := fun z => by
      cases z
      rw [e] at ha
      cases ha
    obtain ⟨_, _, n0, _, h1⟩ := (show ObjOk X.prog X.w H s.heap b (.lst xs) from I.hok b _ e)
    exact fin "list" _ ⟨_, h1, rfl⟩ PySem.F.slot_list_eq hc.l2 ne (by simp) fun Q' q => decl_list I.kIn ⟨_, h1, rfl⟩ J hc.l2 q
  | @tup b xs e =>
    cases rx
    have ne : Value.ref b ≠ Value.ref a := fun z => by
      cases z
      rw [e] at ha
      cases ha
    obtain ⟨_, _, _, o, h1, h2, _⟩ := (show ObjOk X.prog X.w H s.heap b (.tup xs) from I.hok b _ e)
    exact fin "tuple" _ ⟨o, h1, h2⟩ PySem.F.slot_tuple_eq hc.t2 ne (by simp) fun Q' q => decl_tup I.kIn ⟨o, h1, h2⟩ J hc.t2 q
end
end MM

namespace MM
open PySem L2 PyProof.Rows
/-! ### own things beside others: rules -/
def RFrg (ρ : Rep) (T : String) : Prop := ∀ x G H, Same G H → ρ.p x G → Frg H x T
theorem rfrg_i {i : Int} : RFrg (RI i) "int" := fun x G H s h => by
  have h : x = .int i := h
  subst h; exact .int i
theorem rfrg_b {i : Bool} : RFrg (RB i) "bool" := fun x G H s h => by
  have h : x = .bl i := h
  subst h; exact .bl i
theorem rfrg_s {i : Str} : RFrg (RS i) "str" := fun x G H s h => by
  have h : x = .str i := h
  subst h; exact .str i
theorem rfrg_n : RFrg RN "NoneType" := fun x G H s h => by
  have h : x = .non := h
  subst h; exact .non
theorem rfrg_l {ρs : List Rep} : RFrg (RLt ρs) "list" := fun x G H s ⟨a, vs, e, h, _⟩ => by
  subst e; exact .lst (s _ _ h)
theorem rfrg_t {ρs : List Rep} : RFrg (RTt ρs) "tuple" := fun x G H s ⟨a, vs, e, h, _⟩ => by
  subst e; exact .tup (s _ _ h)
theorem RFrg.sub {ρ ρ' : Rep} {T : String} (sb : MM.Sub ρ ρ') (h : RFrg ρ' T) : RFrg ρ T := fun x G H s r => h x G H s (sb _ _ r)
theorem RFrg.tyIs {K : PySem.W.Frag} {ρ : Rep} {T : String} (h : RFrg ρ T) : TyIs K ρ (.type T) := fun v G H s r => (h v G H s r).tyX
/-- __eq__ of an own thing and one of a built-in type: False -/
def con_eqF (K : PySem.W.Frag) (C : Addr) : Con := { I := List (Str × Rep) × Rep × String, B := Unit, pre := fun i => RFrg i.2.1 i.2.2 ∧ PySem.W.subIn K (.type i.2.2) (.ref C) = some false, args := fun i => [RIns C i.1, i.2.1], own := fun _ => [], post := fun _ _ => True, res := fun _ _ => RB false, own' := fun _ _ => [] }
theorem FrgC.sub {K : PySem.W.Frag} {C : Addr} (c : FrgC K C) {T : String} (h : T = "int" ∨ T = "bool" ∨ T = "str" ∨ T = "NoneType" ∨ T = "list" ∨ T = "tuple") : PySem.W.subIn K (.type T) (.ref C) = some false := by
  rcases h with rfl | rfl | rfl | rfl | rfl | rfl
  · exact c.i1
  · exact c.b1
  · exact c.s1
  · exact c.n1
  · exact c.l1
  · exact c.t1
section
variable {X : Cx} {E : En} {Γ : Gm} {M : Ow} {a b : Expr} {pos : Pos} {Φ : Rep → Ow → Prop} {k : Nat} {C : Addr}
theorem opw_frg {g : Bool → Bool} {ρ ρ' : Rep} {l : List (Str × Rep)} {T : String} (hc : FrgC X.K C) (hT : T = "int" ∨ T = "bool" ∨ T = "str" ∨ T = "NoneType" ∨ T = "list" ∨ T = "tuple") (s1 : MM.Sub ρ (RIns C l)) (s2 : RFrg ρ' T) (q0 : Φ (RB (g false)) M) : OpW E Γ M (rFrg X.K C (conSp (con_eqF X.K C)) g) ρ ρ' Φ := fun σ G H at_ x y hx hy Q q => by
  obtain ⟨b1, dx, fs, e1, h1, r1⟩ := s1 _ _ hx
  have fr := s2 _ _ _ at_.gh hy
  have cr := callK_run (c := con_eqF X.K C) (ρs := [RIns C l, ρ']) (vs := [x, y]) (Φ := fun ρ M' => ρ = RB false ∧ M' = M) (Q := fun v H' => ∃ k, v = .bl k ∧ Q (.bl (g k)) H') (EE := E0) ⟨(l, ρ', T), M, ⟨s2, hc.sub hT⟩, .cons Sub.rfl (.cons Sub.rfl .nil), .nil, fun _ _ => ⟨rfl, rfl⟩⟩ at_ ⟨⟨b1, dx, fs, e1, h1, r1⟩, hy, trivial⟩ fun ρ4 M4 v4 G5 H5 ⟨e4, e5⟩ s4 a4 r4 => by
    subst e4 e5
    exact ⟨false, r4, q _ _ _ _ _ q0 s4 a4 rfl⟩
  subst e1
  exact ⟨b1, dx, fs, .type T, rfl, at_.gh _ _ h1, fr.tyX, hc.sub hT, cr⟩
theorem op_eqFK (F : KnE X.prog X.w X.K X.mg X.base k C (con_eqF X.K C)) (hr : Room k X.A) (hx : Passes CX0 X E0) : OpR X (compareOp .Eq) (rFrg X.K C (conSp (con_eqF X.K C)) id) := by
  obtain ⟨f, fd, ps, hs, hf, hb, ok⟩ := F
  exact op_eqF ok hs hf hb hx hr
theorem op_neFK (F : KnN X.prog X.w X.K X.mg X.base k C (con_eqF X.K C)) (hr : Room (k + 1) X.A) (hx : Passes CX0 X E0) : OpR X (compareOp .NotEq) (rFrg X.K C (conSp (con_eqF X.K C)) not) := by
  obtain ⟨⟨f, fd, ps, hs, hf, hb, ok⟩, hne, hsub⟩ := F
  exact op_neF ok hs hf hb hne hsub hx hr
/-! ### in -/
def RTel (D : Tel) (ρ ρ' : Rep) (k : Bool) : Prop := ∀ x y G H, Same G H → ρ.p x G → ρ'.p y G → D x y k H
inductive SeekR (D : Tel) (ρ : Rep) : List Rep → Bool → Prop
  | nil : SeekR D ρ [] false
  | hit {ρ1 : Rep} {ρs : List Rep} : RTel D ρ1 ρ true → SeekR D ρ (ρ1 :: ρs) true
  | miss {ρ1 : Rep} {ρs : List Rep} {b : Bool} : RTel D ρ1 ρ false → SeekR D ρ ρs b → SeekR D ρ (ρ1 :: ρs) b
theorem SeekR.run {D : Tel} {ρ : Rep} {ρs : List Rep} {b : Bool} (h : SeekR D ρ ρs b) {G H : Hp} {y : V} (s : Same G H) (ry : ρ.p y G) : ∀ {xs : List V}, Reps ρs xs G → Seek D y xs b H := by
  induction h with
  | nil =>
    intro xs r
    cases xs with
    | nil => exact .nil
    | cons _ _ => exact r.elim
  | hit t =>
    intro xs r
    cases xs with
    | nil => exact r.elim
    | cons x xs => exact .hit (t _ _ _ _ s r.1 ry)
  | miss t _ ih =>
    intro xs r
    cases xs with
    | nil => exact r.elim
    | cons x xs => exact .miss (t _ _ _ _ s r.1 ry) (ih r.2)
theorem opv_inG {K : PySem.W.Frag} {D : Tel} {ρ : Rep} {ρs : List Rep} {b : Bool} {g : Bool → Bool} (h : SeekR D ρ ρs b) : OpV (rInG K D g) ρ (RLt ρs) (RB (g b)) := fun x y G H s hx hy Q q => by
  obtain ⟨p, vs, e, hp, r⟩ := hy
  subst e
  exact ⟨p, vs, b, rfl, .inl (.inl (s _ _ hp)), h.run s hx r, fun H' e' => q _ G H' ⟨Same.refl _, s.trans e', e', fun _ _ z => z⟩ rfl⟩
/-- an own class that is compared: the kinds of pairs -/
def DOwn (K : PySem.W.Frag) (C : Addr) (c : Con) : Tel := TelOr (DOO C c) (TelOr (DOF C (con_eqF K C)) (TelOr (DFO C (con_eqF K C)) DFF))
theorem telM_own {K : PySem.W.Frag} {c : Con} : TelM (DOwn K C c) := telM_oo.or (telM_of.or (telM_fo.or telM_ff))
theorem telG_own {c : Con} (ho : ∀ i, c.own i = []) (hc : FrgC X.K C) (F : KnE X.prog X.w X.K X.mg X.base k C c) (F' : KnE X.prog X.w X.K X.mg X.base k C (con_eqF X.K C)) (hx : Passes CX0 X E0) : TelG X k (DOwn X.K C c) :=
  (telG_oo ⟨ho, F⟩ hx).or ((telG_of ⟨fun _ => rfl, F'⟩ hc hx).or ((telG_fo ⟨fun _ => rfl, F'⟩ hc hx).or (telG_ff.mono (Nat.zero_le _))))
theorem rtel_oo {K : PySem.W.Frag} {c : Con} (i : c.I) {l l' : List (Str × Rep)} {b : Bool} (hp : c.pre i) (ha : c.args i = [RIns C l, RIns C l']) (hk : ∀ z, c.post i z → c.res i z = RB b) (hs : ∀ v G, (RIns C l).p v G → (RIns C l').p v G → b = true) : RTel (DOwn K C c) (RIns C l) (RIns C l') b := fun x y G H s rx ry => by
  have rx' := rx
  have ry' := ry
  obtain ⟨b1, dx, fs, e1, h1, r1⟩ := rx'
  obtain ⟨b2, dy, gs, e2, h2, r2⟩ := ry'
  refine .inl ⟨b1, b2, dx, dy, fs, gs, e1, e2, s _ _ h1, s _ _ h2, fun e => ?_, G, i, s, hp, ?_, hk⟩
  · subst e
    refine hs x G rx ?_
    have : x = y := e1.trans e2.symm
    rw [this]; exact ry
  · rw [ha]; exact ⟨rx, ry, trivial⟩
theorem rtel_of {K : PySem.W.Frag} {c : Con} (hc : FrgC K C) {l : List (Str × Rep)} {ρ : Rep} {T : String} (hT : T = "int" ∨ T = "bool" ∨ T = "str" ∨ T = "NoneType" ∨ T = "list" ∨ T = "tuple") (h : RFrg ρ T) : RTel (DOwn K C c) (RIns C l) ρ false := fun x y G H s rx ry => by
  have rx' := rx
  obtain ⟨b1, dx, fs, e1, h1, r1⟩ := rx'
  exact .inr (.inl ⟨b1, dx, fs, T, e1, s _ _ h1, h _ _ _ s ry, G, (l, ρ, T), s, ⟨h, hc.sub hT⟩, ⟨rx, ry, trivial⟩, fun _ _ => rfl⟩)
theorem rtel_fo {K : PySem.W.Frag} {c : Con} (hc : FrgC K C) {l : List (Str × Rep)} {ρ : Rep} {T : String} (hT : T = "int" ∨ T = "bool" ∨ T = "str" ∨ T = "NoneType" ∨ T = "list" ∨ T = "tuple") (h : RFrg ρ T) : RTel (DOwn K C c) ρ (RIns C l) false := fun x y G H s rx ry => by
  have ry' := ry
  obtain ⟨b1, dx, fs, e1, h1, r1⟩ := ry'
  exact .inr (.inr (.inl ⟨b1, dx, fs, T, e1, s _ _ h1, h _ _ _ s rx, G, (l, ρ, T), s, ⟨h, hc.sub hT⟩, ⟨ry, rx, trivial⟩, fun _ _ => rfl⟩))
end
end MM

namespace MM
open PySem L2 PyProof.Rows
theorem gr_D (idx : List Nat) (dvs : List V) {n m : Nat} : GvR (fun vs zs => gvP idx (vs ++ dvs) zs) (fun ρs ρz => gvP idx (ρs ++ dvs.map RV) ρz) n m := ⟨fun _ _ r1 r2 => reps_perm ((r1.app (reps_RV dvs)).app r2) idx⟩
theorem eqv_br {b : Bool} : PyData.eqv (.bool b) (.bool b) = true := by simp [PyData.eqv]
theorem shaped_b {b : Bool} : SeqAt.shaped (.bool b) = true := by cases b <;> decide +kernel
/-! ### a share's text -/
def itx (i : Int) : Str := Str.ofString (toString i)
def shT (q : Rat) : Str := if (q.den : Int) = 1 then itx q.num else itx q.num ++ "/" ++ itx (q.den : Int)
def rpT (q : Rat) : Str := "Share(" ++ itx q.num ++ ", " ++ itx (q.den : Int) ++ ")"
theorem lg_of {n : Nat} {i : Int} (h : Bd n i) (hn : n ≤ 1900) : i.natAbs.log2 < 1920 := Nat.lt_of_le_of_lt (Nat.le_of_lt_succ (Nat.lt_succ_of_lt (bd_log (h.mono (show n ≤ 1900 by omega)) (by decide)))) (by decide)
theorem itx_len {i : Int} (h : i.natAbs.log2 < 1920) : (itx i).length ≤ 1921 := int_text_len_1921 h
theorem itx_ok {i : Int} : PyData.strOk (itx i) = true := strOk_of
theorem shT_ok {q : Rat} : PyData.strOk (shT q) = true := by
  unfold shT
  split
  · exact itx_ok
  · exact strOk_app (strOk_app itx_ok (by decide +kernel)) itx_ok
theorem rpT_ok {q : Rat} : PyData.strOk (rpT q) = true := by
  unfold rpT
  exact strOk_app (strOk_app (strOk_app (strOk_app (by decide +kernel) itx_ok) (by decide +kernel)) itx_ok) (by decide +kernel)
section
variable {X : Cx} {E : En} {Γ : Gm} {M : Ow} {a b : Expr} {pos : Pos} {k : Nat} {C : Addr} {c : Con} {Φ : Rep → Ow → Prop}
theorem we_neO (F : KnN X.prog X.w X.K X.mg X.base k C c) (hr : Room (k + 1) X.A) (hx : Passes CX0 X E0)
    (h : WE X E Γ M a fun ρa Ma => WE X E Γ Ma b fun ρb Mb => (∃ l, MM.Sub ρa (RIns C l)) ∧ (∃ l, MM.Sub ρb (RIns C l)) ∧ CallK c [ρa, ρb] Mb fun ρ M' => ∃ k, MM.Sub ρ (RB k) ∧ Φ (RB (!k)) M') (hm : behindInMarks .NotEq b = false := by exact nomark _) : WE X E Γ M (.Compare a [.NotEq] [b] pos) Φ := by
  obtain ⟨⟨f, fd, ps, hs, hf, hb, ok⟩, hne, hsub⟩ := F
  refine we_cmp (op_neO ok hs hf hb hne hsub hx hr) hm ?_
  intro σ G H at_ Q q
  refine h σ G H at_ Q fun ρ M' v G' H' hh => q ρ M' v G' H' ?_
  intro σ2 G2 H2 at2 Q2 q2
  refine hh σ2 G2 H2 at2 Q2 fun ρ2 M2 v2 G3 H3 ⟨⟨l, s1⟩, ⟨l', s2⟩, ck⟩ => q2 ρ2 M2 v2 G3 H3 ?_
  intro σ3 G4 H4 at3 x y hx' hy' Q3 q3
  obtain ⟨b1, dx, fs, e1, h1, r1⟩ := s1 _ _ hx'
  obtain ⟨b2, dy, gs, e2, h2, r2⟩ := s2 _ _ hy'
  have cr := callK_run (EE := E0) (Q := fun v H' => ∃ k, v = .bl k ∧ Q3 (.bl (!k)) H') ck at3 (vs := [x, y]) ⟨hx', hy', trivial⟩ fun ρ4 M4 v4 G5 H5 ⟨k, sk, hφ⟩ s4 a4 r4 => ⟨k, sk _ _ r4, q3 (RB (!k)) M4 _ G5 H5 hφ s4 a4 rfl⟩
  subst e1 e2
  exact ⟨b1, b2, dx, dy, fs, gs, rfl, rfl, at3.gh _ _ h1, at3.gh _ _ h2, cr⟩
end
def con_Sh_str (CS : Addr) : Con := { I := Rat, B := Unit, pre := fun q => Sz 1000 q, args := fun q => [RSh CS q], own := fun _ => [], post := fun _ _ => True, res := fun q _ => RS (shT q), own' := fun _ _ => [] }
theorem ck_Sh_str {CS : Addr} {ρ : Rep} {M : Ow} {Φ : Rep → Ow → Prop} {q : Rat} (h : Sub ρ (RSh CS q)) (z : Sz 1000 q) (k : Φ (RS (shT q)) M) : CallK (con_Sh_str CS) [ρ] M Φ :=
  ⟨q, M, z, .cons h .nil, .nil, fun _ _ => k⟩
def con_Sh_repr (CS : Addr) : Con := { I := Rat, B := Unit, pre := fun q => Sz 1000 q, args := fun q => [RSh CS q], own := fun _ => [], post := fun _ _ => True, res := fun q _ => RS (rpT q), own' := fun _ _ => [] }
theorem ck_Sh_repr {CS : Addr} {ρ : Rep} {M : Ow} {Φ : Rep → Ow → Prop} {q : Rat} (h : Sub ρ (RSh CS q)) (z : Sz 1000 q) (k : Φ (RS (rpT q)) M) : CallK (con_Sh_repr CS) [ρ] M Φ :=
  ⟨q, M, z, .cons h .nil, .nil, fun _ _ => k⟩
def con_eqS (CS : Addr) : Con := { I := Rat × Rat, B := Unit, pre := fun _ => True, args := fun i => [RSh CS i.1, RSh CS i.2], own := fun _ => [], post := fun _ _ => True, res := fun i _ => RB (decide (i.1 = i.2)), own' := fun _ _ => [] }
theorem ck_eqS {CS : Addr} {ρ1 ρ2 : Rep} {M : Ow} {Φ : Rep → Ow → Prop} {q r : Rat} (h1 : Sub ρ1 (RSh CS q)) (h2 : Sub ρ2 (RSh CS r)) (k : Φ (RB (decide (q = r))) M) : CallK (con_eqS CS) [ρ1, ρ2] M Φ :=
  ⟨(q, r), M, trivial, .cons h1 (.cons h2 .nil), .nil, fun _ _ => k⟩
theorem rat_num_den {q r : Rat} (h1 : q.num = r.num) (h2 : (q.den : Int) = (r.den : Int)) : q = r := by
  rw [← rt_self q, ← rt_self r, h1, h2]
section
variable {P : Program} {w : World} {K : PySem.W.Frag} {mg : Str → Option Value} {base : Heap} {CS : Addr}
theorem ok_Sh_str {f : Addr} {fd : FuncData} (F : FdD K "__str__" "Share.__str__" s_Share_str [] f fd) (T : ShT K CS) (hst : mg "str" = none) : FnOk P w K mg base CX0 1 f fd ["self"] (conSp (con_Sh_str CS)) := by
  refine fn_conD (con_Sh_str CS) F sc_Share_str (fun _ => rfl) fun cd A outer s H EE G (q : Rat) hp hr hE => ?_
  have z : Sz 1000 q := hp
  have l1 : q.num.natAbs.log2 < 1920 := lg_of z.num (by decide)
  have l2 : (q.den : Int).natAbs.log2 < 1920 := lg_of z.den (by decide)
  have t1 := itx_len l1
  have t2 := itx_len l2
  refine wss_cons (ws_if (wt_cmp (op_eqD hr.units) (nomark _) (we_fld (we_var 0 r0_Share_str rfl ⟨_, hasF_bot T, we_int (opw_of (opv_eq isD_i isD_i shaped_i shaped_i) ⟨_, Sub.rfl, fun hk => ?one, fun hk => wss_nil ?_⟩)⟩))))
  case one =>
    rw [eqv_ii] at hk
    have hk : (q.den : Int) = 1 := by simpa using hk
    refine wss_one (ws_ret (we_strI g_str_Share_str hst (we_fld (we_var 0 r0_Share_str rfl ⟨_, hasF_top T, _, Sub.rfl, l1, (), [], trivial, ?_, .nil⟩))))
    show Sub (RS (itx q.num)) (RS (shT q))
    unfold shT
    rw [if_pos hk]
    exact Sub.rfl
  rw [eqv_ii] at hk
  have hk : ¬ (q.den : Int) = 1 := by simpa using hk
  have ls : ("/" : Str).length = 1 := by decide +kernel
  have le : (Str.empty : Str).length = 0 := by decide +kernel
  have sz : sizeLine = 16777216 := by decide +kernel
  refine wss_one (ws_ret (we_joined ?_))
  refine we_fmtI (we_fld (we_var 0 r0_Share_str rfl ⟨_, hasF_top T, _, Sub.rfl, l1, itx q.num, Sub.rfl, ?n1, ?_⟩))
  case n1 =>
    rw [Str.length_append, sz, le]
    omega
  refine we_str ⟨"/", Sub.rfl, ?n2, ?_⟩
  case n2 =>
    rw [Str.length_append, Str.length_append, sz, ls, le]
    omega
  refine we_fmtI (we_fld (we_var 0 r0_Share_str rfl ⟨_, hasF_bot T, _, Sub.rfl, l2, itx (q.den : Int), Sub.rfl, ?n3, (), [], trivial, ?_, .nil⟩))
  case n3 =>
    rw [Str.length_append, Str.length_append, Str.length_append, sz, ls, le]
    omega
  show Sub (RS (Str.empty ++ itx q.num ++ "/" ++ itx (q.den : Int))) (RS (shT q))
  rw [Str.empty_append]
  unfold shT
  rw [if_neg hk]
  exact Sub.rfl
theorem ok_Sh_repr {f : Addr} {fd : FuncData} (F : FdD K "__repr__" "Share.__repr__" s_Share_repr [] f fd) (T : ShT K CS) : FnOk P w K mg base CX0 1 f fd ["self"] (conSp (con_Sh_repr CS)) := by
  refine fn_conD (con_Sh_repr CS) F sc_Share_repr (fun _ => rfl) fun cd A outer s H EE G (q : Rat) hp hr hE => ?_
  have z : Sz 1000 q := hp
  have l1 : q.num.natAbs.log2 < 1920 := lg_of z.num (by decide)
  have l2 : (q.den : Int).natAbs.log2 < 1920 := lg_of z.den (by decide)
  have t1 := itx_len l1
  have t2 := itx_len l2
  have ls : ("Share(" : Str).length = 6 := by decide +kernel
  have lc : (", " : Str).length = 2 := by decide +kernel
  have lp : (")" : Str).length = 1 := by decide +kernel
  have le : (Str.empty : Str).length = 0 := by decide +kernel
  have sz : sizeLine = 16777216 := by decide +kernel
  refine wss_one (ws_ret (we_joined ?_))
  refine we_str ⟨"Share(", Sub.rfl, ?n1, ?_⟩
  case n1 =>
    rw [Str.length_append, sz, ls, le]
    omega
  refine we_fmtI (we_fld (we_var 0 r0_Share_repr rfl ⟨_, hasF_top T, _, Sub.rfl, l1, itx q.num, Sub.rfl, ?n2, ?_⟩))
  case n2 =>
    rw [Str.length_append, Str.length_append, sz, ls, le]
    omega
  refine we_str ⟨", ", Sub.rfl, ?n3, ?_⟩
  case n3 =>
    rw [Str.length_append, Str.length_append, Str.length_append, sz, ls, le, lc]
    omega
  refine we_fmtI (we_fld (we_var 0 r0_Share_repr rfl ⟨_, hasF_bot T, _, Sub.rfl, l2, itx (q.den : Int), Sub.rfl, ?n4, ?_⟩))
  case n4 =>
    rw [Str.length_append, Str.length_append, Str.length_append, Str.length_append, sz, ls, le, lc]
    omega
  refine we_str ⟨")", Sub.rfl, ?n5, (), [], trivial, ?_, .nil⟩
  case n5 =>
    rw [Str.length_append, Str.length_append, Str.length_append, Str.length_append, Str.length_append, sz, ls, le, lc, lp]
    omega
  show Sub (RS (Str.empty ++ "Share(" ++ itx q.num ++ ", " ++ itx (q.den : Int) ++ ")")) (RS (rpT q))
  rw [Str.empty_append]
  exact Sub.rfl
theorem ok_eqS {f : Addr} {fd : FuncData} (F : FdD K "__eq__" "Share.__eq__" s_Share_eq [] f fd) (T : ShT K CS) (hm : mg "Share" = some (.ref CS)) (hi : mg "isinstance" = none) : FnOk P w K mg base CX0 1 f fd ["self", "other"] (conSp (con_eqS CS)) := by
  refine fn_conD (con_eqS CS) F sc_Share_eq (fun _ => rfl) fun cd A outer s H EE G i hp hr hE => ?_
  obtain ⟨q, r⟩ := i
  refine wss_one (ws_ret (we_and (we_callB call_isi g_isinstance_Share_eq hi (by decide +kernel) (wa_cons (we_var 1 r1_Share_eq rfl (wa_cons (we_glob (v := .ref CS) (ρ := RV (.ref CS)) g_Share_Share_eq hm rfl (fun _ => rfl) (wa_nil ?_))))))))
  refine caw_of (cav_isi (tyIs_ins T.ci) (.own CS) kit_self) ⟨true, Sub.rfl, fun _ => ?_, fun hk => (by cases hk)⟩
  refine we_and (we_cmp (op_eqD hr.units) (nomark _) (we_fld (we_var 0 r0_Share_eq rfl ⟨_, hasF_top T, we_fld (we_var 1 r1_Share_eq rfl ⟨_, hasF_top T, ?_⟩)⟩)))
  refine opw_of (opv_eq isD_i isD_i shaped_i shaped_i) ⟨_, Sub.rfl, fun hk => ?same, fun hk => ?bad⟩
  case bad =>
    rw [eqv_ii] at hk
    have hn : ¬ q.num = r.num := by simpa using hk
    refine ⟨(), [], trivial, ?_, .nil⟩
    show Sub _ (RB (decide (q = r)))
    rw [decide_eq_false (fun e => hn (by rw [e]))]
    exact Sub.rfl
  case same =>
    rw [eqv_ii] at hk
    have hn : q.num = r.num := by simpa using hk
    refine we_and1 (we_cmp (op_eqD hr.units) (nomark _) (we_fld (we_var 0 r0_Share_eq rfl ⟨_, hasF_bot T, we_fld (we_var 1 r1_Share_eq rfl ⟨_, hasF_bot T, ?_⟩)⟩)))
    refine opw_of (opv_eq isD_i isD_i shaped_i shaped_i) ⟨(), [], trivial, ?_, .nil⟩
    rw [eqv_ii]
    show Sub _ (RB (decide (q = r)))
    by_cases e : q = r
    · subst e
      simp only [decide_true, beq_self_eq_true]
      exact Sub.rfl
    · have hd : ¬ (q.den : Int) = (r.den : Int) := fun z => e (rat_num_den hn z)
      rw [decide_eq_false e, beq_eq_false_iff_ne.mpr hd]
      exact Sub.rfl
theorem ok_eqF {f : Addr} {fd : FuncData} (F : FdD K "__eq__" "Share.__eq__" s_Share_eq [] f fd) (k1 : PySem.W.isClsIn K CS = true) (k2 : PySem.W.typeIn K (.ref CS) = some (.type "type")) (hm : mg "Share" = some (.ref CS)) (hi : mg "isinstance" = none) : FnOk P w K mg base CX0 1 f fd ["self", "other"] (conSp (con_eqF K CS)) := by
  refine fn_conD (con_eqF K CS) F sc_Share_eq (fun _ => rfl) fun cd A outer s H EE G i hp hr hE => ?_
  obtain ⟨l, ρ, T⟩ := i
  obtain ⟨h1, h2⟩ := hp
  have h1 : RFrg ρ T := h1
  refine wss_one (ws_ret (we_and (we_callB call_isi g_isinstance_Share_eq hi (by decide +kernel) (wa_cons (we_var 1 r1_Share_eq rfl (wa_cons (we_glob (v := .ref CS) (ρ := RV (.ref CS)) g_Share_Share_eq hm rfl (fun _ => rfl) (wa_nil ?_))))))))
  exact caw_of (cav_isi h1.tyIs (.own CS) (kitInt k1 k2 h2)) ⟨false, Sub.rfl, fun hk => (by cases hk), fun _ => ⟨(), [], trivial, Sub.rfl, .nil⟩⟩
end
end MM

namespace MM
open PySem L2 PyProof.Rows
/-! ### t == u of tuples whose items tell by an own __eq__, whatever they tell -/
section
open AutoSeq1 (wpAny_loadPart')
open PySem.SeqAt MeetsSeq MeetsSeq2 MeetsSeq3 SeqRoads2
variable {prog : Program} {w : World} {A : Around} {E : Value → Shared → Prop} {s : Shared} {a b : Addr} {xs ys : Array Value} {Q : Value → Shared → Prop}
/-- J tells what holds while these pairs are still to be looked at, B what holds of the answer -/
theorem eq_pairsB (hu : A.units < cLine) (J : List (Value × Value) → Shared → Prop) (B : Bool → Shared → Prop) (look : ∀ p r s', J (p :: r) s' → wpAny (model prog w) A.in1 (eqBool p.1 p.2) (fun k s2 => if k = true then J r s2 else B false s2) E s')
    (out : ∀ s', J [] s' → B true s') (told : ∀ c s', B c s' → Q (.bool c) s')
    (ta : s.heap.IsTuple a xs) (tb : s.heap.IsTuple b ys) (same : xs.size = ys.size) (start : J (xs.toList.zip ys.toList) s) : wpAny (model prog w) A (richCompare .Eq (.ref a) (.ref b)) Q E s := by
  obtain ⟨⟨ca, da, pa, za⟩, ga, ea, na, fa⟩ := ta
  obtain ⟨⟨cb, db, pb, zb⟩, gb, eb, nb, fb⟩ := tb
  cases ea
  cases eb
  cases fa
  cases fb
  refine wpAny_richCompare_same_room (op := .Eq) ⟨_, ga, rfl⟩ ⟨_, gb, rfl⟩ F.slot_tuple_eq ?_ hu
  refine wpAny_call_entry F.slot_tuple_eq ⟨_, ga, rfl⟩ F.entry_tuple_eq ?_ (F.args_tuple_eq_2 _ _)
  have isT := AutoSeq1.sub_tuple_tuple
  have go := start
  obtain ⟨hp, gn, dr, tk, os⟩ := s
  wp_walk using wpAny_loadPart' ga, wpAny_loadPart' gb, wpAny_forIn_list _ (fun r st s' => st.1 = none ∧ J r s') _
  case h => exact ⟨rfl, go⟩
  case fin =>
    rintro ⟨st, _⟩ s' ⟨e, j⟩
    cases (show st = none from e)
    have q := told _ _ (out s' j)
    wp_walk
    have sz : (Builtin.Tuple.tupleCompareSizes .Eq xs.size ys.size) = Value.bool true := by
      rw [same]
      simp [Builtin.Tuple.tupleCompareSizes]
    rw [sz]
    exact ⟨_, rfl, (by intro z; cases z), q⟩
  case turn =>
    intro p r st s' ⟨_, j⟩
    refine wpAny_bind (wpAny_mono (look p r s' j) (fun k s2 hk => ?_) fun _ _ z => z)
    cases k with
    | true =>
      wp_walk
      exact ⟨rfl, hk⟩
    | false =>
      have q := told _ _ (show B false s2 from hk)
      wp_walk
      exact ⟨_, rfl, (by intro z; cases z), q⟩
end
/-- pair by pair: what == tells, up to the first that differ -/
inductive Walk2 (D : Tel) : List V → List V → Bool → Hp → Prop
  | nil {H : Hp} : Walk2 D [] [] true H
  | miss {x y : V} {xs ys : List V} {H : Hp} : D x y false H → xs.length = ys.length → Walk2 D (x :: xs) (y :: ys) false H
  | hit {x y : V} {xs ys : List V} {b : Bool} {H : Hp} : D x y true H → Walk2 D xs ys b H → Walk2 D (x :: xs) (y :: ys) b H
theorem Walk2.len {D : Tel} {xs ys : List V} {b : Bool} {H : Hp} (h : Walk2 D xs ys b H) : xs.length = ys.length := by
  induction h with
  | nil => rfl
  | miss _ e => exact congrArg Nat.succ e
  | hit _ _ ih => exact congrArg Nat.succ ih
theorem Walk2.mono {D : Tel} (m : TelM D) {xs ys : List V} {b : Bool} {H H' : Hp} (e : L2.Ext H H') (h : Walk2 D xs ys b H) : Walk2 D xs ys b H' := by
  induction h with
  | nil => exact .nil
  | miss d l => exact .miss (m _ _ _ _ _ e d) l
  | hit d _ ih => exact .hit (m _ _ _ _ _ e d) (ih e)
def DTupB (K : PySem.W.Frag) (D : Tel) : Tel := fun x y k H => ∃ (a b : Addr) (xs ys : List V), x = .ref a ∧ y = .ref b ∧ L2.SqT K H a xs ∧ L2.SqT K H b ys ∧ Walk2 D xs ys k H
def rEqB (D : Tel) : R2 := fun x y H Q => ∃ k, D x y k H ∧ ∀ H', L2.Ext H H' → Q (.bl k) H'
section
variable {X : Cx} {n : Nat} {D : Tel}
/-- the values still to be looked at -/
def LeftB (X : Cx) (D : Tel) (pins : List (Addr × Obj)) (σ : L2.St) (H : Hp) (k : Bool) (r : List (Value × Value)) (s' : Shared) : Prop :=
  ∃ (H' : Hp) (us vs : List Value) (xs ys : List V), r = us.zip vs ∧ Vals xs us ∧ Vals ys vs ∧ Walk2 D xs ys k H' ∧ L2.Inv X pins σ H' s' ∧ L2.Ext H H'
theorem op_eqTupB (m : TelM D) (T : TelG X n D) (hr : Room (n + 1) X.A) : OpR X (compareOp .Eq) (rEqB (DTupB X.K D)) := by
  intro pins s σ H x y v u Q I rx ry ⟨k, ⟨a, b, xs, ys, ex, ey, ha, hb, p⟩, q⟩
  subst ex ey
  cases rx
  cases ry
  obtain ⟨us, ru, ta, _⟩ := I.tuple ha
  obtain ⟨vs, rv, tb, _⟩ := I.tuple hb
  have sb : L2.Sub X (n + 1) X.A := ⟨hr, rfl⟩
  refine eq_pairsB hr.units0 (LeftB X D pins σ H k) (fun c s' => c = k ∧ ∃ H', L2.Inv X pins σ H' s' ∧ L2.Ext H H') (fun p r s' l => ?_) (fun s' l => ?_) (fun c s' ⟨ec, H', I', e'⟩ => ?_) ta tb ?_ ⟨H, us, vs, xs, ys, rfl, ru, rv, p, I, L2.Ext.rfl'⟩
  · obtain ⟨H1, us1, vs1, xs1, ys1, e, r1, r2, w1, I1, e1⟩ := l
    cases r1 with
    | nil => cases e
    | cons ra rt =>
      cases r2 with
      | nil => cases e
      | cons rb rt2 =>
        rw [List.zip_cons_cons] at e
        cases e
        cases w1 with
        | miss d _ =>
          refine wpAny_mono (T X.A.in1 pins s' σ H1 _ _ _ _ _ sb.in1 I1 ra rb d) (fun c s2 ⟨er, H2, I2, e2⟩ => ?_) fun _ _ z => z
          subst er
          exact ⟨rfl, H2, I2, e1.trans e2⟩
        | hit d w2 =>
          refine wpAny_mono (T X.A.in1 pins s' σ H1 _ _ _ _ _ sb.in1 I1 ra rb d) (fun c s2 ⟨er, H2, I2, e2⟩ => ?_) fun _ _ z => z
          subst er
          exact ⟨H2, _, _, _, _, rfl, rt, rt2, w2.mono m e2, I2, e1.trans e2⟩
  · obtain ⟨H1, us1, vs1, xs1, ys1, e, r1, r2, w1, I1, e1⟩ := l
    cases w1 with
    | nil => exact ⟨rfl, H1, I1, e1⟩
    | miss d _ =>
      cases r1
      cases r2
      cases e
    | hit d _ =>
      cases r1
      cases r2
      cases e
  · subst ec
    exact ⟨.bl c, H', I', rfl, q H' e'⟩
  · rw [List.size_toArray, List.size_toArray, ← ru.length, ← rv.length]
    exact p.len
/-- .. over representations -/
inductive Walk2R (D : Tel) : List Rep → List Rep → Bool → Prop
  | nil : Walk2R D [] [] true
  | miss {ρ ρ' : Rep} {ρs ρs' : List Rep} : RTel D ρ ρ' false → ρs.length = ρs'.length → Walk2R D (ρ :: ρs) (ρ' :: ρs') false
  | hit {ρ ρ' : Rep} {ρs ρs' : List Rep} {b : Bool} : RTel D ρ ρ' true → Walk2R D ρs ρs' b → Walk2R D (ρ :: ρs) (ρ' :: ρs') b
theorem Walk2R.run {ρs ρs' : List Rep} {b : Bool} (h : Walk2R D ρs ρs' b) {G H : Hp} (s : Same G H) : ∀ {xs ys : List V}, Reps ρs xs G → Reps ρs' ys G → Walk2 D xs ys b H := by
  induction h with
  | nil =>
    intro xs ys r r'
    cases xs with
    | nil =>
      cases ys with
      | nil => exact .nil
      | cons _ _ => exact r'.elim
    | cons _ _ => exact r.elim
  | miss t l =>
    intro xs ys r r'
    cases xs with
    | nil => exact r.elim
    | cons x xs =>
      cases ys with
      | nil => exact r'.elim
      | cons y ys => exact .miss (t _ _ _ _ s r.1 r'.1) (by rw [← r.2.length, ← r'.2.length]; exact l)
  | hit t _ ih =>
    intro xs ys r r'
    cases xs with
    | nil => exact r.elim
    | cons x xs =>
      cases ys with
      | nil => exact r'.elim
      | cons y ys => exact .hit (t _ _ _ _ s r.1 r'.1) (ih r.2 r'.2)
theorem opv_eqTB {K : PySem.W.Frag} {ρs ρs' : List Rep} {b : Bool} (h : Walk2R D ρs ρs' b) : OpV (rEqB (DTupB K D)) (RTt ρs) (RTt ρs') (RB b) := fun x y G H s hx hy Q q => by
  obtain ⟨a1, xs, e1, h1, r1⟩ := hx
  obtain ⟨a2, ys, e2, h2, r2⟩ := hy
  subst e1 e2
  exact ⟨b, ⟨a1, a2, xs, ys, rfl, rfl, .inl (.inl (s _ _ h1)), .inl (.inl (s _ _ h2)), h.run s r1 r2⟩, fun H' e' => q _ G H' ⟨Same.refl _, s.trans e', e', fun _ _ z => z⟩ rfl⟩
end
end MM

namespace MM
open PySem L2 PyProof.Rows
/-! ### xs.count(x) in a list whose items tell by an own __eq__ -/
section
open PySem.SeqAt
open AutoSeq1 (wpAny_loadPart')
open MeetsSeq MeetsSeq2 MeetsSeq3 SeqRoads2
variable {prog : Program} {w : World} {A : Around} {R : Result → Shared → Prop} {l : Addr} {N : Nat}
/-- J i c: the items ahead of i are looked at, c of them were equal -/
def Counts (prog : Program) (w : World) (A : Around) (E : Value → Shared → Prop) (l : Addr) (N : Nat) (x : Value) (J : Nat → Nat → Shared → Prop) (B : Nat → Shared → Prop) : Prop :=
  ∀ i c s, J i c s → ∃ (items : Array Value) (n : Nat) (sl : Array (Option Value)), s.heap.get? l = some { cls := .type "list", data := .seq items n, slots := sl } ∧ items.size = N ∧ (N ≤ i → B c s) ∧
    ∀ h : i < items.size, wpAny (model prog w) A.in1 (eqBool items[i] x) (fun r s' => J (i + 1) (c + if r = true then 1 else 0) s') E s
theorem count_loop {x : Value} {J : Nat → Nat → Shared → Prop} {B : Nat → Shared → Prop} (look : Counts prog w A (fun e s' => R (.error e) s') l N x J B) (told : ∀ b s, B b s → ∀ tk, R (.ok (.ret (.int (b : Nat) tk))) { s with toks := s.toks + 1 }) :
    ∀ (k i c : Nat), i + k = N → ∀ s, J i c s → wpAny (model prog w) A.in1 (Builtin.«list.count.loop» ⟨[.ref l, x, rawInt i, rawInt c], []⟩) (GQ.FinOf prog w A R) (fun e s' => R (.error e) s') s
  | 0, i, c, hk, s, j => by
    obtain ⟨items, n, sl, hl, hN, out, _⟩ := look i c s j
    have done := told _ _ (out (by omega))
    obtain ⟨hp, g, d, tk, os⟩ := s
    wp_walk using wpAny_loadPart' hl
    have hi : items[((i : Nat) : Int).toNat]? = none := by simp; omega
    rw [hi]
    wp_walk
    exact done _
  | k + 1, i, c, hk, s, j => by
    obtain ⟨items, n, sl, hl, hN, _, turn⟩ := look i c s j
    have hlt : i < items.size := by omega
    have tn := turn hlt
    have rest := fun c' s' j' => count_loop look told k (i + 1) c' (by omega) s' j'
    obtain ⟨hp, g, d, tk, os⟩ := s
    wp_walk using wpAny_loadPart' hl
    have hi : items[((i : Nat) : Int).toNat]? = some items[i] := by simp [hlt]
    rw [hi]
    refine wpAny_bind (wpAny_mono tn (fun r s' z => ?_) fun _ _ y => y)
    have go := rest _ s' z
    have hc : ((i : Int) + 1) = ((i + 1 : Nat) : Int) := by omega
    obtain ⟨hp, g, d, tk, os⟩ := s'
    cases r with
    | true =>
      have hd : ((c : Int) + 1) = ((c + 1 : Nat) : Int) := by omega
      wp_walk
      rw [hc, hd]
      exact ⟨plainId_quiet plain_count_loop _, codeAny_builtin entry_count_loop (by
        rw [Around.under_plainId plain_count_loop _]
        exact go)⟩
    | false =>
      wp_walk
      rw [hc]
      exact ⟨plainId_quiet plain_count_loop _, codeAny_builtin entry_count_loop (by
        rw [Around.under_plainId plain_count_loop _]
        exact go)⟩
theorem count_call {E : Value → Shared → Prop} {s : Shared} {x : Value} {J : Nat → Nat → Shared → Prop} {B : Nat → Shared → Prop} (look : Counts prog w A E l N x J B) (j : J 0 0 s) : wpAny (model prog w) A (call (.builtin "list.count") [.ref l, x]) (fun v s' => ∃ b tk s0, v = .int (b : Nat) tk ∧ B b s0 ∧ s' = { s0 with toks := s0.toks + 1 }) E s := by
  obtain ⟨items, n, sl, hl, hN, _, _⟩ := look 0 0 s j
  refine GQ.call_here F.slot_list_count ⟨_, hl, rfl⟩ F.entry_list_count (F.args_list_count_2 _ _) ?_
  have go := count_loop (R := wants (fun v s' => ∃ b tk s0, v = .int (b : Nat) tk ∧ B b s0 ∧ s' = { s0 with toks := s0.toks + 1 }) E) look (fun b s z tk => ⟨b, tk, s, rfl, z, rfl⟩) N 0 0 (by omega) s j
  obtain ⟨hp, g, d, tk, os⟩ := s
  wp_walk using wpAny_loadPart' hl
  exact ⟨plainId_quiet plain_count_loop _, codeAny_builtin entry_count_loop (by
    rw [Around.under_plainId plain_count_loop _]
    exact go)⟩
end
/-- how many of the items are equal -/
inductive Cnt (D : Tel) (y : V) : List V → Nat → Hp → Prop
  | nil {H : Hp} : Cnt D y [] 0 H
  | cons {x : V} {xs : List V} {b : Bool} {n : Nat} {H : Hp} : D x y b H → Cnt D y xs n H → Cnt D y (x :: xs) (n + if b = true then 1 else 0) H
theorem Cnt.mono {D : Tel} (m : TelM D) {y : V} {xs : List V} {n : Nat} {H H' : Hp} (e : L2.Ext H H') (h : Cnt D y xs n H) : Cnt D y xs n H' := by
  induction h with
  | nil => exact .nil
  | cons d _ ih => exact .cons (m _ _ _ _ _ e d) (ih e)
def rCntG (K : PySem.W.Frag) (D : Tel) : V → List V → Hp → VK → Prop := fun x zs H Q => ∃ (p : Addr) (xs : List V) (y : V) (n : Nat), x = .ref p ∧ zs = [y] ∧ L2.SqL K H p xs ∧ Cnt D y xs n H ∧ ∀ H', L2.Ext H H' → Q (.int (n : Nat)) H'
section
variable {X : Cx} {n : Nat} {D : Tel}
def LeftC (X : Cx) (D : Tel) (pins : List (Addr × Obj)) (σ : L2.St) (H : Hp) (x : V) (xs : List V) (t : Nat) (i c : Nat) (s' : Shared) : Prop := ∃ H' m, L2.Inv X pins σ H' s' ∧ L2.Ext H H' ∧ Cnt D x (xs.drop i) m H' ∧ c + m = t
theorem mt_cntG (m : TelM D) (T : TelG X n D) (hr : Room (n + 1) X.A) : MtR X "list.count" (rCntG X.K D) := by
  intro pins s σ H x zs v us Q I rx rxs h
  obtain ⟨a, xs, y, t, rfl, rfl, hl, sk, q⟩ := h
  cases rx
  obtain ⟨u, rfl, ru⟩ := rxs.one
  have sb : L2.Sub X (n + 1) X.A := ⟨hr, rfl⟩
  refine wpAny_mono (count_call (N := xs.length) (J := LeftC X D pins σ H y xs t) (B := fun c s' => c = t ∧ ∃ H', L2.Inv X pins σ H' s' ∧ L2.Ext H H') ?_ ⟨H, t, I, L2.Ext.rfl', by rw [List.drop_zero]; exact sk, Nat.zero_add _⟩) (fun r s' ⟨b, tk, s0, er, ⟨eb, H', I', e'⟩, es⟩ => ?_) fun _ _ z => z
  · rintro i c s1 ⟨H1, m1, I1, e1, sk1, em⟩
    obtain ⟨its, rv, ⟨⟨cls, dd, data, sls⟩, n0, ho, hc, hdn, hdt⟩, hlen⟩ := I1.list (hl.ext e1)
    simp only at hc hdn hdt
    subst hc hdn hdt
    refine ⟨its.toArray, n0, sls, ho, by rw [List.size_toArray, ← rv.length], fun hi => ?_, fun hi => ?_⟩
    · rw [List.drop_of_length_le hi] at sk1
      cases sk1
      exact ⟨by omega, H1, I1, e1⟩
    · have hi' : i < its.length := by simpa using hi
      have hx : i < xs.length := by rw [rv.length]; exact hi'
      rw [List.drop_eq_getElem_cons hx] at sk1
      obtain ⟨u', hu, ru'⟩ := rv.get (List.getElem?_eq_getElem hx)
      have eu : its.toArray[i] = u' := by
        rw [List.getElem?_eq_getElem hi'] at hu
        simpa using hu
      rw [eu]
      cases sk1 with
      | cons d rest =>
        refine wpAny_mono (T X.A.in1 pins s1 σ H1 _ _ _ _ _ sb.in1 I1 ru' ru d) (fun r s2 ⟨er, H2, I2, e2⟩ => ?_) fun _ _ z => z
        subst er
        exact ⟨H2, _, I2, e1.trans e2, rest.mono m e2, by omega⟩
  · subst er eb es
    exact ⟨.int (b : Nat), H', I'.tok _, ⟨tk, rfl⟩, q H' e'⟩
end
/-- .. over representations -/
inductive CntR (D : Tel) (ρ : Rep) : List Rep → Nat → Prop
  | nil : CntR D ρ [] 0
  | cons {ρ1 : Rep} {ρs : List Rep} {b : Bool} {n : Nat} : RTel D ρ1 ρ b → CntR D ρ ρs n → CntR D ρ (ρ1 :: ρs) (n + if b = true then 1 else 0)
theorem CntR.run {D : Tel} {ρ : Rep} {ρs : List Rep} {n : Nat} (h : CntR D ρ ρs n) {G H : Hp} {y : V} (s : Same G H) (ry : ρ.p y G) : ∀ {xs : List V}, Reps ρs xs G → Cnt D y xs n H := by
  induction h with
  | nil =>
    intro xs r
    cases xs with
    | nil => exact .nil
    | cons _ _ => exact r.elim
  | cons t _ ih =>
    intro xs r
    cases xs with
    | nil => exact r.elim
    | cons x xs => exact .cons (t _ _ _ _ s r.1 ry) (ih r.2)
theorem mtw_cnt {E : En} {Γ : Gm} {M : Ow} {Φ : Rep → Ow → Prop} {K : PySem.W.Frag} {D : Tel} {ρo ρ : Rep} {ρs : List Rep} {n : Nat} (sb : MM.Sub ρo (RLt ρs)) (h : CntR D ρ ρs n) (k : Φ (RI (n : Nat)) M) : MtW E Γ M (rCntG K D) ρo [ρ] Φ := fun σ G H a x vs hx hv Q q => by
  obtain ⟨p, ws, e, hp, r⟩ := sb _ _ hx
  subst e
  match vs, hv with
  | [v], ⟨rv, _⟩ =>
    exact ⟨p, ws, v, n, rfl, rfl, .inl (.inl (a.gh _ _ hp)), h.run a.gh rv r, fun H' e' => q _ M _ G H' k (Same.refl _) (a.new ⟨Same.refl _, a.gh.trans e', e', fun _ _ z => z⟩) rfl⟩
end MM

namespace MM
open PySem L2 PyProof.Rows
/-! ### {x}, {x!r} of own instances -/
section
open PySem.W
variable {prog : Program} {w : World} {A : Around} {E : Value → Shared → Prop} {s : Shared} {K : PySem.W.Frag} {x C f : Addr} {ox : Obj} {od : Option Obj}
theorem reprObj_own {Q : Value → Shared → Prop} (hu : A.units < cLine) (X : K.In s.heap) (I : InstAt s.heap x ox C od) (hs : findIn K (.ref C) "__repr__" = some (some (.ref f))) (hf : isFn K (.ref f) = true)
    (h : wpAny (model prog w) A (call (.ref f) [.ref x]) (StrBack Q) E s) : wpAny (model prog w) A (pyReprObj (.ref x)) Q E s := by
  have last : wpAny (model prog w) A (callSpecialIfBound? (.ref x) (Str.ofString "__repr__") []) (fun r s' => ∃ y t, r = some (.str y t) ∧ Q (.str y t) s') E s := ifBound_K X I hs hf (wpAny_mono h (fun r s' hr => by cases r <;> first | exact hr.elim | exact ⟨_, _, rfl, hr⟩) fun _ _ z => z)
  unfold pyReprObj
  refine wpAny_bind (m := cRoomFor _ _) (wpAny_cRoomFor hu ?_)
  refine wpAny_bind (m := specialOf (.ref x) (Str.ofString "__repr__")) (wpAny_bind (I.type.here ((looks_findIn X hs).here ?_)))
  refine wpAny_bind (m := callSpecialIfBound? (.ref x) (Str.ofString "__repr__") []) (wpAny_mono last (fun r s' ⟨y, t, er, q⟩ => ?_) fun _ _ z => z)
  subst er
  refine wpAny_bind (wpAny_isInstance (T := "str") (b := true) (typeIs_str _ _ _) isSubtype_str_str ?_)
  exact wpAny_pure q
end
section
variable {X : Cx} {n : Nat} {C f a : Addr} {fd : FuncData} {ps : List Str} {sp : Sp} {e : Expr} {te : TE} {pos : Pos}
/-- {x}: by its own __str__ -/
theorem pe_fmtO (F : FnOk X.prog X.w X.K X.mg X.base CX0 n f fd ps sp) (hs : PySem.W.findIn X.K (.ref C) "__str__" = some (some (.ref f))) (hf : PySem.W.isFn X.K (.ref f) = true) (hb : Binds X.K fd ps [])
    (hm : PySem.W.findIn X.K (.ref C) "__format__" = some (some (.builtin "object.__format__"))) (ho : PySem.W.mroIn X.K C (.type "object") = some true) (hx : Passes CX0 X E0) (hr : Room (n + 1) X.A) (he : PE X e te) :
    PE X (.FormattedValue e (-1) none pos) (fun σ H Q => te σ H fun v H1 => rStrO C sp [v] H1 Q) := by
  refine ⟨fun pins s σ H Q I h => ?_⟩
  refine wpAny_FormattedValue_plain (thn (he.run pins s σ H _ I h) fun v s1 hv => ?_)
  obtain ⟨x, H1, I1, r1, a, dx, fs, ex, ha, q⟩ := hv
  cases ex
  cases (show v = Value.ref a from r1)
  obtain ⟨mA, J, _⟩ := ins_get I1.hok ha
  obtain ⟨od, J, _⟩ := J.look
  have hr1 : Room n X.A.in1 := Room.in1 hr
  have I2 : L2.Inv X pins σ H1 { s1 with toks := s1.toks + 1 } := I1.tok _
  exact PySem.W.kfo_fieldS hr1.units0 I1.kIn J hm ho hs hf (wpAny_mono (run_own F hb hr1 I2.env0.in1 hx I2 q) (fun w s' z => txBack z) fun _ _ x => x)
/-- {x!r}: by its own __repr__ -/
theorem pe_fmtOR (F : FnOk X.prog X.w X.K X.mg X.base CX0 n f fd ps sp) (hs : PySem.W.findIn X.K (.ref C) "__repr__" = some (some (.ref f))) (hf : PySem.W.isFn X.K (.ref f) = true) (hb : Binds X.K fd ps []) (hx : Passes CX0 X E0) (hr : Room n X.A) (he : PE X e te) :
    PE X (.FormattedValue e 114 none pos) (fun σ H Q => te σ H fun v H1 => rStrO C sp [v] H1 fun z H2 => ∃ y : Str, z = .str y ∧ y.length ≤ sizeLine ∧ Q (.str y) H2) := by
  refine ⟨fun pins s σ H Q I h => ?_⟩
  refine wpAny_FormattedValue_repr (thn (he.run pins s σ H _ I h) fun v s1 hv => ?_)
  obtain ⟨x, H1, I1, r1, a, dx, fs, ex, ha, q⟩ := hv
  cases ex
  cases (show v = Value.ref a from r1)
  obtain ⟨mA, J, _⟩ := ins_get I1.hok ha
  obtain ⟨od, J, _⟩ := J.look
  refine reprObj_own hr.units0 I1.kIn J hs hf (wpAny_mono (run_own F hb hr I1.env0 hx I1 q) (fun w s' z => ?_) fun _ _ x => x)
  obtain ⟨z1, H2, I2, rz, t, ez, y, ey, hl, qz⟩ := z
  subst ez
  cases ey
  obtain ⟨tk, e⟩ := (show ∃ tk, w = Value.str t tk from rz)
  cases e
  exact wpAny_formatField_str ⟨.str t, H2, I2, ⟨_, rfl⟩, qz⟩ ⟨.str t, H2, I2.tok _, ⟨_, rfl⟩, qz⟩ hl
end
section
variable {X : Cx} {E : En} {Γ : Gm} {M : Ow} {e : Expr} {pos p : Pos} {Φ : Rep → Ow → Prop} {k : Nat} {C : Addr} {c : Con}
theorem we_fmtO (F : KnO X.prog X.w X.K X.mg X.base k C "__str__" c) (hm : PySem.W.findIn X.K (.ref C) "__format__" = some (some (.builtin "object.__format__"))) (ho : PySem.W.mroIn X.K C (.type "object") = some true) (hr : Room (k + 1) X.A) (hx : Passes CX0 X E0)
    (h : WE X E Γ M e fun ρ M1 => (∃ l, MM.Sub ρ (RIns C l)) ∧ CallK c [ρ] M1 fun ρ' M' => (∃ t, MM.Sub ρ' (RS t)) ∧ Φ ρ' M') : WE X E Γ M (.FormattedValue e (-1) none pos) Φ := by
  obtain ⟨f, fd, ps, hs, hf, hb, ok⟩ := F
  refine we_of (pe_fmtO ok hs hf hb hm ho hx hr pe_w) fun σ G H a Q q => ?_
  exact h σ G H a _ fun ρ M1 v G1 H1 ⟨s1, ck⟩ sg a1 r1 => caw_own rfl s1 ck σ G1 H1 a1 [v] ⟨r1, trivial⟩ Q fun ρ' M2 v2 G2 H2 h2 s2 => q ρ' M2 v2 G2 H2 h2 (sg.trans s2)
theorem we_fmtOR (F : KnO X.prog X.w X.K X.mg X.base k C "__repr__" c) (hr : Room k X.A) (hx : Passes CX0 X E0)
    (h : WE X E Γ M e fun ρ M1 => (∃ l, MM.Sub ρ (RIns C l)) ∧ CallK c [ρ] M1 fun ρ' M' => ∃ t : Str, MM.Sub ρ' (RS t) ∧ t.length ≤ 100000 ∧ Φ (RS t) M') : WE X E Γ M (.FormattedValue e 114 none pos) Φ := by
  obtain ⟨f, fd, ps, hs, hf, hb, ok⟩ := F
  refine we_of (pe_fmtOR ok hs hf hb hx hr pe_w) fun σ G H a Q q => ?_
  refine h σ G H a _ fun ρ M1 v G1 H1 ⟨s1, ck⟩ sg a1 r1 => ?_
  refine caw_own (Φ := fun ρ' M' => ∃ t : Str, MM.Sub ρ' (RS t) ∧ t.length ≤ 100000 ∧ Φ (RS t) M') rfl s1 ?_ σ G1 H1 a1 [v] ⟨r1, trivial⟩ _ fun ρ' M2 v2 G2 H2 ⟨t, st, hl, hφ⟩ s2 a2 r2 => ?_
  · obtain ⟨i, rest, hp, sb, pk, hk⟩ := ck
    exact ⟨i, rest, hp, sb, pk, fun x px => ⟨⟨_, (hk x px).choose_spec.1⟩, hk x px⟩⟩
  · exact ⟨t, st _ _ r2, szOf hl, q (RS t) M2 _ G2 H2 hφ (sg.trans s2) a2 rfl⟩
end
end MM

namespace MM
open PySem L2 PyProof.Rows
/-! ### == of calendars, whatever it tells; their texts -/
def keptB (c d : Cal) : Bool := decide (keptL c = keptL d)
theorem keptB_self {c : Cal} : keptB c c = true := decide_eq_true rfl
theorem keptB_comm {c d : Cal} : keptB c d = keptB d c := decide_eq_decide.mpr ⟨Eq.symm, Eq.symm⟩
theorem keptB_of {c d : Cal} (h : c.kept = d.kept) : keptB c d = true := decide_eq_true (by unfold keptL; rw [h])
def con_Cal_eqB (CC CS : Addr) : Con := { I := Cal × Cal, B := Unit, pre := fun i => CalOk i.1 ∧ CalOk i.2, args := fun i => [RCal CC CS i.1, RCal CC CS i.2], own := fun _ => [], post := fun _ _ => True, res := fun i _ => RB (keptB i.1 i.2), own' := fun _ _ => [] }
theorem ck_Cal_eqB {CC CS : Addr} {ρ1 ρ2 : Rep} {M : Ow} {Φ : Rep → Ow → Prop} (c d : Cal) (h1 : Sub ρ1 (RCal CC CS c)) (h2 : Sub ρ2 (RCal CC CS d)) (hc : CalOk c) (hd : CalOk d) (k : Φ (RB (keptB c d)) M) : CallK (con_Cal_eqB CC CS) [ρ1, ρ2] M Φ :=
  ⟨(c, d), M, ⟨hc, hd⟩, .cons h1 (.cons h2 .nil), .nil, fun _ _ => k⟩
def calT (c : Cal) : Str := "month " ++ shT c.month ++ "\nyear " ++ shT c.year ++ "\nmoon " ++ shT c.moon ++ "\nmark " ++ shT c.mark
def calRp (c : Cal) : Str := "Calendar(" ++ rpT c.month ++ ", " ++ rpT c.year ++ ", " ++ rpT c.moon ++ ", " ++ rpT c.mark ++ ")"
theorem calT_ok {c : Cal} : PyData.strOk (calT c) = true := by
  unfold calT
  exact strOk_app (strOk_app (strOk_app (strOk_app (strOk_app (strOk_app (strOk_app (by decide +kernel) shT_ok) (by decide +kernel)) shT_ok) (by decide +kernel)) shT_ok) (by decide +kernel)) shT_ok
theorem calRp_ok {c : Cal} : PyData.strOk (calRp c) = true := by
  unfold calRp
  exact strOk_app (strOk_app (strOk_app (strOk_app (strOk_app (strOk_app (strOk_app (strOk_app (by decide +kernel) rpT_ok) (by decide +kernel)) rpT_ok) (by decide +kernel)) rpT_ok) (by decide +kernel)) rpT_ok) (by decide +kernel)
def con_Cal_str (CC CS : Addr) : Con := { I := Cal, B := Unit, pre := fun c => CalOk c, args := fun c => [RCal CC CS c], own := fun _ => [], post := fun _ _ => True, res := fun c _ => RS (calT c), own' := fun _ _ => [] }
theorem ck_Cal_str {CC CS : Addr} {ρ : Rep} {M : Ow} {Φ : Rep → Ow → Prop} {c : Cal} (h : Sub ρ (RCal CC CS c)) (z : CalOk c) (k : Φ (RS (calT c)) M) : CallK (con_Cal_str CC CS) [ρ] M Φ :=
  ⟨c, M, z, .cons h .nil, .nil, fun _ _ => k⟩
def con_Cal_repr (CC CS : Addr) : Con := { I := Cal, B := Unit, pre := fun c => CalOk c, args := fun c => [RCal CC CS c], own := fun _ => [], post := fun _ _ => True, res := fun c _ => RS (calRp c), own' := fun _ _ => [] }
theorem ck_Cal_repr {CC CS : Addr} {ρ : Rep} {M : Ow} {Φ : Rep → Ow → Prop} {c : Cal} (h : Sub ρ (RCal CC CS c)) (z : CalOk c) (k : Φ (RS (calRp c)) M) : CallK (con_Cal_repr CC CS) [ρ] M Φ :=
  ⟨c, M, z, .cons h .nil, .nil, fun _ _ => k⟩
/-- the same thing has the same fields -/
theorem frep_same {f : Str} {ρ ρ' : Rep} {l l' : List (Str × Rep)} {fs : List (Str × V)} {G : Hp} (h : FRep l fs G) (h' : FRep l' fs G) (e : l.lookup f = some ρ) (e' : l'.lookup f = some ρ') : ∃ v, ρ.p v G ∧ ρ'.p v G := by
  obtain ⟨v, e1, r1⟩ := h.look e
  obtain ⟨v', e2, r2⟩ := h'.look e'
  rw [e1] at e2
  cases e2
  exact ⟨v, r1, r2⟩
theorem sh_same {CS : Addr} {q r : Rat} {v : V} {G : Hp} (h : (RSh CS q).p v G) (h' : (RSh CS r).p v G) : q = r := by
  obtain ⟨a, dx, fs, e, hG, rf⟩ := h
  obtain ⟨a', dx', fs', e', hG', rf'⟩ := h'
  subst e
  cases e'
  rw [hG] at hG'
  cases hG'
  obtain ⟨x, x1, x2⟩ := frep_same (f := "top") rf rf' (by simp [List.lookup]; rfl) (by simp [List.lookup]; rfl)
  obtain ⟨y, y1, y2⟩ := frep_same (f := "bottom") rf rf' (by simp [List.lookup, lk_tb]; rfl) (by simp [List.lookup, lk_tb]; rfl)
  have n : V.int q.num = V.int r.num := (show x = V.int q.num from x1).symm.trans x2
  have d : V.int (q.den : Int) = V.int (r.den : Int) := (show y = V.int (q.den : Int) from y1).symm.trans y2
  exact rat_num_den (V.int.inj n) (V.int.inj d)
theorem cal_same {CC CS : Addr} {c d : Cal} {v : V} {G : Hp} (h : (RCal CC CS c).p v G) (h' : (RCal CC CS d).p v G) : c = d := by
  obtain ⟨a, dx, fs, e, hG, rf⟩ := h
  obtain ⟨a', dx', fs', e', hG', rf'⟩ := h'
  subst e
  cases e'
  rw [hG] at hG'
  cases hG'
  obtain ⟨_, x1, x2⟩ := frep_same (f := "month") (ρ := RSh CS c.month) (ρ' := RSh CS d.month) rf rf' (by simp [List.lookup]) (by simp [List.lookup])
  obtain ⟨_, y1, y2⟩ := frep_same (f := "year") (ρ := RSh CS c.year) (ρ' := RSh CS d.year) rf rf' (by simp [List.lookup, ky1]) (by simp [List.lookup, ky1])
  obtain ⟨_, z1, z2⟩ := frep_same (f := "moon") (ρ := RSh CS c.moon) (ρ' := RSh CS d.moon) rf rf' (by simp [List.lookup, ky2, ky3]) (by simp [List.lookup, ky2, ky3])
  obtain ⟨_, u1, u2⟩ := frep_same (f := "mark") (ρ := RSh CS c.mark) (ρ' := RSh CS d.mark) rf rf' (by simp [List.lookup, ky4, ky5, ky6]) (by simp [List.lookup, ky4, ky5, ky6])
  have e1 := sh_same x1 x2
  have e2 := sh_same y1 y2
  have e3 := sh_same z1 z2
  have e4 := sh_same u1 u2
  cases c
  cases d
  cases e1
  cases e2
  cases e3
  cases e4
  rfl
theorem rtel_sh {CS : Addr} {q r : Rat} : RTel (DOO CS (con_eqS CS)) (RSh CS q) (RSh CS r) (decide (q = r)) := fun x y G H s rx ry => by
  have rx' := rx
  have ry' := ry
  obtain ⟨b1, dx, fs, e1, h1, r1⟩ := rx'
  obtain ⟨b2, dy, gs, e2, h2, r2⟩ := ry'
  refine ⟨b1, b2, dx, dy, fs, gs, e1, e2, s _ _ h1, s _ _ h2, fun e => ?_, G, (q, r), s, trivial, ⟨rx, ry, trivial⟩, fun _ _ => rfl⟩
  subst e
  refine decide_eq_true (sh_same rx (?_ : (RSh CS r).p x G))
  rw [e1.trans e2.symm]
  exact ry
theorem walk_sh {CS : Addr} : ∀ {l l' : List Rat}, l.length = l'.length → Walk2R (DOO CS (con_eqS CS)) (l.map (RSh CS)) (l'.map (RSh CS)) (decide (l = l'))
  | [], [], _ => .nil
  | q :: l, r :: l', h => by
    by_cases e : q = r
    · subst e
      have ih := walk_sh (CS := CS) (l := l) (l' := l') (by simpa using h)
      have t : RTel (DOO CS (con_eqS CS)) (RSh CS q) (RSh CS q) true := by
        have := @rtel_sh CS q q
        rwa [decide_eq_true rfl] at this
      have e2 : decide (q :: l = q :: l') = decide (l = l') := decide_eq_decide.mpr ⟨fun z => (List.cons.inj z).2, fun z => by rw [z]⟩
      rw [e2]
      exact .hit t ih
    · have t : RTel (DOO CS (con_eqS CS)) (RSh CS q) (RSh CS r) false := by
        have := @rtel_sh CS q r
        rwa [decide_eq_false e] at this
      rw [decide_eq_false (fun z => e (List.cons.inj z).1)]
      exact .miss t (by simpa using h)
  | [], _ :: _, h => by simp at h
  | _ :: _, [], h => by simp at h
/-- what is known of the two classes' texts -/
structure CalX (P : Program) (w : World) (K : PySem.W.Frag) (mg : Str → Option Value) (base : Heap) (CC CS : Addr) : Prop where
  isi : mg "isinstance" = none
  mgC : mg "Calendar" = some (.ref CC)
  fm : PySem.W.findIn K (.ref CS) "__format__" = some (some (.builtin "object.__format__"))
  ob : PySem.W.mroIn K CS (.type "object") = some true
  st : KnO P w K mg base 1 CS "__str__" (con_Sh_str CS)
  rp : KnO P w K mg base 1 CS "__repr__" (con_Sh_repr CS)
  eq : KnE P w K mg base 1 CS (con_eqS CS)
section
variable {P : Program} {w : World} {K : PySem.W.Frag} {mg : Str → Option Value} {base : Heap} {CS CC : Addr}
theorem ok_Cal_eqB {f : Addr} {fd : FuncData} (F : FdD K "__eq__" "Calendar.__eq__" s_Calendar_eq [] f fd) (S : CalM P w K mg base CC CS) (B : CalX P w K mg base CC CS) (Kf : Kn P w K mg base 7 "kept_form" [] (con_kf CC CS)) : FnOk P w K mg base CX0 8 f fd ["self", "other"] (conSp (con_Cal_eqB CC CS)) := by
  refine fn_conD (con_Cal_eqB CC CS) F sc_Calendar_eq (fun _ => rfl) fun cd A outer s H EE G i hp hr hE => ?_
  obtain ⟨c, d⟩ := i
  obtain ⟨hc, hd⟩ := hp
  have hc : CalOk c := hc
  have hd : CalOk d := hd
  have hr2 := hr.mono (show 2 ≤ 7 by decide)
  refine wss_one (ws_ret (we_and (we_callB call_isi g_isinstance_Calendar_eq B.isi (by decide +kernel) (wa_cons (we_var 1 r1_Calendar_eq rfl (wa_cons (we_glob (v := .ref CC) (ρ := RV (.ref CC)) g_Calendar_Calendar_eq B.mgC rfl (fun _ => rfl) (wa_nil ?_))))))))
  refine caw_of (cav_isi (tyIs_ins S.CT.ci) (.own CC) kit_self) ⟨true, Sub.rfl, fun _ => ?_, fun hk => (by cases hk)⟩
  refine we_and1 (we_cmp (op_eqTupB (D := DOO CS (con_eqS CS)) telM_oo (telG_oo ⟨fun _ => rfl, B.eq⟩ pass0) hr2) (nomark _) (we_call Kf hr g_kept_form_Calendar_eq pass0 (wa_cons (we_var 0 r0_Calendar_eq rfl (wa_nil (ck_kf Sub.rfl hc ?_))))))
  refine we_call Kf hr g_kept_form_Calendar_eq pass0 (wa_cons (we_var 1 r1_Calendar_eq rfl (wa_nil (ck_kf Sub.rfl hd ?_))))
  exact opw_of (opv_eqTB (walk_sh rfl)) ⟨(), [], trivial, Sub.rfl, .nil⟩
theorem ok_Cal_eqF {f : Addr} {fd : FuncData} (F : FdD K "__eq__" "Calendar.__eq__" s_Calendar_eq [] f fd) (k1 : PySem.W.isClsIn K CC = true) (k2 : PySem.W.typeIn K (.ref CC) = some (.type "type")) (hm : mg "Calendar" = some (.ref CC)) (hi : mg "isinstance" = none) : FnOk P w K mg base CX0 8 f fd ["self", "other"] (conSp (con_eqF K CC)) := by
  refine fn_conD (con_eqF K CC) F sc_Calendar_eq (fun _ => rfl) fun cd A outer s H EE G i hp hr hE => ?_
  obtain ⟨l, ρ, T⟩ := i
  obtain ⟨h1, h2⟩ := hp
  have h1 : RFrg ρ T := h1
  refine wss_one (ws_ret (we_and (we_callB call_isi g_isinstance_Calendar_eq hi (by decide +kernel) (wa_cons (we_var 1 r1_Calendar_eq rfl (wa_cons (we_glob (v := .ref CC) (ρ := RV (.ref CC)) g_Calendar_Calendar_eq hm rfl (fun _ => rfl) (wa_nil ?_))))))))
  exact caw_of (cav_isi h1.tyIs (.own CC) (kitInt k1 k2 h2)) ⟨false, Sub.rfl, fun hk => (by cases hk), fun _ => ⟨(), [], trivial, Sub.rfl, .nil⟩⟩
theorem shT_len {n : Nat} {q : Rat} (z : Sz n q) (hn : n ≤ 1900) : (shT q).length ≤ 3850 := by
  have t1 := itx_len (lg_of z.num hn)
  have t2 := itx_len (lg_of z.den hn)
  have e : ("/" : Str).length = 1 := by decide +kernel
  unfold shT
  split
  · omega
  · rw [Str.length_append, Str.length_append]
    omega
theorem rpT_len {n : Nat} {q : Rat} (z : Sz n q) (hn : n ≤ 1900) : (rpT q).length ≤ 3860 := by
  have t1 := itx_len (lg_of z.num hn)
  have t2 := itx_len (lg_of z.den hn)
  have ls : ("Share(" : Str).length = 6 := by decide +kernel
  have lc : (", " : Str).length = 2 := by decide +kernel
  have lp : (")" : Str).length = 1 := by decide +kernel
  unfold rpT
  rw [Str.length_append, Str.length_append, Str.length_append, Str.length_append]
  omega
theorem ok_Cal_str {f : Addr} {fd : FuncData} (F : FdD K "__str__" "Calendar.__str__" s_Calendar_str [] f fd) (S : CalM P w K mg base CC CS) (B : CalX P w K mg base CC CS) : FnOk P w K mg base CX0 3 f fd ["self"] (conSp (con_Cal_str CC CS)) := by
  refine fn_conD (con_Cal_str CC CS) F sc_Calendar_str (fun _ => rfl) fun cd A outer s H EE G (c : Cal) hp hr hE => ?_
  have hc : CalOk c := hp
  have t1 := shT_len hc.m (by decide)
  have t2 := shT_len hc.y (by decide)
  have t3 := shT_len hc.o (by decide)
  have t4 := shT_len hc.k (by decide)
  have l1 : ("month " : Str).length = 6 := by decide +kernel
  have l2 : ("\nyear " : Str).length = 6 := by decide +kernel
  have l3 : ("\nmoon " : Str).length = 6 := by decide +kernel
  have l4 : ("\nmark " : Str).length = 6 := by decide +kernel
  have le : (Str.empty : Str).length = 0 := by decide +kernel
  have sz : sizeLine = 16777216 := by decide +kernel
  refine wss_one (ws_ret (we_joined ?_))
  refine we_str ⟨"month ", Sub.rfl, ?n1, ?_⟩
  case n1 =>
    simp only [Str.length_append, sz, l1, le]
    omega
  refine we_fmtO B.st B.fm B.ob hr pass0 (we_fld (we_var 0 r0_Calendar_str rfl ⟨_, hasF_month S.CT, ⟨_, Sub.rfl⟩, ck_Sh_str Sub.rfl (hc.m.mono (by decide)) ⟨⟨_, Sub.rfl⟩, shT c.month, Sub.rfl, ?n2, ?_⟩⟩))
  case n2 =>
    simp only [Str.length_append, sz, l1, le]
    omega
  refine we_str ⟨"\nyear ", Sub.rfl, ?n3, ?_⟩
  case n3 =>
    simp only [Str.length_append, sz, l1, l2, le]
    omega
  refine we_fmtO B.st B.fm B.ob hr pass0 (we_fld (we_var 0 r0_Calendar_str rfl ⟨_, hasF_year S.CT, ⟨_, Sub.rfl⟩, ck_Sh_str Sub.rfl (hc.y.mono (by decide)) ⟨⟨_, Sub.rfl⟩, shT c.year, Sub.rfl, ?n4, ?_⟩⟩))
  case n4 =>
    simp only [Str.length_append, sz, l1, l2, le]
    omega
  refine we_str ⟨"\nmoon ", Sub.rfl, ?n5, ?_⟩
  case n5 =>
    simp only [Str.length_append, sz, l1, l2, l3, le]
    omega
  refine we_fmtO B.st B.fm B.ob hr pass0 (we_fld (we_var 0 r0_Calendar_str rfl ⟨_, hasF_moon S.CT, ⟨_, Sub.rfl⟩, ck_Sh_str Sub.rfl (hc.o.mono (by decide)) ⟨⟨_, Sub.rfl⟩, shT c.moon, Sub.rfl, ?n6, ?_⟩⟩))
  case n6 =>
    simp only [Str.length_append, sz, l1, l2, l3, le]
    omega
  refine we_str ⟨"\nmark ", Sub.rfl, ?n7, ?_⟩
  case n7 =>
    simp only [Str.length_append, sz, l1, l2, l3, l4, le]
    omega
  refine we_fmtO B.st B.fm B.ob hr pass0 (we_fld (we_var 0 r0_Calendar_str rfl ⟨_, hasF_mark S.CT, ⟨_, Sub.rfl⟩, ck_Sh_str Sub.rfl (hc.k.mono (by decide)) ⟨⟨_, Sub.rfl⟩, shT c.mark, Sub.rfl, ?n8, (), [], trivial, ?_, .nil⟩⟩))
  case n8 =>
    simp only [Str.length_append, sz, l1, l2, l3, l4, le]
    omega
  show Sub (RS (Str.empty ++ "month " ++ shT c.month ++ "\nyear " ++ shT c.year ++ "\nmoon " ++ shT c.moon ++ "\nmark " ++ shT c.mark)) (RS (calT c))
  rw [Str.empty_append]
  exact Sub.rfl
theorem ok_Cal_repr {f : Addr} {fd : FuncData} (F : FdD K "__repr__" "Calendar.__repr__" s_Calendar_repr [] f fd) (S : CalM P w K mg base CC CS) (B : CalX P w K mg base CC CS) : FnOk P w K mg base CX0 2 f fd ["self"] (conSp (con_Cal_repr CC CS)) := by
  refine fn_conD (con_Cal_repr CC CS) F sc_Calendar_repr (fun _ => rfl) fun cd A outer s H EE G (c : Cal) hp hr hE => ?_
  have hc : CalOk c := hp
  have t1 := rpT_len hc.m (by decide)
  have t2 := rpT_len hc.y (by decide)
  have t3 := rpT_len hc.o (by decide)
  have t4 := rpT_len hc.k (by decide)
  have l1 : ("Calendar(" : Str).length = 9 := by decide +kernel
  have l2 : (", " : Str).length = 2 := by decide +kernel
  have l3 : (")" : Str).length = 1 := by decide +kernel
  have le : (Str.empty : Str).length = 0 := by decide +kernel
  have sz : sizeLine = 16777216 := by decide +kernel
  refine wss_one (ws_ret (we_joined ?_))
  refine we_str ⟨"Calendar(", Sub.rfl, ?n1, ?_⟩
  case n1 =>
    simp only [Str.length_append, sz, l1, le]
    omega
  refine we_fmtOR B.rp hr pass0 (we_fld (we_var 0 r0_Calendar_repr rfl ⟨_, hasF_month S.CT, ⟨_, Sub.rfl⟩, ck_Sh_repr Sub.rfl (hc.m.mono (by decide)) ⟨rpT c.month, Sub.rfl, by omega, rpT c.month, Sub.rfl, ?n2, ?_⟩⟩))
  case n2 =>
    simp only [Str.length_append, sz, l1, le]
    omega
  refine we_str ⟨", ", Sub.rfl, ?n3, ?_⟩
  case n3 =>
    simp only [Str.length_append, sz, l1, l2, le]
    omega
  refine we_fmtOR B.rp hr pass0 (we_fld (we_var 0 r0_Calendar_repr rfl ⟨_, hasF_year S.CT, ⟨_, Sub.rfl⟩, ck_Sh_repr Sub.rfl (hc.y.mono (by decide)) ⟨rpT c.year, Sub.rfl, by omega, rpT c.year, Sub.rfl, ?n4, ?_⟩⟩))
  case n4 =>
    simp only [Str.length_append, sz, l1, l2, le]
    omega
  refine we_str ⟨", ", Sub.rfl, ?n5, ?_⟩
  case n5 =>
    simp only [Str.length_append, sz, l1, l2, le]
    omega
  refine we_fmtOR B.rp hr pass0 (we_fld (we_var 0 r0_Calendar_repr rfl ⟨_, hasF_moon S.CT, ⟨_, Sub.rfl⟩, ck_Sh_repr Sub.rfl (hc.o.mono (by decide)) ⟨rpT c.moon, Sub.rfl, by omega, rpT c.moon, Sub.rfl, ?n6, ?_⟩⟩))
  case n6 =>
    simp only [Str.length_append, sz, l1, l2, le]
    omega
  refine we_str ⟨", ", Sub.rfl, ?n7, ?_⟩
  case n7 =>
    simp only [Str.length_append, sz, l1, l2, le]
    omega
  refine we_fmtOR B.rp hr pass0 (we_fld (we_var 0 r0_Calendar_repr rfl ⟨_, hasF_mark S.CT, ⟨_, Sub.rfl⟩, ck_Sh_repr Sub.rfl (hc.k.mono (by decide)) ⟨rpT c.mark, Sub.rfl, by omega, rpT c.mark, Sub.rfl, ?n8, ?_⟩⟩))
  case n8 =>
    simp only [Str.length_append, sz, l1, l2, le]
    omega
  refine we_str ⟨")", Sub.rfl, ?n9, (), [], trivial, ?_, .nil⟩
  case n9 =>
    simp only [Str.length_append, sz, l1, l2, l3, le]
    omega
  show Sub (RS (Str.empty ++ "Calendar(" ++ rpT c.month ++ ", " ++ rpT c.year ++ ", " ++ rpT c.moon ++ ", " ++ rpT c.mark ++ ")")) (RS (calRp c))
  rw [Str.empty_append]
  exact Sub.rfl
end
end MM

namespace MM
open PySem L2 PyProof.Rows
/-! ### methods of texts; truths as texts -/
def boT (b : Bool) : Str := if b then "True" else "False"
section
variable {X : Cx}
theorem call_str_bl : CallR X (.type "str") (fun xs H Q => ∃ b, xs = [.bl b] ∧ Q (.str (boT b)) H) := by
  intro pins s σ H xs us Q I r h
  obtain ⟨b, rfl, q⟩ := h
  obtain ⟨u, rfl, ru⟩ := r.one
  cases (show u = Value.bool b from ru)
  exact PySem.P.str_of_bool ⟨.str (boT b), H, I.tok _, ⟨_, rfl⟩, q⟩
theorem pe_fmtBl {e : Expr} {te : TE} {pos : Pos} (he : PE X e te) : PE X (.FormattedValue e (-1) none pos) (fun σ H Q => te σ H fun x H1 => ∃ b, x = .bl b ∧ Q (.str (boT b)) H1) := by
  refine ⟨fun pins s σ H Q I h => wpAny_FormattedValue_plain (thn (he.run pins s σ H _ I h) fun v s1 hv => ?_)⟩
  obtain ⟨x, H1, I1, r1, b, rfl, q⟩ := hv
  cases (show v = Value.bool b from r1)
  exact wpAny_formatField_bool ⟨.str (boT b), H1, I1.tok _, ⟨_, rfl⟩, q⟩
end
theorem rvals_strs {G : Hp} : ∀ {ys : List Str} {vs : List V}, Reps (ys.map RS) vs G → vs = ys.map V.str
  | [], [], _ => rfl
  | [], _ :: _, h => h.elim
  | _ :: _, [], h => h.elim
  | y :: ys, v :: vs, ⟨h1, h2⟩ => by
    have h1 : v = .str y := h1
    rw [h1, rvals_strs h2]
    rfl
section
variable {X : Cx} {E : En} {Γ : Gm} {M : Ow} {e : Expr} {pos p : Pos} {Φ : Rep → Ow → Prop}
/-- str(b) -/
theorem we_strB (hg : Gl X "str") (hm : X.mg "str" = none) (h : WE X E Γ M e fun ρ M1 => ∃ b : Bool, MM.Sub ρ (RB b) ∧ Φ (RS (boT b)) M1)
    (he : starEach [e] X.env = (false, eval e X.env) :: starEach [] X.env := by rfl) (hpl : (backTo pos (starEach [] X.env)).any (·.1) = false := by rfl) : WE X E Γ M (.Call (.Name "str" p) [e] [] pos) Φ := by
  refine we_callTy call_str_bl hg hm (by decide +kernel) (wa_cons ?_ he) (by decide) (by decide) he hpl
  intro σ G H at_ Q q
  refine h σ G H at_ Q fun ρ M' v G' H' ⟨b, sb, hk⟩ => q ρ M' v G' H' (wa_nil fun σ2 G2 H2 a2 vs hv Q2 q2 => ?_)
  match vs, hv with
  | [x], ⟨hv, _⟩ => exact ⟨b, by rw [show x = .bl b from sb _ _ hv], q2 _ _ _ _ _ hk (Same.refl _) a2 rfl⟩
/-- {b} in an f-string -/
theorem we_fmtB (h : WE X E Γ M e fun ρ M1 => ∃ b : Bool, MM.Sub ρ (RB b) ∧ Φ (RS (boT b)) M1) : WE X E Γ M (.FormattedValue e (-1) none pos) Φ :=
  we_of (pe_fmtBl pe_w) fun σ G H a Q q => h σ G H a _ fun ρ M1 v G1 H1 ⟨b, sb, hk⟩ s1 a1 r1 => ⟨b, sb _ _ r1, q _ M1 _ G1 H1 hk s1 a1 rfl⟩
/-- {text} in an f-string -/
theorem we_fmtS (h : WE X E Γ M e fun ρ M1 => ∃ y : Str, MM.Sub ρ (RS y) ∧ y.length ≤ sizeLine ∧ Φ (RS y) M1) : WE X E Γ M (.FormattedValue e (-1) none pos) Φ :=
  we_of (pe_fmt pe_w) fun σ G H a Q q => h σ G H a _ fun ρ M1 v G1 H1 ⟨y, sb, hl, hk⟩ s1 a1 r1 => .inl ⟨y, sb _ _ r1, hl, q _ M1 _ G1 H1 hk s1 a1 rfl⟩
theorem mtw_zfill {a : Str} {i : Int} (hp : PadOk i = true) (k : Φ (RS (Txt.zfill a i)) M) : MtW E Γ M (fun x xs H Q => ∃ (a : Str) (i : Int), x = .str a ∧ xs = [.int i] ∧ PadOk i = true ∧ Q (.str (Txt.zfill a i)) H) (RS a) [RI i] Φ := fun σ G H at_ x vs hx hv Q q => by
  match vs, hv with
  | [v], ⟨hv, _⟩ => exact ⟨a, i, hx, by rw [show v = .int i from hv], hp, q _ _ _ _ _ k (Same.refl _) at_ rfl⟩
theorem mtw_join {K : PySem.W.Frag} {a : Str} {ys : List Str} (hl : (ys.map (·.length)).sum + ys.length * a.length ≤ 16777216) (k : Φ (RS (Txt.join a ys)) M) : MtW E Γ M (fun x xs H Q => ∃ a p, ∃ ys : List Str, x = .str a ∧ xs = [.ref p] ∧ (SqL K H p (ys.map V.str) ∨ SqT K H p (ys.map V.str)) ∧ (ys.map (·.length)).sum + ys.length * a.length ≤ 16777216 ∧ Q (.str (Txt.join a ys)) H) (RS a) [RLt (ys.map RS)] Φ := fun σ G H at_ x vs hx hv Q q => by
  match vs, hv with
  | [v], ⟨⟨p, zs, e1, h1, r1⟩, _⟩ =>
    subst e1
    rw [rvals_strs r1] at h1
    exact ⟨a, p, ys, hx, rfl, .inl (SqL.of (at_.gh _ _ h1)), hl, q _ _ _ _ _ k (Same.refl _) at_ rfl⟩
/-- text.zfill(i) -/
theorem we_zfill {o : Expr} {apos : Pos} (h : WE X E Γ M o fun ρ M1 => ∃ a : Str, ρ = RS a ∧ WE X E Γ M1 e fun ρi M2 => ∃ i : Int, ρi = RI i ∧ PadOk i = true ∧ Φ (RS (Txt.zfill a i)) M2)
    (hbase : attributeBase o "zfill" X.env (eval o X.env) = eval o X.env := by rfl)
    (hfew : ((backTo pos (starEach [e] X.env)).all (fun x => !x.1) && (backToKw pos (keywordEach [] X.env)).all (fun x => x.1.isSome)
      && decide ([e].length + ([] : List Keyword).length + (if ([] : List Keyword).isEmpty then 0 else 1) < 30)) = true := by rfl)
    (hline : (apos.endLine == pos.line) = true := by rfl) (hs : starEach [e] X.env = (false, eval e X.env) :: starEach [] X.env := by rfl) (hplain : (backTo pos (starEach [] X.env)).any (·.1) = false := by rfl) :
    WE X E Γ M (.Call (.Attribute o "zfill" apos) [e] [] pos) Φ := by
  refine we_bm PySem.F.plainAttrs_str PySem.F.slot_str_zfill PySem.F.type_str_zfill mt_zfill ?_ hbase hfew hline hs hplain
  intro σ G H at_ Q q
  refine h σ G H at_ Q fun ρ M' v G' H' ⟨a, ea, hh⟩ => q ρ M' v G' H' ?_
  subst ea
  refine ⟨tyw_str, wa_cons ?_ hs⟩
  intro σ2 G2 H2 at2 Q2 q2
  refine hh σ2 G2 H2 at2 Q2 fun ρ2 M2 v2 G3 H3 ⟨i, ei, hp, hk⟩ => q2 ρ2 M2 v2 G3 H3 ?_
  subst ei
  exact wa_nil (mtw_zfill hp hk)
end
theorem join0 : ∀ ys : List Str, Txt.join Str.empty ys = ys.foldr (· ++ ·) Str.empty := fun ys => by
  rw [TL.join_eq]
  induction ys with
  | nil => rfl
  | cons y ys ih =>
    cases ys with
    | nil => exact (Str.append_empty y).symm
    | cons z r =>
      show y ++ Str.empty ++ Str.join Str.empty (z :: r) = y ++ _
      rw [Str.append_empty, ih]
end MM

namespace MM
open PySem L2 PyProof.Rows PySem.Spec PySem.Calls
section
variable {X : Cx} {E : En} {Γ : Gm} {M : Ow} {Ψ : Ed} {body : List Stmt} {h0 : ExceptHandler} {hs : List ExceptHandler} {pos : Pos}
/-- a try whose body raises nothing -/
theorem ws_try0 (h : WSs X.nox E Γ M body Ψ) : WS X E Γ M (.Try body (h0 :: hs) [] [] pos) Ψ := ws_of (ps_try_thru0 pss_w) h
end
theorem neg_abs {i : Int} (h : i < 0) : -(i.natAbs : Int) = i := by omega
theorem pos_abs {i : Int} (h : ¬ i < 0) : (i.natAbs : Int) = i := by omega
/-! ### figures -/
def sgn (d : Nat) : Nat := if d < 10 then 48 + d else 87 + d
def dv (b n : Nat) : List Nat := if h : n < b ∨ b < 2 then [n] else dv b (n / b) ++ [n % b]
termination_by n
decreasing_by exact Nat.div_lt_self (by omega) (by omega)
theorem dv_lo {b n : Nat} (h : n < b) : dv b n = [n] := by
  rw [dv, dif_pos (.inl h)]
theorem dv_hi {b n : Nat} (hb : 2 ≤ b) (h : b ≤ n) : dv b n = dv b (n / b) ++ [n % b] := by
  rw [dv, dif_neg (by omega)]
theorem dv_all {b : Nat} (hb : 2 ≤ b) (n : Nat) : (∀ d ∈ dv b n, d < b) ∧ (dv b n).foldl (fun a d => a * b + d) 0 = n ∧ dv b n ≠ [] ∧ (1 ≤ n → ∃ d l, dv b n = d :: l ∧ 1 ≤ d) := by
  induction n using Nat.strongRecOn with
  | _ n ih =>
    rcases Nat.lt_or_ge n b with h | h
    · rw [dv_lo h]
      refine ⟨fun d hd => ?_, by simp, by simp, fun h1 => ⟨n, [], rfl, h1⟩⟩
      rw [List.mem_singleton.mp hd]
      exact h
    · rw [dv_hi hb h]
      have hlt : n / b < n := Nat.div_lt_self (by omega) (by omega)
      have h1 : 1 ≤ n / b := (Nat.one_le_div_iff (by omega)).mpr h
      obtain ⟨a1, a2, a3, a4⟩ := ih (n / b) hlt
      refine ⟨fun d hd => ?_, ?_, by simp, fun _ => ?_⟩
      · rcases List.mem_append.mp hd with q | q
        · exact a1 d q
        · rw [List.mem_singleton.mp q]
          exact Nat.mod_lt _ (by omega)
      · rw [List.foldl_append, a2]
        show n / b * b + n % b = n
        have := Nat.div_add_mod n b
        rw [Nat.mul_comm] at this
        exact this
      · obtain ⟨d, l, e, hd⟩ := a4 h1
        exact ⟨d, l ++ [n % b], by rw [e]; rfl, hd⟩
theorem dv_len {b : Nat} (hb : 2 ≤ b) : ∀ {k n : Nat}, n < 2 ^ k → (dv b n).length ≤ k + 1 := by
  intro k
  induction k with
  | zero =>
    intro n h
    have : n < b := by
      have h : n < 1 := h
      omega
    rw [dv_lo this]
    exact Nat.le_refl _
  | succ k ih =>
    intro n h
    rcases Nat.lt_or_ge n b with q | q
    · rw [dv_lo q]
      show 1 ≤ _
      omega
    · rw [dv_hi hb q, List.length_append]
      have h2 : n / b ≤ n / 2 := Nat.div_le_div_left hb (by decide)
      have h3 : n / 2 < 2 ^ k := by
        rw [Nat.pow_succ] at h
        omega
      have := ih (n := n / b) (by omega)
      show _ + 1 ≤ _
      omega
/-- the figures' signs -/
def dg (b n : Nat) : List Nat := (dv b n).map sgn
theorem dg_lo {b n : Nat} (h : n < b) : dg b n = [sgn n] := by unfold dg; rw [dv_lo h]; rfl
theorem dg_hi {b n : Nat} (hb : 2 ≤ b) (h : b ≤ n) : dg b n = dg b (n / b) ++ [sgn (n % b)] := by
  unfold dg
  rw [dv_hi hb h, List.map_append]
  rfl
theorem sgn_in : ∀ d, d < 16 → ((48 ≤ sgn d ∧ sgn d ≤ 57) ∨ (97 ≤ sgn d ∧ sgn d ≤ 102)) ∧ NumText.digit? (sgn d) = some d := by decide
theorem sgn_0 : ∀ d, d < 16 → sgn d = 48 → d = 0 := by decide
def Plain (c : Nat) : Prop := (48 ≤ c ∧ c ≤ 57) ∨ (97 ≤ c ∧ c ≤ 102)
theorem dg_plain {b n : Nat} (hb : 2 ≤ b) (h16 : b ≤ 16) : ∀ c ∈ dg b n, Plain c := by
  intro c hc
  obtain ⟨d, hd, rfl⟩ := List.mem_map.mp hc
  have := (dv_all hb n).1 d hd
  exact (sgn_in d (by omega)).1
theorem drop_no {p : Nat → Bool} {l : List Nat} (h : ∀ c ∈ l, p c = false) : l.dropWhile p = l := by
  cases l with
  | nil => rfl
  | cons c l => rw [List.dropWhile_cons, h c List.mem_cons_self]; rfl
theorem take_all {p : Nat → Bool} {l : List Nat} (h : ∀ c ∈ l, p c = true) : l.takeWhile p = l := by
  induction l with
  | nil => rfl
  | cons c l ih =>
    rw [List.takeWhile_cons, h c List.mem_cons_self]
    show c :: List.takeWhile p l = _
    rw [ih fun d hd => h d (List.mem_cons_of_mem _ hd)]
theorem blank_no {c : Nat} (h : Plain c ∨ c = 45) : NumText.blank c = false := by
  unfold Plain at h
  unfold NumText.blank
  have h1 : (c == 32) = false := beq_eq_false_iff_ne.mpr (by omega)
  have h2 : (decide (9 ≤ c) && decide (c ≤ 13)) = false := by
    rw [Bool.and_eq_false_iff]
    rcases Nat.lt_or_ge 13 c with q | q
    · exact .inr (decide_eq_false (by omega))
    · exfalso
      omega
  rw [h1, h2]
  rfl
theorem step_fig {b d : Nat} {ds : Array Nat} {k : Bool} (hd : d < b) (h16 : b ≤ 16) : NumText.step b (ds, k) (sgn d) = some (ds.push d, true) := by
  have hs := sgn_in d (by omega)
  unfold NumText.step
  rw [if_neg (by rw [beq_iff_eq]; have := hs.1; omega), hs.2]
  exact if_pos hd
theorem fold_fig {b : Nat} (h16 : b ≤ 16) : ∀ (l : List Nat) (ds : Array Nat) (k : Bool), (∀ d ∈ l, d < b) → (l.map sgn).foldlM (NumText.step b) (ds, k) = some (l.foldl (fun a d => a.push d) ds, if l = [] then k else true)
  | [], _, _, _ => rfl
  | d :: l, ds, k, h => by
    rw [List.map_cons, List.foldlM_cons, step_fig (h d List.mem_cons_self) h16]
    show (l.map sgn).foldlM (NumText.step b) (ds.push d, true) = _
    rw [fold_fig h16 l (ds.push d) true fun e he => h e (List.mem_cons_of_mem _ he)]
    simp
theorem push_fold {b : Nat} : ∀ (l : List Nat) (ds : Array Nat), (l.foldl (fun a d => a.push d) ds).foldl (fun acc d => acc * b + d) 0 = l.foldl (fun a d => a * b + d) (ds.foldl (fun acc d => acc * b + d) 0)
  | [], _ => rfl
  | d :: l, ds => by
    rw [List.foldl_cons, push_fold l (ds.push d), List.foldl_cons]
    congr 1
    simp
theorem push_size : ∀ (l : List Nat) (ds : Array Nat), (l.foldl (fun a d => a.push d) ds).size = ds.size + l.length
  | [], _ => rfl
  | d :: l, ds => by
    rw [List.foldl_cons, push_size l (ds.push d), Array.size_push, List.length_cons]
    omega
theorem based_fig {b n : Nat} (hb : 2 ≤ b) (h16 : b ≤ 16) : NumText.based b (dg b n) = (b, false, dg b n) := by
  have pn : NumText.prefix? (dg b n) = none := by
    rcases Nat.lt_or_ge n b with q | q
    · rw [dg_lo q]
      generalize sgn n = c
      unfold NumText.prefix?
      split
      · rename_i e
        cases e
      · rfl
    · obtain ⟨d, l, e, hd⟩ := (dv_all hb n).2.2.2 (by omega)
      have dl := (dv_all hb n).1 d (by rw [e]; exact List.mem_cons_self)
      have eg : dg b n = sgn d :: l.map sgn := by
        unfold dg
        rw [e]
        rfl
      rw [eg]
      unfold NumText.prefix?
      split
      · rename_i e2
        have := sgn_0 d (by omega) (List.cons.inj e2).1
        omega
      · rfl
  unfold NumText.based
  rw [pn]
  have hb0 : (b == 0) = false := beq_eq_false_iff_ne.mpr (by omega)
  show (if (b == 0) = true then _ else (b, false, dg b n)) = _
  rw [hb0]
  rfl
/-- a number's text -/
def figL (b : Nat) (i : Int) : List Nat := (if i < 0 then [45] else []) ++ dg b i.natAbs
theorem figL_plain {b : Nat} {i : Int} (hb : 2 ≤ b) (h16 : b ≤ 16) : ∀ c ∈ figL b i, Plain c ∨ c = 45 := by
  intro c hc
  rcases List.mem_append.mp hc with q | q
  · split at q
    · exact .inr (List.mem_singleton.mp q)
    · cases q
  · exact .inl (dg_plain hb h16 c q)
theorem read_fig {b : Nat} {i : Int} (hb : 2 ≤ b) (h16 : b ≤ 16) (hs : i.natAbs < 2 ^ 5000) : (int_private% "readNumeral") 0 b (figL b i) = (int_private% "Numeral.value") i := by
  obtain ⟨a1, a2, a3, a4⟩ := dv_all hb i.natAbs
  have sg : NumText.sign (figL b i) = (decide (i < 0), dg b i.natAbs) := by
    unfold figL
    by_cases hi : i < 0
    · rw [if_pos hi, decide_eq_true hi]
      rfl
    · rw [if_neg hi, decide_eq_false hi, List.nil_append]
      cases e : dg b i.natAbs with
      | nil =>
        exfalso
        unfold dg at e
        exact a3 (List.map_eq_nil_iff.mp e)
      | cons c l =>
        have hp := dg_plain (n := i.natAbs) hb h16 c (by rw [e]; exact List.mem_cons_self)
        unfold Plain at hp
        unfold NumText.sign
        split
        · rename_i e2
          have := (List.cons.inj e2).1
          omega
        · rename_i e2
          have := (List.cons.inj e2).1
          omega
        · rfl
  have db : (figL b i).dropWhile NumText.blank = figL b i := drop_no fun c hc => blank_no (figL_plain hb h16 c hc)
  have dr : (dg b i.natAbs).reverse.dropWhile NumText.blank = (dg b i.natAbs).reverse := drop_no fun c hc => blank_no (.inl (dg_plain hb h16 c (List.mem_reverse.mp hc)))
  refine (NumText.readNumeral_eq 0 b (figL b i)).trans ?_
  rw [db, sg]
  show NumText.judge 0 (decide (i < 0)) (NumText.based b (dg b i.natAbs)).1 (NumText.based b (dg b i.natAbs)).2.1 (NumText.digits? (NumText.based b (dg b i.natAbs)).1 (((NumText.based b (dg b i.natAbs)).2.2.reverse.dropWhile NumText.blank).reverse)) = _
  rw [based_fig hb h16]
  show NumText.judge 0 (decide (i < 0)) b false (NumText.digits? b (((dg b i.natAbs).reverse.dropWhile NumText.blank).reverse)) = _
  rw [dr, List.reverse_reverse]
  have dd : NumText.digits? b (dg b i.natAbs) = some ((dv b i.natAbs).foldl (fun a d => a.push d) #[]) := by
    unfold NumText.digits? dg
    rw [fold_fig h16 (dv b i.natAbs) #[] false a1, if_neg a3]
    rfl
  rw [dd]
  have sz : ((dv b i.natAbs).foldl (fun a d => a.push d) (#[] : Array Nat)).size ≤ 6000 := by
    rw [push_size]
    have := dv_len hb hs
    show 0 + _ ≤ 6000
    omega
  have val : ((dv b i.natAbs).foldl (fun a d => a.push d) (#[] : Array Nat)).foldl (fun acc d => acc * b + d) 0 = i.natAbs := by
    rw [push_fold]
    have z : (#[] : Array Nat).foldl (fun acc d => acc * b + d) 0 = 0 := by first | rfl | simp
    rw [z, a2]
  unfold NumText.judge
  have c1 : (![2, 4, 8, 16, 32].contains b && (0 : Nat) != 0 && decide (((dv b i.natAbs).foldl (fun a d => a.push d) (#[] : Array Nat)).size > 0)) = false := by
    have : ((0 : Nat) != 0) = false := rfl
    rw [this, Bool.and_false, Bool.false_and]
  have c2 : (b == 10 && decide (((dv b i.natAbs).foldl (fun a d => a.push d) (#[] : Array Nat)).size > 6000)) = false := by
    rw [decide_eq_false (by omega), Bool.and_false]
  simp only [c1, c2, val, Bool.false_and]
  show (int_private% "Numeral.value") (if decide (i < 0) = true then -(i.natAbs : Int) else (i.natAbs : Int)) = _
  by_cases hi : i < 0
  · have e := neg_abs hi
    rw [decide_eq_true hi, if_pos rfl, e]
  · have e := pos_abs hi
    rw [decide_eq_false hi, if_neg (by decide), e]
def figS (b : Nat) (i : Int) : Str := ⟨(figL b i).toArray⟩
theorem figS_len {b : Nat} {i : Int} (hb : 2 ≤ b) {k : Nat} (hs : i.natAbs < 2 ^ k) : (figS b i).length ≤ k + 2 := by
  show (figL b i).toArray.size ≤ _
  rw [List.size_toArray]
  unfold figL
  rw [List.length_append]
  have h := dv_len hb hs
  have e : (dg b i.natAbs).length = (dv b i.natAbs).length := by simp [dg]
  rw [e]
  split
  · show 1 + _ ≤ _
    omega
  · show 0 + _ ≤ _
    omega
theorem seen_fig {b : Nat} {i : Int} (hb : 2 ≤ b) (h16 : b ≤ 16) : numTextOf (figS b i) = figL b i ∧ numSeenOf (figS b i) = figL b i := by
  have e0 : (figS b i).cps.toList = figL b i := rfl
  have e1 : numTextOf (figS b i) = figL b i := by
    refine (if_pos ?_).trans e0
    rw [← Array.all_toList, e0, List.all_eq_true]
    intro c hc
    have := figL_plain hb h16 c hc
    unfold Plain at this
    exact decide_eq_true (by omega)
  refine ⟨e1, ?_⟩
  show (numTextOf (figS b i)).takeWhile _ = _
  rw [e1]
  refine take_all fun c hc => ?_
  have := figL_plain hb h16 c hc
  unfold Plain at this
  exact bne_iff_ne.mpr (by omega)
end MM

namespace MM
open PySem L2 PyProof.Rows
/-! ### texts cut, lists turned round, things put in between, tuples of the module -/
section
variable {X : Cx} {E : En} {Γ : Gm} {M : Ow} {o e a : Expr} {pos apos : Pos} {Φ : Rep → Ow → Prop} {K : PySem.W.Frag}
def rPart : V → List V → Hp → VK → Prop := fun x xs H Q => ∃ a b, x = .str a ∧ xs = [.str b] ∧ (b.length == 0) = false ∧ a.length ≤ sizeLine ∧
  ∀ p, H p = none → Q (.ref p) (upd H p (.tup [.str (Txt.partition a b).1, .str (Txt.partition a b).2.1, .str (Txt.partition a b).2.2]))
theorem mt_partR : MtR X "str.partition" rPart := mt_partition
theorem mtw_part {a b l m r : Str} (hb : (b.length == 0) = false) (ha : a.length ≤ sizeLine) (hp : Txt.partition a b = (l, m, r)) (k : Φ (RTt [RS l, RS m, RS r]) M) : MtW E Γ M rPart (RS a) [RS b] Φ := fun σ G H at_ x vs hx hv Q q => by
  match vs, hv with
  | [v], ⟨hv, _⟩ =>
    refine ⟨a, b, hx, by rw [show v = .str b from hv], hb, ha, fun p hq => ?_⟩
    have n : New G H (upd G p (.tup [.str (Txt.partition a b).1, .str (Txt.partition a b).2.1, .str (Txt.partition a b).2.2])) (upd H p (.tup [.str (Txt.partition a b).1, .str (Txt.partition a b).2.1, .str (Txt.partition a b).2.2])) := New.put at_.gh hq
    refine q _ M _ _ _ k n.gg (at_.new n) ⟨p, _, rfl, upd_same, ?_⟩
    rw [hp]
    exact ⟨rfl, rfl, rfl, trivial⟩
def rSplit : V → List V → Hp → VK → Prop := fun x xs H Q => ∃ a b, x = .str a ∧ xs = [.str b] ∧ (b.length == 0) = false ∧ a.length + 2 ≤ sizeLine ∧ rNewStrs (Txt.split a b) H Q
theorem mt_splitR : MtR X "str.split" rSplit := mt_split
theorem reps_strs {G : Hp} : ∀ ys : List Str, Reps (ys.map RS) (ys.map V.str) G
  | [] => trivial
  | _ :: ys => ⟨rfl, reps_strs ys⟩
theorem mtw_split {a b : Str} {ys : List Str} (hb : (b.length == 0) = false) (ha : a.length + 2 ≤ sizeLine) (hs : Txt.split a b = ys) (k : Φ (RLt (ys.map RS)) M) : MtW E Γ M rSplit (RS a) [RS b] Φ := fun σ G H at_ x vs hx hv Q q => by
  match vs, hv with
  | [v], ⟨hv, _⟩ =>
    refine ⟨a, b, hx, by rw [show v = .str b from hv], hb, ha, fun p hq => ?_⟩
    rw [hs]
    have n : New G H (upd G p (.lst (ys.map V.str))) (upd H p (.lst (ys.map V.str))) := New.put at_.gh hq
    exact q _ M _ _ _ k n.gg (at_.new n) ⟨p, _, rfl, upd_same, reps_strs ys⟩
theorem reps_turn {G : Hp} {ρs : List Rep} {vs : List V} (r : Reps ρs vs G) : Reps ρs.reverse vs.reverse G := by
  induction ρs generalizing vs with
  | nil =>
    cases vs with
    | nil => exact trivial
    | cons _ _ => exact r.elim
  | cons ρ ρs ih =>
    cases vs with
    | nil => exact r.elim
    | cons v vs =>
      rw [List.reverse_cons, List.reverse_cons]
      have one : Reps [ρ] [v] G := ⟨r.1, trivial⟩
      exact (ih r.2).app one
theorem we_turn {j : Nat} {p1 p2 p3 : Pos} (h : WE X E Γ M a fun ρ M1 => ∃ ρs, Sub ρ (RL X.K ρs) ∧ Φ (RLt ρs.reverse) M1) : WE X E Γ M (.Subscript a (.Slice none none (some (.UnaryOp .USub (.Constant (.int 1) j p1) p2)) p3) pos) Φ :=
  we_of (pe_revL pe_w) fun σ G H at' Q q => h σ G H at' _ fun ρ M1 x G1 H1 ⟨ρs, sb, hk⟩ s1 a1 r1 => by
    obtain ⟨b, vs, e, hq, rr⟩ := sb _ _ r1
    refine ⟨b, vs, e, Same.seq a1.gh hq, fun p hp => ?_⟩
    have n : New G1 H1 (upd G1 p (.lst vs.reverse)) (upd H1 p (.lst vs.reverse)) := New.put a1.gh hp
    exact q _ M1 _ _ _ hk (s1.trans n.gg) (a1.new n) ⟨p, _, rfl, upd_same, (reps_turn rr).mono n.gg⟩
def rIns : V → List V → Hp → VK → Prop := fun x vs H Q => ∃ (l : Addr) (xs : List V) (i : Int) (y : V), x = .ref l ∧ vs = [.int i, y] ∧ H l = some (.lst xs) ∧ xs.length < sizeLine ∧ 0 ≤ i ∧ i < 2 ^ 63 ∧ Q .non (upd H l (.lst (xs.take i.toNat ++ [y] ++ xs.drop i.toNat)))
theorem mt_insR : MtR X "list.insert" rIns := mt_insert
theorem mtw_ins {p : Addr} {ρo ρ ρi : Rep} {i : Int} {ρs : List Rep} {u : ORep → Ow} (sb : Sub ρo (RRef p)) (si : Sub ρi (RI i)) (fd : Fnd M p (OL ρs) u) (hl : ρs.length < 100000) (h0 : 0 ≤ i) (h1 : i < 2 ^ 63) (k : Φ RN (u (OL (ρs.take i.toNat ++ [ρ] ++ ρs.drop i.toNat)))) : MtW E Γ M rIns ρo [ρi, ρ] Φ := fun σ G H a x vs hx hv Q q => by
  obtain ⟨o, e1, ws, e2, rf⟩ := a.own _ fd.mem
  subst e2
  match vs, hv with
  | [v, y], ⟨r1, r2, _⟩ =>
    have r1 : v = .int i := si _ _ r1
    subst r1
    have one : Reps [ρ] [y] G := ⟨r2, trivial⟩
    refine ⟨p, ws, i, y, sb _ _ hx, rfl, e1, Nat.lt_of_lt_of_le (by rw [← rf.length]; exact hl) (szOf (Nat.le_refl _)), h0, h1, ?_⟩
    exact q _ _ _ _ _ k (Same.refl _) (a.write fd ⟨_, rfl, ((reps_take _ rf).app one).app (reps_drop _ rf)⟩) rfl
/-- a tuple of texts that the module holds -/
def GTup (K : PySem.W.Frag) (a : Addr) (ss : List Str) : Prop := ∃ (o : Obj) (its : Array Value) (n : Nat), K.lookup a = some o ∧ o.cls = .type "tuple" ∧ o.data = .seq its n ∧ its.size ≤ sizeLine ∧ Vals (ss.map V.str) its.toList
theorem GTup.at {a : Addr} {ss : List Str} (g : GTup K a ss) (G : Hp) : (RT K (ss.map RS)).p (.ref a) G := ⟨a, _, rfl, .inr g, reps_strs ss⟩
theorem reps_SV {G : Hp} {ss : List Str} {vs : List V} (r : Reps (ss.map RS) vs G) : vs = ss.map V.str := rvals_strs r
theorem flat_strs : ∀ ss : List Str, (ss.map V.str).all flatV = true
  | [] => rfl
  | s :: ss => by
    rw [List.map_cons, List.all_cons, flat_strs ss]
    rfl
theorem inV_strs {x : Str} : ∀ ss : List Str, inV (.str x) (ss.map V.str) = ss.contains x
  | [] => rfl
  | s :: ss => by
    have e : eqV (.str s) (.str x) = (x == s) := by
      show (s == x) = (x == s)
      by_cases h : s = x
      · subst h
        rfl
      · rw [beq_eq_false_iff_ne.mpr h, beq_eq_false_iff_ne.mpr fun z => h z.symm]
    rw [List.contains_cons, ← inV_strs ss, ← e]
    rfl
/-- a text in, not in a tuple of texts -/
theorem opv_inT {neg : Bool} {x : Str} {ss : List Str} : OpV (rIn K neg) (RS x) (RT K (ss.map RS)) (RB (if neg then !ss.contains x else ss.contains x)) := fun v y G H s hx hy Q q => by
  obtain ⟨p, vs, rfl, hp, r⟩ := hy
  have hx : v = .str x := hx
  subst hx
  rw [reps_SV r] at hp
  refine ⟨p, ss.map V.str, rfl, .inr (same_seqT s hp), rfl, flat_strs ss, ?_⟩
  rw [inV_strs]
  exact q _ G H (New.refl s) rfl
end
end MM

namespace MM
open PySem L2 PyProof.Rows
/-! ### dicts whose keys are ints and texts -/
def KRep : List (Key × Rep) → List (Key × V) → Hp → Prop
  | [], [], _ => True
  | (k, ρ) :: l, (k', v) :: m, G => k = k' ∧ ρ.p v G ∧ KRep l m G
  | _, _, _ => False
theorem KRep.mono {G G' : Hp} (s : Same G G') : ∀ {l : List (Key × Rep)} {m : List (Key × V)}, KRep l m G → KRep l m G'
  | [], [], _ => trivial
  | (_, ρ) :: _, (_, _) :: _, h => ⟨h.1, ρ.mono _ _ _ s h.2.1, KRep.mono s h.2.2⟩
  | [], _ :: _, h => h.elim
  | _ :: _, [], h => h.elim
theorem KRep.len {G : Hp} : ∀ {l : List (Key × Rep)} {m : List (Key × V)}, KRep l m G → l.length = m.length
  | [], [], _ => rfl
  | (_, _) :: _, (_, _) :: _, h => congrArg Nat.succ (KRep.len h.2.2)
  | [], _ :: _, h => h.elim
  | _ :: _, [], h => h.elim
def valR : List (Key × Rep) → Key → Option Rep
  | [], _ => none
  | (k', ρ) :: l, k => if k' = k then some ρ else valR l k
theorem KRep.look {G : Hp} {k : Key} : ∀ {l : List (Key × Rep)} {m : List (Key × V)}, KRep l m G → (valR l k = none ∧ valV m k = none) ∨ ∃ ρ v, valR l k = some ρ ∧ valV m k = some v ∧ ρ.p v G
  | [], [], _ => .inl ⟨rfl, rfl⟩
  | (k1, ρ) :: l, (k2, v) :: m, h => by
    obtain ⟨e, h1, h2⟩ := h
    subst e
    by_cases q : k1 = k
    · exact .inr ⟨ρ, v, if_pos q, valV_pos q, h1⟩
    · rcases KRep.look (k := k) h2 with ⟨a, b⟩ | ⟨ρ', v', a, b, c⟩
      · exact .inl ⟨(if_neg q).trans a, (valV_neg q).trans b⟩
      · exact .inr ⟨ρ', v', (if_neg q).trans a, (valV_neg q).trans b, c⟩
  | [], _ :: _, h => h.elim
  | _ :: _, [], h => h.elim
def putKR : List (Key × Rep) → Key → Rep → List (Key × Rep)
  | [], k, ρ => [(k, ρ)]
  | (k', ρ') :: l, k, ρ => if k' = k then (k', ρ) :: l else (k', ρ') :: putKR l k ρ
/-- keys stand once -/
def KOnce (l : List (Key × Rep)) : Prop := (l.map (·.1)).Nodup
theorem KRep.keys {G : Hp} : ∀ {l : List (Key × Rep)} {m : List (Key × V)}, KRep l m G → l.map (·.1) = m.map (·.1)
  | [], [], _ => rfl
  | (_, _) :: _, (_, _) :: _, h => by
    rw [List.map_cons, List.map_cons, KRep.keys h.2.2, h.1]
  | [], _ :: _, h => h.elim
  | _ :: _, [], h => h.elim
theorem map_same {k : Key} {v : V} : ∀ {m : List (Key × V)}, k ∉ m.map (·.1) → m.map (fun kv => if kv.1 = k then (kv.1, v) else kv) = m
  | [], _ => rfl
  | (k', w) :: m, h => by
    rw [List.map_cons, List.mem_cons, not_or] at h
    rw [List.map_cons, map_same h.2]
    have : ¬ k' = k := fun e => h.1 e.symm
    simp [this]
theorem putK_cons_pos {k : Key} {v w : V} {m : List (Key × V)} (h : k ∉ m.map (·.1)) : putK ((k, w) :: m) k v = (k, v) :: m := by
  unfold putK
  rw [if_pos (by simp), List.map_cons, map_same h]
  simp
theorem putK_cons_neg {k k' : Key} {v w : V} {m : List (Key × V)} (h : ¬ k' = k) : putK ((k', w) :: m) k v = (k', w) :: putK m k v := by
  unfold putK
  rw [List.any_cons, decide_eq_false h, Bool.false_or]
  split
  · rw [List.map_cons]
    simp [h]
  · rfl
theorem KRep.put {G : Hp} {k : Key} {ρ : Rep} {v : V} (r : ρ.p v G) : ∀ {l : List (Key × Rep)} {m : List (Key × V)}, KOnce l → KRep l m G → KRep (putKR l k ρ) (putK m k v) G
  | [], [], _, _ => ⟨rfl, r, trivial⟩
  | (k1, ρ1) :: l, (k2, w) :: m, o, h => by
    have ks := KRep.keys h.2.2
    obtain ⟨e, h1, h2⟩ := h
    subst e
    have o' : (k1 :: l.map (·.1)).Nodup := o
    rw [List.nodup_cons] at o'
    unfold putKR
    by_cases q : k1 = k
    · subst q
      rw [if_pos rfl, putK_cons_pos (by rw [← ks]; exact o'.1)]
      exact ⟨rfl, r, h2⟩
    · rw [if_neg q, putK_cons_neg q]
      exact ⟨rfl, h1, KRep.put r o'.2 h2⟩
  | [], _ :: _, _, h => h.elim
  | _ :: _, [], _, h => h.elim
theorem putKR_keys {k : Key} {ρ : Rep} : ∀ {l : List (Key × Rep)}, (k ∈ l.map (·.1) ∧ (putKR l k ρ).map (·.1) = l.map (·.1)) ∨ (k ∉ l.map (·.1) ∧ (putKR l k ρ).map (·.1) = l.map (·.1) ++ [k])
  | [] => .inr ⟨by simp, rfl⟩
  | (k', ρ') :: l => by
    unfold putKR
    by_cases q : k' = k
    · subst q
      rw [if_pos rfl]
      exact .inl ⟨List.mem_cons_self, rfl⟩
    · rw [if_neg q, List.map_cons, List.map_cons]
      rcases putKR_keys (k := k) (ρ := ρ) (l := l) with ⟨m, e⟩ | ⟨m, e⟩
      · exact .inl ⟨List.mem_cons_of_mem _ m, by rw [e]⟩
      · exact .inr ⟨by rw [List.mem_cons, not_or]; exact ⟨fun z => q z.symm, m⟩, by rw [e]; rfl⟩
theorem KOnce.put {k : Key} {ρ : Rep} {l : List (Key × Rep)} (o : KOnce l) : KOnce (putKR l k ρ) := by
  unfold KOnce
  rcases putKR_keys (k := k) (ρ := ρ) (l := l) with ⟨m, e⟩ | ⟨m, e⟩
  · rw [e]
    exact o
  · rw [e, List.nodup_append]
    refine ⟨o, by simp, fun a ha b hb z => ?_⟩
    rw [List.mem_singleton.mp hb] at z
    subst z
    exact m ha
def OD (l : List (Key × Rep)) : ORep := ⟨fun o G => ∃ kvs, o = .dK kvs ∧ KRep l kvs G, fun _ _ _ s ⟨kvs, e, r⟩ => ⟨kvs, e, r.mono s⟩⟩
/-- what stands for a key -/
def KeyR (ρ : Rep) (k : Key) : Prop := ∀ v G, ρ.p v G → v = kV k
theorem keyR_s {s : Str} : KeyR (RS s) (.inr s) := fun v G h => h
theorem keyR_i {i : Int} : KeyR (RI i) (.inl i) := fun v G h => h
section
variable {X : Cx} {E : En} {Γ : Gm} {M : Ow} {a b e o i value : Expr} {pos p pos' : Pos} {Φ : Rep → Ow → Prop} {Ψ : Ed} {k : Nat}
theorem we_dnew (h : ∀ p, p ∉ M.map (·.1) → p ∉ E.M → Φ (RRef p) ((p, OD []) :: M)) (hE : ∀ a ∈ E.M, E.H a ≠ none) : WE X E Γ M (.Dict [] [] pos) Φ :=
  we_of pe_dnewK fun σ G H a Q q p hp => q _ _ _ _ _ (h p (a.freshM hp) fun z => hE p z (a.fresh hp)) (Same.refl _) (a.own1 hp ⟨[], rfl, trivial⟩) rfl
/-- d[k], there -/
theorem we_dget (hr : Room k X.A) (h : WE X E Γ M o fun ρo M1 => WE X E Γ M1 i fun ρi M2 => ∃ p l u key ρ, MM.Sub ρo (RRef p) ∧ Fnd M2 p (OD l) u ∧ KeyR ρi key ∧ valR l key = some ρ ∧ Φ ρ M2) (hs : NoSl i := by exact fun _ _ => rfl) : WE X E Γ M (.Subscript o i pos) Φ :=
  we_of (pe_dget (by have := hr.un; omega) pe_w pe_w hs) fun σ G H at_ Q q => h σ G H at_ _ fun ρo M1 x G1 H1 h1 s1 a1 r1 => h1 σ G1 H1 a1 _ fun ρi M2 y G2 H2 ⟨p, l, u, key, ρ, sb, fd, kr, hv, hk⟩ s2 a2 r2 => by
    obtain ⟨ob, e1, kvs, e2, r⟩ := a2.own _ fd.mem
    subst e2
    rcases r.look (k := key) with ⟨z, _⟩ | ⟨ρ', v, z1, z2, z3⟩
    · rw [hv] at z
      cases z
    · rw [hv] at z1
      cases z1
      have ey := kr _ _ r2
      subst ey
      refine ⟨p, v, sb _ _ (ρo.mono _ _ _ s2 r1), ?_, q _ _ _ _ _ hk (s1.trans s2) a2 z3⟩
      have := DGet.k (k := key) e1
      rw [z2] at this
      exact this
/-- k in d, k not in d -/
theorem wt_din {Φ : Bool → Ow → Prop} (hr : Room k X.A) (h : WE X E Γ M i fun ρi M1 => WE X E Γ M1 o fun ρo M2 => ∃ p l u key, MM.Sub ρo (RRef p) ∧ Fnd M2 p (OD l) u ∧ KeyR ρi key ∧ Φ (valR l key).isSome M2) (hm : behindInMarks .In o = false := by exact nomark _) : WT X E Γ M (.Compare i [.In] [o] pos) Φ :=
  wt_of (pt_cmp (pc_din (by have := hr.un; omega) pe_w pe_w) hm) fun σ G H at_ Q q => h σ G H at_ _ fun ρi M1 y G1 H1 h1 s1 a1 r1 => h1 σ G1 H1 a1 _ fun ρo M2 x G2 H2 ⟨p, l, u, key, sb, fd, kr, hk⟩ s2 a2 r2 => by
    obtain ⟨ob, e1, kvs, e2, r⟩ := a2.own _ fd.mem
    subst e2
    have ey := kr _ _ (ρi.mono _ _ _ s2 r1)
    subst ey
    have same : (valV kvs key).isSome = (valR l key).isSome := by
      rcases r.look (k := key) with ⟨z1, z2⟩ | ⟨ρ', v, z1, z2, z3⟩
      · rw [z1, z2]
        rfl
      · rw [z1, z2]
        rfl
    exact ⟨p, _, sb _ _ r2, DGet.k (k := key) e1, _, congrArg V.bl same, q _ _ _ _ hk (s1.trans s2) a2⟩
theorem wt_dnotin {Φ : Bool → Ow → Prop} (hr : Room k X.A) (h : WE X E Γ M i fun ρi M1 => WE X E Γ M1 o fun ρo M2 => ∃ p l u key, MM.Sub ρo (RRef p) ∧ Fnd M2 p (OD l) u ∧ KeyR ρi key ∧ Φ (!(valR l key).isSome) M2) (hm : behindInMarks .NotIn o = false := by exact nomark _) : WT X E Γ M (.Compare i [.NotIn] [o] pos) Φ :=
  wt_of (pt_cmp (pc_dnotin (by have := hr.un; omega) pe_w pe_w) hm) fun σ G H at_ Q q => h σ G H at_ _ fun ρi M1 y G1 H1 h1 s1 a1 r1 => h1 σ G1 H1 a1 _ fun ρo M2 x G2 H2 ⟨p, l, u, key, sb, fd, kr, hk⟩ s2 a2 r2 => by
    obtain ⟨ob, e1, kvs, e2, r⟩ := a2.own _ fd.mem
    subst e2
    have ey := kr _ _ (ρi.mono _ _ _ s2 r1)
    subst ey
    have same : (valV kvs key).isSome = (valR l key).isSome := by
      rcases r.look (k := key) with ⟨z1, z2⟩ | ⟨ρ', v, z1, z2, z3⟩
      · rw [z1, z2]
        rfl
      · rw [z1, z2]
        rfl
    exact ⟨p, _, sb _ _ r2, DGet.k (k := key) e1, _, congrArg V.bl (congrArg not same), q _ _ _ _ hk (s1.trans s2) a2⟩
/-- d[k] = v -/
theorem ws_dput (hr : Room k X.A) (h : WE X E Γ M value fun ρv M1 => WE X E Γ M1 o fun ρo M2 => WE X E Γ M2 i fun ρi M3 => ∃ p l u key, MM.Sub ρo (RRef p) ∧ Fnd M3 p (OD l) u ∧ KeyR ρi key ∧ KOnce l ∧ l.length ≤ 100000 ∧ Ψ.nx Γ (u (OD (putKR l key ρv))))
    (hs : swapsWith value (some (.Subscript o i pos')) pos.line X.env = pure false := by rfl) : WS X E Γ M (.Assign [.Subscript o i pos'] value pos) Ψ :=
  ws_of (ps_dput (by have := hr.un; omega) pe_w pe_w pe_w hs) fun σ G H at_ D c => h σ G H at_ _ fun ρv M1 v G1 H1 h1 s1 a1 r1 => h1 σ G1 H1 a1 _ fun ρo M2 x G2 H2 h2 s2 a2 r2 => h2 σ G2 H2 a2 _ fun ρi M3 y G3 H3 ⟨p, l, u, key, sb, fd, kr, ho, hl, hk⟩ s3 a3 r3 => by
    obtain ⟨ob, e1, kvs, e2, r⟩ := a3.own _ fd.mem
    subst e2
    have ey := kr _ _ r3
    subst ey
    have hl' : kvs.length < sizeLine := Nat.lt_of_le_of_lt (by rw [← r.len]; exact hl) (by decide +kernel)
    refine ⟨p, _, sb _ _ (ρo.mono _ _ _ s3 r2), DPut.k (k := key) e1 hl', ?_⟩
    exact c.nx _ _ hk _ _ _ ((s1.trans s2).trans s3) (a3.write fd ⟨_, rfl, r.put (ρv.mono _ _ _ (s2.trans s3) r1) ho⟩)
end
/-! ### dict(pairs) -/
def mergeR (l more : List (Key × Rep)) : List (Key × Rep) := more.foldl (fun acc kv => putKR acc kv.1 kv.2) l
theorem mergeR_once : ∀ {more l : List (Key × Rep)}, KOnce l → KOnce (mergeR l more)
  | [], _, o => o
  | (_, _) :: more, _, o => mergeR_once (more := more) o.put
theorem krep_merge {G : Hp} : ∀ {more : List (Key × Rep)} {ms : List (Key × V)} {l : List (Key × Rep)} {kvs : List (Key × V)}, KOnce l → KRep more ms G → KRep l kvs G → KRep (mergeR l more) (mergeK kvs ms) G
  | [], [], _, _, _, _, h => h
  | (k, ρ) :: more, (k', v) :: ms, l, kvs, o, r, h => by
    obtain ⟨e, r1, r2⟩ := r
    subst e
    exact krep_merge (more := more) (ms := ms) o.put r2 (h.put r1 o)
  | [], _ :: _, _, _, _, r, _ => r.elim
  | _ :: _, [], _, _, _, r, _ => r.elim
/-- new keys, each once -/
theorem mergeR_new : ∀ {more l : List (Key × Rep)}, ((l ++ more).map (·.1)).Nodup → mergeR l more = l ++ more
  | [], l, _ => (List.append_nil l).symm
  | (k, ρ) :: more, l, h => by
    have hk : k ∉ l.map (·.1) := fun hm => by
      rw [List.map_append, List.nodup_append] at h
      exact h.2.2 k hm k (by simp) rfl
    have put : ∀ {l : List (Key × Rep)}, k ∉ l.map (·.1) → putKR l k ρ = l ++ [(k, ρ)] := by
      intro l
      induction l with
      | nil => intro _; rfl
      | cons x l ih =>
        intro hn
        obtain ⟨k', ρ'⟩ := x
        rw [List.map_cons, List.mem_cons, not_or] at hn
        show (if k' = k then _ else _) = _
        rw [if_neg (fun e => hn.1 e.symm), ih hn.2]
        rfl
    show mergeR (putKR l k ρ) more = _
    rw [put hk, mergeR_new (by rw [List.append_assoc]; exact h), List.append_assoc]
    rfl
/-- the pairs of a list -/
def prR (kv : Key × Rep) : Rep := RTt [RV (kV kv.1), kv.2]
theorem pairs_in {K : PySem.W.Frag} {G H : Hp} (s : Same G H) : ∀ {more : List (Key × Rep)} {vs : List V}, Reps (more.map prR) vs G → ∃ (ps : List Addr) (ms : List (Key × V)), vs = ps.map V.ref ∧ Paired (fun p kv => SqT K H p [kV kv.1, kv.2]) ps ms ∧ KRep more ms G
  | [], [], _ => ⟨[], [], rfl, .nil, trivial⟩
  | (k, ρ) :: more, v :: vs, h => by
    obtain ⟨⟨p, ws, e, hp, r⟩, h2⟩ := h
    obtain ⟨ps, ms, e2, h3, h4⟩ := pairs_in (K := K) s h2
    subst e e2
    match ws, r with
    | [x, y], ⟨r1, r2, _⟩ =>
      have r1 : x = kV k := r1
      subst r1
      exact ⟨p :: ps, (k, y) :: ms, rfl, .cons (.inl (.inl (s _ _ hp))) h3, rfl, r2, h4⟩
  | [], _ :: _, h => h.elim
  | _ :: _, [], h => h.elim
def rDictP (K : PySem.W.Frag) : List V → Hp → VK → Prop := fun xs H Q => ∃ (a : Addr) (ps : List Addr) (kvs : List (Key × V)), xs = [.ref a] ∧ SqL K H a (ps.map V.ref) ∧ Paired (fun p kv => SqT K H p [kV kv.1, kv.2]) ps kvs ∧ ∀ p, H p = none → Q (.ref p) (upd H p (.dK (mergeK [] kvs)))
theorem call_dictR {X : Cx} (hc : X.calm = true) : CallR X (.type "dict") (rDictP X.K) := call_dictP hc
theorem caw_dictP {E : En} {Γ : Gm} {M : Ow} {Φ : Rep → Ow → Prop} {K : PySem.W.Frag} {more : List (Key × Rep)} (hE : ∀ a ∈ E.M, E.H a ≠ none) (k : ∀ p, p ∉ M.map (·.1) → p ∉ E.M → Φ (RRef p) ((p, OD (mergeR [] more)) :: M)) : CaW E Γ M (rDictP K) [RLt (more.map prR)] Φ := fun σ G H a vs hv Q q => by
  match vs, hv with
  | [v], ⟨⟨t, ws, e, h, r⟩, _⟩ =>
    subst e
    obtain ⟨ps, ms, e2, h3, h4⟩ := pairs_in (K := K) a.gh r
    subst e2
    exact ⟨t, ps, ms, rfl, .inl (.inl (a.gh _ _ h)), h3, fun p hp => q _ _ _ _ _ (k p (a.freshM hp) fun z => hE p z (a.fresh hp)) (Same.refl _) (a.own1 hp ⟨_, rfl, krep_merge List.nodup_nil h4 trivial⟩) rfl⟩
end MM

namespace MM
open PySem L2 PyProof.Rows
/-! ### texts of numbers, Shares and calendars, cut into their parts -/
theorem sgn_dec : ∀ d : Nat, d < 10 → (Nat.digitChar d).toNat = sgn d := by decide
theorem dg_dec (n : Nat) : (Nat.toDigits 10 n).map Char.toNat = dg 10 n := by
  induction n using Nat.strongRecOn with
  | _ n ih =>
    by_cases h : n < 10
    · rw [Nat.toDigits_of_lt_base h, dg_lo h, List.map_cons, sgn_dec n h]
      rfl
    · have hn : 10 ≤ n := by omega
      rw [Nat.toDigits_of_base_le (by decide) hn, dg_hi (by decide) hn, List.map_append, ih (n / 10) (by omega), List.map_cons, sgn_dec (n % 10) (by omega)]
      rfl
theorem tl_of {s : Str} {l : List Nat} (h : TL.tl s = l) : s = ⟨l.toArray⟩ := by
  rw [← h, TL.mk_tl]
theorem itx_tl {i : Int} : TL.tl (itx i) = figL 10 i := by
  show (Str.ofString (toString i)).cps.toList = _
  rw [signs_ofString]
  unfold figL
  cases i with
  | ofNat m =>
    show (Nat.repr m).toList.map Char.toNat = _
    rw [Nat.toList_repr, dg_dec, if_neg (show ¬ (Int.ofNat m < 0) from Int.not_lt.mpr (Int.natCast_nonneg m))]
    rfl
  | negSucc m =>
    have e : toString (Int.negSucc m) = "-" ++ Nat.repr (m + 1) := rfl
    rw [e, String.toList_append, List.map_append, Nat.toList_repr, dg_dec, if_pos (Int.negSucc_lt_zero m)]
    rfl
theorem itx_fig {i : Int} : itx i = figS 10 i := tl_of itx_tl
theorem itx_no {c : Nat} {i : Int} (h1 : c ≠ 45) (h2 : ¬ Plain c) : c ∉ TL.tl (itx i) := fun h => by
  rw [itx_tl] at h
  rcases figL_plain (by decide) (by decide) c h with z | z
  · exact h2 z
  · exact h1 z
theorem plain_47 : ¬ Plain 47 := by unfold Plain; omega
theorem plain_32 : ¬ Plain 32 := by unfold Plain; omega
theorem plain_10 : ¬ Plain 10 := by unfold Plain; omega
theorem tl_sl : TL.tl ("/" : Str) = [47] := by decide +kernel
theorem tl_bl : TL.tl (" " : Str) = [32] := by decide +kernel
theorem tl_nl : TL.tl ("\n" : Str) = [10] := by decide +kernel
theorem shT_no {c : Nat} {q : Rat} (h1 : c ≠ 45) (h2 : ¬ Plain c) (h3 : c ≠ 47) : c ∉ TL.tl (shT q) := by
  unfold shT
  split
  · exact itx_no h1 h2
  · rw [TL.tl_append, TL.tl_append, tl_sl]
    intro h
    rw [List.mem_append, List.mem_append, List.mem_singleton] at h
    rcases h with (h | h) | h
    · exact itx_no h1 h2 h
    · exact h3 h
    · exact itx_no h1 h2 h
theorem cut_sh1 {q : Rat} (h : (q.den : Int) = 1) : Txt.partition (shT q) "/" = (itx q.num, Str.empty, Str.empty) := by
  unfold shT
  rw [if_pos h]
  exact TL.partition_none (s := 47) (S := []) tl_sl (itx_no (by decide) plain_47)
theorem cut_sh2 {q : Rat} (h : ¬ (q.den : Int) = 1) : Txt.partition (shT q) "/" = (itx q.num, ("/" : Str), itx (q.den : Int)) := by
  unfold shT
  rw [if_neg h]
  exact TL.partition_app (s := 47) (S := []) tl_sl (itx_no (by decide) plain_47)
def wds : List Str := ["month", "year", "moon", "mark"]
def rwT (w : Str) (q : Rat) : Str := w ++ " " ++ shT q
theorem wds_no : ∀ w ∈ wds, 32 ∉ TL.tl w ∧ 10 ∉ TL.tl w ∧ w.length ≤ 5 := by decide +kernel
theorem cut_rw {w : Str} {q : Rat} (h : w ∈ wds) : Txt.partition (rwT w q) " " = (w, (" " : Str), shT q) :=
  TL.partition_app (s := 32) (S := []) tl_bl (wds_no w h).1
theorem rw_no {w : Str} {q : Rat} (h : w ∈ wds) : 10 ∉ TL.tl (rwT w q) := by
  unfold rwT
  rw [TL.tl_append, TL.tl_append, tl_bl]
  intro z
  rw [List.mem_append, List.mem_append, List.mem_singleton] at z
  rcases z with (z | z) | z
  · exact (wds_no w h).2.1 z
  · exact absurd z (by decide)
  · exact shT_no (by decide) plain_10 (by decide) z
/-- the rows of a calendar, in some order -/
def prs (c : Cal) : List (Str × Rat) := [("month", c.month), ("year", c.year), ("moon", c.moon), ("mark", c.mark)]
def rowsT (L : List (Str × Rat)) : List Str := L.map fun p => rwT p.1 p.2
theorem prs_wds {c : Cal} {L : List (Str × Rat)} (h : L.Perm (prs c)) : (L.map (·.1)).Perm wds := h.map _
theorem prs_in {c : Cal} {L : List (Str × Rat)} (h : L.Perm (prs c)) : ∀ p ∈ L, p.1 ∈ wds := fun p hp => (prs_wds h).mem_iff.mp (List.mem_map_of_mem hp)
theorem prs_val {c : Cal} {L : List (Str × Rat)} (h : L.Perm (prs c)) : ∀ p ∈ L, p.2 ∈ [c.month, c.year, c.moon, c.mark] := fun p hp => by
  have := h.mem_iff.mp hp
  simp only [prs, List.mem_cons, List.not_mem_nil, or_false] at this
  rcases this with rfl | rfl | rfl | rfl <;> simp
theorem prs_once {c : Cal} {L : List (Str × Rat)} (h : L.Perm (prs c)) : (L.map (·.1)).Nodup := (prs_wds h).nodup_iff.mpr (by decide +kernel)
theorem split_rows {c : Cal} {L : List (Str × Rat)} (h : L.Perm (prs c)) : Txt.split (Txt.join "\n" (rowsT L)) "\n" = rowsT L := by
  refine TL.split_join (s := 10) (S := []) tl_nl (by decide +kernel) ?_ ?_
  · intro e
    have := congrArg List.length e
    unfold rowsT at this
    rw [List.length_map, h.length_eq] at this
    exact absurd this (show ¬ 4 = 0 by decide)
  · intro p hp
    obtain ⟨x, hx, rfl⟩ := List.mem_map.mp hp
    exact rw_no (prs_in h x hx)
/-! ### what stands for a key -/
theorem valR_of {l : List (Key × Rep)} {k : Key} {ρ : Rep} (o : KOnce l) (h : (k, ρ) ∈ l) : valR l k = some ρ := by
  induction l with
  | nil => cases h
  | cons x l ih =>
    obtain ⟨k', ρ'⟩ := x
    have o' : (k' :: l.map (·.1)).Nodup := o
    rw [List.nodup_cons] at o'
    show (if k' = k then some ρ' else valR l k) = _
    rcases List.mem_cons.mp h with e | e
    · cases e
      rw [if_pos rfl]
    · have : ¬ k' = k := fun z => o'.1 (z ▸ List.mem_map_of_mem (f := (·.1)) e)
      rw [if_neg this]
      exact ih o'.2 e
theorem valR_none {l : List (Key × Rep)} {k : Key} (h : k ∉ l.map (·.1)) : valR l k = none := by
  induction l with
  | nil => rfl
  | cons x l ih =>
    obtain ⟨k', ρ'⟩ := x
    rw [List.map_cons, List.mem_cons, not_or] at h
    show (if k' = k then some ρ' else valR l k) = _
    rw [if_neg (fun z => h.1 z.symm)]
    exact ih h.2
theorem putKR_new {l : List (Key × Rep)} {k : Key} {ρ : Rep} (h : k ∉ l.map (·.1)) : putKR l k ρ = l ++ [(k, ρ)] := by
  induction l with
  | nil => rfl
  | cons x l ih =>
    obtain ⟨k', ρ'⟩ := x
    rw [List.map_cons, List.mem_cons, not_or] at h
    show (if k' = k then _ else _) = _
    rw [if_neg (fun z => h.1 z.symm), ih h.2]
    rfl
def dcL (f : Rat → Rep) (L : List (Str × Rat)) : List (Key × Rep) := L.map fun p => (.inr p.1, f p.2)
theorem dcL_keys {f : Rat → Rep} {L : List (Str × Rat)} : (dcL f L).map (·.1) = (L.map (·.1)).map Sum.inr := by
  unfold dcL
  rw [List.map_map, List.map_map]
  rfl
theorem dcL_once {f : Rat → Rep} {L : List (Str × Rat)} (h : (L.map (·.1)).Nodup) : KOnce (dcL f L) := by
  unfold KOnce
  rw [dcL_keys]
  exact List.Pairwise.map _ (fun a b z y => z (Sum.inr.inj y)) h
theorem take_once {L : List (Str × Rat)} (h : (L.map (·.1)).Nodup) {i : Nat} : ((L.take i).map (·.1)).Nodup := by
  rw [List.map_take]
  exact h.sublist (List.take_sublist _ _)
theorem fresh_key {L : List (Str × Rat)} (h : (L.map (·.1)).Nodup) {i : Nat} {p : Str × Rat} (hp : L[i]? = some p) {f : Rat → Rep} : (.inr p.1 : Key) ∉ (dcL f (L.take i)).map (·.1) := by
  rw [dcL_keys]
  intro z
  obtain ⟨s, hs, e⟩ := List.mem_map.mp z
  cases e
  have hi : i < L.length := (List.getElem?_eq_some_iff.mp hp).1
  have e1 : L.map (·.1) = (L.take i).map (·.1) ++ (p.1 :: (L.drop (i + 1)).map (·.1)) := by
    have e3 : p = L[i] := ((List.getElem?_eq_some_iff.mp hp).2).symm
    have e2 : L = L.take i ++ (p :: L.drop (i + 1)) := by rw [e3, List.getElem_cons_drop, List.take_append_drop]
    have e4 := congrArg (List.map (fun x : Str × Rat => x.1)) e2
    rw [List.map_append, List.map_cons] at e4
    exact e4
  rw [e1, List.nodup_append] at h
  exact h.2.2 _ hs _ List.mem_cons_self rfl
theorem dcL_put {L : List (Str × Rat)} (h : (L.map (·.1)).Nodup) {i : Nat} {p : Str × Rat} (hp : L[i]? = some p) {f : Rat → Rep} : putKR (dcL f (L.take i)) (.inr p.1) (f p.2) = dcL f (L.take (i + 1)) := by
  rw [putKR_new (fresh_key h hp), List.take_add_one, hp]
  show dcL f (L.take i) ++ [_] = dcL f (L.take i ++ [p])
  unfold dcL
  rw [List.map_append]
  rfl
theorem dcL_val {c : Cal} {L : List (Str × Rat)} (h : L.Perm (prs c)) {f : Rat → Rep} {w : Str} {q : Rat} (hp : (w, q) ∈ prs c) : valR (dcL f L) (.inr w) = some (f q) :=
  valR_of (dcL_once (prs_once h)) (List.mem_map.mpr ⟨(w, q), h.mem_iff.mpr hp, rfl⟩)
end MM

namespace MM
open PySem L2 PyProof.Rows
/-! ### != of lists that hold own things, where all are equal -/
section
open AutoSeq1 (wpAny_loadPart')
open PySem.SeqAt MeetsSeq MeetsSeq2 MeetsSeq3 SeqRoads2
variable {prog : Program} {w : World} {A : Around} {R : Result → Shared → Prop}
theorem ne_rest {p q : Addr} {N : Nat} {J : Nat → Shared → Prop} (look : GQ.ListI prog w A (fun e s' => R (.error e) s') p q N J) (out : ∀ s, J N s → R (.ok (.ret (.bool false))) s) :
    ∀ d i : Nat, i + d = N → ∀ s, J i s → wpAny (model prog w) A.in1 (Builtin.«list.__eq__.loop» ⟨[.ref p, .ref q, rawInt i, rawInt 3], []⟩) (GQ.FinOf prog w A R) (fun e s' => R (.error e) s') s := by
  intro d
  induction d with
  | zero =>
    intro i e s j
    obtain ⟨us, vs, m, m', gp, gq, su, sv, -⟩ := look _ _ j
    cases e
    have told : R (.ok (.ret (.bool false))) s := out s j
    obtain ⟨hp, gn, dr, tk, os⟩ := s
    have e1 : us[((i : Nat) : Int).toNat]? = none := by simp; omega
    have e2 : vs[((i : Nat) : Int).toNat]? = none := by simp; omega
    wp_walk using wpAny_loadPart' gp, wpAny_loadPart' gq
    rw [e1, e2]
    wp_walk using wpAny_loadPart' gp, wpAny_loadPart' gq
    have sz : (us.size != vs.size) = false := by simp [su, sv]
    show R (.ok (.ret (.bool (us.size != vs.size)))) _
    rw [sz]
    exact told
  | succ d ih =>
    intro i e s j
    obtain ⟨us, vs, m, m', gp, gq, su, sv, here⟩ := look _ _ j
    have lu : i < us.size := by omega
    have lv : i < vs.size := by omega
    have step := here lu lv
    obtain ⟨hp, gn, dr, tk, os⟩ := s
    have e1 : us[((i : Nat) : Int).toNat]? = some us[i] := by simp [lu]
    have e2 : vs[((i : Nat) : Int).toNat]? = some vs[i] := by simp [lv]
    wp_walk using wpAny_loadPart' gp, wpAny_loadPart' gq
    rw [e1, e2]
    refine wpAny_bind (wpAny_mono step (fun k s2 z => ?_) fun _ _ z => z)
    obtain ⟨ek, j2⟩ := z
    cases ek
    have more := ih (i + 1) (by omega) s2 j2
    obtain ⟨hp2, gn2, dr2, tk2, os2⟩ := s2
    wp_walk
    have up : ((i : Int) + 1) = ((i + 1 : Nat) : Int) := by omega
    rw [up]
    refine ⟨plainId_quiet plain_eq_loop _, codeAny_builtin entry_eq_loop ?_⟩
    rw [Around.under_plainId plain_eq_loop _]
    exact more
theorem ne_lists {p q : Addr} {N : Nat} {E : Value → Shared → Prop} {Q : Value → Shared → Prop} {s : Shared} (hu : A.units < cLine) (J : Nat → Shared → Prop) (look : GQ.ListI prog w A E p q N J) (out : ∀ s, J N s → Q (.bool false) s) (start : J 0 s) : wpAny (model prog w) A (richCompare .NotEq (.ref p) (.ref q)) Q E s := by
  obtain ⟨us, vs, m, m', gp, gq, su, sv, -⟩ := look _ _ start
  refine wpAny_richCompare_same_room (op := .NotEq) ⟨_, gp, rfl⟩ ⟨_, gq, rfl⟩ F.slot_list_ne ?_ hu
  refine GQ.call_here F.slot_list_ne ⟨_, gp, rfl⟩ F.entry_list_ne (F.args_list_ne_2 _ _) ?_
  have go := ne_rest (A := A) (R := wants (fun v s' => v ≠ .notImplemented ∧ Q v s') E) look (fun s' j => ⟨(fun z => nomatch z), out s' j⟩) N 0 (Nat.zero_add N) s start
  have isL := AutoSeq1.sub_list_list
  have same : ¬ (us.size != vs.size) = true := by simp [su, sv]
  obtain ⟨hp, gn, dr, tk, os⟩ := s
  wp_walk using wpAny_loadPart' gp, wpAny_loadPart' gq
  refine ⟨plainId_quiet plain_eq_loop _, codeAny_builtin entry_eq_loop ?_⟩
  rw [Around.under_plainId plain_eq_loop _]
  exact go
end
section
variable {X : Cx} {n : Nat} {D : Eqv}
theorem op_neListG (hD : Mon D) (h : EqG X n D) (hr : Room (n + 1) X.A) : OpR X (compareOp .NotEq) (rNeG (DList D)) := by
  intro pins s σ H x y v u Q I rx ry ⟨⟨a, b, xs, ys, ex, ey, ha, hb, p⟩, q⟩
  subst ex ey
  cases rx
  cases ry
  refine ne_lists (N := xs.length) hr.units0 (fun _ s' => LoopI X pins σ H s') ?_ (fun s' ⟨H', I', e'⟩ => ⟨.bl false, H', I', rfl, q H' e'⟩) ⟨H, I, Ext.rfl'⟩
  intro i s' l
  have l' := l
  obtain ⟨H1, I1, e1⟩ := l'
  obtain ⟨_, us, k1, ru, g1⟩ := I1.hok a _ (e1 _ _ ha)
  obtain ⟨_, vs, k2, rv, g2⟩ := I1.hok b _ (e1 _ _ hb)
  exact ⟨_, _, k1, k2, g1, g2, by rw [List.size_toArray, ← ru.length], by rw [List.size_toArray, ← rv.length, ← p.1], fun h1 h2 => turnG hD h ⟨hr, rfl⟩ p ru rv i h1 h2 s' l⟩
end
section
variable {X : Cx} {E : En} {Γ : Gm} {M : Ow} {a b : Expr} {pos : Pos} {Φ : Rep → Ow → Prop} {k : Nat} {C : Addr} {c : Con}
theorem opw_neL {ρ ρ' : Rep} {ρs ρs' : List Rep} (s1 : MM.Sub ρ (RLt ρs)) (s2 : MM.Sub ρ' (RLt ρs')) (p : PrC C c ρs ρs') (q0 : Φ (RB false) M) : OpW E Γ M (rNeG (DList (DIns C (REq c)))) ρ ρ' Φ := fun σ G H at_ x y hx hy Q q => by
  obtain ⟨a1, xs, e1, h1, r1⟩ := s1 _ _ hx
  obtain ⟨a2, ys, e2, h2, r2⟩ := s2 _ _ hy
  subst e1 e2
  exact ⟨⟨a1, a2, xs, ys, rfl, rfl, at_.gh _ _ h1, at_.gh _ _ h2, p.prs at_.gh r1 r2⟩, fun H' e => q (RB false) M _ G H' q0 (Same.refl _) (at_.new ⟨Same.refl _, at_.gh.trans e, e, fun _ _ h => h⟩) rfl⟩
/-- != of two lists of own things that are all equal -/
theorem op_neL (F : KnE X.prog X.w X.K X.mg X.base k C c) (t : EqTrue c) (hr : Room (k + 1) X.A) (hx : Passes CX0 X E0) : OpR X (compareOp .NotEq) (rNeG (DList (DIns C (REq c)))) := by
  obtain ⟨f, fd, ps, hs, hf, hb, ok⟩ := F
  exact op_neListG mon_req (eqG_ins (ok.imp (spEq_of t)) hs hf hb hx) hr
end
end MM

namespace MM
open PySem L2 PyProof.Rows
section
variable {X : Cx} {E : En} {Γ : Gm} {M : Ow} {e : Expr} {pos p p2 : Pos} {Φ : Rep → Ow → Prop} {x : Str}
theorem we_bltn {v : V} {u : Value} (hg : Gl X x) (hm : X.mg x = none) (hv : bootBuiltins x = some u) (r : RelV v u) (k : Φ (RV v) M) (hn : x ≠ "__name__" := by decide) (hd : (x == ("__debug__" : Str)) = false := by decide) : WE X E Γ M (.Name x pos) Φ := we_of (pe_bltn hg hm hv r hn hd) (wte_c (fun _ => rfl) k)
/-- isinstance(e, a built-in type) -/
theorem we_isiB {t c : String} {b : Bool} (hg : Gl X "isinstance") (hgc : Gl X x) (hm : X.mg "isinstance" = none) (hmc : X.mg x = none) (hv : bootBuiltins x = some (.type c)) (hk : L2.kitB t c = some b)
    (h : WE X E Γ M e fun ρ M1 => TyIs X.K ρ (.type t) ∧ Φ (RB b) M1) (hn : x ≠ "__name__" := by decide) (hd : (x == ("__debug__" : Str)) = false := by decide)
    (he : starEach [e, .Name x p2] X.env = (false, eval e X.env) :: starEach [.Name x p2] X.env := by rfl) (he2 : starEach [.Name x p2] X.env = (false, eval (.Name x p2) X.env) :: starEach [] X.env := by rfl) (hpl : (backTo pos (starEach [.Name x p2] X.env)).any (·.1) = false := by rfl) :
    WE X E Γ M (.Call (.Name "isinstance" p) [e, .Name x p2] [] pos) Φ := by
  refine we_callB call_isi hg hm (by decide +kernel) (wa_cons (fun σ G H a Q q => h σ G H a Q fun ρ M1 v G1 H1 ⟨ty, hk2⟩ => q ρ M1 v G1 H1 (wa_cons (we_bltn (v := .ty c) hgc hmc hv rfl (wa_nil ?_) hn hd) he2)) he) (by decide) (by decide) he hpl
  exact caw_of (cav_isi ty (.ty c) (kit_ty hk)) hk2
theorem cav_len_tt {K : PySem.W.Frag} {ρs : List Rep} : CaV (fun xs H Q => ∃ p ys, xs = [.ref p] ∧ (SqL K H p ys ∨ SqT K H p ys) ∧ Q (.int ys.length) H) [RTt ρs] (RI ρs.length) := fun vs G H s r Q q => by
  match vs, r with
  | [v], ⟨⟨a, ws, e, h, rr⟩, _⟩ =>
    subst e
    refine ⟨a, ws, rfl, .inr (.inl (.inl (s _ _ h))), q _ G H (New.refl s) ?_⟩
    show V.int _ = V.int _
    rw [rr.length]
theorem cav_len_lt {K : PySem.W.Frag} {ρs : List Rep} : CaV (fun xs H Q => ∃ p ys, xs = [.ref p] ∧ (SqL K H p ys ∨ SqT K H p ys) ∧ Q (.int ys.length) H) [RLt ρs] (RI ρs.length) := fun vs G H s r Q q => by
  match vs, r with
  | [v], ⟨⟨a, ws, e, h, rr⟩, _⟩ =>
    subst e
    refine ⟨a, ws, rfl, .inl (.inl (.inl (s _ _ h))), q _ G H (New.refl s) ?_⟩
    show V.int _ = V.int _
    rw [rr.length]
end
end MM

namespace MM
open PySem L2 PyProof.Rows
/-! ### range of any two ints -/
theorem turn_long {P : Program} {w : World} {K : PySem.W.Frag} {tg : Expr} (it : Addr) (lo : Int) (n : Nat) : Turn P w K tg (Itr lo n) [it] it (fun i h => IsLongIter h it (lo + (i : Nat) * 1) ((n : Int) - (i : Nat)) 1) where
  mem := by simp
  obj := fun i h st b hb => by
    have e : b = it := by simpa using hb
    subst e
    exact ⟨_, st, fun v z => by
      have z' : Data.fields _ = Data.cell v := z
      cases z'⟩
  keep := fun i h h' st k => k it (by simp) _ st
  item := by
    intro X hP hw hK hc i pins s σ H E I hf st hg
    subst hP hw hK
    obtain ⟨f0, f1, f2, f3, f4, f5⟩ := hf it (by simp)
    have W := Walks.longrange (prog := X.prog) (w := X.w) (I.ok.hd hc) it lo 1 n
    refine W.item i s _ _ hg st fun v h' tk hv st' kk => ?_
    obtain ⟨t, rfl⟩ := hv
    have I1 : L2.Inv X pins σ H { s with heap := h', toks := tk } := I.turned (fun b o hb e => kk b o (by simpa using hb) e) f0 f1 f3 f4 f5
    refine ⟨_, rfl, go_of (s := { s with heap := h', toks := tk }) (n := "longrange_iterator") st' rfl rfl (by decide) ⟨.int (lo + i), H, I1, ⟨t, ?_⟩, ⟨rfl, rfl⟩, st', fun b hb => (hf b hb).1⟩⟩
    rw [Int.mul_one]
  done := by
    intro X hP hw hK hc i pins s σ H E I hf st hg
    subst hP hw hK
    obtain ⟨f0, f1, f2, f3, f4, f5⟩ := hf it (by simp)
    exact wpAny_pyNext_long_end (I.ok.hd hc) st (by have : n ≤ i := hg; omega) fun h' eb => ⟨rfl, I.turned (t' := s.toks) (fun b o hb e => eb b o hb e) f0 f1 f3 f4 f5⟩
  self := fun _ _ _ _ _ st h => wpAny_pyIter_longiter st h
section
variable {X : Cx} {tg : Expr}
theorem range_itW {pins : List (Addr × Obj)} {σ : L2.St} {H : Hp} {s : Shared} {R : It → Hp → Prop} {E : Value → Shared → Prop} {lo hi : Int} {t u v : Tok} {tk : Nat} (I : L2.Inv X pins σ H s)
    (q : R (Itr lo (hi - lo).toNat) H) : wpAny (model X.prog X.w) X.A (pyIter (.ref s.heap.objs.size)) (PIE X pins σ tg R) E { s with heap := s.heap.push { cls := .type "range", data := .fields #[.int lo t, .int hi u, .int 1 v] }, toks := tk } := by
  have I1 : L2.Inv X pins σ H { s with heap := s.heap.push { cls := .type "range", data := .fields #[.int lo t, .int hi u, .int 1 v] }, toks := tk } := I.kept fun b o e => Heap.get?_push_of_some _ e
  have e1 : lo + ((0 : Nat) : Int) * 1 = lo := by simp
  have e2 : (((hi - lo).toNat : Nat) : Int) - ((0 : Nat) : Int) = Builtin.Range.rangeSize lo hi 1 := by rw [rangeSize_one]; split <;> omega
  cases hs : Builtin.Range.small lo hi 1 with
  | true =>
    refine wpAny_pyIter_range (IsRange.new ..) hs ?_
    refine ⟨(s.heap.push { cls := .type "range", data := .fields #[.int lo t, .int hi u, .int 1 v] }).objs.size, [(s.heap.push { cls := .type "range", data := .fields #[.int lo t, .int hi u, .int 1 v] }).objs.size], _, _, H, rfl, I1.kept (t' := tk) fun b o e => Heap.get?_push_of_some _ e, turn_range _ lo (hi - lo).toNat, ?_, fun b hb => ?_, q⟩
    · show IsRangeIter _ _ (lo + ((0 : Nat) : Int) * 1) ((((hi - lo).toNat : Nat) : Int) - ((0 : Nat) : Int)) 1
      rw [e1, e2]
      exact Heap.get?_push_size _ rfl
    · have e : b = (s.heap.push { cls := .type "range", data := .fields #[.int lo t, .int hi u, .int 1 v] }).objs.size := by simpa using hb
      subst e
      exact I1.fpOk (Nat.le_refl _) (I1.hok.fresh (Nat.le_refl _))
  | false =>
    refine wpAny_pyIter_longrange (IsRange.new ..) hs ?_
    refine ⟨(s.heap.push { cls := .type "range", data := .fields #[.int lo t, .int hi u, .int 1 v] }).objs.size, [(s.heap.push { cls := .type "range", data := .fields #[.int lo t, .int hi u, .int 1 v] }).objs.size], _, _, H, rfl, I1.kept (t' := tk) fun b o e => Heap.get?_push_of_some _ e, turn_long _ lo (hi - lo).toNat, ?_, fun b hb => ?_, q⟩
    · show IsLongIter _ _ (lo + ((0 : Nat) : Int) * 1) ((((hi - lo).toNat : Nat) : Int) - ((0 : Nat) : Int)) 1
      rw [e1, e2]
      exact Heap.get?_push_size _ rfl
    · have e : b = (s.heap.push { cls := .type "range", data := .fields #[.int lo t, .int hi u, .int 1 v] }).objs.size := by simpa using hb
      subst e
      exact I1.fpOk (Nat.le_refl _) (I1.hok.fresh (Nat.le_refl _))
def iRngW (ta : TA) : TI := fun σ H R => ta σ H fun vs H1 => ∃ i j : Int, vs = [.int i, .int j] ∧ R (Itr i (j - i).toNat) H1
theorem pi_rangeW {a b : Expr} {ta : TA} {p pos : Pos} (hg : Gl X "range") (hm : X.mg "range" = none) (ha : PA X [a, b] ta) (hs : starEach [a, b] X.env = [(false, eval a X.env), (false, eval b X.env)] := by rfl) (hs2 : starEach [b] X.env = [(false, eval b X.env)] := by rfl) :
    PI X tg (.Call (.Name "range" p) [a, b] [] pos) (iRngW ta) := by
  refine ⟨fun pins s σ H R I h => ?_⟩
  refine Call_ (ld_blt I hg hm boot_range (PyProof.Rows.callWith_type1 (thn (ha.run pos pins s σ H _ I h) fun us s1 ⟨vs, H1, I1, r1, q1⟩ => ?_) (by rw [hs, hs2]) (by rw [hs2]; rfl)))
  obtain ⟨i, j, e, q⟩ := q1
  subst e
  cases r1 with
  | cons r rr =>
    cases rr with
    | cons r' rr =>
      cases rr
      obtain ⟨t, rfl⟩ := r
      obtain ⟨t', rfl⟩ := r'
      exact call_range_2 (range_itW I1 q)
end
section
variable {X : Cx} {E : En} {Γ : Gm} {M : Ow} {a b tg : Expr} {pos p apos : Pos} {Ψ : Ed} {body : List Stmt}
theorem ws_for_rangeW (hp : PassesOwn (model X.prog X.w) X.A X.env X.xe) (hc : X.calm = true) (hg : Gl X "range") (hm : X.mg "range" = none)
    (h : WA X E Γ M [a, b] fun ρs M1 => ∃ i j : Int, SubL ρs [RI i, RI j] ∧ ForK X E Γ M1 tg body Ψ (j - i).toNat fun n ρ => ρ = RI (i + n))
    (hse : starEach [a, b] X.env = [(false, eval a X.env), (false, eval b X.env)] := by rfl) (hs2 : starEach [b] X.env = [(false, eval b X.env)] := by rfl) (hs : ∀ x, foldedSetIterable (.Call (.Name "range" p) [a, b] [] apos) X.env x = pure x := by intro _; rfl) : WS X E Γ M (.For tg (.Call (.Name "range" p) [a, b] [] apos) body [] pos) Ψ :=
  ws_of (ps_for hp hc (pi_rangeW hg hm pa_w hse hs2) pg_w pss_w hs) fun σ G H a D k => h σ G H a _ fun ρs M1 vs G1 H1 ⟨i0, j, sb, I, h0, ht, hd⟩ s1 a1 r1 => by
    have ks := k.mono s1
    have e : vs = [.int i0, .int j] := by
      match vs, sb.reps r1 with
      | [v, w], ⟨r, r', _⟩ =>
        have r : v = .int i0 := r
        have r' : w = .int j := r'
        rw [r, r']
    refine ⟨i0, j, e, for_range (lo := i0) (fun i σ H => ∃ Γ' M' G', I i Γ' M' ∧ Same G1 G' ∧ At E Γ' M' σ G' H) ⟨Γ, M1, G1, h0, Same.refl _, a1⟩ ?_ ?_⟩
    · rintro i σ H hx ⟨Γ', M', G', hI, s', a'⟩
      exact for_turn ks (ht i _ Γ' M' hx rfl hI) s' a' rfl
    · rintro σ H ⟨Γ', M', G', hI, s', a'⟩
      exact ks.nx _ _ (hd _ _ hI) _ _ _ s' a'
theorem src_rangeW {Z : Ow → Nat → (Nat → Rep → Prop) → Prop} (h : WA X E Γ M [a, b] fun ρs M1 => ∃ i j : Int, SubL ρs [RI i, RI j] ∧ Z M1 (j - i).toNat fun n ρ => ρ = RI (i + n)) : Src X E Γ M (iRngW (tWA X [a, b])) Z :=
  ⟨fun {σ G H} R a' k => h σ G H a' _ fun ρs M1 vs G1 H1 ⟨i0, j, sb, hz⟩ s1 a1 r1 => by
    have e : vs = [.int i0, .int j] := by
      match vs, sb.reps r1 with
      | [v, w], ⟨r, r', _⟩ =>
        have r : v = .int i0 := r
        have r' : w = .int j := r'
        rw [r, r']
    refine ⟨i0, j, e, k _ _ _ _ _ _ hz s1 a1 fun i H2 G2 s2 g2 => ⟨fun hi => hi, fun hi => hi, fun x H3 hi ⟨e3, y⟩ => ?_⟩⟩
    subst e3
    exact ⟨G2, _, New.refl g2, rfl, y⟩⟩
end
end MM

namespace MM
open PySem L2 PyProof.Rows
/-! ### owned lists of ints -/
theorem reps_RI {G : Hp} : ∀ {ns : List Int} {vs : List V}, Reps (ns.map RI) vs G → vs = ns.map V.int
  | [], [], _ => rfl
  | n :: ns, v :: vs, h => by
    have h1 : v = .int n := h.1
    rw [h1, reps_RI (ns := ns) (vs := vs) h.2]
    rfl
  | [], _ :: _, h => h.elim
  | _ :: _, [], h => h.elim
theorem reps_ints0 {G : Hp} : ∀ ns : List Int, Reps (ns.map RI) (ns.map V.int) G
  | [] => trivial
  | _ :: ns => ⟨rfl, reps_ints0 ns⟩
section
variable {X : Cx} {E : En} {Γ : Gm} {M : Ow} {a b e iter tg : Expr} {pos p p2 apos : Pos} {Φ : Rep → Ow → Prop} {Ψ : Ed} {body : List Stmt} {x : Str}
theorem own_ints {σ : L2.St} {G H : Hp} {q : Addr} {ns : List Int} {u : ORep → Ow} (at_ : At E Γ M σ G H) (fd : Fnd M q (OL (ns.map RI)) u) : H q = some (.lst (ns.map V.int)) := by
  obtain ⟨o, e1, ws, e2, rf⟩ := at_.own _ fd.mem
  subst e2
  rw [reps_RI rf] at e1
  exact e1
theorem ws_for_ownI (hp : PassesOwn (model X.prog X.w) X.A X.env X.xe) (hc : X.calm = true)
    (h : WE X E Γ M iter fun ρ M1 => ∃ (q : Addr) (ns : List Int), Sub ρ (RRef q) ∧ ∃ I : Nat → Gm → Ow → Prop, I 0 Γ M1 ∧ (∀ i Γ1 M2, I i Γ1 M2 → ∃ u, Fnd M2 q (OL (ns.map RI)) u) ∧
      (∀ i n Γ1 M2, ns[i]? = some n → I i Γ1 M2 → WG X E Γ1 M2 tg (RI n) fun Γ2 M3 => WSs X E Γ2 M3 body { nx := I (i + 1), ct := I (i + 1), bk := Ψ.nx, rt := Ψ.rt }) ∧ ∀ Γ1 M2, I ns.length Γ1 M2 → Ψ.nx Γ1 M2)
    (hs : ∀ x, foldedSetIterable iter X.env x = pure x := by intro _; rfl) : WS X E Γ M (.For tg iter body [] pos) Ψ :=
  ws_of (ps_for hp hc (pi_list pe_w) pg_w pss_w hs) fun σ G H a D k => h σ G H a _ fun ρ M1 v G1 H1 ⟨q, ns, sb, I, h0, hI, ht, hd⟩ s1 a1 r1 => by
    have e : v = .ref q := sb _ _ r1
    have ks := k.mono s1
    obtain ⟨u, fd⟩ := hI _ _ _ h0
    have e1 := own_ints a1 fd
    refine ⟨q, e, ⟨ns.map V.int, .inl (.inl e1)⟩, for_list (K := X.K) (a := q) (xs := ns.map V.int) (fun i σ H => ∃ Γ' M' G', I i Γ' M' ∧ Same G1 G' ∧ At E Γ' M' σ G' H) ⟨Γ, M1, G1, h0, Same.refl _, a1⟩ (fun i σ H _ ⟨Γ', M', G', hI', s', a'⟩ => ?_) ?_ ?_⟩
    · obtain ⟨u', fd'⟩ := hI _ _ _ hI'
      exact .inl (.inl (own_ints a' fd'))
    · rintro i x σ H hx ⟨Γ', M', G', hI', s', a'⟩
      rw [List.getElem?_map] at hx
      obtain ⟨n, hn, rfl⟩ := Option.map_eq_some_iff.mp hx
      exact for_turn ks (ht i n Γ' M' hn hI') s' a' rfl
    · rintro σ H ⟨Γ', M', G', hI', s', a'⟩
      rw [List.length_map] at hI'
      exact ks.nx _ _ (hd _ _ hI') _ _ _ s' a'
/-- isinstance(e, a built-in type), of an owned list -/
theorem we_isiO {c : String} {k : Bool} (hg : Gl X "isinstance") (hgc : Gl X x) (hm : X.mg "isinstance" = none) (hmc : X.mg x = none) (hv : bootBuiltins x = some (.type c)) (hk : L2.kitB "list" c = some k)
    (h : WE X E Γ M e fun ρ M1 => (∃ q ns u, Sub ρ (RRef q) ∧ Fnd M1 q (OL ns) u) ∧ Φ (RB k) M1) (hn : x ≠ "__name__" := by decide) (hd : (x == ("__debug__" : Str)) = false := by decide)
    (he : starEach [e, .Name x p2] X.env = (false, eval e X.env) :: starEach [.Name x p2] X.env := by rfl) (he2 : starEach [.Name x p2] X.env = (false, eval (.Name x p2) X.env) :: starEach [] X.env := by rfl) (hpl : (backTo pos (starEach [.Name x p2] X.env)).any (·.1) = false := by rfl) :
    WE X E Γ M (.Call (.Name "isinstance" p) [e, .Name x p2] [] pos) Φ := by
  refine we_callB call_isi hg hm (by decide +kernel) (wa_cons (fun σ G H a Q q => h σ G H a Q fun ρ M1 v G1 H1 ⟨⟨q0, ns, u, sb, fd⟩, hk2⟩ => q ρ M1 v G1 H1 (wa_cons (we_bltn (v := .ty c) hgc hmc hv rfl (wa_nil ?_) hn hd) he2)) he) (by decide) (by decide) he hpl
  intro σ G H a vs r Q q
  match vs, r with
  | [v, w], ⟨r1, r2, _⟩ =>
    have r2 : w = .ty c := r2
    have r1 : v = .ref q0 := sb _ _ r1
    subst r2 r1
    obtain ⟨o, e1, ws, e2, rf⟩ := a.own _ fd.mem
    subst e2
    exact ⟨_, _, .type "list", .type c, k, rfl, .ty c, .base (.lst e1), kit_ty hk, q (RB k) M1 _ G H hk2 (Same.refl _) a rfl⟩
/-- == and != of an owned list of ints -/
theorem opw_neO {ρ ρ' : Rep} {q : Addr} {ns : List Int} {u : ORep → Ow} {d : PyData} (sb : Sub ρ (RRef q)) (fd : Fnd M q (OL (ns.map RI)) u) (h2 : IsD X.K ρ' d) (s2 : SeqAt.shaped d = true) (s1 : SeqAt.shaped (.list (ns.map PyData.int)) = true) (k : Φ (RB (!PyData.eqv (.list (ns.map PyData.int)) d)) M) : OpW E Γ M (rNeD X.K) ρ ρ' Φ := fun σ G H a x y hx hy Q q0 => by
  have e : x = .ref q := sb _ _ hx
  subst e
  have e1 := own_ints a fd
  refine ⟨.list (ns.map PyData.int), d, .lst (.inl (.inl e1)) ?_, h2 y G H a.gh hy, s1, s2, q0 _ M _ G H k (Same.refl _) a rfl⟩
  exact isDs_map (f := RI) (g := PyData.int) (fun _ => isD_i) ns _ H H (Same.refl _) (reps_ints0 ns)
/-- == and != of an owned list of ints -/
theorem opw_eqI {ρ ρ' : Rep} {q : Addr} {ns : List Int} {u : ORep → Ow} {d : PyData} (sb : Sub ρ (RRef q)) (fd : Fnd M q (OL (ns.map RI)) u) (h2 : IsD X.K ρ' d) (s2 : SeqAt.shaped d = true) (s1 : SeqAt.shaped (.list (ns.map PyData.int)) = true) (k : Φ (RB (PyData.eqv (.list (ns.map PyData.int)) d)) M) : OpW E Γ M (rEqD X.K) ρ ρ' Φ := fun σ G H a x y hx hy Q q0 => by
  have e : x = .ref q := sb _ _ hx
  subst e
  have e1 := own_ints a fd
  refine ⟨.list (ns.map PyData.int), d, .lst (.inl (.inl e1)) ?_, h2 y G H a.gh hy, s1, s2, q0 _ M _ G H k (Same.refl _) a rfl⟩
  exact isDs_map (f := RI) (g := PyData.int) (fun _ => isD_i) ns _ H H (Same.refl _) (reps_ints0 ns)
end
end MM

namespace MM
open PySem L2 PyProof.Rows
theorem reps2 {ρ1 ρ2 : Rep} {vs : List V} {G : Hp} (h : Reps [ρ1, ρ2] vs G) : ∃ v w, vs = [v, w] ∧ ρ1.p v G ∧ ρ2.p w G :=
  match vs, h with
  | [v, w], ⟨a, b, _⟩ => ⟨v, w, rfl, a, b⟩
section
variable {X : Cx} {E : En} {Γ : Gm} {M : Ow} {a b e : Expr} {pos p : Pos}
/-- zip of two lists that stay as they are -/
theorem src_zip {Z : Ow → Nat → (Nat → Rep → Prop) → Prop} (h : WA X E Γ M [a, b] fun ρs M1 => ∃ r1 r2, SubL ρs [RL X.K r1, RL X.K r2] ∧ Z M1 (min r1.length r2.length) fun i ρ => ∃ ρ1 ρ2, r1[i]? = some ρ1 ∧ r2[i]? = some ρ2 ∧ ρ = RTt [ρ1, ρ2]) : Src X E Γ M (iZip X.K (tWA X [a, b])) Z :=
  ⟨fun {σ G H} R a' k => h σ G H a' _ fun ρs M1 vs G1 H1 ⟨l1, l2, sb, hz⟩ s1 a1 r1 => by
    obtain ⟨v, w, rfl, t1, t2⟩ := reps2 (sb.reps r1)
    obtain ⟨b1, vs1, e1, q1, t1⟩ := t1
    obtain ⟨b2, vs2, e2, q2, t2⟩ := t2
    subst e1 e2
    refine ⟨b1, b2, vs1, vs2, rfl, Same.seq a1.gh q1, Same.seq a1.gh q2, ?_⟩
    refine k _ _ _ _ _ _ hz s1 a1 fun i H2 G2 s2 g2 => ⟨fun hi => ?_, fun hi => ?_, fun x H3 hi hy => ?_⟩
    · have h1 : i < vs1.length := by rw [← t1.length]; omega
      have h2 : i < vs2.length := by rw [← t2.length]; omega
      exact ⟨vs1, vs2, vs1[i], vs2[i], Same.seq (s2.trans g2) q1, Same.seq (s2.trans g2) q2, List.getElem?_eq_getElem h1, List.getElem?_eq_getElem h2⟩
    · refine ⟨vs1, vs2, Same.seq (s2.trans g2) q1, Same.seq (s2.trans g2) q2, ?_⟩
      rw [← t1.length, ← t2.length]
      omega
    · obtain ⟨T, x', y', rfl, hT, rfl, f1, f2⟩ := hy
      obtain ⟨ρ1, i1, r1'⟩ := (t1.mono s2).get2 (f1 vs1 (Same.seq (s2.trans g2) q1))
      obtain ⟨ρ2, i2, r2'⟩ := (t2.mono s2).get2 (f2 vs2 (Same.seq (s2.trans g2) q2))
      have n := New.put (o := HO.tup [x', y']) g2 hT
      exact ⟨_, RTt [ρ1, ρ2], n, ⟨ρ1, ρ2, i1, i2, rfl⟩, T, [x', y'], rfl, upd_same, ρ1.mono _ _ _ n.gg r1', ρ2.mono _ _ _ n.gg r2', trivial⟩⟩
end
theorem cav_sum {K : PySem.W.Frag} {ns : List Int} : CaV (rSum K) [RLt (ns.map RI)] (RI ns.sum) := fun vs G H s r Q q => by
  match vs, r with
  | [v], ⟨⟨a, ws, e, h, rr⟩, _⟩ =>
    subst e
    rw [reps_RI rr] at h
    exact ⟨a, ns, rfl, .inl (.inl (s _ _ h)), q _ G H (New.refl s) rfl⟩
theorem eqv_ints {ns : List Int} : PyData.eqv (.list (ns.map PyData.int)) (.list (ns.map PyData.int)) = true := by
  have h : ∀ l : List Int, PyData.eqvAll (l.map PyData.int) (l.map PyData.int) = true := by
    intro l
    induction l with
    | nil => simp [PyData.eqvAll]
    | cons x l ih => simp [PyData.eqvAll, PyData.eqv, ih]
  simp only [PyData.eqv]
  exact h ns
theorem shaped_ints {ns : List Int} : SeqAt.shaped (.list (ns.map PyData.int)) = true := by
  have h : ∀ l : List Int, PyData.canLayAll0 (l.map PyData.int) = true := by
    intro l
    induction l with
    | nil => rfl
    | cons x l ih => simp [PyData.canLayAll0, PyData.canLay0, ih]
  have h2 : ∀ l : List Int, PyData.depthAll (l.map PyData.int) = 0 := by
    intro l
    induction l with
    | nil => rfl
    | cons x l ih => simp [PyData.depthAll, PyData.depth, ih]
  simp [SeqAt.shaped, PyData.canLay0, PyData.depth, h, h2]
theorem isD_ints {K : PySem.W.Frag} {ns : List Int} : IsD K (RLt (ns.map RI)) (.list (ns.map PyData.int)) := isD_lt (isDs_map (fun _ => isD_i) ns)
theorem atI_last {α : Type} {l : List α} {x : α} (h : l.getLast? = some x) : atI l (-1) = some x := by
  have hl : l ≠ [] := by
    intro e
    subst e
    cases h
  have h0 : 0 < l.length := List.length_pos_iff.mpr hl
  unfold atI ixN
  rw [if_neg (by decide)]
  rw [List.getLast?_eq_getElem?] at h
  rw [if_pos (by omega)]
  have e : ((-1 : Int) + (l.length : Int)).toNat = l.length - 1 := by omega
  rw [e]
  exact h
end MM

namespace MM
open PySem L2 PyProof.Rows
/-! ### zip(a list, a tuple) -/
section
abbrev lti (p : Addr) : Obj := { cls := .type "list_iterator", data := .fields #[.ref p, .int 0 0] }
abbrev tti (q : Addr) : Obj := { cls := .type "tuple_iterator", data := .fields #[.ref q, .int 0 0] }
abbrev mzA (h : Heap) (p : Addr) : Heap := h.push (lti p)
abbrev mzB (h : Heap) (p q : Addr) : Heap := (mzA h p).push (tti q)
abbrev mzC (h : Heap) (p q : Addr) : Heap := (mzB h p q).push { cls := .type "tuple", data := .seq #[.ref h.objs.size, .ref (mzA h p).objs.size] }
abbrev mzD (h : Heap) (p q : Addr) : Heap := (mzC h p q).push { cls := .type "tuple", data := .seq #[.none, .none] }
abbrev mzE (h : Heap) (p q : Addr) : Heap := (mzD h p q).push { cls := .type "zip", data := .fields #[.none, .bool false, .bool false, .ref (mzB h p q).objs.size, .ref (mzC h p q).objs.size] }
theorem zipM_new (p q : Addr) (xs ys : Array Value) : Meets (Builtin.«zip.__new__» ⟨[.type "zip", .ref p, .ref q], []⟩) (fun _ R s => s.heap.IsList p xs ∧ s.heap.IsTuple q ys ∧ R (.ok (.ret (.ref (mzD s.heap p q).objs.size))) { s with heap := mzE s.heap p q }) :=
  .of_wp fun pr wd ar R s hyp => by
    obtain ⟨hp, gn, dr, tk, os⟩ := s
    obtain ⟨y1, y2, res⟩ := hyp
    have isZ := sub_zip
    have A1 : Heap.IsList (Shared.heap ⟨hp, gn, dr, tk, os⟩) p xs := y1
    have A2 : Heap.IsTuple (Shared.heap ⟨hp.push (lti p), gn, dr, tk, os⟩) q ys := Heap.IsTuple.push y2 _
    wp_walk using wpAny_pyIter_list A1, wpAny_pyIter_tuple A2
    exact ⟨_, rfl, res⟩
variable {s : Shared} {prog : Program} {A : Around} {w : World} {E : Value → Shared → Prop}
structure ZipMAt (h : Heap) (N : Nat) (p q : Addr) (i : Nat) : Prop where
  z : IsZip h (N + 4) (N + 2) (N + 3) .none
  ti : IsTupOf2 h (N + 2) (.ref N) (.ref (N + 1))
  to_ : ∃ u v, IsTupOf2 h (N + 3) u v
  a : h.IsListIter N p i
  b : h.IsTupleIter (N + 1) q i
theorem zipM_call {p q : Addr} {xs ys : Array Value} {Q : Value → Shared → Prop} (y1 : s.heap.IsList p xs) (y2 : s.heap.IsTuple q ys)
    (res : ∀ h', ZipMAt h' s.heap.objs.size p q 0 → (∀ c o, s.heap.get? c = some o → h'.get? c = some o) → Q (.ref (s.heap.objs.size + 4)) { s with heap := h' }) : wpAny (model prog w) A (call (.type "zip") [.ref p, .ref q]) Q E s := by
  refine callType_new F.called_zip (by decide) (F.typeCall_zip_2 _ _) (F.newCall_zip_2 _ _) (fun o => F.args_object_init_3 o _ _) F.entry_zip_new (zipM_new p q xs ys) ⟨y1, y2, ?_⟩
  have n1 : (mzA s.heap p).objs.size = s.heap.objs.size + 1 := Heap.size_push ..
  have n2 : (mzB s.heap p q).objs.size = s.heap.objs.size + 2 := by rw [Heap.size_push, n1]
  have n3 : (mzC s.heap p q).objs.size = s.heap.objs.size + 3 := by rw [Heap.size_push, n2]
  have n4 : (mzD s.heap p q).objs.size = s.heap.objs.size + 4 := by rw [Heap.size_push, n3]
  have k5 : ∀ {c : Addr} {o : Obj}, (mzD s.heap p q).get? c = some o → (mzE s.heap p q).get? c = some o := fun e => Heap.get?_push_of_some _ e
  have k4 : ∀ {c : Addr} {o : Obj}, (mzC s.heap p q).get? c = some o → (mzE s.heap p q).get? c = some o := fun e => k5 (Heap.get?_push_of_some _ e)
  have k3 : ∀ {c : Addr} {o : Obj}, (mzB s.heap p q).get? c = some o → (mzE s.heap p q).get? c = some o := fun e => k4 (Heap.get?_push_of_some _ e)
  have k2 : ∀ {c : Addr} {o : Obj}, (mzA s.heap p).get? c = some o → (mzE s.heap p q).get? c = some o := fun e => k3 (Heap.get?_push_of_some _ e)
  have o5 : (mzE s.heap p q).get? (mzD s.heap p q).objs.size = some _ := Heap.get?_push_size _ rfl
  have o4 : (mzE s.heap p q).get? (mzC s.heap p q).objs.size = some _ := k5 (Heap.get?_push_size _ rfl)
  have o3 : (mzE s.heap p q).get? (mzB s.heap p q).objs.size = some _ := k4 (Heap.get?_push_size _ rfl)
  have o2 : (mzE s.heap p q).get? (mzA s.heap p).objs.size = some _ := k3 (Heap.get?_push_size _ rfl)
  have o1 : (mzE s.heap p q).get? s.heap.objs.size = some _ := k2 (Heap.get?_push_size _ rfl)
  show _ ∧ _
  rw [n2, n3, n4] at o5
  rw [n1, n2] at o3
  rw [n3] at o4
  rw [n1] at o2
  rw [n4]
  exact ⟨⟨_, o5, rfl⟩, res _ ⟨o5, o3, ⟨_, _, o4⟩, ⟨_, o1, rfl, rfl⟩, ⟨_, o2, rfl, rfl⟩⟩ fun c o e => k2 (Heap.get?_push_of_some _ e)⟩
end
/-- the items of the list at a and of the tuple at b, in new pairs -/
def ItzM (K : PySem.W.Frag) (a b : Addr) : It :=
  ⟨fun i H => ∃ (xs ys : List V) (x y : V), SqL K H a xs ∧ SqT K H b ys ∧ xs[i]? = some x ∧ ys[i]? = some y,
    fun i H v H' => ∃ T x y, v = .ref T ∧ H T = none ∧ H' = upd H T (.tup [x, y]) ∧ (∀ l, SqL K H a l → l[i]? = some x) ∧ ∀ l, SqT K H b l → l[i]? = some y,
    fun i H => ∃ l m : List V, SqL K H a l ∧ SqT K H b m ∧ (l.length ≤ i ∨ m.length ≤ i)⟩
def cells (N : Nat) : List Addr := [N + 4, N + 3, N + 2, N + 1, N]
theorem mem_cells {N : Nat} {c : Addr} (h : c ∈ cells N) : c = N + 4 ∨ c = N + 3 ∨ c = N + 2 ∨ c = N + 1 ∨ c = N := by simpa [cells] using h
theorem nN {a b : Nat} (h : a ≠ b) : ¬ @Eq Addr a b := h
theorem nM2 {a b c : Nat} (h1 : a ≠ b) (h2 : a ≠ c) : ¬ @Membership.mem Addr (List Addr) _ [b, c] a := fun h => by
  rcases List.mem_cons.mp h with e | h
  · exact h1 e
  · exact h2 (List.mem_singleton.mp h)
theorem sep_cells {N p q : Nat} (hp : p < N) (hq : q < N) : ZipSep2 (N + 4) (N + 2) (N + 3) N (N + 1) [N, p] [N + 1, q] :=
  ⟨nN (by omega), nN (by omega), nN (by omega), nN (by omega), List.mem_cons_self, nM2 (by omega) (by omega), nM2 (by omega) (by omega), nN (by omega), List.mem_cons_self, nM2 (by omega) (by omega), nM2 (by omega) (by omega), nM2 (by omega) (by omega), nM2 (by omega) (by omega)⟩
theorem far_cells {N : Nat} {c : Addr} (hb : c ∉ cells N) : c ≠ N + 4 ∧ c ≠ N + 3 ∧ c ≠ N ∧ c ≠ N + 1 := ⟨fun e => hb (by simp [cells, e]), fun e => hb (by simp [cells, e]), fun e => hb (by simp [cells, e]), fun e => hb (by simp [cells, e])⟩
/-- a list's iterator from the place i on; a tuple's -/
theorem drawsL {prog : Program} {w : World} {A : Around} (hh : A.handled = none) (it l : Addr) (hne : l ≠ it) (items : Array Value) (i : Nat) : Draws prog w A it [it, l] (items.size - i) (fun j v => items[i + j]? = some v) (fun j h => h.IsListIter it l (i + j) ∧ h.IsList l items) where
  live := fun _ _ st => ⟨_, st.1.choose_spec.1⟩
  frame := fun _ _ _ st k => ⟨st.1.at fun o e => k it (by simp) o e, st.2.at fun o e => k l (by simp) o e⟩
  item := fun j s Q E hj st q => by
    have hlt : i + j < items.size := by omega
    refine wpAny_nextOf_list_item st.1 st.2 (x := items[i + j]) (by simp [hlt]) fun h' y sb => ?_
    exact q _ h' s.toks (by simp [hlt]) ⟨y, st.2.extBut sb.extBut hne⟩ sb
  done := fun s Q E st q => wpAny_nextOf_list_end hh st.1 st.2 (by simp; omega) q
theorem drawsT {prog : Program} {w : World} {A : Around} (hh : A.handled = none) (it l : Addr) (hne : l ≠ it) (items : Array Value) (i : Nat) : Draws prog w A it [it, l] (items.size - i) (fun j v => items[i + j]? = some v) (fun j h => h.IsTupleIter it l (i + j) ∧ h.IsTuple l items) where
  live := fun _ _ st => ⟨_, st.1.choose_spec.1⟩
  frame := fun _ _ _ st k => ⟨st.1.at fun o e => k it (by simp) o e, st.2.at fun o e => k l (by simp) o e⟩
  item := fun j s Q E hj st q => by
    have hlt : i + j < items.size := by omega
    refine wpAny_nextOf_tuple_item st.1 st.2 (x := items[i + j]) (by simp [hlt]) fun h' y sb => ?_
    exact q _ h' s.toks (by simp [hlt]) ⟨y, st.2.extBut sb.extBut hne⟩ sb
  done := fun s Q E st q => wpAny_nextOf_tuple_end hh st.1 st.2 (by simp; omega) q
structure ZipMIn (N : Nat) (p q : Addr) (i : Nat) (h : Heap) : Prop extends ZipMAt h N p q i where
  lp : p < N
  lq : q < N
theorem turn_zipM {P : Program} {w : World} {K : PySem.W.Frag} {es : List Expr} {kk : Nat} {tp : Pos} {p q : Addr} {N : Nat} :
    Turn P w K (.Tuple es kk tp) (ItzM K p q) (cells N) (N + 4) (fun i h => ZipMIn N p q i h) where
  mem := by simp [cells]
  obj := fun i h st c hc => by
    obtain ⟨⟨z, ti, ⟨u, v, to_⟩, ⟨o1, e1, _, d1⟩, ⟨o2, e2, _, d2⟩⟩, _, _⟩ := st
    rcases mem_cells hc with rfl | rfl | rfl | rfl | rfl
    · exact ⟨_, z, fun v y => nomatch y⟩
    · exact ⟨_, to_, fun v y => nomatch y⟩
    · exact ⟨_, ti, fun v y => nomatch y⟩
    · exact ⟨o2, e2, fun v y => by rw [d2] at y; cases y⟩
    · exact ⟨o1, e1, fun v y => by rw [d1] at y; cases y⟩
  keep := fun i h h' st k => by
    obtain ⟨⟨z, ti, ⟨u, v, to_⟩, a, b⟩, lp, lq⟩ := st
    exact ⟨⟨k _ (by simp [cells]) _ z, k _ (by simp [cells]) _ ti, ⟨u, v, k _ (by simp [cells]) _ to_⟩, a.at fun o y => k _ (by simp [cells]) o y, b.at fun o y => k _ (by simp [cells]) o y⟩, lp, lq⟩
  item := by
    intro X eP ew eK hc i pins s σ H E I hf st hg
    subst eP ew eK
    obtain ⟨⟨z, ti, ⟨u0, v0, to_⟩, a, b⟩, lp, lq⟩ := st
    obtain ⟨xs, ys, x, y, qx, qy, hx, hy⟩ := hg
    obtain ⟨its, rv, px, _⟩ := I.list qx
    obtain ⟨its2, rv2, py, _⟩ := I.tuple qy
    obtain ⟨u, hu, ru⟩ := rv.get (i := i) hx
    obtain ⟨v, hv, rv'⟩ := rv2.get hy
    have hh : X.A.in1.handled = none := I.ok.hd hc
    have S := sep_cells lp lq
    have i1 : i < its.length := (List.getElem?_eq_some_iff.mp hu).1
    have i2 : i < its2.length := (List.getElem?_eq_some_iff.mp hv).1
    have nz : N + 4 < s.heap.objs.size := Heap.lt_size z
    refine wpAny_pyNext_zipD2_item (i := 0) S (drawsL hh N p (Nat.ne_of_lt lp) its.toArray i) (drawsT hh (N + 1) q (Nat.ne_of_lt (Nat.lt_succ_of_lt lq)) its2.toArray i) z ti to_ ⟨a, px.isList⟩ ⟨b, py⟩ (by simp; omega) (by simp; omega) fun x1 x2 h' tk p1 p2 z' to' st1 st2 new sz k => ?_
    have ex1 : x1 = u := by
      have : its[i]? = some x1 := by simpa using p1
      rw [hu] at this
      exact Option.some.inj this.symm
    have ex2 : x2 = v := by
      have : its2[i]? = some x2 := by simpa using p2
      rw [hv] at this
      exact Option.some.inj this.symm
    subst ex1 ex2
    refine ⟨_, rfl, wpAny_letOwnedTupleGo_zip (s := { s with heap := h', toks := tk }) z' fun h2 z2 sb => ?_⟩
    have T2 : h2.get? s.heap.objs.size = some { cls := .type "tuple", data := .seq #[x1, x2] } := (sb.2 _ (Nat.ne_of_gt nz)).trans new
    have nw : ObjOk X.prog X.w (upd H s.heap.objs.size (.tup [x, y])) h2 s.heap.objs.size (.tup [x, y]) := ⟨by show 2 ≤ sizeLine; decide, [x1, x2], .cons ru (.cons rv' .nil), ⟨_, T2, rfl, _, rfl⟩⟩
    have I2 : Inv X pins σ (upd H s.heap.objs.size (.tup [x, y])) { s with heap := h2, toks := tk } :=
      I.turnedNew (t' := tk) (ch := cells N) (fun c o hb e => (sb.2 c (far_cells hb).1).trans (k c o (far_cells hb).1 (far_cells hb).2.1 (far_cells hb).2.2.1 (far_cells hb).2.2.2 e)) hf (Nat.le_refl _) nw
    refine ⟨.ref s.heap.objs.size, _, I2, rfl, ⟨_, x, y, rfl, I.hok.fresh (Nat.le_refl _), rfl, fun l hl => by rw [I.list_inj hl qx]; exact hx, fun l hl => by rw [I.tuple_inj hl qy]; exact hy⟩, ⟨⟨z2, ?_, ⟨x1, x2, ?_⟩, ?_, ?_⟩, lp, lq⟩, fun c hcm => ?_⟩
    · exact (sb.2 _ (nN (by omega))).trans (k _ _ (nN (by omega)) (nN (by omega)) (nN (by omega)) (nN (by omega)) ti)
    · exact (sb.2 _ (nN (by omega))).trans to'
    · have := st1.1
      simp only [Nat.zero_add] at this
      exact this.at fun o e => (sb.2 _ (nN (by omega))).trans e
    · have := st2.1
      simp only [Nat.zero_add] at this
      exact this.at fun o e => (sb.2 _ (nN (by omega))).trans e
    · have hlt : @LT.lt Nat _ c s.heap.objs.size := by
        rcases mem_cells hcm with e | e | e | e | e <;> (have e : @Eq Nat c _ := e; omega)
      exact (upd_ne (Nat.ne_of_lt hlt)).trans (hf c hcm).1
  done := by
    intro X eP ew eK hc i pins s σ H E I hf st hg
    subst eP ew eK
    obtain ⟨⟨z, ti, ⟨u0, v0, to_⟩, a, b⟩, lp, lq⟩ := st
    obtain ⟨xs, ys, qx, qy, hend⟩ := hg
    obtain ⟨its, rv, px, _⟩ := I.list qx
    obtain ⟨its2, rv2, py, _⟩ := I.tuple qy
    have hh : X.A.in1.handled = none := I.ok.hd hc
    have S := sep_cells lp lq
    have l1 := rv.length
    have l2 := rv2.length
    refine wpAny_pyNext_zipD2_end (i := 0) S (drawsL hh N p (Nat.ne_of_lt lp) its.toArray i) (drawsT hh (N + 1) q (Nat.ne_of_lt (Nat.lt_succ_of_lt lq)) its2.toArray i) z ti to_ ⟨a, px.isList⟩ ⟨b, py⟩ (by omega) (by omega) (by simp; omega) fun h' tk k => ?_
    exact ⟨rfl, I.turnedL (t' := tk) (ch := cells N) (fun c o hb e => k c o (far_cells hb).1 (far_cells hb).2.1 (far_cells hb).2.2.1 (far_cells hb).2.2.2 e) hf⟩
  self := fun A i s Q E st h => wpAny_pyIter_zip st.z h
def iZipM (K : PySem.W.Frag) (ta : TA) : TI := fun σ H R => ta σ H fun vs H1 => ∃ a b xs ys, vs = [.ref a, .ref b] ∧ SqL K H1 a xs ∧ SqT K H1 b ys ∧ R (ItzM K a b) H1
theorem pi_zipM {X : Cx} {e e2 : Expr} {ta : TA} {p pos tpos : Pos} {es : List Expr} {kk : Nat} (hg : Gl X "zip") (hm : X.mg "zip" = none) (ha : PA X [e, e2] ta)
    (hs : starEach [e, e2] X.env = (false, eval e X.env) :: starEach [e2] X.env := by rfl) (hpl : (backTo pos (starEach [e2] X.env)).any (·.1) = false := by rfl) : PI X (.Tuple es kk tpos) (.Call (.Name "zip" p) [e, e2] [] pos) (iZipM X.K ta) := by
  refine ⟨fun pins s σ H R I hw => ?_⟩
  refine Call_ (ld_blt I hg hm PyProof.Rows.boot_zip (PyProof.Rows.callWith_type1 (thn (ha.run pos pins s σ H _ I hw) fun us s1 ⟨vs, H1, I1, r1, a, b, xs, ys, ex, qx, qy, q⟩ => ?_) hs hpl))
  subst ex
  obtain ⟨u, v, rfl, r2, r3⟩ := vals2 r1
  cases r2
  cases r3
  obtain ⟨its, rv, p1, _⟩ := I1.list qx
  obtain ⟨its2, rv2, p2, _⟩ := I1.tuple qy
  have la : @LT.lt Nat _ a s1.heap.objs.size := p1.lt
  have lb : b < s1.heap.objs.size := by
    obtain ⟨o, ho, _⟩ := id p2
    exact Heap.lt_size ho
  refine zipM_call p1.isList p2 fun h' z k => wpAny_pyIter_zip z.z ?_
  have I2 : Inv X pins σ H1 { s1 with heap := h' } := I1.kept (t' := s1.toks) k
  refine ⟨s1.heap.objs.size + 4, cells s1.heap.objs.size, _, _, H1, rfl, I2, turn_zipM, ⟨z, la, lb⟩, fun c hc => ?_, q⟩
  have hle : @LE.le Nat _ s1.heap.objs.size c := by
    rcases mem_cells hc with e | e | e | e | e <;> (have e : @Eq Nat c _ := e; omega)
  exact I1.fpOk (b := c) hle (I1.hok.fresh (a := c) hle)
section
variable {X : Cx} {E : En} {Γ : Gm} {M : Ow} {a b : Expr}
theorem src_zipM {Z : Ow → Nat → (Nat → Rep → Prop) → Prop} (h : WA X E Γ M [a, b] fun ρs M1 => ∃ r1 r2, SubL ρs [RL X.K r1, RT X.K r2] ∧ Z M1 (min r1.length r2.length) fun i ρ => ∃ ρ1 ρ2, r1[i]? = some ρ1 ∧ r2[i]? = some ρ2 ∧ ρ = RTt [ρ1, ρ2]) : Src X E Γ M (iZipM X.K (tWA X [a, b])) Z :=
  ⟨fun {σ G H} R a' k => h σ G H a' _ fun ρs M1 vs G1 H1 ⟨r1, r2, sb, hz⟩ s1 a1 rr => by
    obtain ⟨v, u, rfl, ⟨p, xs, e1, h1, x1⟩, ⟨q, ys, e2, h2, y1⟩⟩ := reps2 (sb.reps rr)
    subst e1 e2
    have q1 : ∀ {H2 G2 : Hp}, Same G1 G2 → Same G2 H2 → SqL X.K H2 p xs := fun s g => Same.seq (s.trans g) h1
    have q2 : ∀ {H2 G2 : Hp}, Same G1 G2 → Same G2 H2 → SqT X.K H2 q ys := fun s g => same_seqT (s.trans g) h2
    refine ⟨p, q, xs, ys, rfl, Same.seq a1.gh h1, same_seqT a1.gh h2, k _ _ _ _ _ _ hz s1 a1 fun i H2 G2 s2 g2 => ⟨fun hi => ?_, fun hi => ?_, fun x H3 hi ⟨T, x2, y2, e3, hT, e4, z1, z2⟩ => ?_⟩⟩
    · have i1 : i < xs.length := by rw [← x1.length]; omega
      have i2 : i < ys.length := by rw [← y1.length]; omega
      exact ⟨xs, ys, xs[i], ys[i], q1 s2 g2, q2 s2 g2, by simp [i1], by simp [i2]⟩
    · refine ⟨xs, ys, q1 s2 g2, q2 s2 g2, ?_⟩
      rw [← x1.length, ← y1.length]
      omega
    · subst e3 e4
      obtain ⟨ρ1, e5, r5⟩ := (x1.mono s2).get2 (z1 xs (q1 s2 g2))
      obtain ⟨ρ2, e6, r6⟩ := (y1.mono s2).get2 (z2 ys (q2 s2 g2))
      have nw : New G2 H2 (upd G2 T (.tup [x2, y2])) (upd H2 T (.tup [x2, y2])) := New.put g2 hT
      exact ⟨_, RTt [ρ1, ρ2], nw, ⟨ρ1, ρ2, e5, e6, rfl⟩, T, [x2, y2], rfl, upd_same, ρ1.mono _ _ _ nw.gg r5, ρ2.mono _ _ _ nw.gg r6, trivial⟩⟩
end
end MM

namespace MM
open PySem L2 PyProof.Rows PySem.Spec PySem.Calls
set_option maxHeartbeats 16000000 in
theorem gives_fig {b : Nat} {i : Int} {u t : Tok} (hb : 2 ≤ b) (h16 : b ≤ 16) (hs : i.natAbs < 2 ^ 600) : Gives (Builtin.«int.__new__» ⟨[.type "int", .str (figS b i) u, .int (b : Int) t], []⟩) (.int i) :=
  .of_wp fun M A E s Q hQ => by
    obtain ⟨hp, g, d, tk, os⟩ := s
    have f1 := F.conv_sub_int
    have f2 := F.madeHere_int
    have f6 : typeOf (.str (figS b i) u) = pure (.type "str") := rfl
    obtain ⟨e1, e2⟩ := seen_fig (i := i) hb h16
    have hl : (numSeenOf (figS b i)).length ≤ 640 := by
      rw [e2]
      have := figS_len (i := i) hb hs
      have e : (figS b i).length = (figL b i).length := by
        show (figL b i).toArray.size = _
        rw [List.size_toArray]
      omega
    have hr : (int_private% "readNumeral") 0 ((b : Int).toNat) (numSeenOf (figS b i)) = (int_private% "Numeral.value") i := by
      rw [e2, Int.toNat_natCast]
      exact read_fig hb h16 (Nat.lt_of_lt_of_le hs (Nat.pow_le_pow_right (by decide) (by decide)))
    have ha : ((numSeenOf (figS b i)).length == (numTextOf (figS b i)).length) = true := by
      rw [e1, e2]
      exact beq_self_eq_true _
    have hk := Hx.Hid.mk (And.intro hl (And.intro hr ha))
    have hbx : (((b : Int) != 0 && decide ((b : Int) < 2)) || decide ((b : Int) > 36)) = false := by
      rw [decide_eq_false (by omega), decide_eq_false (by omega), Bool.and_false]
      rfl
    clear hl hr ha e1 e2 hs
    generalize figS b i = x at hk f6
    repeat (any_goals (first
      | assumption
      | ((with_reducible show wpAny _ _ ((int_private% "intFromText") _ _ _) _ _ _); refine Hx.wp_textB hk.out.1 hk.out.2.1 hk.out.2.2 ?_)
      | (with_reducible refine wpAny_ite_false hbx ?_)
      | wp_step))
    all_goals first | exact ⟨_, rfl, hQ⟩ | skip
section
variable {X : Cx} {E : En} {Γ : Gm} {M : Ow} {Φ : Rep → Ow → Prop}
def rIntB : List V → Hp → VK → Prop := fun xs H Q => ∃ (b : Nat) (i : Int), xs = [.str (figS b i), .int (b : Int)] ∧ 2 ≤ b ∧ b ≤ 16 ∧ i.natAbs < 2 ^ 600 ∧ Q (.int i) H
theorem call_intB : CallR X (.type "int") rIntB := by
  intro pins s σ H xs us Q I r h
  obtain ⟨b, i, rfl, hb, h16, hs, q⟩ := h
  obtain ⟨u, w', rfl, r1, r2⟩ := vals2 r
  obtain ⟨t1, rfl⟩ := r1
  obtain ⟨t2, rfl⟩ := r2
  exact callType_new F.called_int F.newNe_int (Hx.typeCall_int_2 _ _) (Hx.newCall_int_2 _ _) (fun obj => F.initArgs_range_2 obj _ _) F.entry_int_new (gives_fig hb h16 hs).meets (show (Made.int i).post _ s from ⟨rfl, ⟨.int i, H, I.tok _, ⟨_, rfl⟩, q⟩⟩)
theorem caw_intB {b : Nat} {i : Int} (hb : 2 ≤ b) (h16 : b ≤ 16) (hs : i.natAbs < 2 ^ 600) (k : Φ (RI i) M) : CaW E Γ M rIntB [RS (figS b i), RI (b : Int)] Φ := fun σ G H a vs hv Q q => by
  match vs, hv with
  | [v, w], ⟨r1, r2, _⟩ =>
    have r1 : v = .str (figS b i) := r1
    have r2 : w = .int (b : Int) := r2
    subst r1 r2
    exact ⟨b, i, rfl, hb, h16, hs, q _ _ _ _ _ k (Same.refl _) a rfl⟩
end
end MM

namespace MM
open PySem L2 PyProof.Rows
section
variable {X : Cx} {E : En} {Γ : Gm} {M : Ow} {K : PySem.W.Frag} {Φ : Rep → Ow → Prop} {ρs : List Rep} {e : Expr} {pos : Pos}
/-- list(a tuple), owned -/
theorem caw_listT (hE : ∀ a ∈ E.M, E.H a ≠ none) (k : ∀ l, l ∉ M.map (·.1) → l ∉ E.M → Φ (RRef l) ((l, OL ρs) :: M)) : CaW E Γ M (fun xs H Q => ∃ p ys, xs = [.ref p] ∧ (SqL K H p ys ∨ SqT K H p ys) ∧ ∀ l, H l = none → Q (.ref l) (upd H l (.lst ys))) [RTt ρs] Φ := fun σ G H a vs hv Q q => by
  match vs, hv with
  | [v], ⟨⟨t, ws, e, h, rr⟩, _⟩ =>
    subst e
    exact ⟨t, ws, rfl, .inr (.inl (.inl (a.gh _ _ h))), fun l hl => q _ _ _ _ _ (k l (a.freshM hl) fun z => hE l z (a.fresh hl)) (Same.refl _) (a.own1 hl ⟨ws, rfl, rr⟩) rfl⟩
/-- tuple(an owned list) -/
theorem caw_tupO {l : Addr} {u : ORep → Ow} {ρ : Rep} (sb : Sub ρ (RRef l)) (fd : Fnd M l (OL ρs) u) (k : Φ (RTt ρs) M) : CaW E Γ M (fun xs H Q => ∃ p ys, xs = [.ref p] ∧ ((SqL K H p ys ∧ ∀ l, H l = none → Q (.ref l) (upd H l (.tup ys))) ∨ (SqT K H p ys ∧ Q (.ref p) H))) [ρ] Φ := fun σ G H a vs hv Q q => by
  match vs, hv with
  | [v], ⟨r, _⟩ =>
    have e : v = .ref l := sb _ _ r
    subst e
    obtain ⟨o, e1, ws, e2, rf⟩ := a.own _ fd.mem
    subst e2
    refine ⟨l, ws, rfl, .inl ⟨SqL.of e1, fun t ht => ?_⟩⟩
    have n : New G H (upd G t (.tup ws)) (upd H t (.tup ws)) := New.put a.gh ht
    exact q _ M _ _ _ k n.gg (a.new n) ⟨t, ws, rfl, upd_same, rf.mono n.gg⟩
theorem we_negI {i : Int} (h : WE X E Γ M e fun ρ M1 => Sub ρ (RI i) ∧ Φ (RI (-i)) M1) : WE X E Γ M (.UnaryOp .USub e pos) Φ :=
  we_un un_neg fun σ G H a Q q => h σ G H a Q fun ρ M1 v G1 H1 ⟨sb, hk⟩ s1 a1 r1 => q ρ M1 v G1 H1 ⟨RI (-i), fun x G H hx Q q => by
    have e : x = .int i := sb _ _ hx
    subst e
    exact ⟨i, rfl, q _ rfl⟩, hk⟩ s1 a1 r1
end
end MM

namespace MM
open PySem L2 PyProof.Rows
section
variable {X : Cx} {E : En} {Γ : Gm} {M : Ow} {a : Expr} {pos p2 : Pos} {Φ : Rep → Ow → Prop} {lo hi : Option Expr}
/-- a slice of a tuple, not the whole of it -/
theorem we_slT (h : WE X E Γ M a fun ρ M1 => ∃ ρs, Sub ρ (RT X.K ρs) ∧ WO X E Γ M1 lo fun l M2 => WO X E Γ M2 hi fun u M3 => ¬ (HT.sIx ρs.length 0 l = 0 ∧ HT.sIx ρs.length ρs.length u = ρs.length) ∧ Φ (RTt (cutL ρs l u)) M3) : WE X E Γ M (.Subscript a (.Slice lo hi none p2) pos) Φ :=
  we_of (pe_slice sl_tup pe_w po_w po_w) fun σ G H at' Q q => h σ G H at' _ fun ρ M1 x G1 H1 ⟨ρs, sb, h1⟩ s1 a1 r1 => h1 σ G1 H1 a1 _ fun l M2 G2 H2 h2 s2 a2 => h2 σ G2 H2 a2 _ fun u M3 G3 H3 ⟨hw, hk⟩ s3 a3 => by
    obtain ⟨b, vs, e, hq, rr⟩ := sb _ _ (ρ.mono _ _ _ (s2.trans s3) r1)
    refine ⟨b, vs, e, same_seqT a3.gh hq, by rw [← rr.length]; exact hw, fun p hp => ?_⟩
    have n : New G3 H3 (upd G3 p (.tup (cutV vs l u))) (upd H3 p (.tup (cutV vs l u))) := New.put a3.gh hp
    exact q _ M3 _ _ _ hk ((s1.trans (s2.trans s3)).trans n.gg) (a3.new n) ⟨p, _, rfl, upd_same, (reps_cut rr l u).mono n.gg⟩
end
theorem cut3 {α : Type} {a b c : α} : cutL [a, b, c] (some 1) none = [b, c] := rfl
end MM

namespace MM
open PySem L2 PyProof.Rows
section
variable {X : Cx} {E : En} {Γ : Gm} {M M' : Ow} {Ψ : Ed} {st : List Stmt} {σ : L2.St} {G H : Hp}
/-- an owned thing is forgotten -/
theorem wss_drop {p : Addr} {r : ORep} (rm : Rm M p r M') (h : WSs X E Γ M' st Ψ) : WSs X E Γ M st Ψ := fun σ G H a D k => h σ G H (a.drop rm) D k
theorem At.perm (a : At E Γ M σ G H) (hm : ∀ q ∈ M', q ∈ M) (nd : (M'.map (·.1)).Nodup) : At E Γ M' σ G H :=
  ⟨a.len, a.env, a.gh, fun q hq => a.own q (hm q hq), fun q hq => a.gn q (hm q hq), nd, a.g0, a.keep, a.nw, fun q hq => a.loc q (hm q hq), a.there⟩
/-- the first two change places -/
theorem wss_swap {x y : Addr × ORep} (h : WSs X E Γ (y :: x :: M) st Ψ) : WSs X E Γ (x :: y :: M) st Ψ := fun σ G H a D k =>
  h σ G H (a.perm (fun q hq => by
    rcases List.mem_cons.mp hq with e | hq
    · subst e; exact List.mem_cons_of_mem _ List.mem_cons_self
    · rcases List.mem_cons.mp hq with e | hq
      · subst e; exact List.mem_cons_self
      · exact List.mem_cons_of_mem _ (List.mem_cons_of_mem _ hq)) (by
    have n := a.nd
    simp only [List.map_cons, List.nodup_cons, List.mem_cons, not_or] at n ⊢
    exact ⟨⟨fun e => n.1.1 e.symm, n.2.1⟩, n.1.2, n.2.2⟩)) D k
end
/-- tuple + tuple, neither empty -/
theorem opv_add_t {K : PySem.W.Frag} {ρ ρ' : Rep} {ρs ρs' : List Rep} (h : (ρ :: ρs).length + (ρ' :: ρs').length ≤ 100000) : OpV (rAddU K) (RTt (ρ :: ρs)) (RTt (ρ' :: ρs')) (RTt ((ρ :: ρs) ++ (ρ' :: ρs'))) := fun x y G H s ⟨a, xs, e1, h1, r1⟩ ⟨b, ys, e2, h2, r2⟩ Q q => by
  subst e1 e2
  have hx : xs ≠ [] := fun z => by subst z; exact r1.elim
  have hy : ys ≠ [] := fun z => by subst z; exact r2.elim
  refine .inr (.inr (.inr ⟨a, b, xs, ys, rfl, rfl, .inl (.inl (s _ _ h1)), .inl (.inl (s _ _ h2)), hx, by rw [← r1.length, ← r2.length]; exact szOf h, fun z => absurd z hy, fun _ p hp => ?_⟩))
  have n : New G H (upd G p (.tup (xs ++ ys))) (upd H p (.tup (xs ++ ys))) := New.put s hp
  exact q _ _ _ n ⟨p, _, rfl, upd_same, (r1.app r2).mono n.gg⟩
end MM

namespace MM
open PySem L2 PyProof.Rows
section
variable {X : Cx} {E : En} {Γ : Gm} {M : Ow} {ρ : Rep} {Ξ : Gm → Ow → Prop} {pos : Pos}
theorem wg_lst {es : List Expr} {k0 : Nat} {n : Nat} {ρs : List Rep} (hc : X.calm = true) (hsub : Sub ρ (RL X.K ρs)) (hl : ρs.length = n) (h : WGs X E Γ M es ρs Ξ) (hn : (assignEach es X.env).length = n := by rfl) (hst : (assignEach es X.env).findIdx? (·.1) = none := by rfl) : WG X E Γ M (.Tuple es k0 pos) ρ Ξ :=
  wg_of (pg_lst hc pgs_w hn hst) fun σ G H a v r Q k => by
    obtain ⟨b, vs, e, hq, rr⟩ := hsub _ _ r
    exact ⟨b, vs, e, Same.seq a.gh hq, by rw [← rr.length]; exact hl, h σ G H a vs rr Q k⟩
end
end MM

namespace MM
open PySem L2 PyProof.Rows
theorem ck_CalP {CC CS : Addr} {ρ1 ρ2 ρ3 ρ4 : Rep} {M : Ow} {Φ : Rep → Ow → Prop} {c : Cal} {p : Addr} (h1 : Sub ρ1 (RSh CS c.month)) (h2 : Sub ρ2 (RSh CS c.year)) (h3 : Sub ρ3 (RSh CS c.moon)) (h4 : Sub ρ4 (RSh CS c.mark)) (hc : CalOk c) (k : Φ (RCal CC CS c) M) :
    CallK (con_Cal_init CC CS) [RRef p, ρ1, ρ2, ρ3, ρ4] ((p, OIns CC []) :: M) fun ρ M' => Sub ρ RN ∧ ∃ l M2, Rm M' p (OIns CC l) M2 ∧ Φ (RIns CC l) M2 :=
  ⟨⟨p, .sh c.month, .sh c.year, some (.sh c.moon), some (.sh c.mark)⟩, M, ⟨⟨hc.m.mono (by decide), hc.y.mono (by decide), hc.o.mono (by decide), hc.k.mono (by decide)⟩, hc.ft⟩, .cons Sub.rfl (.cons h1 (.cons h2 (.cons h3 (.cons h4 .nil)))), .cons .here OSub.rfl .nil, fun _ _ => ⟨Sub.rfl, calF CS c, M, .here, k⟩⟩
def calL (c : Cal) : List Rat := [c.month, c.year, c.moon, c.mark]
theorem calL_sz {c : Cal} (h : CalOk c) : ∀ q ∈ calL c, Sz 200 q := by
  intro q hq
  have hq : q ∈ [c.month, c.year, c.moon, c.mark] := hq
  simp only [List.mem_cons, List.not_mem_nil, or_false] at hq
  rcases hq with rfl | rfl | rfl | rfl
  · exact h.m
  · exact h.y
  · exact h.o
  · exact h.k
end MM

namespace MM
open PySem L2 PyProof.Rows
theorem eqv_sr {a : Str} : PyData.eqv (.str a) (.str a) = true := by simp [PyData.eqv]
theorem isN_sh {CS : Addr} {q : Rat} : ∀ v G, (RSh CS q).p v G → decide (v = V.non) = false := fun v G ⟨a, d, fs, e, _⟩ => by
  subst e
  rfl
/-! ### contracts -/
def con_num : Con := { I := Int, B := Unit, pre := fun i => Bd 200 i, args := fun i => [RS (itx i), RI ((10 : Nat) : Int)], own := fun _ => [], post := fun _ _ => True, res := fun i _ => RI i, own' := fun _ _ => [] }
theorem ck_num {ρ1 ρ2 : Rep} {M : Ow} {Φ : Rep → Ow → Prop} {i : Int} (h1 : Sub ρ1 (RS (itx i))) (h2 : Sub ρ2 (RI 10)) (z : Bd 200 i) (k : Φ (RI i) M) : CallK con_num [ρ1, ρ2] M Φ :=
  ⟨i, M, z, .cons h1 (.cons h2 .nil), .nil, fun _ _ => k⟩
def con_shin (CS : Addr) : Con := { I := Rat, B := Unit, pre := fun q => Sz 200 q, args := fun q => [RS (shT q)], own := fun _ => [], post := fun _ _ => True, res := fun q _ => RSh CS q, own' := fun _ _ => [] }
theorem ck_shin {CS : Addr} {ρ : Rep} {M : Ow} {Φ : Rep → Ow → Prop} {q : Rat} (h : Sub ρ (RS (shT q))) (z : Sz 200 q) (k : Φ (RSh CS q) M) : CallK (con_shin CS) [ρ] M Φ :=
  ⟨q, M, z, .cons h .nil, .nil, fun _ _ => k⟩
def con_read (CC CS : Addr) : Con := { I := Cal × List (Str × Rat), B := Unit, pre := fun i => CalOk i.1 ∧ i.2.Perm (prs i.1), args := fun i => [RS (Txt.join "\n" (rowsT i.2))], own := fun _ => [], post := fun _ _ => True, res := fun i _ => RCal CC CS i.1, own' := fun _ _ => [] }
theorem ck_read {CC CS : Addr} {ρ : Rep} {M : Ow} {Φ : Rep → Ow → Prop} {c : Cal} {L : List (Str × Rat)} (h : Sub ρ (RS (Txt.join "\n" (rowsT L)))) (hc : CalOk c) (hL : L.Perm (prs c)) (k : Φ (RCal CC CS c) M) : CallK (con_read CC CS) [ρ] M Φ :=
  ⟨(c, L), M, ⟨hc, hL⟩, .cons h .nil, .nil, fun _ _ => k⟩
structure BltT (K : PySem.W.Frag) (mg : Str → Option Value) (CC CS : Addr) : Prop where
  int : mg "int" = none
  str : mg "str" = none
  repr : mg "repr" = none
  lst : mg "list" = none
  zip : mg "zip" = none
  len : mg "len" = none
  rng : mg "range" = none
  isi : mg "isinstance" = none
  mgC : mg "Calendar" = some (.ref CC)
  wds : ∃ a, mg "WORDS" = some (.ref a) ∧ GTup K a wds
theorem two_pow {i : Int} (z : Bd 200 i) : i.natAbs < 2 ^ 600 := Nat.lt_of_lt_of_le z (Nat.pow_le_pow_right (by decide) (by decide))
theorem row_len {c : Cal} (hc : CalOk c) {L : List (Str × Rat)} (h : L.Perm (prs c)) : ∀ x ∈ rowsT L, x.length ≤ 3870 := fun x hx => by
  obtain ⟨p, hp, rfl⟩ := List.mem_map.mp hx
  have w := (wds_no p.1 (prs_in h p hp)).2.2
  have v := prs_val h p hp
  have z : Sz 200 p.2 := calL_sz hc p.2 v
  have s := shT_len z (by decide)
  have b : (" " : Str).length = 1 := by decide +kernel
  show (p.1 ++ " " ++ shT p.2 : Str).length ≤ 3870
  rw [Str.length_append, Str.length_append]
  omega
theorem rows_len {c : Cal} {L : List (Str × Rat)} (h : L.Perm (prs c)) : (rowsT L).length = 4 := by
  unfold rowsT
  rw [List.length_map, h.length_eq]
  rfl
theorem sum_le {N : Nat} : ∀ {l : List Str}, (∀ x ∈ l, x.length ≤ N) → (l.map (·.length)).sum ≤ l.length * N
  | [], _ => by simp
  | x :: l, h => by
    have a := h x List.mem_cons_self
    have b := sum_le (l := l) fun y hy => h y (List.mem_cons_of_mem _ hy)
    rw [List.map_cons, List.sum_cons, List.length_cons, Nat.succ_mul]
    omega
theorem join_len {c : Cal} (hc : CalOk c) {L : List (Str × Rat)} (h : L.Perm (prs c)) : (Txt.join "\n" (rowsT L)).length ≤ 20000 := by
  have l4 := rows_len h
  have b := row_len hc h
  match e : rowsT L, l4 with
  | [x, y, z, u], _ =>
    rw [e] at b
    have n : ("\n" : Str).length = 1 := by decide +kernel
    have b1 := b x (by simp)
    have b2 := b y (by simp)
    have b3 := b z (by simp)
    have b4 := b u (by simp)
    rw [TL.join_eq]
    show (x ++ "\n" ++ (y ++ "\n" ++ (z ++ "\n" ++ u)) : Str).length ≤ 20000
    simp only [Str.length_append, n]
    omega
section
variable {P : Program} {w : World} {K : PySem.W.Frag} {mg : Str → Option Value} {base : Heap} {CS CC : Addr}
theorem ok_num {f : Addr} {fd : FuncData} (F : FdD K "number_in" "number_in" s_f_number_in [] f fd) (B : BltT K mg CC CS) : FnOk P w K mg base CX0 1 f fd (N_f_number_in.take 2) (conSp con_num) := by
  refine fn_conD con_num F sc_f_number_in (fun _ => rfl) fun cd A outer s H EE G (i : Int) hp hr hE => ?_
  have hz : Bd 200 i := hp
  have ht : startG N_f_number_in [RS (itx i), RI ((10 : Nat) : Int)] = [some (RS (figS 10 i)), some (RI ((10 : Nat) : Int)), none] := by
    rw [itx_fig]
    rfl
  show WSs _ _ (startG N_f_number_in [RS (itx i), RI ((10 : Nat) : Int)]) _ _ _
  rw [ht]
  refine wss_cons (ws_set 2 w2_f_number_in (we_non ?_))
  refine wss_cons (ws_try0 (wss_one (ws_set 2 ?wr (we_callTy call_intB ?g1 B.int (by decide +kernel) (wa_cons (we_var 0 ?r0 rfl (wa_cons (we_var 1 ?r1 rfl (wa_nil (caw_intB (by decide) (by decide) (two_pow hz) ?_)))))))))) 
  case wr => exact ⟨sc_f_number_in.nd, rfl, by first | exact .inl rfl | exact .inr rfl, .inl rfl⟩
  case g1 => rfl
  case r0 => exact ⟨rfl, by first | exact .inl rfl | exact .inr (.inl rfl), by decide, by decide⟩
  case r1 => exact ⟨rfl, by first | exact .inl rfl | exact .inr (.inl rfl), by decide, by decide⟩
  exact wss_one (ws_ret (we_var 2 r2_f_number_in rfl ⟨(), [], trivial, Sub.rfl, .nil⟩))
theorem ok_shin {f : Addr} {fd : FuncData} (F : FdD K "share_in" "share_in" s_f_share_in [] f fd) (B : BltT K mg CC CS) (S : ShM P w K mg base CS) (St : KnO P w K mg base 1 CS "__str__" (con_Sh_str CS)) (Nu : Kn P w K mg base 1 "number_in" [] con_num) : FnOk P w K mg base CX0 5 f fd (N_f_share_in.take 1) (conSp (con_shin CS)) := by
  refine fn_conD (con_shin CS) F sc_f_share_in (fun _ => rfl) fun cd A outer s H EE G (q : Rat) hp hr hE => ?_
  have z : Sz 200 q := hp
  have hr1 := hr.mono (show 1 ≤ 4 by decide)
  have hr2 := hr.mono (show 2 ≤ 4 by decide)
  have hr3 := hr.mono (show 3 ≤ 4 by decide)
  have tl := shT_len z (by decide)
  have sz : sizeLine = 16777216 := by decide +kernel
  by_cases h : (q.den : Int) = 1
  · refine wss_cons (ws_asg (we_bm PySem.F.plainAttrs_str PySem.F.slot_str_partition PySem.F.type_str_partition mt_partR (we_var 0 r0_f_share_in rfl ⟨tyw_str, wa_cons (we_str (wa_nil (mtw_part (by decide +kernel) (by omega) (cut_sh1 h) ?_)))⟩)))
    refine wg_tup rfl sub_tt rfl (wgs_cons (wg_name 1 w1_f_share_in (wgs_cons (wg_name 2 w2_f_share_in (wgs_cons (wg_name 3 w3_f_share_in (wgs_nil ?_)))))))
    refine wss_cons (ws_set 4 w4_f_share_in (we_call Nu hr1 g_number_in_f_share_in pass0 (wa_cons (we_var 1 r1_f_share_in rfl (wa_cons (we_int (wa_nil (ck_num Sub.rfl Sub.rfl z.num ?_))))))))
    refine wss_cons (ws_set 5 w5_f_share_in (we_int ?_))
    refine wss_cons (ws_if (wt_cmp (op_neD hr.units) (nomark _) (we_var 2 r2_f_share_in rfl (we_str (opw_of (opv_ne isD_s isD_s (by decide +kernel) (by decide +kernel)) ⟨_, Sub.rfl, fun hk => absurd hk (by decide +kernel), fun _ => wss_nil ?_⟩)))))
    refine wss_cons (ws_if (wt_bool (wp_or (wt_cmp op_isN (nomark _) (we_var 4 r4_f_share_in rfl (we_non (opw_of (opv_isN isN_i) ⟨false, Sub.rfl, fun _ => ?o2, fun hk => (by cases hk)⟩)))))))
    refine wp_or (wt_cmp op_isN (nomark _) (we_var 5 r5_f_share_in rfl (we_non (opw_of (opv_isN isN_i) ⟨false, Sub.rfl, fun _ => ?o3, fun hk => (by cases hk)⟩))))
    refine wp_or1 (wt_cmp (op_eqD hr.units) (nomark _) (we_var 5 r5_f_share_in rfl (we_int (opw_of (opv_eq isD_i isD_i shaped_i shaped_i) ⟨_, Sub.rfl, fun hk => absurd hk (by decide +kernel), fun _ => wss_nil ?_⟩))))
    refine wss_cons (ws_set 6 w6_f_share_in (we_make S.mk2 hr3 g_Share_f_share_in pass0 hE (wa_cons (we_var 4 r4_f_share_in rfl (wa_cons (we_var 5 r5_f_share_in rfl (wa_nil (mk_Share (a := q.num) (b := 1) Sub.rfl Sub.rfl (by decide) (z.num.mono (by decide)) ((bd_one (show 1 ≤ 200 by decide)).mono (by decide)) ?_))))))))
    have e1 : rt q.num 1 = q := by
      rw [← h]
      exact rt_self q
    rw [e1]
    refine wss_cons (ws_if (wt_cmp (op_neD hr.units) (nomark _) (we_strO St hr3 g_str_f_share_in B.str pass0 (we_var 6 r6_f_share_in rfl ⟨⟨_, Sub.rfl⟩, ck_Sh_str Sub.rfl (z.mono (by decide)) ⟨⟨_, Sub.rfl⟩, ?_⟩⟩))))
    refine we_var 0 r0_f_share_in rfl (opw_of (opv_ne isD_s isD_s (shaped_so shT_ok) (shaped_so (s := shT q) shT_ok)) ⟨_, Sub.rfl, fun hk => ?bad1, fun _ => wss_nil ?_⟩)
    case bad1 =>
      have hk : (!PyData.eqv (.str (shT q)) (.str (shT q))) = true := hk
      rw [eqv_sr] at hk
      cases hk
    exact wss_one (ws_ret (we_var 6 r6_f_share_in rfl ⟨(), [], trivial, Sub.rfl, .nil⟩))
  · refine wss_cons (ws_asg (we_bm PySem.F.plainAttrs_str PySem.F.slot_str_partition PySem.F.type_str_partition mt_partR (we_var 0 r0_f_share_in rfl ⟨tyw_str, wa_cons (we_str (wa_nil (mtw_part (by decide +kernel) (by omega) (cut_sh2 h) ?_)))⟩)))
    refine wg_tup rfl sub_tt rfl (wgs_cons (wg_name 1 w1_f_share_in (wgs_cons (wg_name 2 w2_f_share_in (wgs_cons (wg_name 3 w3_f_share_in (wgs_nil ?_)))))))
    refine wss_cons (ws_set 4 w4_f_share_in (we_call Nu hr1 g_number_in_f_share_in pass0 (wa_cons (we_var 1 r1_f_share_in rfl (wa_cons (we_int (wa_nil (ck_num Sub.rfl Sub.rfl z.num ?_))))))))
    refine wss_cons (ws_set 5 w5_f_share_in (we_int ?_))
    refine wss_cons (ws_if (wt_cmp (op_neD hr.units) (nomark _) (we_var 2 r2_f_share_in rfl (we_str (opw_of (opv_ne isD_s isD_s (by decide +kernel) (by decide +kernel)) ⟨_, Sub.rfl, fun _ => ?withStroke, fun hk => absurd hk (by decide +kernel)⟩)))))
    refine wss_one (ws_set 5 w5_f_share_in (we_call Nu hr1 g_number_in_f_share_in pass0 (wa_cons (we_var 3 r3_f_share_in rfl (wa_cons (we_int (wa_nil (ck_num Sub.rfl Sub.rfl z.den ?_))))))))
    refine wss_cons (ws_if (wt_bool (wp_or (wt_cmp op_isN (nomark _) (we_var 4 r4_f_share_in rfl (we_non (opw_of (opv_isN isN_i) ⟨false, Sub.rfl, fun _ => ?tN2, fun hk => (by cases hk)⟩)))))))
    refine wp_or (wt_cmp op_isN (nomark _) (we_var 5 r5_f_share_in rfl (we_non (opw_of (opv_isN isN_i) ⟨false, Sub.rfl, fun _ => ?tN3, fun hk => (by cases hk)⟩))))
    refine wp_or1 (wt_cmp (op_eqD hr.units) (nomark _) (we_var 5 r5_f_share_in rfl (we_int (opw_of (opv_eq isD_i isD_i shaped_i shaped_i) ⟨_, Sub.rfl, fun hk => ?bad0, fun _ => wss_nil ?_⟩))))
    case bad0 =>
      rw [eqv_ii] at hk
      exact absurd (by simpa using hk) (den_ne q)
    refine wss_cons (ws_set 6 w6_f_share_in (we_make S.mk2 hr3 g_Share_f_share_in pass0 hE (wa_cons (we_var 4 r4_f_share_in rfl (wa_cons (we_var 5 r5_f_share_in rfl (wa_nil (mk_Share (a := q.num) (b := (q.den : Int)) Sub.rfl Sub.rfl (den_ne q) (z.num.mono (by decide)) (z.den.mono (by decide)) ?_))))))))
    rw [rt_self]
    refine wss_cons (ws_if (wt_cmp (op_neD hr.units) (nomark _) (we_strO St hr3 g_str_f_share_in B.str pass0 (we_var 6 r6_f_share_in rfl ⟨⟨_, Sub.rfl⟩, ck_Sh_str Sub.rfl (z.mono (by decide)) ⟨⟨_, Sub.rfl⟩, ?_⟩⟩))))
    refine we_var 0 r0_f_share_in rfl (opw_of (opv_ne isD_s isD_s (shaped_so shT_ok) (shaped_so (s := shT q) shT_ok)) ⟨_, Sub.rfl, fun hk => ?badT1, fun _ => wss_nil ?_⟩)
    case badT1 =>
      have hk : (!PyData.eqv (.str (shT q)) (.str (shT q))) = true := hk
      rw [eqv_sr] at hk
      cases hk
    exact wss_one (ws_ret (we_var 6 r6_f_share_in rfl ⟨(), [], trivial, Sub.rfl, .nil⟩))
theorem ok_read {f : Addr} {fd : FuncData} (F : FdD K "read_calendar" "read_calendar" s_f_read_calendar [] f fd) (B : BltT K mg CC CS) (Si : Kn P w K mg base 5 "share_in" [] (con_shin CS)) (Kb : KnCK P w K mg base 8 "Calendar" CC 2 ["moon", "mark"] (gvP [0, 1, 2, 3, 4]) (con_Cal_init CC CS)) : FnOk P w K mg base CX0 10 f fd (N_f_read_calendar.take 1) (conSp (con_read CC CS)) := by
  refine fn_conD (con_read CC CS) F sc_f_read_calendar (fun _ => rfl) fun cd A outer s H EE G i hp hr hE => ?_
  obtain ⟨c, L⟩ := i
  obtain ⟨hc, hL⟩ := hp
  have hc : CalOk c := hc
  have hL : L.Perm (prs c) := hL
  have once := prs_once hL
  have hr5 := hr.mono (show 5 ≤ 9 by decide)
  have sz : sizeLine = 16777216 := by decide +kernel
  have jl := join_len hc hL
  have l4 : L.length = 4 := by rw [hL.length_eq]; rfl
  obtain ⟨wa, hw, gw⟩ := B.wds
  have g1 : ∀ l i : Nat, i ≤ 4 → (L.take i).length ≤ 4 := fun _ i _ => by rw [List.length_take]; omega
  have dl : ∀ {g : Rat → Rep} {i : Nat}, (dcL g (L.take i)).length ≤ 100000 := fun {g i} => by
    unfold dcL
    rw [List.length_map, List.length_take]
    omega
  refine wss_cons (ws_set 1 w1_f_read_calendar (we_dnew (fun p hp1 hp2 => ?_) hE))
  refine wss_cons (ws_set 2 w2_f_read_calendar (we_bm PySem.F.plainAttrs_str PySem.F.slot_str_split PySem.F.type_str_split mt_splitR (we_var 0 r0_f_read_calendar rfl ⟨tyw_str, wa_cons (we_str (wa_nil (mtw_split (by decide +kernel) (by show (Txt.join "\n" (rowsT L)).length + 2 ≤ sizeLine; omega) (split_rows hL) ?_)))⟩)))
  refine wss_cut (fun Γ M => ∃ x3 x4 x5 x6, Γ = [some (RS (Txt.join "\n" (rowsT L))), some (RRef p), some (RLt ((rowsT L).map RS)), x3, x4, x5, x6, none] ∧ M = [(p, OD (dcL (fun q => RS (shT q)) L))]) (ws_for_list PassesOwn.never rfl (we_var 2 r2_f_read_calendar rfl ⟨_, sub_lt, ?loop1⟩)) ?rest1
  case loop1 =>
    refine ⟨fun i Γ M => ∃ x3 x4 x5 x6, Γ = [some (RS (Txt.join "\n" (rowsT L))), some (RRef p), some (RLt ((rowsT L).map RS)), x3, x4, x5, x6, none] ∧ M = [(p, OD (dcL (fun q => RS (shT q)) (L.take i)))], ⟨none, none, none, none, rfl, rfl⟩, ?turn1, ?done1⟩
    case done1 =>
      rintro Γ M ⟨x3, x4, x5, x6, rfl, rfl⟩
      refine ⟨x3, x4, x5, x6, rfl, ?_⟩
      have e : L.take ((rowsT L).map RS).length = L := by
        rw [List.length_map, rows_len hL, ← l4, List.take_length]
      rw [e]
    case turn1 =>
      rintro i ρ Γ M hi hρ ⟨x3, x4, x5, x6, rfl, rfl⟩
      unfold rowsT at hρ
      rw [List.getElem?_map, List.getElem?_map] at hρ
      obtain ⟨row, hrow, rfl⟩ := Option.map_eq_some_iff.mp hρ
      obtain ⟨pr, hpr, rfl⟩ := Option.map_eq_some_iff.mp hrow
      have hm : pr ∈ L := List.mem_of_getElem? hpr
      have hw1 := prs_in hL pr hm
      have z := calL_sz hc pr.2 (prs_val hL pr hm)
      have rl := row_len hc hL _ (List.mem_map_of_mem hm)
      have rl : (rwT pr.1 pr.2).length ≤ 3870 := rl
      refine wg_name 3 w3_f_read_calendar ?_
      refine wss_cons (ws_asg (we_bm PySem.F.plainAttrs_str PySem.F.slot_str_partition PySem.F.type_str_partition mt_partR (we_var 3 r3_f_read_calendar rfl ⟨tyw_str, wa_cons (we_str (wa_nil (mtw_part (by decide +kernel) (by omega) (cut_rw hw1) ?_)))⟩)))
      refine wg_tup rfl sub_tt rfl (wgs_cons (wg_name 4 w4_f_read_calendar (wgs_cons (wg_name 5 w5_f_read_calendar (wgs_cons (wg_name 6 w6_f_read_calendar (wgs_nil ?_)))))))
      refine wss_cons (ws_if (wt_bool (wp_or (wt_cmp op_notIn_seq rfl (we_var 4 r4_f_read_calendar rfl (we_glob (v := .ref wa) (ρ := RT K (wds.map RS)) g_WORDS_f_read_calendar hw rfl gw.at (opw_of (opv_inT (neg := true)) ⟨_, Sub.rfl, fun _ => ?o2, fun hk => ?bad1⟩)))))))
      case bad1 =>
        have e : wds.contains pr.1 = true := List.contains_iff_mem.mpr hw1
        have hk : (!wds.contains pr.1) = true := hk
        rw [e] at hk
        cases hk
      refine wp_or (wt_cmp (op_eqD hr.units) (nomark _) (we_var 5 r5_f_read_calendar rfl (we_str (opw_of (opv_eq isD_s isD_s (by decide +kernel) (by decide +kernel)) ⟨_, Sub.rfl, fun _ => ?o3, fun hk => absurd hk (by decide +kernel)⟩))))
      have no : valR (dcL (fun q => RS (shT q)) (L.take i)) (.inr pr.1) = none := valR_none (fresh_key once hpr)
      refine wp_or1 (wt_din (hm := rfl) hr (we_var 4 r4_f_read_calendar rfl (we_var 1 r1_f_read_calendar rfl ⟨p, _, _, .inr pr.1, Sub.rfl, .here, keyR_s, ?_⟩)))
      rw [no]
      refine ⟨fun hk => (by cases hk), fun _ => wss_nil ?_⟩
      refine wss_one (ws_dput hr (we_var 6 r6_f_read_calendar rfl (we_var 1 r1_f_read_calendar rfl (we_var 4 r4_f_read_calendar rfl ⟨p, _, _, .inr pr.1, Sub.rfl, .here, keyR_s, dcL_once (take_once once), dl, ?_⟩))))
      refine ⟨_, _, _, _, rfl, ?_⟩
      rw [dcL_put (f := fun q => RS (shT q)) once hpr]
  case rest1 =>
    rintro Γ M ⟨x3, x4, x5, x6, rfl, rfl⟩
    refine wss_cut (fun Γ M => ∃ x3 x4 x5 x6, Γ = [some (RS (Txt.join "\n" (rowsT L))), some (RRef p), some (RLt ((rowsT L).map RS)), x3, x4, x5, x6, none] ∧ M = [(p, OD (dcL (fun q => RS (shT q)) L))]) (ws_for_tup PassesOwn.never rfl (we_glob (v := .ref wa) (ρ := RT K (wds.map RS)) g_WORDS_f_read_calendar hw rfl gw.at ⟨_, Sub.rfl, ?loop2⟩)) ?rest2
    case loop2 =>
      refine ⟨fun i Γ M => ∃ x3 x4 x5 x6, Γ = [some (RS (Txt.join "\n" (rowsT L))), some (RRef p), some (RLt ((rowsT L).map RS)), x3, x4, x5, x6, none] ∧ M = [(p, OD (dcL (fun q => RS (shT q)) L))], ⟨_, _, _, _, rfl, rfl⟩, ?turn2, fun _ _ h => h⟩
      rintro i ρ Γ M hi hρ ⟨x3, x4, x5, x6, rfl, rfl⟩
      rw [List.getElem?_map] at hρ
      obtain ⟨wd, hwd, rfl⟩ := Option.map_eq_some_iff.mp hρ
      have hin : wd ∈ wds := List.mem_of_getElem? hwd
      obtain ⟨q, hq⟩ : ∃ q, (wd, q) ∈ prs c := by
        simp only [wds, List.mem_cons, List.not_mem_nil, or_false] at hin
        rcases hin with rfl | rfl | rfl | rfl
        · exact ⟨c.month, by simp [prs]⟩
        · exact ⟨c.year, by simp [prs]⟩
        · exact ⟨c.moon, by simp [prs]⟩
        · exact ⟨c.mark, by simp [prs]⟩
      refine wg_name 4 w4_f_read_calendar ?_
      refine wss_one (ws_if (wt_dnotin (hm := rfl) hr (we_var 4 r4_f_read_calendar rfl (we_var 1 r1_f_read_calendar rfl ⟨p, _, _, .inr wd, Sub.rfl, .here, keyR_s, ?_⟩))))
      rw [dcL_val hL hq]
      exact ⟨fun hk => (by cases hk), fun _ => wss_nil ⟨_, _, _, _, rfl, rfl⟩⟩
    case rest2 =>
      rintro Γ M ⟨x3, x4, x5, x6, rfl, rfl⟩
      refine wss_cons (ws_set 7 w7_f_read_calendar (we_dnew (fun p2 hp3 hp4 => ?_) hE))
      refine wss_cut (fun Γ M => ∃ x3 x4 x5 x6, Γ = [some (RS (Txt.join "\n" (rowsT L))), some (RRef p), some (RLt ((rowsT L).map RS)), x3, x4, x5, x6, some (RRef p2)] ∧ M = [(p2, OD (dcL (RSh CS) L)), (p, OD (dcL (fun q => RS (shT q)) L))]) (ws_for_list PassesOwn.never rfl (we_var 2 r2_f_read_calendar rfl ⟨_, sub_lt, ?loop3⟩)) ?rest3
      case loop3 =>
        refine ⟨fun i Γ M => ∃ x3 x4 x5 x6, Γ = [some (RS (Txt.join "\n" (rowsT L))), some (RRef p), some (RLt ((rowsT L).map RS)), x3, x4, x5, x6, some (RRef p2)] ∧ M = [(p2, OD (dcL (RSh CS) (L.take i))), (p, OD (dcL (fun q => RS (shT q)) L))], ⟨_, _, _, _, rfl, rfl⟩, ?turn3, ?done3⟩
        case done3 =>
          rintro Γ M ⟨x3, x4, x5, x6, rfl, rfl⟩
          refine ⟨x3, x4, x5, x6, rfl, ?_⟩
          have e : L.take ((rowsT L).map RS).length = L := by
            rw [List.length_map, rows_len hL, ← l4, List.take_length]
          rw [e]
        case turn3 =>
          rintro i ρ Γ M hi hρ ⟨x3, x4, x5, x6, rfl, rfl⟩
          unfold rowsT at hρ
          rw [List.getElem?_map, List.getElem?_map] at hρ
          obtain ⟨row, hrow, rfl⟩ := Option.map_eq_some_iff.mp hρ
          obtain ⟨pr, hpr, rfl⟩ := Option.map_eq_some_iff.mp hrow
          have hm : pr ∈ L := List.mem_of_getElem? hpr
          have hw1 := prs_in hL pr hm
          have z := calL_sz hc pr.2 (prs_val hL pr hm)
          have rl := row_len hc hL _ (List.mem_map_of_mem hm)
          have rl : (rwT pr.1 pr.2).length ≤ 3870 := rl
          refine wg_name 3 w3_f_read_calendar ?_
          refine wss_cons (ws_asg (we_bm PySem.F.plainAttrs_str PySem.F.slot_str_partition PySem.F.type_str_partition mt_partR (we_var 3 r3_f_read_calendar rfl ⟨tyw_str, wa_cons (we_str (wa_nil (mtw_part (by decide +kernel) (by omega) (cut_rw hw1) ?_)))⟩)))
          refine wg_tup rfl sub_tt rfl (wgs_cons (wg_name 4 w4_f_read_calendar (wgs_cons (wg_name 5 w5_f_read_calendar (wgs_cons (wg_name 6 w6_f_read_calendar (wgs_nil ?_)))))))
          refine wss_cons (ws_dput hr (we_call Si hr5 g_share_in_f_read_calendar pass0 (wa_cons (we_var 6 r6_f_read_calendar rfl (wa_nil (ck_shin (q := pr.2) Sub.rfl z ?_))))))
          refine we_var 7 r7_f_read_calendar rfl (we_var 4 r4_f_read_calendar rfl ⟨p2, _, _, .inr pr.1, Sub.rfl, .here, keyR_s, dcL_once (take_once once), dl, ?_⟩)
          rw [dcL_put (f := RSh CS) once hpr]
          have val : valR (dcL (RSh CS) (L.take (i + 1))) (.inr pr.1) = some (RSh CS pr.2) := by
            refine valR_of (dcL_once (take_once once)) (List.mem_map.mpr ⟨pr, ?_, rfl⟩)
            rw [List.take_add_one, hpr]
            simp
          refine wss_one (ws_if (wt_cmp op_isN (nomark _) (we_dget hr (we_var 7 r7_f_read_calendar rfl (we_var 4 r4_f_read_calendar rfl ⟨p2, _, _, .inr pr.1, _, Sub.rfl, .here, keyR_s, val, we_non (opw_of (opv_isN isN_sh) ⟨false, Sub.rfl, fun hk => (by cases hk), fun _ => wss_nil ⟨_, _, _, _, rfl, rfl⟩⟩)⟩)))))
      case rest3 =>
        rintro Γ M ⟨x3, x4, x5, x6, rfl, rfl⟩
        have v1 : valR (dcL (RSh CS) L) (.inr "month") = some (RSh CS c.month) := dcL_val hL (by simp [prs])
        have v2 : valR (dcL (RSh CS) L) (.inr "year") = some (RSh CS c.year) := dcL_val hL (by simp [prs])
        have v3 : valR (dcL (RSh CS) L) (.inr "moon") = some (RSh CS c.moon) := dcL_val hL (by simp [prs])
        have v4 : valR (dcL (RSh CS) L) (.inr "mark") = some (RSh CS c.mark) := dcL_val hL (by simp [prs])
        refine wss_one (ws_ret (we_makeN (gR := gvP [0, 1, 2, 3, 4]) Kb (gr_P _) hr g_Calendar_f_read_calendar pass0 hE (wa_cons (we_dget hr (we_var 7 r7_f_read_calendar rfl (we_str ⟨p2, _, _, .inr "month", _, Sub.rfl, .here, keyR_s, v1, ?_⟩))))))
        refine wa_cons (we_dget hr (we_var 7 r7_f_read_calendar rfl (we_str ⟨p2, _, _, .inr "year", _, Sub.rfl, .here, keyR_s, v2, wa_nil ⟨rfl, ?_⟩⟩)))
        refine wk_cons (we_dget hr (we_var 7 r7_f_read_calendar rfl (we_str ⟨p2, _, _, .inr "moon", _, Sub.rfl, .here, keyR_s, v3, ?_⟩)))
        refine wk_cons (we_dget hr (we_var 7 r7_f_read_calendar rfl (we_str ⟨p2, _, _, .inr "mark", _, Sub.rfl, .here, keyR_s, v4, wk_nil ⟨rfl, fun p hp hpE => ?_⟩⟩)))
        exact ck_CalP Sub.rfl Sub.rfl Sub.rfl Sub.rfl hc ⟨(), _, trivial, Sub.rfl, .nil⟩
end
end MM

namespace MM
open PySem L2 PyProof.Rows
def con_L_floor : Con := { I := Rat, B := Unit, pre := fun q => Sz 8000 q, args := fun q => [RF q], own := fun _ => [], post := fun _ _ => True, res := fun q _ => RI q.floor, own' := fun _ _ => [] }
theorem ck_L_floor {ρ1 : Rep} {M : Ow} {Φ : Rep → Ow → Prop} {q : Rat} (h1 : Sub ρ1 (RF q)) (z : Sz 8000 q) (k : Φ (RI q.floor) M) : CallK con_L_floor [ρ1] M Φ :=
  ⟨q, M, z, .cons h1 .nil, .nil, fun _ _ => k⟩
def con_Lci (f : Cal → Int → Int) : Con := { I := Cal × Int, B := Unit, pre := fun i => CalOk i.1 ∧ Bd 2500 i.2, args := fun i => [RCf i.1, RI i.2], own := fun _ => [], post := fun _ _ => True, res := fun i _ => RI (f i.1 i.2), own' := fun _ _ => [] }
theorem ck_Lci {f : Cal → Int → Int} {ρ1 ρ2 : Rep} {M : Ow} {Φ : Rep → Ow → Prop} {c : Cal} {k : Int} (h1 : Sub ρ1 (RCf c)) (h2 : Sub ρ2 (RI k)) (hc : CalOk c) (z : Bd 2500 k) (q : Φ (RI (f c k)) M) : CallK (con_Lci f) [ρ1, ρ2] M Φ :=
  ⟨(c, k), M, ⟨hc, z⟩, .cons h1 (.cons h2 .nil), .nil, fun _ _ => q⟩
section
variable {P : Program} {w : World} {K : PySem.W.Frag} {mg : Str → Option Value} {base : Heap} {CS CC : Addr}

theorem ok_L_floor {f : Addr} {fd : FuncData} (F : FdD K "_law_floor" "_law_floor" s_f_L_floor [] f fd) : FnOk P w K mg base CX0 1 f fd (N_f_L_floor) (conSp con_L_floor) := by
  refine fn_conD con_L_floor F sc_f_L_floor (fun _ => rfl) fun cd A outer s H EE G (q : Rat) z hr hE => ?_
  have z : Sz 8000 q := z
  refine wss_one (ws_ret (we_bin op_fdivA (we_ix ix_seq (we_var 0 r0_f_L_floor rfl (we_int (opw_of (opv_ix_t sub_tt rfl) (we_ix ix_seq (we_var 0 r0_f_L_floor rfl (we_int (opw_of (opv_ix_t sub_tt rfl) ?_))))))))))
  have h9 : (q.den : Int).natAbs.log2 < 9000 := Nat.lt_trans (bd_log z.den (by decide)) (by decide)
  refine opw_of (opv_div_i (den_pos q) h9) ⟨(), [], trivial, ?_, .nil⟩
  show Sub _ (RI q.floor)
  rw [Rat.floor_def]
  exact Sub.rfl
theorem ok_L_start {f : Addr} {fd : FuncData} (F : FdD K "_law_start" "_law_start" s_f_L_start [] f fd) (Pl : Kn P w K mg base 2 "_law_plus" [] con_L_plus) (By : Kn P w K mg base 2 "_law_by" [] con_L_by) (Fl : Kn P w K mg base 1 "_law_floor" [] con_L_floor) : FnOk P w K mg base CX0 3 f fd (N_f_L_start) (conSp (con_Lci Cal.st)) := by
  refine fn_conD (con_Lci Cal.st) F sc_f_L_start (fun _ => rfl) fun cd A outer s H EE G i hp hr hE => ?_
  obtain ⟨c, k⟩ := i
  obtain ⟨hc, z⟩ := hp
  have hc : CalOk c := hc
  have z : Bd 2500 k := z
  have hr1 := hr.mono (show 1 ≤ 2 by decide)
  refine wss_one (ws_ret (we_call Fl hr1 g__law_floor_f_L_start pass0 (wa_cons (we_call Pl hr g__law_plus_f_L_start pass0 (wa_cons (we_ix ix_seq (we_var 0 r0_f_L_start rfl (we_int (opw_of (opv_ix_t sub_tt rfl) ?_)))))))))
  refine wa_cons (we_call By hr g__law_by_f_L_start pass0 (wa_cons (we_ix ix_seq (we_var 0 r0_f_L_start rfl (we_int (opw_of (opv_ix_t sub_tt rfl) ?_))))))
  refine wa_cons (we_tup (wa_cons (we_var 1 r1_f_L_start rfl (wa_cons (we_int (wa_nil ⟨by show 2 ≤ 100000; decide, wa_nil (ck_L_by (pq_f hc.m) (pq_i z (by decide)) (wa_nil ?_))⟩))))))
  have zz : Sz 2700 (c.month * (k : Rat)) := (sz_mul hc.m (sz_int z (by decide))).mono (by decide)
  exact ck_L_plus (pq_f hc.o) (pq_f zz) (wa_nil (ck_L_floor Sub.rfl ((sz_add hc.o zz).mono (by decide)) ⟨(), [], trivial, Sub.rfl, .nil⟩))
end
end MM

namespace MM
open PySem L2 PyProof.Rows
section
variable {P : Program} {w : World} {K : PySem.W.Frag} {mg : Str → Option Value} {base : Heap} {CS CC : Addr}

theorem ok_L_mark_day {f : Addr} {fd : FuncData} (F : FdD K "_law_mark_day" "_law_mark_day" s_f_L_mark_day [] f fd) (Pl : Kn P w K mg base 2 "_law_plus" [] con_L_plus) (By : Kn P w K mg base 2 "_law_by" [] con_L_by) (Fl : Kn P w K mg base 1 "_law_floor" [] con_L_floor) : FnOk P w K mg base CX0 3 f fd (N_f_L_mark_day) (conSp (con_Lci Cal.md)) := by
  refine fn_conD (con_Lci Cal.md) F sc_f_L_mark_day (fun _ => rfl) fun cd A outer s H EE G i hp hr hE => ?_
  obtain ⟨c, k⟩ := i
  obtain ⟨hc, z⟩ := hp
  have hc : CalOk c := hc
  have z : Bd 2500 k := z
  have hr1 := hr.mono (show 1 ≤ 2 by decide)
  refine wss_one (ws_ret (we_call Fl hr1 g__law_floor_f_L_mark_day pass0 (wa_cons (we_call Pl hr g__law_plus_f_L_mark_day pass0 (wa_cons (we_ix ix_seq (we_var 0 r0_f_L_mark_day rfl (we_int (opw_of (opv_ix_t sub_tt rfl) ?_)))))))))
  refine wa_cons (we_call By hr g__law_by_f_L_mark_day pass0 (wa_cons (we_ix ix_seq (we_var 0 r0_f_L_mark_day rfl (we_int (opw_of (opv_ix_t sub_tt rfl) ?_))))))
  have e : c.year * rt k 12 = c.tw * (k : Rat) := by
    rw [rt, Rat.divInt_eq_div]
    unfold Cal.tw
    have : ((12 : Int) : Rat) = 12 := rfl
    rw [this]
    grind
  refine wa_cons (we_tup (wa_cons (we_var 1 r1_f_L_mark_day rfl (wa_cons (we_int (wa_nil ⟨by show 2 ≤ 100000; decide, wa_nil (ck_L_by (pq_f hc.y) (pq_p z ((bd_lit (i := 12) (by decide)).mono (by decide)) (by decide)) (wa_nil ?_))⟩))))))
  rw [e]
  have zz : Sz 2710 (c.tw * (k : Rat)) := (sz_mul (sz_tw hc) (sz_int z (by decide))).mono (by decide)
  exact ck_L_plus (pq_f hc.k) (pq_f zz) (wa_nil (ck_L_floor Sub.rfl ((sz_add hc.k zz).mono (by decide)) ⟨(), [], trivial, Sub.rfl, .nil⟩))
end
end MM

namespace MM
open PySem L2 PyProof.Rows
theorem hasI_cal {CC CS : Addr} {c : Cal} {m : Str} (h : ((m == ("month" : Str)) || (m == ("year" : Str)) || (m == ("moon" : Str)) || (m == ("mark" : Str)) || (m == ("twelfth" : Str))) = false) : HasI (RCal CC CS c) CC m := by
  simp only [Bool.or_eq_false_iff] at h
  obtain ⟨⟨⟨⟨h1, h2⟩, h3⟩, h4⟩, h5⟩ := h
  exact hasI_ins (by simp [List.lookup, h1, h2, h3, h4, h5])
def con_ci (CC CS : Addr) (f : Cal → Int → Int) : Con := { I := Cal × Int, B := Unit, pre := fun i => CalOk i.1 ∧ Bd 2500 i.2, args := fun i => [RCal CC CS i.1, RI i.2], own := fun _ => [], post := fun _ _ => True, res := fun i _ => RI (f i.1 i.2), own' := fun _ _ => [] }
theorem ck_ci {CC CS : Addr} {f : Cal → Int → Int} {ρ1 ρ2 : Rep} {M : Ow} {Φ : Rep → Ow → Prop} {c : Cal} {k : Int} (h1 : Sub ρ1 (RCal CC CS c)) (h2 : Sub ρ2 (RI k)) (hc : CalOk c) (z : Bd 2500 k) (q : Φ (RI (f c k)) M) : CallK (con_ci CC CS f) [ρ1, ρ2] M Φ :=
  ⟨(c, k), M, ⟨hc, z⟩, .cons h1 (.cons h2 .nil), .nil, fun _ _ => q⟩
section
variable {P : Program} {w : World} {K : PySem.W.Frag} {mg : Str → Option Value} {base : Heap} {CS CC : Addr}
theorem ok_st {f : Addr} {fd : FuncData} (F : FdD K "start" "Calendar.start" s_Calendar_start [] f fd) (S : ShF P w K mg base CS) (C : CalT K CC) : FnOk P w K mg base CX0 6 f fd ["self", "k"] (conSp (con_ci CC CS Cal.st)) := by
  refine fn_conD (con_ci CC CS Cal.st) F sc_Calendar_start (fun _ => rfl) fun cd A outer s H EE G i hp hr hE => ?_
  obtain ⟨c, k⟩ := i
  obtain ⟨hc, z⟩ := hp
  have hc : CalOk c := hc
  have z : Bd 2500 k := z
  refine wss_one (ws_ret (we_call S.whole hr g_whole_Calendar_start pass0 (wa_cons (we_call S.plus hr g_plus_Calendar_start pass0 (wa_cons (we_fld (we_var 0 r0_Calendar_start rfl ⟨_, hasF_moon C, ?_⟩)))))))
  refine wa_cons (we_call S.times hr g_times_Calendar_start pass0 (wa_cons (we_fld (we_var 0 r0_Calendar_start rfl ⟨_, hasF_month C, ?_⟩))))
  refine wa_cons (we_var 1 r1_Calendar_start rfl (wa_nil (ck_times aq_sh aq_wh (hc.m.mono (by decide)) (sz_int (z.mono (by decide)) (by decide)) (wa_nil ?_))))
  refine ck_plus aq_sh aq_sh (hc.o.mono (by decide)) ((sz_mul hc.m (sz_int z (by decide))).mono (by decide)) (wa_nil ?_)
  exact ck_whole aq_sh ((sz_add hc.o (sz_mul hc.m (sz_int z (by decide)))).mono (by decide)) ⟨(), [], trivial, Sub.rfl, .nil⟩
end
end MM

namespace MM
open PySem L2 PyProof.Rows
section
variable {P : Program} {w : World} {K : PySem.W.Frag} {mg : Str → Option Value} {base : Heap} {CS CC : Addr}
theorem ok_md {f : Addr} {fd : FuncData} (F : FdD K "mark_day" "Calendar.mark_day" s_Calendar_mark_day [] f fd) (S : ShF P w K mg base CS) (C : CalT K CC) : FnOk P w K mg base CX0 6 f fd ["self", "j"] (conSp (con_ci CC CS Cal.md)) := by
  refine fn_conD (con_ci CC CS Cal.md) F sc_Calendar_mark_day (fun _ => rfl) fun cd A outer s H EE G i hp hr hE => ?_
  obtain ⟨c, k⟩ := i
  obtain ⟨hc, z⟩ := hp
  have hc : CalOk c := hc
  have z : Bd 2500 k := z
  have zt : Sz 205 (c.year / 12) := sz_tw hc
  refine wss_one (ws_ret (we_call S.whole hr g_whole_Calendar_mark_day pass0 (wa_cons (we_call S.plus hr g_plus_Calendar_mark_day pass0 (wa_cons (we_fld (we_var 0 r0_Calendar_mark_day rfl ⟨_, hasF_mark C, ?_⟩)))))))
  refine wa_cons (we_call S.times hr g_times_Calendar_mark_day pass0 (wa_cons (we_fld (we_var 0 r0_Calendar_mark_day rfl ⟨_, hasF_twelfth C, ?_⟩))))
  refine wa_cons (we_var 1 r1_Calendar_mark_day rfl (wa_nil (ck_times aq_sh aq_wh (zt.mono (by decide)) (sz_int (z.mono (by decide)) (by decide)) (wa_nil ?_))))
  refine ck_plus aq_sh aq_sh (hc.k.mono (by decide)) ((sz_mul zt (sz_int z (by decide))).mono (by decide)) (wa_nil ?_)
  exact ck_whole aq_sh ((sz_add hc.k (sz_mul zt (sz_int z (by decide)))).mono (by decide)) ⟨(), [], trivial, Sub.rfl, .nil⟩
end
end MM

namespace MM
open PySem L2 PyProof.Rows
theorem caw_lenO {K : PySem.W.Frag} {E : En} {Γ : Gm} {M : Ow} {Φ : Rep → Ow → Prop} {p : Addr} {ρ : Rep} {ρs : List Rep} {u : ORep → Ow} (sb : Sub ρ (RRef p)) (fd : Fnd M p (OL ρs) u) (k : Φ (RI ρs.length) M) : CaW E Γ M (fun xs H Q => ∃ p ys, xs = [.ref p] ∧ (SqL K H p ys ∨ SqT K H p ys) ∧ Q (.int ys.length) H) [ρ] Φ := fun σ G H a vs hv Q q => by
  match vs, hv with
  | [v], ⟨hv, _⟩ =>
    have hv : v = .ref p := sb _ _ hv
    subst hv
    obtain ⟨o, e1, ws, e2, rf⟩ := a.own _ fd.mem
    subst e2
    refine ⟨p, ws, rfl, .inl (SqL.of e1), ?_⟩
    rw [← rf.length]
    exact q _ _ _ _ _ k (Same.refl _) a rfl
theorem join4 {s a b c d : Str} : Txt.join s [a, b, c, d] = a ++ s ++ b ++ s ++ c ++ s ++ d := by
  rw [TL.join_eq]
  show a ++ s ++ (b ++ s ++ (c ++ s ++ d)) = _
  simp only [Str.append_assoc]
theorem calT_rows {c : Cal} : calT c = Txt.join "\n" (rowsT (prs c)) := by
  show calT c = Txt.join "\n" [rwT "month" c.month, rwT "year" c.year, rwT "moon" c.moon, rwT "mark" c.mark]
  rw [join4]
  unfold calT rwT
  have e1 : ("month " : Str) = "month" ++ " " := by decide +kernel
  have e2 : ("\nyear " : Str) = "\n" ++ ("year" ++ " ") := by decide +kernel
  have e3 : ("\nmoon " : Str) = "\n" ++ ("moon" ++ " ") := by decide +kernel
  have e4 : ("\nmark " : Str) = "\n" ++ ("mark" ++ " ") := by decide +kernel
  rw [e1, e2, e3, e4]
  simp only [Str.append_assoc]
theorem calRp_rows {c : Cal} : calRp c = "Calendar(" ++ Txt.join ", " ((calL c).map rpT) ++ ")" := by
  show calRp c = "Calendar(" ++ Txt.join ", " [rpT c.month, rpT c.year, rpT c.moon, rpT c.mark] ++ ")"
  rw [join4]
  unfold calRp
  simp only [Str.append_assoc]
/-! ### contracts -/
def con_L_cal (CC CS : Addr) : Con := { I := Addr × Nat × Cal, B := Unit, pre := fun i => i.2.1 ≤ 10000000 ∧ CalOk i.2.2, args := fun i => [RRef i.1, RCf i.2.2], own := fun i => [(i.1, ODr i.2.1)], post := fun _ _ => True, res := fun i _ => RCal CC CS i.2.2, own' := fun i _ => [(i.1, ODr (i.2.1 + 1))] }
theorem ck_L_cal {CC CS : Addr} {ρ1 ρ2 : Rep} {M M1 : Ow} {Φ : Rep → Ow → Prop} {p : Addr} {n : Nat} {c : Cal} (h1 : Sub ρ1 (RRef p)) (h2 : Sub ρ2 (RCf c)) (rm : Rm M p (ODr n) M1) (hn : n ≤ 10000000) (hc : CalOk c) (k : Φ (RCal CC CS c) ((p, ODr (n + 1)) :: M1)) : CallK (con_L_cal CC CS) [ρ1, ρ2] M Φ :=
  ⟨(p, n, c), M1, ⟨hn, hc⟩, .cons h1 (.cons h2 .nil), .cons rm OSub.rfl .nil, fun _ _ => k⟩
def con_L_text : Con := { I := Rat, B := Unit, pre := fun q => Sz 1000 q, args := fun q => [RF q], own := fun _ => [], post := fun _ _ => True, res := fun q _ => RS (shT q), own' := fun _ _ => [] }
theorem ck_L_text {ρ : Rep} {M : Ow} {Φ : Rep → Ow → Prop} {q : Rat} (h : Sub ρ (RF q)) (z : Sz 1000 q) (k : Φ (RS (shT q)) M) : CallK con_L_text [ρ] M Φ :=
  ⟨q, M, z, .cons h .nil, .nil, fun _ _ => k⟩
def con_L_lines : Con := { I := Cal, B := Unit, pre := fun c => CalOk c, args := fun c => [RCf c], own := fun _ => [], post := fun _ _ => True, res := fun c _ => RLt ((rowsT (prs c)).map RS), own' := fun _ _ => [] }
theorem ck_L_lines {ρ : Rep} {M : Ow} {Φ : Rep → Ow → Prop} {c : Cal} (h : Sub ρ (RCf c)) (z : CalOk c) (k : Φ (RLt ((rowsT (prs c)).map RS)) M) : CallK con_L_lines [ρ] M Φ :=
  ⟨c, M, z, .cons h .nil, .nil, fun _ _ => k⟩
def con_L_turned : Con := { I := Addr × Nat × Cal, B := List (Str × Rat), pre := fun i => i.2.1 ≤ 10000000, args := fun i => [RRef i.1, RLt ((rowsT (prs i.2.2)).map RS)], own := fun i => [(i.1, ODr i.2.1)], post := fun i L => L.Perm (prs i.2.2), res := fun _ L => RLt ((rowsT L).map RS), own' := fun i _ => [(i.1, ODr (i.2.1 + 4))] }
theorem ck_L_turned {ρ1 ρ2 : Rep} {M M1 : Ow} {Φ : Rep → Ow → Prop} {p : Addr} {n : Nat} {c : Cal} (h1 : Sub ρ1 (RRef p)) (h2 : Sub ρ2 (RLt ((rowsT (prs c)).map RS))) (rm : Rm M p (ODr n) M1) (hn : n ≤ 10000000) (k : ∀ L : List (Str × Rat), L.Perm (prs c) → Φ (RLt ((rowsT L).map RS)) ((p, ODr (n + 4)) :: M1)) : CallK con_L_turned [ρ1, ρ2] M Φ :=
  ⟨(p, n, c), M1, hn, .cons h1 (.cons h2 .nil), .cons rm OSub.rfl .nil, fun L hL => k L hL⟩
def con_L_is (CC CS : Addr) : Con := { I := Cal, B := Unit, pre := fun c => CalOk c, args := fun c => [RCal CC CS c, RCf c, RS (calT c)], own := fun _ => [], post := fun _ _ => True, res := fun _ _ => RB true, own' := fun _ _ => [] }
theorem ck_L_is {CC CS : Addr} {ρ1 ρ2 ρ3 : Rep} {M : Ow} {Φ : Rep → Ow → Prop} {c : Cal} (h1 : Sub ρ1 (RCal CC CS c)) (h2 : Sub ρ2 (RCf c)) (h3 : Sub ρ3 (RS (calT c))) (hc : CalOk c) (k : Φ (RB true) M) : CallK (con_L_is CC CS) [ρ1, ρ2, ρ3] M Φ :=
  ⟨c, M, hc, .cons h1 (.cons h2 (.cons h3 .nil)), .nil, fun _ _ => k⟩
def con_L_plain (CS : Addr) : Con := { I := Rat, B := AQ, pre := fun q => Sz 200 q, args := fun q => [RF q], own := fun _ => [], post := fun q a => a.val = q, res := fun _ a => a.rep CS, own' := fun _ _ => [] }
theorem ck_L_plain {CS : Addr} {ρ : Rep} {M : Ow} {Φ : Rep → Ow → Prop} {q : Rat} (h : Sub ρ (RF q)) (z : Sz 200 q) (k : ∀ a : AQ, a.val = q → Φ (a.rep CS) M) : CallK (con_L_plain CS) [ρ] M Φ :=
  ⟨q, M, z, .cons h .nil, .nil, fun a ha => k a ha⟩
def con_L_rt : Con := { I := Addr, B := Unit, pre := fun _ => True, args := fun p => [RRef p], own := fun p => [(p, ODr 0)], post := fun _ _ => True, res := fun _ _ => RB true, own' := fun _ _ => [] }
theorem ck_L_rt {ρ : Rep} {M M1 : Ow} {Φ : Rep → Ow → Prop} {p : Addr} (h : Sub ρ (RRef p)) (rm : Rm M p (ODr 0) M1) (k : Φ (RB true) M1) : CallK con_L_rt [ρ] M Φ :=
  ⟨p, M1, trivial, .cons h .nil, .cons rm OSub.rfl .nil, fun _ _ => k⟩
theorem ck_CalQ {CC CS : Addr} {M : Ow} {Φ : Rep → Ow → Prop} {c : Cal} {p : Addr} {a b x y : AQ} (h1 : a.val = c.month) (h2 : b.val = c.year) (h3 : x.val = c.moon) (h4 : y.val = c.mark) (hc : CalOk c) (k : Φ (RCal CC CS c) M) :
    CallK (con_Cal_init CC CS) [RRef p, a.rep CS, b.rep CS, x.rep CS, y.rep CS] ((p, OIns CC []) :: M) fun ρ M' => Sub ρ RN ∧ ∃ l M2, Rm M' p (OIns CC l) M2 ∧ Φ (RIns CC l) M2 := by
  refine ⟨⟨p, a, b, some x, some y⟩, M, ⟨⟨?_, ?_, ?_, ?_⟩, ?_⟩, .cons Sub.rfl (.cons Sub.rfl (.cons Sub.rfl (.cons Sub.rfl (.cons Sub.rfl .nil)))), .cons .here OSub.rfl .nil, fun _ _ => ⟨Sub.rfl, calF CS c, M, ?_, k⟩⟩
  · show Sz 1000 a.val
    rw [h1]; exact hc.m.mono (by decide)
  · show Sz 1000 b.val
    rw [h2]; exact hc.y.mono (by decide)
  · show Sz 1000 x.val
    rw [h3]; exact hc.o.mono (by decide)
  · show Sz 1000 y.val
    rw [h4]; exact hc.k.mono (by decide)
  · show fault a.val b.val = ""
    rw [h1, h2]; exact hc.ft
  · have e : calF CS c = calF CS ⟨a.val, b.val, x.val, y.val⟩ := by rw [h1, h2, h3, h4]
    rw [e]
    exact .here
theorem mk_CalQ {E : En} {CC CS : Addr} {M : Ow} {Φ : Rep → Ow → Prop} {c : Cal} {a b x y : AQ} (h1 : a.val = c.month) (h2 : b.val = c.year) (h3 : x.val = c.moon) (h4 : y.val = c.mark) (hc : CalOk c) (k : Φ (RCal CC CS c) M) : MakeK E CC (con_Cal_init CC CS) [a.rep CS, b.rep CS, x.rep CS, y.rep CS] M Φ := fun p _ _ =>
  ck_CalQ (Φ := Φ) h1 h2 h3 h4 hc k
theorem five_small {i : Nat} {ρ : Rep} (h : ([RI 0, RI 1, RI (-1), RI 100, RI (-100)] : List Rep)[i]? = some ρ) : ∃ k : Int, ρ = RI k ∧ Bd 70 k := by
  match i, h with
  | 0, h => cases h; exact ⟨0, rfl, bd_lit (by decide)⟩
  | 1, h => cases h; exact ⟨1, rfl, bd_lit (by decide)⟩
  | 2, h => cases h; exact ⟨-1, rfl, bd_lit (by decide)⟩
  | 3, h => cases h; exact ⟨100, rfl, bd_lit (by decide)⟩
  | 4, h => cases h; exact ⟨-100, rfl, bd_lit (by decide)⟩
theorem perm_put {α : Type} {l m : List α} {y : α} (h : l.Perm m) (j : Nat) : (l.take j ++ [y] ++ l.drop j).Perm (m ++ [y]) := by
  have a : (l.take j ++ [y] ++ l.drop j).Perm (y :: l) := by
    have e : l = l.take j ++ l.drop j := (List.take_append_drop j l).symm
    rw [List.append_assoc]
    refine List.perm_middle.trans ?_
    show (y :: (l.take j ++ l.drop j)).Perm (y :: l)
    rw [List.take_append_drop]
  exact a.trans ((List.Perm.cons y h).trans (List.perm_append_comm (l₁ := [y])))
section
variable {P : Program} {w : World} {K : PySem.W.Frag} {mg : Str → Option Value} {base : Heap} {CS CC : Addr}
theorem ok_L_cal {f : Addr} {fd : FuncData} (F : FdD K "_law_cal" "_law_cal" s_f_L_cal [] f fd) (S : ShM P w K mg base CS) (Nx : Kn P w K mg base 1 "_law_next" [] con_L_next) (C4 : KnC P w K mg base 8 "Calendar" CC [] (con_Cal_init CC CS)) (Kb : KnCK P w K mg base 8 "Calendar" CC 0 ["mark", "moon", "year", "month"] (gvP [0, 4, 3, 2, 1]) (con_Cal_init CC CS)) : FnOk P w K mg base CX0 10 f fd (N_f_L_cal.take 2) (conSp (con_L_cal CC CS)) := by
  refine fn_conD (con_L_cal CC CS) F sc_f_L_cal (fun _ => rfl) fun cd A outer s H EE G i hp hr hE => ?_
  obtain ⟨p, n, c⟩ := i
  obtain ⟨hn, hc⟩ := hp
  have hn : n ≤ 10000000 := hn
  have hc : CalOk c := hc
  have hr1 := hr.mono (show 1 ≤ 9 by decide)
  have hr3 := hr.mono (show 3 ≤ 9 by decide)
  refine wss_cons (ws_setLc (t := gName 3) (own := [("_law_one", 3)]) 2 rfl sc_f_L_cal.nd rfl rfl ?hsw (pi_tup pe_w) (blkOk_by ?ok) ?hg hE ?src)
  case hsw => rfl
  case ok =>
    show blkC N_f_L_cal (defScope s_f_L_cal) _ _ = true
    decide +kernel
  case hg =>
    intro s H C cl fp
    exact pg_name sc_f_L_cal.nd rfl (.inl rfl)
  case src =>
    refine src_tup (we_var 1 r1_f_L_cal rfl ⟨(calL c).map RF, sub_tt, fun i o M => M = [(p, ODr n)] ∧ o = ((calL c).map (RSh CS)).take i, ⟨rfl, rfl⟩, ?turn, ?done⟩)
    case turn =>
      rintro i ρ o M1 D hi he ⟨rfl, rfl⟩
      rw [List.getElem?_map] at he
      obtain ⟨q, hq, rfl⟩ := Option.map_eq_some_iff.mp he
      have zq : Sz 200 q := calL_sz hc q (List.mem_of_getElem? hq)
      refine ⟨fun Γ => Γ.set 3 (some (RF q)), blkT_name 3 (by decide), fun s H0 C cl fp => ?_⟩
      refine we_make S.mk2 hr3 ?g1 pass0 hE (wa_cons (we_ix ix_seq (we_var 3 ?r3a rfl (we_int (opw_of (opv_ix_t sub_tt rfl) (wa_cons (we_ix ix_seq (we_var 3 ?r3b rfl (we_int (opw_of (opv_ix_t sub_tt rfl) (wa_nil ?mk)))))))))))
      case g1 => rfl
      case r3a => exact ⟨rfl, by first | exact .inl rfl | exact .inr (.inl rfl), by decide, by decide⟩
      case r3b => exact ⟨rfl, by first | exact .inl rfl | exact .inr (.inl rfl), by decide, by decide⟩
      refine mk_Share Sub.rfl Sub.rfl (den_ne q) (zq.num.mono (by decide)) (zq.den.mono (by decide)) ⟨[(p, ODr n)], RSh CS (rt q.num q.den), rfl, Sub.rfl, ?len, rfl, ?tk⟩
      case len =>
        rw [List.length_take]
        have : i < 4 := hi
        omega
      case tk => rw [rt_self, List.take_add_one, List.getElem?_map, hq]; rfl
    case done =>
      rintro D o M1 hD hM ⟨rfl, rfl⟩
      have key : List.take ((calL c).map RF).length ((calL c).map (RSh CS)) = [RSh CS c.month, RSh CS c.year, RSh CS c.moon, RSh CS c.mark] := rfl
      rw [key]
      refine wss_freeze 2 rfl .here hD ?_
      refine wss_cons (ws_if (wt_cmp (op_eqD hr.units) (nomark _) (we_bin op_modN (we_call Nx hr1 g__law_next_f_L_cal pass0 (wa_cons (we_var 0 r0_f_L_cal rfl (wa_nil (ck_L_next Sub.rfl .here (by omega) fun x hx => ?_))))))))
      refine we_int (opw_of (opv_mod_i (by decide)) (we_int (opw_of (opv_eq isD_i isD_i shaped_i shaped_i) ⟨_, Sub.rfl, fun _ => ?yes, fun _ => wss_nil ?no⟩)))
      case yes =>
        refine wss_one (ws_ret (we_make C4 hr g_Calendar_f_L_cal pass0 hE (wa_cons (we_ix ix_seq (we_var 2 r2_f_L_cal rfl (we_int (opw_of (opv_ix_l sub_lt rfl) ?_)))))))
        refine wa_cons (we_ix ix_seq (we_var 2 r2_f_L_cal rfl (we_int (opw_of (opv_ix_l sub_lt rfl) ?_))))
        refine wa_cons (we_ix ix_seq (we_var 2 r2_f_L_cal rfl (we_int (opw_of (opv_ix_l sub_lt rfl) ?_))))
        refine wa_cons (we_ix ix_seq (we_var 2 r2_f_L_cal rfl (we_int (opw_of (opv_ix_l sub_lt rfl) (wa_nil fun p hp hpE => ?_)))))
        exact ck_CalP Sub.rfl Sub.rfl Sub.rfl Sub.rfl hc ⟨(), _, trivial, Sub.rfl, .cons .here OSub.rfl .nil⟩
      case no =>
        refine wss_one (ws_ret (we_makeN0 (gR := gvP [0, 4, 3, 2, 1]) Kb (gr_P _) hr g_Calendar_f_L_cal pass0 hE (wk_cons (we_ix ix_seq (we_var 2 r2_f_L_cal rfl (we_int (opw_of (opv_ix_l sub_lt rfl) ?_)))))))
        refine wk_cons (we_ix ix_seq (we_var 2 r2_f_L_cal rfl (we_int (opw_of (opv_ix_l sub_lt rfl) ?_))))
        refine wk_cons (we_ix ix_seq (we_var 2 r2_f_L_cal rfl (we_int (opw_of (opv_ix_l sub_lt rfl) ?_))))
        refine wk_cons (we_ix ix_seq (we_var 2 r2_f_L_cal rfl (we_int (opw_of (opv_ix_l sub_lt rfl) (wk_nil ⟨rfl, fun p hp hpE => ?_⟩)))))
        exact ck_CalP Sub.rfl Sub.rfl Sub.rfl Sub.rfl hc ⟨(), _, trivial, Sub.rfl, .cons .here OSub.rfl .nil⟩
theorem ok_L_share_text {f : Addr} {fd : FuncData} (F : FdD K "_law_share_text" "_law_share_text" s_f_L_share_text [] f fd) (B : BltT K mg CC CS) : FnOk P w K mg base CX0 1 f fd (N_f_L_share_text.take 1) (conSp con_L_text) := by
  refine fn_conD con_L_text F sc_f_L_share_text (fun _ => rfl) fun cd A outer s H EE G (q : Rat) hp hr hE => ?_
  have z : Sz 1000 q := hp
  have l1 := lg_of z.num (by decide)
  have l2 := lg_of z.den (by decide)
  have t1 := itx_len l1
  have t2 := itx_len l2
  have ls : ("/" : Str).length = 1 := by decide +kernel
  refine wss_cons (ws_if (wt_cmp (op_eqD hr.units) (nomark _) (we_ix ix_seq (we_var 0 r0_f_L_share_text rfl (we_int (opw_of (opv_ix_t sub_tt rfl) (we_int ?_)))))))
  refine opw_of (opv_eq isD_i isD_i shaped_i shaped_i) ⟨_, Sub.rfl, fun hk => ?one, fun hk => wss_nil ?_⟩
  case one =>
    rw [eqv_ii] at hk
    have hk : (q.den : Int) = 1 := by simpa using hk
    refine wss_one (ws_ret (we_strI g_str_f_L_share_text B.str (we_ix ix_seq (we_var 0 r0_f_L_share_text rfl (we_int (opw_of (opv_ix_t sub_tt rfl) ⟨_, Sub.rfl, l1, (), [], trivial, ?_, .nil⟩))))))
    show Sub (RS (itx q.num)) (RS (shT q))
    unfold shT
    rw [if_pos hk]
    exact Sub.rfl
  rw [eqv_ii] at hk
  have hk : ¬ (q.den : Int) = 1 := by simpa using hk
  refine wss_one (ws_ret (we_bin op_addU (we_bin op_addU (we_strI g_str_f_L_share_text B.str (we_ix ix_seq (we_var 0 r0_f_L_share_text rfl (we_int (opw_of (opv_ix_t sub_tt rfl) ⟨_, Sub.rfl, l1, ?_⟩))))))))
  refine we_str (opw_of (opv_add_s (i := itx q.num) (by omega)) (we_strI g_str_f_L_share_text B.str (we_ix ix_seq (we_var 0 r0_f_L_share_text rfl (we_int (opw_of (opv_ix_t sub_tt rfl) ⟨_, Sub.rfl, l2, ?_⟩))))))
  refine opw_of (opv_add_s (i := itx q.num ++ "/") (j := itx (q.den : Int)) (by rw [Str.length_append]; omega)) ⟨(), [], trivial, ?_, .nil⟩
  show Sub (RS (itx q.num ++ "/" ++ itx (q.den : Int))) (RS (shT q))
  unfold shT
  rw [if_neg hk]
  exact Sub.rfl
theorem ok_L_lines {f : Addr} {fd : FuncData} (F : FdD K "_law_lines" "_law_lines" s_f_L_lines [] f fd) (B : BltT K mg CC CS) (Tx : Kn P w K mg base 1 "_law_share_text" [] con_L_text) : FnOk P w K mg base CX0 2 f fd (N_f_L_lines.take 1) (conSp con_L_lines) := by
  refine fn_conD con_L_lines F sc_f_L_lines (fun _ => rfl) fun cd A outer s H EE G (c : Cal) hp hr hE => ?_
  have hc : CalOk c := hp
  have hz := calL_sz hc
  refine wss_cons (ws_set 1 w1_f_L_lines (we_lst (wa_cons (we_str (wa_cons (we_str (wa_cons (we_str (wa_cons (we_str (wa_nil ⟨by show 4 ≤ 100000; decide, ?_⟩))))))))))) 
  refine wss_one (ws_ret (we_freeze (we_lc (t := gTup K 2 (gNames [2, 3])) (own := [("_law_word", 2), ("_law_one", 3)]) rfl sc_f_L_lines.nd (pi_zipM g_zip_f_L_lines B.zip pa_w) (blkOk_by ?ok2) ?hg2 hE ?src2)))
  case ok2 =>
    show blkC N_f_L_lines (defScope s_f_L_lines) _ _ = true
    decide +kernel
  case hg2 =>
    intro s H C cl fp
    exact pg_tup (n := 2) (t := gNames [2, 3]) rfl (pgs_cons (pg_name sc_f_L_lines.nd rfl (.inl rfl)) (pgs_cons (pg_name sc_f_L_lines.nd rfl (.inl rfl)) pgs_nil))
  case src2 =>
    refine src_zipM (wa_cons (we_var 1 r1_f_L_lines rfl (wa_cons (we_var 0 r0_f_L_lines rfl (wa_nil ⟨(["month ", "year ", "moon ", "mark "] : List Str).map RS, (calL c).map RF, .cons sub_lt (.cons sub_tt .nil), ?_⟩)))))
    refine ⟨fun i o M => M = [] ∧ o = ((rowsT (prs c)).take i).map RS, ⟨rfl, rfl⟩, ?turn2, ?done2⟩
    case turn2 =>
      rintro i ρ o M1 D2 hi ⟨ρ1, ρ2, h1, h2, rfl⟩ ⟨rfl, rfl⟩
      rw [List.getElem?_map] at h1 h2
      obtain ⟨wd, hw, rfl⟩ := Option.map_eq_some_iff.mp h1
      obtain ⟨q, hq, rfl⟩ := Option.map_eq_some_iff.mp h2
      have zq := hz q (List.mem_of_getElem? hq)
      have qq := shT_len zq (by decide)
      have i4 : i < 4 := hi
      have both : wd.length ≤ 6 ∧ (rowsT (prs c))[i]? = some (wd ++ shT q) := by
        have hq : [c.month, c.year, c.moon, c.mark][i]? = some q := hq
        have e1 : ("month " : Str) = "month" ++ " " := by decide +kernel
        have e2 : ("year " : Str) = "year" ++ " " := by decide +kernel
        have e3 : ("moon " : Str) = "moon" ++ " " := by decide +kernel
        have e4 : ("mark " : Str) = "mark" ++ " " := by decide +kernel
        match i, i4, hw, hq with
        | 0, _, hw, hq =>
          cases hw
          cases hq
          exact ⟨by decide +kernel, by rw [e1]; rfl⟩
        | 1, _, hw, hq =>
          cases hw
          cases hq
          exact ⟨by decide +kernel, by rw [e2]; rfl⟩
        | 2, _, hw, hq =>
          cases hw
          cases hq
          exact ⟨by decide +kernel, by rw [e3]; rfl⟩
        | 3, _, hw, hq =>
          cases hw
          cases hq
          exact ⟨by decide +kernel, by rw [e4]; rfl⟩
      obtain ⟨wl, row⟩ := both
      refine ⟨setAll [2, 3] [RS wd, RF q], blkT_tup (is := [2, 3]) (by decide) rfl sub_tt, fun s H0 C cl fp => ?_⟩
      refine we_bin op_addU (we_var 2 ?r2 rfl (we_call Tx hr ?g1 pass0 (wa_cons (we_var 3 ?r3 rfl (wa_nil (ck_L_text (q := q) Sub.rfl (zq.mono (by decide)) ?_))))))
      case g1 => rfl
      case r2 => exact ⟨rfl, by first | exact .inl rfl | exact .inr (.inl rfl), by decide, by decide⟩
      case r3 => exact ⟨rfl, by first | exact .inl rfl | exact .inr (.inl rfl), by decide, by decide⟩
      refine opw_of (opv_add_s (i := wd) (j := shT q) (by omega)) ⟨[], RS (wd ++ shT q), rfl, Sub.rfl, ?len2, rfl, ?tk2⟩
      case len2 =>
        rw [List.length_map, List.length_take]
        omega
      case tk2 => rw [List.take_add_one, row, List.map_append]; rfl
    case done2 =>
      rintro D2 o M1 hD2 hM ⟨rfl, rfl⟩
      exact ⟨D2, _, [], Sub.rfl, .here, hD2, (), [], trivial, Sub.rfl, .nil⟩
theorem ok_L_turned {f : Addr} {fd : FuncData} (F : FdD K "_law_turned" "_law_turned" s_f_L_turned [] f fd) (B : BltT K mg CC CS) (Nx : Kn P w K mg base 1 "_law_next" [] con_L_next) : FnOk P w K mg base CX0 2 f fd (N_f_L_turned.take 2) (conSp con_L_turned) := by
  refine fn_conD con_L_turned F sc_f_L_turned (fun _ => rfl) fun cd A outer s H EE G i hp hr hE => ?_
  obtain ⟨p, n, c⟩ := i
  have hn : n ≤ 10000000 := hp
  refine wss_cons (ws_set 2 w2_f_L_turned (we_lstO (wa_nil ⟨by show 0 ≤ 100000; decide, fun l hl hlE => ?_⟩) hE))
  refine wss_swap ?_
  refine wss_cut (fun Γ M => ∃ (L : List (Str × Rat)) (x3 : Option Rep), L.Perm (prs c) ∧ Γ = [some (RRef p), some (RLt ((rowsT (prs c)).map RS)), some (RRef l), x3] ∧ M = [(p, ODr (n + 4)), (l, OL ((rowsT L).map RS))]) (ws_for_list PassesOwn.never rfl (we_var 1 r1_f_L_turned rfl ⟨_, sub_lt, ?loop⟩)) ?rest
  case rest =>
    rintro Γ M ⟨L, x3, hL, rfl, rfl⟩
    exact wss_one (ws_ret (we_freeze (we_var 2 r2_f_L_turned rfl ⟨l, _, _, Sub.rfl, .there .here, hlE, L, [], hL, Sub.rfl, .cons .here OSub.rfl .nil⟩)))
  case loop =>
    refine ⟨fun i Γ M => ∃ (L : List (Str × Rat)) (x3 : Option Rep), L.Perm ((prs c).take i) ∧ Γ = [some (RRef p), some (RLt ((rowsT (prs c)).map RS)), some (RRef l), x3] ∧ M = [(p, ODr (n + i)), (l, OL ((rowsT L).map RS))], ⟨[], none, List.Perm.refl _, rfl, rfl⟩, ?turn, ?done⟩
    case done =>
      rintro Γ M ⟨L, x3, hL, rfl, rfl⟩
      exact ⟨L, x3, hL, rfl, rfl⟩
    case turn =>
      rintro i ρ Γ M hi hρ ⟨L, x3, hL, rfl, rfl⟩
      have i4 : i < 4 := hi
      unfold rowsT at hρ
      rw [List.getElem?_map, List.getElem?_map] at hρ
      obtain ⟨row, hrow, rfl⟩ := Option.map_eq_some_iff.mp hρ
      obtain ⟨pr, hpr, rfl⟩ := Option.map_eq_some_iff.mp hrow
      have ll : L.length ≤ 4 := by
        rw [hL.length_eq, List.length_take]
        omega
      have hlen : ((rowsT L).map RS).length = L.length := by
        unfold rowsT
        rw [List.length_map, List.length_map]
      refine wg_name 3 w3_f_L_turned ?_
      refine wss_one (ws_expr (we_bm PySem.F.plainAttrs_list PySem.F.slot_list_insert PySem.F.type_list_insert mt_insR (we_var 2 r2_f_L_turned rfl ⟨tyw_listO Sub.rfl (.there .here), ?args⟩)))
      refine wa_cons (we_bin op_modN (we_call Nx hr g__law_next_f_L_turned pass0 (wa_cons (we_var 0 r0_f_L_turned rfl (wa_nil (ck_L_next Sub.rfl .here (by omega) fun x hx => ?_))))))
      obtain ⟨x0, x1⟩ := hx
      refine we_bin op_addU (we_callB call_len_seq g_len_f_L_turned B.len (by decide +kernel) (wa_cons (we_var 2 r2_f_L_turned rfl (wa_nil (caw_lenO Sub.rfl (.there .here) (we_int (opw_of opv_add_i ?_)))))))
      rw [hlen]
      refine opw_of (opv_mod_i (by omega)) (wa_cons (we_var 3 r3_f_L_turned rfl (wa_nil ?_)))
      have j0 : 0 ≤ x % ((L.length : Int) + 1) := Int.emod_nonneg _ (by omega)
      have j1 : x % ((L.length : Int) + 1) < (L.length : Int) + 1 := Int.emod_lt_of_pos _ (by omega)
      refine mtw_ins Sub.rfl Sub.rfl (.there .here) (by rw [hlen]; omega) j0 (by omega) ?_
      generalize (x % ((L.length : Int) + 1)).toNat = j
      refine ⟨L.take j ++ [pr] ++ L.drop j, _, ?perm, rfl, ?same⟩
      case perm =>
        rw [List.take_add_one, hpr]
        exact perm_put hL j
      case same =>
        have e : (rowsT (L.take j ++ [pr] ++ L.drop j)).map RS = ((rowsT L).map RS).take j ++ [RS (rwT pr.1 pr.2)] ++ ((rowsT L).map RS).drop j := by
          unfold rowsT
          simp only [List.map_append, List.map_take, List.map_drop]
          rfl
        rw [e]
        rfl
theorem ok_L_plain {f : Addr} {fd : FuncData} (F : FdD K "_law_plain" "_law_plain" s_f_L_plain [] f fd) (B : BltT K mg CC CS) (S : ShM P w K mg base CS) : FnOk P w K mg base CX0 4 f fd (N_f_L_plain.take 1) (conSp (con_L_plain CS)) := by
  refine fn_conD (con_L_plain CS) F sc_f_L_plain (fun _ => rfl) fun cd A outer s H EE G (q : Rat) hp hr hE => ?_
  have z : Sz 200 q := hp
  have e0 := rt_self q
  refine wss_one (ws_ret (we_ix ix_seq (we_lst2 (we_make S.mk2 hr g_Share_f_L_plain pass0 hE ?mk))))
  refine wa_cons (we_ix ix_seq (we_var 0 r0_f_L_plain rfl (we_int (opw_of (opv_ix_t sub_tt rfl) ?_))))
  refine wa_cons (we_ix ix_seq (we_var 0 r0_f_L_plain rfl (we_int (opw_of (opv_ix_t sub_tt rfl) (wa_nil ?_)))))
  refine mk_Share Sub.rfl Sub.rfl (den_ne q) (z.num.mono (by decide)) (z.den.mono (by decide)) ?_
  rw [e0]
  refine we_ix ix_seq (we_var 0 r0_f_L_plain rfl (we_int (opw_of (opv_ix_t sub_tt rfl) ?_)))
  refine we_callTy call_int1 g_int_f_L_plain B.int (by decide +kernel) (wa_cons (we_cmp (op_eqD hr.units) (nomark _) (we_ix ix_seq (we_var 0 r0_f_L_plain rfl (we_int (opw_of (opv_ix_t sub_tt rfl) ?_))))))
  refine we_int (opw_of (opv_eq isD_i isD_i shaped_i shaped_i) (wa_nil (caw_of cav_int_b ?_)))
  rw [eqv_ii]
  by_cases h : (q.den : Int) = 1
  · rw [show ((q.den : Int) == 1) = true from beq_iff_eq.mpr h]
    refine opw_of (opv_ix_l (ρ := RI q.num) sub_lt rfl) ⟨.wh q.num, [], ?_, Sub.rfl, .nil⟩
    show ((q.num : Int) : Rat) = q
    refine rat_num_den (Rat.num_intCast _) ?_
    rw [Rat.den_intCast]
    exact h.symm
  · rw [show ((q.den : Int) == 1) = false from beq_eq_false_iff_ne.mpr h]
    exact opw_of (opv_ix_l (ρ := RSh CS q) sub_lt rfl) ⟨.sh q, [], rfl, Sub.rfl, .nil⟩
theorem isD_rf {K : PySem.W.Frag} {q : Rat} : IsD K (RF q) (.tuple [.int q.num, .int (q.den : Int)]) := isD_tt (isDs_cons isD_i (isDs_cons isD_i isDs_nil))
def dRows (l : List Rat) : PyData := .list (l.map fun q => .tuple [.int q.num, .int (q.den : Int)])
theorem isD_rows {K : PySem.W.Frag} {l : List Rat} : IsD K (RLt (l.map RF)) (dRows l) := isD_lt (isDs_map (fun _ => isD_rf) l)
theorem shaped_rows {c : Cal} : SeqAt.shaped (dRows (calL c)) = true := rfl
theorem eqv_rows {c : Cal} : PyData.eqv (dRows (calL c)) (dRows (calL c)) = true := by
  simp [dRows, calL, PyData.eqv, PyData.eqvAll]
theorem ok_L_is_it {f : Addr} {fd : FuncData} (F : FdD K "_law_is_it" "_law_is_it" s_f_L_is_it [] f fd) (B : BltT K mg CC CS) (SM : CalM P w K mg base CC CS) (SE : KnE P w K mg base 1 CS (con_Sh_eq CS)) (St : KnO P w K mg base 3 CC "__str__" (con_Cal_str CC CS)) (Rp : KnO P w K mg base 2 CC "__repr__" (con_Cal_repr CC CS)) (Ms : KnM P w K mg base 6 CC "start" [] (con_ci CC CS Cal.st)) (Md : KnM P w K mg base 6 CC "mark_day" [] (con_ci CC CS Cal.md)) (Ls : Kn P w K mg base 3 "_law_start" [] (con_Lci Cal.st)) (Ld : Kn P w K mg base 3 "_law_mark_day" [] (con_Lci Cal.md)) : FnOk P w K mg base CX0 7 f fd (N_f_L_is_it.take 3) (conSp (con_L_is CC CS)) := by
  refine fn_conD (con_L_is CC CS) F sc_f_L_is_it (fun _ => rfl) fun cd A outer s H EE G (c : Cal) hp hr hE => ?_
  have hc : CalOk c := hp
  have hz := calL_sz hc
  have hr1 := hr.mono (show 1 ≤ 6 by decide)
  have hr2 := hr.mono (show 2 ≤ 6 by decide)
  have hr3 := hr.mono (show 3 ≤ 6 by decide)
  have hr5 := hr.mono (show 5 ≤ 6 by decide)
  have TC := SM.CT
  have TS := SM.T
  have ls : ("Share(" : Str).length = 6 := by decide +kernel
  have lc : (", " : Str).length = 2 := by decide +kernel
  have lp : (")" : Str).length = 1 := by decide +kernel
  have lk : ("Calendar(" : Str).length = 9 := by decide +kernel
  have p1 := rpT_len hc.m (by decide)
  have p2 := rpT_len hc.y (by decide)
  have p3 := rpT_len hc.o (by decide)
  have p4 := rpT_len hc.k (by decide)
  refine wss_cons (ws_if (wt_bool (wp_or (wt_not (wt_val (we_callB call_isi g_isinstance_f_L_is_it B.isi (by decide +kernel) (wa_cons (we_var 0 r0_f_L_is_it rfl (wa_cons (we_glob (v := .ref CC) (ρ := RV (.ref CC)) g_Calendar_f_L_is_it B.mgC rfl (fun _ => rfl) (wa_nil ?_)))))))))))
  refine caw_of (cav_isi (tyIs_ins TC.ci) (.own CC) kit_self) ⟨_, Sub.rfl, fun _ => ?_, fun hk => absurd hk (by decide)⟩
  refine wp_or1 (wt_cmp (op_neD hr.units) (nomark _) (we_strO St hr5 g_str_f_L_is_it B.str pass0 (we_var 0 r0_f_L_is_it rfl ⟨⟨_, Sub.rfl⟩, ck_Cal_str Sub.rfl hc ⟨⟨_, Sub.rfl⟩, ?_⟩⟩)))
  refine we_var 2 r2_f_L_is_it rfl (opw_of (opv_ne isD_s isD_s (shaped_so calT_ok) (shaped_so (s := calT c) calT_ok)) ⟨_, Sub.rfl, fun hk => ?bad1, fun _ => wss_nil ?_⟩)
  case bad1 =>
    have hk : (!PyData.eqv (.str (calT c)) (.str (calT c))) = true := hk
    rw [eqv_sr] at hk
    cases hk
  refine wss_cons (ws_set 3 w3_f_L_is_it (we_lst (wa_cons (we_fld (we_var 0 r0_f_L_is_it rfl ⟨_, hasF_month TC, wa_cons (we_fld (we_var 0 r0_f_L_is_it rfl ⟨_, hasF_year TC, ?_⟩))⟩)))))
  refine wa_cons (we_fld (we_var 0 r0_f_L_is_it rfl ⟨_, hasF_moon TC, wa_cons (we_fld (we_var 0 r0_f_L_is_it rfl ⟨_, hasF_mark TC, wa_nil ⟨by show 4 ≤ 100000; decide, ?_⟩⟩))⟩))
  have e9 : RLt [RSh CS c.month, RSh CS c.year, RSh CS c.moon, RSh CS c.mark] = RLt ((calL c).map (RSh CS)) := rfl
  rw [e9]
  refine wss_cons (ws_if (wt_bool (wp_or (wt_cmp (op_neD hr.units) (nomark _) (we_freeze (we_lc (t := gName 6) (own := [("_law_one", 6)]) rfl sc_f_L_is_it.nd (pi_list pe_w) (blkOk_by ?okA) ?hgA hE ?srcA))))))
  case okA =>
    show blkC N_f_L_is_it (defScope s_f_L_is_it) _ _ = true
    decide +kernel
  case hgA =>
    intro s H C cl fp
    exact pg_name sc_f_L_is_it.nd rfl (.inl rfl)
  case srcA =>
    refine src_list (we_var 3 r3_f_L_is_it rfl ⟨_, sub_lt, fun j o M' => M' = [] ∧ o = ((calL c).take j).map RF, ⟨rfl, rfl⟩, ?turnA, ?doneA⟩)
    case turnA =>
      rintro j ρ o M6 D6 hj hρ ⟨rfl, rfl⟩
      have hj : j < 4 := hj
      rw [List.getElem?_map] at hρ
      obtain ⟨q, hq, rfl⟩ := Option.map_eq_some_iff.mp hρ
      refine ⟨fun Γ => Γ.set 6 (some (RSh CS q)), blkT_name 6 (by decide), fun s H0 C cl fp => ?_⟩
      refine we_tup (wa_cons (we_fld (we_var 6 ?r6a rfl ⟨_, hasF_top TS, wa_cons (we_fld (we_var 6 ?r6b rfl ⟨_, hasF_bot TS, wa_nil ⟨by show 2 ≤ 100000; decide, ?_⟩⟩))⟩)))
      case r6a => exact ⟨rfl, by first | exact .inl rfl | exact .inr (.inl rfl), by decide, by decide⟩
      case r6b => exact ⟨rfl, by first | exact .inl rfl | exact .inr (.inl rfl), by decide, by decide⟩
      refine ⟨_, RF q, rfl, Sub.rfl, ?lenA, rfl, ?tkA⟩
      case lenA =>
        rw [List.length_map, List.length_take]
        omega
      case tkA =>
        rw [List.take_add_one, hq, List.map_append]
        rfl
    case doneA =>
      rintro D6 o M6 hD6 hM6 ⟨rfl, rfl⟩
      have et : (calL c).take ((calL c).map (RSh CS)).length = calL c := rfl
      rw [et]
      refine ⟨D6, _, _, Sub.rfl, .here, hD6, we_freeze (we_callTy call_list_of g_list_f_L_is_it B.lst (by decide +kernel) (wa_cons (we_var 1 r1_f_L_is_it rfl (wa_nil (caw_listT hE fun l hl hlE => ⟨l, _, _, Sub.rfl, .here, hlE, ?_⟩)))))⟩
      refine opw_of (opv_ne isD_rows (isD_rows (l := calL c)) shaped_rows shaped_rows) ⟨_, Sub.rfl, fun _ => ?_, fun hk => ?bad2⟩
      case bad2 =>
        rw [eqv_rows] at hk
        cases hk
      refine wp_or1 (wt_cmp (op_neL SE sh_eqTrue hr2 pass0) (nomark _) (we_var 3 r3_f_L_is_it rfl (we_freeze (we_lc (t := gName 6) (own := [("_law_one", 6)]) rfl sc_f_L_is_it.nd (pi_tup pe_w) (blkOk_by ?okB) ?hgB hE ?srcB))))
      case okB =>
        show blkC N_f_L_is_it (defScope s_f_L_is_it) _ _ = true
        decide +kernel
      case hgB =>
        intro s H C cl fp
        exact pg_name sc_f_L_is_it.nd rfl (.inl rfl)
      case srcB =>
        refine src_tup (we_var 1 r1_f_L_is_it rfl ⟨(calL c).map RF, sub_tt, fun i o M => M = [] ∧ o = ((calL c).map (RSh CS)).take i, ⟨rfl, rfl⟩, ?turnB, ?doneB⟩)
        case turnB =>
          rintro i ρ o M1 D hi he ⟨rfl, rfl⟩
          rw [List.getElem?_map] at he
          obtain ⟨q, hq, rfl⟩ := Option.map_eq_some_iff.mp he
          have zq : Sz 200 q := hz q (List.mem_of_getElem? hq)
          refine ⟨fun Γ => Γ.set 6 (some (RF q)), blkT_name 6 (by decide), fun s H0 C cl fp => ?_⟩
          refine we_make SM.mk2 hr3 ?gB1 pass0 hE (wa_cons (we_ix ix_seq (we_var 6 ?rBa rfl (we_int (opw_of (opv_ix_t sub_tt rfl) (wa_cons (we_ix ix_seq (we_var 6 ?rBb rfl (we_int (opw_of (opv_ix_t sub_tt rfl) (wa_nil ?mkB)))))))))))
          case gB1 => rfl
          case rBa => exact ⟨rfl, by first | exact .inl rfl | exact .inr (.inl rfl), by decide, by decide⟩
          case rBb => exact ⟨rfl, by first | exact .inl rfl | exact .inr (.inl rfl), by decide, by decide⟩
          refine mk_Share Sub.rfl Sub.rfl (den_ne q) (zq.num.mono (by decide)) (zq.den.mono (by decide)) ⟨[], RSh CS (rt q.num q.den), rfl, Sub.rfl, ?lenB, rfl, ?tkB⟩
          case lenB =>
            rw [List.length_take]
            have : i < 4 := hi
            omega
          case tkB => rw [rt_self, List.take_add_one, List.getElem?_map, hq]; rfl
        case doneB =>
          rintro D o M1 hD hM ⟨rfl, rfl⟩
          have keyB : List.take ((calL c).map RF).length ((calL c).map (RSh CS)) = (calL c).map (RSh CS) := rfl
          rw [keyB]
          refine ⟨D, _, _, Sub.rfl, .here, hD, opw_neL Sub.rfl Sub.rfl (prC_sh (calL c)) ⟨false, Sub.rfl, fun hk => (by cases hk), fun _ => wss_nil ?_⟩⟩
          -- the words
          refine wss_cons (ws_setLc (t := gName 6) (own := [("_law_one", 6)]) 4 rfl sc_f_L_is_it.nd rfl rfl ?hswC (pi_tup pe_w) (blkOk_by ?okC) ?hgC hE ?srcC)
          case hswC => rfl
          case okC =>
            show blkC N_f_L_is_it (defScope s_f_L_is_it) _ _ = true
            decide +kernel
          case hgC =>
            intro s H C cl fp
            exact pg_name sc_f_L_is_it.nd rfl (.inl rfl)
          case srcC =>
            refine src_tup (we_var 1 r1_f_L_is_it rfl ⟨(calL c).map RF, sub_tt, fun i o M => M = [] ∧ o = (((calL c).map rpT).take i).map RS, ⟨rfl, rfl⟩, ?turnC, ?doneC⟩)
            case turnC =>
              rintro i ρ o M1 D hi he ⟨rfl, rfl⟩
              rw [List.getElem?_map] at he
              obtain ⟨q, hq, rfl⟩ := Option.map_eq_some_iff.mp he
              have zq := hz q (List.mem_of_getElem? hq)
              have l1 := lg_of zq.num (by decide)
              have l2 := lg_of zq.den (by decide)
              have t1 := itx_len l1
              have t2 := itx_len l2
              refine ⟨fun Γ => Γ.set 6 (some (RF q)), blkT_name 6 (by decide), fun s H0 C cl fp => ?_⟩
              refine we_bin op_addU (we_bin op_addU (we_bin op_addU (we_bin op_addU (we_str (we_strI ?gC1 B.str (we_ix ix_seq (we_var 6 ?rCa rfl (we_int (opw_of (opv_ix_t sub_tt rfl) ⟨_, Sub.rfl, l1, ?_⟩)))))))))
              case gC1 => rfl
              case rCa => exact ⟨rfl, by first | exact .inl rfl | exact .inr (.inl rfl), by decide, by decide⟩
              refine opw_of (opv_add_s (i := "Share(") (j := itx q.num) (by omega)) (we_str (opw_of (opv_add_s (i := "Share(" ++ itx q.num) (j := ", ") (by rw [Str.length_append]; omega)) ?_))
              refine we_strI ?gC2 B.str (we_ix ix_seq (we_var 6 ?rCb rfl (we_int (opw_of (opv_ix_t sub_tt rfl) ⟨_, Sub.rfl, l2, ?_⟩))))
              case gC2 => rfl
              case rCb => exact ⟨rfl, by first | exact .inl rfl | exact .inr (.inl rfl), by decide, by decide⟩
              refine opw_of (opv_add_s (i := "Share(" ++ itx q.num ++ ", ") (j := itx (q.den : Int)) (by rw [Str.length_append, Str.length_append]; omega)) (we_str ?_)
              refine opw_of (opv_add_s (i := "Share(" ++ itx q.num ++ ", " ++ itx (q.den : Int)) (j := ")") (by rw [Str.length_append, Str.length_append, Str.length_append]; omega)) ⟨[], RS (rpT q), rfl, Sub.rfl, ?lenC, rfl, ?tkC⟩
              case lenC =>
                rw [List.length_map, List.length_take]
                have : i < 4 := hi
                omega
              case tkC => rw [List.take_add_one, List.getElem?_map, hq, List.map_append]; rfl
            case doneC =>
              rintro D o M1 hD hM ⟨rfl, rfl⟩
              have keyC : (List.take ((calL c).map RF).length ((calL c).map rpT)).map RS = ((calL c).map rpT).map RS := rfl
              rw [keyC]
              refine wss_freeze 4 rfl .here hD ?_
              refine wss_cons (ws_if (wt_cmp (op_neD hr.units) (nomark _) (we_reprO Rp hr3 g_repr_f_L_is_it B.repr pass0 (we_var 0 r0_f_L_is_it rfl ⟨⟨_, Sub.rfl⟩, ck_Cal_repr Sub.rfl hc ⟨⟨_, Sub.rfl⟩, ?_⟩⟩))))
              refine we_bin op_addU (we_bin op_addU (we_str (we_bm PySem.F.plainAttrs_str PySem.F.slot_str_join PySem.F.type_str_join mt_join (we_str ⟨tyw_str, wa_cons (we_var 4 r4_f_L_is_it rfl (wa_nil ?_))⟩))))
              refine mtw_join (ys := (calL c).map rpT) ?len1 ?_
              case len1 =>
                show (rpT c.month).length + ((rpT c.year).length + ((rpT c.moon).length + ((rpT c.mark).length + 0))) + 4 * (", " : Str).length ≤ 16777216
                omega
              have jl : (Txt.join ", " ((calL c).map rpT)).length ≤ 20000 := by
                show (Txt.join ", " [rpT c.month, rpT c.year, rpT c.moon, rpT c.mark]).length ≤ 20000
                rw [join4]
                simp only [Str.length_append, lc]
                omega
              refine opw_of (opv_add_s (i := "Calendar(") (by omega)) (we_str (opw_of (opv_add_s (by rw [Str.length_append]; omega)) ?_))
              rw [← calRp_rows]
              refine opw_of (opv_ne isD_s isD_s (shaped_so calRp_ok) (shaped_so (s := calRp c) calRp_ok)) ⟨_, Sub.rfl, fun hk => ?bad3, fun _ => wss_nil ?_⟩
              case bad3 =>
                have hk : (!PyData.eqv (.str (calRp c)) (.str (calRp c))) = true := hk
                rw [eqv_sr] at hk
                cases hk
              -- first days
              refine wss_cut (fun _ _ => True) (ws_for_list PassesOwn.never rfl (we_lst (wa_cons (we_int (wa_cons (we_int (wa_cons (we_negI (we_int ⟨Sub.rfl, ?five⟩))))))))) ?restD
              case restD =>
                rintro Γ M -
                exact wss_one (ws_ret (we_bl ⟨(), _, trivial, Sub.rfl, .nil⟩))
              case five =>
                refine wa_cons (we_int (wa_cons (we_negI (we_int ⟨Sub.rfl, wa_nil ⟨by show 5 ≤ 100000; decide, [RI 0, RI 1, RI (-1), RI 100, RI (-100)], sub_lt, ?loopD⟩⟩))))
                refine ⟨fun _ Γ M => ∃ x5, Γ = [some (RCal CC CS c), some (RCf c), some (RS (calT c)), some (RLt ((calL c).map (RSh CS))), some (RLt (((calL c).map rpT).map RS)), x5, none] ∧ M = [], ⟨none, rfl, rfl⟩, ?turnD, fun _ _ _ => trivial⟩
                rintro i ρ Γ M hi hρ ⟨x5, rfl, rfl⟩
                obtain ⟨k, rfl, zk⟩ := five_small hρ
                refine wg_name 5 w5_f_L_is_it ?_
                refine wss_one (ws_if (wt_bool (wp_or (wt_cmp (op_neD hr.units) (nomark _) (we_meth Ms hr pass0 (we_var 0 r0_f_L_is_it rfl ⟨hasI_cal (by decide +kernel), wa_cons (we_var 5 r5_f_L_is_it rfl (wa_nil (ck_ci Sub.rfl Sub.rfl hc (zk.mono (by decide)) ?_)))⟩))))))
                refine we_call Ls hr3 g__law_start_f_L_is_it pass0 (wa_cons (we_var 1 r1_f_L_is_it rfl (wa_cons (we_var 5 r5_f_L_is_it rfl (wa_nil (ck_Lci Sub.rfl Sub.rfl hc (zk.mono (by decide)) ?_))))))
                refine opw_of (opv_ne isD_i isD_i shaped_i shaped_i) ⟨_, Sub.rfl, fun _ => ?_, fun hk => ?bad4⟩
                case bad4 =>
                  rw [eqv_ii] at hk
                  simp at hk
                refine wp_or1 (wt_cmp (op_neD hr.units) (nomark _) (we_meth Md hr pass0 (we_var 0 r0_f_L_is_it rfl ⟨hasI_cal (by decide +kernel), wa_cons (we_var 5 r5_f_L_is_it rfl (wa_nil (ck_ci Sub.rfl Sub.rfl hc (zk.mono (by decide)) ?_)))⟩)))
                refine we_call Ld hr3 g__law_mark_day_f_L_is_it pass0 (wa_cons (we_var 1 r1_f_L_is_it rfl (wa_cons (we_var 5 r5_f_L_is_it rfl (wa_nil (ck_Lci Sub.rfl Sub.rfl hc (zk.mono (by decide)) ?_))))))
                refine opw_of (opv_ne isD_i isD_i shaped_i shaped_i) ⟨_, Sub.rfl, fun hk => ?bad5, fun _ => wss_nil ⟨_, rfl, rfl⟩⟩
                case bad5 =>
                  rw [eqv_ii] at hk
                  simp at hk
theorem ok_L_right {f : Addr} {fd : FuncData} (F : FdD K "_law_right" "_law_right" s_f_L_right [] f fd) (B : BltT K mg CC CS) (L : LawB P w K mg base) (Cl : Kn P w K mg base 10 "_law_cal" [] (con_L_cal CC CS)) (Li : Kn P w K mg base 2 "_law_lines" [] con_L_lines) (Tu : Kn P w K mg base 2 "_law_turned" [] con_L_turned) (Is : Kn P w K mg base 7 "_law_is_it" [] (con_L_is CC CS)) (Pn : Kn P w K mg base 4 "_law_plain" [] (con_L_plain CS)) (C4 : KnC P w K mg base 8 "Calendar" CC [] (con_Cal_init CC CS)) (EQ : KnN P w K mg base 8 CC (con_Cal_eqB CC CS)) (Rd : Kn P w K mg base 10 "read_calendar" [] (con_read CC CS)) (RdK : KnK P w K mg base 10 "read_calendar" 0 ["text"] (gvP [0]) (con_read CC CS)) : FnOk P w K mg base CX0 11 f fd (N_f_L_right.take 1) (conSp con_L_rt) := by
  refine fn_conD con_L_rt F sc_f_L_right (fun _ => rfl) fun cd A outer s H EE G (p : Addr) hp hr hE => ?_
  have hr1 := hr.mono (show 1 ≤ 10 by decide)
  have hr2 := hr.mono (show 2 ≤ 10 by decide)
  have hr3 := hr.mono (show 3 ≤ 10 by decide)
  have hr4 := hr.mono (show 4 ≤ 10 by decide)
  have hr7 := hr.mono (show 7 ≤ 10 by decide)
  have hr9 := hr.mono (show 9 ≤ 10 by decide)
  have ln : ("\n" : Str).length = 1 := by decide +kernel
  refine wss_cons (ws_set 1 w1_f_L_right (we_call L.four hr4 g__law_four_f_L_right pass0 (wa_cons (we_var 0 r0_f_L_right rfl (wa_nil (ck_L_four Sub.rfl .here (by decide) fun c hc _ => ?_))))))
  have hz := calL_sz hc
  have one : ∀ {M : Ow} {Φ : Rep → Ow → Prop} {i : Int} {q : Rat}, atI [RF c.month, RF c.year, RF c.moon, RF c.mark] i = some (RF q) → Φ (RF q) M → OpW ⟨G, H, [p]⟩ [some (RRef p), some (RCf c)] M (rIx K) (RCf c) (RI i) Φ := fun h k => opw_of (opv_ix_t sub_tt h) k
  clear one
  have joins : ∀ {Ls : List (Str × Rat)}, Ls.Perm (prs c) → ((rowsT Ls).map (·.length)).sum + (rowsT Ls).length * ("\n" : Str).length ≤ 16777216 := fun {Ls} h => by
    have a := sum_le (row_len hc h)
    rw [rows_len h] at a ⊢
    omega
  refine wss_cons (ws_set 2 w2_f_L_right (we_call Cl hr g__law_cal_f_L_right pass0 (wa_cons (we_var 0 r0_f_L_right rfl (wa_cons (we_var 1 r1_f_L_right rfl (wa_nil (ck_L_cal Sub.rfl Sub.rfl .here (by decide) hc ?_))))))))
  refine wss_cons (ws_set 3 w3_f_L_right (we_call Li hr2 g__law_lines_f_L_right pass0 (wa_cons (we_var 1 r1_f_L_right rfl (wa_nil (ck_L_lines Sub.rfl hc ?_))))))
  refine wss_cons (ws_set 4 w4_f_L_right (we_bm PySem.F.plainAttrs_str PySem.F.slot_str_join PySem.F.type_str_join mt_join (we_str ⟨tyw_str, wa_cons (we_var 3 r3_f_L_right rfl (wa_nil (mtw_join (joins (List.Perm.refl _)) ?_)))⟩)))
  rw [← calT_rows]
  refine wss_cons (ws_set 5 w5_f_L_right (we_make C4 hr9 g_Calendar_f_L_right pass0 hE (wa_cons (we_call Pn hr4 g__law_plain_f_L_right pass0 (wa_cons (we_ix ix_seq (we_var 1 r1_f_L_right rfl (we_int (opw_of (opv_ix_t (ρs := [RF c.month, RF c.year, RF c.moon, RF c.mark]) sub_tt rfl) ?_)))))))))
  refine wa_nil (ck_L_plain Sub.rfl hc.m fun am hm => ?_)
  refine wa_cons (we_call Pn hr4 g__law_plain_f_L_right pass0 (wa_cons (we_ix ix_seq (we_var 1 r1_f_L_right rfl (we_int (opw_of (opv_ix_t (ρs := [RF c.month, RF c.year, RF c.moon, RF c.mark]) sub_tt rfl) ?_))))))
  refine wa_nil (ck_L_plain Sub.rfl hc.y fun ay hy => ?_)
  refine wa_cons (we_call Pn hr4 g__law_plain_f_L_right pass0 (wa_cons (we_ix ix_seq (we_var 1 r1_f_L_right rfl (we_int (opw_of (opv_ix_t (ρs := [RF c.month, RF c.year, RF c.moon, RF c.mark]) sub_tt rfl) ?_))))))
  refine wa_nil (ck_L_plain Sub.rfl hc.o fun ao ho => ?_)
  refine wa_cons (we_call Pn hr4 g__law_plain_f_L_right pass0 (wa_cons (we_ix ix_seq (we_var 1 r1_f_L_right rfl (we_int (opw_of (opv_ix_t (ρs := [RF c.month, RF c.year, RF c.moon, RF c.mark]) sub_tt rfl) ?_))))))
  refine wa_nil (ck_L_plain Sub.rfl hc.k fun ak hk4 => wa_nil (mk_CalQ hm hy ho hk4 hc ?_))
  refine wss_cons (ws_if (wt_bool (wp_or (wt_not (wt_val (we_call Is hr7 g__law_is_it_f_L_right pass0 (wa_cons (we_var 2 r2_f_L_right rfl (wa_cons (we_var 1 r1_f_L_right rfl (wa_cons (we_var 4 r4_f_L_right rfl ?_))))))))))))
  refine wa_nil (ck_L_is Sub.rfl Sub.rfl Sub.rfl hc ⟨true, Sub.rfl, fun _ => ?_, fun hk => (by cases hk)⟩)
  refine wp_or (wt_not (wt_val (we_call Is hr7 g__law_is_it_f_L_right pass0 (wa_cons (we_var 5 r5_f_L_right rfl (wa_cons (we_var 1 r1_f_L_right rfl (wa_cons (we_var 4 r4_f_L_right rfl ?_)))))))))
  refine wa_nil (ck_L_is Sub.rfl Sub.rfl Sub.rfl hc ⟨true, Sub.rfl, fun _ => ?_, fun hk => (by cases hk)⟩)
  refine wp_or1 (wt_neO EQ hr9 pass0 (we_var 2 r2_f_L_right rfl (we_var 5 r5_f_L_right rfl ⟨⟨_, Sub.rfl⟩, ⟨_, Sub.rfl⟩, ck_Cal_eqB c c Sub.rfl Sub.rfl hc hc ⟨_, Sub.rfl, ?_⟩⟩)))
  rw [keptB_self]
  refine ⟨fun hk => (by cases hk), fun _ => wss_nil ?_⟩
  refine wss_cut (fun _ _ => True) (ws_for_range1 PassesOwn.never rfl g_range_f_L_right B.rng (wa_cons (we_int (wa_nil ⟨5, .cons Sub.rfl .nil, ⟨by decide, by decide⟩, ?loop⟩)))) ?rest
  case rest =>
    rintro Γ M -
    exact wss_one (ws_ret (we_bl ⟨(), _, trivial, Sub.rfl, .nil⟩))
  case loop =>
    refine ⟨fun i Γ M => ∃ x6 x7 x8 x9, Γ = [some (RRef p), some (RCf c), some (RCal CC CS c), some (RLt ((rowsT (prs c)).map RS)), some (RS (calT c)), some (RCal CC CS c), x6, x7, x8, x9] ∧ ∃ m, m ≤ 100 + 4 * i ∧ M = [(p, ODr m)], ⟨_, _, _, _, rfl, _, by decide, rfl⟩, ?turn, fun _ _ _ => trivial⟩
    rintro i ρ Γ M hi rfl ⟨x6, x7, x8, x9, rfl, m, hm1, rfl⟩
    have hi : i < 5 := hi
    refine wg_name 6 w6_f_L_right ?_
    refine wss_cons (ws_set 7 w7_f_L_right (we_bm PySem.F.plainAttrs_str PySem.F.slot_str_join PySem.F.type_str_join mt_join (we_str ⟨tyw_str, wa_cons (we_ix ix_seq (we_lst2 (we_var 3 r3_f_L_right rfl (we_turn (we_var 3 r3_f_L_right rfl ⟨_, sub_lt, ?_⟩))))) ⟩)))
    refine we_bin op_modN (we_var 6 r6_f_L_right rfl (we_int (opw_of (opv_mod_i (by decide)) (opw_pickR (by omega) (by show (i : Int) % 2 < 2; omega) fun ρ hρ => ?_))))
    have pick : ∃ Ls : List (Str × Rat), Ls.Perm (prs c) ∧ ρ = RLt ((rowsT Ls).map RS) := by
      rcases List.mem_cons.mp hρ with e | e
      · exact ⟨prs c, List.Perm.refl _, e⟩
      · rw [List.mem_singleton] at e
        refine ⟨(prs c).reverse, List.reverse_perm _, ?_⟩
        rw [e]
        rfl
    obtain ⟨Ls, hLs, rfl⟩ := pick
    refine wa_nil (mtw_join (joins hLs) ?_)
    refine wss_cut (fun Γ M => ∃ (Lt : List (Str × Rat)) (x7 : Option Rep) (m' : Nat), Lt.Perm (prs c) ∧ m' ≤ 100 + 4 * (i + 1) ∧ Γ = [some (RRef p), some (RCf c), some (RCal CC CS c), some (RLt ((rowsT (prs c)).map RS)), some (RS (calT c)), some (RCal CC CS c), some (RI (i : Int)), some (RS (Txt.join "\n" (rowsT Lt))), x8, x9] ∧ M = [(p, ODr m')]) (ws_if (wt_cmp op_gt (nomark _) (we_var 6 r6_f_L_right rfl (we_int (opw_of opv_gt_i ⟨_, Sub.rfl, fun _ => ?more, fun _ => wss_nil ⟨Ls, none, m, hLs, by omega, rfl, rfl⟩⟩))))) ?thenL
    case more =>
      refine wss_one (ws_set 7 w7_f_L_right (we_bm PySem.F.plainAttrs_str PySem.F.slot_str_join PySem.F.type_str_join mt_join (we_str ⟨tyw_str, wa_cons (we_call Tu hr2 g__law_turned_f_L_right pass0 (wa_cons (we_var 0 r0_f_L_right rfl (wa_cons (we_var 3 r3_f_L_right rfl ?_)))))⟩)))
      refine wa_nil (ck_L_turned Sub.rfl Sub.rfl .here (by omega) fun Lt hLt => wa_nil (mtw_join (joins hLt) ?_))
      exact ⟨Lt, none, _, hLt, by omega, rfl, rfl⟩
    case thenL =>
      rintro Γ M ⟨Lt, y7, m', hLt, hm', rfl, rfl⟩
      refine wss_cons (ws_set 8 w8_f_L_right (we_lst2 (we_call Rd hr g_read_calendar_f_L_right pass0 (wa_cons (we_var 7 r7_f_L_right rfl (wa_nil (ck_read Sub.rfl hc hLt ?_)))))))
      refine we_callN0 RdK (gr_P _) hr g_read_calendar_f_L_right pass0 (wk_cons (we_var 7 r7_f_L_right rfl (wk_nil ⟨rfl, ck_read Sub.rfl hc hLt ?_⟩)))
      refine wss_one ?_
      refine ws_for_list PassesOwn.never rfl (we_var 8 r8_f_L_right rfl ⟨[RCal CC CS c, RCal CC CS c], sub_lt, fun _ Γ M => ∃ x9, Γ = [some (RRef p), some (RCf c), some (RCal CC CS c), some (RLt ((rowsT (prs c)).map RS)), some (RS (calT c)), some (RCal CC CS c), some (RI (i : Int)), some (RS (Txt.join "\n" (rowsT Lt))), some (RLt [RCal CC CS c, RCal CC CS c]), x9] ∧ M = [(p, ODr m')], ⟨_, rfl, rfl⟩, ?turn2, ?done2⟩)
      case done2 =>
        rintro Γ M ⟨x9, rfl, rfl⟩
        exact ⟨_, _, _, _, rfl, m', hm', rfl⟩
      case turn2 =>
        rintro j ρ Γ M hj hρ ⟨x9, rfl, rfl⟩
        have hρ2 : ρ = RCal CC CS c := by
          have := List.mem_of_getElem? hρ
          simpa using this
        subst hρ2
        refine wg_name 9 w9_f_L_right ?_
        refine wss_one (ws_if (wt_bool (wp_or (wt_not (wt_val (we_call Is hr7 g__law_is_it_f_L_right pass0 (wa_cons (we_var 9 r9_f_L_right rfl (wa_cons (we_var 1 r1_f_L_right rfl (wa_cons (we_var 4 r4_f_L_right rfl ?_))))))))))))
        refine wa_nil (ck_L_is Sub.rfl Sub.rfl Sub.rfl hc ⟨true, Sub.rfl, fun _ => ?_, fun hk => (by cases hk)⟩)
        refine wp_or1 (wt_neO EQ hr9 pass0 (we_var 9 r9_f_L_right rfl (we_var 2 r2_f_L_right rfl ⟨⟨_, Sub.rfl⟩, ⟨_, Sub.rfl⟩, ck_Cal_eqB c c Sub.rfl Sub.rfl hc hc ⟨_, Sub.rfl, ?_⟩⟩)))
        rw [keptB_self]
        exact ⟨fun hk => (by cases hk), fun _ => wss_nil ⟨_, rfl, rfl⟩⟩
theorem ok_LAW {f : Addr} {fd : FuncData} (F : FdD K "law" "law" s_f_LAW [] f fd) (L : LawB P w K mg base) (Rg : Kn P w K mg base 11 "_law_right" [] con_L_rt) : FnOk P w K mg base CX0 12 f fd ["_law_script"] (conSp (con_law K)) := by
  refine fn_conD (con_law K) F sc_f_LAW (fun _ => rfl) fun cd A outer s H EE G (ns : List Int) hp hr hE => ?_
  have hp : ns.length ≤ 63 := hp
  have hr1 := hr.mono (show 1 ≤ 11 by decide)
  refine wss_cut (fun _ _ => True) (ws_for_list PassesOwn.never rfl (we_bin op_addU (we_slL (we_var 0 r0_f_LAW rfl ⟨_, Sub.rfl, wo_none (wo_some (we_int ⟨3, Sub.rfl, we_lst (wa_cons (we_int (wa_nil ⟨by show 1 ≤ 100000; decide, ?add⟩)))⟩))⟩)))) ?rest
  case rest =>
    rintro Γ M -
    exact wss_one (ws_ret (we_bl ⟨(), _, trivial, Sub.rfl, .nil⟩))
  case add =>
    refine opw_of (opv_add_l ?len) ⟨_, sub_lt, fun _ Γ _ => ∃ o1, Γ = [some (RL K (ns.map RI)), o1], ⟨none, rfl⟩, ?turn, fun _ _ _ => trivial⟩
    case len =>
      have h1 := cutL_len (l := ns.map RI) (lo := none) (hi := some 3)
      rw [List.length_map] at h1
      show (cutL (ns.map RI) none (some 3)).length + 1 ≤ 100000
      omega
    case turn =>
      rintro i ρ Γ M hi' hρ ⟨o1, rfl⟩
      obtain ⟨cell, rfl⟩ := cells_of hρ
      refine wg_name 1 w1_f_LAW ?_
      refine wss_one (ws_if (wt_not (wt_val (we_call Rg hr g__law_right_f_LAW pass0 (wa_cons (we_call L.draws hr1 g__law_draws_f_LAW pass0 ?dr))))))
      refine wa_cons (we_var 1 r1_f_LAW rfl (wa_nil (ck_L_draws Sub.rfl fun q => wa_nil (ck_L_rt Sub.rfl .here ⟨true, Sub.rfl, fun hk => absurd hk (by decide), fun _ => wss_nil ⟨_, rfl⟩⟩))))
end
end MM

namespace MM
open PySem L2 PyProof.Rows
def strV : List Value → Option (List Str)
  | [] => some []
  | .str x _ :: l => (strV l).map (x :: ·)
  | _ => none
theorem strV_vals : ∀ {us : List Value} {ss : List Str}, strV us = some ss → Vals (ss.map V.str) us
  | [], ss, h => by
    cases h
    exact .nil
  | .str x t :: us, ss, h => by
    unfold strV at h
    obtain ⟨r, hr, rfl⟩ := Option.map_eq_some_iff.mp h
    exact .cons ⟨t, rfl⟩ (strV_vals hr)
theorem gtup_mk {K : PySem.W.Frag} {n : Str} {a : Addr} {dd : Option Addr} {us : Array Value} {m : Nat} {sl : Array (Option Value)} {ss : List Str} (hf : PySem.W.nsIn K mainGlobals n = some (some (.ref a))) (he : K.lookup a = some ⟨.type "tuple", dd, .seq us m, sl⟩) (hz : us.size ≤ sizeLine) (hv : strV us.toList = some ss) : ∃ a, PySem.W.nsIn K mainGlobals n = some (some (.ref a)) ∧ GTup K a ss :=
  ⟨a, hf, _, us, m, he, rfl, rfl, hz, strV_vals hv⟩
structure TopL (K : PySem.W.Frag) (CC CS : Addr) : Prop where
  zN : PySem.W.nsIn K mainGlobals "int" = some none
  zS : PySem.W.nsIn K mainGlobals "str" = some none
  zR : PySem.W.nsIn K mainGlobals "repr" = some none
  zL : PySem.W.nsIn K mainGlobals "list" = some none
  zZ : PySem.W.nsIn K mainGlobals "zip" = some none
  zE : PySem.W.nsIn K mainGlobals "len" = some none
  mst : MetE K CC "start" "Calendar.start" s_Calendar_start []
  mmd : MetE K CC "mark_day" "Calendar.mark_day" s_Calendar_mark_day []
  shstr : MetE K CS "__str__" "Share.__str__" s_Share_str []
  shrep : MetE K CS "__repr__" "Share.__repr__" s_Share_repr []
  sheq : MetE K CS "__eq__" "Share.__eq__" s_Share_eq []
  shfm : PySem.W.findIn K (.ref CS) "__format__" = some (some (.builtin "object.__format__"))
  shob : PySem.W.mroIn K CS (.type "object") = some true
  castr : MetE K CC "__str__" "Calendar.__str__" s_Calendar_str []
  carep : MetE K CC "__repr__" "Calendar.__repr__" s_Calendar_repr []
  caeq : MetE K CC "__eq__" "Calendar.__eq__" s_Calendar_eq []
  cane : PySem.W.findIn K (.ref CC) "__ne__" = some (some (.builtin "object.__ne__"))
  caso : PySem.W.subIn K (.ref CC) (.type "object") = some true
  cak1 : PySem.W.isClsIn K CC = true
  cak2 : PySem.W.typeIn K (.ref CC) = some (.type "type")
  words : ∃ a, PySem.W.nsIn K mainGlobals "WORDS" = some (some (.ref a)) ∧ GTup K a wds
  lowd : DefE K "lowered" s_f_lowered []
  kf : DefE K "kept_form" s_f_kept_form []
  floor : DefE K "_law_floor" s_f_L_floor []
  start : DefE K "_law_start" s_f_L_start []
  mark_day : DefE K "_law_mark_day" s_f_L_mark_day []
  number_in : DefE K "number_in" s_f_number_in []
  share_in : DefE K "share_in" s_f_share_in []
  read_calendar : DefE K "read_calendar" s_f_read_calendar []
  cal : DefE K "_law_cal" s_f_L_cal []
  share_text : DefE K "_law_share_text" s_f_L_share_text []
  lines : DefE K "_law_lines" s_f_L_lines []
  turned : DefE K "_law_turned" s_f_L_turned []
  is_it : DefE K "_law_is_it" s_f_L_is_it []
  plain : DefE K "_law_plain" s_f_L_plain []
  right : DefE K "_law_right" s_f_L_right []
  law : DefE K "law" s_f_LAW []
section
variable {P : Program} {w : World} {K : PySem.W.Frag} {mg : Str → Option Value} {base h : Heap} {CS CC : Addr}
theorem all_mk {l : PySem.W.OpenLaw} {fa : Addr} (X : K.In h) (G : h.Ns mainGlobals mg) (hfa : mg "law" = some (.ref fa)) (S : TopS K CS) (C : TopC K CC) (D : TopB K) (L : TopL K CC CS) :
    ∃ fd : FuncData, (∀ (s : Shared) (v : Value), BindsTo s fd ⟨[v], []⟩ [("_law_script", v)]) ∧ ∀ base : Heap, K.In base → base.Ns mainGlobals mg → FnOk l.prog w K mg base CX0 12 fa fd ["_law_script"] (conSp (con_law K)) := by
  obtain ⟨f0, d0, a0, F0⟩ := L.law
  have e := hfa.symm.trans (PySem.W.mg_of X G a0)
  cases e
  refine ⟨d0, fun s v => F0.bindsA (ps := ["_law_script"]) (fun _ _ _ _ _ _ us hl => match us, hl with | [_], _ => rfl) s [v] rfl, fun base _ _ => ?_⟩
  have SG : ShG l.prog w K mg base CS := shG_of X G S
  have SM : CalM l.prog w K mg base CC CS := calM_of X G SG C
  have LB : LawB l.prog w K mg base := lawB_of X G (PySem.W.mg_none_of X G S.zA) D
  have CI := SM.CT.ci.cl
  obtain ⟨wa, wf, wg⟩ := L.words
  have BT : BltT K mg CC CS := ⟨PySem.W.mg_none_of X G L.zN, PySem.W.mg_none_of X G L.zS, PySem.W.mg_none_of X G L.zR, PySem.W.mg_none_of X G L.zL, PySem.W.mg_none_of X G L.zZ, PySem.W.mg_none_of X G L.zE, PySem.W.mg_none_of X G D.zR, PySem.W.mg_none_of X G S.zI, PySem.W.mg_of X G C.cls.at_, wa, PySem.W.mg_of X G wf, wg⟩
  obtain ⟨fs, ds, as, is, Fs⟩ := L.shstr
  obtain ⟨fr, dr, ar, ir, Fr⟩ := L.shrep
  obtain ⟨fe, de, ae, ie, Fe⟩ := L.sheq
  have CM : mg "Calendar" = some (.ref CC) := PySem.W.mg_of X G C.cls.at_
  have CX : CalX l.prog w K mg base CC CS := ⟨PySem.W.mg_none_of X G S.zI, CM, L.shfm, L.shob, ⟨fs, ds, _, as, is, Fs.bindsN (fun _ _ _ _ _ _ us hl => match us, hl with | [_], _ => rfl), ok_Sh_str Fs SG.T (PySem.W.mg_none_of X G L.zS)⟩, ⟨fr, dr, _, ar, ir, Fr.bindsN (fun _ _ _ _ _ _ us hl => match us, hl with | [_], _ => rfl), ok_Sh_repr Fr SG.T⟩, ⟨fe, de, _, ae, ie, Fe.bindsN (fun _ _ _ _ _ _ us hl => match us, hl with | [_, _], _ => rfl), ok_eqS Fe SG.T SG.mgS (PySem.W.mg_none_of X G S.zI)⟩⟩
  obtain ⟨fp, dp, ap, ip, Fp⟩ := L.castr
  have CSt : KnO l.prog w K mg base 3 CC "__str__" (con_Cal_str CC CS) := ⟨fp, dp, _, ap, ip, Fp.bindsN (fun _ _ _ _ _ _ us hl => match us, hl with | [_], _ => rfl), ok_Cal_str Fp SM CX⟩
  obtain ⟨fq, dq, aq, iq, Fq⟩ := L.carep
  have CRp : KnO l.prog w K mg base 2 CC "__repr__" (con_Cal_repr CC CS) := ⟨fq, dq, _, aq, iq, Fq.bindsN (fun _ _ _ _ _ _ us hl => match us, hl with | [_], _ => rfl), ok_Cal_repr Fq SM CX⟩
  have SE : KnE l.prog w K mg base 1 CS (con_Sh_eq CS) := ⟨fe, de, _, ae, ie, Fe.bindsN (fun _ _ _ _ _ _ us hl => match us, hl with | [_, _], _ => rfl), ok_Sh_eq Fe SG.toShM⟩
  have C4 := cal4_of X G SM C
  have Ka : KnCK l.prog w K mg base 8 "Calendar" CC 2 ["moon", "mark"] (gvP [0, 1, 2, 3, 4]) (con_Cal_init CC CS) := calP_of 2 ["moon", "mark"] [0, 1, 2, 3, 4] X G SM C (fun _ _ _ _ _ _ _ us its ws l1 l2 l3 => match us, its, ws, l1, l2, l3 with | [_, _, _], [_, _], [_, _], _, _, _ => ⟨_, rfl, rfl⟩)
  have Kb : KnCK l.prog w K mg base 8 "Calendar" CC 0 ["mark", "moon", "year", "month"] (gvP [0, 4, 3, 2, 1]) (con_Cal_init CC CS) := calP_of 0 ["mark", "moon", "year", "month"] [0, 4, 3, 2, 1] X G SM C (fun _ _ _ _ _ _ _ us its ws l1 l2 l3 => match us, its, ws, l1, l2, l3 with | [_], [_, _], [_, _, _, _], _, _, _ => ⟨_, rfl, rfl⟩)
  obtain ⟨m1, e1, x1, i1, M1⟩ := L.mst
  have St : KnM l.prog w K mg base 6 CC "start" [] (con_ci CC CS Cal.st) := knM_of CI x1 i1 M1 (ok_st M1 SG.toShF SM.CT) (fun _ _ _ _ _ _ us hl => match us, hl with | [_, _], _ => rfl)
  obtain ⟨m2, e2, x2, i2, M2⟩ := L.mmd
  have Md : KnM l.prog w K mg base 6 CC "mark_day" [] (con_ci CC CS Cal.md) := knM_of CI x2 i2 M2 (ok_md M2 SG.toShF SM.CT) (fun _ _ _ _ _ _ us hl => match us, hl with | [_, _], _ => rfl)
  obtain ⟨f1, d1, a1, F1⟩ := L.lowd
  have Lw6 : Kn l.prog w K mg base 6 "lowered" [] (con_lowered CS) := kn_of X G a1 F1 (ok_lowered F1 SG.toShF) (fun _ _ _ _ _ _ us hl => match us, hl with | [_, _], _ => rfl)
  obtain ⟨f2, d2, a2, F2⟩ := L.kf
  have Kf : Kn l.prog w K mg base 7 "kept_form" [] (con_kf CC CS) := kn_of X G a2 F2 (ok_kf F2 SM Lw6) (fun _ _ _ _ _ _ us hl => match us, hl with | [_], _ => rfl)
  obtain ⟨fu, du, au, iu, Fu⟩ := L.caeq
  have CE : KnN l.prog w K mg base 8 CC (con_Cal_eqB CC CS) := ⟨⟨fu, du, _, au, iu, Fu.bindsN (fun _ _ _ _ _ _ us hl => match us, hl with | [_, _], _ => rfl), ok_Cal_eqB Fu SM CX Kf⟩, L.cane, L.caso⟩
  obtain ⟨f3, d3, a3, F3⟩ := L.floor
  have Lo : Kn l.prog w K mg base 1 "_law_floor" [] con_L_floor := kn_of X G a3 F3 (ok_L_floor F3) (fun _ _ _ _ _ _ us hl => match us, hl with | [_], _ => rfl)
  obtain ⟨f4, d4, a4, F4⟩ := L.start
  have Ls : Kn l.prog w K mg base 3 "_law_start" [] (con_Lci Cal.st) := kn_of X G a4 F4 (ok_L_start F4 LB.plus LB.by_ Lo) (fun _ _ _ _ _ _ us hl => match us, hl with | [_, _], _ => rfl)
  obtain ⟨f5, d5, a5, F5⟩ := L.mark_day
  have Lk : Kn l.prog w K mg base 3 "_law_mark_day" [] (con_Lci Cal.md) := kn_of X G a5 F5 (ok_L_mark_day F5 LB.plus LB.by_ Lo) (fun _ _ _ _ _ _ us hl => match us, hl with | [_, _], _ => rfl)
  obtain ⟨f6, d6, a6, F6⟩ := L.number_in
  have Nu : Kn l.prog w K mg base 1 "number_in" [] con_num := kn_of X G a6 F6 (ok_num F6 BT) (fun _ _ _ _ _ _ us hl => match us, hl with | [_, _], _ => rfl)
  obtain ⟨f7, d7, a7, F7⟩ := L.share_in
  have Si : Kn l.prog w K mg base 5 "share_in" [] (con_shin CS) := kn_of X G a7 F7 (ok_shin F7 BT SG.toShM CX.st Nu) (fun _ _ _ _ _ _ us hl => match us, hl with | [_], _ => rfl)
  obtain ⟨f8, d8, a8, F8⟩ := L.read_calendar
  have Rd : Kn l.prog w K mg base 10 "read_calendar" [] (con_read CC CS) := kn_of X G a8 F8 (ok_read F8 BT Si Ka) (fun _ _ _ _ _ _ us hl => match us, hl with | [_], _ => rfl)
  have RdK : KnK l.prog w K mg base 10 "read_calendar" 0 ["text"] (gvP [0]) (con_read CC CS) := knK0_of 0 ["text"] (gvP [0]) X G a8 F8 (ok_read F8 BT Si Ka) (fun r1 r2 => rel_P [0] r1 r2) (fun _ _ _ _ _ _ us ws l1 l3 => match us, ws, l1, l3 with | [], [_], _, _ => rfl)
  obtain ⟨f9, d9, a9, F9⟩ := L.cal
  have Cl : Kn l.prog w K mg base 10 "_law_cal" [] (con_L_cal CC CS) := kn_of X G a9 F9 (ok_L_cal F9 SG.toShM LB.next C4 Kb) (fun _ _ _ _ _ _ us hl => match us, hl with | [_, _], _ => rfl)
  obtain ⟨f10, d10, a10, F10⟩ := L.share_text
  have Tx : Kn l.prog w K mg base 1 "_law_share_text" [] con_L_text := kn_of X G a10 F10 (ok_L_share_text F10 BT) (fun _ _ _ _ _ _ us hl => match us, hl with | [_], _ => rfl)
  obtain ⟨f11, d11, a11, F11⟩ := L.lines
  have Li : Kn l.prog w K mg base 2 "_law_lines" [] con_L_lines := kn_of X G a11 F11 (ok_L_lines F11 BT Tx) (fun _ _ _ _ _ _ us hl => match us, hl with | [_], _ => rfl)
  obtain ⟨f12, d12, a12, F12⟩ := L.turned
  have Tu : Kn l.prog w K mg base 2 "_law_turned" [] con_L_turned := kn_of X G a12 F12 (ok_L_turned F12 BT LB.next) (fun _ _ _ _ _ _ us hl => match us, hl with | [_, _], _ => rfl)
  obtain ⟨f13, d13, a13, F13⟩ := L.is_it
  have Is : Kn l.prog w K mg base 7 "_law_is_it" [] (con_L_is CC CS) := kn_of X G a13 F13 (ok_L_is_it F13 BT SM SE CSt CRp St Md Ls Lk) (fun _ _ _ _ _ _ us hl => match us, hl with | [_, _, _], _ => rfl)
  obtain ⟨f14, d14, a14, F14⟩ := L.plain
  have Pn : Kn l.prog w K mg base 4 "_law_plain" [] (con_L_plain CS) := kn_of X G a14 F14 (ok_L_plain F14 BT SG.toShM) (fun _ _ _ _ _ _ us hl => match us, hl with | [_], _ => rfl)
  obtain ⟨f15, d15, a15, F15⟩ := L.right
  have Rg : Kn l.prog w K mg base 11 "_law_right" [] con_L_rt := kn_of X G a15 F15 (ok_L_right F15 BT LB Cl Li Tu Is Pn C4 CE Rd RdK) (fun _ _ _ _ _ _ us hl => match us, hl with | [_], _ => rfl)
  exact ok_LAW F0 LB Rg
end
end MM

open PySem PySem.W PyProof.Rows
local macro_rules | `(tactic| walk_at "def") => `(tactic| (refine' MM.defE_mk ?a ?l ?c ?k; (case a => k_is); (case l => k_is); (case c => k_is); (case k => k_is)))
local macro_rules | `(tactic| walk_at "met") => `(tactic| (refine' MM.metE_mk ?a ?i ?l ?c ?k; (case a => k_is); (case i => k_is); (case l => k_is); (case c => k_is); (case k => k_is)))
local macro_rules | `(tactic| walk_at "def1") => `(tactic| (refine' MM.defE_mkT ?a ?l ?c ?k ?lT ?hd ?hv; (case a => k_is); (case l => k_is); (case c => k_is); (case k => k_is); (case lT => k_is); (case hd => simp); (case hv => exact .cons ⟨_, rfl⟩ .nil)))
local macro_rules | `(tactic| walk_at "init1") => `(tactic| (refine' MM.metE_mkT ?a ?i ?l ?c ?k ?lT ?hd ?hv; (case a => k_is); (case i => k_is); (case l => k_is); (case c => k_is); (case k => k_is); (case lT => k_is); (case hd => simp); (case hv => exact .cons ⟨_, rfl⟩ .nil)))
local macro_rules | `(tactic| walk_at "init2") => `(tactic| (refine' MM.metE_mkT ?a ?i ?l ?c ?k ?lT ?hd ?hv; (case a => k_is); (case i => k_is); (case l => k_is); (case c => k_is); (case k => k_is); (case lT => k_is); (case hd => simp); (case hv => exact .cons rfl (.cons rfl .nil))))
local macro_rules | `(tactic| walk_at "cls") => `(tactic| (refine' MM.ClsE.mk ?at_ ?pg ?hd ?po ?sa ?ha ?hn ?htk ?hm ?makes ?kp; (case at_ => k_is); (case pg => k_is); (case hd => k_is); (case po => k_is); (case sa => k_is); (case ha => k_is); (case hn => k_is); (case htk => k_is); (case hm => k_is); (case makes => k_is); (case kp => k_is)))
set_option maxHeartbeats 0 in
theorem PySem.Challenge.cw_meanmoon_k75_calendars_read_holds : PySem.Challenge.rw_meanmoon_k75_calendars_read.Holds := by
  w_on; o_law; k_head; (case hw => w_witness2)
  k_fill
  refine MM.walk_law (k := 12) (l := PySem.Challenge.rw_meanmoon_k75_calendars_read) rfl rfl ⟨rfl, by decide, by decide⟩ (fun w h Y => PySem.W.kIn_of Y) ?F
  case F =>
    intro w mg fa h KX G hmg
    refine' MM.all_mk KX G hmg ?S ?C ?D ?L
    case S =>
      refine' MM.TopS.mk ?cls ?nT ?nB ?tb ?tl ?k1 ?k2 ?k3 ?zA ?zI ?init ?common ?share_of ?plus ?minus ?times ?over ?before ?whole ?ceiling
      case cls => walk_at "cls"
      case nT => k_is
      case nB => k_is
      case tb => k_is
      case tl => k_is
      case k1 => k_is
      case k2 => k_is
      case k3 => k_is
      case zA => k_is
      case zI => k_is
      case init => walk_at "init1"
      case common => walk_at "def"
      case share_of => walk_at "def"
      case plus => walk_at "def"
      case minus => walk_at "def"
      case times => walk_at "def"
      case over => walk_at "def"
      case before => walk_at "def"
      case whole => walk_at "def"
      case ceiling => walk_at "def"
    case C =>
      refine' MM.TopC.mk ?cls ?n1 ?n2 ?n3 ?n4 ?n5 ?init ?fault
      case cls => walk_at "cls"
      case n1 => k_is
      case n2 => k_is
      case n3 => k_is
      case n4 => k_is
      case n5 => k_is
      case init => walk_at "init2"
      case fault => walk_at "def"
    case D =>
      refine' MM.TopB.mk ?zR ?draws ?next ?low ?plus ?by_ ?part ?moment ?four
      case zR => k_is
      case draws => walk_at "def"
      case next => walk_at "def"
      case low => walk_at "def"
      case plus => walk_at "def"
      case by_ => walk_at "def"
      case part => walk_at "def"
      case moment => walk_at "def"
      case four => walk_at "def"
    case L =>
      refine' MM.TopL.mk ?zN ?zS ?zR ?zL ?zZ ?zE ?mst ?mmd ?shstr ?shrep ?sheq ?shfm ?shob ?castr ?carep ?caeq ?cane ?caso ?cak1 ?cak2 ?words ?lowd ?kf ?floor ?start ?mark_day ?number_in ?share_in ?read_calendar ?cal ?share_text ?lines ?turned ?is_it ?plain ?right ?law
      case zN => k_is
      case zS => k_is
      case zR => k_is
      case zL => k_is
      case zZ => k_is
      case zE => k_is
      case mst => walk_at "met"
      case mmd => walk_at "met"
      case shstr => walk_at "met"
      case shrep => walk_at "met"
      case sheq => walk_at "met"
      case shfm => k_is
      case shob => k_is
      case castr => walk_at "met"
      case carep => walk_at "met"
      case caeq => walk_at "met"
      case cane => k_is
      case caso => k_is
      case cak1 => k_is
      case cak2 => k_is
      case words => refine' MM.gtup_mk ?hf ?he ?hz ?hv; (case hf => k_is); (case he => k_is); (case hz => decide +kernel); (case hv => decide +kernel)
      case lowd => walk_at "def"
      case kf => walk_at "def"
      case floor => walk_at "def"
      case start => walk_at "def"
      case mark_day => walk_at "def"
      case number_in => walk_at "def"
      case share_in => walk_at "def"
      case read_calendar => walk_at "def"
      case cal => walk_at "def"
      case share_text => walk_at "def"
      case lines => walk_at "def"
      case turned => walk_at "def"
      case is_it => walk_at "def"
      case plain => walk_at "def"
      case right => walk_at "def"
      case law => walk_at "def"

