import PyProof.Rows.All
import Wide.All
import OpenK.AllK
import Wide.FinOn
import HandS.ForMost
import HandS.ForExc
import HandS.Wide
import HandS.Defaults
import HandS.IsInst
import HandS.Flow
import HandS.MakeKw
import HandS.MakeKwOnly
import HandS.ExcInit
import HandS.WordsExc
import KE.KExcInit
import KE.KExcIs
import HandS.ExcIs
import HandS.ExcField
import PySem.Challenge.RW_meanmoon_k64_whole_great_wheels_meet
import HandS.OwnEq
import KE.KCallOwn
import KE.KFmtOwn
import HandS.FStr
import HandS.StrMore
import HandS.Text
import PyProof.FString2
import PyProof.CallFns
import HandS.IntHex
import HandS.Exc
import HandS.Style
import HandS.More
import HandS.SetFor
import HandS.TupSets
import HandS.Strs
import PyProof.LongRange
import HandS.Zip
import KE.GoesZip
import KE.GoesMore
import KE.GoesEnum
import KE.GoesEnumKw
import HandS.SortKw
import HandS.RaiseOp
import KE.KExcLine
set_option Elab.async false
set_option linter.all false
set_option maxRecDepth 100000
set_option maxHeartbeats 4000000
namespace MM
open PySem L2

/-! ### representations -/
/-- what a value stands for, over the lasting part of the heap -/
structure Rep where
  p : V → Hp → Prop
  mono : ∀ v G G', Same G G' → p v G → p v G'
/-- what an owned (changeable) object holds -/
structure ORep where
  p : HO → Hp → Prop
  mono : ∀ o G G', Same G G' → p o G → p o G'
abbrev Gm := List (Option Rep)
abbrev Ow := List (Addr × ORep)
structure En where
  G : Hp
  H : Hp
  M : List Addr
structure At (E : En) (Γ : Gm) (M : Ow) (σ : L2.St) (G H : Hp) : Prop where
  len : Γ.length = σ.length
  env : ∀ (i : Nat) (ρ : Rep), Γ[i]? = some (some ρ) → ∃ v, σ[i]? = some (some v) ∧ ρ.p v G
  gh : Same G H
  own : ∀ q ∈ M, ∃ o, H q.1 = some o ∧ q.2.p o G
  gn : ∀ q ∈ M, G q.1 = none
  nd : (M.map (·.1)).Nodup
  g0 : Same E.G G
  keep : ∀ a o, a ∉ E.M → E.H a = some o → H a = some o
  nw : ∀ a, E.H a ≠ none → G a ≠ none → E.G a ≠ none
  loc : ∀ q ∈ M, q.1 ∈ E.M ∨ E.H q.1 = none
  there : ∀ a, E.H a ≠ none → H a ≠ none
/-- a pure step: things are added -/
structure New (G H G' H' : Hp) : Prop where
  gg : Same G G'
  gh : Same G' H'
  hh : Same H H'
  nw : ∀ a, H a ≠ none → G' a ≠ none → G a ≠ none
theorem New.refl {G H : Hp} (s : Same G H) : New G H G H := ⟨Same.refl _, s, Same.refl _, fun _ _ h => h⟩
theorem New.trans {G H G1 H1 G2 H2 : Hp} (a : New G H G1 H1) (b : New G1 H1 G2 H2) : New G H G2 H2 :=
  ⟨a.gg.trans b.gg, b.gh, a.hh.trans b.hh, fun x h1 h2 => a.nw x h1 (b.nw x (by
    cases q : H x with
    | none => exact absurd q h1
    | some o => rw [a.hh x o q]; simp) h2)⟩
theorem same_upd {H : Hp} {p : Addr} {o : HO} (h : H p = none) : Same H (upd H p o) := fun b u e => by
  rw [upd_ne (ne_of_none e h)]; exact e
theorem same_upd2 {G H : Hp} {p : Addr} {o : HO} (s : Same G H) : Same (upd G p o) (upd H p o) := fun b u e => by
  by_cases hb : b = p
  · subst hb; rw [upd_same] at e ⊢; exact e
  · rw [upd_ne hb] at e ⊢; exact s b u e
theorem Same.fr {G H : Hp} {p : Addr} (s : Same G H) (h : H p = none) : G p = none := Same.free s h
/-- a new lasting object -/
theorem New.put {G H : Hp} {p : Addr} {o : HO} (s : Same G H) (h : H p = none) : New G H (upd G p o) (upd H p o) :=
  ⟨same_upd (Same.fr s h), same_upd2 s, same_upd h, fun a ha hg => by
    by_cases e : a = p
    · subst e; exact absurd h ha
    · rw [upd_ne e] at hg; exact hg⟩
/-- a new object that nobody speaks of -/
theorem New.side {G H : Hp} {p : Addr} {o : HO} (s : Same G H) (h : H p = none) : New G H G (upd H p o) :=
  ⟨Same.refl _, s.trans (same_upd h), same_upd h, fun _ _ hg => hg⟩
theorem ne_none {α : Type} {o : Option α} {x : α} (h : o = some x) : o ≠ none := by rw [h]; simp
section
variable {E : En} {Γ Γ' : Gm} {M M' : Ow} {σ : L2.St} {G H G' H' : Hp}
theorem At.new (a : At E Γ M σ G H) (n : New G H G' H') : At E Γ M σ G' H' where
  len := a.len
  env := fun i ρ h => let ⟨v, e, r⟩ := a.env i ρ h; ⟨v, e, ρ.mono _ _ _ n.gg r⟩
  gh := n.gh
  own := fun q hq => let ⟨o, e, r⟩ := a.own q hq; ⟨o, n.hh _ _ e, q.2.mono _ _ _ n.gg r⟩
  gn := fun q hq => by
    obtain ⟨o, e, _⟩ := a.own q hq
    cases z : G' q.1 with
    | none => rfl
    | some u => exact absurd (a.gn q hq) (n.nw q.1 (ne_none e) (ne_none z))
  nd := a.nd
  g0 := a.g0.trans n.gg
  keep := fun x o h1 h2 => n.hh _ _ (a.keep x o h1 h2)
  nw := fun x h1 h2 => a.nw x h1 (n.nw x (a.there x h1) h2)
  loc := a.loc
  there := fun x h => by
    cases z : H x with
    | none => exact absurd z (a.there x h)
    | some o => rw [n.hh _ _ z]; simp
theorem At.fresh (a : At E Γ M σ G H) {p : Addr} (h : H p = none) : E.H p = none := by
  cases z : E.H p with
  | none => rfl
  | some o => exact absurd h (a.there p (ne_none z))
theorem At.freshG (a : At E Γ M σ G H) {p : Addr} (h : H p = none) : G p = none := Same.fr a.gh h
theorem At.freshM (a : At E Γ M σ G H) {p : Addr} (h : H p = none) : p ∉ M.map (·.1) := fun hm => by
  obtain ⟨q, hq, e⟩ := List.mem_map.mp hm
  obtain ⟨o, e2, _⟩ := a.own q hq
  rw [e, h] at e2; cases e2
/-- a new owned object -/
theorem At.own1 (a : At E Γ M σ G H) {p : Addr} {o : HO} {r : ORep} (h : H p = none) (hr : r.p o G) : At E Γ ((p, r) :: M) σ G (upd H p o) where
  len := a.len
  env := a.env
  gh := a.gh.trans (same_upd h)
  own := fun q hq => by
    rcases List.mem_cons.mp hq with e | hq
    · subst e; exact ⟨o, upd_same, hr⟩
    · obtain ⟨u, e, r⟩ := a.own q hq
      exact ⟨u, by rw [upd_ne (ne_of_none e h)]; exact e, r⟩
  gn := fun q hq => by
    rcases List.mem_cons.mp hq with e | hq
    · subst e; exact a.freshG h
    · exact a.gn q hq
  nd := List.nodup_cons.mpr ⟨a.freshM h, a.nd⟩
  g0 := a.g0
  keep := fun x u h1 h2 => by
    have := a.keep x u h1 h2
    rw [upd_ne (ne_of_none this h)]; exact this
  nw := a.nw
  loc := fun q hq => by
    rcases List.mem_cons.mp hq with e | hq
    · subst e; exact .inr (a.fresh h)
    · exact a.loc q hq
  there := fun x hx => by
    have := a.there x hx
    by_cases e : x = p
    · subst e; rw [upd_same]; simp
    · rw [upd_ne e]; exact this
/-- where p stands in M, and M with another thing there -/
inductive Fnd : Ow → Addr → ORep → (ORep → Ow) → Prop
  | here {M : Ow} {p : Addr} {r : ORep} : Fnd ((p, r) :: M) p r (fun r' => (p, r') :: M)
  | there {M : Ow} {p : Addr} {r : ORep} {u : ORep → Ow} {q : Addr × ORep} : Fnd M p r u → Fnd (q :: M) p r (fun r' => q :: u r')
theorem Fnd.mem {p : Addr} {r : ORep} {u : ORep → Ow} (f : Fnd M p r u) : (p, r) ∈ M := by
  induction f with
  | here => exact List.mem_cons_self
  | there _ ih => exact List.mem_cons_of_mem _ ih
theorem Fnd.map {p : Addr} {r : ORep} {u : ORep → Ow} (f : Fnd M p r u) (r' : ORep) : (u r').map (·.1) = M.map (·.1) := by
  induction f with
  | here => rfl
  | there _ ih => simp only [List.map_cons, ih]
theorem Fnd.of {p : Addr} {r : ORep} {u : ORep → Ow} (f : Fnd M p r u) (r' : ORep) : ∀ q ∈ u r', q = (p, r') ∨ (q ∈ M ∧ (q.1 ≠ p ∨ ¬ (M.map (·.1)).Nodup)) := by
  induction f with
  | @here M p r =>
    intro q hq
    rcases List.mem_cons.mp hq with e | hq
    · exact .inl e
    · refine .inr ⟨List.mem_cons_of_mem _ hq, ?_⟩
      by_cases e : q.1 = p
      · refine .inr fun nd => ?_
        have := (List.nodup_cons.mp nd).1
        exact this (List.mem_map.mpr ⟨q, hq, e⟩)
      · exact .inl e
  | @there M p r u q0 f ih =>
    intro q hq
    rcases List.mem_cons.mp hq with e | hq
    · subst e
      refine .inr ⟨List.mem_cons_self, ?_⟩
      by_cases e : q.1 = p
      · refine .inr fun nd => ?_
        have := (List.nodup_cons.mp nd).1
        exact this (List.mem_map.mpr ⟨_, f.mem, e.symm⟩)
      · exact .inl e
    · rcases ih q hq with e | ⟨h1, h2⟩
      · exact .inl e
      · refine .inr ⟨List.mem_cons_of_mem _ h1, ?_⟩
        rcases h2 with h2 | h2
        · exact .inl h2
        · exact .inr fun nd => h2 (List.nodup_cons.mp nd).2
theorem At.write (a : At E Γ M σ G H) {p : Addr} {o : HO} {r r' : ORep} {u : ORep → Ow} (f : Fnd M p r u) (hr : r'.p o G) : At E Γ (u r') σ G (upd H p o) where
  len := a.len
  env := a.env
  gh := fun b w e => by
    have : b ≠ p := fun z => by subst z; rw [a.gn _ f.mem] at e; cases e
    rw [upd_ne this]; exact a.gh b w e
  own := fun q hq => by
    rcases f.of r' q hq with e | ⟨h1, h2⟩
    · subst e; exact ⟨o, upd_same, hr⟩
    · rcases h2 with h2 | h2
      · obtain ⟨w, e, r⟩ := a.own q h1
        exact ⟨w, by rw [upd_ne h2]; exact e, r⟩
      · exact absurd a.nd h2
  gn := fun q hq => by
    rcases f.of r' q hq with e | ⟨h1, _⟩
    · subst e; exact a.gn (p, r) f.mem
    · exact a.gn q h1
  nd := by rw [f.map]; exact a.nd
  g0 := a.g0
  keep := fun x w h1 h2 => by
    by_cases e : x = p
    · subst e
      rcases a.loc _ f.mem with z | z
      · exact absurd z h1
      · rw [z] at h2; cases h2
    · rw [upd_ne e]; exact a.keep x w h1 h2
  nw := a.nw
  loc := fun q hq => by
    rcases f.of r' q hq with e | ⟨h1, _⟩
    · subst e; exact a.loc (p, r) f.mem
    · exact a.loc q h1
  there := fun x hx => by
    by_cases e : x = p
    · subst e; rw [upd_same]; simp
    · rw [upd_ne e]; exact a.there x hx
/-- what may be forgotten -/
def Sub (ρ ρ' : Rep) : Prop := ∀ v G, ρ.p v G → ρ'.p v G
theorem Sub.rfl {ρ : Rep} : Sub ρ ρ := fun _ _ h => h
theorem Sub.trans {a b c : Rep} (x : Sub a b) (y : Sub b c) : Sub a c := fun v G h => y v G (x v G h)
def OSub (ρ ρ' : ORep) : Prop := ∀ v G, ρ.p v G → ρ'.p v G
theorem OSub.rfl {ρ : ORep} : OSub ρ ρ := fun _ _ h => h
/-- Γ' says no more than Γ -/
inductive Wk : Gm → Gm → Prop
  | nil : Wk [] []
  | skip {o : Option Rep} {Γ Γ' : Gm} : Wk Γ Γ' → Wk (o :: Γ) (none :: Γ')
  | cons {ρ ρ' : Rep} {Γ Γ' : Gm} : Sub ρ ρ' → Wk Γ Γ' → Wk (some ρ :: Γ) (some ρ' :: Γ')
theorem Wk.len (w : Wk Γ Γ') : Γ.length = Γ'.length := by
  induction w with
  | nil => rfl
  | skip _ ih => simp [ih]
  | cons _ _ ih => simp [ih]
theorem Wk.get (w : Wk Γ Γ') : ∀ (i : Nat) (ρ' : Rep), Γ'[i]? = some (some ρ') → ∃ ρ, Γ[i]? = some (some ρ) ∧ Sub ρ ρ' := by
  induction w with
  | nil => intro i ρ h; simp at h
  | skip _ ih =>
    intro i ρ h
    cases i with
    | zero => simp at h
    | succ i => exact ih i ρ (by simpa using h)
  | @cons r r' _ _ s _ ih =>
    intro i ρ h
    cases i with
    | zero =>
      have e : r' = ρ := by simpa using h
      subst e
      exact ⟨r, by simp, s⟩
    | succ i => exact ih i ρ (by simpa using h)
theorem Wk.refl : ∀ Γ : Gm, Wk Γ Γ
  | [] => .nil
  | none :: Γ => .skip (Wk.refl Γ)
  | some _ :: Γ => .cons Sub.rfl (Wk.refl Γ)
theorem At.weak (a : At E Γ M σ G H) (w : Wk Γ Γ') : At E Γ' M σ G H :=
  ⟨w.len.symm.trans a.len, fun i ρ' h => let ⟨ρ, e, s⟩ := w.get i ρ' h; let ⟨v, e2, r⟩ := a.env i ρ e; ⟨v, e2, s _ _ r⟩, a.gh, a.own, a.gn, a.nd, a.g0, a.keep, a.nw, a.loc, a.there⟩
/-- the name in slot i is given a value -/
theorem At.set (a : At E Γ M σ G H) {i : Nat} {ρ : Rep} {v : V} (h : ρ.p v G) : At E (Γ.set i (some ρ)) M (σ.set i (some v)) G H :=
  ⟨by simp [a.len], fun j ρ' e => by
    by_cases hj : i = j
    · subst hj
      by_cases hl : i < Γ.length
      · rw [List.getElem?_set_self hl] at e
        have e : ρ = ρ' := by simpa using e
        subst e
        exact ⟨v, List.getElem?_set_self (by rw [← a.len]; exact hl), h⟩
      · rw [List.getElem?_eq_none (by simp; omega)] at e; cases e
    · rw [List.getElem?_set_ne hj] at e
      obtain ⟨w, e2, r⟩ := a.env j ρ' e
      exact ⟨w, by rw [List.getElem?_set_ne hj]; exact e2, r⟩, a.gh, a.own, a.gn, a.nd, a.g0, a.keep, a.nw, a.loc, a.there⟩
/-- an owned object is given up: it lasts from now on -/
inductive Rm : Ow → Addr → ORep → Ow → Prop
  | here {M : Ow} {p : Addr} {r : ORep} : Rm ((p, r) :: M) p r M
  | there {M M' : Ow} {p : Addr} {r : ORep} {q : Addr × ORep} : Rm M p r M' → Rm (q :: M) p r (q :: M')
theorem Rm.mem {p : Addr} {r : ORep} (f : Rm M p r M') : (p, r) ∈ M := by
  induction f with
  | here => exact List.mem_cons_self
  | there _ ih => exact List.mem_cons_of_mem _ ih
theorem Rm.sub {p : Addr} {r : ORep} (f : Rm M p r M') : ∀ q ∈ M', q ∈ M := by
  induction f with
  | here => exact fun q hq => List.mem_cons_of_mem _ hq
  | there _ ih =>
    intro q hq
    rcases List.mem_cons.mp hq with e | hq
    · subst e; exact List.mem_cons_self
    · exact List.mem_cons_of_mem _ (ih q hq)
theorem Rm.nd {p : Addr} {r : ORep} (f : Rm M p r M') (nd : (M.map (·.1)).Nodup) : (M'.map (·.1)).Nodup ∧ p ∉ M'.map (·.1) := by
  induction f with
  | here => rw [List.map_cons, List.nodup_cons] at nd; exact ⟨nd.2, nd.1⟩
  | @there M M' p r q f ih =>
    rw [List.map_cons, List.nodup_cons] at nd
    obtain ⟨h1, h2⟩ := ih nd.2
    refine ⟨by
      rw [List.map_cons, List.nodup_cons]
      refine ⟨fun hm => nd.1 ?_, h1⟩
      obtain ⟨z, hz, e⟩ := List.mem_map.mp hm
      exact List.mem_map.mpr ⟨z, f.sub z hz, e⟩, ?_⟩
    rw [List.map_cons, List.mem_cons]
    rintro (e | h)
    · exact nd.1 (List.mem_map.mpr ⟨_, f.mem, e⟩)
    · exact h2 h
theorem At.drop (a : At E Γ M σ G H) {p : Addr} {r : ORep} (f : Rm M p r M') : At E Γ M' σ G H :=
  ⟨a.len, a.env, a.gh, fun q hq => a.own q (f.sub q hq), fun q hq => a.gn q (f.sub q hq), (f.nd a.nd).1, a.g0, a.keep, a.nw, fun q hq => a.loc q (f.sub q hq), a.there⟩
theorem At.freeze (a : At E Γ M σ G H) {p : Addr} {r : ORep} (f : Rm M p r M') (hp : p ∉ E.M) : ∃ o, H p = some o ∧ r.p o G ∧ Same G (upd G p o) ∧ At E Γ M' σ (upd G p o) H := by
  obtain ⟨o, e, ro⟩ := a.own _ f.mem
  have gn := a.gn _ f.mem
  have sg : Same G (upd G p o) := same_upd gn
  have b := a.drop f
  refine ⟨o, e, ro, sg, b.len, fun i ρ h => ?_, fun c u h => ?_, fun q hq => ?_, fun q hq => ?_, b.nd, b.g0.trans sg, b.keep, fun c h1 h2 => ?_, b.loc, b.there⟩
  · obtain ⟨v, e1, r1⟩ := b.env i ρ h
    exact ⟨v, e1, ρ.mono _ _ _ sg r1⟩
  · by_cases z : c = p
    · subst z; rw [upd_same] at h; rw [← h]; exact e
    · rw [upd_ne z] at h; exact b.gh c u h
  · obtain ⟨u, e1, r1⟩ := b.own q hq
    exact ⟨u, e1, q.2.mono _ _ _ sg r1⟩
  · have : q.1 ≠ p := fun z => (f.nd a.nd).2 (List.mem_map.mpr ⟨q, hq, z⟩)
    rw [upd_ne this]; exact b.gn q hq
  · by_cases z : c = p
    · subst z
      rcases a.loc _ f.mem with q | q
      · exact absurd q hp
      · exact absurd q h1
    · rw [upd_ne z] at h2; exact b.nw c h1 h2
end

/-! ### the judgements -/
def WTE (E : En) (Γ : Gm) (M : Ow) (t : TE) (Φ : Rep → Ow → Prop) : Prop :=
  ∀ σ G H, At E Γ M σ G H → ∀ Q : VK, (∀ ρ M' v G' H', Φ ρ M' → Same G G' → At E Γ M' σ G' H' → ρ.p v G' → Q v H') → t σ H Q
def WTT (E : En) (Γ : Gm) (M : Ow) (t : TT) (Φ : Bool → Ow → Prop) : Prop :=
  ∀ σ G H, At E Γ M σ G H → ∀ Q : Bool → Hp → Prop, (∀ k M' G' H', Φ k M' → Same G G' → At E Γ M' σ G' H' → Q k H') → t σ H Q
def Reps : List Rep → List V → Hp → Prop
  | [], [], _ => True
  | ρ :: ρs, v :: vs, G => ρ.p v G ∧ Reps ρs vs G
  | _, _, _ => False
theorem Reps.mono {G G' : Hp} (s : Same G G') : ∀ {ρs : List Rep} {vs : List V}, Reps ρs vs G → Reps ρs vs G'
  | [], [], _ => trivial
  | _ :: _, _ :: _, h => ⟨Rep.mono _ _ _ _ s h.1, Reps.mono s h.2⟩
  | [], _ :: _, h => h.elim
  | _ :: _, [], h => h.elim
theorem Reps.length {G : Hp} : ∀ {ρs : List Rep} {vs : List V}, Reps ρs vs G → ρs.length = vs.length
  | [], [], _ => rfl
  | _ :: _, _ :: _, h => congrArg Nat.succ (Reps.length h.2)
  | [], _ :: _, h => h.elim
  | _ :: _, [], h => h.elim
theorem Reps.get {G : Hp} : ∀ {ρs : List Rep} {vs : List V} {i : Nat} {ρ : Rep}, Reps ρs vs G → ρs[i]? = some ρ → ∃ v, vs[i]? = some v ∧ ρ.p v G
  | [], [], i, ρ, _, e => by simp at e
  | r :: _, v :: _, 0, ρ, h, e => by
    have e : r = ρ := by simpa using e
    subst e
    exact ⟨v, by simp, h.1⟩
  | _ :: _, _ :: _, i + 1, ρ, h, e => by
    obtain ⟨v, e1, r⟩ := Reps.get (i := i) (ρ := ρ) h.2 (by simpa using e)
    exact ⟨v, by simpa using e1, r⟩
  | [], _ :: _, _, _, h, _ => h.elim
  | _ :: _, [], _, _, h, _ => h.elim
theorem Reps.get2 {G : Hp} {ρs : List Rep} {vs : List V} {i : Nat} {v : V} (h : Reps ρs vs G) (e : vs[i]? = some v) : ∃ ρ, ρs[i]? = some ρ ∧ ρ.p v G := by
  have hl := h.length
  have hi : i < vs.length := (List.getElem?_eq_some_iff.mp e).1
  obtain ⟨w, e1, r⟩ := h.get (i := i) (ρ := ρs[i]) (by simp [hl, hi])
  rw [e] at e1; cases e1
  exact ⟨_, by simp [hl, hi], r⟩
theorem Reps.app {G : Hp} : ∀ {ρs ρs' : List Rep} {vs vs' : List V}, Reps ρs vs G → Reps ρs' vs' G → Reps (ρs ++ ρs') (vs ++ vs') G
  | [], _, [], _, _, h' => h'
  | _ :: _, _, _ :: _, _, h, h' => ⟨h.1, Reps.app h.2 h'⟩
  | [], _, _ :: _, _, h, _ => h.elim
  | _ :: _, _, [], _, h, _ => h.elim
theorem Reps.set {G : Hp} {ρ : Rep} {v : V} (r : ρ.p v G) : ∀ {ρs : List Rep} {vs : List V} (i : Nat), Reps ρs vs G → Reps (ρs.set i ρ) (vs.set i v) G
  | [], [], _, _ => trivial
  | _ :: _, _ :: _, 0, h => ⟨r, h.2⟩
  | _ :: _, _ :: _, i + 1, h => ⟨h.1, Reps.set r i h.2⟩
  | [], _ :: _, _, h => h.elim
  | _ :: _, [], _, h => h.elim
inductive SubL : List Rep → List Rep → Prop
  | nil : SubL [] []
  | cons {ρ ρ' : Rep} {ρs ρs' : List Rep} : Sub ρ ρ' → SubL ρs ρs' → SubL (ρ :: ρs) (ρ' :: ρs')
theorem SubL.reps {ρs ρs' : List Rep} (s : SubL ρs ρs') : ∀ {vs : List V} {G : Hp}, Reps ρs vs G → Reps ρs' vs G := by
  induction s with
  | nil => intro vs G h; exact h
  | cons h1 _ ih =>
    intro vs G h
    cases vs with
    | nil => exact h.elim
    | cons v vs => exact ⟨h1 _ _ h.1, ih h.2⟩
theorem SubL.refl : ∀ ρs : List Rep, SubL ρs ρs
  | [] => .nil
  | _ :: ρs => .cons Sub.rfl (SubL.refl ρs)
def WTA (E : En) (Γ : Gm) (M : Ow) (t : TA) (Φ : List Rep → Ow → Prop) : Prop :=
  ∀ σ G H, At E Γ M σ G H → ∀ Q : List V → Hp → Prop, (∀ ρs M' vs G' H', Φ ρs M' → Same G G' → At E Γ M' σ G' H' → Reps ρs vs G' → Q vs H') → t σ H Q
/-- what is wanted behind a statement, of what is known -/
structure Ed where
  nx : Gm → Ow → Prop
  rt : Rep → Ow → Prop
  bk : Gm → Ow → Prop := fun _ _ => False
  ct : Gm → Ow → Prop := fun _ _ => False
structure Cov (E : En) (G : Hp) (Ψ : Ed) (D : Ends) : Prop where
  nx : ∀ Γ M, Ψ.nx Γ M → ∀ σ G' H, Same G G' → At E Γ M σ G' H → D.nx σ H
  rt : ∀ ρ M, Ψ.rt ρ M → ∀ v G' H, Same G G' → At E [] M [] G' H → ρ.p v G' → D.rt v H
  bk : ∀ Γ M, Ψ.bk Γ M → ∀ σ G' H, Same G G' → At E Γ M σ G' H → D.bk σ H
  ct : ∀ Γ M, Ψ.ct Γ M → ∀ σ G' H, Same G G' → At E Γ M σ G' H → D.ct σ H
theorem Cov.mono {E : En} {G G' : Hp} {Ψ : Ed} {D : Ends} (s : Same G G') (c : Cov E G Ψ D) : Cov E G' Ψ D :=
  ⟨fun Γ M h σ G2 H s2 => c.nx Γ M h σ G2 H (s.trans s2), fun ρ M h v G2 H s2 => c.rt ρ M h v G2 H (s.trans s2), fun Γ M h σ G2 H s2 => c.bk Γ M h σ G2 H (s.trans s2), fun Γ M h σ G2 H s2 => c.ct Γ M h σ G2 H (s.trans s2)⟩
theorem At.env0 {E : En} {Γ : Gm} {M : Ow} {σ : L2.St} {G H : Hp} (a : At E Γ M σ G H) : At E [] M [] G H :=
  ⟨rfl, fun i ρ h => by simp at h, a.gh, a.own, a.gn, a.nd, a.g0, a.keep, a.nw, a.loc, a.there⟩
def WTS (E : En) (Γ : Gm) (M : Ow) (t : TS) (Ψ : Ed) : Prop :=
  ∀ σ G H, At E Γ M σ G H → ∀ D : Ends, Cov E G Ψ D → t D σ H
def WTG (E : En) (Γ : Gm) (M : Ow) (t : TG) (ρ : Rep) (Φ : Gm → Ow → Prop) : Prop :=
  ∀ σ G H, At E Γ M σ G H → ∀ v, ρ.p v G → ∀ Q : L2.St → Hp → Prop, (∀ Γ' M' σ' G' H', Φ Γ' M' → Same G G' → At E Γ' M' σ' G' H' → Q σ' H') → t v σ H Q
def WTGs (E : En) (Γ : Gm) (M : Ow) (t : TGs) (ρs : List Rep) (Φ : Gm → Ow → Prop) : Prop :=
  ∀ σ G H, At E Γ M σ G H → ∀ vs, Reps ρs vs G → ∀ Q : L2.St → Hp → Prop, (∀ Γ' M' σ' G' H', Φ Γ' M' → Same G G' → At E Γ' M' σ' G' H' → Q σ' H') → t vs σ H Q

/-! ### of the grammar: each piece has its weakest reading -/
def tW (X : Cx) (e : Expr) : TE := fun σ H Q => ∀ (pins : List (Addr × Obj)) (s : Shared), L2.Inv X pins σ H s → wpAny (model X.prog X.w) X.A (eval e X.env) (EP X pins σ Q) X.xe s
theorem pe_w {X : Cx} {e : Expr} : PE X e (tW X e) := ⟨fun pins s σ H Q I h => h pins s I⟩
def tWT (X : Cx) (e : Expr) : TT := fun σ H Q => ∀ (pins : List (Addr × Obj)) (s : Shared), L2.Inv X pins σ H s → wpAny (model X.prog X.w) X.A (isTrue e X.env (eval e X.env)) (TP X pins σ Q) X.xe s
theorem pt_w {X : Cx} {e : Expr} : PT X e (tWT X e) := ⟨fun pins s σ H Q I h => h pins s I⟩
def tWP (X : Cx) (e : Expr) : TT := fun σ H Q => ∀ (whole : Sem Value) (pins : List (Addr × Obj)) (s : Shared), L2.Inv X pins σ H s → wpAny (model X.prog X.w) X.A (isTrue e X.env whole) (TP X pins σ Q) X.xe s
theorem pw_w {X : Cx} {e : Expr} : PW X e (tWP X e) := ⟨fun w pins s σ H Q I h => h w pins s I⟩
def tWA (X : Cx) (es : List Expr) : TA := fun σ H Q => ∀ (pos : Pos) (pins : List (Addr × Obj)) (s : Shared), L2.Inv X pins σ H s → wpAny (model X.prog X.w) X.A (spliced (backTo pos (starEach es X.env))) (AP X pins σ Q) X.xe s
theorem pa_w {X : Cx} {es : List Expr} : PA X es (tWA X es) := ⟨fun pos pins s σ H Q I h => h pos pins s I⟩
def tWK (X : Cx) (es : List Keyword) : TA := fun σ H Q => ∀ (pos : Pos) (pins : List (Addr × Obj)) (s : Shared), L2.Inv X pins σ H s → wpAny (model X.prog X.w) X.A (evalAll ((backToKw pos (keywordEach es X.env)).map (·.2))) (AP X pins σ Q) X.xe s
theorem pk_w {X : Cx} {es : List Keyword} : PK X es (tWK X es) := ⟨fun pos pins s σ H Q I h => h pos pins s I⟩
def tWS (X : Cx) (st : Stmt) : TS := fun D σ H => ∀ (pins : List (Addr × Obj)) (s : Shared), L2.Inv X pins σ H s → wpAny (model X.prog X.w) X.A (exec st X.env) (SP X pins D) X.xe s
theorem ps_w {X : Cx} {e : Stmt} : PS X e (tWS X e) := ⟨fun pins s σ H D I h => h pins s I⟩
def tWSs (X : Cx) (st : List Stmt) : TS := fun D σ H => ∀ (pins : List (Addr × Obj)) (s : Shared), L2.Inv X pins σ H s → wpAny (model X.prog X.w) X.A (execs st X.env) (SP X pins D) X.xe s
theorem pss_w {X : Cx} {e : List Stmt} : PSs X e (tWSs X e) := ⟨fun pins s σ H D I h => h pins s I⟩
def tWG (X : Cx) (tg : Expr) : TG := fun v σ H Q => ∀ (pins : List (Addr × Obj)) (s : Shared) (u : Value), L2.Inv X pins σ H s → RelV v u → wpAny (model X.prog X.w) X.A (assign tg X.env u) (fun _ s' => ∃ σ' H', L2.Inv X pins σ' H' s' ∧ Q σ' H') X.xe s
theorem pg_w {X : Cx} {tg : Expr} : PG X tg (tWG X tg) := ⟨fun pins s σ H v u Q I r h => h pins s u I r⟩
def tWGs (X : Cx) (ts : List Expr) : TGs := fun vs σ H Q => ∀ (pins : List (Addr × Obj)) (s : Shared) (us : List Value), L2.Inv X pins σ H s → Vals vs us → wpAny (model X.prog X.w) X.A (assignInOrder ((assignEach ts X.env).map (·.2)) us) (fun _ s' => ∃ σ' H', L2.Inv X pins σ' H' s' ∧ Q σ' H') X.xe s
theorem pgs_w {X : Cx} {ts : List Expr} : PGs X ts (tWGs X ts) := ⟨fun pins s σ H vs us Q I r h => h pins s us I r⟩

def WE (X : Cx) (E : En) (Γ : Gm) (M : Ow) (e : Expr) (Φ : Rep → Ow → Prop) : Prop := WTE E Γ M (tW X e) Φ
def WT (X : Cx) (E : En) (Γ : Gm) (M : Ow) (e : Expr) (Φ : Bool → Ow → Prop) : Prop := WTT E Γ M (tWT X e) Φ
def WP (X : Cx) (E : En) (Γ : Gm) (M : Ow) (e : Expr) (Φ : Bool → Ow → Prop) : Prop := WTT E Γ M (tWP X e) Φ
def WA (X : Cx) (E : En) (Γ : Gm) (M : Ow) (es : List Expr) (Φ : List Rep → Ow → Prop) : Prop := WTA E Γ M (tWA X es) Φ
def WK (X : Cx) (E : En) (Γ : Gm) (M : Ow) (es : List Keyword) (Φ : List Rep → Ow → Prop) : Prop := WTA E Γ M (tWK X es) Φ
def WS (X : Cx) (E : En) (Γ : Gm) (M : Ow) (st : Stmt) (Ψ : Ed) : Prop := WTS E Γ M (tWS X st) Ψ
def WSs (X : Cx) (E : En) (Γ : Gm) (M : Ow) (st : List Stmt) (Ψ : Ed) : Prop := WTS E Γ M (tWSs X st) Ψ
def WG (X : Cx) (E : En) (Γ : Gm) (M : Ow) (tg : Expr) (ρ : Rep) (Φ : Gm → Ow → Prop) : Prop := WTG E Γ M (tWG X tg) ρ Φ
def WGs (X : Cx) (E : En) (Γ : Gm) (M : Ow) (ts : List Expr) (ρs : List Rep) (Φ : Gm → Ow → Prop) : Prop := WTGs E Γ M (tWGs X ts) ρs Φ
section
variable {X : Cx} {E : En} {Γ : Gm} {M : Ow}
theorem we_of {e : Expr} {t : TE} {Φ : Rep → Ow → Prop} (hp : PE X e t) (h : WTE E Γ M t Φ) : WE X E Γ M e Φ := fun σ G H a Q k pins s I => hp.run pins s σ H Q I (h σ G H a Q k)
theorem wt_of {e : Expr} {t : TT} {Φ : Bool → Ow → Prop} (hp : PT X e t) (h : WTT E Γ M t Φ) : WT X E Γ M e Φ := fun σ G H a Q k pins s I => hp.run pins s σ H Q I (h σ G H a Q k)
theorem wp_of {e : Expr} {t : TT} {Φ : Bool → Ow → Prop} (hp : PW X e t) (h : WTT E Γ M t Φ) : WP X E Γ M e Φ := fun σ G H a Q k w pins s I => hp.run w pins s σ H Q I (h σ G H a Q k)
theorem wa_of {e : List Expr} {t : TA} {Φ : List Rep → Ow → Prop} (hp : PA X e t) (h : WTA E Γ M t Φ) : WA X E Γ M e Φ := fun σ G H a Q k pos pins s I => hp.run pos pins s σ H Q I (h σ G H a Q k)
theorem wk_of {e : List Keyword} {t : TA} {Φ : List Rep → Ow → Prop} (hp : PK X e t) (h : WTA E Γ M t Φ) : WK X E Γ M e Φ := fun σ G H a Q k pos pins s I => hp.run pos pins s σ H Q I (h σ G H a Q k)
theorem ws_of {e : Stmt} {t : TS} {Ψ : Ed} (hp : PS X e t) (h : WTS E Γ M t Ψ) : WS X E Γ M e Ψ := fun σ G H a D k pins s I => hp.run pins s σ H D I (h σ G H a D k)
theorem wss_of {e : List Stmt} {t : TS} {Ψ : Ed} (hp : PSs X e t) (h : WTS E Γ M t Ψ) : WSs X E Γ M e Ψ := fun σ G H a D k pins s I => hp.run pins s σ H D I (h σ G H a D k)
theorem wg_of {e : Expr} {t : TG} {ρ : Rep} {Φ : Gm → Ow → Prop} (hp : PG X e t) (h : WTG E Γ M t ρ Φ) : WG X E Γ M e ρ Φ := fun σ G H a v r Q k pins s u I rv => hp.run pins s σ H v u Q I rv (h σ G H a v r Q k)
theorem wgs_of {e : List Expr} {t : TGs} {ρs : List Rep} {Φ : Gm → Ow → Prop} (hp : PGs X e t) (h : WTGs E Γ M t ρs Φ) : WGs X E Γ M e ρs Φ := fun σ G H a v r Q k pins s u I rv => hp.run pins s σ H v u Q I rv (h σ G H a v r Q k)
end
end MM

namespace MM
open PySem L2
/-! ### representations of plain values -/
def RI (i : Int) : Rep := ⟨fun v _ => v = .int i, fun _ _ _ _ h => h⟩
def RB (b : Bool) : Rep := ⟨fun v _ => v = .bl b, fun _ _ _ _ h => h⟩
def RS (s : Str) : Rep := ⟨fun v _ => v = .str s, fun _ _ _ _ h => h⟩
def RN : Rep := ⟨fun v _ => v = .non, fun _ _ _ _ h => h⟩
def RV (w : V) : Rep := ⟨fun v _ => v = w, fun _ _ _ _ h => h⟩
def RRef (p : Addr) : Rep := ⟨fun v _ => v = .ref p, fun _ _ _ _ h => h⟩
/-- an int or None -/
def RO (o : Option Int) : Rep := match o with
  | none => RN
  | some i => RI i
theorem same_seqT {K : PySem.W.Frag} {H H' : Hp} {a : Addr} {xs : List V} (e : Same H H') (h : SqT K H a xs) : SqT K H' a xs := by
  rcases h with (h | ⟨o, h⟩) | h
  · exact .inl (.inl (e _ _ h))
  · exact .inl (.inr ⟨o, e _ _ h⟩)
  · exact .inr h
/-- a list that stays as it is; a tuple -/
def RL (K : PySem.W.Frag) (ρs : List Rep) : Rep := ⟨fun v G => ∃ a vs, v = .ref a ∧ SqL K G a vs ∧ Reps ρs vs G, fun v G G' s ⟨a, vs, e, h, r⟩ => ⟨a, vs, e, Same.seq s h, r.mono s⟩⟩
def RT (K : PySem.W.Frag) (ρs : List Rep) : Rep := ⟨fun v G => ∃ a vs, v = .ref a ∧ SqT K G a vs ∧ Reps ρs vs G, fun v G G' s ⟨a, vs, e, h, r⟩ => ⟨a, vs, e, same_seqT s h, r.mono s⟩⟩
/-- .. that stands in the lasting part -/
def RLt (ρs : List Rep) : Rep := ⟨fun v G => ∃ a vs, v = .ref a ∧ G a = some (.lst vs) ∧ Reps ρs vs G, fun v G G' s ⟨a, vs, e, h, r⟩ => ⟨a, vs, e, s _ _ h, r.mono s⟩⟩
theorem sub_lt {K : PySem.W.Frag} {ρs : List Rep} : Sub (RLt ρs) (RL K ρs) := fun v G ⟨a, vs, e, h, r⟩ => ⟨a, vs, e, .inl (.inl h), r⟩
def RTt (ρs : List Rep) : Rep := ⟨fun v G => ∃ a vs, v = .ref a ∧ G a = some (.tup vs) ∧ Reps ρs vs G, fun v G G' s ⟨a, vs, e, h, r⟩ => ⟨a, vs, e, s _ _ h, r.mono s⟩⟩
theorem sub_tt {K : PySem.W.Frag} {ρs : List Rep} : Sub (RTt ρs) (RT K ρs) := fun v G ⟨a, vs, e, h, r⟩ => ⟨a, vs, e, .inl (.inl h), r⟩
/-- an owned list -/
def OL (ρs : List Rep) : ORep := ⟨fun o G => ∃ vs, o = .lst vs ∧ Reps ρs vs G, fun o G G' s ⟨vs, e, r⟩ => ⟨vs, e, r.mono s⟩⟩
/-- attributes -/
def FRep : List (Str × Rep) → List (Str × V) → Hp → Prop
  | [], [], _ => True
  | (f, ρ) :: l, (g, v) :: m, G => f = g ∧ ρ.p v G ∧ FRep l m G
  | _, _, _ => False
theorem FRep.mono {G G' : Hp} (s : Same G G') : ∀ {l : List (Str × Rep)} {m : List (Str × V)}, FRep l m G → FRep l m G'
  | [], [], _ => trivial
  | (_, ρ) :: _, (_, _) :: _, h => ⟨h.1, ρ.mono _ _ _ s h.2.1, FRep.mono s h.2.2⟩
  | [], _ :: _, h => h.elim
  | _ :: _, [], h => h.elim
theorem FRep.len {G : Hp} : ∀ {l : List (Str × Rep)} {m : List (Str × V)}, FRep l m G → l.length = m.length
  | [], [], _ => rfl
  | (_, _) :: _, (_, _) :: _, h => congrArg Nat.succ (FRep.len h.2.2)
  | [], _ :: _, h => h.elim
  | _ :: _, [], h => h.elim
theorem FRep.look {G : Hp} {f : Str} {ρ : Rep} : ∀ {l : List (Str × Rep)} {m : List (Str × V)}, FRep l m G → l.lookup f = some ρ → ∃ v, m.lookup f = some v ∧ ρ.p v G
  | [], [], _, e => by simp at e
  | (g, r) :: l, (g', v) :: m, h, e => by
    obtain ⟨h1, h2, h3⟩ := h
    subst h1
    rw [List.lookup_cons] at e ⊢
    cases q : f == g with
    | true =>
      rw [q] at e
      have e : r = ρ := by simpa using e
      subst e
      exact ⟨v, rfl, h2⟩
    | false =>
      rw [q] at e
      exact FRep.look (l := l) (m := m) h3 e
  | [], _ :: _, h, _ => h.elim
  | _ :: _, [], h, _ => h.elim
theorem FRep.miss {G : Hp} {f : Str} : ∀ {l : List (Str × Rep)} {m : List (Str × V)}, FRep l m G → l.lookup f = none → m.lookup f = none
  | [], [], _, _ => rfl
  | (g, r) :: l, (g', v) :: m, h, e => by
    obtain ⟨h1, h2, h3⟩ := h
    subst h1
    rw [List.lookup_cons] at e ⊢
    cases q : f == g with
    | true => rw [q] at e; simp at e
    | false => rw [q] at e; exact FRep.miss (l := l) (m := m) h3 e
  | [], _ :: _, h, _ => h.elim
  | _ :: _, [], h, _ => h.elim
def putR (f : Str) (ρ : Rep) : List (Str × Rep) → List (Str × Rep)
  | [] => [(f, ρ)]
  | (g, r) :: l => if g = f then (g, ρ) :: l else (g, r) :: putR f ρ l
theorem putF_cons (f g : Str) (v w : V) (l : List (Str × V)) : putF f v ((g, w) :: l) = if g = f then (g, v) :: l else (g, w) :: putF f v l := rfl
theorem FRep.put {G : Hp} {f : Str} {ρ : Rep} {v : V} (r : ρ.p v G) : ∀ {l : List (Str × Rep)} {m : List (Str × V)}, FRep l m G → FRep (putR f ρ l) (putF f v m) G
  | [], [], _ => ⟨rfl, r, trivial⟩
  | (g, r0) :: l, (g', w) :: m, h => by
    obtain ⟨h1, h2, h3⟩ := h
    subst h1
    rw [putF_cons]
    unfold putR
    by_cases q : g = f
    · rw [if_pos q, if_pos q]; exact ⟨rfl, r, h3⟩
    · rw [if_neg q, if_neg q]; exact ⟨rfl, h2, FRep.put r h3⟩
  | [], _ :: _, h => h.elim
  | _ :: _, [], h => h.elim
/-- an instance that stays as it is; an owned one -/
def RIns (C : Addr) (l : List (Str × Rep)) : Rep := ⟨fun v G => ∃ a dx fs, v = .ref a ∧ G a = some (.ins C dx fs) ∧ FRep l fs G, fun v G G' s ⟨a, dx, fs, e, h, r⟩ => ⟨a, dx, fs, e, s _ _ h, r.mono s⟩⟩
def OIns (C : Addr) (l : List (Str × Rep)) : ORep := ⟨fun o G => ∃ dx fs, o = .ins C dx fs ∧ FRep l fs G, fun o G G' s ⟨dx, fs, e, r⟩ => ⟨dx, fs, e, r.mono s⟩⟩

/-! ### names -/
structure Rd1 (X : Cx) (i : Nat) (x : Str) : Prop where
  at_ : X.N[i]? = some x
  vis : Vis X.env.scope x
  hd : (x == ("__debug__" : Str)) = false
  hcd : (x == ("__classdict__" : Str)) = false
structure Wr1 (X : Cx) (i : Nat) (x : Str) : Prop where
  nd : X.N.Nodup
  at_ : X.N[i]? = some x
  loc : Loc X.env.scope x
  fn : X.fn x = true ∨ X.env.scope.names.lookup x = some .local
section
variable {X : Cx} {E : En} {Γ : Gm} {M : Ow} {a b e : Expr} {pos : Pos} {Φ : Rep → Ow → Prop}
theorem wte_var {i : Nat} {ρ : Rep} (h : Γ[i]? = some (some ρ)) (k : Φ ρ M) : WTE E Γ M (tVar i) Φ := fun σ G H a Q q =>
  let ⟨v, e, r⟩ := a.env i ρ h; ⟨v, e, q ρ M v G H k (Same.refl _) a r⟩
theorem wte_c {v : V} {ρ : Rep} (h : ∀ G, ρ.p v G) (k : Φ ρ M) : WTE E Γ M (tC v) Φ := fun σ G H a Q q => q ρ M v G H k (Same.refl _) a (h G)
theorem we_var (i : Nat) {x : Str} {ρ : Rep} (r : Rd1 X i x) (h : Γ[i]? = some (some ρ)) (k : Φ ρ M) : WE X E Γ M (.Name x pos) Φ := we_of (pe_var r.at_ r.vis r.hd r.hcd) (wte_var h k)
theorem we_int {i : Int} {j} (k : Φ (RI i) M) : WE X E Γ M (.Constant (.int i) j pos) Φ := we_of pe_int (wte_c (fun _ => rfl) k)
theorem we_bl {i : Bool} {j} (k : Φ (RB i) M) : WE X E Γ M (.Constant (.bool i) j pos) Φ := we_of pe_bl (wte_c (fun _ => rfl) k)
theorem we_str {i : Str} {j} (k : Φ (RS i) M) : WE X E Γ M (.Constant (.str i) j pos) Φ := we_of pe_str (wte_c (fun _ => rfl) k)
theorem we_non {j} (k : Φ RN M) : WE X E Γ M (.Constant .none j pos) Φ := we_of pe_non (wte_c (fun _ => rfl) k)
/-- a value of the module's -/
theorem we_glob {x : Str} {v : V} {u : Value} (hg : Gl X x) (hm : X.mg x = some u) (r : RelV v u) {ρ : Rep} (h : ∀ G, ρ.p v G) (k : Φ ρ M) (hd : (x == ("__debug__" : Str)) = false := by decide) : WE X E Γ M (.Name x pos) Φ := we_of (pe_glob hg hm r hd) (wte_c h k)

/-! ### operators -/
def OpW (E : En) (Γ : Gm) (M : Ow) (r : R2) (ρa ρb : Rep) (Φ : Rep → Ow → Prop) : Prop :=
  ∀ σ G H, At E Γ M σ G H → ∀ x y, ρa.p x G → ρb.p y G → ∀ Q : VK, (∀ ρ M' v G' H', Φ ρ M' → Same G G' → At E Γ M' σ G' H' → ρ.p v G' → Q v H') → r x y H Q
/-- a pure operation -/
def OpV (r : R2) (ρa ρb ρ : Rep) : Prop := ∀ x y G H, Same G H → ρa.p x G → ρb.p y G → ∀ Q : VK, (∀ v G' H', New G H G' H' → ρ.p v G' → Q v H') → r x y H Q
theorem opw_of {r : R2} {ρa ρb ρ : Rep} (h : OpV r ρa ρb ρ) (k : Φ ρ M) : OpW E Γ M r ρa ρb Φ := fun σ G H a x y hx hy Q q =>
  h x y G H a.gh hx hy Q fun v G' H' n hr => q ρ M v G' H' k n.gg (a.new n) hr
theorem wte_op {r : R2} {ta tb : TE} (h : WTE E Γ M ta fun ρa Ma => WTE E Γ Ma tb fun ρb Mb => OpW E Γ Mb r ρa ρb Φ) : WTE E Γ M (tOp r ta tb) Φ := fun σ G H a Q k =>
  h σ G H a _ fun ρa Ma x G1 H1 h1 s1 a1 r1 => h1 σ G1 H1 a1 _ fun ρb Mb y G2 H2 h2 s2 a2 r2 =>
    h2 σ G2 H2 a2 x y (ρa.mono _ _ _ s2 r1) r2 Q fun ρ M' v G' H' k' s3 => k ρ M' v G' H' k' ((s1.trans s2).trans s3)
theorem we_bin {op : Operator} {r : R2} (ho : OpR X (binaryOp op) r) (h : WE X E Γ M a fun ρa Ma => WE X E Γ Ma b fun ρb Mb => OpW E Γ Mb r ρa ρb Φ) : WE X E Γ M (.BinOp a op b pos) Φ :=
  we_of (pe_op ho pe_w pe_w) (wte_op h)
theorem we_cmp {op : CmpOp} {r : R2} (ho : OpR X (compareOp op) r) (hm : behindInMarks op b = false) (h : WE X E Γ M a fun ρa Ma => WE X E Γ Ma b fun ρb Mb => OpW E Γ Mb r ρa ρb Φ) : WE X E Γ M (.Compare a [op] [b] pos) Φ :=
  we_of (pe_cmpR ho pe_w pe_w hm) (wte_op h)
theorem wtt_test {t : TE} {Φ : Bool → Ow → Prop} (h : WTE E Γ M t fun ρ M' => ∃ k, Sub ρ (RB k) ∧ Φ k M') : WTT E Γ M (tTest t) Φ := fun σ G H a Q q =>
  h σ G H a _ fun ρ M' v G' H' ⟨k, s, hk⟩ s1 a1 r => ⟨k, s _ _ r, q k M' G' H' hk s1 a1⟩
theorem wt_cmp {op : CmpOp} {r : R2} {Φ : Bool → Ow → Prop} (ho : OpR X (compareOp op) r) (hm : behindInMarks op b = false)
    (h : WE X E Γ M a fun ρa Ma => WE X E Γ Ma b fun ρb Mb => OpW E Γ Mb r ρa ρb fun ρ M' => ∃ k, Sub ρ (RB k) ∧ Φ k M') : WT X E Γ M (.Compare a [op] [b] pos) Φ :=
  wt_of (pt_cmpR ho pe_w pe_w hm) (wtt_test (wte_op h))
/-- an expression that gives a bool -/
theorem wt_val {Φ : Bool → Ow → Prop} (h : WE X E Γ M e fun ρ M' => ∃ k, Sub ρ (RB k) ∧ Φ k M') (he : ∀ whole, isTrue e X.env whole = (do let v ← whole; standAt e.pos; holding [v] (truthy v)) := by intro _; rfl) : WT X E Γ M e Φ :=
  wt_of (pt_val pe_w he) (wtt_test h)
/-- an expression by its truth -/
theorem wt_truth {Φ : Bool → Ow → Prop} (h : WE X E Γ M e fun ρ M' => ∃ k, (∀ v G, ρ.p v G → TruV X.K v G k) ∧ (∀ v G H, Same G H → TruV X.K v G k → TruV X.K v H k) ∧ Φ k M') (he : ∀ whole, isTrue e X.env whole = (do let v ← whole; standAt e.pos; holding [v] (truthy v)) := by intro _; rfl) : WT X E Γ M e Φ :=
  wt_of (pt_truth pe_w he) (fun σ G H a Q q => h σ G H a _ fun ρ M' v G' H' ⟨k, s, s', hk⟩ s1 a1 r => ⟨k, s' _ _ _ a1.gh (s _ _ r), q k M' G' H' hk s1 a1⟩)
theorem wt_not {Φ : Bool → Ow → Prop} (h : WT X E Γ M a fun k M' => Φ (!k) M') : WT X E Γ M (.UnaryOp .Not a pos) Φ :=
  wt_of (pt_not pt_w) (fun σ G H at' Q q => h σ G H at' _ fun k M' G' H' hk s1 a1 => q (!k) M' G' H' hk s1 a1)
theorem wt_bool {Φ : Bool → Ow → Prop} (h : WP X E Γ M e Φ) : WT X E Γ M e Φ := wt_of (PW.pt pw_w) h
theorem wp_and1 {Φ : Bool → Ow → Prop} (h : WT X E Γ M a Φ) : WP X E Γ M (.BoolOp .And [a] pos) Φ := wp_of (pw_and1 pt_w) h
theorem wp_or1 {Φ : Bool → Ow → Prop} (h : WT X E Γ M a Φ) : WP X E Γ M (.BoolOp .Or [a] pos) Φ := wp_of (pw_or1 pt_w) h
theorem wp_and {rest : List Expr} {Φ : Bool → Ow → Prop} (h : WT X E Γ M a fun k M' => (k = true → WP X E Γ M' (.BoolOp .And (b :: rest) pos) Φ) ∧ (k = false → Φ false M')) : WP X E Γ M (.BoolOp .And (a :: b :: rest) pos) Φ :=
  wp_of (pw_and pt_w pw_w) (fun σ G H at' Q q => h σ G H at' _ fun k M' G' H' hk s1 a1 => by
    cases k with
    | true =>
      show tWP X _ σ H' Q
      exact hk.1 rfl σ G' H' a1 Q fun k2 M2 G2 H2 h2 s2 => q k2 M2 G2 H2 h2 (s1.trans s2)
    | false =>
      show Q false H'
      exact q false M' G' H' (hk.2 rfl) s1 a1)
theorem wp_or {rest : List Expr} {Φ : Bool → Ow → Prop} (h : WT X E Γ M a fun k M' => (k = false → WP X E Γ M' (.BoolOp .Or (b :: rest) pos) Φ) ∧ (k = true → Φ true M')) : WP X E Γ M (.BoolOp .Or (a :: b :: rest) pos) Φ :=
  wp_of (pw_or pt_w pw_w) (fun σ G H at' Q q => h σ G H at' _ fun k M' G' H' hk s1 a1 => by
    cases k with
    | false =>
      show tWP X _ σ H' Q
      exact hk.1 rfl σ G' H' a1 Q fun k2 M2 G2 H2 h2 s2 => q k2 M2 G2 H2 h2 (s1.trans s2)
    | true =>
      show Q true H'
      exact q true M' G' H' (hk.2 rfl) s1 a1)
/-- .. as values: all but the last are bools -/
theorem we_and1 {op} (h : WE X E Γ M a Φ) : WE X E Γ M (.BoolOp op [a] pos) Φ := we_of (pe_one pe_w) h
theorem we_and {rest : List Expr} (h : WE X E Γ M a fun ρ M' => ∃ k, Sub ρ (RB k) ∧ (k = true → WE X E Γ M' (.BoolOp .And (b :: rest) pos) Φ) ∧ (k = false → Φ (RB false) M')) : WE X E Γ M (.BoolOp .And (a :: b :: rest) pos) Φ :=
  we_of (pe_and pe_w pe_w) (fun σ G H at' Q q => h σ G H at' _ fun ρ M' v G' H' ⟨k, sb, hk1, hk2⟩ s1 a1 r => ⟨k, sb _ _ r, by
    cases k with
    | true =>
      show tW X _ σ H' Q
      exact hk1 rfl σ G' H' a1 Q fun k2 M2 v2 G2 H2 h2 s2 => q k2 M2 v2 G2 H2 h2 (s1.trans s2)
    | false =>
      show Q (.bl false) H'
      exact q (RB false) M' _ G' H' (hk2 rfl) s1 a1 rfl⟩)
theorem we_or {rest : List Expr} (h : WE X E Γ M a fun ρ M' => ∃ k, Sub ρ (RB k) ∧ (k = false → WE X E Γ M' (.BoolOp .Or (b :: rest) pos) Φ) ∧ (k = true → Φ (RB true) M')) : WE X E Γ M (.BoolOp .Or (a :: b :: rest) pos) Φ :=
  we_of (pe_or pe_w pe_w) (fun σ G H at' Q q => h σ G H at' _ fun ρ M' v G' H' ⟨k, sb, hk1, hk2⟩ s1 a1 r => ⟨k, sb _ _ r, by
    cases k with
    | false =>
      show tW X _ σ H' Q
      exact hk1 rfl σ G' H' a1 Q fun k2 M2 v2 G2 H2 h2 s2 => q k2 M2 v2 G2 H2 h2 (s1.trans s2)
    | true =>
      show Q (.bl true) H'
      exact q (RB true) M' _ G' H' (hk2 rfl) s1 a1 rfl⟩)
theorem we_not (h : WE X E Γ M a fun ρ M' => ∃ k, Sub ρ (RB k) ∧ Φ (RB (!k)) M') : WE X E Γ M (.UnaryOp .Not a pos) Φ :=
  we_of (pe_not pe_w) (fun σ G H at' Q q => h σ G H at' _ fun ρ M' v G' H' ⟨k, sb, hk⟩ s1 a1 r => ⟨k, sb _ _ r, q _ M' _ G' H' hk s1 a1 rfl⟩)
theorem we_ifExp {c : Expr} (h : WT X E Γ M c fun k M' => (k = true → WE X E Γ M' a Φ) ∧ (k = false → WE X E Γ M' b Φ)) : WE X E Γ M (.IfExp c a b pos) Φ :=
  we_of (pe_ifExp pt_w pe_w pe_w) (fun σ G H at' Q q => h σ G H at' _ fun k M' G' H' hk s1 a1 => by
    cases k with
    | true =>
      show tW X _ σ H' Q
      exact hk.1 rfl σ G' H' a1 Q fun k2 M2 v2 G2 H2 h2 s2 => q k2 M2 v2 G2 H2 h2 (s1.trans s2)
    | false =>
      show tW X _ σ H' Q
      exact hk.2 rfl σ G' H' a1 Q fun k2 M2 v2 G2 H2 h2 s2 => q k2 M2 v2 G2 H2 h2 (s1.trans s2))
theorem we_un {op : UnaryOp} {r : V → Hp → VK → Prop} (ho : UnR X (unaryOp op) r) (h : WE X E Γ M a fun ρa Ma => ∃ ρ, (∀ x G H, ρa.p x G → ∀ Q : VK, (∀ v, ρ.p v G → Q v H) → r x H Q) ∧ Φ ρ Ma) : WE X E Γ M (.UnaryOp op a pos) Φ :=
  we_of (pe_un ho pe_w) (fun σ G H at' Q q => h σ G H at' _ fun ρa Ma x G1 H1 ⟨ρ, ho, hk⟩ s1 a1 r1 => ho x G1 H1 r1 Q fun v r2 => q ρ Ma v G1 H1 hk s1 a1 r2)

/-! ### argument lists, displays -/
theorem wa_nil {Φ : List Rep → Ow → Prop} (k : Φ [] M) : WA X E Γ M [] Φ := wa_of pa_nil fun σ G H a Q q => q [] M [] G H k (Same.refl _) a trivial
theorem wa_cons {es : List Expr} {Φ : List Rep → Ow → Prop} (h : WE X E Γ M e fun ρ M1 => WA X E Γ M1 es fun ρs M2 => Φ (ρ :: ρs) M2) (hs : starEach (e :: es) X.env = (false, eval e X.env) :: starEach es X.env := by rfl) : WA X E Γ M (e :: es) Φ :=
  wa_of (pa_cons pe_w pa_w hs) fun σ G H a Q q => h σ G H a _ fun ρ M1 x G1 H1 h1 s1 a1 r1 => h1 σ G1 H1 a1 _ fun ρs M2 xs G2 H2 h2 s2 a2 r2 =>
    q (ρ :: ρs) M2 (x :: xs) G2 H2 h2 (s1.trans s2) a2 ⟨ρ.mono _ _ _ s2 r1, r2⟩
theorem wk_nil {Φ : List Rep → Ow → Prop} (k : Φ [] M) : WK X E Γ M [] Φ := wk_of pk_nil fun σ G H a Q q => q [] M [] G H k (Same.refl _) a trivial
theorem wk_cons {nm : Option Str} {kpos : Pos} {es : List Keyword} {Φ : List Rep → Ow → Prop} (h : WE X E Γ M e fun ρ M1 => WK X E Γ M1 es fun ρs M2 => Φ (ρ :: ρs) M2) : WK X E Γ M (⟨nm, e, kpos⟩ :: es) Φ :=
  wk_of (pk_cons pe_w pk_w) fun σ G H a Q q => h σ G H a _ fun ρ M1 x G1 H1 h1 s1 a1 r1 => h1 σ G1 H1 a1 _ fun ρs M2 xs G2 H2 h2 s2 a2 r2 =>
    q (ρ :: ρs) M2 (x :: xs) G2 H2 h2 (s1.trans s2) a2 ⟨ρ.mono _ _ _ s2 r1, r2⟩
theorem szOf {n : Nat} (h : n ≤ 100000) : n ≤ sizeLine := Nat.le_trans h (by decide)
theorem we_tup {es : List Expr} {x1} (h : WA X E Γ M es fun ρs M' => ρs.length ≤ 100000 ∧ Φ (RTt ρs) M') : WE X E Γ M (.Tuple es x1 pos) Φ :=
  we_of (pe_tup pa_w) fun σ G H a Q q => h σ G H a _ fun ρs M' vs G1 H1 ⟨hl, hk⟩ s1 a1 r1 => ⟨by rw [← r1.length]; exact szOf hl, fun p hp =>
    let n : New G1 H1 (upd G1 p (.tup vs)) (upd H1 p (.tup vs)) := New.put a1.gh hp
    q _ M' _ _ _ hk (s1.trans n.gg) (a1.new n) ⟨p, vs, rfl, upd_same, r1.mono n.gg⟩⟩
/-- a list, to stay as it is -/
theorem we_lst {es : List Expr} (h : WA X E Γ M es fun ρs M' => ρs.length ≤ 100000 ∧ Φ (RLt ρs) M') : WE X E Γ M (.List es pos) Φ :=
  we_of (pe_lst pa_w) fun σ G H a Q q => h σ G H a _ fun ρs M' vs G1 H1 ⟨hl, hk⟩ s1 a1 r1 => ⟨by rw [← r1.length]; exact szOf hl, fun p hp =>
    let n : New G1 H1 (upd G1 p (.lst vs)) (upd H1 p (.lst vs)) := New.put a1.gh hp
    q _ M' _ _ _ hk (s1.trans n.gg) (a1.new n) ⟨p, vs, rfl, upd_same, r1.mono n.gg⟩⟩
/-- a list, owned -/
theorem we_lstO {es : List Expr} (h : WA X E Γ M es fun ρs M' => ρs.length ≤ 100000 ∧ ∀ p, p ∉ M'.map (·.1) → p ∉ E.M → Φ (RRef p) ((p, OL ρs) :: M')) (hE : ∀ a ∈ E.M, E.H a ≠ none) : WE X E Γ M (.List es pos) Φ :=
  we_of (pe_lst pa_w) fun σ G H a Q q => h σ G H a _ fun ρs M' vs G1 H1 ⟨hl, hk⟩ s1 a1 r1 => ⟨by rw [← r1.length]; exact szOf hl, fun p hp =>
    q _ _ _ _ _ (hk p (a1.freshM hp) fun z => hE p z (a1.fresh hp)) s1 (a1.own1 hp ⟨vs, rfl, r1⟩) rfl⟩

/-! ### subscripts -/
theorem we_ix {r : R2} (hr : IxR X r) (h : WE X E Γ M a fun ρa Ma => WE X E Γ Ma b fun ρb Mb => OpW E Γ Mb r ρa ρb Φ) (hs : PlainIx b := by exact fun _ _ => rfl) : WE X E Γ M (.Subscript a b pos) Φ :=
  we_of (pe_ix hr pe_w pe_w hs) (wte_op h)
/-! ### attributes -/
/-- what a field of a thing is -/
def HasF (K : PySem.W.Frag) (ρ : Rep) (f : Str) (ρf : Rep) : Prop := ∀ v G, ρ.p v G → ∃ a C dx fs w, v = .ref a ∧ G a = some (.ins C dx fs) ∧ Cls K C ∧ NoAttr K C f ∧ fs.lookup f = some w ∧ ρf.p w G
theorem hasF_ins {K : PySem.W.Frag} {C : Addr} {l : List (Str × Rep)} {f : Str} {ρ : Rep} (c : Cls K C) (n : NoAttr K C f) (h : l.lookup f = some ρ) : HasF K (RIns C l) f ρ := fun v G ⟨a, dx, fs, e, hG, r⟩ =>
  let ⟨w, e2, r2⟩ := r.look h; ⟨a, C, dx, fs, w, e, hG, c, n, e2, r2⟩
theorem HasF.sub {K : PySem.W.Frag} {ρ ρ' ρf : Rep} {f : Str} (s : Sub ρ ρ') (h : HasF K ρ' f ρf) : HasF K ρ f ρf := fun v G r => h v G (s v G r)
theorem we_fld {f : Str} (h : WE X E Γ M a fun ρ M' => ∃ ρf, HasF X.K ρ f ρf ∧ Φ ρf M') (hb : attributeBase a f X.env (eval a X.env) = eval a X.env := by rfl) : WE X E Γ M (.Attribute a f pos) Φ :=
  we_of (pe_fld pe_w hb) fun σ G H at' Q q => h σ G H at' _ fun ρ M' v G1 H1 ⟨ρf, hf, hk⟩ s1 a1 r1 =>
    let ⟨b, C, dx, fs, w, e1, e2, c, n, e3, r2⟩ := hf v G1 r1
    ⟨b, C, dx, fs, w, e1, a1.gh _ _ e2, c, n, e3, q ρf M' w G1 H1 hk s1 a1 r2⟩
/-- of an owned object -/
theorem we_fldO {f : Str} (h : WE X E Γ M a fun ρ M' => ∃ p C l ρf u, Sub ρ (RRef p) ∧ Fnd M' p (OIns C l) u ∧ Cls X.K C ∧ NoAttr X.K C f ∧ l.lookup f = some ρf ∧ Φ ρf M') (hb : attributeBase a f X.env (eval a X.env) = eval a X.env := by rfl) : WE X E Γ M (.Attribute a f pos) Φ :=
  we_of (pe_fld pe_w hb) fun σ G H at' Q q => h σ G H at' _ fun ρ M' v G1 H1 ⟨p, C, l, ρf, u, sb, fd, c, n, e3, hk⟩ s1 a1 r1 => by
    obtain ⟨o, e1, dx, fs, e2, r2⟩ := a1.own _ fd.mem
    subst e2
    obtain ⟨w, e4, r4⟩ := r2.look e3
    exact ⟨p, C, dx, fs, w, sb _ _ r1, e1, c, n, e4, q ρf M' w G1 H1 hk s1 a1 r4⟩
/-! ### statements -/
variable {Ψ : Ed} {st : Stmt} {rest : List Stmt}
theorem wss_nil (h : Ψ.nx Γ M) : WSs X E Γ M [] Ψ := wss_of pss_nil fun σ G H a D k => k.nx Γ M h σ G H (Same.refl _) a
theorem wts_seq {t u : TS} (h : WTS E Γ M t { Ψ with nx := fun Γ' M' => WTS E Γ' M' u Ψ }) : WTS E Γ M (tSeq t u) Ψ := fun σ G H a D k =>
  h σ G H a _ ⟨fun Γ' M' h' σ' G' H' s' a' => h' σ' G' H' a' D (k.mono s'), k.rt, k.bk, k.ct⟩
theorem wss_cons (h : WS X E Γ M st { Ψ with nx := fun Γ' M' => WSs X E Γ' M' rest Ψ }) : WSs X E Γ M (st :: rest) Ψ := wss_of (pss_cons ps_w pss_w) (wts_seq h)
theorem wss_one (h : WS X E Γ M st Ψ) : WSs X E Γ M [st] Ψ := wss_of (pss_one ps_w) h
theorem ws_pass (h : Ψ.nx Γ M) : WS X E Γ M (.Pass pos) Ψ := ws_of ps_pass fun σ G H a D k => k.nx Γ M h σ G H (Same.refl _) a
theorem ws_brk (h : Ψ.bk Γ M) : WS X E Γ M (.Break pos) Ψ := ws_of ps_break fun σ G H a D k => k.bk Γ M h σ G H (Same.refl _) a
theorem ws_cont (h : Ψ.ct Γ M) : WS X E Γ M (.Continue pos) Ψ := ws_of ps_continue fun σ G H a D k => k.ct Γ M h σ G H (Same.refl _) a
theorem ws_expr (h : WE X E Γ M e fun _ M' => Ψ.nx Γ M') (hs : swapsWith e none pos.line X.env = pure false := by rfl) : WS X E Γ M (.Expr e pos) Ψ :=
  ws_of (ps_expr pe_w hs) fun σ G H a D k => h σ G H a _ fun ρ M' v G' H' h' s' a' r' => k.nx Γ M' h' σ G' H' s' a'
theorem ws_ret (h : WE X E Γ M e Ψ.rt) : WS X E Γ M (.Return (some e) pos) Ψ :=
  ws_of (ps_ret pe_w) fun σ G H a D k => h σ G H a _ fun ρ M' v G' H' h' s' a' r' => k.rt ρ M' h' v G' H' s' a'.env0 r'
theorem ws_retN (h : Ψ.rt RN M) : WS X E Γ M (.Return none pos) Ψ :=
  ws_of ps_retN fun σ G H a D k => k.rt RN M h _ G H (Same.refl _) a.env0 rfl
theorem ws_if {c : Expr} {b1 b2 : List Stmt} (h : WT X E Γ M c fun k M' => (k = true → WSs X E Γ M' b1 Ψ) ∧ (k = false → WSs X E Γ M' b2 Ψ)) : WS X E Γ M (.If c b1 b2 pos) Ψ :=
  ws_of (ps_if pt_w pss_w pss_w) fun σ G H a D k => h σ G H a _ fun b M' G' H' hk s1 a1 => by
    cases b with
    | true =>
      show tWSs X _ D σ H'
      exact hk.1 rfl σ G' H' a1 D (k.mono s1)
    | false =>
      show tWSs X _ D σ H'
      exact hk.2 rfl σ G' H' a1 D (k.mono s1)
theorem ws_set (i : Nat) {x : Str} {pos' : Pos} (w : Wr1 X i x) (h : WE X E Γ M e fun ρ M' => Ψ.nx (Γ.set i (some ρ)) M') (hs : swapsWith e (some (.Name x pos')) pos.line X.env = pure false := by rfl) : WS X E Γ M (.Assign [.Name x pos'] e pos) Ψ :=
  ws_of (ps_set w.nd w.at_ w.loc pe_w hs w.fn) fun σ G H a D k => h σ G H a _ fun ρ M' v G' H' h' s' a' r' => k.nx _ M' h' _ G' H' s' (a'.set r')
theorem ws_asg {tg : Expr} (h : WE X E Γ M e fun ρ M' => WG X E Γ M' tg ρ Ψ.nx) (hs : swapsWithSole [tg] e pos.line X.env = pure false := by rfl) (hw : swappedStores [tg] e X.env = pure none := by rfl)
    (h1 : (assignEach [tg] X.env).map (·.2) = [assign tg X.env] := by rfl) : WS X E Γ M (.Assign [tg] e pos) Ψ :=
  ws_of (ps_asg pe_w pg_w hs hw h1) fun σ G H a D k => h σ G H a _ fun ρ M' v G' H' h' s' a' r' => h' σ G' H' a' v r' _ fun Γ2 M2 σ2 G2 H2 h2 s2 a2 => k.nx Γ2 M2 h2 σ2 G2 H2 (s'.trans s2) a2
/-- a, b = x, y with plain local names -/
theorem ws_par (i j : Nat) {x y : Str} {px py pt : Pos} {kt k2 pt2} (hc : X.calm = true) (wi : Wr1 X i x) (wj : Wr1 X j y) (hij : i ≠ j) (hx : X.env.scope.names.lookup x = some .local) (hy : X.env.scope.names.lookup y = some .local)
    (hw : swappedStores [.Tuple [.Name x px, .Name y py] kt pt] (.Tuple [a, b] k2 pt2) X.env = pure (some [x, y]))
    (h : WA X E Γ M [a, b] fun ρs M' => ∃ ρ1 ρ2, ρs = [ρ1, ρ2] ∧ Ψ.nx ((Γ.set i (some ρ1)).set j (some ρ2)) M')
    (hs : swapsWithSole [.Tuple [.Name x px, .Name y py] kt pt] (.Tuple [a, b] k2 pt2) pos.line X.env = pure false := by rfl) : WS X E Γ M (.Assign [.Tuple [.Name x px, .Name y py] kt pt] (.Tuple [a, b] k2 pt2) pos) Ψ :=
  ws_of (ps_par hc wi.nd wi.at_ wj.at_ hij hx hy pa_w hw hs) fun σ G H a D k => h σ G H a _ fun ρs M' vs G' H' ⟨ρ1, ρ2, e, h'⟩ s' a' r' => by
    subst e
    match vs, r' with
    | [v, w], ⟨r1, r2, _⟩ => exact ⟨v, w, rfl, k.nx _ M' h' _ G' H' s' ((a'.set r1).set r2)⟩
theorem ws_aug (i : Nat) {x : Str} {pos' : Pos} {op : Operator} {r : R2} (w : Wr1 X i x) (ho : OpR X (inplaceOp op) r) {ρ : Rep} (hΓ : Γ[i]? = some (some ρ)) (h : WE X E Γ M e fun ρb M' => OpW E Γ M' r ρ ρb fun ρ' M2 => Ψ.nx (Γ.set i (some ρ')) M2) :
    WS X E Γ M (.AugAssign (.Name x pos') op e pos) Ψ :=
  ws_of (ps_aug (ti := r) w.nd w.at_ w.loc pe_w (fun pins s σ H x y v u Q I r1 r2 hh => augR ho I r1 r2 hh) w.fn) fun σ G H a D k => by
    obtain ⟨v, e1, r1⟩ := a.env i ρ hΓ
    exact ⟨v, e1, h σ G H a _ fun ρb M' y G' H' h' s' a' r' => h' σ G' H' a' v y (ρ.mono _ _ _ s' r1) r' _ fun ρ2 M2 z G2 H2 h2 s2 a2 r2 => k.nx _ M2 h2 _ G2 H2 (s'.trans s2) (a2.set r2)⟩

/-! ### targets -/
variable {ρ : Rep} {Ξ : Gm → Ow → Prop}
theorem wg_name (i : Nat) {x : Str} (w : Wr1 X i x) (h : Ξ (Γ.set i (some ρ)) M) : WG X E Γ M (.Name x pos) ρ Ξ :=
  wg_of (pg_name w.nd w.at_ w.loc w.fn) fun σ G H a v r Q k => k _ M _ G H h (Same.refl _) (a.set r)
theorem wgs_nil (h : Ξ Γ M) : WGs X E Γ M [] [] Ξ :=
  wgs_of pgs_nil fun σ G H a vs r Q k => by
    match vs, r with
    | [], _ => exact ⟨rfl, k _ M _ G H h (Same.refl _) a⟩
theorem wgs_cons {es : List Expr} {ρs : List Rep} (h : WG X E Γ M e ρ fun Γ' M' => WGs X E Γ' M' es ρs Ξ) (hs : (assignEach (e :: es) X.env).map (·.2) = assign e X.env :: (assignEach es X.env).map (·.2) := by rfl) : WGs X E Γ M (e :: es) (ρ :: ρs) Ξ :=
  wgs_of (pgs_cons pg_w pgs_w hs) fun σ G H a vs r Q k => by
    match vs, r with
    | v :: vs, ⟨r1, r2⟩ => exact ⟨v, vs, rfl, h σ G H a v r1 _ fun Γ' M' σ' G' H' h' s' a' => h' σ' G' H' a' vs (r2.mono s') Q fun Γ2 M2 σ2 G2 H2 h2 s2 a2 => k Γ2 M2 σ2 G2 H2 h2 (s'.trans s2) a2⟩
theorem wg_tup {es : List Expr} {k0 : Nat} {n : Nat} {ρs : List Rep} (hc : X.calm = true) (hsub : Sub ρ (RT X.K ρs)) (hl : ρs.length = n) (h : WGs X E Γ M es ρs Ξ) (hn : (assignEach es X.env).length = n := by rfl) (hst : (assignEach es X.env).findIdx? (·.1) = none := by rfl) : WG X E Γ M (.Tuple es k0 pos) ρ Ξ :=
  wg_of (pg_tup hc pgs_w hn hst) fun σ G H a v r Q k => by
    obtain ⟨b, vs, e, hq, rr⟩ := hsub _ _ r
    exact ⟨b, vs, e, same_seqT a.gh hq, by rw [← rr.length]; exact hl, h σ G H a vs rr Q k⟩
end
end MM

namespace MM
open PySem L2 PyProof.Rows
/-! ### what a def promises -/
structure Con where
  I : Type
  B : Type
  pre : I → Prop
  args : I → List Rep
  own : I → Ow
  post : I → B → Prop
  res : I → B → Rep
  own' : I → B → Ow
structure Aft (G H G' H' : Hp) (o o' : Ow) : Prop where
  gg : Same G G'
  gh : Same G' H'
  keep : ∀ a u, a ∉ o.map (·.1) → H a = some u → H' a = some u
  nw : ∀ a, H a ≠ none → G' a ≠ none → G a ≠ none
  own : ∀ q ∈ o', ∃ u, H' q.1 = some u ∧ q.2.p u G'
  gn : ∀ q ∈ o', G' q.1 = none
  nd : (o'.map (·.1)).Nodup
  loc : ∀ q ∈ o', q.1 ∈ o.map (·.1) ∨ H q.1 = none
  there : ∀ a, H a ≠ none → H' a ≠ none
def conSp (c : Con) : Sp := fun vs H Q _ => ∃ (G : Hp) (i : c.I), Same G H ∧ c.pre i ∧ Reps (c.args i) vs G ∧ (∀ q ∈ c.own i, ∃ o, H q.1 = some o ∧ q.2.p o G) ∧ (∀ q ∈ c.own i, G q.1 = none) ∧ ((c.own i).map (·.1)).Nodup ∧
  ∀ x v G' H', c.post i x → Aft G H G' H' (c.own i) (c.own' i x) → (c.res i x).p v G' → Q v H'
/-- own is picked out of M, rest is left -/
inductive Pk : Ow → Ow → Ow → Prop
  | nil {M : Ow} : Pk M [] M
  | cons {M M1 own rest : Ow} {p : Addr} {r r' : ORep} : Rm M p r M1 → OSub r r' → Pk M1 own rest → Pk M ((p, r') :: own) rest
structure PkF (M ow re : Ow) : Prop where
  own : ∀ q ∈ ow, ∃ q' ∈ M, q'.1 = q.1 ∧ OSub q'.2 q.2
  rest : ∀ q ∈ re, q ∈ M
  dis : ∀ q ∈ re, q.1 ∉ ow.map (·.1)
  nd : (re.map (·.1)).Nodup
  ndo : (ow.map (·.1)).Nodup
theorem Pk.f {M own rest : Ow} (h : Pk M own rest) : (M.map (·.1)).Nodup → PkF M own rest := by
  induction h with
  | nil => exact fun nd => ⟨fun q hq => (List.not_mem_nil hq).elim, fun q hq => hq, fun q _ hq => (List.not_mem_nil hq).elim, nd, List.nodup_nil⟩
  | @cons M M1 own rest p r r' rm os pk ih =>
    intro nd
    obtain ⟨nd1, np⟩ := rm.nd nd
    have f := ih nd1
    refine ⟨fun q hq => ?_, fun q hq => rm.sub q (f.rest q hq), fun q hq hm => ?_, f.nd, ?_⟩
    · rcases List.mem_cons.mp hq with e | hq
      · subst e; exact ⟨_, rm.mem, rfl, os⟩
      · obtain ⟨q', h1, h2⟩ := f.own q hq
        exact ⟨q', rm.sub q' h1, h2⟩
    · rw [List.map_cons, List.mem_cons] at hm
      rcases hm with e | hm
      · exact np (List.mem_map.mpr ⟨q, f.rest q hq, e⟩)
      · exact f.dis q hq hm
    · rw [List.map_cons, List.nodup_cons]
      refine ⟨fun hm => ?_, f.ndo⟩
      obtain ⟨z, hz, e⟩ := List.mem_map.mp hm
      obtain ⟨q', h1, h2, _⟩ := f.own z hz
      exact np (List.mem_map.mpr ⟨q', h1, h2.trans e⟩)
section
variable {E : En} {Γ : Gm} {M own own' rest : Ow} {σ : L2.St} {G H G' H' : Hp}
theorem At.picked (a : At E Γ M σ G H) (pk : Pk M own rest) : (∀ q ∈ own, ∃ o, H q.1 = some o ∧ q.2.p o G) ∧ (∀ q ∈ own, G q.1 = none) ∧ (own.map (·.1)).Nodup := by
  have f := pk.f a.nd
  refine ⟨fun q hq => ?_, fun q hq => ?_, f.ndo⟩
  · obtain ⟨q', h1, h2, h3⟩ := f.own q hq
    obtain ⟨o, e, r⟩ := a.own q' h1
    exact ⟨o, by rw [← h2]; exact e, h3 _ _ r⟩
  · obtain ⟨q', h1, h2, h3⟩ := f.own q hq
    rw [← h2]; exact a.gn q' h1
theorem At.aft (a : At E Γ M σ G H) (pk : Pk M own rest) (t : Aft G H G' H' own own') : At E Γ (own' ++ rest) σ G' H' := by
  have f := pk.f a.nd
  have inM : ∀ x, x ∈ own.map (·.1) → ∃ q ∈ M, q.1 = x := fun x hx => by
    obtain ⟨z, hz, e⟩ := List.mem_map.mp hx
    obtain ⟨q', h1, h2, _⟩ := f.own z hz
    exact ⟨q', h1, h2.trans e⟩
  refine ⟨a.len, fun i ρ h => let ⟨v, e, r⟩ := a.env i ρ h; ⟨v, e, ρ.mono _ _ _ t.gg r⟩, t.gh, fun q hq => ?_, fun q hq => ?_, ?_, a.g0.trans t.gg, fun x o h1 h2 => ?_, fun x h1 h2 => a.nw x h1 (t.nw x (a.there x h1) h2), fun q hq => ?_, fun x h => t.there x (a.there x h)⟩
  · rcases List.mem_append.mp hq with hq | hq
    · exact t.own q hq
    · obtain ⟨o, e, r⟩ := a.own q (f.rest q hq)
      exact ⟨o, t.keep _ _ (f.dis q hq) e, q.2.mono _ _ _ t.gg r⟩
  · rcases List.mem_append.mp hq with hq | hq
    · exact t.gn q hq
    · obtain ⟨o, e, r⟩ := a.own q (f.rest q hq)
      cases z : G' q.1 with
      | none => rfl
      | some u => exact absurd (a.gn q (f.rest q hq)) (t.nw q.1 (ne_none e) (ne_none z))
  · rw [List.map_append, List.nodup_append]
    refine ⟨t.nd, f.nd, fun x hx y hy e => ?_⟩
    obtain ⟨q, hq, e1⟩ := List.mem_map.mp hx
    obtain ⟨z, hz, e2⟩ := List.mem_map.mp hy
    have e3 : q.1 = z.1 := e1.trans (e.trans e2.symm)
    rcases t.loc q hq with h | h
    · exact f.dis z hz (by rw [← e3]; exact h)
    · obtain ⟨o, e4, _⟩ := a.own z (f.rest z hz)
      rw [← e3, h] at e4; cases e4
  · have h3 := a.keep x o h1 h2
    refine t.keep x o (fun hm => ?_) h3
    obtain ⟨q, hq, e⟩ := inM x hm
    rcases a.loc q hq with z | z
    · rw [e] at z; exact h1 z
    · rw [e, h2] at z; cases z
  · rcases List.mem_append.mp hq with hq | hq
    · rcases t.loc q hq with h | h
      · obtain ⟨q', h1, h2⟩ := inM _ h
        rw [← h2]; exact a.loc q' h1
      · exact .inr (a.fresh h)
    · exact a.loc q (f.rest q hq)
end
/-- what is left to show at a call: the values are as the promise asks, the owned things are there; behind it goes on -/
def CallK (c : Con) (ρs : List Rep) (M : Ow) (Φ : Rep → Ow → Prop) : Prop :=
  ∃ (i : c.I) (rest : Ow), c.pre i ∧ SubL ρs (c.args i) ∧ Pk M (c.own i) rest ∧ ∀ x, c.post i x → Φ (c.res i x) (c.own' i x ++ rest)
theorem callK_run {E : En} {Γ : Gm} {M : Ow} {σ : L2.St} {G H : Hp} {c : Con} {ρs : List Rep} {vs : List V} {Φ : Rep → Ow → Prop} {Q : VK} {EE : XK} (h : CallK c ρs M Φ) (a : At E Γ M σ G H) (r : Reps ρs vs G)
    (k : ∀ ρ M' v G' H', Φ ρ M' → Same G G' → At E Γ M' σ G' H' → ρ.p v G' → Q v H') : conSp c vs H Q EE := by
  obtain ⟨i, rest, hp, sb, pk, hk⟩ := h
  obtain ⟨o1, o2, o3⟩ := a.picked pk
  exact ⟨G, i, a.gh, hp, sb.reps r, o1, o2, o3, fun x v G' H' px t rv => k _ _ v G' H' (hk x px) t.gg (a.aft pk t) rv⟩
/-- a def that the module's name x holds; dvs: the defaults that fill up -/
def Kn (P : Program) (w : World) (K : PySem.W.Frag) (mg : Str → Option Value) (base : Heap) (k : Nat) (x : Str) (dvs : List V) (c : Con) : Prop :=
  ∃ (f : Addr) (fd : FuncData) (ps : List Str) (ds : List Value), mg x = some (.ref f) ∧ PySem.W.keepIn K (.ref f) = true ∧ Binds K fd ps ds ∧ Vals dvs ds ∧ FnOk P w K mg base CX0 k f fd ps (conSp c)
theorem reps_RV {G : Hp} : ∀ dvs : List V, Reps (dvs.map RV) dvs G
  | [] => trivial
  | _ :: dvs => ⟨rfl, reps_RV dvs⟩
section
variable {X : Cx} {E : En} {Γ : Gm} {M : Ow} {a b e : Expr} {es : List Expr} {pos p apos : Pos} {Φ : Rep → Ow → Prop} {k : Nat} {x : Str} {dvs : List V} {c : Con}
theorem we_call (F : Kn X.prog X.w X.K X.mg X.base k x dvs c) (hr : Room k X.A) (hg : Gl X x) (hx : Passes CX0 X E0)
    (h : WA X E Γ M (e :: es) fun ρs M' => CallK c (ρs ++ dvs.map RV) M' Φ)
    (hdb : (x == ("__debug__" : Str)) = false := by decide) (he : starEach (e :: es) X.env = (false, eval e X.env) :: starEach es X.env := by rfl) (hpl : (backTo pos (starEach es X.env)).any (·.1) = false := by rfl) :
    WE X E Γ M (.Call (.Name x p) (e :: es) [] pos) Φ := by
  obtain ⟨f, fd, ps, ds, hm, hk, hb, hd, F⟩ := F
  refine we_of (pe_call F hr hg hm hk hb hd hx pa_w hdb he hpl) fun σ G H a Q q => ?_
  exact h σ G H a _ fun ρs M' vs G1 H1 hh s1 a1 r1 => callK_run hh a1 (r1.app (reps_RV dvs)) fun ρ M2 v G2 H2 h2 s2 => q ρ M2 v G2 H2 h2 (s1.trans s2)
theorem we_call0 (F : Kn X.prog X.w X.K X.mg X.base k x dvs c) (hr : Room k X.A) (hg : Gl X x) (hx : Passes CX0 X E0)
    (h : CallK c (dvs.map RV) M Φ) (hdb : (x == ("__debug__" : Str)) = false := by decide) : WE X E Γ M (.Call (.Name x p) [] [] pos) Φ := by
  obtain ⟨f, fd, ps, ds, hm, hk, hb, hd, F⟩ := F
  refine we_of (pe_call0 F hr hg hm hk hb hd hx hdb) fun σ G H a Q q => ?_
  show conSp c ([] ++ dvs) H Q E0
  exact callK_run h a (reps_RV dvs) q
/-! ### methods of own classes -/
def KnM (P : Program) (w : World) (K : PySem.W.Frag) (mg : Str → Option Value) (base : Heap) (k : Nat) (C : Addr) (m : Str) (dvs : List V) (c : Con) : Prop :=
  ∃ (f : Addr) (fd : FuncData) (ps : List Str) (ds : List Value), Meth K C m f ∧ Cls K C ∧ Binds K fd ps ds ∧ Vals dvs ds ∧ FnOk P w K mg base CX0 k f fd ps (conSp c)
def HasI (ρ : Rep) (C : Addr) (m : Str) : Prop := ∀ v G, ρ.p v G → ∃ a dx fs, v = .ref a ∧ G a = some (.ins C dx fs) ∧ fs.lookup m = none
theorem hasI_ins {C : Addr} {l : List (Str × Rep)} {m : Str} (h : l.lookup m = none) : HasI (RIns C l) C m := fun v G ⟨a, dx, fs, e, hG, r⟩ => ⟨a, dx, fs, e, hG, r.miss h⟩
theorem HasI.sub {ρ ρ' : Rep} {C : Addr} {m : Str} (s : Sub ρ ρ') (h : HasI ρ' C m) : HasI ρ C m := fun v G r => h v G (s v G r)
theorem we_meth {C : Addr} {m : Str} {o : Expr} {pl : Sem Bool} (F : KnM X.prog X.w X.K X.mg X.base k C m dvs c) (hr : Room k X.A) (hx : Passes CX0 X E0)
    (h : WE X E Γ M o fun ρ M1 => HasI ρ C m ∧ WA X E Γ M1 (e :: es) fun ρs M' => CallK c (ρ :: (ρs ++ dvs.map RV)) M' Φ)
    (hst : starEach (e :: es) X.env = (false, eval e X.env) :: starEach es X.env := by rfl) (hpl : (backTo pos (starEach es X.env)).any (·.1) = false := by rfl)
    (ht : eval (.Call (.Attribute o m apos) (e :: es) [] pos) X.env = (do
      let ov ← eval o X.env
      standAt apos.atName
      let (f, first) ← holding [ov] (getMethod ov m pl)
      callWith pos f first (backTo pos (starEach (e :: es) X.env)) (backToKw pos (keywordEach [] X.env))) := by rfl) :
    WE X E Γ M (.Call (.Attribute o m apos) (e :: es) [] pos) Φ := by
  obtain ⟨f, fd, ps, ds, hm, hc, hb, hd, F⟩ := F
  refine we_of (pe_meth pe_w hc hm F hr hb hd hx pa_w hst hpl ht) fun σ G H a Q q => ?_
  exact h σ G H a _ fun ρ M1 v G1 H1 ⟨hi, h1⟩ s1 a1 r1 => by
    obtain ⟨b, dx, fs, e1, e2, e3⟩ := hi v G1 r1
    refine ⟨b, dx, fs, e1, a1.gh _ _ e2, e3, h1 σ G1 H1 a1 _ fun ρs M' vs G2 H2 hh s2 a2 r2 => ?_⟩
    exact callK_run hh a2 ⟨ρ.mono _ _ _ s2 r1, r2.app (reps_RV dvs)⟩ fun ρ' M3 w G3 H3 h3 s3 => q ρ' M3 w G3 H3 h3 ((s1.trans s2).trans s3)
theorem we_meth0 {C : Addr} {m : Str} {o : Expr} {pl : Sem Bool} (F : KnM X.prog X.w X.K X.mg X.base k C m dvs c) (hr : Room k X.A) (hx : Passes CX0 X E0)
    (h : WE X E Γ M o fun ρ M1 => HasI ρ C m ∧ CallK c (ρ :: dvs.map RV) M1 Φ)
    (ht : eval (.Call (.Attribute o m apos) [] [] pos) X.env = (do
      let ov ← eval o X.env
      standAt apos.atName
      let (f, first) ← holding [ov] (getMethod ov m pl)
      callWith pos f first (backTo pos (starEach [] X.env)) (backToKw pos (keywordEach [] X.env))) := by rfl) :
    WE X E Γ M (.Call (.Attribute o m apos) [] [] pos) Φ := by
  obtain ⟨f, fd, ps, ds, hm, hc, hb, hd, F⟩ := F
  refine we_of (pe_meth0 pe_w hc hm F hr hb hd hx ht) fun σ G H a Q q => ?_
  exact h σ G H a _ fun ρ M1 v G1 H1 ⟨hi, h1⟩ s1 a1 r1 => by
    obtain ⟨b, dx, fs, e1, e2, e3⟩ := hi v G1 r1
    refine ⟨b, dx, fs, e1, a1.gh _ _ e2, e3, ?_⟩
    show conSp c (v :: ([] ++ dvs)) H1 Q E0
    exact callK_run h1 a1 ⟨r1, reps_RV dvs⟩ fun ρ' M3 w G3 H3 h3 s3 => q ρ' M3 w G3 H3 h3 (s1.trans s3)
/-! ### a new object -/
def KnC (P : Program) (w : World) (K : PySem.W.Frag) (mg : Str → Option Value) (base : Heap) (k : Nat) (x : Str) (C : Addr) (dvs : List V) (c : Con) : Prop :=
  ∃ (f : Addr) (fd : FuncData) (ps : List Str) (ds : List Value), mg x = some (.ref C) ∧ Mk K C f ∧ Binds K fd ps ds ∧ Vals dvs ds ∧ FnOk P w K mg base CX0 k f fd ps (conSp c)
/-- __init__ is called on a new thing at p; behind it the thing is to stay as it is -/
def MakeK (E : En) (C : Addr) (c : Con) (ρs : List Rep) (M : Ow) (Φ : Rep → Ow → Prop) : Prop :=
  ∀ p, p ∉ M.map (·.1) → p ∉ E.M → CallK c (RRef p :: ρs) ((p, OIns C []) :: M) fun ρ M' => Sub ρ RN ∧ ∃ l M2, Rm M' p (OIns C l) M2 ∧ Φ (RIns C l) M2
/-- .. or to stay owned -/
def MakeO (E : En) (C : Addr) (c : Con) (ρs : List Rep) (M : Ow) (Φ : Rep → Ow → Prop) : Prop :=
  ∀ p, p ∉ M.map (·.1) → p ∉ E.M → CallK c (RRef p :: ρs) ((p, OIns C []) :: M) fun ρ M' => Sub ρ RN ∧ Φ (RRef p) M'
theorem make_run {C : Addr} {σ : L2.St} {G H : Hp} {ρs : List Rep} {vs : List V} {Q : VK} (hE : ∀ a ∈ E.M, E.H a ≠ none) (h : MakeK E C c ρs M Φ) (a : At E Γ M σ G H) (r : Reps ρs vs G)
    (q : ∀ ρ M' v G' H', Φ ρ M' → Same G G' → At E Γ M' σ G' H' → ρ.p v G' → Q v H') :
    ∀ x dx, H x = none → H dx = none → dx ≠ x → conSp c (.ref x :: vs) (upd (upd H dx (.own x)) x (.ins C dx [])) (fun v H2 => v = .non ∧ Q (.ref x) H2) E0 := fun x dx nx nd ne => by
  have n1 : New G H G (upd H dx (.own x)) := New.side a.gh nd
  have a1 := a.new n1
  have nx1 : upd H dx (.own x) x = none := by rw [upd_ne (Ne.symm ne)]; exact nx
  have hpE : x ∉ E.M := fun z => hE x z (a.fresh nx)
  have a2 := a1.own1 (r := OIns C []) nx1 ⟨dx, [], rfl, trivial⟩
  refine callK_run (h x (a.freshM nx) hpE) a2 ⟨rfl, r⟩ fun ρ M' v G' H' ⟨sb, l, M2, rm, hΦ⟩ s' a' r' => ⟨sb _ _ r', ?_⟩
  obtain ⟨o, e1, ⟨dx', fs, e2, rf⟩, sg, a3⟩ := a'.freeze rm hpE
  subst e2
  exact q _ _ _ _ _ hΦ (s'.trans sg) a3 ⟨x, dx', fs, rfl, upd_same, rf.mono sg⟩
theorem makeO_run {C : Addr} {σ : L2.St} {G H : Hp} {ρs : List Rep} {vs : List V} {Q : VK} (hE : ∀ a ∈ E.M, E.H a ≠ none) (h : MakeO E C c ρs M Φ) (a : At E Γ M σ G H) (r : Reps ρs vs G)
    (q : ∀ ρ M' v G' H', Φ ρ M' → Same G G' → At E Γ M' σ G' H' → ρ.p v G' → Q v H') :
    ∀ x dx, H x = none → H dx = none → dx ≠ x → conSp c (.ref x :: vs) (upd (upd H dx (.own x)) x (.ins C dx [])) (fun v H2 => v = .non ∧ Q (.ref x) H2) E0 := fun x dx nx nd ne => by
  have n1 : New G H G (upd H dx (.own x)) := New.side a.gh nd
  have a1 := a.new n1
  have nx1 : upd H dx (.own x) x = none := by rw [upd_ne (Ne.symm ne)]; exact nx
  have hpE : x ∉ E.M := fun z => hE x z (a.fresh nx)
  have a2 := a1.own1 (r := OIns C []) nx1 ⟨dx, [], rfl, trivial⟩
  exact callK_run (h x (a.freshM nx) hpE) a2 ⟨rfl, r⟩ fun ρ M' v G' H' ⟨sb, hΦ⟩ s' a' r' => ⟨sb _ _ r', q _ _ _ _ _ hΦ s' a' rfl⟩
theorem we_make {C : Addr} (F : KnC X.prog X.w X.K X.mg X.base k x C dvs c) (hr : Room (k + 1) X.A) (hg : Gl X x) (hx : Passes CX0 X E0) (hE : ∀ a ∈ E.M, E.H a ≠ none)
    (h : WA X E Γ M (e :: es) fun ρs M' => MakeK E C c (ρs ++ dvs.map RV) M' Φ)
    (hdb : (x == ("__debug__" : Str)) = false := by decide) (he : starEach (e :: es) X.env = (false, eval e X.env) :: starEach es X.env := by rfl) (hpl : (backTo pos (starEach es X.env)).any (·.1) = false := by rfl) :
    WE X E Γ M (.Call (.Name x p) (e :: es) [] pos) Φ := by
  obtain ⟨f, fd, ps, ds, hm, Mk, hb, hd, F⟩ := F
  refine we_of (pe_make Mk F hr hg hm hb hd hx pa_w hdb he hpl) fun σ G H a Q q => ?_
  exact h σ G H a _ fun ρs M' vs G1 H1 hh s1 a1 r1 => make_run hE hh a1 (r1.app (reps_RV dvs)) fun ρ M2 v G2 H2 h2 s2 => q ρ M2 v G2 H2 h2 (s1.trans s2)
theorem we_makeO {C : Addr} (F : KnC X.prog X.w X.K X.mg X.base k x C dvs c) (hr : Room (k + 1) X.A) (hg : Gl X x) (hx : Passes CX0 X E0) (hE : ∀ a ∈ E.M, E.H a ≠ none)
    (h : WA X E Γ M (e :: es) fun ρs M' => MakeO E C c (ρs ++ dvs.map RV) M' Φ)
    (hdb : (x == ("__debug__" : Str)) = false := by decide) (he : starEach (e :: es) X.env = (false, eval e X.env) :: starEach es X.env := by rfl) (hpl : (backTo pos (starEach es X.env)).any (·.1) = false := by rfl) :
    WE X E Γ M (.Call (.Name x p) (e :: es) [] pos) Φ := by
  obtain ⟨f, fd, ps, ds, hm, Mk, hb, hd, F⟩ := F
  refine we_of (pe_make Mk F hr hg hm hb hd hx pa_w hdb he hpl) fun σ G H a Q q => ?_
  exact h σ G H a _ fun ρs M' vs G1 H1 hh s1 a1 r1 => makeO_run hE hh a1 (r1.app (reps_RV dvs)) fun ρ M2 v G2 H2 h2 s2 => q ρ M2 v G2 H2 h2 (s1.trans s2)

/-! ### stores into owned things -/
variable {Ψ : Ed} {Ξ : Gm → Ow → Prop}
theorem putR_new {f : Str} {ρ : Rep} : ∀ {l : List (Str × Rep)}, l.lookup f = none → putR f ρ l = l ++ [(f, ρ)]
  | [], _ => rfl
  | (g, r) :: l, h => by
    rw [List.lookup_cons] at h
    cases q : f == g with
    | true => rw [q] at h; simp at h
    | false =>
      rw [q] at h
      have ne : ¬ g = f := fun z => by subst z; simp at q
      unfold putR
      rw [if_neg ne, putR_new (l := l) h]; rfl
theorem ws_fld {o value : Expr} {f : Str} {pos' : Pos} (h : WE X E Γ M value fun ρv M1 => WE X E Γ M1 o fun ρo M2 => ∃ p C l u, Sub ρo (RRef p) ∧ Fnd M2 p (OIns C l) u ∧ Cls X.K C ∧ NoAttr X.K C f ∧ l.length < 1000 ∧ Ψ.nx Γ (u (OIns C (putR f ρv l))))
    (hs : swapsWith value (some (.Attribute o f pos')) pos.line X.env = pure false := by rfl) : WS X E Γ M (.Assign [.Attribute o f pos'] value pos) Ψ :=
  ws_of (ps_fld pe_w pe_w hs) fun σ G H a D k => h σ G H a _ fun ρv M1 v G1 H1 h1 s1 a1 r1 => h1 σ G1 H1 a1 _ fun ρo M2 y G2 H2 ⟨p, C, l, u, sb, fd, cl, na, hl, hk⟩ s2 a2 r2 => by
    obtain ⟨o, e1, dx, fs, e2, rf⟩ := a2.own _ fd.mem
    subst e2
    refine ⟨p, C, dx, fs, sb _ _ r2, e1, cl, na, by rw [← rf.len]; exact hl, ?_⟩
    exact k.nx _ _ hk _ _ _ (s1.trans s2) (a2.write fd ⟨dx, _, rfl, rf.put (ρv.mono _ _ _ s2 r1)⟩)
theorem wg_setL {o i : Expr} {ρ : Rep} (h : WE X E Γ M o fun ρo M1 => WE X E Γ M1 i fun ρi M2 => ∃ p ρs z j u, Sub ρo (RRef p) ∧ Sub ρi (RI z) ∧ Fnd M2 p (OL ρs) u ∧ ixN ρs.length z = some j ∧ Ξ Γ (u (OL (ρs.set j ρ))))
    (ha : ∀ v, assign (.Subscript o i pos) X.env v = (do
      let ov ← holding [v] (eval o X.env)
      let iv ← holding [v, ov] (eval i X.env)
      standAt pos
      holding [v, ov, iv] (setItem ov iv v)
      release [v, ov, iv] []) := by intro _; rfl) : WG X E Γ M (.Subscript o i pos) ρ Ξ :=
  wg_of (pg_sub pe_w pe_w set_list ha) fun σ G H a v r Q k => h σ G H a _ fun ρo M1 y G1 H1 h1 s1 a1 r1 => h1 σ G1 H1 a1 _ fun ρi M2 w G2 H2 ⟨p, ρs, z, j, u, sb, si, fd, hj, hk⟩ s2 a2 r2 => by
    obtain ⟨o, e1, vs, e2, rf⟩ := a2.own _ fd.mem
    subst e2
    refine ⟨p, vs, z, j, sb _ _ (ρo.mono _ _ _ s2 r1), si _ _ r2, e1, by rw [← rf.length]; exact hj, ?_⟩
    exact k _ _ _ _ _ hk (s1.trans s2) (a2.write fd ⟨_, rfl, rf.set (ρ.mono _ _ _ (s1.trans s2) r) j⟩)
/-! ### methods of built-in types -/
def MtW (E : En) (Γ : Gm) (M : Ow) (r : V → List V → Hp → VK → Prop) (ρo : Rep) (ρs : List Rep) (Φ : Rep → Ow → Prop) : Prop :=
  ∀ σ G H, At E Γ M σ G H → ∀ x vs, ρo.p x G → Reps ρs vs G → ∀ Q : VK, (∀ ρ M' v G' H', Φ ρ M' → Same G G' → At E Γ M' σ G' H' → ρ.p v G' → Q v H') → r x vs H Q
def TyW (E : En) (Γ : Gm) (M : Ow) (K : PySem.W.Frag) (T : String) (ρo : Rep) : Prop := ∀ σ G H, At E Γ M σ G H → ∀ x, ρo.p x G → tyV K T x H
theorem we_bm {o : Expr} {name : Str} {T id : String} {r : V → List V → Hp → VK → Prop} (pa : PlainAttrs T) (slot : Slot T name id) (hty : typeOf (.builtin id) = pure (.type "method_descriptor")) (hm : MtR X id r)
    (h : WE X E Γ M o fun ρo M1 => TyW E Γ M1 X.K T ρo ∧ WA X E Γ M1 (e :: es) fun ρs M2 => MtW E Γ M2 r ρo ρs Φ)
    (hbase : attributeBase o name X.env (eval o X.env) = eval o X.env := by rfl)
    (hfew : ((backTo pos (starEach (e :: es) X.env)).all (fun x => !x.1) && (backToKw pos (keywordEach [] X.env)).all (fun x => x.1.isSome)
      && decide ((e :: es).length + ([] : List Keyword).length + (if ([] : List Keyword).isEmpty then 0 else 1) < 30)) = true := by rfl)
    (hline : (apos.endLine == pos.line) = true := by rfl) (hs : starEach (e :: es) X.env = (false, eval e X.env) :: starEach es X.env := by rfl) (hplain : (backTo pos (starEach es X.env)).any (·.1) = false := by rfl) :
    WE X E Γ M (.Call (.Attribute o name apos) (e :: es) [] pos) Φ :=
  we_of (pe_bm pa slot hty hm pe_w pa_w hbase hfew hline hs hplain) fun σ G H a Q q => h σ G H a _ fun ρo M1 y G1 H1 ⟨ty, h1⟩ s1 a1 r1 =>
    ⟨ty σ G1 H1 a1 y r1, h1 σ G1 H1 a1 _ fun ρs M2 vs G2 H2 h2 s2 a2 r2 => h2 σ G2 H2 a2 y vs (ρo.mono _ _ _ s2 r1) r2 Q fun ρ M3 v G3 H3 h3 s3 => q ρ M3 v G3 H3 h3 ((s1.trans s2).trans s3)⟩
theorem we_bm0 {o : Expr} {name : Str} {T id : String} {r : V → List V → Hp → VK → Prop} (pa : PlainAttrs T) (slot : Slot T name id) (hty : typeOf (.builtin id) = pure (.type "method_descriptor")) (hm : MtR X id r)
    (h : WE X E Γ M o fun ρo M1 => TyW E Γ M1 X.K T ρo ∧ MtW E Γ M1 r ρo [] Φ)
    (hbase : attributeBase o name X.env (eval o X.env) = eval o X.env := by rfl) (hline : (apos.endLine == pos.line) = true := by rfl) :
    WE X E Γ M (.Call (.Attribute o name apos) [] [] pos) Φ :=
  we_of (pe_bm0 pa slot hty hm pe_w hbase hline) fun σ G H a Q q => h σ G H a _ fun ρo M1 y G1 H1 ⟨ty, h1⟩ s1 a1 r1 =>
    ⟨ty σ G1 H1 a1 y r1, h1 σ G1 H1 a1 y [] r1 trivial Q fun ρ M3 v G3 H3 h3 s3 => q ρ M3 v G3 H3 h3 (s1.trans s3)⟩
theorem tyw_str {K : PySem.W.Frag} {s : Str} : TyW E Γ M K "str" (RS s) := fun σ G H a x h => by
  have h : x = .str s := h
  subst h; rfl
theorem tyw_listO {K : PySem.W.Frag} {p : Addr} {ρ : Rep} {ρs : List Rep} {u : ORep → Ow} (sb : Sub ρ (RRef p)) (fd : Fnd M p (OL ρs) u) : TyW E Γ M K "list" ρ := fun σ G H a x h => by
  have h : x = .ref p := sb _ _ h
  subst h
  obtain ⟨o, e1, vs, e2, rf⟩ := a.own _ fd.mem
  subst e2
  exact .inl ⟨rfl, _, SqL.of e1⟩
theorem tyw_list {K : PySem.W.Frag} {ρ : Rep} {ρs : List Rep} (sb : Sub ρ (RL K ρs)) : TyW E Γ M K "list" ρ := fun σ G H a x h => by
  obtain ⟨b, vs, e, hq, _⟩ := sb _ _ h
  subst e
  exact .inl ⟨rfl, _, Same.seq a.gh hq⟩
theorem mtw_append {p : Addr} {ρo ρ : Rep} {ρs : List Rep} {u : ORep → Ow} (sb : Sub ρo (RRef p)) (fd : Fnd M p (OL ρs) u) (hl : ρs.length < 100000) (k : Φ RN (u (OL (ρs ++ [ρ])))) : MtW E Γ M rAppend ρo [ρ] Φ := fun σ G H a x vs hx hv Q q => by
  obtain ⟨o, e1, ws, e2, rf⟩ := a.own _ fd.mem
  subst e2
  match vs, hv with
  | [v], ⟨r, _⟩ =>
    exact ⟨p, ws, v, sb _ _ hx, rfl, e1, Nat.lt_of_lt_of_le (by rw [← rf.length]; exact hl) (szOf (Nat.le_refl _)), q _ _ _ _ _ k (Same.refl _) (a.write fd ⟨_, rfl, rf.app ⟨r, trivial⟩⟩) rfl⟩
/-! ### built-in functions -/
def CaW (E : En) (Γ : Gm) (M : Ow) (r : List V → Hp → VK → Prop) (ρs : List Rep) (Φ : Rep → Ow → Prop) : Prop :=
  ∀ σ G H, At E Γ M σ G H → ∀ vs, Reps ρs vs G → ∀ Q : VK, (∀ ρ M' v G' H', Φ ρ M' → Same G G' → At E Γ M' σ G' H' → ρ.p v G' → Q v H') → r vs H Q
def CaV (r : List V → Hp → VK → Prop) (ρs : List Rep) (ρ : Rep) : Prop := ∀ vs G H, Same G H → Reps ρs vs G → ∀ Q : VK, (∀ v G' H', New G H G' H' → ρ.p v G' → Q v H') → r vs H Q
theorem caw_of {r : List V → Hp → VK → Prop} {ρs : List Rep} {ρ : Rep} (h : CaV r ρs ρ) (k : Φ ρ M) : CaW E Γ M r ρs Φ := fun σ G H a vs hv Q q =>
  h vs G H a.gh hv Q fun v G' H' n hr => q ρ M v G' H' k n.gg (a.new n) hr
theorem we_callB {id : String} {r : List V → Hp → VK → Prop} (hc : CallR X (.builtin id) r) (hg : Gl X x) (hm : X.mg x = none) (hv : bootBuiltins x = some (.builtin id)) (h : WA X E Γ M (e :: es) fun ρs M' => CaW E Γ M' r ρs Φ) (hn : x ≠ "__name__" := by decide) (hdb : (x == ("__debug__" : Str)) = false := by decide)
    (he : starEach (e :: es) X.env = (false, eval e X.env) :: starEach es X.env := by rfl) (hpl : (backTo pos (starEach es X.env)).any (·.1) = false := by rfl) : WE X E Γ M (.Call (.Name x p) (e :: es) [] pos) Φ :=
  we_of (pe_callB hc hg hm hv pa_w hn hdb he hpl) fun σ G H a Q q => h σ G H a _ fun ρs M1 vs G1 H1 h1 s1 a1 r1 => h1 σ G1 H1 a1 vs r1 Q fun ρ M3 v G3 H3 h3 s3 => q ρ M3 v G3 H3 h3 (s1.trans s3)
theorem we_callTy {T : String} {r : List V → Hp → VK → Prop} (hc : CallR X (.type T) r) (hg : Gl X x) (hm : X.mg x = none) (hv : bootBuiltins x = some (.type T)) (h : WA X E Γ M (e :: es) fun ρs M' => CaW E Γ M' r ρs Φ) (hn : x ≠ "__name__" := by decide) (hdb : (x == ("__debug__" : Str)) = false := by decide)
    (he : starEach (e :: es) X.env = (false, eval e X.env) :: starEach es X.env := by rfl) (hpl : (backTo pos (starEach es X.env)).any (·.1) = false := by rfl) : WE X E Γ M (.Call (.Name x p) (e :: es) [] pos) Φ :=
  we_of (pe_callTy hc hg hm hv pa_w hn hdb he hpl) fun σ G H a Q q => h σ G H a _ fun ρs M1 vs G1 H1 h1 s1 a1 r1 => h1 σ G1 H1 a1 vs r1 Q fun ρ M3 v G3 H3 h3 s3 => q ρ M3 v G3 H3 h3 (s1.trans s3)

/-! ### a def keeps its promise -/
def startG (N : List Str) (ρs : List Rep) : Gm := ρs.map some ++ List.replicate (N.length - ρs.length) none
/-- at a return -/
def Rt (c : Con) (i : c.I) : Rep → Ow → Prop := fun ρ M => ∃ x rest, c.post i x ∧ Sub ρ (c.res i x) ∧ Pk M (c.own' i x) rest
def EdOf (c : Con) (i : c.I) : Ed := { nx := fun _ M => Rt c i RN M, rt := Rt c i }
theorem start_env {N : List Str} {G : Hp} {ρs : List Rep} {vs : List V} (r : Reps ρs vs G) : ∀ (i : Nat) (ρ : Rep), (startG N ρs)[i]? = some (some ρ) → ∃ v, (L2.start N vs)[i]? = some (some v) ∧ ρ.p v G := fun i ρ h => by
  have hl := r.length
  unfold startG at h
  unfold L2.start
  by_cases hi : i < ρs.length
  · rw [List.getElem?_append_left (by simpa using hi), List.getElem?_map] at h
    rw [List.getElem?_append_left (by simpa [← hl] using hi), List.getElem?_map]
    have e : ρs[i]? = some ρ := by simpa using h
    obtain ⟨v, e2, r2⟩ := r.get e
    exact ⟨v, by rw [e2]; rfl, r2⟩
  · rw [List.getElem?_append_right (by simp; omega)] at h
    by_cases h2 : i - (ρs.map some).length < N.length - ρs.length
    · rw [List.getElem?_replicate, if_pos h2] at h; cases h
    · rw [List.getElem?_eq_none (by simp at h2 ⊢; omega)] at h; cases h
abbrev xd (P : Program) (w : World) (K : PySem.W.Frag) (mg : Str → Option Value) (base : Heap) (N : List Str) (qual : Str) (sc : Scope) (f : Addr) (cd : Value) (A : Around) (outer : List Env) (s : Shared) (H : Hp) (EE : XK) : Cx :=
  (cxOf CX0 P w K mg base N qual sc f cd A outer s H EE).nox
theorem fn_con {P : Program} {w : World} {K : PySem.W.Frag} {mg : Str → Option Value} {base : Heap} {x qual : Str} {st : Stmt} {f : Addr} {fd : FuncData} {N ps : List Str} {k : Nat} (c : Con) (F : Fun K x qual st f fd) (S : FnScope N ps (defScope st)) (hl : ∀ i, (c.args i).length = ps.length)
    (h : ∀ (cd : Value) (A : Around) (outer : List Env) (s : Shared) (H : Hp) (EE : XK) (G : Hp) (i : c.I), c.pre i → Room k (A.deeper (PyProof.Rows.envOfC qual (defScope st) s.heap.objs.size f cd)) → (∀ a ∈ (c.own i).map (·.1), H a ≠ none) →
      WSs (xd P w K mg base N qual (defScope st) f cd A outer s H EE) ⟨G, H, (c.own i).map (·.1)⟩ (startG N (c.args i)) (c.own i) (defBody st) (EdOf c i)) : FnOk P w K mg base CX0 (k + 1) f fd ps (conSp c) := by
  refine F.ok S (fun vs H Q EE hh => ?_) fun cdv A outer s H vs Q EE hr hh => ?_
  · obtain ⟨G, i, _, _, r, _⟩ := hh
    rw [← r.length]; exact hl i
  · obtain ⟨G, i, gh, hp, r, o1, o2, o3, kk⟩ := hh
    refine ⟨tWSs _ (defBody st), pss_w, ?_⟩
    have hE : ∀ a ∈ (c.own i).map (·.1), H a ≠ none := fun a ha => by
      obtain ⟨q, hq, e⟩ := List.mem_map.mp ha
      obtain ⟨o, e2, _⟩ := o1 q hq
      rw [← e, e2]; simp
    have a0 : At ⟨G, H, (c.own i).map (·.1)⟩ (startG N (c.args i)) (c.own i) (L2.start N vs) G H :=
      ⟨by simp [startG, L2.start, r.length], start_env r, gh, o1, o2, o3, Same.refl _, fun _ _ _ e => e, fun _ _ hg => hg, fun q hq => .inl (List.mem_map.mpr ⟨q, hq, rfl⟩), fun _ h => h⟩
    have fin : ∀ ρ M, Rt c i ρ M → ∀ v G' H', At ⟨G, H, (c.own i).map (·.1)⟩ [] M [] G' H' → ρ.p v G' → Q v H' := fun ρ M ⟨x, rest, px, sb, pk⟩ v G' H' a rv => by
      obtain ⟨p1, p2, p3⟩ := a.picked pk
      have fm := pk.f a.nd
      refine kk x v G' H' px ⟨a.g0, a.gh, fun b u h1 h2 => a.keep b u h1 h2, fun b h1 h2 => a.nw b h1 h2, p1, p2, p3, fun q hq => ?_, fun b hb => a.there b hb⟩ (sb _ _ rv)
      obtain ⟨q', h1, h2, _⟩ := fm.own q hq
      rw [← h2]; exact a.loc q' h1
    exact h cdv A outer s H EE G i hp hr hE (L2.start N vs) G H a0 _ ⟨fun Γ M h' σ G' H' _ a' => fin _ _ h' _ _ _ a'.env0 rfl, fun ρ M h' v G' H' _ a' rv => fin _ _ h' _ _ _ a' rv, fun _ _ h' => h'.elim, fun _ _ h' => h'.elim⟩
end
end MM

namespace MM
open PySem L2 PyProof.Rows
section
variable {X : Cx} {E : En} {Γ : Gm} {M : Ow} {a b e c tg iter elt : Expr} {es : List Expr} {pos p apos : Pos} {Φ : Rep → Ow → Prop} {Ψ : Ed} {body : List Stmt}
theorem ws_while (hp : PassesOwn (model X.prog X.w) X.A X.env X.xe) (I : Nat → Gm → Ow → Prop) (n0 : Nat) (h0 : I n0 Γ M)
    (hs : ∀ n Γ1 M1, I n Γ1 M1 → WT X E Γ1 M1 c fun k M2 => (k = true → WSs X E Γ1 M2 body { nx := fun Γ3 M3 => ∃ m, m < n ∧ I m Γ3 M3, ct := fun Γ3 M3 => ∃ m, m < n ∧ I m Γ3 M3, bk := Ψ.nx, rt := Ψ.rt }) ∧ (k = false → Ψ.nx Γ1 M2)) :
    WS X E Γ M (.While c body [] pos) Ψ :=
  ws_of (ps_while hp pt_w pss_w) fun σ G H a D k => by
    refine ⟨fun m σ H => ∃ Γ1 M1 G1, I m Γ1 M1 ∧ Same G G1 ∧ At E Γ1 M1 σ G1 H, ⟨n0, Γ, M, G, h0, Same.refl _, a⟩, ?_⟩
    rintro m σ1 H1 ⟨Γ1, M1, G1, hI, s1, a1⟩
    refine hs m Γ1 M1 hI σ1 G1 H1 a1 _ fun b M2 G2 H2 hk s2 a2 => ?_
    cases b with
    | false =>
      show D.nx σ1 H2
      exact k.nx _ _ (hk.2 rfl) _ _ _ (s1.trans s2) a2
    | true =>
      show ∃ N : L2.St → Hp → Prop, _
      refine ⟨fun σ' H' => ∃ m', m' < m ∧ ∃ Γ1 M1 G1, I m' Γ1 M1 ∧ Same G G1 ∧ At E Γ1 M1 σ' G1 H', fun σ' H' h => h, ?_⟩
      have ks := k.mono (s1.trans s2)
      exact hk.1 rfl σ1 G2 H2 a2 _ ⟨fun Γ3 M3 ⟨m', hm, hI'⟩ σ' G' H' s' a' => ⟨m', hm, Γ3, M3, G', hI', (s1.trans s2).trans s', a'⟩, ks.rt, ks.nx, fun Γ3 M3 ⟨m', hm, hI'⟩ σ' G' H' s' a' => ⟨m', hm, Γ3, M3, G', hI', (s1.trans s2).trans s', a'⟩⟩
/-- what a for asks: the invariant by the turn -/
def ForK (X : Cx) (E : En) (Γ : Gm) (M : Ow) (tg : Expr) (body : List Stmt) (Ψ : Ed) (n : Nat) (item : Nat → Rep → Prop) : Prop :=
  ∃ I : Nat → Gm → Ow → Prop, I 0 Γ M ∧ (∀ i ρ Γ1 M1, i < n → item i ρ → I i Γ1 M1 → WG X E Γ1 M1 tg ρ fun Γ2 M2 => WSs X E Γ2 M2 body { nx := I (i + 1), ct := I (i + 1), bk := Ψ.nx, rt := Ψ.rt }) ∧ ∀ Γ1 M1, I n Γ1 M1 → Ψ.nx Γ1 M1
theorem for_turn {I : Nat → Gm → Ow → Prop} {G : Hp} {D : Ends} {i : Nat} {ρ : Rep} {Γ1 : Gm} {M1 : Ow} (k : Cov E G Ψ D) (h : WG X E Γ1 M1 tg ρ fun Γ2 M2 => WSs X E Γ2 M2 body { nx := I (i + 1), ct := I (i + 1), bk := Ψ.nx, rt := Ψ.rt })
    {σ : L2.St} {G1 H : Hp} (s1 : Same G G1) (a : At E Γ1 M1 σ G1 H) {x : V} (r : ρ.p x G1) :
    tWG X tg x σ H fun σ2 H2 => tWSs X body { D with nx := fun σ' H' => ∃ Γ' M' G', I (i + 1) Γ' M' ∧ Same G G' ∧ At E Γ' M' σ' G' H', ct := fun σ' H' => ∃ Γ' M' G', I (i + 1) Γ' M' ∧ Same G G' ∧ At E Γ' M' σ' G' H', bk := D.nx } σ2 H2 := by
  refine h σ G1 H a x r _ fun Γ2 M2 σ2 G2 H2 h2 s2 a2 => ?_
  have ks := k.mono (s1.trans s2)
  exact h2 σ2 G2 H2 a2 _ ⟨fun Γ3 M3 hI σ' G' H' s' a' => ⟨Γ3, M3, G', hI, (s1.trans s2).trans s', a'⟩, ks.rt, ks.nx, fun Γ3 M3 hI σ' G' H' s' a' => ⟨Γ3, M3, G', hI, (s1.trans s2).trans s', a'⟩⟩
theorem ws_for_list (hp : PassesOwn (model X.prog X.w) X.A X.env X.xe) (hc : X.calm = true)
    (h : WE X E Γ M iter fun ρ M1 => ∃ ρs, Sub ρ (RL X.K ρs) ∧ ForK X E Γ M1 tg body Ψ ρs.length fun i ρ => ρs[i]? = some ρ)
    (hs : ∀ x, foldedSetIterable iter X.env x = pure x := by intro _; rfl) : WS X E Γ M (.For tg iter body [] pos) Ψ :=
  ws_of (ps_for hp hc (pi_list pe_w) pg_w pss_w hs) fun σ G H a D k => h σ G H a _ fun ρ M1 v G1 H1 ⟨ρs, sb, I, h0, ht, hd⟩ s1 a1 r1 => by
    obtain ⟨b, vs, e, hq, rr⟩ := sb _ _ r1
    have ks := k.mono s1
    refine ⟨b, e, ⟨vs, Same.seq a1.gh hq⟩, for_list (K := X.K) (a := b) (xs := vs) (fun i σ H => ∃ Γ' M' G', I i Γ' M' ∧ Same G1 G' ∧ At E Γ' M' σ G' H) ⟨Γ, M1, G1, h0, Same.refl _, a1⟩ (fun i σ H _ ⟨_, _, G', _, s', a'⟩ => Same.seq (s'.trans a'.gh) hq) ?_ ?_⟩
    · rintro i x σ H hx ⟨Γ', M', G', hI, s', a'⟩
      obtain ⟨ρi, e1, r2⟩ := (rr.mono s').get2 hx
      exact for_turn ks (ht i ρi Γ' M' (List.getElem?_eq_some_iff.mp e1).1 e1 hI) s' a' r2
    · rintro σ H ⟨Γ', M', G', hI, s', a'⟩
      exact ks.nx _ _ (hd _ _ (by rw [rr.length]; exact hI)) _ _ _ s' a'
theorem ws_for_tup (hp : PassesOwn (model X.prog X.w) X.A X.env X.xe) (hc : X.calm = true)
    (h : WE X E Γ M iter fun ρ M1 => ∃ ρs, Sub ρ (RT X.K ρs) ∧ ForK X E Γ M1 tg body Ψ ρs.length fun i ρ => ρs[i]? = some ρ)
    (hs : ∀ x, foldedSetIterable iter X.env x = pure x := by intro _; rfl) : WS X E Γ M (.For tg iter body [] pos) Ψ :=
  ws_of (ps_for hp hc (pi_tup pe_w) pg_w pss_w hs) fun σ G H a D k => h σ G H a _ fun ρ M1 v G1 H1 ⟨ρs, sb, I, h0, ht, hd⟩ s1 a1 r1 => by
    obtain ⟨b, vs, e, hq, rr⟩ := sb _ _ r1
    have ks := k.mono s1
    refine ⟨b, e, ⟨vs, same_seqT a1.gh hq⟩, for_tup (K := X.K) (a := b) (xs := vs) (fun i σ H => ∃ Γ' M' G', I i Γ' M' ∧ Same G1 G' ∧ At E Γ' M' σ G' H) ⟨Γ, M1, G1, h0, Same.refl _, a1⟩ (fun i σ H _ ⟨_, _, G', _, s', a'⟩ => same_seqT (s'.trans a'.gh) hq) ?_ ?_⟩
    · rintro i x σ H hx ⟨Γ', M', G', hI, s', a'⟩
      obtain ⟨ρi, e1, r2⟩ := (rr.mono s').get2 hx
      exact for_turn ks (ht i ρi Γ' M' (List.getElem?_eq_some_iff.mp e1).1 e1 hI) s' a' r2
    · rintro σ H ⟨Γ', M', G', hI, s', a'⟩
      exact ks.nx _ _ (hd _ _ (by rw [rr.length]; exact hI)) _ _ _ s' a'
theorem ws_for_range1 (hp : PassesOwn (model X.prog X.w) X.A X.env X.xe) (hc : X.calm = true) (hg : Gl X "range") (hm : X.mg "range" = none)
    (h : WA X E Γ M [a] fun ρs M1 => ∃ j : Int, SubL ρs [RI j] ∧ (-(2 ^ 62) ≤ j ∧ j < 2 ^ 62) ∧ ForK X E Γ M1 tg body Ψ j.toNat fun i ρ => ρ = RI (i : Int))
    (hse : starEach [a] X.env = [(false, eval a X.env)] := by rfl) (hs : ∀ x, foldedSetIterable (.Call (.Name "range" p) [a] [] apos) X.env x = pure x := by intro _; rfl) : WS X E Γ M (.For tg (.Call (.Name "range" p) [a] [] apos) body [] pos) Ψ :=
  ws_of (ps_for hp hc (pi_range1 hg hm pa_w hse) pg_w pss_w hs) fun σ G H a D k => h σ G H a _ fun ρs M1 vs G1 H1 ⟨j, sb, ⟨b1, b2⟩, I, h0, ht, hd⟩ s1 a1 r1 => by
    have ks := k.mono s1
    have e : vs = [.int j] := by
      match vs, sb.reps r1 with
      | [v], ⟨r, _⟩ => exact congrArg (fun z => [z]) r
    refine ⟨j, e, b1, b2, for_range (lo := 0) (fun i σ H => ∃ Γ' M' G', I i Γ' M' ∧ Same G1 G' ∧ At E Γ' M' σ G' H) ⟨Γ, M1, G1, h0, Same.refl _, a1⟩ ?_ ?_⟩
    · rintro i σ H hx ⟨Γ', M', G', hI, s', a'⟩
      exact for_turn ks (ht i _ Γ' M' hx rfl hI) s' a' (by rw [Int.zero_add]; rfl)
    · rintro σ H ⟨Γ', M', G', hI, s', a'⟩
      exact ks.nx _ _ (hd _ _ hI) _ _ _ s' a'
theorem ws_for_range2 (hp : PassesOwn (model X.prog X.w) X.A X.env X.xe) (hc : X.calm = true) (hg : Gl X "range") (hm : X.mg "range" = none)
    (h : WA X E Γ M [a, b] fun ρs M1 => ∃ i j : Int, SubL ρs [RI i, RI j] ∧ (-(2 ^ 62) ≤ i ∧ i < 2 ^ 62 ∧ -(2 ^ 62) ≤ j ∧ j < 2 ^ 62) ∧ ForK X E Γ M1 tg body Ψ (j - i).toNat fun n ρ => ρ = RI (i + n))
    (hse : starEach [a, b] X.env = [(false, eval a X.env), (false, eval b X.env)] := by rfl) (hs2 : starEach [b] X.env = [(false, eval b X.env)] := by rfl) (hs : ∀ x, foldedSetIterable (.Call (.Name "range" p) [a, b] [] apos) X.env x = pure x := by intro _; rfl) : WS X E Γ M (.For tg (.Call (.Name "range" p) [a, b] [] apos) body [] pos) Ψ :=
  ws_of (ps_for hp hc (pi_range2 hg hm pa_w hse hs2) pg_w pss_w hs) fun σ G H a D k => h σ G H a _ fun ρs M1 vs G1 H1 ⟨i0, j, sb, bs, I, h0, ht, hd⟩ s1 a1 r1 => by
    have ks := k.mono s1
    have e : vs = [.int i0, .int j] := by
      match vs, sb.reps r1 with
      | [v, w], ⟨r, r', _⟩ =>
        have r : v = .int i0 := r
        have r' : w = .int j := r'
        rw [r, r']
    refine ⟨i0, j, e, bs, for_range (lo := i0) (fun i σ H => ∃ Γ' M' G', I i Γ' M' ∧ Same G1 G' ∧ At E Γ' M' σ G' H) ⟨Γ, M1, G1, h0, Same.refl _, a1⟩ ?_ ?_⟩
    · rintro i σ H hx ⟨Γ', M', G', hI, s', a'⟩
      exact for_turn ks (ht i _ Γ' M' hx rfl hI) s' a' rfl
    · rintro σ H ⟨Γ', M', G', hI, s', a'⟩
      exact ks.nx _ _ (hd _ _ hI) _ _ _ s' a'

/-! ### an owned list is given up -/
theorem we_freeze (h : WE X E Γ M e fun ρ M' => ∃ p ρs M2, Sub ρ (RRef p) ∧ Rm M' p (OL ρs) M2 ∧ p ∉ E.M ∧ Φ (RLt ρs) M2) : WE X E Γ M e Φ := fun σ G H a Q q =>
  h σ G H a Q fun ρ M' v G1 H1 ⟨p, ρs, M2, sb, rm, hp, hk⟩ s1 a1 r1 => by
    obtain ⟨o, e1, ⟨vs, e2, rf⟩, sg, a2⟩ := a1.freeze rm hp
    subst e2
    have : v = .ref p := sb _ _ r1
    subst this
    exact q _ _ _ _ _ hk (s1.trans sg) a2 ⟨p, vs, rfl, upd_same, rf.mono sg⟩
theorem wss_freeze {st : List Stmt} (i : Nat) {p : Addr} {ρs : List Rep} {M2 : Ow} (hΓ : Γ[i]? = some (some (RRef p))) (rm : Rm M p (OL ρs) M2) (hp : p ∉ E.M) (h : WSs X E (Γ.set i (some (RLt ρs))) M2 st Ψ) : WSs X E Γ M st Ψ := fun σ G H a D k => by
  obtain ⟨v, e0, r0⟩ := a.env i _ hΓ
  have r0 : v = .ref p := r0
  subst r0
  obtain ⟨o, e1, ⟨vs, e2, rf⟩, sg, a2⟩ := a.freeze rm hp
  subst e2
  have a3 := a2.set (i := i) (ρ := RLt ρs) (v := .ref p) ⟨p, vs, rfl, upd_same, rf.mono sg⟩
  have e4 : σ.set i (some (V.ref p)) = σ := by
    refine List.ext_getElem? fun j => ?_
    by_cases hj : i = j
    · subst hj
      have hl : i < σ.length := (List.getElem?_eq_some_iff.mp e0).1
      rw [List.getElem?_set_self hl, e0]
    · rw [List.getElem?_set_ne hj]
  rw [e4] at a3
  exact h σ _ H a3 D (k.mono sg)
theorem wss_weak {Γ' : Gm} {st : List Stmt} (w : Wk Γ Γ') (h : WSs X E Γ' M st Ψ) : WSs X E Γ M st Ψ := fun σ G H a D k => h σ G H (a.weak w) D k

/-! ### list comprehensions -/
def wipeG (Γ : Gm) : List Nat → Gm
  | [] => Γ
  | v :: vs => (wipeG Γ vs).set v none
theorem At.wipe {σ : L2.St} {G H : Hp} (a : At E Γ M σ G H) : ∀ vs : List Nat, At E (wipeG Γ vs) M (L2.wipe σ vs) G H
  | [] => a
  | v :: vs => by
    have b := At.wipe a vs
    unfold wipeG L2.wipe
    refine ⟨by simp [b.len], fun i ρ h => ?_, b.gh, b.own, b.gn, b.nd, b.g0, b.keep, b.nw, b.loc, b.there⟩
    by_cases hi : v = i
    · subst hi
      by_cases hv : v < (wipeG Γ vs).length
      · rw [List.getElem?_set_self hv] at h; cases h
      · rw [List.getElem?_eq_none (by simpa using hv)] at h; cases h
    · rw [List.getElem?_set_ne hi] at h
      obtain ⟨w, e, r⟩ := b.env i ρ h
      exact ⟨w, by rw [List.getElem?_set_ne hi]; exact e, r⟩
theorem At.back {σ σ' : L2.St} {G H G' H' : Hp} {Γ' : Gm} {M' : Ow} (a : At E Γ M σ G H) (b : At E Γ' M' σ' G' H') (s : Same G G') : At E Γ M' σ G' H' :=
  ⟨a.len, fun i ρ h => let ⟨v, e, r⟩ := a.env i ρ h; ⟨v, e, ρ.mono _ _ _ s r⟩, b.gh, b.own, b.gn, b.nd, b.g0, b.keep, b.nw, b.loc, b.there⟩
/-- a block's target: one name, or a tuple of names; what it leaves in the slots -/
structure BlkT (K : PySem.W.Frag) (t : TG) (vs : List Nat) (ρ : Rep) (f : Gm → Gm) : Prop where
  run : ∀ {E : En} {Γ : Gm} {M : Ow} {σ : L2.St} {G H : Hp} {v : V} (Q : L2.St → Hp → Prop), At E Γ M (L2.wipe σ vs) G H → ρ.p v G → (∀ σ', L2.wipe σ' vs = L2.wipe σ vs → At E (f Γ) M σ' G H → Q σ' H) → t v (L2.wipe σ vs) H Q
theorem wipe_set {σ : L2.St} {i : Nat} {o : Option V} : ∀ {vs : List Nat}, i ∈ vs → L2.wipe (σ.set i o) vs = L2.wipe σ vs
  | v :: vs, h => by
    unfold L2.wipe
    by_cases hi : i = v
    · subst hi
      by_cases hm : i ∈ vs
      · rw [wipe_set hm]
      · have : L2.wipe (σ.set i o) vs = (L2.wipe σ vs).set i o := by
          clear h
          induction vs with
          | nil => rfl
          | cons u us ih =>
            have h1 : i ≠ u := fun z => hm (by rw [z]; exact List.mem_cons_self)
            have h2 : i ∉ us := fun z => hm (List.mem_cons_of_mem _ z)
            show (L2.wipe (σ.set i o) us).set u none = ((L2.wipe σ us).set u none).set i o
            rw [ih h2, List.set_comm _ _ h1]
        rw [this, List.set_set]
    · have hm : i ∈ vs := by
        rcases List.mem_cons.mp h with e | hm
        · exact absurd e hi
        · exact hm
      rw [wipe_set hm]
theorem wipe_wipe {σ : L2.St} : ∀ {vs ws : List Nat}, (∀ v ∈ ws, v ∈ vs) → L2.wipe (L2.wipe σ ws) vs = L2.wipe σ vs
  | vs, [], _ => rfl
  | vs, w :: ws, h => by
    show L2.wipe ((L2.wipe σ ws).set w none) vs = _
    rw [wipe_set (h w List.mem_cons_self)]
    exact wipe_wipe fun v hv => h v (List.mem_cons_of_mem _ hv)
theorem blkT_name {K : PySem.W.Frag} {vs : List Nat} {ρ : Rep} (i : Nat) (hi : i ∈ vs) : BlkT K (gName i) vs ρ fun Γ => Γ.set i (some ρ) :=
  ⟨fun {E Γ M σ G H v} Q a r k => k _ (by rw [wipe_set hi, wipe_wipe fun _ h => h]) (a.set r)⟩
def gNames : List Nat → TGs
  | [] => gNil
  | i :: is => gCons (gName i) (gNames is)
def setAll : List Nat → List Rep → Gm → Gm
  | i :: is, ρ :: ρs, Γ => setAll is ρs (Γ.set i (some ρ))
  | _, _, Γ => Γ
theorem gNames_run {vs : List Nat} : ∀ {is : List Nat} {ρs : List Rep} {xs : List V} {E : En} {Γ : Gm} {M : Ow} {σ σ0 : L2.St} {G H : Hp} (Q : L2.St → Hp → Prop), (∀ i ∈ is, i ∈ vs) → is.length = ρs.length → At E Γ M σ G H → L2.wipe σ vs = L2.wipe σ0 vs → Reps ρs xs G →
    (∀ σ', L2.wipe σ' vs = L2.wipe σ0 vs → At E (setAll is ρs Γ) M σ' G H → Q σ' H) → gNames is xs σ H Q
  | [], [], [], _, _, _, σ, _, _, H, Q, _, _, a, e, _, k => ⟨rfl, k σ e a⟩
  | i :: is, ρ :: ρs, x :: xs, _, _, _, σ, _, _, H, Q, hi, hl, a, e, r, k => ⟨x, xs, rfl, gNames_run (vs := vs) (is := is) (ρs := ρs) Q (fun j hj => hi j (List.mem_cons_of_mem _ hj)) (by simpa using hl) (a.set r.1) (by rw [wipe_set (hi i List.mem_cons_self)]; exact e) r.2 k⟩
  | [], _ :: _, _, _, _, _, _, _, _, _, _, _, hl, _, _, _, _ => by simp at hl
  | _ :: _, [], _, _, _, _, _, _, _, _, _, _, hl, _, _, _, _ => by simp at hl
  | [], [], _ :: _, _, _, _, _, _, _, _, _, _, _, _, _, r, _ => r.elim
  | _ :: _, _ :: _, [], _, _, _, _, _, _, _, _, _, _, _, _, r, _ => r.elim
theorem blkT_tup {K : PySem.W.Frag} {vs is : List Nat} {ρ : Rep} {ρs : List Rep} (hi : ∀ i ∈ is, i ∈ vs) (hl : is.length = ρs.length) (sb : Sub ρ (RT K ρs)) : BlkT K (gTup K is.length (gNames is)) vs ρ (setAll is ρs) :=
  ⟨fun {E Γ M σ G H v} Q a r k => by
    obtain ⟨b, ws, e, hq, rr⟩ := sb _ _ r
    refine ⟨b, ws, e, same_seqT a.gh hq, by rw [hl, rr.length], gNames_run (σ0 := σ) Q hi hl a (wipe_wipe fun _ h => h) rr k⟩⟩
/-- the readings of a block's element and test, of whatever context -/
def tBE (X : Cx) (scope : Scope) (e : Expr) : TE := fun σ H Q => ∀ (s : Shared) (H0 : Hp) (C : Addr) (cl : List (Str × Addr)) (fp : List Addr), tW (X.blk s H0 scope (compEnvC scope cl C X.env) fp) e σ H Q
def tBT (X : Cx) (scope : Scope) (e : Expr) : TT := fun σ H Q => ∀ (s : Shared) (H0 : Hp) (C : Addr) (cl : List (Str × Addr)) (fp : List Addr), tWT (X.blk s H0 scope (compEnvC scope cl C X.env) fp) e σ H Q
theorem pe_blk {scope : Scope} (s : Shared) (H : Hp) (C : Addr) (cl : List (Str × Addr)) (fp : List Addr) : PE (X.blk s H scope (compEnvC scope cl C X.env) fp) e (tBE X scope e) := ⟨fun pins s' σ H' Q I h => h s H C cl fp pins s' I⟩
theorem pt_blk {scope : Scope} (s : Shared) (H : Hp) (C : Addr) (cl : List (Str × Addr)) (fp : List Addr) : PT (X.blk s H scope (compEnvC scope cl C X.env) fp) e (tBT X scope e) := ⟨fun pins s' σ H' Q I h => h s H C cl fp pins s' I⟩
/-- a turn: the element is evaluated, and put behind what is made so far -/
def LcTurn (X : Cx) (E : En) (Γ : Gm) (M1 : Ow) (scope : Scope) (elt : Expr) (D : Addr) (o : List Rep) (K : List Rep → Ow → Prop) : Prop :=
  ∀ (s : Shared) (H0 : Hp) (C : Addr) (cl : List (Str × Addr)) (fp : List Addr), WE (X.blk s H0 scope (compEnvC scope cl C X.env) fp) E Γ ((D, OL o) :: M1) elt fun ρ M2 => ∃ M3 ρ', M2 = (D, OL o) :: M3 ∧ Sub ρ ρ' ∧ o.length < 100000 ∧ K (o ++ [ρ']) M3
def LcTest (X : Cx) (E : En) (Γ : Gm) (M1 : Ow) (scope : Scope) (tst : Expr) (D : Addr) (o : List Rep) (K : Bool → Ow → Prop) : Prop :=
  ∀ (s : Shared) (H0 : Hp) (C : Addr) (cl : List (Str × Addr)) (fp : List Addr), WT (X.blk s H0 scope (compEnvC scope cl C X.env) fp) E Γ ((D, OL o) :: M1) tst fun k M2 => ∃ M3, M2 = (D, OL o) :: M3 ∧ K k M3
/-- what a comprehension asks -/
def LcK (X : Cx) (E : En) (Γ : Gm) (M : Ow) (scope : Scope) (vs : List Nat) (elt : Expr) (tg : TG) (n : Nat) (item : Nat → Rep → Prop) (Φ : Rep → Ow → Prop) : Prop :=
  ∃ I : Nat → List Rep → Ow → Prop, I 0 [] M ∧ (∀ i ρ o M1 D, i < n → item i ρ → I i o M1 → ∃ f, BlkT X.K tg vs ρ f ∧ LcTurn X E (f (wipeG Γ vs)) M1 scope elt D o (I (i + 1))) ∧ ∀ D o M1, D ∉ E.M → D ∉ M1.map (·.1) → I n o M1 → Φ (RRef D) ((D, OL o) :: M1)
def LcKT (X : Cx) (E : En) (Γ : Gm) (M : Ow) (scope : Scope) (vs : List Nat) (elt tst : Expr) (tg : TG) (n : Nat) (item : Nat → Rep → Prop) (Φ : Rep → Ow → Prop) : Prop :=
  ∃ I : Nat → List Rep → Ow → Prop, I 0 [] M ∧ (∀ i ρ o M1 D, i < n → item i ρ → I i o M1 → ∃ f, BlkT X.K tg vs ρ f ∧ LcTest X E (f (wipeG Γ vs)) M1 scope tst D o fun k M2 => (k = true → LcTurn X E (f (wipeG Γ vs)) M2 scope elt D o (I (i + 1))) ∧ (k = false → I (i + 1) o M2)) ∧ ∀ D o M1, D ∉ E.M → D ∉ M1.map (·.1) → I n o M1 → Φ (RRef D) ((D, OL o) :: M1)
/-- the turn's reading -/
theorem lc_turn {scope : Scope} {vs : List Nat} {tg : TG} {σ : L2.St} {D : Addr} {o : List Rep} {M1 : Ow} {Kc : List Rep → Ow → Prop} {f : Gm → Gm} {ρ : Rep} {x : V} {G H : Hp} {N : Hp → Prop}
    (bt : BlkT X.K tg vs ρ f) (ht : LcTurn X E (f (wipeG Γ vs)) M1 scope elt D o Kc) (a : At E (wipeG Γ vs) ((D, OL o) :: M1) (L2.wipe σ vs) G H) (r : ρ.p x G)
    (k : ∀ o' M2 σ2 G2 H2 Γ2, Kc o' M2 → Same G G2 → At E Γ2 ((D, OL o') :: M2) σ2 G2 H2 → N H2) :
    tg x (L2.wipe σ vs) H fun σ2 H2 => L2.wipe σ2 vs = L2.wipe σ vs ∧ tYes σ2 H2 fun b H3 => if b = true then tBE X scope elt σ2 H3 fun y H4 => ∃ acc, H4 D = some (.lst acc) ∧ acc.length < sizeLine ∧ N (upd H4 D (.lst (acc ++ [y]))) else N H3 := by
  refine bt.run _ a r fun σ' e a1 => ⟨e, ?_⟩
  show tBE X scope elt σ' H _
  intro s H0 C cl fp
  refine ht s H0 C cl fp σ' G H a1 _ fun ρ2 M2 v G2 H2 ⟨M3, ρ', e2, sb, hl, hk⟩ s2 a2 r2 => ?_
  subst e2
  obtain ⟨u, e3, ws, e4, rf⟩ := a2.own _ List.mem_cons_self
  subst e4
  refine ⟨ws, e3, Nat.lt_of_lt_of_le (by rw [← rf.length]; exact hl) (szOf (Nat.le_refl _)), ?_⟩
  exact k _ _ _ _ _ _ hk s2 (a2.write (r' := OL (o ++ [ρ'])) Fnd.here ⟨_, rfl, rf.app ⟨sb _ _ r2, trivial⟩⟩)
theorem lc_turnT {tst : Expr} {scope : Scope} {vs : List Nat} {tg : TG} {σ : L2.St} {D : Addr} {o : List Rep} {M1 : Ow} {Kc : List Rep → Ow → Prop} {f : Gm → Gm} {ρ : Rep} {x : V} {G H : Hp} {N : Hp → Prop}
    (bt : BlkT X.K tg vs ρ f) (ht : LcTest X E (f (wipeG Γ vs)) M1 scope tst D o fun k M2 => (k = true → LcTurn X E (f (wipeG Γ vs)) M2 scope elt D o Kc) ∧ (k = false → Kc o M2)) (a : At E (wipeG Γ vs) ((D, OL o) :: M1) (L2.wipe σ vs) G H) (r : ρ.p x G)
    (k : ∀ o' M2 σ2 G2 H2 Γ2, Kc o' M2 → Same G G2 → At E Γ2 ((D, OL o') :: M2) σ2 G2 H2 → N H2) :
    tg x (L2.wipe σ vs) H fun σ2 H2 => L2.wipe σ2 vs = L2.wipe σ vs ∧ tBT X scope tst σ2 H2 fun b H3 => if b = true then tBE X scope elt σ2 H3 fun y H4 => ∃ acc, H4 D = some (.lst acc) ∧ acc.length < sizeLine ∧ N (upd H4 D (.lst (acc ++ [y]))) else N H3 := by
  refine bt.run _ a r fun σ' e a1 => ⟨e, ?_⟩
  intro s H0 C cl fp
  refine ht s H0 C cl fp σ' G H a1 _ fun b M2 G2 H2 ⟨M3, e2, h1, h2⟩ s2 a2 => ?_
  subst e2
  cases b with
  | false =>
    show N H2
    exact k _ _ _ _ _ _ (h2 rfl) s2 a2
  | true =>
    show tBE X scope elt σ' H2 _
    intro s H0 C cl fp
    refine h1 rfl s H0 C cl fp σ' G2 H2 a2 _ fun ρ2 M4 v G3 H3 ⟨M5, ρ', e5, sb, hl, hk⟩ s3 a3 r2 => ?_
    subst e5
    obtain ⟨u, e3, ws, e4, rf⟩ := a3.own _ List.mem_cons_self
    subst e4
    refine ⟨ws, e3, Nat.lt_of_lt_of_le (by rw [← rf.length]; exact hl) (szOf (Nat.le_refl _)), ?_⟩
    exact k _ _ _ _ _ _ hk (s2.trans s3) (a3.write (r' := OL (o ++ [ρ'])) Fnd.here ⟨_, rfl, rf.app ⟨sb _ _ r2, trivial⟩⟩)
/-- an abstract source of items: from where it begins, how it is walked -/
structure Src (X : Cx) (E : En) (Γ : Gm) (M : Ow) (wi : TI) (Z : Ow → Nat → (Nat → Rep → Prop) → Prop) : Prop where
  lc : ∀ {σ : L2.St} {G H : Hp} (R : It → Hp → Prop), At E Γ M σ G H →
    (∀ J M1 n item G1 H1, Z M1 n item → Same G G1 → At E Γ M1 σ G1 H1 → (∀ i H2 G2, Same G1 G2 → Same G2 H2 → (i < n → J.go i H2) ∧ (n ≤ i → J.stop i H2) ∧ ∀ x H3, i < n → J.yld i H2 x H3 → ∃ G3 ρ, New G2 H2 G3 H3 ∧ item i ρ ∧ ρ.p x G3) → R J H1) → wi σ H R
theorem src_list (h : WE X E Γ M iter fun ρ M1 => ∃ ρs, Sub ρ (RL X.K ρs) ∧ Z M1 ρs.length fun i ρ => ρs[i]? = some ρ) : Src X E Γ M (iList X.K (tW X iter)) Z :=
  ⟨fun {σ G H} R a k => h σ G H a _ fun ρ M1 v G1 H1 ⟨ρs, sb, hz⟩ s1 a1 r1 => by
    obtain ⟨b, vs, e, hq, rr⟩ := sb _ _ r1
    refine ⟨b, e, ⟨vs, Same.seq a1.gh hq⟩, k _ _ _ _ _ _ hz s1 a1 fun i H2 G2 s2 g2 => ⟨fun hi => ⟨vs, vs[i]'(by rw [← rr.length]; exact hi), Same.seq (s2.trans g2) hq, by simp [← rr.length, hi]⟩, fun hi => ⟨vs, Same.seq (s2.trans g2) hq, by rw [← rr.length]; exact hi⟩, fun x H3 hi ⟨e3, y⟩ => ?_⟩⟩
    subst e3
    obtain ⟨ρi, e4, r4⟩ := (rr.mono s2).get2 (y vs (Same.seq (s2.trans g2) hq))
    exact ⟨G2, ρi, New.refl g2, e4, r4⟩⟩
theorem src_tup (h : WE X E Γ M iter fun ρ M1 => ∃ ρs, Sub ρ (RT X.K ρs) ∧ Z M1 ρs.length fun i ρ => ρs[i]? = some ρ) : Src X E Γ M (iTup X.K (tW X iter)) Z :=
  ⟨fun {σ G H} R a k => h σ G H a _ fun ρ M1 v G1 H1 ⟨ρs, sb, hz⟩ s1 a1 r1 => by
    obtain ⟨b, vs, e, hq, rr⟩ := sb _ _ r1
    refine ⟨b, e, ⟨vs, same_seqT a1.gh hq⟩, k _ _ _ _ _ _ hz s1 a1 fun i H2 G2 s2 g2 => ⟨fun hi => ⟨vs, vs[i]'(by rw [← rr.length]; exact hi), same_seqT (s2.trans g2) hq, by simp [← rr.length, hi]⟩, fun hi => ⟨vs, same_seqT (s2.trans g2) hq, by rw [← rr.length]; exact hi⟩, fun x H3 hi ⟨e3, y⟩ => ?_⟩⟩
    subst e3
    obtain ⟨ρi, e4, r4⟩ := (rr.mono s2).get2 (y vs (same_seqT (s2.trans g2) hq))
    exact ⟨G2, ρi, New.refl g2, e4, r4⟩⟩
theorem src_range1 (h : WA X E Γ M [a] fun ρs M1 => ∃ j : Int, SubL ρs [RI j] ∧ (-(2 ^ 62) ≤ j ∧ j < 2 ^ 62) ∧ Z M1 j.toNat fun i ρ => ρ = RI (i : Int)) : Src X E Γ M (iRng1 (tWA X [a])) Z :=
  ⟨fun {σ G H} R a' k => h σ G H a' _ fun ρs M1 vs G1 H1 ⟨j, sb, ⟨b1, b2⟩, hz⟩ s1 a1 r1 => by
    have e : vs = [.int j] := by
      match vs, sb.reps r1 with
      | [v], ⟨r, _⟩ => exact congrArg (fun z => [z]) r
    refine ⟨j, e, b1, b2, k _ _ _ _ _ _ hz s1 a1 fun i H2 G2 s2 g2 => ⟨fun hi => hi, fun hi => hi, fun x H3 hi ⟨e3, y⟩ => ?_⟩⟩
    subst e3
    exact ⟨G2, _, New.refl g2, rfl, by rw [y, Int.zero_add]; rfl⟩⟩
theorem src_range2 (h : WA X E Γ M [a, b] fun ρs M1 => ∃ i j : Int, SubL ρs [RI i, RI j] ∧ (-(2 ^ 62) ≤ i ∧ i < 2 ^ 62 ∧ -(2 ^ 62) ≤ j ∧ j < 2 ^ 62) ∧ Z M1 (j - i).toNat fun n ρ => ρ = RI (i + n)) : Src X E Γ M (iRng2 (tWA X [a, b])) Z :=
  ⟨fun {σ G H} R a' k => h σ G H a' _ fun ρs M1 vs G1 H1 ⟨i0, j, sb, bs, hz⟩ s1 a1 r1 => by
    have e : vs = [.int i0, .int j] := by
      match vs, sb.reps r1 with
      | [v, w], ⟨r, r', _⟩ =>
        have r : v = .int i0 := r
        have r' : w = .int j := r'
        rw [r, r']
    refine ⟨i0, j, e, bs, k _ _ _ _ _ _ hz s1 a1 fun i H2 G2 s2 g2 => ⟨fun hi => hi, fun hi => hi, fun x H3 hi ⟨e3, y⟩ => ?_⟩⟩
    subst e3
    exact ⟨G2, _, New.refl g2, rfl, y⟩⟩
theorem wte_lc {scope : Scope} {vs : List Nat} {wi : TI} {tg : TG} (src : Src X E Γ M wi fun M1 n item => LcK X E Γ M1 scope vs elt tg n item Φ) (hE : ∀ a ∈ E.M, E.H a ≠ none) : WTE E Γ M (tLc wi tg tYes (tBE X scope elt) vs) Φ := fun σ G H a Q q =>
  src.lc _ a fun J M1 n item G1 H1 ⟨I, h0, ht, hd⟩ s1 a1 hJ => by
    intro D hD
    have aD := a1.own1 (r := OL []) hD ⟨[], rfl, trivial⟩
    have dE : D ∉ E.M := fun z => hE D z (a1.fresh hD)
    refine ⟨fun i m H2 => m = n - i ∧ i ≤ n ∧ ∃ o M2 G2 Γ2 σ2, I i o M2 ∧ Same G1 G2 ∧ At E Γ2 ((D, OL o) :: M2) σ2 G2 H2, ⟨n, by simp, Nat.zero_le _, [], M1, G1, Γ, σ, h0, Same.refl _, aD⟩, ?_⟩
    rintro i m H2 ⟨rfl, hi, o, M2, G2, Γ2, σ2, hI, s2, a2⟩
    obtain ⟨j1, j2, j3⟩ := hJ i H2 G2 s2 a2.gh
    have ab : At E Γ ((D, OL o) :: M2) σ G2 H2 := a1.back a2 s2
    by_cases hlt : i < n
    · refine .inr ⟨j1 hlt, fun H' => ∃ o' M' G' Γ' σ', I (i + 1) o' M' ∧ Same G1 G' ∧ At E Γ' ((D, OL o') :: M') σ' G' H', fun H' ⟨o', M', G', Γ', σ', h'⟩ => ⟨n - (i + 1), by omega, rfl, hlt, o', M', G', Γ', σ', h'⟩, fun x H3 y => ?_⟩
      obtain ⟨G3, ρ, nw, hit, r⟩ := j3 x H3 hlt y
      obtain ⟨f, bt, hturn⟩ := ht i ρ o M2 D hlt hit hI
      exact lc_turn bt hturn ((ab.new nw).wipe vs) r fun o' M' σ' G' H' Γ' hk s' a' => ⟨o', M', G', Γ', σ', hk, (s2.trans nw.gg).trans s', a'⟩
    · have e : i = n := by omega
      subst e
      refine .inl ⟨j2 (Nat.le_refl _), q _ _ _ _ _ (hd D o M2 dE ?_ hI) (s1.trans s2) ab rfl⟩
      have := ab.nd
      rw [List.map_cons, List.nodup_cons] at this
      exact this.1
theorem wte_lcT {tst : Expr} {scope : Scope} {vs : List Nat} {wi : TI} {tg : TG} (src : Src X E Γ M wi fun M1 n item => LcKT X E Γ M1 scope vs elt tst tg n item Φ) (hE : ∀ a ∈ E.M, E.H a ≠ none) : WTE E Γ M (tLc wi tg (tBT X scope tst) (tBE X scope elt) vs) Φ := fun σ G H a Q q =>
  src.lc _ a fun J M1 n item G1 H1 ⟨I, h0, ht, hd⟩ s1 a1 hJ => by
    intro D hD
    have aD := a1.own1 (r := OL []) hD ⟨[], rfl, trivial⟩
    have dE : D ∉ E.M := fun z => hE D z (a1.fresh hD)
    refine ⟨fun i m H2 => m = n - i ∧ i ≤ n ∧ ∃ o M2 G2 Γ2 σ2, I i o M2 ∧ Same G1 G2 ∧ At E Γ2 ((D, OL o) :: M2) σ2 G2 H2, ⟨n, by simp, Nat.zero_le _, [], M1, G1, Γ, σ, h0, Same.refl _, aD⟩, ?_⟩
    rintro i m H2 ⟨rfl, hi, o, M2, G2, Γ2, σ2, hI, s2, a2⟩
    obtain ⟨j1, j2, j3⟩ := hJ i H2 G2 s2 a2.gh
    have ab : At E Γ ((D, OL o) :: M2) σ G2 H2 := a1.back a2 s2
    by_cases hlt : i < n
    · refine .inr ⟨j1 hlt, fun H' => ∃ o' M' G' Γ' σ', I (i + 1) o' M' ∧ Same G1 G' ∧ At E Γ' ((D, OL o') :: M') σ' G' H', fun H' ⟨o', M', G', Γ', σ', h'⟩ => ⟨n - (i + 1), by omega, rfl, hlt, o', M', G', Γ', σ', h'⟩, fun x H3 y => ?_⟩
      obtain ⟨G3, ρ, nw, hit, r⟩ := j3 x H3 hlt y
      obtain ⟨f, bt, hturn⟩ := ht i ρ o M2 D hlt hit hI
      exact lc_turnT bt hturn ((ab.new nw).wipe vs) r fun o' M' σ' G' H' Γ' hk s' a' => ⟨o', M', G', Γ', σ', hk, (s2.trans nw.gg).trans s', a'⟩
    · have e : i = n := by omega
      subst e
      refine .inl ⟨j2 (Nat.le_refl _), q _ _ _ _ _ (hd D o M2 dE ?_ hI) (s1.trans s2) ab rfl⟩
      have := ab.nd
      rw [List.map_cons, List.nodup_cons] at this
      exact this.1
/-- [e for target in iter] as a value; y = [..] -/
theorem we_lc {scope : Scope} {own : List (Str × Nat)} {wi : TI} {t : TG} (hc : X.calm = true) (hN : X.N.Nodup) (hi : PI X tg iter wi) (ok : BlkOk X.N X.env.scope scope own)
    (hg : ∀ (s : Shared) (H : Hp) (C : Addr) (cl : List (Str × Addr)) (fp : List Addr), PG (X.blk s H scope (compEnvC scope cl C X.env) fp) tg t) (hE : ∀ a ∈ E.M, E.H a ≠ none)
    (src : Src X E Γ M wi fun M1 n item => LcK X E Γ M1 scope (own.map (·.2)) elt t n item Φ) (hs : ∀ x, foldedSetIterable iter X.env x = pure x := by intro _; rfl) : WE X E Γ M (.ListComp elt [⟨tg, iter, [], 0⟩] scope pos) Φ :=
  we_of (pe_lc hc hN hi ok hg (fun _ _ _ _ _ => pts_nil) pe_blk hs) (wte_lc src hE)
theorem we_lcT {tst : Expr} {scope : Scope} {own : List (Str × Nat)} {wi : TI} {t : TG} (hc : X.calm = true) (hN : X.N.Nodup) (hi : PI X tg iter wi) (ok : BlkOk X.N X.env.scope scope own)
    (hg : ∀ (s : Shared) (H : Hp) (C : Addr) (cl : List (Str × Addr)) (fp : List Addr), PG (X.blk s H scope (compEnvC scope cl C X.env) fp) tg t) (hE : ∀ a ∈ E.M, E.H a ≠ none)
    (src : Src X E Γ M wi fun M1 n item => LcKT X E Γ M1 scope (own.map (·.2)) elt tst t n item Φ) (hs : ∀ x, foldedSetIterable iter X.env x = pure x := by intro _; rfl) : WE X E Γ M (.ListComp elt [⟨tg, iter, [tst], 0⟩] scope pos) Φ :=
  we_of (pe_lc hc hN hi ok hg (fun s H C cl fp => pts_one (pt_blk s H C cl fp)) pe_blk hs) (wte_lcT src hE)
theorem ws_setLc (i : Nat) {y : Str} {py : Pos} {scope : Scope} {own : List (Str × Nat)} {spos : Pos} {wi : TI} {t : TG} (hc : X.calm = true) (hN : X.N.Nodup) (hy : X.N[i]? = some y) (hyl : X.env.scope.names.lookup y = some .local)
    (hsw : swapsWith (.ListComp elt [⟨tg, iter, [], 0⟩] scope pos) (some (.Name y py)) spos.line X.env = pure true) (hi : PI X tg iter wi) (ok : BlkOk X.N X.env.scope scope own)
    (hg : ∀ (s : Shared) (H : Hp) (C : Addr) (cl : List (Str × Addr)) (fp : List Addr), PG (X.blk s H scope (compEnvC scope cl C X.env) fp) tg t) (hE : ∀ a ∈ E.M, E.H a ≠ none)
    (src : Src X E Γ M wi fun M1 n item => LcK X E Γ M1 scope (own.map (·.2)) elt t n item fun ρ M' => Ψ.nx (Γ.set i (some ρ)) M') (hs : ∀ x, foldedSetIterable iter X.env x = pure x := by intro _; rfl) : WS X E Γ M (.Assign [.Name y py] (.ListComp elt [⟨tg, iter, [], 0⟩] scope pos) spos) Ψ :=
  ws_of (ps_setLc hc hN hy hyl hsw hi ok hg (fun _ _ _ _ _ => pts_nil) pe_blk hs) fun σ G H a D k => wte_lc src hE σ G H a _ fun ρ M' v G' H' h' s' a' r' => k.nx _ M' h' _ G' H' s' (a'.set r')
theorem ws_setLcT {tst : Expr} (i : Nat) {y : Str} {py : Pos} {scope : Scope} {own : List (Str × Nat)} {spos : Pos} {wi : TI} {t : TG} (hc : X.calm = true) (hN : X.N.Nodup) (hy : X.N[i]? = some y) (hyl : X.env.scope.names.lookup y = some .local)
    (hsw : swapsWith (.ListComp elt [⟨tg, iter, [tst], 0⟩] scope pos) (some (.Name y py)) spos.line X.env = pure true) (hi : PI X tg iter wi) (ok : BlkOk X.N X.env.scope scope own)
    (hg : ∀ (s : Shared) (H : Hp) (C : Addr) (cl : List (Str × Addr)) (fp : List Addr), PG (X.blk s H scope (compEnvC scope cl C X.env) fp) tg t) (hE : ∀ a ∈ E.M, E.H a ≠ none)
    (src : Src X E Γ M wi fun M1 n item => LcKT X E Γ M1 scope (own.map (·.2)) elt tst t n item fun ρ M' => Ψ.nx (Γ.set i (some ρ)) M') (hs : ∀ x, foldedSetIterable iter X.env x = pure x := by intro _; rfl) : WS X E Γ M (.Assign [.Name y py] (.ListComp elt [⟨tg, iter, [tst], 0⟩] scope pos) spos) Ψ :=
  ws_of (ps_setLc hc hN hy hyl hsw hi ok hg (fun s H C cl fp => pts_one (pt_blk s H C cl fp)) pe_blk hs) fun σ G H a D k => wte_lcT src hE σ G H a _ fun ρ M' v G' H' h' s' a' r' => k.nx _ M' h' _ G' H' s' (a'.set r')
end
end MM

namespace MM
open PySem L2 PyProof.Rows
/-! ### sizes -/
def Bd (n : Nat) (i : Int) : Prop := i.natAbs < 2 ^ n
theorem pow2_le {a b : Nat} (h : a ≤ b) : 2 ^ a ≤ 2 ^ b := Nat.pow_le_pow_right (by decide) h
theorem Bd.mono {n m : Nat} {i : Int} (h : Bd n i) (l : n ≤ m) : Bd m i := Nat.lt_of_lt_of_le h (pow2_le l)
theorem bd_mul {n m : Nat} {i j : Int} (h : Bd n i) (h' : Bd m j) : Bd (n + m) (i * j) := wide_lt h h'
theorem pow_max {n m : Nat} : 2 ^ n + 2 ^ m ≤ 2 ^ (max n m + 1) := by
  have h1 : 2 ^ n ≤ 2 ^ (max n m) := pow2_le (Nat.le_max_left _ _)
  have h2 : 2 ^ m ≤ 2 ^ (max n m) := pow2_le (Nat.le_max_right _ _)
  rw [Nat.pow_succ]; omega
theorem bd_add {n m : Nat} {i j : Int} (h : Bd n i) (h' : Bd m j) : Bd (max n m + 1) (i + j) := by
  have h1 : i.natAbs < 2 ^ n := h
  have h2 : j.natAbs < 2 ^ m := h'
  have h3 := @pow_max n m
  have h4 := Int.natAbs_add_le i j
  show (i + j).natAbs < _
  omega
theorem bd_sub {n m : Nat} {i j : Int} (h : Bd n i) (h' : Bd m j) : Bd (max n m + 1) (i - j) := by
  have h1 : i.natAbs < 2 ^ n := h
  have h2 : j.natAbs < 2 ^ m := h'
  have h3 := @pow_max n m
  show (i - j).natAbs < _
  omega
theorem bd_neg {n : Nat} {i : Int} (h : Bd n i) : Bd n (-i) := by
  show (-i).natAbs < _
  rw [Int.natAbs_neg]; exact h
theorem bd_div {n : Nat} {i j : Int} (hj : 0 < j) (h : Bd n i) : Bd n (i / j) := by
  have h1 : i.natAbs < 2 ^ n := h
  show (i / j).natAbs < _
  have := Int.natAbs_ediv_le_natAbs i j
  omega
theorem bd_mod {n : Nat} {i j : Int} (hj : 0 < j) (h : Bd n j) : Bd n (i % j) := by
  have h1 : j.natAbs < 2 ^ n := h
  have h2 := Int.emod_nonneg i (by omega : j ≠ 0)
  have h3 := Int.emod_lt_of_pos i hj
  show (i % j).natAbs < _
  omega
theorem bd_range {n : Nat} {i : Int} (h0 : -(2 ^ n : Nat) < i) (h1 : i < (2 ^ n : Nat)) : Bd n i := by
  show i.natAbs < _
  omega
theorem Bd.lo {n : Nat} {i : Int} (h : Bd n i) : -((2 ^ n : Nat) : Int) < i := by
  have h1 : i.natAbs < 2 ^ n := h
  omega
theorem Bd.hi {n : Nat} {i : Int} (h : Bd n i) : i < ((2 ^ n : Nat) : Int) := by
  have h1 : i.natAbs < 2 ^ n := h
  omega
theorem bd_log {n : Nat} {i : Int} (h : Bd n i) (hn : 0 < n) : i.natAbs.log2 < n := PySem.Flt.log2_lt_of hn h
theorem mulOk {n m : Nat} {i j : Int} (h : Bd n i) (h' : Bd m j) (l : n + m ≤ 900000) : CMulW i j := by
  have h1 := bd_log (h.mono (Nat.le_succ n)) (by omega)
  have h2 := bd_log (h'.mono (Nat.le_succ m)) (by omega)
  unfold CMulW
  omega
theorem divOk {n : Nat} {i j : Int} (h0 : 0 < j) (h : Bd n j) (l : n < 9000) : CDivW i j := by
  refine ⟨h0, ?_⟩
  have h1 := bd_log (h.mono (Nat.le_succ n)) (by omega)
  omega
/-! ### operators on plain values -/
section
variable {X : Cx}
def CDivA (_ j : Int) : Prop := j ≠ 0 ∧ j.natAbs.log2 < 9000
theorem divOkA {n : Nat} {i j : Int} (h0 : j ≠ 0) (h : Bd n j) (l : n < 9000) : CDivA i j := by
  refine ⟨h0, ?_⟩
  have h1 := bd_log (h.mono (Nat.le_succ n)) (by omega)
  omega
theorem op_fdivA : OpR X (binaryOp .FloorDiv) (rI CDivA fun i j => .int (i.fdiv j)) := opI fun i j _ _ _ _ _ hc q => floordiv_int hc.1 q (.inl (PyProof.noPylong_of_log2 hc.2))
theorem iop_fdivA : OpR X (inplaceOp .FloorDiv) (rI CDivA fun i j => .int (i.fdiv j)) := opI fun i j _ _ _ _ _ hc q => ifloordiv_int hc.1 q (.inl (PyProof.noPylong_of_log2 hc.2))
/-- s * 0, s * 1 -/
theorem op_rep_str : OpR X (binaryOp .Mult) (fun x y H Q => ∃ z i, x = .str z ∧ y = .int i ∧ (i = 0 ∨ i = 1) ∧ Q (.str (if i = 1 then z else Str.empty)) H) := by
  intro pins s σ H x y v u Q I rx ry h
  obtain ⟨z, i, rfl, rfl, h0, q⟩ := h
  obtain ⟨t, rfl⟩ := rx
  obtain ⟨t', rfl⟩ := ry
  rcases h0 with rfl | rfl
  · exact PySem.P.mul_str_none (by decide) (by decide) ⟨.str _, H, I.tok _, ⟨_, rfl⟩, q⟩
  · refine PySem.P.mul_str (by decide) (fun _ h => by simp at h) (fun _ h => by simp at h) ?_
    rw [if_neg (by decide), if_pos (by simp)]
    exact ⟨.str z, H, I, ⟨_, rfl⟩, q⟩
def rAddU (K : PySem.W.Frag) : R2 := fun x y H Q => (rI0 fun i j => .int (i + j)) x y H Q ∨ (∃ i j, x = .str i ∧ y = .str j ∧ i.length + j.length ≤ sizeLine ∧ Q (.str (i ++ j)) H) ∨ rCat x y H Q ∨ rCatT K x y H Q
theorem op_addU : OpR X (binaryOp .Add) (rAddU X.K) := op_add.or (op_add_str.or (op_cat.or op_catT))
def rMulU : R2 := fun x y H Q => (rI CMulW fun i j => .int (i * j)) x y H Q ∨ (∃ z i, x = .str z ∧ y = .int i ∧ (i = 0 ∨ i = 1) ∧ Q (.str (if i = 1 then z else Str.empty)) H) ∨ rRep x y H Q
theorem op_mulU : OpR X (binaryOp .Mult) rMulU := op_mulW.or (op_rep_str.or op_rep)
abbrev rSubI : R2 := rI0 fun i j => .int (i - j)
abbrev rDivA : R2 := rI CDivA fun i j => .int (i.fdiv j)
abbrev rModN : R2 := rI (fun _ j => j ≠ 0) fun i j => .int (i.fmod j)
abbrev rPow : R2 := rI CPow fun i j => .int (i ^ j.toNat)
theorem opv_i {r : R2} {i j : Int} {v : V} {ρ : Rep} (h : ∀ (H : Hp) (Q : VK), Q v H → r (.int i) (.int j) H Q) (hv : ∀ G, ρ.p v G) : OpV r (RI i) (RI j) ρ := fun x y G H s hx hy Q q => by
  have hx : x = .int i := hx
  have hy : y = .int j := hy
  subst hx hy
  exact h H Q (q v G H (New.refl s) (hv G))
theorem opv_add_i {K : PySem.W.Frag} {i j : Int} : OpV (rAddU K) (RI i) (RI j) (RI (i + j)) := opv_i (fun H Q q => .inl ⟨i, j, rfl, rfl, q⟩) fun _ => rfl
theorem opv_sub_i {i j : Int} : OpV rSubI (RI i) (RI j) (RI (i - j)) := opv_i (fun H Q q => ⟨i, j, rfl, rfl, q⟩) fun _ => rfl
theorem opv_mul_i {i j : Int} (h : CMulW i j) : OpV rMulU (RI i) (RI j) (RI (i * j)) := opv_i (fun H Q q => .inl ⟨i, j, rfl, rfl, h, q⟩) fun _ => rfl
theorem opv_div_i {i j : Int} (h : 0 < j) (h9 : j.natAbs.log2 < 9000) : OpV rDivA (RI i) (RI j) (RI (i / j)) := opv_i (fun H Q q => ⟨i, j, rfl, rfl, ⟨by omega, h9⟩, by show Q (V.int (i.fdiv j)) H; rw [Int.fdiv_eq_ediv_of_nonneg i (by omega)]; exact q⟩) fun _ => rfl
theorem opv_fdiv_i {i j : Int} (h : CDivA i j) : OpV rDivA (RI i) (RI j) (RI (i.fdiv j)) := opv_i (fun H Q q => ⟨i, j, rfl, rfl, h, q⟩) fun _ => rfl
theorem opv_mod_i {i j : Int} (h : 0 < j) : OpV rModN (RI i) (RI j) (RI (i % j)) := opv_i (fun H Q q => ⟨i, j, rfl, rfl, by omega, by show Q (V.int (i.fmod j)) H; rw [Int.fmod_eq_emod_of_nonneg i (by omega)]; exact q⟩) fun _ => rfl
theorem opv_fmod_i {i j : Int} (h : j ≠ 0) : OpV rModN (RI i) (RI j) (RI (i.fmod j)) := opv_i (fun H Q q => ⟨i, j, rfl, rfl, h, q⟩) fun _ => rfl
theorem opv_pow_i {i j : Int} (h : CPow i j) : OpV rPow (RI i) (RI j) (RI (i ^ j.toNat)) := opv_i (fun H Q q => ⟨i, j, rfl, rfl, h, q⟩) fun _ => rfl
abbrev rLtI : R2 := rI0 fun i j => .bl (decide (i < j))
abbrev rLeI : R2 := rI0 fun i j => .bl (decide (i ≤ j))
abbrev rGtI : R2 := rI0 fun i j => .bl (decide (j < i))
abbrev rGeI : R2 := rI0 fun i j => .bl (decide (j ≤ i))
theorem opv_lt_i {i j : Int} : OpV rLtI (RI i) (RI j) (RB (decide (i < j))) := opv_i (fun H Q q => ⟨i, j, rfl, rfl, q⟩) fun _ => rfl
theorem opv_le_i {i j : Int} : OpV rLeI (RI i) (RI j) (RB (decide (i ≤ j))) := opv_i (fun H Q q => ⟨i, j, rfl, rfl, q⟩) fun _ => rfl
theorem opv_gt_i {i j : Int} : OpV rGtI (RI i) (RI j) (RB (decide (j < i))) := opv_i (fun H Q q => ⟨i, j, rfl, rfl, q⟩) fun _ => rfl
theorem opv_ge_i {i j : Int} : OpV rGeI (RI i) (RI j) (RB (decide (j ≤ i))) := opv_i (fun H Q q => ⟨i, j, rfl, rfl, q⟩) fun _ => rfl
theorem opv_add_s {K : PySem.W.Frag} {i j : Str} (h : i.length + j.length ≤ 100000) : OpV (rAddU K) (RS i) (RS j) (RS (i ++ j)) := fun x y G H s hx hy Q q => by
  have hx : x = .str i := hx
  have hy : y = .str j := hy
  subst hx hy
  exact .inr (.inl ⟨i, j, rfl, rfl, szOf h, q _ G H (New.refl s) rfl⟩)
theorem opv_add_l {K : PySem.W.Frag} {ρs ρs' : List Rep} (h : ρs.length + ρs'.length ≤ 100000) : OpV (rAddU K) (RLt ρs) (RLt ρs') (RLt (ρs ++ ρs')) := fun x y G H s ⟨a, xs, e1, h1, r1⟩ ⟨b, ys, e2, h2, r2⟩ Q q => by
  subst e1 e2
  refine .inr (.inr (.inl ⟨a, b, xs, ys, rfl, rfl, s _ _ h1, s _ _ h2, by rw [← r1.length, ← r2.length]; exact szOf h, fun p hp => ?_⟩))
  have n : New G H (upd G p (.lst (xs ++ ys))) (upd H p (.lst (xs ++ ys))) := New.put s hp
  exact q _ _ _ n ⟨p, _, rfl, upd_same, (r1.app r2).mono n.gg⟩
theorem opv_mul_s {i : Int} {z : Str} (h : i = 0 ∨ i = 1) : OpV rMulU (RS z) (RI i) (RS (if i = 1 then z else Str.empty)) := fun x y G H s hx hy Q q => by
  have hx : x = .str z := hx
  have hy : y = .int i := hy
  subst hx hy
  exact .inr (.inl ⟨z, i, rfl, rfl, h, q _ G H (New.refl s) rfl⟩)
/-! ### data compared -/
def IsD (K : PySem.W.Frag) (ρ : Rep) (d : PyData) : Prop := ∀ v G H, Same G H → ρ.p v G → Dp K H v d
def IsDs (K : PySem.W.Frag) (ρs : List Rep) (ds : List PyData) : Prop := ∀ vs G H, Same G H → Reps ρs vs G → DpAll K H vs ds
theorem isD_i {K : PySem.W.Frag} {i : Int} : IsD K (RI i) (.int i) := fun v G H _ h => by
  have h : v = .int i := h
  subst h; exact .int i
theorem isD_b {K : PySem.W.Frag} {i : Bool} : IsD K (RB i) (.bool i) := fun v G H _ h => by
  have h : v = .bl i := h
  subst h; exact .bl i
theorem isD_s {K : PySem.W.Frag} {i : Str} : IsD K (RS i) (.str i) := fun v G H _ h => by
  have h : v = .str i := h
  subst h; exact .str i
theorem isD_n {K : PySem.W.Frag} : IsD K RN .none := fun v G H _ h => by
  have h : v = .non := h
  subst h; exact .non
def oD : Option Int → PyData
  | none => .none
  | some i => .int i
theorem isD_o {K : PySem.W.Frag} : ∀ {o : Option Int}, IsD K (RO o) (oD o)
  | none => isD_n
  | some _ => isD_i
theorem isDs_nil {K : PySem.W.Frag} : IsDs K [] [] := fun vs G H _ h => by
  match vs, h with
  | [], _ => exact .nil
theorem isDs_cons {K : PySem.W.Frag} {ρ : Rep} {ρs : List Rep} {d : PyData} {ds : List PyData} (h : IsD K ρ d) (hs : IsDs K ρs ds) : IsDs K (ρ :: ρs) (d :: ds) := fun vs G H s r => by
  match vs, r with
  | v :: vs, ⟨r1, r2⟩ => exact .cons (h v G H s r1) (hs vs G H s r2)
theorem isDs_map {K : PySem.W.Frag} {α : Type} {f : α → Rep} {g : α → PyData} (h : ∀ a, IsD K (f a) (g a)) : ∀ l : List α, IsDs K (l.map f) (l.map g)
  | [] => isDs_nil
  | a :: l => isDs_cons (h a) (isDs_map h l)
theorem isD_t {K : PySem.W.Frag} {ρs : List Rep} {ds : List PyData} (h : IsDs K ρs ds) : IsD K (RT K ρs) (.tuple ds) := fun v G H s ⟨a, vs, e, hq, r⟩ => by
  subst e; exact .tup (same_seqT s hq) (h vs G H s r)
theorem isD_tt {K : PySem.W.Frag} {ρs : List Rep} {ds : List PyData} (h : IsDs K ρs ds) : IsD K (RTt ρs) (.tuple ds) := fun v G H s r => isD_t h v G H s (sub_tt v G r)
theorem isD_l {K : PySem.W.Frag} {ρs : List Rep} {ds : List PyData} (h : IsDs K ρs ds) : IsD K (RL K ρs) (.list ds) := fun v G H s ⟨a, vs, e, hq, r⟩ => by
  subst e; exact .lst (Same.seq s hq) (h vs G H s r)
theorem isD_lt {K : PySem.W.Frag} {ρs : List Rep} {ds : List PyData} (h : IsDs K ρs ds) : IsD K (RLt ρs) (.list ds) := fun v G H s r => isD_l h v G H s (sub_lt v G r)
theorem isD_sub {K : PySem.W.Frag} {ρ ρ' : Rep} {d : PyData} (sb : Sub ρ ρ') (h : IsD K ρ' d) : IsD K ρ d := fun v G H s r => h v G H s (sb v G r)
theorem opv_eq {K : PySem.W.Frag} {ρ ρ' : Rep} {d e : PyData} (h1 : IsD K ρ d) (h2 : IsD K ρ' e) (s1 : SeqAt.shaped d = true) (s2 : SeqAt.shaped e = true) : OpV (rEqD K) ρ ρ' (RB (PyData.eqv d e)) := fun x y G H s hx hy Q q =>
  ⟨d, e, h1 x G H s hx, h2 y G H s hy, s1, s2, q _ G H (New.refl s) rfl⟩
theorem opv_ne {K : PySem.W.Frag} {ρ ρ' : Rep} {d e : PyData} (h1 : IsD K ρ d) (h2 : IsD K ρ' e) (s1 : SeqAt.shaped d = true) (s2 : SeqAt.shaped e = true) : OpV (rNeD K) ρ ρ' (RB (!PyData.eqv d e)) := fun x y G H s hx hy Q q =>
  ⟨d, e, h1 x G H s hx, h2 y G H s hy, s1, s2, q _ G H (New.refl s) rfl⟩
theorem opv_sub {r : R2} {a b a' b' ρ : Rep} (h1 : Sub a a') (h2 : Sub b b') (h : OpV r a' b' ρ) : OpV r a b ρ := fun x y G H s hx hy Q q => h x y G H s (h1 _ _ hx) (h2 _ _ hy) Q q
/-- is None -/
abbrev rIsN : R2 := fun x y H Q => y = .non ∧ Q (.bl (decide (x = .non))) H
abbrev rNotN : R2 := fun x y H Q => y = .non ∧ Q (.bl (!decide (x = .non))) H
theorem opv_isN {ρ : Rep} {b : Bool} (h : ∀ v G, ρ.p v G → decide (v = V.non) = b) : OpV rIsN ρ RN (RB b) := fun x y G H s hx hy Q q => ⟨hy, q _ G H (New.refl s) (congrArg V.bl (h x G hx))⟩
theorem opv_notN {ρ : Rep} {b : Bool} (h : ∀ v G, ρ.p v G → decide (v = V.non) = b) : OpV rNotN ρ RN (RB (!b)) := fun x y G H s hx hy Q q => ⟨hy, q _ G H (New.refl s) (by show V.bl _ = V.bl _; rw [h x G hx])⟩
theorem isN_o {o : Option Int} : ∀ v G, (RO o).p v G → decide (v = V.non) = o.isNone := fun v G h => by
  cases o with
  | none =>
    have h : v = .non := h
    subst h; rfl
  | some i =>
    have h : v = .int i := h
    subst h; rfl
theorem isN_i {i : Int} : ∀ v G, (RI i).p v G → decide (v = V.non) = false := fun v G h => by
  have h : v = .int i := h
  subst h; rfl
theorem isN_n : ∀ v G, RN.p v G → decide (v = V.non) = true := fun v G h => by
  have h : v = .non := h
  subst h; rfl
/-! ### subscripts -/
theorem opv_ix_l {K : PySem.W.Frag} {ρa ρ : Rep} {ρs : List Rep} {i : Int} (sb : Sub ρa (RL K ρs)) (h : atI ρs i = some ρ) : OpV (rIx K) ρa (RI i) ρ := fun x y G H s hx hy Q q => by
  obtain ⟨a, vs, e, hq, r⟩ := sb _ _ hx
  have hy : y = .int i := hy
  subst e hy
  obtain ⟨j, h1, h2, h3, h4, h5⟩ := atI_get h
  obtain ⟨v, e2, r2⟩ := r.get h2
  refine .inl ⟨a, vs, i, v, rfl, rfl, Same.seq s hq, ?_, q v G H (New.refl s) r2⟩
  unfold atI at h ⊢
  rw [← r.length]
  cases z : ixN ρs.length i with
  | none => rw [z] at h; cases h
  | some j' =>
    rw [z] at h
    have := (ixN_seq z).1
    rw [h1] at this
    cases this
    exact e2
theorem opv_ix_t {K : PySem.W.Frag} {ρa ρ : Rep} {ρs : List Rep} {i : Int} (sb : Sub ρa (RT K ρs)) (h : atI ρs i = some ρ) : OpV (rIx K) ρa (RI i) ρ := fun x y G H s hx hy Q q => by
  obtain ⟨a, vs, e, hq, r⟩ := sb _ _ hx
  have hy : y = .int i := hy
  subst e hy
  obtain ⟨j, h1, h2, h3, h4, h5⟩ := atI_get h
  obtain ⟨v, e2, r2⟩ := r.get h2
  refine .inr (.inl ⟨a, vs, i, v, rfl, rfl, same_seqT s hq, ?_, q v G H (New.refl s) r2⟩)
  unfold atI at h ⊢
  rw [← r.length]
  cases z : ixN ρs.length i with
  | none => rw [z] at h; cases h
  | some j' =>
    rw [z] at h
    have := (ixN_seq z).1
    rw [h1] at this
    cases this
    exact e2
theorem opw_ix_o {K : PySem.W.Frag} {E : En} {Γ : Gm} {M : Ow} {Φ : Rep → Ow → Prop} {ρa ρb ρ : Rep} {ρs : List Rep} {p : Addr} {u : ORep → Ow} {i : Int} (sb : Sub ρa (RRef p)) (si : Sub ρb (RI i)) (fd : Fnd M p (OL ρs) u) (h : atI ρs i = some ρ) (k : Φ ρ M) : OpW E Γ M (rIx K) ρa ρb Φ := fun σ G H a x y hx hy Q q => by
  have e1 : x = .ref p := sb _ _ hx
  have e2 : y = .int i := si _ _ hy
  subst e1 e2
  obtain ⟨o, e3, vs, e4, r⟩ := a.own _ fd.mem
  subst e4
  obtain ⟨j, h1, h2, h3, h4, h5⟩ := atI_get h
  obtain ⟨v, e5, r2⟩ := r.get h2
  refine .inl ⟨p, vs, i, v, rfl, rfl, SqL.of e3, ?_, q ρ M v G H k (Same.refl _) a r2⟩
  unfold atI at h ⊢
  rw [← r.length]
  cases z : ixN ρs.length i with
  | none => rw [z] at h; cases h
  | some j' =>
    rw [z] at h
    have := (ixN_seq z).1
    rw [h1] at this
    cases this
    exact e5
/-- an item at an open place: one of the list's -/
theorem atI_of {α : Type} {l : List α} {i : Int} (h0 : 0 ≤ i) (h1 : i < l.length) : ∃ x, atI l i = some x ∧ x ∈ l ∧ l[i.toNat]? = some x := by
  have hl : i.toNat < l.length := by omega
  have e : ((i.toNat : Nat) : Int) = i := by omega
  have h := atI_nat (xs := l) (j := i.toNat) (v := l[i.toNat]) (by simp [hl])
  rw [e] at h
  exact ⟨l[i.toNat], h, List.getElem_mem hl, by simp [hl]⟩
/-! ### built-in functions -/
theorem cav_abs {i : Int} : CaV (fun xs H Q => ∃ i, xs = [.int i] ∧ Q (.int (if i < 0 then -i else i)) H) [RI i] (RI (i.natAbs : Int)) := fun vs G H s r Q q => by
  match vs, r with
  | [v], ⟨r1, _⟩ =>
    have r1 : v = .int i := r1
    subst r1
    refine ⟨i, rfl, q _ G H (New.refl s) ?_⟩
    show V.int _ = V.int _
    congr 1
    split <;> omega
theorem cav_int_b {b : Bool} : CaV (fun xs H Q => (∃ i, xs = [.int i] ∧ Q (.int i) H) ∨ ∃ k, xs = [.bl k] ∧ Q (.int (if k then 1 else 0)) H) [RB b] (RI (if b then 1 else 0)) := fun vs G H s r Q q => by
  match vs, r with
  | [v], ⟨r1, _⟩ =>
    have r1 : v = .bl b := r1
    subst r1
    exact .inr ⟨b, rfl, q _ G H (New.refl s) rfl⟩
theorem cav_max2 {i j : Int} : CaV (fun xs H Q => ∃ i j, xs = [.int i, .int j] ∧ Q (.int (if j > i then j else i)) H) [RI i, RI j] (RI (max i j)) := fun vs G H s r Q q => by
  match vs, r with
  | [v, w], ⟨r1, r2, _⟩ =>
    have r1 : v = .int i := r1
    have r2 : w = .int j := r2
    subst r1 r2
    refine ⟨i, j, rfl, q _ G H (New.refl s) ?_⟩
    show V.int _ = V.int _
    congr 1
    split <;> omega
theorem cav_min2 {i j : Int} : CaV (fun xs H Q => ∃ i j, xs = [.int i, .int j] ∧ Q (.int (if j < i then j else i)) H) [RI i, RI j] (RI (min i j)) := fun vs G H s r Q q => by
  match vs, r with
  | [v, w], ⟨r1, r2, _⟩ =>
    have r1 : v = .int i := r1
    have r2 : w = .int j := r2
    subst r1 r2
    refine ⟨i, j, rfl, q _ G H (New.refl s) ?_⟩
    show V.int _ = V.int _
    congr 1
    split <;> omega
theorem cav_str_i {i : Int} (h : i.natAbs.log2 < 1920) : CaV (fun xs H Q => ∃ i, xs = [.int i] ∧ i.natAbs.log2 < 1920 ∧ Q (.str (toString i)) H) [RI i] (RS (Str.ofString (toString i))) := fun vs G H s r Q q => by
  match vs, r with
  | [v], ⟨r1, _⟩ =>
    have r1 : v = .int i := r1
    subst r1
    exact ⟨i, rfl, h, q _ G H (New.refl s) rfl⟩
/-- isinstance -/
def TyIs (K : PySem.W.Frag) (ρ : Rep) (t : Value) : Prop := ∀ v G H, Same G H → ρ.p v G → TyX K H v t
theorem tyIs_i {K : PySem.W.Frag} {i : Int} : TyIs K (RI i) (.type "int") := fun v G H _ h => by
  have h : v = .int i := h
  subst h; exact .base (.int i)
theorem tyIs_b {K : PySem.W.Frag} {i : Bool} : TyIs K (RB i) (.type "bool") := fun v G H _ h => by
  have h : v = .bl i := h
  subst h; exact .base (.bl i)
theorem tyIs_s {K : PySem.W.Frag} {i : Str} : TyIs K (RS i) (.type "str") := fun v G H _ h => by
  have h : v = .str i := h
  subst h; exact .base (.str i)
theorem tyIs_n {K : PySem.W.Frag} : TyIs K RN (.type "NoneType") := fun v G H _ h => by
  have h : v = .non := h
  subst h; exact .base .non
theorem tyIs_lt {K : PySem.W.Frag} {ρs : List Rep} : TyIs K (RLt ρs) (.type "list") := fun v G H s ⟨a, vs, e, h, _⟩ => by
  subst e; exact .base (.lst (s _ _ h))
theorem tyIs_tt {K : PySem.W.Frag} {ρs : List Rep} : TyIs K (RTt ρs) (.type "tuple") := fun v G H s ⟨a, vs, e, h, _⟩ => by
  subst e; exact .base (.tup (s _ _ h))
/-- what isinstance asks of an own class -/
structure ClsI (K : PySem.W.Frag) (C : Addr) : Prop where
  cl : Cls K C
  ha : PySem.W.findIn K (.ref C) "__class__" = some (some (.builtin "object.__class__"))
  hn : PySem.W.specialIn K (.builtin "object.__class__") "__get__" = some (some (.builtin "getset_descriptor.__get__"))
  htk : PySem.W.takesIn K (.builtin "object.__class__") = some true
  hm : PySem.W.mroIn K C (.type "object") = some true
theorem tyIs_ins {K : PySem.W.Frag} {C : Addr} {l : List (Str × Rep)} (c : ClsI K C) : TyIs K (RIns C l) (.ref C) := fun v G H s ⟨a, dx, fs, e, h, _⟩ => by
  subst e; exact .base (.ins (s _ _ h) c.cl c.ha c.hn c.htk c.hm)
theorem tyIs_sub {K : PySem.W.Frag} {ρ ρ' : Rep} {t : Value} (sb : Sub ρ ρ') (h : TyIs K ρ' t) : TyIs K ρ t := fun v G H s r => h v G H s (sb v G r)
theorem cav_isi {K : PySem.W.Frag} {ρ : Rep} {c : V} {t u : Value} {b : Bool} (h : TyIs K ρ t) (hc : ClsV c u) (e : PySem.W.kitOne K t u = some b) : CaV (rIsi K) [ρ, RV c] (RB b) := fun vs G H s r Q q => by
  match vs, r with
  | [v, w], ⟨r1, r2, _⟩ =>
    have r2 : w = c := r2
    subst r2
    exact ⟨v, w, t, u, b, rfl, hc, h v G H s r1, e, q _ G H (New.refl s) rfl⟩
theorem kit_self {K : PySem.W.Frag} {C : Addr} : PySem.W.kitOne K (.ref C) (.ref C) = some true := by
  unfold PySem.W.kitOne
  rw [if_pos (by simp)]
/-! ### the truth of own things without __bool__ and __len__ -/
theorem tru_ins {C : Addr} (hb : PySem.W.findIn X.K (.ref C) "__bool__" = some none) (hl : PySem.W.findIn X.K (.ref C) "__len__" = some none) {pins : List (Addr × Obj)} {s : Shared} {σ : L2.St} {H : Hp} {a dx : Addr} {fs : List (Str × V)} {Q : Bool → Hp → Prop} (I : L2.Inv X pins σ H s) (h : H a = some (.ins C dx fs)) (q : Q true H) :
    wpAny (model X.prog X.w) X.A (truthy (.ref a)) (TP X pins σ Q) X.xe s := by
  obtain ⟨mA, O, _, _, _, _⟩ := ins_get I.hok h
  obtain ⟨od, J, _⟩ := O.look
  have K' := I.kIn
  unfold truthy
  refine wpAny_bind (m := callSpecial? (.ref a) (Str.ofString "__bool__")) (wpAny_bind (wpAny_bind (J.type.here ((PySem.W.looks_findIn K' hb).here (wpAny_pure ?_)))))
  refine wpAny_bind (wpAny_bind (J.type.here ((PySem.W.looks_findIn K' hl).here ?_)))
  exact wpAny_pure ⟨H, I, q⟩
end
/-- x or y, x an own thing, or a plain value of known truth -/
def Tru (X : Cx) (ρ : Rep) (k : Bool) : Prop := ∀ {pins : List (Addr × Obj)} {s : Shared} {σ : L2.St} {G H : Hp} {x : V} {v : Value} {Q : Bool → Hp → Prop}, L2.Inv X pins σ H s → Same G H → ρ.p x G → RelV x v → Q k H → wpAny (model X.prog X.w) X.A (truthy v) (TP X pins σ Q) X.xe s
section
variable {X : Cx} {E : En} {Γ : Gm} {M : Ow} {a b e : Expr} {pos : Pos} {Φ : Rep → Ow → Prop}
theorem tru_of {ρ : Rep} {k : Bool} (h : ∀ x G H, Same G H → ρ.p x G → TruV X.K x H k) : Tru X ρ k := fun {pins s σ G H x v Q} I sg hx r q => tru_ok pins s σ H x v Q I r ⟨k, h x G H sg hx, q⟩
theorem truIns {C : Addr} {l : List (Str × Rep)} (hb : PySem.W.findIn X.K (.ref C) "__bool__" = some none) (hl : PySem.W.findIn X.K (.ref C) "__len__" = some none) : Tru X (RIns C l) true := fun {pins s σ G H x v Q} I sg ⟨a, dx, fs, e, h, _⟩ r q => by
  subst e
  obtain rfl : v = Value.ref a := r
  exact tru_ins hb hl I (sg _ _ h) q
theorem truSub {ρ ρ' : Rep} {k : Bool} (sb : Sub ρ ρ') (h : Tru X ρ' k) : Tru X ρ k := fun {pins s σ G H x v Q} I sg hx r q => h I sg (sb _ _ hx) r q
theorem truN : Tru X RN false := tru_of fun x G H _ h => by
  have h : x = .non := h
  subst h; rfl
theorem truI {i : Int} : Tru X (RI i) (i != 0) := tru_of fun x G H _ h => by
  have h : x = .int i := h
  subst h; rfl
theorem truB {i : Bool} : Tru X (RB i) i := fun {pins s σ G H x v Q} I sg hx r q => by
  have h : x = .bl i := hx
  subst h
  obtain rfl : v = Value.bool i := r
  exact wpAny_truthy_bool ⟨H, I, q⟩
theorem we_orT {rest : List Expr} (h : WE X E Γ M a fun ρ M' => ∃ k, Tru X ρ k ∧ (k = false → WE X E Γ M' (.BoolOp .Or (b :: rest) pos) Φ) ∧ (k = true → Φ ρ M')) : WE X E Γ M (.BoolOp .Or (a :: b :: rest) pos) Φ := fun σ G H at' Q q pins s I => by
  refine BoolOp_or (thn (h σ G H at' (fun v H1 => ∃ ρ M' G1 k, Tru X ρ k ∧ (k = false → WE X E Γ M' (.BoolOp .Or (b :: rest) pos) Φ) ∧ (k = true → Φ ρ M') ∧ Same G G1 ∧ At E Γ M' σ G1 H1 ∧ ρ.p v G1) (fun ρ M' v G1 H1 ⟨k, t, h1, h2⟩ s1 a1 r1 => ⟨ρ, M', G1, k, t, h1, h2, s1, a1, r1⟩) pins s I) fun v s1 ⟨x, H1, I1, r1, ρ, M', G1, k, t, h1, h2, sg, a1, rx⟩ => ?_)
  refine thn (t (Q := fun c H2 => c = k ∧ H2 = H1) I1 a1.gh rx r1 ⟨rfl, rfl⟩) fun c s2 ⟨H2, I2, e1, e2⟩ => ?_
  subst e1 e2
  cases c with
  | true => exact ⟨x, H2, I2, r1, q ρ M' x G1 H2 (h2 rfl) sg a1 rx⟩
  | false => exact h1 rfl σ G1 H2 a1 Q (fun ρ' M2 v2 G2 H3 hk s3 => q ρ' M2 v2 G2 H3 hk (sg.trans s3)) pins s2 I2
/-- any expression as a test, by its truth -/
theorem wt_tru {Φ : Bool → Ow → Prop} (h : WE X E Γ M e fun ρ M' => ∃ k, Tru X ρ k ∧ Φ k M') (he : ∀ whole, isTrue e X.env whole = (do let v ← whole; standAt e.pos; holding [v] (truthy v)) := by intro _; rfl) : WT X E Γ M e Φ := fun σ G H a Q q pins s I => by
  refine isTrue_plain (thn (h σ G H a (fun v H1 => ∃ ρ M' G1 k, Tru X ρ k ∧ Φ k M' ∧ Same G G1 ∧ At E Γ M' σ G1 H1 ∧ ρ.p v G1) (fun ρ M' v G1 H1 ⟨k, t, hk⟩ s1 a1 r1 => ⟨ρ, M', G1, k, t, hk, s1, a1, r1⟩) pins s I) fun v s1 ⟨x, H1, I1, r1, ρ, M', G1, k, t, hk, sg, a1, rx⟩ => ?_) (he _)
  exact t I1 a1.gh rx r1 (q k M' G1 H1 hk sg a1)
end
end MM

namespace MM
open PySem L2 PyProof.Rows
/-! ### calls with keywords -/
def KnK (P : Program) (w : World) (K : PySem.W.Frag) (mg : Str → Option Value) (base : Heap) (k : Nat) (x : Str) (n : Nat) (ks : List Str) (gV : List V → List V → List V) (c : Con) : Prop :=
  ∃ (f : Addr) (fd : FuncData) (ps : List Str) (g : List Value → List Value → List Value), mg x = some (.ref f) ∧ PySem.W.keepIn K (.ref f) = true ∧ KBn K fd ps n ks g gV ∧ FnOk P w K mg base CX0 k f fd ps (conSp c)
def KnCK (P : Program) (w : World) (K : PySem.W.Frag) (mg : Str → Option Value) (base : Heap) (k : Nat) (x : Str) (C : Addr) (n : Nat) (ks : List Str) (gV : List V → List V → List V) (c : Con) : Prop :=
  ∃ (f : Addr) (fd : FuncData) (ps : List Str) (g : List Value → List Value → List Value), mg x = some (.ref C) ∧ Mk K C f ∧ KBn K fd ps (n + 1) ks g gV ∧ FnOk P w K mg base CX0 k f fd ps (conSp c)
def KnMK (P : Program) (w : World) (K : PySem.W.Frag) (mg : Str → Option Value) (base : Heap) (k : Nat) (C : Addr) (m : Str) (n : Nat) (ks : List Str) (gV : List V → List V → List V) (c : Con) : Prop :=
  ∃ (f : Addr) (fd : FuncData) (ps : List Str) (g : List Value → List Value → List Value), Meth K C m f ∧ Cls K C ∧ KBn K fd ps (n + 1) ks g gV ∧ FnOk P w K mg base CX0 k f fd ps (conSp c)
/-- the same rearrangement of representations as of values -/
structure GvR (gV : List V → List V → List V) (gR : List Rep → List Rep → List Rep) (n m : Nat) : Prop where
  run : ∀ {ρs ρz : List Rep} {vs zs : List V} {G : Hp}, ρs.length = n → ρz.length = m → Reps ρs vs G → Reps ρz zs G → Reps (gR ρs ρz) (gV vs zs) G
section
variable {X : Cx} {E : En} {Γ : Gm} {M : Ow} {a b e : Expr} {es : List Expr} {kws : List Keyword} {ks : List Str} {pos p apos : Pos} {Φ : Rep → Ow → Prop} {k n : Nat} {x : Str} {c : Con} {gV : List V → List V → List V} {gR : List Rep → List Rep → List Rep}
theorem pe_callN0 {CX : CXT} {f : Addr} {fd : FuncData} {ps : List Str} {sp : Sp} {EE : XK} {tk : TA} {g : List Value → List Value → List Value} (F : FnOk X.prog X.w X.K X.mg X.base CX k f fd ps sp) (hr : Room k X.A) (hg : Gl X x) (hm : X.mg x = some (.ref f)) (hk : PySem.W.keepIn X.K (.ref f) = true) (hb : KBn X.K fd ps 0 ks g gV) (hx : Passes CX X EE) (hkw : PK X kws tk)
    (hall : (backToKw pos (keywordEach kws X.env)).all (·.1.isSome) = true := by rfl) (hks : (backToKw pos (keywordEach kws X.env)).filterMap (·.1) = ks := by rfl) (hdb : (x == ("__debug__" : Str)) = false := by decide)
    (hpl : ((backTo pos (starEach [] X.env)).any (·.1) || (backToKw pos (keywordEach kws X.env)).any (·.1.isNone)) = false := by rfl) :
    PE X (.Call (.Name x p) [] kws pos) (tCallN 0 ks.length sp gV EE tNil tk) := by
  refine ⟨fun pins s σ H Q I h => ?_⟩
  refine wpAny_Call_Name_kw (ld_glob I hg hm ?_ hdb)
  refine PySem.W.callWith_KW0 (h₀ := X.base) I.ok.mod.kin hk hall ?_ hpl
  refine thn (hkw.run pos pins s σ H _ I h) fun ws s2 ⟨zs, H2, I2, rz, l1, l2, q2⟩ => ⟨I2.kIn, ?_⟩
  rw [hks]
  exact run_fnN (us := []) (vs := []) F hr hb hx I2 .nil rz rfl l2 q2
theorem we_callN (F : KnK X.prog X.w X.K X.mg X.base k x n ks gV c) (gr : GvR gV gR n ks.length) (hr : Room k X.A) (hg : Gl X x) (hx : Passes CX0 X E0)
    (h : WA X E Γ M (e :: es) fun ρs M1 => ρs.length = n ∧ WK X E Γ M1 kws fun ρz M2 => ρz.length = ks.length ∧ CallK c (gR ρs ρz) M2 Φ)
    (hall : (backToKw pos (keywordEach kws X.env)).all (·.1.isSome) = true := by rfl) (hks : (backToKw pos (keywordEach kws X.env)).filterMap (·.1) = ks := by rfl)
    (hdb : (x == ("__debug__" : Str)) = false := by decide) (he : starEach (e :: es) X.env = (false, eval e X.env) :: starEach es X.env := by rfl)
    (hpl : ((backTo pos (starEach (e :: es) X.env)).any (·.1) || (backToKw pos (keywordEach kws X.env)).any (·.1.isNone)) = false := by rfl) :
    WE X E Γ M (.Call (.Name x p) (e :: es) kws pos) Φ := by
  obtain ⟨f, fd, ps, g, hm, hk, hb, F⟩ := F
  refine we_of (pe_callN F hr hg hm hk hb hx pa_w pk_w hall hks hdb he hpl) fun σ G H a Q q => ?_
  exact h σ G H a _ fun ρs M1 vs G1 H1 ⟨l1, h1⟩ s1 a1 r1 => h1 σ G1 H1 a1 _ fun ρz M2 zs G2 H2 ⟨l2, hh⟩ s2 a2 r2 =>
    ⟨by rw [← r1.length]; exact l1, by rw [← r2.length]; exact l2, callK_run hh a2 (gr.run l1 l2 (r1.mono s2) r2) fun ρ M3 v G3 H3 h3 s3 => q ρ M3 v G3 H3 h3 ((s1.trans s2).trans s3)⟩
theorem we_callN0 (F : KnK X.prog X.w X.K X.mg X.base k x 0 ks gV c) (gr : GvR gV gR 0 ks.length) (hr : Room k X.A) (hg : Gl X x) (hx : Passes CX0 X E0)
    (h : WK X E Γ M kws fun ρz M2 => ρz.length = ks.length ∧ CallK c (gR [] ρz) M2 Φ)
    (hall : (backToKw pos (keywordEach kws X.env)).all (·.1.isSome) = true := by rfl) (hks : (backToKw pos (keywordEach kws X.env)).filterMap (·.1) = ks := by rfl) (hdb : (x == ("__debug__" : Str)) = false := by decide)
    (hpl : ((backTo pos (starEach [] X.env)).any (·.1) || (backToKw pos (keywordEach kws X.env)).any (·.1.isNone)) = false := by rfl) :
    WE X E Γ M (.Call (.Name x p) [] kws pos) Φ := by
  obtain ⟨f, fd, ps, g, hm, hk, hb, F⟩ := F
  refine we_of (pe_callN0 F hr hg hm hk hb hx pk_w hall hks hdb hpl) fun σ G H a Q q => ?_
  show tWK X kws σ H _
  exact h σ G H a _ fun ρz M2 zs G2 H2 ⟨l2, hh⟩ s2 a2 r2 =>
    ⟨rfl, by rw [← r2.length]; exact l2, callK_run hh a2 (gr.run rfl l2 trivial r2) fun ρ M3 v G3 H3 h3 s3 => q ρ M3 v G3 H3 h3 (s2.trans s3)⟩
/-- __init__ with keywords: the thing itself stands first -/
def MakeN (E : En) (C : Addr) (c : Con) (gR : List Rep → List Rep → List Rep) (ρs ρz : List Rep) (M : Ow) (Φ : Rep → Ow → Prop) : Prop :=
  ∀ p, p ∉ M.map (·.1) → p ∉ E.M → CallK c (gR (RRef p :: ρs) ρz) ((p, OIns C []) :: M) fun ρ M' => Sub ρ RN ∧ ∃ l M2, Rm M' p (OIns C l) M2 ∧ Φ (RIns C l) M2
theorem makeN_run {C : Addr} {σ : L2.St} {G H : Hp} {m : Nat} {ρs ρz : List Rep} {vs zs : List V} {Q : VK} (gr : GvR gV gR (n + 1) m) (l1 : ρs.length = n) (l2 : ρz.length = m) (hE : ∀ a ∈ E.M, E.H a ≠ none) (h : MakeN E C c gR ρs ρz M Φ) (a : At E Γ M σ G H) (r : Reps ρs vs G) (r2 : Reps ρz zs G)
    (q : ∀ ρ M' v G' H', Φ ρ M' → Same G G' → At E Γ M' σ G' H' → ρ.p v G' → Q v H') :
    ∀ x dx, H x = none → H dx = none → dx ≠ x → conSp c (gV (.ref x :: vs) zs) (upd (upd H dx (.own x)) x (.ins C dx [])) (fun v H2 => v = .non ∧ Q (.ref x) H2) E0 := fun x dx nx nd ne => by
  have n1 : New G H G (upd H dx (.own x)) := New.side a.gh nd
  have a1 := a.new n1
  have nx1 : upd H dx (.own x) x = none := by rw [upd_ne (Ne.symm ne)]; exact nx
  have hpE : x ∉ E.M := fun z => hE x z (a.fresh nx)
  have a2 := a1.own1 (r := OIns C []) nx1 ⟨dx, [], rfl, trivial⟩
  refine callK_run (h x (a.freshM nx) hpE) a2 (gr.run (by simp [l1]) l2 ⟨rfl, r⟩ r2) fun ρ M' v G' H' ⟨sb, l, M2, rm, hΦ⟩ s' a' r' => ⟨sb _ _ r', ?_⟩
  obtain ⟨o, e1, ⟨dx', fs, e2, rf⟩, sg, a3⟩ := a'.freeze rm hpE
  subst e2
  exact q _ _ _ _ _ hΦ (s'.trans sg) a3 ⟨x, dx', fs, rfl, upd_same, rf.mono sg⟩
theorem we_makeN {C : Addr} (F : KnCK X.prog X.w X.K X.mg X.base k x C n ks gV c) (gr : GvR gV gR (n + 1) ks.length) (hr : Room (k + 1) X.A) (hg : Gl X x) (hx : Passes CX0 X E0) (hE : ∀ a ∈ E.M, E.H a ≠ none)
    (h : WA X E Γ M (e :: es) fun ρs M1 => ρs.length = n ∧ WK X E Γ M1 kws fun ρz M2 => ρz.length = ks.length ∧ MakeN E C c gR ρs ρz M2 Φ)
    (hall : (backToKw pos (keywordEach kws X.env)).all (·.1.isSome) = true := by rfl) (hks : (backToKw pos (keywordEach kws X.env)).filterMap (·.1) = ks := by rfl)
    (hdb : (x == ("__debug__" : Str)) = false := by decide) (he : starEach (e :: es) X.env = (false, eval e X.env) :: starEach es X.env := by rfl)
    (hpl : ((backTo pos (starEach (e :: es) X.env)).any (·.1) || (backToKw pos (keywordEach kws X.env)).any (·.1.isNone)) = false := by rfl) :
    WE X E Γ M (.Call (.Name x p) (e :: es) kws pos) Φ := by
  obtain ⟨f, fd, ps, g, hm, Mk, hb, F⟩ := F
  refine we_of (pe_makeN Mk F hr hg hm hb hx pa_w pk_w hall hks hdb he hpl) fun σ G H a Q q => ?_
  exact h σ G H a _ fun ρs M1 vs G1 H1 ⟨l1, h1⟩ s1 a1 r1 => h1 σ G1 H1 a1 _ fun ρz M2 zs G2 H2 ⟨l2, hh⟩ s2 a2 r2 =>
    ⟨by rw [← r1.length]; exact l1, by rw [← r2.length]; exact l2, makeN_run gr l1 l2 hE hh a2 (r1.mono s2) r2 fun ρ M3 v G3 H3 h3 s3 => q ρ M3 v G3 H3 h3 ((s1.trans s2).trans s3)⟩
theorem we_makeN0 {C : Addr} (F : KnCK X.prog X.w X.K X.mg X.base k x C 0 ks gV c) (gr : GvR gV gR 1 ks.length) (hr : Room (k + 1) X.A) (hg : Gl X x) (hx : Passes CX0 X E0) (hE : ∀ a ∈ E.M, E.H a ≠ none)
    (h : WK X E Γ M kws fun ρz M2 => ρz.length = ks.length ∧ MakeN E C c gR [] ρz M2 Φ)
    (hall : (backToKw pos (keywordEach kws X.env)).all (·.1.isSome) = true := by rfl) (hks : (backToKw pos (keywordEach kws X.env)).filterMap (·.1) = ks := by rfl) (hdb : (x == ("__debug__" : Str)) = false := by decide)
    (hpl : ((backTo pos (starEach [] X.env)).any (·.1) || (backToKw pos (keywordEach kws X.env)).any (·.1.isNone)) = false := by rfl) :
    WE X E Γ M (.Call (.Name x p) [] kws pos) Φ := by
  obtain ⟨f, fd, ps, g, hm, Mk, hb, F⟩ := F
  refine we_of (pe_makeK0 Mk F hr hg hm hb hx pk_w hall hks hdb hpl) fun σ G H a Q q => ?_
  show tWK X kws σ H _
  exact h σ G H a _ fun ρz M2 zs G2 H2 ⟨l2, hh⟩ s2 a2 r2 =>
    ⟨rfl, by rw [← r2.length]; exact l2, makeN_run (n := 0) gr rfl l2 hE hh a2 trivial r2 fun ρ M3 v G3 H3 h3 s3 => q ρ M3 v G3 H3 h3 (s2.trans s3)⟩
end
/-! ### a def with defaults -/
abbrev FdD (K : PySem.W.Frag) (x qual : Str) (st : Stmt) (dvs : List V) (f : Addr) (fd : FuncData) : Prop := FunD K x qual (defArgs st) (defBody st) (defScope st) dvs [] f fd
theorem fn_conD {P : Program} {w : World} {K : PySem.W.Frag} {mg : Str → Option Value} {base : Heap} {x qual : Str} {st : Stmt} {dvs : List V} {f : Addr} {fd : FuncData} {N ps : List Str} {k : Nat} (c : Con) (F : FdD K x qual st dvs f fd) (S : FnScope N ps (defScope st)) (hl : ∀ i, (c.args i).length = ps.length)
    (h : ∀ (cd : Value) (A : Around) (outer : List Env) (s : Shared) (H : Hp) (EE : XK) (G : Hp) (i : c.I), c.pre i → Room k (A.deeper (PyProof.Rows.envOfC qual (defScope st) s.heap.objs.size f cd)) → (∀ a ∈ (c.own i).map (·.1), H a ≠ none) →
      WSs (xd P w K mg base N qual (defScope st) f cd A outer s H EE) ⟨G, H, (c.own i).map (·.1)⟩ (startG N (c.args i)) (c.own i) (defBody st) (EdOf c i)) : FnOk P w K mg base CX0 (k + 1) f fd ps (conSp c) := by
  refine F.ok S (fun vs H Q EE hh => ?_) fun cdv A outer s H vs Q EE hr hh => ?_
  · obtain ⟨G, i, _, _, r, _⟩ := hh
    rw [← r.length]; exact hl i
  · obtain ⟨G, i, gh, hp, r, o1, o2, o3, kk⟩ := hh
    refine ⟨tWSs (xd P w K mg base N qual (defScope st) f cdv A outer s H EE) (defBody st), pss_w.nox, ?_⟩
    have hE : ∀ a ∈ (c.own i).map (·.1), H a ≠ none := fun a ha => by
      obtain ⟨q, hq, e⟩ := List.mem_map.mp ha
      obtain ⟨o, e2, _⟩ := o1 q hq
      rw [← e, e2]; simp
    have a0 : At ⟨G, H, (c.own i).map (·.1)⟩ (startG N (c.args i)) (c.own i) (L2.start N vs) G H :=
      ⟨by simp [startG, L2.start, r.length], start_env r, gh, o1, o2, o3, Same.refl _, fun _ _ _ e => e, fun _ _ hg => hg, fun q hq => .inl (List.mem_map.mpr ⟨q, hq, rfl⟩), fun _ h => h⟩
    have fin : ∀ ρ M, Rt c i ρ M → ∀ v G' H', At ⟨G, H, (c.own i).map (·.1)⟩ [] M [] G' H' → ρ.p v G' → Q v H' := fun ρ M ⟨x, rest, px, sb, pk⟩ v G' H' a rv => by
      obtain ⟨p1, p2, p3⟩ := a.picked pk
      have fm := pk.f a.nd
      refine kk x v G' H' px ⟨a.g0, a.gh, fun b u h1 h2 => a.keep b u h1 h2, fun b h1 h2 => a.nw b h1 h2, p1, p2, p3, fun q hq => ?_, fun b hb => a.there b hb⟩ (sb _ _ rv)
      obtain ⟨q', h1, h2, _⟩ := fm.own q hq
      rw [← h2]; exact a.loc q' h1
    exact h cdv A outer s H EE G i hp hr hE (L2.start N vs) G H a0 _ ⟨fun Γ M h' σ G' H' _ a' => fin _ _ h' _ _ _ a'.env0 rfl, fun ρ M h' v G' H' _ a' rv => fin _ _ h' _ _ _ a' rv, fun _ _ h' => h'.elim, fun _ _ h' => h'.elim⟩
theorem fdD_mk {K : PySem.W.Frag} {x qual : Str} {st : Stmt} {f : Addr} {oc : Value} {od an : Option Addr} {osl : Array (Option Value)} {kV doc pm cdv ct : Value} (l : K.lookup f = some ⟨oc, od, .func (PySem.W.fnOf x qual (defArgs st) (defBody st) (defScope st) .none kV doc pm an cdv ct), osl⟩)
    (c : PySem.W.codeIn K cdv qual = true) (k : PySem.W.keepIn K (.ref f) = true) : FdD K x qual st [] f (PySem.W.fnOf x qual (defArgs st) (defBody st) (defScope st) .none kV doc pm an cdv ct) :=
  ⟨⟨oc, od, .none, kV, doc, pm, an, cdv, ct, osl, rfl, l, c, .inl ⟨rfl, rfl⟩, .inl rfl⟩, k⟩
theorem fdD_mkT {K : PySem.W.Frag} {x qual : Str} {st : Stmt} {dvs : List V} {f T : Addr} {oc tc : Value} {od td an : Option Addr} {osl tsl : Array (Option Value)} {kV doc pm cdv ct : Value} {its : Array Value} {n : Nat} (l : K.lookup f = some ⟨oc, od, .func (PySem.W.fnOf x qual (defArgs st) (defBody st) (defScope st) (.ref T) kV doc pm an cdv ct), osl⟩)
    (c : PySem.W.codeIn K cdv qual = true) (k : PySem.W.keepIn K (.ref f) = true) (lT : K.lookup T = some ⟨tc, td, .seq its n, tsl⟩) (hd : dvs ≠ []) (hv : Vals dvs its.toList) : FdD K x qual st dvs f (PySem.W.fnOf x qual (defArgs st) (defBody st) (defScope st) (.ref T) kV doc pm an cdv ct) :=
  ⟨⟨oc, od, .ref T, kV, doc, pm, an, cdv, ct, osl, rfl, l, c, .inr ⟨hd, T, ⟨tc, td, .seq its n, tsl⟩, its.toList, n, rfl, lT, by simp, hv⟩, .inl rfl⟩, k⟩
end MM

namespace PySem
namespace XG
open PySem.W PySem.HandSPX PySem.Calls PyProof.Rows
section
open PySem.Builtin PySem.Builtin.ObjectAttr
variable {prog : Program} {w : World} {A : Around} {E : Value → Shared → Prop} {R : Result → Shared → Prop} {hh0 : Heap} {g : Array GenState} {d : Drawn} {t : Nat} {os : OsState}
  {KK : W.Frag} {B : String} {bmB : List Value} {name : Str} {tk : Tok} {v : Value} {x Ce : Addr} {fv : Array Value}
/-- a store of a field into a thing that has no dict as yet -/
theorem first (SF : StoreFacts B bmB "object.__setattr__" "object") (X : KK.In hh0) (xat : hh0.get? x = some { cls := .ref Ce, data := .fields fv }) (ov : excOver KK Ce bmB = true) (hd : hasDictIn KK Ce = true) (no : findIn KK (.ref Ce) name = some none)
    (fin : ∀ hf tf dq, (∀ b o, b ≠ x → hh0.get? b = some o → hf.get? b = some o) → hh0.objs.size ≤ dq → dq ≠ x → hf.get? x = some { cls := .ref Ce, dict := some dq, data := .fields fv } →
      hf.Ns1 dq (fun y => if y = name then some v else none) → R (.ok (.ret .none)) ⟨hf, g, d, tf, os⟩) :
    codeAny (model prog w) A (.call (.builtin "object.__setattr__") ⟨[.ref x, .str name tk, v], []⟩) R ⟨hh0, g, d, t, os⟩ := by
  have xne : x ≠ hh0.objs.size := Nat.ne_of_lt (Heap.lt_size xat)
  have tkn : takerIn KK Ce name = some none := by unfold takerIn; rw [no]; rfl
  refine osa_openX (od := none) SF X ⟨xat, rfl, rfl, trivial⟩ ov tkn fun b => ?_
  obtain ⟨cd, hc, hh⟩ := any_some hd
  have lc : W.Looks (model prog w) hh0 (classData Ce) cd := W.looks_clsIn X hc
  show wpAny _ _ (storeInOwnDict (.ref x) (.ref Ce) (.str name tk) name v b) _ _ _
  obtain ⟨nm, bs, mro, ns, qn, hdc, sn, sb, ab, col, del⟩ := cd
  dsimp only at hh
  subst hh
  unfold storeInOwnDict
  unfold ownDictForStores
  repeat (first | with_reducible refine store_in_new ?_ ?_ | with_reducible refine wpAny_loadPart_at xat ?_ | with_reducible refine lc.at ?_ | wp_step)
  · exact ⟨_, #[], _, (Heap.get?_update_ne _ _ _ _ xne.symm).trans (Heap.get?_push_at rfl rfl), rfl, fun ex he => absurd he (by simp), fun _ => rfl⟩
  · intro hf tf nf sbt
    have xat1 : (hh0.push { cls := .type "dict", data := .dict #[] }).get? x = some { cls := .ref Ce, data := .fields fv } := Heap.get?_push_of_some _ xat
    refine fin hf tf hh0.objs.size (fun c o hb oat => ?_) (Nat.le_refl _) xne.symm ?_ nf
    · exact (sbt.2 c (Nat.ne_of_lt (Heap.lt_size oat))).trans ((Heap.get?_update_ne _ _ _ _ hb).trans (Heap.get?_push_of_some _ oat))
    · exact (sbt.2 x xne).trans (Heap.get?_update_self _ xat1 rfl)
/-- .. that has its dict -/
theorem further {dq : Addr} {m0 : Str → Option Value} {nl : List Str} (SF : StoreFacts B bmB "object.__setattr__" "object") (X : KK.In hh0) (xat : hh0.get? x = some { cls := .ref Ce, dict := some dq, data := .fields fv }) (hns : hh0.Ns1 dq m0) (hw : Within m0 nl) (hz : nl.length ≤ 1000)
    (ov : excOver KK Ce bmB = true) (hd : hasDictIn KK Ce = true) (no : findIn KK (.ref Ce) name = some none)
    (fin : ∀ hf tf, (∀ b o, b ≠ dq → hh0.get? b = some o → hf.get? b = some o) → hf.Ns1 dq (fun y => if y = name then some v else m0 y) → R (.ok (.ret .none)) ⟨hf, g, d, tf, os⟩) :
    codeAny (model prog w) A (.call (.builtin "object.__setattr__") ⟨[.ref x, .str name tk, v], []⟩) R ⟨hh0, g, d, t, os⟩ := by
  obtain ⟨obD, entD, entP, obAt, obDat, _⟩ := hns.count hw
  have tkn : takerIn KK Ce name = some none := by unfold takerIn; rw [no]; rfl
  refine osa_openX (od := some obD) SF X ⟨xat, rfl, rfl, obAt⟩ ov tkn fun b => ?_
  obtain ⟨cd, hc, hh⟩ := any_some hd
  have lc : W.Looks (model prog w) hh0 (classData Ce) cd := W.looks_clsIn X hc
  show wpAny _ _ (storeInOwnDict (.ref x) (.ref Ce) (.str name tk) name v b) _ _ _
  obtain ⟨nm, bs, mro, ns, qn, hdc, sn, sb, ab, col, del⟩ := cd
  dsimp only at hh
  subst hh
  unfold storeInOwnDict
  unfold ownDictForStores
  repeat (first | with_reducible refine OEX.store_in_old hns hw hz ?_ | with_reducible refine wpAny_loadPart_at xat ?_ | with_reducible refine lc.at ?_ | wp_step)
  intro hf tf nf sbt
  exact fin hf tf (fun c o hb oat => (sbt.2 c hb).trans oat) nf
end
end XG
end PySem
namespace MM
open PySem L2 PyProof.Rows
/-- what the written part says of an exception's class that stores fields -/
structure OxC (KK : PySem.W.Frag) (Ce : Addr) (newId : String) (bmB : List Value) : Prop where
  ci : PySem.W.excInitIn KK Ce bmB newId = true
  ov : PySem.W.excOver KK Ce bmB = true
  sa : PySem.W.findIn KK (.ref Ce) "__setattr__" = some (some (.builtin "object.__setattr__"))
  exC : PySem.W.subIn KK (.ref Ce) (.type "BaseException") = some true
  tyC : PySem.W.typeIn KK (.ref Ce) = some (.type "type")
  kC : PySem.W.keepIn KK (.ref Ce) = true
  hd : PySem.W.hasDictIn KK Ce = true
structure XB (B newId initId : String) (bmB : List Value) : Prop where
  bf : ExcBaseFacts B newId initId bmB
  sf : StoreFacts B bmB "object.__setattr__" "object"
def OxOk (KK : PySem.W.Frag) (Ce : Addr) : Prop := ∃ B newId initId bmB, XB B newId initId bmB ∧ OxC KK Ce newId bmB
section
variable {X : Cx} {pns : List (Addr × Obj)} {σ : L2.St} {H : Hp} {s : Shared} {a Ce dq : Addr} {f : Str} {y : V} {u : Value} {flds : List (Str × V)} {Q : Unit → Shared → Prop} {E : Value → Shared → Prop} {A : Around}
theorem xst_new (T : OxOk X.K Ce) (Iv : L2.Inv X pns σ H s) (ex : H a = some (exo a Ce none)) (no : PySem.W.findIn X.K (.ref Ce) f = some none) (ry : RelV y u)
    (h : ∀ dq s', H dq = none → dq ≠ a → L2.Inv X pns σ (upd (upd H dq (exd dq [(f, y)])) a (exo a Ce (some dq))) s' → Q () s') : wpAny (model X.prog X.w) A (setAttr (.ref a) f u) Q E s := by
  obtain ⟨B, nI, iI, bmB, xb, T⟩ := T
  obtain ⟨t1, oat⟩ := exo_at Iv.hok ex
  obtain ⟨hh0, g, d, t, os⟩ := s
  refine PySem.W.set_plain Iv.kIn (ox := { cls := .ref Ce, dict := none, data := .fields #[.ref t1, .none, .none, .none, .bool false, .none] }) (od := none) ⟨oat, rfl, rfl, trivial⟩ T.sa ?_
  refine PySem.XG.first xb.sf Iv.kIn oat T.ov T.hd no (fun hf tf dq kp dn dne xat hn => ?_)
  have dfree : H dq = none := Iv.hok.fresh dn
  have dne0 : ∀ {b : Addr} {o : Obj}, hh0.get? b = some o → b ≠ dq := fun {b o} qq => Nat.ne_of_lt (Nat.lt_of_lt_of_le (Heap.lt_size qq) dn)
  have ane : ∀ {b : Addr}, H b = none → b ≠ a := fun {b} n z => by
    rw [z, ex] at n
    cases n
  have U : Un X.fs [] H (upd (upd H dq (exd dq [(f, y)])) a (exo a Ce (some dq))) hh0 hf := {
    keep := fun b o qq n _ _ => kp b o (ane n) qq
    slot := fun b o qq n _ _ => ⟨o.slots, kp b o (ane n) qq⟩
    free := fun b o qq n _ => by rw [upd_ne (ane n), upd_ne (dne0 qq)]; exact n
    there := fun b o qq _ => by
      by_cases hb : b = a
      · exact ⟨_, by rw [hb]; exact xat⟩
      · exact ⟨o, kp b o hb qq⟩
    tups := fun b xs qq => by rw [upd_ne (at_ne ex qq exo_tup), upd_ne (ne_of_none qq dfree)]; exact qq
    frzs := fun b o v qq => by rw [upd_ne (at_ne ex qq exo_frz), upd_ne (ne_of_none qq dfree)]; exact qq
    tbls := fun b ps qq => ⟨#[], by rw [upd_ne (at_ne ex qq exo_tbl), upd_ne (ne_of_none qq dfree), qq]; simp⟩ }
  refine h dq _ dfree dne (Iv.un (t' := tf) U fun b o qq => ?_)
  by_cases hb : b = a
  · subst hb
    rw [upd_same] at qq
    cases qq
    exact exo_ok xat
  · rw [upd_ne hb] at qq
    by_cases hdd : b = dq
    · subst hdd
      rw [upd_same] at qq
      cases qq
      exact exd_ok hn (relO_put (fs := []) ry (fun _ => trivial))
    · rw [upd_ne hdd] at qq
      exact (Iv.hok b o qq).stay (fun c v hc z => kp c v (by
          rcases hc with hc | hc
          · rw [hc]
            exact hb
          · exact at_ne ex hc exo_own) z)
        (fun c hc => by rw [upd_ne (at_ne ex hc exo_own), upd_ne (ne_of_none hc dfree)]; exact hc) (fun c xs hc => by rw [upd_ne (at_ne ex hc exo_tup), upd_ne (ne_of_none hc dfree)]; exact hc)
theorem xst_old (T : OxOk X.K Ce) (Iv : L2.Inv X pns σ H s) (ex : H a = some (exo a Ce (some dq))) (ed : H dq = some (exd dq flds)) (hln : flds.length ≤ 900) (no : PySem.W.findIn X.K (.ref Ce) f = some none) (ry : RelV y u)
    (h : ∀ s', L2.Inv X pns σ (upd H dq (exd dq ((f, y) :: flds))) s' → Q () s') : wpAny (model X.prog X.w) A (setAttr (.ref a) f u) Q E s := by
  obtain ⟨B, nI, iI, bmB, xb, T⟩ := T
  obtain ⟨t1, oat⟩ := exo_at Iv.hok ex
  obtain ⟨mA, hns, rel⟩ := exd_at Iv.hok ed
  have hw := within_of rel
  obtain ⟨hh0, g, d, t, os⟩ := s
  obtain ⟨obD, _, _, obAt, _, _⟩ := hns.count hw
  refine PySem.W.set_plain Iv.kIn (ox := { cls := .ref Ce, dict := some dq, data := .fields #[.ref t1, .none, .none, .none, .bool false, .none] }) (od := some obD) ⟨oat, rfl, rfl, obAt⟩ T.sa ?_
  refine PySem.XG.further xb.sf Iv.kIn oat hns hw (by rw [List.length_map]; omega) T.ov T.hd no (fun hf tf kp hn => ?_)
  have hd : ∃ o, hf.get? dq = some o := by
    obtain ⟨o, _, _, e', _⟩ := hn
    exact ⟨o, e'⟩
  exact h _ (Iv.write (t' := tf) (x := dq) (e := dq) (o := exd dq ((f, y) :: flds)) (by rw [ed]; exact True.intro) (.inl rfl) kp hd (exd_ok hn (relO_put ry rel)))
end
/-- self.f = ex, self the exception that is being made -/
def tXst (KK : PySem.W.Frag) (f : Str) (to te : TE) : TS := fun Dn σ H => te σ H fun y H1 => to σ H1 fun x H2 => ∃ a Ce : Addr, x = .ref a ∧ OxOk KK Ce ∧ PySem.W.findIn KK (.ref Ce) f = some none ∧
  ((H2 a = some (exo a Ce none) ∧ ∀ dq, H2 dq = none → dq ≠ a → Dn.nx σ (upd (upd H2 dq (exd dq [(f, y)])) a (exo a Ce (some dq)))) ∨
    ∃ (dq : Addr) (flds : List (Str × V)), H2 a = some (exo a Ce (some dq)) ∧ H2 dq = some (exd dq flds) ∧ flds.length ≤ 900 ∧ Dn.nx σ (upd H2 dq (exd dq ((f, y) :: flds))))
section
variable {X : Cx} {o ex : Expr} {es : List Expr} {to te : TE} {ta : TA} {f : Str} {p p' p1 p2 pos : Pos}
theorem ps_xst (oat : PE X o to) (he : PE X ex te) (sbt : swapsWith ex (some (.Attribute o f p')) pos.line X.env = pure false := by rfl) : PS X (.Assign [.Attribute o f p'] ex pos) (tXst X.K f to te) := by
  refine ⟨fun pns s σ H Dn Iv h => ?_⟩
  refine plainObj_wpAny_Assign_Attribute (thn (he.run pns s σ H _ Iv h) fun v s1 ⟨y, H1, Iv1, rv1, q1⟩ => thn (oat.run pns s1 σ H1 _ Iv1 q1) fun u s2 ⟨x, H2, Iv2, r2, a, Ce, ex, T, no, qq⟩ => ?_) sbt
  subst ex
  have eu : u = Value.ref a := r2
  subst eu
  rcases qq with ⟨ea, qq⟩ | ⟨dq, flds, ea, ed, hln, qq⟩
  · exact xst_new T Iv2 ea no rv1 fun dq s' n ne J => ⟨σ, _, J, qq dq n ne⟩
  · exact xst_old T Iv2 ea ed hln no rv1 fun s' J => ⟨σ, _, J, qq⟩
/-- Ce(ex, ..): C's __init__ keeps sp -/
theorem pmk_xex {CX : CXT} {x : Str} {Ce fI : Addr} {kp : Nat} {fd : FuncData} {ps : List Str} {sp : Sp} {ds : List Value} {dvs : List V} (T : OxOk X.K Ce) (iC : PySem.W.findIn X.K (.ref Ce) "__init__" = some (some (.ref fI))) (tI : PySem.W.isFn X.K (.ref fI) = true)
    (F1 : FnOk X.prog X.w X.K X.mg X.base CX kp fI fd ps sp) (hr : Room (kp + 1) X.A) (hb : Binds X.K fd ps ds) (hd : Vals dvs ds) (xat : Passes CX X (fun _ _ _ => False)) (hg : Gl X x) (hm : X.mg x = some (.ref Ce)) (ha : PA X (ex :: es) ta)
    (hdb : (x == ("__debug__" : Str)) = false := by decide) (he : starEach (ex :: es) X.env = (false, eval ex X.env) :: starEach es X.env := by rfl) (hpl : (backTo pos (starEach es X.env)).any (·.1) = false := by rfl) :
    PMk X (.Call (.Name x p) (ex :: es) [] pos) (tMkO Ce sp dvs ta) := by
  intro pns s σ H Q Iv h
  obtain ⟨B, nI, iI, bmB, xb, T⟩ := T
  refine wpAny_Call_Name_kw (ld_glob Iv hg hm ?_ hdb)
  refine PySem.W.callWith_K (h₀ := X.base) Iv.ok.mod.kin T.kC (thn (ha.run pos pns s σ H _ Iv h) fun uvs s1 ⟨vs, H1, Iv1, rv1, hz, q1⟩ => ⟨Iv1.kIn, ?_⟩) he hpl
  show wpAny _ _ (call (.ref Ce) uvs) _ _ _
  obtain ⟨nm, N, qn, bs, bm, hdct, sn, sub, ab, col, dd, k0, k1, k2, k3, k5, hC, hT⟩ := PySem.W.excInit_of Iv1.kIn T.ci
  obtain ⟨oI, hoI, clI⟩ : ∃ oI, s1.heap.get? fI = some oI ∧ oI.cls = .type "function" := by
    obtain ⟨o, oat, hc⟩ := Option.map_eq_some_iff.mp (show (X.K.lookup fI).map (·.cls) = some (.type "function") from beq_iff_eq.mp tI)
    exact ⟨o, Iv1.kIn _ _ oat, hc⟩
  obtain ⟨hh0, g, dr, tk, os⟩ := s1
  have szle : hh0.objs.size ≤ hh0.objs.size + 1 := Nat.le_succ _
  have hn : H1 (hh0.objs.size + 1) = none := Iv1.hok.fresh szle
  have fin := q1 (hh0.objs.size + 1) hn
  have kee : ∀ b o, hh0.get? b = some o → ((hh0.push (PySem.W.kdv_tup uvs)).push (PySem.HandSPX.excO Ce hh0.objs.size)).get? b = some o := fun b o ex => Heap.get?_push_of_some _ (Heap.get?_push_of_some _ ex)
  have got : ((hh0.push (PySem.W.kdv_tup uvs)).push (PySem.HandSPX.excO Ce hh0.objs.size)).get? (hh0.objs.size + 1) = some (PySem.HandSPX.excO Ce hh0.objs.size) := by heap_get
  have Iv2 : L2.Inv X pns σ (upd H1 (hh0.objs.size + 1) (exo (hh0.objs.size + 1) Ce none)) ⟨(hh0.push (PySem.W.kdv_tup uvs)).push (PySem.HandSPX.excO Ce hh0.objs.size), g, dr, tk, os⟩ :=
    Iv1.laid (t' := tk) (a := hh0.objs.size + 1) (o := exo (hh0.objs.size + 1) Ce none) (h' := (hh0.push (PySem.W.kdv_tup uvs)).push (PySem.HandSPX.excO Ce hh0.objs.size)) kee szle (exo_ok got)
  have r2 : Vals (V.ref (hh0.objs.size + 1) :: (vs ++ dvs)) (Value.ref (hh0.objs.size + 1) :: (uvs ++ ds)) := .cons rfl (rv1.append hd)
  have hln : (Value.ref (hh0.objs.size + 1) :: uvs ++ ds).length = ps.length := by
    have ex := r2.length
    rw [F1.len _ _ _ _ fin] at ex
    exact ex.symm
  have usle : uvs.length ≤ sizeLine := by
    rw [← Paired.length rv1, sizeLine_eq]
    omega
  refine wpAny_call (PySem.HandSPX.call_own xb.bf hT hC (PySem.W.looks_findIn Iv1.kIn iC) (fun self => PySem.W.exc_bind hoI clI self) usle
    (codeAny_mono (F1.run _ X.stack _ _ ⟨Value.ref (hh0.objs.size + 1) :: uvs, []⟩ (Value.ref (hh0.objs.size + 1) :: (uvs ++ ds)) _ _ (fun _ _ _ => False) (hr.make Ce uvs []) (Iv2.env0.make Ce uvs []) (hb _ (Value.ref (hh0.objs.size + 1) :: uvs) Iv2.kIn hln) r2 fin) fun r s' res => ?_))
  cases r with
  | error er => exact xat pns σ _ _ er s' Iv2 res
  | ok fl =>
    cases fl with
    | ret u =>
      obtain ⟨v, H2, os2, bare2, un2, hok2, rv, ev, d, flds, ea, ed, hd1, q2⟩ := res
      subst ev
      obtain ⟨h2, g2, d2, t2, osz⟩ := s'
      exact ⟨rv, mk_end (raises_own T.exC T.tyC) Iv1 szle kee un2 hok2 os2 bare2 ea ed hd1 q2⟩
    | next => exact False.elim res
    | brk => exact False.elim res
    | cont => exact False.elim res
end
end MM

namespace MM
open PySem L2 PyProof.Rows
/-! ### At: from a later start; a slot forgotten -/
section
variable {E : En} {Γ Γ' : Gm} {M M' : Ow} {σ σ' : L2.St} {G H G' H' : Hp}
theorem At.rebase (a : At E Γ M σ G H) : At ⟨G, H, M.map (·.1)⟩ Γ M σ G H :=
  ⟨a.len, a.env, a.gh, a.own, a.gn, a.nd, Same.refl _, fun _ _ _ e => e, fun _ _ g => g, fun q hq => .inl (List.mem_map.mpr ⟨q, hq, rfl⟩), fun _ h => h⟩
theorem At.comp (a : At E Γ M σ G H) (b : At ⟨G, H, M.map (·.1)⟩ Γ' M' σ' G' H') : At E Γ' M' σ' G' H' where
  len := b.len
  env := b.env
  gh := b.gh
  own := b.own
  gn := b.gn
  nd := b.nd
  g0 := a.g0.trans b.g0
  keep := fun x o h1 h2 => b.keep x o (fun hm => by
    obtain ⟨q, hq, e⟩ := List.mem_map.mp hm
    rcases a.loc q hq with z | z
    · rw [e] at z; exact h1 z
    · rw [e, h2] at z; cases z) (a.keep x o h1 h2)
  nw := fun x h1 h2 => a.nw x h1 (b.nw x (a.there x h1) h2)
  loc := fun q hq => by
    rcases b.loc q hq with z | z
    · obtain ⟨q', h1, e⟩ := List.mem_map.mp z
      rw [← e]; exact a.loc q' h1
    · exact .inr (a.fresh z)
  there := fun x h => b.there x (a.there x h)
theorem At.unset (a : At E Γ M σ G H) (i : Nat) : At E (Γ.set i none) M (σ.set i none) G H :=
  ⟨by simp [a.len], fun j ρ e => by
    by_cases hj : i = j
    · subst hj
      by_cases hl : i < Γ.length
      · rw [List.getElem?_set_self hl] at e; simp at e
      · rw [List.getElem?_eq_none (by simp; omega)] at e; cases e
    · rw [List.getElem?_set_ne hj] at e
      obtain ⟨v, e1, r⟩ := a.env j ρ e
      exact ⟨v, by rw [List.getElem?_set_ne hj]; exact e1, r⟩, a.gh, a.own, a.gn, a.nd, a.g0, a.keep, a.nw, a.loc, a.there⟩
theorem At.there0 (a : At E Γ M σ G H) : ∀ x ∈ M.map (·.1), H x ≠ none := fun x hx => by
  obtain ⟨q, hq, e⟩ := List.mem_map.mp hx
  obtain ⟨o, e2, _⟩ := a.own q hq
  rw [← e, e2]; simp
end
/-! ### a thing that is being made: its fields -/
def OX (p C : Addr) (d : Option Addr) : ORep := ⟨fun o _ => o = exo p C d, fun _ _ _ _ h => h⟩
def OXD (d : Addr) (l : List (Str × Rep)) : ORep := ⟨fun o G => ∃ fs, o = exd d fs ∧ FRep l fs G, fun _ _ _ s ⟨fs, e, r⟩ => ⟨fs, e, r.mono s⟩⟩
section
variable {X : Cx} {E : En} {Γ : Gm} {M : Ow} {e : Expr} {es : List Expr} {pos p pos' : Pos} {k : Nat} {x : Str} {Ψ : Ed}
theorem ws_xst1 {o value : Expr} {f : Str} (h : WE X E Γ M value fun ρv M1 => WE X E Γ M1 o fun ρo M2 => ∃ p C u, Sub ρo (RRef p) ∧ Fnd M2 p (OX p C none) u ∧ OxOk X.K C ∧ PySem.W.findIn X.K (.ref C) f = some none ∧
      ∀ d, d ∉ M2.map (·.1) → Ψ.nx Γ ((d, OXD d [(f, ρv)]) :: u (OX p C (some d))))
    (hs : swapsWith value (some (.Attribute o f pos')) pos.line X.env = pure false := by rfl) : WS X E Γ M (.Assign [.Attribute o f pos'] value pos) Ψ :=
  ws_of (ps_xst pe_w pe_w hs) fun σ G H a D k => h σ G H a _ fun ρv M1 v G1 H1 h1 s1 a1 r1 => h1 σ G1 H1 a1 _ fun ρo M2 y G2 H2 ⟨p, C, u, sb, fd, T, no, hk⟩ s2 a2 r2 => by
    obtain ⟨o, e1, e2⟩ := a2.own _ fd.mem
    have e2 : o = exo p C none := e2
    subst e2
    refine ⟨p, C, sb _ _ r2, T, no, .inl ⟨e1, fun d nd ne => ?_⟩⟩
    have a3 := a2.own1 (p := d) (o := exd d [(f, v)]) (r := OXD d [(f, ρv)]) nd ⟨_, rfl, rfl, ρv.mono _ _ _ s2 r1, trivial⟩
    have a4 := a3.write (o := exo p C (some d)) (r' := OX p C (some d)) (.there fd) rfl
    exact k.nx _ _ (hk d (a2.freshM nd)) _ _ _ (s1.trans s2) a4
theorem ws_xst2 {o value : Expr} {f : Str} (h : WE X E Γ M value fun ρv M1 => WE X E Γ M1 o fun ρo M2 => ∃ p C d l u u2, Sub ρo (RRef p) ∧ Fnd M2 p (OX p C (some d)) u ∧ Fnd M2 d (OXD d l) u2 ∧ OxOk X.K C ∧ PySem.W.findIn X.K (.ref C) f = some none ∧ l.length ≤ 800 ∧
      Ψ.nx Γ (u2 (OXD d ((f, ρv) :: l))))
    (hs : swapsWith value (some (.Attribute o f pos')) pos.line X.env = pure false := by rfl) : WS X E Γ M (.Assign [.Attribute o f pos'] value pos) Ψ :=
  ws_of (ps_xst pe_w pe_w hs) fun σ G H a D k => h σ G H a _ fun ρv M1 v G1 H1 h1 s1 a1 r1 => h1 σ G1 H1 a1 _ fun ρo M2 y G2 H2 ⟨p, C, d, l, u, u2, sb, fd, fd2, T, no, hl, hk⟩ s2 a2 r2 => by
    obtain ⟨o, e1, e2⟩ := a2.own _ fd.mem
    have e2 : o = exo p C (some d) := e2
    subst e2
    obtain ⟨o2, e3, fs, e4, rf⟩ := a2.own _ fd2.mem
    have e4 : o2 = exd d fs := e4
    subst e4
    refine ⟨p, C, sb _ _ r2, T, no, .inr ⟨d, fs, e1, e3, by rw [← rf.len]; omega, ?_⟩⟩
    exact k.nx _ _ hk _ _ _ (s1.trans s2) (a2.write fd2 ⟨_, rfl, rfl, ρv.mono _ _ _ s2 r1, rf⟩)
/-! ### raise C(e, ..) -/
/-- C's __init__ lays the fields l of what it is given -/
def conXI (C : Addr) (n : Nat) (l : List Rep → List (Str × Rep)) : Con := { I := Addr × { ρs : List Rep // ρs.length = n }, B := Addr, pre := fun _ => True, args := fun i => RRef i.1 :: i.2.1, own := fun i => [(i.1, OX i.1 C none)], post := fun _ _ => True, res := fun _ _ => RN, own' := fun i d => [(d, OXD d (l i.2.1)), (i.1, OX i.1 C (some d))] }
/-- the name x holds an exception's class -/
def KnX (P : Program) (w : World) (K : PySem.W.Frag) (mg : Str → Option Value) (base : Heap) (k : Nat) (x : Str) (C : Addr) (n : Nat) (l : List Rep → List (Str × Rep)) : Prop :=
  mg x = some (.ref C) ∧ OxOk K C ∧ n ≤ 100 ∧ ∃ (f : Addr) (fd : FuncData) (ps : List Str), PySem.W.findIn K (.ref C) "__init__" = some (some (.ref f)) ∧ PySem.W.isFn K (.ref f) = true ∧ Binds K fd ps [] ∧ FnOk P w K mg base CX0 k f fd ps (conSp (conXI C n l))
/-- what may leave: an exception of class C with the fields l, where Ξ -/
def TakesX (X : Cx) (E : En) (Ξ : Addr → List (Str × Rep) → Gm → Ow → Prop) : Prop :=
  ∃ W : WX, Takes X W ∧ ∀ C l Γ M, Ξ C l Γ M → ∀ σ G H d fs, At E Γ M σ G H → G d = some (.xd fs) → FRep l fs G → W (.ref C) (some d) σ H
theorem TakesX.imp {Ξ Ξ' : Addr → List (Str × Rep) → Gm → Ow → Prop} (t : TakesX X E Ξ) (h : ∀ C l Γ M, Ξ' C l Γ M → Ξ C l Γ M) : TakesX X E Ξ' :=
  let ⟨W, tk, hw⟩ := t; ⟨W, tk, fun C l Γ M x => hw C l Γ M (h C l Γ M x)⟩
variable {Ξ : Addr → List (Str × Rep) → Gm → Ow → Prop} {C : Addr} {n : Nat} {l : List Rep → List (Str × Rep)}
theorem ws_raiseX (F : KnX X.prog X.w X.K X.mg X.base k x C n l) (T : TakesX X E Ξ) (hr : Room (k + 1) X.A) (hg : Gl X x) (hc : X.calm = true)
    (h : WA X E Γ M (e :: es) fun ρs M' => ρs.length = n ∧ Ξ C (l ρs) Γ M')
    (hdb : (x == ("__debug__" : Str)) = false := by decide)
    (he : starEach (e :: es) X.env = (false, eval e X.env) :: starEach es X.env := by rfl)
    (hpl : (backTo pos (starEach es X.env)).any (·.1) = false := by rfl) :
    WS X E Γ M (.Raise (some (.Call (.Name x p) (e :: es) [] pos)) none pos') Ψ := by
  obtain ⟨hm, ok, hn, f, fd, ps, iC, tI, hb, F⟩ := F
  obtain ⟨W, tk, hw⟩ := T
  refine ws_of (ps_raise hc tk (pmk_xex (dvs := []) ok iC tI F hr hb .nil (fun _ _ _ _ _ _ _ z => z.elim) hg hm pa_w hdb he hpl)) fun σ G H a D k => ?_
  refine h σ G H a _ fun ρs M' vs G1 H1 ⟨hl, hk⟩ s1 a1 r1 => ⟨by rw [← r1.length, hl]; omega, fun q nq => ?_⟩
  refine ⟨G1, (q, ⟨ρs, hl⟩), a1.gh.trans (same_upd nq), trivial, ⟨rfl, by rw [List.append_nil]; exact r1⟩, fun z hz => ?_, fun z hz => ?_, by show ([(q, OX q C none)].map (·.1)).Nodup; simp, fun d v G2 H2 _ t rv => ⟨rv, ?_⟩⟩
  · have hz : z = (q, OX q C none) := by simpa [conXI] using hz
    subst hz
    exact ⟨_, upd_same, rfl⟩
  · have hz : z = (q, OX q C none) := by simpa [conXI] using hz
    subst hz
    exact a1.freshG nq
  · have td := t.own (d, OXD d (l ρs)) (by simp [conXI])
    have tq := t.own (q, OX q C (some d)) (by simp [conXI])
    have nG := t.gn (d, OXD d (l ρs)) (by simp [conXI])
    have nQ := t.gn (q, OX q C (some d)) (by simp [conXI])
    obtain ⟨od, ed, fs, e2, rf⟩ := td
    subst e2
    obtain ⟨oq, eq, e3⟩ := tq
    have e3 : oq = exo q C (some d) := e3
    subst e3
    have hdq : d ≠ q := fun z => by
      subst z
      rw [eq] at ed
      have n : [d, d].Nodup := t.nd
      simp at n
    have hd1 : H1 d = none := by
      rcases t.loc (d, OXD d (l ρs)) (by simp [conXI]) with z | z
      · exact absurd (List.mem_singleton.mp z) hdq
      · rw [upd_ne hdq] at z; exact z
    refine ⟨d, fs, eq, ed, hd1, ?_⟩
    have sg : Same G2 (upd G2 d (.xd fs)) := same_upd nG
    refine hw C (l ρs) Γ M' hk σ (upd G2 d (.xd fs)) _ d fs (a1.new (G' := upd G2 d (.xd fs)) ⟨t.gg.trans sg, fun b o z => ?_, fun b o z => ?_, fun b h1 h2 => ?_⟩) upd_same (rf.mono sg)
    · by_cases hb : b = d
      · subst hb; rw [upd_same] at z ⊢; exact z
      · rw [upd_ne hb] at z ⊢
        have hq : b ≠ q := fun y => by subst y; rw [nQ] at z; cases z
        rw [del_ne hq]; exact t.gh b o z
    · have hq : b ≠ q := ne_of_none z nq
      rw [upd_ne (ne_of_none z hd1), del_ne hq]
      exact t.keep b o (by simpa [conXI] using hq) (by rw [upd_ne hq]; exact z)
    · have hb : b ≠ d := fun y => by subst y; exact h1 hd1
      rw [upd_ne hb] at h2
      exact t.nw b (by
        by_cases hq : b = q
        · subst hq; exact absurd nq h1
        · rw [upd_ne hq]; exact h1) h2
end
/-! ### what a def promises that may raise -/
structure ConX extends Con where
  Z : Type
  bad : I → Z → Prop
  cls : I → Z → Addr
  fld : I → Z → List (Str × Rep)
  ownX : I → Z → Ow
def conSpX (c : ConX) : Sp := fun vs H Q EE => ∃ (G : Hp) (i : c.I), Same G H ∧ c.pre i ∧ Reps (c.args i) vs G ∧ (∀ q ∈ c.own i, ∃ o, H q.1 = some o ∧ q.2.p o G) ∧ (∀ q ∈ c.own i, G q.1 = none) ∧ ((c.own i).map (·.1)).Nodup ∧
  (∀ x v G' H', c.post i x → Aft G H G' H' (c.own i) (c.own' i x) → (c.res i x).p v G' → Q v H') ∧
  ∀ z d fs G' H', c.bad i z → Aft G H G' H' (c.own i) (c.ownX i z) → G' d = some (.xd fs) → FRep (c.fld i z) fs G' → EE (.ref (c.cls i z)) (some d) H'
def CallX (c : ConX) (ρs : List Rep) (Γ : Gm) (M : Ow) (Φ : Rep → Ow → Prop) (Ξ : Addr → List (Str × Rep) → Gm → Ow → Prop) : Prop :=
  ∃ (i : c.I) (rest : Ow), c.pre i ∧ SubL ρs (c.args i) ∧ Pk M (c.own i) rest ∧ (∀ x, c.post i x → Φ (c.res i x) (c.own' i x ++ rest)) ∧ ∀ z, c.bad i z → Ξ (c.cls i z) (c.fld i z) Γ (c.ownX i z ++ rest)
section
variable {X : Cx} {E : En} {Γ : Gm} {M : Ow} {e : Expr} {es : List Expr} {kws : List Keyword} {ks : List Str} {pos p pos' : Pos} {k n : Nat} {x : Str} {Φ : Rep → Ow → Prop} {Ξ : Addr → List (Str × Rep) → Gm → Ow → Prop} {c : ConX} {dvs : List V} {gV : List V → List V → List V} {gR : List Rep → List Rep → List Rep}
theorem callX_run {σ : L2.St} {G H : Hp} {ρs : List Rep} {vs : List V} {Q : VK} {W : WX} (hw : ∀ C l Γ M, Ξ C l Γ M → ∀ σ G H d fs, At E Γ M σ G H → G d = some (.xd fs) → FRep l fs G → W (.ref C) (some d) σ H) (h : CallX c ρs Γ M Φ Ξ) (a : At E Γ M σ G H) (r : Reps ρs vs G)
    (kq : ∀ ρ M' v G' H', Φ ρ M' → Same G G' → At E Γ M' σ G' H' → ρ.p v G' → Q v H') : conSpX c vs H Q (fun cls d H' => W cls d σ H') := by
  obtain ⟨i, rest, hp, sb, pk, h1, h2⟩ := h
  obtain ⟨o1, o2, o3⟩ := a.picked pk
  exact ⟨G, i, a.gh, hp, sb.reps r, o1, o2, o3, fun x v G' H' px t rv => kq _ _ v G' H' (h1 x px) t.gg (a.aft pk t) rv, fun z d fs G' H' bz t gd rf => hw _ _ _ _ (h2 z bz) σ G' H' d fs (a.aft pk t) gd rf⟩
/-- the run of a def that may raise -/
theorem run_fnX {pins : List (Addr × Obj)} {σ : L2.St} {H : Hp} {s : Shared} {Q : VK} {W : WX} {f : Addr} {fd : FuncData} {ps : List Str} {sp : Sp} {us : List Value} {vs : List V} {args : Args} (F : FnOk X.prog X.w X.K X.mg X.base (L2.CX X.prog X.w) k f fd ps sp) (tk : Takes X W) (hr : Room k X.A)
    (I : L2.Inv X pins σ H s) (hb : BindsTo s fd args (ps.zip us)) (r : Vals vs us) (h : sp vs H Q (fun cls d H' => W cls d σ H')) : codeAny (model X.prog X.w) X.A (.call (.ref f) args) (fun res s' => match res with
      | .ok (.ret u) => EP X pins σ Q u s'
      | .ok _ => False
      | .error er => X.xe er s') s := by
  refine codeAny_mono (F.run X.A X.stack s H args us vs Q _ hr I.env0 hb r h) fun res s' hq => ?_
  cases res with
  | error er => exact tk er s' (XE.of_call I (fun _ _ _ z => z) hq)
  | ok fl =>
    cases fl with
    | ret u => exact I.after hq
    | next => exact hq.elim
    | brk => exact hq.elim
    | cont => exact hq.elim
def KnR (P : Program) (w : World) (K : PySem.W.Frag) (mg : Str → Option Value) (base : Heap) (k : Nat) (x : Str) (dvs : List V) (c : ConX) : Prop :=
  ∃ (f : Addr) (fd : FuncData) (ps : List Str) (ds : List Value), mg x = some (.ref f) ∧ PySem.W.keepIn K (.ref f) = true ∧ Binds K fd ps ds ∧ Vals dvs ds ∧ FnOk P w K mg base (L2.CX P w) k f fd ps (conSpX c)
theorem we_callX (F : KnR X.prog X.w X.K X.mg X.base k x dvs c) (T : TakesX X E Ξ) (hr : Room k X.A) (hg : Gl X x)
    (h : WA X E Γ M (e :: es) fun ρs M' => CallX c (ρs ++ dvs.map RV) Γ M' Φ Ξ)
    (hdb : (x == ("__debug__" : Str)) = false := by decide)
    (he : starEach (e :: es) X.env = (false, eval e X.env) :: starEach es X.env := by rfl)
    (hpl : (backTo pos (starEach es X.env)).any (·.1) = false := by rfl) :
    WE X E Γ M (.Call (.Name x p) (e :: es) [] pos) Φ := by
  obtain ⟨f, fd, ps, ds, hm, hk, hb, hd, F⟩ := F
  obtain ⟨W, tk, hw⟩ := T
  refine we_of (t := fun σ H Q => tWA X (e :: es) σ H fun vs H1 => conSpX c (vs ++ dvs) H1 Q (fun cls d H' => W cls d σ H')) ⟨fun pins s σ H Q I h => ?_⟩ fun σ G H a Q q => ?_
  · refine wpAny_Call_Name_kw (ld_glob I hg hm ?_ hdb)
    refine PySem.W.callWith_K (h₀ := X.base) I.ok.mod.kin hk (thn (pa_w.run pos pins s σ H _ I h) fun us s1 ⟨vs, H1, I1, r, q⟩ => ⟨I1.kIn, ?_⟩) he hpl
    have rr : Vals (vs ++ dvs) (us ++ ds) := Vals.append r hd
    have ln : (us ++ ds).length = ps.length := by rw [← rr.length]; exact F.len _ _ _ _ q
    exact wpAny_call (codeAny_mono (run_fnX (pins := pins) F tk hr I1 (hb s1 us I1.kIn ln) rr q) fun res s' hq => by
      cases res with
      | error er => exact hq
      | ok fl => cases fl <;> exact hq)
  · exact h σ G H a _ fun ρs M1 vs G1 H1 hh s1 a1 r1 => callX_run hw hh a1 (r1.app (reps_RV dvs)) fun ρ M2 v G2 H2 h2 s2 => q ρ M2 v G2 H2 h2 (s1.trans s2)
end
/-! ### a def that may raise keeps its promise -/
abbrev xX (P : Program) (w : World) (K : PySem.W.Frag) (mg : Str → Option Value) (base : Heap) (N : List Str) (qual : Str) (sc : Scope) (f : Addr) (cd : Value) (A : Around) (outer : List Env) (s : Shared) (H : Hp) (EE : XK) : Cx :=
  cxOf (L2.CX P w) P w K mg base N qual sc f cd A outer s H EE
/-- how it may end -/
def XiOf (c : ConX) (i : c.I) : Addr → List (Str × Rep) → Gm → Ow → Prop := fun C l _ M => ∃ z rest, c.bad i z ∧ C = c.cls i z ∧ (∀ fs G, FRep l fs G → FRep (c.fld i z) fs G) ∧ Pk M (c.ownX i z) rest
theorem At.aftOf {G0 H0 : Hp} {o o' M rest : Ow} {Γ : Gm} {σ : L2.St} {G H : Hp} (a : At ⟨G0, H0, o.map (·.1)⟩ Γ M σ G H) (pk : Pk M o' rest) : Aft G0 H0 G H o o' := by
  obtain ⟨p1, p2, p3⟩ := a.picked pk
  refine ⟨a.g0, a.gh, fun b u h1 h2 => a.keep b u h1 h2, fun b h1 h2 => a.nw b h1 h2, p1, p2, p3, fun q hq => ?_, fun b hb => a.there b hb⟩
  obtain ⟨q', h1, h2, _⟩ := (pk.f a.nd).own q hq
  rw [← h2]; exact a.loc q' h1
theorem fn_conX {P : Program} {w : World} {K : PySem.W.Frag} {mg : Str → Option Value} {base : Heap} {x qual : Str} {st : Stmt} {dvs : List V} {f : Addr} {fd : FuncData} {N ps : List Str} {k : Nat} (c : ConX) (F : FdD K x qual st dvs f fd) (S : FnScope N ps (defScope st)) (hl : ∀ i, (c.args i).length = ps.length)
    (h : ∀ (cd : Value) (A : Around) (outer : List Env) (s : Shared) (H : Hp) (EE : XK) (G : Hp) (i : c.I), c.pre i → Room k (A.deeper (PyProof.Rows.envOfC qual (defScope st) s.heap.objs.size f cd)) → (∀ a ∈ (c.own i).map (·.1), H a ≠ none) →
      TakesX (xX P w K mg base N qual (defScope st) f cd A outer s H EE) ⟨G, H, (c.own i).map (·.1)⟩ (XiOf c i) →
      WSs (xX P w K mg base N qual (defScope st) f cd A outer s H EE) ⟨G, H, (c.own i).map (·.1)⟩ (startG N (c.args i)) (c.own i) (defBody st) (EdOf c.toCon i)) : FnOk P w K mg base (L2.CX P w) (k + 1) f fd ps (conSpX c) := by
  refine F.ok S (fun vs H Q EE hh => ?_) fun cdv A outer s H vs Q EE hr hh => ?_
  · obtain ⟨G, i, _, _, r, _⟩ := hh
    rw [← r.length]; exact hl i
  · obtain ⟨G, i, gh, hp, r, o1, o2, o3, kk, kx⟩ := hh
    refine ⟨tWSs (xX P w K mg base N qual (defScope st) f cdv A outer s H EE) (defBody st), pss_w, ?_⟩
    have a0 : At ⟨G, H, (c.own i).map (·.1)⟩ (startG N (c.args i)) (c.own i) (L2.start N vs) G H :=
      ⟨by simp [startG, L2.start, r.length], start_env r, gh, o1, o2, o3, Same.refl _, fun _ _ _ e => e, fun _ _ hg => hg, fun q hq => .inl (List.mem_map.mpr ⟨q, hq, rfl⟩), fun _ h => h⟩
    have fin : ∀ ρ M, Rt c.toCon i ρ M → ∀ v G' H', At ⟨G, H, (c.own i).map (·.1)⟩ [] M [] G' H' → ρ.p v G' → Q v H' := fun ρ M ⟨x, rest, px, sb, pk⟩ v G' H' a rv => kk x v G' H' px (a.aftOf pk) (sb _ _ rv)
    refine h cdv A outer s H EE G i hp hr a0.there0 ⟨fun cls d _ H => EE cls d H, takes_of rfl rfl rfl rfl, fun C l Γ M ⟨z, rest, bz, ec, fl, pk⟩ σ G' H' d fs a gd rf => ?_⟩ (L2.start N vs) G H a0 _
      ⟨fun Γ M h' σ G' H' _ a' => fin _ _ h' _ _ _ a'.env0 rfl, fun ρ M h' v G' H' _ a' rv => fin _ _ h' _ _ _ a' rv, fun _ _ h' => h'.elim, fun _ _ h' => h'.elim⟩
    subst ec
    exact kx z d fs G' H' bz (a.aftOf pk) gd (fl _ _ rf)
end MM

namespace MM
open PySem L2 PyProof.Rows
/-! ### an exception that is kept -/
def exq (a : Addr) (cls : Value) (d : Option Addr) : HO := .ext fun h => ∃ o, h.get? a = some o ∧ Zc cls d o ∧ ∃ vs, o.data = .fields vs
theorem exq_ok {P : Program} {w : World} {H : Hp} {h : Heap} {a : Addr} {cls : Value} {d : Option Addr} {o : Obj} (e : h.get? a = some o) (z : Zc cls d o) (f : ∃ vs, o.data = .fields vs) : ObjOk P w H h a (exq a cls d) :=
  ⟨⟨o, e, z, f⟩, ⟨o, e⟩, fun _ _ ⟨o1, e1, z1, f1⟩ k => ⟨o1, k _ e1, z1, f1⟩⟩
theorem exq_at {P : Program} {w : World} {H : Hp} {h : Heap} {a : Addr} {cls : Value} {d : Option Addr} (hok : HOk P w H h) (e : H a = some (exq a cls d)) : ∃ o, h.get? a = some o ∧ Zc cls d o ∧ ∃ vs, o.data = .fields vs := by
  have x : ObjOk P w H h a (exq a cls d) := hok a _ e
  exact x.1
def RExc (C : Addr) (l : List (Str × Rep)) : Rep :=
  ⟨fun v G => ∃ a d fs, v = .ref a ∧ G a = some (exq a (.ref C) (some d)) ∧ G d = some (.xd fs) ∧ FRep l fs G, fun _ _ _ s ⟨a, d, fs, e, h1, h2, r⟩ => ⟨a, d, fs, e, s _ _ h1, s _ _ h2, r.mono s⟩⟩
section
variable {X : Cx} {pins : List (Addr × Obj)} {σ : L2.St} {H : Hp} {sI s s' : Shared} {B : Heap} {a : Addr} {cls : Value} {d : Option Addr} {o : Obj}
/-- back on the ground, the exception tracked -/
theorem landedK (I : L2.Inv X pins σ H sI) (nb : ∀ b u, sI.heap.get? b = some u → b ∉ frs X.stack → B.get? b = some u) (st : B.StaysIn s'.heap) (up : sI.heap.UpToSlots s'.heap) (os : s'.os = sI.os) (ag : AllBare s'.gens)
    (nB : B.get? a = none) (nf : a ∉ frs X.stack) (na : H a = none) (e : s'.heap.get? a = some o) (z : Zc cls d o) (f : ∃ vs, o.data = .fields vs) : L2.Inv X pins σ (upd H a (exq a cls d)) s' := by
  have far : ∀ {b : Addr} {u : Obj}, sI.heap.get? b = some u → b ≠ a := fun {b u} q y => by
    subst y
    rw [nb _ _ q nf] at nB
    cases nB
  have hne : ∀ {b : Addr} {u : HO}, H b = some u → b ≠ a := fun q => ne_of_none q na
  have fr : ∀ b ∈ frs X.stack, ∀ u, sI.heap.get? b = some u → ∃ sl, s'.heap.get? b = some { u with slots := sl } := fun b hb u q => by
    obtain ⟨_, u', q', hd⟩ := I.stack.mem hb
    rw [q] at q'; cases q'
    exact up b u q hd
  have hokB : HOk X.prog X.w H s'.heap := (I.inGround nb).kept st
  refine I.call' (ch := []) os ⟨fun b u q _ hb _ => st b u (nb b u q hb), fun b u q _ hb _ => fr b hb u q, fun b u q n _ => by rw [upd_ne (far q)]; exact n, fun b u q _ => ?_,
    fun b xs q => by rw [upd_ne (hne q)]; exact q, fun b u v q => by rw [upd_ne (hne q)]; exact q, fun b ps q => ⟨#[], by rw [upd_ne (hne q), q]; simp⟩⟩ (fun b u q => ?_) ag (fun _ y => nomatch y)
  · by_cases hbs : b ∈ frs X.stack
    · obtain ⟨sl, q'⟩ := fr b hbs u q
      exact ⟨_, q'⟩
    · exact ⟨u, st b u (nb b u q hbs)⟩
  · by_cases hb : b = a
    · subst hb
      rw [upd_same] at q; cases q
      exact exq_ok e z f
    · rw [upd_ne hb] at q
      exact (hokB b u q).stay (fun _ _ _ y => y) (fun c hc => by rw [upd_ne (hne hc)]; exact hc) fun c xs hc => by rw [upd_ne (hne hc)]; exact hc
theorem toSuite (I : L2.Inv X pins σ H s) (a : Addr) : L2.Inv (X.suite a (X.pn ++ pins)) [] σ H s :=
  ⟨I.ok.suite _ _, I.os, I.bare, I.base, I.loc, I.cell, I.free, I.freeC, fun p hp => I.pin p (by rw [List.append_nil] at hp; exact hp), I.hok, I.len⟩
theorem ofSuite {a : Addr} {pn : List (Addr × Obj)} (I : L2.Inv (X.suite a (X.pn ++ pins)) pn σ H s) (ok : X.Ok) : L2.Inv X pins σ H s :=
  ⟨ok, I.os, I.bare, I.base, I.loc, I.cell, I.free, I.freeC, fun z hz => I.pin z (List.mem_append_left _ hz), I.hok, I.len⟩
end
/-- what an except clause asks: an exception of class cls is meant by te -/
def TestK (X : Cx) (te : Expr) (cls : Value) : Prop := ∀ (a : Addr) (pn : List (Addr × Obj)) (σ : L2.St) (H : Hp) (s : Shared) (A : Around) (Q : Bool → Shared → Prop) (E E' : Value → Shared → Prop), L2.Inv (X.suite a pn) [] σ H s →
  PySem.W.Looks (model X.prog X.w) s.heap (typeOf (.ref a)) cls → (∀ h', (∀ b o, s.heap.get? b = some o → h'.get? b = some o) → Q true { s with heap := h' }) →
  wpAny (model X.prog X.w) (X.A.mark (some (.ref a))) (eval te X.env) (fun c s1 => wpAny (model X.prog X.w) A (excMatches (.ref a) c) Q E' s1) E s
section
variable {X : Cx} {x : Str} {np : Pos} {c cls : Value}
theorem nameK (hc : Names X x c) {a : Addr} {pn : List (Addr × Obj)} {σ : L2.St} {H : Hp} {s : Shared} {Q : Value → Shared → Prop} {E : Value → Shared → Prop} (I : L2.Inv (X.suite a pn) [] σ H s) (q : Q c s) : wpAny (model X.prog X.w) (X.A.mark (some (.ref a))) (eval (.Name x np) X.env) Q E s := by
  obtain ⟨hg, hd, hm | ⟨hm, hv, hn⟩⟩ := hc
  · exact ld_glob (X := X.suite a pn) I hg hm q hd
  · exact ld_blt (X := X.suite a pn) I hg hm hv q hn hd
theorem test1 (hc : Names X x c) (e : PySem.W.exmOne X.K cls c = some true) : TestK X (.Name x np) cls := fun a pn σ H s A Q E E' I lt q =>
  nameK hc I ((PySem.W.exm_one (M := model X.prog X.w) (K := X.K) I.kIn lt e).here (q s.heap fun _ _ z => z))
end
section
variable {X : Cx} {n : Str} {i : Nat} {te : Expr} {body suite : List Stmt} {b₀ : Stmt} {pos pos' : Pos} {tb : WX → TS} {ts : Addr → Value → Option Addr → TS} {ok : Value → Prop}
/-- what is wished of the body's exceptions -/
def wKeep (ok : Value → Prop) (i : Nat) (ts : Addr → Value → Option Addr → TS) (D : Ends) : WX := fun cls d σ H =>
  ok cls ∧ ∀ a, H a = none → ts a cls d { nx := fun σ' H' => D.nx (σ'.set i none) H', rt := D.rt, bk := fun σ' H' => D.bk (σ'.set i none) H', ct := fun σ' H' => D.ct (σ'.set i none) H' } (σ.set i (some (.ref a))) (upd H a (exq a cls d))
theorem ps_tryK (hs : X.stack = X.env :: X.outer) (hf : X.env.frame = some X.env.locals) (hN : X.N.Nodup) (hi : X.N[i]? = some n) (hn : X.env.kindOf n = some .local) (ht : ∀ cls, ok cls → TestK X te cls)
    (hbd : ∀ (wx : WX) (pn : List (Addr × Obj)) (xe : Value → Shared → Prop), Takes (X.tr pn xe) wx → PassesOwn (model X.prog X.w) X.A X.env xe → PSs (X.tr pn xe) body (tb wx))
    (hsu : ∀ (a : Addr) (cls : Value) (d : Option Addr) (pn : List (Addr × Obj)), PSs (X.suite a pn) (b₀ :: suite) (ts a cls d)) :
    PS X (.Try body [.ExceptHandler (some te) (some n) (b₀ :: suite) pos'] [] [] pos) (fun D σ H => tb (wKeep ok i ts D) D σ H) := by
  refine ⟨fun pns s σ H D I h => ?_⟩
  have iok := I.ok
  have hfr : X.A.frames = some (X.env :: X.outer) := by rw [iok.frames, hs]
  refine wpAny_Try_except (wpAny_mono ((hbd (wKeep ok i ts D) (X.pn ++ pns) (fun e s₁ => wpAny (model X.prog X.w) X.A (noteFrame e X.env) (fun _ s₂ => wpAny (model X.prog X.w) X.A (setFlight e none) (fun _ s₃ =>
    wpAny (model X.prog X.w) X.A (handleBy e X.env [.ExceptHandler (some te) (some n) (b₀ :: suite) pos']) (SP X pns D) X.xe s₃) X.xe s₂) X.xe s₁) (fun u s' xx => ?_) PassesOwn.looking).run [] s σ H D (I.toTry _) h) (fun f s1 hsp => ?_) fun e s1 he => he)
  · obtain ⟨a, B, sI, pins', σ', H', cls, d, rfl, J', nb, up, sky, na, os, ag, hok, yes⟩ := xx
    have J : L2.Inv X pns σ' H' sI := J'.ofTry iok
    have sk : Sky B (X.env :: X.outer) a (Zc cls d) X.env.locals s'.heap := by rw [← hs]; exact sky
    show wpAny _ X.A (noteFrame (.ref a) X.env) _ _ _
    refine Sky.land Zc.steady hfr hf sk fun h3 fl3 up3 => ?_
    have J3 : L2.Inv X pns σ' H' { s' with heap := h3 } := J.landed nb fl3.1 (up.trans up3) os ag
    obtain ⟨o3, vs3, e3, z3, d3⟩ := fl3.there
    refine wpAny_handleBy_cons (codeAny_handlers_test ?_) (fun y => nomatch y)
    have lt : PySem.W.Looks (model X.prog X.w) h3 (typeOf (.ref a)) cls := fun A Q E s k q => wpAny_typeOf_ref (k _ _ e3) (by rw [z3.1]; exact q)
    refine ht cls hok a _ σ' H' { s' with heap := h3 } _ _ _ _ (toSuite J3 a) lt fun h5 k5 => ?_
    show codeAny _ _ _ _ _
    have fl5 : HandSPX.FlyingZ B (X.env :: X.outer) a (Zc cls d) h5 := by
      obtain ⟨f1, f2, f3, oe, ws, T, oT, ts, g1, g2, g3, g4, g5, g6, g7, g8, g9⟩ := fl3
      exact ⟨fun b u y => k5 _ _ (f1 b u y), f2, f3.of_keeps fun b u y _ => ⟨u, k5 _ _ y, rfl⟩, oe, ws, T, oT, ts, k5 _ _ g1, g2, g3, g4, g5, g6, k5 _ _ g7, g8, g9⟩
    have up5 : h3.UpToSlots h5 := Heap.UpToSlots.of_keeps k5
    refine codeAny_handlers_suite_as (HandSPX.lands_againZ (s := { s' with heap := h5 }) fl5 fun h6 fl6 up6 => ?_)
    obtain ⟨o6, vs6, e6, z6, d6⟩ := fl6.there
    have nfr : a ∉ frs X.stack := fun hm => by
      rw [hs] at hm
      obtain ⟨_, u, y, hnf⟩ := fl6.2.2.1.mem hm
      rw [e6] at y; cases y
      exact hnf _ d6
    have J6 : L2.Inv X pns σ' (upd H' a (exq a cls d)) { s' with heap := h6 } := landedK J nb fl6.1 (((up.trans up3).trans up5).trans up6) os ag fl6.2.1 nfr na e6 z6 ⟨_, d6⟩
    refine store_ok (X := X.suite a (X.pn ++ pns)) (v := .ref a) (toSuite J6 a) hN hi (.inl hn) rfl (fun s7 J7 => ?_) (.inr hn)
    refine wpAny_mono ((hsu a cls d (X.pn ++ pns)).run [] s7 _ _ _ J7 (yes a na)) (fun f s8 hsp => ?_) fun _ _ y => y.elim
    have out : ∀ {σ8 : L2.St} {H8 : Hp} {Q : Shared → Prop}, L2.Inv (X.suite a (X.pn ++ pns)) [] σ8 H8 s8 → (∀ s9, L2.Inv X pns (σ8.set i none) H8 s9 → Q s9) →
        wpAny (model X.prog X.w) X.A (do bindName X.env n .none; unbindBehindTheSuite X.env n pos') (fun _ s9 => Q s9) X.xe s8 := fun {σ8 H8 Q} J8 hq => gone_ok (ofSuite J8 iok) hN hi hn hq
    cases f with
    | next =>
      obtain ⟨σ8, H8, J8, q8⟩ := hsp
      exact out J8 fun s9 J9 => ⟨_, _, J9, q8⟩
    | brk =>
      obtain ⟨σ8, H8, J8, q8⟩ := hsp
      exact out J8 fun s9 J9 => ⟨_, _, J9, q8⟩
    | cont =>
      obtain ⟨σ8, H8, J8, q8⟩ := hsp
      exact out J8 fun s9 J9 => ⟨_, _, J9, q8⟩
    | ret u =>
      obtain ⟨v8, σ8, H8, J8, r8, q8⟩ := hsp
      exact out J8 fun s9 J9 => ⟨_, _, _, J9, r8, q8⟩
  · cases f with
    | next =>
      obtain ⟨σ', H', J', q⟩ := hsp
      exact wpAny_execs_nil ⟨σ', H', J'.ofTry iok, q⟩
    | brk =>
      obtain ⟨σ', H', J', q⟩ := hsp
      exact ⟨σ', H', J'.ofTry iok, q⟩
    | cont =>
      obtain ⟨σ', H', J', q⟩ := hsp
      exact ⟨σ', H', J'.ofTry iok, q⟩
    | ret u =>
      obtain ⟨v, σ', H', Jt, r, q⟩ := hsp
      exact ⟨v, σ', H', Jt.ofTry iok, r, q⟩
end
section
variable {X : Cx} {E : En} {Γ : Gm} {M : Ow} {n : Str} {te : Expr} {body suite : List Stmt} {b₀ : Stmt} {pos pos' : Pos} {Ψ : Ed} {Ξ : Addr → List (Str × Rep) → Gm → Ow → Prop}
/-- try: body, except te as n: suite; slot i is n's -/
theorem ws_tryK (i : Nat) (hs : X.stack = X.env :: X.outer) (hf : X.env.frame = some X.env.locals) (hN : X.N.Nodup) (hi : X.N[i]? = some n) (hn : X.env.kindOf n = some .local)
    (hb : ∀ (G H : Hp) (pn : List (Addr × Obj)) (xe : Value → Shared → Prop), (∀ a ∈ M.map (·.1), H a ≠ none) → PassesOwn (model X.prog X.w) X.A X.env xe → TakesX (X.tr pn xe) ⟨G, H, M.map (·.1)⟩ Ξ → WSs (X.tr pn xe) ⟨G, H, M.map (·.1)⟩ Γ M body Ψ)
    (hsu : ∀ C l Γ' M', Ξ C l Γ' M' → TestK X te (.ref C) ∧ ∀ a pn, WSs (X.suite a pn) E (Γ'.set i (some (RExc C l))) M' (b₀ :: suite)
      { nx := fun Γ2 M2 => Ψ.nx (Γ2.set i none) M2, rt := Ψ.rt, bk := fun Γ2 M2 => Ψ.bk (Γ2.set i none) M2, ct := fun Γ2 M2 => Ψ.ct (Γ2.set i none) M2 }) :
    WS X E Γ M (.Try body [.ExceptHandler (some te) (some n) (b₀ :: suite) pos'] [] [] pos) Ψ :=
  ws_of (ps_tryK (i := i) (ok := fun cls => TestK X te cls) (tb := fun W D σ H => ∀ pn xe, Takes (X.tr pn xe) W → PassesOwn (model X.prog X.w) X.A X.env xe → tWSs (X.tr pn xe) body D σ H) (ts := fun a _ _ D σ H => ∀ pn, tWSs (X.suite a pn) (b₀ :: suite) D σ H)
    hs hf hN hi hn (fun _ t => t) (fun W pn xe tk po => ⟨fun pins s σ H D I h => pss_w.run pins s σ H D I (h pn xe tk po)⟩) (fun a _ _ pn => ⟨fun pins s σ H D I h => pss_w.run pins s σ H D I (h pn)⟩)) fun σ G H a D k pn xe tk po => by
      refine hb G H pn xe a.there0 po ⟨_, tk, fun C l Γ1 M1 hx σ1 G1 H1 d fs a1 gd rf => ⟨(hsu C l Γ1 M1 hx).1, fun q nq pn2 => ?_⟩⟩ σ G H a.rebase D
        ⟨fun Γ2 M2 h σ2 G2 H2 s2 a2 => k.nx Γ2 M2 h σ2 G2 H2 s2 (a.comp a2), fun ρ M2 h v G2 H2 s2 a2 r => k.rt ρ M2 h v G2 H2 s2 (a.env0.comp a2) r, fun Γ2 M2 h σ2 G2 H2 s2 a2 => k.bk Γ2 M2 h σ2 G2 H2 s2 (a.comp a2), fun Γ2 M2 h σ2 G2 H2 s2 a2 => k.ct Γ2 M2 h σ2 G2 H2 s2 (a.comp a2)⟩
      have nw : New G1 H1 (upd G1 q (exq q (.ref C) (some d))) (upd H1 q (exq q (.ref C) (some d))) := New.put a1.gh nq
      have nG : G1 q = none := a1.freshG nq
      have a2 := ((a.comp a1).new nw).set (i := i) (ρ := RExc C l) (v := .ref q) ⟨q, d, fs, rfl, upd_same, by rw [upd_ne (ne_of_none gd nG)]; exact gd, rf.mono nw.gg⟩
      have sg : Same G (upd G1 q (exq q (.ref C) (some d))) := a1.g0.trans nw.gg
      exact (hsu C l Γ1 M1 hx).2 q pn2 _ _ _ a2 _ ⟨fun Γ2 M2 h σ2 G2 H2 s2 a3 => k.nx _ M2 h _ G2 H2 (sg.trans s2) (a3.unset i), fun ρ M2 h v G2 H2 s2 a3 r => k.rt ρ M2 h v G2 H2 (sg.trans s2) a3 r,
        fun Γ2 M2 h σ2 G2 H2 s2 a3 => k.bk _ M2 h _ G2 H2 (sg.trans s2) (a3.unset i), fun Γ2 M2 h σ2 G2 H2 s2 a3 => k.ct _ M2 h _ G2 H2 (sg.trans s2) (a3.unset i)⟩
end
/-! ### isinstance of it; its fields -/
/-- as a thing of the heap -/
theorem exq_inst {P : Program} {w : World} {H : Hp} {h : Heap} {a C d : Addr} {fs : List (Str × V)} (hok : HOk P w H h) (e : H a = some (exq a (.ref C) (some d))) (ed : H d = some (.xd fs)) :
    ∃ o od, PySem.W.InstAt h a o C (some od) ∧ ∀ f v, fs.lookup f = some v → ∃ u, PySem.W.lookIn f od = some (some u) ∧ RelV v u := by
  obtain ⟨o, e1, z, vs, hd⟩ := exq_at hok e
  have hx : ObjOk P w H h d (.xd fs) := hok d _ ed
  obtain ⟨mA, hns, hr⟩ := hx
  obtain ⟨od, hod, hl⟩ := lookIn_ns hns
  refine ⟨o, od, ⟨e1, z.1, by unfold PySem.W.notCls; rw [hd] <;> rfl, by rw [z.2]; exact hod⟩, fun f v l => ?_⟩
  obtain ⟨u, hu, ru⟩ := RelO.some_of (v := v) (o := mA f) (by rw [← l]; exact hr f)
  exact ⟨u, by rw [hl, hu], ru⟩
def rIsX (K : PySem.W.Frag) : List V → Hp → VK → Prop := fun xs H Q => ∃ (a C d : Addr) (fs : List (Str × V)) (c : V) (b : Bool), xs = [.ref a, c] ∧ H a = some (exq a (.ref C) (some d)) ∧ H d = some (.xd fs) ∧ ExcC K C ∧
  ((∃ cv, (∀ u, RelV c u → u = cv) ∧ PySem.W.kitOne K (.ref C) cv = some b) ∨ ∃ (tp : Addr) (ys : List V) (us : List Value), c = .ref tp ∧ H tp = some (.tup ys) ∧ (∀ us', Vals ys us' → us' = us) ∧ PySem.W.kitAny K (.ref C) us = some b) ∧ Q (.bl b) H
theorem clsSome {K : PySem.W.Frag} {C : Addr} (h : ExcC K C) : (PySem.W.clsIn K C).isSome = true := by
  obtain ⟨cd, hc, _⟩ := PySem.W.any_some h.hd
  rw [hc]; rfl
theorem call_isX {X : Cx} : CallR X (.builtin "isinstance") (rIsX X.K) := by
  intro pns s σ H xs us Q I r h
  obtain ⟨a, C, d, fs, c, b, rfl, ea, ed, T, hc, q⟩ := h
  obtain ⟨o, od, J, _⟩ := exq_inst I.hok ea ed
  cases r with
  | cons rx rr =>
    cases rr with
    | cons rt rr =>
      cases rr
      cases rx
      have Z : PySem.W.KitX X.K (.ref a) (.ref C) (fun h => PySem.W.InstAt h a o C (some od)) := PySem.W.kitx_exc (clsSome T) T.hg T.hk T.hs T.ha T.hn T.ht T.hm
      rcases hc with ⟨cv, hcv, e⟩ | ⟨tp, ys, ws, rfl, et, hv, e⟩
      · have ec := hcv _ rt
        subst ec
        exact PySem.W.kia_one Z I.kIn J e (fun z => nomatch z) fun tk => ⟨.bl b, H, I.kept (t' := tk) fun _ _ z => z, rfl, q⟩
      · cases rt
        have hx : ObjOk X.prog X.w H s.heap tp (.tup ys) := I.hok tp _ et
        obtain ⟨_, its, rv, ot, eo, hct⟩ := hx
        have ei := hv _ rv
        subst ei
        obtain ⟨oc, odd, oda, osl⟩ := ot
        obtain ⟨hcl, n, hdt⟩ := hct
        dsimp only at hcl hdt
        subst hcl hdt
        exact PySem.W.kia_tup Z I.kIn J eo e (fun z => nomatch z) fun tk => ⟨.bl b, H, I.kept (t' := tk) fun _ _ z => z, rfl, q⟩
end MM

namespace MM
open PySem L2 PyProof.Rows
section
variable {X : Cx} {E : En} {Γ : Gm} {M : Ow} {e : Expr} {pos p p2 : Pos} {Φ : Rep → Ow → Prop} {x : Str}
theorem we_bltn {v : V} {u : Value} (hg : Gl X x) (hm : X.mg x = none) (hv : bootBuiltins x = some u) (r : RelV v u) (k : Φ (RV v) M) (hn : x ≠ "__name__" := by decide) (hd : (x == ("__debug__" : Str)) = false := by decide) : WE X E Γ M (.Name x pos) Φ := we_of (pe_bltn hg hm hv r hn hd) (wte_c (fun _ => rfl) k)
/-- isinstance(e, a built-in type) -/
theorem we_isiB {t c : String} {b : Bool} (hg : Gl X "isinstance") (hgc : Gl X x) (hm : X.mg "isinstance" = none) (hmc : X.mg x = none) (hv : bootBuiltins x = some (.type c)) (hk : L2.kitB t c = some b)
    (h : WE X E Γ M e fun ρ M1 => TyIs X.K ρ (.type t) ∧ Φ (RB b) M1) (hn : x ≠ "__name__" := by decide) (hd : (x == ("__debug__" : Str)) = false := by decide)
    (he : starEach [e, .Name x p2] X.env = (false, eval e X.env) :: starEach [.Name x p2] X.env := by rfl) (he2 : starEach [.Name x p2] X.env = (false, eval (.Name x p2) X.env) :: starEach [] X.env := by rfl) (hpl : (backTo pos (starEach [.Name x p2] X.env)).any (·.1) = false := by rfl) :
    WE X E Γ M (.Call (.Name "isinstance" p) [e, .Name x p2] [] pos) Φ := by
  refine we_callB call_isi hg hm (by decide +kernel) (wa_cons (fun σ G H a Q q => h σ G H a Q fun ρ M1 v G1 H1 ⟨ty, hk2⟩ => q ρ M1 v G1 H1 (wa_cons (we_bltn (v := .ty c) hgc hmc hv rfl (wa_nil ?_) hn hd) he2)) he) (by decide) (by decide) he hpl
  exact caw_of (cav_isi ty (.ty c) (kit_ty hk)) hk2
theorem cav_len_tt {K : PySem.W.Frag} {ρs : List Rep} : CaV (fun xs H Q => ∃ p ys, xs = [.ref p] ∧ (SqL K H p ys ∨ SqT K H p ys) ∧ Q (.int ys.length) H) [RTt ρs] (RI ρs.length) := fun vs G H s r Q q => by
  match vs, r with
  | [v], ⟨⟨a, ws, e, h, rr⟩, _⟩ =>
    subst e
    refine ⟨a, ws, rfl, .inr (.inl (.inl (s _ _ h))), q _ G H (New.refl s) ?_⟩
    show V.int _ = V.int _
    rw [rr.length]
theorem cav_len_lt {K : PySem.W.Frag} {ρs : List Rep} : CaV (fun xs H Q => ∃ p ys, xs = [.ref p] ∧ (SqL K H p ys ∨ SqT K H p ys) ∧ Q (.int ys.length) H) [RLt ρs] (RI ρs.length) := fun vs G H s r Q q => by
  match vs, r with
  | [v], ⟨⟨a, ws, e, h, rr⟩, _⟩ =>
    subst e
    refine ⟨a, ws, rfl, .inl (.inl (.inl (s _ _ h))), q _ G H (New.refl s) ?_⟩
    show V.int _ = V.int _
    rw [rr.length]
end
end MM

namespace MM
open PySem L2 PyProof.Rows
/-! ### isinstance(e, c), e.f -/
theorem cav_isX {K : PySem.W.Frag} {C : Addr} {l : List (Str × Rep)} {c : V} {cv : Value} {b : Bool} (T : ExcC K C) (hc : ∀ u, RelV c u → u = cv) (hk : PySem.W.kitOne K (.ref C) cv = some b) : CaV (rIsX K) [RExc C l, RV c] (RB b) := fun vs G H s r Q q => by
  match vs, r with
  | [v, w], ⟨⟨a, d, fs, e, h1, h2, rf⟩, e2, _⟩ =>
    subst e
    have e2 : w = c := e2
    subst e2
    exact ⟨a, C, d, fs, w, b, rfl, s _ _ h1, s _ _ h2, T, .inl ⟨cv, hc, hk⟩, q _ G H (New.refl s) rfl⟩
theorem reps_RVs {G : Hp} : ∀ {cs vs : List V}, Reps (cs.map RV) vs G → vs = cs
  | [], [], _ => rfl
  | _ :: _, _ :: _, h => by
    have e : _ = _ := h.1
    rw [e, reps_RVs h.2]
  | [], _ :: _, h => h.elim
  | _ :: _, [], h => h.elim
theorem cav_isXt {K : PySem.W.Frag} {C : Addr} {l : List (Str × Rep)} {cs : List V} {us : List Value} {b : Bool} (T : ExcC K C) (hc : ∀ us', Vals cs us' → us' = us) (hk : PySem.W.kitAny K (.ref C) us = some b) : CaV (rIsX K) [RExc C l, RTt (cs.map RV)] (RB b) := fun vs G H s r Q q => by
  match vs, r with
  | [v, w], ⟨⟨a, d, fs, e, h1, h2, rf⟩, ⟨tp, ys, e2, h3, r3⟩, _⟩ =>
    subst e e2
    have e3 := reps_RVs r3
    subst e3
    exact ⟨a, C, d, fs, .ref tp, b, rfl, s _ _ h1, s _ _ h2, T, .inr ⟨tp, ys, us, rfl, s _ _ h3, hc, hk⟩, q _ G H (New.refl s) rfl⟩
theorem vals_refs : ∀ {cs : List Addr} {us : List Value}, Vals (cs.map V.ref) us → us = cs.map Value.ref
  | [], _, .nil => rfl
  | _ :: cs, _, .cons r t => by
    have e : _ = _ := r
    rw [e, vals_refs t]; rfl
section
variable {X : Cx} {E : En} {Γ : Gm} {M : Ow} {a e : Expr} {es : List Expr} {kws : List Keyword} {ks : List Str} {pos p : Pos} {k n : Nat} {x : Str} {Φ : Rep → Ow → Prop} {Ξ : Addr → List (Str × Rep) → Gm → Ow → Prop} {c : ConX} {dvs : List V} {gV : List V → List V → List V} {gR : List Rep → List Rep → List Rep}
theorem pe_xq {te : TE} {f : Str} (he : PE X e te) (hb : attributeBase e f X.env (eval e X.env) = eval e X.env := by rfl) :
    PE X (.Attribute e f pos) (fun σ H Q => te σ H fun x H1 => ∃ (a C d : Addr) (fs : List (Str × V)) (v : V), x = .ref a ∧ H1 a = some (exq a (.ref C) (some d)) ∧ H1 d = some (.xd fs) ∧ ExcC X.K C ∧ PySem.W.findIn X.K (.ref C) f = some none ∧ fs.lookup f = some v ∧ Q v H1) := by
  refine ⟨fun pins s σ H Q I h => attr_of hb (thn (he.run pins s σ H _ I h) fun u s1 hh => ?_)⟩
  obtain ⟨x, H1, I1, rx, a, C, d, fs, v, ex, ea, ed, T, no, l, q⟩ := hh
  subst ex
  have eu : u = Value.ref a := rx
  subst eu
  obtain ⟨o, od, J, lk⟩ := exq_inst I1.hok ea ed
  obtain ⟨w, lw, rw'⟩ := lk f v l
  exact HandSPX.exc_get I1.kIn J T.hg T.hk T.hs (PySem.W.findObj_own T.hd no rfl lw) (handed_of rw') ⟨v, H1, I1.tok _, rw', q⟩
theorem we_xf {f : Str} (h : WE X E Γ M a fun ρ M' => ∃ C l ρf, Sub ρ (RExc C l) ∧ ExcC X.K C ∧ PySem.W.findIn X.K (.ref C) f = some none ∧ l.lookup f = some ρf ∧ Φ ρf M') (hb : attributeBase a f X.env (eval a X.env) = eval a X.env := by rfl) : WE X E Γ M (.Attribute a f pos) Φ :=
  we_of (pe_xq pe_w hb) fun σ G H at' Q q => h σ G H at' _ fun ρ M' v G1 H1 ⟨C, l, ρf, sb, T, no, hl, hk⟩ s1 a1 r1 => by
    obtain ⟨b, d, fs, e1, e2, e3, rf⟩ := sb _ _ r1
    obtain ⟨w, e4, r4⟩ := rf.look hl
    exact ⟨b, C, d, fs, w, e1, a1.gh _ _ e2, a1.gh _ _ e3, T, no, e4, q ρf M' w G1 H1 hk s1 a1 r4⟩
/-! ### keywords -/
def KnRK (P : Program) (w : World) (K : PySem.W.Frag) (mg : Str → Option Value) (base : Heap) (k : Nat) (x : Str) (n : Nat) (ks : List Str) (gV : List V → List V → List V) (c : ConX) : Prop :=
  ∃ (f : Addr) (fd : FuncData) (ps : List Str) (g : List Value → List Value → List Value), mg x = some (.ref f) ∧ PySem.W.keepIn K (.ref f) = true ∧ KBn K fd ps n ks g gV ∧ FnOk P w K mg base (L2.CX P w) k f fd ps (conSpX c)
theorem endX {pins : List (Addr × Obj)} {σ : L2.St} {Q : VK} {s : Shared} {cd : Code} (h : codeAny (model X.prog X.w) X.A cd (fun res s' => match res with
      | .ok (.ret u) => EP X pins σ Q u s'
      | .ok _ => False
      | .error er => X.xe er s') s) : codeAny (model X.prog X.w) X.A cd (fun res s' => match res with
      | .error er => X.xe er s'
      | .ok fl => match fl with
        | .ret u => EP X pins σ Q u s'
        | _ => False) s := codeAny_mono h fun res s' hq => by
    cases res with
    | error er => exact hq
    | ok fl => cases fl <;> exact hq
theorem we_callXN (F : KnRK X.prog X.w X.K X.mg X.base k x n ks gV c) (gr : GvR gV gR n ks.length) (T : TakesX X E Ξ) (hr : Room k X.A) (hg : Gl X x)
    (h : WA X E Γ M (e :: es) fun ρs M1 => ρs.length = n ∧ WK X E Γ M1 kws fun ρz M2 => ρz.length = ks.length ∧ CallX c (gR ρs ρz) Γ M2 Φ Ξ)
    (hall : (backToKw pos (keywordEach kws X.env)).all (·.1.isSome) = true := by rfl) (hks : (backToKw pos (keywordEach kws X.env)).filterMap (·.1) = ks := by rfl)
    (hdb : (x == ("__debug__" : Str)) = false := by decide)
    (he : starEach (e :: es) X.env = (false, eval e X.env) :: starEach es X.env := by rfl) (hplain : ((backTo pos (starEach (e :: es) X.env)).any (·.1) || (backToKw pos (keywordEach kws X.env)).any (·.1.isNone)) = false := by rfl) :
    WE X E Γ M (.Call (.Name x p) (e :: es) kws pos) Φ := by
  obtain ⟨f, fd, ps, g, hm, hk, hb, F⟩ := F
  obtain ⟨W, tk, hw⟩ := T
  refine we_of (t := fun σ H Q => tWA X (e :: es) σ H fun vs H1 => tWK X kws σ H1 fun zs H2 => vs.length = n ∧ zs.length = ks.length ∧ conSpX c (gV vs zs) H2 Q (fun cls d H' => W cls d σ H')) ⟨fun pins s σ H Q I h => ?_⟩ fun σ G H a Q q => ?_
  · refine wpAny_Call_Name_kw (ld_glob I hg hm ?_ hdb)
    refine PySem.W.callWith_KW (h₀ := X.base) I.ok.mod.kin hk hall (thn (pa_w.run pos pins s σ H _ I h) fun us s1 ⟨vs, H1, I1, r, q⟩ => ?_) hplain he
    refine thn (pk_w.run pos pins s1 σ H1 _ I1 q) fun ws s2 ⟨zs, H2, I2, rz, l1, l2, q2⟩ => ⟨I2.kIn, ?_⟩
    rw [hks]
    exact wpAny_call (codeAny_mono (run_fnX (pins := pins) F tk hr I2 (hb.to s2 us ws I2.kIn (r.length.symm.trans l1) (rz.length.symm.trans l2)) (hb.rel r rz) q2) fun res s' hq => by
      cases res with
      | error er => exact hq
      | ok fl => cases fl <;> exact hq)
  · exact h σ G H a _ fun ρs M1 vs G1 H1 ⟨l1, h1⟩ s1 a1 r1 => h1 σ G1 H1 a1 _ fun ρz M2 zs G2 H2 ⟨l2, hh⟩ s2 a2 r2 =>
      ⟨by rw [← r1.length]; exact l1, by rw [← r2.length]; exact l2, callX_run hw hh a2 (gr.run l1 l2 (r1.mono s2) r2) fun ρ M3 v G3 H3 h3 s3 => q ρ M3 v G3 H3 h3 ((s1.trans s2).trans s3)⟩
theorem we_callXN0 (F : KnRK X.prog X.w X.K X.mg X.base k x 0 ks gV c) (gr : GvR gV gR 0 ks.length) (T : TakesX X E Ξ) (hr : Room k X.A) (hg : Gl X x)
    (h : WK X E Γ M kws fun ρz M2 => ρz.length = ks.length ∧ CallX c (gR [] ρz) Γ M2 Φ Ξ)
    (hall : (backToKw pos (keywordEach kws X.env)).all (·.1.isSome) = true := by rfl) (hks : (backToKw pos (keywordEach kws X.env)).filterMap (·.1) = ks := by rfl)
    (hdb : (x == ("__debug__" : Str)) = false := by decide) (hplain : ((backTo pos (starEach [] X.env)).any (·.1) || (backToKw pos (keywordEach kws X.env)).any (·.1.isNone)) = false := by rfl) :
    WE X E Γ M (.Call (.Name x p) [] kws pos) Φ := by
  obtain ⟨f, fd, ps, g, hm, hk, hb, F⟩ := F
  obtain ⟨W, tk, hw⟩ := T
  refine we_of (t := fun σ H Q => tWK X kws σ H fun zs H2 => zs.length = ks.length ∧ conSpX c (gV [] zs) H2 Q (fun cls d H' => W cls d σ H')) ⟨fun pins s σ H Q I h => ?_⟩ fun σ G H a Q q => ?_
  · refine wpAny_Call_Name_kw (ld_glob I hg hm ?_ hdb)
    refine PySem.W.callWith_KW0 (h₀ := X.base) I.ok.mod.kin hk hall ?_ hplain
    refine thn (pk_w.run pos pins s σ H _ I h) fun ws s2 ⟨zs, H2, I2, rz, l2, q2⟩ => ⟨I2.kIn, ?_⟩
    rw [hks]
    exact wpAny_call (codeAny_mono (run_fnX (pins := pins) F tk hr I2 (hb.to s2 [] ws I2.kIn rfl (rz.length.symm.trans l2)) (hb.rel .nil rz) q2) fun res s' hq => by
      cases res with
      | error er => exact hq
      | ok fl => cases fl <;> exact hq)
  · exact h σ G H a _ fun ρz M2 zs G2 H2 ⟨l2, hh⟩ s2 a2 r2 =>
      ⟨by rw [← r2.length]; exact l2, callX_run hw hh a2 (gr.run rfl l2 trivial r2) fun ρ M3 v G3 H3 h3 s3 => q ρ M3 v G3 H3 h3 (s2.trans s3)⟩
end
/-! ### the slots of a try's body, of an except suite -/
section
variable {X : Cx} {i : Nat} {x : Str} {pn : List (Addr × Obj)} {xe : Value → Shared → Prop} {a : Addr}
theorem Rd1.tr (r : Rd1 X i x) : Rd1 (X.tr pn xe) i x := ⟨r.at_, r.vis, r.hd, r.hcd⟩
theorem Rd1.su (r : Rd1 X i x) : Rd1 (X.suite a pn) i x := ⟨r.at_, r.vis, r.hd, r.hcd⟩
theorem Wr1.tr (r : Wr1 X i x) : Wr1 (X.tr pn xe) i x := ⟨r.nd, r.at_, r.loc, r.fn⟩
theorem Wr1.su (r : Wr1 X i x) : Wr1 (X.suite a pn) i x := ⟨r.nd, r.at_, r.loc, r.fn⟩
end
/-! ### where it does not raise -/
def ConX.quiet (c : ConX) : Con := { c.toCon with pre := fun i => c.pre i ∧ ∀ z, ¬ c.bad i z }
section
variable {P : Program} {w : World} {K : PySem.W.Frag} {mg : Str → Option Value} {base : Heap} {k n : Nat} {f : Addr} {fd : FuncData} {ps ks : List Str} {c : ConX} {x : Str} {dvs : List V} {gV : List V → List V → List V}
theorem quiet_sp {vs : List V} {H : Hp} {Q : VK} {EE E1 : XK} (h : conSp c.quiet vs H Q EE) : conSpX c vs H Q E1 := by
  obtain ⟨G, i, s, ⟨hp, nb⟩, r, o1, o2, o3, kk⟩ := h
  exact ⟨G, i, s, hp, r, o1, o2, o3, kk, fun z _ _ _ _ bz => absurd bz (nb z)⟩
theorem quiet_fn (F : FnOk P w K mg base (L2.CX P w) k f fd ps (conSpX c)) : FnOk P w K mg base CX0 k f fd ps (conSp c.quiet) :=
  ⟨fun vs H Q EE h => F.len vs H Q E0 (quiet_sp h), fun A outer s H args us vs Q EE hr he hb hv hs => codeAny_mono (F.run A outer s H args us vs Q E0 hr he hb hv (quiet_sp hs)) fun r s' h => by
    cases r with
    | error e =>
      obtain ⟨_, _, _, _, _, _, _, _, _, _, _, _, zz⟩ := h
      exact zz.elim
    | ok fl => cases fl <;> exact h⟩
theorem KnR.quiet (F : KnR P w K mg base k x dvs c) : Kn P w K mg base k x dvs c.quiet :=
  let ⟨f, fd, ps, ds, hm, hk, hb, hd, F⟩ := F; ⟨f, fd, ps, ds, hm, hk, hb, hd, quiet_fn F⟩
theorem KnRK.quiet (F : KnRK P w K mg base k x n ks gV c) : KnK P w K mg base k x n ks gV c.quiet :=
  let ⟨f, fd, ps, g, hm, hk, hb, F⟩ := F; ⟨f, fd, ps, g, hm, hk, hb, quiet_fn F⟩
end
end MM

namespace MM
open PySem L2 PyProof.Rows
/-! ### the text by places -/
def top (i : Nat) : Stmt := PySem.Challenge.pw_meanmoon_k64_whole_great_wheels_meet.main.body.getD i (.Pass ⟨0, 0, 0, 0⟩)
abbrev s_NoDay_init : Stmt := inClass (top 4) 0
abbrev N_NoDay_init : List Str := ["self", "one", "two"]
theorem sc_NoDay_init : FnScope N_NoDay_init ["self", "one", "two"] (defScope s_NoDay_init) := ⟨rfl, rfl, rfl, by decide +kernel, rfl, by decide +kernel, by decide +kernel⟩
abbrev X_NoDay_init (P : Program) (w : World) (K : PySem.W.Frag) (mg : Str → Option Value) (base : Heap) (f : Addr) (cd : Value) (A : Around) (outer : List Env) (s : Shared) (H : Hp) (EE : XK) : Cx := xd P w K mg base N_NoDay_init "NoDay.__init__" (defScope s_NoDay_init) f cd A outer s H EE
section
variable {P : Program} {w : World} {K : PySem.W.Frag} {mg : Str → Option Value} {base : Heap} {f : Addr} {cd : Value} {A : Around} {outer : List Env} {s : Shared} {H : Hp} {EE : XK}
theorem r0_NoDay_init : Rd1 (X_NoDay_init P w K mg base f cd A outer s H EE) 0 "self" := ⟨rfl, by first | exact .inl rfl | exact .inr (.inl rfl), by decide, by decide⟩
theorem w0_NoDay_init : Wr1 (X_NoDay_init P w K mg base f cd A outer s H EE) 0 "self" := ⟨sc_NoDay_init.nd, rfl, by first | exact .inl rfl | exact .inr rfl, .inl rfl⟩
theorem r1_NoDay_init : Rd1 (X_NoDay_init P w K mg base f cd A outer s H EE) 1 "one" := ⟨rfl, by first | exact .inl rfl | exact .inr (.inl rfl), by decide, by decide⟩
theorem w1_NoDay_init : Wr1 (X_NoDay_init P w K mg base f cd A outer s H EE) 1 "one" := ⟨sc_NoDay_init.nd, rfl, by first | exact .inl rfl | exact .inr rfl, .inl rfl⟩
theorem r2_NoDay_init : Rd1 (X_NoDay_init P w K mg base f cd A outer s H EE) 2 "two" := ⟨rfl, by first | exact .inl rfl | exact .inr (.inl rfl), by decide, by decide⟩
theorem w2_NoDay_init : Wr1 (X_NoDay_init P w K mg base f cd A outer s H EE) 2 "two" := ⟨sc_NoDay_init.nd, rfl, by first | exact .inl rfl | exact .inr rfl, .inl rfl⟩
end
abbrev s_f_common : Stmt := top 6
abbrev N_f_common : List Str := ["one", "two"]
theorem sc_f_common : FnScope N_f_common ["one", "two"] (defScope s_f_common) := ⟨rfl, rfl, rfl, by decide +kernel, rfl, by decide +kernel, by decide +kernel⟩
abbrev X_f_common (P : Program) (w : World) (K : PySem.W.Frag) (mg : Str → Option Value) (base : Heap) (f : Addr) (cd : Value) (A : Around) (outer : List Env) (s : Shared) (H : Hp) (EE : XK) : Cx := xd P w K mg base N_f_common "common" (defScope s_f_common) f cd A outer s H EE
section
variable {P : Program} {w : World} {K : PySem.W.Frag} {mg : Str → Option Value} {base : Heap} {f : Addr} {cd : Value} {A : Around} {outer : List Env} {s : Shared} {H : Hp} {EE : XK}
theorem r0_f_common : Rd1 (X_f_common P w K mg base f cd A outer s H EE) 0 "one" := ⟨rfl, by first | exact .inl rfl | exact .inr (.inl rfl), by decide, by decide⟩
theorem w0_f_common : Wr1 (X_f_common P w K mg base f cd A outer s H EE) 0 "one" := ⟨sc_f_common.nd, rfl, by first | exact .inl rfl | exact .inr rfl, .inl rfl⟩
theorem r1_f_common : Rd1 (X_f_common P w K mg base f cd A outer s H EE) 1 "two" := ⟨rfl, by first | exact .inl rfl | exact .inr (.inl rfl), by decide, by decide⟩
theorem w1_f_common : Wr1 (X_f_common P w K mg base f cd A outer s H EE) 1 "two" := ⟨sc_f_common.nd, rfl, by first | exact .inl rfl | exact .inr rfl, .inl rfl⟩
theorem g_abs_f_common : Gl (X_f_common P w K mg base f cd A outer s H EE) "abs" := rfl
end
abbrev s_Wheel_init : Stmt := inClass (top 8) 0
abbrev N_Wheel_init : List Str := ["self", "names", "first"]
theorem sc_Wheel_init : FnScope N_Wheel_init ["self", "names", "first"] (defScope s_Wheel_init) := ⟨rfl, rfl, rfl, by decide +kernel, rfl, by decide +kernel, by decide +kernel⟩
abbrev X_Wheel_init (P : Program) (w : World) (K : PySem.W.Frag) (mg : Str → Option Value) (base : Heap) (f : Addr) (cd : Value) (A : Around) (outer : List Env) (s : Shared) (H : Hp) (EE : XK) : Cx := xd P w K mg base N_Wheel_init "Wheel.__init__" (defScope s_Wheel_init) f cd A outer s H EE
section
variable {P : Program} {w : World} {K : PySem.W.Frag} {mg : Str → Option Value} {base : Heap} {f : Addr} {cd : Value} {A : Around} {outer : List Env} {s : Shared} {H : Hp} {EE : XK}
theorem r0_Wheel_init : Rd1 (X_Wheel_init P w K mg base f cd A outer s H EE) 0 "self" := ⟨rfl, by first | exact .inl rfl | exact .inr (.inl rfl), by decide, by decide⟩
theorem w0_Wheel_init : Wr1 (X_Wheel_init P w K mg base f cd A outer s H EE) 0 "self" := ⟨sc_Wheel_init.nd, rfl, by first | exact .inl rfl | exact .inr rfl, .inl rfl⟩
theorem r1_Wheel_init : Rd1 (X_Wheel_init P w K mg base f cd A outer s H EE) 1 "names" := ⟨rfl, by first | exact .inl rfl | exact .inr (.inl rfl), by decide, by decide⟩
theorem w1_Wheel_init : Wr1 (X_Wheel_init P w K mg base f cd A outer s H EE) 1 "names" := ⟨sc_Wheel_init.nd, rfl, by first | exact .inl rfl | exact .inr rfl, .inl rfl⟩
theorem r2_Wheel_init : Rd1 (X_Wheel_init P w K mg base f cd A outer s H EE) 2 "first" := ⟨rfl, by first | exact .inl rfl | exact .inr (.inl rfl), by decide, by decide⟩
theorem w2_Wheel_init : Wr1 (X_Wheel_init P w K mg base f cd A outer s H EE) 2 "first" := ⟨sc_Wheel_init.nd, rfl, by first | exact .inl rfl | exact .inr rfl, .inl rfl⟩
theorem g_len_Wheel_init : Gl (X_Wheel_init P w K mg base f cd A outer s H EE) "len" := rfl
theorem g_set_Wheel_init : Gl (X_Wheel_init P w K mg base f cd A outer s H EE) "set" := rfl
theorem g_NoWheel_Wheel_init : Gl (X_Wheel_init P w K mg base f cd A outer s H EE) "NoWheel" := rfl
theorem g_list_Wheel_init : Gl (X_Wheel_init P w K mg base f cd A outer s H EE) "list" := rfl
theorem g_tuple_Wheel_init : Gl (X_Wheel_init P w K mg base f cd A outer s H EE) "tuple" := rfl
end
abbrev s_Wheel_len : Stmt := inClass (top 8) 1
abbrev N_Wheel_len : List Str := ["self"]
theorem sc_Wheel_len : FnScope N_Wheel_len ["self"] (defScope s_Wheel_len) := ⟨rfl, rfl, rfl, by decide +kernel, rfl, by decide +kernel, by decide +kernel⟩
abbrev X_Wheel_len (P : Program) (w : World) (K : PySem.W.Frag) (mg : Str → Option Value) (base : Heap) (f : Addr) (cd : Value) (A : Around) (outer : List Env) (s : Shared) (H : Hp) (EE : XK) : Cx := xd P w K mg base N_Wheel_len "Wheel.__len__" (defScope s_Wheel_len) f cd A outer s H EE
section
variable {P : Program} {w : World} {K : PySem.W.Frag} {mg : Str → Option Value} {base : Heap} {f : Addr} {cd : Value} {A : Around} {outer : List Env} {s : Shared} {H : Hp} {EE : XK}
theorem r0_Wheel_len : Rd1 (X_Wheel_len P w K mg base f cd A outer s H EE) 0 "self" := ⟨rfl, by first | exact .inl rfl | exact .inr (.inl rfl), by decide, by decide⟩
theorem w0_Wheel_len : Wr1 (X_Wheel_len P w K mg base f cd A outer s H EE) 0 "self" := ⟨sc_Wheel_len.nd, rfl, by first | exact .inl rfl | exact .inr rfl, .inl rfl⟩
theorem g_len_Wheel_len : Gl (X_Wheel_len P w K mg base f cd A outer s H EE) "len" := rfl
end
abbrev s_Wheel_name_on : Stmt := inClass (top 8) 5
abbrev N_Wheel_name_on : List Str := ["self", "day"]
theorem sc_Wheel_name_on : FnScope N_Wheel_name_on ["self", "day"] (defScope s_Wheel_name_on) := ⟨rfl, rfl, rfl, by decide +kernel, rfl, by decide +kernel, by decide +kernel⟩
abbrev X_Wheel_name_on (P : Program) (w : World) (K : PySem.W.Frag) (mg : Str → Option Value) (base : Heap) (f : Addr) (cd : Value) (A : Around) (outer : List Env) (s : Shared) (H : Hp) (EE : XK) : Cx := xd P w K mg base N_Wheel_name_on "Wheel.name_on" (defScope s_Wheel_name_on) f cd A outer s H EE
section
variable {P : Program} {w : World} {K : PySem.W.Frag} {mg : Str → Option Value} {base : Heap} {f : Addr} {cd : Value} {A : Around} {outer : List Env} {s : Shared} {H : Hp} {EE : XK}
theorem r0_Wheel_name_on : Rd1 (X_Wheel_name_on P w K mg base f cd A outer s H EE) 0 "self" := ⟨rfl, by first | exact .inl rfl | exact .inr (.inl rfl), by decide, by decide⟩
theorem w0_Wheel_name_on : Wr1 (X_Wheel_name_on P w K mg base f cd A outer s H EE) 0 "self" := ⟨sc_Wheel_name_on.nd, rfl, by first | exact .inl rfl | exact .inr rfl, .inl rfl⟩
theorem r1_Wheel_name_on : Rd1 (X_Wheel_name_on P w K mg base f cd A outer s H EE) 1 "day" := ⟨rfl, by first | exact .inl rfl | exact .inr (.inl rfl), by decide, by decide⟩
theorem w1_Wheel_name_on : Wr1 (X_Wheel_name_on P w K mg base f cd A outer s H EE) 1 "day" := ⟨sc_Wheel_name_on.nd, rfl, by first | exact .inl rfl | exact .inr rfl, .inl rfl⟩
theorem g_len_Wheel_name_on : Gl (X_Wheel_name_on P w K mg base f cd A outer s H EE) "len" := rfl
end
abbrev s_f_rest_of : Stmt := top 10
abbrev N_f_rest_of : List Str := ["wheel", "name", "places", "place", "e", "one"]
theorem sc_f_rest_of : FnScope N_f_rest_of ["wheel", "name"] (defScope s_f_rest_of) := ⟨rfl, rfl, rfl, by decide +kernel, rfl, by decide +kernel, by decide +kernel⟩
abbrev X_f_rest_of (P : Program) (w : World) (K : PySem.W.Frag) (mg : Str → Option Value) (base : Heap) (f : Addr) (cd : Value) (A : Around) (outer : List Env) (s : Shared) (H : Hp) (EE : XK) : Cx := xd P w K mg base N_f_rest_of "rest_of" (defScope s_f_rest_of) f cd A outer s H EE
section
variable {P : Program} {w : World} {K : PySem.W.Frag} {mg : Str → Option Value} {base : Heap} {f : Addr} {cd : Value} {A : Around} {outer : List Env} {s : Shared} {H : Hp} {EE : XK}
theorem r0_f_rest_of : Rd1 (X_f_rest_of P w K mg base f cd A outer s H EE) 0 "wheel" := ⟨rfl, by first | exact .inl rfl | exact .inr (.inl rfl), by decide, by decide⟩
theorem w0_f_rest_of : Wr1 (X_f_rest_of P w K mg base f cd A outer s H EE) 0 "wheel" := ⟨sc_f_rest_of.nd, rfl, by first | exact .inl rfl | exact .inr rfl, .inl rfl⟩
theorem r1_f_rest_of : Rd1 (X_f_rest_of P w K mg base f cd A outer s H EE) 1 "name" := ⟨rfl, by first | exact .inl rfl | exact .inr (.inl rfl), by decide, by decide⟩
theorem w1_f_rest_of : Wr1 (X_f_rest_of P w K mg base f cd A outer s H EE) 1 "name" := ⟨sc_f_rest_of.nd, rfl, by first | exact .inl rfl | exact .inr rfl, .inl rfl⟩
theorem r2_f_rest_of : Rd1 (X_f_rest_of P w K mg base f cd A outer s H EE) 2 "places" := ⟨rfl, by first | exact .inl rfl | exact .inr (.inl rfl), by decide, by decide⟩
theorem w2_f_rest_of : Wr1 (X_f_rest_of P w K mg base f cd A outer s H EE) 2 "places" := ⟨sc_f_rest_of.nd, rfl, by first | exact .inl rfl | exact .inr rfl, .inl rfl⟩
theorem r3_f_rest_of : Rd1 (X_f_rest_of P w K mg base f cd A outer s H EE) 3 "place" := ⟨rfl, by first | exact .inl rfl | exact .inr (.inl rfl), by decide, by decide⟩
theorem w3_f_rest_of : Wr1 (X_f_rest_of P w K mg base f cd A outer s H EE) 3 "place" := ⟨sc_f_rest_of.nd, rfl, by first | exact .inl rfl | exact .inr rfl, .inl rfl⟩
theorem r4_f_rest_of : Rd1 (X_f_rest_of P w K mg base f cd A outer s H EE) 4 "e" := ⟨rfl, by first | exact .inl rfl | exact .inr (.inl rfl), by decide, by decide⟩
theorem w4_f_rest_of : Wr1 (X_f_rest_of P w K mg base f cd A outer s H EE) 4 "e" := ⟨sc_f_rest_of.nd, rfl, by first | exact .inl rfl | exact .inr rfl, .inl rfl⟩
theorem g_dict_f_rest_of : Gl (X_f_rest_of P w K mg base f cd A outer s H EE) "dict" := rfl
theorem g_enumerate_f_rest_of : Gl (X_f_rest_of P w K mg base f cd A outer s H EE) "enumerate" := rfl
theorem g_KeyError_f_rest_of : Gl (X_f_rest_of P w K mg base f cd A outer s H EE) "KeyError" := rfl
theorem g_NoName_f_rest_of : Gl (X_f_rest_of P w K mg base f cd A outer s H EE) "NoName" := rfl
end
abbrev s_f_meet : Stmt := top 11
abbrev N_f_meet : List Str := ["wheels", "wants", "after", "rests", "sizes", "one", "two", "day", "step", "rest", "size", "wheel", "want"]
theorem sc_f_meet : FnScope N_f_meet ["wheels", "wants", "after"] (defScope s_f_meet) := ⟨rfl, rfl, rfl, by decide +kernel, rfl, by decide +kernel, by decide +kernel⟩
abbrev X_f_meet (P : Program) (w : World) (K : PySem.W.Frag) (mg : Str → Option Value) (base : Heap) (f : Addr) (cd : Value) (A : Around) (outer : List Env) (s : Shared) (H : Hp) (EE : XK) : Cx := xX P w K mg base N_f_meet "meet" (defScope s_f_meet) f cd A outer s H EE
section
variable {P : Program} {w : World} {K : PySem.W.Frag} {mg : Str → Option Value} {base : Heap} {f : Addr} {cd : Value} {A : Around} {outer : List Env} {s : Shared} {H : Hp} {EE : XK}
theorem r0_f_meet : Rd1 (X_f_meet P w K mg base f cd A outer s H EE) 0 "wheels" := ⟨rfl, by first | exact .inl rfl | exact .inr (.inl rfl), by decide, by decide⟩
theorem w0_f_meet : Wr1 (X_f_meet P w K mg base f cd A outer s H EE) 0 "wheels" := ⟨sc_f_meet.nd, rfl, by first | exact .inl rfl | exact .inr rfl, .inl rfl⟩
theorem r1_f_meet : Rd1 (X_f_meet P w K mg base f cd A outer s H EE) 1 "wants" := ⟨rfl, by first | exact .inl rfl | exact .inr (.inl rfl), by decide, by decide⟩
theorem w1_f_meet : Wr1 (X_f_meet P w K mg base f cd A outer s H EE) 1 "wants" := ⟨sc_f_meet.nd, rfl, by first | exact .inl rfl | exact .inr rfl, .inl rfl⟩
theorem r2_f_meet : Rd1 (X_f_meet P w K mg base f cd A outer s H EE) 2 "after" := ⟨rfl, by first | exact .inl rfl | exact .inr (.inl rfl), by decide, by decide⟩
theorem w2_f_meet : Wr1 (X_f_meet P w K mg base f cd A outer s H EE) 2 "after" := ⟨sc_f_meet.nd, rfl, by first | exact .inl rfl | exact .inr rfl, .inl rfl⟩
theorem r3_f_meet : Rd1 (X_f_meet P w K mg base f cd A outer s H EE) 3 "rests" := ⟨rfl, by first | exact .inl rfl | exact .inr (.inl rfl), by decide, by decide⟩
theorem w3_f_meet : Wr1 (X_f_meet P w K mg base f cd A outer s H EE) 3 "rests" := ⟨sc_f_meet.nd, rfl, by first | exact .inl rfl | exact .inr rfl, .inl rfl⟩
theorem r4_f_meet : Rd1 (X_f_meet P w K mg base f cd A outer s H EE) 4 "sizes" := ⟨rfl, by first | exact .inl rfl | exact .inr (.inl rfl), by decide, by decide⟩
theorem w4_f_meet : Wr1 (X_f_meet P w K mg base f cd A outer s H EE) 4 "sizes" := ⟨sc_f_meet.nd, rfl, by first | exact .inl rfl | exact .inr rfl, .inl rfl⟩
theorem r5_f_meet : Rd1 (X_f_meet P w K mg base f cd A outer s H EE) 5 "one" := ⟨rfl, by first | exact .inl rfl | exact .inr (.inl rfl), by decide, by decide⟩
theorem w5_f_meet : Wr1 (X_f_meet P w K mg base f cd A outer s H EE) 5 "one" := ⟨sc_f_meet.nd, rfl, by first | exact .inl rfl | exact .inr rfl, .inl rfl⟩
theorem r6_f_meet : Rd1 (X_f_meet P w K mg base f cd A outer s H EE) 6 "two" := ⟨rfl, by first | exact .inl rfl | exact .inr (.inl rfl), by decide, by decide⟩
theorem w6_f_meet : Wr1 (X_f_meet P w K mg base f cd A outer s H EE) 6 "two" := ⟨sc_f_meet.nd, rfl, by first | exact .inl rfl | exact .inr rfl, .inl rfl⟩
theorem r7_f_meet : Rd1 (X_f_meet P w K mg base f cd A outer s H EE) 7 "day" := ⟨rfl, by first | exact .inl rfl | exact .inr (.inl rfl), by decide, by decide⟩
theorem w7_f_meet : Wr1 (X_f_meet P w K mg base f cd A outer s H EE) 7 "day" := ⟨sc_f_meet.nd, rfl, by first | exact .inl rfl | exact .inr rfl, .inl rfl⟩
theorem r8_f_meet : Rd1 (X_f_meet P w K mg base f cd A outer s H EE) 8 "step" := ⟨rfl, by first | exact .inl rfl | exact .inr (.inl rfl), by decide, by decide⟩
theorem w8_f_meet : Wr1 (X_f_meet P w K mg base f cd A outer s H EE) 8 "step" := ⟨sc_f_meet.nd, rfl, by first | exact .inl rfl | exact .inr rfl, .inl rfl⟩
theorem r9_f_meet : Rd1 (X_f_meet P w K mg base f cd A outer s H EE) 9 "rest" := ⟨rfl, by first | exact .inl rfl | exact .inr (.inl rfl), by decide, by decide⟩
theorem w9_f_meet : Wr1 (X_f_meet P w K mg base f cd A outer s H EE) 9 "rest" := ⟨sc_f_meet.nd, rfl, by first | exact .inl rfl | exact .inr rfl, .inl rfl⟩
theorem r10_f_meet : Rd1 (X_f_meet P w K mg base f cd A outer s H EE) 10 "size" := ⟨rfl, by first | exact .inl rfl | exact .inr (.inl rfl), by decide, by decide⟩
theorem w10_f_meet : Wr1 (X_f_meet P w K mg base f cd A outer s H EE) 10 "size" := ⟨sc_f_meet.nd, rfl, by first | exact .inl rfl | exact .inr rfl, .inl rfl⟩
theorem g_zip_f_meet : Gl (X_f_meet P w K mg base f cd A outer s H EE) "zip" := rfl
theorem g_range_f_meet : Gl (X_f_meet P w K mg base f cd A outer s H EE) "range" := rfl
theorem g_len_f_meet : Gl (X_f_meet P w K mg base f cd A outer s H EE) "len" := rfl
theorem g_common_f_meet : Gl (X_f_meet P w K mg base f cd A outer s H EE) "common" := rfl
theorem g_NoDay_f_meet : Gl (X_f_meet P w K mg base f cd A outer s H EE) "NoDay" := rfl
end
abbrev s_f_meet_round : Stmt := top 12
abbrev N_f_meet_round : List Str := ["wheels", "days", "wheel"]
theorem sc_f_meet_round : FnScope N_f_meet_round ["wheels"] (defScope s_f_meet_round) := ⟨rfl, rfl, rfl, by decide +kernel, rfl, by decide +kernel, by decide +kernel⟩
abbrev X_f_meet_round (P : Program) (w : World) (K : PySem.W.Frag) (mg : Str → Option Value) (base : Heap) (f : Addr) (cd : Value) (A : Around) (outer : List Env) (s : Shared) (H : Hp) (EE : XK) : Cx := xd P w K mg base N_f_meet_round "meet_round" (defScope s_f_meet_round) f cd A outer s H EE
section
variable {P : Program} {w : World} {K : PySem.W.Frag} {mg : Str → Option Value} {base : Heap} {f : Addr} {cd : Value} {A : Around} {outer : List Env} {s : Shared} {H : Hp} {EE : XK}
theorem r0_f_meet_round : Rd1 (X_f_meet_round P w K mg base f cd A outer s H EE) 0 "wheels" := ⟨rfl, by first | exact .inl rfl | exact .inr (.inl rfl), by decide, by decide⟩
theorem w0_f_meet_round : Wr1 (X_f_meet_round P w K mg base f cd A outer s H EE) 0 "wheels" := ⟨sc_f_meet_round.nd, rfl, by first | exact .inl rfl | exact .inr rfl, .inl rfl⟩
theorem r1_f_meet_round : Rd1 (X_f_meet_round P w K mg base f cd A outer s H EE) 1 "days" := ⟨rfl, by first | exact .inl rfl | exact .inr (.inl rfl), by decide, by decide⟩
theorem w1_f_meet_round : Wr1 (X_f_meet_round P w K mg base f cd A outer s H EE) 1 "days" := ⟨sc_f_meet_round.nd, rfl, by first | exact .inl rfl | exact .inr rfl, .inl rfl⟩
theorem r2_f_meet_round : Rd1 (X_f_meet_round P w K mg base f cd A outer s H EE) 2 "wheel" := ⟨rfl, by first | exact .inl rfl | exact .inr (.inl rfl), by decide, by decide⟩
theorem w2_f_meet_round : Wr1 (X_f_meet_round P w K mg base f cd A outer s H EE) 2 "wheel" := ⟨sc_f_meet_round.nd, rfl, by first | exact .inl rfl | exact .inr rfl, .inl rfl⟩
theorem g_len_f_meet_round : Gl (X_f_meet_round P w K mg base f cd A outer s H EE) "len" := rfl
theorem g_common_f_meet_round : Gl (X_f_meet_round P w K mg base f cd A outer s H EE) "common" := rfl
end
abbrev s_f_L_draws : Stmt := top 14
abbrev N_f_L_draws : List Str := ["_law_cell", "_law_cut", "_law_k"]
theorem sc_f_L_draws : FnScope N_f_L_draws ["_law_cell"] (defScope s_f_L_draws) := ⟨rfl, rfl, rfl, by decide +kernel, rfl, by decide +kernel, by decide +kernel⟩
abbrev X_f_L_draws (P : Program) (w : World) (K : PySem.W.Frag) (mg : Str → Option Value) (base : Heap) (f : Addr) (cd : Value) (A : Around) (outer : List Env) (s : Shared) (H : Hp) (EE : XK) : Cx := xd P w K mg base N_f_L_draws "_law_draws" (defScope s_f_L_draws) f cd A outer s H EE
section
variable {P : Program} {w : World} {K : PySem.W.Frag} {mg : Str → Option Value} {base : Heap} {f : Addr} {cd : Value} {A : Around} {outer : List Env} {s : Shared} {H : Hp} {EE : XK}
theorem r0_f_L_draws : Rd1 (X_f_L_draws P w K mg base f cd A outer s H EE) 0 "_law_cell" := ⟨rfl, by first | exact .inl rfl | exact .inr (.inl rfl), by decide, by decide⟩
theorem w0_f_L_draws : Wr1 (X_f_L_draws P w K mg base f cd A outer s H EE) 0 "_law_cell" := ⟨sc_f_L_draws.nd, rfl, by first | exact .inl rfl | exact .inr rfl, .inl rfl⟩
theorem r1_f_L_draws : Rd1 (X_f_L_draws P w K mg base f cd A outer s H EE) 1 "_law_cut" := ⟨rfl, by first | exact .inl rfl | exact .inr (.inl rfl), by decide, by decide⟩
theorem w1_f_L_draws : Wr1 (X_f_L_draws P w K mg base f cd A outer s H EE) 1 "_law_cut" := ⟨sc_f_L_draws.nd, rfl, by first | exact .inl rfl | exact .inr rfl, .inl rfl⟩
theorem r2_f_L_draws : Rd1 (X_f_L_draws P w K mg base f cd A outer s H EE) 2 "_law_k" := ⟨rfl, by first | exact .inl rfl | exact .inr (.inl rfl), by decide, by decide⟩
theorem w2_f_L_draws : Wr1 (X_f_L_draws P w K mg base f cd A outer s H EE) 2 "_law_k" := ⟨sc_f_L_draws.nd, rfl, by first | exact .inl rfl | exact .inr rfl, .inl rfl⟩
theorem g_range_f_L_draws : Gl (X_f_L_draws P w K mg base f cd A outer s H EE) "range" := rfl
end
abbrev s_f_L_next : Stmt := top 15
abbrev N_f_L_next : List Str := ["_law_draws_here", "_law_k", "_law_number"]
theorem sc_f_L_next : FnScope N_f_L_next ["_law_draws_here"] (defScope s_f_L_next) := ⟨rfl, rfl, rfl, by decide +kernel, rfl, by decide +kernel, by decide +kernel⟩
abbrev X_f_L_next (P : Program) (w : World) (K : PySem.W.Frag) (mg : Str → Option Value) (base : Heap) (f : Addr) (cd : Value) (A : Around) (outer : List Env) (s : Shared) (H : Hp) (EE : XK) : Cx := xd P w K mg base N_f_L_next "_law_next" (defScope s_f_L_next) f cd A outer s H EE
section
variable {P : Program} {w : World} {K : PySem.W.Frag} {mg : Str → Option Value} {base : Heap} {f : Addr} {cd : Value} {A : Around} {outer : List Env} {s : Shared} {H : Hp} {EE : XK}
theorem r0_f_L_next : Rd1 (X_f_L_next P w K mg base f cd A outer s H EE) 0 "_law_draws_here" := ⟨rfl, by first | exact .inl rfl | exact .inr (.inl rfl), by decide, by decide⟩
theorem w0_f_L_next : Wr1 (X_f_L_next P w K mg base f cd A outer s H EE) 0 "_law_draws_here" := ⟨sc_f_L_next.nd, rfl, by first | exact .inl rfl | exact .inr rfl, .inl rfl⟩
theorem r1_f_L_next : Rd1 (X_f_L_next P w K mg base f cd A outer s H EE) 1 "_law_k" := ⟨rfl, by first | exact .inl rfl | exact .inr (.inl rfl), by decide, by decide⟩
theorem w1_f_L_next : Wr1 (X_f_L_next P w K mg base f cd A outer s H EE) 1 "_law_k" := ⟨sc_f_L_next.nd, rfl, by first | exact .inl rfl | exact .inr rfl, .inl rfl⟩
theorem r2_f_L_next : Rd1 (X_f_L_next P w K mg base f cd A outer s H EE) 2 "_law_number" := ⟨rfl, by first | exact .inl rfl | exact .inr (.inl rfl), by decide, by decide⟩
theorem w2_f_L_next : Wr1 (X_f_L_next P w K mg base f cd A outer s H EE) 2 "_law_number" := ⟨sc_f_L_next.nd, rfl, by first | exact .inl rfl | exact .inr rfl, .inl rfl⟩
end
abbrev s_f_L_far : Stmt := top 16
abbrev N_f_L_far : List Str := ["_law_draws_here", "_law_pick"]
theorem sc_f_L_far : FnScope N_f_L_far ["_law_draws_here"] (defScope s_f_L_far) := ⟨rfl, rfl, rfl, by decide +kernel, rfl, by decide +kernel, by decide +kernel⟩
abbrev X_f_L_far (P : Program) (w : World) (K : PySem.W.Frag) (mg : Str → Option Value) (base : Heap) (f : Addr) (cd : Value) (A : Around) (outer : List Env) (s : Shared) (H : Hp) (EE : XK) : Cx := xd P w K mg base N_f_L_far "_law_far" (defScope s_f_L_far) f cd A outer s H EE
section
variable {P : Program} {w : World} {K : PySem.W.Frag} {mg : Str → Option Value} {base : Heap} {f : Addr} {cd : Value} {A : Around} {outer : List Env} {s : Shared} {H : Hp} {EE : XK}
theorem r0_f_L_far : Rd1 (X_f_L_far P w K mg base f cd A outer s H EE) 0 "_law_draws_here" := ⟨rfl, by first | exact .inl rfl | exact .inr (.inl rfl), by decide, by decide⟩
theorem w0_f_L_far : Wr1 (X_f_L_far P w K mg base f cd A outer s H EE) 0 "_law_draws_here" := ⟨sc_f_L_far.nd, rfl, by first | exact .inl rfl | exact .inr rfl, .inl rfl⟩
theorem r1_f_L_far : Rd1 (X_f_L_far P w K mg base f cd A outer s H EE) 1 "_law_pick" := ⟨rfl, by first | exact .inl rfl | exact .inr (.inl rfl), by decide, by decide⟩
theorem w1_f_L_far : Wr1 (X_f_L_far P w K mg base f cd A outer s H EE) 1 "_law_pick" := ⟨sc_f_L_far.nd, rfl, by first | exact .inl rfl | exact .inr rfl, .inl rfl⟩
theorem g__law_next_f_L_far : Gl (X_f_L_far P w K mg base f cd A outer s H EE) "_law_next" := rfl
end
abbrev s_f_L_day : Stmt := top 17
abbrev N_f_L_day : List Str := ["_law_draws_here", "_law_pick", "_law_some"]
theorem sc_f_L_day : FnScope N_f_L_day ["_law_draws_here"] (defScope s_f_L_day) := ⟨rfl, rfl, rfl, by decide +kernel, rfl, by decide +kernel, by decide +kernel⟩
abbrev X_f_L_day (P : Program) (w : World) (K : PySem.W.Frag) (mg : Str → Option Value) (base : Heap) (f : Addr) (cd : Value) (A : Around) (outer : List Env) (s : Shared) (H : Hp) (EE : XK) : Cx := xd P w K mg base N_f_L_day "_law_day" (defScope s_f_L_day) f cd A outer s H EE
section
variable {P : Program} {w : World} {K : PySem.W.Frag} {mg : Str → Option Value} {base : Heap} {f : Addr} {cd : Value} {A : Around} {outer : List Env} {s : Shared} {H : Hp} {EE : XK}
theorem r0_f_L_day : Rd1 (X_f_L_day P w K mg base f cd A outer s H EE) 0 "_law_draws_here" := ⟨rfl, by first | exact .inl rfl | exact .inr (.inl rfl), by decide, by decide⟩
theorem w0_f_L_day : Wr1 (X_f_L_day P w K mg base f cd A outer s H EE) 0 "_law_draws_here" := ⟨sc_f_L_day.nd, rfl, by first | exact .inl rfl | exact .inr rfl, .inl rfl⟩
theorem r1_f_L_day : Rd1 (X_f_L_day P w K mg base f cd A outer s H EE) 1 "_law_pick" := ⟨rfl, by first | exact .inl rfl | exact .inr (.inl rfl), by decide, by decide⟩
theorem w1_f_L_day : Wr1 (X_f_L_day P w K mg base f cd A outer s H EE) 1 "_law_pick" := ⟨sc_f_L_day.nd, rfl, by first | exact .inl rfl | exact .inr rfl, .inl rfl⟩
theorem r2_f_L_day : Rd1 (X_f_L_day P w K mg base f cd A outer s H EE) 2 "_law_some" := ⟨rfl, by first | exact .inl rfl | exact .inr (.inl rfl), by decide, by decide⟩
theorem w2_f_L_day : Wr1 (X_f_L_day P w K mg base f cd A outer s H EE) 2 "_law_some" := ⟨sc_f_L_day.nd, rfl, by first | exact .inl rfl | exact .inr rfl, .inl rfl⟩
theorem g__law_next_f_L_day : Gl (X_f_L_day P w K mg base f cd A outer s H EE) "_law_next" := rfl
end
abbrev s_f_L_common : Stmt := top 18
abbrev N_f_L_common : List Str := ["_law_one", "_law_two"]
theorem sc_f_L_common : FnScope N_f_L_common ["_law_one", "_law_two"] (defScope s_f_L_common) := ⟨rfl, rfl, rfl, by decide +kernel, rfl, by decide +kernel, by decide +kernel⟩
abbrev X_f_L_common (P : Program) (w : World) (K : PySem.W.Frag) (mg : Str → Option Value) (base : Heap) (f : Addr) (cd : Value) (A : Around) (outer : List Env) (s : Shared) (H : Hp) (EE : XK) : Cx := xd P w K mg base N_f_L_common "_law_common" (defScope s_f_L_common) f cd A outer s H EE
section
variable {P : Program} {w : World} {K : PySem.W.Frag} {mg : Str → Option Value} {base : Heap} {f : Addr} {cd : Value} {A : Around} {outer : List Env} {s : Shared} {H : Hp} {EE : XK}
theorem r0_f_L_common : Rd1 (X_f_L_common P w K mg base f cd A outer s H EE) 0 "_law_one" := ⟨rfl, by first | exact .inl rfl | exact .inr (.inl rfl), by decide, by decide⟩
theorem w0_f_L_common : Wr1 (X_f_L_common P w K mg base f cd A outer s H EE) 0 "_law_one" := ⟨sc_f_L_common.nd, rfl, by first | exact .inl rfl | exact .inr rfl, .inl rfl⟩
theorem r1_f_L_common : Rd1 (X_f_L_common P w K mg base f cd A outer s H EE) 1 "_law_two" := ⟨rfl, by first | exact .inl rfl | exact .inr (.inl rfl), by decide, by decide⟩
theorem w1_f_L_common : Wr1 (X_f_L_common P w K mg base f cd A outer s H EE) 1 "_law_two" := ⟨sc_f_L_common.nd, rfl, by first | exact .inl rfl | exact .inr rfl, .inl rfl⟩
end
abbrev s_f_L_never : Stmt := top 19
abbrev N_f_L_never : List Str := ["_law_wheels", "_law_rests", "_law_one", "_law_two", "_law_by"]
theorem sc_f_L_never : FnScope N_f_L_never ["_law_wheels", "_law_rests"] (defScope s_f_L_never) := ⟨rfl, rfl, rfl, by decide +kernel, rfl, by decide +kernel, by decide +kernel⟩
abbrev X_f_L_never (P : Program) (w : World) (K : PySem.W.Frag) (mg : Str → Option Value) (base : Heap) (f : Addr) (cd : Value) (A : Around) (outer : List Env) (s : Shared) (H : Hp) (EE : XK) : Cx := xd P w K mg base N_f_L_never "_law_never" (defScope s_f_L_never) f cd A outer s H EE
section
variable {P : Program} {w : World} {K : PySem.W.Frag} {mg : Str → Option Value} {base : Heap} {f : Addr} {cd : Value} {A : Around} {outer : List Env} {s : Shared} {H : Hp} {EE : XK}
theorem r0_f_L_never : Rd1 (X_f_L_never P w K mg base f cd A outer s H EE) 0 "_law_wheels" := ⟨rfl, by first | exact .inl rfl | exact .inr (.inl rfl), by decide, by decide⟩
theorem w0_f_L_never : Wr1 (X_f_L_never P w K mg base f cd A outer s H EE) 0 "_law_wheels" := ⟨sc_f_L_never.nd, rfl, by first | exact .inl rfl | exact .inr rfl, .inl rfl⟩
theorem r1_f_L_never : Rd1 (X_f_L_never P w K mg base f cd A outer s H EE) 1 "_law_rests" := ⟨rfl, by first | exact .inl rfl | exact .inr (.inl rfl), by decide, by decide⟩
theorem w1_f_L_never : Wr1 (X_f_L_never P w K mg base f cd A outer s H EE) 1 "_law_rests" := ⟨sc_f_L_never.nd, rfl, by first | exact .inl rfl | exact .inr rfl, .inl rfl⟩
theorem r2_f_L_never : Rd1 (X_f_L_never P w K mg base f cd A outer s H EE) 2 "_law_one" := ⟨rfl, by first | exact .inl rfl | exact .inr (.inl rfl), by decide, by decide⟩
theorem w2_f_L_never : Wr1 (X_f_L_never P w K mg base f cd A outer s H EE) 2 "_law_one" := ⟨sc_f_L_never.nd, rfl, by first | exact .inl rfl | exact .inr rfl, .inl rfl⟩
theorem r3_f_L_never : Rd1 (X_f_L_never P w K mg base f cd A outer s H EE) 3 "_law_two" := ⟨rfl, by first | exact .inl rfl | exact .inr (.inl rfl), by decide, by decide⟩
theorem w3_f_L_never : Wr1 (X_f_L_never P w K mg base f cd A outer s H EE) 3 "_law_two" := ⟨sc_f_L_never.nd, rfl, by first | exact .inl rfl | exact .inr rfl, .inl rfl⟩
theorem r4_f_L_never : Rd1 (X_f_L_never P w K mg base f cd A outer s H EE) 4 "_law_by" := ⟨rfl, by first | exact .inl rfl | exact .inr (.inl rfl), by decide, by decide⟩
theorem w4_f_L_never : Wr1 (X_f_L_never P w K mg base f cd A outer s H EE) 4 "_law_by" := ⟨sc_f_L_never.nd, rfl, by first | exact .inl rfl | exact .inr rfl, .inl rfl⟩
theorem g_range_f_L_never : Gl (X_f_L_never P w K mg base f cd A outer s H EE) "range" := rfl
theorem g_len_f_L_never : Gl (X_f_L_never P w K mg base f cd A outer s H EE) "len" := rfl
theorem g__law_common_f_L_never : Gl (X_f_L_never P w K mg base f cd A outer s H EE) "_law_common" := rfl
end
abbrev s_f_L_met : Stmt := top 20
abbrev N_f_L_met : List Str := ["_law_wheels", "_law_wants", "_law_day_here", "_law_wheel"]
theorem sc_f_L_met : FnScope N_f_L_met ["_law_wheels", "_law_wants", "_law_day_here"] (defScope s_f_L_met) := ⟨rfl, rfl, rfl, by decide +kernel, rfl, by decide +kernel, by decide +kernel⟩
abbrev X_f_L_met (P : Program) (w : World) (K : PySem.W.Frag) (mg : Str → Option Value) (base : Heap) (f : Addr) (cd : Value) (A : Around) (outer : List Env) (s : Shared) (H : Hp) (EE : XK) : Cx := xd P w K mg base N_f_L_met "_law_met" (defScope s_f_L_met) f cd A outer s H EE
section
variable {P : Program} {w : World} {K : PySem.W.Frag} {mg : Str → Option Value} {base : Heap} {f : Addr} {cd : Value} {A : Around} {outer : List Env} {s : Shared} {H : Hp} {EE : XK}
theorem r0_f_L_met : Rd1 (X_f_L_met P w K mg base f cd A outer s H EE) 0 "_law_wheels" := ⟨rfl, by first | exact .inl rfl | exact .inr (.inl rfl), by decide, by decide⟩
theorem w0_f_L_met : Wr1 (X_f_L_met P w K mg base f cd A outer s H EE) 0 "_law_wheels" := ⟨sc_f_L_met.nd, rfl, by first | exact .inl rfl | exact .inr rfl, .inl rfl⟩
theorem r1_f_L_met : Rd1 (X_f_L_met P w K mg base f cd A outer s H EE) 1 "_law_wants" := ⟨rfl, by first | exact .inl rfl | exact .inr (.inl rfl), by decide, by decide⟩
theorem w1_f_L_met : Wr1 (X_f_L_met P w K mg base f cd A outer s H EE) 1 "_law_wants" := ⟨sc_f_L_met.nd, rfl, by first | exact .inl rfl | exact .inr rfl, .inl rfl⟩
theorem r2_f_L_met : Rd1 (X_f_L_met P w K mg base f cd A outer s H EE) 2 "_law_day_here" := ⟨rfl, by first | exact .inl rfl | exact .inr (.inl rfl), by decide, by decide⟩
theorem w2_f_L_met : Wr1 (X_f_L_met P w K mg base f cd A outer s H EE) 2 "_law_day_here" := ⟨sc_f_L_met.nd, rfl, by first | exact .inl rfl | exact .inr rfl, .inl rfl⟩
end
abbrev s_f_L_again : Stmt := top 21
abbrev N_f_L_again : List Str := ["_law_wheels", "_law_days", "_law_wheel"]
theorem sc_f_L_again : FnScope N_f_L_again ["_law_wheels", "_law_days"] (defScope s_f_L_again) := ⟨rfl, rfl, rfl, by decide +kernel, rfl, by decide +kernel, by decide +kernel⟩
abbrev X_f_L_again (P : Program) (w : World) (K : PySem.W.Frag) (mg : Str → Option Value) (base : Heap) (f : Addr) (cd : Value) (A : Around) (outer : List Env) (s : Shared) (H : Hp) (EE : XK) : Cx := xd P w K mg base N_f_L_again "_law_again" (defScope s_f_L_again) f cd A outer s H EE
section
variable {P : Program} {w : World} {K : PySem.W.Frag} {mg : Str → Option Value} {base : Heap} {f : Addr} {cd : Value} {A : Around} {outer : List Env} {s : Shared} {H : Hp} {EE : XK}
theorem r0_f_L_again : Rd1 (X_f_L_again P w K mg base f cd A outer s H EE) 0 "_law_wheels" := ⟨rfl, by first | exact .inl rfl | exact .inr (.inl rfl), by decide, by decide⟩
theorem w0_f_L_again : Wr1 (X_f_L_again P w K mg base f cd A outer s H EE) 0 "_law_wheels" := ⟨sc_f_L_again.nd, rfl, by first | exact .inl rfl | exact .inr rfl, .inl rfl⟩
theorem r1_f_L_again : Rd1 (X_f_L_again P w K mg base f cd A outer s H EE) 1 "_law_days" := ⟨rfl, by first | exact .inl rfl | exact .inr (.inl rfl), by decide, by decide⟩
theorem w1_f_L_again : Wr1 (X_f_L_again P w K mg base f cd A outer s H EE) 1 "_law_days" := ⟨sc_f_L_again.nd, rfl, by first | exact .inl rfl | exact .inr rfl, .inl rfl⟩
end
abbrev s_f_L_right : Stmt := top 22
abbrev N_f_L_right : List Str := ["_law_draws_here", "_law_wheels", "_law_k", "_law_pick", "_law_size", "_law_day_here", "_law_rests", "_law_wants", "_law_a_after", "_law_never_here", "_law_told", "_law_kept", "e", "_law_days", "_law_primes", "_law_fewer", "_law_wheel", "_law_rest", "_law_by", "_law_place"]
theorem sc_f_L_right : FnScope N_f_L_right ["_law_draws_here"] (defScope s_f_L_right) := ⟨rfl, rfl, rfl, by decide +kernel, rfl, by decide +kernel, by decide +kernel⟩
abbrev X_f_L_right (P : Program) (w : World) (K : PySem.W.Frag) (mg : Str → Option Value) (base : Heap) (f : Addr) (cd : Value) (A : Around) (outer : List Env) (s : Shared) (H : Hp) (EE : XK) : Cx := xd P w K mg base N_f_L_right "_law_right" (defScope s_f_L_right) f cd A outer s H EE
section
variable {P : Program} {w : World} {K : PySem.W.Frag} {mg : Str → Option Value} {base : Heap} {f : Addr} {cd : Value} {A : Around} {outer : List Env} {s : Shared} {H : Hp} {EE : XK}
theorem r0_f_L_right : Rd1 (X_f_L_right P w K mg base f cd A outer s H EE) 0 "_law_draws_here" := ⟨rfl, by first | exact .inl rfl | exact .inr (.inl rfl), by decide, by decide⟩
theorem w0_f_L_right : Wr1 (X_f_L_right P w K mg base f cd A outer s H EE) 0 "_law_draws_here" := ⟨sc_f_L_right.nd, rfl, by first | exact .inl rfl | exact .inr rfl, .inl rfl⟩
theorem r1_f_L_right : Rd1 (X_f_L_right P w K mg base f cd A outer s H EE) 1 "_law_wheels" := ⟨rfl, by first | exact .inl rfl | exact .inr (.inl rfl), by decide, by decide⟩
theorem w1_f_L_right : Wr1 (X_f_L_right P w K mg base f cd A outer s H EE) 1 "_law_wheels" := ⟨sc_f_L_right.nd, rfl, by first | exact .inl rfl | exact .inr rfl, .inl rfl⟩
theorem r2_f_L_right : Rd1 (X_f_L_right P w K mg base f cd A outer s H EE) 2 "_law_k" := ⟨rfl, by first | exact .inl rfl | exact .inr (.inl rfl), by decide, by decide⟩
theorem w2_f_L_right : Wr1 (X_f_L_right P w K mg base f cd A outer s H EE) 2 "_law_k" := ⟨sc_f_L_right.nd, rfl, by first | exact .inl rfl | exact .inr rfl, .inl rfl⟩
theorem r3_f_L_right : Rd1 (X_f_L_right P w K mg base f cd A outer s H EE) 3 "_law_pick" := ⟨rfl, by first | exact .inl rfl | exact .inr (.inl rfl), by decide, by decide⟩
theorem w3_f_L_right : Wr1 (X_f_L_right P w K mg base f cd A outer s H EE) 3 "_law_pick" := ⟨sc_f_L_right.nd, rfl, by first | exact .inl rfl | exact .inr rfl, .inl rfl⟩
theorem r4_f_L_right : Rd1 (X_f_L_right P w K mg base f cd A outer s H EE) 4 "_law_size" := ⟨rfl, by first | exact .inl rfl | exact .inr (.inl rfl), by decide, by decide⟩
theorem w4_f_L_right : Wr1 (X_f_L_right P w K mg base f cd A outer s H EE) 4 "_law_size" := ⟨sc_f_L_right.nd, rfl, by first | exact .inl rfl | exact .inr rfl, .inl rfl⟩
theorem r5_f_L_right : Rd1 (X_f_L_right P w K mg base f cd A outer s H EE) 5 "_law_day_here" := ⟨rfl, by first | exact .inl rfl | exact .inr (.inl rfl), by decide, by decide⟩
theorem w5_f_L_right : Wr1 (X_f_L_right P w K mg base f cd A outer s H EE) 5 "_law_day_here" := ⟨sc_f_L_right.nd, rfl, by first | exact .inl rfl | exact .inr rfl, .inl rfl⟩
theorem r6_f_L_right : Rd1 (X_f_L_right P w K mg base f cd A outer s H EE) 6 "_law_rests" := ⟨rfl, by first | exact .inl rfl | exact .inr (.inl rfl), by decide, by decide⟩
theorem w6_f_L_right : Wr1 (X_f_L_right P w K mg base f cd A outer s H EE) 6 "_law_rests" := ⟨sc_f_L_right.nd, rfl, by first | exact .inl rfl | exact .inr rfl, .inl rfl⟩
theorem r7_f_L_right : Rd1 (X_f_L_right P w K mg base f cd A outer s H EE) 7 "_law_wants" := ⟨rfl, by first | exact .inl rfl | exact .inr (.inl rfl), by decide, by decide⟩
theorem w7_f_L_right : Wr1 (X_f_L_right P w K mg base f cd A outer s H EE) 7 "_law_wants" := ⟨sc_f_L_right.nd, rfl, by first | exact .inl rfl | exact .inr rfl, .inl rfl⟩
theorem r8_f_L_right : Rd1 (X_f_L_right P w K mg base f cd A outer s H EE) 8 "_law_a_after" := ⟨rfl, by first | exact .inl rfl | exact .inr (.inl rfl), by decide, by decide⟩
theorem w8_f_L_right : Wr1 (X_f_L_right P w K mg base f cd A outer s H EE) 8 "_law_a_after" := ⟨sc_f_L_right.nd, rfl, by first | exact .inl rfl | exact .inr rfl, .inl rfl⟩
theorem r9_f_L_right : Rd1 (X_f_L_right P w K mg base f cd A outer s H EE) 9 "_law_never_here" := ⟨rfl, by first | exact .inl rfl | exact .inr (.inl rfl), by decide, by decide⟩
theorem w9_f_L_right : Wr1 (X_f_L_right P w K mg base f cd A outer s H EE) 9 "_law_never_here" := ⟨sc_f_L_right.nd, rfl, by first | exact .inl rfl | exact .inr rfl, .inl rfl⟩
theorem r10_f_L_right : Rd1 (X_f_L_right P w K mg base f cd A outer s H EE) 10 "_law_told" := ⟨rfl, by first | exact .inl rfl | exact .inr (.inl rfl), by decide, by decide⟩
theorem w10_f_L_right : Wr1 (X_f_L_right P w K mg base f cd A outer s H EE) 10 "_law_told" := ⟨sc_f_L_right.nd, rfl, by first | exact .inl rfl | exact .inr rfl, .inl rfl⟩
theorem r11_f_L_right : Rd1 (X_f_L_right P w K mg base f cd A outer s H EE) 11 "_law_kept" := ⟨rfl, by first | exact .inl rfl | exact .inr (.inl rfl), by decide, by decide⟩
theorem w11_f_L_right : Wr1 (X_f_L_right P w K mg base f cd A outer s H EE) 11 "_law_kept" := ⟨sc_f_L_right.nd, rfl, by first | exact .inl rfl | exact .inr rfl, .inl rfl⟩
theorem r12_f_L_right : Rd1 (X_f_L_right P w K mg base f cd A outer s H EE) 12 "e" := ⟨rfl, by first | exact .inl rfl | exact .inr (.inl rfl), by decide, by decide⟩
theorem w12_f_L_right : Wr1 (X_f_L_right P w K mg base f cd A outer s H EE) 12 "e" := ⟨sc_f_L_right.nd, rfl, by first | exact .inl rfl | exact .inr rfl, .inl rfl⟩
theorem r13_f_L_right : Rd1 (X_f_L_right P w K mg base f cd A outer s H EE) 13 "_law_days" := ⟨rfl, by first | exact .inl rfl | exact .inr (.inl rfl), by decide, by decide⟩
theorem w13_f_L_right : Wr1 (X_f_L_right P w K mg base f cd A outer s H EE) 13 "_law_days" := ⟨sc_f_L_right.nd, rfl, by first | exact .inl rfl | exact .inr rfl, .inl rfl⟩
theorem r14_f_L_right : Rd1 (X_f_L_right P w K mg base f cd A outer s H EE) 14 "_law_primes" := ⟨rfl, by first | exact .inl rfl | exact .inr (.inl rfl), by decide, by decide⟩
theorem w14_f_L_right : Wr1 (X_f_L_right P w K mg base f cd A outer s H EE) 14 "_law_primes" := ⟨sc_f_L_right.nd, rfl, by first | exact .inl rfl | exact .inr rfl, .inl rfl⟩
theorem r15_f_L_right : Rd1 (X_f_L_right P w K mg base f cd A outer s H EE) 15 "_law_fewer" := ⟨rfl, by first | exact .inl rfl | exact .inr (.inl rfl), by decide, by decide⟩
theorem w15_f_L_right : Wr1 (X_f_L_right P w K mg base f cd A outer s H EE) 15 "_law_fewer" := ⟨sc_f_L_right.nd, rfl, by first | exact .inl rfl | exact .inr rfl, .inl rfl⟩
theorem g_range_f_L_right : Gl (X_f_L_right P w K mg base f cd A outer s H EE) "range" := rfl
theorem g__law_next_f_L_right : Gl (X_f_L_right P w K mg base f cd A outer s H EE) "_law_next" := rfl
theorem g_Wheel_f_L_right : Gl (X_f_L_right P w K mg base f cd A outer s H EE) "Wheel" := rfl
theorem g__law_far_f_L_right : Gl (X_f_L_right P w K mg base f cd A outer s H EE) "_law_far" := rfl
theorem g__law_day_f_L_right : Gl (X_f_L_right P w K mg base f cd A outer s H EE) "_law_day" := rfl
theorem g_zip_f_L_right : Gl (X_f_L_right P w K mg base f cd A outer s H EE) "zip" := rfl
theorem g__law_never_f_L_right : Gl (X_f_L_right P w K mg base f cd A outer s H EE) "_law_never" := rfl
theorem g_meet_f_L_right : Gl (X_f_L_right P w K mg base f cd A outer s H EE) "meet" := rfl
theorem g_NoDay_f_L_right : Gl (X_f_L_right P w K mg base f cd A outer s H EE) "NoDay" := rfl
theorem g_meet_round_f_L_right : Gl (X_f_L_right P w K mg base f cd A outer s H EE) "meet_round" := rfl
theorem g__law_again_f_L_right : Gl (X_f_L_right P w K mg base f cd A outer s H EE) "_law_again" := rfl
theorem g__law_met_f_L_right : Gl (X_f_L_right P w K mg base f cd A outer s H EE) "_law_met" := rfl
end
abbrev s_f_LAW : Stmt := top 23
abbrev N_f_LAW : List Str := ["_law_script", "_law_cell"]
theorem sc_f_LAW : FnScope N_f_LAW ["_law_script"] (defScope s_f_LAW) := ⟨rfl, rfl, rfl, by decide +kernel, rfl, by decide +kernel, by decide +kernel⟩
abbrev X_f_LAW (P : Program) (w : World) (K : PySem.W.Frag) (mg : Str → Option Value) (base : Heap) (f : Addr) (cd : Value) (A : Around) (outer : List Env) (s : Shared) (H : Hp) (EE : XK) : Cx := xd P w K mg base N_f_LAW "law" (defScope s_f_LAW) f cd A outer s H EE
section
variable {P : Program} {w : World} {K : PySem.W.Frag} {mg : Str → Option Value} {base : Heap} {f : Addr} {cd : Value} {A : Around} {outer : List Env} {s : Shared} {H : Hp} {EE : XK}
theorem r0_f_LAW : Rd1 (X_f_LAW P w K mg base f cd A outer s H EE) 0 "_law_script" := ⟨rfl, by first | exact .inl rfl | exact .inr (.inl rfl), by decide, by decide⟩
theorem w0_f_LAW : Wr1 (X_f_LAW P w K mg base f cd A outer s H EE) 0 "_law_script" := ⟨sc_f_LAW.nd, rfl, by first | exact .inl rfl | exact .inr rfl, .inl rfl⟩
theorem r1_f_LAW : Rd1 (X_f_LAW P w K mg base f cd A outer s H EE) 1 "_law_cell" := ⟨rfl, by first | exact .inl rfl | exact .inr (.inl rfl), by decide, by decide⟩
theorem w1_f_LAW : Wr1 (X_f_LAW P w K mg base f cd A outer s H EE) 1 "_law_cell" := ⟨sc_f_LAW.nd, rfl, by first | exact .inl rfl | exact .inr rfl, .inl rfl⟩
theorem g__law_right_f_LAW : Gl (X_f_LAW P w K mg base f cd A outer s H EE) "_law_right" := rfl
theorem g__law_draws_f_LAW : Gl (X_f_LAW P w K mg base f cd A outer s H EE) "_law_draws" := rfl
end
end MM

namespace MM
open PySem L2 PyProof.Rows
/-! ### fractions -/
abbrev rt (t b : Int) : Rat := Rat.divInt t b
theorem rt_self (q : Rat) : rt q.num q.den = q := by
  rw [rt, Rat.divInt_eq_div]
  exact Rat.num_divInt_den q |> fun h => by rw [← Rat.divInt_eq_div]; exact h
/-- by the greatest common part, its sign the bottom's -/
def lowBy (t b : Int) : Int := if b < 0 then 0 - (Int.gcd t b : Int) else (Int.gcd t b : Int)
theorem gcd_pos {t b : Int} (hb : b ≠ 0) : 0 < Int.gcd t b := Int.gcd_pos_of_ne_zero_right _ hb
theorem lowBy_ne {t b : Int} (hb : b ≠ 0) : lowBy t b ≠ 0 := by
  have := gcd_pos (t := t) hb
  unfold lowBy
  split <;> omega
theorem low_top {t b : Int} (hb : b ≠ 0) : t.fdiv (lowBy t b) = (rt t b).num := by
  have hg := gcd_pos (t := t) hb
  obtain ⟨c, hc⟩ := Int.gcd_dvd_left (a := t) (b := b)
  rw [rt, Rat.num_divInt, Int.gcd_comm b t]
  unfold lowBy
  by_cases h : b < 0
  · rw [if_pos h, Int.sign_eq_neg_one_of_neg h]
    have e1 : t = (0 - (Int.gcd t b : Int)) * (-c) := by rw [Int.zero_sub, Int.neg_mul_neg]; exact hc
    have e2 : -1 * t = (Int.gcd t b : Int) * (-c) := by rw [Int.mul_neg, ← hc]; omega
    have n1 : (0 - (Int.gcd t b : Int)) ≠ 0 := by omega
    have n2 : (Int.gcd t b : Int) ≠ 0 := by omega
    rw [e2, Int.mul_ediv_cancel_left _ n2]
    conv => lhs; arg 1; rw [e1]
    exact Int.mul_fdiv_cancel_left _ n1
  · have h0 : 0 < b := by omega
    rw [if_neg h, Int.sign_eq_one_of_pos h0, Int.one_mul]
    have n2 : (Int.gcd t b : Int) ≠ 0 := by omega
    conv => lhs; arg 1; rw [hc]
    conv => rhs; arg 1; rw [hc]
    rw [Int.mul_ediv_cancel_left _ n2]
    exact Int.mul_fdiv_cancel_left _ n2
theorem low_bot {t b : Int} (hb : b ≠ 0) : b.fdiv (lowBy t b) = ((rt t b).den : Int) := by
  have hg := gcd_pos (t := t) hb
  obtain ⟨c, hc⟩ := Int.gcd_dvd_right (a := t) (b := b)
  rw [rt, Rat.den_divInt, if_neg hb, Int.gcd_comm b t]
  unfold lowBy
  have n2 : (Int.gcd t b : Int) ≠ 0 := by omega
  by_cases h : b < 0
  · rw [if_pos h]
    have e1 : b = (0 - (Int.gcd t b : Int)) * (-c) := by rw [Int.zero_sub, Int.neg_mul_neg]; exact hc
    have n1 : (0 - (Int.gcd t b : Int)) ≠ 0 := by omega
    have e3 : (b.natAbs : Int) = (Int.gcd t b : Int) * (-c) := by rw [Int.mul_neg, ← hc]; omega
    rw [Int.natCast_ediv, e3, Int.mul_ediv_cancel_left _ n2]
    conv => lhs; arg 1; rw [e1]
    exact Int.mul_fdiv_cancel_left _ n1
  · rw [if_neg h]
    have e3 : (b.natAbs : Int) = (Int.gcd t b : Int) * c := by rw [← hc]; omega
    rw [Int.natCast_ediv, e3, Int.mul_ediv_cancel_left _ n2]
    conv => lhs; arg 1; rw [hc]
    exact Int.mul_fdiv_cancel_left _ n2
theorem den_pos (q : Rat) : (0 : Int) < q.den := by have := q.den_pos; omega
theorem den_ne (q : Rat) : (q.den : Int) ≠ 0 := by have := den_pos q; omega
theorem rt_add (a c : Int) {b d : Int} (hb : b ≠ 0) (hd : d ≠ 0) : rt (a * d + c * b) (b * d) = rt a b + rt c d := (Rat.divInt_add_divInt a c hb hd).symm
theorem rt_mul (a c : Int) {b d : Int} : rt (a * c) (b * d) = rt a b * rt c d := (Rat.divInt_mul_divInt a c).symm
theorem rt_neg (a b : Int) : rt (-a) b = - rt a b := by
  rw [rt, rt, Rat.divInt_eq_div, Rat.divInt_eq_div, Rat.intCast_neg, Rat.div_def, Rat.div_def, Rat.neg_mul]
theorem rt_sub (a c : Int) {b d : Int} (hb : b ≠ 0) (hd : d ≠ 0) : rt (a * d - c * b) (b * d) = rt a b - rt c d := by
  have e : a * d - c * b = a * d + (-c) * b := by rw [Int.neg_mul]; omega
  rw [e, rt_add a (-c) hb hd, rt_neg, Rat.sub_eq_add_neg]
theorem rt_int (i : Int) : rt i 1 = (i : Rat) := by
  rw [rt, Rat.divInt_eq_div]
  grind
theorem add_q (p q : Rat) : rt (p.num * q.den + q.num * p.den) (p.den * q.den) = p + q := by
  rw [rt_add _ _ (den_ne p) (den_ne q), rt_self, rt_self]
theorem sub_q (p q : Rat) : rt (p.num * q.den - q.num * p.den) (p.den * q.den) = p - q := by
  rw [rt_sub _ _ (den_ne p) (den_ne q), rt_self, rt_self]
theorem mul_q (p q : Rat) : rt (p.num * q.num) (p.den * q.den) = p * q := by
  rw [rt_mul, rt_self, rt_self]
theorem rt_inv (a b : Int) : rt b a = (rt a b)⁻¹ := by
  rw [rt, rt, Rat.divInt_eq_div, Rat.divInt_eq_div, Rat.div_def, Rat.div_def, Rat.inv_mul_rev, Rat.inv_inv]
theorem div_q (p q : Rat) : rt (p.num * q.den) (p.den * q.num) = p / q := by
  rw [rt_mul, rt_self, rt_inv, rt_self, Rat.div_def]
theorem num_ne {q : Rat} (h : q ≠ 0) : q.num ≠ 0 := fun e => h (by
  have := Rat.num_eq_zero.mp e
  exact this)
/-! ### sizes of fractions -/
structure Sz (n : Nat) (q : Rat) : Prop where
  num : Bd n q.num
  den : Bd n q.den
theorem Sz.mono {n m : Nat} {q : Rat} (h : Sz n q) (l : n ≤ m) : Sz m q := ⟨h.num.mono l, h.den.mono l⟩
theorem ediv_le {a b : Nat} : a / b ≤ a := Nat.div_le_self a b
theorem sz_rt {n m : Nat} {a b : Int} (ha : Bd n a) (hb : Bd m b) (h0 : b ≠ 0) : Sz (max n m) (rt a b) := by
  have h1 : a.natAbs < 2 ^ n := ha
  have h2 : b.natAbs < 2 ^ m := hb
  constructor
  · show (rt a b).num.natAbs < _
    rw [rt, Rat.num_divInt]
    have e : (b.sign * a).natAbs ≤ a.natAbs := by
      rcases Int.lt_or_gt_of_ne h0 with h | h
      · rw [Int.sign_eq_neg_one_of_neg h]; omega
      · rw [Int.sign_eq_one_of_pos h]; omega
    have e2 := Int.natAbs_ediv_le_natAbs (b.sign * a) (Int.gcd b a : Int)
    have := @pow2_le n (max n m) (Nat.le_max_left _ _)
    omega
  · show ((rt a b).den : Int).natAbs < _
    rw [rt, Rat.den_divInt, if_neg h0, Int.natAbs_natCast]
    have := @pow2_le m (max n m) (Nat.le_max_right _ _)
    have e3 := Nat.div_le_self b.natAbs (Int.gcd b a)
    omega
theorem sz_add {n m : Nat} {p q : Rat} (hp : Sz n p) (hq : Sz m q) : Sz (n + m + 1) (p + q) := by
  rw [← add_q]
  refine (sz_rt (bd_add (bd_mul hp.num hq.den) (bd_mul hq.num hp.den)) (bd_mul hp.den hq.den) ?_).mono (by omega)
  exact Int.mul_ne_zero (den_ne p) (den_ne q)
theorem sz_sub {n m : Nat} {p q : Rat} (hp : Sz n p) (hq : Sz m q) : Sz (n + m + 1) (p - q) := by
  rw [← sub_q]
  refine (sz_rt (bd_sub (bd_mul hp.num hq.den) (bd_mul hq.num hp.den)) (bd_mul hp.den hq.den) ?_).mono (by omega)
  exact Int.mul_ne_zero (den_ne p) (den_ne q)
theorem sz_mul {n m : Nat} {p q : Rat} (hp : Sz n p) (hq : Sz m q) : Sz (n + m) (p * q) := by
  rw [← mul_q]
  refine (sz_rt (bd_mul hp.num hq.num) (bd_mul hp.den hq.den) ?_).mono (by omega)
  exact Int.mul_ne_zero (den_ne p) (den_ne q)
theorem sz_div {n m : Nat} {p q : Rat} (hp : Sz n p) (hq : Sz m q) (h : q ≠ 0) : Sz (n + m) (p / q) := by
  rw [← div_q]
  refine (sz_rt (bd_mul hp.num hq.den) (bd_mul hp.den hq.num) ?_).mono (by omega)
  exact Int.mul_ne_zero (den_ne p) (num_ne h)
theorem sz_int {n : Nat} {i : Int} (h : Bd n i) (h1 : 1 ≤ n) : Sz n (i : Rat) := by
  refine ⟨by rw [Rat.num_intCast]; exact h, ?_⟩
  rw [Rat.den_intCast]
  show (1 : Nat) < 2 ^ n
  exact Nat.lt_of_lt_of_le (by decide : 1 < 2 ^ 1) (pow2_le h1)
theorem sz_neg {n : Nat} {p : Rat} (h : Sz n p) : Sz n (-p) := ⟨by rw [Rat.neg_num]; exact bd_neg h.num, by rw [Rat.neg_den]; exact h.den⟩
theorem bd_floor {n : Nat} {q : Rat} (h : Sz n q) : Bd n q.floor := by
  rw [Rat.floor_def]
  exact bd_div (den_pos q) h.num
end MM

namespace MM
open PySem L2 PyProof.Rows
def con_common : Con := { I := Int × Int, B := Unit, pre := fun _ => True, args := fun i => [RI i.1, RI i.2], own := fun _ => [], post := fun _ _ => True, res := fun i _ => RI (Int.gcd i.1 i.2 : Int), own' := fun _ _ => [] }
theorem ck_common {ρ1 ρ2 : Rep} {M : Ow} {Φ : Rep → Ow → Prop} {a b : Int} (h1 : Sub ρ1 (RI a)) (h2 : Sub ρ2 (RI b)) (k : Φ (RI (Int.gcd a b : Int)) M) : CallK con_common [ρ1, ρ2] M Φ :=
  ⟨(a, b), M, trivial, .cons h1 (.cons h2 .nil), .nil, fun _ _ => k⟩
section
variable {P : Program} {w : World} {K : PySem.W.Frag} {mg : Str → Option Value} {base : Heap}
theorem ok_common {f : Addr} {fd : FuncData} (F : FdD K "common" "common" s_f_common [] f fd) (hab : mg "abs" = none) : FnOk P w K mg base CX0 1 f fd ["one", "two"] (conSp con_common) := by
  refine fn_conD con_common F sc_f_common (fun _ => rfl) fun cd A outer s H EE G i hp hr hE => ?_
  obtain ⟨a, b⟩ := i
  -- one, two = abs(one), abs(two)
  refine wss_cons (ws_par 0 1 rfl w0_f_common w1_f_common (by decide) rfl rfl rfl ?_)
  refine wa_cons (we_callB call_abs g_abs_f_common hab (by decide +kernel) (wa_cons (we_var 0 r0_f_common rfl (wa_nil ?_))))
  refine caw_of cav_abs ?_
  refine wa_cons (we_callB call_abs g_abs_f_common hab (by decide +kernel) (wa_cons (we_var 1 r1_f_common rfl (wa_nil ?_))))
  refine caw_of cav_abs ?_
  refine wa_nil ⟨_, _, rfl, ?_⟩
  -- while two > 0
  refine wss_cons (ws_while PassesOwn.never (fun n Γ M => ∃ x : Nat, Γ = [some (RI (x : Int)), some (RI (n : Int))] ∧ M = [] ∧ Nat.gcd x n = Int.gcd a b) b.natAbs ⟨a.natAbs, rfl, rfl, rfl⟩ ?_)
  rintro n Γ M ⟨x, rfl, rfl, hg⟩
  refine wt_cmp op_gt (nomark _) (we_var 1 r1_f_common rfl (we_int ?_))
  refine opw_of opv_gt_i ⟨_, Sub.rfl, fun hk => ?_, fun hk => ?_⟩
  · have hn : 0 < n := by have := of_decide_eq_true hk; omega
    refine wss_one (ws_par 0 1 rfl w0_f_common w1_f_common (by decide) rfl rfl rfl ?_)
    refine wa_cons (we_var 1 r1_f_common rfl (wa_cons (we_bin op_modN (we_var 0 r0_f_common rfl (we_var 1 r1_f_common rfl ?_)))))
    refine opw_of (opv_mod_i (by omega)) ?_
    refine wa_nil ⟨_, _, rfl, x % n, Nat.mod_lt _ hn, n, ?_, rfl, ?_⟩
    · show [some (RI (n : Int)), some (RI ((x : Int) % (n : Int)))] = _
      rw [Int.natCast_emod]
    · rw [← hg, Nat.gcd_comm x n, Nat.gcd_rec n x, Nat.gcd_comm]
  · have hn : n = 0 := by have := of_decide_eq_false hk; omega
    subst hn
    refine wss_one (ws_ret (we_var 0 r0_f_common rfl ⟨(), [], trivial, ?_, .nil⟩))
    rw [Nat.gcd_zero_right] at hg
    rw [hg]; exact Sub.rfl
end
section
variable {X : Cx} {E : En} {Γ : Gm} {M : Ow} {st : Stmt} {rest : List Stmt} {Ψ : Ed}
theorem wss_cut (J : Gm → Ow → Prop) (h : WS X E Γ M st { Ψ with nx := J }) (k : ∀ Γ' M', J Γ' M' → WSs X E Γ' M' rest Ψ) : WSs X E Γ M (st :: rest) Ψ :=
  wss_cons fun σ G H a D c => h σ G H a D ⟨fun Γ' M' hj => c.nx Γ' M' (k Γ' M' hj), c.rt, c.bk, c.ct⟩
end
theorem eqv_ii {a b : Int} : PyData.eqv (.int a) (.int b) = (a == b) := by simp [PyData.eqv]
theorem eqv_ss {a b : Str} : PyData.eqv (.str a) (.str b) = (a == b) := by simp [PyData.eqv]
theorem shaped_i {a : Int} : SeqAt.shaped (.int a) = true := rfl
end MM

namespace MM
open PySem L2 PyProof.Rows
section
variable {X : Cx} {E : En} {Γ : Gm} {M : Ow} {Ψ : Ed}
/-- a first store of a field -/
theorem ws_fldN {o value : Expr} {f : Str} {pos pos' : Pos} (h : WE X E Γ M value fun ρv M1 => WE X E Γ M1 o fun ρo M2 => ∃ p C l u, Sub ρo (RRef p) ∧ Fnd M2 p (OIns C l) u ∧ Cls X.K C ∧ NoAttr X.K C f ∧ l.length < 1000 ∧ l.lookup f = none ∧ Ψ.nx Γ (u (OIns C (l ++ [(f, ρv)]))))
    (hs : swapsWith value (some (.Attribute o f pos')) pos.line X.env = pure false := by rfl) : WS X E Γ M (.Assign [.Attribute o f pos'] value pos) Ψ := by
  refine ws_fld (fun σ G H a Q q => h σ G H a Q fun ρ M' v G' H' hh => q ρ M' v G' H' (fun σ2 G2 H2 a2 Q2 q2 => hh σ2 G2 H2 a2 Q2 fun ρ2 M2 v2 G3 H3 ⟨p, C, l, u, h1, h2, h3, h4, h5, h6, h7⟩ => q2 ρ2 M2 v2 G3 H3 ⟨p, C, l, u, h1, h2, h3, h4, h5, by rw [putR_new h6]; exact h7⟩)) hs
end
theorem bd_0 {n : Nat} : Bd n 0 := by
  show (0 : Int).natAbs < _
  exact Nat.two_pow_pos n
end MM

namespace MM
open PySem L2 PyProof.Rows
theorem bd_lit {i : Int} (h : i.natAbs < 1180591620717411303424) : Bd 70 i := h
theorem cpow_lit {i j : Int} (h1 : 0 ≤ j) (h2 : j ≤ 1000000) (h3 : i.natAbs < 2 ^ 64) : CPow i j := ⟨h1, h2, h3⟩
local macro_rules | `(tactic| walk_at "bd") => `(tactic| first
  | assumption
  | exact Sz.num (by assumption)
  | exact Sz.den (by assumption)
  | exact bd_lit (by decide)
  | (refine' bd_mul ?h1 ?h2; (case h1 => walk_at "bd"); (case h2 => walk_at "bd"))
  | (refine' bd_add ?h1 ?h2; (case h1 => walk_at "bd"); (case h2 => walk_at "bd"))
  | (refine' bd_sub ?h1 ?h2; (case h1 => walk_at "bd"); (case h2 => walk_at "bd"))
  | (refine' bd_mod ?h1 ?h2; (case h1 => decide); (case h2 => walk_at "bd"))
  | (refine' bd_neg ?h1; (case h1 => walk_at "bd")))
local macro_rules | `(tactic| walk_at "mul") => `(tactic| (refine' opv_mul_i (mulOk ?h1 ?h2 ?h3); (case h1 => walk_at "bd"); (case h2 => walk_at "bd"); (case h3 => decide)))
/-! ### owned things told in part -/
def OEx {ι : Type} (c : ι → Prop) (r : ι → ORep) : ORep := ⟨fun o G => ∃ y, c y ∧ (r y).p o G, fun o G G' s ⟨y, h, k⟩ => ⟨y, h, (r y).mono _ _ _ s k⟩⟩
theorem oex_in {ι : Type} {c : ι → Prop} {r : ι → ORep} {ρ : ORep} (y : ι) (h : c y) (s : OSub ρ (r y)) : OSub ρ (OEx c r) := fun o G k => ⟨y, h, s o G k⟩
section
variable {X : Cx} {E : En} {Γ : Gm} {M : Ow} {st : List Stmt} {Ψ : Ed} {ι : Type}
theorem wss_open {p : Addr} {c : ι → Prop} {r : ι → ORep} {u : ORep → Ow} (f : Fnd M p (OEx c r) u) (k : ∀ y, c y → WSs X E Γ (u (r y)) st Ψ) : WSs X E Γ M st Ψ := fun σ G H a D d => by
  obtain ⟨o, e1, y, hy, ry⟩ := a.own _ f.mem
  have b : At E Γ (u (r y)) σ G H := by
    refine ⟨a.len, a.env, a.gh, fun q hq => ?_, fun q hq => ?_, by rw [f.map]; exact a.nd, a.g0, a.keep, a.nw, fun q hq => ?_, a.there⟩
    · rcases f.of (r y) q hq with e | ⟨h1, _⟩
      · subst e; exact ⟨o, e1, ry⟩
      · exact a.own q h1
    · rcases f.of (r y) q hq with e | ⟨h1, _⟩
      · subst e; exact a.gn (p, OEx c r) f.mem
      · exact a.gn q h1
    · rcases f.of (r y) q hq with e | ⟨h1, _⟩
      · subst e; exact a.loc (p, OEx c r) f.mem
      · exact a.loc q h1
  exact k y hy σ G H b D d
end
/-! ### the law's draws -/
/-- a list of draws, at most n of them made -/
def ODr (n : Nat) : ORep := OEx (fun y : Int × Int × Bool => 0 ≤ y.2.1 ∧ y.2.1 ≤ n) fun y => OL [RI y.1, RI y.2.1, RB y.2.2]
theorem odr_mono {n m : Nat} (h : n ≤ m) : OSub (ODr n) (ODr m) := fun o G ⟨y, ⟨h1, h2⟩, k⟩ => ⟨y, ⟨h1, by omega⟩, k⟩
def con_L_draws : Con := { I := Int, B := Addr, pre := fun _ => True, args := fun i => [RI i], own := fun _ => [], post := fun _ _ => True, res := fun _ p => RRef p, own' := fun _ p => [(p, ODr 0)] }
theorem ck_L_draws {ρ : Rep} {M : Ow} {Φ : Rep → Ow → Prop} {a : Int} (h : Sub ρ (RI a)) (k : ∀ p, Φ (RRef p) ((p, ODr 0) :: M)) : CallK con_L_draws [ρ] M Φ :=
  ⟨a, M, trivial, .cons h .nil, .nil, fun p _ => k p⟩
/-- the next draw: a whole number below 306,783,369 -/
def Dr (x : Int) : Prop := 0 ≤ x ∧ x < 306783369
theorem Dr.bd {x : Int} (h : Dr x) : Bd 29 x := by
  obtain ⟨h1, h2⟩ := h
  show x.natAbs < _
  omega
def con_L_next : Con := { I := Addr × Nat, B := Int, pre := fun i => i.2 ≤ 1000000000, args := fun i => [RRef i.1], own := fun i => [(i.1, ODr i.2)], post := fun _ x => Dr x, res := fun _ x => RI x, own' := fun i _ => [(i.1, ODr (i.2 + 1))] }
theorem ck_L_next {ρ : Rep} {M M1 : Ow} {Φ : Rep → Ow → Prop} {p : Addr} {n : Nat} (h : Sub ρ (RRef p)) (rm : Rm M p (ODr n) M1) (hn : n ≤ 1000000000) (k : ∀ x, Dr x → Φ (RI x) ((p, ODr (n + 1)) :: M1)) : CallK con_L_next [ρ] M Φ :=
  ⟨(p, n), M1, hn, .cons h .nil, .cons rm OSub.rfl .nil, fun x hx => k x hx⟩
section
variable {P : Program} {w : World} {K : PySem.W.Frag} {mg : Str → Option Value} {base : Heap}
theorem bd_ten {n : Nat} (h : n ≤ 100000) : Bd (4 * n + 1) ((10 : Int) ^ n) := by
  show ((10 : Int) ^ n).natAbs < 2 ^ (4 * n + 1)
  have e : ((10 : Int) ^ n).natAbs = 10 ^ n := by
    rw [Int.natAbs_pow]; rfl
  rw [e, Nat.pow_succ, Nat.pow_mul]
  have : 10 ^ n ≤ (2 ^ 4) ^ n := Nat.pow_le_pow_left (by decide) n
  have : 0 < 10 ^ n := Nat.pow_pos (by decide)
  omega
theorem ok_L_draws {f : Addr} {fd : FuncData} (F : FdD K "_law_draws" "_law_draws" s_f_L_draws [] f fd) (hrg : mg "range" = none) : FnOk P w K mg base CX0 1 f fd ["_law_cell"] (conSp con_L_draws) := by
  refine fn_conD con_L_draws F sc_f_L_draws (fun _ => rfl) fun cd A outer s H EE G i hp hr hE => ?_
  -- cut = 10 ** 60
  refine wss_cons (ws_set 1 w1_f_L_draws (we_bin op_pow (we_int (we_int (opw_of (opv_pow_i (cpow_lit (by decide) (by decide) (by decide))) ?_)))))
  -- for k in range(7): cut = cut * cut
  refine wss_cons (ws_for_range1 PassesOwn.never rfl g_range_f_L_draws hrg (wa_cons (we_int (wa_nil ⟨7, .cons Sub.rfl .nil, ⟨by decide, by decide⟩, fun n Γ M => ∃ o, Γ = [some (RI i), some (RI ((10 : Int) ^ (60 * 2 ^ n))), o] ∧ M = [], ⟨none, rfl, rfl⟩, ?_, ?_⟩))))
  · rintro n ρ Γ M hn rfl ⟨o, rfl, rfl⟩
    have hn : n < 7 := hn
    have hb : Bd (4 * (60 * 2 ^ n) + 1) ((10 : Int) ^ (60 * 2 ^ n)) := bd_ten (by
      have : 2 ^ n ≤ 2 ^ 7 := pow2_le (by omega)
      omega)
    refine wg_name 2 w2_f_L_draws (wss_one (ws_set 1 w1_f_L_draws (we_bin op_mulU (we_var 1 r1_f_L_draws rfl (we_var 1 r1_f_L_draws rfl (opw_of (opv_mul_i (mulOk hb hb ?_)) ?_))))))
    · have : 2 ^ n ≤ 2 ^ 7 := pow2_le (by omega)
      omega
    · refine ⟨some (RI (n : Int)), ?_, rfl⟩
      show [some (RI i), some (RI ((10 : Int) ^ (60 * 2 ^ n) * (10 : Int) ^ (60 * 2 ^ n))), _] = _
      rw [← Int.pow_add, Nat.pow_succ]
      have e : 60 * 2 ^ n + 60 * 2 ^ n = 60 * (2 ^ n * 2) := by omega
      rw [e]
  · rintro Γ M ⟨o, rfl, rfl⟩
    -- return [cell % cut, 0, cell >= 10 ** 18]
    have hc : (0 : Int) < (10 : Int) ^ (60 * 2 ^ (7 : Int).toNat) := Int.pow_pos (by decide)
    refine wss_one (ws_ret (we_lstO (wa_cons (we_bin op_modN (we_var 0 r0_f_L_draws rfl (we_var 1 r1_f_L_draws rfl (opw_of (opv_mod_i hc) ?_))))) hE))
    refine wa_cons (we_int (wa_cons (we_cmp op_ge (nomark _) (we_var 0 r0_f_L_draws rfl (we_bin op_pow (we_int (we_int (opw_of (opv_pow_i (cpow_lit (by decide) (by decide) (by decide))) (opw_of opv_ge_i (wa_nil ⟨by show 3 ≤ 100000; decide, fun p _ _ => ?_⟩))))))))))
    exact ⟨p, [], trivial, Sub.rfl, .cons .here (oex_in (_, _, _) ⟨Int.le_refl 0, Int.le_refl 0⟩ OSub.rfl) .nil⟩
theorem ok_L_next {f : Addr} {fd : FuncData} (F : FdD K "_law_next" "_law_next" s_f_L_next [] f fd) : FnOk P w K mg base CX0 1 f fd ["_law_draws_here"] (conSp con_L_next) := by
  refine fn_conD con_L_next F sc_f_L_next (fun _ => rfl) fun cd A outer s H EE G i hp hr hE => ?_
  obtain ⟨p, n⟩ := i
  have hp : n ≤ 1000000000 := hp
  refine wss_open Fnd.here ?_
  rintro ⟨a, j, b⟩ ⟨hj0, hj1⟩
  have hj0 : 0 ≤ j := hj0
  have hj1 : j ≤ n := hj1
  have bj : Bd 40 (j + 1) := by
    show (j + 1).natAbs < _
    omega
  -- d[1] = d[1] + 1
  refine wss_cons (ws_asg (we_bin op_addU (we_ix ix_seq (we_var 0 r0_f_L_next rfl (we_int (opw_ix_o Sub.rfl Sub.rfl .here (show atI [RI a, RI j, RB b] 1 = some (RI j) from rfl) (we_int ?_)))))))
  refine opw_of opv_add_i (wg_setL (we_var 0 r0_f_L_next rfl (we_int ⟨p, _, 1, 1, _, Sub.rfl, Sub.rfl, .here, rfl, ?_⟩)))
  -- k = d[1]
  refine wss_cons (ws_set 1 w1_f_L_next (we_ix ix_seq (we_var 0 r0_f_L_next rfl (we_int (opw_ix_o Sub.rfl Sub.rfl .here (show atI [RI a, RI (j + 1), RB b] 1 = some (RI (j + 1)) from rfl) ?_)))))
  -- if d[2]
  refine wss_cons (ws_if (wt_val (we_ix ix_seq (we_var 0 r0_f_L_next rfl (we_int (opw_ix_o Sub.rfl Sub.rfl .here (show atI [RI a, RI (j + 1), RB b] 2 = some (RB b) from rfl) ⟨_, Sub.rfl, fun hk => ?_, fun hk => wss_nil ?_⟩))))))
  · refine wss_cons (ws_set 2 w2_f_L_next (we_bin op_modN (we_ix ix_seq (we_var 0 r0_f_L_next rfl (we_int (opw_ix_o Sub.rfl Sub.rfl .here (show atI [RI a, RI (j + 1), RB b] 0 = some (RI a) from rfl) (we_bin op_pow (we_int (we_int (opw_of (opv_pow_i (cpow_lit (by decide) (by decide) (by decide))) (opw_of (opv_mod_i (by decide)) ?_))))))))))) 
    refine wss_cons (ws_asg (we_bin op_fdivA (we_ix ix_seq (we_var 0 r0_f_L_next rfl (we_int (opw_ix_o Sub.rfl Sub.rfl .here (show atI [RI a, RI (j + 1), RB b] 0 = some (RI a) from rfl) (we_bin op_pow (we_int (we_int (opw_of (opv_pow_i (cpow_lit (by decide) (by decide) (by decide))) (opw_of (opv_div_i (by decide) (by decide)) ?_)))))))))))
    refine wg_setL (we_var 0 r0_f_L_next rfl (we_int ⟨p, _, 0, 0, _, Sub.rfl, Sub.rfl, .here, rfl, ?_⟩))
    refine wss_one (ws_ret (we_var 2 r2_f_L_next rfl ⟨a % 10 ^ (6 : Int).toNat, [], ?_, Sub.rfl, .cons .here ?_ .nil⟩))
    · show 0 ≤ a % 1000000 ∧ a % 1000000 < 306783369
      omega
    · exact oex_in (_, j + 1, b) ⟨by show 0 ≤ j + 1; omega, by show j + 1 ≤ ((n + 1 : Nat) : Int); omega⟩ OSub.rfl
  -- the mix
  refine wss_cons (ws_set 2 w2_f_L_next (we_bin op_modN (we_bin op_mulU (we_bin op_addU (we_bin op_addU (we_bin op_modN (we_ix ix_seq (we_var 0 r0_f_L_next rfl (we_int (opw_ix_o Sub.rfl Sub.rfl .here (show atI [RI a, RI (j + 1), RB b] 0 = some (RI a) from rfl) (we_int (opw_of (opv_mod_i (by decide)) ?_))))))))))))
  refine we_bin op_mulU (we_bin op_mulU (we_var 1 r1_f_L_next rfl (we_var 1 r1_f_L_next rfl (opw_of (by walk_at "mul") (we_int (opw_of (by walk_at "mul") (opw_of opv_add_i ?_)))))))
  refine we_var 1 r1_f_L_next rfl (opw_of opv_add_i (we_int (opw_of (by walk_at "mul") (we_int (opw_of (opv_mod_i (by decide)) ?_)))))
  have q0 := Int.emod_nonneg ((a % 1000003 + (j + 1) * (j + 1) * 7919 + (j + 1)) * 48271) (show (2147483629 : Int) ≠ 0 by decide)
  have q1 := Int.emod_lt_of_pos ((a % 1000003 + (j + 1) * (j + 1) * 7919 + (j + 1)) * 48271) (show (0 : Int) < 2147483629 by decide)
  generalize (a % 1000003 + (j + 1) * (j + 1) * 7919 + (j + 1)) * 48271 % 2147483629 = z at q0 q1
  have bz : Bd 32 z := by
    show z.natAbs < _
    omega
  refine wss_cons (ws_set 2 w2_f_L_next (we_bin op_modN (we_bin op_mulU (we_var 2 r2_f_L_next rfl (we_var 2 r2_f_L_next rfl (opw_of (by walk_at "mul") (we_int (opw_of (opv_mod_i (by decide)) ?_))))))))
  have p0 := Int.emod_nonneg (z * z) (show (2147483587 : Int) ≠ 0 by decide)
  have p1 := Int.emod_lt_of_pos (z * z) (show (0 : Int) < 2147483587 by decide)
  generalize z * z % 2147483587 = y at p0 p1
  have by_ : Bd 32 y := by
    show y.natAbs < _
    omega
  refine wss_one (ws_ret (we_bin op_fdivA (we_bin op_modN (we_bin op_mulU (we_var 2 r2_f_L_next rfl (we_bin op_addU (we_var 2 r2_f_L_next rfl (we_int (opw_of opv_add_i (opw_of (by walk_at "mul") (we_int (opw_of (opv_mod_i (by decide)) (we_int (opw_of (opv_div_i (by decide) (by decide)) ?_))))))))))))))
  refine ⟨y * (y + 2) % 2147483579 / 7, [], ?_, Sub.rfl, .cons .here ?_ .nil⟩
  · show 0 ≤ _ ∧ _ < 306783369
    have t0 := Int.emod_nonneg (y * (y + 2)) (show (2147483579 : Int) ≠ 0 by decide)
    have t1 := Int.emod_lt_of_pos (y * (y + 2)) (show (0 : Int) < 2147483579 by decide)
    omega
  · exact oex_in (_, j + 1, b) ⟨by show 0 ≤ j + 1; omega, by show j + 1 ≤ ((n + 1 : Nat) : Int); omega⟩ OSub.rfl
end
end MM

namespace MM
open PySem L2 PyProof.Rows
/-! ### an item of a written list of ints -/
inductive AllI (Q : Int → Prop) : List Rep → Prop
  | nil : AllI Q []
  | cons {n : Int} {l : List Rep} : Q n → AllI Q l → AllI Q (RI n :: l)
theorem AllI.mem {Q : Int → Prop} {l : List Rep} (h : AllI Q l) : ∀ ρ ∈ l, ∃ n, ρ = RI n ∧ Q n := by
  induction h with
  | nil => intro ρ hm; cases hm
  | cons hq _ ih =>
    intro ρ hm
    rcases List.mem_cons.mp hm with e | hm
    · exact ⟨_, e, hq⟩
    · exact ih ρ hm
theorem opw_pickI {K : PySem.W.Frag} {E : En} {Γ : Gm} {M : Ow} {Φ : Rep → Ow → Prop} {ρs : List Rep} {i : Int} (Q : Int → Prop) (h0 : 0 ≤ i) (h1 : i < ρs.length) (hq : AllI Q ρs) (k : ∀ n, Q n → Φ (RI n) M) : OpW E Γ M (rIx K) (RLt ρs) (RI i) Φ := by
  obtain ⟨x, e, hm, _⟩ := atI_of (l := ρs) h0 h1
  obtain ⟨n, e2, hn⟩ := hq.mem x hm
  subst e2
  exact opw_of (opv_ix_l sub_lt e) (k n hn)
theorem opv_powL {i j v : Int} (h1 : 0 ≤ j) (h2 : j ≤ 1000000) (h3 : i.natAbs < 2 ^ 64) (e : i ^ j.toNat = v) : OpV rPow (RI i) (RI j) (RI v) := by
  subst e; exact opv_pow_i ⟨h1, h2, h3⟩
theorem bd_one {n : Nat} (hn : 1 ≤ n) : Bd n 1 := by
  show (1 : Int).natAbs < _
  exact Nat.lt_of_lt_of_le (by decide : 1 < 2 ^ 1) (pow2_le hn)
end MM

namespace MM
open PySem L2 PyProof.Rows
theorem opw_pickR {K : PySem.W.Frag} {E : En} {Γ : Gm} {M : Ow} {Φ : Rep → Ow → Prop} {ρs : List Rep} {i : Int} (h0 : 0 ≤ i) (h1 : i < ρs.length) (k : ∀ ρ ∈ ρs, Φ ρ M) : OpW E Γ M (rIx K) (RLt ρs) (RI i) Φ := by
  obtain ⟨x, e, hm, _⟩ := atI_of (l := ρs) h0 h1
  exact opw_of (opv_ix_l sub_lt e) (k x hm)
end MM

namespace MM
open PySem L2 PyProof.Rows
/-! ### slices of lists -/
def tWO (X : Cx) : Option Expr → TO
  | none => tNoPart
  | some e => tPart (tW X e)
theorem po_w {X : Cx} : ∀ {o : Option Expr}, PO X o (tWO X o)
  | none => po_none
  | some _ => po_some pe_w
def WO (X : Cx) (E : En) (Γ : Gm) (M : Ow) (o : Option Expr) (Φ : Option Int → Ow → Prop) : Prop :=
  ∀ σ G H, At E Γ M σ G H → ∀ Q : Option Int → Hp → Prop, (∀ k M' G' H', Φ k M' → Same G G' → At E Γ M' σ G' H' → Q k H') → tWO X o σ H Q
def cutL {α : Type} (l : List α) (lo hi : Option Int) : List α := (l.drop (HT.sIx l.length 0 lo)).take (HT.sIx l.length l.length hi - HT.sIx l.length 0 lo)
theorem cutL_map {α β : Type} {f : α → β} {l : List α} {lo hi : Option Int} : cutL (l.map f) lo hi = (cutL l lo hi).map f := by
  unfold cutL
  rw [List.length_map, List.map_take, List.map_drop]
theorem cutL_len {α : Type} {l : List α} {lo hi : Option Int} : (cutL l lo hi).length ≤ l.length := by
  unfold cutL
  rw [List.length_take, List.length_drop]
  omega
theorem reps_drop {G : Hp} : ∀ {ρs : List Rep} {vs : List V} (n : Nat), Reps ρs vs G → Reps (ρs.drop n) (vs.drop n) G
  | _, _, 0, h => h
  | [], [], _ + 1, h => h
  | _ :: _, _ :: _, n + 1, h => reps_drop n h.2
  | [], _ :: _, _ + 1, h => h.elim
  | _ :: _, [], _ + 1, h => h.elim
theorem reps_take {G : Hp} : ∀ {ρs : List Rep} {vs : List V} (n : Nat), Reps ρs vs G → Reps (ρs.take n) (vs.take n) G
  | _, _, 0, h => trivial
  | [], [], _ + 1, h => h
  | _ :: _, _ :: _, n + 1, h => ⟨h.1, reps_take n h.2⟩
  | [], _ :: _, _ + 1, h => h.elim
  | _ :: _, [], _ + 1, h => h.elim
theorem reps_cut {G : Hp} {ρs : List Rep} {vs : List V} (r : Reps ρs vs G) (lo hi : Option Int) : Reps (cutL ρs lo hi) (cutV vs lo hi) G := by
  unfold cutL cutV
  rw [r.length]
  exact reps_take _ (reps_drop _ r)
section
variable {X : Cx} {E : En} {Γ : Gm} {M : Ow} {a e : Expr} {pos p2 : Pos} {Φ : Rep → Ow → Prop} {lo hi : Option Expr}
theorem wo_none {Φ : Option Int → Ow → Prop} (k : Φ none M) : WO X E Γ M none Φ := fun σ G H a Q q => q none M G H k (Same.refl _) a
theorem wo_some {Φ : Option Int → Ow → Prop} (h : WE X E Γ M e fun ρ M' => ∃ i, Sub ρ (RI i) ∧ Φ (some i) M') : WO X E Γ M (some e) Φ := fun σ G H a Q q =>
  h σ G H a _ fun ρ M' v G' H' ⟨i, sb, hk⟩ s' a' r' => ⟨i, sb _ _ r', q (some i) M' G' H' hk s' a'⟩
theorem we_slL (h : WE X E Γ M a fun ρ M1 => ∃ ρs, Sub ρ (RL X.K ρs) ∧ WO X E Γ M1 lo fun l M2 => WO X E Γ M2 hi fun u M3 => Φ (RLt (cutL ρs l u)) M3) : WE X E Γ M (.Subscript a (.Slice lo hi none p2) pos) Φ :=
  we_of (pe_slice sl_list pe_w po_w po_w) fun σ G H at' Q q => h σ G H at' _ fun ρ M1 x G1 H1 ⟨ρs, sb, h1⟩ s1 a1 r1 => h1 σ G1 H1 a1 _ fun l M2 G2 H2 h2 s2 a2 => h2 σ G2 H2 a2 _ fun u M3 G3 H3 hk s3 a3 => by
    obtain ⟨b, vs, e, hq, rr⟩ := sb _ _ (ρ.mono _ _ _ (s2.trans s3) r1)
    refine ⟨b, vs, e, Same.seq a3.gh hq, fun p hp => ?_⟩
    have n : New G3 H3 (upd G3 p (.lst (cutV vs l u))) (upd H3 p (.lst (cutV vs l u))) := New.put a3.gh hp
    exact q _ M3 _ _ _ hk ((s1.trans (s2.trans s3)).trans n.gg) (a3.new n) ⟨p, _, rfl, upd_same, (reps_cut rr l u).mono n.gg⟩
end
/-! ### a law's own promise -/
def con_law (K : PySem.W.Frag) : Con := { I := List Int, B := Unit, pre := fun ns => ns.length ≤ 63, args := fun ns => [RL K (ns.map RI)], own := fun _ => [], post := fun _ _ => True, res := fun _ _ => RB true, own' := fun _ _ => [] }
theorem reps_ints {G : Hp} : ∀ ns : List Int, Reps (ns.map RI) (ns.map V.int) G
  | [] => trivial
  | _ :: ns => ⟨rfl, reps_ints ns⟩
theorem law_start {K : PySem.W.Frag} {H : Hp} {a : Addr} {ns : List Int} {Q : VK} {EE : XK} (h : SqL K H a (ns.map V.int)) (hl : ns.length ≤ 63) (q : ∀ H', Q (.bl true) H') : conSp (con_law K) [.ref a] H Q EE := by
  refine ⟨H, ns, Same.refl _, hl, ⟨⟨a, _, rfl, h, reps_ints ns⟩, trivial⟩, fun _ hq => (List.not_mem_nil hq).elim, fun _ hq => (List.not_mem_nil hq).elim, List.nodup_nil, fun _ v G' H' _ _ r => ?_⟩
  have r : v = .bl true := r
  subst r
  exact q H'
/-- the turns of a law: over script[:k] + [0] -/
theorem cells_of {ns : List Int} {lo hi : Option Int} {i : Nat} {ρ : Rep} (h : (cutL (ns.map RI) lo hi ++ [RI 0])[i]? = some ρ) : ∃ n, ρ = RI n := by
  have e : cutL (ns.map RI) lo hi ++ [RI 0] = (cutL ns lo hi ++ [0]).map RI := by rw [cutL_map, List.map_append]; rfl
  rw [e, List.getElem?_map] at h
  obtain ⟨n, _, h2⟩ := Option.map_eq_some_iff.mp h
  exact ⟨n, h2.symm⟩
end MM

namespace MM
open PySem L2 PyProof.Rows
/-! ### what the top has written -/
def DefE (K : PySem.W.Frag) (x : Str) (st : Stmt) (dvs : List V) : Prop := ∃ f fd, PySem.W.nsIn K mainGlobals x = some (some (.ref f)) ∧ FdD K x x st dvs f fd
theorem defE_mk {K : PySem.W.Frag} {x : Str} {st : Stmt} {f : Addr} {oc : Value} {od an : Option Addr} {osl : Array (Option Value)} {kV doc pm cdv ct : Value} (a : PySem.W.nsIn K mainGlobals x = some (some (.ref f))) (l : K.lookup f = some ⟨oc, od, .func (PySem.W.fnOf x x (defArgs st) (defBody st) (defScope st) .none kV doc pm an cdv ct), osl⟩)
    (c : PySem.W.codeIn K cdv x = true) (k : PySem.W.keepIn K (.ref f) = true) : DefE K x st [] := ⟨f, _, a, fdD_mk l c k⟩
theorem defE_mkT {K : PySem.W.Frag} {x : Str} {st : Stmt} {dvs : List V} {f T : Addr} {oc tc : Value} {od td an : Option Addr} {osl tsl : Array (Option Value)} {kV doc pm cdv ct : Value} {its : Array Value} {n : Nat} (a : PySem.W.nsIn K mainGlobals x = some (some (.ref f))) (l : K.lookup f = some ⟨oc, od, .func (PySem.W.fnOf x x (defArgs st) (defBody st) (defScope st) (.ref T) kV doc pm an cdv ct), osl⟩)
    (c : PySem.W.codeIn K cdv x = true) (k : PySem.W.keepIn K (.ref f) = true) (lT : K.lookup T = some ⟨tc, td, .seq its n, tsl⟩) (hd : dvs ≠ []) (hv : Vals dvs its.toList) : DefE K x st dvs := ⟨f, _, a, fdD_mkT l c k lT hd hv⟩
/-- a method, or __init__, of the class at C -/
def MetE (K : PySem.W.Frag) (C : Addr) (x qual : Str) (st : Stmt) (dvs : List V) : Prop := ∃ f fd, PySem.W.findIn K (.ref C) x = some (some (.ref f)) ∧ PySem.W.isFn K (.ref f) = true ∧ FdD K x qual st dvs f fd
theorem metE_mk {K : PySem.W.Frag} {C : Addr} {x qual : Str} {st : Stmt} {f : Addr} {oc : Value} {od an : Option Addr} {osl : Array (Option Value)} {kV doc pm cdv ct : Value} (a : PySem.W.findIn K (.ref C) x = some (some (.ref f))) (i : PySem.W.isFn K (.ref f) = true) (l : K.lookup f = some ⟨oc, od, .func (PySem.W.fnOf x qual (defArgs st) (defBody st) (defScope st) .none kV doc pm an cdv ct), osl⟩)
    (c : PySem.W.codeIn K cdv qual = true) (k : PySem.W.keepIn K (.ref f) = true) : MetE K C x qual st [] := ⟨f, _, a, i, fdD_mk l c k⟩
theorem metE_mkT {K : PySem.W.Frag} {C : Addr} {x qual : Str} {st : Stmt} {dvs : List V} {f T : Addr} {oc tc : Value} {od td an : Option Addr} {osl tsl : Array (Option Value)} {kV doc pm cdv ct : Value} {its : Array Value} {n : Nat} (a : PySem.W.findIn K (.ref C) x = some (some (.ref f))) (i : PySem.W.isFn K (.ref f) = true) (l : K.lookup f = some ⟨oc, od, .func (PySem.W.fnOf x qual (defArgs st) (defBody st) (defScope st) (.ref T) kV doc pm an cdv ct), osl⟩)
    (c : PySem.W.codeIn K cdv qual = true) (k : PySem.W.keepIn K (.ref f) = true) (lT : K.lookup T = some ⟨tc, td, .seq its n, tsl⟩) (hd : dvs ≠ []) (hv : Vals dvs its.toList) : MetE K C x qual st dvs := ⟨f, _, a, i, fdD_mkT l c k lT hd hv⟩
/-- an own class -/
structure ClsE (K : PySem.W.Frag) (x : Str) (C : Addr) : Prop where
  at_ : PySem.W.nsIn K mainGlobals x = some (some (.ref C))
  pg : PySem.W.plainGet K C Str.empty = true
  hd : PySem.W.hasDictIn K C = true
  po : PySem.W.plainOver K C = true
  sa : PySem.W.findIn K (.ref C) "__setattr__" = some (some (.builtin "object.__setattr__"))
  ha : PySem.W.findIn K (.ref C) "__class__" = some (some (.builtin "object.__class__"))
  hn : PySem.W.specialIn K (.builtin "object.__class__") "__get__" = some (some (.builtin "getset_descriptor.__get__"))
  htk : PySem.W.takesIn K (.builtin "object.__class__") = some true
  hm : PySem.W.mroIn K C (.type "object") = some true
  makes : PySem.W.makesIn K C = true
  kp : PySem.W.keepIn K (.ref C) = true
theorem ClsE.ci {K : PySem.W.Frag} {x : Str} {C : Addr} (c : ClsE K x C) : ClsI K C := ⟨⟨c.pg, c.hd, c.po, c.sa⟩, c.ha, c.hn, c.htk, c.hm⟩
theorem kitInt {K : PySem.W.Frag} {C : Addr} {T : String} (h1 : PySem.W.isClsIn K C = true) (h2 : PySem.W.typeIn K (.ref C) = some (.type "type")) (h3 : PySem.W.subIn K (.type T) (.ref C) = some false) : PySem.W.kitOne K (.type T) (.ref C) = some false := by
  unfold PySem.W.kitOne
  rw [if_neg (by simp)]
  unfold PySem.W.kitCls
  have h1 : (PySem.W.clsIn K C).isSome = true := h1
  simp [h1, h2, h3]
section
variable {P : Program} {w : World} {K : PySem.W.Frag} {mg : Str → Option Value} {base h : Heap} {k : Nat} {x : Str} {st : Stmt} {f : Addr} {fd : FuncData} {ps : List Str} {c : Con}
theorem kn_of (X : K.In h) (G : h.Ns mainGlobals mg) (a : PySem.W.nsIn K mainGlobals x = some (some (.ref f))) (F : FdD K x x st [] f fd) (ok : FnOk P w K mg base CX0 k f fd ps (conSp c))
    (hb : ∀ (kV doc pm : Value) (an : Option Addr) (cdv ct : Value) (us : List Value), us.length = ps.length → bindArgs (PySem.W.fnOf x x (defArgs st) (defBody st) (defScope st) .none kV doc pm an cdv ct) ⟨us, []⟩ = pure (ps.zip us)) : Kn P w K mg base k x [] c :=
  ⟨f, fd, ps, [], PySem.W.mg_of X G a, F.kp, F.bindsN hb, .nil, ok⟩
/-- n arguments, the defaults behind the first j fill up -/
theorem knD_of {dvs : List V} (n j : Nat) (X : K.In h) (G : h.Ns mainGlobals mg) (a : PySem.W.nsIn K mainGlobals x = some (some (.ref f))) (F : FdD K x x st dvs f fd) (ok : FnOk P w K mg base CX0 k f fd ps (conSp c)) (hd : dvs ≠ []) (hn : n + (dvs.length - j) = ps.length)
    (hb : ∀ (T : Addr) (kV doc pm : Value) (an : Option Addr) (cdv ct : Value) (us its : List Value), us.length = n → its.length = dvs.length → ∃ k, bindArgs (PySem.W.fnOf x x (defArgs st) (defBody st) (defScope st) (.ref T) kV doc pm an cdv ct) ⟨us, []⟩ = seqItems? (.ref T) >>= k ∧ k (some its.toArray) = pure (ps.zip (us ++ its.drop j))) : Kn P w K mg base k x (dvs.drop j) c := by
  obtain ⟨ds, h1, h2⟩ := F.binds1 n j hd hn hb
  exact ⟨f, fd, ps, ds, PySem.W.mg_of X G a, F.kp, h2, h1, ok⟩
theorem knC_of {C : Addr} {qual : Str} {dvs : List V} (n j : Nat) (X : K.In h) (G : h.Ns mainGlobals mg) (e : ClsE K x C) (a : PySem.W.findIn K (.ref C) "__init__" = some (some (.ref f))) (i : PySem.W.isFn K (.ref f) = true) (F : FdD K "__init__" qual st dvs f fd) (ok : FnOk P w K mg base CX0 k f fd ps (conSp c)) (hd : dvs ≠ []) (hn : n + (dvs.length - j) = ps.length)
    (hb : ∀ (T : Addr) (kV doc pm : Value) (an : Option Addr) (cdv ct : Value) (us its : List Value), us.length = n → its.length = dvs.length → ∃ k, bindArgs (PySem.W.fnOf "__init__" qual (defArgs st) (defBody st) (defScope st) (.ref T) kV doc pm an cdv ct) ⟨us, []⟩ = seqItems? (.ref T) >>= k ∧ k (some its.toArray) = pure (ps.zip (us ++ its.drop j))) : KnC P w K mg base k x C (dvs.drop j) c := by
  obtain ⟨ds, h1, h2⟩ := F.binds1 n j hd hn hb
  exact ⟨f, fd, ps, ds, PySem.W.mg_of X G e.at_, ⟨e.makes, a, i, e.kp⟩, h2, h1, ok⟩
theorem knCK_of {C : Addr} {qual : Str} {dvs : List V} (n : Nat) (ks : List Str) (g : {α : Type} → List α → List α → List α → List α) (X : K.In h) (G : h.Ns mainGlobals mg) (e : ClsE K x C) (a : PySem.W.findIn K (.ref C) "__init__" = some (some (.ref f))) (i : PySem.W.isFn K (.ref f) = true) (F : FdD K "__init__" qual st dvs f fd) (ok : FnOk P w K mg base CX0 k f fd ps (conSp c)) (hd : dvs ≠ [])
    (hrel : ∀ {vs ds zs : List V} {us its ws : List Value}, Vals vs us → Vals ds its → Vals zs ws → Vals (g vs ds zs) (g us its ws))
    (hb : ∀ (T : Addr) (kV doc pm : Value) (an : Option Addr) (cdv ct : Value) (us its ws : List Value), us.length = n + 1 → its.length = dvs.length → ws.length = ks.length →
      ∃ k, bindArgs (PySem.W.fnOf "__init__" qual (defArgs st) (defBody st) (defScope st) (.ref T) kV doc pm an cdv ct) ⟨us, ks.zip ws⟩ = seqItems? (.ref T) >>= k ∧ k (some its.toArray) = pure (ps.zip (g us its ws))) : KnCK P w K mg base k x C n ks (fun vs zs => g vs dvs zs) c := by
  obtain ⟨its, h1⟩ := F.kbindsD (n + 1) ks g hd hrel hb
  exact ⟨f, fd, ps, _, PySem.W.mg_of X G e.at_, ⟨e.makes, a, i, e.kp⟩, h1, ok⟩
theorem knK_of {dvs : List V} (n : Nat) (ks : List Str) (g : {α : Type} → List α → List α → List α → List α) (X : K.In h) (G : h.Ns mainGlobals mg) (a : PySem.W.nsIn K mainGlobals x = some (some (.ref f))) (F : FdD K x x st dvs f fd) (ok : FnOk P w K mg base CX0 k f fd ps (conSp c)) (hd : dvs ≠ [])
    (hrel : ∀ {vs ds zs : List V} {us its ws : List Value}, Vals vs us → Vals ds its → Vals zs ws → Vals (g vs ds zs) (g us its ws))
    (hb : ∀ (T : Addr) (kV doc pm : Value) (an : Option Addr) (cdv ct : Value) (us its ws : List Value), us.length = n → its.length = dvs.length → ws.length = ks.length →
      ∃ k, bindArgs (PySem.W.fnOf x x (defArgs st) (defBody st) (defScope st) (.ref T) kV doc pm an cdv ct) ⟨us, ks.zip ws⟩ = seqItems? (.ref T) >>= k ∧ k (some its.toArray) = pure (ps.zip (g us its ws))) : KnK P w K mg base k x n ks (fun vs zs => g vs dvs zs) c := by
  obtain ⟨its, h1⟩ := F.kbindsD n ks g hd hrel hb
  exact ⟨f, fd, ps, _, PySem.W.mg_of X G a, F.kp, h1, ok⟩
end
/-- the law's end -/
theorem walk_law {l : PySem.W.OpenLaw} {k : Nat} {q : Program} {loose : List Str} {XP : (Str → Option Value) → Heap → Prop} {YP : World → Heap → Prop} {d : DefRec} {K : Params → PySem.W.Frag} (hn : l.most = some 63) (hdf : d.params.defaults = []) (hr : Room k callerA)
    (hY : ∀ (w : World) (h : Heap), YP w h → (K w.params).In h)
    (F : ∀ (w : World) (mg : Str → Option Value) (fa : Addr) (h : Heap), (K w.params).In h → h.Ns mainGlobals mg → mg d.name = some (.ref fa) →
      ∃ fd : FuncData, (∀ (s : Shared) (u : Value), BindsTo s fd ⟨[u], []⟩ [("_law_script", u)]) ∧ ∀ base : Heap, (K w.params).In base → base.Ns mainGlobals mg → FnOk l.prog w (K w.params) mg base CX0 k fa fd ["_law_script"] (conSp (con_law (K w.params)))) :
    PySem.W.WalkO q loose XP YP l.row.toRowW d [] (fun f vs => PySem.call f vs) := by
  refine L2.walk_of (n := 63) (k := k) (x := "_law_script") (CX := fun _ => CX0) (sp := fun w => conSp (con_law (K w.params))) hn (by decide) hdf hr hY F (fun _ _ a ns hl _ hS => ?_) fun _ _ _ _ _ z => z
  exact law_start hS hl fun _ => rfl
end MM

namespace MM
open PySem L2 PyProof.Rows
structure TopB (K : PySem.W.Frag) : Prop where
  zR : PySem.W.nsIn K mainGlobals "range" = some none
  draws : DefE K "_law_draws" s_f_L_draws []
  next : DefE K "_law_next" s_f_L_next []
structure LawB (P : Program) (w : World) (K : PySem.W.Frag) (mg : Str → Option Value) (base : Heap) : Prop where
  draws : Kn P w K mg base 1 "_law_draws" [] con_L_draws
  next : Kn P w K mg base 1 "_law_next" [] con_L_next
section
variable {P : Program} {w : World} {K : PySem.W.Frag} {mg : Str → Option Value} {base h : Heap} {CS CC : Addr}
theorem lawB_of (X : K.In h) (G : h.Ns mainGlobals mg) (T : TopB K) : LawB P w K mg base := by
  obtain ⟨f0, d0, a0, F0⟩ := T.draws
  obtain ⟨f1, d1, a1, F1⟩ := T.next
  have Dr : Kn P w K mg base 1 "_law_draws" [] con_L_draws := kn_of X G a0 F0 (ok_L_draws F0 (PySem.W.mg_none_of X G T.zR)) fun _ _ _ _ _ _ us hl => match us, hl with | [_], _ => rfl
  have Nx : Kn P w K mg base 1 "_law_next" [] con_L_next := kn_of X G a1 F1 (ok_L_next F1) fun _ _ _ _ _ _ us hl => match us, hl with | [_], _ => rfl
  exact ⟨Dr, Nx⟩
end
end MM

namespace MM
open PySem L2 PyProof.Rows
/-! ### == by an own __eq__ that tells True -/
def KnE (P : Program) (w : World) (K : PySem.W.Frag) (mg : Str → Option Value) (base : Heap) (k : Nat) (C : Addr) (c : Con) : Prop :=
  ∃ (f : Addr) (fd : FuncData) (ps : List Str), PySem.W.findIn K (.ref C) "__eq__" = some (some (.ref f)) ∧ PySem.W.isFn K (.ref f) = true ∧ Binds K fd ps [] ∧ FnOk P w K mg base CX0 k f fd ps (conSp c)
/-- what the two stand for -/
def REq (c : Con) : Addr → Addr → Hp → Prop := fun a b H => ∃ (G : Hp) (i : c.I), Same G H ∧ c.pre i ∧ Reps (c.args i) [.ref a, .ref b] G
structure EqTrue (c : Con) : Prop where
  own : ∀ i, c.own i = []
  res : ∀ i x, c.res i x = RB true
theorem spEq_of {c : Con} (t : EqTrue c) : ∀ vs H Q E, spEq (REq c) vs H Q E → conSp c vs H Q E := by
  rintro vs H Q E ⟨a, b, rfl, ⟨G, i, s, hp, r⟩, q⟩
  refine ⟨G, i, s, hp, r, ?_, ?_, ?_, fun x v G' H' px tf rv => ?_⟩
  · rw [t.own]; exact fun q hq => (List.not_mem_nil hq).elim
  · rw [t.own]; exact fun q hq => (List.not_mem_nil hq).elim
  · rw [t.own]; exact List.nodup_nil
  · rw [t.res] at rv
    have rv : v = .bl true := rv
    subst rv
    refine q H' fun z u hz => tf.keep z u ?_ hz
    rw [t.own]
    exact List.not_mem_nil
section
variable {X : Cx} {E : En} {Γ : Gm} {M : Ow} {a b : Expr} {pos : Pos} {Φ : Rep → Ow → Prop} {k : Nat} {C : Addr} {c : Con}
theorem opw_eqC {ρ ρ' : Rep} {l l' : List (Str × Rep)} (i : c.I) (hp : c.pre i) (ha : c.args i = [RIns C l, RIns C l']) (s1 : MM.Sub ρ (RIns C l)) (s2 : MM.Sub ρ' (RIns C l')) (q0 : Φ (RB true) M) : OpW E Γ M (rEqG (DIns C (REq c))) ρ ρ' Φ := fun σ G H at_ x y hx hy Q q => by
  obtain ⟨b1, dx, fs, e1, h1, r1⟩ := s1 _ _ hx
  obtain ⟨b2, dy, gs, e2, h2, r2⟩ := s2 _ _ hy
  subst e1 e2
  refine ⟨⟨b1, b2, dx, dy, fs, gs, rfl, rfl, at_.gh _ _ h1, at_.gh _ _ h2, G, i, at_.gh, hp, ?_⟩, fun H' e => q (RB true) M _ G H' q0 (Same.refl _) (at_.new ⟨Same.refl _, at_.gh.trans e, e, fun _ _ h => h⟩) rfl⟩
  rw [ha]
  exact ⟨⟨b1, dx, fs, rfl, h1, r1⟩, ⟨b2, dy, gs, rfl, h2, r2⟩, trivial⟩
theorem we_eqC (F : KnE X.prog X.w X.K X.mg X.base k C c) (t : EqTrue c) (hr : Room k X.A) (hx : Passes CX0 X E0)
    (h : WE X E Γ M a fun ρa Ma => WE X E Γ Ma b fun ρb Mb => ∃ (i : c.I) (l l' : List (Str × Rep)), c.pre i ∧ c.args i = [RIns C l, RIns C l'] ∧ MM.Sub ρa (RIns C l) ∧ MM.Sub ρb (RIns C l') ∧ Φ (RB true) Mb) (hm : behindInMarks .Eq b = false := by exact nomark _) : WE X E Γ M (.Compare a [.Eq] [b] pos) Φ := by
  obtain ⟨f, fd, ps, hs, hf, hb, ok⟩ := F
  refine we_cmp (op_eqG (rcG_ins (ok.imp (spEq_of t)) hs hf hb hx) hr) hm ?_
  intro σ G H at_ Q q
  refine h σ G H at_ Q fun ρ M' v G' H' hh => q ρ M' v G' H' ?_
  intro σ2 G2 H2 at2 Q2 q2
  refine hh σ2 G2 H2 at2 Q2 fun ρ2 M2 v2 G3 H3 ⟨i, l, l', hp, ha, s1, s2, q0⟩ => q2 ρ2 M2 v2 G3 H3 (opw_eqC i hp ha s1 s2 q0)
end
end MM

namespace MM
open PySem L2 PyProof.Rows
/-! ### str(x) of an own instance; f-strings -/
/-- an own method of one argument, by its name -/
def KnO (P : Program) (w : World) (K : PySem.W.Frag) (mg : Str → Option Value) (base : Heap) (k : Nat) (C : Addr) (m : Str) (c : Con) : Prop :=
  ∃ (f : Addr) (fd : FuncData) (ps : List Str), PySem.W.findIn K (.ref C) m = some (some (.ref f)) ∧ PySem.W.isFn K (.ref f) = true ∧ Binds K fd ps [] ∧ FnOk P w K mg base CX0 k f fd ps (conSp c)
section
variable {X : Cx} {n : Nat} {C f a : Addr} {fd : FuncData} {ps : List Str} {sp : Sp}
/-- an own method of the instance at a, called below the running body -/
theorem run_own {A : Around} {pins : List (Addr × Obj)} {σ : L2.St} {H : Hp} {s : Shared} {Q : VK} (F : FnOk X.prog X.w X.K X.mg X.base CX0 n f fd ps sp) (hb : Binds X.K fd ps []) (hr : Room n A) (e0 : Env0 X.prog X.w X.K X.mg X.base A X.stack s H) (hx : Passes CX0 X E0) (I : Inv X pins σ H s) (h : sp [.ref a] H Q E0) :
    wpAny (model X.prog X.w) A (call (.ref f) [.ref a]) (EP X pins σ Q) X.xe s := by
  have hl := F.len _ _ _ _ h
  refine wpAny_call (codeAny_mono (F.run A X.stack s H ⟨[.ref a], []⟩ [.ref a] [.ref a] _ E0 hr e0 (by
    have := hb s [.ref a] I.kIn (by simpa using hl)
    simpa using this) (.cons rfl .nil) h) fun r s' hq => ?_)
  cases r with
  | error e => exact hx pins σ H s e s' I hq
  | ok fl =>
    cases fl with
    | ret w => exact I.after hq
    | next => exact False.elim hq
    | brk => exact False.elim hq
    | cont => exact False.elim hq
/-- what tells a text -/
def TxQ (Q : VK) : VK := fun v H' => ∃ t : Str, v = .str t ∧ Q v H'
theorem txBack {pins : List (Addr × Obj)} {σ : L2.St} {Q : VK} {v : Value} {s' : Shared} (h : EP X pins σ (TxQ Q) v s') : PySem.W.StrBack (EP X pins σ Q) v s' := by
  obtain ⟨z, H', I', rz, t, ez, qz⟩ := h
  subst ez
  obtain ⟨tk, e⟩ := (show ∃ tk, v = Value.str t tk from rz)
  cases e
  exact ⟨.str t, H', I', ⟨tk, rfl⟩, qz⟩
def rStrO (C : Addr) (sp : Sp) : List V → Hp → VK → Prop := fun xs H Q => ∃ (a dx : Addr) (fs : List (Str × V)), xs = [V.ref a] ∧ H a = some (.ins C dx fs) ∧ sp [.ref a] H (TxQ Q) E0
theorem call_strO (F : FnOk X.prog X.w X.K X.mg X.base CX0 n f fd ps sp) (hs : PySem.W.findIn X.K (.ref C) "__str__" = some (some (.ref f))) (hf : PySem.W.isFn X.K (.ref f) = true) (hb : Binds X.K fd ps []) (hx : Passes CX0 X E0) (hr : Room (n + 2) X.A) : CallR X (.type "str") (rStrO C sp) := by
  intro pins s σ H xs us Q I r h
  obtain ⟨a, dx, fs, rfl, ha, q⟩ := h
  obtain ⟨u, rfl, ru⟩ := r.one
  cases (show u = Value.ref a from ru)
  obtain ⟨mA, J, _⟩ := ins_get I.hok ha
  obtain ⟨od, J, _⟩ := J.look
  have hr2 : Room n X.A.in1.in1 := (show Room (n + 1) X.A.in1 from Room.in1 hr).in1
  exact PySem.W.kso_call hr2.units0 I.kIn J hs hf (wpAny_mono (run_own F hb hr2 I.env0.in1.in1 hx I q) (fun w s' z => txBack z) fun _ _ x => x)
end
section
variable {X : Cx} {E : En} {Γ : Gm} {M : Ow} {e : Expr} {pos p : Pos} {Φ : Rep → Ow → Prop} {k : Nat} {C : Addr} {c : Con}
theorem caw_own {sp : Sp} {ρ : Rep} (hsp : sp = conSp c) (s1 : ∃ l, MM.Sub ρ (RIns C l)) (ck : CallK c [ρ] M fun ρ' M' => (∃ t, MM.Sub ρ' (RS t)) ∧ Φ ρ' M') : CaW E Γ M (rStrO C sp) [ρ] Φ := fun σ G H a vs hv Q q => by
  subst hsp
  match vs, hv with
  | [v], ⟨hv, _⟩ =>
    obtain ⟨l, s1⟩ := s1
    obtain ⟨b, dx, fs, e1, h1, r1⟩ := s1 _ _ hv
    have cr := callK_run (EE := E0) (Q := TxQ Q) ck a (vs := [v]) ⟨hv, trivial⟩ fun ρ4 M4 v4 G5 H5 ⟨⟨t, st⟩, hφ⟩ s4 a4 r4 => ⟨t, st _ _ r4, q ρ4 M4 v4 G5 H5 hφ s4 a4 r4⟩
    subst e1
    exact ⟨b, dx, fs, rfl, a.gh _ _ h1, cr⟩
/-- str(x) -/
theorem we_strO (F : KnO X.prog X.w X.K X.mg X.base k C "__str__" c) (hr : Room (k + 2) X.A) (hg : Gl X "str") (hm : X.mg "str" = none) (hx : Passes CX0 X E0)
    (h : WE X E Γ M e fun ρ M1 => (∃ l, MM.Sub ρ (RIns C l)) ∧ CallK c [ρ] M1 fun ρ' M' => (∃ t, MM.Sub ρ' (RS t)) ∧ Φ ρ' M')
    (he : starEach [e] X.env = (false, eval e X.env) :: starEach [] X.env := by rfl) (hpl : (backTo pos (starEach [] X.env)).any (·.1) = false := by rfl) : WE X E Γ M (.Call (.Name "str" p) [e] [] pos) Φ := by
  obtain ⟨f, fd, ps, hs, hf, hb, ok⟩ := F
  refine we_callTy (call_strO ok hs hf hb hx hr) hg hm (by decide +kernel) (wa_cons ?_ he) (by decide) (by decide) he hpl
  intro σ G H at_ Q q
  exact h σ G H at_ Q fun ρ M' v G' H' ⟨s1, ck⟩ => q ρ M' v G' H' (wa_nil (caw_own rfl s1 ck))
/-- str(i) -/
theorem we_strI (hg : Gl X "str") (hm : X.mg "str" = none) (h : WE X E Γ M e fun ρ M1 => ∃ i : Int, MM.Sub ρ (RI i) ∧ i.natAbs.log2 < 1920 ∧ Φ (RS (Str.ofString (toString i))) M1)
    (he : starEach [e] X.env = (false, eval e X.env) :: starEach [] X.env := by rfl) (hpl : (backTo pos (starEach [] X.env)).any (·.1) = false := by rfl) : WE X E Γ M (.Call (.Name "str" p) [e] [] pos) Φ := by
  refine we_callTy call_str_int hg hm (by decide +kernel) (wa_cons ?_ he) (by decide) (by decide) he hpl
  intro σ G H at_ Q q
  refine h σ G H at_ Q fun ρ M' v G' H' ⟨i, sb, hl, hk⟩ => q ρ M' v G' H' (wa_nil fun σ2 G2 H2 a2 vs hv Q2 q2 => ?_)
  match vs, hv with
  | [x], ⟨hv, _⟩ =>
    have e1 : x = .int i := sb _ _ hv
    subst e1
    exact ⟨i, rfl, hl, q2 _ _ _ _ _ hk (Same.refl _) a2 rfl⟩
/-- {i} in an f-string -/
theorem we_fmtI (h : WE X E Γ M e fun ρ M1 => ∃ i : Int, MM.Sub ρ (RI i) ∧ i.natAbs.log2 < 1920 ∧ Φ (RS (Str.ofString (toString i))) M1) : WE X E Γ M (.FormattedValue e (-1) none pos) Φ :=
  we_of (pe_fmt pe_w) fun σ G H a Q q => h σ G H a _ fun ρ M1 v G1 H1 ⟨i, sb, hl, hk⟩ s1 a1 r1 => .inr ⟨i, sb _ _ r1, hl, q _ M1 _ G1 H1 hk s1 a1 rfl⟩
/-- the parts of an f-string -/
def WJ (X : Cx) (E : En) (Γ : Gm) : Ow → List Expr → Str → (Str → Ow → Prop) → Prop
  | M, [], acc, Φ => Φ acc M
  | M, e :: es, acc, Φ => WE X E Γ M e fun ρ M' => ∃ y : Str, MM.Sub ρ (RS y) ∧ (acc ++ y).length ≤ sizeLine ∧ WJ X E Γ M' es (acc ++ y) Φ
theorem pj_w : ∀ es : List Expr, PJ X es (es.map (tW X))
  | [] => .nil
  | _ :: es => .cons pe_w (pj_w es)
theorem wj_run : ∀ (es : List Expr) (acc : Str) (M : Ow) (Ξ : Str → Ow → Prop), WJ X E Γ M es acc Ξ → ∀ σ G H, At E Γ M σ G H → ∀ Q : Str → Hp → Prop, (∀ out M' G' H', Ξ out M' → Same G G' → At E Γ M' σ G' H' → Q out H') → tJs (es.map (tW X)) acc σ H Q
  | [], acc, M, Ξ, h, σ, G, H, a, Q, q => q acc M G H h (Same.refl _) a
  | e :: es, acc, M, Ξ, h, σ, G, H, a, Q, q => h σ G H a _ fun ρ M1 v G1 H1 ⟨y, sb, hl, hk⟩ s1 a1 r1 => ⟨y, sb _ _ r1, hl, wj_run es (acc ++ y) M1 Ξ hk σ G1 H1 a1 Q fun out M2 G2 H2 h2 s2 a2 => q out M2 G2 H2 h2 (s1.trans s2) a2⟩
/-- f'..' -/
theorem we_joined {v1 v2 : Expr} {rest : List Expr} (h : WJ X E Γ M (v1 :: v2 :: rest) Str.empty fun out M' => Φ (RS out) M') : WE X E Γ M (.JoinedStr (v1 :: v2 :: rest) pos) Φ :=
  we_of (pe_joined (pj_w _)) fun σ G H a Q q => wj_run _ _ _ _ h σ G H a _ fun out M' G' H' hk s1 a1 => q _ M' _ G' H' hk s1 a1 rfl
end
end MM

namespace MM
open PySem L2 PyProof.Rows
/-! ### methods of texts; truths as texts -/
def boT (b : Bool) : Str := if b then "True" else "False"
section
variable {X : Cx}
theorem call_str_bl : CallR X (.type "str") (fun xs H Q => ∃ b, xs = [.bl b] ∧ Q (.str (boT b)) H) := by
  intro pins s σ H xs us Q I r h
  obtain ⟨b, rfl, q⟩ := h
  obtain ⟨u, rfl, ru⟩ := r.one
  cases (show u = Value.bool b from ru)
  exact PySem.P.str_of_bool ⟨.str (boT b), H, I.tok _, ⟨_, rfl⟩, q⟩
theorem pe_fmtBl {e : Expr} {te : TE} {pos : Pos} (he : PE X e te) : PE X (.FormattedValue e (-1) none pos) (fun σ H Q => te σ H fun x H1 => ∃ b, x = .bl b ∧ Q (.str (boT b)) H1) := by
  refine ⟨fun pins s σ H Q I h => wpAny_FormattedValue_plain (thn (he.run pins s σ H _ I h) fun v s1 hv => ?_)⟩
  obtain ⟨x, H1, I1, r1, b, rfl, q⟩ := hv
  cases (show v = Value.bool b from r1)
  exact wpAny_formatField_bool ⟨.str (boT b), H1, I1.tok _, ⟨_, rfl⟩, q⟩
end
theorem rvals_strs {G : Hp} : ∀ {ys : List Str} {vs : List V}, Reps (ys.map RS) vs G → vs = ys.map V.str
  | [], [], _ => rfl
  | [], _ :: _, h => h.elim
  | _ :: _, [], h => h.elim
  | y :: ys, v :: vs, ⟨h1, h2⟩ => by
    have h1 : v = .str y := h1
    rw [h1, rvals_strs h2]
    rfl
section
variable {X : Cx} {E : En} {Γ : Gm} {M : Ow} {e : Expr} {pos p : Pos} {Φ : Rep → Ow → Prop}
/-- str(b) -/
theorem we_strB (hg : Gl X "str") (hm : X.mg "str" = none) (h : WE X E Γ M e fun ρ M1 => ∃ b : Bool, MM.Sub ρ (RB b) ∧ Φ (RS (boT b)) M1)
    (he : starEach [e] X.env = (false, eval e X.env) :: starEach [] X.env := by rfl) (hpl : (backTo pos (starEach [] X.env)).any (·.1) = false := by rfl) : WE X E Γ M (.Call (.Name "str" p) [e] [] pos) Φ := by
  refine we_callTy call_str_bl hg hm (by decide +kernel) (wa_cons ?_ he) (by decide) (by decide) he hpl
  intro σ G H at_ Q q
  refine h σ G H at_ Q fun ρ M' v G' H' ⟨b, sb, hk⟩ => q ρ M' v G' H' (wa_nil fun σ2 G2 H2 a2 vs hv Q2 q2 => ?_)
  match vs, hv with
  | [x], ⟨hv, _⟩ => exact ⟨b, by rw [show x = .bl b from sb _ _ hv], q2 _ _ _ _ _ hk (Same.refl _) a2 rfl⟩
/-- {b} in an f-string -/
theorem we_fmtB (h : WE X E Γ M e fun ρ M1 => ∃ b : Bool, MM.Sub ρ (RB b) ∧ Φ (RS (boT b)) M1) : WE X E Γ M (.FormattedValue e (-1) none pos) Φ :=
  we_of (pe_fmtBl pe_w) fun σ G H a Q q => h σ G H a _ fun ρ M1 v G1 H1 ⟨b, sb, hk⟩ s1 a1 r1 => ⟨b, sb _ _ r1, q _ M1 _ G1 H1 hk s1 a1 rfl⟩
/-- {text} in an f-string -/
theorem we_fmtS (h : WE X E Γ M e fun ρ M1 => ∃ y : Str, MM.Sub ρ (RS y) ∧ y.length ≤ sizeLine ∧ Φ (RS y) M1) : WE X E Γ M (.FormattedValue e (-1) none pos) Φ :=
  we_of (pe_fmt pe_w) fun σ G H a Q q => h σ G H a _ fun ρ M1 v G1 H1 ⟨y, sb, hl, hk⟩ s1 a1 r1 => .inl ⟨y, sb _ _ r1, hl, q _ M1 _ G1 H1 hk s1 a1 rfl⟩
theorem mtw_zfill {a : Str} {i : Int} (hp : PadOk i = true) (k : Φ (RS (Txt.zfill a i)) M) : MtW E Γ M (fun x xs H Q => ∃ (a : Str) (i : Int), x = .str a ∧ xs = [.int i] ∧ PadOk i = true ∧ Q (.str (Txt.zfill a i)) H) (RS a) [RI i] Φ := fun σ G H at_ x vs hx hv Q q => by
  match vs, hv with
  | [v], ⟨hv, _⟩ => exact ⟨a, i, hx, by rw [show v = .int i from hv], hp, q _ _ _ _ _ k (Same.refl _) at_ rfl⟩
theorem mtw_join {K : PySem.W.Frag} {a : Str} {ys : List Str} (hl : (ys.map (·.length)).sum + ys.length * a.length ≤ 16777216) (k : Φ (RS (Txt.join a ys)) M) : MtW E Γ M (fun x xs H Q => ∃ a p, ∃ ys : List Str, x = .str a ∧ xs = [.ref p] ∧ (SqL K H p (ys.map V.str) ∨ SqT K H p (ys.map V.str)) ∧ (ys.map (·.length)).sum + ys.length * a.length ≤ 16777216 ∧ Q (.str (Txt.join a ys)) H) (RS a) [RLt (ys.map RS)] Φ := fun σ G H at_ x vs hx hv Q q => by
  match vs, hv with
  | [v], ⟨⟨p, zs, e1, h1, r1⟩, _⟩ =>
    subst e1
    rw [rvals_strs r1] at h1
    exact ⟨a, p, ys, hx, rfl, .inl (SqL.of (at_.gh _ _ h1)), hl, q _ _ _ _ _ k (Same.refl _) at_ rfl⟩
/-- text.zfill(i) -/
theorem we_zfill {o : Expr} {apos : Pos} (h : WE X E Γ M o fun ρ M1 => ∃ a : Str, ρ = RS a ∧ WE X E Γ M1 e fun ρi M2 => ∃ i : Int, ρi = RI i ∧ PadOk i = true ∧ Φ (RS (Txt.zfill a i)) M2)
    (hbase : attributeBase o "zfill" X.env (eval o X.env) = eval o X.env := by rfl)
    (hfew : ((backTo pos (starEach [e] X.env)).all (fun x => !x.1) && (backToKw pos (keywordEach [] X.env)).all (fun x => x.1.isSome)
      && decide ([e].length + ([] : List Keyword).length + (if ([] : List Keyword).isEmpty then 0 else 1) < 30)) = true := by rfl)
    (hline : (apos.endLine == pos.line) = true := by rfl) (hs : starEach [e] X.env = (false, eval e X.env) :: starEach [] X.env := by rfl) (hplain : (backTo pos (starEach [] X.env)).any (·.1) = false := by rfl) :
    WE X E Γ M (.Call (.Attribute o "zfill" apos) [e] [] pos) Φ := by
  refine we_bm PySem.F.plainAttrs_str PySem.F.slot_str_zfill PySem.F.type_str_zfill mt_zfill ?_ hbase hfew hline hs hplain
  intro σ G H at_ Q q
  refine h σ G H at_ Q fun ρ M' v G' H' ⟨a, ea, hh⟩ => q ρ M' v G' H' ?_
  subst ea
  refine ⟨tyw_str, wa_cons ?_ hs⟩
  intro σ2 G2 H2 at2 Q2 q2
  refine hh σ2 G2 H2 at2 Q2 fun ρ2 M2 v2 G3 H3 ⟨i, ei, hp, hk⟩ => q2 ρ2 M2 v2 G3 H3 ?_
  subst ei
  exact wa_nil (mtw_zfill hp hk)
end
theorem join0 : ∀ ys : List Str, Txt.join Str.empty ys = ys.foldr (· ++ ·) Str.empty := fun ys => by
  rw [TL.join_eq]
  induction ys with
  | nil => rfl
  | cons y ys ih =>
    cases ys with
    | nil => exact (Str.append_empty y).symm
    | cons z r =>
      show y ++ Str.empty ++ Str.join Str.empty (z :: r) = y ++ _
      rw [Str.append_empty, ih]
end MM

namespace MM
open PySem L2 PyProof.Rows
/-! ### repr(x) of an own instance -/
section
open PySem.W
variable {prog : Program} {w : World} {A : Around} {E : Value → Shared → Prop} {s : Shared} {K : PySem.W.Frag} {x C f : Addr} {ox : Obj} {od : Option Obj}
theorem repr_own {Q : Value → Shared → Prop} (hu : A.in1.units < cLine) (X : K.In s.heap) (I : InstAt s.heap x ox C od) (hs : findIn K (.ref C) "__repr__" = some (some (.ref f))) (hf : isFn K (.ref f) = true)
    (h : wpAny (model prog w) A.in1 (call (.ref f) [.ref x]) (StrBack Q) E s) : wpAny (model prog w) A (call (.builtin "repr") [.ref x]) Q E s := by
  have last : wpAny (model prog w) A.in1 (callSpecialIfBound? (.ref x) (Str.ofString "__repr__") []) (fun r s' => ∃ y t, r = some (.str y t) ∧ Q (.str y t) s') E s := ifBound_K X I hs hf (wpAny_mono h (fun r s' hr => by cases r <;> first | exact hr.elim | exact ⟨_, _, rfl, hr⟩) fun _ _ z => z)
  refine Calls.call_function_entry PySem.F.kind_repr PySem.F.plain_repr PySem.F.entry_repr (PySem.F.args_repr1 _) ?_
  unfold Builtin.«repr»
  refine wpAny_bind (m := oneArg "repr" _) (wpAny_pure ?_)
  refine wpAny_bind (m := cRoomFor _ _) (wpAny_cRoomFor hu ?_)
  refine wpAny_bind (m := specialOf (.ref x) (Str.ofString "__repr__")) (wpAny_bind (I.type.here ((looks_findIn X hs).here ?_)))
  refine wpAny_bind (m := callSpecialIfBound? (.ref x) (Str.ofString "__repr__") []) (wpAny_mono last (fun r s' ⟨y, t, er, q⟩ => ?_) fun _ _ z => z)
  subst er
  refine wpAny_bind (wpAny_isInstance (T := "str") (b := true) (typeIs_str _ _ _) isSubtype_str_str ?_)
  exact wpAny_pure ⟨_, rfl, q⟩
end
section
variable {X : Cx} {n : Nat} {C f a : Addr} {fd : FuncData} {ps : List Str} {sp : Sp}
theorem call_reprO (F : FnOk X.prog X.w X.K X.mg X.base CX0 n f fd ps sp) (hs : PySem.W.findIn X.K (.ref C) "__repr__" = some (some (.ref f))) (hf : PySem.W.isFn X.K (.ref f) = true) (hb : Binds X.K fd ps []) (hx : Passes CX0 X E0) (hr : Room (n + 1) X.A) : CallR X (.builtin "repr") (rStrO C sp) := by
  intro pins s σ H xs us Q I r h
  obtain ⟨a, dx, fs, rfl, ha, q⟩ := h
  obtain ⟨u, rfl, ru⟩ := r.one
  cases (show u = Value.ref a from ru)
  obtain ⟨mA, J, _⟩ := ins_get I.hok ha
  obtain ⟨od, J, _⟩ := J.look
  have hr1 : Room n X.A.in1 := Room.in1 hr
  exact repr_own hr1.units0 I.kIn J hs hf (wpAny_mono (run_own F hb hr1 I.env0.in1 hx I q) (fun w s' z => txBack z) fun _ _ x => x)
end
section
variable {X : Cx} {E : En} {Γ : Gm} {M : Ow} {e : Expr} {pos p : Pos} {Φ : Rep → Ow → Prop} {k : Nat} {C : Addr} {c : Con}
/-- repr(x) -/
theorem we_reprO (F : KnO X.prog X.w X.K X.mg X.base k C "__repr__" c) (hr : Room (k + 1) X.A) (hg : Gl X "repr") (hm : X.mg "repr" = none) (hx : Passes CX0 X E0)
    (h : WE X E Γ M e fun ρ M1 => (∃ l, MM.Sub ρ (RIns C l)) ∧ CallK c [ρ] M1 fun ρ' M' => (∃ t, MM.Sub ρ' (RS t)) ∧ Φ ρ' M')
    (he : starEach [e] X.env = (false, eval e X.env) :: starEach [] X.env := by rfl) (hpl : (backTo pos (starEach [] X.env)).any (·.1) = false := by rfl) : WE X E Γ M (.Call (.Name "repr" p) [e] [] pos) Φ := by
  obtain ⟨f, fd, ps, hs, hf, hb, ok⟩ := F
  refine we_callB (call_reprO ok hs hf hb hx hr) hg hm (by decide +kernel) (wa_cons ?_ he) (by decide) (by decide) he hpl
  intro σ G H at_ Q q
  exact h σ G H at_ Q fun ρ M' v G' H' ⟨s1, ck⟩ => q ρ M' v G' H' (wa_nil (caw_own rfl s1 ck))
end
/-! ### texts that may be laid -/
theorem strOk_of {s : String} : PyData.strOk (Str.ofString s) = true := by
  rw [Str.ofString_eq_toList]
  unfold PyData.strOk
  rw [Array.all_eq_true_iff_forall_mem]
  intro c hc
  have hc : c ∈ s.toList.map Char.toNat := by simpa using hc
  obtain ⟨d, _, rfl⟩ := List.mem_map.mp hc
  have hv : d.val.toNat < 1114112 := by
    rcases d.valid with h | ⟨_, h⟩ <;> omega
  show decide (d.toNat < 0x110000) = true
  exact decide_eq_true hv
theorem strOk_app {a b : Str} (h1 : PyData.strOk a = true) (h2 : PyData.strOk b = true) : PyData.strOk (a ++ b) = true := by
  unfold PyData.strOk at *
  rw [Str.cps_append, Array.all_append, h1, h2]
  rfl
theorem shaped_so {s : Str} (h : PyData.strOk s = true) : SeqAt.shaped (.str s) = true := by
  simp [SeqAt.shaped, PyData.canLay0, PyData.depth, h]
end MM

namespace MM
open PySem L2 PyProof.Rows PySem.Spec PySem.Calls
section
variable {X : Cx} {E : En} {Γ : Gm} {M : Ow} {Ψ : Ed} {body : List Stmt} {h0 : ExceptHandler} {hs : List ExceptHandler} {pos : Pos}
/-- a try whose body raises nothing -/
theorem ws_try0 (h : WSs X.nox E Γ M body Ψ) : WS X E Γ M (.Try body (h0 :: hs) [] [] pos) Ψ := ws_of (ps_try_thru0 pss_w) h
end
theorem neg_abs {i : Int} (h : i < 0) : -(i.natAbs : Int) = i := by omega
theorem pos_abs {i : Int} (h : ¬ i < 0) : (i.natAbs : Int) = i := by omega
/-! ### figures -/
def sgn (d : Nat) : Nat := if d < 10 then 48 + d else 87 + d
def dv (b n : Nat) : List Nat := if h : n < b ∨ b < 2 then [n] else dv b (n / b) ++ [n % b]
termination_by n
decreasing_by exact Nat.div_lt_self (by omega) (by omega)
theorem dv_lo {b n : Nat} (h : n < b) : dv b n = [n] := by
  rw [dv, dif_pos (.inl h)]
theorem dv_hi {b n : Nat} (hb : 2 ≤ b) (h : b ≤ n) : dv b n = dv b (n / b) ++ [n % b] := by
  rw [dv, dif_neg (by omega)]
theorem dv_all {b : Nat} (hb : 2 ≤ b) (n : Nat) : (∀ d ∈ dv b n, d < b) ∧ (dv b n).foldl (fun a d => a * b + d) 0 = n ∧ dv b n ≠ [] ∧ (1 ≤ n → ∃ d l, dv b n = d :: l ∧ 1 ≤ d) := by
  induction n using Nat.strongRecOn with
  | _ n ih =>
    rcases Nat.lt_or_ge n b with h | h
    · rw [dv_lo h]
      refine ⟨fun d hd => ?_, by simp, by simp, fun h1 => ⟨n, [], rfl, h1⟩⟩
      rw [List.mem_singleton.mp hd]
      exact h
    · rw [dv_hi hb h]
      have hlt : n / b < n := Nat.div_lt_self (by omega) (by omega)
      have h1 : 1 ≤ n / b := (Nat.one_le_div_iff (by omega)).mpr h
      obtain ⟨a1, a2, a3, a4⟩ := ih (n / b) hlt
      refine ⟨fun d hd => ?_, ?_, by simp, fun _ => ?_⟩
      · rcases List.mem_append.mp hd with q | q
        · exact a1 d q
        · rw [List.mem_singleton.mp q]
          exact Nat.mod_lt _ (by omega)
      · rw [List.foldl_append, a2]
        show n / b * b + n % b = n
        have := Nat.div_add_mod n b
        rw [Nat.mul_comm] at this
        exact this
      · obtain ⟨d, l, e, hd⟩ := a4 h1
        exact ⟨d, l ++ [n % b], by rw [e]; rfl, hd⟩
theorem dv_len {b : Nat} (hb : 2 ≤ b) : ∀ {k n : Nat}, n < 2 ^ k → (dv b n).length ≤ k + 1 := by
  intro k
  induction k with
  | zero =>
    intro n h
    have : n < b := by
      have h : n < 1 := h
      omega
    rw [dv_lo this]
    exact Nat.le_refl _
  | succ k ih =>
    intro n h
    rcases Nat.lt_or_ge n b with q | q
    · rw [dv_lo q]
      show 1 ≤ _
      omega
    · rw [dv_hi hb q, List.length_append]
      have h2 : n / b ≤ n / 2 := Nat.div_le_div_left hb (by decide)
      have h3 : n / 2 < 2 ^ k := by
        rw [Nat.pow_succ] at h
        omega
      have := ih (n := n / b) (by omega)
      show _ + 1 ≤ _
      omega
/-- the figures' signs -/
def dg (b n : Nat) : List Nat := (dv b n).map sgn
theorem dg_lo {b n : Nat} (h : n < b) : dg b n = [sgn n] := by unfold dg; rw [dv_lo h]; rfl
theorem dg_hi {b n : Nat} (hb : 2 ≤ b) (h : b ≤ n) : dg b n = dg b (n / b) ++ [sgn (n % b)] := by
  unfold dg
  rw [dv_hi hb h, List.map_append]
  rfl
theorem sgn_in : ∀ d, d < 16 → ((48 ≤ sgn d ∧ sgn d ≤ 57) ∨ (97 ≤ sgn d ∧ sgn d ≤ 102)) ∧ NumText.digit? (sgn d) = some d := by decide
theorem sgn_0 : ∀ d, d < 16 → sgn d = 48 → d = 0 := by decide
def Plain (c : Nat) : Prop := (48 ≤ c ∧ c ≤ 57) ∨ (97 ≤ c ∧ c ≤ 102)
theorem dg_plain {b n : Nat} (hb : 2 ≤ b) (h16 : b ≤ 16) : ∀ c ∈ dg b n, Plain c := by
  intro c hc
  obtain ⟨d, hd, rfl⟩ := List.mem_map.mp hc
  have := (dv_all hb n).1 d hd
  exact (sgn_in d (by omega)).1
theorem drop_no {p : Nat → Bool} {l : List Nat} (h : ∀ c ∈ l, p c = false) : l.dropWhile p = l := by
  cases l with
  | nil => rfl
  | cons c l => rw [List.dropWhile_cons, h c List.mem_cons_self]; rfl
theorem take_all {p : Nat → Bool} {l : List Nat} (h : ∀ c ∈ l, p c = true) : l.takeWhile p = l := by
  induction l with
  | nil => rfl
  | cons c l ih =>
    rw [List.takeWhile_cons, h c List.mem_cons_self]
    show c :: List.takeWhile p l = _
    rw [ih fun d hd => h d (List.mem_cons_of_mem _ hd)]
theorem blank_no {c : Nat} (h : Plain c ∨ c = 45) : NumText.blank c = false := by
  unfold Plain at h
  unfold NumText.blank
  have h1 : (c == 32) = false := beq_eq_false_iff_ne.mpr (by omega)
  have h2 : (decide (9 ≤ c) && decide (c ≤ 13)) = false := by
    rw [Bool.and_eq_false_iff]
    rcases Nat.lt_or_ge 13 c with q | q
    · exact .inr (decide_eq_false (by omega))
    · exfalso
      omega
  rw [h1, h2]
  rfl
theorem step_fig {b d : Nat} {ds : Array Nat} {k : Bool} (hd : d < b) (h16 : b ≤ 16) : NumText.step b (ds, k) (sgn d) = some (ds.push d, true) := by
  have hs := sgn_in d (by omega)
  unfold NumText.step
  rw [if_neg (by rw [beq_iff_eq]; have := hs.1; omega), hs.2]
  exact if_pos hd
theorem fold_fig {b : Nat} (h16 : b ≤ 16) : ∀ (l : List Nat) (ds : Array Nat) (k : Bool), (∀ d ∈ l, d < b) → (l.map sgn).foldlM (NumText.step b) (ds, k) = some (l.foldl (fun a d => a.push d) ds, if l = [] then k else true)
  | [], _, _, _ => rfl
  | d :: l, ds, k, h => by
    rw [List.map_cons, List.foldlM_cons, step_fig (h d List.mem_cons_self) h16]
    show (l.map sgn).foldlM (NumText.step b) (ds.push d, true) = _
    rw [fold_fig h16 l (ds.push d) true fun e he => h e (List.mem_cons_of_mem _ he)]
    simp
theorem push_fold {b : Nat} : ∀ (l : List Nat) (ds : Array Nat), (l.foldl (fun a d => a.push d) ds).foldl (fun acc d => acc * b + d) 0 = l.foldl (fun a d => a * b + d) (ds.foldl (fun acc d => acc * b + d) 0)
  | [], _ => rfl
  | d :: l, ds => by
    rw [List.foldl_cons, push_fold l (ds.push d), List.foldl_cons]
    congr 1
    simp
theorem push_size : ∀ (l : List Nat) (ds : Array Nat), (l.foldl (fun a d => a.push d) ds).size = ds.size + l.length
  | [], _ => rfl
  | d :: l, ds => by
    rw [List.foldl_cons, push_size l (ds.push d), Array.size_push, List.length_cons]
    omega
theorem based_fig {b n : Nat} (hb : 2 ≤ b) (h16 : b ≤ 16) : NumText.based b (dg b n) = (b, false, dg b n) := by
  have pn : NumText.prefix? (dg b n) = none := by
    rcases Nat.lt_or_ge n b with q | q
    · rw [dg_lo q]
      generalize sgn n = c
      unfold NumText.prefix?
      split
      · rename_i e
        cases e
      · rfl
    · obtain ⟨d, l, e, hd⟩ := (dv_all hb n).2.2.2 (by omega)
      have dl := (dv_all hb n).1 d (by rw [e]; exact List.mem_cons_self)
      have eg : dg b n = sgn d :: l.map sgn := by
        unfold dg
        rw [e]
        rfl
      rw [eg]
      unfold NumText.prefix?
      split
      · rename_i e2
        have := sgn_0 d (by omega) (List.cons.inj e2).1
        omega
      · rfl
  unfold NumText.based
  rw [pn]
  have hb0 : (b == 0) = false := beq_eq_false_iff_ne.mpr (by omega)
  show (if (b == 0) = true then _ else (b, false, dg b n)) = _
  rw [hb0]
  rfl
/-- a number's text -/
def figL (b : Nat) (i : Int) : List Nat := (if i < 0 then [45] else []) ++ dg b i.natAbs
theorem figL_plain {b : Nat} {i : Int} (hb : 2 ≤ b) (h16 : b ≤ 16) : ∀ c ∈ figL b i, Plain c ∨ c = 45 := by
  intro c hc
  rcases List.mem_append.mp hc with q | q
  · split at q
    · exact .inr (List.mem_singleton.mp q)
    · cases q
  · exact .inl (dg_plain hb h16 c q)
theorem read_fig {b : Nat} {i : Int} (hb : 2 ≤ b) (h16 : b ≤ 16) (hs : i.natAbs < 2 ^ 5000) : (int_private% "readNumeral") 0 b (figL b i) = (int_private% "Numeral.value") i := by
  obtain ⟨a1, a2, a3, a4⟩ := dv_all hb i.natAbs
  have sg : NumText.sign (figL b i) = (decide (i < 0), dg b i.natAbs) := by
    unfold figL
    by_cases hi : i < 0
    · rw [if_pos hi, decide_eq_true hi]
      rfl
    · rw [if_neg hi, decide_eq_false hi, List.nil_append]
      cases e : dg b i.natAbs with
      | nil =>
        exfalso
        unfold dg at e
        exact a3 (List.map_eq_nil_iff.mp e)
      | cons c l =>
        have hp := dg_plain (n := i.natAbs) hb h16 c (by rw [e]; exact List.mem_cons_self)
        unfold Plain at hp
        unfold NumText.sign
        split
        · rename_i e2
          have := (List.cons.inj e2).1
          omega
        · rename_i e2
          have := (List.cons.inj e2).1
          omega
        · rfl
  have db : (figL b i).dropWhile NumText.blank = figL b i := drop_no fun c hc => blank_no (figL_plain hb h16 c hc)
  have dr : (dg b i.natAbs).reverse.dropWhile NumText.blank = (dg b i.natAbs).reverse := drop_no fun c hc => blank_no (.inl (dg_plain hb h16 c (List.mem_reverse.mp hc)))
  refine (NumText.readNumeral_eq 0 b (figL b i)).trans ?_
  rw [db, sg]
  show NumText.judge 0 (decide (i < 0)) (NumText.based b (dg b i.natAbs)).1 (NumText.based b (dg b i.natAbs)).2.1 (NumText.digits? (NumText.based b (dg b i.natAbs)).1 (((NumText.based b (dg b i.natAbs)).2.2.reverse.dropWhile NumText.blank).reverse)) = _
  rw [based_fig hb h16]
  show NumText.judge 0 (decide (i < 0)) b false (NumText.digits? b (((dg b i.natAbs).reverse.dropWhile NumText.blank).reverse)) = _
  rw [dr, List.reverse_reverse]
  have dd : NumText.digits? b (dg b i.natAbs) = some ((dv b i.natAbs).foldl (fun a d => a.push d) #[]) := by
    unfold NumText.digits? dg
    rw [fold_fig h16 (dv b i.natAbs) #[] false a1, if_neg a3]
    rfl
  rw [dd]
  have sz : ((dv b i.natAbs).foldl (fun a d => a.push d) (#[] : Array Nat)).size ≤ 6000 := by
    rw [push_size]
    have := dv_len hb hs
    show 0 + _ ≤ 6000
    omega
  have val : ((dv b i.natAbs).foldl (fun a d => a.push d) (#[] : Array Nat)).foldl (fun acc d => acc * b + d) 0 = i.natAbs := by
    rw [push_fold]
    have z : (#[] : Array Nat).foldl (fun acc d => acc * b + d) 0 = 0 := by first | rfl | simp
    rw [z, a2]
  unfold NumText.judge
  have c1 : (![2, 4, 8, 16, 32].contains b && (0 : Nat) != 0 && decide (((dv b i.natAbs).foldl (fun a d => a.push d) (#[] : Array Nat)).size > 0)) = false := by
    have : ((0 : Nat) != 0) = false := rfl
    rw [this, Bool.and_false, Bool.false_and]
  have c2 : (b == 10 && decide (((dv b i.natAbs).foldl (fun a d => a.push d) (#[] : Array Nat)).size > 6000)) = false := by
    rw [decide_eq_false (by omega), Bool.and_false]
  simp only [c1, c2, val, Bool.false_and]
  show (int_private% "Numeral.value") (if decide (i < 0) = true then -(i.natAbs : Int) else (i.natAbs : Int)) = _
  by_cases hi : i < 0
  · have e := neg_abs hi
    rw [decide_eq_true hi, if_pos rfl, e]
  · have e := pos_abs hi
    rw [decide_eq_false hi, if_neg (by decide), e]
def figS (b : Nat) (i : Int) : Str := ⟨(figL b i).toArray⟩
theorem figS_len {b : Nat} {i : Int} (hb : 2 ≤ b) {k : Nat} (hs : i.natAbs < 2 ^ k) : (figS b i).length ≤ k + 2 := by
  show (figL b i).toArray.size ≤ _
  rw [List.size_toArray]
  unfold figL
  rw [List.length_append]
  have h := dv_len hb hs
  have e : (dg b i.natAbs).length = (dv b i.natAbs).length := by simp [dg]
  rw [e]
  split
  · show 1 + _ ≤ _
    omega
  · show 0 + _ ≤ _
    omega
theorem seen_fig {b : Nat} {i : Int} (hb : 2 ≤ b) (h16 : b ≤ 16) : numTextOf (figS b i) = figL b i ∧ numSeenOf (figS b i) = figL b i := by
  have e0 : (figS b i).cps.toList = figL b i := rfl
  have e1 : numTextOf (figS b i) = figL b i := by
    refine (if_pos ?_).trans e0
    rw [← Array.all_toList, e0, List.all_eq_true]
    intro c hc
    have := figL_plain hb h16 c hc
    unfold Plain at this
    exact decide_eq_true (by omega)
  refine ⟨e1, ?_⟩
  show (numTextOf (figS b i)).takeWhile _ = _
  rw [e1]
  refine take_all fun c hc => ?_
  have := figL_plain hb h16 c hc
  unfold Plain at this
  exact bne_iff_ne.mpr (by omega)
end MM

namespace MM
open PySem L2 PyProof.Rows
/-! ### least common multiples, days common to wheels -/
def lcmL : List Nat → Nat
  | [] => 1
  | x :: l => Nat.lcm x (lcmL l)
theorem lcmL_app : ∀ l m : List Nat, lcmL (l ++ m) = Nat.lcm (lcmL l) (lcmL m)
  | [], m => (Nat.lcm_one_left _).symm
  | x :: l, m => by
    show Nat.lcm x (lcmL (l ++ m)) = Nat.lcm (Nat.lcm x (lcmL l)) (lcmL m)
    rw [lcmL_app l m, Nat.lcm_assoc]
theorem lcmL_one (x : Nat) : lcmL [x] = x := Nat.lcm_one_right x
theorem lcmL_dvd : ∀ {l : List Nat} {m : Nat}, (∀ x ∈ l, x ∣ m) → lcmL l ∣ m
  | [], _, _ => Nat.one_dvd _
  | x :: l, m, h => Nat.lcm_dvd (h x List.mem_cons_self) (lcmL_dvd fun y hy => h y (List.mem_cons_of_mem _ hy))
theorem dvd_lcmL : ∀ {l : List Nat} {x : Nat}, x ∈ l → x ∣ lcmL l
  | y :: l, x, h => by
    rcases List.mem_cons.mp h with e | e
    · subst e
      exact Nat.dvd_lcm_left _ _
    · exact Nat.dvd_trans (dvd_lcmL e) (Nat.dvd_lcm_right _ _)
theorem lcmL_pos : ∀ {l : List Nat}, (∀ x ∈ l, 0 < x) → 0 < lcmL l
  | [], _ => Nat.one_pos
  | x :: l, h => Nat.lcm_pos (h x List.mem_cons_self) (lcmL_pos fun y hy => h y (List.mem_cons_of_mem _ hy))
theorem lcmL_le {N : Nat} : ∀ {l : List Nat}, (∀ x ∈ l, 0 < x ∧ x ≤ N) → lcmL l ≤ N ^ l.length
  | [], _ => Nat.le_refl _
  | x :: l, h => by
    have h1 := h x List.mem_cons_self
    have ih := lcmL_le (N := N) (l := l) fun y hy => h y (List.mem_cons_of_mem _ hy)
    have p := lcmL_pos (l := l) fun y hy => (h y (List.mem_cons_of_mem _ hy)).1
    refine Nat.le_trans (Nat.lcm_le_mul h1.1 p) ?_
    rw [List.length_cons, Nat.pow_succ, Nat.mul_comm]
    exact Nat.mul_le_mul ih h1.2
theorem gcd_lcm_dvd {a b n : Nat} : Nat.gcd (Nat.lcm a b) n ∣ Nat.lcm (Nat.gcd a n) (Nat.gcd b n) := by
  generalize hg : Nat.gcd (Nat.lcm a b) n = g
  have g1 : g ∣ Nat.lcm a b := hg ▸ Nat.gcd_dvd_left _ _
  have g2 : g ∣ n := hg ▸ Nat.gcd_dvd_right _ _
  have up : Nat.lcm (Nat.gcd a g) (Nat.gcd b g) ∣ Nat.lcm (Nat.gcd a n) (Nat.gcd b n) :=
    Nat.lcm_dvd (Nat.dvd_trans (Nat.gcd_dvd_gcd_of_dvd_right a g2) (Nat.dvd_lcm_left _ _)) (Nat.dvd_trans (Nat.gcd_dvd_gcd_of_dvd_right b g2) (Nat.dvd_lcm_right _ _))
  refine Nat.dvd_trans ?_ up
  clear up hg g2
  rcases Nat.eq_zero_or_pos g with z | gp
  · subst z
    have z : Nat.lcm a b = 0 := Nat.eq_zero_of_zero_dvd g1
    rw [Nat.gcd_zero_right, Nat.gcd_zero_right, z]
    exact Nat.dvd_refl 0
  · have dp : 0 < Nat.gcd (Nat.gcd a g) (Nat.gcd b g) := Nat.gcd_pos_of_pos_left _ (Nat.gcd_pos_of_pos_right _ gp)
    have e1 : Nat.gcd (Nat.gcd a g) (Nat.gcd b g) ∣ Nat.gcd a b := Nat.dvd_gcd (Nat.dvd_trans (Nat.gcd_dvd_left _ _) (Nat.gcd_dvd_left _ _)) (Nat.dvd_trans (Nat.gcd_dvd_right _ _) (Nat.gcd_dvd_left _ _))
    generalize he : Nat.gcd (Nat.gcd a g) (Nat.gcd b g) = e at e1 dp
    have ea : e ∣ a := Nat.dvd_trans e1 (Nat.gcd_dvd_left _ _)
    have eb : e ∣ b := Nat.dvd_trans e1 (Nat.gcd_dvd_right _ _)
    have eg : e ∣ g := he ▸ Nat.dvd_trans (Nat.gcd_dvd_left _ _) (Nat.gcd_dvd_right _ _)
    have k1 : g * e ∣ a * b := by
      rw [← Nat.lcm_mul_gcd a b]
      exact Nat.mul_dvd_mul g1 e1
    have k2 : g * e ∣ a * g := by
      rw [Nat.mul_comm a g]
      exact Nat.mul_dvd_mul_left g ea
    have k3 : g * e ∣ g * b := Nat.mul_dvd_mul_left g eb
    have k4 : g * e ∣ g * g := Nat.mul_dvd_mul_left g eg
    have k5 : g * e ∣ Nat.gcd a g * Nat.gcd b g := by
      rw [← Nat.gcd_mul_right]
      refine Nat.dvd_gcd ?_ ?_
      · rw [← Nat.gcd_mul_left]
        exact Nat.dvd_gcd k1 k2
      · rw [← Nat.gcd_mul_left]
        exact Nat.dvd_gcd k3 k4
    rw [← Nat.lcm_mul_gcd (Nat.gcd a g) (Nat.gcd b g), he] at k5
    exact Nat.dvd_of_mul_dvd_mul_right dp k5
theorem gcd_lcmL {n m : Nat} : ∀ {l : List Nat}, (∀ x ∈ l, Nat.gcd x n ∣ m) → Nat.gcd (lcmL l) n ∣ m
  | [], _ => by
    show Nat.gcd 1 n ∣ m
    rw [Nat.gcd_one_left]
    exact Nat.one_dvd _
  | x :: l, h => Nat.dvd_trans gcd_lcm_dvd (Nat.lcm_dvd (h x List.mem_cons_self) (gcd_lcmL fun y hy => h y (List.mem_cons_of_mem _ hy)))
theorem bez (a b : Nat) : ∃ x y : Int, (a : Int) * x + (b : Int) * y = (Nat.gcd a b : Nat) := by
  induction a, b using Nat.gcd.induction with
  | H0 n => exact ⟨0, 1, by rw [Nat.gcd_zero_left]; omega⟩
  | H1 m n hm ih =>
    obtain ⟨x, y, e⟩ := ih
    refine ⟨y - (n / m : Nat) * x, x, ?_⟩
    rw [Nat.gcd_rec m n, ← e]
    have d : (n : Int) = (m : Int) * (n / m : Nat) + (n % m : Nat) := by
      have := Nat.div_add_mod n m
      exact_mod_cast this.symm
    generalize hq : ((n / m : Nat) : Int) = q at d
    generalize hr : ((n % m : Nat) : Int) = r at d
    rw [d]
    grind
/-- so many steps of s lead from a day to one that has a rest by n -/
theorem steps {s n : Nat} {day rest : Int} (hn : 0 < n) (h : ((Nat.gcd s n : Nat) : Int) ∣ rest - day) : ∃ t : Nat, (n : Int) ∣ day + (t : Int) * s - rest := by
  obtain ⟨x, y, e⟩ := bez s n
  obtain ⟨c, hc⟩ := h
  have hn' : (0 : Int) < n := by omega
  refine ⟨((x * c) % (n : Int)).toNat, ?_⟩
  rw [Int.toNat_of_nonneg (Int.emod_nonneg _ (by omega))]
  have d := Int.mul_ediv_add_emod (x * c) (n : Int)
  generalize (x * c) / (n : Int) = q at d
  generalize (x * c) % (n : Int) = r at d
  refine ⟨-(y * c) - q * s, ?_⟩
  have e2 : rest = day + ((s : Int) * x + (n : Int) * y) * c := by rw [e]; omega
  rw [e2]
  grind
/-! ### rests that agree -/
def okP (s : List Nat) (r : List Int) (i j : Nat) : Prop := ((Nat.gcd (s.getD i 0) (s.getD j 0) : Nat) : Int) ∣ r.getD i 0 - r.getD j 0
def AllOk (s : List Nat) (r : List Int) : Prop := ∀ i j, i < j → j < s.length → okP s r i j
structure FirstBad (s : List Nat) (r : List Int) (i j : Nat) : Prop where
  lt : i < j
  le : j < s.length
  bad : ¬ okP s r i j
  ok1 : ∀ i' j', i' < i → i' < j' → j' < s.length → okP s r i' j'
  ok2 : ∀ j', i < j' → j' < j → okP s r i j'
theorem FirstBad.uniq {s : List Nat} {r : List Int} {i j i' j' : Nat} (a : FirstBad s r i j) (b : FirstBad s r i' j') : i = i' ∧ j = j' := by
  rcases Nat.lt_trichotomy i i' with h | h | h
  · exact absurd (b.ok1 i j h a.lt a.le) a.bad
  · subst h
    rcases Nat.lt_trichotomy j j' with k | k | k
    · exact absurd (b.ok2 j a.lt k) a.bad
    · exact ⟨rfl, k⟩
    · exact absurd (a.ok2 j' b.lt k) b.bad
  · exact absurd (a.ok1 i' j' h b.lt b.le) b.bad
theorem FirstBad.not {s : List Nat} {r : List Int} {i j : Nat} (a : FirstBad s r i j) : ¬ AllOk s r := fun h => a.bad (h i j a.lt a.le)
theorem okP_same {s : List Nat} {r r' : List Int} (h : ∀ i, i < s.length → ((s.getD i 0 : Nat) : Int) ∣ r.getD i 0 - r'.getD i 0) {i j : Nat} (hi : i < s.length) (hj : j < s.length) : okP s r i j ↔ okP s r' i j := by
  have a := Int.dvd_trans (Int.natCast_dvd_natCast.mpr (Nat.gcd_dvd_left (s.getD i 0) (s.getD j 0))) (h i hi)
  have b := Int.dvd_trans (Int.natCast_dvd_natCast.mpr (Nat.gcd_dvd_right (s.getD i 0) (s.getD j 0))) (h j hj)
  unfold okP
  generalize ((Nat.gcd (s.getD i 0) (s.getD j 0) : Nat) : Int) = g at a b ⊢
  constructor
  · intro c
    have : r'.getD i 0 - r'.getD j 0 = (r.getD i 0 - r.getD j 0) - (r.getD i 0 - r'.getD i 0) + (r.getD j 0 - r'.getD j 0) := by omega
    rw [this]
    exact Int.dvd_add (Int.dvd_sub c a) b
  · intro c
    have : r.getD i 0 - r.getD j 0 = (r'.getD i 0 - r'.getD j 0) + (r.getD i 0 - r'.getD i 0) - (r.getD j 0 - r'.getD j 0) := by omega
    rw [this]
    exact Int.dvd_sub (Int.dvd_add c a) b
theorem AllOk.same {s : List Nat} {r r' : List Int} (h : ∀ i, i < s.length → ((s.getD i 0 : Nat) : Int) ∣ r.getD i 0 - r'.getD i 0) (a : AllOk s r) : AllOk s r' := fun i j lt le => (okP_same h (by omega) le).mp (a i j lt le)
theorem FirstBad.same {s : List Nat} {r r' : List Int} (h : ∀ i, i < s.length → ((s.getD i 0 : Nat) : Int) ∣ r.getD i 0 - r'.getD i 0) {i j : Nat} (a : FirstBad s r i j) : FirstBad s r' i j where
  lt := a.lt
  le := a.le
  bad := fun z => a.bad ((okP_same h (by have := a.lt; have := a.le; omega) a.le).mpr z)
  ok1 := fun i' j' k1 k2 k3 => (okP_same h (by omega) k3).mp (a.ok1 i' j' k1 k2 k3)
  ok2 := fun j' k1 k2 => (okP_same h (by have := a.lt; have := a.le; omega) (by have := a.le; omega)).mp (a.ok2 j' k1 k2)
/-- a day that has the first rests by the first sizes -/
def Has (s : List Nat) (r : List Int) (k : Nat) (day : Int) : Prop := ∀ i, i < k → ((s.getD i 0 : Nat) : Int) ∣ day - r.getD i 0
theorem take_mem_getD {s : List Nat} {k x : Nat} (hk : k ≤ s.length) (h : x ∈ s.take k) : ∃ i, i < k ∧ s.getD i 0 = x := by
  obtain ⟨i, hi⟩ := List.getElem?_of_mem h
  rw [List.getElem?_take] at hi
  split at hi
  · rename_i lt
    exact ⟨i, lt, by rw [List.getD_eq_getElem?_getD, hi, Option.getD_some]⟩
  · cases hi
theorem getD_take_mem {s : List Nat} {k i : Nat} (hk : k ≤ s.length) (h : i < k) : s.getD i 0 ∈ s.take k := by
  refine List.mem_of_getElem? (i := i) ?_
  rw [List.getElem?_take, if_pos h, List.getD_eq_getElem?_getD, List.getElem?_eq_getElem (by omega), Option.getD_some]
/-- the next wheel, too -/
theorem Has.more {s : List Nat} {r : List Int} {k : Nat} {day : Int} (hk : k < s.length) (pos : 0 < s.getD k 0) (h : Has s r k day) (ok : ∀ i, i < k → okP s r i k) : ∃ t : Nat, ((s.getD k 0 : Nat) : Int) ∣ day + (t : Int) * (lcmL (s.take k) : Nat) - r.getD k 0 := by
  refine steps pos ?_
  have all : Nat.gcd (lcmL (s.take k)) (s.getD k 0) ∣ (r.getD k 0 - day).natAbs := by
    refine gcd_lcmL fun x hx => ?_
    obtain ⟨i, hi, rfl⟩ := take_mem_getD (by omega) hx
    have a := Int.dvd_trans (Int.natCast_dvd_natCast.mpr (Nat.gcd_dvd_left (s.getD i 0) (s.getD k 0))) (h i hi)
    have b := ok i hi
    unfold okP at b
    have c : ((Nat.gcd (s.getD i 0) (s.getD k 0) : Nat) : Int) ∣ r.getD k 0 - day := by
      have : r.getD k 0 - day = -((day - r.getD i 0) + (r.getD i 0 - r.getD k 0)) := by omega
      rw [this]
      exact Int.dvd_neg.mpr (Int.dvd_add a b)
    exact Int.ofNat_dvd_left.mp c
  exact Int.ofNat_dvd_left.mpr all
theorem Has.step {s : List Nat} {r : List Int} {k : Nat} {day : Int} (hk : k ≤ s.length) (h : Has s r k day) (c : Int) : Has s r k (day + c * (lcmL (s.take k) : Nat)) := fun i hi => by
  have a := h i hi
  have b : ((s.getD i 0 : Nat) : Int) ∣ (lcmL (s.take k) : Nat) := Int.natCast_dvd_natCast.mpr (dvd_lcmL (getD_take_mem hk hi))
  have : day + c * (lcmL (s.take k) : Nat) - r.getD i 0 = (day - r.getD i 0) + c * (lcmL (s.take k) : Nat) := by omega
  rw [this]
  exact Int.dvd_add a (Int.dvd_mul_of_dvd_right b)
theorem lcmL_take {s : List Nat} {k : Nat} (hk : k < s.length) : lcmL (s.take (k + 1)) = Nat.lcm (lcmL (s.take k)) (s.getD k 0) := by
  rw [List.take_add_one, List.getElem?_eq_getElem hk, lcmL_app]
  show Nat.lcm _ (lcmL [s[k]]) = _
  rw [lcmL_one, List.getD_eq_getElem?_getD, List.getElem?_eq_getElem hk, Option.getD_some]
/-- the day that is told -/
theorem Has.told {s : List Nat} {r : List Int} {day after : Int} (h : Has s r s.length day) : Has s r s.length (after + (day - after) % (lcmL s : Nat)) := by
  have e := Int.mul_ediv_add_emod (day - after) (lcmL s : Nat)
  have := h.step (Nat.le_refl _) (-((day - after) / (lcmL s : Nat)))
  rw [List.take_length] at this
  have e2 : after + (day - after) % (lcmL s : Nat) = day + -((day - after) / (lcmL s : Nat)) * (lcmL s : Nat) := by
    rw [Int.neg_mul, Int.mul_comm ((day - after) / _)]
    omega
  rw [e2]
  exact this
/-! ### the names of a law's wheel -/
theorem sgn_inj : ∀ a, a < 16 → ∀ b, b < 16 → sgn a = sgn b → a = b := by decide
theorem map_sgn_inj : ∀ {l m : List Nat}, (∀ d ∈ l, d < 10) → (∀ d ∈ m, d < 10) → l.map sgn = m.map sgn → l = m
  | [], [], _, _, _ => rfl
  | [], _ :: _, _, _, h => by cases h
  | _ :: _, [], _, _, h => by cases h
  | a :: l, b :: m, h1, h2, h => by
    rw [List.map_cons, List.map_cons, List.cons.injEq] at h
    have e := sgn_inj a (by have := h1 a List.mem_cons_self; omega) b (by have := h2 b List.mem_cons_self; omega) h.1
    rw [e, map_sgn_inj (fun d hd => h1 d (List.mem_cons_of_mem _ hd)) (fun d hd => h2 d (List.mem_cons_of_mem _ hd)) h.2]
theorem dg_inj {a b : Nat} (h : dg 10 a = dg 10 b) : a = b := by
  obtain ⟨a1, a2, _⟩ := dv_all (b := 10) (by decide) a
  obtain ⟨b1, b2, _⟩ := dv_all (b := 10) (by decide) b
  have e := map_sgn_inj a1 b1 h
  rw [← a2, ← b2, e]
end MM

namespace MM
open PySem L2 PyProof.Rows
section
variable {X : Cx} {E : En} {Γ : Gm} {M : Ow} {K : PySem.W.Frag} {Φ : Rep → Ow → Prop} {ρs : List Rep} {e : Expr} {pos : Pos}
/-- list(a tuple), owned -/
theorem caw_listT (hE : ∀ a ∈ E.M, E.H a ≠ none) (k : ∀ l, l ∉ M.map (·.1) → l ∉ E.M → Φ (RRef l) ((l, OL ρs) :: M)) : CaW E Γ M (fun xs H Q => ∃ p ys, xs = [.ref p] ∧ (SqL K H p ys ∨ SqT K H p ys) ∧ ∀ l, H l = none → Q (.ref l) (upd H l (.lst ys))) [RTt ρs] Φ := fun σ G H a vs hv Q q => by
  match vs, hv with
  | [v], ⟨⟨t, ws, e, h, rr⟩, _⟩ =>
    subst e
    exact ⟨t, ws, rfl, .inr (.inl (.inl (a.gh _ _ h))), fun l hl => q _ _ _ _ _ (k l (a.freshM hl) fun z => hE l z (a.fresh hl)) (Same.refl _) (a.own1 hl ⟨ws, rfl, rr⟩) rfl⟩
/-- tuple(an owned list) -/
theorem caw_tupO {l : Addr} {u : ORep → Ow} {ρ : Rep} (sb : Sub ρ (RRef l)) (fd : Fnd M l (OL ρs) u) (k : Φ (RTt ρs) M) : CaW E Γ M (fun xs H Q => ∃ p ys, xs = [.ref p] ∧ ((SqL K H p ys ∧ ∀ l, H l = none → Q (.ref l) (upd H l (.tup ys))) ∨ (SqT K H p ys ∧ Q (.ref p) H))) [ρ] Φ := fun σ G H a vs hv Q q => by
  match vs, hv with
  | [v], ⟨r, _⟩ =>
    have e : v = .ref l := sb _ _ r
    subst e
    obtain ⟨o, e1, ws, e2, rf⟩ := a.own _ fd.mem
    subst e2
    refine ⟨l, ws, rfl, .inl ⟨SqL.of e1, fun t ht => ?_⟩⟩
    have n : New G H (upd G t (.tup ws)) (upd H t (.tup ws)) := New.put a.gh ht
    exact q _ M _ _ _ k n.gg (a.new n) ⟨t, ws, rfl, upd_same, rf.mono n.gg⟩
theorem we_negI {i : Int} (h : WE X E Γ M e fun ρ M1 => Sub ρ (RI i) ∧ Φ (RI (-i)) M1) : WE X E Γ M (.UnaryOp .USub e pos) Φ :=
  we_un un_neg fun σ G H a Q q => h σ G H a Q fun ρ M1 v G1 H1 ⟨sb, hk⟩ s1 a1 r1 => q ρ M1 v G1 H1 ⟨RI (-i), fun x G H hx Q q => by
    have e : x = .int i := sb _ _ hx
    subst e
    exact ⟨i, rfl, q _ rfl⟩, hk⟩ s1 a1 r1
end
end MM

namespace MM
open PySem L2 PyProof.Rows
/-! ### texts cut, lists turned round, things put in between, tuples of the module -/
section
variable {X : Cx} {E : En} {Γ : Gm} {M : Ow} {o e a : Expr} {pos apos : Pos} {Φ : Rep → Ow → Prop} {K : PySem.W.Frag}
def rPart : V → List V → Hp → VK → Prop := fun x xs H Q => ∃ a b, x = .str a ∧ xs = [.str b] ∧ (b.length == 0) = false ∧ a.length ≤ sizeLine ∧
  ∀ p, H p = none → Q (.ref p) (upd H p (.tup [.str (Txt.partition a b).1, .str (Txt.partition a b).2.1, .str (Txt.partition a b).2.2]))
theorem mt_partR : MtR X "str.partition" rPart := mt_partition
theorem mtw_part {a b l m r : Str} (hb : (b.length == 0) = false) (ha : a.length ≤ sizeLine) (hp : Txt.partition a b = (l, m, r)) (k : Φ (RTt [RS l, RS m, RS r]) M) : MtW E Γ M rPart (RS a) [RS b] Φ := fun σ G H at_ x vs hx hv Q q => by
  match vs, hv with
  | [v], ⟨hv, _⟩ =>
    refine ⟨a, b, hx, by rw [show v = .str b from hv], hb, ha, fun p hq => ?_⟩
    have n : New G H (upd G p (.tup [.str (Txt.partition a b).1, .str (Txt.partition a b).2.1, .str (Txt.partition a b).2.2])) (upd H p (.tup [.str (Txt.partition a b).1, .str (Txt.partition a b).2.1, .str (Txt.partition a b).2.2])) := New.put at_.gh hq
    refine q _ M _ _ _ k n.gg (at_.new n) ⟨p, _, rfl, upd_same, ?_⟩
    rw [hp]
    exact ⟨rfl, rfl, rfl, trivial⟩
def rSplit : V → List V → Hp → VK → Prop := fun x xs H Q => ∃ a b, x = .str a ∧ xs = [.str b] ∧ (b.length == 0) = false ∧ a.length + 2 ≤ sizeLine ∧ rNewStrs (Txt.split a b) H Q
theorem mt_splitR : MtR X "str.split" rSplit := mt_split
theorem reps_strs {G : Hp} : ∀ ys : List Str, Reps (ys.map RS) (ys.map V.str) G
  | [] => trivial
  | _ :: ys => ⟨rfl, reps_strs ys⟩
theorem mtw_split {a b : Str} {ys : List Str} (hb : (b.length == 0) = false) (ha : a.length + 2 ≤ sizeLine) (hs : Txt.split a b = ys) (k : Φ (RLt (ys.map RS)) M) : MtW E Γ M rSplit (RS a) [RS b] Φ := fun σ G H at_ x vs hx hv Q q => by
  match vs, hv with
  | [v], ⟨hv, _⟩ =>
    refine ⟨a, b, hx, by rw [show v = .str b from hv], hb, ha, fun p hq => ?_⟩
    rw [hs]
    have n : New G H (upd G p (.lst (ys.map V.str))) (upd H p (.lst (ys.map V.str))) := New.put at_.gh hq
    exact q _ M _ _ _ k n.gg (at_.new n) ⟨p, _, rfl, upd_same, reps_strs ys⟩
theorem reps_turn {G : Hp} {ρs : List Rep} {vs : List V} (r : Reps ρs vs G) : Reps ρs.reverse vs.reverse G := by
  induction ρs generalizing vs with
  | nil =>
    cases vs with
    | nil => exact trivial
    | cons _ _ => exact r.elim
  | cons ρ ρs ih =>
    cases vs with
    | nil => exact r.elim
    | cons v vs =>
      rw [List.reverse_cons, List.reverse_cons]
      have one : Reps [ρ] [v] G := ⟨r.1, trivial⟩
      exact (ih r.2).app one
theorem we_turn {j : Nat} {p1 p2 p3 : Pos} (h : WE X E Γ M a fun ρ M1 => ∃ ρs, Sub ρ (RL X.K ρs) ∧ Φ (RLt ρs.reverse) M1) : WE X E Γ M (.Subscript a (.Slice none none (some (.UnaryOp .USub (.Constant (.int 1) j p1) p2)) p3) pos) Φ :=
  we_of (pe_revL pe_w) fun σ G H at' Q q => h σ G H at' _ fun ρ M1 x G1 H1 ⟨ρs, sb, hk⟩ s1 a1 r1 => by
    obtain ⟨b, vs, e, hq, rr⟩ := sb _ _ r1
    refine ⟨b, vs, e, Same.seq a1.gh hq, fun p hp => ?_⟩
    have n : New G1 H1 (upd G1 p (.lst vs.reverse)) (upd H1 p (.lst vs.reverse)) := New.put a1.gh hp
    exact q _ M1 _ _ _ hk (s1.trans n.gg) (a1.new n) ⟨p, _, rfl, upd_same, (reps_turn rr).mono n.gg⟩
def rIns : V → List V → Hp → VK → Prop := fun x vs H Q => ∃ (l : Addr) (xs : List V) (i : Int) (y : V), x = .ref l ∧ vs = [.int i, y] ∧ H l = some (.lst xs) ∧ xs.length < sizeLine ∧ 0 ≤ i ∧ i < 2 ^ 63 ∧ Q .non (upd H l (.lst (xs.take i.toNat ++ [y] ++ xs.drop i.toNat)))
theorem mt_insR : MtR X "list.insert" rIns := mt_insert
theorem mtw_ins {p : Addr} {ρo ρ ρi : Rep} {i : Int} {ρs : List Rep} {u : ORep → Ow} (sb : Sub ρo (RRef p)) (si : Sub ρi (RI i)) (fd : Fnd M p (OL ρs) u) (hl : ρs.length < 100000) (h0 : 0 ≤ i) (h1 : i < 2 ^ 63) (k : Φ RN (u (OL (ρs.take i.toNat ++ [ρ] ++ ρs.drop i.toNat)))) : MtW E Γ M rIns ρo [ρi, ρ] Φ := fun σ G H a x vs hx hv Q q => by
  obtain ⟨o, e1, ws, e2, rf⟩ := a.own _ fd.mem
  subst e2
  match vs, hv with
  | [v, y], ⟨r1, r2, _⟩ =>
    have r1 : v = .int i := si _ _ r1
    subst r1
    have one : Reps [ρ] [y] G := ⟨r2, trivial⟩
    refine ⟨p, ws, i, y, sb _ _ hx, rfl, e1, Nat.lt_of_lt_of_le (by rw [← rf.length]; exact hl) (szOf (Nat.le_refl _)), h0, h1, ?_⟩
    exact q _ _ _ _ _ k (Same.refl _) (a.write fd ⟨_, rfl, ((reps_take _ rf).app one).app (reps_drop _ rf)⟩) rfl
/-- a tuple of texts that the module holds -/
def GTup (K : PySem.W.Frag) (a : Addr) (ss : List Str) : Prop := ∃ (o : Obj) (its : Array Value) (n : Nat), K.lookup a = some o ∧ o.cls = .type "tuple" ∧ o.data = .seq its n ∧ its.size ≤ sizeLine ∧ Vals (ss.map V.str) its.toList
theorem GTup.at {a : Addr} {ss : List Str} (g : GTup K a ss) (G : Hp) : (RT K (ss.map RS)).p (.ref a) G := ⟨a, _, rfl, .inr g, reps_strs ss⟩
theorem reps_SV {G : Hp} {ss : List Str} {vs : List V} (r : Reps (ss.map RS) vs G) : vs = ss.map V.str := rvals_strs r
theorem flat_strs : ∀ ss : List Str, (ss.map V.str).all flatV = true
  | [] => rfl
  | s :: ss => by
    rw [List.map_cons, List.all_cons, flat_strs ss]
    rfl
theorem inV_strs {x : Str} : ∀ ss : List Str, inV (.str x) (ss.map V.str) = ss.contains x
  | [] => rfl
  | s :: ss => by
    have e : eqV (.str s) (.str x) = (x == s) := by
      show (s == x) = (x == s)
      by_cases h : s = x
      · subst h
        rfl
      · rw [beq_eq_false_iff_ne.mpr h, beq_eq_false_iff_ne.mpr fun z => h z.symm]
    rw [List.contains_cons, ← inV_strs ss, ← e]
    rfl
/-- a text in, not in a tuple of texts -/
theorem opv_inT {neg : Bool} {x : Str} {ss : List Str} : OpV (rIn K neg) (RS x) (RT K (ss.map RS)) (RB (if neg then !ss.contains x else ss.contains x)) := fun v y G H s hx hy Q q => by
  obtain ⟨p, vs, rfl, hp, r⟩ := hy
  have hx : v = .str x := hx
  subst hx
  rw [reps_SV r] at hp
  refine ⟨p, ss.map V.str, rfl, .inr (same_seqT s hp), rfl, flat_strs ss, ?_⟩
  rw [inV_strs]
  exact q _ G H (New.refl s) rfl
end
end MM

namespace MM
open PySem PySem.Spec L2 PyProof.Rows
/-! ### len(set(a list of texts)) -/
/-- how many unlike ones stand among the first -/
def dn (xs : List Str) : Nat → Nat
  | 0 => 0
  | i + 1 => dn xs i + (if (xs.take i).any (· == xs.getD i Str.empty) then 0 else 1)
theorem dn_le (xs : List Str) : ∀ i, dn xs i ≤ i
  | 0 => Nat.le_refl _
  | i + 1 => by
    have := dn_le xs i
    unfold dn
    split <;> omega
theorem dn_full {xs : List Str} (h : xs.Nodup) : ∀ i, i ≤ xs.length → dn xs i = i
  | 0, _ => rfl
  | i + 1, hi => by
    have ih := dn_full h i (by omega)
    have no : (xs.take i).any (· == xs.getD i Str.empty) = false := by
      rw [List.any_eq_false]
      intro y hy
      obtain ⟨j, hj⟩ := List.getElem?_of_mem hy
      rw [List.getElem?_take] at hj
      split at hj
      · rename_i lt
        have e1 : xs.getD i Str.empty = xs[i] := by rw [List.getD_eq_getElem?_getD, List.getElem?_eq_getElem (by omega), Option.getD_some]
        rw [e1, beq_iff_eq]
        rintro rfl
        obtain ⟨l1, e2⟩ := List.getElem?_eq_some_iff.mp hj
        exact absurd ((List.getElem_inj h).mp e2) (by omega)
      · cases hj
    unfold dn
    rw [ih, no]
    rfl
section
variable {P : Program} {w : World} {A : Around} {E : Value → Shared → Prop} {s : Shared}
/-- the texts put in one by one: what is in, and how many -/
abbrev InSet (P : Program) (w : World) (xs : List Str) (p : Addr) (i : Nat) (h : Heap) : Prop := h.SetOf (PySem.strKind P w) p (fun k => (xs.take i).any (· == k)) (dn xs i)
theorem InSet.up {xs : List Str} {p : Addr} {i : Nat} {h h' : Heap} (z : InSet P w xs p i h) (k : ∀ o, h.get? p = some o → h'.get? p = some o) : InSet P w xs p i h' := by
  obtain ⟨o, es, ep, t, ho, r⟩ := z
  exact ⟨o, es, ep, t, k o ho, r⟩
theorem InSet.next {xs : List Str} {p : Addr} {i : Nat} {h : Heap} (hi : i < xs.length) (z : h.SetOf (PySem.strKind P w) p (fun k => (xs.take i).any (· == k) || decide (k = xs.getD i Str.empty)) (if (xs.take i).any (· == xs.getD i Str.empty) then dn xs i else dn xs i + 1)) : InSet P w xs p (i + 1) h := by
  refine SetOf_congr z (fun k => ?_) ?_
  · have e1 : xs.getD i Str.empty = xs[i] := by rw [List.getD_eq_getElem?_getD, List.getElem?_eq_getElem hi, Option.getD_some]
    rw [e1, List.take_add_one, List.getElem?_eq_getElem hi, List.any_append]
    congr 1
    show decide (k = xs[i]) = (xs[i] == k || false)
    rw [Bool.or_false, Bool.eq_iff_iff, decide_eq_true_iff, beq_iff_eq]
    exact eq_comm
  · show (if (xs.take i).any (· == xs.getD i Str.empty) then dn xs i else dn xs i + 1) = dn xs i + (if (xs.take i).any (· == xs.getD i Str.empty) then 0 else 1)
    split <;> omega
section
variable {R : Result → Shared → Prop} {I p : Addr} {fp wr : List Addr} {G : Array GenState → Array GenState → Prop} {V' : Nat → Value → Prop} {St : Nat → Shared → Prop} {xs : List Str}
theorem put_all (W : WalksS P w A.in1 I fp wr G xs.length V' St) (far : p ∉ fp) (few : xs.length + 1 < scanBound) (val : ∀ i v, V' i v → ∃ t, v = .str (xs.getD i Str.empty) t) :
    ∀ d i : Nat, i + d = xs.length → ∀ s : Shared, St i s → InSet P w xs p i s.heap → (∀ s', Moved (p :: wr) G s s' → InSet P w xs p xs.length s'.heap → R (.ok (.ret .none)) s') →
      codeAny (model P w) A (.builtin "set.update.loop" ⟨[.ref p, .ref I], []⟩) R s := by
  have out : p ∉ wr := fun z => far (W.sub _ z)
  intro d
  induction d with
  | zero =>
    intro i e s st z res
    have e : i = xs.length := e
    subst e
    refine codeAny_builtin F.entry_set_update_loop ?_
    rw [Around.under_plainId F.plain_set_update_loop _]
    refine wpAny_bind (m := pyNext (.ref I)) (W.done s _ _ st fun s2 mv => wpAny_pure ?_)
    exact res s2 (mv.mono fun b hb => List.mem_cons_of_mem _ hb) (z.up fun o ho => mv.heap p o out ho)
  | succ d ih =>
    intro i e s st z res
    have hi : i < xs.length := by omega
    have le := dn_le xs i
    refine codeAny_builtin F.entry_set_update_loop ?_
    rw [Around.under_plainId F.plain_set_update_loop _]
    refine wpAny_bind (m := pyNext (.ref I)) (W.item i s _ _ hi st fun v s2 hv st2 mv => ?_)
    obtain ⟨t, rfl⟩ := val i v hv
    have z2 := z.up (h' := s2.heap) fun o ho => mv.heap p o out ho
    refine wpAny_bind (m := holding [Value.str (xs.getD i Str.empty) t] (setAdd p (.str (xs.getD i Str.empty) t))) (wpAny_holding ?_)
    unfold setAdd
    refine wpAny_holding (wpAny_bind ((PySem.strKind P w).pyHash (k := xs.getD i Str.empty) (strKind_is _ _ _ _) ?_))
    refine wpAny_setAddHashed_of (knd := PySem.strKind P w) (s := { s2 with toks := s2.toks + 1 }) (strKind_is _ _ _ _) rfl z2 (by omega) fun h3 same z3 => ?_
    have keep : ∀ b o, b ≠ p → s2.heap.get? b = some o → h3.get? b = some o := fun b o hb ho => (same.2 b hb).trans ho
    refine wpAny_pure ⟨plainId_quiet F.plain_set_update_loop _, ih (i + 1) (by omega) _ (W.frame _ s2 _ _ st2 (Nat.le_succ _) fun b hb o ho => keep b o (fun y => far (y ▸ hb)) ho) (InSet.next hi z3) fun s4 mv2 z4 => ?_⟩
    refine res s4 (Moved.trans W.gtrans ((mv.mono fun b hb => List.mem_cons_of_mem _ hb).then_heap (Nat.le_succ _) fun b o hb ho => ?_) mv2) z4
    exact keep b o (fun y => hb (y ▸ List.mem_cons_self)) ho
end
abbrev bare (w : World) : Obj := { cls := .type "set", dict := none, data := .set #[] 0 (.fresh 0 0 (!w.params.followText "set-order")) }
set_option maxHeartbeats 8000000 in
theorem set_texts {l : Addr} {items : Array Value} {xs : List Str} {Q : Value → Shared → Prop} (hh : A.handled = none) (hl : s.heap.IsList l items) (hi : StrsAre items.toList xs) (few : xs.length + 1 < scanBound)
    (h : ∀ h' tk, InSet P w xs s.heap.objs.size xs.length h' → (∀ b o, s.heap.get? b = some o → h'.get? b = some o) → Q (.ref s.heap.objs.size) { s with heap := h', toks := tk }) : wpAny (model P w) A (call (.type "set") [.ref l]) Q E s := by
  have size : xs.length = items.size := by rw [← StrsAre.len_eq hi, Array.length_toList]
  have under : l < s.heap.objs.size := by
    obtain ⟨o, e, _⟩ := hl
    exact Heap.lt_size e
  have grown : (s.heap.push (bare w)).objs.size = s.heap.objs.size + 1 := Heap.size_push ..
  have self : (s.heap.push (bare w)).get? s.heap.objs.size = some (bare w) := Heap.get?_push_size _ rfl
  have beside : l ≠ (s.heap.push (bare w)).objs.size := fun z => Nat.ne_of_lt (Nat.lt_succ_of_lt under) (z.trans grown)
  have apart : s.heap.objs.size ∉ [(s.heap.push (bare w)).objs.size, l] := by
    intro z
    rcases List.mem_cons.mp z with z | z
    · exact Nat.ne_of_lt (Nat.lt_succ_self _) (z.trans grown)
    · rw [List.mem_singleton] at z
      exact Nat.ne_of_gt under z
  have there0 : (s.heap.push (bare w)).IsList l items := hl.push _
  obtain ⟨c, tl, hmro⟩ := F.called_set.mro
  have hmade := F.called_set.made
  have hsub := F.called_set.sub
  have h1 := F.called_set.notType
  have h2 := F.called_set.canCreate
  have hct := F.typeCall_set_1 (.ref l)
  refine wpAny_call (codeAny_of_tree ?_)
  show wpAny _ _ (callAny (.type "set") _) _ _ _
  refine wpAny_pure ⟨Code.quiet_builtin _ (by decide +kernel), codeAny_builtin F.entry_type_call ?_⟩
  rw [Around.under_plain (weight_type_call_type "set" [.ref l] []) rfl]
  repeat (any_goals (first | assumption | wp_step))
  refine codeAny_mono (code_set_led1 (.ref l) (E := E) (Q₁ := fun v t => v = .ref s.heap.objs.size ∧ t = { s with heap := s.heap.push (bare w) }) ⟨rfl, rfl⟩) fun r t hr => ?_
  match r, hr with
  | .error e, hr => exact hr
  | .ok (.ret v), ⟨ev, et⟩ =>
    subst ev et
    have hT : Shared.TypeIs { s with heap := s.heap.push (bare w) } (.ref s.heap.objs.size) "set" := ⟨_, self, rfl⟩
    have hli := F.called_set.init.lookup
    have hbi := F.called_set.init.bind (.ref s.heap.objs.size)
    repeat (any_goals (first | assumption | wp_step))
    refine codeAny_mono (codeAny_call_builtin (R := wants (fun v t => v = .none ∧ ∃ h' tk, t = { s with heap := h', toks := tk } ∧ InSet P w xs s.heap.objs.size xs.length h' ∧ (∀ b o, s.heap.get? b = some o → h'.get? b = some o)) E) F.called_set.init.plain F.entry_set_init (check_set_init_1 hT ?init)) fun r t hr => ?after
    case after =>
      match r, hr with
      | .error e, hr => exact hr
      | .ok (.ret v), ⟨ev, h', tk, et, z, kp⟩ =>
        subst ev et
        repeat (any_goals (first | assumption | wp_step))
        exact h _ _ z kp
      | .ok .next, hr => exact hr.elim
      | .ok .brk, hr => exact hr.elim
      | .ok .cont, hr => exact hr.elim
    case init =>
      obtain ⟨⟨lc, ld, lx, ls⟩, hol, hcl, nl, hdl⟩ := there0
      simp only at hcl hdl
      subst hcl
      subst hdl
      have n1 := F.sub_list_set
      have n2 := F.sub_list_frozenset
      have n3 : (Value.type "list" == Value.type "dict") = false := by decide
      have there : (s.heap.push (bare w)).IsList l items := ⟨_, hol, rfl, nl, rfl⟩
      unfold Builtin.«set.__init__» noKeywords Builtin.Frozenset.updateFrom
      generalize hPI : pyIter = PI
      wp_walk
      subst hPI
      refine wpAny_pyIter_list there (wpAny_bind (wpAny_runValue ?_))
      have quiet : A.in1.in1.in1.handled = none := by simp [hh]
      have W := (Walks.list (prog := P) (w := w) quiet (s.heap.push (bare w)).objs.size l beside items).toS
      rw [← size] at W
      refine put_all W apart few (fun i v hv => SS.strs_at hi i v (by rw [Array.getElem?_toList]; exact hv)) xs.length 0 (Nat.zero_add _) _ ⟨⟨_, Heap.get?_push_size _ rfl, rfl, rfl⟩, there.push _⟩ ?start ?stop
      case start =>
        have g0 : ((s.heap.push (bare w)).push { cls := .type "list_iterator", data := .fields #[.ref l, .int 0 0] }).get? s.heap.objs.size = some (bare w) := Heap.get?_push_of_some _ self
        exact SetOf_congr ((setObjOf_fresh (knd := PySem.strKind P w) _).setOf g0 (by unfold scanBound; omega)) (fun _ => rfl) rfl
      case stop =>
        rintro ⟨h', g', d', tk', os'⟩ moved z
        have eg : g' = s.gens := moved.gens
        have ed : d' = s.drawn := moved.drawn
        have eo : os' = s.os := moved.os
        subst eg ed eo
        show wpAny _ _ _ _ _ _
        refine wpAny_pure ?_
        show wpAny _ _ (ret Value.none) _ _ _
        refine wpAny_pure ⟨rfl, h', tk', rfl, z, fun b o ho => ?_⟩
        have hb := Heap.lt_size ho
        refine moved.heap b o ?_ (Heap.get?_push_of_some _ (Heap.get?_push_of_some _ ho))
        intro y
        rcases List.mem_cons.mp y with y | y
        · exact Nat.ne_of_lt hb y
        · rw [List.mem_singleton] at y
          exact Nat.ne_of_lt (Nat.lt_succ_of_lt hb) (y.trans grown)
  | .ok .next, hr => exact hr.elim
  | .ok .brk, hr => exact hr.elim
  | .ok .cont, hr => exact hr.elim
end
def tLenTx (K : PySem.W.Frag) (ta : TE) : TE := fun σ H Q => ta σ H fun x H1 => ∃ l, ∃ xs : List Str, x = .ref l ∧ SqL K H1 l (xs.map V.str) ∧ xs.length < 4000 ∧ Q (.int (dn xs xs.length : Nat)) H1
theorem pe_lenTx {X : Cx} {a : Expr} {ta : TE} {p p2 q pos : Pos} (hc : X.calm = true) (hg : Gl X "len") (hm : X.mg "len" = none) (hg2 : Gl X "set") (hm2 : X.mg "set" = none) (ha : PE X a ta)
    (na : starEach [a] X.env = (false, eval a X.env) :: starEach [] X.env := by rfl) : PE X (.Call (.Name "len" p) [.Call (.Name "set" p2) [a] [] q] [] pos) (tLenTx X.K ta) := by
  refine ⟨fun pins s σ H Q I hyp => ?_⟩
  refine Call_ (ld_blt I hg hm boot_len (callWith_builtin1 (args_cons ?_ rfl) rfl rfl))
  refine Call_ (ld_blt I hg2 hm2 boot_set (callWith_type1 (args_cons (thn (ha.run pins s σ H _ I hyp) fun v s1 ⟨x, H1, I1, r1, l, xs, ex, hq, few, res⟩ => args_nil ?_) na) na rfl))
  subst ex
  cases r1
  obtain ⟨its, r, pl, _⟩ := I1.list hq
  refine set_texts (I1.ok.hd hc) pl.isList (by simpa using strsAre_of r) (by unfold scanBound; omega) fun h' tk z kp => ?_
  have I2 : Inv X pins σ H1 { s1 with heap := h', toks := tk } := I1.kept kp
  obtain ⟨o, es, ep, t, ho, hex, hd, _, _, _, hf, hn⟩ := z
  have le := dn_le xs xs.length
  refine args_nil (call_len_set ho hex hd hf (by rw [hn]; omega) ⟨.int (dn xs xs.length : Nat), H1, I2.tok _, ⟨_, by rw [hn]⟩, res⟩)
section
variable {X : Cx} {E : En} {Γ : Gm} {M : Ow} {a : Expr} {p p2 q pos : Pos} {Φ : Rep → Ow → Prop}
theorem we_lenTx (hc : X.calm = true) (hg : Gl X "len") (hm : X.mg "len" = none) (hg2 : Gl X "set") (hm2 : X.mg "set" = none) (h : WE X E Γ M a fun ρ M1 => ∃ xs : List Str, Sub ρ (RL X.K (xs.map RS)) ∧ xs.length < 4000 ∧ Φ (RI (dn xs xs.length : Nat)) M1)
    (na : starEach [a] X.env = (false, eval a X.env) :: starEach [] X.env := by rfl) : WE X E Γ M (.Call (.Name "len" p) [.Call (.Name "set" p2) [a] [] q] [] pos) Φ :=
  we_of (pe_lenTx hc hg hm hg2 hm2 pe_w na) fun σ G H at_ Q k => h σ G H at_ _ fun ρ M1 v G1 H1 ⟨xs, sb, few, hk⟩ s1 a1 r1 => by
    obtain ⟨l, vs, e, hq, rr⟩ := sb _ _ r1
    rw [rvals_strs rr] at hq
    exact ⟨l, xs, e, Same.seq a1.gh hq, few, k _ _ _ _ _ hk s1 a1 rfl⟩
end
end MM

namespace MM
open PySem L2 PyProof.Rows
/-! ### range of any two ints -/
theorem turn_long {P : Program} {w : World} {K : PySem.W.Frag} {tg : Expr} (it : Addr) (lo : Int) (n : Nat) : Turn P w K tg (Itr lo n) [it] it (fun i h => IsLongIter h it (lo + (i : Nat) * 1) ((n : Int) - (i : Nat)) 1) where
  mem := by simp
  obj := fun i h st b hb => by
    have e : b = it := by simpa using hb
    subst e
    exact ⟨_, st, fun v z => by
      have z' : Data.fields _ = Data.cell v := z
      cases z'⟩
  keep := fun i h h' st k => k it (by simp) _ st
  item := by
    intro X hP hw hK hc i pins s σ H E I hf st hg
    subst hP hw hK
    obtain ⟨f0, f1, f2, f3, f4, f5⟩ := hf it (by simp)
    have W := Walks.longrange (prog := X.prog) (w := X.w) (I.ok.hd hc) it lo 1 n
    refine W.item i s _ _ hg st fun v h' tk hv st' kk => ?_
    obtain ⟨t, rfl⟩ := hv
    have I1 : L2.Inv X pins σ H { s with heap := h', toks := tk } := I.turned (fun b o hb e => kk b o (by simpa using hb) e) f0 f1 f3 f4 f5
    refine ⟨_, rfl, go_of (s := { s with heap := h', toks := tk }) (n := "longrange_iterator") st' rfl rfl (by decide) ⟨.int (lo + i), H, I1, ⟨t, ?_⟩, ⟨rfl, rfl⟩, st', fun b hb => (hf b hb).1⟩⟩
    rw [Int.mul_one]
  done := by
    intro X hP hw hK hc i pins s σ H E I hf st hg
    subst hP hw hK
    obtain ⟨f0, f1, f2, f3, f4, f5⟩ := hf it (by simp)
    exact wpAny_pyNext_long_end (I.ok.hd hc) st (by have : n ≤ i := hg; omega) fun h' eb => ⟨rfl, I.turned (t' := s.toks) (fun b o hb e => eb b o hb e) f0 f1 f3 f4 f5⟩
  self := fun _ _ _ _ _ st h => wpAny_pyIter_longiter st h
section
variable {X : Cx} {tg : Expr}
theorem range_itW {pins : List (Addr × Obj)} {σ : L2.St} {H : Hp} {s : Shared} {R : It → Hp → Prop} {E : Value → Shared → Prop} {lo hi : Int} {t u v : Tok} {tk : Nat} (I : L2.Inv X pins σ H s)
    (q : R (Itr lo (hi - lo).toNat) H) : wpAny (model X.prog X.w) X.A (pyIter (.ref s.heap.objs.size)) (PIE X pins σ tg R) E { s with heap := s.heap.push { cls := .type "range", data := .fields #[.int lo t, .int hi u, .int 1 v] }, toks := tk } := by
  have I1 : L2.Inv X pins σ H { s with heap := s.heap.push { cls := .type "range", data := .fields #[.int lo t, .int hi u, .int 1 v] }, toks := tk } := I.kept fun b o e => Heap.get?_push_of_some _ e
  have e1 : lo + ((0 : Nat) : Int) * 1 = lo := by simp
  have e2 : (((hi - lo).toNat : Nat) : Int) - ((0 : Nat) : Int) = Builtin.Range.rangeSize lo hi 1 := by rw [rangeSize_one]; split <;> omega
  cases hs : Builtin.Range.small lo hi 1 with
  | true =>
    refine wpAny_pyIter_range (IsRange.new ..) hs ?_
    refine ⟨(s.heap.push { cls := .type "range", data := .fields #[.int lo t, .int hi u, .int 1 v] }).objs.size, [(s.heap.push { cls := .type "range", data := .fields #[.int lo t, .int hi u, .int 1 v] }).objs.size], _, _, H, rfl, I1.kept (t' := tk) fun b o e => Heap.get?_push_of_some _ e, turn_range _ lo (hi - lo).toNat, ?_, fun b hb => ?_, q⟩
    · show IsRangeIter _ _ (lo + ((0 : Nat) : Int) * 1) ((((hi - lo).toNat : Nat) : Int) - ((0 : Nat) : Int)) 1
      rw [e1, e2]
      exact Heap.get?_push_size _ rfl
    · have e : b = (s.heap.push { cls := .type "range", data := .fields #[.int lo t, .int hi u, .int 1 v] }).objs.size := by simpa using hb
      subst e
      exact I1.fpOk (Nat.le_refl _) (I1.hok.fresh (Nat.le_refl _))
  | false =>
    refine wpAny_pyIter_longrange (IsRange.new ..) hs ?_
    refine ⟨(s.heap.push { cls := .type "range", data := .fields #[.int lo t, .int hi u, .int 1 v] }).objs.size, [(s.heap.push { cls := .type "range", data := .fields #[.int lo t, .int hi u, .int 1 v] }).objs.size], _, _, H, rfl, I1.kept (t' := tk) fun b o e => Heap.get?_push_of_some _ e, turn_long _ lo (hi - lo).toNat, ?_, fun b hb => ?_, q⟩
    · show IsLongIter _ _ (lo + ((0 : Nat) : Int) * 1) ((((hi - lo).toNat : Nat) : Int) - ((0 : Nat) : Int)) 1
      rw [e1, e2]
      exact Heap.get?_push_size _ rfl
    · have e : b = (s.heap.push { cls := .type "range", data := .fields #[.int lo t, .int hi u, .int 1 v] }).objs.size := by simpa using hb
      subst e
      exact I1.fpOk (Nat.le_refl _) (I1.hok.fresh (Nat.le_refl _))
def iRngW (ta : TA) : TI := fun σ H R => ta σ H fun vs H1 => ∃ i j : Int, vs = [.int i, .int j] ∧ R (Itr i (j - i).toNat) H1
theorem pi_rangeW {a b : Expr} {ta : TA} {p pos : Pos} (hg : Gl X "range") (hm : X.mg "range" = none) (ha : PA X [a, b] ta) (hs : starEach [a, b] X.env = [(false, eval a X.env), (false, eval b X.env)] := by rfl) (hs2 : starEach [b] X.env = [(false, eval b X.env)] := by rfl) :
    PI X tg (.Call (.Name "range" p) [a, b] [] pos) (iRngW ta) := by
  refine ⟨fun pins s σ H R I h => ?_⟩
  refine Call_ (ld_blt I hg hm boot_range (PyProof.Rows.callWith_type1 (thn (ha.run pos pins s σ H _ I h) fun us s1 ⟨vs, H1, I1, r1, q1⟩ => ?_) (by rw [hs, hs2]) (by rw [hs2]; rfl)))
  obtain ⟨i, j, e, q⟩ := q1
  subst e
  cases r1 with
  | cons r rr =>
    cases rr with
    | cons r' rr =>
      cases rr
      obtain ⟨t, rfl⟩ := r
      obtain ⟨t', rfl⟩ := r'
      exact call_range_2 (range_itW I1 q)
end
section
variable {X : Cx} {E : En} {Γ : Gm} {M : Ow} {a b tg : Expr} {pos p apos : Pos} {Ψ : Ed} {body : List Stmt}
theorem ws_for_rangeW (hp : PassesOwn (model X.prog X.w) X.A X.env X.xe) (hc : X.calm = true) (hg : Gl X "range") (hm : X.mg "range" = none)
    (h : WA X E Γ M [a, b] fun ρs M1 => ∃ i j : Int, SubL ρs [RI i, RI j] ∧ ForK X E Γ M1 tg body Ψ (j - i).toNat fun n ρ => ρ = RI (i + n))
    (hse : starEach [a, b] X.env = [(false, eval a X.env), (false, eval b X.env)] := by rfl) (hs2 : starEach [b] X.env = [(false, eval b X.env)] := by rfl) (hs : ∀ x, foldedSetIterable (.Call (.Name "range" p) [a, b] [] apos) X.env x = pure x := by intro _; rfl) : WS X E Γ M (.For tg (.Call (.Name "range" p) [a, b] [] apos) body [] pos) Ψ :=
  ws_of (ps_for hp hc (pi_rangeW hg hm pa_w hse hs2) pg_w pss_w hs) fun σ G H a D k => h σ G H a _ fun ρs M1 vs G1 H1 ⟨i0, j, sb, I, h0, ht, hd⟩ s1 a1 r1 => by
    have ks := k.mono s1
    have e : vs = [.int i0, .int j] := by
      match vs, sb.reps r1 with
      | [v, w], ⟨r, r', _⟩ =>
        have r : v = .int i0 := r
        have r' : w = .int j := r'
        rw [r, r']
    refine ⟨i0, j, e, for_range (lo := i0) (fun i σ H => ∃ Γ' M' G', I i Γ' M' ∧ Same G1 G' ∧ At E Γ' M' σ G' H) ⟨Γ, M1, G1, h0, Same.refl _, a1⟩ ?_ ?_⟩
    · rintro i σ H hx ⟨Γ', M', G', hI, s', a'⟩
      exact for_turn ks (ht i _ Γ' M' hx rfl hI) s' a' rfl
    · rintro σ H ⟨Γ', M', G', hI, s', a'⟩
      exact ks.nx _ _ (hd _ _ hI) _ _ _ s' a'
theorem src_rangeW {Z : Ow → Nat → (Nat → Rep → Prop) → Prop} (h : WA X E Γ M [a, b] fun ρs M1 => ∃ i j : Int, SubL ρs [RI i, RI j] ∧ Z M1 (j - i).toNat fun n ρ => ρ = RI (i + n)) : Src X E Γ M (iRngW (tWA X [a, b])) Z :=
  ⟨fun {σ G H} R a' k => h σ G H a' _ fun ρs M1 vs G1 H1 ⟨i0, j, sb, hz⟩ s1 a1 r1 => by
    have e : vs = [.int i0, .int j] := by
      match vs, sb.reps r1 with
      | [v, w], ⟨r, r', _⟩ =>
        have r : v = .int i0 := r
        have r' : w = .int j := r'
        rw [r, r']
    refine ⟨i0, j, e, k _ _ _ _ _ _ hz s1 a1 fun i H2 G2 s2 g2 => ⟨fun hi => hi, fun hi => hi, fun x H3 hi ⟨e3, y⟩ => ?_⟩⟩
    subst e3
    exact ⟨G2, _, New.refl g2, rfl, y⟩⟩
end
end MM

namespace MM
open PySem L2 PyProof.Rows
/-! ### owned lists of ints -/
theorem reps_RI {G : Hp} : ∀ {ns : List Int} {vs : List V}, Reps (ns.map RI) vs G → vs = ns.map V.int
  | [], [], _ => rfl
  | n :: ns, v :: vs, h => by
    have h1 : v = .int n := h.1
    rw [h1, reps_RI (ns := ns) (vs := vs) h.2]
    rfl
  | [], _ :: _, h => h.elim
  | _ :: _, [], h => h.elim
theorem reps_ints0 {G : Hp} : ∀ ns : List Int, Reps (ns.map RI) (ns.map V.int) G
  | [] => trivial
  | _ :: ns => ⟨rfl, reps_ints0 ns⟩
section
variable {X : Cx} {E : En} {Γ : Gm} {M : Ow} {a b e iter tg : Expr} {pos p p2 apos : Pos} {Φ : Rep → Ow → Prop} {Ψ : Ed} {body : List Stmt} {x : Str}
theorem own_ints {σ : L2.St} {G H : Hp} {q : Addr} {ns : List Int} {u : ORep → Ow} (at_ : At E Γ M σ G H) (fd : Fnd M q (OL (ns.map RI)) u) : H q = some (.lst (ns.map V.int)) := by
  obtain ⟨o, e1, ws, e2, rf⟩ := at_.own _ fd.mem
  subst e2
  rw [reps_RI rf] at e1
  exact e1
theorem ws_for_ownI (hp : PassesOwn (model X.prog X.w) X.A X.env X.xe) (hc : X.calm = true)
    (h : WE X E Γ M iter fun ρ M1 => ∃ (q : Addr) (ns : List Int), Sub ρ (RRef q) ∧ ∃ I : Nat → Gm → Ow → Prop, I 0 Γ M1 ∧ (∀ i Γ1 M2, I i Γ1 M2 → ∃ u, Fnd M2 q (OL (ns.map RI)) u) ∧
      (∀ i n Γ1 M2, ns[i]? = some n → I i Γ1 M2 → WG X E Γ1 M2 tg (RI n) fun Γ2 M3 => WSs X E Γ2 M3 body { nx := I (i + 1), ct := I (i + 1), bk := Ψ.nx, rt := Ψ.rt }) ∧ ∀ Γ1 M2, I ns.length Γ1 M2 → Ψ.nx Γ1 M2)
    (hs : ∀ x, foldedSetIterable iter X.env x = pure x := by intro _; rfl) : WS X E Γ M (.For tg iter body [] pos) Ψ :=
  ws_of (ps_for hp hc (pi_list pe_w) pg_w pss_w hs) fun σ G H a D k => h σ G H a _ fun ρ M1 v G1 H1 ⟨q, ns, sb, I, h0, hI, ht, hd⟩ s1 a1 r1 => by
    have e : v = .ref q := sb _ _ r1
    have ks := k.mono s1
    obtain ⟨u, fd⟩ := hI _ _ _ h0
    have e1 := own_ints a1 fd
    refine ⟨q, e, ⟨ns.map V.int, .inl (.inl e1)⟩, for_list (K := X.K) (a := q) (xs := ns.map V.int) (fun i σ H => ∃ Γ' M' G', I i Γ' M' ∧ Same G1 G' ∧ At E Γ' M' σ G' H) ⟨Γ, M1, G1, h0, Same.refl _, a1⟩ (fun i σ H _ ⟨Γ', M', G', hI', s', a'⟩ => ?_) ?_ ?_⟩
    · obtain ⟨u', fd'⟩ := hI _ _ _ hI'
      exact .inl (.inl (own_ints a' fd'))
    · rintro i x σ H hx ⟨Γ', M', G', hI', s', a'⟩
      rw [List.getElem?_map] at hx
      obtain ⟨n, hn, rfl⟩ := Option.map_eq_some_iff.mp hx
      exact for_turn ks (ht i n Γ' M' hn hI') s' a' rfl
    · rintro σ H ⟨Γ', M', G', hI', s', a'⟩
      rw [List.length_map] at hI'
      exact ks.nx _ _ (hd _ _ hI') _ _ _ s' a'
/-- isinstance(e, a built-in type), of an owned list -/
theorem we_isiO {c : String} {k : Bool} (hg : Gl X "isinstance") (hgc : Gl X x) (hm : X.mg "isinstance" = none) (hmc : X.mg x = none) (hv : bootBuiltins x = some (.type c)) (hk : L2.kitB "list" c = some k)
    (h : WE X E Γ M e fun ρ M1 => (∃ q ns u, Sub ρ (RRef q) ∧ Fnd M1 q (OL ns) u) ∧ Φ (RB k) M1) (hn : x ≠ "__name__" := by decide) (hd : (x == ("__debug__" : Str)) = false := by decide)
    (he : starEach [e, .Name x p2] X.env = (false, eval e X.env) :: starEach [.Name x p2] X.env := by rfl) (he2 : starEach [.Name x p2] X.env = (false, eval (.Name x p2) X.env) :: starEach [] X.env := by rfl) (hpl : (backTo pos (starEach [.Name x p2] X.env)).any (·.1) = false := by rfl) :
    WE X E Γ M (.Call (.Name "isinstance" p) [e, .Name x p2] [] pos) Φ := by
  refine we_callB call_isi hg hm (by decide +kernel) (wa_cons (fun σ G H a Q q => h σ G H a Q fun ρ M1 v G1 H1 ⟨⟨q0, ns, u, sb, fd⟩, hk2⟩ => q ρ M1 v G1 H1 (wa_cons (we_bltn (v := .ty c) hgc hmc hv rfl (wa_nil ?_) hn hd) he2)) he) (by decide) (by decide) he hpl
  intro σ G H a vs r Q q
  match vs, r with
  | [v, w], ⟨r1, r2, _⟩ =>
    have r2 : w = .ty c := r2
    have r1 : v = .ref q0 := sb _ _ r1
    subst r2 r1
    obtain ⟨o, e1, ws, e2, rf⟩ := a.own _ fd.mem
    subst e2
    exact ⟨_, _, .type "list", .type c, k, rfl, .ty c, .base (.lst e1), kit_ty hk, q (RB k) M1 _ G H hk2 (Same.refl _) a rfl⟩
/-- == and != of an owned list of ints -/
theorem opw_neO {ρ ρ' : Rep} {q : Addr} {ns : List Int} {u : ORep → Ow} {d : PyData} (sb : Sub ρ (RRef q)) (fd : Fnd M q (OL (ns.map RI)) u) (h2 : IsD X.K ρ' d) (s2 : SeqAt.shaped d = true) (s1 : SeqAt.shaped (.list (ns.map PyData.int)) = true) (k : Φ (RB (!PyData.eqv (.list (ns.map PyData.int)) d)) M) : OpW E Γ M (rNeD X.K) ρ ρ' Φ := fun σ G H a x y hx hy Q q0 => by
  have e : x = .ref q := sb _ _ hx
  subst e
  have e1 := own_ints a fd
  refine ⟨.list (ns.map PyData.int), d, .lst (.inl (.inl e1)) ?_, h2 y G H a.gh hy, s1, s2, q0 _ M _ G H k (Same.refl _) a rfl⟩
  exact isDs_map (f := RI) (g := PyData.int) (fun _ => isD_i) ns _ H H (Same.refl _) (reps_ints0 ns)
/-- == and != of an owned list of ints -/
theorem opw_eqI {ρ ρ' : Rep} {q : Addr} {ns : List Int} {u : ORep → Ow} {d : PyData} (sb : Sub ρ (RRef q)) (fd : Fnd M q (OL (ns.map RI)) u) (h2 : IsD X.K ρ' d) (s2 : SeqAt.shaped d = true) (s1 : SeqAt.shaped (.list (ns.map PyData.int)) = true) (k : Φ (RB (PyData.eqv (.list (ns.map PyData.int)) d)) M) : OpW E Γ M (rEqD X.K) ρ ρ' Φ := fun σ G H a x y hx hy Q q0 => by
  have e : x = .ref q := sb _ _ hx
  subst e
  have e1 := own_ints a fd
  refine ⟨.list (ns.map PyData.int), d, .lst (.inl (.inl e1)) ?_, h2 y G H a.gh hy, s1, s2, q0 _ M _ G H k (Same.refl _) a rfl⟩
  exact isDs_map (f := RI) (g := PyData.int) (fun _ => isD_i) ns _ H H (Same.refl _) (reps_ints0 ns)
end
end MM

namespace MM
open PySem L2 PyProof.Rows
theorem reps2 {ρ1 ρ2 : Rep} {vs : List V} {G : Hp} (h : Reps [ρ1, ρ2] vs G) : ∃ v w, vs = [v, w] ∧ ρ1.p v G ∧ ρ2.p w G :=
  match vs, h with
  | [v, w], ⟨a, b, _⟩ => ⟨v, w, rfl, a, b⟩
section
variable {X : Cx} {E : En} {Γ : Gm} {M : Ow} {a b e : Expr} {pos p : Pos}
/-- zip of two lists that stay as they are -/
theorem src_zip {Z : Ow → Nat → (Nat → Rep → Prop) → Prop} (h : WA X E Γ M [a, b] fun ρs M1 => ∃ r1 r2, SubL ρs [RL X.K r1, RL X.K r2] ∧ Z M1 (min r1.length r2.length) fun i ρ => ∃ ρ1 ρ2, r1[i]? = some ρ1 ∧ r2[i]? = some ρ2 ∧ ρ = RTt [ρ1, ρ2]) : Src X E Γ M (iZip X.K (tWA X [a, b])) Z :=
  ⟨fun {σ G H} R a' k => h σ G H a' _ fun ρs M1 vs G1 H1 ⟨l1, l2, sb, hz⟩ s1 a1 r1 => by
    obtain ⟨v, w, rfl, t1, t2⟩ := reps2 (sb.reps r1)
    obtain ⟨b1, vs1, e1, q1, t1⟩ := t1
    obtain ⟨b2, vs2, e2, q2, t2⟩ := t2
    subst e1 e2
    refine ⟨b1, b2, vs1, vs2, rfl, Same.seq a1.gh q1, Same.seq a1.gh q2, ?_⟩
    refine k _ _ _ _ _ _ hz s1 a1 fun i H2 G2 s2 g2 => ⟨fun hi => ?_, fun hi => ?_, fun x H3 hi hy => ?_⟩
    · have h1 : i < vs1.length := by rw [← t1.length]; omega
      have h2 : i < vs2.length := by rw [← t2.length]; omega
      exact ⟨vs1, vs2, vs1[i], vs2[i], Same.seq (s2.trans g2) q1, Same.seq (s2.trans g2) q2, List.getElem?_eq_getElem h1, List.getElem?_eq_getElem h2⟩
    · refine ⟨vs1, vs2, Same.seq (s2.trans g2) q1, Same.seq (s2.trans g2) q2, ?_⟩
      rw [← t1.length, ← t2.length]
      omega
    · obtain ⟨T, x', y', rfl, hT, rfl, f1, f2⟩ := hy
      obtain ⟨ρ1, i1, r1'⟩ := (t1.mono s2).get2 (f1 vs1 (Same.seq (s2.trans g2) q1))
      obtain ⟨ρ2, i2, r2'⟩ := (t2.mono s2).get2 (f2 vs2 (Same.seq (s2.trans g2) q2))
      have n := New.put (o := HO.tup [x', y']) g2 hT
      exact ⟨_, RTt [ρ1, ρ2], n, ⟨ρ1, ρ2, i1, i2, rfl⟩, T, [x', y'], rfl, upd_same, ρ1.mono _ _ _ n.gg r1', ρ2.mono _ _ _ n.gg r2', trivial⟩⟩
end
theorem cav_sum {K : PySem.W.Frag} {ns : List Int} : CaV (rSum K) [RLt (ns.map RI)] (RI ns.sum) := fun vs G H s r Q q => by
  match vs, r with
  | [v], ⟨⟨a, ws, e, h, rr⟩, _⟩ =>
    subst e
    rw [reps_RI rr] at h
    exact ⟨a, ns, rfl, .inl (.inl (s _ _ h)), q _ G H (New.refl s) rfl⟩
theorem eqv_ints {ns : List Int} : PyData.eqv (.list (ns.map PyData.int)) (.list (ns.map PyData.int)) = true := by
  have h : ∀ l : List Int, PyData.eqvAll (l.map PyData.int) (l.map PyData.int) = true := by
    intro l
    induction l with
    | nil => simp [PyData.eqvAll]
    | cons x l ih => simp [PyData.eqvAll, PyData.eqv, ih]
  simp only [PyData.eqv]
  exact h ns
theorem shaped_ints {ns : List Int} : SeqAt.shaped (.list (ns.map PyData.int)) = true := by
  have h : ∀ l : List Int, PyData.canLayAll0 (l.map PyData.int) = true := by
    intro l
    induction l with
    | nil => rfl
    | cons x l ih => simp [PyData.canLayAll0, PyData.canLay0, ih]
  have h2 : ∀ l : List Int, PyData.depthAll (l.map PyData.int) = 0 := by
    intro l
    induction l with
    | nil => rfl
    | cons x l ih => simp [PyData.depthAll, PyData.depth, ih]
  simp [SeqAt.shaped, PyData.canLay0, PyData.depth, h, h2]
theorem isD_ints {K : PySem.W.Frag} {ns : List Int} : IsD K (RLt (ns.map RI)) (.list (ns.map PyData.int)) := isD_lt (isDs_map (fun _ => isD_i) ns)
theorem atI_last {α : Type} {l : List α} {x : α} (h : l.getLast? = some x) : atI l (-1) = some x := by
  have hl : l ≠ [] := by
    intro e
    subst e
    cases h
  have h0 : 0 < l.length := List.length_pos_iff.mpr hl
  unfold atI ixN
  rw [if_neg (by decide)]
  rw [List.getLast?_eq_getElem?] at h
  rw [if_pos (by omega)]
  have e : ((-1 : Int) + (l.length : Int)).toNat = l.length - 1 := by omega
  rw [e]
  exact h
end MM

namespace MM
open PySem L2 PyProof.Rows
/-! ### zip(a list, a tuple) -/
section
abbrev lti (p : Addr) : Obj := { cls := .type "list_iterator", data := .fields #[.ref p, .int 0 0] }
abbrev tti (q : Addr) : Obj := { cls := .type "tuple_iterator", data := .fields #[.ref q, .int 0 0] }
abbrev mzA (h : Heap) (p : Addr) : Heap := h.push (lti p)
abbrev mzB (h : Heap) (p q : Addr) : Heap := (mzA h p).push (tti q)
abbrev mzC (h : Heap) (p q : Addr) : Heap := (mzB h p q).push { cls := .type "tuple", data := .seq #[.ref h.objs.size, .ref (mzA h p).objs.size] }
abbrev mzD (h : Heap) (p q : Addr) : Heap := (mzC h p q).push { cls := .type "tuple", data := .seq #[.none, .none] }
abbrev mzE (h : Heap) (p q : Addr) : Heap := (mzD h p q).push { cls := .type "zip", data := .fields #[.none, .bool false, .bool false, .ref (mzB h p q).objs.size, .ref (mzC h p q).objs.size] }
theorem zipM_new (p q : Addr) (xs ys : Array Value) : Meets (Builtin.«zip.__new__» ⟨[.type "zip", .ref p, .ref q], []⟩) (fun _ R s => s.heap.IsList p xs ∧ s.heap.IsTuple q ys ∧ R (.ok (.ret (.ref (mzD s.heap p q).objs.size))) { s with heap := mzE s.heap p q }) :=
  .of_wp fun pr wd ar R s hyp => by
    obtain ⟨hp, gn, dr, tk, os⟩ := s
    obtain ⟨y1, y2, res⟩ := hyp
    have isZ := sub_zip
    have A1 : Heap.IsList (Shared.heap ⟨hp, gn, dr, tk, os⟩) p xs := y1
    have A2 : Heap.IsTuple (Shared.heap ⟨hp.push (lti p), gn, dr, tk, os⟩) q ys := Heap.IsTuple.push y2 _
    wp_walk using wpAny_pyIter_list A1, wpAny_pyIter_tuple A2
    exact ⟨_, rfl, res⟩
variable {s : Shared} {prog : Program} {A : Around} {w : World} {E : Value → Shared → Prop}
structure ZipMAt (h : Heap) (N : Nat) (p q : Addr) (i : Nat) : Prop where
  z : IsZip h (N + 4) (N + 2) (N + 3) .none
  ti : IsTupOf2 h (N + 2) (.ref N) (.ref (N + 1))
  to_ : ∃ u v, IsTupOf2 h (N + 3) u v
  a : h.IsListIter N p i
  b : h.IsTupleIter (N + 1) q i
theorem zipM_call {p q : Addr} {xs ys : Array Value} {Q : Value → Shared → Prop} (y1 : s.heap.IsList p xs) (y2 : s.heap.IsTuple q ys)
    (res : ∀ h', ZipMAt h' s.heap.objs.size p q 0 → (∀ c o, s.heap.get? c = some o → h'.get? c = some o) → Q (.ref (s.heap.objs.size + 4)) { s with heap := h' }) : wpAny (model prog w) A (call (.type "zip") [.ref p, .ref q]) Q E s := by
  refine callType_new F.called_zip (by decide) (F.typeCall_zip_2 _ _) (F.newCall_zip_2 _ _) (fun o => F.args_object_init_3 o _ _) F.entry_zip_new (zipM_new p q xs ys) ⟨y1, y2, ?_⟩
  have n1 : (mzA s.heap p).objs.size = s.heap.objs.size + 1 := Heap.size_push ..
  have n2 : (mzB s.heap p q).objs.size = s.heap.objs.size + 2 := by rw [Heap.size_push, n1]
  have n3 : (mzC s.heap p q).objs.size = s.heap.objs.size + 3 := by rw [Heap.size_push, n2]
  have n4 : (mzD s.heap p q).objs.size = s.heap.objs.size + 4 := by rw [Heap.size_push, n3]
  have k5 : ∀ {c : Addr} {o : Obj}, (mzD s.heap p q).get? c = some o → (mzE s.heap p q).get? c = some o := fun e => Heap.get?_push_of_some _ e
  have k4 : ∀ {c : Addr} {o : Obj}, (mzC s.heap p q).get? c = some o → (mzE s.heap p q).get? c = some o := fun e => k5 (Heap.get?_push_of_some _ e)
  have k3 : ∀ {c : Addr} {o : Obj}, (mzB s.heap p q).get? c = some o → (mzE s.heap p q).get? c = some o := fun e => k4 (Heap.get?_push_of_some _ e)
  have k2 : ∀ {c : Addr} {o : Obj}, (mzA s.heap p).get? c = some o → (mzE s.heap p q).get? c = some o := fun e => k3 (Heap.get?_push_of_some _ e)
  have o5 : (mzE s.heap p q).get? (mzD s.heap p q).objs.size = some _ := Heap.get?_push_size _ rfl
  have o4 : (mzE s.heap p q).get? (mzC s.heap p q).objs.size = some _ := k5 (Heap.get?_push_size _ rfl)
  have o3 : (mzE s.heap p q).get? (mzB s.heap p q).objs.size = some _ := k4 (Heap.get?_push_size _ rfl)
  have o2 : (mzE s.heap p q).get? (mzA s.heap p).objs.size = some _ := k3 (Heap.get?_push_size _ rfl)
  have o1 : (mzE s.heap p q).get? s.heap.objs.size = some _ := k2 (Heap.get?_push_size _ rfl)
  show _ ∧ _
  rw [n2, n3, n4] at o5
  rw [n1, n2] at o3
  rw [n3] at o4
  rw [n1] at o2
  rw [n4]
  exact ⟨⟨_, o5, rfl⟩, res _ ⟨o5, o3, ⟨_, _, o4⟩, ⟨_, o1, rfl, rfl⟩, ⟨_, o2, rfl, rfl⟩⟩ fun c o e => k2 (Heap.get?_push_of_some _ e)⟩
end
/-- the items of the list at a and of the tuple at b, in new pairs -/
def ItzM (K : PySem.W.Frag) (a b : Addr) : It :=
  ⟨fun i H => ∃ (xs ys : List V) (x y : V), SqL K H a xs ∧ SqT K H b ys ∧ xs[i]? = some x ∧ ys[i]? = some y,
    fun i H v H' => ∃ T x y, v = .ref T ∧ H T = none ∧ H' = upd H T (.tup [x, y]) ∧ (∀ l, SqL K H a l → l[i]? = some x) ∧ ∀ l, SqT K H b l → l[i]? = some y,
    fun i H => ∃ l m : List V, SqL K H a l ∧ SqT K H b m ∧ (l.length ≤ i ∨ m.length ≤ i)⟩
def cells (N : Nat) : List Addr := [N + 4, N + 3, N + 2, N + 1, N]
theorem mem_cells {N : Nat} {c : Addr} (h : c ∈ cells N) : c = N + 4 ∨ c = N + 3 ∨ c = N + 2 ∨ c = N + 1 ∨ c = N := by simpa [cells] using h
theorem nN {a b : Nat} (h : a ≠ b) : ¬ @Eq Addr a b := h
theorem nM2 {a b c : Nat} (h1 : a ≠ b) (h2 : a ≠ c) : ¬ @Membership.mem Addr (List Addr) _ [b, c] a := fun h => by
  rcases List.mem_cons.mp h with e | h
  · exact h1 e
  · exact h2 (List.mem_singleton.mp h)
theorem sep_cells {N p q : Nat} (hp : p < N) (hq : q < N) : ZipSep2 (N + 4) (N + 2) (N + 3) N (N + 1) [N, p] [N + 1, q] :=
  ⟨nN (by omega), nN (by omega), nN (by omega), nN (by omega), List.mem_cons_self, nM2 (by omega) (by omega), nM2 (by omega) (by omega), nN (by omega), List.mem_cons_self, nM2 (by omega) (by omega), nM2 (by omega) (by omega), nM2 (by omega) (by omega), nM2 (by omega) (by omega)⟩
theorem far_cells {N : Nat} {c : Addr} (hb : c ∉ cells N) : c ≠ N + 4 ∧ c ≠ N + 3 ∧ c ≠ N ∧ c ≠ N + 1 := ⟨fun e => hb (by simp [cells, e]), fun e => hb (by simp [cells, e]), fun e => hb (by simp [cells, e]), fun e => hb (by simp [cells, e])⟩
/-- a list's iterator from the place i on; a tuple's -/
theorem drawsL {prog : Program} {w : World} {A : Around} (hh : A.handled = none) (it l : Addr) (hne : l ≠ it) (items : Array Value) (i : Nat) : Draws prog w A it [it, l] (items.size - i) (fun j v => items[i + j]? = some v) (fun j h => h.IsListIter it l (i + j) ∧ h.IsList l items) where
  live := fun _ _ st => ⟨_, st.1.choose_spec.1⟩
  frame := fun _ _ _ st k => ⟨st.1.at fun o e => k it (by simp) o e, st.2.at fun o e => k l (by simp) o e⟩
  item := fun j s Q E hj st q => by
    have hlt : i + j < items.size := by omega
    refine wpAny_nextOf_list_item st.1 st.2 (x := items[i + j]) (by simp [hlt]) fun h' y sb => ?_
    exact q _ h' s.toks (by simp [hlt]) ⟨y, st.2.extBut sb.extBut hne⟩ sb
  done := fun s Q E st q => wpAny_nextOf_list_end hh st.1 st.2 (by simp; omega) q
theorem drawsT {prog : Program} {w : World} {A : Around} (hh : A.handled = none) (it l : Addr) (hne : l ≠ it) (items : Array Value) (i : Nat) : Draws prog w A it [it, l] (items.size - i) (fun j v => items[i + j]? = some v) (fun j h => h.IsTupleIter it l (i + j) ∧ h.IsTuple l items) where
  live := fun _ _ st => ⟨_, st.1.choose_spec.1⟩
  frame := fun _ _ _ st k => ⟨st.1.at fun o e => k it (by simp) o e, st.2.at fun o e => k l (by simp) o e⟩
  item := fun j s Q E hj st q => by
    have hlt : i + j < items.size := by omega
    refine wpAny_nextOf_tuple_item st.1 st.2 (x := items[i + j]) (by simp [hlt]) fun h' y sb => ?_
    exact q _ h' s.toks (by simp [hlt]) ⟨y, st.2.extBut sb.extBut hne⟩ sb
  done := fun s Q E st q => wpAny_nextOf_tuple_end hh st.1 st.2 (by simp; omega) q
structure ZipMIn (N : Nat) (p q : Addr) (i : Nat) (h : Heap) : Prop extends ZipMAt h N p q i where
  lp : p < N
  lq : q < N
theorem turn_zipM {P : Program} {w : World} {K : PySem.W.Frag} {es : List Expr} {kk : Nat} {tp : Pos} {p q : Addr} {N : Nat} :
    Turn P w K (.Tuple es kk tp) (ItzM K p q) (cells N) (N + 4) (fun i h => ZipMIn N p q i h) where
  mem := by simp [cells]
  obj := fun i h st c hc => by
    obtain ⟨⟨z, ti, ⟨u, v, to_⟩, ⟨o1, e1, _, d1⟩, ⟨o2, e2, _, d2⟩⟩, _, _⟩ := st
    rcases mem_cells hc with rfl | rfl | rfl | rfl | rfl
    · exact ⟨_, z, fun v y => nomatch y⟩
    · exact ⟨_, to_, fun v y => nomatch y⟩
    · exact ⟨_, ti, fun v y => nomatch y⟩
    · exact ⟨o2, e2, fun v y => by rw [d2] at y; cases y⟩
    · exact ⟨o1, e1, fun v y => by rw [d1] at y; cases y⟩
  keep := fun i h h' st k => by
    obtain ⟨⟨z, ti, ⟨u, v, to_⟩, a, b⟩, lp, lq⟩ := st
    exact ⟨⟨k _ (by simp [cells]) _ z, k _ (by simp [cells]) _ ti, ⟨u, v, k _ (by simp [cells]) _ to_⟩, a.at fun o y => k _ (by simp [cells]) o y, b.at fun o y => k _ (by simp [cells]) o y⟩, lp, lq⟩
  item := by
    intro X eP ew eK hc i pins s σ H E I hf st hg
    subst eP ew eK
    obtain ⟨⟨z, ti, ⟨u0, v0, to_⟩, a, b⟩, lp, lq⟩ := st
    obtain ⟨xs, ys, x, y, qx, qy, hx, hy⟩ := hg
    obtain ⟨its, rv, px, _⟩ := I.list qx
    obtain ⟨its2, rv2, py, _⟩ := I.tuple qy
    obtain ⟨u, hu, ru⟩ := rv.get (i := i) hx
    obtain ⟨v, hv, rv'⟩ := rv2.get hy
    have hh : X.A.in1.handled = none := I.ok.hd hc
    have S := sep_cells lp lq
    have i1 : i < its.length := (List.getElem?_eq_some_iff.mp hu).1
    have i2 : i < its2.length := (List.getElem?_eq_some_iff.mp hv).1
    have nz : N + 4 < s.heap.objs.size := Heap.lt_size z
    refine wpAny_pyNext_zipD2_item (i := 0) S (drawsL hh N p (Nat.ne_of_lt lp) its.toArray i) (drawsT hh (N + 1) q (Nat.ne_of_lt (Nat.lt_succ_of_lt lq)) its2.toArray i) z ti to_ ⟨a, px.isList⟩ ⟨b, py⟩ (by simp; omega) (by simp; omega) fun x1 x2 h' tk p1 p2 z' to' st1 st2 new sz k => ?_
    have ex1 : x1 = u := by
      have : its[i]? = some x1 := by simpa using p1
      rw [hu] at this
      exact Option.some.inj this.symm
    have ex2 : x2 = v := by
      have : its2[i]? = some x2 := by simpa using p2
      rw [hv] at this
      exact Option.some.inj this.symm
    subst ex1 ex2
    refine ⟨_, rfl, wpAny_letOwnedTupleGo_zip (s := { s with heap := h', toks := tk }) z' fun h2 z2 sb => ?_⟩
    have T2 : h2.get? s.heap.objs.size = some { cls := .type "tuple", data := .seq #[x1, x2] } := (sb.2 _ (Nat.ne_of_gt nz)).trans new
    have nw : ObjOk X.prog X.w (upd H s.heap.objs.size (.tup [x, y])) h2 s.heap.objs.size (.tup [x, y]) := ⟨by show 2 ≤ sizeLine; decide, [x1, x2], .cons ru (.cons rv' .nil), ⟨_, T2, rfl, _, rfl⟩⟩
    have I2 : Inv X pins σ (upd H s.heap.objs.size (.tup [x, y])) { s with heap := h2, toks := tk } :=
      I.turnedNew (t' := tk) (ch := cells N) (fun c o hb e => (sb.2 c (far_cells hb).1).trans (k c o (far_cells hb).1 (far_cells hb).2.1 (far_cells hb).2.2.1 (far_cells hb).2.2.2 e)) hf (Nat.le_refl _) nw
    refine ⟨.ref s.heap.objs.size, _, I2, rfl, ⟨_, x, y, rfl, I.hok.fresh (Nat.le_refl _), rfl, fun l hl => by rw [I.list_inj hl qx]; exact hx, fun l hl => by rw [I.tuple_inj hl qy]; exact hy⟩, ⟨⟨z2, ?_, ⟨x1, x2, ?_⟩, ?_, ?_⟩, lp, lq⟩, fun c hcm => ?_⟩
    · exact (sb.2 _ (nN (by omega))).trans (k _ _ (nN (by omega)) (nN (by omega)) (nN (by omega)) (nN (by omega)) ti)
    · exact (sb.2 _ (nN (by omega))).trans to'
    · have := st1.1
      simp only [Nat.zero_add] at this
      exact this.at fun o e => (sb.2 _ (nN (by omega))).trans e
    · have := st2.1
      simp only [Nat.zero_add] at this
      exact this.at fun o e => (sb.2 _ (nN (by omega))).trans e
    · have hlt : @LT.lt Nat _ c s.heap.objs.size := by
        rcases mem_cells hcm with e | e | e | e | e <;> (have e : @Eq Nat c _ := e; omega)
      exact (upd_ne (Nat.ne_of_lt hlt)).trans (hf c hcm).1
  done := by
    intro X eP ew eK hc i pins s σ H E I hf st hg
    subst eP ew eK
    obtain ⟨⟨z, ti, ⟨u0, v0, to_⟩, a, b⟩, lp, lq⟩ := st
    obtain ⟨xs, ys, qx, qy, hend⟩ := hg
    obtain ⟨its, rv, px, _⟩ := I.list qx
    obtain ⟨its2, rv2, py, _⟩ := I.tuple qy
    have hh : X.A.in1.handled = none := I.ok.hd hc
    have S := sep_cells lp lq
    have l1 := rv.length
    have l2 := rv2.length
    refine wpAny_pyNext_zipD2_end (i := 0) S (drawsL hh N p (Nat.ne_of_lt lp) its.toArray i) (drawsT hh (N + 1) q (Nat.ne_of_lt (Nat.lt_succ_of_lt lq)) its2.toArray i) z ti to_ ⟨a, px.isList⟩ ⟨b, py⟩ (by omega) (by omega) (by simp; omega) fun h' tk k => ?_
    exact ⟨rfl, I.turnedL (t' := tk) (ch := cells N) (fun c o hb e => k c o (far_cells hb).1 (far_cells hb).2.1 (far_cells hb).2.2.1 (far_cells hb).2.2.2 e) hf⟩
  self := fun A i s Q E st h => wpAny_pyIter_zip st.z h
def iZipM (K : PySem.W.Frag) (ta : TA) : TI := fun σ H R => ta σ H fun vs H1 => ∃ a b xs ys, vs = [.ref a, .ref b] ∧ SqL K H1 a xs ∧ SqT K H1 b ys ∧ R (ItzM K a b) H1
theorem pi_zipM {X : Cx} {e e2 : Expr} {ta : TA} {p pos tpos : Pos} {es : List Expr} {kk : Nat} (hg : Gl X "zip") (hm : X.mg "zip" = none) (ha : PA X [e, e2] ta)
    (hs : starEach [e, e2] X.env = (false, eval e X.env) :: starEach [e2] X.env := by rfl) (hpl : (backTo pos (starEach [e2] X.env)).any (·.1) = false := by rfl) : PI X (.Tuple es kk tpos) (.Call (.Name "zip" p) [e, e2] [] pos) (iZipM X.K ta) := by
  refine ⟨fun pins s σ H R I hw => ?_⟩
  refine Call_ (ld_blt I hg hm PyProof.Rows.boot_zip (PyProof.Rows.callWith_type1 (thn (ha.run pos pins s σ H _ I hw) fun us s1 ⟨vs, H1, I1, r1, a, b, xs, ys, ex, qx, qy, q⟩ => ?_) hs hpl))
  subst ex
  obtain ⟨u, v, rfl, r2, r3⟩ := vals2 r1
  cases r2
  cases r3
  obtain ⟨its, rv, p1, _⟩ := I1.list qx
  obtain ⟨its2, rv2, p2, _⟩ := I1.tuple qy
  have la : @LT.lt Nat _ a s1.heap.objs.size := p1.lt
  have lb : b < s1.heap.objs.size := by
    obtain ⟨o, ho, _⟩ := id p2
    exact Heap.lt_size ho
  refine zipM_call p1.isList p2 fun h' z k => wpAny_pyIter_zip z.z ?_
  have I2 : Inv X pins σ H1 { s1 with heap := h' } := I1.kept (t' := s1.toks) k
  refine ⟨s1.heap.objs.size + 4, cells s1.heap.objs.size, _, _, H1, rfl, I2, turn_zipM, ⟨z, la, lb⟩, fun c hc => ?_, q⟩
  have hle : @LE.le Nat _ s1.heap.objs.size c := by
    rcases mem_cells hc with e | e | e | e | e <;> (have e : @Eq Nat c _ := e; omega)
  exact I1.fpOk (b := c) hle (I1.hok.fresh (a := c) hle)
section
variable {X : Cx} {E : En} {Γ : Gm} {M : Ow} {a b : Expr}
theorem src_zipM {Z : Ow → Nat → (Nat → Rep → Prop) → Prop} (h : WA X E Γ M [a, b] fun ρs M1 => ∃ r1 r2, SubL ρs [RL X.K r1, RT X.K r2] ∧ Z M1 (min r1.length r2.length) fun i ρ => ∃ ρ1 ρ2, r1[i]? = some ρ1 ∧ r2[i]? = some ρ2 ∧ ρ = RTt [ρ1, ρ2]) : Src X E Γ M (iZipM X.K (tWA X [a, b])) Z :=
  ⟨fun {σ G H} R a' k => h σ G H a' _ fun ρs M1 vs G1 H1 ⟨r1, r2, sb, hz⟩ s1 a1 rr => by
    obtain ⟨v, u, rfl, ⟨p, xs, e1, h1, x1⟩, ⟨q, ys, e2, h2, y1⟩⟩ := reps2 (sb.reps rr)
    subst e1 e2
    have q1 : ∀ {H2 G2 : Hp}, Same G1 G2 → Same G2 H2 → SqL X.K H2 p xs := fun s g => Same.seq (s.trans g) h1
    have q2 : ∀ {H2 G2 : Hp}, Same G1 G2 → Same G2 H2 → SqT X.K H2 q ys := fun s g => same_seqT (s.trans g) h2
    refine ⟨p, q, xs, ys, rfl, Same.seq a1.gh h1, same_seqT a1.gh h2, k _ _ _ _ _ _ hz s1 a1 fun i H2 G2 s2 g2 => ⟨fun hi => ?_, fun hi => ?_, fun x H3 hi ⟨T, x2, y2, e3, hT, e4, z1, z2⟩ => ?_⟩⟩
    · have i1 : i < xs.length := by rw [← x1.length]; omega
      have i2 : i < ys.length := by rw [← y1.length]; omega
      exact ⟨xs, ys, xs[i], ys[i], q1 s2 g2, q2 s2 g2, by simp [i1], by simp [i2]⟩
    · refine ⟨xs, ys, q1 s2 g2, q2 s2 g2, ?_⟩
      rw [← x1.length, ← y1.length]
      omega
    · subst e3 e4
      obtain ⟨ρ1, e5, r5⟩ := (x1.mono s2).get2 (z1 xs (q1 s2 g2))
      obtain ⟨ρ2, e6, r6⟩ := (y1.mono s2).get2 (z2 ys (q2 s2 g2))
      have nw : New G2 H2 (upd G2 T (.tup [x2, y2])) (upd H2 T (.tup [x2, y2])) := New.put g2 hT
      exact ⟨_, RTt [ρ1, ρ2], nw, ⟨ρ1, ρ2, e5, e6, rfl⟩, T, [x2, y2], rfl, upd_same, ρ1.mono _ _ _ nw.gg r5, ρ2.mono _ _ _ nw.gg r6, trivial⟩⟩
end
end MM

namespace MM
open PySem L2 PyProof.Rows
theorem reps1 {ρ1 : Rep} {vs : List V} {G : Hp} (h : Reps [ρ1] vs G) : ∃ v, vs = [v] ∧ ρ1.p v G :=
  match vs, h with
  | [v], ⟨a, _⟩ => ⟨v, rfl, a⟩
section
variable {X : Cx} {E : En} {Γ : Gm} {M : Ow} {a b e iter tg : Expr} {body : List Stmt} {pos p : Pos} {Ψ : Ed} {wi : TI}
/-- a loop over any source -/
theorem ws_for_src (hp : PassesOwn (model X.prog X.w) X.A X.env X.xe) (hc : X.calm = true) (hi : PI X tg iter wi) (src : Src X E Γ M wi fun M1 n item => ForK X E Γ M1 tg body Ψ n item)
    (hs : ∀ x, foldedSetIterable iter X.env x = pure x := by intro _; rfl) : WS X E Γ M (.For tg iter body [] pos) Ψ :=
  ws_of (ps_for hp hc hi pg_w pss_w hs) fun σ G H at_ D k => src.lc _ at_ fun J M1 n item G1 H1 ⟨I, h0, ht, hd⟩ s1 a1 hJ => by
    have ks := k.mono s1
    refine ⟨fun i m σ H => m = n - i ∧ i ≤ n ∧ ∃ Γ' M' G', I i Γ' M' ∧ Same G1 G' ∧ At E Γ' M' σ G' H, ⟨n, rfl, Nat.zero_le _, Γ, M1, G1, h0, Same.refl _, a1⟩, ?_⟩
    rintro i m σ2 H2 ⟨rfl, hi, Γ', M', G', hI, s', a'⟩
    obtain ⟨j1, j2, j3⟩ := hJ i H2 G' s' a'.gh
    by_cases hlt : i < n
    · refine .inr ⟨j1 hlt, fun σ' H' => ∃ Γ2 M2 G2, I (i + 1) Γ2 M2 ∧ Same G1 G2 ∧ At E Γ2 M2 σ' G2 H', fun σ' H' hN => ⟨n - (i + 1), by omega, rfl, by omega, hN⟩, fun x H' hy => ?_⟩
      obtain ⟨G3, ρ, n3, hit, rx⟩ := j3 x H' hlt hy
      have a3 := a'.new n3
      have t := for_turn ks (ht i ρ Γ' M' hlt hit hI) (s'.trans n3.gg) a3 rx
      exact t
    · have e : i = n := by omega
      subst e
      exact .inl ⟨j2 (Nat.le_refl _), ks.nx _ _ (hd _ _ hI) _ _ _ s' a'⟩
theorem src_enum {Z : Ow → Nat → (Nat → Rep → Prop) → Prop} (h : WA X E Γ M [e] fun ρs M1 => ∃ r1, SubL ρs [RL X.K r1] ∧ Z M1 r1.length fun i ρ => ∃ ρ1, r1[i]? = some ρ1 ∧ ρ = RTt [RI (i : Int), ρ1]) : Src X E Γ M (iEnum X.K (tWA X [e])) Z :=
  ⟨fun {σ G H} R a' k => h σ G H a' _ fun ρs M1 vs G1 H1 ⟨l1, sb, hz⟩ s1 a1 r1 => by
    obtain ⟨v, rfl, t1⟩ := reps1 (sb.reps r1)
    obtain ⟨b1, vs1, e1, q1, t1⟩ := t1
    subst e1
    refine ⟨b1, vs1, rfl, Same.seq a1.gh q1, ?_⟩
    refine k _ _ _ _ _ _ hz s1 a1 fun i H2 G2 s2 g2 => ⟨fun hi => ?_, fun hi => ?_, fun x H3 hi hy => ?_⟩
    · have h1 : i < vs1.length := by rw [← t1.length]; exact hi
      exact ⟨vs1, vs1[i], Same.seq (s2.trans g2) q1, List.getElem?_eq_getElem h1⟩
    · exact ⟨vs1, Same.seq (s2.trans g2) q1, by rw [← t1.length]; exact hi⟩
    · obtain ⟨T, x', rfl, hT, rfl, f1⟩ := hy
      obtain ⟨ρ1, i1, r1'⟩ := (t1.mono s2).get2 (f1 vs1 (Same.seq (s2.trans g2) q1))
      have n := New.put (o := HO.tup [.int (i : Nat), x']) g2 hT
      exact ⟨_, RTt [RI (i : Int), ρ1], n, ⟨ρ1, i1, rfl⟩, T, [.int (i : Nat), x'], rfl, upd_same, rfl, ρ1.mono _ _ _ n.gg r1', trivial⟩⟩
end
end MM

namespace MM
open PySem L2 PyProof.Rows
/-! ### enumerate(a tuple) -/
section
abbrev enO (N : Nat) : Obj := { cls := .type "enumerate", data := .fields #[.none, .bool false, .ref N, rawInt 0, .none, .none] }
set_option maxHeartbeats 8000000 in
theorem enumT_new (t : Addr) (ys : Array Value) : Meets (Builtin.«enumerate.__new__» ⟨[.type "enumerate", .ref t], []⟩) (fun _ R s => s.heap.IsTuple t ys ∧ R (.ok (.ret (.ref (s.heap.push (tti t)).objs.size))) { s with heap := (s.heap.push (tti t)).push (enO s.heap.objs.size) }) :=
  .of_wp fun pr wd ar R s hyp => by
    obtain ⟨hp, gn, dr, tk, os⟩ := s
    obtain ⟨y, res⟩ := hyp
    have isE := sub_enumerate
    have Y : Heap.IsTuple (Shared.heap ⟨hp, gn, dr, tk, os⟩) t ys := y
    wp_walk using wpAny_pyIter_tuple Y
    refine wpAny_stack_any fun st => wpAny_pure ?_
    split
    · rename_i c _ _ _ _ _
      cases (c == Value.type "enumerate") <;> (wp_walk using wpAny_pyIter_tuple Y; exact ⟨_, rfl, res⟩)
    · wp_walk using wpAny_pyIter_tuple Y
      exact ⟨_, rfl, res⟩
variable {s : Shared} {prog : Program} {A : Around} {w : World} {E : Value → Shared → Prop}
theorem enumT_call {t : Addr} {ys : Array Value} {Q : Value → Shared → Prop} (y : s.heap.IsTuple t ys)
    (res : ∀ h', IsEnum h' (s.heap.objs.size + 1) s.heap.objs.size 0 .none → h'.IsTupleIter s.heap.objs.size t 0 → (∀ c o, s.heap.get? c = some o → h'.get? c = some o) → Q (.ref (s.heap.objs.size + 1)) { s with heap := h' }) : wpAny (model prog w) A (call (.type "enumerate") [.ref t]) Q E s := by
  refine callType_new F.called_enumerate (by decide) (F.typeCall_enumerate_1 _) (F.newCall_enumerate_1 _) (fun o => F.args_object_init_2 o _) F.entry_enumerate_new (enumT_new t ys) ⟨y, ?_⟩
  have n1 : (s.heap.push (tti t)).objs.size = s.heap.objs.size + 1 := Heap.size_push ..
  have o2 : ((s.heap.push (tti t)).push (enO s.heap.objs.size)).get? (s.heap.push (tti t)).objs.size = some _ := Heap.get?_push_size _ rfl
  have o1 : ((s.heap.push (tti t)).push (enO s.heap.objs.size)).get? s.heap.objs.size = some _ := Heap.get?_push_of_some _ (Heap.get?_push_size _ rfl)
  show _ ∧ _
  rw [n1] at o2 ⊢
  exact ⟨⟨_, o2, rfl⟩, res _ o2 ⟨_, o1, rfl, rfl⟩ fun c o e => Heap.get?_push_of_some _ (Heap.get?_push_of_some _ e)⟩
end
/-- the items of the tuple at a, each with its place, in new pairs -/
def IteT (K : PySem.W.Frag) (a : Addr) : It :=
  ⟨fun i H => ∃ (xs : List V) (x : V), SqT K H a xs ∧ xs[i]? = some x,
    fun i H v H' => ∃ T x, v = .ref T ∧ H T = none ∧ H' = upd H T (.tup [.int (i : Nat), x]) ∧ ∀ l, SqT K H a l → l[i]? = some x,
    fun i H => ∃ l : List V, SqT K H a l ∧ l.length ≤ i⟩
structure EnTIn (N a : Addr) (i : Nat) (h : Heap) : Prop where
  e : ∃ old, IsEnum h (N + 1) N ((i : Nat) : Int) old
  it : h.IsTupleIter N a i
  la : a < N
theorem turn_enumT {P : Program} {w : World} {K : PySem.W.Frag} {es : List Expr} {kk : Nat} {tp : Pos} {a N : Addr} : Turn P w K (.Tuple es kk tp) (IteT K a) [N + 1, N] (N + 1) (fun i h => EnTIn N a i h) where
  mem := List.mem_cons_self
  obj := fun i h st c hc => by
    obtain ⟨⟨old, e⟩, ⟨o, ho, _, hd⟩, _⟩ := st
    rcases List.mem_cons.mp hc with rfl | hc
    · exact ⟨_, e, fun v y => nomatch y⟩
    · rw [List.mem_singleton] at hc
      subst hc
      exact ⟨o, ho, fun v y => by rw [hd] at y; cases y⟩
  keep := fun i h h' st k => by
    obtain ⟨⟨old, e⟩, it, la⟩ := st
    exact ⟨⟨old, k _ (by simp) _ e⟩, it.at fun o y => k _ (by simp) o y, la⟩
  item := by
    intro X eP ew eK hc i pins s σ H E I hf st hg
    subst eP ew eK
    obtain ⟨⟨old, e⟩, it, la⟩ := st
    obtain ⟨xs, x, qx, hx⟩ := hg
    obtain ⟨its, rv, px, _⟩ := I.tuple qx
    obtain ⟨u, hu, ru⟩ := rv.get (i := i) hx
    have hh : X.A.in1.handled = none := I.ok.hd hc
    have lt : i < its.length := (List.getElem?_eq_some_iff.mp hu).1
    have nz : N + 1 < s.heap.objs.size := Heap.lt_size e
    have nN1 : ¬ @Eq Addr (N + 1) N := nN (by omega)
    have la' : @LT.lt Nat _ a N := la
    have D := Draws.tuple (prog := X.prog) (w := X.w) hh N a (Nat.ne_of_lt la) its.toArray
    refine wpAny_pyNext_enum_itemD D e ⟨it, px⟩ (by simpa using lt) nN1 (nM2 (by omega) (by omega)) fun y h' tk hy ho st' hT hz k => ?_
    have ey : y = u := by
      have hy : its.toArray[i]? = some y := hy
      have : its[i]? = some y := by simpa using hy
      rw [hu] at this
      exact Option.some.inj this.symm
    subst ey
    refine ⟨_, rfl, wpAny_letOwnedTupleGo_enum (s := { s with heap := h', toks := tk + 1 }) ho fun h2 e2 sb => ?_⟩
    have T2 : h2.get? s.heap.objs.size = some { cls := .type "tuple", data := .seq #[.int i tk, y] } := (sb.2 _ (Nat.ne_of_gt nz)).trans hT
    have nw : ObjOk X.prog X.w (upd H s.heap.objs.size (.tup [.int (i : Nat), x])) h2 s.heap.objs.size (.tup [.int (i : Nat), x]) := ⟨by show 2 ≤ sizeLine; decide, [.int i tk, y], .cons ⟨_, rfl⟩ (.cons ru .nil), ⟨_, T2, rfl, _, rfl⟩⟩
    have away : ∀ c : Addr, c ∉ [N + 1, N] → c ≠ N + 1 ∧ c ≠ N := fun c hc => ⟨fun z => hc (by simp [z]), fun z => hc (by simp [z])⟩
    have I2 : Inv X pins σ (upd H s.heap.objs.size (.tup [.int (i : Nat), x])) { s with heap := h2, toks := tk + 1 } :=
      I.turnedNew (t' := tk + 1) (ch := [N + 1, N]) (fun c o hb q => (sb.2 c (away c hb).1).trans (k c o (away c hb).1 (away c hb).2 q)) hf (Nat.le_refl _) nw
    refine ⟨.ref s.heap.objs.size, _, I2, rfl, ⟨_, x, rfl, I.hok.fresh (Nat.le_refl _), rfl, fun l hl => by rw [I.tuple_inj hl qx]; exact hx⟩, ⟨⟨y, ?_⟩, ?_, la⟩, fun c hcm => ?_⟩
    · have e1 : ((i + 1 : Nat) : Int) = (i : Int) + 1 := by omega
      rw [e1]
      exact e2
    · exact st'.1.at fun o q => (sb.2 _ (nN (by omega))).trans q
    · have hlt : @LT.lt Nat _ c s.heap.objs.size := by
        rcases List.mem_cons.mp hcm with z | z
        · rw [z]
          exact nz
        · rw [List.mem_singleton.mp z]
          exact Nat.lt_of_succ_lt nz
      exact (upd_ne (Nat.ne_of_lt hlt)).trans (hf c hcm).1
  done := by
    intro X eP ew eK hc i pins s σ H E I hf st hg
    subst eP ew eK
    obtain ⟨⟨old, e⟩, it, la⟩ := st
    obtain ⟨l, ql, hend⟩ := hg
    obtain ⟨its, rv, px, _⟩ := I.tuple ql
    have hh : X.A.in1.handled = none := I.ok.hd hc
    have ll := rv.length
    have D := drawsT (prog := X.prog) (w := X.w) hh N a (Nat.ne_of_lt la) its.toArray i
    have z0 : its.toArray.size - i = 0 := by
      rw [List.size_toArray]
      omega
    obtain ⟨f0, f1, f2, f3, f4, f5⟩ := hf N (by simp)
    refine wpAny_pyNext_enum_endD D e (by rw [z0]; exact ⟨it, px⟩) fun h' eb => ?_
    exact ⟨rfl, I.turned (t' := s.toks) (fun b o hb q => eb b o hb q) f0 f1 f3 f4 f5⟩
  self := fun A i s Q E st h => by
    obtain ⟨⟨_, e⟩, _, _⟩ := st
    exact wpAny_pyIter_enum e h
def iEnumT (K : PySem.W.Frag) (ta : TA) : TI := fun σ H R => ta σ H fun vs H1 => ∃ a xs, vs = [.ref a] ∧ SqT K H1 a xs ∧ R (IteT K a) H1
theorem pi_enumT {X : Cx} {e : Expr} {ta : TA} {p pos tpos : Pos} {es : List Expr} {kk : Nat} (hg : Gl X "enumerate") (hm : X.mg "enumerate" = none) (ha : PA X [e] ta) (hs : starEach [e] X.env = [(false, eval e X.env)] := by rfl) :
    PI X (.Tuple es kk tpos) (.Call (.Name "enumerate" p) [e] [] pos) (iEnumT X.K ta) := by
  refine ⟨fun pins s σ H R I hw => ?_⟩
  refine Call_ (ld_blt I hg hm boot_enumerate (PyProof.Rows.callWith_type1 (thn (ha.run pos pins s σ H _ I hw) fun us s1 ⟨vs, H1, I1, r1, a, xs, ex, qx, q⟩ => ?_) hs rfl))
  subst ex
  obtain ⟨u, rfl, ru⟩ := vals1 r1
  cases ru
  obtain ⟨its, rv, px, _⟩ := I1.tuple qx
  have la : @LT.lt Nat _ a s1.heap.objs.size := by
    obtain ⟨o, ho, _⟩ := id px
    exact Heap.lt_size ho
  refine enumT_call px fun h' z it k => wpAny_pyIter_enum z ?_
  have I2 : Inv X pins σ H1 { s1 with heap := h' } := I1.kept (t' := s1.toks) k
  refine ⟨s1.heap.objs.size + 1, [s1.heap.objs.size + 1, s1.heap.objs.size], _, _, H1, rfl, I2, turn_enumT, ⟨⟨_, z⟩, it, la⟩, fun c hc => ?_, q⟩
  have hle : @LE.le Nat _ s1.heap.objs.size c := by
    rcases List.mem_cons.mp hc with z | z
    · have z : @Eq Nat c _ := z
      omega
    · have z : @Eq Nat c _ := List.mem_singleton.mp z
      omega
  exact I1.fpOk (b := c) hle (I1.hok.fresh (a := c) hle)
section
variable {X : Cx} {E : En} {Γ : Gm} {M : Ow} {e : Expr}
theorem src_enumT {Z : Ow → Nat → (Nat → Rep → Prop) → Prop} (h : WA X E Γ M [e] fun ρs M1 => ∃ r1, SubL ρs [RT X.K r1] ∧ Z M1 r1.length fun i ρ => ∃ ρ1, r1[i]? = some ρ1 ∧ ρ = RTt [RI (i : Int), ρ1]) : Src X E Γ M (iEnumT X.K (tWA X [e])) Z :=
  ⟨fun {σ G H} R a' k => h σ G H a' _ fun ρs M1 vs G1 H1 ⟨l1, sb, hz⟩ s1 a1 r1 => by
    obtain ⟨v, rfl, p1, vs1, e1, q1, t1⟩ := reps1 (sb.reps r1)
    subst e1
    have at_ : ∀ {H2 G2 : Hp}, Same G1 G2 → Same G2 H2 → SqT X.K H2 p1 vs1 := fun s g => same_seqT (s.trans g) q1
    refine ⟨p1, vs1, rfl, same_seqT a1.gh q1, k _ _ _ _ _ _ hz s1 a1 fun i H2 G2 s2 g2 => ⟨fun hi => ?_, fun hi => ⟨vs1, at_ s2 g2, by rw [← t1.length]; exact hi⟩, fun x H3 hi ⟨T, x2, e3, hT, e4, z1⟩ => ?_⟩⟩
    · have lt : i < vs1.length := by rw [← t1.length]; exact hi
      exact ⟨vs1, vs1[i], at_ s2 g2, List.getElem?_eq_getElem lt⟩
    · subst e3 e4
      obtain ⟨ρ1, i1, r2⟩ := (t1.mono s2).get2 (z1 vs1 (at_ s2 g2))
      have n := New.put (o := HO.tup [.int (i : Nat), x2]) g2 hT
      exact ⟨_, RTt [RI (i : Int), ρ1], n, ⟨ρ1, i1, rfl⟩, T, [.int (i : Nat), x2], rfl, upd_same, rfl, ρ1.mono _ _ _ n.gg r2, trivial⟩⟩
end
end MM

namespace MM
open PySem L2 PyProof.Rows
/-! ### zip(a list, a list, strict=True), lists as long as each other -/
section
variable {prog : Program} {w : World} {A : Around} {E : Value → Shared → Prop} {s : Shared} {it : Addr} {fp : List Addr} {n i : Nat} {P : Nat → Value → Prop} {St : Nat → Heap → Prop}
theorem ask_more {Q : Option Value → Shared → Prop} (D : Draws prog w A it fp n P St) (hi : i < n) (st : St i s.heap) (k : ∀ x h' tk, P i x → St (i + 1) h' → Heap.SameBut it s.heap h' → Q (some x) { s with heap := h', toks := tk }) : wpAny (model prog w) A (Builtin.SmallTypes.nextOrEnd (.ref it)) Q E s := by
  unfold Builtin.SmallTypes.nextOrEnd
  exact wpAny_bind (wpAny_attempt (D.item i s _ _ hi st fun x h' tk hx st' sb => wpAny_pure (k x h' tk hx st' sb)))
theorem ask_end {Q : Option Value → Shared → Prop} (D : Draws prog w A it fp n P St) (st : St n s.heap) (k : ∀ h', Heap.ExtBut it s.heap h' → Q none { s with heap := h' }) : wpAny (model prog w) A (Builtin.SmallTypes.nextOrEnd (.ref it)) Q E s := by
  unfold Builtin.SmallTypes.nextOrEnd
  refine wpAny_bind (wpAny_attempt (D.done s _ _ st fun h' e ex ⟨o, ho, hc⟩ => ?_))
  exact wpAny_bind (wpAny_isInstance (T := "StopIteration") (b := true) ⟨o, ho, hc⟩ isSubtype_stop (wpAny_pure (k h' ex)))
end
/-- the zip at z, strict -/
abbrev ZS (h : Heap) (z TI TO : Addr) (f0 : Value) : Prop := h.get? z = some { cls := .type "zip", dict := none, data := .fields #[f0, .bool false, .bool true, .ref TI, .ref TO], slots := #[] }
section
variable {prog : Program} {w : World} {A : Around} {E : Value → Shared → Prop} {s : Shared} {z TI TO i1 i2 : Addr} {fp1 fp2 : List Addr} {n i : Nat} {P1 P2 : Nat → Value → Prop} {St1 St2 : Nat → Heap → Prop} {a1 a2 : Value}
set_option maxHeartbeats 8000000 in
theorem strict_item {Q : Value → Shared → Prop} (S : ZipSep2 z TI TO i1 i2 fp1 fp2) (D1 : Draws prog w A i1 fp1 n P1 St1) (D2 : Draws prog w A i2 fp2 n P2 St2)
    (hz : ZS s.heap z TI TO .none) (ti : IsTupOf2 s.heap TI (.ref i1) (.ref i2)) (to_ : IsTupOf2 s.heap TO a1 a2) (st1 : St1 i s.heap) (st2 : St2 i s.heap) (lt : i < n)
    (res : ∀ x y h' tk, P1 i x → P2 i y → ZS h' z TI TO (rawInt s.heap.objs.size) → IsTupOf2 h' TO x y → St1 (i + 1) h' → St2 (i + 1) h' → IsTupOf2 h' s.heap.objs.size x y →
      (∀ c o, c ≠ z → c ≠ TO → c ≠ i1 → c ≠ i2 → s.heap.get? c = some o → h'.get? c = some o) → Q (.ref s.heap.objs.size) { s with heap := h', toks := tk }) :
    wpAny (model prog w) A (Builtin.«zip.__next__» ⟨[.ref z], []⟩) (fun fin s' => ∃ v, fin = .done (.ret v) ∧ Q v s') E s := by
  obtain ⟨hp, gn, dr, tk, os⟩ := s
  refine wpAny_bind (m := field (.ref z) 2) (wpAny_field hz rfl (x := .bool true) rfl ?_)
  refine wpAny_bind (m := field (.ref z) 3) (wpAny_field hz rfl (x := .ref TI) rfl ?_)
  refine wpAny_bind (wpAny_seqItems ti rfl ?_)
  refine wpAny_bind (m := Builtin.SmallTypes.ownedTupleIsFree (.ref z)) ?_
  unfold Builtin.SmallTypes.ownedTupleIsFree
  refine wpAny_bind (wpAny_field hz rfl (x := .none) rfl (wpAny_pure ?_))
  simp only [if_true]
  refine wpAny_bind (wpAny_rule (wpAny_bind (wpAny_field hz rfl (x := .ref TO) rfl ?_)))
  refine wpAny_bind (wpAny_setField_rec hz (by simp) fun b0 z0 c0 => ?_)
  replace z0 : ZS b0 z TI TO .ellipsis := z0
  replace c0 : Heap.SameBut z hp b0 := c0
  simp only [List.zipIdx_cons, List.zipIdx_nil, List.forIn_cons, List.forIn_nil]
  refine wpAny_bind (wpAny_bind (wpAny_bind (wpAny_onRaise ?_)))
  show wpAny _ _ (Builtin.SmallTypes.nextOrEnd (.ref i1)) _ _ ⟨b0, gn, dr, tk, os⟩
  refine ask_more D1 lt (D1.over st1 c0 S.zf1) fun x b1 t1 hx s1 c1 => ?_
  replace c1 : Heap.SameBut i1 b0 b1 := c1
  have u1 : IsTupOf2 b1 TO a1 a2 := c1.extBut _ _ S.Ti1 (c0.extBut _ _ S.TOz to_)
  refine wpAny_bind (wpAny_seqItems (s := ⟨b1, gn, dr, t1, os⟩) u1 rfl ?_)
  refine wpAny_bind (updateSeq_IsTupOf2 (s := ⟨b1, gn, dr, t1, os⟩) u1 fun b2 u2 c2 => ?_)
  replace u2 : IsTupOf2 b2 TO x a2 := u2
  replace c2 : Heap.SameBut TO b1 b2 := c2
  refine wpAny_bind (wpAny_letGo (wpAny_pure ?_))
  refine wpAny_bind (wpAny_bind (wpAny_onRaise ?_))
  show wpAny _ _ (Builtin.SmallTypes.nextOrEnd (.ref i2)) _ _ ⟨b2, gn, dr, t1, os⟩
  refine ask_more D2 lt (D2.over (D2.over (D2.over st2 c0 S.zf2) c1 S.sep1_2) c2 S.Tf2) fun y b3 t2 hy s2 c3 => ?_
  replace c3 : Heap.SameBut i2 b2 b3 := c3
  have u3 : IsTupOf2 b3 TO x a2 := c3.extBut _ _ S.Ti2 u2
  refine wpAny_bind (wpAny_seqItems (s := ⟨b3, gn, dr, t2, os⟩) u3 rfl ?_)
  refine wpAny_bind (updateSeq_IsTupOf2 (s := ⟨b3, gn, dr, t2, os⟩) u3 fun b4 u4 c4 => ?_)
  replace u4 : IsTupOf2 b4 TO x y := u4
  replace c4 : Heap.SameBut TO b3 b4 := c4
  refine wpAny_bind (wpAny_letGo (wpAny_pure (wpAny_pure ?_)))
  refine wpAny_bind (wpAny_seqItems (s := ⟨b4, gn, dr, t2, os⟩) u4 rfl (wpAny_bind (wpAny_newTuple ?_)))
  have same : b4.objs.size = hp.objs.size := by rw [c4.1, c3.1, c2.1, c1.1, c0.1]
  have z4 : ZS b4 z TI TO .ellipsis := c4.extBut _ _ S.TOz.symm (c3.extBut _ _ S.zi2 (c2.extBut _ _ S.TOz.symm (c1.extBut _ _ S.zi1 z0)))
  have old : ∀ c o, c ≠ z → c ≠ TO → c ≠ i1 → c ≠ i2 → hp.get? c = some o → b4.get? c = some o := fun c o k1 k2 k3 k4 e => c4.extBut _ _ k2 (c3.extBut _ _ k4 (c2.extBut _ _ k2 (c1.extBut _ _ k3 (c0.extBut _ _ k1 e))))
  have v1 : St1 (i + 1) b4 := D1.over (D1.over (D1.over s1 c2 S.Tf1) c3 S.sep2_1) c4 S.Tf1
  have v2 : St2 (i + 1) b4 := D2.over s2 c4 S.Tf2
  have under : z < b4.objs.size := Heap.lt_size z4
  refine wpAny_bind (m := Builtin.SmallTypes.ownedTupleHandOut (.ref z) (.ref b4.objs.size)) ?_
  unfold Builtin.SmallTypes.ownedTupleHandOut
  have z5 : ZS (b4.push { cls := .type "tuple", data := .seq #[x, y] }) z TI TO .ellipsis := Heap.get?_push_of_some _ z4
  refine wpAny_bind (wpAny_setField_rec z5 (by simp) fun b6 z6 c6 => ?_)
  replace z6 : ZS b6 z TI TO (rawInt b4.objs.size) := z6
  refine wpAny_setField_rec z6 (by simp) fun b7 z7 c7 => ?_
  replace z7 : ZS b7 z TI TO (rawInt b4.objs.size) := z7
  replace c6 : Heap.SameBut z (b4.push { cls := .type "tuple", data := .seq #[x, y] }) b6 := c6
  replace c7 : Heap.SameBut z b6 b7 := c7
  have up : ∀ c o, c ≠ z → b4.get? c = some o → b7.get? c = some o := fun c o k e => c7.extBut _ _ k (c6.extBut _ _ k (Heap.get?_push_of_some _ e))
  have pair : IsTupOf2 b7 b4.objs.size x y := c7.extBut _ _ (Nat.ne_of_gt under) (c6.extBut _ _ (Nat.ne_of_gt under) (Heap.get?_push_size _ rfl))
  rw [same] at z7 pair
  refine wpAny_pure ⟨_, rfl, ?_⟩
  show Q (.ref b4.objs.size) ⟨b7, gn, dr, t2, os⟩
  rw [same]
  exact res x y b7 t2 hx hy z7 (up _ _ S.TOz u4) (D1.frame _ _ _ v1 fun b hb o e => up b o (fun q => S.zf1 (q ▸ hb)) e) (D2.frame _ _ _ v2 fun b hb o e => up b o (fun q => S.zf2 (q ▸ hb)) e) pair fun c o k1 k2 k3 k4 e => up c o k1 (old c o k1 k2 k3 k4 e)
set_option maxHeartbeats 8000000 in
theorem strict_end {Q : Fin → Shared → Prop} (hh : A.handled = none) (S : ZipSep2 z TI TO i1 i2 fp1 fp2) (D1 : Draws prog w A i1 fp1 n P1 St1) (D2 : Draws prog w A i2 fp2 n P2 St2)
    (hz : ZS s.heap z TI TO .none) (ti : IsTupOf2 s.heap TI (.ref i1) (.ref i2)) (to_ : IsTupOf2 s.heap TO a1 a2) (st1 : St1 n s.heap) (st2 : St2 n s.heap)
    (res : ∀ h' tk e, (∀ c o, c ≠ z → c ≠ TO → c ≠ i1 → c ≠ i2 → s.heap.get? c = some o → h'.get? c = some o) → (∃ o, h'.get? e = some o ∧ o.cls = .type "StopIteration") → E (.ref e) { s with heap := h', toks := tk }) :
    wpAny (model prog w) A (Builtin.«zip.__next__» ⟨[.ref z], []⟩) Q E s := by
  obtain ⟨hp, gn, dr, tk, os⟩ := s
  refine wpAny_bind (m := field (.ref z) 2) (wpAny_field hz rfl (x := .bool true) rfl ?_)
  refine wpAny_bind (m := field (.ref z) 3) (wpAny_field hz rfl (x := .ref TI) rfl ?_)
  refine wpAny_bind (wpAny_seqItems ti rfl ?_)
  refine wpAny_bind (m := Builtin.SmallTypes.ownedTupleIsFree (.ref z)) ?_
  unfold Builtin.SmallTypes.ownedTupleIsFree
  refine wpAny_bind (wpAny_field hz rfl (x := .none) rfl (wpAny_pure ?_))
  simp only [if_true]
  refine wpAny_bind (wpAny_rule (wpAny_bind (wpAny_field hz rfl (x := .ref TO) rfl ?_)))
  refine wpAny_bind (wpAny_setField_rec hz (by simp) fun b0 z0 c0 => ?_)
  replace z0 : ZS b0 z TI TO .ellipsis := z0
  replace c0 : Heap.SameBut z hp b0 := c0
  simp only [List.zipIdx_cons, List.zipIdx_nil, List.forIn_cons, List.forIn_nil]
  refine wpAny_bind (wpAny_bind (wpAny_bind (wpAny_onRaise ?_)))
  show wpAny _ _ (Builtin.SmallTypes.nextOrEnd (.ref i1)) _ _ ⟨b0, gn, dr, tk, os⟩
  refine ask_end D1 (D1.over st1 c0 S.zf1) fun b1 c1 => ?_
  replace c1 : Heap.ExtBut i1 b0 b1 := c1
  have z1 : ZS b1 z TI TO .ellipsis := c1 _ _ S.zi1 z0
  refine wpAny_bind (wpAny_setField_rec (s := ⟨b1, gn, dr, tk, os⟩) z1 (by simp) fun b2 z2 c2 => ?_)
  replace c2 : Heap.SameBut z b1 b2 := c2
  have y2 : St2 n b2 := D2.over (D2.frame _ _ _ (D2.over st2 c0 S.zf2) fun b hb o e => c1 b o (fun q => S.sep1_2 (q ▸ hb)) e) c2 S.zf2
  refine wpAny_bind ?_
  simp only [List.drop_succ_cons, List.drop_zero, List.zipIdx_cons, List.zipIdx_nil, List.forIn_cons, List.forIn_nil]
  have dead : ∀ {Z : PySem.Fin → Shared → Prop}, wpAny (model prog w) A (do
      for (it, j) in (([Value.ref i1, Value.ref i2] : List Value).drop 1).zipIdx 1 do
        if (← Builtin.SmallTypes.nextOrEnd it).isSome then
          rule "zip.__next__.longer"; raiseError "ValueError" s!"zip() argument {j + 1} is longer than {if j == 1 then "argument 1" else s!"arguments 1-{j}"}"
      rule "zip.__next__.all-ended"; Builtin.SmallTypes.stopIteration) Z E ⟨b2, gn, dr, tk, os⟩ := by
    intro Z
    simp only [List.drop_succ_cons, List.drop_zero, List.zipIdx_cons, List.zipIdx_nil, List.forIn_cons, List.forIn_nil]
    refine wpAny_bind (wpAny_bind (wpAny_bind (ask_end D2 y2 fun b3 c3 => ?_)))
    replace c3 : Heap.ExtBut i2 b2 b3 := c3
    have old : ∀ c o, c ≠ z → c ≠ TO → c ≠ i1 → c ≠ i2 → hp.get? c = some o → b3.get? c = some o := fun c o k1 k2 k3 k4 e => c3 _ _ k4 (c2.extBut _ _ k1 (c1 _ _ k3 (c0.extBut _ _ k1 e)))
    simp only [Option.isSome_none, Bool.false_eq_true, if_false]
    refine wpAny_pure (wpAny_pure (wpAny_bind (wpAny_rule ?_)))
    unfold Builtin.SmallTypes.stopIteration
    simp only [newExc, newTuple, raiseNew]
    refine wpAny_bind (wpAny_bind (wpAny_newObj_type ?_ (by size_fits)))
    refine wpAny_bind (m := firstArgMember _ _) (wpAny_of_eq (a := Value.none) (by first | rfl | (simp only [firstArgMember]; rfl)) (wpAny_newObj_type ?_ (by size_fits)))
    refine wpAny_bind (wpAny_handled ?_)
    rw [hh]
    refine wpAny_bind (wpAny_pure (wpAny_throw ?_))
    exact res _ _ _ (fun c o k1 k2 k3 k4 e => Heap.get?_push_of_some _ (Heap.get?_push_of_some _ (old c o k1 k2 k3 k4 e))) ⟨_, Heap.get?_push_size _ rfl, rfl⟩
  exact dead
theorem ZS.ty (hz : ZS s.heap z TI TO a1) : s.TypeIs (.ref z) "zip" := ⟨_, hz, rfl⟩
theorem strict_next {Q : Option Value → Shared → Prop} (S : ZipSep2 z TI TO i1 i2 fp1 fp2) (D1 : Draws prog w A.in1 i1 fp1 n P1 St1) (D2 : Draws prog w A.in1 i2 fp2 n P2 St2)
    (hz : ZS s.heap z TI TO .none) (ti : IsTupOf2 s.heap TI (.ref i1) (.ref i2)) (to_ : IsTupOf2 s.heap TO a1 a2) (st1 : St1 i s.heap) (st2 : St2 i s.heap) (lt : i < n)
    (res : ∀ x y h' tk, P1 i x → P2 i y → ZS h' z TI TO (rawInt s.heap.objs.size) → IsTupOf2 h' TO x y → St1 (i + 1) h' → St2 (i + 1) h' → IsTupOf2 h' s.heap.objs.size x y →
      (∀ c o, c ≠ z → c ≠ TO → c ≠ i1 → c ≠ i2 → s.heap.get? c = some o → h'.get? c = some o) → Q (some (.ref s.heap.objs.size)) { s with heap := h', toks := tk }) :
    wpAny (model prog w) A (pyNext (.ref z)) Q E s := by
  have isz := ZS.ty hz
  unfold pyNext
  refine wpAny_bind (wpAny_attempt (wpAny_callSpecial?_slot (name := Str.ofString "__next__") isz F.slot_zip_next (wpAny_call_entry F.slot_zip_next isz F.entry_zip_next ?_ (F.args_zip_next_1 _))))
  exact strict_item S D1 D2 hz ti to_ st1 st2 lt fun x y h' tk c1 c2 c3 c4 c5 c6 c7 c8 => wpAny_pure (res x y h' tk c1 c2 c3 c4 c5 c6 c7 c8)
theorem strict_stop {Q : Option Value → Shared → Prop} (hh : A.in1.handled = none) (S : ZipSep2 z TI TO i1 i2 fp1 fp2) (D1 : Draws prog w A.in1 i1 fp1 n P1 St1) (D2 : Draws prog w A.in1 i2 fp2 n P2 St2)
    (hz : ZS s.heap z TI TO .none) (ti : IsTupOf2 s.heap TI (.ref i1) (.ref i2)) (to_ : IsTupOf2 s.heap TO a1 a2) (st1 : St1 n s.heap) (st2 : St2 n s.heap)
    (res : ∀ h' tk, (∀ c o, c ≠ z → c ≠ TO → c ≠ i1 → c ≠ i2 → s.heap.get? c = some o → h'.get? c = some o) → Q none { s with heap := h', toks := tk }) : wpAny (model prog w) A (pyNext (.ref z)) Q E s := by
  have isz := ZS.ty hz
  unfold pyNext
  refine wpAny_bind (wpAny_attempt (wpAny_callSpecial?_slot (name := Str.ofString "__next__") isz F.slot_zip_next (wpAny_call_entry F.slot_zip_next isz F.entry_zip_next ?_ (F.args_zip_next_1 _))))
  refine strict_end hh S D1 D2 hz ti to_ st1 st2 fun h' tk e k ⟨o, ho, hc⟩ => ?_
  exact wpAny_bind (wpAny_isInstance (T := "StopIteration") (b := true) ⟨o, ho, hc⟩ isSubtype_stop (wpAny_pure (res h' tk k)))
theorem strict_go {es : List Expr} {kk : Nat} {pos : Pos} {T : Addr} {Q : Unit → Shared → Prop} (hz : ZS s.heap z TI TO (rawInt T)) (res : ∀ h', ZS h' z TI TO .none → Heap.SameBut z s.heap h' → Q () { s with heap := h' }) :
    wpAny (model prog w) A (letOwnedTupleGo (.Tuple es kk pos) (.ref z) (.ref T)) Q E s := by
  unfold letOwnedTupleGo
  refine wpAny_bind (wpAny_load hz ?_)
  show wpAny _ _ (if (["enumerate", "zip", "dict_itemiterator", "dict_reverseitemiterator", "odict_iterator", "itertools.zip_longest", "itertools.pairwise"].contains "zip" && (#[rawInt T, .bool false, .bool true, .ref TI, .ref TO] : Array Value)[0]? == some (rawInt T)) = true then _ else _) Q E s
  rw [if_pos (by simp)]
  exact wpAny_bind (wpAny_rule (wpAny_setField_rec hz (by simp) fun h' z' sb => res h' z' sb))
theorem strict_iter {f0 : Value} {Q : Value → Shared → Prop} (hz : ZS s.heap z TI TO f0) (h : Q (.ref z) s) : wpAny (model prog w) A (pyIter (.ref z)) Q E s := by
  have isz := ZS.ty hz
  refine wpAny_pyIter_slot isz F.slot_zip_iter (wpAny_call_entry F.slot_zip_iter isz F.entry_zip_iter ?_ (F.args_zip_iter_1 _))
  exact wpAny_pure (α := PySem.Fin) ⟨_, rfl, "zip", _, isz, F.slot_zip_next.lookup, h⟩
end
/-! ### zip(a, b, strict=True) is made -/
theorem F.typeCall_zip_strict (a b c : Value) : checkTypeCall "zip" ⟨[a, b], [(Str.ofString "strict", c)]⟩ = pure () := by kernel_rfl
theorem F.newCall_zip_strict (a b c : Value) : checkBuiltinCall "zip.__new__" ⟨[.type "zip", a, b], [(Str.ofString "strict", c)]⟩ = pure () := by kernel_rfl
theorem F.args_init_strict (obj a b c : Value) : argsOk "object.__init__" ⟨[obj, a, b], [(Str.ofString "strict", c)]⟩ := by unfold argsOk; kernel_rfl
section
abbrev szA (h : Heap) (p : Addr) : Heap := h.push (lti p)
abbrev szB (h : Heap) (p q : Addr) : Heap := (szA h p).push (lti q)
abbrev szC (h : Heap) (p q : Addr) : Heap := (szB h p q).push { cls := .type "tuple", data := .seq #[.ref h.objs.size, .ref (szA h p).objs.size] }
abbrev szD (h : Heap) (p q : Addr) : Heap := (szC h p q).push { cls := .type "tuple", data := .seq #[.none, .none] }
abbrev szE (h : Heap) (p q : Addr) : Heap := (szD h p q).push { cls := .type "zip", data := .fields #[.none, .bool false, .bool true, .ref (szB h p q).objs.size, .ref (szC h p q).objs.size] }
set_option maxHeartbeats 8000000 in
theorem zipS_new (p q : Addr) (xs ys : Array Value) : Meets (Builtin.«zip.__new__» ⟨[.type "zip", .ref p, .ref q], [(Str.ofString "strict", .bool true)]⟩) (fun _ R s => s.heap.IsList p xs ∧ s.heap.IsList q ys ∧ R (.ok (.ret (.ref (szD s.heap p q).objs.size))) { s with heap := szE s.heap p q }) :=
  .of_wp fun pr wd ar R s hyp => by
    obtain ⟨hp, gn, dr, tk, os⟩ := s
    obtain ⟨y1, y2, res⟩ := hyp
    have isZ := sub_zip
    have A1 : Heap.IsList (Shared.heap ⟨hp, gn, dr, tk, os⟩) p xs := y1
    have A2 : Heap.IsList (Shared.heap ⟨hp.push (lti p), gn, dr, tk, os⟩) q ys := Heap.IsList.push y2 _
    have e1 : (Str.ofString "strict" != ("strict" : Str)) = false := by decide +kernel
    wp_walk using wpAny_pyIter_list A1, wpAny_pyIter_list A2
    exact ⟨_, rfl, res⟩
variable {s : Shared} {prog : Program} {A : Around} {w : World} {E : Value → Shared → Prop}
structure ZSAt (h : Heap) (N : Nat) (p q : Addr) (i : Nat) : Prop where
  z : ZS h (N + 4) (N + 2) (N + 3) .none
  ti : IsTupOf2 h (N + 2) (.ref N) (.ref (N + 1))
  to_ : ∃ u v, IsTupOf2 h (N + 3) u v
  a : h.IsListIter N p i
  b : h.IsListIter (N + 1) q i
theorem zipS_call {p q : Addr} {xs ys : Array Value} {Q : Value → Shared → Prop} (y1 : s.heap.IsList p xs) (y2 : s.heap.IsList q ys)
    (res : ∀ h', ZSAt h' s.heap.objs.size p q 0 → (∀ c o, s.heap.get? c = some o → h'.get? c = some o) → Q (.ref (s.heap.objs.size + 4)) { s with heap := h' }) : wpAny (model prog w) A (call (.type "zip") [.ref p, .ref q] [(Str.ofString "strict", .bool true)]) Q E s := by
  refine callType_newKw F.called_zip (by decide) (MM.F.typeCall_zip_strict _ _ _) (MM.F.newCall_zip_strict _ _ _) (fun o => MM.F.args_init_strict o _ _ _) F.entry_zip_new (zipS_new p q xs ys) ⟨y1, y2, ?_⟩
  have n1 : (szA s.heap p).objs.size = s.heap.objs.size + 1 := Heap.size_push ..
  have n2 : (szB s.heap p q).objs.size = s.heap.objs.size + 2 := by rw [Heap.size_push, n1]
  have n3 : (szC s.heap p q).objs.size = s.heap.objs.size + 3 := by rw [Heap.size_push, n2]
  have n4 : (szD s.heap p q).objs.size = s.heap.objs.size + 4 := by rw [Heap.size_push, n3]
  have k5 : ∀ {c : Addr} {o : Obj}, (szD s.heap p q).get? c = some o → (szE s.heap p q).get? c = some o := fun e => Heap.get?_push_of_some _ e
  have k4 : ∀ {c : Addr} {o : Obj}, (szC s.heap p q).get? c = some o → (szE s.heap p q).get? c = some o := fun e => k5 (Heap.get?_push_of_some _ e)
  have k3 : ∀ {c : Addr} {o : Obj}, (szB s.heap p q).get? c = some o → (szE s.heap p q).get? c = some o := fun e => k4 (Heap.get?_push_of_some _ e)
  have k2 : ∀ {c : Addr} {o : Obj}, (szA s.heap p).get? c = some o → (szE s.heap p q).get? c = some o := fun e => k3 (Heap.get?_push_of_some _ e)
  have o5 : (szE s.heap p q).get? (szD s.heap p q).objs.size = some _ := Heap.get?_push_size _ rfl
  have o4 : (szE s.heap p q).get? (szC s.heap p q).objs.size = some _ := k5 (Heap.get?_push_size _ rfl)
  have o3 : (szE s.heap p q).get? (szB s.heap p q).objs.size = some _ := k4 (Heap.get?_push_size _ rfl)
  have o2 : (szE s.heap p q).get? (szA s.heap p).objs.size = some _ := k3 (Heap.get?_push_size _ rfl)
  have o1 : (szE s.heap p q).get? s.heap.objs.size = some _ := k2 (Heap.get?_push_size _ rfl)
  show _ ∧ _
  rw [n2, n3, n4] at o5
  rw [n1, n2] at o3
  rw [n3] at o4
  rw [n1] at o2
  rw [n4]
  exact ⟨⟨_, o5, rfl⟩, res _ ⟨o5, o3, ⟨_, _, o4⟩, ⟨_, o1, rfl, rfl⟩, ⟨_, o2, rfl, rfl⟩⟩ fun c o e => k2 (Heap.get?_push_of_some _ e)⟩
end
/-- the items of two lists as long as each other, in new pairs -/
def ItzS (K : PySem.W.Frag) (a b : Addr) : It :=
  ⟨fun i H => ∃ (xs ys : List V) (x y : V), xs.length = ys.length ∧ SqL K H a xs ∧ SqL K H b ys ∧ xs[i]? = some x ∧ ys[i]? = some y,
    fun i H v H' => ∃ T x y, v = .ref T ∧ H T = none ∧ H' = upd H T (.tup [x, y]) ∧ (∀ l, SqL K H a l → l[i]? = some x) ∧ ∀ l, SqL K H b l → l[i]? = some y,
    fun i H => ∃ l m : List V, SqL K H a l ∧ SqL K H b m ∧ l.length ≤ i ∧ m.length ≤ i⟩
structure ZSIn (N : Nat) (p q : Addr) (i : Nat) (h : Heap) : Prop extends ZSAt h N p q i where
  lp : p < N
  lq : q < N
theorem turn_zipS {P : Program} {w : World} {K : PySem.W.Frag} {es : List Expr} {kk : Nat} {tp : Pos} {p q : Addr} {N : Nat} : Turn P w K (.Tuple es kk tp) (ItzS K p q) (cells N) (N + 4) (fun i h => ZSIn N p q i h) where
  mem := by simp [cells]
  obj := fun i h st c hc => by
    obtain ⟨⟨z, ti, ⟨u, v, to_⟩, ⟨o1, e1, _, d1⟩, ⟨o2, e2, _, d2⟩⟩, _, _⟩ := st
    rcases mem_cells hc with rfl | rfl | rfl | rfl | rfl
    · exact ⟨_, z, fun v y => nomatch y⟩
    · exact ⟨_, to_, fun v y => nomatch y⟩
    · exact ⟨_, ti, fun v y => nomatch y⟩
    · exact ⟨o2, e2, fun v y => by rw [d2] at y; cases y⟩
    · exact ⟨o1, e1, fun v y => by rw [d1] at y; cases y⟩
  keep := fun i h h' st k => by
    obtain ⟨⟨z, ti, ⟨u, v, to_⟩, a, b⟩, lp, lq⟩ := st
    exact ⟨⟨k _ (by simp [cells]) _ z, k _ (by simp [cells]) _ ti, ⟨u, v, k _ (by simp [cells]) _ to_⟩, a.at fun o y => k _ (by simp [cells]) o y, b.at fun o y => k _ (by simp [cells]) o y⟩, lp, lq⟩
  item := by
    intro X eP ew eK hc i pins s σ H E I hf st hg
    subst eP ew eK
    obtain ⟨⟨z, ti, ⟨u0, v0, to_⟩, a, b⟩, lp, lq⟩ := st
    obtain ⟨xs, ys, x, y, hn, qx, qy, hx, hy⟩ := hg
    obtain ⟨its, rv, px, _⟩ := I.list qx
    obtain ⟨its2, rv2, py, _⟩ := I.list qy
    obtain ⟨u, hu, ru⟩ := rv.get (i := i) hx
    obtain ⟨v, hv, rv'⟩ := rv2.get hy
    have hh : X.A.in1.handled = none := I.ok.hd hc
    have S := sep_cells lp lq
    have i1 : i < its.length := (List.getElem?_eq_some_iff.mp hu).1
    have both : its2.toArray.size - i = its.toArray.size - i := by
      rw [List.size_toArray, List.size_toArray, ← rv.length, ← rv2.length, hn]
    have D2 := drawsL (prog := X.prog) (w := X.w) hh (N + 1) q (Nat.ne_of_lt (Nat.lt_succ_of_lt lq)) its2.toArray i
    rw [both] at D2
    have nz : N + 4 < s.heap.objs.size := Heap.lt_size z
    refine strict_next (i := 0) S (drawsL hh N p (Nat.ne_of_lt lp) its.toArray i) D2 z ti to_ ⟨a, px.isList⟩ ⟨b, py.isList⟩ (by simp; omega) fun x1 x2 h' tk p1 p2 z' to' st1 st2 new k => ?_
    have ex1 : x1 = u := by
      have : its[i]? = some x1 := by simpa using p1
      rw [hu] at this
      exact Option.some.inj this.symm
    have ex2 : x2 = v := by
      have : its2[i]? = some x2 := by simpa using p2
      rw [hv] at this
      exact Option.some.inj this.symm
    subst ex1 ex2
    refine ⟨_, rfl, strict_go (s := { s with heap := h', toks := tk }) z' fun h2 z2 sb => ?_⟩
    have T2 : h2.get? s.heap.objs.size = some { cls := .type "tuple", data := .seq #[x1, x2] } := (sb.2 _ (Nat.ne_of_gt nz)).trans new
    have nw : ObjOk X.prog X.w (upd H s.heap.objs.size (.tup [x, y])) h2 s.heap.objs.size (.tup [x, y]) := ⟨by show 2 ≤ sizeLine; decide, [x1, x2], .cons ru (.cons rv' .nil), ⟨_, T2, rfl, _, rfl⟩⟩
    have I2 : Inv X pins σ (upd H s.heap.objs.size (.tup [x, y])) { s with heap := h2, toks := tk } :=
      I.turnedNew (t' := tk) (ch := cells N) (fun c o hb e => (sb.2 c (far_cells hb).1).trans (k c o (far_cells hb).1 (far_cells hb).2.1 (far_cells hb).2.2.1 (far_cells hb).2.2.2 e)) hf (Nat.le_refl _) nw
    refine ⟨.ref s.heap.objs.size, _, I2, rfl, ⟨_, x, y, rfl, I.hok.fresh (Nat.le_refl _), rfl, fun l hl => by rw [I.list_inj hl qx]; exact hx, fun l hl => by rw [I.list_inj hl qy]; exact hy⟩, ⟨⟨z2, ?_, ⟨x1, x2, ?_⟩, ?_, ?_⟩, lp, lq⟩, fun c hcm => ?_⟩
    · exact (sb.2 _ (nN (by omega))).trans (k _ _ (nN (by omega)) (nN (by omega)) (nN (by omega)) (nN (by omega)) ti)
    · exact (sb.2 _ (nN (by omega))).trans to'
    · have := st1.1
      simp only [Nat.zero_add] at this
      exact this.at fun o e => (sb.2 _ (nN (by omega))).trans e
    · have := st2.1
      simp only [Nat.zero_add] at this
      exact this.at fun o e => (sb.2 _ (nN (by omega))).trans e
    · have hlt : @LT.lt Nat _ c s.heap.objs.size := by
        rcases mem_cells hcm with e | e | e | e | e <;> (have e : @Eq Nat c _ := e; omega)
      exact (upd_ne (Nat.ne_of_lt hlt)).trans (hf c hcm).1
  done := by
    intro X eP ew eK hc i pins s σ H E I hf st hg
    subst eP ew eK
    obtain ⟨⟨z, ti, ⟨u0, v0, to_⟩, a, b⟩, lp, lq⟩ := st
    obtain ⟨xs, ys, qx, qy, e1, e2⟩ := hg
    obtain ⟨its, rv, px, _⟩ := I.list qx
    obtain ⟨its2, rv2, py, _⟩ := I.list qy
    have hh : X.A.in1.handled = none := I.ok.hd hc
    have S := sep_cells lp lq
    have D1 := drawsL (prog := X.prog) (w := X.w) hh N p (Nat.ne_of_lt lp) its.toArray i
    have D2 := drawsL (prog := X.prog) (w := X.w) hh (N + 1) q (Nat.ne_of_lt (Nat.lt_succ_of_lt lq)) its2.toArray i
    rw [show its.toArray.size - i = 0 by rw [List.size_toArray, ← rv.length]; omega] at D1
    rw [show its2.toArray.size - i = 0 by rw [List.size_toArray, ← rv2.length]; omega] at D2
    refine strict_stop hh S D1 D2 z ti to_ ⟨a, px.isList⟩ ⟨b, py.isList⟩ fun h' tk k => ?_
    exact ⟨rfl, I.turnedL (t' := tk) (ch := cells N) (fun c o hb e => k c o (far_cells hb).1 (far_cells hb).2.1 (far_cells hb).2.2.1 (far_cells hb).2.2.2 e) hf⟩
  self := fun A i s Q E st h => strict_iter st.z h
/-! ### calls of built-in types with keywords -/
theorem callTy_kw {M : Model} {A : Around} {E : Value → Shared → Prop} {s : Shared} {env : Env} {pos : Pos} {T : String} {e : Expr} {rest : List Expr} {kws : List Keyword} {Q : Value → Shared → Prop}
    (h : wpAny M A (spliced (backTo pos (starEach (e :: rest) env))) (fun vs s₁ => wpAny M A (evalAll ((backToKw pos (keywordEach kws env)).map (·.2))) (fun kvs s₂ => wpAny M A (call (.type T) vs (((backToKw pos (keywordEach kws env)).filterMap (·.1)).zip kvs)) Q E s₂) E s₁) E s)
    (he : backTo pos (starEach (e :: rest) env) = (false, eval e env) :: backTo pos (starEach rest env)) (hplain : (backTo pos (starEach (e :: rest) env)).any (·.1) = false)
    (hall : (backToKw pos (keywordEach kws env)).all (·.1.isSome) = true) (hkw : (backToKw pos (keywordEach kws env)).any (·.1.isNone) = false) :
    wpAny M A (callWith pos (.type T) [] (backTo pos (starEach (e :: rest) env)) (backToKw pos (keywordEach kws env))) Q E s := by
  have go : wpAny M A (evalArgs (.type T) true (backTo pos (starEach (e :: rest) env)) (backToKw pos (keywordEach kws env))) (fun a s₁ => wpAny M A (call (.type T) ([] ++ a.pos) a.kw) Q E s₁) E s := by
    rw [he] at h ⊢
    exact evalArgs_kwB hall h
  unfold callWith
  refine wpAny_bind (wpAny_holding (wpAny_mono go (fun a s₁ h₁ => ?_) fun _ _ x => x))
  refine wpAny_bind (wpAny_standAt ?_)
  simp only [hplain, hkw, Bool.or_false]
  refine wpAny_bind (wpAny_pure (wpAny_bind (wpAny_mono h₁ (fun r s₂ hr => ?_) fun _ _ x => x)))
  exact wpAny_bind (wpAny_holding (wpAny_point (wpAny_pure hr)))
def iZipS (K : PySem.W.Frag) (ta : TA) : TI := fun σ H R => ta σ H fun vs H1 => ∃ a b xs ys, vs = [.ref a, .ref b] ∧ SqL K H1 a xs ∧ SqL K H1 b ys ∧ R (ItzS K a b) H1
theorem pi_zipS {X : Cx} {e e2 : Expr} {ta : TA} {p pos tpos kp p3 : Pos} {es : List Expr} {kk j : Nat} (hg : Gl X "zip") (hm : X.mg "zip" = none) (ha : PA X [e, e2] ta)
    (hs : backTo pos (starEach [e, e2] X.env) = (false, eval e X.env) :: backTo pos (starEach [e2] X.env) := by rfl) (hpl : (backTo pos (starEach [e, e2] X.env)).any (·.1) = false := by rfl) : PI X (.Tuple es kk tpos) (.Call (.Name "zip" p) [e, e2] [⟨some "strict", .Constant (.bool true) j p3, kp⟩] pos) (iZipS X.K ta) := by
  refine ⟨fun pins s σ H R I hw => ?_⟩
  refine wpAny_Call_Name_kw (ld_blt I hg hm PyProof.Rows.boot_zip (callTy_kw (thn (ha.run pos pins s σ H _ I hw) fun us s1 ⟨vs, H1, I1, r1, a, b, xs, ys, ex, qx, qy, q⟩ => ?_) hs hpl rfl rfl))
  subst ex
  obtain ⟨u, v, rfl, r2, r3⟩ := vals2 r1
  cases r2
  cases r3
  obtain ⟨its, rv, p1, _⟩ := I1.list qx
  obtain ⟨its2, rv2, p2, _⟩ := I1.list qy
  have la : @LT.lt Nat _ a s1.heap.objs.size := p1.lt
  have lb : @LT.lt Nat _ b s1.heap.objs.size := p2.lt
  refine kws_cons (wpAny_Constant_bool (kws_nil ?_))
  refine zipS_call p1.isList p2.isList fun h' z k => strict_iter z.z ?_
  have I2 : Inv X pins σ H1 { s1 with heap := h' } := I1.kept (t' := s1.toks) k
  refine ⟨s1.heap.objs.size + 4, cells s1.heap.objs.size, _, _, H1, rfl, I2, turn_zipS, ⟨z, la, lb⟩, fun c hc => ?_, q⟩
  have hle : @LE.le Nat _ s1.heap.objs.size c := by
    rcases mem_cells hc with e | e | e | e | e <;> (have e : @Eq Nat c _ := e; omega)
  exact I1.fpOk (b := c) hle (I1.hok.fresh (a := c) hle)
section
variable {X : Cx} {E : En} {Γ : Gm} {M : Ow} {a b : Expr}
theorem src_zipS {Z : Ow → Nat → (Nat → Rep → Prop) → Prop} (h : WA X E Γ M [a, b] fun ρs M1 => ∃ r1 r2, SubL ρs [RL X.K r1, RL X.K r2] ∧ r1.length = r2.length ∧ Z M1 r1.length fun i ρ => ∃ ρ1 ρ2, r1[i]? = some ρ1 ∧ r2[i]? = some ρ2 ∧ ρ = RTt [ρ1, ρ2]) : Src X E Γ M (iZipS X.K (tWA X [a, b])) Z :=
  ⟨fun {σ G H} R a' k => h σ G H a' _ fun ρs M1 vs G1 H1 ⟨r1, r2, sb, hn, hz⟩ s1 a1 rr => by
    obtain ⟨v, u, rfl, ⟨p, xs, e1, h1, x1⟩, ⟨q, ys, e2, h2, y1⟩⟩ := reps2 (sb.reps rr)
    subst e1 e2
    have q1 : ∀ {H2 G2 : Hp}, Same G1 G2 → Same G2 H2 → SqL X.K H2 p xs := fun s g => Same.seq (s.trans g) h1
    have q2 : ∀ {H2 G2 : Hp}, Same G1 G2 → Same G2 H2 → SqL X.K H2 q ys := fun s g => Same.seq (s.trans g) h2
    have l1 := x1.length
    have l2 := y1.length
    refine ⟨p, q, xs, ys, rfl, Same.seq a1.gh h1, Same.seq a1.gh h2, k _ _ _ _ _ _ hz s1 a1 fun i H2 G2 s2 g2 => ⟨fun hi => ?_, fun hi => ?_, fun x H3 hi ⟨T, x2, y2, e3, hT, e4, z1, z2⟩ => ?_⟩⟩
    · have i1 : i < xs.length := by omega
      have i2 : i < ys.length := by omega
      exact ⟨xs, ys, xs[i], ys[i], by omega, q1 s2 g2, q2 s2 g2, by simp [i1], by simp [i2]⟩
    · exact ⟨xs, ys, q1 s2 g2, q2 s2 g2, by omega, by omega⟩
    · subst e3 e4
      obtain ⟨ρ1, f1, t1⟩ := (x1.mono s2).get2 (z1 xs (q1 s2 g2))
      obtain ⟨ρ2, f2, t2⟩ := (y1.mono s2).get2 (z2 ys (q2 s2 g2))
      have n := New.put (o := HO.tup [x2, y2]) g2 hT
      refine ⟨_, RTt [ρ1, ρ2], n, ⟨ρ1, ρ2, f1, f2, rfl⟩, T, [x2, y2], rfl, upd_same, ρ1.mono _ _ _ n.gg t1, ρ2.mono _ _ _ n.gg t2, trivial⟩⟩
end
end MM

namespace MM
open PySem L2 PyProof.Rows
/-! ### dicts whose keys are ints and texts -/
def KRep : List (Key × Rep) → List (Key × V) → Hp → Prop
  | [], [], _ => True
  | (k, ρ) :: l, (k', v) :: m, G => k = k' ∧ ρ.p v G ∧ KRep l m G
  | _, _, _ => False
theorem KRep.mono {G G' : Hp} (s : Same G G') : ∀ {l : List (Key × Rep)} {m : List (Key × V)}, KRep l m G → KRep l m G'
  | [], [], _ => trivial
  | (_, ρ) :: _, (_, _) :: _, h => ⟨h.1, ρ.mono _ _ _ s h.2.1, KRep.mono s h.2.2⟩
  | [], _ :: _, h => h.elim
  | _ :: _, [], h => h.elim
theorem KRep.len {G : Hp} : ∀ {l : List (Key × Rep)} {m : List (Key × V)}, KRep l m G → l.length = m.length
  | [], [], _ => rfl
  | (_, _) :: _, (_, _) :: _, h => congrArg Nat.succ (KRep.len h.2.2)
  | [], _ :: _, h => h.elim
  | _ :: _, [], h => h.elim
def valR : List (Key × Rep) → Key → Option Rep
  | [], _ => none
  | (k', ρ) :: l, k => if k' = k then some ρ else valR l k
theorem KRep.look {G : Hp} {k : Key} : ∀ {l : List (Key × Rep)} {m : List (Key × V)}, KRep l m G → (valR l k = none ∧ valV m k = none) ∨ ∃ ρ v, valR l k = some ρ ∧ valV m k = some v ∧ ρ.p v G
  | [], [], _ => .inl ⟨rfl, rfl⟩
  | (k1, ρ) :: l, (k2, v) :: m, h => by
    obtain ⟨e, h1, h2⟩ := h
    subst e
    by_cases q : k1 = k
    · exact .inr ⟨ρ, v, if_pos q, valV_pos q, h1⟩
    · rcases KRep.look (k := k) h2 with ⟨a, b⟩ | ⟨ρ', v', a, b, c⟩
      · exact .inl ⟨(if_neg q).trans a, (valV_neg q).trans b⟩
      · exact .inr ⟨ρ', v', (if_neg q).trans a, (valV_neg q).trans b, c⟩
  | [], _ :: _, h => h.elim
  | _ :: _, [], h => h.elim
def putKR : List (Key × Rep) → Key → Rep → List (Key × Rep)
  | [], k, ρ => [(k, ρ)]
  | (k', ρ') :: l, k, ρ => if k' = k then (k', ρ) :: l else (k', ρ') :: putKR l k ρ
/-- keys stand once -/
def KOnce (l : List (Key × Rep)) : Prop := (l.map (·.1)).Nodup
theorem KRep.keys {G : Hp} : ∀ {l : List (Key × Rep)} {m : List (Key × V)}, KRep l m G → l.map (·.1) = m.map (·.1)
  | [], [], _ => rfl
  | (_, _) :: _, (_, _) :: _, h => by
    rw [List.map_cons, List.map_cons, KRep.keys h.2.2, h.1]
  | [], _ :: _, h => h.elim
  | _ :: _, [], h => h.elim
theorem map_same {k : Key} {v : V} : ∀ {m : List (Key × V)}, k ∉ m.map (·.1) → m.map (fun kv => if kv.1 = k then (kv.1, v) else kv) = m
  | [], _ => rfl
  | (k', w) :: m, h => by
    rw [List.map_cons, List.mem_cons, not_or] at h
    rw [List.map_cons, map_same h.2]
    have : ¬ k' = k := fun e => h.1 e.symm
    simp [this]
theorem putK_cons_pos {k : Key} {v w : V} {m : List (Key × V)} (h : k ∉ m.map (·.1)) : putK ((k, w) :: m) k v = (k, v) :: m := by
  unfold putK
  rw [if_pos (by simp), List.map_cons, map_same h]
  simp
theorem putK_cons_neg {k k' : Key} {v w : V} {m : List (Key × V)} (h : ¬ k' = k) : putK ((k', w) :: m) k v = (k', w) :: putK m k v := by
  unfold putK
  rw [List.any_cons, decide_eq_false h, Bool.false_or]
  split
  · rw [List.map_cons]
    simp [h]
  · rfl
theorem KRep.put {G : Hp} {k : Key} {ρ : Rep} {v : V} (r : ρ.p v G) : ∀ {l : List (Key × Rep)} {m : List (Key × V)}, KOnce l → KRep l m G → KRep (putKR l k ρ) (putK m k v) G
  | [], [], _, _ => ⟨rfl, r, trivial⟩
  | (k1, ρ1) :: l, (k2, w) :: m, o, h => by
    have ks := KRep.keys h.2.2
    obtain ⟨e, h1, h2⟩ := h
    subst e
    have o' : (k1 :: l.map (·.1)).Nodup := o
    rw [List.nodup_cons] at o'
    unfold putKR
    by_cases q : k1 = k
    · subst q
      rw [if_pos rfl, putK_cons_pos (by rw [← ks]; exact o'.1)]
      exact ⟨rfl, r, h2⟩
    · rw [if_neg q, putK_cons_neg q]
      exact ⟨rfl, h1, KRep.put r o'.2 h2⟩
  | [], _ :: _, _, h => h.elim
  | _ :: _, [], _, h => h.elim
theorem putKR_keys {k : Key} {ρ : Rep} : ∀ {l : List (Key × Rep)}, (k ∈ l.map (·.1) ∧ (putKR l k ρ).map (·.1) = l.map (·.1)) ∨ (k ∉ l.map (·.1) ∧ (putKR l k ρ).map (·.1) = l.map (·.1) ++ [k])
  | [] => .inr ⟨by simp, rfl⟩
  | (k', ρ') :: l => by
    unfold putKR
    by_cases q : k' = k
    · subst q
      rw [if_pos rfl]
      exact .inl ⟨List.mem_cons_self, rfl⟩
    · rw [if_neg q, List.map_cons, List.map_cons]
      rcases putKR_keys (k := k) (ρ := ρ) (l := l) with ⟨m, e⟩ | ⟨m, e⟩
      · exact .inl ⟨List.mem_cons_of_mem _ m, by rw [e]⟩
      · exact .inr ⟨by rw [List.mem_cons, not_or]; exact ⟨fun z => q z.symm, m⟩, by rw [e]; rfl⟩
theorem KOnce.put {k : Key} {ρ : Rep} {l : List (Key × Rep)} (o : KOnce l) : KOnce (putKR l k ρ) := by
  unfold KOnce
  rcases putKR_keys (k := k) (ρ := ρ) (l := l) with ⟨m, e⟩ | ⟨m, e⟩
  · rw [e]
    exact o
  · rw [e, List.nodup_append]
    refine ⟨o, by simp, fun a ha b hb z => ?_⟩
    rw [List.mem_singleton.mp hb] at z
    subst z
    exact m ha
def OD (l : List (Key × Rep)) : ORep := ⟨fun o G => ∃ kvs, o = .dK kvs ∧ KRep l kvs G, fun _ _ _ s ⟨kvs, e, r⟩ => ⟨kvs, e, r.mono s⟩⟩
/-- what stands for a key -/
def KeyR (ρ : Rep) (k : Key) : Prop := ∀ v G, ρ.p v G → v = kV k
theorem keyR_s {s : Str} : KeyR (RS s) (.inr s) := fun v G h => h
theorem keyR_i {i : Int} : KeyR (RI i) (.inl i) := fun v G h => h
section
variable {X : Cx} {E : En} {Γ : Gm} {M : Ow} {a b e o i value : Expr} {pos p pos' : Pos} {Φ : Rep → Ow → Prop} {Ψ : Ed} {k : Nat}
theorem we_dnew (h : ∀ p, p ∉ M.map (·.1) → p ∉ E.M → Φ (RRef p) ((p, OD []) :: M)) (hE : ∀ a ∈ E.M, E.H a ≠ none) : WE X E Γ M (.Dict [] [] pos) Φ :=
  we_of pe_dnewK fun σ G H a Q q p hp => q _ _ _ _ _ (h p (a.freshM hp) fun z => hE p z (a.fresh hp)) (Same.refl _) (a.own1 hp ⟨[], rfl, trivial⟩) rfl
/-- d[k], there -/
theorem we_dget (hr : Room k X.A) (h : WE X E Γ M o fun ρo M1 => WE X E Γ M1 i fun ρi M2 => ∃ p l u key ρ, MM.Sub ρo (RRef p) ∧ Fnd M2 p (OD l) u ∧ KeyR ρi key ∧ valR l key = some ρ ∧ Φ ρ M2) (hs : NoSl i := by exact fun _ _ => rfl) : WE X E Γ M (.Subscript o i pos) Φ :=
  we_of (pe_dget (by have := hr.un; omega) pe_w pe_w hs) fun σ G H at_ Q q => h σ G H at_ _ fun ρo M1 x G1 H1 h1 s1 a1 r1 => h1 σ G1 H1 a1 _ fun ρi M2 y G2 H2 ⟨p, l, u, key, ρ, sb, fd, kr, hv, hk⟩ s2 a2 r2 => by
    obtain ⟨ob, e1, kvs, e2, r⟩ := a2.own _ fd.mem
    subst e2
    rcases r.look (k := key) with ⟨z, _⟩ | ⟨ρ', v, z1, z2, z3⟩
    · rw [hv] at z
      cases z
    · rw [hv] at z1
      cases z1
      have ey := kr _ _ r2
      subst ey
      refine ⟨p, v, sb _ _ (ρo.mono _ _ _ s2 r1), ?_, q _ _ _ _ _ hk (s1.trans s2) a2 z3⟩
      have := DGet.k (k := key) e1
      rw [z2] at this
      exact this
/-- k in d, k not in d -/
theorem wt_din {Φ : Bool → Ow → Prop} (hr : Room k X.A) (h : WE X E Γ M i fun ρi M1 => WE X E Γ M1 o fun ρo M2 => ∃ p l u key, MM.Sub ρo (RRef p) ∧ Fnd M2 p (OD l) u ∧ KeyR ρi key ∧ Φ (valR l key).isSome M2) (hm : behindInMarks .In o = false := by exact nomark _) : WT X E Γ M (.Compare i [.In] [o] pos) Φ :=
  wt_of (pt_cmp (pc_din (by have := hr.un; omega) pe_w pe_w) hm) fun σ G H at_ Q q => h σ G H at_ _ fun ρi M1 y G1 H1 h1 s1 a1 r1 => h1 σ G1 H1 a1 _ fun ρo M2 x G2 H2 ⟨p, l, u, key, sb, fd, kr, hk⟩ s2 a2 r2 => by
    obtain ⟨ob, e1, kvs, e2, r⟩ := a2.own _ fd.mem
    subst e2
    have ey := kr _ _ (ρi.mono _ _ _ s2 r1)
    subst ey
    have same : (valV kvs key).isSome = (valR l key).isSome := by
      rcases r.look (k := key) with ⟨z1, z2⟩ | ⟨ρ', v, z1, z2, z3⟩
      · rw [z1, z2]
        rfl
      · rw [z1, z2]
        rfl
    exact ⟨p, _, sb _ _ r2, DGet.k (k := key) e1, _, congrArg V.bl same, q _ _ _ _ hk (s1.trans s2) a2⟩
theorem wt_dnotin {Φ : Bool → Ow → Prop} (hr : Room k X.A) (h : WE X E Γ M i fun ρi M1 => WE X E Γ M1 o fun ρo M2 => ∃ p l u key, MM.Sub ρo (RRef p) ∧ Fnd M2 p (OD l) u ∧ KeyR ρi key ∧ Φ (!(valR l key).isSome) M2) (hm : behindInMarks .NotIn o = false := by exact nomark _) : WT X E Γ M (.Compare i [.NotIn] [o] pos) Φ :=
  wt_of (pt_cmp (pc_dnotin (by have := hr.un; omega) pe_w pe_w) hm) fun σ G H at_ Q q => h σ G H at_ _ fun ρi M1 y G1 H1 h1 s1 a1 r1 => h1 σ G1 H1 a1 _ fun ρo M2 x G2 H2 ⟨p, l, u, key, sb, fd, kr, hk⟩ s2 a2 r2 => by
    obtain ⟨ob, e1, kvs, e2, r⟩ := a2.own _ fd.mem
    subst e2
    have ey := kr _ _ (ρi.mono _ _ _ s2 r1)
    subst ey
    have same : (valV kvs key).isSome = (valR l key).isSome := by
      rcases r.look (k := key) with ⟨z1, z2⟩ | ⟨ρ', v, z1, z2, z3⟩
      · rw [z1, z2]
        rfl
      · rw [z1, z2]
        rfl
    exact ⟨p, _, sb _ _ r2, DGet.k (k := key) e1, _, congrArg V.bl (congrArg not same), q _ _ _ _ hk (s1.trans s2) a2⟩
/-- d[k] = v -/
theorem ws_dput (hr : Room k X.A) (h : WE X E Γ M value fun ρv M1 => WE X E Γ M1 o fun ρo M2 => WE X E Γ M2 i fun ρi M3 => ∃ p l u key, MM.Sub ρo (RRef p) ∧ Fnd M3 p (OD l) u ∧ KeyR ρi key ∧ KOnce l ∧ l.length ≤ 100000 ∧ Ψ.nx Γ (u (OD (putKR l key ρv))))
    (hs : swapsWith value (some (.Subscript o i pos')) pos.line X.env = pure false := by rfl) : WS X E Γ M (.Assign [.Subscript o i pos'] value pos) Ψ :=
  ws_of (ps_dput (by have := hr.un; omega) pe_w pe_w pe_w hs) fun σ G H at_ D c => h σ G H at_ _ fun ρv M1 v G1 H1 h1 s1 a1 r1 => h1 σ G1 H1 a1 _ fun ρo M2 x G2 H2 h2 s2 a2 r2 => h2 σ G2 H2 a2 _ fun ρi M3 y G3 H3 ⟨p, l, u, key, sb, fd, kr, ho, hl, hk⟩ s3 a3 r3 => by
    obtain ⟨ob, e1, kvs, e2, r⟩ := a3.own _ fd.mem
    subst e2
    have ey := kr _ _ r3
    subst ey
    have hl' : kvs.length < sizeLine := Nat.lt_of_le_of_lt (by rw [← r.len]; exact hl) (by decide +kernel)
    refine ⟨p, _, sb _ _ (ρo.mono _ _ _ s3 r2), DPut.k (k := key) e1 hl', ?_⟩
    exact c.nx _ _ hk _ _ _ ((s1.trans s2).trans s3) (a3.write fd ⟨_, rfl, r.put (ρv.mono _ _ _ (s2.trans s3) r1) ho⟩)
end
/-! ### dict(pairs) -/
def mergeR (l more : List (Key × Rep)) : List (Key × Rep) := more.foldl (fun acc kv => putKR acc kv.1 kv.2) l
theorem mergeR_once : ∀ {more l : List (Key × Rep)}, KOnce l → KOnce (mergeR l more)
  | [], _, o => o
  | (_, _) :: more, _, o => mergeR_once (more := more) o.put
theorem krep_merge {G : Hp} : ∀ {more : List (Key × Rep)} {ms : List (Key × V)} {l : List (Key × Rep)} {kvs : List (Key × V)}, KOnce l → KRep more ms G → KRep l kvs G → KRep (mergeR l more) (mergeK kvs ms) G
  | [], [], _, _, _, _, h => h
  | (k, ρ) :: more, (k', v) :: ms, l, kvs, o, r, h => by
    obtain ⟨e, r1, r2⟩ := r
    subst e
    exact krep_merge (more := more) (ms := ms) o.put r2 (h.put r1 o)
  | [], _ :: _, _, _, _, r, _ => r.elim
  | _ :: _, [], _, _, _, r, _ => r.elim
/-- new keys, each once -/
theorem mergeR_new : ∀ {more l : List (Key × Rep)}, ((l ++ more).map (·.1)).Nodup → mergeR l more = l ++ more
  | [], l, _ => (List.append_nil l).symm
  | (k, ρ) :: more, l, h => by
    have hk : k ∉ l.map (·.1) := fun hm => by
      rw [List.map_append, List.nodup_append] at h
      exact h.2.2 k hm k (by simp) rfl
    have put : ∀ {l : List (Key × Rep)}, k ∉ l.map (·.1) → putKR l k ρ = l ++ [(k, ρ)] := by
      intro l
      induction l with
      | nil => intro _; rfl
      | cons x l ih =>
        intro hn
        obtain ⟨k', ρ'⟩ := x
        rw [List.map_cons, List.mem_cons, not_or] at hn
        show (if k' = k then _ else _) = _
        rw [if_neg (fun e => hn.1 e.symm), ih hn.2]
        rfl
    show mergeR (putKR l k ρ) more = _
    rw [put hk, mergeR_new (by rw [List.append_assoc]; exact h), List.append_assoc]
    rfl
/-- the pairs of a list -/
def prR (kv : Key × Rep) : Rep := RTt [RV (kV kv.1), kv.2]
theorem pairs_in {K : PySem.W.Frag} {G H : Hp} (s : Same G H) : ∀ {more : List (Key × Rep)} {vs : List V}, Reps (more.map prR) vs G → ∃ (ps : List Addr) (ms : List (Key × V)), vs = ps.map V.ref ∧ Paired (fun p kv => SqT K H p [kV kv.1, kv.2]) ps ms ∧ KRep more ms G
  | [], [], _ => ⟨[], [], rfl, .nil, trivial⟩
  | (k, ρ) :: more, v :: vs, h => by
    obtain ⟨⟨p, ws, e, hp, r⟩, h2⟩ := h
    obtain ⟨ps, ms, e2, h3, h4⟩ := pairs_in (K := K) s h2
    subst e e2
    match ws, r with
    | [x, y], ⟨r1, r2, _⟩ =>
      have r1 : x = kV k := r1
      subst r1
      exact ⟨p :: ps, (k, y) :: ms, rfl, .cons (.inl (.inl (s _ _ hp))) h3, rfl, r2, h4⟩
  | [], _ :: _, h => h.elim
  | _ :: _, [], h => h.elim
def rDictP (K : PySem.W.Frag) : List V → Hp → VK → Prop := fun xs H Q => ∃ (a : Addr) (ps : List Addr) (kvs : List (Key × V)), xs = [.ref a] ∧ SqL K H a (ps.map V.ref) ∧ Paired (fun p kv => SqT K H p [kV kv.1, kv.2]) ps kvs ∧ ∀ p, H p = none → Q (.ref p) (upd H p (.dK (mergeK [] kvs)))
theorem call_dictR {X : Cx} (hc : X.calm = true) : CallR X (.type "dict") (rDictP X.K) := call_dictP hc
theorem caw_dictP {E : En} {Γ : Gm} {M : Ow} {Φ : Rep → Ow → Prop} {K : PySem.W.Frag} {more : List (Key × Rep)} (hE : ∀ a ∈ E.M, E.H a ≠ none) (k : ∀ p, p ∉ M.map (·.1) → p ∉ E.M → Φ (RRef p) ((p, OD (mergeR [] more)) :: M)) : CaW E Γ M (rDictP K) [RLt (more.map prR)] Φ := fun σ G H a vs hv Q q => by
  match vs, hv with
  | [v], ⟨⟨t, ws, e, h, r⟩, _⟩ =>
    subst e
    obtain ⟨ps, ms, e2, h3, h4⟩ := pairs_in (K := K) a.gh r
    subst e2
    exact ⟨t, ps, ms, rfl, .inl (.inl (a.gh _ _ h)), h3, fun p hp => q _ _ _ _ _ (k p (a.freshM hp) fun z => hE p z (a.fresh hp)) (Same.refl _) (a.own1 hp ⟨_, rfl, krep_merge List.nodup_nil h4 trivial⟩) rfl⟩
end MM

namespace MM
open PySem L2 PyProof.Rows
/-! ### wheels -/
structure WhT (K : PySem.W.Frag) (C : Addr) : Prop where
  ci : ClsI K C
  n1 : NoAttr K C "names"
  n2 : NoAttr K C "first"
structure Wh where
  names : List Str
  first : Int
def whF (w : Wh) : List (Str × Rep) := [("names", RTt (w.names.map RS)), ("first", RI w.first)]
def RWh (C : Addr) (w : Wh) : Rep := RIns C (whF w)
theorem wk1 : (("first" : Str) == ("names" : Str)) = false := by decide +kernel
theorem hasF_names {K : PySem.W.Frag} {C : Addr} {w : Wh} (T : WhT K C) : HasF K (RWh C w) "names" (RTt (w.names.map RS)) := hasF_ins T.ci.cl T.n1 (by simp [whF, List.lookup])
theorem hasF_first {K : PySem.W.Frag} {C : Addr} {w : Wh} (T : WhT K C) : HasF K (RWh C w) "first" (RI w.first) := hasF_ins T.ci.cl T.n2 (by simp [whF, List.lookup, wk1])
structure WhOk (w : Wh) : Prop where
  ne : w.names ≠ []
  nd : w.names.Nodup
  le : w.names.length ≤ 1000
  ok : ∀ s ∈ w.names, PyData.strOk s = true
  z : Bd 70 w.first
/-- the name of a day -/
def Wh.on (w : Wh) (d : Int) : Str := w.names.getD ((d - w.first) % (w.names.length : Int)).toNat Str.empty
theorem WhOk.pos {w : Wh} (h : WhOk w) : 0 < w.names.length := List.length_pos_iff.mpr h.ne
theorem at_n {α : Type} {l : List α} {i : Nat} {x : α} (h : l[i]? = some x) : atI l (i : Int) = some x := by
  have lt := (List.getElem?_eq_some_iff.mp h).1
  unfold atI ixN
  rw [if_pos (by omega), if_pos (by omega), Option.bind_some, Int.toNat_natCast, h]
theorem Wh.at_on {w : Wh} (h : WhOk w) (d : Int) : atI (w.names.map RS) ((d - w.first) % (w.names.length : Int)) = some (RS (w.on d)) := by
  have p := h.pos
  have a := Int.emod_nonneg (d - w.first) (show ((w.names.length : Nat) : Int) ≠ 0 by omega)
  have b := Int.emod_lt_of_pos (d - w.first) (show (0 : Int) < (w.names.length : Nat) by omega)
  unfold Wh.on
  generalize (d - w.first) % (w.names.length : Int) = x at a b
  obtain ⟨k, rfl⟩ := Int.eq_ofNat_of_zero_le a
  have k1 : k < w.names.length := by omega
  refine at_n ?_
  rw [List.getElem?_map, Int.toNat_natCast, List.getD_eq_getElem?_getD, List.getElem?_eq_getElem k1]
  rfl
theorem shaped_txts {l : List Str} (h : ∀ s ∈ l, PyData.strOk s = true) : SeqAt.shaped (.list (l.map PyData.str)) = true := by
  have k : PyData.canLayAll0 (l.map PyData.str) = true := by
    induction l with
    | nil => rfl
    | cons x l ih => simp [PyData.canLayAll0, PyData.canLay0, h x List.mem_cons_self, ih fun s hs => h s (List.mem_cons_of_mem _ hs)]
  have d : PyData.depthAll (l.map PyData.str) = 0 := by
    clear h k
    induction l with
    | nil => rfl
    | cons x l ih => simp [PyData.depthAll, PyData.depth, ih]
  simp [SeqAt.shaped, PyData.canLay0, PyData.depth, k, d]
theorem isD_txts {K : PySem.W.Frag} {l : List Str} : IsD K (RLt (l.map RS)) (.list (l.map PyData.str)) := isD_lt (isDs_map (fun _ => isD_s) l)
theorem eqv_txts : ∀ {l m : List Str}, PyData.eqv (.list (l.map PyData.str)) (.list (m.map PyData.str)) = decide (l = m) := by
  have k : ∀ l m : List Str, PyData.eqvAll (l.map PyData.str) (m.map PyData.str) = decide (l = m) := by
    intro l
    induction l with
    | nil =>
      intro m
      cases m with
      | nil => simp [PyData.eqvAll]
      | cons y m => simp [PyData.eqvAll]
    | cons x l ih =>
      intro m
      cases m with
      | nil => simp [PyData.eqvAll]
      | cons y m =>
        simp only [List.map_cons, PyData.eqvAll, PyData.eqv, ih]
        by_cases e : x = y
        · subst e
          simp
        · simp [e]
  intro l m
  simp only [PyData.eqv]
  exact k l m
theorem caw_tupL {K : PySem.W.Frag} {E : En} {Γ : Gm} {M : Ow} {Φ : Rep → Ow → Prop} {ρs : List Rep} (k : Φ (RTt ρs) M) : CaW E Γ M (fun xs H Q => ∃ p ys, xs = [.ref p] ∧ ((SqL K H p ys ∧ ∀ l, H l = none → Q (.ref l) (upd H l (.tup ys))) ∨ (SqT K H p ys ∧ Q (.ref p) H))) [RLt ρs] Φ := fun σ G H a vs hv Q q => by
  match vs, hv with
  | [v], ⟨⟨l, ws, e1, e2, rf⟩, _⟩ =>
    subst e1
    refine ⟨l, ws, rfl, .inl ⟨SqL.of (a.gh _ _ e2), fun t ht => ?_⟩⟩
    have n : New G H (upd G t (.tup ws)) (upd H t (.tup ws)) := New.put a.gh ht
    exact q _ M _ _ _ k n.gg (a.new n) ⟨t, ws, rfl, upd_same, rf.mono n.gg⟩
/-! ### the places of names -/
def plc (l : List Str) : List (Key × Rep) := l.zipIdx.map fun x => (.inr x.1, RI (x.2 : Int))
theorem plc_keys {l : List Str} : (plc l).map (·.1) = l.map Sum.inr := by
  unfold plc
  rw [List.map_map]
  have : ((fun x : Key × Rep => x.1) ∘ fun x : Str × Nat => ((.inr x.1, RI (x.2 : Int)) : Key × Rep)) = (Sum.inr ∘ fun x : Str × Nat => x.1) := rfl
  rw [this, ← List.map_map, List.zipIdx_map_fst]
theorem plc_once {l : List Str} (h : l.Nodup) : KOnce (plc l) := by
  unfold KOnce
  rw [plc_keys]
  exact List.Pairwise.map _ (fun a b z y => z (Sum.inr.inj y)) h
theorem plc_at {l : List Str} {i : Nat} {s : Str} (h : l[i]? = some s) : (plc l)[i]? = some (.inr s, RI (i : Int)) := by
  unfold plc
  rw [List.getElem?_map, List.getElem?_zipIdx, h]
  simp
theorem valR_in {l : List (Key × Rep)} {k : Key} {ρ : Rep} (o : KOnce l) (h : (k, ρ) ∈ l) : valR l k = some ρ := by
  induction l with
  | nil => cases h
  | cons x l ih =>
    obtain ⟨k', ρ'⟩ := x
    have o' : (k' :: l.map (·.1)).Nodup := o
    rw [List.nodup_cons] at o'
    show (if k' = k then some ρ' else valR l k) = _
    rcases List.mem_cons.mp h with e | e
    · cases e
      rw [if_pos rfl]
    · have : ¬ k' = k := fun z => o'.1 (z ▸ List.mem_map_of_mem (f := (·.1)) e)
      rw [if_neg this]
      exact ih o'.2 e
theorem plc_val {l : List Str} (h : l.Nodup) {k : Nat} (hk : k < l.length) : valR (plc l) (.inr (l.getD k Str.empty)) = some (RI (k : Int)) := by
  have e : l[k]? = some (l.getD k Str.empty) := by rw [List.getD_eq_getElem?_getD, List.getElem?_eq_getElem hk, Option.getD_some]
  exact valR_in (plc_once h) (List.mem_of_getElem? (plc_at e))
/-! ### contracts -/
def con_Wheel_init (C : Addr) : Con := { I := Addr × Wh, B := Unit, pre := fun i => WhOk i.2, args := fun i => [RRef i.1, RLt (i.2.names.map RS), RI i.2.first], own := fun i => [(i.1, OIns C [])], post := fun _ _ => True, res := fun _ _ => RN, own' := fun i _ => [(i.1, OIns C (whF i.2))] }
theorem ck_Wheel {CW : Addr} {ρ1 ρ2 : Rep} {M : Ow} {Φ : Rep → Ow → Prop} {w : Wh} {p : Addr} (h1 : Sub ρ1 (RLt (w.names.map RS))) (h2 : Sub ρ2 (RI w.first)) (hw : WhOk w) (k : Φ (RWh CW w) M) :
    CallK (con_Wheel_init CW) [RRef p, ρ1, ρ2] ((p, OIns CW []) :: M) fun ρ M' => Sub ρ RN ∧ ∃ l M2, Rm M' p (OIns CW l) M2 ∧ Φ (RIns CW l) M2 :=
  ⟨(p, w), M, hw, .cons Sub.rfl (.cons h1 (.cons h2 .nil)), .cons .here OSub.rfl .nil, fun _ _ => ⟨Sub.rfl, whF w, M, .here, k⟩⟩
def con_wlen (C : Addr) : Con := { I := Wh, B := Unit, pre := fun _ => True, args := fun w => [RWh C w], own := fun _ => [], post := fun _ _ => True, res := fun w _ => RI (w.names.length : Nat), own' := fun _ _ => [] }
theorem ck_wlen {C : Addr} {ρ : Rep} {M : Ow} {Φ : Rep → Ow → Prop} {w : Wh} (h : Sub ρ (RWh C w)) (k : Φ (RI (w.names.length : Nat)) M) : CallK (con_wlen C) [ρ] M Φ :=
  ⟨w, M, trivial, .cons h .nil, .nil, fun _ _ => k⟩
def con_on (C : Addr) : Con := { I := Wh × Int, B := Unit, pre := fun i => WhOk i.1, args := fun i => [RWh C i.1, RI i.2], own := fun _ => [], post := fun _ _ => True, res := fun i _ => RS (i.1.on i.2), own' := fun _ _ => [] }
theorem ck_on {C : Addr} {ρ1 ρ2 : Rep} {M : Ow} {Φ : Rep → Ow → Prop} {w : Wh} {d : Int} (h1 : Sub ρ1 (RWh C w)) (h2 : Sub ρ2 (RI d)) (hw : WhOk w) (k : Φ (RS (w.on d)) M) : CallK (con_on C) [ρ1, ρ2] M Φ :=
  ⟨(w, d), M, hw, .cons h1 (.cons h2 .nil), .nil, fun _ _ => k⟩
def con_rest (C : Addr) : Con := { I := Wh × Nat, B := Unit, pre := fun i => WhOk i.1 ∧ i.2 < i.1.names.length, args := fun i => [RWh C i.1, RS (i.1.names.getD i.2 Str.empty)], own := fun _ => [], post := fun _ _ => True, res := fun i _ => RI (i.1.first + (i.2 : Nat)), own' := fun _ _ => [] }
theorem ck_rest {C : Addr} {ρ1 ρ2 : Rep} {M : Ow} {Φ : Rep → Ow → Prop} {w : Wh} {k : Nat} (h1 : Sub ρ1 (RWh C w)) (h2 : Sub ρ2 (RS (w.names.getD k Str.empty))) (hw : WhOk w) (hk : k < w.names.length) (q : Φ (RI (w.first + (k : Nat))) M) : CallK (con_rest C) [ρ1, ρ2] M Φ :=
  ⟨(w, k), M, ⟨hw, hk⟩, .cons h1 (.cons h2 .nil), .nil, fun _ _ => q⟩
structure BltW (mg : Str → Option Value) : Prop where
  len : mg "len" = none
  set : mg "set" = none
  tup : mg "tuple" = none
  dict : mg "dict" = none
  enum : mg "enumerate" = none
  zip : mg "zip" = none
  rng : mg "range" = none
  str : mg "str" = none
section
variable {P : Program} {w : World} {K : PySem.W.Frag} {mg : Str → Option Value} {base : Heap} {CW : Addr}
theorem ok_Wheel_init {dvs : List V} {f : Addr} {fd : FuncData} (F : FdD K "__init__" "Wheel.__init__" s_Wheel_init dvs f fd) (T : WhT K CW) (B : BltW mg) : FnOk P w K mg base CX0 1 f fd (N_Wheel_init.take 3) (conSp (con_Wheel_init CW)) := by
  refine fn_conD (con_Wheel_init CW) F sc_Wheel_init (fun _ => rfl) fun cd A outer s H EE G i hp hr hE => ?_
  obtain ⟨p, v⟩ := i
  have hw : WhOk v := hp
  have few := hw.le
  refine wss_cons (ws_if (wt_bool (wp_or (wt_cmp (op_eqD hr.units) (nomark _) (we_var 1 r1_Wheel_init rfl (we_lst (wa_nil ⟨by show 0 ≤ 100000; decide, ?_⟩)))))))
  refine opw_of (opv_eq isD_txts (isD_txts (l := [])) (shaped_txts hw.ok) (by decide)) ⟨_, Sub.rfl, fun _ => ?more, fun hk => ?bad⟩
  case bad =>
    rw [eqv_txts (m := [])] at hk
    exact absurd (of_decide_eq_true hk) hw.ne
  case more =>
    refine wp_or1 (wt_cmp op_lt (nomark _) (we_lenTx rfl g_len_Wheel_init B.len g_set_Wheel_init B.set (we_var 1 r1_Wheel_init rfl ⟨v.names, sub_lt, by omega, ?_⟩)))
    refine we_callB call_len_seq g_len_Wheel_init B.len (by decide +kernel) (wa_cons (we_var 1 r1_Wheel_init rfl (wa_nil (caw_of cav_len_lt (opw_of opv_lt_i ⟨_, Sub.rfl, fun hk => ?bad2, fun _ => wss_nil ?_⟩)))))
    case bad2 =>
      have hk := of_decide_eq_true hk
      rw [dn_full hw.nd _ (Nat.le_refl _), List.length_map] at hk
      exact absurd hk (Int.lt_irrefl _)
    refine wss_cons (ws_fldN (we_callTy call_tuple_of g_tuple_Wheel_init B.tup (by decide +kernel) (wa_cons (we_var 1 r1_Wheel_init rfl (wa_nil (caw_tupL (we_var 0 r0_Wheel_init rfl ⟨p, CW, [], _, Sub.rfl, .here, T.ci.cl, T.n1, by decide, rfl, ?_⟩)))))))
    refine wss_one (ws_fldN (we_var 2 r2_Wheel_init rfl (we_var 0 r0_Wheel_init rfl ⟨p, CW, _, _, Sub.rfl, .here, T.ci.cl, T.n2, by show 1 < 1000; decide, by simp [List.lookup, wk1], ?_⟩)))
    exact ⟨(), [], trivial, Sub.rfl, .cons .here OSub.rfl .nil⟩
theorem ok_wlen {f : Addr} {fd : FuncData} (F : FdD K "__len__" "Wheel.__len__" s_Wheel_len [] f fd) (T : WhT K CW) (B : BltW mg) : FnOk P w K mg base CX0 1 f fd (N_Wheel_len.take 1) (conSp (con_wlen CW)) := by
  refine fn_conD (con_wlen CW) F sc_Wheel_len (fun _ => rfl) fun cd A outer s H EE G (v : Wh) hp hr hE => ?_
  refine wss_one (ws_ret (we_callB call_len_seq g_len_Wheel_len B.len (by decide +kernel) (wa_cons (we_fld (we_var 0 r0_Wheel_len rfl ⟨_, hasF_names T, wa_nil (caw_of cav_len_tt ⟨(), [], trivial, ?_, .nil⟩)⟩)))))
  rw [List.length_map]
  exact Sub.rfl
theorem ok_on {f : Addr} {fd : FuncData} (F : FdD K "name_on" "Wheel.name_on" s_Wheel_name_on [] f fd) (T : WhT K CW) (B : BltW mg) : FnOk P w K mg base CX0 1 f fd (N_Wheel_name_on.take 2) (conSp (con_on CW)) := by
  refine fn_conD (con_on CW) F sc_Wheel_name_on (fun _ => rfl) fun cd A outer s H EE G i hp hr hE => ?_
  obtain ⟨v, d⟩ := i
  have hw : WhOk v := hp
  have p := hw.pos
  refine wss_one (ws_ret (we_ix ix_seq (we_fld (we_var 0 r0_Wheel_name_on rfl ⟨_, hasF_names T, ?_⟩))))
  refine we_bin op_modN (we_bin op_sub (we_var 1 r1_Wheel_name_on rfl (we_fld (we_var 0 r0_Wheel_name_on rfl ⟨_, hasF_first T, opw_of opv_sub_i ?_⟩))))
  refine we_callB call_len_seq g_len_Wheel_name_on B.len (by decide +kernel) (wa_cons (we_fld (we_var 0 r0_Wheel_name_on rfl ⟨_, hasF_names T, wa_nil (caw_of cav_len_tt ?_)⟩)))
  rw [List.length_map]
  exact opw_of (opv_mod_i (Int.natCast_pos.mpr p)) (opw_of (opv_ix_t sub_tt (v.at_on hw d)) ⟨(), [], trivial, Sub.rfl, .nil⟩)
theorem ok_rest {f : Addr} {fd : FuncData} (F : FdD K "rest_of" "rest_of" s_f_rest_of [] f fd) (T : WhT K CW) (B : BltW mg) : FnOk P w K mg base CX0 1 f fd (N_f_rest_of.take 2) (conSp (con_rest CW)) := by
  refine fn_conD (con_rest CW) F sc_f_rest_of (fun _ => rfl) fun cd A outer s H EE G i hp hr hE => ?_
  obtain ⟨v, k⟩ := i
  obtain ⟨hw, hk⟩ := hp
  have hw : WhOk v := hw
  have hk : k < v.names.length := hk
  have few := hw.le
  refine wss_cons (ws_set 2 w2_f_rest_of (we_callTy (call_dictR rfl) g_dict_f_rest_of B.dict (by decide +kernel) (wa_cons (we_freeze (we_lc (t := gTup K 2 (gNames [3, 5])) (own := [("place", 3), ("one", 5)]) rfl sc_f_rest_of.nd (pi_enumT g_enumerate_f_rest_of B.enum pa_w) (blkOk_by ?ok) ?hg hE ?src)))))
  case ok =>
    show blkC N_f_rest_of (defScope s_f_rest_of) _ _ = true
    decide +kernel
  case hg =>
    intro s H C cl fp
    exact pg_tup (n := 2) (t := gNames [3, 5]) rfl (pgs_cons (pg_name sc_f_rest_of.nd rfl (.inl rfl)) (pgs_cons (pg_name sc_f_rest_of.nd rfl (.inl rfl)) pgs_nil))
  case src =>
    refine src_enumT (wa_cons (we_fld (we_var 0 r0_f_rest_of rfl ⟨_, hasF_names T, wa_nil ⟨v.names.map RS, .cons sub_tt .nil, fun i o M => M = [] ∧ o = ((plc v.names).map prR).take i, ⟨rfl, rfl⟩, ?turn, ?done⟩⟩)))
    case turn =>
      rintro i ρ o M1 D hi ⟨ρ1, h1, rfl⟩ ⟨rfl, rfl⟩
      rw [List.getElem?_map] at h1
      obtain ⟨nm, hn, rfl⟩ := Option.map_eq_some_iff.mp h1
      have lt := (List.getElem?_eq_some_iff.mp hn).1
      refine ⟨setAll [3, 5] [RI (i : Int), RS nm], blkT_tup (is := [3, 5]) (by decide) rfl sub_tt, fun s H0 C cl fp => ?_⟩
      refine we_tup (wa_cons (we_var 5 ?r5 rfl (wa_cons (we_var 3 ?r3 rfl (wa_nil ⟨by show 2 ≤ 100000; decide, [], RTt [RS nm, RI (i : Int)], rfl, Sub.rfl, ?len, rfl, ?tk⟩)))))
      case r5 => exact ⟨rfl, by first | exact .inl rfl | exact .inr (.inl rfl), by decide, by decide⟩
      case r3 => exact ⟨rfl, by first | exact .inl rfl | exact .inr (.inl rfl), by decide, by decide⟩
      case len =>
        rw [List.length_take]
        omega
      case tk =>
        rw [List.take_add_one, List.getElem?_map, plc_at hn]
        rfl
    case done =>
      rintro D o M1 hD hM ⟨rfl, rfl⟩
      have all : ((plc v.names).map prR).take (v.names.map RS).length = (plc v.names).map prR := by
        refine List.take_of_length_le ?_
        unfold plc
        rw [List.length_map, List.length_map, List.length_map, List.length_zipIdx]
        exact Nat.le_refl _
      rw [all]
      refine ⟨D, _, [], Sub.rfl, .here, hD, wa_nil (caw_dictP (more := plc v.names) hE fun p hp hpE => ?_)⟩
      rw [mergeR_new (more := plc v.names) (l := []) (plc_once hw.nd), List.nil_append]
      refine wss_cons (ws_try0 (wss_one (ws_set 3 ?wr (we_dget hr (we_var 2 ?g2 rfl (we_var 1 ?g1 rfl ⟨p, _, _, .inr (v.names.getD k Str.empty), RI (k : Int), Sub.rfl, .here, keyR_s, plc_val hw.nd hk, ?_⟩))))))
      case wr => exact ⟨sc_f_rest_of.nd, rfl, by first | exact .inl rfl | exact .inr rfl, .inl rfl⟩
      case g2 => exact ⟨rfl, by first | exact .inl rfl | exact .inr (.inl rfl), by decide, by decide⟩
      case g1 => exact ⟨rfl, by first | exact .inl rfl | exact .inr (.inl rfl), by decide, by decide⟩
      exact wss_one (ws_ret (we_bin op_addU (we_fld (we_var 0 r0_f_rest_of rfl ⟨_, hasF_first T, we_var 3 r3_f_rest_of rfl (opw_of opv_add_i ⟨(), _, trivial, Sub.rfl, .nil⟩)⟩))))
end
end MM

namespace MM
open PySem L2 PyProof.Rows
/-! ### NoDay, meet, meet_round -/
def dyF : List Rep → List (Str × Rep)
  | [a, b] => [("two", b), ("one", a)]
  | _ => []
def dyD (i j : Nat) : List (Str × Rep) := dyF [RI (i : Int), RI (j : Int)]
def szs (ws : List Wh) : List Nat := ws.map fun w => w.names.length
def rsts (l : List (Wh × Nat)) : List Int := l.map fun x => x.1.first + (x.2 : Nat)
structure WsOk (ws : List Wh) : Prop where
  ok : ∀ w ∈ ws, WhOk w
  le : ws.length ≤ 100
theorem szs_len {ws : List Wh} : (szs ws).length = ws.length := List.length_map _
theorem szs_pos {ws : List Wh} (h : WsOk ws) : ∀ x ∈ szs ws, 0 < x := fun x hx => by
  obtain ⟨w, hw, rfl⟩ := List.mem_map.mp hx
  exact (h.ok w hw).pos
theorem szs_at {ws : List Wh} {i : Nat} {w : Wh} (h : ws[i]? = some w) : (szs ws).getD i 0 = w.names.length := by
  rw [List.getD_eq_getElem?_getD]
  unfold szs
  rw [List.getElem?_map, h]
  rfl
theorem szs_pos' {ws : List Wh} (h : WsOk ws) {i : Nat} (hi : i < ws.length) : 0 < (szs ws).getD i 0 := by
  rw [szs_at (List.getElem?_eq_getElem hi)]
  exact (h.ok _ (List.getElem_mem hi)).pos
theorem pow_1000 : ∀ k : Nat, k ≤ 100 → 1000 ^ k < 2 ^ 1001 := fun k hk => by
  have a : 1000 ^ k ≤ 1000 ^ 100 := Nat.pow_le_pow_right (by decide) hk
  have b : 1000 ^ 100 < 2 ^ 1001 := by decide
  omega
theorem lcm_bd {ws : List Wh} (h : WsOk ws) (k : Nat) : Bd 1001 (lcmL ((szs ws).take k) : Nat) := by
  have a : lcmL ((szs ws).take k) ≤ 1000 ^ ((szs ws).take k).length := lcmL_le fun x hx => by
    have hx := List.mem_of_mem_take hx
    obtain ⟨w, hw, rfl⟩ := List.mem_map.mp hx
    exact ⟨(h.ok w hw).pos, (h.ok w hw).le⟩
  have b := pow_1000 ((szs ws).take k).length (by rw [List.length_take, szs_len]; have := h.le; omega)
  show ((lcmL ((szs ws).take k) : Nat) : Int).natAbs < 2 ^ 1001
  rw [Int.natAbs_natCast]
  omega
theorem lcm_pos' {ws : List Wh} (h : WsOk ws) (k : Nat) : 0 < lcmL ((szs ws).take k) := lcmL_pos fun x hx => szs_pos h x (List.mem_of_mem_take hx)
theorem nm_bd {w : Wh} (h : WhOk w) : Bd 11 (w.names.length : Nat) := by
  show ((w.names.length : Nat) : Int).natAbs < 2 ^ 11
  rw [Int.natAbs_natCast]
  have := h.le
  omega
theorem lcm_int {a b : Nat} : ((a : Int) * (b : Int)) / ((Int.gcd (a : Int) (b : Int) : Nat) : Int) = (Nat.lcm a b : Nat) := by
  have e : Int.gcd (a : Int) (b : Int) = Nat.gcd a b := rfl
  rw [e]
  unfold Nat.lcm
  rw [Int.natCast_ediv, Int.natCast_mul]
theorem gcd_int {a b : Nat} : ((Int.gcd (a : Int) (b : Int) : Nat) : Int) = (Nat.gcd a b : Nat) := rfl
theorem gcd_ok {a b : Nat} (ha : 0 < a) : (0 : Int) < ((Int.gcd (a : Int) (b : Int) : Nat) : Int) ∧ ((Int.gcd (a : Int) (b : Int) : Nat) : Int) ≤ a := by
  have h1 : 0 < Nat.gcd a b := Nat.gcd_pos_of_pos_left _ ha
  have h2 : Nat.gcd a b ≤ a := Nat.gcd_le_left _ ha
  rw [gcd_int]
  omega
theorem gcd_log {a b : Nat} {n : Nat} (ha : 0 < b) (z : Bd n (b : Int)) (hn : n < 8000) : ((Int.gcd (a : Int) (b : Int) : Nat) : Int).natAbs.log2 < 9000 := by
  have h2 : Nat.gcd a b ≤ b := Nat.gcd_le_right _ ha
  have z' : b < 2 ^ n := z
  have : Bd n ((Int.gcd (a : Int) (b : Int) : Nat) : Int) := by
    show (((Int.gcd (a : Int) (b : Int) : Nat) : Int)).natAbs < 2 ^ n
    rw [gcd_int, Int.natAbs_natCast]
    exact Nat.lt_of_le_of_lt h2 z'
  exact Nat.lt_of_le_of_lt (Nat.le_of_lt_succ (Nat.lt_succ_of_lt (bd_log (this.mono (Nat.le_succ n)) (by omega)))) (by omega)
theorem mod_dvd {a b : Int} (h : 0 < b) : (a % b = 0) ↔ b ∣ a := ⟨Int.dvd_of_emod_eq_zero, Int.emod_eq_zero_of_dvd⟩
def con_round (CW : Addr) : Con := { I := List Wh, B := Unit, pre := fun ws => WsOk ws, args := fun ws => [RLt (ws.map (RWh CW))], own := fun _ => [], post := fun _ _ => True, res := fun ws _ => RI (lcmL (szs ws) : Nat), own' := fun _ _ => [] }
theorem ck_round {CW : Addr} {ρ : Rep} {M : Ow} {Φ : Rep → Ow → Prop} {ws : List Wh} (h : Sub ρ (RLt (ws.map (RWh CW)))) (hw : WsOk ws) (k : Φ (RI (lcmL (szs ws) : Nat)) M) : CallK (con_round CW) [ρ] M Φ :=
  ⟨ws, M, hw, .cons h .nil, .nil, fun _ _ => k⟩
structure MtI where
  l : List (Wh × Nat)
  after : Int
def MtI.ws (i : MtI) : List Wh := i.l.map (·.1)
def wnt (x : Wh × Nat) : Rep := RS (x.1.names.getD x.2 Str.empty)
def con_meet (CW CD : Addr) : ConX := { I := MtI, B := Int, pre := fun i => WsOk i.ws ∧ ∀ x ∈ i.l, x.2 < x.1.names.length, args := fun i => [RLt (i.ws.map (RWh CW)), RLt (i.l.map wnt), RI i.after], own := fun _ => [], post := fun i t => AllOk (szs i.ws) (rsts i.l) ∧ Has (szs i.ws) (rsts i.l) (szs i.ws).length t ∧ i.after ≤ t ∧ t < i.after + (lcmL (szs i.ws) : Nat), res := fun _ t => RI t, own' := fun _ _ => [], Z := Nat × Nat, bad := fun i z => FirstBad (szs i.ws) (rsts i.l) z.1 z.2, cls := fun _ _ => CD, fld := fun _ z => dyD z.1 z.2, ownX := fun _ _ => [] }
theorem ck_meet {CW CD : Addr} {ρ1 ρ2 ρ3 : Rep} {Γ : Gm} {M : Ow} {Φ : Rep → Ow → Prop} {Ξ : Addr → List (Str × Rep) → Gm → Ow → Prop} {l : List (Wh × Nat)} {after : Int} (h1 : Sub ρ1 (RLt ((l.map (·.1)).map (RWh CW)))) (h2 : Sub ρ2 (RLt (l.map wnt))) (h3 : Sub ρ3 (RI after)) (hw : WsOk (l.map (·.1))) (hk : ∀ x ∈ l, x.2 < x.1.names.length)
    (k : ∀ t, AllOk (szs (l.map (·.1))) (rsts l) → Has (szs (l.map (·.1))) (rsts l) (szs (l.map (·.1))).length t → after ≤ t → t < after + (lcmL (szs (l.map (·.1))) : Nat) → Φ (RI t) M) (kx : ∀ i j, FirstBad (szs (l.map (·.1))) (rsts l) i j → Ξ CD (dyD i j) Γ M) : CallX (con_meet CW CD) [ρ1, ρ2, ρ3] Γ M Φ Ξ :=
  ⟨⟨l, after⟩, M, ⟨hw, hk⟩, .cons h1 (.cons h2 (.cons h3 .nil)), .nil, fun t ⟨a, b, c, d⟩ => k t a b c d, fun z e => kx z.1 z.2 e⟩
section
variable {P : Program} {w : World} {K : PySem.W.Frag} {mg : Str → Option Value} {base : Heap} {CW CD : Addr}
theorem ok_NoDay {f : Addr} {fd : FuncData} (F : FdD K "__init__" "NoDay.__init__" s_NoDay_init [] f fd) (T : OxOk K CD) (n1 : PySem.W.findIn K (.ref CD) "one" = some none) (n2 : PySem.W.findIn K (.ref CD) "two" = some none) : FnOk P w K mg base CX0 1 f fd ["self", "one", "two"] (conSp (conXI CD 2 dyF)) := by
  refine fn_conD (conXI CD 2 dyF) F sc_NoDay_init (fun i => by show (RRef i.1 :: i.2.1).length = 3; rw [List.length_cons, i.2.2]) fun cd A outer s H EE G i hp hr hE => ?_
  obtain ⟨p, ρs, hl⟩ := i
  match ρs, hl with
  | [a, b], _ =>
    refine wss_cons (ws_xst1 (we_var 1 r1_NoDay_init rfl (we_var 0 r0_NoDay_init rfl ⟨p, CD, _, Sub.rfl, .here, T, n1, fun d hd => ?_⟩)))
    exact wss_one (ws_xst2 (we_var 2 r2_NoDay_init rfl (we_var 0 r0_NoDay_init rfl ⟨p, CD, d, _, _, _, Sub.rfl, .there .here, .here, T, n2, by show 1 ≤ 800; decide, ⟨d, [], trivial, Sub.rfl, .cons .here OSub.rfl (.cons .here OSub.rfl .nil)⟩⟩)))
theorem ok_round {f : Addr} {fd : FuncData} (F : FdD K "meet_round" "meet_round" s_f_meet_round [] f fd) (T : WhT K CW) (B : BltW mg) (Co : Kn P w K mg base 1 "common" [] con_common) : FnOk P w K mg base CX0 2 f fd (N_f_meet_round.take 1) (conSp (con_round CW)) := by
  refine fn_conD (con_round CW) F sc_f_meet_round (fun _ => rfl) fun cd A outer s H EE G (ws : List Wh) hp hr hE => ?_
  have hw : WsOk ws := hp
  refine wss_cons (ws_set 1 w1_f_meet_round (we_int ?_))
  refine wss_cut (fun Γ M => ∃ x2, Γ = [some (RLt (ws.map (RWh CW))), some (RI (lcmL (szs ws) : Nat)), x2] ∧ M = []) (ws_for_list PassesOwn.never rfl (we_var 0 r0_f_meet_round rfl ⟨_, sub_lt, ?loop⟩)) ?rest
  case rest =>
    rintro Γ M ⟨x2, rfl, rfl⟩
    exact wss_one (ws_ret (we_var 1 r1_f_meet_round rfl ⟨(), [], trivial, Sub.rfl, .nil⟩))
  case loop =>
    refine ⟨fun i Γ M => ∃ x2, Γ = [some (RLt (ws.map (RWh CW))), some (RI (lcmL ((szs ws).take i) : Nat)), x2] ∧ M = [], ⟨none, rfl, rfl⟩, ?turn, ?done⟩
    case done =>
      rintro Γ M ⟨x2, rfl, rfl⟩
      refine ⟨x2, ?_, rfl⟩
      rw [List.take_of_length_le (by rw [szs_len, List.length_map]; exact Nat.le_refl _)]
    case turn =>
      rintro i ρ Γ M hi hρ ⟨x2, rfl, rfl⟩
      rw [List.getElem?_map] at hρ
      obtain ⟨v, hv, rfl⟩ := Option.map_eq_some_iff.mp hρ
      have hvo := hw.ok v (List.mem_of_getElem? hv)
      have lt := (List.getElem?_eq_some_iff.mp hv).1
      have step := lcmL_take (s := szs ws) (k := i) (by rw [szs_len]; exact lt)
      rw [szs_at hv] at step
      refine wg_name 2 w2_f_meet_round ?_
      refine wss_one (ws_set 1 w1_f_meet_round (we_bin op_fdivA (we_bin op_mulU (we_var 1 r1_f_meet_round rfl (we_callB call_len_seq g_len_f_meet_round B.len (by decide +kernel) (wa_cons (we_fld (we_var 2 r2_f_meet_round rfl ⟨_, hasF_names T, wa_nil (caw_of cav_len_tt ?_)⟩))))))))
      rw [List.length_map]
      refine opw_of (opv_mul_i (mulOk (lcm_bd hw i) (nm_bd hvo) (by decide))) (we_call Co hr g_common_f_meet_round pass0 (wa_cons (we_var 1 r1_f_meet_round rfl (wa_cons (we_callB call_len_seq g_len_f_meet_round B.len (by decide +kernel) (wa_cons (we_fld (we_var 2 r2_f_meet_round rfl ⟨_, hasF_names T, wa_nil (caw_of cav_len_tt ?_)⟩))))))))
      rw [List.length_map]
      refine wa_nil (ck_common Sub.rfl Sub.rfl ?_)
      refine opw_of (opv_div_i (gcd_ok (lcm_pos' hw i)).1 (gcd_log hvo.pos (nm_bd hvo) (by decide))) ?_
      rw [lcm_int]
      refine ⟨some (RWh CW v), ?_, rfl⟩
      rw [step]
      rfl
theorem rsts_at {l : List (Wh × Nat)} {i : Nat} {x : Wh × Nat} (h : l[i]? = some x) : (rsts l).getD i 0 = x.1.first + (x.2 : Nat) := by
  rw [List.getD_eq_getElem?_getD]
  unfold rsts
  rw [List.getElem?_map, h]
  rfl
theorem at_ri {l : List Int} {i : Nat} (h : i < l.length) : atI (l.map RI) (i : Int) = some (RI (l.getD i 0)) := by
  refine at_n ?_
  rw [List.getElem?_map, List.getD_eq_getElem?_getD, List.getElem?_eq_getElem h]
  rfl
def szI (ws : List Wh) : List Int := (szs ws).map fun n : Nat => (n : Int)
theorem szI_at {ws : List Wh} {i : Nat} : (szI ws).getD i 0 = ((szs ws).getD i 0 : Nat) := by
  unfold szI
  rw [List.getD_eq_getElem?_getD, List.getD_eq_getElem?_getD, List.getElem?_map]
  cases (szs ws)[i]? <;> rfl
theorem ok_meet {dvs : List V} {f : Addr} {fd : FuncData} (F : FdD K "meet" "meet" s_f_meet dvs f fd) (T : WhT K CW) (B : BltW mg) (Co : Kn P w K mg base 1 "common" [] con_common) (Re : Kn P w K mg base 1 "rest_of" [] (con_rest CW)) (No : KnX P w K mg base 1 "NoDay" CD 2 dyF) : FnOk P w K mg base (L2.CX P w) 3 f fd (N_f_meet.take 3) (conSpX (con_meet CW CD)) := by
  refine fn_conX (con_meet CW CD) F sc_f_meet (fun _ => rfl) fun cd A outer s H EE G i hp hr hE TX => ?_
  obtain ⟨l, after⟩ := i
  obtain ⟨hw, hk⟩ := hp
  have hw : WsOk (l.map (·.1)) := hw
  have hk : ∀ x ∈ l, x.2 < x.1.names.length := hk
  show WSs (X_f_meet P w K mg base f cd A outer s H EE) ⟨G, H, []⟩ (startG N_f_meet [RLt ((l.map (·.1)).map (RWh CW)), RLt (l.map wnt), RI after]) [] (defBody s_f_meet) (EdOf (con_meet CW CD).toCon ⟨l, after⟩)
  have TX : TakesX (X_f_meet P w K mg base f cd A outer s H EE) ⟨G, H, []⟩ (XiOf (con_meet CW CD) ⟨l, after⟩) := TX
  have hE : ∀ a ∈ (⟨G, H, []⟩ : En).M, (⟨G, H, []⟩ : En).H a ≠ none := hE
  have fin : ∀ t, AllOk (szs (l.map (·.1))) (rsts l) → Has (szs (l.map (·.1))) (rsts l) (szs (l.map (·.1))).length t → after ≤ t → t < after + (lcmL (szs (l.map (·.1))) : Nat) → Rt (con_meet CW CD).toCon ⟨l, after⟩ (RI t) [] := fun t a b c d => ⟨t, [], ⟨a, b, c, d⟩, Sub.rfl, .nil⟩
  have gone : ∀ {Γ : Gm} {i j : Nat}, FirstBad (szs (l.map (·.1))) (rsts l) i j → XiOf (con_meet CW CD) ⟨l, after⟩ CD (dyF [RI (i : Int), RI (j : Int)]) Γ [] := fun {Γ i j} e => ⟨(i, j), [], e, rfl, fun _ _ h => h, .nil⟩
  have wi : ∀ i, (l.map (·.1))[i]? = (l[i]?).map (fun x : Wh × Nat => x.1) := fun i => List.getElem?_map ..
  generalize hws : l.map (·.1) = ws at hw fin gone wi
  have wl : ws.length = l.length := by rw [← hws, List.length_map]
  have rl : (rsts l).length = l.length := List.length_map _
  have sl : (szs ws).length = l.length := by rw [szs_len, wl]
  have few := hw.le
  have hr1 := hr.mono (show 1 ≤ 2 by decide)
  have hr2 := hr.mono (show 2 ≤ 2 by decide)
  have PO := passes_of (X := X_f_meet P w K mg base f cd A outer s H EE) rfl
  -- rests
  refine wss_cons (ws_setLc (t := gTup K 2 (gNames [11, 12])) (own := [("wheel", 11), ("want", 12)]) 3 rfl sc_f_meet.nd rfl rfl ?hsw (pi_zipS g_zip_f_meet B.zip pa_w) (blkOk_by ?ok) ?hg hE ?src)
  case hsw => rfl
  case ok =>
    show blkC N_f_meet (defScope s_f_meet) _ _ = true
    decide +kernel
  case hg =>
    intro s H C cl fp
    exact pg_tup (n := 2) (t := gNames [11, 12]) rfl (pgs_cons (pg_name sc_f_meet.nd rfl (.inl rfl)) (pgs_cons (pg_name sc_f_meet.nd rfl (.inl rfl)) pgs_nil))
  case src =>
    refine src_zipS (wa_cons (we_var 0 r0_f_meet rfl (wa_cons (we_var 1 r1_f_meet rfl (wa_nil ⟨ws.map (RWh CW), l.map wnt, .cons sub_lt (.cons sub_lt .nil), by rw [List.length_map, List.length_map, wl], fun i o M => M = [] ∧ o = ((rsts l).take i).map RI, ⟨rfl, rfl⟩, ?turn, ?done⟩)))))
    case turn =>
      rintro i ρ o M1 D hi ⟨ρ1, ρ2, h1, h2, rfl⟩ ⟨rfl, rfl⟩
      rw [List.getElem?_map] at h1 h2
      obtain ⟨v, hv, rfl⟩ := Option.map_eq_some_iff.mp h1
      obtain ⟨x, hx, rfl⟩ := Option.map_eq_some_iff.mp h2
      have ev : v = x.1 := by
        rw [wi, hx] at hv
        exact (Option.some.inj hv).symm
      subst ev
      have hvo := hw.ok x.1 (List.mem_of_getElem? hv)
      have hkx := hk x (List.mem_of_getElem? hx)
      have lt := (List.getElem?_eq_some_iff.mp hx).1
      refine ⟨setAll [11, 12] [RWh CW x.1, wnt x], blkT_tup (is := [11, 12]) (by decide) rfl sub_tt, fun s H0 C cl fp => ?_⟩
      refine we_call Re hr1 ?g1 pass0 (wa_cons (we_var 11 ?r11 rfl (wa_cons (we_var 12 ?r12 rfl (wa_nil (ck_rest (w := x.1) (k := x.2) Sub.rfl Sub.rfl hvo hkx ⟨[], RI (x.1.first + (x.2 : Nat)), rfl, Sub.rfl, ?len, rfl, ?tk⟩))))))
      case g1 => rfl
      case r11 => exact ⟨rfl, by first | exact .inl rfl | exact .inr (.inl rfl), by decide, by decide⟩
      case r12 => exact ⟨rfl, by first | exact .inl rfl | exact .inr (.inl rfl), by decide, by decide⟩
      case len =>
        rw [List.length_map, List.length_take]
        omega
      case tk =>
        have e : (rsts l)[i]? = some (x.1.first + (x.2 : Nat)) := by
          unfold rsts
          rw [List.getElem?_map, hx]
          rfl
        rw [List.take_add_one, e, List.map_append]
        rfl
    case done =>
      rintro D o M1 hD hM ⟨rfl, rfl⟩
      rw [List.take_of_length_le (by rw [rl, List.length_map, wl]; exact Nat.le_refl _)]
      refine wss_freeze 3 rfl .here hD ?_
      -- sizes
      refine wss_cons (ws_setLc (t := gName 11) (own := [("wheel", 11)]) 4 rfl sc_f_meet.nd rfl rfl ?hsw2 (pi_list pe_w) (blkOk_by ?ok2) ?hg2 hE ?src2)
      case hsw2 => rfl
      case ok2 =>
        show blkC N_f_meet (defScope s_f_meet) _ _ = true
        decide +kernel
      case hg2 =>
        intro s H C cl fp
        exact pg_name sc_f_meet.nd rfl (.inl rfl)
      case src2 =>
        refine src_list (we_var 0 r0_f_meet rfl ⟨_, sub_lt, fun i o M => M = [] ∧ o = ((szI ws).take i).map RI, ⟨rfl, rfl⟩, ?turn2, ?done2⟩)
        case turn2 =>
          rintro i ρ o M1 D2 hi hρ ⟨rfl, rfl⟩
          rw [List.getElem?_map] at hρ
          obtain ⟨v, hv, rfl⟩ := Option.map_eq_some_iff.mp hρ
          have lt := (List.getElem?_eq_some_iff.mp hv).1
          refine ⟨fun Γ => Γ.set 11 (some (RWh CW v)), blkT_name 11 (by decide), fun s H0 C cl fp => ?_⟩
          refine we_callB call_len_seq ?g2 B.len (by decide +kernel) (wa_cons (we_fld (we_var 11 ?r11b rfl ⟨_, hasF_names T, wa_nil (caw_of cav_len_tt ?_)⟩)))
          case g2 => rfl
          case r11b => exact ⟨rfl, by first | exact .inl rfl | exact .inr (.inl rfl), by decide, by decide⟩
          rw [List.length_map]
          refine ⟨[], RI (v.names.length : Nat), rfl, Sub.rfl, ?len2, rfl, ?tk2⟩
          case len2 =>
            rw [List.length_map, List.length_take]
            omega
          case tk2 =>
            have e : (szI ws)[i]? = some ((v.names.length : Nat) : Int) := by
              unfold szI szs
              rw [List.getElem?_map, List.getElem?_map, hv]
              rfl
            rw [List.take_add_one, e, List.map_append]
            rfl
        case done2 =>
          rintro D2 o M1 hD2 hM2 ⟨rfl, rfl⟩
          have zl : (szI ws).length = ws.length := by unfold szI szs; rw [List.length_map, List.length_map]
          rw [List.take_of_length_le (by rw [zl, List.length_map]; exact Nat.le_refl _)]
          refine wss_freeze 4 rfl .here hD2 ?_
          -- the pairs
          refine wss_cut (fun Γ M => ∃ x5 x6, AllOk (szs ws) (rsts l) ∧ Γ = [some (RLt (ws.map (RWh CW))), some (RLt (l.map wnt)), some (RI after), some (RLt ((rsts l).map RI)), some (RLt ((szI ws).map RI)), x5, x6, none, none, none, none, none, none] ∧ M = []) (ws_for_range1 PO rfl g_range_f_meet B.rng (wa_cons (we_callB call_len_seq g_len_f_meet B.len (by decide +kernel) (wa_cons (we_var 0 r0_f_meet rfl (wa_nil (caw_of cav_len_lt (wa_nil ⟨_, .cons Sub.rfl .nil, ?bnd, ?outer⟩)))))))) ?pairs
          case bnd =>
            rw [List.length_map]
            omega
          case outer =>
            refine ⟨fun i Γ M => ∃ x5 x6, (∀ i' j', i' < i → i' < j' → j' < (szs ws).length → okP (szs ws) (rsts l) i' j') ∧ Γ = [some (RLt (ws.map (RWh CW))), some (RLt (l.map wnt)), some (RI after), some (RLt ((rsts l).map RI)), some (RLt ((szI ws).map RI)), x5, x6, none, none, none, none, none, none] ∧ M = [], ⟨none, none, fun _ _ h => absurd h (Nat.not_lt_zero _), rfl, rfl⟩, ?turn3, ?done3⟩
            case done3 =>
              rintro Γ M ⟨x5, x6, ok, rfl, rfl⟩
              refine ⟨x5, x6, fun i j lt le => ok i j ?_ lt le, rfl, rfl⟩
              rw [List.length_map]
              have : i < ws.length := by omega
              omega
            case turn3 =>
              rintro i ρ Γ M hi rfl ⟨x5, x6, ok, rfl, rfl⟩
              have hi : i < ws.length := by
                rw [List.length_map] at hi
                omega
              refine wg_name 5 w5_f_meet ?_
              refine wss_one (ws_for_range2 PO rfl g_range_f_meet B.rng (wa_cons (we_bin op_addU (we_var 5 r5_f_meet rfl (we_int (opw_of opv_add_i ?_))))))
              refine wa_cons (we_callB call_len_seq g_len_f_meet B.len (by decide +kernel) (wa_cons (we_var 0 r0_f_meet rfl (wa_nil (caw_of cav_len_lt (wa_nil ⟨_, _, .cons Sub.rfl (.cons Sub.rfl .nil), ?bnd2, ?inner⟩))))))
              case bnd2 =>
                rw [List.length_map]
                omega
              case inner =>
                refine ⟨fun j Γ M => ∃ x6, (∀ j', i < j' → j' < i + 1 + j → j' < (szs ws).length → okP (szs ws) (rsts l) i j') ∧ Γ = [some (RLt (ws.map (RWh CW))), some (RLt (l.map wnt)), some (RI after), some (RLt ((rsts l).map RI)), some (RLt ((szI ws).map RI)), some (RI (i : Int)), x6, none, none, none, none, none, none] ∧ M = [], ⟨x6, fun j' h1 h2 _ => absurd h1 (by omega), rfl, rfl⟩, ?turn4, ?done4⟩
                case done4 =>
                  rintro Γ M ⟨x6, ok2, rfl, rfl⟩
                  refine ⟨_, x6, fun i' j' k1 k2 k3 => ?_, rfl, rfl⟩
                  rcases Nat.lt_or_ge i' i with q | q
                  · exact ok i' j' q k2 k3
                  · have e : i' = i := by omega
                    subst e
                    refine ok2 j' k2 ?_ k3
                    rw [List.length_map]
                    rw [szs_len] at k3
                    omega
                case turn4 =>
                  rintro j ρ Γ M hj rfl ⟨x6, ok2, rfl, rfl⟩
                  rw [List.length_map] at hj
                  have ej : ((i : Int) + 1 + (j : Int)) = ((i + 1 + j : Nat) : Int) := by omega
                  have jl : i + 1 + j < ws.length := by omega
                  rw [ej]
                  generalize hq : i + 1 + j = q at jl ok2
                  refine wg_name 6 w6_f_meet ?_
                  have p1 : 0 < (szs ws).getD i 0 := szs_pos' hw (by omega)
                  refine wss_one (ws_if (wt_cmp (op_neD hr.units) (nomark _) (we_bin op_modN (we_bin op_sub (we_ix ix_seq (we_var 3 r3_f_meet rfl (we_var 5 r5_f_meet rfl (opw_of (opv_ix_l sub_lt (at_ri (by omega))) ?_))))))))
                  refine we_ix ix_seq (we_var 3 r3_f_meet rfl (we_var 6 r6_f_meet rfl (opw_of (opv_ix_l sub_lt (at_ri (by omega))) (opw_of opv_sub_i ?_))))
                  refine we_call Co hr1 g_common_f_meet pass0 (wa_cons (we_ix ix_seq (we_var 4 r4_f_meet rfl (we_var 5 r5_f_meet rfl (opw_of (opv_ix_l sub_lt (at_ri (by omega))) ?_)))))
                  refine wa_cons (we_ix ix_seq (we_var 4 r4_f_meet rfl (we_var 6 r6_f_meet rfl (opw_of (opv_ix_l sub_lt (at_ri (by omega))) (wa_nil (ck_common Sub.rfl Sub.rfl ?_))))))
                  rw [szI_at, szI_at]
                  have gp := (gcd_ok (b := (szs ws).getD q 0) p1).1
                  refine opw_of (opv_mod_i gp) (we_int (opw_of (opv_ne isD_i isD_i shaped_i shaped_i) ⟨_, Sub.rfl, fun hk => ?bad, fun hk => wss_nil ?good⟩))
                  case bad =>
                    rw [eqv_ii] at hk
                    have nz : ¬ (szs ws).getD q 0 = 0 := fun z => absurd (szs_pos' hw jl) (by omega)
                    refine wss_one (ws_raiseX No TX hr2 rfl rfl (wa_cons (we_var 5 r5_f_meet rfl (wa_cons (we_var 6 r6_f_meet rfl (wa_nil ⟨rfl, gone ⟨by omega, by rw [szs_len]; exact jl, fun o => ?_, ok, fun j' k1 k2 => ok2 j' k1 (by omega) (by rw [szs_len]; omega)⟩⟩))))))
                    have z := Int.emod_eq_zero_of_dvd o
                    rw [← gcd_int] at z
                    rw [z] at hk
                    exact absurd hk (by decide)
                  case good =>
                    rw [eqv_ii] at hk
                    refine ⟨_, fun j' k1 k2 k3 => ?_, rfl, rfl⟩
                    rcases Nat.lt_or_ge j' q with u | u
                    · exact ok2 j' k1 (by omega) k3
                    · have e : j' = q := by omega
                      subst e
                      have z : ((rsts l).getD i 0 - (rsts l).getD j' 0) % ((Int.gcd (((szs ws).getD i 0 : Nat) : Int) (((szs ws).getD j' 0 : Nat) : Int) : Nat) : Int) = 0 := by simpa using hk
                      exact Int.dvd_of_emod_eq_zero z
          case pairs =>
            rintro Γ M ⟨x5, x6, ok, rfl, rfl⟩
            have szp : ∀ k, (0 : Int) < (lcmL ((szs ws).take k) : Nat) := fun k => Int.natCast_pos.mpr (lcm_pos' hw k)
            refine wss_cons (ws_asg (we_tup (wa_cons (we_int (wa_cons (we_int (wa_nil ⟨by show 2 ≤ 100000; decide, ?_⟩)))))))
            refine wg_tup rfl sub_tt rfl (wgs_cons (wg_name 7 w7_f_meet (wgs_cons (wg_name 8 w8_f_meet (wgs_nil ?_)))))
            refine wss_cut (fun Γ M => ∃ day x9 x10, Has (szs ws) (rsts l) (szs ws).length day ∧ Γ = [some (RLt (ws.map (RWh CW))), some (RLt (l.map wnt)), some (RI after), some (RLt ((rsts l).map RI)), some (RLt ((szI ws).map RI)), x5, x6, some (RI day), some (RI (lcmL (szs ws) : Nat)), x9, x10, none, none] ∧ M = []) (ws_for_src PO rfl (pi_zip g_zip_f_meet B.zip pa_w) (src_zip (wa_cons (we_var 3 r3_f_meet rfl (wa_cons (we_var 4 r4_f_meet rfl (wa_nil ⟨_, _, .cons sub_lt (.cons sub_lt .nil), ?loopZ⟩))))))) ?last
            case last =>
              rintro Γ M ⟨day, x9, x10, has, rfl, rfl⟩
              have p := szp (szs ws).length
              rw [List.take_length] at p
              refine wss_one (ws_ret (we_bin op_addU (we_var 2 r2_f_meet rfl (we_bin op_modN (we_bin op_sub (we_var 7 r7_f_meet rfl (we_var 2 r2_f_meet rfl (opw_of opv_sub_i ?_))))))))
              refine we_var 8 r8_f_meet rfl (opw_of (opv_mod_i p) (opw_of opv_add_i ?_))
              have m0 := Int.emod_nonneg (day - after) (Int.ne_of_gt p)
              have m1 := Int.emod_lt_of_pos (day - after) p
              exact fin _ ok has.told (by omega) (by omega)
            case loopZ =>
              refine ⟨fun i Γ M => ∃ day x9 x10, Has (szs ws) (rsts l) i day ∧ Γ = [some (RLt (ws.map (RWh CW))), some (RLt (l.map wnt)), some (RI after), some (RLt ((rsts l).map RI)), some (RLt ((szI ws).map RI)), x5, x6, some (RI day), some (RI (lcmL ((szs ws).take i) : Nat)), x9, x10, none, none] ∧ M = [], ⟨0, none, none, fun _ h => absurd h (Nat.not_lt_zero _), rfl, rfl⟩, ?turnZ, ?doneZ⟩
              case doneZ =>
                rintro Γ M ⟨day, x9, x10, has, rfl, rfl⟩
                have e : min ((rsts l).map RI).length ((szI ws).map RI).length = (szs ws).length := by
                  rw [List.length_map, List.length_map, rl, zl, szs_len, wl]
                  exact Nat.min_self _
                rw [e] at has ⊢
                rw [List.take_length]
                exact ⟨day, x9, x10, has, rfl, rfl⟩
              case turnZ =>
                rintro i ρ Γ M hi ⟨ρ1, ρ2, h1, h2, rfl⟩ ⟨day, x9, x10, has, rfl, rfl⟩
                have hi : i < ws.length := by
                  rw [List.length_map, List.length_map, rl, zl, wl] at hi
                  omega
                have e1 : ρ1 = RI ((rsts l).getD i 0) := by
                  rw [List.getElem?_map, List.getElem?_eq_getElem (by omega)] at h1
                  rw [List.getD_eq_getElem?_getD, List.getElem?_eq_getElem (by omega)]
                  exact (Option.some.inj h1).symm
                have e2 : ρ2 = RI ((szs ws).getD i 0 : Nat) := by
                  rw [← szI_at, List.getD_eq_getElem?_getD, List.getElem?_eq_getElem (by omega)]
                  rw [List.getElem?_map, List.getElem?_eq_getElem (by omega)] at h2
                  exact (Option.some.inj h2).symm
                subst e1 e2
                have np : 0 < (szs ws).getD i 0 := szs_pos' hw hi
                have nb : Bd 11 ((szs ws).getD i 0 : Nat) := by
                  rw [szs_at (List.getElem?_eq_getElem hi)]
                  exact nm_bd (hw.ok _ (List.getElem_mem hi))
                obtain ⟨t, ht⟩ := has.more (by rw [szs_len]; exact hi) np fun i' k => ok i' i k (by rw [szs_len]; exact hi)
                refine wg_tup rfl sub_tt rfl (wgs_cons (wg_name 9 w9_f_meet (wgs_cons (wg_name 10 w10_f_meet (wgs_nil ?_)))))
                refine wss_cons (ws_while PO (fun n Γ M => ∃ d, Has (szs ws) (rsts l) i d ∧ (((szs ws).getD i 0 : Nat) : Int) ∣ d + (n : Int) * (lcmL ((szs ws).take i) : Nat) - (rsts l).getD i 0 ∧ Γ = [some (RLt (ws.map (RWh CW))), some (RLt (l.map wnt)), some (RI after), some (RLt ((rsts l).map RI)), some (RLt ((szI ws).map RI)), x5, x6, some (RI d), some (RI (lcmL ((szs ws).take i) : Nat)), some (RI ((rsts l).getD i 0)), some (RI ((szs ws).getD i 0 : Nat)), none, none] ∧ M = []) t ⟨day, has, ht, rfl, rfl⟩ ?_)
                rintro n Γ M ⟨d, hd, hn, rfl, rfl⟩
                refine wt_cmp (op_neD hr.units) (nomark _) (we_bin op_modN (we_bin op_sub (we_var 7 r7_f_meet rfl (we_var 9 r9_f_meet rfl (opw_of opv_sub_i ?_)))))
                refine we_var 10 r10_f_meet rfl (opw_of (opv_mod_i (Int.natCast_pos.mpr np)) (we_int (opw_of (opv_ne isD_i isD_i shaped_i shaped_i) ⟨_, Sub.rfl, fun hk => ?goOn, fun hk => ?stopZ⟩)))
                case goOn =>
                  rw [eqv_ii] at hk
                  have nz : n ≠ 0 := by
                    rintro rfl
                    rw [show d + ((0 : Nat) : Int) * (lcmL ((szs ws).take i) : Nat) - (rsts l).getD i 0 = d - (rsts l).getD i 0 by rw [Int.natCast_zero, Int.zero_mul]; omega] at hn
                    rw [Int.emod_eq_zero_of_dvd hn] at hk
                    exact absurd hk (by decide)
                  refine wss_one (ws_aug 7 w7_f_meet iop_add rfl (we_var 8 r8_f_meet rfl (opw_of (opv_i (v := .int (d + (lcmL ((szs ws).take i) : Nat))) (ρ := RI (d + (lcmL ((szs ws).take i) : Nat))) (fun H Q q => ⟨_, _, rfl, rfl, q⟩) fun _ => rfl) ?_)))
                  have st := hd.step (by rw [szs_len]; omega) 1
                  rw [Int.one_mul] at st
                  refine ⟨n - 1, by omega, _, st, ?_, rfl, rfl⟩
                  have e : d + (lcmL ((szs ws).take i) : Nat) + ((n - 1 : Nat) : Int) * (lcmL ((szs ws).take i) : Nat) = d + (n : Int) * (lcmL ((szs ws).take i) : Nat) := by
                    rw [show ((n - 1 : Nat) : Int) = (n : Int) - 1 by omega, Int.sub_mul, Int.one_mul]
                    omega
                  rw [e]
                  exact hn
                case stopZ =>
                  rw [eqv_ii] at hk
                  have z : (d - (rsts l).getD i 0) % (((szs ws).getD i 0 : Nat) : Int) = 0 := by simpa using hk
                  have step := lcmL_take (s := szs ws) (k := i) (by rw [szs_len]; exact hi)
                  refine wss_one (ws_set 8 w8_f_meet (we_bin op_fdivA (we_bin op_mulU (we_var 8 r8_f_meet rfl (we_var 10 r10_f_meet rfl (opw_of (opv_mul_i (mulOk (lcm_bd hw i) nb (by decide))) ?_))))))
                  refine we_call Co hr1 g_common_f_meet pass0 (wa_cons (we_var 8 r8_f_meet rfl (wa_cons (we_var 10 r10_f_meet rfl (wa_nil (ck_common Sub.rfl Sub.rfl ?_))))))
                  refine opw_of (opv_div_i (gcd_ok (lcm_pos' hw i)).1 (gcd_log np nb (by decide))) ?_
                  rw [lcm_int, ← step]
                  refine ⟨d, _, _, fun i' k => ?_, rfl, rfl⟩
                  rcases Nat.lt_or_ge i' i with q | q
                  · exact hd i' q
                  · have e : i' = i := by omega
                    subst e
                    exact Int.dvd_of_emod_eq_zero z
end
end MM

namespace MM
open PySem L2 PyProof.Rows
/-! ### len(x) of an own instance -/
def LenBack (Q : Value → Shared → Prop) (v : Value) (s' : Shared) : Prop := ∃ (n : Nat) (t : Tok), v = .int n t ∧ n < 2 ^ 62 ∧ ∀ t' tk, Q (.int n t') { s' with toks := tk }
section
open PySem.W
variable {prog : Program} {w : World} {A : Around} {E : Value → Shared → Prop} {s : Shared} {K : PySem.W.Frag} {x C f : Addr} {ox : Obj} {od : Option Obj}
theorem len_own {Q : Value → Shared → Prop} (X : K.In s.heap) (I : InstAt s.heap x ox C od) (hs : findIn K (.ref C) "__len__" = some (some (.ref f))) (hf : isFn K (.ref f) = true)
    (h : wpAny (model prog w) A.in1 (call (.ref f) [.ref x]) (LenBack Q) E s) : wpAny (model prog w) A (call (.builtin "len") [.ref x]) Q E s := by
  refine Calls.call_function_entry kind_len plain_len entry_len (args_len1 _) ?_
  unfold Builtin.«len»
  refine wpAny_bind (m := oneArg "len" _) (wpAny_pure ?_)
  refine wpAny_bind (m := callSpecial? (.ref x) (Str.ofString "__len__")) (special_fn X I hs (beq_iff_eq.mp hf) (wpAny_mono h (fun r s' ⟨n, t, er, small, q⟩ => ?_) fun _ _ z => z))
  subst er
  refine wpAny_bind (wpAny_holding (wpAny_pure (wpAny_bind (wpAny_letGo ?_))))
  have n1 : ¬ ((n : Nat) : Int) < 0 := by omega
  have n2 : ¬ ((n : Nat) : Int) ≥ 2 ^ 63 := by omega
  show wpAny _ _ (if ((n : Nat) : Int) < 0 then _ else if ((n : Nat) : Int) ≥ 2 ^ 63 then _ else _) _ _ _
  rw [if_neg n1, if_neg n2]
  exact wpAny_bind (wpAny_mkInt (wpAny_pure ⟨_, rfl, q _ _⟩))
end
section
variable {X : Cx} {n : Nat} {C f a : Addr} {fd : FuncData} {ps : List Str} {sp : Sp}
def rLenO (C : Addr) (sp : Sp) : List V → Hp → VK → Prop := fun xs H Q => ∃ (a dx : Addr) (fs : List (Str × V)), xs = [V.ref a] ∧ H a = some (.ins C dx fs) ∧ sp [.ref a] H (fun v H' => ∃ k : Nat, v = .int k ∧ k < 2 ^ 62 ∧ Q v H') E0
theorem call_lenO (F : FnOk X.prog X.w X.K X.mg X.base CX0 n f fd ps sp) (hs : PySem.W.findIn X.K (.ref C) "__len__" = some (some (.ref f))) (hf : PySem.W.isFn X.K (.ref f) = true) (hb : Binds X.K fd ps []) (hx : Passes CX0 X E0) (hr : Room (n + 1) X.A) : CallR X (.builtin "len") (rLenO C sp) := by
  intro pins s σ H xs us Q I r h
  obtain ⟨a, dx, fs, rfl, ha, q⟩ := h
  obtain ⟨u, rfl, ru⟩ := r.one
  cases (show u = Value.ref a from ru)
  obtain ⟨mA, J, _⟩ := ins_get I.hok ha
  obtain ⟨od, J, _⟩ := J.look
  have hr1 : Room n X.A.in1 := Room.in1 hr
  refine len_own I.kIn J hs hf (wpAny_mono (run_own F hb hr1 I.env0.in1 hx I q) (fun v s' z => ?_) fun _ _ x => x)
  obtain ⟨y, H', I', rz, k, ek, small, qz⟩ := z
  subst ek
  obtain ⟨t, e⟩ := (show ∃ t, v = Value.int k t from rz)
  subst e
  exact ⟨k, t, rfl, small, fun t' tk => ⟨.int k, H', I'.tok _, ⟨t', rfl⟩, qz⟩⟩
end
section
variable {X : Cx} {E : En} {Γ : Gm} {M : Ow} {e : Expr} {pos p : Pos} {Φ : Rep → Ow → Prop} {k : Nat} {C : Addr} {c : Con}
theorem caw_len {ρ : Rep} (s1 : ∃ l, MM.Sub ρ (RIns C l)) (ck : CallK c [ρ] M fun ρ' M' => (∃ n : Nat, MM.Sub ρ' (RI (n : Int)) ∧ n < 2 ^ 62) ∧ Φ ρ' M') : CaW E Γ M (rLenO C (conSp c)) [ρ] Φ := fun σ G H a vs hv Q q => by
  match vs, hv with
  | [v], ⟨hv, _⟩ =>
    obtain ⟨l, s1⟩ := s1
    obtain ⟨b, dx, fs, e1, h1, r1⟩ := s1 _ _ hv
    have cr := callK_run (EE := E0) (Q := fun v H' => ∃ k : Nat, v = .int k ∧ k < 2 ^ 62 ∧ Q v H') ck a (vs := [v]) ⟨hv, trivial⟩ fun ρ4 M4 v4 G5 H5 ⟨⟨n, st, sm⟩, hφ⟩ s4 a4 r4 => ⟨n, st _ _ r4, sm, q ρ4 M4 v4 G5 H5 hφ s4 a4 r4⟩
    subst e1
    exact ⟨b, dx, fs, rfl, a.gh _ _ h1, cr⟩
/-- len(x) -/
theorem we_lenO (F : KnO X.prog X.w X.K X.mg X.base k C "__len__" c) (hr : Room (k + 1) X.A) (hg : Gl X "len") (hm : X.mg "len" = none) (hx : Passes CX0 X E0)
    (h : WE X E Γ M e fun ρ M1 => (∃ l, MM.Sub ρ (RIns C l)) ∧ CallK c [ρ] M1 fun ρ' M' => (∃ n : Nat, MM.Sub ρ' (RI (n : Int)) ∧ n < 2 ^ 62) ∧ Φ ρ' M')
    (he : starEach [e] X.env = (false, eval e X.env) :: starEach [] X.env := by rfl) (hpl : (backTo pos (starEach [] X.env)).any (·.1) = false := by rfl) : WE X E Γ M (.Call (.Name "len" p) [e] [] pos) Φ := by
  obtain ⟨f, fd, ps, hs, hf, hb, ok⟩ := F
  refine we_callB (call_lenO ok hs hf hb hx hr) hg hm (by decide +kernel) (wa_cons ?_ he) (by decide) (by decide) he hpl
  intro σ G H at_ Q q
  exact h σ G H at_ Q fun ρ M' v G' H' ⟨s1, ck⟩ => q ρ M' v G' H' (wa_nil (caw_len s1 ck))
end
end MM

namespace MM
open PySem L2 PyProof.Rows
def con_L_day : Con := { I := Addr × Nat, B := Int, pre := fun i => i.2 ≤ 100000000, args := fun i => [RRef i.1], own := fun i => [(i.1, ODr i.2)], post := fun _ q => Bd 70 q, res := fun _ q => RI q, own' := fun i _ => [(i.1, ODr (i.2 + 1))] }
theorem ck_L_day {ρ : Rep} {M M1 : Ow} {Φ : Rep → Ow → Prop} {p : Addr} {n : Nat} (h : Sub ρ (RRef p)) (rm : Rm M p (ODr n) M1) (hn : n ≤ 100000000) (k : ∀ q : Int, Bd 70 q → Φ (RI q) ((p, ODr (n + 1)) :: M1)) : CallK con_L_day [ρ] M Φ :=
  ⟨(p, n), M1, hn, .cons h .nil, .cons rm OSub.rfl .nil, fun q hq => k q hq⟩
section
variable {P : Program} {w : World} {K : PySem.W.Frag} {mg : Str → Option Value} {base : Heap} {CS CC : Addr}

theorem ok_L_day {f : Addr} {fd : FuncData} (F : FdD K "_law_day" "_law_day" s_f_L_day [] f fd) (Nx : Kn P w K mg base 1 "_law_next" [] con_L_next) : FnOk P w K mg base CX0 2 f fd ["_law_draws_here"] (conSp con_L_day) := by
  refine fn_conD con_L_day F sc_f_L_day (fun _ => rfl) fun cd A outer s H EE G i hp hr hE => ?_
  obtain ⟨p, n⟩ := i
  have hp : n ≤ 100000000 := hp
  refine wss_cons (ws_set 1 w1_f_L_day (we_call Nx hr g__law_next_f_L_day pass0 (wa_cons (we_var 0 r0_f_L_day rfl (wa_nil (ck_L_next Sub.rfl .here (by omega) fun x hx => ?_))))))
  obtain ⟨x0, x1⟩ := hx
  have bx : Bd 30 (x / 4) := by
    show (x / 4).natAbs < 2 ^ 30
    omega
  refine wss_cons (ws_set 2 w2_f_L_day (we_lst (wa_cons (we_bin op_modN (we_bin op_fdivA (we_var 1 r1_f_L_day rfl (we_int (opw_of (opv_div_i (by decide) (by decide)) (we_int (opw_of (opv_mod_i (by decide)) ?_))))))))))
  refine wa_cons (we_bin op_sub (we_int (we_bin op_modN (we_bin op_fdivA (we_var 1 r1_f_L_day rfl (we_int (opw_of (opv_div_i (by decide) (by decide)) (we_int (opw_of (opv_mod_i (by decide)) (opw_of opv_sub_i ?_))))))))))
  refine wa_cons (we_bin op_sub (we_bin op_mulU (we_bin op_fdivA (we_var 1 r1_f_L_day rfl (we_int (opw_of (opv_div_i (by decide) (by decide)) (we_bin op_pow (we_int (we_int (opw_of (opv_powL (v := 1000000000) (by decide) (by decide) (by decide) (by decide)) ?_))))))))))
  refine opw_of (opv_mul_i (mulOk (m := 40) bx (show Bd 40 1000000000 by show (1000000000 : Int).natAbs < 2 ^ 40; decide) (by decide))) (we_bin op_pow (we_int (we_int (opw_of (opv_powL (v := 100000000000000000) (by decide) (by decide) (by decide) (by decide)) (opw_of opv_sub_i (wa_nil ⟨by show 3 ≤ 100000; decide, ?_⟩))))))
  refine wss_one (ws_ret (we_ix ix_seq (we_bin op_addU (we_var 2 r2_f_L_day rfl (we_lst (wa_cons (we_bin op_sub (we_bin op_pow (we_int (we_int (opw_of (opv_powL (v := 10000000000000000000) (by decide) (by decide) (by decide) (by decide)) ?_)))))))))))
  refine we_bin op_fdivA (we_var 1 r1_f_L_day rfl (we_int (opw_of (opv_div_i (by decide) (by decide)) (opw_of opv_sub_i (wa_nil ⟨by show 1 ≤ 100000; decide, opw_of (opv_add_l (by show 4 ≤ 100000; decide)) ?_⟩)))))
  refine we_bin op_modN (we_var 1 r1_f_L_day rfl (we_int (opw_of (opv_mod_i (by decide)) ?_)))
  refine opw_pickI (fun b => -1000000000000000000 ≤ b ∧ b ≤ 10000000000000000000) (by omega) (by show x % 4 < 4; omega) (.cons (by omega) (.cons (by omega) (.cons (by omega) (.cons (by omega) .nil)))) fun b hb => ?_
  refine ⟨b, [], ?_, Sub.rfl, .cons .here OSub.rfl .nil⟩
  show b.natAbs < 2 ^ 70
  omega
end
end MM

namespace MM
open PySem L2 PyProof.Rows
/-! ### a list of own things beside an empty one -/
def rEqE : R2 := fun x y H Q => ∃ (a b : Addr) (xs : List V), x = .ref a ∧ y = .ref b ∧ H a = some (.lst xs) ∧ H b = some (.lst []) ∧ Q (.bl xs.isEmpty) H
theorem op_eqE {X : Cx} (hu : X.A.units < cLine) : OpR X (compareOp .Eq) rEqE := by
  intro pins s σ H x y v u Q I rx ry ⟨a, b, xs, ex, ey, ha, hb, q⟩
  subst ex ey
  cases rx
  cases ry
  obtain ⟨us, ru, pu, _⟩ := I.list (SqL.of ha)
  obtain ⟨vs, rv, pv, _⟩ := I.list (SqL.of hb)
  have l1 := ru.length
  have l2 := rv.length
  cases xs with
  | nil =>
    have z : us.toArray.size = 0 := by rw [List.size_toArray, ← l1]; rfl
    refine SeqAt.RcAt.lists (e := fun _ => true) pu.isList pv.isList (by rw [z, List.size_toArray, ← l2]; rfl) hu (fun j h1 _ => absurd h1 (by omega)) X.prog X.w X.xe _ ?_
    rw [z]
    exact ⟨.bl true, H, I, rfl, q⟩
  | cons x xs =>
    refine SeqAt.RcAt.lists_lengths pu.isList pv.isList (by rw [List.size_toArray, List.size_toArray, ← l1, ← l2]; rfl) hu X.prog X.w X.xe _ ?_
    exact ⟨.bl false, H, I, rfl, q⟩
theorem opv_eqE {ρs : List Rep} : OpV rEqE (RLt ρs) (RLt []) (RB ρs.isEmpty) := fun x y G H s hx hy Q q => by
  obtain ⟨a, xs, e1, h1, r1⟩ := hx
  obtain ⟨b, ys, e2, h2, r2⟩ := hy
  subst e1 e2
  have e3 : ys = [] := by
    cases ys with
    | nil => rfl
    | cons _ _ => exact r2.elim
  subst e3
  have e4 : xs.isEmpty = ρs.isEmpty := by
    cases ρs with
    | nil =>
      cases xs with
      | nil => rfl
      | cons _ _ => exact r1.elim
    | cons _ _ =>
      cases xs with
      | nil => exact r1.elim
      | cons _ _ => rfl
  exact ⟨a, b, xs, rfl, rfl, s _ _ h1, s _ _ h2, by rw [e4]; exact q _ G H (New.refl s) rfl⟩
/-! ### names of days -/
theorem Wh.on_mem {w : Wh} (h : WhOk w) (d : Int) : w.on d ∈ w.names ∧ w.names.getD ((d - w.first) % (w.names.length : Int)).toNat Str.empty = w.on d ∧ ((d - w.first) % (w.names.length : Int)).toNat < w.names.length := by
  have p := h.pos
  have a := Int.emod_nonneg (d - w.first) (show ((w.names.length : Nat) : Int) ≠ 0 by omega)
  have b := Int.emod_lt_of_pos (d - w.first) (show (0 : Int) < (w.names.length : Nat) by omega)
  have k : ((d - w.first) % (w.names.length : Int)).toNat < w.names.length := by omega
  refine ⟨?_, rfl, k⟩
  unfold Wh.on
  rw [List.getD_eq_getElem?_getD, List.getElem?_eq_getElem k]
  exact List.getElem_mem k
theorem Wh.on_ok {w : Wh} (h : WhOk w) (d : Int) : PyData.strOk (w.on d) = true := h.ok _ (w.on_mem h d).1
theorem getD_inj {l : List Str} (h : l.Nodup) {i j : Nat} (hi : i < l.length) (hj : j < l.length) (e : l.getD i Str.empty = l.getD j Str.empty) : i = j := by
  rw [List.getD_eq_getElem?_getD, List.getD_eq_getElem?_getD, List.getElem?_eq_getElem hi, List.getElem?_eq_getElem hj] at e
  exact (List.getElem_inj h).mp e
theorem Wh.on_same {w : Wh} (h : WhOk w) (a b : Int) : w.on a = w.on b ↔ (w.names.length : Int) ∣ a - b := by
  have p := h.pos
  have p' : ((w.names.length : Nat) : Int) ≠ 0 := by omega
  have a0 := Int.emod_nonneg (a - w.first) p'
  have b0 := Int.emod_nonneg (b - w.first) p'
  obtain ⟨_, _, ka⟩ := w.on_mem h a
  obtain ⟨_, _, kb⟩ := w.on_mem h b
  constructor
  · intro e
    have k := getD_inj h.nd ka kb e
    have k2 : (a - w.first) % (w.names.length : Int) = (b - w.first) % (w.names.length : Int) := by omega
    have k3 := Int.dvd_of_emod_eq_zero (Int.emod_eq_emod_iff_emod_sub_eq_zero.mp k2)
    have : a - w.first - (b - w.first) = a - b := by omega
    rwa [this] at k3
  · intro d
    have : a - w.first - (b - w.first) = a - b := by omega
    rw [← this] at d
    unfold Wh.on
    rw [Int.emod_eq_emod_iff_emod_sub_eq_zero.mpr (Int.emod_eq_zero_of_dvd d)]
theorem eqv_s2 {a b : Str} : PyData.eqv (.str a) (.str b) = decide (a = b) := by
  by_cases h : a = b
  · subst h
    simp [PyData.eqv]
  · simp [PyData.eqv, h]
/-! ### contracts -/
def con_L_far : Con := { I := Addr × Nat, B := Int, pre := fun i => i.2 ≤ 100000000, args := fun i => [RRef i.1], own := fun i => [(i.1, ODr i.2)], post := fun _ q => Bd 65 q, res := fun _ q => RI q, own' := fun i _ => [(i.1, ODr (i.2 + 1))] }
theorem ck_L_far {ρ : Rep} {M M1 : Ow} {Φ : Rep → Ow → Prop} {p : Addr} {n : Nat} (h : Sub ρ (RRef p)) (rm : Rm M p (ODr n) M1) (hn : n ≤ 100000000) (k : ∀ q : Int, Bd 65 q → Φ (RI q) ((p, ODr (n + 1)) :: M1)) : CallK con_L_far [ρ] M Φ :=
  ⟨(p, n), M1, hn, .cons h .nil, .cons rm OSub.rfl .nil, fun q hq => k q hq⟩
def con_L_common : Con := { I := Nat × Nat, B := Unit, pre := fun _ => True, args := fun i => [RI (i.1 : Int), RI (i.2 : Int)], own := fun _ => [], post := fun _ _ => True, res := fun i _ => RI (Nat.gcd i.1 i.2 : Nat), own' := fun _ _ => [] }
theorem ck_L_common {ρ1 ρ2 : Rep} {M : Ow} {Φ : Rep → Ow → Prop} {a b : Nat} (h1 : Sub ρ1 (RI (a : Int))) (h2 : Sub ρ2 (RI (b : Int))) (k : Φ (RI (Nat.gcd a b : Nat)) M) : CallK con_L_common [ρ1, ρ2] M Φ :=
  ⟨(a, b), M, trivial, .cons h1 (.cons h2 .nil), .nil, fun _ _ => k⟩
def nvL : Option (Nat × Nat) → List Int
  | none => []
  | some z => [(z.1 : Int), (z.2 : Int)]
def NvOk (ws : List Wh) (r : List Int) : Option (Nat × Nat) → Prop
  | none => AllOk (szs ws) r
  | some z => FirstBad (szs ws) r z.1 z.2
def con_L_never (CW : Addr) : Con := { I := List Wh × List Int, B := Option (Nat × Nat), pre := fun i => WsOk i.1 ∧ i.2.length = i.1.length, args := fun i => [RLt (i.1.map (RWh CW)), RLt (i.2.map RI)], own := fun _ => [], post := fun i z => NvOk i.1 i.2 z, res := fun _ z => RLt ((nvL z).map RI), own' := fun _ _ => [] }
theorem ck_L_never {CW : Addr} {ρ1 ρ2 : Rep} {M : Ow} {Φ : Rep → Ow → Prop} {ws : List Wh} {r : List Int} (h1 : Sub ρ1 (RLt (ws.map (RWh CW)))) (h2 : Sub ρ2 (RLt (r.map RI))) (hw : WsOk ws) (hl : r.length = ws.length) (k : ∀ z, NvOk ws r z → Φ (RLt ((nvL z).map RI)) M) : CallK (con_L_never CW) [ρ1, ρ2] M Φ :=
  ⟨(ws, r), M, ⟨hw, hl⟩, .cons h1 (.cons h2 .nil), .nil, fun z hz => k z hz⟩
def con_L_met (CW : Addr) : Con := { I := List Wh × List Str × Int, B := Unit, pre := fun i => WsOk i.1 ∧ ∀ s ∈ i.2.1, PyData.strOk s = true, args := fun i => [RLt (i.1.map (RWh CW)), RLt (i.2.1.map RS), RI i.2.2], own := fun _ => [], post := fun _ _ => True, res := fun i _ => RB (decide (i.1.map (fun w => w.on i.2.2) = i.2.1)), own' := fun _ _ => [] }
theorem ck_L_met {CW : Addr} {ρ1 ρ2 ρ3 : Rep} {M : Ow} {Φ : Rep → Ow → Prop} {ws : List Wh} {ns : List Str} {d : Int} (h1 : Sub ρ1 (RLt (ws.map (RWh CW)))) (h2 : Sub ρ2 (RLt (ns.map RS))) (h3 : Sub ρ3 (RI d)) (hw : WsOk ws) (hn : ∀ s ∈ ns, PyData.strOk s = true) (k : Φ (RB (decide (ws.map (fun w => w.on d) = ns))) M) : CallK (con_L_met CW) [ρ1, ρ2, ρ3] M Φ :=
  ⟨(ws, ns, d), M, ⟨hw, hn⟩, .cons h1 (.cons h2 (.cons h3 .nil)), .nil, fun _ _ => k⟩
def roundB (ws : List Wh) (d : Int) : Bool := (ws.filter fun w => decide (¬ (w.names.length : Int) ∣ d)).isEmpty
theorem roundB_iff {ws : List Wh} {d : Int} : roundB ws d = true ↔ ((lcmL (szs ws) : Nat) : Int) ∣ d := by
  unfold roundB
  rw [List.isEmpty_iff, List.filter_eq_nil_iff]
  constructor
  · intro h
    refine Int.ofNat_dvd_left.mpr (lcmL_dvd fun x hx => ?_)
    obtain ⟨w, hw, rfl⟩ := List.mem_map.mp hx
    have := h w hw
    rw [decide_eq_true_iff, Classical.not_not] at this
    exact Int.ofNat_dvd_left.mp this
  · intro h w hw
    rw [decide_eq_true_iff, Classical.not_not]
    exact Int.dvd_trans (Int.natCast_dvd_natCast.mpr (dvd_lcmL (List.mem_map_of_mem (f := fun w : Wh => w.names.length) hw))) h
def con_L_again (CW : Addr) : Con := { I := List Wh × Int, B := Unit, pre := fun i => WsOk i.1, args := fun i => [RLt (i.1.map (RWh CW)), RI i.2], own := fun _ => [], post := fun _ _ => True, res := fun i _ => RB (roundB i.1 i.2), own' := fun _ _ => [] }
theorem ck_L_again {CW : Addr} {ρ1 ρ2 : Rep} {M : Ow} {Φ : Rep → Ow → Prop} {ws : List Wh} {d : Int} (h1 : Sub ρ1 (RLt (ws.map (RWh CW)))) (h2 : Sub ρ2 (RI d)) (hw : WsOk ws) (k : Φ (RB (roundB ws d)) M) : CallK (con_L_again CW) [ρ1, ρ2] M Φ :=
  ⟨(ws, d), M, hw, .cons h1 (.cons h2 .nil), .nil, fun _ _ => k⟩
theorem at_wh {CW : Addr} {ws : List Wh} {i : Nat} (h : i < ws.length) : atI (ws.map (RWh CW)) (i : Int) = some (RWh CW ws[i]) := by
  refine at_n ?_
  rw [List.getElem?_map, List.getElem?_eq_getElem h]
  rfl
theorem wlen_small {w : Wh} (h : WhOk w) : w.names.length < 2 ^ 62 := by
  have := h.le
  omega
section
variable {P : Program} {w : World} {K : PySem.W.Frag} {mg : Str → Option Value} {base : Heap} {CW CD : Addr}
theorem ok_L_far {f : Addr} {fd : FuncData} (F : FdD K "_law_far" "_law_far" s_f_L_far [] f fd) (Nx : Kn P w K mg base 1 "_law_next" [] con_L_next) : FnOk P w K mg base CX0 2 f fd (N_f_L_far.take 1) (conSp con_L_far) := by
  refine fn_conD con_L_far F sc_f_L_far (fun _ => rfl) fun cd A outer s H EE G i hp hr hE => ?_
  obtain ⟨p, n⟩ := i
  have hp : n ≤ 100000000 := hp
  refine wss_cons (ws_set 1 w1_f_L_far (we_call Nx hr g__law_next_f_L_far pass0 (wa_cons (we_var 0 r0_f_L_far rfl (wa_nil (ck_L_next Sub.rfl .here (by omega) fun x hx => ?_))))))
  obtain ⟨x0, x1⟩ := hx
  have bx : Bd 30 (x / 4) := by
    show (x / 4).natAbs < 2 ^ 30
    omega
  refine wss_one (ws_ret (we_ix ix_seq (we_lst (wa_cons (we_int ?_)))))
  refine wa_cons (we_bin op_modN (we_bin op_fdivA (we_var 1 r1_f_L_far rfl (we_int (opw_of (opv_div_i (by decide) (by decide)) (we_int (opw_of (opv_mod_i (by decide)) ?_)))))))
  refine wa_cons (we_bin op_sub (we_int (we_bin op_modN (we_bin op_fdivA (we_var 1 r1_f_L_far rfl (we_int (opw_of (opv_div_i (by decide) (by decide)) (we_int (opw_of (opv_mod_i (by decide)) (opw_of opv_sub_i ?_))))))))))
  refine wa_cons (we_bin op_sub (we_bin op_mulU (we_bin op_fdivA (we_var 1 r1_f_L_far rfl (we_int (opw_of (opv_div_i (by decide) (by decide)) (we_bin op_pow (we_int (we_int (opw_of (opv_powL (v := 1000000000) (by decide) (by decide) (by decide) (by decide)) ?_))))))))))
  refine opw_of (opv_mul_i (mulOk (m := 40) bx (show Bd 40 1000000000 by show (1000000000 : Int).natAbs < 2 ^ 40; decide) (by decide))) (we_bin op_pow (we_int (we_int (opw_of (opv_powL (v := 100000000000000000) (by decide) (by decide) (by decide) (by decide)) (opw_of opv_sub_i (wa_nil ⟨by show 4 ≤ 100000; decide, ?_⟩))))))
  refine we_bin op_modN (we_var 1 r1_f_L_far rfl (we_int (opw_of (opv_mod_i (by decide)) ?_)))
  refine opw_pickI (fun b => -1000000000000000000 ≤ b ∧ b ≤ 1000000000000000000) (by omega) (by show x % 4 < 4; omega) (.cons (by omega) (.cons (by omega) (.cons (by omega) (.cons (by omega) .nil)))) fun b hb => ?_
  refine ⟨b, [], ?_, Sub.rfl, .cons .here OSub.rfl .nil⟩
  show b.natAbs < 2 ^ 65
  omega
theorem ok_L_common {f : Addr} {fd : FuncData} (F : FdD K "_law_common" "_law_common" s_f_L_common [] f fd) : FnOk P w K mg base CX0 1 f fd (N_f_L_common.take 2) (conSp con_L_common) := by
  refine fn_conD con_L_common F sc_f_L_common (fun _ => rfl) fun cd A outer s H EE G i hp hr hE => ?_
  obtain ⟨a, b⟩ := i
  refine wss_cons (ws_while PassesOwn.never (fun n Γ M => ∃ x : Nat, Γ = [some (RI (x : Int)), some (RI (n : Int))] ∧ M = [] ∧ Nat.gcd x n = Nat.gcd a b) b ⟨a, rfl, rfl, rfl⟩ ?_)
  rintro n Γ M ⟨x, rfl, rfl, hg⟩
  refine wt_cmp op_gt (nomark _) (we_var 1 r1_f_L_common rfl (we_int (opw_of opv_gt_i ⟨_, Sub.rfl, fun hk => ?more, fun hk => ?stop⟩)))
  case more =>
    have hn : 0 < n := by have := of_decide_eq_true hk; omega
    refine wss_one (ws_par 0 1 rfl w0_f_L_common w1_f_L_common (by decide) rfl rfl rfl ?_)
    refine wa_cons (we_var 1 r1_f_L_common rfl (wa_cons (we_bin op_modN (we_var 0 r0_f_L_common rfl (we_var 1 r1_f_L_common rfl (opw_of (opv_mod_i (by omega)) ?_))))))
    refine wa_nil ⟨_, _, rfl, x % n, Nat.mod_lt _ hn, n, ?_, rfl, ?_⟩
    · show [some (RI (n : Int)), some (RI ((x : Int) % (n : Int)))] = _
      rw [Int.natCast_emod]
    · rw [← hg, Nat.gcd_comm x n, Nat.gcd_rec n x, Nat.gcd_comm]
  case stop =>
    have hn : n = 0 := by have := of_decide_eq_false hk; omega
    subst hn
    refine wss_one (ws_ret (we_var 0 r0_f_L_common rfl ⟨(), [], trivial, ?_, .nil⟩))
    rw [Nat.gcd_zero_right] at hg
    show Sub (RI (x : Int)) (RI (Nat.gcd a b : Nat))
    rw [hg]
    exact Sub.rfl
theorem ok_L_never {f : Addr} {fd : FuncData} (F : FdD K "_law_never" "_law_never" s_f_L_never [] f fd) (T : WhT K CW) (B : BltW mg) (Ln : KnO P w K mg base 1 CW "__len__" (con_wlen CW)) (Co : Kn P w K mg base 1 "_law_common" [] con_L_common) : FnOk P w K mg base CX0 3 f fd (N_f_L_never.take 2) (conSp (con_L_never CW)) := by
  refine fn_conD (con_L_never CW) F sc_f_L_never (fun _ => rfl) fun cd A outer s H EE G i hp hr hE => ?_
  obtain ⟨ws, r⟩ := i
  obtain ⟨hw, hl⟩ := hp
  have hw : WsOk ws := hw
  have hl : r.length = ws.length := hl
  have few := hw.le
  have hr1 := hr.mono (show 1 ≤ 2 by decide)
  show WSs _ _ (startG N_f_L_never [RLt (ws.map (RWh CW)), RLt (r.map RI)]) _ _ _
  refine wss_cut (fun Γ M => AllOk (szs ws) r ∧ M = []) (ws_for_range1 PassesOwn.never rfl g_range_f_L_never B.rng (wa_cons (we_callB call_len_seq g_len_f_L_never B.len (by decide +kernel) (wa_cons (we_var 0 r0_f_L_never rfl (wa_nil (caw_of cav_len_lt (wa_nil ⟨_, .cons Sub.rfl .nil, ?bnd, ?outer⟩)))))))) ?rest
  case rest =>
    rintro Γ M ⟨ok, rfl⟩
    exact wss_one (ws_ret (we_lst (wa_nil ⟨by show 0 ≤ 100000; decide, none, [], ok, Sub.rfl, .nil⟩)))
  case bnd =>
    rw [List.length_map]
    omega
  case outer =>
    refine ⟨fun i Γ M => ∃ x2 x3 x4, (∀ i' j', i' < i → i' < j' → j' < (szs ws).length → okP (szs ws) r i' j') ∧ Γ = [some (RLt (ws.map (RWh CW))), some (RLt (r.map RI)), x2, x3, x4] ∧ M = [], ⟨none, none, none, fun _ _ h => absurd h (Nat.not_lt_zero _), rfl, rfl⟩, ?turn, ?done⟩
    case done =>
      rintro Γ M ⟨x2, x3, x4, ok, rfl, rfl⟩
      refine ⟨fun i j lt le => ok i j ?_ lt le, rfl⟩
      rw [List.length_map]
      rw [szs_len] at le
      show i < ((ws.length : Nat) : Int).toNat
      omega
    case turn =>
      rintro i ρ Γ M hi rfl ⟨x2, x3, x4, ok, rfl, rfl⟩
      have hi : i < ws.length := by
        rw [List.length_map] at hi
        omega
      refine wg_name 2 w2_f_L_never ?_
      refine wss_one (ws_for_range2 PassesOwn.never rfl g_range_f_L_never B.rng (wa_cons (we_bin op_addU (we_var 2 r2_f_L_never rfl (we_int (opw_of opv_add_i ?_))))))
      refine wa_cons (we_callB call_len_seq g_len_f_L_never B.len (by decide +kernel) (wa_cons (we_var 0 r0_f_L_never rfl (wa_nil (caw_of cav_len_lt (wa_nil ⟨_, _, .cons Sub.rfl (.cons Sub.rfl .nil), ?bnd2, ?inner⟩))))))
      case bnd2 =>
        rw [List.length_map]
        omega
      case inner =>
        refine ⟨fun j Γ M => ∃ x3 x4, (∀ j', i < j' → j' < i + 1 + j → j' < (szs ws).length → okP (szs ws) r i j') ∧ Γ = [some (RLt (ws.map (RWh CW))), some (RLt (r.map RI)), some (RI (i : Int)), x3, x4] ∧ M = [], ⟨x3, x4, fun j' h1 h2 _ => absurd h1 (by omega), rfl, rfl⟩, ?turn4, ?done4⟩
        case done4 =>
          rintro Γ M ⟨x3, x4, ok2, rfl, rfl⟩
          refine ⟨_, x3, x4, fun i' j' k1 k2 k3 => ?_, rfl, rfl⟩
          rcases Nat.lt_or_ge i' i with q | q
          · exact ok i' j' q k2 k3
          · have e : i' = i := by omega
            subst e
            refine ok2 j' k2 ?_ k3
            rw [List.length_map]
            rw [szs_len] at k3
            omega
        case turn4 =>
          rintro j ρ Γ M hj rfl ⟨x3, x4, ok2, rfl, rfl⟩
          rw [List.length_map] at hj
          have ej : ((i : Int) + 1 + (j : Int)) = ((i + 1 + j : Nat) : Int) := by omega
          have jl : i + 1 + j < ws.length := by omega
          rw [ej]
          generalize hq : i + 1 + j = q at jl ok2
          have oi := hw.ok _ (List.getElem_mem hi)
          have oq := hw.ok _ (List.getElem_mem jl)
          have e1 := szs_at (List.getElem?_eq_getElem hi)
          have e2 := szs_at (List.getElem?_eq_getElem jl)
          refine wg_name 3 w3_f_L_never ?_
          refine wss_cons (ws_set 4 w4_f_L_never (we_call Co hr1 g__law_common_f_L_never pass0 (wa_cons (we_lenO Ln hr g_len_f_L_never B.len pass0 (we_ix ix_seq (we_var 0 r0_f_L_never rfl (we_var 2 r2_f_L_never rfl (opw_of (opv_ix_l sub_lt (at_wh hi)) ⟨⟨_, Sub.rfl⟩, ck_wlen Sub.rfl ⟨⟨_, Sub.rfl, wlen_small oi⟩, ?_⟩⟩))))))))
          refine wa_cons (we_lenO Ln hr g_len_f_L_never B.len pass0 (we_ix ix_seq (we_var 0 r0_f_L_never rfl (we_var 3 r3_f_L_never rfl (opw_of (opv_ix_l sub_lt (at_wh jl)) ⟨⟨_, Sub.rfl⟩, ck_wlen Sub.rfl ⟨⟨_, Sub.rfl, wlen_small oq⟩, ?_⟩⟩)))))
          refine wa_nil (ck_L_common Sub.rfl Sub.rfl ?_)
          have gp : 0 < Nat.gcd ws[i].names.length ws[q].names.length := Nat.gcd_pos_of_pos_left _ oi.pos
          refine wss_one (ws_if (wt_cmp (op_neD hr.units) (nomark _) (we_bin op_modN (we_bin op_sub (we_ix ix_seq (we_var 1 r1_f_L_never rfl (we_var 2 r2_f_L_never rfl (opw_of (opv_ix_l sub_lt (at_ri (by omega))) ?_))))))))
          refine we_ix ix_seq (we_var 1 r1_f_L_never rfl (we_var 3 r3_f_L_never rfl (opw_of (opv_ix_l sub_lt (at_ri (by omega))) (opw_of opv_sub_i (we_var 4 r4_f_L_never rfl ?_)))))
          refine opw_of (opv_mod_i (Int.natCast_pos.mpr gp)) (we_int (opw_of (opv_ne isD_i isD_i shaped_i shaped_i) ⟨_, Sub.rfl, fun hk => ?bad, fun hk => wss_nil ?good⟩))
          case bad =>
            rw [eqv_ii] at hk
            refine wss_one (ws_ret (we_lst (wa_cons (we_var 2 r2_f_L_never rfl (wa_cons (we_var 3 r3_f_L_never rfl (wa_nil ⟨by show 2 ≤ 100000; decide, some (i, q), [], ⟨by show i < q; omega, by show q < _; rw [szs_len]; exact jl, fun o => ?_, ok, fun j' k1 k2 => ok2 j' k1 (by omega) (by rw [szs_len]; omega)⟩, Sub.rfl, .nil⟩)))))))
            have o : okP (szs ws) r i q := o
            unfold okP at o
            rw [e1, e2] at o
            rw [Int.emod_eq_zero_of_dvd o] at hk
            exact absurd hk (by decide)
          case good =>
            rw [eqv_ii] at hk
            refine ⟨_, _, fun j' k1 k2 k3 => ?_, rfl, rfl⟩
            rcases Nat.lt_or_ge j' q with u | u
            · exact ok2 j' k1 (by omega) k3
            · have e : j' = q := by omega
              subst e
              have z : (r.getD i 0 - r.getD j' 0) % ((Nat.gcd ws[i].names.length ws[j'].names.length : Nat) : Int) = 0 := by simpa using hk
              unfold okP
              rw [e1, e2]
              exact Int.dvd_of_emod_eq_zero z
theorem hasI_wh {C : Addr} {v : Wh} {m : Str} (h : ((m == ("names" : Str)) || (m == ("first" : Str))) = false) : HasI (RWh C v) C m := by
  simp only [Bool.or_eq_false_iff] at h
  exact hasI_ins (by simp [whF, List.lookup, h.1, h.2])
theorem filt_on {α : Type} {p : α → Bool} {l : List α} {i : Nat} {x : α} (h : l[i]? = some x) : (l.take (i + 1)).filter p = (l.take i).filter p ++ (if p x = true then [x] else []) := by
  rw [List.take_add_one, h, List.filter_append]
  congr 1
  show List.filter p [x] = _
  by_cases e : p x = true
  · rw [if_pos e]
    simp [e]
  · rw [if_neg e]
    simp [e]
theorem ok_L_met {f : Addr} {fd : FuncData} (F : FdD K "_law_met" "_law_met" s_f_L_met [] f fd) (On : KnM P w K mg base 1 CW "name_on" [] (con_on CW)) : FnOk P w K mg base CX0 2 f fd (N_f_L_met.take 3) (conSp (con_L_met CW)) := by
  refine fn_conD (con_L_met CW) F sc_f_L_met (fun _ => rfl) fun cd A outer s H EE G i hp hr hE => ?_
  obtain ⟨ws, ns, d⟩ := i
  obtain ⟨hw, hn⟩ := hp
  have hw : WsOk ws := hw
  have hn : ∀ s ∈ ns, PyData.strOk s = true := hn
  have few := hw.le
  show WSs _ _ (startG N_f_L_met [RLt (ws.map (RWh CW)), RLt (ns.map RS), RI d]) _ _ _
  refine wss_one (ws_ret (we_cmp (op_eqD hr.units) (nomark _) (we_freeze (we_lc (t := gName 3) (own := [("_law_wheel", 3)]) rfl sc_f_L_met.nd (pi_list pe_w) (blkOk_by ?ok) ?hg hE ?src))))
  case ok =>
    show blkC N_f_L_met (defScope s_f_L_met) _ _ = true
    decide +kernel
  case hg =>
    intro s H C cl fp
    exact pg_name sc_f_L_met.nd rfl (.inl rfl)
  case src =>
    refine src_list (we_var 0 r0_f_L_met rfl ⟨_, sub_lt, fun i o M => M = [] ∧ o = ((ws.map fun w => w.on d).take i).map RS, ⟨rfl, rfl⟩, ?turn, ?done⟩)
    case turn =>
      rintro i ρ o M1 D hi hρ ⟨rfl, rfl⟩
      rw [List.getElem?_map] at hρ
      obtain ⟨v, hv, rfl⟩ := Option.map_eq_some_iff.mp hρ
      have hvo := hw.ok v (List.mem_of_getElem? hv)
      have lt := (List.getElem?_eq_some_iff.mp hv).1
      refine ⟨fun Γ => Γ.set 3 (some (RWh CW v)), blkT_name 3 (by decide), fun s H0 C cl fp => ?_⟩
      refine we_meth On hr pass0 (we_var 3 ?r3 rfl ⟨hasI_wh (by decide +kernel), wa_cons (we_var 2 ?r2 rfl (wa_nil (ck_on Sub.rfl Sub.rfl hvo ⟨[], RS (v.on d), rfl, Sub.rfl, ?len, rfl, ?tk⟩)))⟩)
      case r3 => exact ⟨rfl, by first | exact .inl rfl | exact .inr (.inl rfl), by decide, by decide⟩
      case r2 => exact ⟨rfl, by first | exact .inl rfl | exact .inr (.inl rfl), by decide, by decide⟩
      case len =>
        rw [List.length_map, List.length_take]
        omega
      case tk =>
        rw [List.take_add_one, List.getElem?_map, hv, List.map_append]
        rfl
    case done =>
      rintro D o M1 hD hM ⟨rfl, rfl⟩
      rw [List.take_of_length_le (by rw [List.length_map, List.length_map]; exact Nat.le_refl _)]
      have oks : ∀ s ∈ ws.map (fun w => w.on d), PyData.strOk s = true := fun s hs => by
        obtain ⟨v, hv, rfl⟩ := List.mem_map.mp hs
        exact v.on_ok (hw.ok v hv) d
      refine ⟨D, _, [], Sub.rfl, .here, hD, we_var 1 r1_f_L_met rfl (opw_of (opv_eq isD_txts isD_txts (shaped_txts oks) (shaped_txts hn)) ⟨(), [], trivial, ?_, .nil⟩)⟩
      rw [eqv_txts]
      exact Sub.rfl
theorem ok_L_again {f : Addr} {fd : FuncData} (F : FdD K "_law_again" "_law_again" s_f_L_again [] f fd) (B : BltW mg) (On : KnM P w K mg base 1 CW "name_on" [] (con_on CW)) (Ln : KnO P w K mg base 1 CW "__len__" (con_wlen CW)) : FnOk P w K mg base CX0 3 f fd (N_f_L_again.take 2) (conSp (con_L_again CW)) := by
  refine fn_conD (con_L_again CW) F sc_f_L_again (fun _ => rfl) fun cd A outer s H EE G i hp hr hE => ?_
  obtain ⟨ws, d⟩ := i
  have hw : WsOk ws := hp
  have few := hw.le
  have hr1 := hr.mono (show 1 ≤ 2 by decide)
  show WSs _ _ (startG N_f_L_again [RLt (ws.map (RWh CW)), RI d]) _ _ _
  have fin : Rt (con_L_again CW) (ws, d) (RB ((ws.filter fun w => decide (¬ (w.names.length : Int) ∣ d)).map (RWh CW)).isEmpty) [] := ⟨(), [], trivial, by rw [List.isEmpty_map]; exact Sub.rfl, .nil⟩
  refine wss_cons (ws_if (wt_cmp op_ge (nomark _) (we_var 1 r1_f_L_again rfl (we_bin op_pow (we_int (we_int (opw_of (opv_powL (v := 10000000000000000000) (by decide) (by decide) (by decide) (by decide)) (opw_of opv_ge_i ⟨_, Sub.rfl, fun _ => ?great, fun _ => wss_nil ?_⟩))))))))
  case great =>
    refine wss_one (ws_ret (we_cmp (op_eqE hr.units0) (nomark _) (we_freeze (we_lcT (t := gName 2) (own := [("_law_wheel", 2)]) rfl sc_f_L_again.nd (pi_list pe_w) (blkOk_by ?ok) ?hg hE ?src))))
    case ok =>
      show blkC N_f_L_again (defScope s_f_L_again) _ _ = true
      decide +kernel
    case hg =>
      intro s H C cl fp
      exact pg_name sc_f_L_again.nd rfl (.inl rfl)
    case src =>
      refine src_list (we_var 0 r0_f_L_again rfl ⟨_, sub_lt, fun i o M => M = [] ∧ o = ((ws.take i).filter fun w => decide (¬ (w.names.length : Int) ∣ d)).map (RWh CW), ⟨rfl, rfl⟩, ?turn, ?done⟩)
      case turn =>
        rintro i ρ o M1 D hi hρ ⟨rfl, rfl⟩
        rw [List.getElem?_map] at hρ
        obtain ⟨v, hv, rfl⟩ := Option.map_eq_some_iff.mp hρ
        have hvo := hw.ok v (List.mem_of_getElem? hv)
        have lt := (List.getElem?_eq_some_iff.mp hv).1
        have st := filt_on (p := fun w : Wh => decide (¬ (w.names.length : Int) ∣ d)) hv
        refine ⟨fun Γ => Γ.set 2 (some (RWh CW v)), blkT_name 2 (by decide), fun s H0 C cl fp => ?_⟩
        refine wt_cmp (op_neD hr.units) (nomark _) (we_bin op_modN (we_var 1 ?r1 rfl (we_lenO Ln hr ?g1 B.len pass0 (we_var 2 ?r2 rfl ⟨⟨_, Sub.rfl⟩, ck_wlen Sub.rfl ⟨⟨_, Sub.rfl, wlen_small hvo⟩, ?_⟩⟩))))
        case r1 => exact ⟨rfl, by first | exact .inl rfl | exact .inr (.inl rfl), by decide, by decide⟩
        case g1 => rfl
        case r2 => exact ⟨rfl, by first | exact .inl rfl | exact .inr (.inl rfl), by decide, by decide⟩
        refine opw_of (opv_mod_i (Int.natCast_pos.mpr hvo.pos)) (we_int (opw_of (opv_ne isD_i isD_i shaped_i shaped_i) ⟨_, Sub.rfl, _, rfl, fun hk => ?yes, fun hk => ⟨rfl, ?no⟩⟩))
        case yes =>
          rw [eqv_ii] at hk
          intro s H0 C cl fp
          refine we_var 2 ?r2b rfl ⟨[], RWh CW v, rfl, Sub.rfl, ?len, rfl, ?tk⟩
          case r2b => exact ⟨rfl, by first | exact .inl rfl | exact .inr (.inl rfl), by decide, by decide⟩
          case len =>
            rw [List.length_map]
            refine Nat.lt_of_le_of_lt (List.length_filter_le _ _) ?_
            rw [List.length_take]
            omega
          case tk =>
            have nd : ¬ (v.names.length : Int) ∣ d := fun z => by
              rw [Int.emod_eq_zero_of_dvd z] at hk
              exact absurd hk (by decide)
            rw [st, if_pos (decide_eq_true nd), List.map_append]
            rfl
        case no =>
          rw [eqv_ii] at hk
          have z : d % (v.names.length : Int) = 0 := by simpa using hk
          have dv : (v.names.length : Int) ∣ d := Int.dvd_of_emod_eq_zero z
          rw [st, if_neg (by rw [decide_eq_true_iff]; exact fun n => n dv), List.append_nil]
      case done =>
        rintro D o M1 hD hM ⟨rfl, rfl⟩
        rw [List.take_of_length_le (by rw [List.length_map]; exact Nat.le_refl _)]
        exact ⟨D, _, [], Sub.rfl, .here, hD, we_lst (wa_nil ⟨by show 0 ≤ 100000; decide, opw_of opv_eqE fin⟩)⟩
  refine wss_one (ws_ret (we_cmp (op_eqE hr.units0) (nomark _) (we_freeze (we_lcT (t := gName 2) (own := [("_law_wheel", 2)]) rfl sc_f_L_again.nd (pi_list pe_w) (blkOk_by ?okb) ?hgb hE ?srcb))))
  case okb =>
    show blkC N_f_L_again (defScope s_f_L_again) _ _ = true
    decide +kernel
  case hgb =>
    intro s H C cl fp
    exact pg_name sc_f_L_again.nd rfl (.inl rfl)
  case srcb =>
    refine src_list (we_var 0 r0_f_L_again rfl ⟨_, sub_lt, fun i o M => M = [] ∧ o = ((ws.take i).filter fun w => decide (¬ (w.names.length : Int) ∣ d)).map (RWh CW), ⟨rfl, rfl⟩, ?turnb, ?doneb⟩)
    case turnb =>
      rintro i ρ o M1 D hi hρ ⟨rfl, rfl⟩
      rw [List.getElem?_map] at hρ
      obtain ⟨v, hv, rfl⟩ := Option.map_eq_some_iff.mp hρ
      have hvo := hw.ok v (List.mem_of_getElem? hv)
      have lt := (List.getElem?_eq_some_iff.mp hv).1
      have st := filt_on (p := fun w : Wh => decide (¬ (w.names.length : Int) ∣ d)) hv
      have same := v.on_same hvo d 0
      rw [show d - 0 = d by omega] at same
      refine ⟨fun Γ => Γ.set 2 (some (RWh CW v)), blkT_name 2 (by decide), fun s H0 C cl fp => ?_⟩
      refine wt_cmp (op_neD hr.units) (nomark _) (we_meth On hr1 pass0 (we_var 2 ?c2 rfl ⟨hasI_wh (by decide +kernel), wa_cons (we_var 1 ?c1 rfl (wa_nil (ck_on Sub.rfl Sub.rfl hvo ?_)))⟩))
      case c2 => exact ⟨rfl, by first | exact .inl rfl | exact .inr (.inl rfl), by decide, by decide⟩
      case c1 => exact ⟨rfl, by first | exact .inl rfl | exact .inr (.inl rfl), by decide, by decide⟩
      refine we_meth On hr1 pass0 (we_var 2 ?c3 rfl ⟨hasI_wh (by decide +kernel), wa_cons (we_int (wa_nil (ck_on (d := 0) Sub.rfl Sub.rfl hvo ?_)))⟩)
      case c3 => exact ⟨rfl, by first | exact .inl rfl | exact .inr (.inl rfl), by decide, by decide⟩
      refine opw_of (opv_ne isD_s isD_s (shaped_so (v.on_ok hvo d)) (shaped_so (v.on_ok hvo 0))) ⟨_, Sub.rfl, _, rfl, fun hk => ?yesb, fun hk => ⟨rfl, ?nob⟩⟩
      case yesb =>
        rw [eqv_s2] at hk
        intro s H0 C cl fp
        refine we_var 2 ?c4 rfl ⟨[], RWh CW v, rfl, Sub.rfl, ?lenb, rfl, ?tkb⟩
        case c4 => exact ⟨rfl, by first | exact .inl rfl | exact .inr (.inl rfl), by decide, by decide⟩
        case lenb =>
          rw [List.length_map]
          refine Nat.lt_of_le_of_lt (List.length_filter_le _ _) ?_
          rw [List.length_take]
          omega
        case tkb =>
          have nd : ¬ (v.names.length : Int) ∣ d := fun z => by
            rw [decide_eq_true (same.mpr z)] at hk
            cases hk
          rw [st, if_pos (decide_eq_true nd), List.map_append]
          rfl
      case nob =>
        rw [eqv_s2] at hk
        have e : v.on d = v.on 0 := by simpa using hk
        have dv := same.mp e
        rw [st, if_neg (by rw [decide_eq_true_iff]; exact fun n => n dv), List.append_nil]
    case doneb =>
      rintro D o M1 hD hM ⟨rfl, rfl⟩
      rw [List.take_of_length_le (by rw [List.length_map]; exact Nat.le_refl _)]
      exact ⟨D, _, [], Sub.rfl, .here, hD, we_lst (wa_nil ⟨by show 0 ≤ 100000; decide, opw_of opv_eqE fin⟩)⟩
end
end MM

namespace MM
open PySem L2 PyProof.Rows
/-! ### methods called with keywords -/
def tMethN (C : Addr) (m : Str) (n k : Nat) (sp : Sp) (gV : List V → List V → List V) (E : XK) (ta : TE) (t tk : TA) : TE := fun σ H Q => ta σ H fun x H1 => ∃ a dx fs, x = .ref a ∧ H1 a = some (.ins C dx fs) ∧ fs.lookup m = none ∧ t σ H1 fun vs H2 => tk σ H2 fun zs H3 => vs.length = n ∧ zs.length = k ∧ sp (gV (x :: vs) zs) H3 Q E
def tMethN0 (C : Addr) (m : Str) (k : Nat) (sp : Sp) (gV : List V → List V → List V) (E : XK) (ta : TE) (tk : TA) : TE := fun σ H Q => ta σ H fun x H1 => ∃ a dx fs, x = .ref a ∧ H1 a = some (.ins C dx fs) ∧ fs.lookup m = none ∧ tk σ H1 fun zs H3 => zs.length = k ∧ sp (gV [x] zs) H3 Q E
section
variable {X : Cx} {CX : CXT} {k n : Nat} {f C : Addr} {fd : FuncData} {ps : List Str} {sp : Sp} {EE : XK} {m : Str} {p pos apos : Pos} {e o : Expr} {es : List Expr} {kws : List Keyword} {ks : List Str} {ta : TE} {t tk : TA} {g : List Value → List Value → List Value} {gV : List V → List V → List V}
theorem pe_methN {pl : Sem Bool} (he : PE X o ta) (c : Cls X.K C) (hm : L2.Meth X.K C m f) (F : FnOk X.prog X.w X.K X.mg X.base CX k f fd ps sp) (hr : Room k X.A) (hb : KBn X.K fd ps (n + 1) ks g gV) (hx : Passes CX X EE) (ha : PA X (e :: es) t) (hkw : PK X kws tk)
    (hall : (backToKw pos (keywordEach kws X.env)).all (·.1.isSome) = true := by rfl) (hks : (backToKw pos (keywordEach kws X.env)).filterMap (·.1) = ks := by rfl)
    (hst : starEach (e :: es) X.env = (false, eval e X.env) :: starEach es X.env := by rfl) (hpl : ((backTo pos (starEach (e :: es) X.env)).any (·.1) || (backToKw pos (keywordEach kws X.env)).any (·.1.isNone)) = false := by rfl)
    (ht : eval (.Call (.Attribute o m apos) (e :: es) kws pos) X.env = (do
      let ov ← eval o X.env
      standAt apos.atName
      let (f, first) ← holding [ov] (getMethod ov m pl)
      callWith pos f first (backTo pos (starEach (e :: es) X.env)) (backToKw pos (keywordEach kws X.env))) := by rfl) :
    PE X (.Call (.Attribute o m apos) (e :: es) kws pos) (tMethN C m n ks.length sp gV EE ta t tk) := by
  refine ⟨fun pins s σ H Q I h => ?_⟩
  refine PySem.W.methodCall_KW (pl := pl) (thn (he.run pins s σ H _ I h) fun u s1 ⟨x, H1, I1, rx, a, dx, fs, ex, ea, l, q⟩ => ?_) ht
  subst ex
  obtain rfl : u = Value.ref a := rx
  refine getmeth_ok I1 ea c hm l ?_
  refine PySem.W.callWith_KW (first := [.ref a]) (h₀ := X.base) I.ok.mod.kin hm.kp hall (thn (ha.run pos pins s1 σ H1 _ I1 q) fun us s2 ⟨vs, H2, I2, r, q2⟩ => ?_) hpl hst
  refine thn (hkw.run pos pins s2 σ H2 _ I2 q2) fun ws s3 ⟨zs, H3, I3, rz, l1, l2, q3⟩ => ⟨I3.kIn, ?_⟩
  rw [hks]
  exact run_fnN (us := .ref a :: us) (vs := .ref a :: vs) F hr hb hx I3 (.cons rfl r) rz (by simp [l1]) l2 q3
theorem pe_methN0 {pl : Sem Bool} (he : PE X o ta) (c : Cls X.K C) (hm : L2.Meth X.K C m f) (F : FnOk X.prog X.w X.K X.mg X.base CX k f fd ps sp) (hr : Room k X.A) (hb : KBn X.K fd ps 1 ks g gV) (hx : Passes CX X EE) (hkw : PK X kws tk)
    (hall : (backToKw pos (keywordEach kws X.env)).all (·.1.isSome) = true := by rfl) (hks : (backToKw pos (keywordEach kws X.env)).filterMap (·.1) = ks := by rfl)
    (hpl : ((backTo pos (starEach [] X.env)).any (·.1) || (backToKw pos (keywordEach kws X.env)).any (·.1.isNone)) = false := by rfl)
    (ht : eval (.Call (.Attribute o m apos) [] kws pos) X.env = (do
      let ov ← eval o X.env
      standAt apos.atName
      let (f, first) ← holding [ov] (getMethod ov m pl)
      callWith pos f first (backTo pos (starEach [] X.env)) (backToKw pos (keywordEach kws X.env))) := by rfl) :
    PE X (.Call (.Attribute o m apos) [] kws pos) (tMethN0 C m ks.length sp gV EE ta tk) := by
  refine ⟨fun pins s σ H Q I h => ?_⟩
  refine PySem.W.methodCall_KW (pl := pl) (thn (he.run pins s σ H _ I h) fun u s1 ⟨x, H1, I1, rx, a, dx, fs, ex, ea, l, q⟩ => ?_) ht
  subst ex
  obtain rfl : u = Value.ref a := rx
  refine getmeth_ok I1 ea c hm l ?_
  refine PySem.W.callWith_KW0 (first := [.ref a]) (h₀ := X.base) I.ok.mod.kin hm.kp hall ?_ hpl
  refine thn (hkw.run pos pins s1 σ H1 _ I1 q) fun ws s3 ⟨zs, H3, I3, rz, l2, q3⟩ => ⟨I3.kIn, ?_⟩
  rw [hks]
  exact run_fnN (us := [.ref a]) (vs := [.ref a]) F hr hb hx I3 (.cons rfl .nil) rz rfl l2 q3
end
section
variable {X : Cx} {E : En} {Γ : Gm} {M : Ow} {a b e o : Expr} {es : List Expr} {kws : List Keyword} {ks : List Str} {pos p apos : Pos} {Φ : Rep → Ow → Prop} {k n : Nat} {m : Str} {C : Addr} {c : Con} {gV : List V → List V → List V} {gR : List Rep → List Rep → List Rep}
theorem we_methN {pl : Sem Bool} (F : KnMK X.prog X.w X.K X.mg X.base k C m n ks gV c) (gr : GvR gV gR (n + 1) ks.length) (hr : Room k X.A) (hx : Passes CX0 X E0)
    (h : WE X E Γ M o fun ρ M1 => HasI ρ C m ∧ WA X E Γ M1 (e :: es) fun ρs M2 => ρs.length = n ∧ WK X E Γ M2 kws fun ρz M3 => ρz.length = ks.length ∧ CallK c (gR (ρ :: ρs) ρz) M3 Φ)
    (hall : (backToKw pos (keywordEach kws X.env)).all (·.1.isSome) = true := by rfl) (hks : (backToKw pos (keywordEach kws X.env)).filterMap (·.1) = ks := by rfl)
    (hst : starEach (e :: es) X.env = (false, eval e X.env) :: starEach es X.env := by rfl) (hpl : ((backTo pos (starEach (e :: es) X.env)).any (·.1) || (backToKw pos (keywordEach kws X.env)).any (·.1.isNone)) = false := by rfl)
    (ht : eval (.Call (.Attribute o m apos) (e :: es) kws pos) X.env = (do
      let ov ← eval o X.env
      standAt apos.atName
      let (f, first) ← holding [ov] (getMethod ov m pl)
      callWith pos f first (backTo pos (starEach (e :: es) X.env)) (backToKw pos (keywordEach kws X.env))) := by rfl) :
    WE X E Γ M (.Call (.Attribute o m apos) (e :: es) kws pos) Φ := by
  obtain ⟨f, fd, ps, g, hm, hc, hb, F⟩ := F
  refine we_of (pe_methN pe_w hc hm F hr hb hx pa_w pk_w hall hks hst hpl ht) fun σ G H a Q q => ?_
  exact h σ G H a _ fun ρ M1 v G1 H1 ⟨hi, h1⟩ s1 a1 r1 => by
    obtain ⟨b, dx, fs, e1, e2, e3⟩ := hi v G1 r1
    refine ⟨b, dx, fs, e1, a1.gh _ _ e2, e3, h1 σ G1 H1 a1 _ fun ρs M' vs G2 H2 ⟨l1, h2⟩ s2 a2 r2 => ?_⟩
    refine h2 σ G2 H2 a2 _ fun ρz M3 zs G3 H3 ⟨l2, hh⟩ s3 a3 r3 => ⟨by rw [← r2.length]; exact l1, by rw [← r3.length]; exact l2, ?_⟩
    exact callK_run hh a3 (gr.run (by simp [l1]) l2 ⟨ρ.mono _ _ _ (s2.trans s3) r1, r2.mono s3⟩ r3) fun ρ' M4 w G4 H4 h4 s4 => q ρ' M4 w G4 H4 h4 (((s1.trans s2).trans s3).trans s4)
theorem we_methN0 {pl : Sem Bool} (F : KnMK X.prog X.w X.K X.mg X.base k C m 0 ks gV c) (gr : GvR gV gR 1 ks.length) (hr : Room k X.A) (hx : Passes CX0 X E0)
    (h : WE X E Γ M o fun ρ M1 => HasI ρ C m ∧ WK X E Γ M1 kws fun ρz M3 => ρz.length = ks.length ∧ CallK c (gR [ρ] ρz) M3 Φ)
    (hall : (backToKw pos (keywordEach kws X.env)).all (·.1.isSome) = true := by rfl) (hks : (backToKw pos (keywordEach kws X.env)).filterMap (·.1) = ks := by rfl)
    (hpl : ((backTo pos (starEach [] X.env)).any (·.1) || (backToKw pos (keywordEach kws X.env)).any (·.1.isNone)) = false := by rfl)
    (ht : eval (.Call (.Attribute o m apos) [] kws pos) X.env = (do
      let ov ← eval o X.env
      standAt apos.atName
      let (f, first) ← holding [ov] (getMethod ov m pl)
      callWith pos f first (backTo pos (starEach [] X.env)) (backToKw pos (keywordEach kws X.env))) := by rfl) :
    WE X E Γ M (.Call (.Attribute o m apos) [] kws pos) Φ := by
  obtain ⟨f, fd, ps, g, hm, hc, hb, F⟩ := F
  refine we_of (pe_methN0 pe_w hc hm F hr hb hx pk_w hall hks hpl ht) fun σ G H a Q q => ?_
  exact h σ G H a _ fun ρ M1 v G1 H1 ⟨hi, h1⟩ s1 a1 r1 => by
    obtain ⟨b, dx, fs, e1, e2, e3⟩ := hi v G1 r1
    refine ⟨b, dx, fs, e1, a1.gh _ _ e2, e3, h1 σ G1 H1 a1 _ fun ρz M3 zs G3 H3 ⟨l2, hh⟩ s3 a3 r3 => ⟨by rw [← r3.length]; exact l2, ?_⟩⟩
    exact callK_run hh a3 (gr.run rfl l2 ⟨ρ.mono _ _ _ s3 r1, trivial⟩ r3) fun ρ' M4 w G4 H4 h4 s4 => q ρ' M4 w G4 H4 h4 ((s1.trans s3).trans s4)
end
/-! ### defs without defaults, called with keywords; methods -/
section
variable {P : Program} {w : World} {K : PySem.W.Frag} {mg : Str → Option Value} {base h : Heap} {k : Nat} {x qual : Str} {st : Stmt} {f C : Addr} {fd : FuncData} {ps : List Str} {c : Con}
theorem kb0_of (n : Nat) (ks : List Str) (g : {α : Type} → List α → List α → List α) (F : FdD K x qual st [] f fd)
    (hrel : ∀ {vs zs : List V} {us ws : List Value}, Vals vs us → Vals zs ws → Vals (g vs zs) (g us ws))
    (hb : ∀ (kV doc pm : Value) (an : Option Addr) (cdv ct : Value) (us ws : List Value), us.length = n → ws.length = ks.length → bindArgs (PySem.W.fnOf x qual (defArgs st) (defBody st) (defScope st) .none kV doc pm an cdv ct) ⟨us, ks.zip ws⟩ = pure (ps.zip (g us ws))) : KBn K fd ps n ks (fun us ws => g us ws) (fun vs zs => g vs zs) := by
  obtain ⟨oc, od, dV, kV, doc, pm, an, cdv, ct, osl, rfl, lk, hcd, hD, hK⟩ := F.ex
  rcases hD with ⟨_, rfl⟩ | ⟨e, _⟩
  · exact ⟨fun s us ws _ l1 l2 => .of_eq (hb kV doc pm an cdv ct us ws l1 l2), hrel⟩
  · exact absurd rfl e
theorem knK0_of (n : Nat) (ks : List Str) (g : {α : Type} → List α → List α → List α) (X : K.In h) (G : h.Ns mainGlobals mg) (a : PySem.W.nsIn K mainGlobals x = some (some (.ref f))) (F : FdD K x x st [] f fd) (ok : FnOk P w K mg base CX0 k f fd ps (conSp c))
    (hrel : ∀ {vs zs : List V} {us ws : List Value}, Vals vs us → Vals zs ws → Vals (g vs zs) (g us ws))
    (hb : ∀ (kV doc pm : Value) (an : Option Addr) (cdv ct : Value) (us ws : List Value), us.length = n → ws.length = ks.length → bindArgs (PySem.W.fnOf x x (defArgs st) (defBody st) (defScope st) .none kV doc pm an cdv ct) ⟨us, ks.zip ws⟩ = pure (ps.zip (g us ws))) : KnK P w K mg base k x n ks (fun vs zs => g vs zs) c :=
  ⟨f, fd, ps, _, PySem.W.mg_of X G a, F.kp, kb0_of n ks g F hrel hb, ok⟩
theorem knM_of (cl : Cls K C) (a : PySem.W.findIn K (.ref C) x = some (some (.ref f))) (i : PySem.W.isFn K (.ref f) = true) (F : FdD K x qual st [] f fd) (ok : FnOk P w K mg base CX0 k f fd ps (conSp c))
    (hb : ∀ (kV doc pm : Value) (an : Option Addr) (cdv ct : Value) (us : List Value), us.length = ps.length → bindArgs (PySem.W.fnOf x qual (defArgs st) (defBody st) (defScope st) .none kV doc pm an cdv ct) ⟨us, []⟩ = pure (ps.zip us)) : KnM P w K mg base k C x [] c :=
  ⟨f, fd, ps, [], ⟨a, i, F.kp⟩, cl, F.bindsN hb, .nil, ok⟩
theorem knMK0_of (n : Nat) (ks : List Str) (g : {α : Type} → List α → List α → List α) (cl : Cls K C) (a : PySem.W.findIn K (.ref C) x = some (some (.ref f))) (i : PySem.W.isFn K (.ref f) = true) (F : FdD K x qual st [] f fd) (ok : FnOk P w K mg base CX0 k f fd ps (conSp c))
    (hrel : ∀ {vs zs : List V} {us ws : List Value}, Vals vs us → Vals zs ws → Vals (g vs zs) (g us ws))
    (hb : ∀ (kV doc pm : Value) (an : Option Addr) (cdv ct : Value) (us ws : List Value), us.length = n + 1 → ws.length = ks.length → bindArgs (PySem.W.fnOf x qual (defArgs st) (defBody st) (defScope st) .none kV doc pm an cdv ct) ⟨us, ks.zip ws⟩ = pure (ps.zip (g us ws))) : KnMK P w K mg base k C x n ks (fun vs zs => g vs zs) c :=
  ⟨f, fd, ps, _, ⟨a, i, F.kp⟩, cl, kb0_of (n + 1) ks g F hrel hb, ok⟩
end
/-! ### values put in the parameters' order -/
def permL {α : Type} (idx : List Nat) (l : List α) : List α := idx.filterMap fun i => l[i]?
theorem vals_perm {vs : List V} {us : List Value} (h : Vals vs us) : ∀ idx : List Nat, Vals (permL idx vs) (permL idx us)
  | [] => .nil
  | i :: idx => by
    have ih := vals_perm h idx
    unfold permL at ih ⊢
    cases e : vs[i]? with
    | none =>
      have e2 := h.none_of e
      rw [List.filterMap_cons_none e, List.filterMap_cons_none e2]
      exact ih
    | some v =>
      obtain ⟨u, e2, r⟩ := h.get e
      rw [List.filterMap_cons_some e, List.filterMap_cons_some e2]
      exact .cons r ih
theorem reps_perm {ρs : List Rep} {vs : List V} {G : Hp} (h : Reps ρs vs G) : ∀ idx : List Nat, Reps (permL idx ρs) (permL idx vs) G
  | [] => trivial
  | i :: idx => by
    have ih := reps_perm h idx
    unfold permL at ih ⊢
    cases e : ρs[i]? with
    | none =>
      have e2 : vs[i]? = none := by
        rw [List.getElem?_eq_none_iff] at e ⊢
        rw [← h.length]
        exact e
      rw [List.filterMap_cons_none e, List.filterMap_cons_none e2]
      exact ih
    | some ρ =>
      obtain ⟨v, e2, r⟩ := h.get e
      rw [List.filterMap_cons_some e, List.filterMap_cons_some e2]
      exact ⟨r, ih⟩
def gvP (idx : List Nat) {α : Type} (a z : List α) : List α := permL idx (a ++ z)
theorem gr_P (idx : List Nat) {n m : Nat} : GvR (gvP idx) (gvP idx) n m := ⟨fun _ _ r1 r2 => reps_perm (r1.app r2) idx⟩
theorem rel_P (idx : List Nat) {vs zs : List V} {us ws : List Value} (r1 : Vals vs us) (r2 : Vals zs ws) : Vals (gvP idx vs zs) (gvP idx us ws) := vals_perm (Vals.append r1 r2) idx
end MM

namespace MM
open PySem L2 PyProof.Rows
section
variable {X : Cx} {E : En} {Γ : Gm} {M : Ow} {a : Expr} {pos p2 : Pos} {Φ : Rep → Ow → Prop} {lo hi : Option Expr}
/-- a slice of a tuple, not the whole of it -/
theorem we_slT (h : WE X E Γ M a fun ρ M1 => ∃ ρs, Sub ρ (RT X.K ρs) ∧ WO X E Γ M1 lo fun l M2 => WO X E Γ M2 hi fun u M3 => ¬ (HT.sIx ρs.length 0 l = 0 ∧ HT.sIx ρs.length ρs.length u = ρs.length) ∧ Φ (RTt (cutL ρs l u)) M3) : WE X E Γ M (.Subscript a (.Slice lo hi none p2) pos) Φ :=
  we_of (pe_slice sl_tup pe_w po_w po_w) fun σ G H at' Q q => h σ G H at' _ fun ρ M1 x G1 H1 ⟨ρs, sb, h1⟩ s1 a1 r1 => h1 σ G1 H1 a1 _ fun l M2 G2 H2 h2 s2 a2 => h2 σ G2 H2 a2 _ fun u M3 G3 H3 ⟨hw, hk⟩ s3 a3 => by
    obtain ⟨b, vs, e, hq, rr⟩ := sb _ _ (ρ.mono _ _ _ (s2.trans s3) r1)
    refine ⟨b, vs, e, same_seqT a3.gh hq, by rw [← rr.length]; exact hw, fun p hp => ?_⟩
    have n : New G3 H3 (upd G3 p (.tup (cutV vs l u))) (upd H3 p (.tup (cutV vs l u))) := New.put a3.gh hp
    exact q _ M3 _ _ _ hk ((s1.trans (s2.trans s3)).trans n.gg) (a3.new n) ⟨p, _, rfl, upd_same, (reps_cut rr l u).mono n.gg⟩
end
theorem cut3 {α : Type} {a b c : α} : cutL [a, b, c] (some 1) none = [b, c] := rfl
end MM

namespace MM
open PySem L2 PyProof.Rows
section
variable {X : Cx} {E : En} {Γ : Gm} {M M' : Ow} {Ψ : Ed} {st : List Stmt} {σ : L2.St} {G H : Hp}
/-- an owned thing is forgotten -/
theorem wss_drop {p : Addr} {r : ORep} (rm : Rm M p r M') (h : WSs X E Γ M' st Ψ) : WSs X E Γ M st Ψ := fun σ G H a D k => h σ G H (a.drop rm) D k
theorem At.perm (a : At E Γ M σ G H) (hm : ∀ q ∈ M', q ∈ M) (nd : (M'.map (·.1)).Nodup) : At E Γ M' σ G H :=
  ⟨a.len, a.env, a.gh, fun q hq => a.own q (hm q hq), fun q hq => a.gn q (hm q hq), nd, a.g0, a.keep, a.nw, fun q hq => a.loc q (hm q hq), a.there⟩
/-- the first two change places -/
theorem wss_swap {x y : Addr × ORep} (h : WSs X E Γ (y :: x :: M) st Ψ) : WSs X E Γ (x :: y :: M) st Ψ := fun σ G H a D k =>
  h σ G H (a.perm (fun q hq => by
    rcases List.mem_cons.mp hq with e | hq
    · subst e; exact List.mem_cons_of_mem _ List.mem_cons_self
    · rcases List.mem_cons.mp hq with e | hq
      · subst e; exact List.mem_cons_self
      · exact List.mem_cons_of_mem _ (List.mem_cons_of_mem _ hq)) (by
    have n := a.nd
    simp only [List.map_cons, List.nodup_cons, List.mem_cons, not_or] at n ⊢
    exact ⟨⟨fun e => n.1.1 e.symm, n.2.1⟩, n.1.2, n.2.2⟩)) D k
end
/-- tuple + tuple, neither empty -/
theorem opv_add_t {K : PySem.W.Frag} {ρ ρ' : Rep} {ρs ρs' : List Rep} (h : (ρ :: ρs).length + (ρ' :: ρs').length ≤ 100000) : OpV (rAddU K) (RTt (ρ :: ρs)) (RTt (ρ' :: ρs')) (RTt ((ρ :: ρs) ++ (ρ' :: ρs'))) := fun x y G H s ⟨a, xs, e1, h1, r1⟩ ⟨b, ys, e2, h2, r2⟩ Q q => by
  subst e1 e2
  have hx : xs ≠ [] := fun z => by subst z; exact r1.elim
  have hy : ys ≠ [] := fun z => by subst z; exact r2.elim
  refine .inr (.inr (.inr ⟨a, b, xs, ys, rfl, rfl, .inl (.inl (s _ _ h1)), .inl (.inl (s _ _ h2)), hx, by rw [← r1.length, ← r2.length]; exact szOf h, fun z => absurd z hy, fun _ p hp => ?_⟩))
  have n : New G H (upd G p (.tup (xs ++ ys))) (upd H p (.tup (xs ++ ys))) := New.put s hp
  exact q _ _ _ n ⟨p, _, rfl, upd_same, (r1.app r2).mono n.gg⟩
end MM

namespace MM
open PySem L2 PyProof.Rows
def itx (i : Int) : Str := Str.ofString (toString i)
theorem lg_of {n : Nat} {i : Int} (h : Bd n i) (hn : n ≤ 1900) : i.natAbs.log2 < 1920 := Nat.lt_of_le_of_lt (Nat.le_of_lt_succ (Nat.lt_succ_of_lt (bd_log (h.mono (show n ≤ 1900 by omega)) (by decide)))) (by decide)
/-- an int constant in a list -/
theorem wa_int {X : Cx} {E : En} {Γ : Gm} {M : Ow} {i : Int} {j : Nat} {pos : Pos} {es : List Expr} {Φ : List Rep → Ow → Prop} (h : WA X E Γ M es fun ρs M2 => Φ (RI i :: ρs) M2) : WA X E Γ M (.Constant (.int i) j pos :: es) Φ := wa_cons (we_int h)
/-- two owned things in the other order, behind a value -/
theorem we_swapQ {X : Cx} {E : En} {Γ : Gm} {M : Ow} {e : Expr} {Φ : Rep → Ow → Prop} (h : WE X E Γ M e fun ρ M' => ∃ x y M2, M' = x :: y :: M2 ∧ Φ ρ (y :: x :: M2)) : WE X E Γ M e Φ := fun σ G H a Q q => h σ G H a Q fun ρ M' v G1 H1 hk s1 a1 r1 => by
  obtain ⟨x, y, M2, rfl, hk⟩ := hk
  exact q ρ _ v G1 H1 hk s1 (a1.perm (fun z hz => by
    rcases List.mem_cons.mp hz with u | hz
    · subst u; exact List.mem_cons_of_mem _ List.mem_cons_self
    · rcases List.mem_cons.mp hz with u | hz
      · subst u; exact List.mem_cons_self
      · exact List.mem_cons_of_mem _ (List.mem_cons_of_mem _ hz)) (by
    have n := a1.nd
    simp only [List.map_cons, List.nodup_cons, List.mem_cons, not_or] at n ⊢
    exact ⟨⟨fun u => n.1.1 u.symm, n.2.1⟩, n.1.2, n.2.2⟩)) r1
theorem itx_len {i : Int} (h : i.natAbs.log2 < 1920) : (itx i).length ≤ 1921 := int_text_len_1921 h
theorem dg_dec (n : Nat) : (Nat.toDigits 10 n).map Char.toNat = dg 10 n := by
  induction n using Nat.strongRecOn with
  | _ n ih =>
    by_cases h : n < 10
    · have s1 : ∀ d : Nat, d < 10 → (Nat.digitChar d).toNat = sgn d := by decide
      rw [Nat.toDigits_of_lt_base h, dg_lo h, List.map_cons, s1 n h]
      rfl
    · have s1 : ∀ d : Nat, d < 10 → (Nat.digitChar d).toNat = sgn d := by decide
      have hn : 10 ≤ n := by omega
      rw [Nat.toDigits_of_base_le (by decide) hn, dg_hi (by decide) hn, List.map_append, ih (n / 10) (by omega), List.map_cons, s1 (n % 10) (by omega)]
      rfl
theorem itx_nat (m : Nat) : (itx (m : Int)).cps.toList = dg 10 m := by
  show (Str.ofString (toString (m : Int))).cps.toList = _
  rw [signs_ofString]
  show (Nat.repr m).toList.map Char.toNat = _
  rw [Nat.toList_repr, dg_dec]
theorem itx_inj {a b : Nat} (h : itx (a : Int) = itx (b : Int)) : a = b := dg_inj (by rw [← itx_nat, ← itx_nat, h])
/-- the names of a law's wheel -/
def nmL (n : Nat) : List Str := (List.range n).map fun i : Nat => itx (i : Int)
theorem nmL_len {n : Nat} : (nmL n).length = n := by
  unfold nmL
  rw [List.length_map, List.length_range]
theorem nmL_at {n i : Nat} (h : i < n) : (nmL n)[i]? = some (itx (i : Int)) := by
  unfold nmL
  rw [List.getElem?_map, List.getElem?_range h]
  rfl
theorem nmL_ok {n : Nat} {f : Int} (h1 : 1 ≤ n) (h2 : n ≤ 60) (z : Bd 70 f) : WhOk ⟨nmL n, f⟩ where
  ne := fun e => by
    have := congrArg List.length e
    rw [nmL_len] at this
    simp at this
    omega
  nd := by
    show (nmL n).Nodup
    unfold nmL
    exact List.Pairwise.map _ (fun a b h e => h (itx_inj e)) List.nodup_range
  le := by
    show (nmL n).length ≤ 1000
    rw [nmL_len]
    omega
  ok := fun s hs => by
    have hs : s ∈ nmL n := hs
    unfold nmL at hs
    obtain ⟨i, _, rfl⟩ := List.mem_map.mp hs
    exact strOk_of
  z := z
theorem mk_WheelN {E : En} {CW : Addr} {ρ1 ρ2 : Rep} {M : Ow} {Φ : Rep → Ow → Prop} {v : Wh} (h1 : Sub ρ1 (RLt (v.names.map RS))) (h2 : Sub ρ2 (RI v.first)) (hw : WhOk v) (k : Φ (RWh CW v) M) : MakeN E CW (con_Wheel_init CW) (gvP [0, 1, 2]) [ρ1] [ρ2] M Φ := fun p _ _ =>
  ck_Wheel (Φ := Φ) h1 h2 hw k
theorem isN_ex {C : Addr} {l : List (Str × Rep)} : ∀ v G, (RExc C l).p v G → decide (v = V.non) = false := fun v G ⟨a, d, fs, e, _⟩ => by
  subst e
  rfl
/-! ### wheels and the days told of them -/
def pls (ws : List Wh) (rs : List Int) : List (Wh × Nat) := (ws.zip rs).map fun x => (x.1, ((x.2 - x.1.first) % (x.1.names.length : Int)).toNat)
def wns (ws : List Wh) (rs : List Int) : List Str := (ws.zip rs).map fun x => x.1.on x.2
theorem pls_ws {ws : List Wh} {rs : List Int} (h : rs.length = ws.length) : (pls ws rs).map (·.1) = ws := by
  unfold pls
  rw [List.map_map]
  exact List.map_fst_zip (by omega)
theorem pls_wnt {ws : List Wh} {rs : List Int} : (pls ws rs).map wnt = (wns ws rs).map RS := by
  unfold pls wns
  rw [List.map_map, List.map_map]
  rfl
theorem pls_lt {ws : List Wh} {rs : List Int} (hw : WsOk ws) : ∀ x ∈ pls ws rs, x.2 < x.1.names.length := fun x hx => by
  obtain ⟨y, hy, rfl⟩ := List.mem_map.mp hx
  exact (y.1.on_mem (hw.ok y.1 (List.of_mem_zip hy).1) y.2).2.2
theorem zip_at {ws : List Wh} {rs : List Int} (h : rs.length = ws.length) {i : Nat} (hi : i < ws.length) : (ws.zip rs)[i]? = some (ws[i], rs.getD i 0) := by
  rw [List.getElem?_zip_eq_some]
  refine ⟨List.getElem?_eq_getElem hi, ?_⟩
  rw [List.getD_eq_getElem?_getD, List.getElem?_eq_getElem (by omega)]
  rfl
theorem pls_same {ws : List Wh} {rs : List Int} (hw : WsOk ws) (h : rs.length = ws.length) : ∀ i, i < (szs ws).length → (((szs ws).getD i 0 : Nat) : Int) ∣ (rsts (pls ws rs)).getD i 0 - rs.getD i 0 := fun i hi => by
  rw [szs_len] at hi
  rw [szs_at (List.getElem?_eq_getElem hi)]
  have e : (pls ws rs)[i]? = some (ws[i], ((rs.getD i 0 - ws[i].first) % (ws[i].names.length : Int)).toNat) := by
    unfold pls
    rw [List.getElem?_map, zip_at h hi]
    rfl
  rw [rsts_at e]
  have p := (hw.ok _ (List.getElem_mem hi)).pos
  have a := Int.emod_nonneg (rs.getD i 0 - ws[i].first) (show ((ws[i].names.length : Nat) : Int) ≠ 0 by omega)
  show ((ws[i].names.length : Nat) : Int) ∣ ws[i].first + (((rs.getD i 0 - ws[i].first) % (ws[i].names.length : Int)).toNat : Int) - rs.getD i 0
  rw [Int.toNat_of_nonneg a]
  have d := Int.mul_ediv_add_emod (rs.getD i 0 - ws[i].first) (ws[i].names.length : Int)
  refine ⟨-((rs.getD i 0 - ws[i].first) / (ws[i].names.length : Int)), ?_⟩
  rw [Int.mul_neg]
  omega
theorem has_same {ws : List Wh} {rs : List Int} (hw : WsOk ws) (h : rs.length = ws.length) {t : Int} (a : Has (szs ws) (rsts (pls ws rs)) (szs ws).length t) : Has (szs ws) rs (szs ws).length t := fun i hi => by
  have x := a i hi
  have y := pls_same hw h i hi
  have : t - rs.getD i 0 = (t - (rsts (pls ws rs)).getD i 0) + ((rsts (pls ws rs)).getD i 0 - rs.getD i 0) := by omega
  rw [this]
  exact Int.dvd_add x y
theorem has_met {ws : List Wh} {rs : List Int} (hw : WsOk ws) (h : rs.length = ws.length) {t : Int} (a : Has (szs ws) rs (szs ws).length t) : ws.map (fun w => w.on t) = wns ws rs := by
  refine List.ext_getElem? fun i => ?_
  rcases Nat.lt_or_ge i ws.length with hi | hi
  · unfold wns
    rw [List.getElem?_map, List.getElem?_map, zip_at h hi, List.getElem?_eq_getElem hi]
    have x := a i (by rw [szs_len]; exact hi)
    rw [szs_at (List.getElem?_eq_getElem hi)] at x
    show some (ws[i].on t) = some (ws[i].on (rs.getD i 0))
    rw [(ws[i].on_same (hw.ok _ (List.getElem_mem hi)) t (rs.getD i 0)).mpr x]
  · unfold wns
    rw [List.getElem?_eq_none (by rw [List.length_map]; exact hi), List.getElem?_eq_none (by rw [List.length_map, List.length_zip]; omega)]
theorem wns_ok {ws : List Wh} {rs : List Int} (hw : WsOk ws) : ∀ s ∈ wns ws rs, PyData.strOk s = true := fun s hs => by
  obtain ⟨y, hy, rfl⟩ := List.mem_map.mp hs
  exact y.1.on_ok (hw.ok y.1 (List.of_mem_zip hy).1) y.2
theorem no_less {ws : List Wh} (hw : WsOk ws) {b : Int} (h2 : 2 ≤ b) (dv : b ∣ ((lcmL (szs ws) : Nat) : Int)) : roundB ws (((lcmL (szs ws) : Nat) : Int) / b) = false := by
  rw [Bool.eq_false_iff]
  intro h
  have d := roundB_iff.mp h
  have p : 0 < lcmL (szs ws) := lcmL_pos (szs_pos hw)
  obtain ⟨c, hc⟩ := dv
  have cp : 0 < c := by
    rcases Int.lt_or_le 0 c with q | q
    · exact q
    · have : b * c ≤ 0 := Int.mul_nonpos_of_nonneg_of_nonpos (by omega) q
      omega
  have e : ((lcmL (szs ws) : Nat) : Int) / b = c := by
    rw [hc]
    exact Int.mul_ediv_cancel_left c (by omega)
  rw [e] at d
  have le := Int.le_of_dvd cp d
  have : 2 * c ≤ b * c := Int.mul_le_mul_of_nonneg_right h2 (by omega)
  omega
theorem roundB_self {ws : List Wh} : roundB ws (lcmL (szs ws) : Nat) = true := roundB_iff.mpr (Int.dvd_refl _)
theorem Has.plus {s : List Nat} {r : List Int} {t : Int} (h : Has s r s.length t) (c : Int) : Has s r s.length (t + c * (lcmL s : Nat)) := by
  have := h.step (Nat.le_refl _) c
  rwa [List.take_length] at this
def con_L_rt : Con := { I := Addr, B := Unit, pre := fun _ => True, args := fun p => [RRef p], own := fun p => [(p, ODr 0)], post := fun _ _ => True, res := fun _ _ => RB true, own' := fun _ _ => [] }
theorem ck_L_rt {ρ : Rep} {M M1 : Ow} {Φ : Rep → Ow → Prop} {p : Addr} (h : Sub ρ (RRef p)) (rm : Rm M p (ODr 0) M1) (k : Φ (RB true) M1) : CallK con_L_rt [ρ] M Φ :=
  ⟨p, M1, trivial, .cons h .nil, .cons rm OSub.rfl .nil, fun _ _ => k⟩
theorem ck_meetL {CW CD : Addr} {ρ1 ρ2 ρ3 : Rep} {Γ : Gm} {M : Ow} {Φ : Rep → Ow → Prop} {Ξ : Addr → List (Str × Rep) → Gm → Ow → Prop} {ws : List Wh} {rs : List Int} {after : Int} (hl : rs.length = ws.length) (hw : WsOk ws) (h1 : Sub ρ1 (RLt (ws.map (RWh CW)))) (h2 : Sub ρ2 (RLt ((wns ws rs).map RS))) (h3 : Sub ρ3 (RI after))
    (k : ∀ t, AllOk (szs ws) rs → Has (szs ws) rs (szs ws).length t → after ≤ t → t < after + (lcmL (szs ws) : Nat) → Φ (RI t) M) (kx : ∀ i j, FirstBad (szs ws) rs i j → Ξ CD (dyD i j) Γ M) : CallX (con_meet CW CD) [ρ1, ρ2, ρ3] Γ M Φ Ξ := by
  have e := pls_ws hl
  refine ck_meet (l := pls ws rs) (after := after) (by rw [e]; exact h1) (by rw [pls_wnt]; exact h2) h3 (by rw [e]; exact hw) (pls_lt hw) ?_ ?_
  · rw [e]
    exact fun t a b c d => k t (a.same (pls_same hw hl)) (has_same hw hl b) c d
  · rw [e]
    exact fun i j a => kx i j (a.same (pls_same hw hl))
theorem look_dy1 {i j : Nat} : (dyD i j).lookup ("one" : Str) = some (RI (i : Int)) := by
  have : (("one" : Str) == ("two" : Str)) = false := by decide +kernel
  simp [dyD, dyF, List.lookup, this]
theorem look_dy2 {i j : Nat} : (dyD i j).lookup ("two" : Str) = some (RI (j : Int)) := by simp [dyD, dyF, List.lookup]
/-- what is known of the class NoDay -/
structure NdK (K : PySem.W.Frag) (mg : Str → Option Value) (CD : Addr) : Prop where
  me : mg "NoDay" = some (.ref CD)
  ex : PySem.W.exmOne K (.ref CD) (.ref CD) = some true
  ec : ExcC K CD
  n1 : PySem.W.findIn K (.ref CD) "one" = some none
  n2 : PySem.W.findIn K (.ref CD) "two" = some none
end MM

namespace MM
open PySem L2 PyProof.Rows
section
variable {P : Program} {w : World} {K : PySem.W.Frag} {mg : Str → Option Value} {base : Heap} {CW CD : Addr} {f p : Addr} {cd : Value} {A : Around} {outer : List Env} {s : Shared} {H G : Hp} {EE : XK} {m : Nat} {ws : List Wh} {rs : List Int} {af d : Int} {z : Option (Nat × Nat)} {o2 o3 o4 x10 x11 o12 o14 o15 o16 o17 o18 o19 : Option Rep}
theorem ret_L_right (hr : Room 3 (A.deeper (PyProof.Rows.envOfC "_law_right" (defScope s_f_L_right) s.heap.objs.size f cd))) (Mt : Kn P w K mg base 2 "_law_met" [] (con_L_met CW)) (Kx : NdK K mg CD) (hw : WsOk ws) (rl : rs.length = ws.length) (hz : NvOk ws rs z) (told : ((∃ t, AllOk (szs ws) rs ∧ Has (szs ws) rs (szs ws).length t ∧ af ≤ t ∧ t < af + (lcmL (szs ws) : Nat) ∧ x10 = some (RI t) ∧ x11 = some RN) ∨ ∃ i j, FirstBad (szs ws) rs i j ∧ x11 = some (RExc CD (dyD i j)))) :
    WSs (X_f_L_right P w K mg base f cd A outer s H EE) ⟨G, H, (con_L_rt.own p).map (·.1)⟩ [some (RRef p), some (RLt (ws.map (RWh CW))), o2, o3, o4, some (RI d), some (RLt (rs.map RI)), some (RLt ((wns ws rs).map RS)), some (RI af), some (RLt ((nvL z).map RI)), x10, x11, o12, some (RI ((lcmL (szs ws) : Nat) : Int)), o14, o15, o16, o17, o18, o19] [(p, ODr m)] ((defBody s_f_L_right).drop 15) (EdOf con_L_rt p) := by
  have hr2 := hr.mono (show 2 ≤ 3 by decide)
  refine wss_cons (ws_if (wt_cmp (op_neD hr.units) (nomark _) (we_var 9 r9_f_L_right rfl (we_lst (wa_nil ⟨by show 0 ≤ 100000; decide, opw_of (opv_ne (isD_ints (ns := nvL z)) (isD_ints (ns := [])) shaped_ints shaped_ints) ⟨_, Sub.rfl, fun hk => ?yes, fun hk => wss_nil ?no⟩⟩)))))
  case yes =>
    cases z with
    | none =>
      have hk : (!PyData.eqv (.list (([] : List Int).map PyData.int)) (.list (([] : List Int).map PyData.int))) = true := hk
      rw [eqv_ints] at hk
      cases hk
    | some y =>
      obtain ⟨i, j⟩ := y
      have fb : FirstBad (szs ws) rs i j := hz
      obtain ⟨i', j', fb', e11⟩ : ∃ i' j', FirstBad (szs ws) rs i' j' ∧ x11 = some (RExc CD (dyD i' j')) := by
        rcases told with ⟨t, a, _⟩ | h
        · exact absurd a fb.not
        · exact h
      obtain ⟨rfl, rfl⟩ := fb'.uniq fb
      subst e11
      refine wss_one (ws_ret (we_and (we_cmp op_notN (nomark _) (we_var 11 r11_f_L_right rfl (we_non (opw_of (opv_notN isN_ex) ⟨true, Sub.rfl, fun _ => ?_, fun hk => (by cases hk)⟩))))))
      refine we_and1 (we_cmp (op_eqD hr.units) (nomark _) (we_lst (wa_cons (we_xf (we_var 11 r11_f_L_right rfl ⟨_, dyD i' j', RI (i' : Int), Sub.rfl, Kx.ec, Kx.n1, look_dy1, ?two⟩)))))
      case two =>
        refine wa_cons (we_xf (we_var 11 r11_f_L_right rfl ⟨_, dyD i' j', RI (j' : Int), Sub.rfl, Kx.ec, Kx.n2, look_dy2, wa_nil ⟨by show 2 ≤ 100000; decide, we_var 9 r9_f_L_right rfl (opw_of (opv_eq (isD_ints (ns := [(i' : Int), (j' : Int)])) (isD_ints (ns := nvL (some (i', j')))) shaped_ints shaped_ints) ?_)⟩⟩))
        rw [show nvL (some (i', j')) = [(i' : Int), (j' : Int)] from rfl, eqv_ints]
        exact ⟨(), _, trivial, Sub.rfl, .nil⟩
  case no =>
    cases z with
    | some y =>
      have hk : (!PyData.eqv (.list [.int (y.1 : Int), .int (y.2 : Int)]) (.list [])) = false := hk
      simp [PyData.eqv, PyData.eqvAll] at hk
    | none =>
      have ok : AllOk (szs ws) rs := hz
      obtain ⟨t, hs, t1, t2, e10, e11⟩ : ∃ t, Has (szs ws) rs (szs ws).length t ∧ af ≤ t ∧ t < af + (lcmL (szs ws) : Nat) ∧ x10 = some (RI t) ∧ x11 = some RN := by
        rcases told with ⟨t, _, b⟩ | ⟨i, j, h, _⟩
        · exact ⟨t, b⟩
        · exact absurd ok h.not
      subst e10
      subst e11
      refine wss_cons (ws_if (wt_bool (wp_or (wt_cmp op_notN (nomark _) (we_var 11 r11_f_L_right rfl (we_non (opw_of (opv_notN isN_n) ⟨false, Sub.rfl, fun _ => ?o2, fun hk => (by cases hk)⟩)))))))
      case o2 =>
        refine wp_or (wt_cmp op_lt (nomark _) (we_var 10 r10_f_L_right rfl (we_var 8 r8_f_L_right rfl (opw_of opv_lt_i ⟨_, Sub.rfl, fun _ => ?o3, fun hk => ?b2⟩))))
        case b2 =>
          have := of_decide_eq_true hk
          omega
        case o3 =>
          refine wp_or (wt_cmp op_ge (nomark _) (we_var 10 r10_f_L_right rfl (we_bin op_addU (we_var 8 r8_f_L_right rfl (we_var 13 r13_f_L_right rfl (opw_of opv_add_i (opw_of opv_ge_i ⟨_, Sub.rfl, fun _ => ?o4, fun hk => ?b3⟩)))))))
          case b3 =>
            have := of_decide_eq_true hk
            omega
          case o4 =>
            refine wp_or1 (wt_not (wt_val (we_call Mt hr2 g__law_met_f_L_right pass0 (wa_cons (we_var 1 r1_f_L_right rfl (wa_cons (we_var 7 r7_f_L_right rfl (wa_cons (we_var 10 r10_f_L_right rfl (wa_nil (ck_L_met Sub.rfl Sub.rfl Sub.rfl hw (wns_ok hw) ?_)))))))))))
            rw [decide_eq_true (has_met hw rl hs)]
            refine ⟨true, Sub.rfl, fun hk => (by cases hk), fun _ => wss_nil ?_⟩
            refine wss_cons (ws_if (wt_cmp op_ge (nomark _) (we_var 13 r13_f_L_right rfl (we_bin op_pow (we_int (we_int (opw_of (opv_powL (v := 10000000000000000000) (by decide) (by decide) (by decide) (by decide)) (opw_of opv_ge_i ⟨_, Sub.rfl, fun _ => ?great, fun _ => wss_nil ?fin⟩))))))))
            case great => exact wss_one (ws_ret (we_bl ⟨(), _, trivial, Sub.rfl, .nil⟩))
            case fin =>
              refine wss_one (ws_ret (we_and (we_call Mt hr2 g__law_met_f_L_right pass0 (wa_cons (we_var 1 r1_f_L_right rfl (wa_cons (we_var 7 r7_f_L_right rfl (wa_cons (we_bin op_addU (we_var 10 r10_f_L_right rfl (we_var 13 r13_f_L_right rfl (opw_of opv_add_i (wa_nil (ck_L_met Sub.rfl Sub.rfl Sub.rfl hw (wns_ok hw) ?_))))))))))))))
              have h1 := Has.plus hs 1
              rw [Int.one_mul] at h1
              rw [decide_eq_true (has_met hw rl h1)]
              refine ⟨true, Sub.rfl, fun _ => ?_, fun hk => (by cases hk)⟩
              refine we_and1 (we_call Mt hr2 g__law_met_f_L_right pass0 (wa_cons (we_var 1 r1_f_L_right rfl (wa_cons (we_var 7 r7_f_L_right rfl (wa_cons (we_bin op_sub (we_var 10 r10_f_L_right rfl (we_var 13 r13_f_L_right rfl (opw_of opv_sub_i (wa_nil (ck_L_met Sub.rfl Sub.rfl Sub.rfl hw (wns_ok hw) ?_)))))))))))) 
              have h2 := Has.plus hs (-1)
              rw [show t + -1 * ((lcmL (szs ws) : Nat) : Int) = t - ((lcmL (szs ws) : Nat) : Int) by omega] at h2
              rw [decide_eq_true (has_met hw rl h2)]
              exact ⟨(), _, trivial, Sub.rfl, .nil⟩
end
end MM

namespace MM
open PySem L2 PyProof.Rows
section
variable {P : Program} {w : World} {K : PySem.W.Frag} {mg : Str → Option Value} {base : Heap} {CW CD : Addr} {f p : Addr} {cd : Value} {A : Around} {outer : List Env} {s : Shared} {H G : Hp} {EE : XK} {m : Nat} {ws : List Wh} {rs : List Int} {af d : Int} {z : Option (Nat × Nat)} {o2 o3 o4 x10 x11 o12 o14 o15 o16 o17 o18 o19 : Option Rep}
theorem few_L_right (B : BltW mg) (hr : Room 3 (A.deeper (PyProof.Rows.envOfC "_law_right" (defScope s_f_L_right) s.heap.objs.size f cd))) (hE : ∀ a ∈ (con_L_rt.own p).map (·.1), H a ≠ none) (Ag : Kn P w K mg base 3 "_law_again" [] (con_L_again CW)) (Mt : Kn P w K mg base 2 "_law_met" [] (con_L_met CW)) (Kx : NdK K mg CD) (hw : WsOk ws) (rl : rs.length = ws.length) (hz : NvOk ws rs z) (told : ((∃ t, AllOk (szs ws) rs ∧ Has (szs ws) rs (szs ws).length t ∧ af ≤ t ∧ t < af + (lcmL (szs ws) : Nat) ∧ x10 = some (RI t) ∧ x11 = some RN) ∨ ∃ i j, FirstBad (szs ws) rs i j ∧ x11 = some (RExc CD (dyD i j)))) :
    WSs (X_f_L_right P w K mg base f cd A outer s H EE) ⟨G, H, (con_L_rt.own p).map (·.1)⟩ [some (RRef p), some (RLt (ws.map (RWh CW))), o2, o3, o4, some (RI d), some (RLt (rs.map RI)), some (RLt ((wns ws rs).map RS)), some (RI af), some (RLt ((nvL z).map RI)), x10, x11, o12, some (RI ((lcmL (szs ws) : Nat) : Int)), some (RLt [RI 2, RI 3, RI 5, RI 7, RI 11, RI 13, RI 17, RI 19, RI 23, RI 29, RI 31, RI 37, RI 41, RI 43, RI 47, RI 53, RI 59]), o15, o16, o17, o18, o19] [(p, ODr m)] ((defBody s_f_L_right).drop 13) (EdOf con_L_rt p) := by
  refine wss_cons (ws_setLcT (t := gName 18) (own := [("_law_by", 18)]) 15 rfl sc_f_L_right.nd rfl rfl ?hswF (pi_list pe_w) (blkOk_by ?okF) ?hgF hE ?srcF)
  case hswF => rfl
  case okF =>
    show blkC N_f_L_right (defScope s_f_L_right) _ _ = true
    decide +kernel
  case hgF =>
    intro s H C cl fp
    exact pg_name sc_f_L_right.nd rfl (.inl rfl)
  case srcF =>
    refine src_list (we_var 14 r14_f_L_right rfl ⟨_, sub_lt, fun i o M => M = [(p, ODr m)] ∧ o = [], ⟨rfl, rfl⟩, ?turnF, ?doneF⟩)
    case turnF =>
      rintro i ρ o M1 D4 hi hρ ⟨rfl, rfl⟩
      have al : AllI (fun n => 2 ≤ n ∧ n ≤ 59) [RI 2, RI 3, RI 5, RI 7, RI 11, RI 13, RI 17, RI 19, RI 23, RI 29, RI 31, RI 37, RI 41, RI 43, RI 47, RI 53, RI 59] := .cons (by decide) (.cons (by decide) (.cons (by decide) (.cons (by decide) (.cons (by decide) (.cons (by decide) (.cons (by decide) (.cons (by decide) (.cons (by decide) (.cons (by decide) (.cons (by decide) (.cons (by decide) (.cons (by decide) (.cons (by decide) (.cons (by decide) (.cons (by decide) (.cons (by decide) (.nil)))))))))))))))))
      obtain ⟨b, rfl, b2⟩ := al.mem ρ (List.mem_of_getElem? hρ)
      obtain ⟨b2, b3⟩ := b2
      refine ⟨fun Γ => Γ.set 18 (some (RI b)), blkT_name 18 (by decide), fun s H0 C cl fp => ?_⟩
      refine wt_bool (wp_and (wt_cmp (op_eqD hr.units) (nomark _) (we_bin op_modN (we_var 13 ?r13F rfl (we_var 18 ?r18F rfl ?modF)))))
      case r13F => exact ⟨rfl, by first | exact .inl rfl | exact .inr (.inl rfl), by decide, by decide⟩
      case r18F => exact ⟨rfl, by first | exact .inl rfl | exact .inr (.inl rfl), by decide, by decide⟩
      case modF =>
        refine opw_of (opv_mod_i (by omega)) (we_int (opw_of (opv_eq isD_i isD_i shaped_i shaped_i) ⟨_, Sub.rfl, fun hk => ?dvF, fun _ => ⟨_, rfl, fun q => (by cases q), fun _ => ⟨rfl, rfl⟩⟩⟩))
        case dvF =>
          rw [eqv_ii] at hk
          have z0 : ((lcmL (szs ws) : Nat) : Int) % b = 0 := by simpa using hk
          refine wp_and1 (wt_val (we_call Ag hr ?gF pass0 (wa_cons (we_var 1 ?r1F rfl (wa_cons (we_bin op_fdivA (we_var 13 ?r13G rfl (we_var 18 ?r18G rfl ?divF)))))))) 
          case gF => rfl
          case r1F => exact ⟨rfl, by first | exact .inl rfl | exact .inr (.inl rfl), by decide, by decide⟩
          case r13G => exact ⟨rfl, by first | exact .inl rfl | exact .inr (.inl rfl), by decide, by decide⟩
          case r18G => exact ⟨rfl, by first | exact .inl rfl | exact .inr (.inl rfl), by decide, by decide⟩
          case divF =>
            refine opw_of (opv_div_i (by omega) ?lgF) (wa_nil (ck_L_again Sub.rfl Sub.rfl hw ?_))
            case lgF =>
                show b.natAbs.log2 < 9000
                have : b.natAbs < 60 := by omega
                exact Nat.lt_of_le_of_lt (Nat.log2_le_self _) (by omega)
            rw [no_less hw b2 (Int.dvd_of_emod_eq_zero z0)]
            exact ⟨false, Sub.rfl, _, rfl, fun q => (by cases q), fun _ => ⟨rfl, rfl⟩⟩
    case doneF =>
      rintro D4 o M1 hD4 hM4 ⟨rfl, rfl⟩
      refine wss_freeze 15 rfl .here hD4 ?_
      refine wss_cons (ws_if (wt_bool (wp_or (wt_not (wt_val (we_call Ag hr g__law_again_f_L_right pass0 (wa_cons (we_var 1 r1_f_L_right rfl (wa_cons (we_var 13 r13_f_L_right rfl (wa_nil (ck_L_again Sub.rfl Sub.rfl hw ?_))))))))))))
      rw [roundB_self]
      refine ⟨true, Sub.rfl, fun _ => ?_, fun hk => (by cases hk)⟩
      refine wp_or1 (wt_cmp (op_neD hr.units) (nomark _) (we_var 15 r15_f_L_right rfl (we_lst (wa_nil ⟨by show 0 ≤ 100000; decide, ?_⟩))))
      refine opw_of (opv_ne (isD_ints (ns := [])) (isD_ints (ns := [])) shaped_ints shaped_ints) ⟨_, Sub.rfl, fun hk => ?badF, fun _ => wss_nil ?ret⟩
      case badF =>
        have hk : (!PyData.eqv (.list (([] : List Int).map PyData.int)) (.list (([] : List Int).map PyData.int))) = true := hk
        rw [eqv_ints] at hk
        cases hk
      case ret => exact ret_L_right hr Mt Kx hw rl hz told
end
end MM

namespace MM
open PySem L2 PyProof.Rows
section
variable {P : Program} {w : World} {K : PySem.W.Frag} {mg : Str → Option Value} {base : Heap} {CW CD : Addr} {f p : Addr} {cd : Value} {A : Around} {outer : List Env} {s : Shared} {H G : Hp} {EE : XK} {m : Nat} {ws : List Wh} {rs : List Int} {af d : Int} {z : Option (Nat × Nat)} {o2 o3 o4 x10 x11 o12 o14 o15 o16 o17 o18 o19 : Option Rep}
theorem pri_L_right (B : BltW mg) (hr : Room 3 (A.deeper (PyProof.Rows.envOfC "_law_right" (defScope s_f_L_right) s.heap.objs.size f cd))) (hE : ∀ a ∈ (con_L_rt.own p).map (·.1), H a ≠ none) (Ag : Kn P w K mg base 3 "_law_again" [] (con_L_again CW)) (Mt : Kn P w K mg base 2 "_law_met" [] (con_L_met CW)) (Kx : NdK K mg CD) (hw : WsOk ws) (rl : rs.length = ws.length) (hz : NvOk ws rs z) (told : ((∃ t, AllOk (szs ws) rs ∧ Has (szs ws) rs (szs ws).length t ∧ af ≤ t ∧ t < af + (lcmL (szs ws) : Nat) ∧ x10 = some (RI t) ∧ x11 = some RN) ∨ ∃ i j, FirstBad (szs ws) rs i j ∧ x11 = some (RExc CD (dyD i j)))) :
    WSs (X_f_L_right P w K mg base f cd A outer s H EE) ⟨G, H, (con_L_rt.own p).map (·.1)⟩ [some (RRef p), some (RLt (ws.map (RWh CW))), o2, o3, o4, some (RI d), some (RLt (rs.map RI)), some (RLt ((wns ws rs).map RS)), some (RI af), some (RLt ((nvL z).map RI)), x10, x11, o12, some (RI ((lcmL (szs ws) : Nat) : Int)), o14, o15, o16, o17, o18, o19] [(p, ODr m)] ((defBody s_f_L_right).drop 12) (EdOf con_L_rt p) := by
  refine wss_cons ?_
  refine ws_set 14 ?w ?a ?b
  case w => exact w14_f_L_right
  case b => rfl
  refine we_lst ?_
  refine wa_int ?_
  refine wa_int ?_
  refine wa_int ?_
  refine wa_int ?_
  refine wa_int ?_
  refine wa_int ?_
  refine wa_int ?_
  refine wa_int ?_
  refine wa_int ?_
  refine wa_int ?_
  refine wa_int ?_
  refine wa_int ?_
  refine wa_int ?_
  refine wa_int ?_
  refine wa_int ?_
  refine wa_int ?_
  refine wa_int ?_
  exact wa_nil ⟨by show 17 ≤ 100000; decide, few_L_right B hr hE Ag Mt Kx hw rl hz told⟩
end
end MM

namespace MM
open PySem L2 PyProof.Rows
section
variable {P : Program} {w : World} {K : PySem.W.Frag} {mg : Str → Option Value} {base : Heap} {CW CD : Addr}
theorem ok_L_right {f : Addr} {fd : FuncData} (F : FdD K "_law_right" "_law_right" s_f_L_right [] f fd) (B : BltW mg) (L : LawB P w K mg base) (Fa : Kn P w K mg base 2 "_law_far" [] con_L_far) (Dy : Kn P w K mg base 2 "_law_day" [] con_L_day) (Ne : Kn P w K mg base 3 "_law_never" [] (con_L_never CW)) (Me : KnRK P w K mg base 3 "meet" 2 ["after"] (gvP [0, 1, 2]) (con_meet CW CD)) (Ro : Kn P w K mg base 2 "meet_round" [] (con_round CW)) (Mt : Kn P w K mg base 2 "_law_met" [] (con_L_met CW)) (Ag : Kn P w K mg base 3 "_law_again" [] (con_L_again CW)) (On : KnM P w K mg base 1 CW "name_on" [] (con_on CW)) (Wc : KnCK P w K mg base 1 "Wheel" CW 1 ["first"] (gvP [0, 1, 2]) (con_Wheel_init CW)) (Kx : NdK K mg CD) : FnOk P w K mg base CX0 4 f fd (N_f_L_right.take 1) (conSp con_L_rt) := by
  refine fn_conD con_L_rt F sc_f_L_right (fun _ => rfl) fun cd A outer s H EE G (p : Addr) hp hr hE => ?_
  have hr1 := hr.mono (show 1 ≤ 3 by decide)
  have hr2 := hr.mono (show 2 ≤ 3 by decide)
  let GG : Option Rep → Option Rep → Option Rep → Option Rep → Gm := fun o1 o2 o3 o4 => [some (RRef p), o1, o2, o3, o4, none, none, none, none, none, none, none, none, none, none, none, none, none, none, none]
  have nx : ∀ {M1 : Ow} {Φ : Rep → Ow → Prop} {m : Nat} {ρ : Rep}, Sub ρ (RRef p) → m ≤ 1000000000 → (∀ x, Dr x → Φ (RI x) ((p, ODr (m + 1)) :: M1)) → CallK con_L_next [ρ] ((p, ODr m) :: M1) Φ := fun sb h k => ck_L_next sb .here h k
  refine wss_cons (ws_set 1 w1_f_L_right (we_lstO (wa_nil ⟨by show 0 ≤ 100000; decide, fun l hl hlE => ?_⟩) hE))
  refine wss_swap ?_
  refine wss_cut (fun Γ M => ∃ (ws : List Wh) (m : Nat) (o2 o3 o4 : Option Rep), WsOk ws ∧ m ≤ 1000 ∧ Γ = GG (some (RRef l)) o2 o3 o4 ∧ M = (p, ODr m) :: (l, OL (ws.map (RWh CW))) :: []) ?wheels ?after
  case wheels =>
    refine ws_for_range1 PassesOwn.never rfl g_range_f_L_right B.rng (wa_cons (we_bin op_addU (we_int (we_bin op_modN (we_call L.next hr1 g__law_next_f_L_right pass0 (wa_cons ?fst))))))
    refine we_var 0 r0_f_L_right rfl (wa_nil (nx Sub.rfl (by decide) fun x hx => ?_))
    refine we_ix ix_seq (we_lst (wa_cons (we_int (wa_cons (we_int (wa_cons (we_int (wa_cons (we_int (wa_nil ⟨by show 4 ≤ 100000; decide, ?_⟩)))))))))) 
    refine we_bin op_modN (we_call L.next hr1 g__law_next_f_L_right pass0 (wa_cons (we_var 0 r0_f_L_right rfl (wa_nil (nx Sub.rfl (by decide) fun y hy => we_int (opw_of (opv_mod_i (by decide)) ?_))))))
    refine opw_pickI (fun b => 0 < b ∧ b ≤ 60) (by omega) (by show y % 4 < 4; omega) (.cons (by omega) (.cons (by omega) (.cons (by omega) (.cons (by omega) .nil)))) fun b hb => ?_
    obtain ⟨b0, b1⟩ := hb
    have r0 := Int.emod_nonneg x (show b ≠ 0 by omega)
    have r1 := Int.emod_lt_of_pos x b0
    refine opw_of (opv_mod_i b0) (opw_of opv_add_i (wa_nil ⟨1 + x % b, .cons Sub.rfl .nil, ⟨by omega, by omega⟩, ?loop⟩))
    refine ⟨fun i Γ M => ∃ (ws : List Wh) (m : Nat) (o2 o3 o4 : Option Rep), ws.length = i ∧ (∀ v ∈ ws, WhOk v) ∧ m ≤ 10 + 2 * i ∧ Γ = GG (some (RRef l)) o2 o3 o4 ∧ M = (p, ODr m) :: (l, OL (ws.map (RWh CW))) :: [], ⟨[], _, none, none, none, rfl, fun _ h => (by cases h), by decide, rfl, rfl⟩, ?turn, ?done⟩
    case done =>
      rintro Γ M ⟨ws, m, o2, o3, o4, hws, okw, hm, rfl, rfl⟩
      exact ⟨ws, m, o2, o3, o4, ⟨okw, by omega⟩, by omega, rfl, rfl⟩
    case turn =>
      rintro i ρ Γ M hi rfl ⟨ws, m, o2, o3, o4, hws, okw, hm, rfl, rfl⟩
      have hi60 : i < 60 := by omega
      refine wg_name 2 w2_f_L_right ?_
      refine wss_cons (ws_set 3 w3_f_L_right (we_call L.next hr1 g__law_next_f_L_right pass0 (wa_cons (we_var 0 r0_f_L_right rfl (wa_nil (nx Sub.rfl (by omega) fun y hy => ?_))))))
      obtain ⟨y0, y1⟩ := hy
      refine wss_cons (ws_set 4 w4_f_L_right (we_ix ix_seq (we_lst (wa_cons (we_bin op_addU (we_int (we_bin op_modN (we_bin op_fdivA (we_var 3 r3_f_L_right rfl ?lst)))))))))
      refine we_int (opw_of (opv_div_i (by decide) (by decide)) (we_int (opw_of (opv_mod_i (by decide)) (opw_of opv_add_i (wa_cons (we_int ?_))))))
      refine wa_cons (we_bin op_sub (we_int (we_bin op_modN (we_bin op_fdivA (we_var 3 r3_f_L_right rfl (we_int (opw_of (opv_div_i (by decide) (by decide)) (we_int (opw_of (opv_mod_i (by decide)) (opw_of opv_sub_i ?_))))))))))
      refine wa_cons (we_int (wa_nil ⟨by show 4 ≤ 100000; decide, we_bin op_modN (we_var 3 r3_f_L_right rfl (we_int (opw_of (opv_mod_i (by decide)) ?_)))⟩))
      refine opw_pickI (fun n => 1 ≤ n ∧ n ≤ 60) (by omega) (by show y % 4 < 4; omega) (.cons (by omega) (.cons (by omega) (.cons (by omega) (.cons (by omega) .nil)))) fun z hz => ?_
      obtain ⟨z0, z1⟩ := hz
      obtain ⟨n, rfl⟩ := Int.eq_ofNat_of_zero_le (show 0 ≤ z by omega)
      refine wss_one (ws_expr (we_bm PySem.F.plainAttrs_list PySem.F.slot_list_append PySem.F.type_list_append mt_append (we_var 1 r1_f_L_right rfl ⟨tyw_listO Sub.rfl (.there .here), ?app⟩)))
      refine wa_cons (we_makeN Wc (gr_P _) hr2 g_Wheel_f_L_right pass0 hE (wa_cons (we_freeze (we_lc (t := gName 19) (own := [("_law_place", 19)]) rfl sc_f_L_right.nd (pi_range1 g_range_f_L_right B.rng pa_w) (blkOk_by ?ok) ?hg hE ?src))))
      case ok =>
        show blkC N_f_L_right (defScope s_f_L_right) _ _ = true
        decide +kernel
      case hg =>
        intro s H C cl fp
        exact pg_name sc_f_L_right.nd rfl (.inl rfl)
      case src =>
        refine src_range1 (wa_cons (we_var 4 r4_f_L_right rfl (wa_nil ⟨(n : Int), .cons Sub.rfl .nil, ⟨by omega, by omega⟩, ?lc⟩)))
        rw [Int.toNat_natCast]
        refine ⟨fun i o M' => M' = (p, ODr (m + 1)) :: (l, OL (ws.map (RWh CW))) :: [] ∧ o = ((nmL n).take i).map RS, ⟨rfl, rfl⟩, ?turnL, ?doneL⟩
        case turnL =>
          rintro i ρ o M1 D hi rfl ⟨rfl, rfl⟩
          refine ⟨fun Γ => Γ.set 19 (some (RI (i : Int))), blkT_name 19 (by decide), fun s H0 C cl fp => ?_⟩
          refine we_strI ?g1 B.str (we_var 19 ?r19 rfl ⟨_, Sub.rfl, ?lg, _, RS (itx (i : Int)), rfl, Sub.rfl, ?len, rfl, ?tk⟩)
          case g1 => rfl
          case r19 => exact ⟨rfl, by first | exact .inl rfl | exact .inr (.inl rfl), by decide, by decide⟩
          case lg =>
            have zi : Bd 62 (i : Int) := by
              show ((i : Int)).natAbs < 2 ^ 62
              omega
            exact lg_of zi (by decide)
          case len =>
            rw [List.length_map, List.length_take]
            omega
          case tk =>
            rw [List.take_add_one, nmL_at hi, List.map_append]
            rfl
        case doneL =>
          rintro D o M1 hD hM ⟨rfl, rfl⟩
          rw [List.take_of_length_le (by rw [nmL_len]; exact Nat.le_refl _)]
          refine ⟨D, _, _, Sub.rfl, .here, hD, wa_nil ⟨rfl, wk_cons (we_call Fa hr2 g__law_far_f_L_right pass0 ?far)⟩⟩
          refine wa_cons (we_var 0 r0_f_L_right rfl (wa_nil (ck_L_far Sub.rfl .here (by omega) fun q hq => wk_nil ⟨rfl, ?mk⟩)))
          refine mk_WheelN (v := ⟨nmL n, q⟩) Sub.rfl Sub.rfl (nmL_ok (by omega) (by omega) (hq.mono (by decide))) (wa_nil (mtw_append Sub.rfl (.there .here) (by rw [List.length_map]; omega) ?_))
          refine ⟨ws ++ [⟨nmL n, q⟩], m + 1 + 1, _, _, _, ?c1, ?c2, ?c4, rfl, ?c3⟩
          case c1 =>
            rw [List.length_append, hws]
            rfl
          case c2 =>
            intro u hu
            rcases List.mem_append.mp hu with h | h
            · exact okw u h
            · rw [List.mem_singleton.mp h]
              exact nmL_ok (by omega) (by omega) (hq.mono (by decide))
          case c3 =>
            rw [List.map_append]
            rfl
          case c4 => omega
  case after =>
    rintro Γ M ⟨ws, m, o2, o3, o4, hw, hm, rfl, rfl⟩
    refine wss_freeze 1 rfl (.there .here) hlE ?_
    have few := hw.le
    refine wss_cons (ws_set 5 w5_f_L_right (we_call Dy hr2 g__law_day_f_L_right pass0 (wa_cons (we_var 0 r0_f_L_right rfl (wa_nil (ck_L_day Sub.rfl .here (by omega) fun d hd => ?_))))))
    -- the rests
    refine wss_cons (ws_setLc (t := gName 16) (own := [("_law_wheel", 16)]) 6 rfl sc_f_L_right.nd rfl rfl ?hswR (pi_list pe_w) (blkOk_by ?okR) ?hgR hE ?srcR)
    case hswR => rfl
    case okR =>
      show blkC N_f_L_right (defScope s_f_L_right) _ _ = true
      decide +kernel
    case hgR =>
      intro s H C cl fp
      exact pg_name sc_f_L_right.nd rfl (.inl rfl)
    case srcR =>
      refine src_list (we_var 1 r1_f_L_right rfl ⟨_, sub_lt, fun i o M => M = [(p, ODr (m + 1))] ∧ o = (List.replicate i d).map RI, ⟨rfl, rfl⟩, ?turnR, ?doneR⟩)
      case turnR =>
        rintro i ρ o M1 D hi hρ ⟨rfl, rfl⟩
        rw [List.length_map] at hi
        refine ⟨fun Γ => Γ.set 16 (some ρ), blkT_name 16 (by decide), fun s H0 C cl fp => ?_⟩
        refine we_var 5 ?r5 rfl ⟨_, RI d, rfl, Sub.rfl, ?lenR, rfl, ?tkR⟩
        case r5 => exact ⟨rfl, by first | exact .inl rfl | exact .inr (.inl rfl), by decide, by decide⟩
        case lenR =>
          rw [List.length_map, List.length_replicate]
          omega
        case tkR =>
          rw [List.replicate_succ', List.map_append]
          rfl
      case doneR =>
        rintro D o M1 hD hM ⟨rfl, rfl⟩
        rw [List.length_map]
        refine wss_freeze 6 rfl .here hD ?_
        have pick : ∃ rs : List Int, rs.length = ws.length ∧ List.replicate ws.length d = rs := ⟨_, List.length_replicate, rfl⟩
        obtain ⟨r1, rl1, e1⟩ := pick
        rw [e1]
        refine wss_cut (fun Γ M => ∃ (rs : List Int) (m' : Nat), rs.length = ws.length ∧ m' ≤ 3000 ∧ Γ = [some (RRef p), some (RLt (ws.map (RWh CW))), o2, o3, o4, some (RI d), some (RLt (rs.map RI)), none, none, none, none, none, none, none, none, none, none, none, none, none] ∧ M = [(p, ODr m')]) (ws_if (wt_cmp (op_eqD hr.units) (nomark _) (we_bin op_modN (we_call L.next hr1 g__law_next_f_L_right pass0 (wa_cons ?nxt))))) ?wants
        case nxt =>
          refine we_var 0 r0_f_L_right rfl (wa_nil (nx Sub.rfl (by omega) fun y hy => we_int (opw_of (opv_mod_i (by decide)) (we_int (opw_of (opv_eq isD_i isD_i shaped_i shaped_i) ⟨_, Sub.rfl, fun _ => ?thn, fun _ => wss_nil ⟨r1, m + 1 + 1, rl1, ?le1, rfl, rfl⟩⟩)))))
          case le1 => omega
          case thn =>
            refine wss_cons (ws_setLc (t := gName 16) (own := [("_law_wheel", 16)]) 6 rfl sc_f_L_right.nd rfl rfl ?hswS (pi_list pe_w) (blkOk_by ?okS) ?hgS hE ?srcS)
            case hswS => rfl
            case okS =>
              show blkC N_f_L_right (defScope s_f_L_right) _ _ = true
              decide +kernel
            case hgS =>
              intro s H C cl fp
              exact pg_name sc_f_L_right.nd rfl (.inl rfl)
            case srcS =>
              refine src_list (we_var 1 r1_f_L_right rfl ⟨_, sub_lt, fun i o M => ∃ rs : List Int, rs.length = i ∧ M = [(p, ODr (m + 2 + i))] ∧ o = rs.map RI, ⟨[], rfl, rfl, rfl⟩, ?turnS, ?doneS⟩)
              case turnS =>
                rintro i ρ o M1 D2 hi hρ ⟨rs, hrs, rfl, rfl⟩
                rw [List.length_map] at hi
                refine ⟨fun Γ => Γ.set 16 (some ρ), blkT_name 16 (by decide), fun s H0 C cl fp => ?_⟩
                refine we_swapQ (we_bin op_modN (we_call L.next hr1 ?gS pass0 (wa_cons (we_var 0 ?r0S rfl (wa_nil (ck_L_next Sub.rfl (.there .here) (by omega) fun z hz => we_int (opw_of (opv_mod_i (by decide)) ⟨_, _, _, rfl, ?endS⟩)))))))
                case gS => rfl
                case r0S => exact ⟨rfl, by first | exact .inl rfl | exact .inr (.inl rfl), by decide, by decide⟩
                case endS =>
                  refine ⟨_, RI (z % 60), rfl, Sub.rfl, ?lenS, rs ++ [z % 60], ?c1S, rfl, ?c2S⟩
                  case lenS =>
                    rw [List.length_map]
                    omega
                  case c1S =>
                    rw [List.length_append, hrs]
                    rfl
                  case c2S => rw [List.map_append]; rfl
              case doneS =>
                rintro D2 o M1 hD2 hM2 ⟨rs, hrs, rfl, rfl⟩
                rw [List.length_map] at hrs
                exact wss_freeze 6 rfl .here hD2 (wss_nil ⟨rs, _, hrs, by rw [List.length_map]; omega, rfl, rfl⟩)
        case wants =>
          rintro Γ M ⟨rs, m', rl, hm', rfl, rfl⟩
          refine wss_cons (ws_setLc (t := gTup K 2 (gNames [16, 17])) (own := [("_law_wheel", 16), ("_law_rest", 17)]) 7 rfl sc_f_L_right.nd rfl rfl ?hswW (pi_zip g_zip_f_L_right B.zip pa_w) (blkOk_by ?okW) ?hgW hE ?srcW)
          case hswW => rfl
          case okW =>
            show blkC N_f_L_right (defScope s_f_L_right) _ _ = true
            decide +kernel
          case hgW =>
            intro s H C cl fp
            exact pg_tup (n := 2) (t := gNames [16, 17]) rfl (pgs_cons (pg_name sc_f_L_right.nd rfl (.inl rfl)) (pgs_cons (pg_name sc_f_L_right.nd rfl (.inl rfl)) pgs_nil))
          case srcW =>
            refine src_zip (wa_cons (we_var 1 r1_f_L_right rfl (wa_cons (we_var 6 r6_f_L_right rfl (wa_nil ⟨ws.map (RWh CW), rs.map RI, .cons sub_lt (.cons sub_lt .nil), fun i o M => M = [(p, ODr m')] ∧ o = ((wns ws rs).take i).map RS, ⟨rfl, rfl⟩, ?turnW, ?doneW⟩)))))
            case turnW =>
              rintro i ρ o M1 D3 hi ⟨ρ1, ρ2, h1, h2, rfl⟩ ⟨rfl, rfl⟩
              rw [List.getElem?_map] at h1 h2
              obtain ⟨v, hv, rfl⟩ := Option.map_eq_some_iff.mp h1
              obtain ⟨x, hx, rfl⟩ := Option.map_eq_some_iff.mp h2
              have hvo := hw.ok v (List.mem_of_getElem? hv)
              have lt := (List.getElem?_eq_some_iff.mp hv).1
              refine ⟨setAll [16, 17] [RWh CW v, RI x], blkT_tup (is := [16, 17]) (by decide) rfl sub_tt, fun s H0 C cl fp => ?_⟩
              refine we_meth On hr1 pass0 (we_var 16 ?r16 rfl ⟨hasI_wh (by decide +kernel), wa_cons (we_var 17 ?r17 rfl (wa_nil (ck_on Sub.rfl Sub.rfl hvo ⟨_, RS (v.on x), rfl, Sub.rfl, ?lenW, rfl, ?tkW⟩)))⟩)
              case r16 => exact ⟨rfl, by first | exact .inl rfl | exact .inr (.inl rfl), by decide, by decide⟩
              case r17 => exact ⟨rfl, by first | exact .inl rfl | exact .inr (.inl rfl), by decide, by decide⟩
              case lenW =>
                rw [List.length_map, List.length_take]
                omega
              case tkW =>
                have e : (wns ws rs)[i]? = some (v.on x) := by
                  unfold wns
                  rw [List.getElem?_map, show (ws.zip rs)[i]? = some (v, x) from List.getElem?_zip_eq_some.mpr ⟨hv, hx⟩]
                  rfl
                rw [List.take_add_one, e, List.map_append]
                rfl
            case doneW =>
              rintro D3 o M1 hD3 hM3 ⟨rfl, rfl⟩
              rw [List.take_of_length_le (by unfold wns; rw [List.length_map, List.length_map, List.length_map, List.length_zip]; exact Nat.le_refl _)]
              refine wss_freeze 7 rfl .here hD3 ?_
              refine wss_cons (ws_set 8 w8_f_L_right (we_ix ix_seq (we_lst (wa_cons (we_bin op_sub (we_var 5 r5_f_L_right rfl (we_int (opw_of opv_sub_i ?aft))))))))
              refine wa_cons (we_call Fa hr2 g__law_far_f_L_right pass0 (wa_cons (we_var 0 r0_f_L_right rfl (wa_nil (ck_L_far Sub.rfl .here (by omega) fun q hq => ?_)))))
              refine wa_cons (we_call Dy hr2 g__law_day_f_L_right pass0 (wa_cons (we_var 0 r0_f_L_right rfl (wa_nil (ck_L_day Sub.rfl .here (by omega) fun d2 hd2 => wa_nil ⟨by show 3 ≤ 100000; decide, ?_⟩)))))
              refine we_bin op_modN (we_call L.next hr1 g__law_next_f_L_right pass0 (wa_cons (we_var 0 r0_f_L_right rfl (wa_nil (nx Sub.rfl (by omega) fun y hy => we_int (opw_of (opv_mod_i (by decide)) ?_))))))
              refine opw_pickI (fun _ => True) (by omega) (by show y % 3 < 3; omega) (.cons trivial (.cons trivial (.cons trivial .nil))) fun af _ => ?_
              refine wss_cons (ws_set 9 w9_f_L_right (we_call Ne hr g__law_never_f_L_right pass0 (wa_cons (we_var 1 r1_f_L_right rfl (wa_cons (we_var 6 r6_f_L_right rfl (wa_nil (ck_L_never Sub.rfl Sub.rfl hw rl fun z hz => ?_))))))))
              refine wss_cons (ws_set 10 w10_f_L_right (we_non ?_))
              refine wss_cons (ws_set 11 w11_f_L_right (we_non ?_))
              let TT : Option Rep → Option Rep → Gm := fun t k => [some (RRef p), some (RLt (ws.map (RWh CW))), o2, o3, o4, some (RI d), some (RLt (rs.map RI)), some (RLt ((wns ws rs).map RS)), some (RI af), some (RLt ((nvL z).map RI)), t, k, none, none, none, none, none, none, none, none]
              refine wss_cut (fun Γ M => M = [(p, ODr (m' + 1 + 1 + 1))] ∧ ((∃ t, AllOk (szs ws) rs ∧ Has (szs ws) rs (szs ws).length t ∧ af ≤ t ∧ t < af + (lcmL (szs ws) : Nat) ∧ Γ = TT (some (RI t)) (some RN)) ∨ ∃ i j, FirstBad (szs ws) rs i j ∧ Γ = TT (some RN) (some (RExc CD (dyD i j))))) (ws_tryK (Ξ := fun C l Γ M => C = CD ∧ ∃ i j, FirstBad (szs ws) rs i j ∧ l = dyD i j ∧ Γ = TT (some RN) (some RN) ∧ M = [(p, ODr (m' + 1 + 1 + 1))]) 12 rfl rfl sc_f_L_right.nd rfl rfl (fun G1 H1 pn xe hE1 po TX => ?body) ?suite) ?more
              case body =>
                refine wss_one (ws_set 10 w10_f_L_right.tr (we_callXN Me (gr_P _) TX hr rfl (wa_cons (we_var 1 r1_f_L_right.tr rfl (wa_cons (we_var 7 r7_f_L_right.tr rfl ?mt))))))
                refine wa_nil ⟨rfl, wk_cons (we_var 8 r8_f_L_right.tr rfl (wk_nil ⟨rfl, ck_meetL (ws := ws) (rs := rs) rl hw Sub.rfl Sub.rfl Sub.rfl (fun t a b c e => ?_) fun i j e => ?_⟩))⟩
                · exact ⟨rfl, .inl ⟨t, a, b, c, e, rfl⟩⟩
                · exact ⟨rfl, i, j, e, rfl, rfl, rfl⟩
              case suite =>
                rintro C l Γ M ⟨rfl, i, j, e, rfl, rfl, rfl⟩
                refine ⟨test1 ⟨rfl, by decide, .inl Kx.me⟩ Kx.ex, fun a pn => ?_⟩
                exact wss_one (ws_set 11 w11_f_L_right.su (we_var 12 r12_f_L_right.su rfl ⟨rfl, .inr ⟨i, j, e, rfl⟩⟩))
              case more =>
                rintro Γ M ⟨rfl, told⟩
                obtain ⟨x10, x11, e0, td⟩ : ∃ x10 x11, Γ = TT x10 x11 ∧ ((∃ t, AllOk (szs ws) rs ∧ Has (szs ws) rs (szs ws).length t ∧ af ≤ t ∧ t < af + (lcmL (szs ws) : Nat) ∧ x10 = some (RI t) ∧ x11 = some RN) ∨ ∃ i j, FirstBad (szs ws) rs i j ∧ x11 = some (RExc CD (dyD i j))) := by
                  rcases told with ⟨t, a, b, c, e, g⟩ | ⟨i, j, e, g⟩
                  · exact ⟨_, _, g, .inl ⟨t, a, b, c, e, rfl, rfl⟩⟩
                  · exact ⟨_, _, g, .inr ⟨i, j, e, rfl⟩⟩
                subst e0
                refine wss_cons (ws_set 13 w13_f_L_right (we_call Ro hr2 g_meet_round_f_L_right pass0 (wa_cons (we_var 1 r1_f_L_right rfl (wa_nil (ck_round Sub.rfl hw ?_))))))
                refine (id ?_ : WSs _ _ [some (RRef p), some (RLt (ws.map (RWh CW))), o2, o3, o4, some (RI d), some (RLt (rs.map RI)), some (RLt ((wns ws rs).map RS)), some (RI af), some (RLt ((nvL z).map RI)), x10, x11, none, some (RI ((lcmL (szs ws) : Nat) : Int)), none, none, none, none, none, none] [(p, ODr (m' + 1 + 1 + 1))] _ _)
                refine (id ?_ : WSs (X_f_L_right P w K mg base f cd A outer s H EE) ⟨G, H, (con_L_rt.own p).map (·.1)⟩ _ _ ((defBody s_f_L_right).drop 12) (EdOf con_L_rt p))
                have hq := @pri_L_right P w K mg base CW CD f p cd A outer s H G EE (m' + 1 + 1 + 1) ws rs af d z o2 o3 o4 x10 x11 none none none none none none none B hr hE Ag Mt Kx hw rl hz td
                with_reducible exact hq
theorem ok_LAW {f : Addr} {fd : FuncData} (F : FdD K "law" "law" s_f_LAW [] f fd) (L : LawB P w K mg base) (Rg : Kn P w K mg base 4 "_law_right" [] con_L_rt) : FnOk P w K mg base CX0 5 f fd ["_law_script"] (conSp (con_law K)) := by
  refine fn_conD (con_law K) F sc_f_LAW (fun _ => rfl) fun cd A outer s H EE G (ns : List Int) hp hr hE => ?_
  have hp : ns.length ≤ 63 := hp
  have hr1 := hr.mono (show 1 ≤ 4 by decide)
  refine wss_cut (fun _ _ => True) (ws_for_list PassesOwn.never rfl (we_bin op_addU (we_slL (we_var 0 r0_f_LAW rfl ⟨_, Sub.rfl, wo_none (wo_some (we_int ⟨3, Sub.rfl, we_lst (wa_cons (we_int (wa_nil ⟨by show 1 ≤ 100000; decide, ?add⟩)))⟩))⟩)))) ?rest
  case rest =>
    rintro Γ M -
    exact wss_one (ws_ret (we_bl ⟨(), _, trivial, Sub.rfl, .nil⟩))
  case add =>
    refine opw_of (opv_add_l ?len) ⟨_, sub_lt, fun _ Γ _ => ∃ o1, Γ = [some (RL K (ns.map RI)), o1], ⟨none, rfl⟩, ?turn, fun _ _ _ => trivial⟩
    case len =>
      have h1 := cutL_len (l := ns.map RI) (lo := none) (hi := some 3)
      rw [List.length_map] at h1
      show (cutL (ns.map RI) none (some 3)).length + 1 ≤ 100000
      omega
    case turn =>
      rintro i ρ Γ M hi' hρ ⟨o1, rfl⟩
      obtain ⟨cell, rfl⟩ := cells_of hρ
      refine wg_name 1 w1_f_LAW ?_
      refine wss_one (ws_if (wt_not (wt_val (we_call Rg hr g__law_right_f_LAW pass0 (wa_cons (we_call L.draws hr1 g__law_draws_f_LAW pass0 ?dr))))))
      refine wa_cons (we_var 1 r1_f_LAW rfl (wa_nil (ck_L_draws Sub.rfl fun q => wa_nil (ck_L_rt Sub.rfl .here ⟨true, Sub.rfl, fun hk => absurd hk (by decide), fun _ => wss_nil ⟨_, rfl⟩⟩))))
end
end MM

namespace MM
open PySem L2 PyProof.Rows
/-- what the top writes of an exception's class over the built-in class with newId and bmB -/
structure ExE (K : PySem.W.Frag) (x : Str) (C : Addr) (newId : String) (bmB : List Value) : Prop where
  at_ : PySem.W.nsIn K mainGlobals x = some (some (.ref C))
  ci : PySem.W.excInitIn K C bmB newId = true
  ov : PySem.W.excOver K C bmB = true
  sa : PySem.W.findIn K (.ref C) "__setattr__" = some (some (.builtin "object.__setattr__"))
  ex : PySem.W.subIn K (.ref C) (.type "BaseException") = some true
  ty : PySem.W.typeIn K (.ref C) = some (.type "type")
  kp : PySem.W.keepIn K (.ref C) = true
  hd : PySem.W.hasDictIn K C = true
  hg : PySem.W.findIn K (.ref C) "__getattribute__" = some (some (.builtin "BaseException.__getattribute__"))
  hk : PySem.W.findIn K (.ref C) "__getattr__" = some none
  ha : PySem.W.findIn K (.ref C) "__class__" = some (some (.builtin "object.__class__"))
  hn : PySem.W.specialIn K (.builtin "object.__class__") "__get__" = some (some (.builtin "getset_descriptor.__get__"))
  ht : PySem.W.takesIn K (.builtin "object.__class__") = some true
  hm : PySem.W.mroIn K C (.type "object") = some true
  ss : PySem.W.subIn K (.ref C) (.ref C) = some true
theorem ExE.oc {K : PySem.W.Frag} {x : Str} {C : Addr} {newId : String} {bmB : List Value} (e : ExE K x C newId bmB) : OxC K C newId bmB := ⟨e.ci, e.ov, e.sa, e.ex, e.ty, e.kp, e.hd⟩
theorem ExE.ec {K : PySem.W.Frag} {x : Str} {C : Addr} {newId : String} {bmB : List Value} (e : ExE K x C newId bmB) : ExcC K C := ⟨e.hg, e.hk, e.ex, e.hd, e.ha, e.hn, e.ht, e.hm⟩
theorem ExE.self {K : PySem.W.Frag} {x : Str} {C : Addr} {newId : String} {bmB : List Value} (e : ExE K x C newId bmB) : PySem.W.exmOne K (.ref C) (.ref C) = some true := PySem.W.exm_ref e.ex e.hd e.ty e.ss
theorem kit_self2 {K : PySem.W.Frag} {C : Addr} : PySem.W.kitOne K (.ref C) (.ref C) = some true := by
  unfold PySem.W.kitOne
  rw [if_pos (by simp)]
/-- another own class, of which C is none -/
structure OthE (K : PySem.W.Frag) (C : Addr) (x : Str) (D : Addr) : Prop where
  at_ : PySem.W.nsIn K mainGlobals x = some (some (.ref D))
  cl : PySem.W.isClsIn K D = true
  ty : PySem.W.typeIn K (.ref D) = some (.type "type")
  no : PySem.W.subIn K (.ref C) (.ref D) = some false
  ex : PySem.W.subIn K (.ref D) (.type "BaseException") = some true
theorem OthE.kit {K : PySem.W.Frag} {C D : Addr} {x : Str} (o : OthE K C x D) (s : PySem.W.subIn K (.ref C) (.ref C) = some true) : PySem.W.kitOne K (.ref C) (.ref D) = some false := by
  unfold PySem.W.kitOne
  rw [if_neg (fun h => by
    have h : Value.ref C = Value.ref D := by simpa using h
    have n := o.no
    rw [← h, s] at n
    cases n)]
  unfold PySem.W.kitCls
  have h1 : (PySem.W.clsIn K D).isSome = true := o.cl
  have h2 := o.ty
  have h3 := o.no
  simp [h1, h2, h3]
theorem OthE.exm {K : PySem.W.Frag} {C D : Addr} {x : Str} (o : OthE K C x D) : PySem.W.exmOne K (.ref C) (.ref D) = some false := by
  unfold PySem.W.exmOne
  rw [if_pos (by rw [o.ex]; rfl)]
  unfold PySem.W.kitCls
  have h1 : (PySem.W.clsIn K D).isSome = true := o.cl
  have h2 := o.ty
  have h3 := o.no
  simp [h1, h2, h3]
theorem kit_blt {K : PySem.W.Frag} {C : Addr} {T : String} {b : Bool} (m : PySem.W.kitMeta T = true) (s : PySem.W.subIn K (.ref C) (.type T) = some b) : PySem.W.kitOne K (.ref C) (.type T) = some b := by
  unfold PySem.W.kitOne
  rw [if_neg (fun h => by simp at h)]
  unfold PySem.W.kitCls
  show (if PySem.W.kitMeta T = true then PySem.W.subIn K (.ref C) (.type T) else none) = some b
  rw [if_pos m, s]
abbrev luB : List Value := [.type "LookupError", .type "Exception", .type "BaseException", .type "object"]
theorem xb_lu : XB "LookupError" "LookupError.__new__" "LookupError.__init__" luB := ⟨PySem.F.excBase_LookupError, PySem.F.store_LookupError⟩
/-- the class NoDay -/
structure TopN (K : PySem.W.Frag) (CN : Addr) : Prop where
  e : ExE K "NoDay" CN "LookupError.__new__" luB
  n1 : PySem.W.findIn K (.ref CN) "one" = some none
  n2 : PySem.W.findIn K (.ref CN) "two" = some none
  lu : PySem.W.subIn K (.ref CN) (.type "LookupError") = some true
  init : MetE K CN "__init__" "NoDay.__init__" s_NoDay_init []
section
variable {P : Program} {w : World} {K : PySem.W.Frag} {mg : Str → Option Value} {base h : Heap} {k : Nat} {x : Str} {st : Stmt} {f : Addr} {fd : FuncData} {ps : List Str} {c : ConX} {CN : Addr}
theorem TopN.ok (T : TopN K CN) : OxOk K CN := ⟨_, _, _, _, xb_lu, T.e.oc⟩
theorem noX_of (X : K.In h) (G : h.Ns mainGlobals mg) (T : TopN K CN) : KnX P w K mg base 1 "NoDay" CN 2 dyF := by
  obtain ⟨f1, d1, a1, i1, F1⟩ := T.init
  exact ⟨PySem.W.mg_of X G T.e.at_, T.ok, by decide, f1, d1, ["self", "one", "two"], a1, i1, F1.bindsN (fun _ _ _ _ _ _ us hl => match us, hl with | [_, _, _], _ => rfl), ok_NoDay F1 T.ok T.n1 T.n2⟩
theorem knR_of (X : K.In h) (G : h.Ns mainGlobals mg) (a : PySem.W.nsIn K mainGlobals x = some (some (.ref f))) (F : FdD K x x st [] f fd) (ok : FnOk P w K mg base (L2.CX P w) k f fd ps (conSpX c))
    (hb : ∀ (kV doc pm : Value) (an : Option Addr) (cdv ct : Value) (us : List Value), us.length = ps.length → bindArgs (PySem.W.fnOf x x (defArgs st) (defBody st) (defScope st) .none kV doc pm an cdv ct) ⟨us, []⟩ = pure (ps.zip us)) : KnR P w K mg base k x [] c :=
  ⟨f, fd, ps, [], PySem.W.mg_of X G a, F.kp, F.bindsN hb, .nil, ok⟩
theorem knRK0_of (n : Nat) (ks : List Str) (g : {α : Type} → List α → List α → List α) (X : K.In h) (G : h.Ns mainGlobals mg) (a : PySem.W.nsIn K mainGlobals x = some (some (.ref f))) (F : FdD K x x st [] f fd) (ok : FnOk P w K mg base (L2.CX P w) k f fd ps (conSpX c))
    (hrel : ∀ {vs zs : List V} {us ws : List Value}, Vals vs us → Vals zs ws → Vals (g vs zs) (g us ws))
    (hb : ∀ (kV doc pm : Value) (an : Option Addr) (cdv ct : Value) (us ws : List Value), us.length = n → ws.length = ks.length → bindArgs (PySem.W.fnOf x x (defArgs st) (defBody st) (defScope st) .none kV doc pm an cdv ct) ⟨us, ks.zip ws⟩ = pure (ps.zip (g us ws))) : KnRK P w K mg base k x n ks (fun vs zs => g vs zs) c :=
  ⟨f, fd, ps, _, PySem.W.mg_of X G a, F.kp, kb0_of n ks g F hrel hb, ok⟩
end
end MM

namespace MM
open PySem L2 PyProof.Rows
structure TopW (K : PySem.W.Frag) (CW : Addr) : Prop where
  cls : ClsE K "Wheel" CW
  n1 : PySem.W.findIn K (.ref CW) "names" = some none
  n2 : PySem.W.findIn K (.ref CW) "first" = some none
  init : MetE K CW "__init__" "Wheel.__init__" s_Wheel_init [.int 0]
  wlen : MetE K CW "__len__" "Wheel.__len__" s_Wheel_len []
  on : MetE K CW "name_on" "Wheel.name_on" s_Wheel_name_on []
structure TopBl (K : PySem.W.Frag) : Prop where
  zA : PySem.W.nsIn K mainGlobals "abs" = some none
  zL : PySem.W.nsIn K mainGlobals "len" = some none
  zS : PySem.W.nsIn K mainGlobals "set" = some none
  zT : PySem.W.nsIn K mainGlobals "tuple" = some none
  zD : PySem.W.nsIn K mainGlobals "dict" = some none
  zE : PySem.W.nsIn K mainGlobals "enumerate" = some none
  zZ : PySem.W.nsIn K mainGlobals "zip" = some none
  zX : PySem.W.nsIn K mainGlobals "str" = some none
structure TopL (K : PySem.W.Frag) : Prop where
  common : DefE K "common" s_f_common []
  rest_of : DefE K "rest_of" s_f_rest_of []
  round : DefE K "meet_round" s_f_meet_round []
  meet : DefE K "meet" s_f_meet [.int 0]
  lfar : DefE K "_law_far" s_f_L_far []
  lday : DefE K "_law_day" s_f_L_day []
  lcommon : DefE K "_law_common" s_f_L_common []
  lnever : DefE K "_law_never" s_f_L_never []
  lmet : DefE K "_law_met" s_f_L_met []
  lagain : DefE K "_law_again" s_f_L_again []
  lright : DefE K "_law_right" s_f_L_right []
  law : DefE K "law" s_f_LAW []
theorem knRK_of {P : Program} {w : World} {K : PySem.W.Frag} {mg : Str → Option Value} {base h : Heap} {k : Nat} {x : Str} {st : Stmt} {f : Addr} {fd : FuncData} {ps : List Str} {c : ConX} {dvs : List V} (n : Nat) (ks : List Str) (g : {α : Type} → List α → List α → List α → List α) (X : K.In h) (G : h.Ns mainGlobals mg) (a : PySem.W.nsIn K mainGlobals x = some (some (.ref f))) (F : FdD K x x st dvs f fd) (ok : FnOk P w K mg base (L2.CX P w) k f fd ps (conSpX c)) (hd : dvs ≠ [])
    (hrel : ∀ {vs ds zs : List V} {us its ws : List Value}, Vals vs us → Vals ds its → Vals zs ws → Vals (g vs ds zs) (g us its ws))
    (hb : ∀ (T : Addr) (kV doc pm : Value) (an : Option Addr) (cdv ct : Value) (us its ws : List Value), us.length = n → its.length = dvs.length → ws.length = ks.length →
      ∃ k, bindArgs (PySem.W.fnOf x x (defArgs st) (defBody st) (defScope st) (.ref T) kV doc pm an cdv ct) ⟨us, ks.zip ws⟩ = seqItems? (.ref T) >>= k ∧ k (some its.toArray) = pure (ps.zip (g us its ws))) : KnRK P w K mg base k x n ks (fun vs zs => g vs dvs zs) c := by
  obtain ⟨its, h1⟩ := F.kbindsD n ks g hd hrel hb
  exact ⟨f, fd, ps, _, PySem.W.mg_of X G a, F.kp, h1, ok⟩
section
variable {P : Program} {w : World} {K : PySem.W.Frag} {mg : Str → Option Value} {base h : Heap} {CW CD : Addr}
theorem all_mk {l : PySem.W.OpenLaw} {fa : Addr} (X : K.In h) (G : h.Ns mainGlobals mg) (hfa : mg "law" = some (.ref fa)) (W : TopW K CW) (Nd : TopN K CD) (Bl : TopBl K) (D : TopB K) (L : TopL K) :
    ∃ fd : FuncData, (∀ (s : Shared) (v : Value), BindsTo s fd ⟨[v], []⟩ [("_law_script", v)]) ∧ ∀ base : Heap, K.In base → base.Ns mainGlobals mg → FnOk l.prog w K mg base CX0 5 fa fd ["_law_script"] (conSp (con_law K)) := by
  obtain ⟨f0, d0, a0, F0⟩ := L.law
  have e := hfa.symm.trans (PySem.W.mg_of X G a0)
  cases e
  refine ⟨d0, fun s v => F0.bindsA (ps := ["_law_script"]) (fun _ _ _ _ _ _ us hl => match us, hl with | [_], _ => rfl) s [v] rfl, fun base _ _ => ?_⟩
  have LB : LawB l.prog w K mg base := lawB_of X G D
  have B : BltW mg := ⟨PySem.W.mg_none_of X G Bl.zL, PySem.W.mg_none_of X G Bl.zS, PySem.W.mg_none_of X G Bl.zT, PySem.W.mg_none_of X G Bl.zD, PySem.W.mg_none_of X G Bl.zE, PySem.W.mg_none_of X G Bl.zZ, PySem.W.mg_none_of X G D.zR, PySem.W.mg_none_of X G Bl.zX⟩
  obtain ⟨fi, di, ai, ii, Fi⟩ := W.init
  obtain ⟨fl, dl, al, il, Fl⟩ := W.wlen
  obtain ⟨fn, dn, an, inn, Fn⟩ := W.on
  obtain ⟨fm, dm, am, Fm⟩ := L.meet
  have WT : WhT K CW := ⟨W.cls.ci, W.n1, W.n2⟩
  have Wc : KnCK l.prog w K mg base 1 "Wheel" CW 1 ["first"] (gvP [0, 1, 2]) (con_Wheel_init CW) := knCK_of (ps := ["self", "names", "first"]) 1 ["first"] (fun a _ z => gvP [0, 1, 2] a z) X G W.cls ai ii Fi (ok_Wheel_init Fi WT B) (by simp) (fun r1 _ r2 => rel_P [0, 1, 2] r1 r2) (fun _ _ _ _ _ _ _ us its ws l1 l2 l3 => match us, its, ws, l1, l2, l3 with | [_, _], [_], [_], _, _, _ => ⟨_, rfl, rfl⟩)
  have Ln : KnO l.prog w K mg base 1 CW "__len__" (con_wlen CW) := ⟨fl, dl, _, al, il, Fl.bindsN (fun _ _ _ _ _ _ us hl => match us, hl with | [_], _ => rfl), ok_wlen Fl WT B⟩
  have On : KnM l.prog w K mg base 1 CW "name_on" [] (con_on CW) := knM_of W.cls.ci.cl an inn Fn (ok_on Fn WT B) (fun _ _ _ _ _ _ us hl => match us, hl with | [_, _], _ => rfl)
  have NX : KnX l.prog w K mg base 1 "NoDay" CD 2 dyF := noX_of X G Nd
  have Kx : NdK K mg CD := ⟨PySem.W.mg_of X G Nd.e.at_, Nd.e.self, Nd.e.ec, Nd.n1, Nd.n2⟩
  obtain ⟨f1, d1, a1, F1⟩ := L.common
  have Co : Kn l.prog w K mg base 1 "common" [] con_common := kn_of X G a1 F1 (ok_common F1 (PySem.W.mg_none_of X G Bl.zA)) (fun _ _ _ _ _ _ us hl => match us, hl with | [_, _], _ => rfl)
  obtain ⟨f2, d2, a2, F2⟩ := L.rest_of
  have Re : Kn l.prog w K mg base 1 "rest_of" [] (con_rest CW) := kn_of X G a2 F2 (ok_rest F2 WT B) (fun _ _ _ _ _ _ us hl => match us, hl with | [_, _], _ => rfl)
  obtain ⟨f3, d3, a3, F3⟩ := L.round
  have Ro : Kn l.prog w K mg base 2 "meet_round" [] (con_round CW) := kn_of X G a3 F3 (ok_round F3 WT B Co) (fun _ _ _ _ _ _ us hl => match us, hl with | [_], _ => rfl)
  obtain ⟨f4, d4, a4, F4⟩ := L.lfar
  have Fa : Kn l.prog w K mg base 2 "_law_far" [] con_L_far := kn_of X G a4 F4 (ok_L_far F4 LB.next) (fun _ _ _ _ _ _ us hl => match us, hl with | [_], _ => rfl)
  obtain ⟨f5, d5, a5, F5⟩ := L.lday
  have Dy : Kn l.prog w K mg base 2 "_law_day" [] con_L_day := kn_of X G a5 F5 (ok_L_day F5 LB.next) (fun _ _ _ _ _ _ us hl => match us, hl with | [_], _ => rfl)
  obtain ⟨f6, d6, a6, F6⟩ := L.lcommon
  have Lc : Kn l.prog w K mg base 1 "_law_common" [] con_L_common := kn_of X G a6 F6 (ok_L_common F6) (fun _ _ _ _ _ _ us hl => match us, hl with | [_, _], _ => rfl)
  obtain ⟨f7, d7, a7, F7⟩ := L.lnever
  have Ne : Kn l.prog w K mg base 3 "_law_never" [] (con_L_never CW) := kn_of X G a7 F7 (ok_L_never F7 WT B Ln Lc) (fun _ _ _ _ _ _ us hl => match us, hl with | [_, _], _ => rfl)
  obtain ⟨f8, d8, a8, F8⟩ := L.lmet
  have Mt : Kn l.prog w K mg base 2 "_law_met" [] (con_L_met CW) := kn_of X G a8 F8 (ok_L_met F8 On) (fun _ _ _ _ _ _ us hl => match us, hl with | [_, _, _], _ => rfl)
  obtain ⟨f9, d9, a9, F9⟩ := L.lagain
  have Ag : Kn l.prog w K mg base 3 "_law_again" [] (con_L_again CW) := kn_of X G a9 F9 (ok_L_again F9 B On Ln) (fun _ _ _ _ _ _ us hl => match us, hl with | [_, _], _ => rfl)
  have Me : KnRK l.prog w K mg base 3 "meet" 2 ["after"] (gvP [0, 1, 2]) (con_meet CW CD) := knRK_of (dvs := [.int 0]) 2 ["after"] (fun a _ z => gvP [0, 1, 2] a z) X G am Fm (ok_meet Fm WT B Co Re NX) (by simp) (fun r1 _ r2 => rel_P [0, 1, 2] r1 r2) (fun _ _ _ _ _ _ _ us its ws l1 l2 l3 => match us, its, ws, l1, l2, l3 with | [_, _], [_], [_], _, _, _ => ⟨_, rfl, rfl⟩)
  obtain ⟨f10, d10, a10, F10⟩ := L.lright
  have Rg : Kn l.prog w K mg base 4 "_law_right" [] con_L_rt := kn_of X G a10 F10 (ok_L_right F10 B LB Fa Dy Ne Me Ro Mt Ag On Wc Kx) (fun _ _ _ _ _ _ us hl => match us, hl with | [_], _ => rfl)
  exact ok_LAW F0 LB Rg
end
end MM

open PySem PySem.W PyProof.Rows
local macro_rules | `(tactic| walk_at "def") => `(tactic| (refine' MM.defE_mk ?a ?l ?c ?k; (case a => k_is); (case l => k_is); (case c => k_is); (case k => k_is)))
local macro_rules | `(tactic| walk_at "met") => `(tactic| (refine' MM.metE_mk ?a ?i ?l ?c ?k; (case a => k_is); (case i => k_is); (case l => k_is); (case c => k_is); (case k => k_is)))
local macro_rules | `(tactic| walk_at "def1") => `(tactic| (refine' MM.defE_mkT ?a ?l ?c ?k ?lT ?hd ?hv; (case a => k_is); (case l => k_is); (case c => k_is); (case k => k_is); (case lT => k_is); (case hd => simp); (case hv => exact .cons ⟨_, rfl⟩ .nil)))
local macro_rules | `(tactic| walk_at "init1") => `(tactic| (refine' MM.metE_mkT ?a ?i ?l ?c ?k ?lT ?hd ?hv; (case a => k_is); (case i => k_is); (case l => k_is); (case c => k_is); (case k => k_is); (case lT => k_is); (case hd => simp); (case hv => exact .cons ⟨_, rfl⟩ .nil)))
local macro_rules | `(tactic| walk_at "defI") => `(tactic| (refine' MM.defE_mkT ?a ?l ?c ?k ?lT ?hd ?hv; (case a => k_is); (case l => k_is); (case c => k_is); (case k => k_is); (case lT => k_is); (case hd => simp); (case hv => exact .cons rfl .nil)))
local macro_rules | `(tactic| walk_at "initB") => `(tactic| (refine' MM.metE_mkT ?a ?i ?l ?c ?k ?lT ?hd ?hv; (case a => k_is); (case i => k_is); (case l => k_is); (case c => k_is); (case k => k_is); (case lT => k_is); (case hd => simp); (case hv => exact .cons rfl .nil)))
local macro_rules | `(tactic| walk_at "init2") => `(tactic| (refine' MM.metE_mkT ?a ?i ?l ?c ?k ?lT ?hd ?hv; (case a => k_is); (case i => k_is); (case l => k_is); (case c => k_is); (case k => k_is); (case lT => k_is); (case hd => simp); (case hv => exact .cons rfl (.cons rfl .nil))))
local macro_rules | `(tactic| walk_at "cls") => `(tactic| (refine' MM.ClsE.mk ?at_ ?pg ?hd ?po ?sa ?ha ?hn ?htk ?hm ?makes ?kp; (case at_ => k_is); (case pg => k_is); (case hd => k_is); (case po => k_is); (case sa => k_is); (case ha => k_is); (case hn => k_is); (case htk => k_is); (case hm => k_is); (case makes => k_is); (case kp => k_is)))
set_option maxHeartbeats 0 in
theorem PySem.Challenge.cw_meanmoon_k64_whole_great_wheels_meet_holds : PySem.Challenge.rw_meanmoon_k64_whole_great_wheels_meet.Holds := by
  w_on; o_law; k_head; (case hw => w_witness2)
  k_fill
  refine MM.walk_law (k := 5) (l := PySem.Challenge.rw_meanmoon_k64_whole_great_wheels_meet) rfl rfl ⟨rfl, by decide, by decide⟩ (fun w h Y => PySem.W.kIn_of Y) ?F
  case F =>
    intro w mg fa h KX G hmg
    refine' MM.all_mk KX G hmg ?W ?Nd ?Bl ?D ?L
    case W =>
      refine' MM.TopW.mk ?cls ?n1 ?n2 ?init ?wlen ?on
      case cls => walk_at "cls"
      case n1 => k_is
      case n2 => k_is
      case init => walk_at "init1"
      case wlen => walk_at "met"
      case on => walk_at "met"
    case Nd =>
      refine' MM.TopN.mk ?e ?n1 ?n2 ?lu ?init
      case e => refine' MM.ExE.mk ?at_ ?ci ?ov ?sa ?ex ?ty ?kp ?hd ?hg ?hk ?ha ?hn ?ht ?hm ?ss; (case at_ => k_is); (case ci => kx_is); (case ov => kx_is); (case sa => k_is); (case ex => k_is); (case ty => k_is); (case kp => k_is); (case hd => k_is); (case hg => k_is); (case hk => k_is); (case ha => k_is); (case hn => k_is); (case ht => k_is); (case hm => k_is); (case ss => k_is)
      case n1 => k_is
      case n2 => k_is
      case lu => k_is
      case init => walk_at "met"
    case Bl =>
      refine' MM.TopBl.mk ?zA ?zL ?zS ?zT ?zD ?zE ?zZ ?zX
      case zA => k_is
      case zL => k_is
      case zS => k_is
      case zT => k_is
      case zD => k_is
      case zE => k_is
      case zZ => k_is
      case zX => k_is
    case D =>
      refine' MM.TopB.mk ?zR ?draws ?next
      case zR => k_is
      case draws => walk_at "def"
      case next => walk_at "def"
    case L =>
      refine' MM.TopL.mk ?common ?rest_of ?round ?meet ?lfar ?lday ?lcommon ?lnever ?lmet ?lagain ?lright ?law
      case common => walk_at "def"
      case rest_of => walk_at "def"
      case round => walk_at "def"
      case meet => walk_at "def1"
      case lfar => walk_at "def"
      case lday => walk_at "def"
      case lcommon => walk_at "def"
      case lnever => walk_at "def"
      case lmet => walk_at "def"
      case lagain => walk_at "def"
      case lright => walk_at "def"
      case law => walk_at "def"

