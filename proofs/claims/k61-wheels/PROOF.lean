import PyProof.Rows.All
import Wide.All
import OpenK.AllK
import Wide.FinOn
import HandS.ForMost
import HandS.ForExc
import HandS.Wide
import HandS.Defaults
import HandS.IsInst
import HandS.Flow
import HandS.MakeKw
import HandS.MakeKwOnly
import PySem.Challenge.RW_meanmoon_k61_wheels
import HandS.OwnEq
import KE.KCallOwn
import KE.KFmtOwn
import HandS.FStr
import HandS.StrMore
import HandS.Text
import PyProof.FString2
import PyProof.CallFns
import HandS.IntHex
import HandS.Exc
import HandS.Style
import HandS.More
import HandS.SetFor
import HandS.TupSets
import HandS.Strs
import PyProof.LongRange
import HandS.Zip
import KE.GoesZip
import KE.GoesMore
import KE.GoesEnum
import KE.GoesEnumKw
import HandS.SortKw
import HandS.RaiseOp
import HandS.ExcInit
import HandS.WordsExc
import KE.KExcInit
import KE.KExcIs
import HandS.ExcIs
import HandS.ExcField
import HandS.RaiseFrom
import HandS.ExcInitHot
import HandS.SuiteRaise
import PyProof.ReprRoads
import HandS.Ends
import PyProof.InstNe
import KE.SortData
import KE.SortLaws
import HandS.Conv
import KE.KExcLine
set_option Elab.async false
set_option linter.all false
set_option maxRecDepth 100000
set_option maxHeartbeats 4000000
namespace MM
open PySem L2

/-! ### representations -/
/-- what a value stands for, over the lasting part of the heap -/
structure Rep where
  p : V → Hp → Prop
  mono : ∀ v G G', Same G G' → p v G → p v G'
/-- what an owned (changeable) object holds -/
structure ORep where
  p : HO → Hp → Prop
  mono : ∀ o G G', Same G G' → p o G → p o G'
abbrev Gm := List (Option Rep)
abbrev Ow := List (Addr × ORep)
structure En where
  G : Hp
  H : Hp
  M : List Addr
structure At (E : En) (Γ : Gm) (M : Ow) (σ : L2.St) (G H : Hp) : Prop where
  len : Γ.length = σ.length
  env : ∀ (i : Nat) (ρ : Rep), Γ[i]? = some (some ρ) → ∃ v, σ[i]? = some (some v) ∧ ρ.p v G
  gh : Same G H
  own : ∀ q ∈ M, ∃ o, H q.1 = some o ∧ q.2.p o G
  gn : ∀ q ∈ M, G q.1 = none
  nd : (M.map (·.1)).Nodup
  g0 : Same E.G G
  keep : ∀ a o, a ∉ E.M → E.H a = some o → H a = some o
  nw : ∀ a, E.H a ≠ none → G a ≠ none → E.G a ≠ none
  loc : ∀ q ∈ M, q.1 ∈ E.M ∨ E.H q.1 = none
  there : ∀ a, E.H a ≠ none → H a ≠ none
/-- a pure step: things are added -/
structure New (G H G' H' : Hp) : Prop where
  gg : Same G G'
  gh : Same G' H'
  hh : Same H H'
  nw : ∀ a, H a ≠ none → G' a ≠ none → G a ≠ none
theorem New.refl {G H : Hp} (s : Same G H) : New G H G H := ⟨Same.refl _, s, Same.refl _, fun _ _ h => h⟩
theorem New.trans {G H G1 H1 G2 H2 : Hp} (a : New G H G1 H1) (b : New G1 H1 G2 H2) : New G H G2 H2 :=
  ⟨a.gg.trans b.gg, b.gh, a.hh.trans b.hh, fun x h1 h2 => a.nw x h1 (b.nw x (by
    cases q : H x with
    | none => exact absurd q h1
    | some o => rw [a.hh x o q]; simp) h2)⟩
theorem same_upd {H : Hp} {p : Addr} {o : HO} (h : H p = none) : Same H (upd H p o) := fun b u e => by
  rw [upd_ne (ne_of_none e h)]; exact e
theorem same_upd2 {G H : Hp} {p : Addr} {o : HO} (s : Same G H) : Same (upd G p o) (upd H p o) := fun b u e => by
  by_cases hb : b = p
  · subst hb; rw [upd_same] at e ⊢; exact e
  · rw [upd_ne hb] at e ⊢; exact s b u e
theorem Same.fr {G H : Hp} {p : Addr} (s : Same G H) (h : H p = none) : G p = none := Same.free s h
/-- a new lasting object -/
theorem New.put {G H : Hp} {p : Addr} {o : HO} (s : Same G H) (h : H p = none) : New G H (upd G p o) (upd H p o) :=
  ⟨same_upd (Same.fr s h), same_upd2 s, same_upd h, fun a ha hg => by
    by_cases e : a = p
    · subst e; exact absurd h ha
    · rw [upd_ne e] at hg; exact hg⟩
/-- a new object that nobody speaks of -/
theorem New.side {G H : Hp} {p : Addr} {o : HO} (s : Same G H) (h : H p = none) : New G H G (upd H p o) :=
  ⟨Same.refl _, s.trans (same_upd h), same_upd h, fun _ _ hg => hg⟩
theorem ne_none {α : Type} {o : Option α} {x : α} (h : o = some x) : o ≠ none := by rw [h]; simp
section
variable {E : En} {Γ Γ' : Gm} {M M' : Ow} {σ : L2.St} {G H G' H' : Hp}
theorem At.new (a : At E Γ M σ G H) (n : New G H G' H') : At E Γ M σ G' H' where
  len := a.len
  env := fun i ρ h => let ⟨v, e, r⟩ := a.env i ρ h; ⟨v, e, ρ.mono _ _ _ n.gg r⟩
  gh := n.gh
  own := fun q hq => let ⟨o, e, r⟩ := a.own q hq; ⟨o, n.hh _ _ e, q.2.mono _ _ _ n.gg r⟩
  gn := fun q hq => by
    obtain ⟨o, e, _⟩ := a.own q hq
    cases z : G' q.1 with
    | none => rfl
    | some u => exact absurd (a.gn q hq) (n.nw q.1 (ne_none e) (ne_none z))
  nd := a.nd
  g0 := a.g0.trans n.gg
  keep := fun x o h1 h2 => n.hh _ _ (a.keep x o h1 h2)
  nw := fun x h1 h2 => a.nw x h1 (n.nw x (a.there x h1) h2)
  loc := a.loc
  there := fun x h => by
    cases z : H x with
    | none => exact absurd z (a.there x h)
    | some o => rw [n.hh _ _ z]; simp
theorem At.fresh (a : At E Γ M σ G H) {p : Addr} (h : H p = none) : E.H p = none := by
  cases z : E.H p with
  | none => rfl
  | some o => exact absurd h (a.there p (ne_none z))
theorem At.freshG (a : At E Γ M σ G H) {p : Addr} (h : H p = none) : G p = none := Same.fr a.gh h
theorem At.freshM (a : At E Γ M σ G H) {p : Addr} (h : H p = none) : p ∉ M.map (·.1) := fun hm => by
  obtain ⟨q, hq, e⟩ := List.mem_map.mp hm
  obtain ⟨o, e2, _⟩ := a.own q hq
  rw [e, h] at e2; cases e2
/-- a new owned object -/
theorem At.own1 (a : At E Γ M σ G H) {p : Addr} {o : HO} {r : ORep} (h : H p = none) (hr : r.p o G) : At E Γ ((p, r) :: M) σ G (upd H p o) where
  len := a.len
  env := a.env
  gh := a.gh.trans (same_upd h)
  own := fun q hq => by
    rcases List.mem_cons.mp hq with e | hq
    · subst e; exact ⟨o, upd_same, hr⟩
    · obtain ⟨u, e, r⟩ := a.own q hq
      exact ⟨u, by rw [upd_ne (ne_of_none e h)]; exact e, r⟩
  gn := fun q hq => by
    rcases List.mem_cons.mp hq with e | hq
    · subst e; exact a.freshG h
    · exact a.gn q hq
  nd := List.nodup_cons.mpr ⟨a.freshM h, a.nd⟩
  g0 := a.g0
  keep := fun x u h1 h2 => by
    have := a.keep x u h1 h2
    rw [upd_ne (ne_of_none this h)]; exact this
  nw := a.nw
  loc := fun q hq => by
    rcases List.mem_cons.mp hq with e | hq
    · subst e; exact .inr (a.fresh h)
    · exact a.loc q hq
  there := fun x hx => by
    have := a.there x hx
    by_cases e : x = p
    · subst e; rw [upd_same]; simp
    · rw [upd_ne e]; exact this
/-- where p stands in M, and M with another thing there -/
inductive Fnd : Ow → Addr → ORep → (ORep → Ow) → Prop
  | here {M : Ow} {p : Addr} {r : ORep} : Fnd ((p, r) :: M) p r (fun r' => (p, r') :: M)
  | there {M : Ow} {p : Addr} {r : ORep} {u : ORep → Ow} {q : Addr × ORep} : Fnd M p r u → Fnd (q :: M) p r (fun r' => q :: u r')
theorem Fnd.mem {p : Addr} {r : ORep} {u : ORep → Ow} (f : Fnd M p r u) : (p, r) ∈ M := by
  induction f with
  | here => exact List.mem_cons_self
  | there _ ih => exact List.mem_cons_of_mem _ ih
theorem Fnd.map {p : Addr} {r : ORep} {u : ORep → Ow} (f : Fnd M p r u) (r' : ORep) : (u r').map (·.1) = M.map (·.1) := by
  induction f with
  | here => rfl
  | there _ ih => simp only [List.map_cons, ih]
theorem Fnd.of {p : Addr} {r : ORep} {u : ORep → Ow} (f : Fnd M p r u) (r' : ORep) : ∀ q ∈ u r', q = (p, r') ∨ (q ∈ M ∧ (q.1 ≠ p ∨ ¬ (M.map (·.1)).Nodup)) := by
  induction f with
  | @here M p r =>
    intro q hq
    rcases List.mem_cons.mp hq with e | hq
    · exact .inl e
    · refine .inr ⟨List.mem_cons_of_mem _ hq, ?_⟩
      by_cases e : q.1 = p
      · refine .inr fun nd => ?_
        have := (List.nodup_cons.mp nd).1
        exact this (List.mem_map.mpr ⟨q, hq, e⟩)
      · exact .inl e
  | @there M p r u q0 f ih =>
    intro q hq
    rcases List.mem_cons.mp hq with e | hq
    · subst e
      refine .inr ⟨List.mem_cons_self, ?_⟩
      by_cases e : q.1 = p
      · refine .inr fun nd => ?_
        have := (List.nodup_cons.mp nd).1
        exact this (List.mem_map.mpr ⟨_, f.mem, e.symm⟩)
      · exact .inl e
    · rcases ih q hq with e | ⟨h1, h2⟩
      · exact .inl e
      · refine .inr ⟨List.mem_cons_of_mem _ h1, ?_⟩
        rcases h2 with h2 | h2
        · exact .inl h2
        · exact .inr fun nd => h2 (List.nodup_cons.mp nd).2
theorem At.write (a : At E Γ M σ G H) {p : Addr} {o : HO} {r r' : ORep} {u : ORep → Ow} (f : Fnd M p r u) (hr : r'.p o G) : At E Γ (u r') σ G (upd H p o) where
  len := a.len
  env := a.env
  gh := fun b w e => by
    have : b ≠ p := fun z => by subst z; rw [a.gn _ f.mem] at e; cases e
    rw [upd_ne this]; exact a.gh b w e
  own := fun q hq => by
    rcases f.of r' q hq with e | ⟨h1, h2⟩
    · subst e; exact ⟨o, upd_same, hr⟩
    · rcases h2 with h2 | h2
      · obtain ⟨w, e, r⟩ := a.own q h1
        exact ⟨w, by rw [upd_ne h2]; exact e, r⟩
      · exact absurd a.nd h2
  gn := fun q hq => by
    rcases f.of r' q hq with e | ⟨h1, _⟩
    · subst e; exact a.gn (p, r) f.mem
    · exact a.gn q h1
  nd := by rw [f.map]; exact a.nd
  g0 := a.g0
  keep := fun x w h1 h2 => by
    by_cases e : x = p
    · subst e
      rcases a.loc _ f.mem with z | z
      · exact absurd z h1
      · rw [z] at h2; cases h2
    · rw [upd_ne e]; exact a.keep x w h1 h2
  nw := a.nw
  loc := fun q hq => by
    rcases f.of r' q hq with e | ⟨h1, _⟩
    · subst e; exact a.loc (p, r) f.mem
    · exact a.loc q h1
  there := fun x hx => by
    by_cases e : x = p
    · subst e; rw [upd_same]; simp
    · rw [upd_ne e]; exact a.there x hx
/-- what may be forgotten -/
def Sub (ρ ρ' : Rep) : Prop := ∀ v G, ρ.p v G → ρ'.p v G
theorem Sub.rfl {ρ : Rep} : Sub ρ ρ := fun _ _ h => h
theorem Sub.trans {a b c : Rep} (x : Sub a b) (y : Sub b c) : Sub a c := fun v G h => y v G (x v G h)
def OSub (ρ ρ' : ORep) : Prop := ∀ v G, ρ.p v G → ρ'.p v G
theorem OSub.rfl {ρ : ORep} : OSub ρ ρ := fun _ _ h => h
/-- Γ' says no more than Γ -/
inductive Wk : Gm → Gm → Prop
  | nil : Wk [] []
  | skip {o : Option Rep} {Γ Γ' : Gm} : Wk Γ Γ' → Wk (o :: Γ) (none :: Γ')
  | cons {ρ ρ' : Rep} {Γ Γ' : Gm} : Sub ρ ρ' → Wk Γ Γ' → Wk (some ρ :: Γ) (some ρ' :: Γ')
theorem Wk.len (w : Wk Γ Γ') : Γ.length = Γ'.length := by
  induction w with
  | nil => rfl
  | skip _ ih => simp [ih]
  | cons _ _ ih => simp [ih]
theorem Wk.get (w : Wk Γ Γ') : ∀ (i : Nat) (ρ' : Rep), Γ'[i]? = some (some ρ') → ∃ ρ, Γ[i]? = some (some ρ) ∧ Sub ρ ρ' := by
  induction w with
  | nil => intro i ρ h; simp at h
  | skip _ ih =>
    intro i ρ h
    cases i with
    | zero => simp at h
    | succ i => exact ih i ρ (by simpa using h)
  | @cons r r' _ _ s _ ih =>
    intro i ρ h
    cases i with
    | zero =>
      have e : r' = ρ := by simpa using h
      subst e
      exact ⟨r, by simp, s⟩
    | succ i => exact ih i ρ (by simpa using h)
theorem Wk.refl : ∀ Γ : Gm, Wk Γ Γ
  | [] => .nil
  | none :: Γ => .skip (Wk.refl Γ)
  | some _ :: Γ => .cons Sub.rfl (Wk.refl Γ)
theorem At.weak (a : At E Γ M σ G H) (w : Wk Γ Γ') : At E Γ' M σ G H :=
  ⟨w.len.symm.trans a.len, fun i ρ' h => let ⟨ρ, e, s⟩ := w.get i ρ' h; let ⟨v, e2, r⟩ := a.env i ρ e; ⟨v, e2, s _ _ r⟩, a.gh, a.own, a.gn, a.nd, a.g0, a.keep, a.nw, a.loc, a.there⟩
/-- the name in slot i is given a value -/
theorem At.set (a : At E Γ M σ G H) {i : Nat} {ρ : Rep} {v : V} (h : ρ.p v G) : At E (Γ.set i (some ρ)) M (σ.set i (some v)) G H :=
  ⟨by simp [a.len], fun j ρ' e => by
    by_cases hj : i = j
    · subst hj
      by_cases hl : i < Γ.length
      · rw [List.getElem?_set_self hl] at e
        have e : ρ = ρ' := by simpa using e
        subst e
        exact ⟨v, List.getElem?_set_self (by rw [← a.len]; exact hl), h⟩
      · rw [List.getElem?_eq_none (by simp; omega)] at e; cases e
    · rw [List.getElem?_set_ne hj] at e
      obtain ⟨w, e2, r⟩ := a.env j ρ' e
      exact ⟨w, by rw [List.getElem?_set_ne hj]; exact e2, r⟩, a.gh, a.own, a.gn, a.nd, a.g0, a.keep, a.nw, a.loc, a.there⟩
/-- an owned object is given up: it lasts from now on -/
inductive Rm : Ow → Addr → ORep → Ow → Prop
  | here {M : Ow} {p : Addr} {r : ORep} : Rm ((p, r) :: M) p r M
  | there {M M' : Ow} {p : Addr} {r : ORep} {q : Addr × ORep} : Rm M p r M' → Rm (q :: M) p r (q :: M')
theorem Rm.mem {p : Addr} {r : ORep} (f : Rm M p r M') : (p, r) ∈ M := by
  induction f with
  | here => exact List.mem_cons_self
  | there _ ih => exact List.mem_cons_of_mem _ ih
theorem Rm.sub {p : Addr} {r : ORep} (f : Rm M p r M') : ∀ q ∈ M', q ∈ M := by
  induction f with
  | here => exact fun q hq => List.mem_cons_of_mem _ hq
  | there _ ih =>
    intro q hq
    rcases List.mem_cons.mp hq with e | hq
    · subst e; exact List.mem_cons_self
    · exact List.mem_cons_of_mem _ (ih q hq)
theorem Rm.nd {p : Addr} {r : ORep} (f : Rm M p r M') (nd : (M.map (·.1)).Nodup) : (M'.map (·.1)).Nodup ∧ p ∉ M'.map (·.1) := by
  induction f with
  | here => rw [List.map_cons, List.nodup_cons] at nd; exact ⟨nd.2, nd.1⟩
  | @there M M' p r q f ih =>
    rw [List.map_cons, List.nodup_cons] at nd
    obtain ⟨h1, h2⟩ := ih nd.2
    refine ⟨by
      rw [List.map_cons, List.nodup_cons]
      refine ⟨fun hm => nd.1 ?_, h1⟩
      obtain ⟨z, hz, e⟩ := List.mem_map.mp hm
      exact List.mem_map.mpr ⟨z, f.sub z hz, e⟩, ?_⟩
    rw [List.map_cons, List.mem_cons]
    rintro (e | h)
    · exact nd.1 (List.mem_map.mpr ⟨_, f.mem, e⟩)
    · exact h2 h
theorem At.drop (a : At E Γ M σ G H) {p : Addr} {r : ORep} (f : Rm M p r M') : At E Γ M' σ G H :=
  ⟨a.len, a.env, a.gh, fun q hq => a.own q (f.sub q hq), fun q hq => a.gn q (f.sub q hq), (f.nd a.nd).1, a.g0, a.keep, a.nw, fun q hq => a.loc q (f.sub q hq), a.there⟩
theorem At.freeze (a : At E Γ M σ G H) {p : Addr} {r : ORep} (f : Rm M p r M') (hp : p ∉ E.M) : ∃ o, H p = some o ∧ r.p o G ∧ Same G (upd G p o) ∧ At E Γ M' σ (upd G p o) H := by
  obtain ⟨o, e, ro⟩ := a.own _ f.mem
  have gn := a.gn _ f.mem
  have sg : Same G (upd G p o) := same_upd gn
  have b := a.drop f
  refine ⟨o, e, ro, sg, b.len, fun i ρ h => ?_, fun c u h => ?_, fun q hq => ?_, fun q hq => ?_, b.nd, b.g0.trans sg, b.keep, fun c h1 h2 => ?_, b.loc, b.there⟩
  · obtain ⟨v, e1, r1⟩ := b.env i ρ h
    exact ⟨v, e1, ρ.mono _ _ _ sg r1⟩
  · by_cases z : c = p
    · subst z; rw [upd_same] at h; rw [← h]; exact e
    · rw [upd_ne z] at h; exact b.gh c u h
  · obtain ⟨u, e1, r1⟩ := b.own q hq
    exact ⟨u, e1, q.2.mono _ _ _ sg r1⟩
  · have : q.1 ≠ p := fun z => (f.nd a.nd).2 (List.mem_map.mpr ⟨q, hq, z⟩)
    rw [upd_ne this]; exact b.gn q hq
  · by_cases z : c = p
    · subst z
      rcases a.loc _ f.mem with q | q
      · exact absurd q hp
      · exact absurd q h1
    · rw [upd_ne z] at h2; exact b.nw c h1 h2
end

/-! ### the judgements -/
def WTE (E : En) (Γ : Gm) (M : Ow) (t : TE) (Φ : Rep → Ow → Prop) : Prop :=
  ∀ σ G H, At E Γ M σ G H → ∀ Q : VK, (∀ ρ M' v G' H', Φ ρ M' → Same G G' → At E Γ M' σ G' H' → ρ.p v G' → Q v H') → t σ H Q
def WTT (E : En) (Γ : Gm) (M : Ow) (t : TT) (Φ : Bool → Ow → Prop) : Prop :=
  ∀ σ G H, At E Γ M σ G H → ∀ Q : Bool → Hp → Prop, (∀ k M' G' H', Φ k M' → Same G G' → At E Γ M' σ G' H' → Q k H') → t σ H Q
def Reps : List Rep → List V → Hp → Prop
  | [], [], _ => True
  | ρ :: ρs, v :: vs, G => ρ.p v G ∧ Reps ρs vs G
  | _, _, _ => False
theorem Reps.mono {G G' : Hp} (s : Same G G') : ∀ {ρs : List Rep} {vs : List V}, Reps ρs vs G → Reps ρs vs G'
  | [], [], _ => trivial
  | _ :: _, _ :: _, h => ⟨Rep.mono _ _ _ _ s h.1, Reps.mono s h.2⟩
  | [], _ :: _, h => h.elim
  | _ :: _, [], h => h.elim
theorem Reps.length {G : Hp} : ∀ {ρs : List Rep} {vs : List V}, Reps ρs vs G → ρs.length = vs.length
  | [], [], _ => rfl
  | _ :: _, _ :: _, h => congrArg Nat.succ (Reps.length h.2)
  | [], _ :: _, h => h.elim
  | _ :: _, [], h => h.elim
theorem Reps.get {G : Hp} : ∀ {ρs : List Rep} {vs : List V} {i : Nat} {ρ : Rep}, Reps ρs vs G → ρs[i]? = some ρ → ∃ v, vs[i]? = some v ∧ ρ.p v G
  | [], [], i, ρ, _, e => by simp at e
  | r :: _, v :: _, 0, ρ, h, e => by
    have e : r = ρ := by simpa using e
    subst e
    exact ⟨v, by simp, h.1⟩
  | _ :: _, _ :: _, i + 1, ρ, h, e => by
    obtain ⟨v, e1, r⟩ := Reps.get (i := i) (ρ := ρ) h.2 (by simpa using e)
    exact ⟨v, by simpa using e1, r⟩
  | [], _ :: _, _, _, h, _ => h.elim
  | _ :: _, [], _, _, h, _ => h.elim
theorem Reps.get2 {G : Hp} {ρs : List Rep} {vs : List V} {i : Nat} {v : V} (h : Reps ρs vs G) (e : vs[i]? = some v) : ∃ ρ, ρs[i]? = some ρ ∧ ρ.p v G := by
  have hl := h.length
  have hi : i < vs.length := (List.getElem?_eq_some_iff.mp e).1
  obtain ⟨w, e1, r⟩ := h.get (i := i) (ρ := ρs[i]) (by simp [hl, hi])
  rw [e] at e1; cases e1
  exact ⟨_, by simp [hl, hi], r⟩
theorem Reps.app {G : Hp} : ∀ {ρs ρs' : List Rep} {vs vs' : List V}, Reps ρs vs G → Reps ρs' vs' G → Reps (ρs ++ ρs') (vs ++ vs') G
  | [], _, [], _, _, h' => h'
  | _ :: _, _, _ :: _, _, h, h' => ⟨h.1, Reps.app h.2 h'⟩
  | [], _, _ :: _, _, h, _ => h.elim
  | _ :: _, _, [], _, h, _ => h.elim
theorem Reps.set {G : Hp} {ρ : Rep} {v : V} (r : ρ.p v G) : ∀ {ρs : List Rep} {vs : List V} (i : Nat), Reps ρs vs G → Reps (ρs.set i ρ) (vs.set i v) G
  | [], [], _, _ => trivial
  | _ :: _, _ :: _, 0, h => ⟨r, h.2⟩
  | _ :: _, _ :: _, i + 1, h => ⟨h.1, Reps.set r i h.2⟩
  | [], _ :: _, _, h => h.elim
  | _ :: _, [], _, h => h.elim
inductive SubL : List Rep → List Rep → Prop
  | nil : SubL [] []
  | cons {ρ ρ' : Rep} {ρs ρs' : List Rep} : Sub ρ ρ' → SubL ρs ρs' → SubL (ρ :: ρs) (ρ' :: ρs')
theorem SubL.reps {ρs ρs' : List Rep} (s : SubL ρs ρs') : ∀ {vs : List V} {G : Hp}, Reps ρs vs G → Reps ρs' vs G := by
  induction s with
  | nil => intro vs G h; exact h
  | cons h1 _ ih =>
    intro vs G h
    cases vs with
    | nil => exact h.elim
    | cons v vs => exact ⟨h1 _ _ h.1, ih h.2⟩
theorem SubL.refl : ∀ ρs : List Rep, SubL ρs ρs
  | [] => .nil
  | _ :: ρs => .cons Sub.rfl (SubL.refl ρs)
def WTA (E : En) (Γ : Gm) (M : Ow) (t : TA) (Φ : List Rep → Ow → Prop) : Prop :=
  ∀ σ G H, At E Γ M σ G H → ∀ Q : List V → Hp → Prop, (∀ ρs M' vs G' H', Φ ρs M' → Same G G' → At E Γ M' σ G' H' → Reps ρs vs G' → Q vs H') → t σ H Q
/-- what is wanted behind a statement, of what is known -/
structure Ed where
  nx : Gm → Ow → Prop
  rt : Rep → Ow → Prop
  bk : Gm → Ow → Prop := fun _ _ => False
  ct : Gm → Ow → Prop := fun _ _ => False
structure Cov (E : En) (G : Hp) (Ψ : Ed) (D : Ends) : Prop where
  nx : ∀ Γ M, Ψ.nx Γ M → ∀ σ G' H, Same G G' → At E Γ M σ G' H → D.nx σ H
  rt : ∀ ρ M, Ψ.rt ρ M → ∀ v G' H, Same G G' → At E [] M [] G' H → ρ.p v G' → D.rt v H
  bk : ∀ Γ M, Ψ.bk Γ M → ∀ σ G' H, Same G G' → At E Γ M σ G' H → D.bk σ H
  ct : ∀ Γ M, Ψ.ct Γ M → ∀ σ G' H, Same G G' → At E Γ M σ G' H → D.ct σ H
theorem Cov.mono {E : En} {G G' : Hp} {Ψ : Ed} {D : Ends} (s : Same G G') (c : Cov E G Ψ D) : Cov E G' Ψ D :=
  ⟨fun Γ M h σ G2 H s2 => c.nx Γ M h σ G2 H (s.trans s2), fun ρ M h v G2 H s2 => c.rt ρ M h v G2 H (s.trans s2), fun Γ M h σ G2 H s2 => c.bk Γ M h σ G2 H (s.trans s2), fun Γ M h σ G2 H s2 => c.ct Γ M h σ G2 H (s.trans s2)⟩
theorem At.env0 {E : En} {Γ : Gm} {M : Ow} {σ : L2.St} {G H : Hp} (a : At E Γ M σ G H) : At E [] M [] G H :=
  ⟨rfl, fun i ρ h => by simp at h, a.gh, a.own, a.gn, a.nd, a.g0, a.keep, a.nw, a.loc, a.there⟩
def WTS (E : En) (Γ : Gm) (M : Ow) (t : TS) (Ψ : Ed) : Prop :=
  ∀ σ G H, At E Γ M σ G H → ∀ D : Ends, Cov E G Ψ D → t D σ H
def WTG (E : En) (Γ : Gm) (M : Ow) (t : TG) (ρ : Rep) (Φ : Gm → Ow → Prop) : Prop :=
  ∀ σ G H, At E Γ M σ G H → ∀ v, ρ.p v G → ∀ Q : L2.St → Hp → Prop, (∀ Γ' M' σ' G' H', Φ Γ' M' → Same G G' → At E Γ' M' σ' G' H' → Q σ' H') → t v σ H Q
def WTGs (E : En) (Γ : Gm) (M : Ow) (t : TGs) (ρs : List Rep) (Φ : Gm → Ow → Prop) : Prop :=
  ∀ σ G H, At E Γ M σ G H → ∀ vs, Reps ρs vs G → ∀ Q : L2.St → Hp → Prop, (∀ Γ' M' σ' G' H', Φ Γ' M' → Same G G' → At E Γ' M' σ' G' H' → Q σ' H') → t vs σ H Q

/-! ### of the grammar: each piece has its weakest reading -/
def tW (X : Cx) (e : Expr) : TE := fun σ H Q => ∀ (pins : List (Addr × Obj)) (s : Shared), L2.Inv X pins σ H s → wpAny (model X.prog X.w) X.A (eval e X.env) (EP X pins σ Q) X.xe s
theorem pe_w {X : Cx} {e : Expr} : PE X e (tW X e) := ⟨fun pins s σ H Q I h => h pins s I⟩
def tWT (X : Cx) (e : Expr) : TT := fun σ H Q => ∀ (pins : List (Addr × Obj)) (s : Shared), L2.Inv X pins σ H s → wpAny (model X.prog X.w) X.A (isTrue e X.env (eval e X.env)) (TP X pins σ Q) X.xe s
theorem pt_w {X : Cx} {e : Expr} : PT X e (tWT X e) := ⟨fun pins s σ H Q I h => h pins s I⟩
def tWP (X : Cx) (e : Expr) : TT := fun σ H Q => ∀ (whole : Sem Value) (pins : List (Addr × Obj)) (s : Shared), L2.Inv X pins σ H s → wpAny (model X.prog X.w) X.A (isTrue e X.env whole) (TP X pins σ Q) X.xe s
theorem pw_w {X : Cx} {e : Expr} : PW X e (tWP X e) := ⟨fun w pins s σ H Q I h => h w pins s I⟩
def tWA (X : Cx) (es : List Expr) : TA := fun σ H Q => ∀ (pos : Pos) (pins : List (Addr × Obj)) (s : Shared), L2.Inv X pins σ H s → wpAny (model X.prog X.w) X.A (spliced (backTo pos (starEach es X.env))) (AP X pins σ Q) X.xe s
theorem pa_w {X : Cx} {es : List Expr} : PA X es (tWA X es) := ⟨fun pos pins s σ H Q I h => h pos pins s I⟩
def tWK (X : Cx) (es : List Keyword) : TA := fun σ H Q => ∀ (pos : Pos) (pins : List (Addr × Obj)) (s : Shared), L2.Inv X pins σ H s → wpAny (model X.prog X.w) X.A (evalAll ((backToKw pos (keywordEach es X.env)).map (·.2))) (AP X pins σ Q) X.xe s
theorem pk_w {X : Cx} {es : List Keyword} : PK X es (tWK X es) := ⟨fun pos pins s σ H Q I h => h pos pins s I⟩
def tWS (X : Cx) (st : Stmt) : TS := fun D σ H => ∀ (pins : List (Addr × Obj)) (s : Shared), L2.Inv X pins σ H s → wpAny (model X.prog X.w) X.A (exec st X.env) (SP X pins D) X.xe s
theorem ps_w {X : Cx} {e : Stmt} : PS X e (tWS X e) := ⟨fun pins s σ H D I h => h pins s I⟩
def tWSs (X : Cx) (st : List Stmt) : TS := fun D σ H => ∀ (pins : List (Addr × Obj)) (s : Shared), L2.Inv X pins σ H s → wpAny (model X.prog X.w) X.A (execs st X.env) (SP X pins D) X.xe s
theorem pss_w {X : Cx} {e : List Stmt} : PSs X e (tWSs X e) := ⟨fun pins s σ H D I h => h pins s I⟩
def tWG (X : Cx) (tg : Expr) : TG := fun v σ H Q => ∀ (pins : List (Addr × Obj)) (s : Shared) (u : Value), L2.Inv X pins σ H s → RelV v u → wpAny (model X.prog X.w) X.A (assign tg X.env u) (fun _ s' => ∃ σ' H', L2.Inv X pins σ' H' s' ∧ Q σ' H') X.xe s
theorem pg_w {X : Cx} {tg : Expr} : PG X tg (tWG X tg) := ⟨fun pins s σ H v u Q I r h => h pins s u I r⟩
def tWGs (X : Cx) (ts : List Expr) : TGs := fun vs σ H Q => ∀ (pins : List (Addr × Obj)) (s : Shared) (us : List Value), L2.Inv X pins σ H s → Vals vs us → wpAny (model X.prog X.w) X.A (assignInOrder ((assignEach ts X.env).map (·.2)) us) (fun _ s' => ∃ σ' H', L2.Inv X pins σ' H' s' ∧ Q σ' H') X.xe s
theorem pgs_w {X : Cx} {ts : List Expr} : PGs X ts (tWGs X ts) := ⟨fun pins s σ H vs us Q I r h => h pins s us I r⟩

def WE (X : Cx) (E : En) (Γ : Gm) (M : Ow) (e : Expr) (Φ : Rep → Ow → Prop) : Prop := WTE E Γ M (tW X e) Φ
def WT (X : Cx) (E : En) (Γ : Gm) (M : Ow) (e : Expr) (Φ : Bool → Ow → Prop) : Prop := WTT E Γ M (tWT X e) Φ
def WP (X : Cx) (E : En) (Γ : Gm) (M : Ow) (e : Expr) (Φ : Bool → Ow → Prop) : Prop := WTT E Γ M (tWP X e) Φ
def WA (X : Cx) (E : En) (Γ : Gm) (M : Ow) (es : List Expr) (Φ : List Rep → Ow → Prop) : Prop := WTA E Γ M (tWA X es) Φ
def WK (X : Cx) (E : En) (Γ : Gm) (M : Ow) (es : List Keyword) (Φ : List Rep → Ow → Prop) : Prop := WTA E Γ M (tWK X es) Φ
def WS (X : Cx) (E : En) (Γ : Gm) (M : Ow) (st : Stmt) (Ψ : Ed) : Prop := WTS E Γ M (tWS X st) Ψ
def WSs (X : Cx) (E : En) (Γ : Gm) (M : Ow) (st : List Stmt) (Ψ : Ed) : Prop := WTS E Γ M (tWSs X st) Ψ
def WG (X : Cx) (E : En) (Γ : Gm) (M : Ow) (tg : Expr) (ρ : Rep) (Φ : Gm → Ow → Prop) : Prop := WTG E Γ M (tWG X tg) ρ Φ
def WGs (X : Cx) (E : En) (Γ : Gm) (M : Ow) (ts : List Expr) (ρs : List Rep) (Φ : Gm → Ow → Prop) : Prop := WTGs E Γ M (tWGs X ts) ρs Φ
section
variable {X : Cx} {E : En} {Γ : Gm} {M : Ow}
theorem we_of {e : Expr} {t : TE} {Φ : Rep → Ow → Prop} (hp : PE X e t) (h : WTE E Γ M t Φ) : WE X E Γ M e Φ := fun σ G H a Q k pins s I => hp.run pins s σ H Q I (h σ G H a Q k)
theorem wt_of {e : Expr} {t : TT} {Φ : Bool → Ow → Prop} (hp : PT X e t) (h : WTT E Γ M t Φ) : WT X E Γ M e Φ := fun σ G H a Q k pins s I => hp.run pins s σ H Q I (h σ G H a Q k)
theorem wp_of {e : Expr} {t : TT} {Φ : Bool → Ow → Prop} (hp : PW X e t) (h : WTT E Γ M t Φ) : WP X E Γ M e Φ := fun σ G H a Q k w pins s I => hp.run w pins s σ H Q I (h σ G H a Q k)
theorem wa_of {e : List Expr} {t : TA} {Φ : List Rep → Ow → Prop} (hp : PA X e t) (h : WTA E Γ M t Φ) : WA X E Γ M e Φ := fun σ G H a Q k pos pins s I => hp.run pos pins s σ H Q I (h σ G H a Q k)
theorem wk_of {e : List Keyword} {t : TA} {Φ : List Rep → Ow → Prop} (hp : PK X e t) (h : WTA E Γ M t Φ) : WK X E Γ M e Φ := fun σ G H a Q k pos pins s I => hp.run pos pins s σ H Q I (h σ G H a Q k)
theorem ws_of {e : Stmt} {t : TS} {Ψ : Ed} (hp : PS X e t) (h : WTS E Γ M t Ψ) : WS X E Γ M e Ψ := fun σ G H a D k pins s I => hp.run pins s σ H D I (h σ G H a D k)
theorem wss_of {e : List Stmt} {t : TS} {Ψ : Ed} (hp : PSs X e t) (h : WTS E Γ M t Ψ) : WSs X E Γ M e Ψ := fun σ G H a D k pins s I => hp.run pins s σ H D I (h σ G H a D k)
theorem wg_of {e : Expr} {t : TG} {ρ : Rep} {Φ : Gm → Ow → Prop} (hp : PG X e t) (h : WTG E Γ M t ρ Φ) : WG X E Γ M e ρ Φ := fun σ G H a v r Q k pins s u I rv => hp.run pins s σ H v u Q I rv (h σ G H a v r Q k)
theorem wgs_of {e : List Expr} {t : TGs} {ρs : List Rep} {Φ : Gm → Ow → Prop} (hp : PGs X e t) (h : WTGs E Γ M t ρs Φ) : WGs X E Γ M e ρs Φ := fun σ G H a v r Q k pins s u I rv => hp.run pins s σ H v u Q I rv (h σ G H a v r Q k)
end
end MM

namespace MM
open PySem L2
/-! ### representations of plain values -/
def RI (i : Int) : Rep := ⟨fun v _ => v = .int i, fun _ _ _ _ h => h⟩
def RB (b : Bool) : Rep := ⟨fun v _ => v = .bl b, fun _ _ _ _ h => h⟩
def RS (s : Str) : Rep := ⟨fun v _ => v = .str s, fun _ _ _ _ h => h⟩
def RN : Rep := ⟨fun v _ => v = .non, fun _ _ _ _ h => h⟩
def RV (w : V) : Rep := ⟨fun v _ => v = w, fun _ _ _ _ h => h⟩
def RRef (p : Addr) : Rep := ⟨fun v _ => v = .ref p, fun _ _ _ _ h => h⟩
/-- an int or None -/
def RO (o : Option Int) : Rep := match o with
  | none => RN
  | some i => RI i
theorem same_seqT {K : PySem.W.Frag} {H H' : Hp} {a : Addr} {xs : List V} (e : Same H H') (h : SqT K H a xs) : SqT K H' a xs := by
  rcases h with (h | ⟨o, h⟩) | h
  · exact .inl (.inl (e _ _ h))
  · exact .inl (.inr ⟨o, e _ _ h⟩)
  · exact .inr h
/-- a list that stays as it is; a tuple -/
def RL (K : PySem.W.Frag) (ρs : List Rep) : Rep := ⟨fun v G => ∃ a vs, v = .ref a ∧ SqL K G a vs ∧ Reps ρs vs G, fun v G G' s ⟨a, vs, e, h, r⟩ => ⟨a, vs, e, Same.seq s h, r.mono s⟩⟩
def RT (K : PySem.W.Frag) (ρs : List Rep) : Rep := ⟨fun v G => ∃ a vs, v = .ref a ∧ SqT K G a vs ∧ Reps ρs vs G, fun v G G' s ⟨a, vs, e, h, r⟩ => ⟨a, vs, e, same_seqT s h, r.mono s⟩⟩
/-- .. that stands in the lasting part -/
def RLt (ρs : List Rep) : Rep := ⟨fun v G => ∃ a vs, v = .ref a ∧ G a = some (.lst vs) ∧ Reps ρs vs G, fun v G G' s ⟨a, vs, e, h, r⟩ => ⟨a, vs, e, s _ _ h, r.mono s⟩⟩
theorem sub_lt {K : PySem.W.Frag} {ρs : List Rep} : Sub (RLt ρs) (RL K ρs) := fun v G ⟨a, vs, e, h, r⟩ => ⟨a, vs, e, .inl (.inl h), r⟩
def RTt (ρs : List Rep) : Rep := ⟨fun v G => ∃ a vs, v = .ref a ∧ G a = some (.tup vs) ∧ Reps ρs vs G, fun v G G' s ⟨a, vs, e, h, r⟩ => ⟨a, vs, e, s _ _ h, r.mono s⟩⟩
theorem sub_tt {K : PySem.W.Frag} {ρs : List Rep} : Sub (RTt ρs) (RT K ρs) := fun v G ⟨a, vs, e, h, r⟩ => ⟨a, vs, e, .inl (.inl h), r⟩
/-- an owned list -/
def OL (ρs : List Rep) : ORep := ⟨fun o G => ∃ vs, o = .lst vs ∧ Reps ρs vs G, fun o G G' s ⟨vs, e, r⟩ => ⟨vs, e, r.mono s⟩⟩
/-- attributes -/
def FRep : List (Str × Rep) → List (Str × V) → Hp → Prop
  | [], [], _ => True
  | (f, ρ) :: l, (g, v) :: m, G => f = g ∧ ρ.p v G ∧ FRep l m G
  | _, _, _ => False
theorem FRep.mono {G G' : Hp} (s : Same G G') : ∀ {l : List (Str × Rep)} {m : List (Str × V)}, FRep l m G → FRep l m G'
  | [], [], _ => trivial
  | (_, ρ) :: _, (_, _) :: _, h => ⟨h.1, ρ.mono _ _ _ s h.2.1, FRep.mono s h.2.2⟩
  | [], _ :: _, h => h.elim
  | _ :: _, [], h => h.elim
theorem FRep.len {G : Hp} : ∀ {l : List (Str × Rep)} {m : List (Str × V)}, FRep l m G → l.length = m.length
  | [], [], _ => rfl
  | (_, _) :: _, (_, _) :: _, h => congrArg Nat.succ (FRep.len h.2.2)
  | [], _ :: _, h => h.elim
  | _ :: _, [], h => h.elim
theorem FRep.look {G : Hp} {f : Str} {ρ : Rep} : ∀ {l : List (Str × Rep)} {m : List (Str × V)}, FRep l m G → l.lookup f = some ρ → ∃ v, m.lookup f = some v ∧ ρ.p v G
  | [], [], _, e => by simp at e
  | (g, r) :: l, (g', v) :: m, h, e => by
    obtain ⟨h1, h2, h3⟩ := h
    subst h1
    rw [List.lookup_cons] at e ⊢
    cases q : f == g with
    | true =>
      rw [q] at e
      have e : r = ρ := by simpa using e
      subst e
      exact ⟨v, rfl, h2⟩
    | false =>
      rw [q] at e
      exact FRep.look (l := l) (m := m) h3 e
  | [], _ :: _, h, _ => h.elim
  | _ :: _, [], h, _ => h.elim
theorem FRep.miss {G : Hp} {f : Str} : ∀ {l : List (Str × Rep)} {m : List (Str × V)}, FRep l m G → l.lookup f = none → m.lookup f = none
  | [], [], _, _ => rfl
  | (g, r) :: l, (g', v) :: m, h, e => by
    obtain ⟨h1, h2, h3⟩ := h
    subst h1
    rw [List.lookup_cons] at e ⊢
    cases q : f == g with
    | true => rw [q] at e; simp at e
    | false => rw [q] at e; exact FRep.miss (l := l) (m := m) h3 e
  | [], _ :: _, h, _ => h.elim
  | _ :: _, [], h, _ => h.elim
def putR (f : Str) (ρ : Rep) : List (Str × Rep) → List (Str × Rep)
  | [] => [(f, ρ)]
  | (g, r) :: l => if g = f then (g, ρ) :: l else (g, r) :: putR f ρ l
theorem putF_cons (f g : Str) (v w : V) (l : List (Str × V)) : putF f v ((g, w) :: l) = if g = f then (g, v) :: l else (g, w) :: putF f v l := rfl
theorem FRep.put {G : Hp} {f : Str} {ρ : Rep} {v : V} (r : ρ.p v G) : ∀ {l : List (Str × Rep)} {m : List (Str × V)}, FRep l m G → FRep (putR f ρ l) (putF f v m) G
  | [], [], _ => ⟨rfl, r, trivial⟩
  | (g, r0) :: l, (g', w) :: m, h => by
    obtain ⟨h1, h2, h3⟩ := h
    subst h1
    rw [putF_cons]
    unfold putR
    by_cases q : g = f
    · rw [if_pos q, if_pos q]; exact ⟨rfl, r, h3⟩
    · rw [if_neg q, if_neg q]; exact ⟨rfl, h2, FRep.put r h3⟩
  | [], _ :: _, h => h.elim
  | _ :: _, [], h => h.elim
/-- an instance that stays as it is; an owned one -/
def RIns (C : Addr) (l : List (Str × Rep)) : Rep := ⟨fun v G => ∃ a dx fs, v = .ref a ∧ G a = some (.ins C dx fs) ∧ FRep l fs G, fun v G G' s ⟨a, dx, fs, e, h, r⟩ => ⟨a, dx, fs, e, s _ _ h, r.mono s⟩⟩
def OIns (C : Addr) (l : List (Str × Rep)) : ORep := ⟨fun o G => ∃ dx fs, o = .ins C dx fs ∧ FRep l fs G, fun o G G' s ⟨dx, fs, e, r⟩ => ⟨dx, fs, e, r.mono s⟩⟩

/-! ### names -/
structure Rd1 (X : Cx) (i : Nat) (x : Str) : Prop where
  at_ : X.N[i]? = some x
  vis : Vis X.env.scope x
  hd : (x == ("__debug__" : Str)) = false
  hcd : (x == ("__classdict__" : Str)) = false
structure Wr1 (X : Cx) (i : Nat) (x : Str) : Prop where
  nd : X.N.Nodup
  at_ : X.N[i]? = some x
  loc : Loc X.env.scope x
  fn : X.fn x = true ∨ X.env.scope.names.lookup x = some .local
section
variable {X : Cx} {E : En} {Γ : Gm} {M : Ow} {a b e : Expr} {pos : Pos} {Φ : Rep → Ow → Prop}
theorem wte_var {i : Nat} {ρ : Rep} (h : Γ[i]? = some (some ρ)) (k : Φ ρ M) : WTE E Γ M (tVar i) Φ := fun σ G H a Q q =>
  let ⟨v, e, r⟩ := a.env i ρ h; ⟨v, e, q ρ M v G H k (Same.refl _) a r⟩
theorem wte_c {v : V} {ρ : Rep} (h : ∀ G, ρ.p v G) (k : Φ ρ M) : WTE E Γ M (tC v) Φ := fun σ G H a Q q => q ρ M v G H k (Same.refl _) a (h G)
theorem we_var (i : Nat) {x : Str} {ρ : Rep} (r : Rd1 X i x) (h : Γ[i]? = some (some ρ)) (k : Φ ρ M) : WE X E Γ M (.Name x pos) Φ := we_of (pe_var r.at_ r.vis r.hd r.hcd) (wte_var h k)
theorem we_int {i : Int} {j} (k : Φ (RI i) M) : WE X E Γ M (.Constant (.int i) j pos) Φ := we_of pe_int (wte_c (fun _ => rfl) k)
theorem we_bl {i : Bool} {j} (k : Φ (RB i) M) : WE X E Γ M (.Constant (.bool i) j pos) Φ := we_of pe_bl (wte_c (fun _ => rfl) k)
theorem we_str {i : Str} {j} (k : Φ (RS i) M) : WE X E Γ M (.Constant (.str i) j pos) Φ := we_of pe_str (wte_c (fun _ => rfl) k)
theorem we_non {j} (k : Φ RN M) : WE X E Γ M (.Constant .none j pos) Φ := we_of pe_non (wte_c (fun _ => rfl) k)
/-- a value of the module's -/
theorem we_glob {x : Str} {v : V} {u : Value} (hg : Gl X x) (hm : X.mg x = some u) (r : RelV v u) {ρ : Rep} (h : ∀ G, ρ.p v G) (k : Φ ρ M) (hd : (x == ("__debug__" : Str)) = false := by decide) : WE X E Γ M (.Name x pos) Φ := we_of (pe_glob hg hm r hd) (wte_c h k)

/-! ### operators -/
def OpW (E : En) (Γ : Gm) (M : Ow) (r : R2) (ρa ρb : Rep) (Φ : Rep → Ow → Prop) : Prop :=
  ∀ σ G H, At E Γ M σ G H → ∀ x y, ρa.p x G → ρb.p y G → ∀ Q : VK, (∀ ρ M' v G' H', Φ ρ M' → Same G G' → At E Γ M' σ G' H' → ρ.p v G' → Q v H') → r x y H Q
/-- a pure operation -/
def OpV (r : R2) (ρa ρb ρ : Rep) : Prop := ∀ x y G H, Same G H → ρa.p x G → ρb.p y G → ∀ Q : VK, (∀ v G' H', New G H G' H' → ρ.p v G' → Q v H') → r x y H Q
theorem opw_of {r : R2} {ρa ρb ρ : Rep} (h : OpV r ρa ρb ρ) (k : Φ ρ M) : OpW E Γ M r ρa ρb Φ := fun σ G H a x y hx hy Q q =>
  h x y G H a.gh hx hy Q fun v G' H' n hr => q ρ M v G' H' k n.gg (a.new n) hr
theorem wte_op {r : R2} {ta tb : TE} (h : WTE E Γ M ta fun ρa Ma => WTE E Γ Ma tb fun ρb Mb => OpW E Γ Mb r ρa ρb Φ) : WTE E Γ M (tOp r ta tb) Φ := fun σ G H a Q k =>
  h σ G H a _ fun ρa Ma x G1 H1 h1 s1 a1 r1 => h1 σ G1 H1 a1 _ fun ρb Mb y G2 H2 h2 s2 a2 r2 =>
    h2 σ G2 H2 a2 x y (ρa.mono _ _ _ s2 r1) r2 Q fun ρ M' v G' H' k' s3 => k ρ M' v G' H' k' ((s1.trans s2).trans s3)
theorem we_bin {op : Operator} {r : R2} (ho : OpR X (binaryOp op) r) (h : WE X E Γ M a fun ρa Ma => WE X E Γ Ma b fun ρb Mb => OpW E Γ Mb r ρa ρb Φ) : WE X E Γ M (.BinOp a op b pos) Φ :=
  we_of (pe_op ho pe_w pe_w) (wte_op h)
theorem we_cmp {op : CmpOp} {r : R2} (ho : OpR X (compareOp op) r) (hm : behindInMarks op b = false) (h : WE X E Γ M a fun ρa Ma => WE X E Γ Ma b fun ρb Mb => OpW E Γ Mb r ρa ρb Φ) : WE X E Γ M (.Compare a [op] [b] pos) Φ :=
  we_of (pe_cmpR ho pe_w pe_w hm) (wte_op h)
theorem wtt_test {t : TE} {Φ : Bool → Ow → Prop} (h : WTE E Γ M t fun ρ M' => ∃ k, Sub ρ (RB k) ∧ Φ k M') : WTT E Γ M (tTest t) Φ := fun σ G H a Q q =>
  h σ G H a _ fun ρ M' v G' H' ⟨k, s, hk⟩ s1 a1 r => ⟨k, s _ _ r, q k M' G' H' hk s1 a1⟩
theorem wt_cmp {op : CmpOp} {r : R2} {Φ : Bool → Ow → Prop} (ho : OpR X (compareOp op) r) (hm : behindInMarks op b = false)
    (h : WE X E Γ M a fun ρa Ma => WE X E Γ Ma b fun ρb Mb => OpW E Γ Mb r ρa ρb fun ρ M' => ∃ k, Sub ρ (RB k) ∧ Φ k M') : WT X E Γ M (.Compare a [op] [b] pos) Φ :=
  wt_of (pt_cmpR ho pe_w pe_w hm) (wtt_test (wte_op h))
/-- an expression that gives a bool -/
theorem wt_val {Φ : Bool → Ow → Prop} (h : WE X E Γ M e fun ρ M' => ∃ k, Sub ρ (RB k) ∧ Φ k M') (he : ∀ whole, isTrue e X.env whole = (do let v ← whole; standAt e.pos; holding [v] (truthy v)) := by intro _; rfl) : WT X E Γ M e Φ :=
  wt_of (pt_val pe_w he) (wtt_test h)
/-- an expression by its truth -/
theorem wt_truth {Φ : Bool → Ow → Prop} (h : WE X E Γ M e fun ρ M' => ∃ k, (∀ v G, ρ.p v G → TruV X.K v G k) ∧ (∀ v G H, Same G H → TruV X.K v G k → TruV X.K v H k) ∧ Φ k M') (he : ∀ whole, isTrue e X.env whole = (do let v ← whole; standAt e.pos; holding [v] (truthy v)) := by intro _; rfl) : WT X E Γ M e Φ :=
  wt_of (pt_truth pe_w he) (fun σ G H a Q q => h σ G H a _ fun ρ M' v G' H' ⟨k, s, s', hk⟩ s1 a1 r => ⟨k, s' _ _ _ a1.gh (s _ _ r), q k M' G' H' hk s1 a1⟩)
theorem wt_not {Φ : Bool → Ow → Prop} (h : WT X E Γ M a fun k M' => Φ (!k) M') : WT X E Γ M (.UnaryOp .Not a pos) Φ :=
  wt_of (pt_not pt_w) (fun σ G H at' Q q => h σ G H at' _ fun k M' G' H' hk s1 a1 => q (!k) M' G' H' hk s1 a1)
theorem wt_bool {Φ : Bool → Ow → Prop} (h : WP X E Γ M e Φ) : WT X E Γ M e Φ := wt_of (PW.pt pw_w) h
theorem wp_and1 {Φ : Bool → Ow → Prop} (h : WT X E Γ M a Φ) : WP X E Γ M (.BoolOp .And [a] pos) Φ := wp_of (pw_and1 pt_w) h
theorem wp_or1 {Φ : Bool → Ow → Prop} (h : WT X E Γ M a Φ) : WP X E Γ M (.BoolOp .Or [a] pos) Φ := wp_of (pw_or1 pt_w) h
theorem wp_and {rest : List Expr} {Φ : Bool → Ow → Prop} (h : WT X E Γ M a fun k M' => (k = true → WP X E Γ M' (.BoolOp .And (b :: rest) pos) Φ) ∧ (k = false → Φ false M')) : WP X E Γ M (.BoolOp .And (a :: b :: rest) pos) Φ :=
  wp_of (pw_and pt_w pw_w) (fun σ G H at' Q q => h σ G H at' _ fun k M' G' H' hk s1 a1 => by
    cases k with
    | true =>
      show tWP X _ σ H' Q
      exact hk.1 rfl σ G' H' a1 Q fun k2 M2 G2 H2 h2 s2 => q k2 M2 G2 H2 h2 (s1.trans s2)
    | false =>
      show Q false H'
      exact q false M' G' H' (hk.2 rfl) s1 a1)
theorem wp_or {rest : List Expr} {Φ : Bool → Ow → Prop} (h : WT X E Γ M a fun k M' => (k = false → WP X E Γ M' (.BoolOp .Or (b :: rest) pos) Φ) ∧ (k = true → Φ true M')) : WP X E Γ M (.BoolOp .Or (a :: b :: rest) pos) Φ :=
  wp_of (pw_or pt_w pw_w) (fun σ G H at' Q q => h σ G H at' _ fun k M' G' H' hk s1 a1 => by
    cases k with
    | false =>
      show tWP X _ σ H' Q
      exact hk.1 rfl σ G' H' a1 Q fun k2 M2 G2 H2 h2 s2 => q k2 M2 G2 H2 h2 (s1.trans s2)
    | true =>
      show Q true H'
      exact q true M' G' H' (hk.2 rfl) s1 a1)
/-- .. as values: all but the last are bools -/
theorem we_and1 {op} (h : WE X E Γ M a Φ) : WE X E Γ M (.BoolOp op [a] pos) Φ := we_of (pe_one pe_w) h
theorem we_and {rest : List Expr} (h : WE X E Γ M a fun ρ M' => ∃ k, Sub ρ (RB k) ∧ (k = true → WE X E Γ M' (.BoolOp .And (b :: rest) pos) Φ) ∧ (k = false → Φ (RB false) M')) : WE X E Γ M (.BoolOp .And (a :: b :: rest) pos) Φ :=
  we_of (pe_and pe_w pe_w) (fun σ G H at' Q q => h σ G H at' _ fun ρ M' v G' H' ⟨k, sb, hk1, hk2⟩ s1 a1 r => ⟨k, sb _ _ r, by
    cases k with
    | true =>
      show tW X _ σ H' Q
      exact hk1 rfl σ G' H' a1 Q fun k2 M2 v2 G2 H2 h2 s2 => q k2 M2 v2 G2 H2 h2 (s1.trans s2)
    | false =>
      show Q (.bl false) H'
      exact q (RB false) M' _ G' H' (hk2 rfl) s1 a1 rfl⟩)
theorem we_or {rest : List Expr} (h : WE X E Γ M a fun ρ M' => ∃ k, Sub ρ (RB k) ∧ (k = false → WE X E Γ M' (.BoolOp .Or (b :: rest) pos) Φ) ∧ (k = true → Φ (RB true) M')) : WE X E Γ M (.BoolOp .Or (a :: b :: rest) pos) Φ :=
  we_of (pe_or pe_w pe_w) (fun σ G H at' Q q => h σ G H at' _ fun ρ M' v G' H' ⟨k, sb, hk1, hk2⟩ s1 a1 r => ⟨k, sb _ _ r, by
    cases k with
    | false =>
      show tW X _ σ H' Q
      exact hk1 rfl σ G' H' a1 Q fun k2 M2 v2 G2 H2 h2 s2 => q k2 M2 v2 G2 H2 h2 (s1.trans s2)
    | true =>
      show Q (.bl true) H'
      exact q (RB true) M' _ G' H' (hk2 rfl) s1 a1 rfl⟩)
theorem we_not (h : WE X E Γ M a fun ρ M' => ∃ k, Sub ρ (RB k) ∧ Φ (RB (!k)) M') : WE X E Γ M (.UnaryOp .Not a pos) Φ :=
  we_of (pe_not pe_w) (fun σ G H at' Q q => h σ G H at' _ fun ρ M' v G' H' ⟨k, sb, hk⟩ s1 a1 r => ⟨k, sb _ _ r, q _ M' _ G' H' hk s1 a1 rfl⟩)
theorem we_ifExp {c : Expr} (h : WT X E Γ M c fun k M' => (k = true → WE X E Γ M' a Φ) ∧ (k = false → WE X E Γ M' b Φ)) : WE X E Γ M (.IfExp c a b pos) Φ :=
  we_of (pe_ifExp pt_w pe_w pe_w) (fun σ G H at' Q q => h σ G H at' _ fun k M' G' H' hk s1 a1 => by
    cases k with
    | true =>
      show tW X _ σ H' Q
      exact hk.1 rfl σ G' H' a1 Q fun k2 M2 v2 G2 H2 h2 s2 => q k2 M2 v2 G2 H2 h2 (s1.trans s2)
    | false =>
      show tW X _ σ H' Q
      exact hk.2 rfl σ G' H' a1 Q fun k2 M2 v2 G2 H2 h2 s2 => q k2 M2 v2 G2 H2 h2 (s1.trans s2))
theorem we_un {op : UnaryOp} {r : V → Hp → VK → Prop} (ho : UnR X (unaryOp op) r) (h : WE X E Γ M a fun ρa Ma => ∃ ρ, (∀ x G H, ρa.p x G → ∀ Q : VK, (∀ v, ρ.p v G → Q v H) → r x H Q) ∧ Φ ρ Ma) : WE X E Γ M (.UnaryOp op a pos) Φ :=
  we_of (pe_un ho pe_w) (fun σ G H at' Q q => h σ G H at' _ fun ρa Ma x G1 H1 ⟨ρ, ho, hk⟩ s1 a1 r1 => ho x G1 H1 r1 Q fun v r2 => q ρ Ma v G1 H1 hk s1 a1 r2)

/-! ### argument lists, displays -/
theorem wa_nil {Φ : List Rep → Ow → Prop} (k : Φ [] M) : WA X E Γ M [] Φ := wa_of pa_nil fun σ G H a Q q => q [] M [] G H k (Same.refl _) a trivial
theorem wa_cons {es : List Expr} {Φ : List Rep → Ow → Prop} (h : WE X E Γ M e fun ρ M1 => WA X E Γ M1 es fun ρs M2 => Φ (ρ :: ρs) M2) (hs : starEach (e :: es) X.env = (false, eval e X.env) :: starEach es X.env := by rfl) : WA X E Γ M (e :: es) Φ :=
  wa_of (pa_cons pe_w pa_w hs) fun σ G H a Q q => h σ G H a _ fun ρ M1 x G1 H1 h1 s1 a1 r1 => h1 σ G1 H1 a1 _ fun ρs M2 xs G2 H2 h2 s2 a2 r2 =>
    q (ρ :: ρs) M2 (x :: xs) G2 H2 h2 (s1.trans s2) a2 ⟨ρ.mono _ _ _ s2 r1, r2⟩
theorem wk_nil {Φ : List Rep → Ow → Prop} (k : Φ [] M) : WK X E Γ M [] Φ := wk_of pk_nil fun σ G H a Q q => q [] M [] G H k (Same.refl _) a trivial
theorem wk_cons {nm : Option Str} {kpos : Pos} {es : List Keyword} {Φ : List Rep → Ow → Prop} (h : WE X E Γ M e fun ρ M1 => WK X E Γ M1 es fun ρs M2 => Φ (ρ :: ρs) M2) : WK X E Γ M (⟨nm, e, kpos⟩ :: es) Φ :=
  wk_of (pk_cons pe_w pk_w) fun σ G H a Q q => h σ G H a _ fun ρ M1 x G1 H1 h1 s1 a1 r1 => h1 σ G1 H1 a1 _ fun ρs M2 xs G2 H2 h2 s2 a2 r2 =>
    q (ρ :: ρs) M2 (x :: xs) G2 H2 h2 (s1.trans s2) a2 ⟨ρ.mono _ _ _ s2 r1, r2⟩
theorem szOf {n : Nat} (h : n ≤ 100000) : n ≤ sizeLine := Nat.le_trans h (by decide)
theorem we_tup {es : List Expr} {x1} (h : WA X E Γ M es fun ρs M' => ρs.length ≤ 100000 ∧ Φ (RTt ρs) M') : WE X E Γ M (.Tuple es x1 pos) Φ :=
  we_of (pe_tup pa_w) fun σ G H a Q q => h σ G H a _ fun ρs M' vs G1 H1 ⟨hl, hk⟩ s1 a1 r1 => ⟨by rw [← r1.length]; exact szOf hl, fun p hp =>
    let n : New G1 H1 (upd G1 p (.tup vs)) (upd H1 p (.tup vs)) := New.put a1.gh hp
    q _ M' _ _ _ hk (s1.trans n.gg) (a1.new n) ⟨p, vs, rfl, upd_same, r1.mono n.gg⟩⟩
/-- a list, to stay as it is -/
theorem we_lst {es : List Expr} (h : WA X E Γ M es fun ρs M' => ρs.length ≤ 100000 ∧ Φ (RLt ρs) M') : WE X E Γ M (.List es pos) Φ :=
  we_of (pe_lst pa_w) fun σ G H a Q q => h σ G H a _ fun ρs M' vs G1 H1 ⟨hl, hk⟩ s1 a1 r1 => ⟨by rw [← r1.length]; exact szOf hl, fun p hp =>
    let n : New G1 H1 (upd G1 p (.lst vs)) (upd H1 p (.lst vs)) := New.put a1.gh hp
    q _ M' _ _ _ hk (s1.trans n.gg) (a1.new n) ⟨p, vs, rfl, upd_same, r1.mono n.gg⟩⟩
/-- a list, owned -/
theorem we_lstO {es : List Expr} (h : WA X E Γ M es fun ρs M' => ρs.length ≤ 100000 ∧ ∀ p, p ∉ M'.map (·.1) → p ∉ E.M → Φ (RRef p) ((p, OL ρs) :: M')) (hE : ∀ a ∈ E.M, E.H a ≠ none) : WE X E Γ M (.List es pos) Φ :=
  we_of (pe_lst pa_w) fun σ G H a Q q => h σ G H a _ fun ρs M' vs G1 H1 ⟨hl, hk⟩ s1 a1 r1 => ⟨by rw [← r1.length]; exact szOf hl, fun p hp =>
    q _ _ _ _ _ (hk p (a1.freshM hp) fun z => hE p z (a1.fresh hp)) s1 (a1.own1 hp ⟨vs, rfl, r1⟩) rfl⟩

/-! ### subscripts -/
theorem we_ix {r : R2} (hr : IxR X r) (h : WE X E Γ M a fun ρa Ma => WE X E Γ Ma b fun ρb Mb => OpW E Γ Mb r ρa ρb Φ) (hs : PlainIx b := by exact fun _ _ => rfl) : WE X E Γ M (.Subscript a b pos) Φ :=
  we_of (pe_ix hr pe_w pe_w hs) (wte_op h)
/-! ### attributes -/
/-- what a field of a thing is -/
def HasF (K : PySem.W.Frag) (ρ : Rep) (f : Str) (ρf : Rep) : Prop := ∀ v G, ρ.p v G → ∃ a C dx fs w, v = .ref a ∧ G a = some (.ins C dx fs) ∧ Cls K C ∧ NoAttr K C f ∧ fs.lookup f = some w ∧ ρf.p w G
theorem hasF_ins {K : PySem.W.Frag} {C : Addr} {l : List (Str × Rep)} {f : Str} {ρ : Rep} (c : Cls K C) (n : NoAttr K C f) (h : l.lookup f = some ρ) : HasF K (RIns C l) f ρ := fun v G ⟨a, dx, fs, e, hG, r⟩ =>
  let ⟨w, e2, r2⟩ := r.look h; ⟨a, C, dx, fs, w, e, hG, c, n, e2, r2⟩
theorem HasF.sub {K : PySem.W.Frag} {ρ ρ' ρf : Rep} {f : Str} (s : Sub ρ ρ') (h : HasF K ρ' f ρf) : HasF K ρ f ρf := fun v G r => h v G (s v G r)
theorem we_fld {f : Str} (h : WE X E Γ M a fun ρ M' => ∃ ρf, HasF X.K ρ f ρf ∧ Φ ρf M') (hb : attributeBase a f X.env (eval a X.env) = eval a X.env := by rfl) : WE X E Γ M (.Attribute a f pos) Φ :=
  we_of (pe_fld pe_w hb) fun σ G H at' Q q => h σ G H at' _ fun ρ M' v G1 H1 ⟨ρf, hf, hk⟩ s1 a1 r1 =>
    let ⟨b, C, dx, fs, w, e1, e2, c, n, e3, r2⟩ := hf v G1 r1
    ⟨b, C, dx, fs, w, e1, a1.gh _ _ e2, c, n, e3, q ρf M' w G1 H1 hk s1 a1 r2⟩
/-- of an owned object -/
theorem we_fldO {f : Str} (h : WE X E Γ M a fun ρ M' => ∃ p C l ρf u, Sub ρ (RRef p) ∧ Fnd M' p (OIns C l) u ∧ Cls X.K C ∧ NoAttr X.K C f ∧ l.lookup f = some ρf ∧ Φ ρf M') (hb : attributeBase a f X.env (eval a X.env) = eval a X.env := by rfl) : WE X E Γ M (.Attribute a f pos) Φ :=
  we_of (pe_fld pe_w hb) fun σ G H at' Q q => h σ G H at' _ fun ρ M' v G1 H1 ⟨p, C, l, ρf, u, sb, fd, c, n, e3, hk⟩ s1 a1 r1 => by
    obtain ⟨o, e1, dx, fs, e2, r2⟩ := a1.own _ fd.mem
    subst e2
    obtain ⟨w, e4, r4⟩ := r2.look e3
    exact ⟨p, C, dx, fs, w, sb _ _ r1, e1, c, n, e4, q ρf M' w G1 H1 hk s1 a1 r4⟩
/-! ### statements -/
variable {Ψ : Ed} {st : Stmt} {rest : List Stmt}
theorem wss_nil (h : Ψ.nx Γ M) : WSs X E Γ M [] Ψ := wss_of pss_nil fun σ G H a D k => k.nx Γ M h σ G H (Same.refl _) a
theorem wts_seq {t u : TS} (h : WTS E Γ M t { Ψ with nx := fun Γ' M' => WTS E Γ' M' u Ψ }) : WTS E Γ M (tSeq t u) Ψ := fun σ G H a D k =>
  h σ G H a _ ⟨fun Γ' M' h' σ' G' H' s' a' => h' σ' G' H' a' D (k.mono s'), k.rt, k.bk, k.ct⟩
theorem wss_cons (h : WS X E Γ M st { Ψ with nx := fun Γ' M' => WSs X E Γ' M' rest Ψ }) : WSs X E Γ M (st :: rest) Ψ := wss_of (pss_cons ps_w pss_w) (wts_seq h)
theorem wss_one (h : WS X E Γ M st Ψ) : WSs X E Γ M [st] Ψ := wss_of (pss_one ps_w) h
theorem ws_pass (h : Ψ.nx Γ M) : WS X E Γ M (.Pass pos) Ψ := ws_of ps_pass fun σ G H a D k => k.nx Γ M h σ G H (Same.refl _) a
theorem ws_brk (h : Ψ.bk Γ M) : WS X E Γ M (.Break pos) Ψ := ws_of ps_break fun σ G H a D k => k.bk Γ M h σ G H (Same.refl _) a
theorem ws_cont (h : Ψ.ct Γ M) : WS X E Γ M (.Continue pos) Ψ := ws_of ps_continue fun σ G H a D k => k.ct Γ M h σ G H (Same.refl _) a
theorem ws_expr (h : WE X E Γ M e fun _ M' => Ψ.nx Γ M') (hs : swapsWith e none pos.line X.env = pure false := by rfl) : WS X E Γ M (.Expr e pos) Ψ :=
  ws_of (ps_expr pe_w hs) fun σ G H a D k => h σ G H a _ fun ρ M' v G' H' h' s' a' r' => k.nx Γ M' h' σ G' H' s' a'
theorem ws_ret (h : WE X E Γ M e Ψ.rt) : WS X E Γ M (.Return (some e) pos) Ψ :=
  ws_of (ps_ret pe_w) fun σ G H a D k => h σ G H a _ fun ρ M' v G' H' h' s' a' r' => k.rt ρ M' h' v G' H' s' a'.env0 r'
theorem ws_retN (h : Ψ.rt RN M) : WS X E Γ M (.Return none pos) Ψ :=
  ws_of ps_retN fun σ G H a D k => k.rt RN M h _ G H (Same.refl _) a.env0 rfl
theorem ws_if {c : Expr} {b1 b2 : List Stmt} (h : WT X E Γ M c fun k M' => (k = true → WSs X E Γ M' b1 Ψ) ∧ (k = false → WSs X E Γ M' b2 Ψ)) : WS X E Γ M (.If c b1 b2 pos) Ψ :=
  ws_of (ps_if pt_w pss_w pss_w) fun σ G H a D k => h σ G H a _ fun b M' G' H' hk s1 a1 => by
    cases b with
    | true =>
      show tWSs X _ D σ H'
      exact hk.1 rfl σ G' H' a1 D (k.mono s1)
    | false =>
      show tWSs X _ D σ H'
      exact hk.2 rfl σ G' H' a1 D (k.mono s1)
theorem ws_set (i : Nat) {x : Str} {pos' : Pos} (w : Wr1 X i x) (h : WE X E Γ M e fun ρ M' => Ψ.nx (Γ.set i (some ρ)) M') (hs : swapsWith e (some (.Name x pos')) pos.line X.env = pure false := by rfl) : WS X E Γ M (.Assign [.Name x pos'] e pos) Ψ :=
  ws_of (ps_set w.nd w.at_ w.loc pe_w hs w.fn) fun σ G H a D k => h σ G H a _ fun ρ M' v G' H' h' s' a' r' => k.nx _ M' h' _ G' H' s' (a'.set r')
theorem ws_asg {tg : Expr} (h : WE X E Γ M e fun ρ M' => WG X E Γ M' tg ρ Ψ.nx) (hs : swapsWithSole [tg] e pos.line X.env = pure false := by rfl) (hw : swappedStores [tg] e X.env = pure none := by rfl)
    (h1 : (assignEach [tg] X.env).map (·.2) = [assign tg X.env] := by rfl) : WS X E Γ M (.Assign [tg] e pos) Ψ :=
  ws_of (ps_asg pe_w pg_w hs hw h1) fun σ G H a D k => h σ G H a _ fun ρ M' v G' H' h' s' a' r' => h' σ G' H' a' v r' _ fun Γ2 M2 σ2 G2 H2 h2 s2 a2 => k.nx Γ2 M2 h2 σ2 G2 H2 (s'.trans s2) a2
/-- a, b = x, y with plain local names -/
theorem ws_par (i j : Nat) {x y : Str} {px py pt : Pos} {kt k2 pt2} (hc : X.calm = true) (wi : Wr1 X i x) (wj : Wr1 X j y) (hij : i ≠ j) (hx : X.env.scope.names.lookup x = some .local) (hy : X.env.scope.names.lookup y = some .local)
    (hw : swappedStores [.Tuple [.Name x px, .Name y py] kt pt] (.Tuple [a, b] k2 pt2) X.env = pure (some [x, y]))
    (h : WA X E Γ M [a, b] fun ρs M' => ∃ ρ1 ρ2, ρs = [ρ1, ρ2] ∧ Ψ.nx ((Γ.set i (some ρ1)).set j (some ρ2)) M')
    (hs : swapsWithSole [.Tuple [.Name x px, .Name y py] kt pt] (.Tuple [a, b] k2 pt2) pos.line X.env = pure false := by rfl) : WS X E Γ M (.Assign [.Tuple [.Name x px, .Name y py] kt pt] (.Tuple [a, b] k2 pt2) pos) Ψ :=
  ws_of (ps_par hc wi.nd wi.at_ wj.at_ hij hx hy pa_w hw hs) fun σ G H a D k => h σ G H a _ fun ρs M' vs G' H' ⟨ρ1, ρ2, e, h'⟩ s' a' r' => by
    subst e
    match vs, r' with
    | [v, w], ⟨r1, r2, _⟩ => exact ⟨v, w, rfl, k.nx _ M' h' _ G' H' s' ((a'.set r1).set r2)⟩
theorem ws_aug (i : Nat) {x : Str} {pos' : Pos} {op : Operator} {r : R2} (w : Wr1 X i x) (ho : OpR X (inplaceOp op) r) {ρ : Rep} (hΓ : Γ[i]? = some (some ρ)) (h : WE X E Γ M e fun ρb M' => OpW E Γ M' r ρ ρb fun ρ' M2 => Ψ.nx (Γ.set i (some ρ')) M2) :
    WS X E Γ M (.AugAssign (.Name x pos') op e pos) Ψ :=
  ws_of (ps_aug (ti := r) w.nd w.at_ w.loc pe_w (fun pins s σ H x y v u Q I r1 r2 hh => augR ho I r1 r2 hh) w.fn) fun σ G H a D k => by
    obtain ⟨v, e1, r1⟩ := a.env i ρ hΓ
    exact ⟨v, e1, h σ G H a _ fun ρb M' y G' H' h' s' a' r' => h' σ G' H' a' v y (ρ.mono _ _ _ s' r1) r' _ fun ρ2 M2 z G2 H2 h2 s2 a2 r2 => k.nx _ M2 h2 _ G2 H2 (s'.trans s2) (a2.set r2)⟩

/-! ### targets -/
variable {ρ : Rep} {Ξ : Gm → Ow → Prop}
theorem wg_name (i : Nat) {x : Str} (w : Wr1 X i x) (h : Ξ (Γ.set i (some ρ)) M) : WG X E Γ M (.Name x pos) ρ Ξ :=
  wg_of (pg_name w.nd w.at_ w.loc w.fn) fun σ G H a v r Q k => k _ M _ G H h (Same.refl _) (a.set r)
theorem wgs_nil (h : Ξ Γ M) : WGs X E Γ M [] [] Ξ :=
  wgs_of pgs_nil fun σ G H a vs r Q k => by
    match vs, r with
    | [], _ => exact ⟨rfl, k _ M _ G H h (Same.refl _) a⟩
theorem wgs_cons {es : List Expr} {ρs : List Rep} (h : WG X E Γ M e ρ fun Γ' M' => WGs X E Γ' M' es ρs Ξ) (hs : (assignEach (e :: es) X.env).map (·.2) = assign e X.env :: (assignEach es X.env).map (·.2) := by rfl) : WGs X E Γ M (e :: es) (ρ :: ρs) Ξ :=
  wgs_of (pgs_cons pg_w pgs_w hs) fun σ G H a vs r Q k => by
    match vs, r with
    | v :: vs, ⟨r1, r2⟩ => exact ⟨v, vs, rfl, h σ G H a v r1 _ fun Γ' M' σ' G' H' h' s' a' => h' σ' G' H' a' vs (r2.mono s') Q fun Γ2 M2 σ2 G2 H2 h2 s2 a2 => k Γ2 M2 σ2 G2 H2 h2 (s'.trans s2) a2⟩
theorem wg_tup {es : List Expr} {k0 : Nat} {n : Nat} {ρs : List Rep} (hc : X.calm = true) (hsub : Sub ρ (RT X.K ρs)) (hl : ρs.length = n) (h : WGs X E Γ M es ρs Ξ) (hn : (assignEach es X.env).length = n := by rfl) (hst : (assignEach es X.env).findIdx? (·.1) = none := by rfl) : WG X E Γ M (.Tuple es k0 pos) ρ Ξ :=
  wg_of (pg_tup hc pgs_w hn hst) fun σ G H a v r Q k => by
    obtain ⟨b, vs, e, hq, rr⟩ := hsub _ _ r
    exact ⟨b, vs, e, same_seqT a.gh hq, by rw [← rr.length]; exact hl, h σ G H a vs rr Q k⟩
end
end MM

namespace MM
open PySem L2 PyProof.Rows
/-! ### what a def promises -/
structure Con where
  I : Type
  B : Type
  pre : I → Prop
  args : I → List Rep
  own : I → Ow
  post : I → B → Prop
  res : I → B → Rep
  own' : I → B → Ow
structure Aft (G H G' H' : Hp) (o o' : Ow) : Prop where
  gg : Same G G'
  gh : Same G' H'
  keep : ∀ a u, a ∉ o.map (·.1) → H a = some u → H' a = some u
  nw : ∀ a, H a ≠ none → G' a ≠ none → G a ≠ none
  own : ∀ q ∈ o', ∃ u, H' q.1 = some u ∧ q.2.p u G'
  gn : ∀ q ∈ o', G' q.1 = none
  nd : (o'.map (·.1)).Nodup
  loc : ∀ q ∈ o', q.1 ∈ o.map (·.1) ∨ H q.1 = none
  there : ∀ a, H a ≠ none → H' a ≠ none
def conSp (c : Con) : Sp := fun vs H Q _ => ∃ (G : Hp) (i : c.I), Same G H ∧ c.pre i ∧ Reps (c.args i) vs G ∧ (∀ q ∈ c.own i, ∃ o, H q.1 = some o ∧ q.2.p o G) ∧ (∀ q ∈ c.own i, G q.1 = none) ∧ ((c.own i).map (·.1)).Nodup ∧
  ∀ x v G' H', c.post i x → Aft G H G' H' (c.own i) (c.own' i x) → (c.res i x).p v G' → Q v H'
/-- own is picked out of M, rest is left -/
inductive Pk : Ow → Ow → Ow → Prop
  | nil {M : Ow} : Pk M [] M
  | cons {M M1 own rest : Ow} {p : Addr} {r r' : ORep} : Rm M p r M1 → OSub r r' → Pk M1 own rest → Pk M ((p, r') :: own) rest
structure PkF (M ow re : Ow) : Prop where
  own : ∀ q ∈ ow, ∃ q' ∈ M, q'.1 = q.1 ∧ OSub q'.2 q.2
  rest : ∀ q ∈ re, q ∈ M
  dis : ∀ q ∈ re, q.1 ∉ ow.map (·.1)
  nd : (re.map (·.1)).Nodup
  ndo : (ow.map (·.1)).Nodup
theorem Pk.f {M own rest : Ow} (h : Pk M own rest) : (M.map (·.1)).Nodup → PkF M own rest := by
  induction h with
  | nil => exact fun nd => ⟨fun q hq => (List.not_mem_nil hq).elim, fun q hq => hq, fun q _ hq => (List.not_mem_nil hq).elim, nd, List.nodup_nil⟩
  | @cons M M1 own rest p r r' rm os pk ih =>
    intro nd
    obtain ⟨nd1, np⟩ := rm.nd nd
    have f := ih nd1
    refine ⟨fun q hq => ?_, fun q hq => rm.sub q (f.rest q hq), fun q hq hm => ?_, f.nd, ?_⟩
    · rcases List.mem_cons.mp hq with e | hq
      · subst e; exact ⟨_, rm.mem, rfl, os⟩
      · obtain ⟨q', h1, h2⟩ := f.own q hq
        exact ⟨q', rm.sub q' h1, h2⟩
    · rw [List.map_cons, List.mem_cons] at hm
      rcases hm with e | hm
      · exact np (List.mem_map.mpr ⟨q, f.rest q hq, e⟩)
      · exact f.dis q hq hm
    · rw [List.map_cons, List.nodup_cons]
      refine ⟨fun hm => ?_, f.ndo⟩
      obtain ⟨z, hz, e⟩ := List.mem_map.mp hm
      obtain ⟨q', h1, h2, _⟩ := f.own z hz
      exact np (List.mem_map.mpr ⟨q', h1, h2.trans e⟩)
section
variable {E : En} {Γ : Gm} {M own own' rest : Ow} {σ : L2.St} {G H G' H' : Hp}
theorem At.picked (a : At E Γ M σ G H) (pk : Pk M own rest) : (∀ q ∈ own, ∃ o, H q.1 = some o ∧ q.2.p o G) ∧ (∀ q ∈ own, G q.1 = none) ∧ (own.map (·.1)).Nodup := by
  have f := pk.f a.nd
  refine ⟨fun q hq => ?_, fun q hq => ?_, f.ndo⟩
  · obtain ⟨q', h1, h2, h3⟩ := f.own q hq
    obtain ⟨o, e, r⟩ := a.own q' h1
    exact ⟨o, by rw [← h2]; exact e, h3 _ _ r⟩
  · obtain ⟨q', h1, h2, h3⟩ := f.own q hq
    rw [← h2]; exact a.gn q' h1
theorem At.aft (a : At E Γ M σ G H) (pk : Pk M own rest) (t : Aft G H G' H' own own') : At E Γ (own' ++ rest) σ G' H' := by
  have f := pk.f a.nd
  have inM : ∀ x, x ∈ own.map (·.1) → ∃ q ∈ M, q.1 = x := fun x hx => by
    obtain ⟨z, hz, e⟩ := List.mem_map.mp hx
    obtain ⟨q', h1, h2, _⟩ := f.own z hz
    exact ⟨q', h1, h2.trans e⟩
  refine ⟨a.len, fun i ρ h => let ⟨v, e, r⟩ := a.env i ρ h; ⟨v, e, ρ.mono _ _ _ t.gg r⟩, t.gh, fun q hq => ?_, fun q hq => ?_, ?_, a.g0.trans t.gg, fun x o h1 h2 => ?_, fun x h1 h2 => a.nw x h1 (t.nw x (a.there x h1) h2), fun q hq => ?_, fun x h => t.there x (a.there x h)⟩
  · rcases List.mem_append.mp hq with hq | hq
    · exact t.own q hq
    · obtain ⟨o, e, r⟩ := a.own q (f.rest q hq)
      exact ⟨o, t.keep _ _ (f.dis q hq) e, q.2.mono _ _ _ t.gg r⟩
  · rcases List.mem_append.mp hq with hq | hq
    · exact t.gn q hq
    · obtain ⟨o, e, r⟩ := a.own q (f.rest q hq)
      cases z : G' q.1 with
      | none => rfl
      | some u => exact absurd (a.gn q (f.rest q hq)) (t.nw q.1 (ne_none e) (ne_none z))
  · rw [List.map_append, List.nodup_append]
    refine ⟨t.nd, f.nd, fun x hx y hy e => ?_⟩
    obtain ⟨q, hq, e1⟩ := List.mem_map.mp hx
    obtain ⟨z, hz, e2⟩ := List.mem_map.mp hy
    have e3 : q.1 = z.1 := e1.trans (e.trans e2.symm)
    rcases t.loc q hq with h | h
    · exact f.dis z hz (by rw [← e3]; exact h)
    · obtain ⟨o, e4, _⟩ := a.own z (f.rest z hz)
      rw [← e3, h] at e4; cases e4
  · have h3 := a.keep x o h1 h2
    refine t.keep x o (fun hm => ?_) h3
    obtain ⟨q, hq, e⟩ := inM x hm
    rcases a.loc q hq with z | z
    · rw [e] at z; exact h1 z
    · rw [e, h2] at z; cases z
  · rcases List.mem_append.mp hq with hq | hq
    · rcases t.loc q hq with h | h
      · obtain ⟨q', h1, h2⟩ := inM _ h
        rw [← h2]; exact a.loc q' h1
      · exact .inr (a.fresh h)
    · exact a.loc q (f.rest q hq)
end
/-- what is left to show at a call: the values are as the promise asks, the owned things are there; behind it goes on -/
def CallK (c : Con) (ρs : List Rep) (M : Ow) (Φ : Rep → Ow → Prop) : Prop :=
  ∃ (i : c.I) (rest : Ow), c.pre i ∧ SubL ρs (c.args i) ∧ Pk M (c.own i) rest ∧ ∀ x, c.post i x → Φ (c.res i x) (c.own' i x ++ rest)
theorem callK_run {E : En} {Γ : Gm} {M : Ow} {σ : L2.St} {G H : Hp} {c : Con} {ρs : List Rep} {vs : List V} {Φ : Rep → Ow → Prop} {Q : VK} {EE : XK} (h : CallK c ρs M Φ) (a : At E Γ M σ G H) (r : Reps ρs vs G)
    (k : ∀ ρ M' v G' H', Φ ρ M' → Same G G' → At E Γ M' σ G' H' → ρ.p v G' → Q v H') : conSp c vs H Q EE := by
  obtain ⟨i, rest, hp, sb, pk, hk⟩ := h
  obtain ⟨o1, o2, o3⟩ := a.picked pk
  exact ⟨G, i, a.gh, hp, sb.reps r, o1, o2, o3, fun x v G' H' px t rv => k _ _ v G' H' (hk x px) t.gg (a.aft pk t) rv⟩
/-- a def that the module's name x holds; dvs: the defaults that fill up -/
def Kn (P : Program) (w : World) (K : PySem.W.Frag) (mg : Str → Option Value) (base : Heap) (k : Nat) (x : Str) (dvs : List V) (c : Con) : Prop :=
  ∃ (f : Addr) (fd : FuncData) (ps : List Str) (ds : List Value), mg x = some (.ref f) ∧ PySem.W.keepIn K (.ref f) = true ∧ Binds K fd ps ds ∧ Vals dvs ds ∧ FnOk P w K mg base CX0 k f fd ps (conSp c)
theorem reps_RV {G : Hp} : ∀ dvs : List V, Reps (dvs.map RV) dvs G
  | [] => trivial
  | _ :: dvs => ⟨rfl, reps_RV dvs⟩
section
variable {X : Cx} {E : En} {Γ : Gm} {M : Ow} {a b e : Expr} {es : List Expr} {pos p apos : Pos} {Φ : Rep → Ow → Prop} {k : Nat} {x : Str} {dvs : List V} {c : Con}
theorem we_call (F : Kn X.prog X.w X.K X.mg X.base k x dvs c) (hr : Room k X.A) (hg : Gl X x) (hx : Passes CX0 X E0)
    (h : WA X E Γ M (e :: es) fun ρs M' => CallK c (ρs ++ dvs.map RV) M' Φ)
    (hdb : (x == ("__debug__" : Str)) = false := by decide) (he : starEach (e :: es) X.env = (false, eval e X.env) :: starEach es X.env := by rfl) (hpl : (backTo pos (starEach es X.env)).any (·.1) = false := by rfl) :
    WE X E Γ M (.Call (.Name x p) (e :: es) [] pos) Φ := by
  obtain ⟨f, fd, ps, ds, hm, hk, hb, hd, F⟩ := F
  refine we_of (pe_call F hr hg hm hk hb hd hx pa_w hdb he hpl) fun σ G H a Q q => ?_
  exact h σ G H a _ fun ρs M' vs G1 H1 hh s1 a1 r1 => callK_run hh a1 (r1.app (reps_RV dvs)) fun ρ M2 v G2 H2 h2 s2 => q ρ M2 v G2 H2 h2 (s1.trans s2)
theorem we_call0 (F : Kn X.prog X.w X.K X.mg X.base k x dvs c) (hr : Room k X.A) (hg : Gl X x) (hx : Passes CX0 X E0)
    (h : CallK c (dvs.map RV) M Φ) (hdb : (x == ("__debug__" : Str)) = false := by decide) : WE X E Γ M (.Call (.Name x p) [] [] pos) Φ := by
  obtain ⟨f, fd, ps, ds, hm, hk, hb, hd, F⟩ := F
  refine we_of (pe_call0 F hr hg hm hk hb hd hx hdb) fun σ G H a Q q => ?_
  show conSp c ([] ++ dvs) H Q E0
  exact callK_run h a (reps_RV dvs) q
/-! ### methods of own classes -/
def KnM (P : Program) (w : World) (K : PySem.W.Frag) (mg : Str → Option Value) (base : Heap) (k : Nat) (C : Addr) (m : Str) (dvs : List V) (c : Con) : Prop :=
  ∃ (f : Addr) (fd : FuncData) (ps : List Str) (ds : List Value), Meth K C m f ∧ Cls K C ∧ Binds K fd ps ds ∧ Vals dvs ds ∧ FnOk P w K mg base CX0 k f fd ps (conSp c)
def HasI (ρ : Rep) (C : Addr) (m : Str) : Prop := ∀ v G, ρ.p v G → ∃ a dx fs, v = .ref a ∧ G a = some (.ins C dx fs) ∧ fs.lookup m = none
theorem hasI_ins {C : Addr} {l : List (Str × Rep)} {m : Str} (h : l.lookup m = none) : HasI (RIns C l) C m := fun v G ⟨a, dx, fs, e, hG, r⟩ => ⟨a, dx, fs, e, hG, r.miss h⟩
theorem HasI.sub {ρ ρ' : Rep} {C : Addr} {m : Str} (s : Sub ρ ρ') (h : HasI ρ' C m) : HasI ρ C m := fun v G r => h v G (s v G r)
theorem we_meth {C : Addr} {m : Str} {o : Expr} {pl : Sem Bool} (F : KnM X.prog X.w X.K X.mg X.base k C m dvs c) (hr : Room k X.A) (hx : Passes CX0 X E0)
    (h : WE X E Γ M o fun ρ M1 => HasI ρ C m ∧ WA X E Γ M1 (e :: es) fun ρs M' => CallK c (ρ :: (ρs ++ dvs.map RV)) M' Φ)
    (hst : starEach (e :: es) X.env = (false, eval e X.env) :: starEach es X.env := by rfl) (hpl : (backTo pos (starEach es X.env)).any (·.1) = false := by rfl)
    (ht : eval (.Call (.Attribute o m apos) (e :: es) [] pos) X.env = (do
      let ov ← eval o X.env
      standAt apos.atName
      let (f, first) ← holding [ov] (getMethod ov m pl)
      callWith pos f first (backTo pos (starEach (e :: es) X.env)) (backToKw pos (keywordEach [] X.env))) := by rfl) :
    WE X E Γ M (.Call (.Attribute o m apos) (e :: es) [] pos) Φ := by
  obtain ⟨f, fd, ps, ds, hm, hc, hb, hd, F⟩ := F
  refine we_of (pe_meth pe_w hc hm F hr hb hd hx pa_w hst hpl ht) fun σ G H a Q q => ?_
  exact h σ G H a _ fun ρ M1 v G1 H1 ⟨hi, h1⟩ s1 a1 r1 => by
    obtain ⟨b, dx, fs, e1, e2, e3⟩ := hi v G1 r1
    refine ⟨b, dx, fs, e1, a1.gh _ _ e2, e3, h1 σ G1 H1 a1 _ fun ρs M' vs G2 H2 hh s2 a2 r2 => ?_⟩
    exact callK_run hh a2 ⟨ρ.mono _ _ _ s2 r1, r2.app (reps_RV dvs)⟩ fun ρ' M3 w G3 H3 h3 s3 => q ρ' M3 w G3 H3 h3 ((s1.trans s2).trans s3)
theorem we_meth0 {C : Addr} {m : Str} {o : Expr} {pl : Sem Bool} (F : KnM X.prog X.w X.K X.mg X.base k C m dvs c) (hr : Room k X.A) (hx : Passes CX0 X E0)
    (h : WE X E Γ M o fun ρ M1 => HasI ρ C m ∧ CallK c (ρ :: dvs.map RV) M1 Φ)
    (ht : eval (.Call (.Attribute o m apos) [] [] pos) X.env = (do
      let ov ← eval o X.env
      standAt apos.atName
      let (f, first) ← holding [ov] (getMethod ov m pl)
      callWith pos f first (backTo pos (starEach [] X.env)) (backToKw pos (keywordEach [] X.env))) := by rfl) :
    WE X E Γ M (.Call (.Attribute o m apos) [] [] pos) Φ := by
  obtain ⟨f, fd, ps, ds, hm, hc, hb, hd, F⟩ := F
  refine we_of (pe_meth0 pe_w hc hm F hr hb hd hx ht) fun σ G H a Q q => ?_
  exact h σ G H a _ fun ρ M1 v G1 H1 ⟨hi, h1⟩ s1 a1 r1 => by
    obtain ⟨b, dx, fs, e1, e2, e3⟩ := hi v G1 r1
    refine ⟨b, dx, fs, e1, a1.gh _ _ e2, e3, ?_⟩
    show conSp c (v :: ([] ++ dvs)) H1 Q E0
    exact callK_run h1 a1 ⟨r1, reps_RV dvs⟩ fun ρ' M3 w G3 H3 h3 s3 => q ρ' M3 w G3 H3 h3 (s1.trans s3)
/-! ### a new object -/
def KnC (P : Program) (w : World) (K : PySem.W.Frag) (mg : Str → Option Value) (base : Heap) (k : Nat) (x : Str) (C : Addr) (dvs : List V) (c : Con) : Prop :=
  ∃ (f : Addr) (fd : FuncData) (ps : List Str) (ds : List Value), mg x = some (.ref C) ∧ Mk K C f ∧ Binds K fd ps ds ∧ Vals dvs ds ∧ FnOk P w K mg base CX0 k f fd ps (conSp c)
/-- __init__ is called on a new thing at p; behind it the thing is to stay as it is -/
def MakeK (E : En) (C : Addr) (c : Con) (ρs : List Rep) (M : Ow) (Φ : Rep → Ow → Prop) : Prop :=
  ∀ p, p ∉ M.map (·.1) → p ∉ E.M → CallK c (RRef p :: ρs) ((p, OIns C []) :: M) fun ρ M' => Sub ρ RN ∧ ∃ l M2, Rm M' p (OIns C l) M2 ∧ Φ (RIns C l) M2
/-- .. or to stay owned -/
def MakeO (E : En) (C : Addr) (c : Con) (ρs : List Rep) (M : Ow) (Φ : Rep → Ow → Prop) : Prop :=
  ∀ p, p ∉ M.map (·.1) → p ∉ E.M → CallK c (RRef p :: ρs) ((p, OIns C []) :: M) fun ρ M' => Sub ρ RN ∧ Φ (RRef p) M'
theorem make_run {C : Addr} {σ : L2.St} {G H : Hp} {ρs : List Rep} {vs : List V} {Q : VK} (hE : ∀ a ∈ E.M, E.H a ≠ none) (h : MakeK E C c ρs M Φ) (a : At E Γ M σ G H) (r : Reps ρs vs G)
    (q : ∀ ρ M' v G' H', Φ ρ M' → Same G G' → At E Γ M' σ G' H' → ρ.p v G' → Q v H') :
    ∀ x dx, H x = none → H dx = none → dx ≠ x → conSp c (.ref x :: vs) (upd (upd H dx (.own x)) x (.ins C dx [])) (fun v H2 => v = .non ∧ Q (.ref x) H2) E0 := fun x dx nx nd ne => by
  have n1 : New G H G (upd H dx (.own x)) := New.side a.gh nd
  have a1 := a.new n1
  have nx1 : upd H dx (.own x) x = none := by rw [upd_ne (Ne.symm ne)]; exact nx
  have hpE : x ∉ E.M := fun z => hE x z (a.fresh nx)
  have a2 := a1.own1 (r := OIns C []) nx1 ⟨dx, [], rfl, trivial⟩
  refine callK_run (h x (a.freshM nx) hpE) a2 ⟨rfl, r⟩ fun ρ M' v G' H' ⟨sb, l, M2, rm, hΦ⟩ s' a' r' => ⟨sb _ _ r', ?_⟩
  obtain ⟨o, e1, ⟨dx', fs, e2, rf⟩, sg, a3⟩ := a'.freeze rm hpE
  subst e2
  exact q _ _ _ _ _ hΦ (s'.trans sg) a3 ⟨x, dx', fs, rfl, upd_same, rf.mono sg⟩
theorem makeO_run {C : Addr} {σ : L2.St} {G H : Hp} {ρs : List Rep} {vs : List V} {Q : VK} (hE : ∀ a ∈ E.M, E.H a ≠ none) (h : MakeO E C c ρs M Φ) (a : At E Γ M σ G H) (r : Reps ρs vs G)
    (q : ∀ ρ M' v G' H', Φ ρ M' → Same G G' → At E Γ M' σ G' H' → ρ.p v G' → Q v H') :
    ∀ x dx, H x = none → H dx = none → dx ≠ x → conSp c (.ref x :: vs) (upd (upd H dx (.own x)) x (.ins C dx [])) (fun v H2 => v = .non ∧ Q (.ref x) H2) E0 := fun x dx nx nd ne => by
  have n1 : New G H G (upd H dx (.own x)) := New.side a.gh nd
  have a1 := a.new n1
  have nx1 : upd H dx (.own x) x = none := by rw [upd_ne (Ne.symm ne)]; exact nx
  have hpE : x ∉ E.M := fun z => hE x z (a.fresh nx)
  have a2 := a1.own1 (r := OIns C []) nx1 ⟨dx, [], rfl, trivial⟩
  exact callK_run (h x (a.freshM nx) hpE) a2 ⟨rfl, r⟩ fun ρ M' v G' H' ⟨sb, hΦ⟩ s' a' r' => ⟨sb _ _ r', q _ _ _ _ _ hΦ s' a' rfl⟩
theorem we_make {C : Addr} (F : KnC X.prog X.w X.K X.mg X.base k x C dvs c) (hr : Room (k + 1) X.A) (hg : Gl X x) (hx : Passes CX0 X E0) (hE : ∀ a ∈ E.M, E.H a ≠ none)
    (h : WA X E Γ M (e :: es) fun ρs M' => MakeK E C c (ρs ++ dvs.map RV) M' Φ)
    (hdb : (x == ("__debug__" : Str)) = false := by decide) (he : starEach (e :: es) X.env = (false, eval e X.env) :: starEach es X.env := by rfl) (hpl : (backTo pos (starEach es X.env)).any (·.1) = false := by rfl) :
    WE X E Γ M (.Call (.Name x p) (e :: es) [] pos) Φ := by
  obtain ⟨f, fd, ps, ds, hm, Mk, hb, hd, F⟩ := F
  refine we_of (pe_make Mk F hr hg hm hb hd hx pa_w hdb he hpl) fun σ G H a Q q => ?_
  exact h σ G H a _ fun ρs M' vs G1 H1 hh s1 a1 r1 => make_run hE hh a1 (r1.app (reps_RV dvs)) fun ρ M2 v G2 H2 h2 s2 => q ρ M2 v G2 H2 h2 (s1.trans s2)
theorem we_makeO {C : Addr} (F : KnC X.prog X.w X.K X.mg X.base k x C dvs c) (hr : Room (k + 1) X.A) (hg : Gl X x) (hx : Passes CX0 X E0) (hE : ∀ a ∈ E.M, E.H a ≠ none)
    (h : WA X E Γ M (e :: es) fun ρs M' => MakeO E C c (ρs ++ dvs.map RV) M' Φ)
    (hdb : (x == ("__debug__" : Str)) = false := by decide) (he : starEach (e :: es) X.env = (false, eval e X.env) :: starEach es X.env := by rfl) (hpl : (backTo pos (starEach es X.env)).any (·.1) = false := by rfl) :
    WE X E Γ M (.Call (.Name x p) (e :: es) [] pos) Φ := by
  obtain ⟨f, fd, ps, ds, hm, Mk, hb, hd, F⟩ := F
  refine we_of (pe_make Mk F hr hg hm hb hd hx pa_w hdb he hpl) fun σ G H a Q q => ?_
  exact h σ G H a _ fun ρs M' vs G1 H1 hh s1 a1 r1 => makeO_run hE hh a1 (r1.app (reps_RV dvs)) fun ρ M2 v G2 H2 h2 s2 => q ρ M2 v G2 H2 h2 (s1.trans s2)

/-! ### stores into owned things -/
variable {Ψ : Ed} {Ξ : Gm → Ow → Prop}
theorem putR_new {f : Str} {ρ : Rep} : ∀ {l : List (Str × Rep)}, l.lookup f = none → putR f ρ l = l ++ [(f, ρ)]
  | [], _ => rfl
  | (g, r) :: l, h => by
    rw [List.lookup_cons] at h
    cases q : f == g with
    | true => rw [q] at h; simp at h
    | false =>
      rw [q] at h
      have ne : ¬ g = f := fun z => by subst z; simp at q
      unfold putR
      rw [if_neg ne, putR_new (l := l) h]; rfl
theorem ws_fld {o value : Expr} {f : Str} {pos' : Pos} (h : WE X E Γ M value fun ρv M1 => WE X E Γ M1 o fun ρo M2 => ∃ p C l u, Sub ρo (RRef p) ∧ Fnd M2 p (OIns C l) u ∧ Cls X.K C ∧ NoAttr X.K C f ∧ l.length < 1000 ∧ Ψ.nx Γ (u (OIns C (putR f ρv l))))
    (hs : swapsWith value (some (.Attribute o f pos')) pos.line X.env = pure false := by rfl) : WS X E Γ M (.Assign [.Attribute o f pos'] value pos) Ψ :=
  ws_of (ps_fld pe_w pe_w hs) fun σ G H a D k => h σ G H a _ fun ρv M1 v G1 H1 h1 s1 a1 r1 => h1 σ G1 H1 a1 _ fun ρo M2 y G2 H2 ⟨p, C, l, u, sb, fd, cl, na, hl, hk⟩ s2 a2 r2 => by
    obtain ⟨o, e1, dx, fs, e2, rf⟩ := a2.own _ fd.mem
    subst e2
    refine ⟨p, C, dx, fs, sb _ _ r2, e1, cl, na, by rw [← rf.len]; exact hl, ?_⟩
    exact k.nx _ _ hk _ _ _ (s1.trans s2) (a2.write fd ⟨dx, _, rfl, rf.put (ρv.mono _ _ _ s2 r1)⟩)
theorem wg_setL {o i : Expr} {ρ : Rep} (h : WE X E Γ M o fun ρo M1 => WE X E Γ M1 i fun ρi M2 => ∃ p ρs z j u, Sub ρo (RRef p) ∧ Sub ρi (RI z) ∧ Fnd M2 p (OL ρs) u ∧ ixN ρs.length z = some j ∧ Ξ Γ (u (OL (ρs.set j ρ))))
    (ha : ∀ v, assign (.Subscript o i pos) X.env v = (do
      let ov ← holding [v] (eval o X.env)
      let iv ← holding [v, ov] (eval i X.env)
      standAt pos
      holding [v, ov, iv] (setItem ov iv v)
      release [v, ov, iv] []) := by intro _; rfl) : WG X E Γ M (.Subscript o i pos) ρ Ξ :=
  wg_of (pg_sub pe_w pe_w set_list ha) fun σ G H a v r Q k => h σ G H a _ fun ρo M1 y G1 H1 h1 s1 a1 r1 => h1 σ G1 H1 a1 _ fun ρi M2 w G2 H2 ⟨p, ρs, z, j, u, sb, si, fd, hj, hk⟩ s2 a2 r2 => by
    obtain ⟨o, e1, vs, e2, rf⟩ := a2.own _ fd.mem
    subst e2
    refine ⟨p, vs, z, j, sb _ _ (ρo.mono _ _ _ s2 r1), si _ _ r2, e1, by rw [← rf.length]; exact hj, ?_⟩
    exact k _ _ _ _ _ hk (s1.trans s2) (a2.write fd ⟨_, rfl, rf.set (ρ.mono _ _ _ (s1.trans s2) r) j⟩)
/-! ### methods of built-in types -/
def MtW (E : En) (Γ : Gm) (M : Ow) (r : V → List V → Hp → VK → Prop) (ρo : Rep) (ρs : List Rep) (Φ : Rep → Ow → Prop) : Prop :=
  ∀ σ G H, At E Γ M σ G H → ∀ x vs, ρo.p x G → Reps ρs vs G → ∀ Q : VK, (∀ ρ M' v G' H', Φ ρ M' → Same G G' → At E Γ M' σ G' H' → ρ.p v G' → Q v H') → r x vs H Q
def TyW (E : En) (Γ : Gm) (M : Ow) (K : PySem.W.Frag) (T : String) (ρo : Rep) : Prop := ∀ σ G H, At E Γ M σ G H → ∀ x, ρo.p x G → tyV K T x H
theorem we_bm {o : Expr} {name : Str} {T id : String} {r : V → List V → Hp → VK → Prop} (pa : PlainAttrs T) (slot : Slot T name id) (hty : typeOf (.builtin id) = pure (.type "method_descriptor")) (hm : MtR X id r)
    (h : WE X E Γ M o fun ρo M1 => TyW E Γ M1 X.K T ρo ∧ WA X E Γ M1 (e :: es) fun ρs M2 => MtW E Γ M2 r ρo ρs Φ)
    (hbase : attributeBase o name X.env (eval o X.env) = eval o X.env := by rfl)
    (hfew : ((backTo pos (starEach (e :: es) X.env)).all (fun x => !x.1) && (backToKw pos (keywordEach [] X.env)).all (fun x => x.1.isSome)
      && decide ((e :: es).length + ([] : List Keyword).length + (if ([] : List Keyword).isEmpty then 0 else 1) < 30)) = true := by rfl)
    (hline : (apos.endLine == pos.line) = true := by rfl) (hs : starEach (e :: es) X.env = (false, eval e X.env) :: starEach es X.env := by rfl) (hplain : (backTo pos (starEach es X.env)).any (·.1) = false := by rfl) :
    WE X E Γ M (.Call (.Attribute o name apos) (e :: es) [] pos) Φ :=
  we_of (pe_bm pa slot hty hm pe_w pa_w hbase hfew hline hs hplain) fun σ G H a Q q => h σ G H a _ fun ρo M1 y G1 H1 ⟨ty, h1⟩ s1 a1 r1 =>
    ⟨ty σ G1 H1 a1 y r1, h1 σ G1 H1 a1 _ fun ρs M2 vs G2 H2 h2 s2 a2 r2 => h2 σ G2 H2 a2 y vs (ρo.mono _ _ _ s2 r1) r2 Q fun ρ M3 v G3 H3 h3 s3 => q ρ M3 v G3 H3 h3 ((s1.trans s2).trans s3)⟩
theorem we_bm0 {o : Expr} {name : Str} {T id : String} {r : V → List V → Hp → VK → Prop} (pa : PlainAttrs T) (slot : Slot T name id) (hty : typeOf (.builtin id) = pure (.type "method_descriptor")) (hm : MtR X id r)
    (h : WE X E Γ M o fun ρo M1 => TyW E Γ M1 X.K T ρo ∧ MtW E Γ M1 r ρo [] Φ)
    (hbase : attributeBase o name X.env (eval o X.env) = eval o X.env := by rfl) (hline : (apos.endLine == pos.line) = true := by rfl) :
    WE X E Γ M (.Call (.Attribute o name apos) [] [] pos) Φ :=
  we_of (pe_bm0 pa slot hty hm pe_w hbase hline) fun σ G H a Q q => h σ G H a _ fun ρo M1 y G1 H1 ⟨ty, h1⟩ s1 a1 r1 =>
    ⟨ty σ G1 H1 a1 y r1, h1 σ G1 H1 a1 y [] r1 trivial Q fun ρ M3 v G3 H3 h3 s3 => q ρ M3 v G3 H3 h3 (s1.trans s3)⟩
theorem tyw_str {K : PySem.W.Frag} {s : Str} : TyW E Γ M K "str" (RS s) := fun σ G H a x h => by
  have h : x = .str s := h
  subst h; rfl
theorem tyw_listO {K : PySem.W.Frag} {p : Addr} {ρ : Rep} {ρs : List Rep} {u : ORep → Ow} (sb : Sub ρ (RRef p)) (fd : Fnd M p (OL ρs) u) : TyW E Γ M K "list" ρ := fun σ G H a x h => by
  have h : x = .ref p := sb _ _ h
  subst h
  obtain ⟨o, e1, vs, e2, rf⟩ := a.own _ fd.mem
  subst e2
  exact .inl ⟨rfl, _, SqL.of e1⟩
theorem tyw_list {K : PySem.W.Frag} {ρ : Rep} {ρs : List Rep} (sb : Sub ρ (RL K ρs)) : TyW E Γ M K "list" ρ := fun σ G H a x h => by
  obtain ⟨b, vs, e, hq, _⟩ := sb _ _ h
  subst e
  exact .inl ⟨rfl, _, Same.seq a.gh hq⟩
theorem mtw_append {p : Addr} {ρo ρ : Rep} {ρs : List Rep} {u : ORep → Ow} (sb : Sub ρo (RRef p)) (fd : Fnd M p (OL ρs) u) (hl : ρs.length < 100000) (k : Φ RN (u (OL (ρs ++ [ρ])))) : MtW E Γ M rAppend ρo [ρ] Φ := fun σ G H a x vs hx hv Q q => by
  obtain ⟨o, e1, ws, e2, rf⟩ := a.own _ fd.mem
  subst e2
  match vs, hv with
  | [v], ⟨r, _⟩ =>
    exact ⟨p, ws, v, sb _ _ hx, rfl, e1, Nat.lt_of_lt_of_le (by rw [← rf.length]; exact hl) (szOf (Nat.le_refl _)), q _ _ _ _ _ k (Same.refl _) (a.write fd ⟨_, rfl, rf.app ⟨r, trivial⟩⟩) rfl⟩
/-! ### built-in functions -/
def CaW (E : En) (Γ : Gm) (M : Ow) (r : List V → Hp → VK → Prop) (ρs : List Rep) (Φ : Rep → Ow → Prop) : Prop :=
  ∀ σ G H, At E Γ M σ G H → ∀ vs, Reps ρs vs G → ∀ Q : VK, (∀ ρ M' v G' H', Φ ρ M' → Same G G' → At E Γ M' σ G' H' → ρ.p v G' → Q v H') → r vs H Q
def CaV (r : List V → Hp → VK → Prop) (ρs : List Rep) (ρ : Rep) : Prop := ∀ vs G H, Same G H → Reps ρs vs G → ∀ Q : VK, (∀ v G' H', New G H G' H' → ρ.p v G' → Q v H') → r vs H Q
theorem caw_of {r : List V → Hp → VK → Prop} {ρs : List Rep} {ρ : Rep} (h : CaV r ρs ρ) (k : Φ ρ M) : CaW E Γ M r ρs Φ := fun σ G H a vs hv Q q =>
  h vs G H a.gh hv Q fun v G' H' n hr => q ρ M v G' H' k n.gg (a.new n) hr
theorem we_callB {id : String} {r : List V → Hp → VK → Prop} (hc : CallR X (.builtin id) r) (hg : Gl X x) (hm : X.mg x = none) (hv : bootBuiltins x = some (.builtin id)) (h : WA X E Γ M (e :: es) fun ρs M' => CaW E Γ M' r ρs Φ) (hn : x ≠ "__name__" := by decide) (hdb : (x == ("__debug__" : Str)) = false := by decide)
    (he : starEach (e :: es) X.env = (false, eval e X.env) :: starEach es X.env := by rfl) (hpl : (backTo pos (starEach es X.env)).any (·.1) = false := by rfl) : WE X E Γ M (.Call (.Name x p) (e :: es) [] pos) Φ :=
  we_of (pe_callB hc hg hm hv pa_w hn hdb he hpl) fun σ G H a Q q => h σ G H a _ fun ρs M1 vs G1 H1 h1 s1 a1 r1 => h1 σ G1 H1 a1 vs r1 Q fun ρ M3 v G3 H3 h3 s3 => q ρ M3 v G3 H3 h3 (s1.trans s3)
theorem we_callTy {T : String} {r : List V → Hp → VK → Prop} (hc : CallR X (.type T) r) (hg : Gl X x) (hm : X.mg x = none) (hv : bootBuiltins x = some (.type T)) (h : WA X E Γ M (e :: es) fun ρs M' => CaW E Γ M' r ρs Φ) (hn : x ≠ "__name__" := by decide) (hdb : (x == ("__debug__" : Str)) = false := by decide)
    (he : starEach (e :: es) X.env = (false, eval e X.env) :: starEach es X.env := by rfl) (hpl : (backTo pos (starEach es X.env)).any (·.1) = false := by rfl) : WE X E Γ M (.Call (.Name x p) (e :: es) [] pos) Φ :=
  we_of (pe_callTy hc hg hm hv pa_w hn hdb he hpl) fun σ G H a Q q => h σ G H a _ fun ρs M1 vs G1 H1 h1 s1 a1 r1 => h1 σ G1 H1 a1 vs r1 Q fun ρ M3 v G3 H3 h3 s3 => q ρ M3 v G3 H3 h3 (s1.trans s3)

/-! ### a def keeps its promise -/
def startG (N : List Str) (ρs : List Rep) : Gm := ρs.map some ++ List.replicate (N.length - ρs.length) none
/-- at a return -/
def Rt (c : Con) (i : c.I) : Rep → Ow → Prop := fun ρ M => ∃ x rest, c.post i x ∧ Sub ρ (c.res i x) ∧ Pk M (c.own' i x) rest
def EdOf (c : Con) (i : c.I) : Ed := { nx := fun _ M => Rt c i RN M, rt := Rt c i }
theorem start_env {N : List Str} {G : Hp} {ρs : List Rep} {vs : List V} (r : Reps ρs vs G) : ∀ (i : Nat) (ρ : Rep), (startG N ρs)[i]? = some (some ρ) → ∃ v, (L2.start N vs)[i]? = some (some v) ∧ ρ.p v G := fun i ρ h => by
  have hl := r.length
  unfold startG at h
  unfold L2.start
  by_cases hi : i < ρs.length
  · rw [List.getElem?_append_left (by simpa using hi), List.getElem?_map] at h
    rw [List.getElem?_append_left (by simpa [← hl] using hi), List.getElem?_map]
    have e : ρs[i]? = some ρ := by simpa using h
    obtain ⟨v, e2, r2⟩ := r.get e
    exact ⟨v, by rw [e2]; rfl, r2⟩
  · rw [List.getElem?_append_right (by simp; omega)] at h
    by_cases h2 : i - (ρs.map some).length < N.length - ρs.length
    · rw [List.getElem?_replicate, if_pos h2] at h; cases h
    · rw [List.getElem?_eq_none (by simp at h2 ⊢; omega)] at h; cases h
abbrev xd (P : Program) (w : World) (K : PySem.W.Frag) (mg : Str → Option Value) (base : Heap) (N : List Str) (qual : Str) (sc : Scope) (f : Addr) (cd : Value) (A : Around) (outer : List Env) (s : Shared) (H : Hp) (EE : XK) : Cx :=
  (cxOf CX0 P w K mg base N qual sc f cd A outer s H EE).nox
theorem fn_con {P : Program} {w : World} {K : PySem.W.Frag} {mg : Str → Option Value} {base : Heap} {x qual : Str} {st : Stmt} {f : Addr} {fd : FuncData} {N ps : List Str} {k : Nat} (c : Con) (F : Fun K x qual st f fd) (S : FnScope N ps (defScope st)) (hl : ∀ i, (c.args i).length = ps.length)
    (h : ∀ (cd : Value) (A : Around) (outer : List Env) (s : Shared) (H : Hp) (EE : XK) (G : Hp) (i : c.I), c.pre i → Room k (A.deeper (PyProof.Rows.envOfC qual (defScope st) s.heap.objs.size f cd)) → (∀ a ∈ (c.own i).map (·.1), H a ≠ none) →
      WSs (xd P w K mg base N qual (defScope st) f cd A outer s H EE) ⟨G, H, (c.own i).map (·.1)⟩ (startG N (c.args i)) (c.own i) (defBody st) (EdOf c i)) : FnOk P w K mg base CX0 (k + 1) f fd ps (conSp c) := by
  refine F.ok S (fun vs H Q EE hh => ?_) fun cdv A outer s H vs Q EE hr hh => ?_
  · obtain ⟨G, i, _, _, r, _⟩ := hh
    rw [← r.length]; exact hl i
  · obtain ⟨G, i, gh, hp, r, o1, o2, o3, kk⟩ := hh
    refine ⟨tWSs _ (defBody st), pss_w, ?_⟩
    have hE : ∀ a ∈ (c.own i).map (·.1), H a ≠ none := fun a ha => by
      obtain ⟨q, hq, e⟩ := List.mem_map.mp ha
      obtain ⟨o, e2, _⟩ := o1 q hq
      rw [← e, e2]; simp
    have a0 : At ⟨G, H, (c.own i).map (·.1)⟩ (startG N (c.args i)) (c.own i) (L2.start N vs) G H :=
      ⟨by simp [startG, L2.start, r.length], start_env r, gh, o1, o2, o3, Same.refl _, fun _ _ _ e => e, fun _ _ hg => hg, fun q hq => .inl (List.mem_map.mpr ⟨q, hq, rfl⟩), fun _ h => h⟩
    have fin : ∀ ρ M, Rt c i ρ M → ∀ v G' H', At ⟨G, H, (c.own i).map (·.1)⟩ [] M [] G' H' → ρ.p v G' → Q v H' := fun ρ M ⟨x, rest, px, sb, pk⟩ v G' H' a rv => by
      obtain ⟨p1, p2, p3⟩ := a.picked pk
      have fm := pk.f a.nd
      refine kk x v G' H' px ⟨a.g0, a.gh, fun b u h1 h2 => a.keep b u h1 h2, fun b h1 h2 => a.nw b h1 h2, p1, p2, p3, fun q hq => ?_, fun b hb => a.there b hb⟩ (sb _ _ rv)
      obtain ⟨q', h1, h2, _⟩ := fm.own q hq
      rw [← h2]; exact a.loc q' h1
    exact h cdv A outer s H EE G i hp hr hE (L2.start N vs) G H a0 _ ⟨fun Γ M h' σ G' H' _ a' => fin _ _ h' _ _ _ a'.env0 rfl, fun ρ M h' v G' H' _ a' rv => fin _ _ h' _ _ _ a' rv, fun _ _ h' => h'.elim, fun _ _ h' => h'.elim⟩
end
end MM

namespace MM
open PySem L2 PyProof.Rows
section
variable {X : Cx} {E : En} {Γ : Gm} {M : Ow} {a b e c tg iter elt : Expr} {es : List Expr} {pos p apos : Pos} {Φ : Rep → Ow → Prop} {Ψ : Ed} {body : List Stmt}
theorem ws_while (hp : PassesOwn (model X.prog X.w) X.A X.env X.xe) (I : Nat → Gm → Ow → Prop) (n0 : Nat) (h0 : I n0 Γ M)
    (hs : ∀ n Γ1 M1, I n Γ1 M1 → WT X E Γ1 M1 c fun k M2 => (k = true → WSs X E Γ1 M2 body { nx := fun Γ3 M3 => ∃ m, m < n ∧ I m Γ3 M3, ct := fun Γ3 M3 => ∃ m, m < n ∧ I m Γ3 M3, bk := Ψ.nx, rt := Ψ.rt }) ∧ (k = false → Ψ.nx Γ1 M2)) :
    WS X E Γ M (.While c body [] pos) Ψ :=
  ws_of (ps_while hp pt_w pss_w) fun σ G H a D k => by
    refine ⟨fun m σ H => ∃ Γ1 M1 G1, I m Γ1 M1 ∧ Same G G1 ∧ At E Γ1 M1 σ G1 H, ⟨n0, Γ, M, G, h0, Same.refl _, a⟩, ?_⟩
    rintro m σ1 H1 ⟨Γ1, M1, G1, hI, s1, a1⟩
    refine hs m Γ1 M1 hI σ1 G1 H1 a1 _ fun b M2 G2 H2 hk s2 a2 => ?_
    cases b with
    | false =>
      show D.nx σ1 H2
      exact k.nx _ _ (hk.2 rfl) _ _ _ (s1.trans s2) a2
    | true =>
      show ∃ N : L2.St → Hp → Prop, _
      refine ⟨fun σ' H' => ∃ m', m' < m ∧ ∃ Γ1 M1 G1, I m' Γ1 M1 ∧ Same G G1 ∧ At E Γ1 M1 σ' G1 H', fun σ' H' h => h, ?_⟩
      have ks := k.mono (s1.trans s2)
      exact hk.1 rfl σ1 G2 H2 a2 _ ⟨fun Γ3 M3 ⟨m', hm, hI'⟩ σ' G' H' s' a' => ⟨m', hm, Γ3, M3, G', hI', (s1.trans s2).trans s', a'⟩, ks.rt, ks.nx, fun Γ3 M3 ⟨m', hm, hI'⟩ σ' G' H' s' a' => ⟨m', hm, Γ3, M3, G', hI', (s1.trans s2).trans s', a'⟩⟩
/-- what a for asks: the invariant by the turn -/
def ForK (X : Cx) (E : En) (Γ : Gm) (M : Ow) (tg : Expr) (body : List Stmt) (Ψ : Ed) (n : Nat) (item : Nat → Rep → Prop) : Prop :=
  ∃ I : Nat → Gm → Ow → Prop, I 0 Γ M ∧ (∀ i ρ Γ1 M1, i < n → item i ρ → I i Γ1 M1 → WG X E Γ1 M1 tg ρ fun Γ2 M2 => WSs X E Γ2 M2 body { nx := I (i + 1), ct := I (i + 1), bk := Ψ.nx, rt := Ψ.rt }) ∧ ∀ Γ1 M1, I n Γ1 M1 → Ψ.nx Γ1 M1
theorem for_turn {I : Nat → Gm → Ow → Prop} {G : Hp} {D : Ends} {i : Nat} {ρ : Rep} {Γ1 : Gm} {M1 : Ow} (k : Cov E G Ψ D) (h : WG X E Γ1 M1 tg ρ fun Γ2 M2 => WSs X E Γ2 M2 body { nx := I (i + 1), ct := I (i + 1), bk := Ψ.nx, rt := Ψ.rt })
    {σ : L2.St} {G1 H : Hp} (s1 : Same G G1) (a : At E Γ1 M1 σ G1 H) {x : V} (r : ρ.p x G1) :
    tWG X tg x σ H fun σ2 H2 => tWSs X body { D with nx := fun σ' H' => ∃ Γ' M' G', I (i + 1) Γ' M' ∧ Same G G' ∧ At E Γ' M' σ' G' H', ct := fun σ' H' => ∃ Γ' M' G', I (i + 1) Γ' M' ∧ Same G G' ∧ At E Γ' M' σ' G' H', bk := D.nx } σ2 H2 := by
  refine h σ G1 H a x r _ fun Γ2 M2 σ2 G2 H2 h2 s2 a2 => ?_
  have ks := k.mono (s1.trans s2)
  exact h2 σ2 G2 H2 a2 _ ⟨fun Γ3 M3 hI σ' G' H' s' a' => ⟨Γ3, M3, G', hI, (s1.trans s2).trans s', a'⟩, ks.rt, ks.nx, fun Γ3 M3 hI σ' G' H' s' a' => ⟨Γ3, M3, G', hI, (s1.trans s2).trans s', a'⟩⟩
theorem ws_for_list (hp : PassesOwn (model X.prog X.w) X.A X.env X.xe) (hc : X.calm = true)
    (h : WE X E Γ M iter fun ρ M1 => ∃ ρs, Sub ρ (RL X.K ρs) ∧ ForK X E Γ M1 tg body Ψ ρs.length fun i ρ => ρs[i]? = some ρ)
    (hs : ∀ x, foldedSetIterable iter X.env x = pure x := by intro _; rfl) : WS X E Γ M (.For tg iter body [] pos) Ψ :=
  ws_of (ps_for hp hc (pi_list pe_w) pg_w pss_w hs) fun σ G H a D k => h σ G H a _ fun ρ M1 v G1 H1 ⟨ρs, sb, I, h0, ht, hd⟩ s1 a1 r1 => by
    obtain ⟨b, vs, e, hq, rr⟩ := sb _ _ r1
    have ks := k.mono s1
    refine ⟨b, e, ⟨vs, Same.seq a1.gh hq⟩, for_list (K := X.K) (a := b) (xs := vs) (fun i σ H => ∃ Γ' M' G', I i Γ' M' ∧ Same G1 G' ∧ At E Γ' M' σ G' H) ⟨Γ, M1, G1, h0, Same.refl _, a1⟩ (fun i σ H _ ⟨_, _, G', _, s', a'⟩ => Same.seq (s'.trans a'.gh) hq) ?_ ?_⟩
    · rintro i x σ H hx ⟨Γ', M', G', hI, s', a'⟩
      obtain ⟨ρi, e1, r2⟩ := (rr.mono s').get2 hx
      exact for_turn ks (ht i ρi Γ' M' (List.getElem?_eq_some_iff.mp e1).1 e1 hI) s' a' r2
    · rintro σ H ⟨Γ', M', G', hI, s', a'⟩
      exact ks.nx _ _ (hd _ _ (by rw [rr.length]; exact hI)) _ _ _ s' a'
theorem ws_for_tup (hp : PassesOwn (model X.prog X.w) X.A X.env X.xe) (hc : X.calm = true)
    (h : WE X E Γ M iter fun ρ M1 => ∃ ρs, Sub ρ (RT X.K ρs) ∧ ForK X E Γ M1 tg body Ψ ρs.length fun i ρ => ρs[i]? = some ρ)
    (hs : ∀ x, foldedSetIterable iter X.env x = pure x := by intro _; rfl) : WS X E Γ M (.For tg iter body [] pos) Ψ :=
  ws_of (ps_for hp hc (pi_tup pe_w) pg_w pss_w hs) fun σ G H a D k => h σ G H a _ fun ρ M1 v G1 H1 ⟨ρs, sb, I, h0, ht, hd⟩ s1 a1 r1 => by
    obtain ⟨b, vs, e, hq, rr⟩ := sb _ _ r1
    have ks := k.mono s1
    refine ⟨b, e, ⟨vs, same_seqT a1.gh hq⟩, for_tup (K := X.K) (a := b) (xs := vs) (fun i σ H => ∃ Γ' M' G', I i Γ' M' ∧ Same G1 G' ∧ At E Γ' M' σ G' H) ⟨Γ, M1, G1, h0, Same.refl _, a1⟩ (fun i σ H _ ⟨_, _, G', _, s', a'⟩ => same_seqT (s'.trans a'.gh) hq) ?_ ?_⟩
    · rintro i x σ H hx ⟨Γ', M', G', hI, s', a'⟩
      obtain ⟨ρi, e1, r2⟩ := (rr.mono s').get2 hx
      exact for_turn ks (ht i ρi Γ' M' (List.getElem?_eq_some_iff.mp e1).1 e1 hI) s' a' r2
    · rintro σ H ⟨Γ', M', G', hI, s', a'⟩
      exact ks.nx _ _ (hd _ _ (by rw [rr.length]; exact hI)) _ _ _ s' a'
theorem ws_for_range1 (hp : PassesOwn (model X.prog X.w) X.A X.env X.xe) (hc : X.calm = true) (hg : Gl X "range") (hm : X.mg "range" = none)
    (h : WA X E Γ M [a] fun ρs M1 => ∃ j : Int, SubL ρs [RI j] ∧ (-(2 ^ 62) ≤ j ∧ j < 2 ^ 62) ∧ ForK X E Γ M1 tg body Ψ j.toNat fun i ρ => ρ = RI (i : Int))
    (hse : starEach [a] X.env = [(false, eval a X.env)] := by rfl) (hs : ∀ x, foldedSetIterable (.Call (.Name "range" p) [a] [] apos) X.env x = pure x := by intro _; rfl) : WS X E Γ M (.For tg (.Call (.Name "range" p) [a] [] apos) body [] pos) Ψ :=
  ws_of (ps_for hp hc (pi_range1 hg hm pa_w hse) pg_w pss_w hs) fun σ G H a D k => h σ G H a _ fun ρs M1 vs G1 H1 ⟨j, sb, ⟨b1, b2⟩, I, h0, ht, hd⟩ s1 a1 r1 => by
    have ks := k.mono s1
    have e : vs = [.int j] := by
      match vs, sb.reps r1 with
      | [v], ⟨r, _⟩ => exact congrArg (fun z => [z]) r
    refine ⟨j, e, b1, b2, for_range (lo := 0) (fun i σ H => ∃ Γ' M' G', I i Γ' M' ∧ Same G1 G' ∧ At E Γ' M' σ G' H) ⟨Γ, M1, G1, h0, Same.refl _, a1⟩ ?_ ?_⟩
    · rintro i σ H hx ⟨Γ', M', G', hI, s', a'⟩
      exact for_turn ks (ht i _ Γ' M' hx rfl hI) s' a' (by rw [Int.zero_add]; rfl)
    · rintro σ H ⟨Γ', M', G', hI, s', a'⟩
      exact ks.nx _ _ (hd _ _ hI) _ _ _ s' a'
theorem ws_for_range2 (hp : PassesOwn (model X.prog X.w) X.A X.env X.xe) (hc : X.calm = true) (hg : Gl X "range") (hm : X.mg "range" = none)
    (h : WA X E Γ M [a, b] fun ρs M1 => ∃ i j : Int, SubL ρs [RI i, RI j] ∧ (-(2 ^ 62) ≤ i ∧ i < 2 ^ 62 ∧ -(2 ^ 62) ≤ j ∧ j < 2 ^ 62) ∧ ForK X E Γ M1 tg body Ψ (j - i).toNat fun n ρ => ρ = RI (i + n))
    (hse : starEach [a, b] X.env = [(false, eval a X.env), (false, eval b X.env)] := by rfl) (hs2 : starEach [b] X.env = [(false, eval b X.env)] := by rfl) (hs : ∀ x, foldedSetIterable (.Call (.Name "range" p) [a, b] [] apos) X.env x = pure x := by intro _; rfl) : WS X E Γ M (.For tg (.Call (.Name "range" p) [a, b] [] apos) body [] pos) Ψ :=
  ws_of (ps_for hp hc (pi_range2 hg hm pa_w hse hs2) pg_w pss_w hs) fun σ G H a D k => h σ G H a _ fun ρs M1 vs G1 H1 ⟨i0, j, sb, bs, I, h0, ht, hd⟩ s1 a1 r1 => by
    have ks := k.mono s1
    have e : vs = [.int i0, .int j] := by
      match vs, sb.reps r1 with
      | [v, w], ⟨r, r', _⟩ =>
        have r : v = .int i0 := r
        have r' : w = .int j := r'
        rw [r, r']
    refine ⟨i0, j, e, bs, for_range (lo := i0) (fun i σ H => ∃ Γ' M' G', I i Γ' M' ∧ Same G1 G' ∧ At E Γ' M' σ G' H) ⟨Γ, M1, G1, h0, Same.refl _, a1⟩ ?_ ?_⟩
    · rintro i σ H hx ⟨Γ', M', G', hI, s', a'⟩
      exact for_turn ks (ht i _ Γ' M' hx rfl hI) s' a' rfl
    · rintro σ H ⟨Γ', M', G', hI, s', a'⟩
      exact ks.nx _ _ (hd _ _ hI) _ _ _ s' a'

/-! ### an owned list is given up -/
theorem we_freeze (h : WE X E Γ M e fun ρ M' => ∃ p ρs M2, Sub ρ (RRef p) ∧ Rm M' p (OL ρs) M2 ∧ p ∉ E.M ∧ Φ (RLt ρs) M2) : WE X E Γ M e Φ := fun σ G H a Q q =>
  h σ G H a Q fun ρ M' v G1 H1 ⟨p, ρs, M2, sb, rm, hp, hk⟩ s1 a1 r1 => by
    obtain ⟨o, e1, ⟨vs, e2, rf⟩, sg, a2⟩ := a1.freeze rm hp
    subst e2
    have : v = .ref p := sb _ _ r1
    subst this
    exact q _ _ _ _ _ hk (s1.trans sg) a2 ⟨p, vs, rfl, upd_same, rf.mono sg⟩
theorem wss_freeze {st : List Stmt} (i : Nat) {p : Addr} {ρs : List Rep} {M2 : Ow} (hΓ : Γ[i]? = some (some (RRef p))) (rm : Rm M p (OL ρs) M2) (hp : p ∉ E.M) (h : WSs X E (Γ.set i (some (RLt ρs))) M2 st Ψ) : WSs X E Γ M st Ψ := fun σ G H a D k => by
  obtain ⟨v, e0, r0⟩ := a.env i _ hΓ
  have r0 : v = .ref p := r0
  subst r0
  obtain ⟨o, e1, ⟨vs, e2, rf⟩, sg, a2⟩ := a.freeze rm hp
  subst e2
  have a3 := a2.set (i := i) (ρ := RLt ρs) (v := .ref p) ⟨p, vs, rfl, upd_same, rf.mono sg⟩
  have e4 : σ.set i (some (V.ref p)) = σ := by
    refine List.ext_getElem? fun j => ?_
    by_cases hj : i = j
    · subst hj
      have hl : i < σ.length := (List.getElem?_eq_some_iff.mp e0).1
      rw [List.getElem?_set_self hl, e0]
    · rw [List.getElem?_set_ne hj]
  rw [e4] at a3
  exact h σ _ H a3 D (k.mono sg)
theorem wss_weak {Γ' : Gm} {st : List Stmt} (w : Wk Γ Γ') (h : WSs X E Γ' M st Ψ) : WSs X E Γ M st Ψ := fun σ G H a D k => h σ G H (a.weak w) D k

/-! ### list comprehensions -/
def wipeG (Γ : Gm) : List Nat → Gm
  | [] => Γ
  | v :: vs => (wipeG Γ vs).set v none
theorem At.wipe {σ : L2.St} {G H : Hp} (a : At E Γ M σ G H) : ∀ vs : List Nat, At E (wipeG Γ vs) M (L2.wipe σ vs) G H
  | [] => a
  | v :: vs => by
    have b := At.wipe a vs
    unfold wipeG L2.wipe
    refine ⟨by simp [b.len], fun i ρ h => ?_, b.gh, b.own, b.gn, b.nd, b.g0, b.keep, b.nw, b.loc, b.there⟩
    by_cases hi : v = i
    · subst hi
      by_cases hv : v < (wipeG Γ vs).length
      · rw [List.getElem?_set_self hv] at h; cases h
      · rw [List.getElem?_eq_none (by simpa using hv)] at h; cases h
    · rw [List.getElem?_set_ne hi] at h
      obtain ⟨w, e, r⟩ := b.env i ρ h
      exact ⟨w, by rw [List.getElem?_set_ne hi]; exact e, r⟩
theorem At.back {σ σ' : L2.St} {G H G' H' : Hp} {Γ' : Gm} {M' : Ow} (a : At E Γ M σ G H) (b : At E Γ' M' σ' G' H') (s : Same G G') : At E Γ M' σ G' H' :=
  ⟨a.len, fun i ρ h => let ⟨v, e, r⟩ := a.env i ρ h; ⟨v, e, ρ.mono _ _ _ s r⟩, b.gh, b.own, b.gn, b.nd, b.g0, b.keep, b.nw, b.loc, b.there⟩
/-- a block's target: one name, or a tuple of names; what it leaves in the slots -/
structure BlkT (K : PySem.W.Frag) (t : TG) (vs : List Nat) (ρ : Rep) (f : Gm → Gm) : Prop where
  run : ∀ {E : En} {Γ : Gm} {M : Ow} {σ : L2.St} {G H : Hp} {v : V} (Q : L2.St → Hp → Prop), At E Γ M (L2.wipe σ vs) G H → ρ.p v G → (∀ σ', L2.wipe σ' vs = L2.wipe σ vs → At E (f Γ) M σ' G H → Q σ' H) → t v (L2.wipe σ vs) H Q
theorem wipe_set {σ : L2.St} {i : Nat} {o : Option V} : ∀ {vs : List Nat}, i ∈ vs → L2.wipe (σ.set i o) vs = L2.wipe σ vs
  | v :: vs, h => by
    unfold L2.wipe
    by_cases hi : i = v
    · subst hi
      by_cases hm : i ∈ vs
      · rw [wipe_set hm]
      · have : L2.wipe (σ.set i o) vs = (L2.wipe σ vs).set i o := by
          clear h
          induction vs with
          | nil => rfl
          | cons u us ih =>
            have h1 : i ≠ u := fun z => hm (by rw [z]; exact List.mem_cons_self)
            have h2 : i ∉ us := fun z => hm (List.mem_cons_of_mem _ z)
            show (L2.wipe (σ.set i o) us).set u none = ((L2.wipe σ us).set u none).set i o
            rw [ih h2, List.set_comm _ _ h1]
        rw [this, List.set_set]
    · have hm : i ∈ vs := by
        rcases List.mem_cons.mp h with e | hm
        · exact absurd e hi
        · exact hm
      rw [wipe_set hm]
theorem wipe_wipe {σ : L2.St} : ∀ {vs ws : List Nat}, (∀ v ∈ ws, v ∈ vs) → L2.wipe (L2.wipe σ ws) vs = L2.wipe σ vs
  | vs, [], _ => rfl
  | vs, w :: ws, h => by
    show L2.wipe ((L2.wipe σ ws).set w none) vs = _
    rw [wipe_set (h w List.mem_cons_self)]
    exact wipe_wipe fun v hv => h v (List.mem_cons_of_mem _ hv)
theorem blkT_name {K : PySem.W.Frag} {vs : List Nat} {ρ : Rep} (i : Nat) (hi : i ∈ vs) : BlkT K (gName i) vs ρ fun Γ => Γ.set i (some ρ) :=
  ⟨fun {E Γ M σ G H v} Q a r k => k _ (by rw [wipe_set hi, wipe_wipe fun _ h => h]) (a.set r)⟩
def gNames : List Nat → TGs
  | [] => gNil
  | i :: is => gCons (gName i) (gNames is)
def setAll : List Nat → List Rep → Gm → Gm
  | i :: is, ρ :: ρs, Γ => setAll is ρs (Γ.set i (some ρ))
  | _, _, Γ => Γ
theorem gNames_run {vs : List Nat} : ∀ {is : List Nat} {ρs : List Rep} {xs : List V} {E : En} {Γ : Gm} {M : Ow} {σ σ0 : L2.St} {G H : Hp} (Q : L2.St → Hp → Prop), (∀ i ∈ is, i ∈ vs) → is.length = ρs.length → At E Γ M σ G H → L2.wipe σ vs = L2.wipe σ0 vs → Reps ρs xs G →
    (∀ σ', L2.wipe σ' vs = L2.wipe σ0 vs → At E (setAll is ρs Γ) M σ' G H → Q σ' H) → gNames is xs σ H Q
  | [], [], [], _, _, _, σ, _, _, H, Q, _, _, a, e, _, k => ⟨rfl, k σ e a⟩
  | i :: is, ρ :: ρs, x :: xs, _, _, _, σ, _, _, H, Q, hi, hl, a, e, r, k => ⟨x, xs, rfl, gNames_run (vs := vs) (is := is) (ρs := ρs) Q (fun j hj => hi j (List.mem_cons_of_mem _ hj)) (by simpa using hl) (a.set r.1) (by rw [wipe_set (hi i List.mem_cons_self)]; exact e) r.2 k⟩
  | [], _ :: _, _, _, _, _, _, _, _, _, _, _, hl, _, _, _, _ => by simp at hl
  | _ :: _, [], _, _, _, _, _, _, _, _, _, _, hl, _, _, _, _ => by simp at hl
  | [], [], _ :: _, _, _, _, _, _, _, _, _, _, _, _, _, r, _ => r.elim
  | _ :: _, _ :: _, [], _, _, _, _, _, _, _, _, _, _, _, _, r, _ => r.elim
theorem blkT_tup {K : PySem.W.Frag} {vs is : List Nat} {ρ : Rep} {ρs : List Rep} (hi : ∀ i ∈ is, i ∈ vs) (hl : is.length = ρs.length) (sb : Sub ρ (RT K ρs)) : BlkT K (gTup K is.length (gNames is)) vs ρ (setAll is ρs) :=
  ⟨fun {E Γ M σ G H v} Q a r k => by
    obtain ⟨b, ws, e, hq, rr⟩ := sb _ _ r
    refine ⟨b, ws, e, same_seqT a.gh hq, by rw [hl, rr.length], gNames_run (σ0 := σ) Q hi hl a (wipe_wipe fun _ h => h) rr k⟩⟩
/-- the readings of a block's element and test, of whatever context -/
def tBE (X : Cx) (scope : Scope) (e : Expr) : TE := fun σ H Q => ∀ (s : Shared) (H0 : Hp) (C : Addr) (cl : List (Str × Addr)) (fp : List Addr), tW (X.blk s H0 scope (compEnvC scope cl C X.env) fp) e σ H Q
def tBT (X : Cx) (scope : Scope) (e : Expr) : TT := fun σ H Q => ∀ (s : Shared) (H0 : Hp) (C : Addr) (cl : List (Str × Addr)) (fp : List Addr), tWT (X.blk s H0 scope (compEnvC scope cl C X.env) fp) e σ H Q
theorem pe_blk {scope : Scope} (s : Shared) (H : Hp) (C : Addr) (cl : List (Str × Addr)) (fp : List Addr) : PE (X.blk s H scope (compEnvC scope cl C X.env) fp) e (tBE X scope e) := ⟨fun pins s' σ H' Q I h => h s H C cl fp pins s' I⟩
theorem pt_blk {scope : Scope} (s : Shared) (H : Hp) (C : Addr) (cl : List (Str × Addr)) (fp : List Addr) : PT (X.blk s H scope (compEnvC scope cl C X.env) fp) e (tBT X scope e) := ⟨fun pins s' σ H' Q I h => h s H C cl fp pins s' I⟩
/-- a turn: the element is evaluated, and put behind what is made so far -/
def LcTurn (X : Cx) (E : En) (Γ : Gm) (M1 : Ow) (scope : Scope) (elt : Expr) (D : Addr) (o : List Rep) (K : List Rep → Ow → Prop) : Prop :=
  ∀ (s : Shared) (H0 : Hp) (C : Addr) (cl : List (Str × Addr)) (fp : List Addr), WE (X.blk s H0 scope (compEnvC scope cl C X.env) fp) E Γ ((D, OL o) :: M1) elt fun ρ M2 => ∃ M3 ρ', M2 = (D, OL o) :: M3 ∧ Sub ρ ρ' ∧ o.length < 100000 ∧ K (o ++ [ρ']) M3
def LcTest (X : Cx) (E : En) (Γ : Gm) (M1 : Ow) (scope : Scope) (tst : Expr) (D : Addr) (o : List Rep) (K : Bool → Ow → Prop) : Prop :=
  ∀ (s : Shared) (H0 : Hp) (C : Addr) (cl : List (Str × Addr)) (fp : List Addr), WT (X.blk s H0 scope (compEnvC scope cl C X.env) fp) E Γ ((D, OL o) :: M1) tst fun k M2 => ∃ M3, M2 = (D, OL o) :: M3 ∧ K k M3
/-- what a comprehension asks -/
def LcK (X : Cx) (E : En) (Γ : Gm) (M : Ow) (scope : Scope) (vs : List Nat) (elt : Expr) (tg : TG) (n : Nat) (item : Nat → Rep → Prop) (Φ : Rep → Ow → Prop) : Prop :=
  ∃ I : Nat → List Rep → Ow → Prop, I 0 [] M ∧ (∀ i ρ o M1 D, i < n → item i ρ → I i o M1 → ∃ f, BlkT X.K tg vs ρ f ∧ LcTurn X E (f (wipeG Γ vs)) M1 scope elt D o (I (i + 1))) ∧ ∀ D o M1, D ∉ E.M → D ∉ M1.map (·.1) → I n o M1 → Φ (RRef D) ((D, OL o) :: M1)
def LcKT (X : Cx) (E : En) (Γ : Gm) (M : Ow) (scope : Scope) (vs : List Nat) (elt tst : Expr) (tg : TG) (n : Nat) (item : Nat → Rep → Prop) (Φ : Rep → Ow → Prop) : Prop :=
  ∃ I : Nat → List Rep → Ow → Prop, I 0 [] M ∧ (∀ i ρ o M1 D, i < n → item i ρ → I i o M1 → ∃ f, BlkT X.K tg vs ρ f ∧ LcTest X E (f (wipeG Γ vs)) M1 scope tst D o fun k M2 => (k = true → LcTurn X E (f (wipeG Γ vs)) M2 scope elt D o (I (i + 1))) ∧ (k = false → I (i + 1) o M2)) ∧ ∀ D o M1, D ∉ E.M → D ∉ M1.map (·.1) → I n o M1 → Φ (RRef D) ((D, OL o) :: M1)
/-- the turn's reading -/
theorem lc_turn {scope : Scope} {vs : List Nat} {tg : TG} {σ : L2.St} {D : Addr} {o : List Rep} {M1 : Ow} {Kc : List Rep → Ow → Prop} {f : Gm → Gm} {ρ : Rep} {x : V} {G H : Hp} {N : Hp → Prop}
    (bt : BlkT X.K tg vs ρ f) (ht : LcTurn X E (f (wipeG Γ vs)) M1 scope elt D o Kc) (a : At E (wipeG Γ vs) ((D, OL o) :: M1) (L2.wipe σ vs) G H) (r : ρ.p x G)
    (k : ∀ o' M2 σ2 G2 H2 Γ2, Kc o' M2 → Same G G2 → At E Γ2 ((D, OL o') :: M2) σ2 G2 H2 → N H2) :
    tg x (L2.wipe σ vs) H fun σ2 H2 => L2.wipe σ2 vs = L2.wipe σ vs ∧ tYes σ2 H2 fun b H3 => if b = true then tBE X scope elt σ2 H3 fun y H4 => ∃ acc, H4 D = some (.lst acc) ∧ acc.length < sizeLine ∧ N (upd H4 D (.lst (acc ++ [y]))) else N H3 := by
  refine bt.run _ a r fun σ' e a1 => ⟨e, ?_⟩
  show tBE X scope elt σ' H _
  intro s H0 C cl fp
  refine ht s H0 C cl fp σ' G H a1 _ fun ρ2 M2 v G2 H2 ⟨M3, ρ', e2, sb, hl, hk⟩ s2 a2 r2 => ?_
  subst e2
  obtain ⟨u, e3, ws, e4, rf⟩ := a2.own _ List.mem_cons_self
  subst e4
  refine ⟨ws, e3, Nat.lt_of_lt_of_le (by rw [← rf.length]; exact hl) (szOf (Nat.le_refl _)), ?_⟩
  exact k _ _ _ _ _ _ hk s2 (a2.write (r' := OL (o ++ [ρ'])) Fnd.here ⟨_, rfl, rf.app ⟨sb _ _ r2, trivial⟩⟩)
theorem lc_turnT {tst : Expr} {scope : Scope} {vs : List Nat} {tg : TG} {σ : L2.St} {D : Addr} {o : List Rep} {M1 : Ow} {Kc : List Rep → Ow → Prop} {f : Gm → Gm} {ρ : Rep} {x : V} {G H : Hp} {N : Hp → Prop}
    (bt : BlkT X.K tg vs ρ f) (ht : LcTest X E (f (wipeG Γ vs)) M1 scope tst D o fun k M2 => (k = true → LcTurn X E (f (wipeG Γ vs)) M2 scope elt D o Kc) ∧ (k = false → Kc o M2)) (a : At E (wipeG Γ vs) ((D, OL o) :: M1) (L2.wipe σ vs) G H) (r : ρ.p x G)
    (k : ∀ o' M2 σ2 G2 H2 Γ2, Kc o' M2 → Same G G2 → At E Γ2 ((D, OL o') :: M2) σ2 G2 H2 → N H2) :
    tg x (L2.wipe σ vs) H fun σ2 H2 => L2.wipe σ2 vs = L2.wipe σ vs ∧ tBT X scope tst σ2 H2 fun b H3 => if b = true then tBE X scope elt σ2 H3 fun y H4 => ∃ acc, H4 D = some (.lst acc) ∧ acc.length < sizeLine ∧ N (upd H4 D (.lst (acc ++ [y]))) else N H3 := by
  refine bt.run _ a r fun σ' e a1 => ⟨e, ?_⟩
  intro s H0 C cl fp
  refine ht s H0 C cl fp σ' G H a1 _ fun b M2 G2 H2 ⟨M3, e2, h1, h2⟩ s2 a2 => ?_
  subst e2
  cases b with
  | false =>
    show N H2
    exact k _ _ _ _ _ _ (h2 rfl) s2 a2
  | true =>
    show tBE X scope elt σ' H2 _
    intro s H0 C cl fp
    refine h1 rfl s H0 C cl fp σ' G2 H2 a2 _ fun ρ2 M4 v G3 H3 ⟨M5, ρ', e5, sb, hl, hk⟩ s3 a3 r2 => ?_
    subst e5
    obtain ⟨u, e3, ws, e4, rf⟩ := a3.own _ List.mem_cons_self
    subst e4
    refine ⟨ws, e3, Nat.lt_of_lt_of_le (by rw [← rf.length]; exact hl) (szOf (Nat.le_refl _)), ?_⟩
    exact k _ _ _ _ _ _ hk (s2.trans s3) (a3.write (r' := OL (o ++ [ρ'])) Fnd.here ⟨_, rfl, rf.app ⟨sb _ _ r2, trivial⟩⟩)
/-- an abstract source of items: from where it begins, how it is walked -/
structure Src (X : Cx) (E : En) (Γ : Gm) (M : Ow) (wi : TI) (Z : Ow → Nat → (Nat → Rep → Prop) → Prop) : Prop where
  lc : ∀ {σ : L2.St} {G H : Hp} (R : It → Hp → Prop), At E Γ M σ G H →
    (∀ J M1 n item G1 H1, Z M1 n item → Same G G1 → At E Γ M1 σ G1 H1 → (∀ i H2 G2, Same G1 G2 → Same G2 H2 → (i < n → J.go i H2) ∧ (n ≤ i → J.stop i H2) ∧ ∀ x H3, i < n → J.yld i H2 x H3 → ∃ G3 ρ, New G2 H2 G3 H3 ∧ item i ρ ∧ ρ.p x G3) → R J H1) → wi σ H R
theorem src_list (h : WE X E Γ M iter fun ρ M1 => ∃ ρs, Sub ρ (RL X.K ρs) ∧ Z M1 ρs.length fun i ρ => ρs[i]? = some ρ) : Src X E Γ M (iList X.K (tW X iter)) Z :=
  ⟨fun {σ G H} R a k => h σ G H a _ fun ρ M1 v G1 H1 ⟨ρs, sb, hz⟩ s1 a1 r1 => by
    obtain ⟨b, vs, e, hq, rr⟩ := sb _ _ r1
    refine ⟨b, e, ⟨vs, Same.seq a1.gh hq⟩, k _ _ _ _ _ _ hz s1 a1 fun i H2 G2 s2 g2 => ⟨fun hi => ⟨vs, vs[i]'(by rw [← rr.length]; exact hi), Same.seq (s2.trans g2) hq, by simp [← rr.length, hi]⟩, fun hi => ⟨vs, Same.seq (s2.trans g2) hq, by rw [← rr.length]; exact hi⟩, fun x H3 hi ⟨e3, y⟩ => ?_⟩⟩
    subst e3
    obtain ⟨ρi, e4, r4⟩ := (rr.mono s2).get2 (y vs (Same.seq (s2.trans g2) hq))
    exact ⟨G2, ρi, New.refl g2, e4, r4⟩⟩
theorem src_tup (h : WE X E Γ M iter fun ρ M1 => ∃ ρs, Sub ρ (RT X.K ρs) ∧ Z M1 ρs.length fun i ρ => ρs[i]? = some ρ) : Src X E Γ M (iTup X.K (tW X iter)) Z :=
  ⟨fun {σ G H} R a k => h σ G H a _ fun ρ M1 v G1 H1 ⟨ρs, sb, hz⟩ s1 a1 r1 => by
    obtain ⟨b, vs, e, hq, rr⟩ := sb _ _ r1
    refine ⟨b, e, ⟨vs, same_seqT a1.gh hq⟩, k _ _ _ _ _ _ hz s1 a1 fun i H2 G2 s2 g2 => ⟨fun hi => ⟨vs, vs[i]'(by rw [← rr.length]; exact hi), same_seqT (s2.trans g2) hq, by simp [← rr.length, hi]⟩, fun hi => ⟨vs, same_seqT (s2.trans g2) hq, by rw [← rr.length]; exact hi⟩, fun x H3 hi ⟨e3, y⟩ => ?_⟩⟩
    subst e3
    obtain ⟨ρi, e4, r4⟩ := (rr.mono s2).get2 (y vs (same_seqT (s2.trans g2) hq))
    exact ⟨G2, ρi, New.refl g2, e4, r4⟩⟩
theorem src_range1 (h : WA X E Γ M [a] fun ρs M1 => ∃ j : Int, SubL ρs [RI j] ∧ (-(2 ^ 62) ≤ j ∧ j < 2 ^ 62) ∧ Z M1 j.toNat fun i ρ => ρ = RI (i : Int)) : Src X E Γ M (iRng1 (tWA X [a])) Z :=
  ⟨fun {σ G H} R a' k => h σ G H a' _ fun ρs M1 vs G1 H1 ⟨j, sb, ⟨b1, b2⟩, hz⟩ s1 a1 r1 => by
    have e : vs = [.int j] := by
      match vs, sb.reps r1 with
      | [v], ⟨r, _⟩ => exact congrArg (fun z => [z]) r
    refine ⟨j, e, b1, b2, k _ _ _ _ _ _ hz s1 a1 fun i H2 G2 s2 g2 => ⟨fun hi => hi, fun hi => hi, fun x H3 hi ⟨e3, y⟩ => ?_⟩⟩
    subst e3
    exact ⟨G2, _, New.refl g2, rfl, by rw [y, Int.zero_add]; rfl⟩⟩
theorem src_range2 (h : WA X E Γ M [a, b] fun ρs M1 => ∃ i j : Int, SubL ρs [RI i, RI j] ∧ (-(2 ^ 62) ≤ i ∧ i < 2 ^ 62 ∧ -(2 ^ 62) ≤ j ∧ j < 2 ^ 62) ∧ Z M1 (j - i).toNat fun n ρ => ρ = RI (i + n)) : Src X E Γ M (iRng2 (tWA X [a, b])) Z :=
  ⟨fun {σ G H} R a' k => h σ G H a' _ fun ρs M1 vs G1 H1 ⟨i0, j, sb, bs, hz⟩ s1 a1 r1 => by
    have e : vs = [.int i0, .int j] := by
      match vs, sb.reps r1 with
      | [v, w], ⟨r, r', _⟩ =>
        have r : v = .int i0 := r
        have r' : w = .int j := r'
        rw [r, r']
    refine ⟨i0, j, e, bs, k _ _ _ _ _ _ hz s1 a1 fun i H2 G2 s2 g2 => ⟨fun hi => hi, fun hi => hi, fun x H3 hi ⟨e3, y⟩ => ?_⟩⟩
    subst e3
    exact ⟨G2, _, New.refl g2, rfl, y⟩⟩
theorem wte_lc {scope : Scope} {vs : List Nat} {wi : TI} {tg : TG} (src : Src X E Γ M wi fun M1 n item => LcK X E Γ M1 scope vs elt tg n item Φ) (hE : ∀ a ∈ E.M, E.H a ≠ none) : WTE E Γ M (tLc wi tg tYes (tBE X scope elt) vs) Φ := fun σ G H a Q q =>
  src.lc _ a fun J M1 n item G1 H1 ⟨I, h0, ht, hd⟩ s1 a1 hJ => by
    intro D hD
    have aD := a1.own1 (r := OL []) hD ⟨[], rfl, trivial⟩
    have dE : D ∉ E.M := fun z => hE D z (a1.fresh hD)
    refine ⟨fun i m H2 => m = n - i ∧ i ≤ n ∧ ∃ o M2 G2 Γ2 σ2, I i o M2 ∧ Same G1 G2 ∧ At E Γ2 ((D, OL o) :: M2) σ2 G2 H2, ⟨n, by simp, Nat.zero_le _, [], M1, G1, Γ, σ, h0, Same.refl _, aD⟩, ?_⟩
    rintro i m H2 ⟨rfl, hi, o, M2, G2, Γ2, σ2, hI, s2, a2⟩
    obtain ⟨j1, j2, j3⟩ := hJ i H2 G2 s2 a2.gh
    have ab : At E Γ ((D, OL o) :: M2) σ G2 H2 := a1.back a2 s2
    by_cases hlt : i < n
    · refine .inr ⟨j1 hlt, fun H' => ∃ o' M' G' Γ' σ', I (i + 1) o' M' ∧ Same G1 G' ∧ At E Γ' ((D, OL o') :: M') σ' G' H', fun H' ⟨o', M', G', Γ', σ', h'⟩ => ⟨n - (i + 1), by omega, rfl, hlt, o', M', G', Γ', σ', h'⟩, fun x H3 y => ?_⟩
      obtain ⟨G3, ρ, nw, hit, r⟩ := j3 x H3 hlt y
      obtain ⟨f, bt, hturn⟩ := ht i ρ o M2 D hlt hit hI
      exact lc_turn bt hturn ((ab.new nw).wipe vs) r fun o' M' σ' G' H' Γ' hk s' a' => ⟨o', M', G', Γ', σ', hk, (s2.trans nw.gg).trans s', a'⟩
    · have e : i = n := by omega
      subst e
      refine .inl ⟨j2 (Nat.le_refl _), q _ _ _ _ _ (hd D o M2 dE ?_ hI) (s1.trans s2) ab rfl⟩
      have := ab.nd
      rw [List.map_cons, List.nodup_cons] at this
      exact this.1
theorem wte_lcT {tst : Expr} {scope : Scope} {vs : List Nat} {wi : TI} {tg : TG} (src : Src X E Γ M wi fun M1 n item => LcKT X E Γ M1 scope vs elt tst tg n item Φ) (hE : ∀ a ∈ E.M, E.H a ≠ none) : WTE E Γ M (tLc wi tg (tBT X scope tst) (tBE X scope elt) vs) Φ := fun σ G H a Q q =>
  src.lc _ a fun J M1 n item G1 H1 ⟨I, h0, ht, hd⟩ s1 a1 hJ => by
    intro D hD
    have aD := a1.own1 (r := OL []) hD ⟨[], rfl, trivial⟩
    have dE : D ∉ E.M := fun z => hE D z (a1.fresh hD)
    refine ⟨fun i m H2 => m = n - i ∧ i ≤ n ∧ ∃ o M2 G2 Γ2 σ2, I i o M2 ∧ Same G1 G2 ∧ At E Γ2 ((D, OL o) :: M2) σ2 G2 H2, ⟨n, by simp, Nat.zero_le _, [], M1, G1, Γ, σ, h0, Same.refl _, aD⟩, ?_⟩
    rintro i m H2 ⟨rfl, hi, o, M2, G2, Γ2, σ2, hI, s2, a2⟩
    obtain ⟨j1, j2, j3⟩ := hJ i H2 G2 s2 a2.gh
    have ab : At E Γ ((D, OL o) :: M2) σ G2 H2 := a1.back a2 s2
    by_cases hlt : i < n
    · refine .inr ⟨j1 hlt, fun H' => ∃ o' M' G' Γ' σ', I (i + 1) o' M' ∧ Same G1 G' ∧ At E Γ' ((D, OL o') :: M') σ' G' H', fun H' ⟨o', M', G', Γ', σ', h'⟩ => ⟨n - (i + 1), by omega, rfl, hlt, o', M', G', Γ', σ', h'⟩, fun x H3 y => ?_⟩
      obtain ⟨G3, ρ, nw, hit, r⟩ := j3 x H3 hlt y
      obtain ⟨f, bt, hturn⟩ := ht i ρ o M2 D hlt hit hI
      exact lc_turnT bt hturn ((ab.new nw).wipe vs) r fun o' M' σ' G' H' Γ' hk s' a' => ⟨o', M', G', Γ', σ', hk, (s2.trans nw.gg).trans s', a'⟩
    · have e : i = n := by omega
      subst e
      refine .inl ⟨j2 (Nat.le_refl _), q _ _ _ _ _ (hd D o M2 dE ?_ hI) (s1.trans s2) ab rfl⟩
      have := ab.nd
      rw [List.map_cons, List.nodup_cons] at this
      exact this.1
/-- [e for target in iter] as a value; y = [..] -/
theorem we_lc {scope : Scope} {own : List (Str × Nat)} {wi : TI} {t : TG} (hc : X.calm = true) (hN : X.N.Nodup) (hi : PI X tg iter wi) (ok : BlkOk X.N X.env.scope scope own)
    (hg : ∀ (s : Shared) (H : Hp) (C : Addr) (cl : List (Str × Addr)) (fp : List Addr), PG (X.blk s H scope (compEnvC scope cl C X.env) fp) tg t) (hE : ∀ a ∈ E.M, E.H a ≠ none)
    (src : Src X E Γ M wi fun M1 n item => LcK X E Γ M1 scope (own.map (·.2)) elt t n item Φ) (hs : ∀ x, foldedSetIterable iter X.env x = pure x := by intro _; rfl) : WE X E Γ M (.ListComp elt [⟨tg, iter, [], 0⟩] scope pos) Φ :=
  we_of (pe_lc hc hN hi ok hg (fun _ _ _ _ _ => pts_nil) pe_blk hs) (wte_lc src hE)
theorem we_lcT {tst : Expr} {scope : Scope} {own : List (Str × Nat)} {wi : TI} {t : TG} (hc : X.calm = true) (hN : X.N.Nodup) (hi : PI X tg iter wi) (ok : BlkOk X.N X.env.scope scope own)
    (hg : ∀ (s : Shared) (H : Hp) (C : Addr) (cl : List (Str × Addr)) (fp : List Addr), PG (X.blk s H scope (compEnvC scope cl C X.env) fp) tg t) (hE : ∀ a ∈ E.M, E.H a ≠ none)
    (src : Src X E Γ M wi fun M1 n item => LcKT X E Γ M1 scope (own.map (·.2)) elt tst t n item Φ) (hs : ∀ x, foldedSetIterable iter X.env x = pure x := by intro _; rfl) : WE X E Γ M (.ListComp elt [⟨tg, iter, [tst], 0⟩] scope pos) Φ :=
  we_of (pe_lc hc hN hi ok hg (fun s H C cl fp => pts_one (pt_blk s H C cl fp)) pe_blk hs) (wte_lcT src hE)
theorem ws_setLc (i : Nat) {y : Str} {py : Pos} {scope : Scope} {own : List (Str × Nat)} {spos : Pos} {wi : TI} {t : TG} (hc : X.calm = true) (hN : X.N.Nodup) (hy : X.N[i]? = some y) (hyl : X.env.scope.names.lookup y = some .local)
    (hsw : swapsWith (.ListComp elt [⟨tg, iter, [], 0⟩] scope pos) (some (.Name y py)) spos.line X.env = pure true) (hi : PI X tg iter wi) (ok : BlkOk X.N X.env.scope scope own)
    (hg : ∀ (s : Shared) (H : Hp) (C : Addr) (cl : List (Str × Addr)) (fp : List Addr), PG (X.blk s H scope (compEnvC scope cl C X.env) fp) tg t) (hE : ∀ a ∈ E.M, E.H a ≠ none)
    (src : Src X E Γ M wi fun M1 n item => LcK X E Γ M1 scope (own.map (·.2)) elt t n item fun ρ M' => Ψ.nx (Γ.set i (some ρ)) M') (hs : ∀ x, foldedSetIterable iter X.env x = pure x := by intro _; rfl) : WS X E Γ M (.Assign [.Name y py] (.ListComp elt [⟨tg, iter, [], 0⟩] scope pos) spos) Ψ :=
  ws_of (ps_setLc hc hN hy hyl hsw hi ok hg (fun _ _ _ _ _ => pts_nil) pe_blk hs) fun σ G H a D k => wte_lc src hE σ G H a _ fun ρ M' v G' H' h' s' a' r' => k.nx _ M' h' _ G' H' s' (a'.set r')
theorem ws_setLcT {tst : Expr} (i : Nat) {y : Str} {py : Pos} {scope : Scope} {own : List (Str × Nat)} {spos : Pos} {wi : TI} {t : TG} (hc : X.calm = true) (hN : X.N.Nodup) (hy : X.N[i]? = some y) (hyl : X.env.scope.names.lookup y = some .local)
    (hsw : swapsWith (.ListComp elt [⟨tg, iter, [tst], 0⟩] scope pos) (some (.Name y py)) spos.line X.env = pure true) (hi : PI X tg iter wi) (ok : BlkOk X.N X.env.scope scope own)
    (hg : ∀ (s : Shared) (H : Hp) (C : Addr) (cl : List (Str × Addr)) (fp : List Addr), PG (X.blk s H scope (compEnvC scope cl C X.env) fp) tg t) (hE : ∀ a ∈ E.M, E.H a ≠ none)
    (src : Src X E Γ M wi fun M1 n item => LcKT X E Γ M1 scope (own.map (·.2)) elt tst t n item fun ρ M' => Ψ.nx (Γ.set i (some ρ)) M') (hs : ∀ x, foldedSetIterable iter X.env x = pure x := by intro _; rfl) : WS X E Γ M (.Assign [.Name y py] (.ListComp elt [⟨tg, iter, [tst], 0⟩] scope pos) spos) Ψ :=
  ws_of (ps_setLc hc hN hy hyl hsw hi ok hg (fun s H C cl fp => pts_one (pt_blk s H C cl fp)) pe_blk hs) fun σ G H a D k => wte_lcT src hE σ G H a _ fun ρ M' v G' H' h' s' a' r' => k.nx _ M' h' _ G' H' s' (a'.set r')
end
end MM

namespace MM
open PySem L2 PyProof.Rows
/-! ### sizes -/
def Bd (n : Nat) (i : Int) : Prop := i.natAbs < 2 ^ n
theorem pow2_le {a b : Nat} (h : a ≤ b) : 2 ^ a ≤ 2 ^ b := Nat.pow_le_pow_right (by decide) h
theorem Bd.mono {n m : Nat} {i : Int} (h : Bd n i) (l : n ≤ m) : Bd m i := Nat.lt_of_lt_of_le h (pow2_le l)
theorem bd_mul {n m : Nat} {i j : Int} (h : Bd n i) (h' : Bd m j) : Bd (n + m) (i * j) := wide_lt h h'
theorem pow_max {n m : Nat} : 2 ^ n + 2 ^ m ≤ 2 ^ (max n m + 1) := by
  have h1 : 2 ^ n ≤ 2 ^ (max n m) := pow2_le (Nat.le_max_left _ _)
  have h2 : 2 ^ m ≤ 2 ^ (max n m) := pow2_le (Nat.le_max_right _ _)
  rw [Nat.pow_succ]; omega
theorem bd_add {n m : Nat} {i j : Int} (h : Bd n i) (h' : Bd m j) : Bd (max n m + 1) (i + j) := by
  have h1 : i.natAbs < 2 ^ n := h
  have h2 : j.natAbs < 2 ^ m := h'
  have h3 := @pow_max n m
  have h4 := Int.natAbs_add_le i j
  show (i + j).natAbs < _
  omega
theorem bd_sub {n m : Nat} {i j : Int} (h : Bd n i) (h' : Bd m j) : Bd (max n m + 1) (i - j) := by
  have h1 : i.natAbs < 2 ^ n := h
  have h2 : j.natAbs < 2 ^ m := h'
  have h3 := @pow_max n m
  show (i - j).natAbs < _
  omega
theorem bd_neg {n : Nat} {i : Int} (h : Bd n i) : Bd n (-i) := by
  show (-i).natAbs < _
  rw [Int.natAbs_neg]; exact h
theorem bd_div {n : Nat} {i j : Int} (hj : 0 < j) (h : Bd n i) : Bd n (i / j) := by
  have h1 : i.natAbs < 2 ^ n := h
  show (i / j).natAbs < _
  have := Int.natAbs_ediv_le_natAbs i j
  omega
theorem bd_mod {n : Nat} {i j : Int} (hj : 0 < j) (h : Bd n j) : Bd n (i % j) := by
  have h1 : j.natAbs < 2 ^ n := h
  have h2 := Int.emod_nonneg i (by omega : j ≠ 0)
  have h3 := Int.emod_lt_of_pos i hj
  show (i % j).natAbs < _
  omega
theorem bd_range {n : Nat} {i : Int} (h0 : -(2 ^ n : Nat) < i) (h1 : i < (2 ^ n : Nat)) : Bd n i := by
  show i.natAbs < _
  omega
theorem Bd.lo {n : Nat} {i : Int} (h : Bd n i) : -((2 ^ n : Nat) : Int) < i := by
  have h1 : i.natAbs < 2 ^ n := h
  omega
theorem Bd.hi {n : Nat} {i : Int} (h : Bd n i) : i < ((2 ^ n : Nat) : Int) := by
  have h1 : i.natAbs < 2 ^ n := h
  omega
theorem bd_log {n : Nat} {i : Int} (h : Bd n i) (hn : 0 < n) : i.natAbs.log2 < n := PySem.Flt.log2_lt_of hn h
theorem mulOk {n m : Nat} {i j : Int} (h : Bd n i) (h' : Bd m j) (l : n + m ≤ 900000) : CMulW i j := by
  have h1 := bd_log (h.mono (Nat.le_succ n)) (by omega)
  have h2 := bd_log (h'.mono (Nat.le_succ m)) (by omega)
  unfold CMulW
  omega
theorem divOk {n : Nat} {i j : Int} (h0 : 0 < j) (h : Bd n j) (l : n < 9000) : CDivW i j := by
  refine ⟨h0, ?_⟩
  have h1 := bd_log (h.mono (Nat.le_succ n)) (by omega)
  omega
/-! ### operators on plain values -/
section
variable {X : Cx}
def CDivA (_ j : Int) : Prop := j ≠ 0 ∧ j.natAbs.log2 < 9000
theorem divOkA {n : Nat} {i j : Int} (h0 : j ≠ 0) (h : Bd n j) (l : n < 9000) : CDivA i j := by
  refine ⟨h0, ?_⟩
  have h1 := bd_log (h.mono (Nat.le_succ n)) (by omega)
  omega
theorem op_fdivA : OpR X (binaryOp .FloorDiv) (rI CDivA fun i j => .int (i.fdiv j)) := opI fun i j _ _ _ _ _ hc q => floordiv_int hc.1 q (.inl (PyProof.noPylong_of_log2 hc.2))
theorem iop_fdivA : OpR X (inplaceOp .FloorDiv) (rI CDivA fun i j => .int (i.fdiv j)) := opI fun i j _ _ _ _ _ hc q => ifloordiv_int hc.1 q (.inl (PyProof.noPylong_of_log2 hc.2))
/-- s * 0, s * 1 -/
theorem op_rep_str : OpR X (binaryOp .Mult) (fun x y H Q => ∃ z i, x = .str z ∧ y = .int i ∧ (i = 0 ∨ i = 1) ∧ Q (.str (if i = 1 then z else Str.empty)) H) := by
  intro pins s σ H x y v u Q I rx ry h
  obtain ⟨z, i, rfl, rfl, h0, q⟩ := h
  obtain ⟨t, rfl⟩ := rx
  obtain ⟨t', rfl⟩ := ry
  rcases h0 with rfl | rfl
  · exact PySem.P.mul_str_none (by decide) (by decide) ⟨.str _, H, I.tok _, ⟨_, rfl⟩, q⟩
  · refine PySem.P.mul_str (by decide) (fun _ h => by simp at h) (fun _ h => by simp at h) ?_
    rw [if_neg (by decide), if_pos (by simp)]
    exact ⟨.str z, H, I, ⟨_, rfl⟩, q⟩
def rAddU (K : PySem.W.Frag) : R2 := fun x y H Q => (rI0 fun i j => .int (i + j)) x y H Q ∨ (∃ i j, x = .str i ∧ y = .str j ∧ i.length + j.length ≤ sizeLine ∧ Q (.str (i ++ j)) H) ∨ rCat x y H Q ∨ rCatT K x y H Q
theorem op_addU : OpR X (binaryOp .Add) (rAddU X.K) := op_add.or (op_add_str.or (op_cat.or op_catT))
def rMulU : R2 := fun x y H Q => (rI CMulW fun i j => .int (i * j)) x y H Q ∨ (∃ z i, x = .str z ∧ y = .int i ∧ (i = 0 ∨ i = 1) ∧ Q (.str (if i = 1 then z else Str.empty)) H) ∨ rRep x y H Q
theorem op_mulU : OpR X (binaryOp .Mult) rMulU := op_mulW.or (op_rep_str.or op_rep)
abbrev rSubI : R2 := rI0 fun i j => .int (i - j)
abbrev rDivA : R2 := rI CDivA fun i j => .int (i.fdiv j)
abbrev rModN : R2 := rI (fun _ j => j ≠ 0) fun i j => .int (i.fmod j)
abbrev rPow : R2 := rI CPow fun i j => .int (i ^ j.toNat)
theorem opv_i {r : R2} {i j : Int} {v : V} {ρ : Rep} (h : ∀ (H : Hp) (Q : VK), Q v H → r (.int i) (.int j) H Q) (hv : ∀ G, ρ.p v G) : OpV r (RI i) (RI j) ρ := fun x y G H s hx hy Q q => by
  have hx : x = .int i := hx
  have hy : y = .int j := hy
  subst hx hy
  exact h H Q (q v G H (New.refl s) (hv G))
theorem opv_add_i {K : PySem.W.Frag} {i j : Int} : OpV (rAddU K) (RI i) (RI j) (RI (i + j)) := opv_i (fun H Q q => .inl ⟨i, j, rfl, rfl, q⟩) fun _ => rfl
theorem opv_sub_i {i j : Int} : OpV rSubI (RI i) (RI j) (RI (i - j)) := opv_i (fun H Q q => ⟨i, j, rfl, rfl, q⟩) fun _ => rfl
theorem opv_mul_i {i j : Int} (h : CMulW i j) : OpV rMulU (RI i) (RI j) (RI (i * j)) := opv_i (fun H Q q => .inl ⟨i, j, rfl, rfl, h, q⟩) fun _ => rfl
theorem opv_div_i {i j : Int} (h : 0 < j) (h9 : j.natAbs.log2 < 9000) : OpV rDivA (RI i) (RI j) (RI (i / j)) := opv_i (fun H Q q => ⟨i, j, rfl, rfl, ⟨by omega, h9⟩, by show Q (V.int (i.fdiv j)) H; rw [Int.fdiv_eq_ediv_of_nonneg i (by omega)]; exact q⟩) fun _ => rfl
theorem opv_fdiv_i {i j : Int} (h : CDivA i j) : OpV rDivA (RI i) (RI j) (RI (i.fdiv j)) := opv_i (fun H Q q => ⟨i, j, rfl, rfl, h, q⟩) fun _ => rfl
theorem opv_mod_i {i j : Int} (h : 0 < j) : OpV rModN (RI i) (RI j) (RI (i % j)) := opv_i (fun H Q q => ⟨i, j, rfl, rfl, by omega, by show Q (V.int (i.fmod j)) H; rw [Int.fmod_eq_emod_of_nonneg i (by omega)]; exact q⟩) fun _ => rfl
theorem opv_fmod_i {i j : Int} (h : j ≠ 0) : OpV rModN (RI i) (RI j) (RI (i.fmod j)) := opv_i (fun H Q q => ⟨i, j, rfl, rfl, h, q⟩) fun _ => rfl
theorem opv_pow_i {i j : Int} (h : CPow i j) : OpV rPow (RI i) (RI j) (RI (i ^ j.toNat)) := opv_i (fun H Q q => ⟨i, j, rfl, rfl, h, q⟩) fun _ => rfl
abbrev rLtI : R2 := rI0 fun i j => .bl (decide (i < j))
abbrev rLeI : R2 := rI0 fun i j => .bl (decide (i ≤ j))
abbrev rGtI : R2 := rI0 fun i j => .bl (decide (j < i))
abbrev rGeI : R2 := rI0 fun i j => .bl (decide (j ≤ i))
theorem opv_lt_i {i j : Int} : OpV rLtI (RI i) (RI j) (RB (decide (i < j))) := opv_i (fun H Q q => ⟨i, j, rfl, rfl, q⟩) fun _ => rfl
theorem opv_le_i {i j : Int} : OpV rLeI (RI i) (RI j) (RB (decide (i ≤ j))) := opv_i (fun H Q q => ⟨i, j, rfl, rfl, q⟩) fun _ => rfl
theorem opv_gt_i {i j : Int} : OpV rGtI (RI i) (RI j) (RB (decide (j < i))) := opv_i (fun H Q q => ⟨i, j, rfl, rfl, q⟩) fun _ => rfl
theorem opv_ge_i {i j : Int} : OpV rGeI (RI i) (RI j) (RB (decide (j ≤ i))) := opv_i (fun H Q q => ⟨i, j, rfl, rfl, q⟩) fun _ => rfl
theorem opv_add_s {K : PySem.W.Frag} {i j : Str} (h : i.length + j.length ≤ 100000) : OpV (rAddU K) (RS i) (RS j) (RS (i ++ j)) := fun x y G H s hx hy Q q => by
  have hx : x = .str i := hx
  have hy : y = .str j := hy
  subst hx hy
  exact .inr (.inl ⟨i, j, rfl, rfl, szOf h, q _ G H (New.refl s) rfl⟩)
theorem opv_add_l {K : PySem.W.Frag} {ρs ρs' : List Rep} (h : ρs.length + ρs'.length ≤ 100000) : OpV (rAddU K) (RLt ρs) (RLt ρs') (RLt (ρs ++ ρs')) := fun x y G H s ⟨a, xs, e1, h1, r1⟩ ⟨b, ys, e2, h2, r2⟩ Q q => by
  subst e1 e2
  refine .inr (.inr (.inl ⟨a, b, xs, ys, rfl, rfl, s _ _ h1, s _ _ h2, by rw [← r1.length, ← r2.length]; exact szOf h, fun p hp => ?_⟩))
  have n : New G H (upd G p (.lst (xs ++ ys))) (upd H p (.lst (xs ++ ys))) := New.put s hp
  exact q _ _ _ n ⟨p, _, rfl, upd_same, (r1.app r2).mono n.gg⟩
theorem opv_mul_s {i : Int} {z : Str} (h : i = 0 ∨ i = 1) : OpV rMulU (RS z) (RI i) (RS (if i = 1 then z else Str.empty)) := fun x y G H s hx hy Q q => by
  have hx : x = .str z := hx
  have hy : y = .int i := hy
  subst hx hy
  exact .inr (.inl ⟨z, i, rfl, rfl, h, q _ G H (New.refl s) rfl⟩)
/-! ### data compared -/
def IsD (K : PySem.W.Frag) (ρ : Rep) (d : PyData) : Prop := ∀ v G H, Same G H → ρ.p v G → Dp K H v d
def IsDs (K : PySem.W.Frag) (ρs : List Rep) (ds : List PyData) : Prop := ∀ vs G H, Same G H → Reps ρs vs G → DpAll K H vs ds
theorem isD_i {K : PySem.W.Frag} {i : Int} : IsD K (RI i) (.int i) := fun v G H _ h => by
  have h : v = .int i := h
  subst h; exact .int i
theorem isD_b {K : PySem.W.Frag} {i : Bool} : IsD K (RB i) (.bool i) := fun v G H _ h => by
  have h : v = .bl i := h
  subst h; exact .bl i
theorem isD_s {K : PySem.W.Frag} {i : Str} : IsD K (RS i) (.str i) := fun v G H _ h => by
  have h : v = .str i := h
  subst h; exact .str i
theorem isD_n {K : PySem.W.Frag} : IsD K RN .none := fun v G H _ h => by
  have h : v = .non := h
  subst h; exact .non
def oD : Option Int → PyData
  | none => .none
  | some i => .int i
theorem isD_o {K : PySem.W.Frag} : ∀ {o : Option Int}, IsD K (RO o) (oD o)
  | none => isD_n
  | some _ => isD_i
theorem isDs_nil {K : PySem.W.Frag} : IsDs K [] [] := fun vs G H _ h => by
  match vs, h with
  | [], _ => exact .nil
theorem isDs_cons {K : PySem.W.Frag} {ρ : Rep} {ρs : List Rep} {d : PyData} {ds : List PyData} (h : IsD K ρ d) (hs : IsDs K ρs ds) : IsDs K (ρ :: ρs) (d :: ds) := fun vs G H s r => by
  match vs, r with
  | v :: vs, ⟨r1, r2⟩ => exact .cons (h v G H s r1) (hs vs G H s r2)
theorem isDs_map {K : PySem.W.Frag} {α : Type} {f : α → Rep} {g : α → PyData} (h : ∀ a, IsD K (f a) (g a)) : ∀ l : List α, IsDs K (l.map f) (l.map g)
  | [] => isDs_nil
  | a :: l => isDs_cons (h a) (isDs_map h l)
theorem isD_t {K : PySem.W.Frag} {ρs : List Rep} {ds : List PyData} (h : IsDs K ρs ds) : IsD K (RT K ρs) (.tuple ds) := fun v G H s ⟨a, vs, e, hq, r⟩ => by
  subst e; exact .tup (same_seqT s hq) (h vs G H s r)
theorem isD_tt {K : PySem.W.Frag} {ρs : List Rep} {ds : List PyData} (h : IsDs K ρs ds) : IsD K (RTt ρs) (.tuple ds) := fun v G H s r => isD_t h v G H s (sub_tt v G r)
theorem isD_l {K : PySem.W.Frag} {ρs : List Rep} {ds : List PyData} (h : IsDs K ρs ds) : IsD K (RL K ρs) (.list ds) := fun v G H s ⟨a, vs, e, hq, r⟩ => by
  subst e; exact .lst (Same.seq s hq) (h vs G H s r)
theorem isD_lt {K : PySem.W.Frag} {ρs : List Rep} {ds : List PyData} (h : IsDs K ρs ds) : IsD K (RLt ρs) (.list ds) := fun v G H s r => isD_l h v G H s (sub_lt v G r)
theorem isD_sub {K : PySem.W.Frag} {ρ ρ' : Rep} {d : PyData} (sb : Sub ρ ρ') (h : IsD K ρ' d) : IsD K ρ d := fun v G H s r => h v G H s (sb v G r)
theorem opv_eq {K : PySem.W.Frag} {ρ ρ' : Rep} {d e : PyData} (h1 : IsD K ρ d) (h2 : IsD K ρ' e) (s1 : SeqAt.shaped d = true) (s2 : SeqAt.shaped e = true) : OpV (rEqD K) ρ ρ' (RB (PyData.eqv d e)) := fun x y G H s hx hy Q q =>
  ⟨d, e, h1 x G H s hx, h2 y G H s hy, s1, s2, q _ G H (New.refl s) rfl⟩
theorem opv_ne {K : PySem.W.Frag} {ρ ρ' : Rep} {d e : PyData} (h1 : IsD K ρ d) (h2 : IsD K ρ' e) (s1 : SeqAt.shaped d = true) (s2 : SeqAt.shaped e = true) : OpV (rNeD K) ρ ρ' (RB (!PyData.eqv d e)) := fun x y G H s hx hy Q q =>
  ⟨d, e, h1 x G H s hx, h2 y G H s hy, s1, s2, q _ G H (New.refl s) rfl⟩
theorem opv_sub {r : R2} {a b a' b' ρ : Rep} (h1 : Sub a a') (h2 : Sub b b') (h : OpV r a' b' ρ) : OpV r a b ρ := fun x y G H s hx hy Q q => h x y G H s (h1 _ _ hx) (h2 _ _ hy) Q q
/-- is None -/
abbrev rIsN : R2 := fun x y H Q => y = .non ∧ Q (.bl (decide (x = .non))) H
abbrev rNotN : R2 := fun x y H Q => y = .non ∧ Q (.bl (!decide (x = .non))) H
theorem opv_isN {ρ : Rep} {b : Bool} (h : ∀ v G, ρ.p v G → decide (v = V.non) = b) : OpV rIsN ρ RN (RB b) := fun x y G H s hx hy Q q => ⟨hy, q _ G H (New.refl s) (congrArg V.bl (h x G hx))⟩
theorem opv_notN {ρ : Rep} {b : Bool} (h : ∀ v G, ρ.p v G → decide (v = V.non) = b) : OpV rNotN ρ RN (RB (!b)) := fun x y G H s hx hy Q q => ⟨hy, q _ G H (New.refl s) (by show V.bl _ = V.bl _; rw [h x G hx])⟩
theorem isN_o {o : Option Int} : ∀ v G, (RO o).p v G → decide (v = V.non) = o.isNone := fun v G h => by
  cases o with
  | none =>
    have h : v = .non := h
    subst h; rfl
  | some i =>
    have h : v = .int i := h
    subst h; rfl
theorem isN_i {i : Int} : ∀ v G, (RI i).p v G → decide (v = V.non) = false := fun v G h => by
  have h : v = .int i := h
  subst h; rfl
theorem isN_n : ∀ v G, RN.p v G → decide (v = V.non) = true := fun v G h => by
  have h : v = .non := h
  subst h; rfl
/-! ### subscripts -/
theorem opv_ix_l {K : PySem.W.Frag} {ρa ρ : Rep} {ρs : List Rep} {i : Int} (sb : Sub ρa (RL K ρs)) (h : atI ρs i = some ρ) : OpV (rIx K) ρa (RI i) ρ := fun x y G H s hx hy Q q => by
  obtain ⟨a, vs, e, hq, r⟩ := sb _ _ hx
  have hy : y = .int i := hy
  subst e hy
  obtain ⟨j, h1, h2, h3, h4, h5⟩ := atI_get h
  obtain ⟨v, e2, r2⟩ := r.get h2
  refine .inl ⟨a, vs, i, v, rfl, rfl, Same.seq s hq, ?_, q v G H (New.refl s) r2⟩
  unfold atI at h ⊢
  rw [← r.length]
  cases z : ixN ρs.length i with
  | none => rw [z] at h; cases h
  | some j' =>
    rw [z] at h
    have := (ixN_seq z).1
    rw [h1] at this
    cases this
    exact e2
theorem opv_ix_t {K : PySem.W.Frag} {ρa ρ : Rep} {ρs : List Rep} {i : Int} (sb : Sub ρa (RT K ρs)) (h : atI ρs i = some ρ) : OpV (rIx K) ρa (RI i) ρ := fun x y G H s hx hy Q q => by
  obtain ⟨a, vs, e, hq, r⟩ := sb _ _ hx
  have hy : y = .int i := hy
  subst e hy
  obtain ⟨j, h1, h2, h3, h4, h5⟩ := atI_get h
  obtain ⟨v, e2, r2⟩ := r.get h2
  refine .inr (.inl ⟨a, vs, i, v, rfl, rfl, same_seqT s hq, ?_, q v G H (New.refl s) r2⟩)
  unfold atI at h ⊢
  rw [← r.length]
  cases z : ixN ρs.length i with
  | none => rw [z] at h; cases h
  | some j' =>
    rw [z] at h
    have := (ixN_seq z).1
    rw [h1] at this
    cases this
    exact e2
theorem opw_ix_o {K : PySem.W.Frag} {E : En} {Γ : Gm} {M : Ow} {Φ : Rep → Ow → Prop} {ρa ρb ρ : Rep} {ρs : List Rep} {p : Addr} {u : ORep → Ow} {i : Int} (sb : Sub ρa (RRef p)) (si : Sub ρb (RI i)) (fd : Fnd M p (OL ρs) u) (h : atI ρs i = some ρ) (k : Φ ρ M) : OpW E Γ M (rIx K) ρa ρb Φ := fun σ G H a x y hx hy Q q => by
  have e1 : x = .ref p := sb _ _ hx
  have e2 : y = .int i := si _ _ hy
  subst e1 e2
  obtain ⟨o, e3, vs, e4, r⟩ := a.own _ fd.mem
  subst e4
  obtain ⟨j, h1, h2, h3, h4, h5⟩ := atI_get h
  obtain ⟨v, e5, r2⟩ := r.get h2
  refine .inl ⟨p, vs, i, v, rfl, rfl, SqL.of e3, ?_, q ρ M v G H k (Same.refl _) a r2⟩
  unfold atI at h ⊢
  rw [← r.length]
  cases z : ixN ρs.length i with
  | none => rw [z] at h; cases h
  | some j' =>
    rw [z] at h
    have := (ixN_seq z).1
    rw [h1] at this
    cases this
    exact e5
/-- an item at an open place: one of the list's -/
theorem atI_of {α : Type} {l : List α} {i : Int} (h0 : 0 ≤ i) (h1 : i < l.length) : ∃ x, atI l i = some x ∧ x ∈ l ∧ l[i.toNat]? = some x := by
  have hl : i.toNat < l.length := by omega
  have e : ((i.toNat : Nat) : Int) = i := by omega
  have h := atI_nat (xs := l) (j := i.toNat) (v := l[i.toNat]) (by simp [hl])
  rw [e] at h
  exact ⟨l[i.toNat], h, List.getElem_mem hl, by simp [hl]⟩
/-! ### built-in functions -/
theorem cav_abs {i : Int} : CaV (fun xs H Q => ∃ i, xs = [.int i] ∧ Q (.int (if i < 0 then -i else i)) H) [RI i] (RI (i.natAbs : Int)) := fun vs G H s r Q q => by
  match vs, r with
  | [v], ⟨r1, _⟩ =>
    have r1 : v = .int i := r1
    subst r1
    refine ⟨i, rfl, q _ G H (New.refl s) ?_⟩
    show V.int _ = V.int _
    congr 1
    split <;> omega
theorem cav_int_b {b : Bool} : CaV (fun xs H Q => (∃ i, xs = [.int i] ∧ Q (.int i) H) ∨ ∃ k, xs = [.bl k] ∧ Q (.int (if k then 1 else 0)) H) [RB b] (RI (if b then 1 else 0)) := fun vs G H s r Q q => by
  match vs, r with
  | [v], ⟨r1, _⟩ =>
    have r1 : v = .bl b := r1
    subst r1
    exact .inr ⟨b, rfl, q _ G H (New.refl s) rfl⟩
theorem cav_max2 {i j : Int} : CaV (fun xs H Q => ∃ i j, xs = [.int i, .int j] ∧ Q (.int (if j > i then j else i)) H) [RI i, RI j] (RI (max i j)) := fun vs G H s r Q q => by
  match vs, r with
  | [v, w], ⟨r1, r2, _⟩ =>
    have r1 : v = .int i := r1
    have r2 : w = .int j := r2
    subst r1 r2
    refine ⟨i, j, rfl, q _ G H (New.refl s) ?_⟩
    show V.int _ = V.int _
    congr 1
    split <;> omega
theorem cav_min2 {i j : Int} : CaV (fun xs H Q => ∃ i j, xs = [.int i, .int j] ∧ Q (.int (if j < i then j else i)) H) [RI i, RI j] (RI (min i j)) := fun vs G H s r Q q => by
  match vs, r with
  | [v, w], ⟨r1, r2, _⟩ =>
    have r1 : v = .int i := r1
    have r2 : w = .int j := r2
    subst r1 r2
    refine ⟨i, j, rfl, q _ G H (New.refl s) ?_⟩
    show V.int _ = V.int _
    congr 1
    split <;> omega
theorem cav_str_i {i : Int} (h : i.natAbs.log2 < 1920) : CaV (fun xs H Q => ∃ i, xs = [.int i] ∧ i.natAbs.log2 < 1920 ∧ Q (.str (toString i)) H) [RI i] (RS (Str.ofString (toString i))) := fun vs G H s r Q q => by
  match vs, r with
  | [v], ⟨r1, _⟩ =>
    have r1 : v = .int i := r1
    subst r1
    exact ⟨i, rfl, h, q _ G H (New.refl s) rfl⟩
/-- isinstance -/
def TyIs (K : PySem.W.Frag) (ρ : Rep) (t : Value) : Prop := ∀ v G H, Same G H → ρ.p v G → TyX K H v t
theorem tyIs_i {K : PySem.W.Frag} {i : Int} : TyIs K (RI i) (.type "int") := fun v G H _ h => by
  have h : v = .int i := h
  subst h; exact .base (.int i)
theorem tyIs_b {K : PySem.W.Frag} {i : Bool} : TyIs K (RB i) (.type "bool") := fun v G H _ h => by
  have h : v = .bl i := h
  subst h; exact .base (.bl i)
theorem tyIs_s {K : PySem.W.Frag} {i : Str} : TyIs K (RS i) (.type "str") := fun v G H _ h => by
  have h : v = .str i := h
  subst h; exact .base (.str i)
theorem tyIs_n {K : PySem.W.Frag} : TyIs K RN (.type "NoneType") := fun v G H _ h => by
  have h : v = .non := h
  subst h; exact .base .non
theorem tyIs_lt {K : PySem.W.Frag} {ρs : List Rep} : TyIs K (RLt ρs) (.type "list") := fun v G H s ⟨a, vs, e, h, _⟩ => by
  subst e; exact .base (.lst (s _ _ h))
theorem tyIs_tt {K : PySem.W.Frag} {ρs : List Rep} : TyIs K (RTt ρs) (.type "tuple") := fun v G H s ⟨a, vs, e, h, _⟩ => by
  subst e; exact .base (.tup (s _ _ h))
/-- what isinstance asks of an own class -/
structure ClsI (K : PySem.W.Frag) (C : Addr) : Prop where
  cl : Cls K C
  ha : PySem.W.findIn K (.ref C) "__class__" = some (some (.builtin "object.__class__"))
  hn : PySem.W.specialIn K (.builtin "object.__class__") "__get__" = some (some (.builtin "getset_descriptor.__get__"))
  htk : PySem.W.takesIn K (.builtin "object.__class__") = some true
  hm : PySem.W.mroIn K C (.type "object") = some true
theorem tyIs_ins {K : PySem.W.Frag} {C : Addr} {l : List (Str × Rep)} (c : ClsI K C) : TyIs K (RIns C l) (.ref C) := fun v G H s ⟨a, dx, fs, e, h, _⟩ => by
  subst e; exact .base (.ins (s _ _ h) c.cl c.ha c.hn c.htk c.hm)
theorem tyIs_sub {K : PySem.W.Frag} {ρ ρ' : Rep} {t : Value} (sb : Sub ρ ρ') (h : TyIs K ρ' t) : TyIs K ρ t := fun v G H s r => h v G H s (sb v G r)
theorem cav_isi {K : PySem.W.Frag} {ρ : Rep} {c : V} {t u : Value} {b : Bool} (h : TyIs K ρ t) (hc : ClsV c u) (e : PySem.W.kitOne K t u = some b) : CaV (rIsi K) [ρ, RV c] (RB b) := fun vs G H s r Q q => by
  match vs, r with
  | [v, w], ⟨r1, r2, _⟩ =>
    have r2 : w = c := r2
    subst r2
    exact ⟨v, w, t, u, b, rfl, hc, h v G H s r1, e, q _ G H (New.refl s) rfl⟩
theorem kit_self {K : PySem.W.Frag} {C : Addr} : PySem.W.kitOne K (.ref C) (.ref C) = some true := by
  unfold PySem.W.kitOne
  rw [if_pos (by simp)]
/-! ### the truth of own things without __bool__ and __len__ -/
theorem tru_ins {C : Addr} (hb : PySem.W.findIn X.K (.ref C) "__bool__" = some none) (hl : PySem.W.findIn X.K (.ref C) "__len__" = some none) {pins : List (Addr × Obj)} {s : Shared} {σ : L2.St} {H : Hp} {a dx : Addr} {fs : List (Str × V)} {Q : Bool → Hp → Prop} (I : L2.Inv X pins σ H s) (h : H a = some (.ins C dx fs)) (q : Q true H) :
    wpAny (model X.prog X.w) X.A (truthy (.ref a)) (TP X pins σ Q) X.xe s := by
  obtain ⟨mA, O, _, _, _, _⟩ := ins_get I.hok h
  obtain ⟨od, J, _⟩ := O.look
  have K' := I.kIn
  unfold truthy
  refine wpAny_bind (m := callSpecial? (.ref a) (Str.ofString "__bool__")) (wpAny_bind (wpAny_bind (J.type.here ((PySem.W.looks_findIn K' hb).here (wpAny_pure ?_)))))
  refine wpAny_bind (wpAny_bind (J.type.here ((PySem.W.looks_findIn K' hl).here ?_)))
  exact wpAny_pure ⟨H, I, q⟩
end
/-- x or y, x an own thing, or a plain value of known truth -/
def Tru (X : Cx) (ρ : Rep) (k : Bool) : Prop := ∀ {pins : List (Addr × Obj)} {s : Shared} {σ : L2.St} {G H : Hp} {x : V} {v : Value} {Q : Bool → Hp → Prop}, L2.Inv X pins σ H s → Same G H → ρ.p x G → RelV x v → Q k H → wpAny (model X.prog X.w) X.A (truthy v) (TP X pins σ Q) X.xe s
section
variable {X : Cx} {E : En} {Γ : Gm} {M : Ow} {a b e : Expr} {pos : Pos} {Φ : Rep → Ow → Prop}
theorem tru_of {ρ : Rep} {k : Bool} (h : ∀ x G H, Same G H → ρ.p x G → TruV X.K x H k) : Tru X ρ k := fun {pins s σ G H x v Q} I sg hx r q => tru_ok pins s σ H x v Q I r ⟨k, h x G H sg hx, q⟩
theorem truIns {C : Addr} {l : List (Str × Rep)} (hb : PySem.W.findIn X.K (.ref C) "__bool__" = some none) (hl : PySem.W.findIn X.K (.ref C) "__len__" = some none) : Tru X (RIns C l) true := fun {pins s σ G H x v Q} I sg ⟨a, dx, fs, e, h, _⟩ r q => by
  subst e
  obtain rfl : v = Value.ref a := r
  exact tru_ins hb hl I (sg _ _ h) q
theorem truSub {ρ ρ' : Rep} {k : Bool} (sb : Sub ρ ρ') (h : Tru X ρ' k) : Tru X ρ k := fun {pins s σ G H x v Q} I sg hx r q => h I sg (sb _ _ hx) r q
theorem truN : Tru X RN false := tru_of fun x G H _ h => by
  have h : x = .non := h
  subst h; rfl
theorem truI {i : Int} : Tru X (RI i) (i != 0) := tru_of fun x G H _ h => by
  have h : x = .int i := h
  subst h; rfl
theorem truB {i : Bool} : Tru X (RB i) i := fun {pins s σ G H x v Q} I sg hx r q => by
  have h : x = .bl i := hx
  subst h
  obtain rfl : v = Value.bool i := r
  exact wpAny_truthy_bool ⟨H, I, q⟩
theorem we_orT {rest : List Expr} (h : WE X E Γ M a fun ρ M' => ∃ k, Tru X ρ k ∧ (k = false → WE X E Γ M' (.BoolOp .Or (b :: rest) pos) Φ) ∧ (k = true → Φ ρ M')) : WE X E Γ M (.BoolOp .Or (a :: b :: rest) pos) Φ := fun σ G H at' Q q pins s I => by
  refine BoolOp_or (thn (h σ G H at' (fun v H1 => ∃ ρ M' G1 k, Tru X ρ k ∧ (k = false → WE X E Γ M' (.BoolOp .Or (b :: rest) pos) Φ) ∧ (k = true → Φ ρ M') ∧ Same G G1 ∧ At E Γ M' σ G1 H1 ∧ ρ.p v G1) (fun ρ M' v G1 H1 ⟨k, t, h1, h2⟩ s1 a1 r1 => ⟨ρ, M', G1, k, t, h1, h2, s1, a1, r1⟩) pins s I) fun v s1 ⟨x, H1, I1, r1, ρ, M', G1, k, t, h1, h2, sg, a1, rx⟩ => ?_)
  refine thn (t (Q := fun c H2 => c = k ∧ H2 = H1) I1 a1.gh rx r1 ⟨rfl, rfl⟩) fun c s2 ⟨H2, I2, e1, e2⟩ => ?_
  subst e1 e2
  cases c with
  | true => exact ⟨x, H2, I2, r1, q ρ M' x G1 H2 (h2 rfl) sg a1 rx⟩
  | false => exact h1 rfl σ G1 H2 a1 Q (fun ρ' M2 v2 G2 H3 hk s3 => q ρ' M2 v2 G2 H3 hk (sg.trans s3)) pins s2 I2
/-- any expression as a test, by its truth -/
theorem wt_tru {Φ : Bool → Ow → Prop} (h : WE X E Γ M e fun ρ M' => ∃ k, Tru X ρ k ∧ Φ k M') (he : ∀ whole, isTrue e X.env whole = (do let v ← whole; standAt e.pos; holding [v] (truthy v)) := by intro _; rfl) : WT X E Γ M e Φ := fun σ G H a Q q pins s I => by
  refine isTrue_plain (thn (h σ G H a (fun v H1 => ∃ ρ M' G1 k, Tru X ρ k ∧ Φ k M' ∧ Same G G1 ∧ At E Γ M' σ G1 H1 ∧ ρ.p v G1) (fun ρ M' v G1 H1 ⟨k, t, hk⟩ s1 a1 r1 => ⟨ρ, M', G1, k, t, hk, s1, a1, r1⟩) pins s I) fun v s1 ⟨x, H1, I1, r1, ρ, M', G1, k, t, hk, sg, a1, rx⟩ => ?_) (he _)
  exact t I1 a1.gh rx r1 (q k M' G1 H1 hk sg a1)
end
end MM

namespace MM
open PySem L2 PyProof.Rows
/-! ### calls with keywords -/
def KnK (P : Program) (w : World) (K : PySem.W.Frag) (mg : Str → Option Value) (base : Heap) (k : Nat) (x : Str) (n : Nat) (ks : List Str) (gV : List V → List V → List V) (c : Con) : Prop :=
  ∃ (f : Addr) (fd : FuncData) (ps : List Str) (g : List Value → List Value → List Value), mg x = some (.ref f) ∧ PySem.W.keepIn K (.ref f) = true ∧ KBn K fd ps n ks g gV ∧ FnOk P w K mg base CX0 k f fd ps (conSp c)
def KnCK (P : Program) (w : World) (K : PySem.W.Frag) (mg : Str → Option Value) (base : Heap) (k : Nat) (x : Str) (C : Addr) (n : Nat) (ks : List Str) (gV : List V → List V → List V) (c : Con) : Prop :=
  ∃ (f : Addr) (fd : FuncData) (ps : List Str) (g : List Value → List Value → List Value), mg x = some (.ref C) ∧ Mk K C f ∧ KBn K fd ps (n + 1) ks g gV ∧ FnOk P w K mg base CX0 k f fd ps (conSp c)
def KnMK (P : Program) (w : World) (K : PySem.W.Frag) (mg : Str → Option Value) (base : Heap) (k : Nat) (C : Addr) (m : Str) (n : Nat) (ks : List Str) (gV : List V → List V → List V) (c : Con) : Prop :=
  ∃ (f : Addr) (fd : FuncData) (ps : List Str) (g : List Value → List Value → List Value), Meth K C m f ∧ Cls K C ∧ KBn K fd ps (n + 1) ks g gV ∧ FnOk P w K mg base CX0 k f fd ps (conSp c)
/-- the same rearrangement of representations as of values -/
structure GvR (gV : List V → List V → List V) (gR : List Rep → List Rep → List Rep) (n m : Nat) : Prop where
  run : ∀ {ρs ρz : List Rep} {vs zs : List V} {G : Hp}, ρs.length = n → ρz.length = m → Reps ρs vs G → Reps ρz zs G → Reps (gR ρs ρz) (gV vs zs) G
section
variable {X : Cx} {E : En} {Γ : Gm} {M : Ow} {a b e : Expr} {es : List Expr} {kws : List Keyword} {ks : List Str} {pos p apos : Pos} {Φ : Rep → Ow → Prop} {k n : Nat} {x : Str} {c : Con} {gV : List V → List V → List V} {gR : List Rep → List Rep → List Rep}
theorem pe_callN0 {CX : CXT} {f : Addr} {fd : FuncData} {ps : List Str} {sp : Sp} {EE : XK} {tk : TA} {g : List Value → List Value → List Value} (F : FnOk X.prog X.w X.K X.mg X.base CX k f fd ps sp) (hr : Room k X.A) (hg : Gl X x) (hm : X.mg x = some (.ref f)) (hk : PySem.W.keepIn X.K (.ref f) = true) (hb : KBn X.K fd ps 0 ks g gV) (hx : Passes CX X EE) (hkw : PK X kws tk)
    (hall : (backToKw pos (keywordEach kws X.env)).all (·.1.isSome) = true := by rfl) (hks : (backToKw pos (keywordEach kws X.env)).filterMap (·.1) = ks := by rfl) (hdb : (x == ("__debug__" : Str)) = false := by decide)
    (hpl : ((backTo pos (starEach [] X.env)).any (·.1) || (backToKw pos (keywordEach kws X.env)).any (·.1.isNone)) = false := by rfl) :
    PE X (.Call (.Name x p) [] kws pos) (tCallN 0 ks.length sp gV EE tNil tk) := by
  refine ⟨fun pins s σ H Q I h => ?_⟩
  refine wpAny_Call_Name_kw (ld_glob I hg hm ?_ hdb)
  refine PySem.W.callWith_KW0 (h₀ := X.base) I.ok.mod.kin hk hall ?_ hpl
  refine thn (hkw.run pos pins s σ H _ I h) fun ws s2 ⟨zs, H2, I2, rz, l1, l2, q2⟩ => ⟨I2.kIn, ?_⟩
  rw [hks]
  exact run_fnN (us := []) (vs := []) F hr hb hx I2 .nil rz rfl l2 q2
theorem we_callN (F : KnK X.prog X.w X.K X.mg X.base k x n ks gV c) (gr : GvR gV gR n ks.length) (hr : Room k X.A) (hg : Gl X x) (hx : Passes CX0 X E0)
    (h : WA X E Γ M (e :: es) fun ρs M1 => ρs.length = n ∧ WK X E Γ M1 kws fun ρz M2 => ρz.length = ks.length ∧ CallK c (gR ρs ρz) M2 Φ)
    (hall : (backToKw pos (keywordEach kws X.env)).all (·.1.isSome) = true := by rfl) (hks : (backToKw pos (keywordEach kws X.env)).filterMap (·.1) = ks := by rfl)
    (hdb : (x == ("__debug__" : Str)) = false := by decide) (he : starEach (e :: es) X.env = (false, eval e X.env) :: starEach es X.env := by rfl)
    (hpl : ((backTo pos (starEach (e :: es) X.env)).any (·.1) || (backToKw pos (keywordEach kws X.env)).any (·.1.isNone)) = false := by rfl) :
    WE X E Γ M (.Call (.Name x p) (e :: es) kws pos) Φ := by
  obtain ⟨f, fd, ps, g, hm, hk, hb, F⟩ := F
  refine we_of (pe_callN F hr hg hm hk hb hx pa_w pk_w hall hks hdb he hpl) fun σ G H a Q q => ?_
  exact h σ G H a _ fun ρs M1 vs G1 H1 ⟨l1, h1⟩ s1 a1 r1 => h1 σ G1 H1 a1 _ fun ρz M2 zs G2 H2 ⟨l2, hh⟩ s2 a2 r2 =>
    ⟨by rw [← r1.length]; exact l1, by rw [← r2.length]; exact l2, callK_run hh a2 (gr.run l1 l2 (r1.mono s2) r2) fun ρ M3 v G3 H3 h3 s3 => q ρ M3 v G3 H3 h3 ((s1.trans s2).trans s3)⟩
theorem we_callN0 (F : KnK X.prog X.w X.K X.mg X.base k x 0 ks gV c) (gr : GvR gV gR 0 ks.length) (hr : Room k X.A) (hg : Gl X x) (hx : Passes CX0 X E0)
    (h : WK X E Γ M kws fun ρz M2 => ρz.length = ks.length ∧ CallK c (gR [] ρz) M2 Φ)
    (hall : (backToKw pos (keywordEach kws X.env)).all (·.1.isSome) = true := by rfl) (hks : (backToKw pos (keywordEach kws X.env)).filterMap (·.1) = ks := by rfl) (hdb : (x == ("__debug__" : Str)) = false := by decide)
    (hpl : ((backTo pos (starEach [] X.env)).any (·.1) || (backToKw pos (keywordEach kws X.env)).any (·.1.isNone)) = false := by rfl) :
    WE X E Γ M (.Call (.Name x p) [] kws pos) Φ := by
  obtain ⟨f, fd, ps, g, hm, hk, hb, F⟩ := F
  refine we_of (pe_callN0 F hr hg hm hk hb hx pk_w hall hks hdb hpl) fun σ G H a Q q => ?_
  show tWK X kws σ H _
  exact h σ G H a _ fun ρz M2 zs G2 H2 ⟨l2, hh⟩ s2 a2 r2 =>
    ⟨rfl, by rw [← r2.length]; exact l2, callK_run hh a2 (gr.run rfl l2 trivial r2) fun ρ M3 v G3 H3 h3 s3 => q ρ M3 v G3 H3 h3 (s2.trans s3)⟩
/-- __init__ with keywords: the thing itself stands first -/
def MakeN (E : En) (C : Addr) (c : Con) (gR : List Rep → List Rep → List Rep) (ρs ρz : List Rep) (M : Ow) (Φ : Rep → Ow → Prop) : Prop :=
  ∀ p, p ∉ M.map (·.1) → p ∉ E.M → CallK c (gR (RRef p :: ρs) ρz) ((p, OIns C []) :: M) fun ρ M' => Sub ρ RN ∧ ∃ l M2, Rm M' p (OIns C l) M2 ∧ Φ (RIns C l) M2
theorem makeN_run {C : Addr} {σ : L2.St} {G H : Hp} {m : Nat} {ρs ρz : List Rep} {vs zs : List V} {Q : VK} (gr : GvR gV gR (n + 1) m) (l1 : ρs.length = n) (l2 : ρz.length = m) (hE : ∀ a ∈ E.M, E.H a ≠ none) (h : MakeN E C c gR ρs ρz M Φ) (a : At E Γ M σ G H) (r : Reps ρs vs G) (r2 : Reps ρz zs G)
    (q : ∀ ρ M' v G' H', Φ ρ M' → Same G G' → At E Γ M' σ G' H' → ρ.p v G' → Q v H') :
    ∀ x dx, H x = none → H dx = none → dx ≠ x → conSp c (gV (.ref x :: vs) zs) (upd (upd H dx (.own x)) x (.ins C dx [])) (fun v H2 => v = .non ∧ Q (.ref x) H2) E0 := fun x dx nx nd ne => by
  have n1 : New G H G (upd H dx (.own x)) := New.side a.gh nd
  have a1 := a.new n1
  have nx1 : upd H dx (.own x) x = none := by rw [upd_ne (Ne.symm ne)]; exact nx
  have hpE : x ∉ E.M := fun z => hE x z (a.fresh nx)
  have a2 := a1.own1 (r := OIns C []) nx1 ⟨dx, [], rfl, trivial⟩
  refine callK_run (h x (a.freshM nx) hpE) a2 (gr.run (by simp [l1]) l2 ⟨rfl, r⟩ r2) fun ρ M' v G' H' ⟨sb, l, M2, rm, hΦ⟩ s' a' r' => ⟨sb _ _ r', ?_⟩
  obtain ⟨o, e1, ⟨dx', fs, e2, rf⟩, sg, a3⟩ := a'.freeze rm hpE
  subst e2
  exact q _ _ _ _ _ hΦ (s'.trans sg) a3 ⟨x, dx', fs, rfl, upd_same, rf.mono sg⟩
theorem we_makeN {C : Addr} (F : KnCK X.prog X.w X.K X.mg X.base k x C n ks gV c) (gr : GvR gV gR (n + 1) ks.length) (hr : Room (k + 1) X.A) (hg : Gl X x) (hx : Passes CX0 X E0) (hE : ∀ a ∈ E.M, E.H a ≠ none)
    (h : WA X E Γ M (e :: es) fun ρs M1 => ρs.length = n ∧ WK X E Γ M1 kws fun ρz M2 => ρz.length = ks.length ∧ MakeN E C c gR ρs ρz M2 Φ)
    (hall : (backToKw pos (keywordEach kws X.env)).all (·.1.isSome) = true := by rfl) (hks : (backToKw pos (keywordEach kws X.env)).filterMap (·.1) = ks := by rfl)
    (hdb : (x == ("__debug__" : Str)) = false := by decide) (he : starEach (e :: es) X.env = (false, eval e X.env) :: starEach es X.env := by rfl)
    (hpl : ((backTo pos (starEach (e :: es) X.env)).any (·.1) || (backToKw pos (keywordEach kws X.env)).any (·.1.isNone)) = false := by rfl) :
    WE X E Γ M (.Call (.Name x p) (e :: es) kws pos) Φ := by
  obtain ⟨f, fd, ps, g, hm, Mk, hb, F⟩ := F
  refine we_of (pe_makeN Mk F hr hg hm hb hx pa_w pk_w hall hks hdb he hpl) fun σ G H a Q q => ?_
  exact h σ G H a _ fun ρs M1 vs G1 H1 ⟨l1, h1⟩ s1 a1 r1 => h1 σ G1 H1 a1 _ fun ρz M2 zs G2 H2 ⟨l2, hh⟩ s2 a2 r2 =>
    ⟨by rw [← r1.length]; exact l1, by rw [← r2.length]; exact l2, makeN_run gr l1 l2 hE hh a2 (r1.mono s2) r2 fun ρ M3 v G3 H3 h3 s3 => q ρ M3 v G3 H3 h3 ((s1.trans s2).trans s3)⟩
theorem we_makeN0 {C : Addr} (F : KnCK X.prog X.w X.K X.mg X.base k x C 0 ks gV c) (gr : GvR gV gR 1 ks.length) (hr : Room (k + 1) X.A) (hg : Gl X x) (hx : Passes CX0 X E0) (hE : ∀ a ∈ E.M, E.H a ≠ none)
    (h : WK X E Γ M kws fun ρz M2 => ρz.length = ks.length ∧ MakeN E C c gR [] ρz M2 Φ)
    (hall : (backToKw pos (keywordEach kws X.env)).all (·.1.isSome) = true := by rfl) (hks : (backToKw pos (keywordEach kws X.env)).filterMap (·.1) = ks := by rfl) (hdb : (x == ("__debug__" : Str)) = false := by decide)
    (hpl : ((backTo pos (starEach [] X.env)).any (·.1) || (backToKw pos (keywordEach kws X.env)).any (·.1.isNone)) = false := by rfl) :
    WE X E Γ M (.Call (.Name x p) [] kws pos) Φ := by
  obtain ⟨f, fd, ps, g, hm, Mk, hb, F⟩ := F
  refine we_of (pe_makeK0 Mk F hr hg hm hb hx pk_w hall hks hdb hpl) fun σ G H a Q q => ?_
  show tWK X kws σ H _
  exact h σ G H a _ fun ρz M2 zs G2 H2 ⟨l2, hh⟩ s2 a2 r2 =>
    ⟨rfl, by rw [← r2.length]; exact l2, makeN_run (n := 0) gr rfl l2 hE hh a2 trivial r2 fun ρ M3 v G3 H3 h3 s3 => q ρ M3 v G3 H3 h3 (s2.trans s3)⟩
end
/-! ### a def with defaults -/
abbrev FdD (K : PySem.W.Frag) (x qual : Str) (st : Stmt) (dvs : List V) (f : Addr) (fd : FuncData) : Prop := FunD K x qual (defArgs st) (defBody st) (defScope st) dvs [] f fd
theorem fn_conD {P : Program} {w : World} {K : PySem.W.Frag} {mg : Str → Option Value} {base : Heap} {x qual : Str} {st : Stmt} {dvs : List V} {f : Addr} {fd : FuncData} {N ps : List Str} {k : Nat} (c : Con) (F : FdD K x qual st dvs f fd) (S : FnScope N ps (defScope st)) (hl : ∀ i, (c.args i).length = ps.length)
    (h : ∀ (cd : Value) (A : Around) (outer : List Env) (s : Shared) (H : Hp) (EE : XK) (G : Hp) (i : c.I), c.pre i → Room k (A.deeper (PyProof.Rows.envOfC qual (defScope st) s.heap.objs.size f cd)) → (∀ a ∈ (c.own i).map (·.1), H a ≠ none) →
      WSs (xd P w K mg base N qual (defScope st) f cd A outer s H EE) ⟨G, H, (c.own i).map (·.1)⟩ (startG N (c.args i)) (c.own i) (defBody st) (EdOf c i)) : FnOk P w K mg base CX0 (k + 1) f fd ps (conSp c) := by
  refine F.ok S (fun vs H Q EE hh => ?_) fun cdv A outer s H vs Q EE hr hh => ?_
  · obtain ⟨G, i, _, _, r, _⟩ := hh
    rw [← r.length]; exact hl i
  · obtain ⟨G, i, gh, hp, r, o1, o2, o3, kk⟩ := hh
    refine ⟨tWSs (xd P w K mg base N qual (defScope st) f cdv A outer s H EE) (defBody st), pss_w.nox, ?_⟩
    have hE : ∀ a ∈ (c.own i).map (·.1), H a ≠ none := fun a ha => by
      obtain ⟨q, hq, e⟩ := List.mem_map.mp ha
      obtain ⟨o, e2, _⟩ := o1 q hq
      rw [← e, e2]; simp
    have a0 : At ⟨G, H, (c.own i).map (·.1)⟩ (startG N (c.args i)) (c.own i) (L2.start N vs) G H :=
      ⟨by simp [startG, L2.start, r.length], start_env r, gh, o1, o2, o3, Same.refl _, fun _ _ _ e => e, fun _ _ hg => hg, fun q hq => .inl (List.mem_map.mpr ⟨q, hq, rfl⟩), fun _ h => h⟩
    have fin : ∀ ρ M, Rt c i ρ M → ∀ v G' H', At ⟨G, H, (c.own i).map (·.1)⟩ [] M [] G' H' → ρ.p v G' → Q v H' := fun ρ M ⟨x, rest, px, sb, pk⟩ v G' H' a rv => by
      obtain ⟨p1, p2, p3⟩ := a.picked pk
      have fm := pk.f a.nd
      refine kk x v G' H' px ⟨a.g0, a.gh, fun b u h1 h2 => a.keep b u h1 h2, fun b h1 h2 => a.nw b h1 h2, p1, p2, p3, fun q hq => ?_, fun b hb => a.there b hb⟩ (sb _ _ rv)
      obtain ⟨q', h1, h2, _⟩ := fm.own q hq
      rw [← h2]; exact a.loc q' h1
    exact h cdv A outer s H EE G i hp hr hE (L2.start N vs) G H a0 _ ⟨fun Γ M h' σ G' H' _ a' => fin _ _ h' _ _ _ a'.env0 rfl, fun ρ M h' v G' H' _ a' rv => fin _ _ h' _ _ _ a' rv, fun _ _ h' => h'.elim, fun _ _ h' => h'.elim⟩
theorem fdD_mk {K : PySem.W.Frag} {x qual : Str} {st : Stmt} {f : Addr} {oc : Value} {od an : Option Addr} {osl : Array (Option Value)} {kV doc pm cdv ct : Value} (l : K.lookup f = some ⟨oc, od, .func (PySem.W.fnOf x qual (defArgs st) (defBody st) (defScope st) .none kV doc pm an cdv ct), osl⟩)
    (c : PySem.W.codeIn K cdv qual = true) (k : PySem.W.keepIn K (.ref f) = true) : FdD K x qual st [] f (PySem.W.fnOf x qual (defArgs st) (defBody st) (defScope st) .none kV doc pm an cdv ct) :=
  ⟨⟨oc, od, .none, kV, doc, pm, an, cdv, ct, osl, rfl, l, c, .inl ⟨rfl, rfl⟩, .inl rfl⟩, k⟩
theorem fdD_mkT {K : PySem.W.Frag} {x qual : Str} {st : Stmt} {dvs : List V} {f T : Addr} {oc tc : Value} {od td an : Option Addr} {osl tsl : Array (Option Value)} {kV doc pm cdv ct : Value} {its : Array Value} {n : Nat} (l : K.lookup f = some ⟨oc, od, .func (PySem.W.fnOf x qual (defArgs st) (defBody st) (defScope st) (.ref T) kV doc pm an cdv ct), osl⟩)
    (c : PySem.W.codeIn K cdv qual = true) (k : PySem.W.keepIn K (.ref f) = true) (lT : K.lookup T = some ⟨tc, td, .seq its n, tsl⟩) (hd : dvs ≠ []) (hv : Vals dvs its.toList) : FdD K x qual st dvs f (PySem.W.fnOf x qual (defArgs st) (defBody st) (defScope st) (.ref T) kV doc pm an cdv ct) :=
  ⟨⟨oc, od, .ref T, kV, doc, pm, an, cdv, ct, osl, rfl, l, c, .inr ⟨hd, T, ⟨tc, td, .seq its n, tsl⟩, its.toList, n, rfl, lT, by simp, hv⟩, .inl rfl⟩, k⟩
end MM

namespace MM
open PySem L2 PyProof.Rows
/-! ### the text by places -/
def top (i : Nat) : Stmt := PySem.Challenge.pw_meanmoon_k61_wheels.main.body.getD i (.Pass ⟨0, 0, 0, 0⟩)
abbrev s_Wheel_init : Stmt := inClass (top 4) 0
abbrev N_Wheel_init : List Str := ["self", "names", "first"]
theorem sc_Wheel_init : FnScope N_Wheel_init ["self", "names", "first"] (defScope s_Wheel_init) := ⟨rfl, rfl, rfl, by decide +kernel, rfl, by decide +kernel, by decide +kernel⟩
abbrev X_Wheel_init (P : Program) (w : World) (K : PySem.W.Frag) (mg : Str → Option Value) (base : Heap) (f : Addr) (cd : Value) (A : Around) (outer : List Env) (s : Shared) (H : Hp) (EE : XK) : Cx := xd P w K mg base N_Wheel_init "Wheel.__init__" (defScope s_Wheel_init) f cd A outer s H EE
section
variable {P : Program} {w : World} {K : PySem.W.Frag} {mg : Str → Option Value} {base : Heap} {f : Addr} {cd : Value} {A : Around} {outer : List Env} {s : Shared} {H : Hp} {EE : XK}
theorem r0_Wheel_init : Rd1 (X_Wheel_init P w K mg base f cd A outer s H EE) 0 "self" := ⟨rfl, by first | exact .inl rfl | exact .inr (.inl rfl), by decide, by decide⟩
theorem w0_Wheel_init : Wr1 (X_Wheel_init P w K mg base f cd A outer s H EE) 0 "self" := ⟨sc_Wheel_init.nd, rfl, by first | exact .inl rfl | exact .inr rfl, .inl rfl⟩
theorem r1_Wheel_init : Rd1 (X_Wheel_init P w K mg base f cd A outer s H EE) 1 "names" := ⟨rfl, by first | exact .inl rfl | exact .inr (.inl rfl), by decide, by decide⟩
theorem w1_Wheel_init : Wr1 (X_Wheel_init P w K mg base f cd A outer s H EE) 1 "names" := ⟨sc_Wheel_init.nd, rfl, by first | exact .inl rfl | exact .inr rfl, .inl rfl⟩
theorem r2_Wheel_init : Rd1 (X_Wheel_init P w K mg base f cd A outer s H EE) 2 "first" := ⟨rfl, by first | exact .inl rfl | exact .inr (.inl rfl), by decide, by decide⟩
theorem w2_Wheel_init : Wr1 (X_Wheel_init P w K mg base f cd A outer s H EE) 2 "first" := ⟨sc_Wheel_init.nd, rfl, by first | exact .inl rfl | exact .inr rfl, .inl rfl⟩
theorem g_len_Wheel_init : Gl (X_Wheel_init P w K mg base f cd A outer s H EE) "len" := rfl
theorem g_set_Wheel_init : Gl (X_Wheel_init P w K mg base f cd A outer s H EE) "set" := rfl
theorem g_NoWheel_Wheel_init : Gl (X_Wheel_init P w K mg base f cd A outer s H EE) "NoWheel" := rfl
theorem g_list_Wheel_init : Gl (X_Wheel_init P w K mg base f cd A outer s H EE) "list" := rfl
theorem g_tuple_Wheel_init : Gl (X_Wheel_init P w K mg base f cd A outer s H EE) "tuple" := rfl
end
abbrev s_Wheel_len : Stmt := inClass (top 4) 1
abbrev N_Wheel_len : List Str := ["self"]
theorem sc_Wheel_len : FnScope N_Wheel_len ["self"] (defScope s_Wheel_len) := ⟨rfl, rfl, rfl, by decide +kernel, rfl, by decide +kernel, by decide +kernel⟩
abbrev X_Wheel_len (P : Program) (w : World) (K : PySem.W.Frag) (mg : Str → Option Value) (base : Heap) (f : Addr) (cd : Value) (A : Around) (outer : List Env) (s : Shared) (H : Hp) (EE : XK) : Cx := xd P w K mg base N_Wheel_len "Wheel.__len__" (defScope s_Wheel_len) f cd A outer s H EE
section
variable {P : Program} {w : World} {K : PySem.W.Frag} {mg : Str → Option Value} {base : Heap} {f : Addr} {cd : Value} {A : Around} {outer : List Env} {s : Shared} {H : Hp} {EE : XK}
theorem r0_Wheel_len : Rd1 (X_Wheel_len P w K mg base f cd A outer s H EE) 0 "self" := ⟨rfl, by first | exact .inl rfl | exact .inr (.inl rfl), by decide, by decide⟩
theorem w0_Wheel_len : Wr1 (X_Wheel_len P w K mg base f cd A outer s H EE) 0 "self" := ⟨sc_Wheel_len.nd, rfl, by first | exact .inl rfl | exact .inr rfl, .inl rfl⟩
theorem g_len_Wheel_len : Gl (X_Wheel_len P w K mg base f cd A outer s H EE) "len" := rfl
end
abbrev s_Wheel_eq : Stmt := inClass (top 4) 2
abbrev N_Wheel_eq : List Str := ["self", "other"]
theorem sc_Wheel_eq : FnScope N_Wheel_eq ["self", "other"] (defScope s_Wheel_eq) := ⟨rfl, rfl, rfl, by decide +kernel, rfl, by decide +kernel, by decide +kernel⟩
abbrev X_Wheel_eq (P : Program) (w : World) (K : PySem.W.Frag) (mg : Str → Option Value) (base : Heap) (f : Addr) (cd : Value) (A : Around) (outer : List Env) (s : Shared) (H : Hp) (EE : XK) : Cx := xd P w K mg base N_Wheel_eq "Wheel.__eq__" (defScope s_Wheel_eq) f cd A outer s H EE
section
variable {P : Program} {w : World} {K : PySem.W.Frag} {mg : Str → Option Value} {base : Heap} {f : Addr} {cd : Value} {A : Around} {outer : List Env} {s : Shared} {H : Hp} {EE : XK}
theorem r0_Wheel_eq : Rd1 (X_Wheel_eq P w K mg base f cd A outer s H EE) 0 "self" := ⟨rfl, by first | exact .inl rfl | exact .inr (.inl rfl), by decide, by decide⟩
theorem w0_Wheel_eq : Wr1 (X_Wheel_eq P w K mg base f cd A outer s H EE) 0 "self" := ⟨sc_Wheel_eq.nd, rfl, by first | exact .inl rfl | exact .inr rfl, .inl rfl⟩
theorem r1_Wheel_eq : Rd1 (X_Wheel_eq P w K mg base f cd A outer s H EE) 1 "other" := ⟨rfl, by first | exact .inl rfl | exact .inr (.inl rfl), by decide, by decide⟩
theorem w1_Wheel_eq : Wr1 (X_Wheel_eq P w K mg base f cd A outer s H EE) 1 "other" := ⟨sc_Wheel_eq.nd, rfl, by first | exact .inl rfl | exact .inr rfl, .inl rfl⟩
theorem g_isinstance_Wheel_eq : Gl (X_Wheel_eq P w K mg base f cd A outer s H EE) "isinstance" := rfl
theorem g_Wheel_Wheel_eq : Gl (X_Wheel_eq P w K mg base f cd A outer s H EE) "Wheel" := rfl
theorem g_from_nought_Wheel_eq : Gl (X_Wheel_eq P w K mg base f cd A outer s H EE) "from_nought" := rfl
end
abbrev s_Wheel_repr : Stmt := inClass (top 4) 3
abbrev N_Wheel_repr : List Str := ["self"]
theorem sc_Wheel_repr : FnScope N_Wheel_repr ["self"] (defScope s_Wheel_repr) := ⟨rfl, rfl, rfl, by decide +kernel, rfl, by decide +kernel, by decide +kernel⟩
abbrev X_Wheel_repr (P : Program) (w : World) (K : PySem.W.Frag) (mg : Str → Option Value) (base : Heap) (f : Addr) (cd : Value) (A : Around) (outer : List Env) (s : Shared) (H : Hp) (EE : XK) : Cx := xd P w K mg base N_Wheel_repr "Wheel.__repr__" (defScope s_Wheel_repr) f cd A outer s H EE
section
variable {P : Program} {w : World} {K : PySem.W.Frag} {mg : Str → Option Value} {base : Heap} {f : Addr} {cd : Value} {A : Around} {outer : List Env} {s : Shared} {H : Hp} {EE : XK}
theorem r0_Wheel_repr : Rd1 (X_Wheel_repr P w K mg base f cd A outer s H EE) 0 "self" := ⟨rfl, by first | exact .inl rfl | exact .inr (.inl rfl), by decide, by decide⟩
theorem w0_Wheel_repr : Wr1 (X_Wheel_repr P w K mg base f cd A outer s H EE) 0 "self" := ⟨sc_Wheel_repr.nd, rfl, by first | exact .inl rfl | exact .inr rfl, .inl rfl⟩
theorem g_list_Wheel_repr : Gl (X_Wheel_repr P w K mg base f cd A outer s H EE) "list" := rfl
end
abbrev s_Wheel_str : Stmt := inClass (top 4) 4
abbrev N_Wheel_str : List Str := ["self"]
theorem sc_Wheel_str : FnScope N_Wheel_str ["self"] (defScope s_Wheel_str) := ⟨rfl, rfl, rfl, by decide +kernel, rfl, by decide +kernel, by decide +kernel⟩
abbrev X_Wheel_str (P : Program) (w : World) (K : PySem.W.Frag) (mg : Str → Option Value) (base : Heap) (f : Addr) (cd : Value) (A : Around) (outer : List Env) (s : Shared) (H : Hp) (EE : XK) : Cx := xd P w K mg base N_Wheel_str "Wheel.__str__" (defScope s_Wheel_str) f cd A outer s H EE
section
variable {P : Program} {w : World} {K : PySem.W.Frag} {mg : Str → Option Value} {base : Heap} {f : Addr} {cd : Value} {A : Around} {outer : List Env} {s : Shared} {H : Hp} {EE : XK}
theorem r0_Wheel_str : Rd1 (X_Wheel_str P w K mg base f cd A outer s H EE) 0 "self" := ⟨rfl, by first | exact .inl rfl | exact .inr (.inl rfl), by decide, by decide⟩
theorem w0_Wheel_str : Wr1 (X_Wheel_str P w K mg base f cd A outer s H EE) 0 "self" := ⟨sc_Wheel_str.nd, rfl, by first | exact .inl rfl | exact .inr rfl, .inl rfl⟩
theorem g_from_nought_Wheel_str : Gl (X_Wheel_str P w K mg base f cd A outer s H EE) "from_nought" := rfl
end
abbrev s_Wheel_name_on : Stmt := inClass (top 4) 5
abbrev N_Wheel_name_on : List Str := ["self", "day"]
theorem sc_Wheel_name_on : FnScope N_Wheel_name_on ["self", "day"] (defScope s_Wheel_name_on) := ⟨rfl, rfl, rfl, by decide +kernel, rfl, by decide +kernel, by decide +kernel⟩
abbrev X_Wheel_name_on (P : Program) (w : World) (K : PySem.W.Frag) (mg : Str → Option Value) (base : Heap) (f : Addr) (cd : Value) (A : Around) (outer : List Env) (s : Shared) (H : Hp) (EE : XK) : Cx := xd P w K mg base N_Wheel_name_on "Wheel.name_on" (defScope s_Wheel_name_on) f cd A outer s H EE
section
variable {P : Program} {w : World} {K : PySem.W.Frag} {mg : Str → Option Value} {base : Heap} {f : Addr} {cd : Value} {A : Around} {outer : List Env} {s : Shared} {H : Hp} {EE : XK}
theorem r0_Wheel_name_on : Rd1 (X_Wheel_name_on P w K mg base f cd A outer s H EE) 0 "self" := ⟨rfl, by first | exact .inl rfl | exact .inr (.inl rfl), by decide, by decide⟩
theorem w0_Wheel_name_on : Wr1 (X_Wheel_name_on P w K mg base f cd A outer s H EE) 0 "self" := ⟨sc_Wheel_name_on.nd, rfl, by first | exact .inl rfl | exact .inr rfl, .inl rfl⟩
theorem r1_Wheel_name_on : Rd1 (X_Wheel_name_on P w K mg base f cd A outer s H EE) 1 "day" := ⟨rfl, by first | exact .inl rfl | exact .inr (.inl rfl), by decide, by decide⟩
theorem w1_Wheel_name_on : Wr1 (X_Wheel_name_on P w K mg base f cd A outer s H EE) 1 "day" := ⟨sc_Wheel_name_on.nd, rfl, by first | exact .inl rfl | exact .inr rfl, .inl rfl⟩
theorem g_len_Wheel_name_on : Gl (X_Wheel_name_on P w K mg base f cd A outer s H EE) "len" := rfl
end
abbrev s_Wheel_next_named : Stmt := inClass (top 4) 6
abbrev N_Wheel_next_named : List Str := ["self", "day", "name"]
theorem sc_Wheel_next_named : FnScope N_Wheel_next_named ["self", "day", "name"] (defScope s_Wheel_next_named) := ⟨rfl, rfl, rfl, by decide +kernel, rfl, by decide +kernel, by decide +kernel⟩
abbrev X_Wheel_next_named (P : Program) (w : World) (K : PySem.W.Frag) (mg : Str → Option Value) (base : Heap) (f : Addr) (cd : Value) (A : Around) (outer : List Env) (s : Shared) (H : Hp) (EE : XK) : Cx := xd P w K mg base N_Wheel_next_named "Wheel.next_named" (defScope s_Wheel_next_named) f cd A outer s H EE
section
variable {P : Program} {w : World} {K : PySem.W.Frag} {mg : Str → Option Value} {base : Heap} {f : Addr} {cd : Value} {A : Around} {outer : List Env} {s : Shared} {H : Hp} {EE : XK}
theorem r0_Wheel_next_named : Rd1 (X_Wheel_next_named P w K mg base f cd A outer s H EE) 0 "self" := ⟨rfl, by first | exact .inl rfl | exact .inr (.inl rfl), by decide, by decide⟩
theorem w0_Wheel_next_named : Wr1 (X_Wheel_next_named P w K mg base f cd A outer s H EE) 0 "self" := ⟨sc_Wheel_next_named.nd, rfl, by first | exact .inl rfl | exact .inr rfl, .inl rfl⟩
theorem r1_Wheel_next_named : Rd1 (X_Wheel_next_named P w K mg base f cd A outer s H EE) 1 "day" := ⟨rfl, by first | exact .inl rfl | exact .inr (.inl rfl), by decide, by decide⟩
theorem w1_Wheel_next_named : Wr1 (X_Wheel_next_named P w K mg base f cd A outer s H EE) 1 "day" := ⟨sc_Wheel_next_named.nd, rfl, by first | exact .inl rfl | exact .inr rfl, .inl rfl⟩
theorem r2_Wheel_next_named : Rd1 (X_Wheel_next_named P w K mg base f cd A outer s H EE) 2 "name" := ⟨rfl, by first | exact .inl rfl | exact .inr (.inl rfl), by decide, by decide⟩
theorem w2_Wheel_next_named : Wr1 (X_Wheel_next_named P w K mg base f cd A outer s H EE) 2 "name" := ⟨sc_Wheel_next_named.nd, rfl, by first | exact .inl rfl | exact .inr rfl, .inl rfl⟩
theorem g_rest_of_Wheel_next_named : Gl (X_Wheel_next_named P w K mg base f cd A outer s H EE) "rest_of" := rfl
theorem g_len_Wheel_next_named : Gl (X_Wheel_next_named P w K mg base f cd A outer s H EE) "len" := rfl
end
abbrev s_f_from_nought : Stmt := top 5
abbrev N_f_from_nought : List Str := ["wheel", "day"]
theorem sc_f_from_nought : FnScope N_f_from_nought ["wheel"] (defScope s_f_from_nought) := ⟨rfl, rfl, rfl, by decide +kernel, rfl, by decide +kernel, by decide +kernel⟩
abbrev X_f_from_nought (P : Program) (w : World) (K : PySem.W.Frag) (mg : Str → Option Value) (base : Heap) (f : Addr) (cd : Value) (A : Around) (outer : List Env) (s : Shared) (H : Hp) (EE : XK) : Cx := xd P w K mg base N_f_from_nought "from_nought" (defScope s_f_from_nought) f cd A outer s H EE
section
variable {P : Program} {w : World} {K : PySem.W.Frag} {mg : Str → Option Value} {base : Heap} {f : Addr} {cd : Value} {A : Around} {outer : List Env} {s : Shared} {H : Hp} {EE : XK}
theorem r0_f_from_nought : Rd1 (X_f_from_nought P w K mg base f cd A outer s H EE) 0 "wheel" := ⟨rfl, by first | exact .inl rfl | exact .inr (.inl rfl), by decide, by decide⟩
theorem w0_f_from_nought : Wr1 (X_f_from_nought P w K mg base f cd A outer s H EE) 0 "wheel" := ⟨sc_f_from_nought.nd, rfl, by first | exact .inl rfl | exact .inr rfl, .inl rfl⟩
theorem g_range_f_from_nought : Gl (X_f_from_nought P w K mg base f cd A outer s H EE) "range" := rfl
theorem g_len_f_from_nought : Gl (X_f_from_nought P w K mg base f cd A outer s H EE) "len" := rfl
end
abbrev s_f_rest_of : Stmt := top 6
abbrev N_f_rest_of : List Str := ["wheel", "name", "places", "place", "e", "one"]
theorem sc_f_rest_of : FnScope N_f_rest_of ["wheel", "name"] (defScope s_f_rest_of) := ⟨rfl, rfl, rfl, by decide +kernel, rfl, by decide +kernel, by decide +kernel⟩
abbrev X_f_rest_of (P : Program) (w : World) (K : PySem.W.Frag) (mg : Str → Option Value) (base : Heap) (f : Addr) (cd : Value) (A : Around) (outer : List Env) (s : Shared) (H : Hp) (EE : XK) : Cx := xd P w K mg base N_f_rest_of "rest_of" (defScope s_f_rest_of) f cd A outer s H EE
section
variable {P : Program} {w : World} {K : PySem.W.Frag} {mg : Str → Option Value} {base : Heap} {f : Addr} {cd : Value} {A : Around} {outer : List Env} {s : Shared} {H : Hp} {EE : XK}
theorem r0_f_rest_of : Rd1 (X_f_rest_of P w K mg base f cd A outer s H EE) 0 "wheel" := ⟨rfl, by first | exact .inl rfl | exact .inr (.inl rfl), by decide, by decide⟩
theorem w0_f_rest_of : Wr1 (X_f_rest_of P w K mg base f cd A outer s H EE) 0 "wheel" := ⟨sc_f_rest_of.nd, rfl, by first | exact .inl rfl | exact .inr rfl, .inl rfl⟩
theorem r1_f_rest_of : Rd1 (X_f_rest_of P w K mg base f cd A outer s H EE) 1 "name" := ⟨rfl, by first | exact .inl rfl | exact .inr (.inl rfl), by decide, by decide⟩
theorem w1_f_rest_of : Wr1 (X_f_rest_of P w K mg base f cd A outer s H EE) 1 "name" := ⟨sc_f_rest_of.nd, rfl, by first | exact .inl rfl | exact .inr rfl, .inl rfl⟩
theorem r2_f_rest_of : Rd1 (X_f_rest_of P w K mg base f cd A outer s H EE) 2 "places" := ⟨rfl, by first | exact .inl rfl | exact .inr (.inl rfl), by decide, by decide⟩
theorem w2_f_rest_of : Wr1 (X_f_rest_of P w K mg base f cd A outer s H EE) 2 "places" := ⟨sc_f_rest_of.nd, rfl, by first | exact .inl rfl | exact .inr rfl, .inl rfl⟩
theorem r3_f_rest_of : Rd1 (X_f_rest_of P w K mg base f cd A outer s H EE) 3 "place" := ⟨rfl, by first | exact .inl rfl | exact .inr (.inl rfl), by decide, by decide⟩
theorem w3_f_rest_of : Wr1 (X_f_rest_of P w K mg base f cd A outer s H EE) 3 "place" := ⟨sc_f_rest_of.nd, rfl, by first | exact .inl rfl | exact .inr rfl, .inl rfl⟩
theorem r4_f_rest_of : Rd1 (X_f_rest_of P w K mg base f cd A outer s H EE) 4 "e" := ⟨rfl, by first | exact .inl rfl | exact .inr (.inl rfl), by decide, by decide⟩
theorem w4_f_rest_of : Wr1 (X_f_rest_of P w K mg base f cd A outer s H EE) 4 "e" := ⟨sc_f_rest_of.nd, rfl, by first | exact .inl rfl | exact .inr rfl, .inl rfl⟩
theorem g_dict_f_rest_of : Gl (X_f_rest_of P w K mg base f cd A outer s H EE) "dict" := rfl
theorem g_enumerate_f_rest_of : Gl (X_f_rest_of P w K mg base f cd A outer s H EE) "enumerate" := rfl
theorem g_KeyError_f_rest_of : Gl (X_f_rest_of P w K mg base f cd A outer s H EE) "KeyError" := rfl
theorem g_NoName_f_rest_of : Gl (X_f_rest_of P w K mg base f cd A outer s H EE) "NoName" := rfl
end
abbrev s_f_L_draws : Stmt := top 8
abbrev N_f_L_draws : List Str := ["_law_cell", "_law_cut", "_law_k"]
theorem sc_f_L_draws : FnScope N_f_L_draws ["_law_cell"] (defScope s_f_L_draws) := ⟨rfl, rfl, rfl, by decide +kernel, rfl, by decide +kernel, by decide +kernel⟩
abbrev X_f_L_draws (P : Program) (w : World) (K : PySem.W.Frag) (mg : Str → Option Value) (base : Heap) (f : Addr) (cd : Value) (A : Around) (outer : List Env) (s : Shared) (H : Hp) (EE : XK) : Cx := xd P w K mg base N_f_L_draws "_law_draws" (defScope s_f_L_draws) f cd A outer s H EE
section
variable {P : Program} {w : World} {K : PySem.W.Frag} {mg : Str → Option Value} {base : Heap} {f : Addr} {cd : Value} {A : Around} {outer : List Env} {s : Shared} {H : Hp} {EE : XK}
theorem r0_f_L_draws : Rd1 (X_f_L_draws P w K mg base f cd A outer s H EE) 0 "_law_cell" := ⟨rfl, by first | exact .inl rfl | exact .inr (.inl rfl), by decide, by decide⟩
theorem w0_f_L_draws : Wr1 (X_f_L_draws P w K mg base f cd A outer s H EE) 0 "_law_cell" := ⟨sc_f_L_draws.nd, rfl, by first | exact .inl rfl | exact .inr rfl, .inl rfl⟩
theorem r1_f_L_draws : Rd1 (X_f_L_draws P w K mg base f cd A outer s H EE) 1 "_law_cut" := ⟨rfl, by first | exact .inl rfl | exact .inr (.inl rfl), by decide, by decide⟩
theorem w1_f_L_draws : Wr1 (X_f_L_draws P w K mg base f cd A outer s H EE) 1 "_law_cut" := ⟨sc_f_L_draws.nd, rfl, by first | exact .inl rfl | exact .inr rfl, .inl rfl⟩
theorem r2_f_L_draws : Rd1 (X_f_L_draws P w K mg base f cd A outer s H EE) 2 "_law_k" := ⟨rfl, by first | exact .inl rfl | exact .inr (.inl rfl), by decide, by decide⟩
theorem w2_f_L_draws : Wr1 (X_f_L_draws P w K mg base f cd A outer s H EE) 2 "_law_k" := ⟨sc_f_L_draws.nd, rfl, by first | exact .inl rfl | exact .inr rfl, .inl rfl⟩
theorem g_range_f_L_draws : Gl (X_f_L_draws P w K mg base f cd A outer s H EE) "range" := rfl
end
abbrev s_f_L_next : Stmt := top 9
abbrev N_f_L_next : List Str := ["_law_draws_here", "_law_k", "_law_number"]
theorem sc_f_L_next : FnScope N_f_L_next ["_law_draws_here"] (defScope s_f_L_next) := ⟨rfl, rfl, rfl, by decide +kernel, rfl, by decide +kernel, by decide +kernel⟩
abbrev X_f_L_next (P : Program) (w : World) (K : PySem.W.Frag) (mg : Str → Option Value) (base : Heap) (f : Addr) (cd : Value) (A : Around) (outer : List Env) (s : Shared) (H : Hp) (EE : XK) : Cx := xd P w K mg base N_f_L_next "_law_next" (defScope s_f_L_next) f cd A outer s H EE
section
variable {P : Program} {w : World} {K : PySem.W.Frag} {mg : Str → Option Value} {base : Heap} {f : Addr} {cd : Value} {A : Around} {outer : List Env} {s : Shared} {H : Hp} {EE : XK}
theorem r0_f_L_next : Rd1 (X_f_L_next P w K mg base f cd A outer s H EE) 0 "_law_draws_here" := ⟨rfl, by first | exact .inl rfl | exact .inr (.inl rfl), by decide, by decide⟩
theorem w0_f_L_next : Wr1 (X_f_L_next P w K mg base f cd A outer s H EE) 0 "_law_draws_here" := ⟨sc_f_L_next.nd, rfl, by first | exact .inl rfl | exact .inr rfl, .inl rfl⟩
theorem r1_f_L_next : Rd1 (X_f_L_next P w K mg base f cd A outer s H EE) 1 "_law_k" := ⟨rfl, by first | exact .inl rfl | exact .inr (.inl rfl), by decide, by decide⟩
theorem w1_f_L_next : Wr1 (X_f_L_next P w K mg base f cd A outer s H EE) 1 "_law_k" := ⟨sc_f_L_next.nd, rfl, by first | exact .inl rfl | exact .inr rfl, .inl rfl⟩
theorem r2_f_L_next : Rd1 (X_f_L_next P w K mg base f cd A outer s H EE) 2 "_law_number" := ⟨rfl, by first | exact .inl rfl | exact .inr (.inl rfl), by decide, by decide⟩
theorem w2_f_L_next : Wr1 (X_f_L_next P w K mg base f cd A outer s H EE) 2 "_law_number" := ⟨sc_f_L_next.nd, rfl, by first | exact .inl rfl | exact .inr rfl, .inl rfl⟩
end
abbrev s_f_L_whole : Stmt := top 10
abbrev N_f_L_whole : List Str := ["_law_told"]
theorem sc_f_L_whole : FnScope N_f_L_whole ["_law_told"] (defScope s_f_L_whole) := ⟨rfl, rfl, rfl, by decide +kernel, rfl, by decide +kernel, by decide +kernel⟩
abbrev X_f_L_whole (P : Program) (w : World) (K : PySem.W.Frag) (mg : Str → Option Value) (base : Heap) (f : Addr) (cd : Value) (A : Around) (outer : List Env) (s : Shared) (H : Hp) (EE : XK) : Cx := xd P w K mg base N_f_L_whole "_law_whole" (defScope s_f_L_whole) f cd A outer s H EE
section
variable {P : Program} {w : World} {K : PySem.W.Frag} {mg : Str → Option Value} {base : Heap} {f : Addr} {cd : Value} {A : Around} {outer : List Env} {s : Shared} {H : Hp} {EE : XK}
theorem r0_f_L_whole : Rd1 (X_f_L_whole P w K mg base f cd A outer s H EE) 0 "_law_told" := ⟨rfl, by first | exact .inl rfl | exact .inr (.inl rfl), by decide, by decide⟩
theorem w0_f_L_whole : Wr1 (X_f_L_whole P w K mg base f cd A outer s H EE) 0 "_law_told" := ⟨sc_f_L_whole.nd, rfl, by first | exact .inl rfl | exact .inr rfl, .inl rfl⟩
theorem g_isinstance_f_L_whole : Gl (X_f_L_whole P w K mg base f cd A outer s H EE) "isinstance" := rfl
theorem g_int_f_L_whole : Gl (X_f_L_whole P w K mg base f cd A outer s H EE) "int" := rfl
theorem g_bool_f_L_whole : Gl (X_f_L_whole P w K mg base f cd A outer s H EE) "bool" := rfl
end
abbrev s_f_L_unlike : Stmt := top 11
abbrev N_f_L_unlike : List Str := ["_law_draws_here", "_law_most", "_law_pick", "_law_many", "_law_letters", "_law_told", "_law_k", "_law_a_name"]
theorem sc_f_L_unlike : FnScope N_f_L_unlike ["_law_draws_here", "_law_most"] (defScope s_f_L_unlike) := ⟨rfl, rfl, rfl, by decide +kernel, rfl, by decide +kernel, by decide +kernel⟩
abbrev X_f_L_unlike (P : Program) (w : World) (K : PySem.W.Frag) (mg : Str → Option Value) (base : Heap) (f : Addr) (cd : Value) (A : Around) (outer : List Env) (s : Shared) (H : Hp) (EE : XK) : Cx := xd P w K mg base N_f_L_unlike "_law_unlike" (defScope s_f_L_unlike) f cd A outer s H EE
section
variable {P : Program} {w : World} {K : PySem.W.Frag} {mg : Str → Option Value} {base : Heap} {f : Addr} {cd : Value} {A : Around} {outer : List Env} {s : Shared} {H : Hp} {EE : XK}
theorem r0_f_L_unlike : Rd1 (X_f_L_unlike P w K mg base f cd A outer s H EE) 0 "_law_draws_here" := ⟨rfl, by first | exact .inl rfl | exact .inr (.inl rfl), by decide, by decide⟩
theorem w0_f_L_unlike : Wr1 (X_f_L_unlike P w K mg base f cd A outer s H EE) 0 "_law_draws_here" := ⟨sc_f_L_unlike.nd, rfl, by first | exact .inl rfl | exact .inr rfl, .inl rfl⟩
theorem r1_f_L_unlike : Rd1 (X_f_L_unlike P w K mg base f cd A outer s H EE) 1 "_law_most" := ⟨rfl, by first | exact .inl rfl | exact .inr (.inl rfl), by decide, by decide⟩
theorem w1_f_L_unlike : Wr1 (X_f_L_unlike P w K mg base f cd A outer s H EE) 1 "_law_most" := ⟨sc_f_L_unlike.nd, rfl, by first | exact .inl rfl | exact .inr rfl, .inl rfl⟩
theorem r2_f_L_unlike : Rd1 (X_f_L_unlike P w K mg base f cd A outer s H EE) 2 "_law_pick" := ⟨rfl, by first | exact .inl rfl | exact .inr (.inl rfl), by decide, by decide⟩
theorem w2_f_L_unlike : Wr1 (X_f_L_unlike P w K mg base f cd A outer s H EE) 2 "_law_pick" := ⟨sc_f_L_unlike.nd, rfl, by first | exact .inl rfl | exact .inr rfl, .inl rfl⟩
theorem r3_f_L_unlike : Rd1 (X_f_L_unlike P w K mg base f cd A outer s H EE) 3 "_law_many" := ⟨rfl, by first | exact .inl rfl | exact .inr (.inl rfl), by decide, by decide⟩
theorem w3_f_L_unlike : Wr1 (X_f_L_unlike P w K mg base f cd A outer s H EE) 3 "_law_many" := ⟨sc_f_L_unlike.nd, rfl, by first | exact .inl rfl | exact .inr rfl, .inl rfl⟩
theorem r4_f_L_unlike : Rd1 (X_f_L_unlike P w K mg base f cd A outer s H EE) 4 "_law_letters" := ⟨rfl, by first | exact .inl rfl | exact .inr (.inl rfl), by decide, by decide⟩
theorem w4_f_L_unlike : Wr1 (X_f_L_unlike P w K mg base f cd A outer s H EE) 4 "_law_letters" := ⟨sc_f_L_unlike.nd, rfl, by first | exact .inl rfl | exact .inr rfl, .inl rfl⟩
theorem r5_f_L_unlike : Rd1 (X_f_L_unlike P w K mg base f cd A outer s H EE) 5 "_law_told" := ⟨rfl, by first | exact .inl rfl | exact .inr (.inl rfl), by decide, by decide⟩
theorem w5_f_L_unlike : Wr1 (X_f_L_unlike P w K mg base f cd A outer s H EE) 5 "_law_told" := ⟨sc_f_L_unlike.nd, rfl, by first | exact .inl rfl | exact .inr rfl, .inl rfl⟩
theorem r6_f_L_unlike : Rd1 (X_f_L_unlike P w K mg base f cd A outer s H EE) 6 "_law_k" := ⟨rfl, by first | exact .inl rfl | exact .inr (.inl rfl), by decide, by decide⟩
theorem w6_f_L_unlike : Wr1 (X_f_L_unlike P w K mg base f cd A outer s H EE) 6 "_law_k" := ⟨sc_f_L_unlike.nd, rfl, by first | exact .inl rfl | exact .inr rfl, .inl rfl⟩
theorem r7_f_L_unlike : Rd1 (X_f_L_unlike P w K mg base f cd A outer s H EE) 7 "_law_a_name" := ⟨rfl, by first | exact .inl rfl | exact .inr (.inl rfl), by decide, by decide⟩
theorem w7_f_L_unlike : Wr1 (X_f_L_unlike P w K mg base f cd A outer s H EE) 7 "_law_a_name" := ⟨sc_f_L_unlike.nd, rfl, by first | exact .inl rfl | exact .inr rfl, .inl rfl⟩
theorem g__law_next_f_L_unlike : Gl (X_f_L_unlike P w K mg base f cd A outer s H EE) "_law_next" := rfl
theorem g_range_f_L_unlike : Gl (X_f_L_unlike P w K mg base f cd A outer s H EE) "range" := rfl
theorem g_str_f_L_unlike : Gl (X_f_L_unlike P w K mg base f cd A outer s H EE) "str" := rfl
end
abbrev s_f_L_far : Stmt := top 12
abbrev N_f_L_far : List Str := ["_law_draws_here", "_law_pick"]
theorem sc_f_L_far : FnScope N_f_L_far ["_law_draws_here"] (defScope s_f_L_far) := ⟨rfl, rfl, rfl, by decide +kernel, rfl, by decide +kernel, by decide +kernel⟩
abbrev X_f_L_far (P : Program) (w : World) (K : PySem.W.Frag) (mg : Str → Option Value) (base : Heap) (f : Addr) (cd : Value) (A : Around) (outer : List Env) (s : Shared) (H : Hp) (EE : XK) : Cx := xd P w K mg base N_f_L_far "_law_far" (defScope s_f_L_far) f cd A outer s H EE
section
variable {P : Program} {w : World} {K : PySem.W.Frag} {mg : Str → Option Value} {base : Heap} {f : Addr} {cd : Value} {A : Around} {outer : List Env} {s : Shared} {H : Hp} {EE : XK}
theorem r0_f_L_far : Rd1 (X_f_L_far P w K mg base f cd A outer s H EE) 0 "_law_draws_here" := ⟨rfl, by first | exact .inl rfl | exact .inr (.inl rfl), by decide, by decide⟩
theorem w0_f_L_far : Wr1 (X_f_L_far P w K mg base f cd A outer s H EE) 0 "_law_draws_here" := ⟨sc_f_L_far.nd, rfl, by first | exact .inl rfl | exact .inr rfl, .inl rfl⟩
theorem r1_f_L_far : Rd1 (X_f_L_far P w K mg base f cd A outer s H EE) 1 "_law_pick" := ⟨rfl, by first | exact .inl rfl | exact .inr (.inl rfl), by decide, by decide⟩
theorem w1_f_L_far : Wr1 (X_f_L_far P w K mg base f cd A outer s H EE) 1 "_law_pick" := ⟨sc_f_L_far.nd, rfl, by first | exact .inl rfl | exact .inr rfl, .inl rfl⟩
theorem g__law_next_f_L_far : Gl (X_f_L_far P w K mg base f cd A outer s H EE) "_law_next" := rfl
end
abbrev s_f_L_day : Stmt := top 13
abbrev N_f_L_day : List Str := ["_law_draws_here", "_law_pick", "_law_some"]
theorem sc_f_L_day : FnScope N_f_L_day ["_law_draws_here"] (defScope s_f_L_day) := ⟨rfl, rfl, rfl, by decide +kernel, rfl, by decide +kernel, by decide +kernel⟩
abbrev X_f_L_day (P : Program) (w : World) (K : PySem.W.Frag) (mg : Str → Option Value) (base : Heap) (f : Addr) (cd : Value) (A : Around) (outer : List Env) (s : Shared) (H : Hp) (EE : XK) : Cx := xd P w K mg base N_f_L_day "_law_day" (defScope s_f_L_day) f cd A outer s H EE
section
variable {P : Program} {w : World} {K : PySem.W.Frag} {mg : Str → Option Value} {base : Heap} {f : Addr} {cd : Value} {A : Around} {outer : List Env} {s : Shared} {H : Hp} {EE : XK}
theorem r0_f_L_day : Rd1 (X_f_L_day P w K mg base f cd A outer s H EE) 0 "_law_draws_here" := ⟨rfl, by first | exact .inl rfl | exact .inr (.inl rfl), by decide, by decide⟩
theorem w0_f_L_day : Wr1 (X_f_L_day P w K mg base f cd A outer s H EE) 0 "_law_draws_here" := ⟨sc_f_L_day.nd, rfl, by first | exact .inl rfl | exact .inr rfl, .inl rfl⟩
theorem r1_f_L_day : Rd1 (X_f_L_day P w K mg base f cd A outer s H EE) 1 "_law_pick" := ⟨rfl, by first | exact .inl rfl | exact .inr (.inl rfl), by decide, by decide⟩
theorem w1_f_L_day : Wr1 (X_f_L_day P w K mg base f cd A outer s H EE) 1 "_law_pick" := ⟨sc_f_L_day.nd, rfl, by first | exact .inl rfl | exact .inr rfl, .inl rfl⟩
theorem r2_f_L_day : Rd1 (X_f_L_day P w K mg base f cd A outer s H EE) 2 "_law_some" := ⟨rfl, by first | exact .inl rfl | exact .inr (.inl rfl), by decide, by decide⟩
theorem w2_f_L_day : Wr1 (X_f_L_day P w K mg base f cd A outer s H EE) 2 "_law_some" := ⟨sc_f_L_day.nd, rfl, by first | exact .inl rfl | exact .inr rfl, .inl rfl⟩
theorem g__law_next_f_L_day : Gl (X_f_L_day P w K mg base f cd A outer s H EE) "_law_next" := rfl
end
abbrev s_f_L_on : Stmt := top 14
abbrev N_f_L_on : List Str := ["_law_a_names", "_law_a_first", "_law_a_day"]
theorem sc_f_L_on : FnScope N_f_L_on ["_law_a_names", "_law_a_first", "_law_a_day"] (defScope s_f_L_on) := ⟨rfl, rfl, rfl, by decide +kernel, rfl, by decide +kernel, by decide +kernel⟩
abbrev X_f_L_on (P : Program) (w : World) (K : PySem.W.Frag) (mg : Str → Option Value) (base : Heap) (f : Addr) (cd : Value) (A : Around) (outer : List Env) (s : Shared) (H : Hp) (EE : XK) : Cx := xd P w K mg base N_f_L_on "_law_on" (defScope s_f_L_on) f cd A outer s H EE
section
variable {P : Program} {w : World} {K : PySem.W.Frag} {mg : Str → Option Value} {base : Heap} {f : Addr} {cd : Value} {A : Around} {outer : List Env} {s : Shared} {H : Hp} {EE : XK}
theorem r0_f_L_on : Rd1 (X_f_L_on P w K mg base f cd A outer s H EE) 0 "_law_a_names" := ⟨rfl, by first | exact .inl rfl | exact .inr (.inl rfl), by decide, by decide⟩
theorem w0_f_L_on : Wr1 (X_f_L_on P w K mg base f cd A outer s H EE) 0 "_law_a_names" := ⟨sc_f_L_on.nd, rfl, by first | exact .inl rfl | exact .inr rfl, .inl rfl⟩
theorem r1_f_L_on : Rd1 (X_f_L_on P w K mg base f cd A outer s H EE) 1 "_law_a_first" := ⟨rfl, by first | exact .inl rfl | exact .inr (.inl rfl), by decide, by decide⟩
theorem w1_f_L_on : Wr1 (X_f_L_on P w K mg base f cd A outer s H EE) 1 "_law_a_first" := ⟨sc_f_L_on.nd, rfl, by first | exact .inl rfl | exact .inr rfl, .inl rfl⟩
theorem r2_f_L_on : Rd1 (X_f_L_on P w K mg base f cd A outer s H EE) 2 "_law_a_day" := ⟨rfl, by first | exact .inl rfl | exact .inr (.inl rfl), by decide, by decide⟩
theorem w2_f_L_on : Wr1 (X_f_L_on P w K mg base f cd A outer s H EE) 2 "_law_a_day" := ⟨sc_f_L_on.nd, rfl, by first | exact .inl rfl | exact .inr rfl, .inl rfl⟩
theorem g_len_f_L_on : Gl (X_f_L_on P w K mg base f cd A outer s H EE) "len" := rfl
end
abbrev s_f_L_from_nought : Stmt := top 15
abbrev N_f_L_from_nought : List Str := ["_law_a_names", "_law_a_first", "_law_a_day"]
theorem sc_f_L_from_nought : FnScope N_f_L_from_nought ["_law_a_names", "_law_a_first"] (defScope s_f_L_from_nought) := ⟨rfl, rfl, rfl, by decide +kernel, rfl, by decide +kernel, by decide +kernel⟩
abbrev X_f_L_from_nought (P : Program) (w : World) (K : PySem.W.Frag) (mg : Str → Option Value) (base : Heap) (f : Addr) (cd : Value) (A : Around) (outer : List Env) (s : Shared) (H : Hp) (EE : XK) : Cx := xd P w K mg base N_f_L_from_nought "_law_from_nought" (defScope s_f_L_from_nought) f cd A outer s H EE
section
variable {P : Program} {w : World} {K : PySem.W.Frag} {mg : Str → Option Value} {base : Heap} {f : Addr} {cd : Value} {A : Around} {outer : List Env} {s : Shared} {H : Hp} {EE : XK}
theorem r0_f_L_from_nought : Rd1 (X_f_L_from_nought P w K mg base f cd A outer s H EE) 0 "_law_a_names" := ⟨rfl, by first | exact .inl rfl | exact .inr (.inl rfl), by decide, by decide⟩
theorem w0_f_L_from_nought : Wr1 (X_f_L_from_nought P w K mg base f cd A outer s H EE) 0 "_law_a_names" := ⟨sc_f_L_from_nought.nd, rfl, by first | exact .inl rfl | exact .inr rfl, .inl rfl⟩
theorem r1_f_L_from_nought : Rd1 (X_f_L_from_nought P w K mg base f cd A outer s H EE) 1 "_law_a_first" := ⟨rfl, by first | exact .inl rfl | exact .inr (.inl rfl), by decide, by decide⟩
theorem w1_f_L_from_nought : Wr1 (X_f_L_from_nought P w K mg base f cd A outer s H EE) 1 "_law_a_first" := ⟨sc_f_L_from_nought.nd, rfl, by first | exact .inl rfl | exact .inr rfl, .inl rfl⟩
theorem g_range_f_L_from_nought : Gl (X_f_L_from_nought P w K mg base f cd A outer s H EE) "range" := rfl
theorem g_len_f_L_from_nought : Gl (X_f_L_from_nought P w K mg base f cd A outer s H EE) "len" := rfl
end
abbrev s_f_L_other : Stmt := top 16
abbrev N_f_L_other : List Str := ["_law_draws_here", "_law_a_names", "_law_a_first", "_law_pick", "_law_by", "_law_turned", "_law_at", "_law_some", "_law_told", "_law_k"]
theorem sc_f_L_other : FnScope N_f_L_other ["_law_draws_here", "_law_a_names", "_law_a_first"] (defScope s_f_L_other) := ⟨rfl, rfl, rfl, by decide +kernel, rfl, by decide +kernel, by decide +kernel⟩
abbrev X_f_L_other (P : Program) (w : World) (K : PySem.W.Frag) (mg : Str → Option Value) (base : Heap) (f : Addr) (cd : Value) (A : Around) (outer : List Env) (s : Shared) (H : Hp) (EE : XK) : Cx := xd P w K mg base N_f_L_other "_law_other" (defScope s_f_L_other) f cd A outer s H EE
section
variable {P : Program} {w : World} {K : PySem.W.Frag} {mg : Str → Option Value} {base : Heap} {f : Addr} {cd : Value} {A : Around} {outer : List Env} {s : Shared} {H : Hp} {EE : XK}
theorem r0_f_L_other : Rd1 (X_f_L_other P w K mg base f cd A outer s H EE) 0 "_law_draws_here" := ⟨rfl, by first | exact .inl rfl | exact .inr (.inl rfl), by decide, by decide⟩
theorem w0_f_L_other : Wr1 (X_f_L_other P w K mg base f cd A outer s H EE) 0 "_law_draws_here" := ⟨sc_f_L_other.nd, rfl, by first | exact .inl rfl | exact .inr rfl, .inl rfl⟩
theorem r1_f_L_other : Rd1 (X_f_L_other P w K mg base f cd A outer s H EE) 1 "_law_a_names" := ⟨rfl, by first | exact .inl rfl | exact .inr (.inl rfl), by decide, by decide⟩
theorem w1_f_L_other : Wr1 (X_f_L_other P w K mg base f cd A outer s H EE) 1 "_law_a_names" := ⟨sc_f_L_other.nd, rfl, by first | exact .inl rfl | exact .inr rfl, .inl rfl⟩
theorem r2_f_L_other : Rd1 (X_f_L_other P w K mg base f cd A outer s H EE) 2 "_law_a_first" := ⟨rfl, by first | exact .inl rfl | exact .inr (.inl rfl), by decide, by decide⟩
theorem w2_f_L_other : Wr1 (X_f_L_other P w K mg base f cd A outer s H EE) 2 "_law_a_first" := ⟨sc_f_L_other.nd, rfl, by first | exact .inl rfl | exact .inr rfl, .inl rfl⟩
theorem r3_f_L_other : Rd1 (X_f_L_other P w K mg base f cd A outer s H EE) 3 "_law_pick" := ⟨rfl, by first | exact .inl rfl | exact .inr (.inl rfl), by decide, by decide⟩
theorem w3_f_L_other : Wr1 (X_f_L_other P w K mg base f cd A outer s H EE) 3 "_law_pick" := ⟨sc_f_L_other.nd, rfl, by first | exact .inl rfl | exact .inr rfl, .inl rfl⟩
theorem r4_f_L_other : Rd1 (X_f_L_other P w K mg base f cd A outer s H EE) 4 "_law_by" := ⟨rfl, by first | exact .inl rfl | exact .inr (.inl rfl), by decide, by decide⟩
theorem w4_f_L_other : Wr1 (X_f_L_other P w K mg base f cd A outer s H EE) 4 "_law_by" := ⟨sc_f_L_other.nd, rfl, by first | exact .inl rfl | exact .inr rfl, .inl rfl⟩
theorem r5_f_L_other : Rd1 (X_f_L_other P w K mg base f cd A outer s H EE) 5 "_law_turned" := ⟨rfl, by first | exact .inl rfl | exact .inr (.inl rfl), by decide, by decide⟩
theorem w5_f_L_other : Wr1 (X_f_L_other P w K mg base f cd A outer s H EE) 5 "_law_turned" := ⟨sc_f_L_other.nd, rfl, by first | exact .inl rfl | exact .inr rfl, .inl rfl⟩
theorem r6_f_L_other : Rd1 (X_f_L_other P w K mg base f cd A outer s H EE) 6 "_law_at" := ⟨rfl, by first | exact .inl rfl | exact .inr (.inl rfl), by decide, by decide⟩
theorem w6_f_L_other : Wr1 (X_f_L_other P w K mg base f cd A outer s H EE) 6 "_law_at" := ⟨sc_f_L_other.nd, rfl, by first | exact .inl rfl | exact .inr rfl, .inl rfl⟩
theorem r7_f_L_other : Rd1 (X_f_L_other P w K mg base f cd A outer s H EE) 7 "_law_some" := ⟨rfl, by first | exact .inl rfl | exact .inr (.inl rfl), by decide, by decide⟩
theorem w7_f_L_other : Wr1 (X_f_L_other P w K mg base f cd A outer s H EE) 7 "_law_some" := ⟨sc_f_L_other.nd, rfl, by first | exact .inl rfl | exact .inr rfl, .inl rfl⟩
theorem r8_f_L_other : Rd1 (X_f_L_other P w K mg base f cd A outer s H EE) 8 "_law_told" := ⟨rfl, by first | exact .inl rfl | exact .inr (.inl rfl), by decide, by decide⟩
theorem w8_f_L_other : Wr1 (X_f_L_other P w K mg base f cd A outer s H EE) 8 "_law_told" := ⟨sc_f_L_other.nd, rfl, by first | exact .inl rfl | exact .inr rfl, .inl rfl⟩
theorem g__law_next_f_L_other : Gl (X_f_L_other P w K mg base f cd A outer s H EE) "_law_next" := rfl
theorem g_len_f_L_other : Gl (X_f_L_other P w K mg base f cd A outer s H EE) "len" := rfl
theorem g_range_f_L_other : Gl (X_f_L_other P w K mg base f cd A outer s H EE) "range" := rfl
theorem g_list_f_L_other : Gl (X_f_L_other P w K mg base f cd A outer s H EE) "list" := rfl
end
abbrev s_f_L_next_day : Stmt := top 17
abbrev N_f_L_next_day : List Str := ["_law_a_names", "_law_a_first", "_law_a_day", "_law_a_name", "_law_k"]
theorem sc_f_L_next_day : FnScope N_f_L_next_day ["_law_a_names", "_law_a_first", "_law_a_day", "_law_a_name"] (defScope s_f_L_next_day) := ⟨rfl, rfl, rfl, by decide +kernel, rfl, by decide +kernel, by decide +kernel⟩
abbrev X_f_L_next_day (P : Program) (w : World) (K : PySem.W.Frag) (mg : Str → Option Value) (base : Heap) (f : Addr) (cd : Value) (A : Around) (outer : List Env) (s : Shared) (H : Hp) (EE : XK) : Cx := xd P w K mg base N_f_L_next_day "_law_next_day" (defScope s_f_L_next_day) f cd A outer s H EE
section
variable {P : Program} {w : World} {K : PySem.W.Frag} {mg : Str → Option Value} {base : Heap} {f : Addr} {cd : Value} {A : Around} {outer : List Env} {s : Shared} {H : Hp} {EE : XK}
theorem r0_f_L_next_day : Rd1 (X_f_L_next_day P w K mg base f cd A outer s H EE) 0 "_law_a_names" := ⟨rfl, by first | exact .inl rfl | exact .inr (.inl rfl), by decide, by decide⟩
theorem w0_f_L_next_day : Wr1 (X_f_L_next_day P w K mg base f cd A outer s H EE) 0 "_law_a_names" := ⟨sc_f_L_next_day.nd, rfl, by first | exact .inl rfl | exact .inr rfl, .inl rfl⟩
theorem r1_f_L_next_day : Rd1 (X_f_L_next_day P w K mg base f cd A outer s H EE) 1 "_law_a_first" := ⟨rfl, by first | exact .inl rfl | exact .inr (.inl rfl), by decide, by decide⟩
theorem w1_f_L_next_day : Wr1 (X_f_L_next_day P w K mg base f cd A outer s H EE) 1 "_law_a_first" := ⟨sc_f_L_next_day.nd, rfl, by first | exact .inl rfl | exact .inr rfl, .inl rfl⟩
theorem r2_f_L_next_day : Rd1 (X_f_L_next_day P w K mg base f cd A outer s H EE) 2 "_law_a_day" := ⟨rfl, by first | exact .inl rfl | exact .inr (.inl rfl), by decide, by decide⟩
theorem w2_f_L_next_day : Wr1 (X_f_L_next_day P w K mg base f cd A outer s H EE) 2 "_law_a_day" := ⟨sc_f_L_next_day.nd, rfl, by first | exact .inl rfl | exact .inr rfl, .inl rfl⟩
theorem r3_f_L_next_day : Rd1 (X_f_L_next_day P w K mg base f cd A outer s H EE) 3 "_law_a_name" := ⟨rfl, by first | exact .inl rfl | exact .inr (.inl rfl), by decide, by decide⟩
theorem w3_f_L_next_day : Wr1 (X_f_L_next_day P w K mg base f cd A outer s H EE) 3 "_law_a_name" := ⟨sc_f_L_next_day.nd, rfl, by first | exact .inl rfl | exact .inr rfl, .inl rfl⟩
theorem r4_f_L_next_day : Rd1 (X_f_L_next_day P w K mg base f cd A outer s H EE) 4 "_law_k" := ⟨rfl, by first | exact .inl rfl | exact .inr (.inl rfl), by decide, by decide⟩
theorem w4_f_L_next_day : Wr1 (X_f_L_next_day P w K mg base f cd A outer s H EE) 4 "_law_k" := ⟨sc_f_L_next_day.nd, rfl, by first | exact .inl rfl | exact .inr rfl, .inl rfl⟩
theorem g_range_f_L_next_day : Gl (X_f_L_next_day P w K mg base f cd A outer s H EE) "range" := rfl
theorem g_len_f_L_next_day : Gl (X_f_L_next_day P w K mg base f cd A outer s H EE) "len" := rfl
theorem g__law_on_f_L_next_day : Gl (X_f_L_next_day P w K mg base f cd A outer s H EE) "_law_on" := rfl
end
abbrev s_f_L_days_right : Stmt := top 18
abbrev N_f_L_days_right : List Str := ["_law_draws_here", "_law_wheel", "_law_a_names", "_law_a_first", "_law_days", "_law_a_day", "_law_a_name", "_law_told", "_law_due"]
theorem sc_f_L_days_right : FnScope N_f_L_days_right ["_law_draws_here", "_law_wheel", "_law_a_names", "_law_a_first"] (defScope s_f_L_days_right) := ⟨rfl, rfl, rfl, by decide +kernel, rfl, by decide +kernel, by decide +kernel⟩
abbrev X_f_L_days_right (P : Program) (w : World) (K : PySem.W.Frag) (mg : Str → Option Value) (base : Heap) (f : Addr) (cd : Value) (A : Around) (outer : List Env) (s : Shared) (H : Hp) (EE : XK) : Cx := xd P w K mg base N_f_L_days_right "_law_days_right" (defScope s_f_L_days_right) f cd A outer s H EE
section
variable {P : Program} {w : World} {K : PySem.W.Frag} {mg : Str → Option Value} {base : Heap} {f : Addr} {cd : Value} {A : Around} {outer : List Env} {s : Shared} {H : Hp} {EE : XK}
theorem r0_f_L_days_right : Rd1 (X_f_L_days_right P w K mg base f cd A outer s H EE) 0 "_law_draws_here" := ⟨rfl, by first | exact .inl rfl | exact .inr (.inl rfl), by decide, by decide⟩
theorem w0_f_L_days_right : Wr1 (X_f_L_days_right P w K mg base f cd A outer s H EE) 0 "_law_draws_here" := ⟨sc_f_L_days_right.nd, rfl, by first | exact .inl rfl | exact .inr rfl, .inl rfl⟩
theorem r1_f_L_days_right : Rd1 (X_f_L_days_right P w K mg base f cd A outer s H EE) 1 "_law_wheel" := ⟨rfl, by first | exact .inl rfl | exact .inr (.inl rfl), by decide, by decide⟩
theorem w1_f_L_days_right : Wr1 (X_f_L_days_right P w K mg base f cd A outer s H EE) 1 "_law_wheel" := ⟨sc_f_L_days_right.nd, rfl, by first | exact .inl rfl | exact .inr rfl, .inl rfl⟩
theorem r2_f_L_days_right : Rd1 (X_f_L_days_right P w K mg base f cd A outer s H EE) 2 "_law_a_names" := ⟨rfl, by first | exact .inl rfl | exact .inr (.inl rfl), by decide, by decide⟩
theorem w2_f_L_days_right : Wr1 (X_f_L_days_right P w K mg base f cd A outer s H EE) 2 "_law_a_names" := ⟨sc_f_L_days_right.nd, rfl, by first | exact .inl rfl | exact .inr rfl, .inl rfl⟩
theorem r3_f_L_days_right : Rd1 (X_f_L_days_right P w K mg base f cd A outer s H EE) 3 "_law_a_first" := ⟨rfl, by first | exact .inl rfl | exact .inr (.inl rfl), by decide, by decide⟩
theorem w3_f_L_days_right : Wr1 (X_f_L_days_right P w K mg base f cd A outer s H EE) 3 "_law_a_first" := ⟨sc_f_L_days_right.nd, rfl, by first | exact .inl rfl | exact .inr rfl, .inl rfl⟩
theorem r4_f_L_days_right : Rd1 (X_f_L_days_right P w K mg base f cd A outer s H EE) 4 "_law_days" := ⟨rfl, by first | exact .inl rfl | exact .inr (.inl rfl), by decide, by decide⟩
theorem w4_f_L_days_right : Wr1 (X_f_L_days_right P w K mg base f cd A outer s H EE) 4 "_law_days" := ⟨sc_f_L_days_right.nd, rfl, by first | exact .inl rfl | exact .inr rfl, .inl rfl⟩
theorem r5_f_L_days_right : Rd1 (X_f_L_days_right P w K mg base f cd A outer s H EE) 5 "_law_a_day" := ⟨rfl, by first | exact .inl rfl | exact .inr (.inl rfl), by decide, by decide⟩
theorem w5_f_L_days_right : Wr1 (X_f_L_days_right P w K mg base f cd A outer s H EE) 5 "_law_a_day" := ⟨sc_f_L_days_right.nd, rfl, by first | exact .inl rfl | exact .inr rfl, .inl rfl⟩
theorem r6_f_L_days_right : Rd1 (X_f_L_days_right P w K mg base f cd A outer s H EE) 6 "_law_a_name" := ⟨rfl, by first | exact .inl rfl | exact .inr (.inl rfl), by decide, by decide⟩
theorem w6_f_L_days_right : Wr1 (X_f_L_days_right P w K mg base f cd A outer s H EE) 6 "_law_a_name" := ⟨sc_f_L_days_right.nd, rfl, by first | exact .inl rfl | exact .inr rfl, .inl rfl⟩
theorem r7_f_L_days_right : Rd1 (X_f_L_days_right P w K mg base f cd A outer s H EE) 7 "_law_told" := ⟨rfl, by first | exact .inl rfl | exact .inr (.inl rfl), by decide, by decide⟩
theorem w7_f_L_days_right : Wr1 (X_f_L_days_right P w K mg base f cd A outer s H EE) 7 "_law_told" := ⟨sc_f_L_days_right.nd, rfl, by first | exact .inl rfl | exact .inr rfl, .inl rfl⟩
theorem r8_f_L_days_right : Rd1 (X_f_L_days_right P w K mg base f cd A outer s H EE) 8 "_law_due" := ⟨rfl, by first | exact .inl rfl | exact .inr (.inl rfl), by decide, by decide⟩
theorem w8_f_L_days_right : Wr1 (X_f_L_days_right P w K mg base f cd A outer s H EE) 8 "_law_due" := ⟨sc_f_L_days_right.nd, rfl, by first | exact .inl rfl | exact .inr rfl, .inl rfl⟩
theorem g_len_f_L_days_right : Gl (X_f_L_days_right P w K mg base f cd A outer s H EE) "len" := rfl
theorem g__law_day_f_L_days_right : Gl (X_f_L_days_right P w K mg base f cd A outer s H EE) "_law_day" := rfl
theorem g__law_on_f_L_days_right : Gl (X_f_L_days_right P w K mg base f cd A outer s H EE) "_law_on" := rfl
theorem g__law_next_f_L_days_right : Gl (X_f_L_days_right P w K mg base f cd A outer s H EE) "_law_next" := rfl
theorem g__law_next_day_f_L_days_right : Gl (X_f_L_days_right P w K mg base f cd A outer s H EE) "_law_next_day" := rfl
theorem g__law_whole_f_L_days_right : Gl (X_f_L_days_right P w K mg base f cd A outer s H EE) "_law_whole" := rfl
end
abbrev s_f_L_fields_right : Stmt := top 19
abbrev N_f_L_fields_right : List Str := ["_law_wheel", "_law_a_names", "_law_a_first"]
theorem sc_f_L_fields_right : FnScope N_f_L_fields_right ["_law_wheel", "_law_a_names", "_law_a_first"] (defScope s_f_L_fields_right) := ⟨rfl, rfl, rfl, by decide +kernel, rfl, by decide +kernel, by decide +kernel⟩
abbrev X_f_L_fields_right (P : Program) (w : World) (K : PySem.W.Frag) (mg : Str → Option Value) (base : Heap) (f : Addr) (cd : Value) (A : Around) (outer : List Env) (s : Shared) (H : Hp) (EE : XK) : Cx := xd P w K mg base N_f_L_fields_right "_law_fields_right" (defScope s_f_L_fields_right) f cd A outer s H EE
section
variable {P : Program} {w : World} {K : PySem.W.Frag} {mg : Str → Option Value} {base : Heap} {f : Addr} {cd : Value} {A : Around} {outer : List Env} {s : Shared} {H : Hp} {EE : XK}
theorem r0_f_L_fields_right : Rd1 (X_f_L_fields_right P w K mg base f cd A outer s H EE) 0 "_law_wheel" := ⟨rfl, by first | exact .inl rfl | exact .inr (.inl rfl), by decide, by decide⟩
theorem w0_f_L_fields_right : Wr1 (X_f_L_fields_right P w K mg base f cd A outer s H EE) 0 "_law_wheel" := ⟨sc_f_L_fields_right.nd, rfl, by first | exact .inl rfl | exact .inr rfl, .inl rfl⟩
theorem r1_f_L_fields_right : Rd1 (X_f_L_fields_right P w K mg base f cd A outer s H EE) 1 "_law_a_names" := ⟨rfl, by first | exact .inl rfl | exact .inr (.inl rfl), by decide, by decide⟩
theorem w1_f_L_fields_right : Wr1 (X_f_L_fields_right P w K mg base f cd A outer s H EE) 1 "_law_a_names" := ⟨sc_f_L_fields_right.nd, rfl, by first | exact .inl rfl | exact .inr rfl, .inl rfl⟩
theorem r2_f_L_fields_right : Rd1 (X_f_L_fields_right P w K mg base f cd A outer s H EE) 2 "_law_a_first" := ⟨rfl, by first | exact .inl rfl | exact .inr (.inl rfl), by decide, by decide⟩
theorem w2_f_L_fields_right : Wr1 (X_f_L_fields_right P w K mg base f cd A outer s H EE) 2 "_law_a_first" := ⟨sc_f_L_fields_right.nd, rfl, by first | exact .inl rfl | exact .inr rfl, .inl rfl⟩
theorem g_tuple_f_L_fields_right : Gl (X_f_L_fields_right P w K mg base f cd A outer s H EE) "tuple" := rfl
theorem g_len_f_L_fields_right : Gl (X_f_L_fields_right P w K mg base f cd A outer s H EE) "len" := rfl
theorem g_str_f_L_fields_right : Gl (X_f_L_fields_right P w K mg base f cd A outer s H EE) "str" := rfl
theorem g__law_from_nought_f_L_fields_right : Gl (X_f_L_fields_right P w K mg base f cd A outer s H EE) "_law_from_nought" := rfl
theorem g_repr_f_L_fields_right : Gl (X_f_L_fields_right P w K mg base f cd A outer s H EE) "repr" := rfl
end
abbrev s_f_L_right : Stmt := top 20
abbrev N_f_L_right : List Str := ["_law_draws_here", "_law_a_names", "_law_a_first", "_law_handed", "_law_wheel", "_law_thing", "_law_others", "_law_start", "_law_other_here", "_law_due"]
theorem sc_f_L_right : FnScope N_f_L_right ["_law_draws_here"] (defScope s_f_L_right) := ⟨rfl, rfl, rfl, by decide +kernel, rfl, by decide +kernel, by decide +kernel⟩
abbrev X_f_L_right (P : Program) (w : World) (K : PySem.W.Frag) (mg : Str → Option Value) (base : Heap) (f : Addr) (cd : Value) (A : Around) (outer : List Env) (s : Shared) (H : Hp) (EE : XK) : Cx := xd P w K mg base N_f_L_right "_law_right" (defScope s_f_L_right) f cd A outer s H EE
section
variable {P : Program} {w : World} {K : PySem.W.Frag} {mg : Str → Option Value} {base : Heap} {f : Addr} {cd : Value} {A : Around} {outer : List Env} {s : Shared} {H : Hp} {EE : XK}
theorem r0_f_L_right : Rd1 (X_f_L_right P w K mg base f cd A outer s H EE) 0 "_law_draws_here" := ⟨rfl, by first | exact .inl rfl | exact .inr (.inl rfl), by decide, by decide⟩
theorem w0_f_L_right : Wr1 (X_f_L_right P w K mg base f cd A outer s H EE) 0 "_law_draws_here" := ⟨sc_f_L_right.nd, rfl, by first | exact .inl rfl | exact .inr rfl, .inl rfl⟩
theorem r1_f_L_right : Rd1 (X_f_L_right P w K mg base f cd A outer s H EE) 1 "_law_a_names" := ⟨rfl, by first | exact .inl rfl | exact .inr (.inl rfl), by decide, by decide⟩
theorem w1_f_L_right : Wr1 (X_f_L_right P w K mg base f cd A outer s H EE) 1 "_law_a_names" := ⟨sc_f_L_right.nd, rfl, by first | exact .inl rfl | exact .inr rfl, .inl rfl⟩
theorem r2_f_L_right : Rd1 (X_f_L_right P w K mg base f cd A outer s H EE) 2 "_law_a_first" := ⟨rfl, by first | exact .inl rfl | exact .inr (.inl rfl), by decide, by decide⟩
theorem w2_f_L_right : Wr1 (X_f_L_right P w K mg base f cd A outer s H EE) 2 "_law_a_first" := ⟨sc_f_L_right.nd, rfl, by first | exact .inl rfl | exact .inr rfl, .inl rfl⟩
theorem r3_f_L_right : Rd1 (X_f_L_right P w K mg base f cd A outer s H EE) 3 "_law_handed" := ⟨rfl, by first | exact .inl rfl | exact .inr (.inl rfl), by decide, by decide⟩
theorem w3_f_L_right : Wr1 (X_f_L_right P w K mg base f cd A outer s H EE) 3 "_law_handed" := ⟨sc_f_L_right.nd, rfl, by first | exact .inl rfl | exact .inr rfl, .inl rfl⟩
theorem r4_f_L_right : Rd1 (X_f_L_right P w K mg base f cd A outer s H EE) 4 "_law_wheel" := ⟨rfl, by first | exact .inl rfl | exact .inr (.inl rfl), by decide, by decide⟩
theorem w4_f_L_right : Wr1 (X_f_L_right P w K mg base f cd A outer s H EE) 4 "_law_wheel" := ⟨sc_f_L_right.nd, rfl, by first | exact .inl rfl | exact .inr rfl, .inl rfl⟩
theorem r5_f_L_right : Rd1 (X_f_L_right P w K mg base f cd A outer s H EE) 5 "_law_thing" := ⟨rfl, by first | exact .inl rfl | exact .inr (.inl rfl), by decide, by decide⟩
theorem w5_f_L_right : Wr1 (X_f_L_right P w K mg base f cd A outer s H EE) 5 "_law_thing" := ⟨sc_f_L_right.nd, rfl, by first | exact .inl rfl | exact .inr rfl, .inl rfl⟩
theorem r6_f_L_right : Rd1 (X_f_L_right P w K mg base f cd A outer s H EE) 6 "_law_others" := ⟨rfl, by first | exact .inl rfl | exact .inr (.inl rfl), by decide, by decide⟩
theorem w6_f_L_right : Wr1 (X_f_L_right P w K mg base f cd A outer s H EE) 6 "_law_others" := ⟨sc_f_L_right.nd, rfl, by first | exact .inl rfl | exact .inr rfl, .inl rfl⟩
theorem r7_f_L_right : Rd1 (X_f_L_right P w K mg base f cd A outer s H EE) 7 "_law_start" := ⟨rfl, by first | exact .inl rfl | exact .inr (.inl rfl), by decide, by decide⟩
theorem w7_f_L_right : Wr1 (X_f_L_right P w K mg base f cd A outer s H EE) 7 "_law_start" := ⟨sc_f_L_right.nd, rfl, by first | exact .inl rfl | exact .inr rfl, .inl rfl⟩
theorem r8_f_L_right : Rd1 (X_f_L_right P w K mg base f cd A outer s H EE) 8 "_law_other_here" := ⟨rfl, by first | exact .inl rfl | exact .inr (.inl rfl), by decide, by decide⟩
theorem w8_f_L_right : Wr1 (X_f_L_right P w K mg base f cd A outer s H EE) 8 "_law_other_here" := ⟨sc_f_L_right.nd, rfl, by first | exact .inl rfl | exact .inr rfl, .inl rfl⟩
theorem r9_f_L_right : Rd1 (X_f_L_right P w K mg base f cd A outer s H EE) 9 "_law_due" := ⟨rfl, by first | exact .inl rfl | exact .inr (.inl rfl), by decide, by decide⟩
theorem w9_f_L_right : Wr1 (X_f_L_right P w K mg base f cd A outer s H EE) 9 "_law_due" := ⟨sc_f_L_right.nd, rfl, by first | exact .inl rfl | exact .inr rfl, .inl rfl⟩
theorem g__law_unlike_f_L_right : Gl (X_f_L_right P w K mg base f cd A outer s H EE) "_law_unlike" := rfl
theorem g__law_far_f_L_right : Gl (X_f_L_right P w K mg base f cd A outer s H EE) "_law_far" := rfl
theorem g_list_f_L_right : Gl (X_f_L_right P w K mg base f cd A outer s H EE) "list" := rfl
theorem g_Wheel_f_L_right : Gl (X_f_L_right P w K mg base f cd A outer s H EE) "Wheel" := rfl
theorem g__law_next_f_L_right : Gl (X_f_L_right P w K mg base f cd A outer s H EE) "_law_next" := rfl
theorem g__law_fields_right_f_L_right : Gl (X_f_L_right P w K mg base f cd A outer s H EE) "_law_fields_right" := rfl
theorem g__law_days_right_f_L_right : Gl (X_f_L_right P w K mg base f cd A outer s H EE) "_law_days_right" := rfl
theorem g_tuple_f_L_right : Gl (X_f_L_right P w K mg base f cd A outer s H EE) "tuple" := rfl
theorem g_str_f_L_right : Gl (X_f_L_right P w K mg base f cd A outer s H EE) "str" := rfl
theorem g_len_f_L_right : Gl (X_f_L_right P w K mg base f cd A outer s H EE) "len" := rfl
theorem g__law_other_f_L_right : Gl (X_f_L_right P w K mg base f cd A outer s H EE) "_law_other" := rfl
theorem g__law_from_nought_f_L_right : Gl (X_f_L_right P w K mg base f cd A outer s H EE) "_law_from_nought" := rfl
end
abbrev s_f_LAW : Stmt := top 21
abbrev N_f_LAW : List Str := ["_law_script", "_law_cell"]
theorem sc_f_LAW : FnScope N_f_LAW ["_law_script"] (defScope s_f_LAW) := ⟨rfl, rfl, rfl, by decide +kernel, rfl, by decide +kernel, by decide +kernel⟩
abbrev X_f_LAW (P : Program) (w : World) (K : PySem.W.Frag) (mg : Str → Option Value) (base : Heap) (f : Addr) (cd : Value) (A : Around) (outer : List Env) (s : Shared) (H : Hp) (EE : XK) : Cx := xd P w K mg base N_f_LAW "law" (defScope s_f_LAW) f cd A outer s H EE
section
variable {P : Program} {w : World} {K : PySem.W.Frag} {mg : Str → Option Value} {base : Heap} {f : Addr} {cd : Value} {A : Around} {outer : List Env} {s : Shared} {H : Hp} {EE : XK}
theorem r0_f_LAW : Rd1 (X_f_LAW P w K mg base f cd A outer s H EE) 0 "_law_script" := ⟨rfl, by first | exact .inl rfl | exact .inr (.inl rfl), by decide, by decide⟩
theorem w0_f_LAW : Wr1 (X_f_LAW P w K mg base f cd A outer s H EE) 0 "_law_script" := ⟨sc_f_LAW.nd, rfl, by first | exact .inl rfl | exact .inr rfl, .inl rfl⟩
theorem r1_f_LAW : Rd1 (X_f_LAW P w K mg base f cd A outer s H EE) 1 "_law_cell" := ⟨rfl, by first | exact .inl rfl | exact .inr (.inl rfl), by decide, by decide⟩
theorem w1_f_LAW : Wr1 (X_f_LAW P w K mg base f cd A outer s H EE) 1 "_law_cell" := ⟨sc_f_LAW.nd, rfl, by first | exact .inl rfl | exact .inr rfl, .inl rfl⟩
theorem g__law_right_f_LAW : Gl (X_f_LAW P w K mg base f cd A outer s H EE) "_law_right" := rfl
theorem g__law_draws_f_LAW : Gl (X_f_LAW P w K mg base f cd A outer s H EE) "_law_draws" := rfl
end
end MM

namespace MM
open PySem L2 PyProof.Rows
/-! ### fractions -/
abbrev rt (t b : Int) : Rat := Rat.divInt t b
theorem rt_self (q : Rat) : rt q.num q.den = q := by
  rw [rt, Rat.divInt_eq_div]
  exact Rat.num_divInt_den q |> fun h => by rw [← Rat.divInt_eq_div]; exact h
/-- by the greatest common part, its sign the bottom's -/
def lowBy (t b : Int) : Int := if b < 0 then 0 - (Int.gcd t b : Int) else (Int.gcd t b : Int)
theorem gcd_pos {t b : Int} (hb : b ≠ 0) : 0 < Int.gcd t b := Int.gcd_pos_of_ne_zero_right _ hb
theorem lowBy_ne {t b : Int} (hb : b ≠ 0) : lowBy t b ≠ 0 := by
  have := gcd_pos (t := t) hb
  unfold lowBy
  split <;> omega
theorem low_top {t b : Int} (hb : b ≠ 0) : t.fdiv (lowBy t b) = (rt t b).num := by
  have hg := gcd_pos (t := t) hb
  obtain ⟨c, hc⟩ := Int.gcd_dvd_left (a := t) (b := b)
  rw [rt, Rat.num_divInt, Int.gcd_comm b t]
  unfold lowBy
  by_cases h : b < 0
  · rw [if_pos h, Int.sign_eq_neg_one_of_neg h]
    have e1 : t = (0 - (Int.gcd t b : Int)) * (-c) := by rw [Int.zero_sub, Int.neg_mul_neg]; exact hc
    have e2 : -1 * t = (Int.gcd t b : Int) * (-c) := by rw [Int.mul_neg, ← hc]; omega
    have n1 : (0 - (Int.gcd t b : Int)) ≠ 0 := by omega
    have n2 : (Int.gcd t b : Int) ≠ 0 := by omega
    rw [e2, Int.mul_ediv_cancel_left _ n2]
    conv => lhs; arg 1; rw [e1]
    exact Int.mul_fdiv_cancel_left _ n1
  · have h0 : 0 < b := by omega
    rw [if_neg h, Int.sign_eq_one_of_pos h0, Int.one_mul]
    have n2 : (Int.gcd t b : Int) ≠ 0 := by omega
    conv => lhs; arg 1; rw [hc]
    conv => rhs; arg 1; rw [hc]
    rw [Int.mul_ediv_cancel_left _ n2]
    exact Int.mul_fdiv_cancel_left _ n2
theorem low_bot {t b : Int} (hb : b ≠ 0) : b.fdiv (lowBy t b) = ((rt t b).den : Int) := by
  have hg := gcd_pos (t := t) hb
  obtain ⟨c, hc⟩ := Int.gcd_dvd_right (a := t) (b := b)
  rw [rt, Rat.den_divInt, if_neg hb, Int.gcd_comm b t]
  unfold lowBy
  have n2 : (Int.gcd t b : Int) ≠ 0 := by omega
  by_cases h : b < 0
  · rw [if_pos h]
    have e1 : b = (0 - (Int.gcd t b : Int)) * (-c) := by rw [Int.zero_sub, Int.neg_mul_neg]; exact hc
    have n1 : (0 - (Int.gcd t b : Int)) ≠ 0 := by omega
    have e3 : (b.natAbs : Int) = (Int.gcd t b : Int) * (-c) := by rw [Int.mul_neg, ← hc]; omega
    rw [Int.natCast_ediv, e3, Int.mul_ediv_cancel_left _ n2]
    conv => lhs; arg 1; rw [e1]
    exact Int.mul_fdiv_cancel_left _ n1
  · rw [if_neg h]
    have e3 : (b.natAbs : Int) = (Int.gcd t b : Int) * c := by rw [← hc]; omega
    rw [Int.natCast_ediv, e3, Int.mul_ediv_cancel_left _ n2]
    conv => lhs; arg 1; rw [hc]
    exact Int.mul_fdiv_cancel_left _ n2
theorem den_pos (q : Rat) : (0 : Int) < q.den := by have := q.den_pos; omega
theorem den_ne (q : Rat) : (q.den : Int) ≠ 0 := by have := den_pos q; omega
theorem rt_add (a c : Int) {b d : Int} (hb : b ≠ 0) (hd : d ≠ 0) : rt (a * d + c * b) (b * d) = rt a b + rt c d := (Rat.divInt_add_divInt a c hb hd).symm
theorem rt_mul (a c : Int) {b d : Int} : rt (a * c) (b * d) = rt a b * rt c d := (Rat.divInt_mul_divInt a c).symm
theorem rt_neg (a b : Int) : rt (-a) b = - rt a b := by
  rw [rt, rt, Rat.divInt_eq_div, Rat.divInt_eq_div, Rat.intCast_neg, Rat.div_def, Rat.div_def, Rat.neg_mul]
theorem rt_sub (a c : Int) {b d : Int} (hb : b ≠ 0) (hd : d ≠ 0) : rt (a * d - c * b) (b * d) = rt a b - rt c d := by
  have e : a * d - c * b = a * d + (-c) * b := by rw [Int.neg_mul]; omega
  rw [e, rt_add a (-c) hb hd, rt_neg, Rat.sub_eq_add_neg]
theorem rt_int (i : Int) : rt i 1 = (i : Rat) := by
  rw [rt, Rat.divInt_eq_div]
  grind
theorem add_q (p q : Rat) : rt (p.num * q.den + q.num * p.den) (p.den * q.den) = p + q := by
  rw [rt_add _ _ (den_ne p) (den_ne q), rt_self, rt_self]
theorem sub_q (p q : Rat) : rt (p.num * q.den - q.num * p.den) (p.den * q.den) = p - q := by
  rw [rt_sub _ _ (den_ne p) (den_ne q), rt_self, rt_self]
theorem mul_q (p q : Rat) : rt (p.num * q.num) (p.den * q.den) = p * q := by
  rw [rt_mul, rt_self, rt_self]
theorem rt_inv (a b : Int) : rt b a = (rt a b)⁻¹ := by
  rw [rt, rt, Rat.divInt_eq_div, Rat.divInt_eq_div, Rat.div_def, Rat.div_def, Rat.inv_mul_rev, Rat.inv_inv]
theorem div_q (p q : Rat) : rt (p.num * q.den) (p.den * q.num) = p / q := by
  rw [rt_mul, rt_self, rt_inv, rt_self, Rat.div_def]
theorem num_ne {q : Rat} (h : q ≠ 0) : q.num ≠ 0 := fun e => h (by
  have := Rat.num_eq_zero.mp e
  exact this)
/-! ### sizes of fractions -/
structure Sz (n : Nat) (q : Rat) : Prop where
  num : Bd n q.num
  den : Bd n q.den
theorem Sz.mono {n m : Nat} {q : Rat} (h : Sz n q) (l : n ≤ m) : Sz m q := ⟨h.num.mono l, h.den.mono l⟩
theorem ediv_le {a b : Nat} : a / b ≤ a := Nat.div_le_self a b
theorem sz_rt {n m : Nat} {a b : Int} (ha : Bd n a) (hb : Bd m b) (h0 : b ≠ 0) : Sz (max n m) (rt a b) := by
  have h1 : a.natAbs < 2 ^ n := ha
  have h2 : b.natAbs < 2 ^ m := hb
  constructor
  · show (rt a b).num.natAbs < _
    rw [rt, Rat.num_divInt]
    have e : (b.sign * a).natAbs ≤ a.natAbs := by
      rcases Int.lt_or_gt_of_ne h0 with h | h
      · rw [Int.sign_eq_neg_one_of_neg h]; omega
      · rw [Int.sign_eq_one_of_pos h]; omega
    have e2 := Int.natAbs_ediv_le_natAbs (b.sign * a) (Int.gcd b a : Int)
    have := @pow2_le n (max n m) (Nat.le_max_left _ _)
    omega
  · show ((rt a b).den : Int).natAbs < _
    rw [rt, Rat.den_divInt, if_neg h0, Int.natAbs_natCast]
    have := @pow2_le m (max n m) (Nat.le_max_right _ _)
    have e3 := Nat.div_le_self b.natAbs (Int.gcd b a)
    omega
theorem sz_add {n m : Nat} {p q : Rat} (hp : Sz n p) (hq : Sz m q) : Sz (n + m + 1) (p + q) := by
  rw [← add_q]
  refine (sz_rt (bd_add (bd_mul hp.num hq.den) (bd_mul hq.num hp.den)) (bd_mul hp.den hq.den) ?_).mono (by omega)
  exact Int.mul_ne_zero (den_ne p) (den_ne q)
theorem sz_sub {n m : Nat} {p q : Rat} (hp : Sz n p) (hq : Sz m q) : Sz (n + m + 1) (p - q) := by
  rw [← sub_q]
  refine (sz_rt (bd_sub (bd_mul hp.num hq.den) (bd_mul hq.num hp.den)) (bd_mul hp.den hq.den) ?_).mono (by omega)
  exact Int.mul_ne_zero (den_ne p) (den_ne q)
theorem sz_mul {n m : Nat} {p q : Rat} (hp : Sz n p) (hq : Sz m q) : Sz (n + m) (p * q) := by
  rw [← mul_q]
  refine (sz_rt (bd_mul hp.num hq.num) (bd_mul hp.den hq.den) ?_).mono (by omega)
  exact Int.mul_ne_zero (den_ne p) (den_ne q)
theorem sz_div {n m : Nat} {p q : Rat} (hp : Sz n p) (hq : Sz m q) (h : q ≠ 0) : Sz (n + m) (p / q) := by
  rw [← div_q]
  refine (sz_rt (bd_mul hp.num hq.den) (bd_mul hp.den hq.num) ?_).mono (by omega)
  exact Int.mul_ne_zero (den_ne p) (num_ne h)
theorem sz_int {n : Nat} {i : Int} (h : Bd n i) (h1 : 1 ≤ n) : Sz n (i : Rat) := by
  refine ⟨by rw [Rat.num_intCast]; exact h, ?_⟩
  rw [Rat.den_intCast]
  show (1 : Nat) < 2 ^ n
  exact Nat.lt_of_lt_of_le (by decide : 1 < 2 ^ 1) (pow2_le h1)
theorem sz_neg {n : Nat} {p : Rat} (h : Sz n p) : Sz n (-p) := ⟨by rw [Rat.neg_num]; exact bd_neg h.num, by rw [Rat.neg_den]; exact h.den⟩
theorem bd_floor {n : Nat} {q : Rat} (h : Sz n q) : Bd n q.floor := by
  rw [Rat.floor_def]
  exact bd_div (den_pos q) h.num
end MM

namespace MM
open PySem L2 PyProof.Rows
section
variable {X : Cx} {E : En} {Γ : Gm} {M : Ow} {st : Stmt} {rest : List Stmt} {Ψ : Ed}
theorem wss_cut (J : Gm → Ow → Prop) (h : WS X E Γ M st { Ψ with nx := J }) (k : ∀ Γ' M', J Γ' M' → WSs X E Γ' M' rest Ψ) : WSs X E Γ M (st :: rest) Ψ :=
  wss_cons fun σ G H a D c => h σ G H a D ⟨fun Γ' M' hj => c.nx Γ' M' (k Γ' M' hj), c.rt, c.bk, c.ct⟩
end
theorem eqv_ii {a b : Int} : PyData.eqv (.int a) (.int b) = (a == b) := by simp [PyData.eqv]
theorem eqv_ss {a b : Str} : PyData.eqv (.str a) (.str b) = (a == b) := by simp [PyData.eqv]
theorem shaped_i {a : Int} : SeqAt.shaped (.int a) = true := rfl
end MM

namespace MM
open PySem L2 PyProof.Rows
section
variable {X : Cx} {E : En} {Γ : Gm} {M : Ow} {Ψ : Ed}
/-- a first store of a field -/
theorem ws_fldN {o value : Expr} {f : Str} {pos pos' : Pos} (h : WE X E Γ M value fun ρv M1 => WE X E Γ M1 o fun ρo M2 => ∃ p C l u, Sub ρo (RRef p) ∧ Fnd M2 p (OIns C l) u ∧ Cls X.K C ∧ NoAttr X.K C f ∧ l.length < 1000 ∧ l.lookup f = none ∧ Ψ.nx Γ (u (OIns C (l ++ [(f, ρv)]))))
    (hs : swapsWith value (some (.Attribute o f pos')) pos.line X.env = pure false := by rfl) : WS X E Γ M (.Assign [.Attribute o f pos'] value pos) Ψ := by
  refine ws_fld (fun σ G H a Q q => h σ G H a Q fun ρ M' v G' H' hh => q ρ M' v G' H' (fun σ2 G2 H2 a2 Q2 q2 => hh σ2 G2 H2 a2 Q2 fun ρ2 M2 v2 G3 H3 ⟨p, C, l, u, h1, h2, h3, h4, h5, h6, h7⟩ => q2 ρ2 M2 v2 G3 H3 ⟨p, C, l, u, h1, h2, h3, h4, h5, by rw [putR_new h6]; exact h7⟩)) hs
end
theorem bd_0 {n : Nat} : Bd n 0 := by
  show (0 : Int).natAbs < _
  exact Nat.two_pow_pos n
end MM

namespace MM
open PySem L2 PyProof.Rows
theorem bd_lit {i : Int} (h : i.natAbs < 1180591620717411303424) : Bd 70 i := h
theorem cpow_lit {i j : Int} (h1 : 0 ≤ j) (h2 : j ≤ 1000000) (h3 : i.natAbs < 2 ^ 64) : CPow i j := ⟨h1, h2, h3⟩
local macro_rules | `(tactic| walk_at "bd") => `(tactic| first
  | assumption
  | exact Sz.num (by assumption)
  | exact Sz.den (by assumption)
  | exact bd_lit (by decide)
  | (refine' bd_mul ?h1 ?h2; (case h1 => walk_at "bd"); (case h2 => walk_at "bd"))
  | (refine' bd_add ?h1 ?h2; (case h1 => walk_at "bd"); (case h2 => walk_at "bd"))
  | (refine' bd_sub ?h1 ?h2; (case h1 => walk_at "bd"); (case h2 => walk_at "bd"))
  | (refine' bd_mod ?h1 ?h2; (case h1 => decide); (case h2 => walk_at "bd"))
  | (refine' bd_neg ?h1; (case h1 => walk_at "bd")))
local macro_rules | `(tactic| walk_at "mul") => `(tactic| (refine' opv_mul_i (mulOk ?h1 ?h2 ?h3); (case h1 => walk_at "bd"); (case h2 => walk_at "bd"); (case h3 => decide)))
/-! ### owned things told in part -/
def OEx {ι : Type} (c : ι → Prop) (r : ι → ORep) : ORep := ⟨fun o G => ∃ y, c y ∧ (r y).p o G, fun o G G' s ⟨y, h, k⟩ => ⟨y, h, (r y).mono _ _ _ s k⟩⟩
theorem oex_in {ι : Type} {c : ι → Prop} {r : ι → ORep} {ρ : ORep} (y : ι) (h : c y) (s : OSub ρ (r y)) : OSub ρ (OEx c r) := fun o G k => ⟨y, h, s o G k⟩
section
variable {X : Cx} {E : En} {Γ : Gm} {M : Ow} {st : List Stmt} {Ψ : Ed} {ι : Type}
theorem wss_open {p : Addr} {c : ι → Prop} {r : ι → ORep} {u : ORep → Ow} (f : Fnd M p (OEx c r) u) (k : ∀ y, c y → WSs X E Γ (u (r y)) st Ψ) : WSs X E Γ M st Ψ := fun σ G H a D d => by
  obtain ⟨o, e1, y, hy, ry⟩ := a.own _ f.mem
  have b : At E Γ (u (r y)) σ G H := by
    refine ⟨a.len, a.env, a.gh, fun q hq => ?_, fun q hq => ?_, by rw [f.map]; exact a.nd, a.g0, a.keep, a.nw, fun q hq => ?_, a.there⟩
    · rcases f.of (r y) q hq with e | ⟨h1, _⟩
      · subst e; exact ⟨o, e1, ry⟩
      · exact a.own q h1
    · rcases f.of (r y) q hq with e | ⟨h1, _⟩
      · subst e; exact a.gn (p, OEx c r) f.mem
      · exact a.gn q h1
    · rcases f.of (r y) q hq with e | ⟨h1, _⟩
      · subst e; exact a.loc (p, OEx c r) f.mem
      · exact a.loc q h1
  exact k y hy σ G H b D d
end
/-! ### the law's draws -/
/-- a list of draws, at most n of them made -/
def ODr (n : Nat) : ORep := OEx (fun y : Int × Int × Bool => 0 ≤ y.2.1 ∧ y.2.1 ≤ n) fun y => OL [RI y.1, RI y.2.1, RB y.2.2]
theorem odr_mono {n m : Nat} (h : n ≤ m) : OSub (ODr n) (ODr m) := fun o G ⟨y, ⟨h1, h2⟩, k⟩ => ⟨y, ⟨h1, by omega⟩, k⟩
def con_L_draws : Con := { I := Int, B := Addr, pre := fun _ => True, args := fun i => [RI i], own := fun _ => [], post := fun _ _ => True, res := fun _ p => RRef p, own' := fun _ p => [(p, ODr 0)] }
theorem ck_L_draws {ρ : Rep} {M : Ow} {Φ : Rep → Ow → Prop} {a : Int} (h : Sub ρ (RI a)) (k : ∀ p, Φ (RRef p) ((p, ODr 0) :: M)) : CallK con_L_draws [ρ] M Φ :=
  ⟨a, M, trivial, .cons h .nil, .nil, fun p _ => k p⟩
/-- the next draw: a whole number below 306,783,369 -/
def Dr (x : Int) : Prop := 0 ≤ x ∧ x < 306783369
theorem Dr.bd {x : Int} (h : Dr x) : Bd 29 x := by
  obtain ⟨h1, h2⟩ := h
  show x.natAbs < _
  omega
def con_L_next : Con := { I := Addr × Nat, B := Int, pre := fun i => i.2 ≤ 1000000000, args := fun i => [RRef i.1], own := fun i => [(i.1, ODr i.2)], post := fun _ x => Dr x, res := fun _ x => RI x, own' := fun i _ => [(i.1, ODr (i.2 + 1))] }
theorem ck_L_next {ρ : Rep} {M M1 : Ow} {Φ : Rep → Ow → Prop} {p : Addr} {n : Nat} (h : Sub ρ (RRef p)) (rm : Rm M p (ODr n) M1) (hn : n ≤ 1000000000) (k : ∀ x, Dr x → Φ (RI x) ((p, ODr (n + 1)) :: M1)) : CallK con_L_next [ρ] M Φ :=
  ⟨(p, n), M1, hn, .cons h .nil, .cons rm OSub.rfl .nil, fun x hx => k x hx⟩
section
variable {P : Program} {w : World} {K : PySem.W.Frag} {mg : Str → Option Value} {base : Heap}
theorem bd_ten {n : Nat} (h : n ≤ 100000) : Bd (4 * n + 1) ((10 : Int) ^ n) := by
  show ((10 : Int) ^ n).natAbs < 2 ^ (4 * n + 1)
  have e : ((10 : Int) ^ n).natAbs = 10 ^ n := by
    rw [Int.natAbs_pow]; rfl
  rw [e, Nat.pow_succ, Nat.pow_mul]
  have : 10 ^ n ≤ (2 ^ 4) ^ n := Nat.pow_le_pow_left (by decide) n
  have : 0 < 10 ^ n := Nat.pow_pos (by decide)
  omega
theorem ok_L_draws {f : Addr} {fd : FuncData} (F : FdD K "_law_draws" "_law_draws" s_f_L_draws [] f fd) (hrg : mg "range" = none) : FnOk P w K mg base CX0 1 f fd ["_law_cell"] (conSp con_L_draws) := by
  refine fn_conD con_L_draws F sc_f_L_draws (fun _ => rfl) fun cd A outer s H EE G i hp hr hE => ?_
  -- cut = 10 ** 60
  refine wss_cons (ws_set 1 w1_f_L_draws (we_bin op_pow (we_int (we_int (opw_of (opv_pow_i (cpow_lit (by decide) (by decide) (by decide))) ?_)))))
  -- for k in range(7): cut = cut * cut
  refine wss_cons (ws_for_range1 PassesOwn.never rfl g_range_f_L_draws hrg (wa_cons (we_int (wa_nil ⟨7, .cons Sub.rfl .nil, ⟨by decide, by decide⟩, fun n Γ M => ∃ o, Γ = [some (RI i), some (RI ((10 : Int) ^ (60 * 2 ^ n))), o] ∧ M = [], ⟨none, rfl, rfl⟩, ?_, ?_⟩))))
  · rintro n ρ Γ M hn rfl ⟨o, rfl, rfl⟩
    have hn : n < 7 := hn
    have hb : Bd (4 * (60 * 2 ^ n) + 1) ((10 : Int) ^ (60 * 2 ^ n)) := bd_ten (by
      have : 2 ^ n ≤ 2 ^ 7 := pow2_le (by omega)
      omega)
    refine wg_name 2 w2_f_L_draws (wss_one (ws_set 1 w1_f_L_draws (we_bin op_mulU (we_var 1 r1_f_L_draws rfl (we_var 1 r1_f_L_draws rfl (opw_of (opv_mul_i (mulOk hb hb ?_)) ?_))))))
    · have : 2 ^ n ≤ 2 ^ 7 := pow2_le (by omega)
      omega
    · refine ⟨some (RI (n : Int)), ?_, rfl⟩
      show [some (RI i), some (RI ((10 : Int) ^ (60 * 2 ^ n) * (10 : Int) ^ (60 * 2 ^ n))), _] = _
      rw [← Int.pow_add, Nat.pow_succ]
      have e : 60 * 2 ^ n + 60 * 2 ^ n = 60 * (2 ^ n * 2) := by omega
      rw [e]
  · rintro Γ M ⟨o, rfl, rfl⟩
    -- return [cell % cut, 0, cell >= 10 ** 18]
    have hc : (0 : Int) < (10 : Int) ^ (60 * 2 ^ (7 : Int).toNat) := Int.pow_pos (by decide)
    refine wss_one (ws_ret (we_lstO (wa_cons (we_bin op_modN (we_var 0 r0_f_L_draws rfl (we_var 1 r1_f_L_draws rfl (opw_of (opv_mod_i hc) ?_))))) hE))
    refine wa_cons (we_int (wa_cons (we_cmp op_ge (nomark _) (we_var 0 r0_f_L_draws rfl (we_bin op_pow (we_int (we_int (opw_of (opv_pow_i (cpow_lit (by decide) (by decide) (by decide))) (opw_of opv_ge_i (wa_nil ⟨by show 3 ≤ 100000; decide, fun p _ _ => ?_⟩))))))))))
    exact ⟨p, [], trivial, Sub.rfl, .cons .here (oex_in (_, _, _) ⟨Int.le_refl 0, Int.le_refl 0⟩ OSub.rfl) .nil⟩
theorem ok_L_next {f : Addr} {fd : FuncData} (F : FdD K "_law_next" "_law_next" s_f_L_next [] f fd) : FnOk P w K mg base CX0 1 f fd ["_law_draws_here"] (conSp con_L_next) := by
  refine fn_conD con_L_next F sc_f_L_next (fun _ => rfl) fun cd A outer s H EE G i hp hr hE => ?_
  obtain ⟨p, n⟩ := i
  have hp : n ≤ 1000000000 := hp
  refine wss_open Fnd.here ?_
  rintro ⟨a, j, b⟩ ⟨hj0, hj1⟩
  have hj0 : 0 ≤ j := hj0
  have hj1 : j ≤ n := hj1
  have bj : Bd 40 (j + 1) := by
    show (j + 1).natAbs < _
    omega
  -- d[1] = d[1] + 1
  refine wss_cons (ws_asg (we_bin op_addU (we_ix ix_seq (we_var 0 r0_f_L_next rfl (we_int (opw_ix_o Sub.rfl Sub.rfl .here (show atI [RI a, RI j, RB b] 1 = some (RI j) from rfl) (we_int ?_)))))))
  refine opw_of opv_add_i (wg_setL (we_var 0 r0_f_L_next rfl (we_int ⟨p, _, 1, 1, _, Sub.rfl, Sub.rfl, .here, rfl, ?_⟩)))
  -- k = d[1]
  refine wss_cons (ws_set 1 w1_f_L_next (we_ix ix_seq (we_var 0 r0_f_L_next rfl (we_int (opw_ix_o Sub.rfl Sub.rfl .here (show atI [RI a, RI (j + 1), RB b] 1 = some (RI (j + 1)) from rfl) ?_)))))
  -- if d[2]
  refine wss_cons (ws_if (wt_val (we_ix ix_seq (we_var 0 r0_f_L_next rfl (we_int (opw_ix_o Sub.rfl Sub.rfl .here (show atI [RI a, RI (j + 1), RB b] 2 = some (RB b) from rfl) ⟨_, Sub.rfl, fun hk => ?_, fun hk => wss_nil ?_⟩))))))
  · refine wss_cons (ws_set 2 w2_f_L_next (we_bin op_modN (we_ix ix_seq (we_var 0 r0_f_L_next rfl (we_int (opw_ix_o Sub.rfl Sub.rfl .here (show atI [RI a, RI (j + 1), RB b] 0 = some (RI a) from rfl) (we_bin op_pow (we_int (we_int (opw_of (opv_pow_i (cpow_lit (by decide) (by decide) (by decide))) (opw_of (opv_mod_i (by decide)) ?_))))))))))) 
    refine wss_cons (ws_asg (we_bin op_fdivA (we_ix ix_seq (we_var 0 r0_f_L_next rfl (we_int (opw_ix_o Sub.rfl Sub.rfl .here (show atI [RI a, RI (j + 1), RB b] 0 = some (RI a) from rfl) (we_bin op_pow (we_int (we_int (opw_of (opv_pow_i (cpow_lit (by decide) (by decide) (by decide))) (opw_of (opv_div_i (by decide) (by decide)) ?_)))))))))))
    refine wg_setL (we_var 0 r0_f_L_next rfl (we_int ⟨p, _, 0, 0, _, Sub.rfl, Sub.rfl, .here, rfl, ?_⟩))
    refine wss_one (ws_ret (we_var 2 r2_f_L_next rfl ⟨a % 10 ^ (6 : Int).toNat, [], ?_, Sub.rfl, .cons .here ?_ .nil⟩))
    · show 0 ≤ a % 1000000 ∧ a % 1000000 < 306783369
      omega
    · exact oex_in (_, j + 1, b) ⟨by show 0 ≤ j + 1; omega, by show j + 1 ≤ ((n + 1 : Nat) : Int); omega⟩ OSub.rfl
  -- the mix
  refine wss_cons (ws_set 2 w2_f_L_next (we_bin op_modN (we_bin op_mulU (we_bin op_addU (we_bin op_addU (we_bin op_modN (we_ix ix_seq (we_var 0 r0_f_L_next rfl (we_int (opw_ix_o Sub.rfl Sub.rfl .here (show atI [RI a, RI (j + 1), RB b] 0 = some (RI a) from rfl) (we_int (opw_of (opv_mod_i (by decide)) ?_))))))))))))
  refine we_bin op_mulU (we_bin op_mulU (we_var 1 r1_f_L_next rfl (we_var 1 r1_f_L_next rfl (opw_of (by walk_at "mul") (we_int (opw_of (by walk_at "mul") (opw_of opv_add_i ?_)))))))
  refine we_var 1 r1_f_L_next rfl (opw_of opv_add_i (we_int (opw_of (by walk_at "mul") (we_int (opw_of (opv_mod_i (by decide)) ?_)))))
  have q0 := Int.emod_nonneg ((a % 1000003 + (j + 1) * (j + 1) * 7919 + (j + 1)) * 48271) (show (2147483629 : Int) ≠ 0 by decide)
  have q1 := Int.emod_lt_of_pos ((a % 1000003 + (j + 1) * (j + 1) * 7919 + (j + 1)) * 48271) (show (0 : Int) < 2147483629 by decide)
  generalize (a % 1000003 + (j + 1) * (j + 1) * 7919 + (j + 1)) * 48271 % 2147483629 = z at q0 q1
  have bz : Bd 32 z := by
    show z.natAbs < _
    omega
  refine wss_cons (ws_set 2 w2_f_L_next (we_bin op_modN (we_bin op_mulU (we_var 2 r2_f_L_next rfl (we_var 2 r2_f_L_next rfl (opw_of (by walk_at "mul") (we_int (opw_of (opv_mod_i (by decide)) ?_))))))))
  have p0 := Int.emod_nonneg (z * z) (show (2147483587 : Int) ≠ 0 by decide)
  have p1 := Int.emod_lt_of_pos (z * z) (show (0 : Int) < 2147483587 by decide)
  generalize z * z % 2147483587 = y at p0 p1
  have by_ : Bd 32 y := by
    show y.natAbs < _
    omega
  refine wss_one (ws_ret (we_bin op_fdivA (we_bin op_modN (we_bin op_mulU (we_var 2 r2_f_L_next rfl (we_bin op_addU (we_var 2 r2_f_L_next rfl (we_int (opw_of opv_add_i (opw_of (by walk_at "mul") (we_int (opw_of (opv_mod_i (by decide)) (we_int (opw_of (opv_div_i (by decide) (by decide)) ?_))))))))))))))
  refine ⟨y * (y + 2) % 2147483579 / 7, [], ?_, Sub.rfl, .cons .here ?_ .nil⟩
  · show 0 ≤ _ ∧ _ < 306783369
    have t0 := Int.emod_nonneg (y * (y + 2)) (show (2147483579 : Int) ≠ 0 by decide)
    have t1 := Int.emod_lt_of_pos (y * (y + 2)) (show (0 : Int) < 2147483579 by decide)
    omega
  · exact oex_in (_, j + 1, b) ⟨by show 0 ≤ j + 1; omega, by show j + 1 ≤ ((n + 1 : Nat) : Int); omega⟩ OSub.rfl
end
end MM

namespace MM
open PySem L2 PyProof.Rows
/-! ### an item of a written list of ints -/
inductive AllI (Q : Int → Prop) : List Rep → Prop
  | nil : AllI Q []
  | cons {n : Int} {l : List Rep} : Q n → AllI Q l → AllI Q (RI n :: l)
theorem AllI.mem {Q : Int → Prop} {l : List Rep} (h : AllI Q l) : ∀ ρ ∈ l, ∃ n, ρ = RI n ∧ Q n := by
  induction h with
  | nil => intro ρ hm; cases hm
  | cons hq _ ih =>
    intro ρ hm
    rcases List.mem_cons.mp hm with e | hm
    · exact ⟨_, e, hq⟩
    · exact ih ρ hm
theorem opw_pickI {K : PySem.W.Frag} {E : En} {Γ : Gm} {M : Ow} {Φ : Rep → Ow → Prop} {ρs : List Rep} {i : Int} (Q : Int → Prop) (h0 : 0 ≤ i) (h1 : i < ρs.length) (hq : AllI Q ρs) (k : ∀ n, Q n → Φ (RI n) M) : OpW E Γ M (rIx K) (RLt ρs) (RI i) Φ := by
  obtain ⟨x, e, hm, _⟩ := atI_of (l := ρs) h0 h1
  obtain ⟨n, e2, hn⟩ := hq.mem x hm
  subst e2
  exact opw_of (opv_ix_l sub_lt e) (k n hn)
theorem opv_powL {i j v : Int} (h1 : 0 ≤ j) (h2 : j ≤ 1000000) (h3 : i.natAbs < 2 ^ 64) (e : i ^ j.toNat = v) : OpV rPow (RI i) (RI j) (RI v) := by
  subst e; exact opv_pow_i ⟨h1, h2, h3⟩
theorem bd_one {n : Nat} (hn : 1 ≤ n) : Bd n 1 := by
  show (1 : Int).natAbs < _
  exact Nat.lt_of_lt_of_le (by decide : 1 < 2 ^ 1) (pow2_le hn)
end MM

namespace MM
open PySem L2 PyProof.Rows
theorem opw_pickR {K : PySem.W.Frag} {E : En} {Γ : Gm} {M : Ow} {Φ : Rep → Ow → Prop} {ρs : List Rep} {i : Int} (h0 : 0 ≤ i) (h1 : i < ρs.length) (k : ∀ ρ ∈ ρs, Φ ρ M) : OpW E Γ M (rIx K) (RLt ρs) (RI i) Φ := by
  obtain ⟨x, e, hm, _⟩ := atI_of (l := ρs) h0 h1
  exact opw_of (opv_ix_l sub_lt e) (k x hm)
end MM

namespace MM
open PySem L2 PyProof.Rows
/-! ### slices of lists -/
def tWO (X : Cx) : Option Expr → TO
  | none => tNoPart
  | some e => tPart (tW X e)
theorem po_w {X : Cx} : ∀ {o : Option Expr}, PO X o (tWO X o)
  | none => po_none
  | some _ => po_some pe_w
def WO (X : Cx) (E : En) (Γ : Gm) (M : Ow) (o : Option Expr) (Φ : Option Int → Ow → Prop) : Prop :=
  ∀ σ G H, At E Γ M σ G H → ∀ Q : Option Int → Hp → Prop, (∀ k M' G' H', Φ k M' → Same G G' → At E Γ M' σ G' H' → Q k H') → tWO X o σ H Q
def cutL {α : Type} (l : List α) (lo hi : Option Int) : List α := (l.drop (HT.sIx l.length 0 lo)).take (HT.sIx l.length l.length hi - HT.sIx l.length 0 lo)
theorem cutL_map {α β : Type} {f : α → β} {l : List α} {lo hi : Option Int} : cutL (l.map f) lo hi = (cutL l lo hi).map f := by
  unfold cutL
  rw [List.length_map, List.map_take, List.map_drop]
theorem cutL_len {α : Type} {l : List α} {lo hi : Option Int} : (cutL l lo hi).length ≤ l.length := by
  unfold cutL
  rw [List.length_take, List.length_drop]
  omega
theorem reps_drop {G : Hp} : ∀ {ρs : List Rep} {vs : List V} (n : Nat), Reps ρs vs G → Reps (ρs.drop n) (vs.drop n) G
  | _, _, 0, h => h
  | [], [], _ + 1, h => h
  | _ :: _, _ :: _, n + 1, h => reps_drop n h.2
  | [], _ :: _, _ + 1, h => h.elim
  | _ :: _, [], _ + 1, h => h.elim
theorem reps_take {G : Hp} : ∀ {ρs : List Rep} {vs : List V} (n : Nat), Reps ρs vs G → Reps (ρs.take n) (vs.take n) G
  | _, _, 0, h => trivial
  | [], [], _ + 1, h => h
  | _ :: _, _ :: _, n + 1, h => ⟨h.1, reps_take n h.2⟩
  | [], _ :: _, _ + 1, h => h.elim
  | _ :: _, [], _ + 1, h => h.elim
theorem reps_cut {G : Hp} {ρs : List Rep} {vs : List V} (r : Reps ρs vs G) (lo hi : Option Int) : Reps (cutL ρs lo hi) (cutV vs lo hi) G := by
  unfold cutL cutV
  rw [r.length]
  exact reps_take _ (reps_drop _ r)
section
variable {X : Cx} {E : En} {Γ : Gm} {M : Ow} {a e : Expr} {pos p2 : Pos} {Φ : Rep → Ow → Prop} {lo hi : Option Expr}
theorem wo_none {Φ : Option Int → Ow → Prop} (k : Φ none M) : WO X E Γ M none Φ := fun σ G H a Q q => q none M G H k (Same.refl _) a
theorem wo_some {Φ : Option Int → Ow → Prop} (h : WE X E Γ M e fun ρ M' => ∃ i, Sub ρ (RI i) ∧ Φ (some i) M') : WO X E Γ M (some e) Φ := fun σ G H a Q q =>
  h σ G H a _ fun ρ M' v G' H' ⟨i, sb, hk⟩ s' a' r' => ⟨i, sb _ _ r', q (some i) M' G' H' hk s' a'⟩
theorem we_slL (h : WE X E Γ M a fun ρ M1 => ∃ ρs, Sub ρ (RL X.K ρs) ∧ WO X E Γ M1 lo fun l M2 => WO X E Γ M2 hi fun u M3 => Φ (RLt (cutL ρs l u)) M3) : WE X E Γ M (.Subscript a (.Slice lo hi none p2) pos) Φ :=
  we_of (pe_slice sl_list pe_w po_w po_w) fun σ G H at' Q q => h σ G H at' _ fun ρ M1 x G1 H1 ⟨ρs, sb, h1⟩ s1 a1 r1 => h1 σ G1 H1 a1 _ fun l M2 G2 H2 h2 s2 a2 => h2 σ G2 H2 a2 _ fun u M3 G3 H3 hk s3 a3 => by
    obtain ⟨b, vs, e, hq, rr⟩ := sb _ _ (ρ.mono _ _ _ (s2.trans s3) r1)
    refine ⟨b, vs, e, Same.seq a3.gh hq, fun p hp => ?_⟩
    have n : New G3 H3 (upd G3 p (.lst (cutV vs l u))) (upd H3 p (.lst (cutV vs l u))) := New.put a3.gh hp
    exact q _ M3 _ _ _ hk ((s1.trans (s2.trans s3)).trans n.gg) (a3.new n) ⟨p, _, rfl, upd_same, (reps_cut rr l u).mono n.gg⟩
end
/-! ### a law's own promise -/
def con_law (K : PySem.W.Frag) : Con := { I := List Int, B := Unit, pre := fun ns => ns.length ≤ 63, args := fun ns => [RL K (ns.map RI)], own := fun _ => [], post := fun _ _ => True, res := fun _ _ => RB true, own' := fun _ _ => [] }
theorem reps_ints {G : Hp} : ∀ ns : List Int, Reps (ns.map RI) (ns.map V.int) G
  | [] => trivial
  | _ :: ns => ⟨rfl, reps_ints ns⟩
theorem law_start {K : PySem.W.Frag} {H : Hp} {a : Addr} {ns : List Int} {Q : VK} {EE : XK} (h : SqL K H a (ns.map V.int)) (hl : ns.length ≤ 63) (q : ∀ H', Q (.bl true) H') : conSp (con_law K) [.ref a] H Q EE := by
  refine ⟨H, ns, Same.refl _, hl, ⟨⟨a, _, rfl, h, reps_ints ns⟩, trivial⟩, fun _ hq => (List.not_mem_nil hq).elim, fun _ hq => (List.not_mem_nil hq).elim, List.nodup_nil, fun _ v G' H' _ _ r => ?_⟩
  have r : v = .bl true := r
  subst r
  exact q H'
/-- the turns of a law: over script[:k] + [0] -/
theorem cells_of {ns : List Int} {lo hi : Option Int} {i : Nat} {ρ : Rep} (h : (cutL (ns.map RI) lo hi ++ [RI 0])[i]? = some ρ) : ∃ n, ρ = RI n := by
  have e : cutL (ns.map RI) lo hi ++ [RI 0] = (cutL ns lo hi ++ [0]).map RI := by rw [cutL_map, List.map_append]; rfl
  rw [e, List.getElem?_map] at h
  obtain ⟨n, _, h2⟩ := Option.map_eq_some_iff.mp h
  exact ⟨n, h2.symm⟩
end MM

namespace MM
open PySem L2 PyProof.Rows
/-! ### what the top has written -/
def DefE (K : PySem.W.Frag) (x : Str) (st : Stmt) (dvs : List V) : Prop := ∃ f fd, PySem.W.nsIn K mainGlobals x = some (some (.ref f)) ∧ FdD K x x st dvs f fd
theorem defE_mk {K : PySem.W.Frag} {x : Str} {st : Stmt} {f : Addr} {oc : Value} {od an : Option Addr} {osl : Array (Option Value)} {kV doc pm cdv ct : Value} (a : PySem.W.nsIn K mainGlobals x = some (some (.ref f))) (l : K.lookup f = some ⟨oc, od, .func (PySem.W.fnOf x x (defArgs st) (defBody st) (defScope st) .none kV doc pm an cdv ct), osl⟩)
    (c : PySem.W.codeIn K cdv x = true) (k : PySem.W.keepIn K (.ref f) = true) : DefE K x st [] := ⟨f, _, a, fdD_mk l c k⟩
theorem defE_mkT {K : PySem.W.Frag} {x : Str} {st : Stmt} {dvs : List V} {f T : Addr} {oc tc : Value} {od td an : Option Addr} {osl tsl : Array (Option Value)} {kV doc pm cdv ct : Value} {its : Array Value} {n : Nat} (a : PySem.W.nsIn K mainGlobals x = some (some (.ref f))) (l : K.lookup f = some ⟨oc, od, .func (PySem.W.fnOf x x (defArgs st) (defBody st) (defScope st) (.ref T) kV doc pm an cdv ct), osl⟩)
    (c : PySem.W.codeIn K cdv x = true) (k : PySem.W.keepIn K (.ref f) = true) (lT : K.lookup T = some ⟨tc, td, .seq its n, tsl⟩) (hd : dvs ≠ []) (hv : Vals dvs its.toList) : DefE K x st dvs := ⟨f, _, a, fdD_mkT l c k lT hd hv⟩
/-- a method, or __init__, of the class at C -/
def MetE (K : PySem.W.Frag) (C : Addr) (x qual : Str) (st : Stmt) (dvs : List V) : Prop := ∃ f fd, PySem.W.findIn K (.ref C) x = some (some (.ref f)) ∧ PySem.W.isFn K (.ref f) = true ∧ FdD K x qual st dvs f fd
theorem metE_mk {K : PySem.W.Frag} {C : Addr} {x qual : Str} {st : Stmt} {f : Addr} {oc : Value} {od an : Option Addr} {osl : Array (Option Value)} {kV doc pm cdv ct : Value} (a : PySem.W.findIn K (.ref C) x = some (some (.ref f))) (i : PySem.W.isFn K (.ref f) = true) (l : K.lookup f = some ⟨oc, od, .func (PySem.W.fnOf x qual (defArgs st) (defBody st) (defScope st) .none kV doc pm an cdv ct), osl⟩)
    (c : PySem.W.codeIn K cdv qual = true) (k : PySem.W.keepIn K (.ref f) = true) : MetE K C x qual st [] := ⟨f, _, a, i, fdD_mk l c k⟩
theorem metE_mkT {K : PySem.W.Frag} {C : Addr} {x qual : Str} {st : Stmt} {dvs : List V} {f T : Addr} {oc tc : Value} {od td an : Option Addr} {osl tsl : Array (Option Value)} {kV doc pm cdv ct : Value} {its : Array Value} {n : Nat} (a : PySem.W.findIn K (.ref C) x = some (some (.ref f))) (i : PySem.W.isFn K (.ref f) = true) (l : K.lookup f = some ⟨oc, od, .func (PySem.W.fnOf x qual (defArgs st) (defBody st) (defScope st) (.ref T) kV doc pm an cdv ct), osl⟩)
    (c : PySem.W.codeIn K cdv qual = true) (k : PySem.W.keepIn K (.ref f) = true) (lT : K.lookup T = some ⟨tc, td, .seq its n, tsl⟩) (hd : dvs ≠ []) (hv : Vals dvs its.toList) : MetE K C x qual st dvs := ⟨f, _, a, i, fdD_mkT l c k lT hd hv⟩
/-- an own class -/
structure ClsE (K : PySem.W.Frag) (x : Str) (C : Addr) : Prop where
  at_ : PySem.W.nsIn K mainGlobals x = some (some (.ref C))
  pg : PySem.W.plainGet K C Str.empty = true
  hd : PySem.W.hasDictIn K C = true
  po : PySem.W.plainOver K C = true
  sa : PySem.W.findIn K (.ref C) "__setattr__" = some (some (.builtin "object.__setattr__"))
  ha : PySem.W.findIn K (.ref C) "__class__" = some (some (.builtin "object.__class__"))
  hn : PySem.W.specialIn K (.builtin "object.__class__") "__get__" = some (some (.builtin "getset_descriptor.__get__"))
  htk : PySem.W.takesIn K (.builtin "object.__class__") = some true
  hm : PySem.W.mroIn K C (.type "object") = some true
  makes : PySem.W.makesIn K C = true
  kp : PySem.W.keepIn K (.ref C) = true
theorem ClsE.ci {K : PySem.W.Frag} {x : Str} {C : Addr} (c : ClsE K x C) : ClsI K C := ⟨⟨c.pg, c.hd, c.po, c.sa⟩, c.ha, c.hn, c.htk, c.hm⟩
theorem kitInt {K : PySem.W.Frag} {C : Addr} {T : String} (h1 : PySem.W.isClsIn K C = true) (h2 : PySem.W.typeIn K (.ref C) = some (.type "type")) (h3 : PySem.W.subIn K (.type T) (.ref C) = some false) : PySem.W.kitOne K (.type T) (.ref C) = some false := by
  unfold PySem.W.kitOne
  rw [if_neg (by simp)]
  unfold PySem.W.kitCls
  have h1 : (PySem.W.clsIn K C).isSome = true := h1
  simp [h1, h2, h3]
section
variable {P : Program} {w : World} {K : PySem.W.Frag} {mg : Str → Option Value} {base h : Heap} {k : Nat} {x : Str} {st : Stmt} {f : Addr} {fd : FuncData} {ps : List Str} {c : Con}
theorem kn_of (X : K.In h) (G : h.Ns mainGlobals mg) (a : PySem.W.nsIn K mainGlobals x = some (some (.ref f))) (F : FdD K x x st [] f fd) (ok : FnOk P w K mg base CX0 k f fd ps (conSp c))
    (hb : ∀ (kV doc pm : Value) (an : Option Addr) (cdv ct : Value) (us : List Value), us.length = ps.length → bindArgs (PySem.W.fnOf x x (defArgs st) (defBody st) (defScope st) .none kV doc pm an cdv ct) ⟨us, []⟩ = pure (ps.zip us)) : Kn P w K mg base k x [] c :=
  ⟨f, fd, ps, [], PySem.W.mg_of X G a, F.kp, F.bindsN hb, .nil, ok⟩
/-- n arguments, the defaults behind the first j fill up -/
theorem knD_of {dvs : List V} (n j : Nat) (X : K.In h) (G : h.Ns mainGlobals mg) (a : PySem.W.nsIn K mainGlobals x = some (some (.ref f))) (F : FdD K x x st dvs f fd) (ok : FnOk P w K mg base CX0 k f fd ps (conSp c)) (hd : dvs ≠ []) (hn : n + (dvs.length - j) = ps.length)
    (hb : ∀ (T : Addr) (kV doc pm : Value) (an : Option Addr) (cdv ct : Value) (us its : List Value), us.length = n → its.length = dvs.length → ∃ k, bindArgs (PySem.W.fnOf x x (defArgs st) (defBody st) (defScope st) (.ref T) kV doc pm an cdv ct) ⟨us, []⟩ = seqItems? (.ref T) >>= k ∧ k (some its.toArray) = pure (ps.zip (us ++ its.drop j))) : Kn P w K mg base k x (dvs.drop j) c := by
  obtain ⟨ds, h1, h2⟩ := F.binds1 n j hd hn hb
  exact ⟨f, fd, ps, ds, PySem.W.mg_of X G a, F.kp, h2, h1, ok⟩
theorem knC_of {C : Addr} {qual : Str} {dvs : List V} (n j : Nat) (X : K.In h) (G : h.Ns mainGlobals mg) (e : ClsE K x C) (a : PySem.W.findIn K (.ref C) "__init__" = some (some (.ref f))) (i : PySem.W.isFn K (.ref f) = true) (F : FdD K "__init__" qual st dvs f fd) (ok : FnOk P w K mg base CX0 k f fd ps (conSp c)) (hd : dvs ≠ []) (hn : n + (dvs.length - j) = ps.length)
    (hb : ∀ (T : Addr) (kV doc pm : Value) (an : Option Addr) (cdv ct : Value) (us its : List Value), us.length = n → its.length = dvs.length → ∃ k, bindArgs (PySem.W.fnOf "__init__" qual (defArgs st) (defBody st) (defScope st) (.ref T) kV doc pm an cdv ct) ⟨us, []⟩ = seqItems? (.ref T) >>= k ∧ k (some its.toArray) = pure (ps.zip (us ++ its.drop j))) : KnC P w K mg base k x C (dvs.drop j) c := by
  obtain ⟨ds, h1, h2⟩ := F.binds1 n j hd hn hb
  exact ⟨f, fd, ps, ds, PySem.W.mg_of X G e.at_, ⟨e.makes, a, i, e.kp⟩, h2, h1, ok⟩
theorem knCK_of {C : Addr} {qual : Str} {dvs : List V} (n : Nat) (ks : List Str) (g : {α : Type} → List α → List α → List α → List α) (X : K.In h) (G : h.Ns mainGlobals mg) (e : ClsE K x C) (a : PySem.W.findIn K (.ref C) "__init__" = some (some (.ref f))) (i : PySem.W.isFn K (.ref f) = true) (F : FdD K "__init__" qual st dvs f fd) (ok : FnOk P w K mg base CX0 k f fd ps (conSp c)) (hd : dvs ≠ [])
    (hrel : ∀ {vs ds zs : List V} {us its ws : List Value}, Vals vs us → Vals ds its → Vals zs ws → Vals (g vs ds zs) (g us its ws))
    (hb : ∀ (T : Addr) (kV doc pm : Value) (an : Option Addr) (cdv ct : Value) (us its ws : List Value), us.length = n + 1 → its.length = dvs.length → ws.length = ks.length →
      ∃ k, bindArgs (PySem.W.fnOf "__init__" qual (defArgs st) (defBody st) (defScope st) (.ref T) kV doc pm an cdv ct) ⟨us, ks.zip ws⟩ = seqItems? (.ref T) >>= k ∧ k (some its.toArray) = pure (ps.zip (g us its ws))) : KnCK P w K mg base k x C n ks (fun vs zs => g vs dvs zs) c := by
  obtain ⟨its, h1⟩ := F.kbindsD (n + 1) ks g hd hrel hb
  exact ⟨f, fd, ps, _, PySem.W.mg_of X G e.at_, ⟨e.makes, a, i, e.kp⟩, h1, ok⟩
theorem knK_of {dvs : List V} (n : Nat) (ks : List Str) (g : {α : Type} → List α → List α → List α → List α) (X : K.In h) (G : h.Ns mainGlobals mg) (a : PySem.W.nsIn K mainGlobals x = some (some (.ref f))) (F : FdD K x x st dvs f fd) (ok : FnOk P w K mg base CX0 k f fd ps (conSp c)) (hd : dvs ≠ [])
    (hrel : ∀ {vs ds zs : List V} {us its ws : List Value}, Vals vs us → Vals ds its → Vals zs ws → Vals (g vs ds zs) (g us its ws))
    (hb : ∀ (T : Addr) (kV doc pm : Value) (an : Option Addr) (cdv ct : Value) (us its ws : List Value), us.length = n → its.length = dvs.length → ws.length = ks.length →
      ∃ k, bindArgs (PySem.W.fnOf x x (defArgs st) (defBody st) (defScope st) (.ref T) kV doc pm an cdv ct) ⟨us, ks.zip ws⟩ = seqItems? (.ref T) >>= k ∧ k (some its.toArray) = pure (ps.zip (g us its ws))) : KnK P w K mg base k x n ks (fun vs zs => g vs dvs zs) c := by
  obtain ⟨its, h1⟩ := F.kbindsD n ks g hd hrel hb
  exact ⟨f, fd, ps, _, PySem.W.mg_of X G a, F.kp, h1, ok⟩
end
/-- the law's end -/
theorem walk_law {l : PySem.W.OpenLaw} {k : Nat} {q : Program} {loose : List Str} {XP : (Str → Option Value) → Heap → Prop} {YP : World → Heap → Prop} {d : DefRec} {K : Params → PySem.W.Frag} (hn : l.most = some 63) (hdf : d.params.defaults = []) (hr : Room k callerA)
    (hY : ∀ (w : World) (h : Heap), YP w h → (K w.params).In h)
    (F : ∀ (w : World) (mg : Str → Option Value) (fa : Addr) (h : Heap), (K w.params).In h → h.Ns mainGlobals mg → mg d.name = some (.ref fa) →
      ∃ fd : FuncData, (∀ (s : Shared) (u : Value), BindsTo s fd ⟨[u], []⟩ [("_law_script", u)]) ∧ ∀ base : Heap, (K w.params).In base → base.Ns mainGlobals mg → FnOk l.prog w (K w.params) mg base CX0 k fa fd ["_law_script"] (conSp (con_law (K w.params)))) :
    PySem.W.WalkO q loose XP YP l.row.toRowW d [] (fun f vs => PySem.call f vs) := by
  refine L2.walk_of (n := 63) (k := k) (x := "_law_script") (CX := fun _ => CX0) (sp := fun w => conSp (con_law (K w.params))) hn (by decide) hdf hr hY F (fun _ _ a ns hl _ hS => ?_) fun _ _ _ _ _ z => z
  exact law_start hS hl fun _ => rfl
end MM

namespace MM
open PySem L2 PyProof.Rows
structure TopB (K : PySem.W.Frag) : Prop where
  zR : PySem.W.nsIn K mainGlobals "range" = some none
  draws : DefE K "_law_draws" s_f_L_draws []
  next : DefE K "_law_next" s_f_L_next []
structure LawB (P : Program) (w : World) (K : PySem.W.Frag) (mg : Str → Option Value) (base : Heap) : Prop where
  draws : Kn P w K mg base 1 "_law_draws" [] con_L_draws
  next : Kn P w K mg base 1 "_law_next" [] con_L_next
section
variable {P : Program} {w : World} {K : PySem.W.Frag} {mg : Str → Option Value} {base h : Heap} {CS CC : Addr}
theorem lawB_of (X : K.In h) (G : h.Ns mainGlobals mg) (T : TopB K) : LawB P w K mg base := by
  obtain ⟨f0, d0, a0, F0⟩ := T.draws
  obtain ⟨f1, d1, a1, F1⟩ := T.next
  have Dr : Kn P w K mg base 1 "_law_draws" [] con_L_draws := kn_of X G a0 F0 (ok_L_draws F0 (PySem.W.mg_none_of X G T.zR)) fun _ _ _ _ _ _ us hl => match us, hl with | [_], _ => rfl
  have Nx : Kn P w K mg base 1 "_law_next" [] con_L_next := kn_of X G a1 F1 (ok_L_next F1) fun _ _ _ _ _ _ us hl => match us, hl with | [_], _ => rfl
  exact ⟨Dr, Nx⟩
end
end MM

namespace MM
open PySem L2 PyProof.Rows
/-! ### == by an own __eq__ that tells True -/
def KnE (P : Program) (w : World) (K : PySem.W.Frag) (mg : Str → Option Value) (base : Heap) (k : Nat) (C : Addr) (c : Con) : Prop :=
  ∃ (f : Addr) (fd : FuncData) (ps : List Str), PySem.W.findIn K (.ref C) "__eq__" = some (some (.ref f)) ∧ PySem.W.isFn K (.ref f) = true ∧ Binds K fd ps [] ∧ FnOk P w K mg base CX0 k f fd ps (conSp c)
/-- what the two stand for -/
def REq (c : Con) : Addr → Addr → Hp → Prop := fun a b H => ∃ (G : Hp) (i : c.I), Same G H ∧ c.pre i ∧ Reps (c.args i) [.ref a, .ref b] G
structure EqTrue (c : Con) : Prop where
  own : ∀ i, c.own i = []
  res : ∀ i x, c.res i x = RB true
theorem spEq_of {c : Con} (t : EqTrue c) : ∀ vs H Q E, spEq (REq c) vs H Q E → conSp c vs H Q E := by
  rintro vs H Q E ⟨a, b, rfl, ⟨G, i, s, hp, r⟩, q⟩
  refine ⟨G, i, s, hp, r, ?_, ?_, ?_, fun x v G' H' px tf rv => ?_⟩
  · rw [t.own]; exact fun q hq => (List.not_mem_nil hq).elim
  · rw [t.own]; exact fun q hq => (List.not_mem_nil hq).elim
  · rw [t.own]; exact List.nodup_nil
  · rw [t.res] at rv
    have rv : v = .bl true := rv
    subst rv
    refine q H' fun z u hz => tf.keep z u ?_ hz
    rw [t.own]
    exact List.not_mem_nil
section
variable {X : Cx} {E : En} {Γ : Gm} {M : Ow} {a b : Expr} {pos : Pos} {Φ : Rep → Ow → Prop} {k : Nat} {C : Addr} {c : Con}
theorem opw_eqC {ρ ρ' : Rep} {l l' : List (Str × Rep)} (i : c.I) (hp : c.pre i) (ha : c.args i = [RIns C l, RIns C l']) (s1 : MM.Sub ρ (RIns C l)) (s2 : MM.Sub ρ' (RIns C l')) (q0 : Φ (RB true) M) : OpW E Γ M (rEqG (DIns C (REq c))) ρ ρ' Φ := fun σ G H at_ x y hx hy Q q => by
  obtain ⟨b1, dx, fs, e1, h1, r1⟩ := s1 _ _ hx
  obtain ⟨b2, dy, gs, e2, h2, r2⟩ := s2 _ _ hy
  subst e1 e2
  refine ⟨⟨b1, b2, dx, dy, fs, gs, rfl, rfl, at_.gh _ _ h1, at_.gh _ _ h2, G, i, at_.gh, hp, ?_⟩, fun H' e => q (RB true) M _ G H' q0 (Same.refl _) (at_.new ⟨Same.refl _, at_.gh.trans e, e, fun _ _ h => h⟩) rfl⟩
  rw [ha]
  exact ⟨⟨b1, dx, fs, rfl, h1, r1⟩, ⟨b2, dy, gs, rfl, h2, r2⟩, trivial⟩
theorem we_eqC (F : KnE X.prog X.w X.K X.mg X.base k C c) (t : EqTrue c) (hr : Room k X.A) (hx : Passes CX0 X E0)
    (h : WE X E Γ M a fun ρa Ma => WE X E Γ Ma b fun ρb Mb => ∃ (i : c.I) (l l' : List (Str × Rep)), c.pre i ∧ c.args i = [RIns C l, RIns C l'] ∧ MM.Sub ρa (RIns C l) ∧ MM.Sub ρb (RIns C l') ∧ Φ (RB true) Mb) (hm : behindInMarks .Eq b = false := by exact nomark _) : WE X E Γ M (.Compare a [.Eq] [b] pos) Φ := by
  obtain ⟨f, fd, ps, hs, hf, hb, ok⟩ := F
  refine we_cmp (op_eqG (rcG_ins (ok.imp (spEq_of t)) hs hf hb hx) hr) hm ?_
  intro σ G H at_ Q q
  refine h σ G H at_ Q fun ρ M' v G' H' hh => q ρ M' v G' H' ?_
  intro σ2 G2 H2 at2 Q2 q2
  refine hh σ2 G2 H2 at2 Q2 fun ρ2 M2 v2 G3 H3 ⟨i, l, l', hp, ha, s1, s2, q0⟩ => q2 ρ2 M2 v2 G3 H3 (opw_eqC i hp ha s1 s2 q0)
end
end MM

namespace MM
open PySem L2 PyProof.Rows
/-! ### str(x) of an own instance; f-strings -/
/-- an own method of one argument, by its name -/
def KnO (P : Program) (w : World) (K : PySem.W.Frag) (mg : Str → Option Value) (base : Heap) (k : Nat) (C : Addr) (m : Str) (c : Con) : Prop :=
  ∃ (f : Addr) (fd : FuncData) (ps : List Str), PySem.W.findIn K (.ref C) m = some (some (.ref f)) ∧ PySem.W.isFn K (.ref f) = true ∧ Binds K fd ps [] ∧ FnOk P w K mg base CX0 k f fd ps (conSp c)
section
variable {X : Cx} {n : Nat} {C f a : Addr} {fd : FuncData} {ps : List Str} {sp : Sp}
/-- an own method of the instance at a, called below the running body -/
theorem run_own {A : Around} {pins : List (Addr × Obj)} {σ : L2.St} {H : Hp} {s : Shared} {Q : VK} (F : FnOk X.prog X.w X.K X.mg X.base CX0 n f fd ps sp) (hb : Binds X.K fd ps []) (hr : Room n A) (e0 : Env0 X.prog X.w X.K X.mg X.base A X.stack s H) (hx : Passes CX0 X E0) (I : Inv X pins σ H s) (h : sp [.ref a] H Q E0) :
    wpAny (model X.prog X.w) A (call (.ref f) [.ref a]) (EP X pins σ Q) X.xe s := by
  have hl := F.len _ _ _ _ h
  refine wpAny_call (codeAny_mono (F.run A X.stack s H ⟨[.ref a], []⟩ [.ref a] [.ref a] _ E0 hr e0 (by
    have := hb s [.ref a] I.kIn (by simpa using hl)
    simpa using this) (.cons rfl .nil) h) fun r s' hq => ?_)
  cases r with
  | error e => exact hx pins σ H s e s' I hq
  | ok fl =>
    cases fl with
    | ret w => exact I.after hq
    | next => exact False.elim hq
    | brk => exact False.elim hq
    | cont => exact False.elim hq
/-- what tells a text -/
def TxQ (Q : VK) : VK := fun v H' => ∃ t : Str, v = .str t ∧ Q v H'
theorem txBack {pins : List (Addr × Obj)} {σ : L2.St} {Q : VK} {v : Value} {s' : Shared} (h : EP X pins σ (TxQ Q) v s') : PySem.W.StrBack (EP X pins σ Q) v s' := by
  obtain ⟨z, H', I', rz, t, ez, qz⟩ := h
  subst ez
  obtain ⟨tk, e⟩ := (show ∃ tk, v = Value.str t tk from rz)
  cases e
  exact ⟨.str t, H', I', ⟨tk, rfl⟩, qz⟩
def rStrO (C : Addr) (sp : Sp) : List V → Hp → VK → Prop := fun xs H Q => ∃ (a dx : Addr) (fs : List (Str × V)), xs = [V.ref a] ∧ H a = some (.ins C dx fs) ∧ sp [.ref a] H (TxQ Q) E0
theorem call_strO (F : FnOk X.prog X.w X.K X.mg X.base CX0 n f fd ps sp) (hs : PySem.W.findIn X.K (.ref C) "__str__" = some (some (.ref f))) (hf : PySem.W.isFn X.K (.ref f) = true) (hb : Binds X.K fd ps []) (hx : Passes CX0 X E0) (hr : Room (n + 2) X.A) : CallR X (.type "str") (rStrO C sp) := by
  intro pins s σ H xs us Q I r h
  obtain ⟨a, dx, fs, rfl, ha, q⟩ := h
  obtain ⟨u, rfl, ru⟩ := r.one
  cases (show u = Value.ref a from ru)
  obtain ⟨mA, J, _⟩ := ins_get I.hok ha
  obtain ⟨od, J, _⟩ := J.look
  have hr2 : Room n X.A.in1.in1 := (show Room (n + 1) X.A.in1 from Room.in1 hr).in1
  exact PySem.W.kso_call hr2.units0 I.kIn J hs hf (wpAny_mono (run_own F hb hr2 I.env0.in1.in1 hx I q) (fun w s' z => txBack z) fun _ _ x => x)
end
section
variable {X : Cx} {E : En} {Γ : Gm} {M : Ow} {e : Expr} {pos p : Pos} {Φ : Rep → Ow → Prop} {k : Nat} {C : Addr} {c : Con}
theorem caw_own {sp : Sp} {ρ : Rep} (hsp : sp = conSp c) (s1 : ∃ l, MM.Sub ρ (RIns C l)) (ck : CallK c [ρ] M fun ρ' M' => (∃ t, MM.Sub ρ' (RS t)) ∧ Φ ρ' M') : CaW E Γ M (rStrO C sp) [ρ] Φ := fun σ G H a vs hv Q q => by
  subst hsp
  match vs, hv with
  | [v], ⟨hv, _⟩ =>
    obtain ⟨l, s1⟩ := s1
    obtain ⟨b, dx, fs, e1, h1, r1⟩ := s1 _ _ hv
    have cr := callK_run (EE := E0) (Q := TxQ Q) ck a (vs := [v]) ⟨hv, trivial⟩ fun ρ4 M4 v4 G5 H5 ⟨⟨t, st⟩, hφ⟩ s4 a4 r4 => ⟨t, st _ _ r4, q ρ4 M4 v4 G5 H5 hφ s4 a4 r4⟩
    subst e1
    exact ⟨b, dx, fs, rfl, a.gh _ _ h1, cr⟩
/-- str(x) -/
theorem we_strO (F : KnO X.prog X.w X.K X.mg X.base k C "__str__" c) (hr : Room (k + 2) X.A) (hg : Gl X "str") (hm : X.mg "str" = none) (hx : Passes CX0 X E0)
    (h : WE X E Γ M e fun ρ M1 => (∃ l, MM.Sub ρ (RIns C l)) ∧ CallK c [ρ] M1 fun ρ' M' => (∃ t, MM.Sub ρ' (RS t)) ∧ Φ ρ' M')
    (he : starEach [e] X.env = (false, eval e X.env) :: starEach [] X.env := by rfl) (hpl : (backTo pos (starEach [] X.env)).any (·.1) = false := by rfl) : WE X E Γ M (.Call (.Name "str" p) [e] [] pos) Φ := by
  obtain ⟨f, fd, ps, hs, hf, hb, ok⟩ := F
  refine we_callTy (call_strO ok hs hf hb hx hr) hg hm (by decide +kernel) (wa_cons ?_ he) (by decide) (by decide) he hpl
  intro σ G H at_ Q q
  exact h σ G H at_ Q fun ρ M' v G' H' ⟨s1, ck⟩ => q ρ M' v G' H' (wa_nil (caw_own rfl s1 ck))
/-- str(i) -/
theorem we_strI (hg : Gl X "str") (hm : X.mg "str" = none) (h : WE X E Γ M e fun ρ M1 => ∃ i : Int, MM.Sub ρ (RI i) ∧ i.natAbs.log2 < 1920 ∧ Φ (RS (Str.ofString (toString i))) M1)
    (he : starEach [e] X.env = (false, eval e X.env) :: starEach [] X.env := by rfl) (hpl : (backTo pos (starEach [] X.env)).any (·.1) = false := by rfl) : WE X E Γ M (.Call (.Name "str" p) [e] [] pos) Φ := by
  refine we_callTy call_str_int hg hm (by decide +kernel) (wa_cons ?_ he) (by decide) (by decide) he hpl
  intro σ G H at_ Q q
  refine h σ G H at_ Q fun ρ M' v G' H' ⟨i, sb, hl, hk⟩ => q ρ M' v G' H' (wa_nil fun σ2 G2 H2 a2 vs hv Q2 q2 => ?_)
  match vs, hv with
  | [x], ⟨hv, _⟩ =>
    have e1 : x = .int i := sb _ _ hv
    subst e1
    exact ⟨i, rfl, hl, q2 _ _ _ _ _ hk (Same.refl _) a2 rfl⟩
/-- {i} in an f-string -/
theorem we_fmtI (h : WE X E Γ M e fun ρ M1 => ∃ i : Int, MM.Sub ρ (RI i) ∧ i.natAbs.log2 < 1920 ∧ Φ (RS (Str.ofString (toString i))) M1) : WE X E Γ M (.FormattedValue e (-1) none pos) Φ :=
  we_of (pe_fmt pe_w) fun σ G H a Q q => h σ G H a _ fun ρ M1 v G1 H1 ⟨i, sb, hl, hk⟩ s1 a1 r1 => .inr ⟨i, sb _ _ r1, hl, q _ M1 _ G1 H1 hk s1 a1 rfl⟩
/-- the parts of an f-string -/
def WJ (X : Cx) (E : En) (Γ : Gm) : Ow → List Expr → Str → (Str → Ow → Prop) → Prop
  | M, [], acc, Φ => Φ acc M
  | M, e :: es, acc, Φ => WE X E Γ M e fun ρ M' => ∃ y : Str, MM.Sub ρ (RS y) ∧ (acc ++ y).length ≤ sizeLine ∧ WJ X E Γ M' es (acc ++ y) Φ
theorem pj_w : ∀ es : List Expr, PJ X es (es.map (tW X))
  | [] => .nil
  | _ :: es => .cons pe_w (pj_w es)
theorem wj_run : ∀ (es : List Expr) (acc : Str) (M : Ow) (Ξ : Str → Ow → Prop), WJ X E Γ M es acc Ξ → ∀ σ G H, At E Γ M σ G H → ∀ Q : Str → Hp → Prop, (∀ out M' G' H', Ξ out M' → Same G G' → At E Γ M' σ G' H' → Q out H') → tJs (es.map (tW X)) acc σ H Q
  | [], acc, M, Ξ, h, σ, G, H, a, Q, q => q acc M G H h (Same.refl _) a
  | e :: es, acc, M, Ξ, h, σ, G, H, a, Q, q => h σ G H a _ fun ρ M1 v G1 H1 ⟨y, sb, hl, hk⟩ s1 a1 r1 => ⟨y, sb _ _ r1, hl, wj_run es (acc ++ y) M1 Ξ hk σ G1 H1 a1 Q fun out M2 G2 H2 h2 s2 a2 => q out M2 G2 H2 h2 (s1.trans s2) a2⟩
/-- f'..' -/
theorem we_joined {v1 v2 : Expr} {rest : List Expr} (h : WJ X E Γ M (v1 :: v2 :: rest) Str.empty fun out M' => Φ (RS out) M') : WE X E Γ M (.JoinedStr (v1 :: v2 :: rest) pos) Φ :=
  we_of (pe_joined (pj_w _)) fun σ G H a Q q => wj_run _ _ _ _ h σ G H a _ fun out M' G' H' hk s1 a1 => q _ M' _ G' H' hk s1 a1 rfl
end
end MM

namespace MM
open PySem L2 PyProof.Rows
/-! ### methods of texts; truths as texts -/
def boT (b : Bool) : Str := if b then "True" else "False"
section
variable {X : Cx}
theorem call_str_bl : CallR X (.type "str") (fun xs H Q => ∃ b, xs = [.bl b] ∧ Q (.str (boT b)) H) := by
  intro pins s σ H xs us Q I r h
  obtain ⟨b, rfl, q⟩ := h
  obtain ⟨u, rfl, ru⟩ := r.one
  cases (show u = Value.bool b from ru)
  exact PySem.P.str_of_bool ⟨.str (boT b), H, I.tok _, ⟨_, rfl⟩, q⟩
theorem pe_fmtBl {e : Expr} {te : TE} {pos : Pos} (he : PE X e te) : PE X (.FormattedValue e (-1) none pos) (fun σ H Q => te σ H fun x H1 => ∃ b, x = .bl b ∧ Q (.str (boT b)) H1) := by
  refine ⟨fun pins s σ H Q I h => wpAny_FormattedValue_plain (thn (he.run pins s σ H _ I h) fun v s1 hv => ?_)⟩
  obtain ⟨x, H1, I1, r1, b, rfl, q⟩ := hv
  cases (show v = Value.bool b from r1)
  exact wpAny_formatField_bool ⟨.str (boT b), H1, I1.tok _, ⟨_, rfl⟩, q⟩
end
theorem rvals_strs {G : Hp} : ∀ {ys : List Str} {vs : List V}, Reps (ys.map RS) vs G → vs = ys.map V.str
  | [], [], _ => rfl
  | [], _ :: _, h => h.elim
  | _ :: _, [], h => h.elim
  | y :: ys, v :: vs, ⟨h1, h2⟩ => by
    have h1 : v = .str y := h1
    rw [h1, rvals_strs h2]
    rfl
section
variable {X : Cx} {E : En} {Γ : Gm} {M : Ow} {e : Expr} {pos p : Pos} {Φ : Rep → Ow → Prop}
/-- str(b) -/
theorem we_strB (hg : Gl X "str") (hm : X.mg "str" = none) (h : WE X E Γ M e fun ρ M1 => ∃ b : Bool, MM.Sub ρ (RB b) ∧ Φ (RS (boT b)) M1)
    (he : starEach [e] X.env = (false, eval e X.env) :: starEach [] X.env := by rfl) (hpl : (backTo pos (starEach [] X.env)).any (·.1) = false := by rfl) : WE X E Γ M (.Call (.Name "str" p) [e] [] pos) Φ := by
  refine we_callTy call_str_bl hg hm (by decide +kernel) (wa_cons ?_ he) (by decide) (by decide) he hpl
  intro σ G H at_ Q q
  refine h σ G H at_ Q fun ρ M' v G' H' ⟨b, sb, hk⟩ => q ρ M' v G' H' (wa_nil fun σ2 G2 H2 a2 vs hv Q2 q2 => ?_)
  match vs, hv with
  | [x], ⟨hv, _⟩ => exact ⟨b, by rw [show x = .bl b from sb _ _ hv], q2 _ _ _ _ _ hk (Same.refl _) a2 rfl⟩
/-- {b} in an f-string -/
theorem we_fmtB (h : WE X E Γ M e fun ρ M1 => ∃ b : Bool, MM.Sub ρ (RB b) ∧ Φ (RS (boT b)) M1) : WE X E Γ M (.FormattedValue e (-1) none pos) Φ :=
  we_of (pe_fmtBl pe_w) fun σ G H a Q q => h σ G H a _ fun ρ M1 v G1 H1 ⟨b, sb, hk⟩ s1 a1 r1 => ⟨b, sb _ _ r1, q _ M1 _ G1 H1 hk s1 a1 rfl⟩
/-- {text} in an f-string -/
theorem we_fmtS (h : WE X E Γ M e fun ρ M1 => ∃ y : Str, MM.Sub ρ (RS y) ∧ y.length ≤ sizeLine ∧ Φ (RS y) M1) : WE X E Γ M (.FormattedValue e (-1) none pos) Φ :=
  we_of (pe_fmt pe_w) fun σ G H a Q q => h σ G H a _ fun ρ M1 v G1 H1 ⟨y, sb, hl, hk⟩ s1 a1 r1 => .inl ⟨y, sb _ _ r1, hl, q _ M1 _ G1 H1 hk s1 a1 rfl⟩
theorem mtw_zfill {a : Str} {i : Int} (hp : PadOk i = true) (k : Φ (RS (Txt.zfill a i)) M) : MtW E Γ M (fun x xs H Q => ∃ (a : Str) (i : Int), x = .str a ∧ xs = [.int i] ∧ PadOk i = true ∧ Q (.str (Txt.zfill a i)) H) (RS a) [RI i] Φ := fun σ G H at_ x vs hx hv Q q => by
  match vs, hv with
  | [v], ⟨hv, _⟩ => exact ⟨a, i, hx, by rw [show v = .int i from hv], hp, q _ _ _ _ _ k (Same.refl _) at_ rfl⟩
theorem mtw_join {K : PySem.W.Frag} {a : Str} {ys : List Str} (hl : (ys.map (·.length)).sum + ys.length * a.length ≤ 16777216) (k : Φ (RS (Txt.join a ys)) M) : MtW E Γ M (fun x xs H Q => ∃ a p, ∃ ys : List Str, x = .str a ∧ xs = [.ref p] ∧ (SqL K H p (ys.map V.str) ∨ SqT K H p (ys.map V.str)) ∧ (ys.map (·.length)).sum + ys.length * a.length ≤ 16777216 ∧ Q (.str (Txt.join a ys)) H) (RS a) [RLt (ys.map RS)] Φ := fun σ G H at_ x vs hx hv Q q => by
  match vs, hv with
  | [v], ⟨⟨p, zs, e1, h1, r1⟩, _⟩ =>
    subst e1
    rw [rvals_strs r1] at h1
    exact ⟨a, p, ys, hx, rfl, .inl (SqL.of (at_.gh _ _ h1)), hl, q _ _ _ _ _ k (Same.refl _) at_ rfl⟩
/-- text.zfill(i) -/
theorem we_zfill {o : Expr} {apos : Pos} (h : WE X E Γ M o fun ρ M1 => ∃ a : Str, ρ = RS a ∧ WE X E Γ M1 e fun ρi M2 => ∃ i : Int, ρi = RI i ∧ PadOk i = true ∧ Φ (RS (Txt.zfill a i)) M2)
    (hbase : attributeBase o "zfill" X.env (eval o X.env) = eval o X.env := by rfl)
    (hfew : ((backTo pos (starEach [e] X.env)).all (fun x => !x.1) && (backToKw pos (keywordEach [] X.env)).all (fun x => x.1.isSome)
      && decide ([e].length + ([] : List Keyword).length + (if ([] : List Keyword).isEmpty then 0 else 1) < 30)) = true := by rfl)
    (hline : (apos.endLine == pos.line) = true := by rfl) (hs : starEach [e] X.env = (false, eval e X.env) :: starEach [] X.env := by rfl) (hplain : (backTo pos (starEach [] X.env)).any (·.1) = false := by rfl) :
    WE X E Γ M (.Call (.Attribute o "zfill" apos) [e] [] pos) Φ := by
  refine we_bm PySem.F.plainAttrs_str PySem.F.slot_str_zfill PySem.F.type_str_zfill mt_zfill ?_ hbase hfew hline hs hplain
  intro σ G H at_ Q q
  refine h σ G H at_ Q fun ρ M' v G' H' ⟨a, ea, hh⟩ => q ρ M' v G' H' ?_
  subst ea
  refine ⟨tyw_str, wa_cons ?_ hs⟩
  intro σ2 G2 H2 at2 Q2 q2
  refine hh σ2 G2 H2 at2 Q2 fun ρ2 M2 v2 G3 H3 ⟨i, ei, hp, hk⟩ => q2 ρ2 M2 v2 G3 H3 ?_
  subst ei
  exact wa_nil (mtw_zfill hp hk)
end
theorem join0 : ∀ ys : List Str, Txt.join Str.empty ys = ys.foldr (· ++ ·) Str.empty := fun ys => by
  rw [TL.join_eq]
  induction ys with
  | nil => rfl
  | cons y ys ih =>
    cases ys with
    | nil => exact (Str.append_empty y).symm
    | cons z r =>
      show y ++ Str.empty ++ Str.join Str.empty (z :: r) = y ++ _
      rw [Str.append_empty, ih]
end MM

namespace MM
open PySem L2 PyProof.Rows
/-! ### repr(x) of an own instance -/
section
open PySem.W
variable {prog : Program} {w : World} {A : Around} {E : Value → Shared → Prop} {s : Shared} {K : PySem.W.Frag} {x C f : Addr} {ox : Obj} {od : Option Obj}
theorem repr_own {Q : Value → Shared → Prop} (hu : A.in1.units < cLine) (X : K.In s.heap) (I : InstAt s.heap x ox C od) (hs : findIn K (.ref C) "__repr__" = some (some (.ref f))) (hf : isFn K (.ref f) = true)
    (h : wpAny (model prog w) A.in1 (call (.ref f) [.ref x]) (StrBack Q) E s) : wpAny (model prog w) A (call (.builtin "repr") [.ref x]) Q E s := by
  have last : wpAny (model prog w) A.in1 (callSpecialIfBound? (.ref x) (Str.ofString "__repr__") []) (fun r s' => ∃ y t, r = some (.str y t) ∧ Q (.str y t) s') E s := ifBound_K X I hs hf (wpAny_mono h (fun r s' hr => by cases r <;> first | exact hr.elim | exact ⟨_, _, rfl, hr⟩) fun _ _ z => z)
  refine Calls.call_function_entry PySem.F.kind_repr PySem.F.plain_repr PySem.F.entry_repr (PySem.F.args_repr1 _) ?_
  unfold Builtin.«repr»
  refine wpAny_bind (m := oneArg "repr" _) (wpAny_pure ?_)
  refine wpAny_bind (m := cRoomFor _ _) (wpAny_cRoomFor hu ?_)
  refine wpAny_bind (m := specialOf (.ref x) (Str.ofString "__repr__")) (wpAny_bind (I.type.here ((looks_findIn X hs).here ?_)))
  refine wpAny_bind (m := callSpecialIfBound? (.ref x) (Str.ofString "__repr__") []) (wpAny_mono last (fun r s' ⟨y, t, er, q⟩ => ?_) fun _ _ z => z)
  subst er
  refine wpAny_bind (wpAny_isInstance (T := "str") (b := true) (typeIs_str _ _ _) isSubtype_str_str ?_)
  exact wpAny_pure ⟨_, rfl, q⟩
end
section
variable {X : Cx} {n : Nat} {C f a : Addr} {fd : FuncData} {ps : List Str} {sp : Sp}
theorem call_reprO (F : FnOk X.prog X.w X.K X.mg X.base CX0 n f fd ps sp) (hs : PySem.W.findIn X.K (.ref C) "__repr__" = some (some (.ref f))) (hf : PySem.W.isFn X.K (.ref f) = true) (hb : Binds X.K fd ps []) (hx : Passes CX0 X E0) (hr : Room (n + 1) X.A) : CallR X (.builtin "repr") (rStrO C sp) := by
  intro pins s σ H xs us Q I r h
  obtain ⟨a, dx, fs, rfl, ha, q⟩ := h
  obtain ⟨u, rfl, ru⟩ := r.one
  cases (show u = Value.ref a from ru)
  obtain ⟨mA, J, _⟩ := ins_get I.hok ha
  obtain ⟨od, J, _⟩ := J.look
  have hr1 : Room n X.A.in1 := Room.in1 hr
  exact repr_own hr1.units0 I.kIn J hs hf (wpAny_mono (run_own F hb hr1 I.env0.in1 hx I q) (fun w s' z => txBack z) fun _ _ x => x)
end
section
variable {X : Cx} {E : En} {Γ : Gm} {M : Ow} {e : Expr} {pos p : Pos} {Φ : Rep → Ow → Prop} {k : Nat} {C : Addr} {c : Con}
/-- repr(x) -/
theorem we_reprO (F : KnO X.prog X.w X.K X.mg X.base k C "__repr__" c) (hr : Room (k + 1) X.A) (hg : Gl X "repr") (hm : X.mg "repr" = none) (hx : Passes CX0 X E0)
    (h : WE X E Γ M e fun ρ M1 => (∃ l, MM.Sub ρ (RIns C l)) ∧ CallK c [ρ] M1 fun ρ' M' => (∃ t, MM.Sub ρ' (RS t)) ∧ Φ ρ' M')
    (he : starEach [e] X.env = (false, eval e X.env) :: starEach [] X.env := by rfl) (hpl : (backTo pos (starEach [] X.env)).any (·.1) = false := by rfl) : WE X E Γ M (.Call (.Name "repr" p) [e] [] pos) Φ := by
  obtain ⟨f, fd, ps, hs, hf, hb, ok⟩ := F
  refine we_callB (call_reprO ok hs hf hb hx hr) hg hm (by decide +kernel) (wa_cons ?_ he) (by decide) (by decide) he hpl
  intro σ G H at_ Q q
  exact h σ G H at_ Q fun ρ M' v G' H' ⟨s1, ck⟩ => q ρ M' v G' H' (wa_nil (caw_own rfl s1 ck))
end
/-! ### texts that may be laid -/
theorem strOk_of {s : String} : PyData.strOk (Str.ofString s) = true := by
  rw [Str.ofString_eq_toList]
  unfold PyData.strOk
  rw [Array.all_eq_true_iff_forall_mem]
  intro c hc
  have hc : c ∈ s.toList.map Char.toNat := by simpa using hc
  obtain ⟨d, _, rfl⟩ := List.mem_map.mp hc
  have hv : d.val.toNat < 1114112 := by
    rcases d.valid with h | ⟨_, h⟩ <;> omega
  show decide (d.toNat < 0x110000) = true
  exact decide_eq_true hv
theorem strOk_app {a b : Str} (h1 : PyData.strOk a = true) (h2 : PyData.strOk b = true) : PyData.strOk (a ++ b) = true := by
  unfold PyData.strOk at *
  rw [Str.cps_append, Array.all_append, h1, h2]
  rfl
theorem shaped_so {s : Str} (h : PyData.strOk s = true) : SeqAt.shaped (.str s) = true := by
  simp [SeqAt.shaped, PyData.canLay0, PyData.depth, h]
end MM

namespace MM
open PySem L2 PyProof.Rows PySem.Spec PySem.Calls
section
variable {X : Cx} {E : En} {Γ : Gm} {M : Ow} {Ψ : Ed} {body : List Stmt} {h0 : ExceptHandler} {hs : List ExceptHandler} {pos : Pos}
/-- a try whose body raises nothing -/
theorem ws_try0 (h : WSs X.nox E Γ M body Ψ) : WS X E Γ M (.Try body (h0 :: hs) [] [] pos) Ψ := ws_of (ps_try_thru0 pss_w) h
end
theorem neg_abs {i : Int} (h : i < 0) : -(i.natAbs : Int) = i := by omega
theorem pos_abs {i : Int} (h : ¬ i < 0) : (i.natAbs : Int) = i := by omega
/-! ### figures -/
def sgn (d : Nat) : Nat := if d < 10 then 48 + d else 87 + d
def dv (b n : Nat) : List Nat := if h : n < b ∨ b < 2 then [n] else dv b (n / b) ++ [n % b]
termination_by n
decreasing_by exact Nat.div_lt_self (by omega) (by omega)
theorem dv_lo {b n : Nat} (h : n < b) : dv b n = [n] := by
  rw [dv, dif_pos (.inl h)]
theorem dv_hi {b n : Nat} (hb : 2 ≤ b) (h : b ≤ n) : dv b n = dv b (n / b) ++ [n % b] := by
  rw [dv, dif_neg (by omega)]
theorem dv_all {b : Nat} (hb : 2 ≤ b) (n : Nat) : (∀ d ∈ dv b n, d < b) ∧ (dv b n).foldl (fun a d => a * b + d) 0 = n ∧ dv b n ≠ [] ∧ (1 ≤ n → ∃ d l, dv b n = d :: l ∧ 1 ≤ d) := by
  induction n using Nat.strongRecOn with
  | _ n ih =>
    rcases Nat.lt_or_ge n b with h | h
    · rw [dv_lo h]
      refine ⟨fun d hd => ?_, by simp, by simp, fun h1 => ⟨n, [], rfl, h1⟩⟩
      rw [List.mem_singleton.mp hd]
      exact h
    · rw [dv_hi hb h]
      have hlt : n / b < n := Nat.div_lt_self (by omega) (by omega)
      have h1 : 1 ≤ n / b := (Nat.one_le_div_iff (by omega)).mpr h
      obtain ⟨a1, a2, a3, a4⟩ := ih (n / b) hlt
      refine ⟨fun d hd => ?_, ?_, by simp, fun _ => ?_⟩
      · rcases List.mem_append.mp hd with q | q
        · exact a1 d q
        · rw [List.mem_singleton.mp q]
          exact Nat.mod_lt _ (by omega)
      · rw [List.foldl_append, a2]
        show n / b * b + n % b = n
        have := Nat.div_add_mod n b
        rw [Nat.mul_comm] at this
        exact this
      · obtain ⟨d, l, e, hd⟩ := a4 h1
        exact ⟨d, l ++ [n % b], by rw [e]; rfl, hd⟩
theorem dv_len {b : Nat} (hb : 2 ≤ b) : ∀ {k n : Nat}, n < 2 ^ k → (dv b n).length ≤ k + 1 := by
  intro k
  induction k with
  | zero =>
    intro n h
    have : n < b := by
      have h : n < 1 := h
      omega
    rw [dv_lo this]
    exact Nat.le_refl _
  | succ k ih =>
    intro n h
    rcases Nat.lt_or_ge n b with q | q
    · rw [dv_lo q]
      show 1 ≤ _
      omega
    · rw [dv_hi hb q, List.length_append]
      have h2 : n / b ≤ n / 2 := Nat.div_le_div_left hb (by decide)
      have h3 : n / 2 < 2 ^ k := by
        rw [Nat.pow_succ] at h
        omega
      have := ih (n := n / b) (by omega)
      show _ + 1 ≤ _
      omega
/-- the figures' signs -/
def dg (b n : Nat) : List Nat := (dv b n).map sgn
theorem dg_lo {b n : Nat} (h : n < b) : dg b n = [sgn n] := by unfold dg; rw [dv_lo h]; rfl
theorem dg_hi {b n : Nat} (hb : 2 ≤ b) (h : b ≤ n) : dg b n = dg b (n / b) ++ [sgn (n % b)] := by
  unfold dg
  rw [dv_hi hb h, List.map_append]
  rfl
theorem sgn_in : ∀ d, d < 16 → ((48 ≤ sgn d ∧ sgn d ≤ 57) ∨ (97 ≤ sgn d ∧ sgn d ≤ 102)) ∧ NumText.digit? (sgn d) = some d := by decide
theorem sgn_0 : ∀ d, d < 16 → sgn d = 48 → d = 0 := by decide
def Plain (c : Nat) : Prop := (48 ≤ c ∧ c ≤ 57) ∨ (97 ≤ c ∧ c ≤ 102)
theorem dg_plain {b n : Nat} (hb : 2 ≤ b) (h16 : b ≤ 16) : ∀ c ∈ dg b n, Plain c := by
  intro c hc
  obtain ⟨d, hd, rfl⟩ := List.mem_map.mp hc
  have := (dv_all hb n).1 d hd
  exact (sgn_in d (by omega)).1
theorem drop_no {p : Nat → Bool} {l : List Nat} (h : ∀ c ∈ l, p c = false) : l.dropWhile p = l := by
  cases l with
  | nil => rfl
  | cons c l => rw [List.dropWhile_cons, h c List.mem_cons_self]; rfl
theorem take_all {p : Nat → Bool} {l : List Nat} (h : ∀ c ∈ l, p c = true) : l.takeWhile p = l := by
  induction l with
  | nil => rfl
  | cons c l ih =>
    rw [List.takeWhile_cons, h c List.mem_cons_self]
    show c :: List.takeWhile p l = _
    rw [ih fun d hd => h d (List.mem_cons_of_mem _ hd)]
theorem blank_no {c : Nat} (h : Plain c ∨ c = 45) : NumText.blank c = false := by
  unfold Plain at h
  unfold NumText.blank
  have h1 : (c == 32) = false := beq_eq_false_iff_ne.mpr (by omega)
  have h2 : (decide (9 ≤ c) && decide (c ≤ 13)) = false := by
    rw [Bool.and_eq_false_iff]
    rcases Nat.lt_or_ge 13 c with q | q
    · exact .inr (decide_eq_false (by omega))
    · exfalso
      omega
  rw [h1, h2]
  rfl
theorem step_fig {b d : Nat} {ds : Array Nat} {k : Bool} (hd : d < b) (h16 : b ≤ 16) : NumText.step b (ds, k) (sgn d) = some (ds.push d, true) := by
  have hs := sgn_in d (by omega)
  unfold NumText.step
  rw [if_neg (by rw [beq_iff_eq]; have := hs.1; omega), hs.2]
  exact if_pos hd
theorem fold_fig {b : Nat} (h16 : b ≤ 16) : ∀ (l : List Nat) (ds : Array Nat) (k : Bool), (∀ d ∈ l, d < b) → (l.map sgn).foldlM (NumText.step b) (ds, k) = some (l.foldl (fun a d => a.push d) ds, if l = [] then k else true)
  | [], _, _, _ => rfl
  | d :: l, ds, k, h => by
    rw [List.map_cons, List.foldlM_cons, step_fig (h d List.mem_cons_self) h16]
    show (l.map sgn).foldlM (NumText.step b) (ds.push d, true) = _
    rw [fold_fig h16 l (ds.push d) true fun e he => h e (List.mem_cons_of_mem _ he)]
    simp
theorem push_fold {b : Nat} : ∀ (l : List Nat) (ds : Array Nat), (l.foldl (fun a d => a.push d) ds).foldl (fun acc d => acc * b + d) 0 = l.foldl (fun a d => a * b + d) (ds.foldl (fun acc d => acc * b + d) 0)
  | [], _ => rfl
  | d :: l, ds => by
    rw [List.foldl_cons, push_fold l (ds.push d), List.foldl_cons]
    congr 1
    simp
theorem push_size : ∀ (l : List Nat) (ds : Array Nat), (l.foldl (fun a d => a.push d) ds).size = ds.size + l.length
  | [], _ => rfl
  | d :: l, ds => by
    rw [List.foldl_cons, push_size l (ds.push d), Array.size_push, List.length_cons]
    omega
theorem based_fig {b n : Nat} (hb : 2 ≤ b) (h16 : b ≤ 16) : NumText.based b (dg b n) = (b, false, dg b n) := by
  have pn : NumText.prefix? (dg b n) = none := by
    rcases Nat.lt_or_ge n b with q | q
    · rw [dg_lo q]
      generalize sgn n = c
      unfold NumText.prefix?
      split
      · rename_i e
        cases e
      · rfl
    · obtain ⟨d, l, e, hd⟩ := (dv_all hb n).2.2.2 (by omega)
      have dl := (dv_all hb n).1 d (by rw [e]; exact List.mem_cons_self)
      have eg : dg b n = sgn d :: l.map sgn := by
        unfold dg
        rw [e]
        rfl
      rw [eg]
      unfold NumText.prefix?
      split
      · rename_i e2
        have := sgn_0 d (by omega) (List.cons.inj e2).1
        omega
      · rfl
  unfold NumText.based
  rw [pn]
  have hb0 : (b == 0) = false := beq_eq_false_iff_ne.mpr (by omega)
  show (if (b == 0) = true then _ else (b, false, dg b n)) = _
  rw [hb0]
  rfl
/-- a number's text -/
def figL (b : Nat) (i : Int) : List Nat := (if i < 0 then [45] else []) ++ dg b i.natAbs
theorem figL_plain {b : Nat} {i : Int} (hb : 2 ≤ b) (h16 : b ≤ 16) : ∀ c ∈ figL b i, Plain c ∨ c = 45 := by
  intro c hc
  rcases List.mem_append.mp hc with q | q
  · split at q
    · exact .inr (List.mem_singleton.mp q)
    · cases q
  · exact .inl (dg_plain hb h16 c q)
theorem read_fig {b : Nat} {i : Int} (hb : 2 ≤ b) (h16 : b ≤ 16) (hs : i.natAbs < 2 ^ 5000) : (int_private% "readNumeral") 0 b (figL b i) = (int_private% "Numeral.value") i := by
  obtain ⟨a1, a2, a3, a4⟩ := dv_all hb i.natAbs
  have sg : NumText.sign (figL b i) = (decide (i < 0), dg b i.natAbs) := by
    unfold figL
    by_cases hi : i < 0
    · rw [if_pos hi, decide_eq_true hi]
      rfl
    · rw [if_neg hi, decide_eq_false hi, List.nil_append]
      cases e : dg b i.natAbs with
      | nil =>
        exfalso
        unfold dg at e
        exact a3 (List.map_eq_nil_iff.mp e)
      | cons c l =>
        have hp := dg_plain (n := i.natAbs) hb h16 c (by rw [e]; exact List.mem_cons_self)
        unfold Plain at hp
        unfold NumText.sign
        split
        · rename_i e2
          have := (List.cons.inj e2).1
          omega
        · rename_i e2
          have := (List.cons.inj e2).1
          omega
        · rfl
  have db : (figL b i).dropWhile NumText.blank = figL b i := drop_no fun c hc => blank_no (figL_plain hb h16 c hc)
  have dr : (dg b i.natAbs).reverse.dropWhile NumText.blank = (dg b i.natAbs).reverse := drop_no fun c hc => blank_no (.inl (dg_plain hb h16 c (List.mem_reverse.mp hc)))
  refine (NumText.readNumeral_eq 0 b (figL b i)).trans ?_
  rw [db, sg]
  show NumText.judge 0 (decide (i < 0)) (NumText.based b (dg b i.natAbs)).1 (NumText.based b (dg b i.natAbs)).2.1 (NumText.digits? (NumText.based b (dg b i.natAbs)).1 (((NumText.based b (dg b i.natAbs)).2.2.reverse.dropWhile NumText.blank).reverse)) = _
  rw [based_fig hb h16]
  show NumText.judge 0 (decide (i < 0)) b false (NumText.digits? b (((dg b i.natAbs).reverse.dropWhile NumText.blank).reverse)) = _
  rw [dr, List.reverse_reverse]
  have dd : NumText.digits? b (dg b i.natAbs) = some ((dv b i.natAbs).foldl (fun a d => a.push d) #[]) := by
    unfold NumText.digits? dg
    rw [fold_fig h16 (dv b i.natAbs) #[] false a1, if_neg a3]
    rfl
  rw [dd]
  have sz : ((dv b i.natAbs).foldl (fun a d => a.push d) (#[] : Array Nat)).size ≤ 6000 := by
    rw [push_size]
    have := dv_len hb hs
    show 0 + _ ≤ 6000
    omega
  have val : ((dv b i.natAbs).foldl (fun a d => a.push d) (#[] : Array Nat)).foldl (fun acc d => acc * b + d) 0 = i.natAbs := by
    rw [push_fold]
    have z : (#[] : Array Nat).foldl (fun acc d => acc * b + d) 0 = 0 := by first | rfl | simp
    rw [z, a2]
  unfold NumText.judge
  have c1 : (![2, 4, 8, 16, 32].contains b && (0 : Nat) != 0 && decide (((dv b i.natAbs).foldl (fun a d => a.push d) (#[] : Array Nat)).size > 0)) = false := by
    have : ((0 : Nat) != 0) = false := rfl
    rw [this, Bool.and_false, Bool.false_and]
  have c2 : (b == 10 && decide (((dv b i.natAbs).foldl (fun a d => a.push d) (#[] : Array Nat)).size > 6000)) = false := by
    rw [decide_eq_false (by omega), Bool.and_false]
  simp only [c1, c2, val, Bool.false_and]
  show (int_private% "Numeral.value") (if decide (i < 0) = true then -(i.natAbs : Int) else (i.natAbs : Int)) = _
  by_cases hi : i < 0
  · have e := neg_abs hi
    rw [decide_eq_true hi, if_pos rfl, e]
  · have e := pos_abs hi
    rw [decide_eq_false hi, if_neg (by decide), e]
def figS (b : Nat) (i : Int) : Str := ⟨(figL b i).toArray⟩
theorem figS_len {b : Nat} {i : Int} (hb : 2 ≤ b) {k : Nat} (hs : i.natAbs < 2 ^ k) : (figS b i).length ≤ k + 2 := by
  show (figL b i).toArray.size ≤ _
  rw [List.size_toArray]
  unfold figL
  rw [List.length_append]
  have h := dv_len hb hs
  have e : (dg b i.natAbs).length = (dv b i.natAbs).length := by simp [dg]
  rw [e]
  split
  · show 1 + _ ≤ _
    omega
  · show 0 + _ ≤ _
    omega
theorem seen_fig {b : Nat} {i : Int} (hb : 2 ≤ b) (h16 : b ≤ 16) : numTextOf (figS b i) = figL b i ∧ numSeenOf (figS b i) = figL b i := by
  have e0 : (figS b i).cps.toList = figL b i := rfl
  have e1 : numTextOf (figS b i) = figL b i := by
    refine (if_pos ?_).trans e0
    rw [← Array.all_toList, e0, List.all_eq_true]
    intro c hc
    have := figL_plain hb h16 c hc
    unfold Plain at this
    exact decide_eq_true (by omega)
  refine ⟨e1, ?_⟩
  show (numTextOf (figS b i)).takeWhile _ = _
  rw [e1]
  refine take_all fun c hc => ?_
  have := figL_plain hb h16 c hc
  unfold Plain at this
  exact bne_iff_ne.mpr (by omega)
end MM

namespace MM
open PySem L2 PyProof.Rows
/-! ### least common multiples, days common to wheels -/
def lcmL : List Nat → Nat
  | [] => 1
  | x :: l => Nat.lcm x (lcmL l)
theorem lcmL_app : ∀ l m : List Nat, lcmL (l ++ m) = Nat.lcm (lcmL l) (lcmL m)
  | [], m => (Nat.lcm_one_left _).symm
  | x :: l, m => by
    show Nat.lcm x (lcmL (l ++ m)) = Nat.lcm (Nat.lcm x (lcmL l)) (lcmL m)
    rw [lcmL_app l m, Nat.lcm_assoc]
theorem lcmL_one (x : Nat) : lcmL [x] = x := Nat.lcm_one_right x
theorem lcmL_dvd : ∀ {l : List Nat} {m : Nat}, (∀ x ∈ l, x ∣ m) → lcmL l ∣ m
  | [], _, _ => Nat.one_dvd _
  | x :: l, m, h => Nat.lcm_dvd (h x List.mem_cons_self) (lcmL_dvd fun y hy => h y (List.mem_cons_of_mem _ hy))
theorem dvd_lcmL : ∀ {l : List Nat} {x : Nat}, x ∈ l → x ∣ lcmL l
  | y :: l, x, h => by
    rcases List.mem_cons.mp h with e | e
    · subst e
      exact Nat.dvd_lcm_left _ _
    · exact Nat.dvd_trans (dvd_lcmL e) (Nat.dvd_lcm_right _ _)
theorem lcmL_pos : ∀ {l : List Nat}, (∀ x ∈ l, 0 < x) → 0 < lcmL l
  | [], _ => Nat.one_pos
  | x :: l, h => Nat.lcm_pos (h x List.mem_cons_self) (lcmL_pos fun y hy => h y (List.mem_cons_of_mem _ hy))
theorem lcmL_le {N : Nat} : ∀ {l : List Nat}, (∀ x ∈ l, 0 < x ∧ x ≤ N) → lcmL l ≤ N ^ l.length
  | [], _ => Nat.le_refl _
  | x :: l, h => by
    have h1 := h x List.mem_cons_self
    have ih := lcmL_le (N := N) (l := l) fun y hy => h y (List.mem_cons_of_mem _ hy)
    have p := lcmL_pos (l := l) fun y hy => (h y (List.mem_cons_of_mem _ hy)).1
    refine Nat.le_trans (Nat.lcm_le_mul h1.1 p) ?_
    rw [List.length_cons, Nat.pow_succ, Nat.mul_comm]
    exact Nat.mul_le_mul ih h1.2
theorem gcd_lcm_dvd {a b n : Nat} : Nat.gcd (Nat.lcm a b) n ∣ Nat.lcm (Nat.gcd a n) (Nat.gcd b n) := by
  generalize hg : Nat.gcd (Nat.lcm a b) n = g
  have g1 : g ∣ Nat.lcm a b := hg ▸ Nat.gcd_dvd_left _ _
  have g2 : g ∣ n := hg ▸ Nat.gcd_dvd_right _ _
  have up : Nat.lcm (Nat.gcd a g) (Nat.gcd b g) ∣ Nat.lcm (Nat.gcd a n) (Nat.gcd b n) :=
    Nat.lcm_dvd (Nat.dvd_trans (Nat.gcd_dvd_gcd_of_dvd_right a g2) (Nat.dvd_lcm_left _ _)) (Nat.dvd_trans (Nat.gcd_dvd_gcd_of_dvd_right b g2) (Nat.dvd_lcm_right _ _))
  refine Nat.dvd_trans ?_ up
  clear up hg g2
  rcases Nat.eq_zero_or_pos g with z | gp
  · subst z
    have z : Nat.lcm a b = 0 := Nat.eq_zero_of_zero_dvd g1
    rw [Nat.gcd_zero_right, Nat.gcd_zero_right, z]
    exact Nat.dvd_refl 0
  · have dp : 0 < Nat.gcd (Nat.gcd a g) (Nat.gcd b g) := Nat.gcd_pos_of_pos_left _ (Nat.gcd_pos_of_pos_right _ gp)
    have e1 : Nat.gcd (Nat.gcd a g) (Nat.gcd b g) ∣ Nat.gcd a b := Nat.dvd_gcd (Nat.dvd_trans (Nat.gcd_dvd_left _ _) (Nat.gcd_dvd_left _ _)) (Nat.dvd_trans (Nat.gcd_dvd_right _ _) (Nat.gcd_dvd_left _ _))
    generalize he : Nat.gcd (Nat.gcd a g) (Nat.gcd b g) = e at e1 dp
    have ea : e ∣ a := Nat.dvd_trans e1 (Nat.gcd_dvd_left _ _)
    have eb : e ∣ b := Nat.dvd_trans e1 (Nat.gcd_dvd_right _ _)
    have eg : e ∣ g := he ▸ Nat.dvd_trans (Nat.gcd_dvd_left _ _) (Nat.gcd_dvd_right _ _)
    have k1 : g * e ∣ a * b := by
      rw [← Nat.lcm_mul_gcd a b]
      exact Nat.mul_dvd_mul g1 e1
    have k2 : g * e ∣ a * g := by
      rw [Nat.mul_comm a g]
      exact Nat.mul_dvd_mul_left g ea
    have k3 : g * e ∣ g * b := Nat.mul_dvd_mul_left g eb
    have k4 : g * e ∣ g * g := Nat.mul_dvd_mul_left g eg
    have k5 : g * e ∣ Nat.gcd a g * Nat.gcd b g := by
      rw [← Nat.gcd_mul_right]
      refine Nat.dvd_gcd ?_ ?_
      · rw [← Nat.gcd_mul_left]
        exact Nat.dvd_gcd k1 k2
      · rw [← Nat.gcd_mul_left]
        exact Nat.dvd_gcd k3 k4
    rw [← Nat.lcm_mul_gcd (Nat.gcd a g) (Nat.gcd b g), he] at k5
    exact Nat.dvd_of_mul_dvd_mul_right dp k5
theorem gcd_lcmL {n m : Nat} : ∀ {l : List Nat}, (∀ x ∈ l, Nat.gcd x n ∣ m) → Nat.gcd (lcmL l) n ∣ m
  | [], _ => by
    show Nat.gcd 1 n ∣ m
    rw [Nat.gcd_one_left]
    exact Nat.one_dvd _
  | x :: l, h => Nat.dvd_trans gcd_lcm_dvd (Nat.lcm_dvd (h x List.mem_cons_self) (gcd_lcmL fun y hy => h y (List.mem_cons_of_mem _ hy)))
theorem bez (a b : Nat) : ∃ x y : Int, (a : Int) * x + (b : Int) * y = (Nat.gcd a b : Nat) := by
  induction a, b using Nat.gcd.induction with
  | H0 n => exact ⟨0, 1, by rw [Nat.gcd_zero_left]; omega⟩
  | H1 m n hm ih =>
    obtain ⟨x, y, e⟩ := ih
    refine ⟨y - (n / m : Nat) * x, x, ?_⟩
    rw [Nat.gcd_rec m n, ← e]
    have d : (n : Int) = (m : Int) * (n / m : Nat) + (n % m : Nat) := by
      have := Nat.div_add_mod n m
      exact_mod_cast this.symm
    generalize hq : ((n / m : Nat) : Int) = q at d
    generalize hr : ((n % m : Nat) : Int) = r at d
    rw [d]
    grind
/-- so many steps of s lead from a day to one that has a rest by n -/
theorem steps {s n : Nat} {day rest : Int} (hn : 0 < n) (h : ((Nat.gcd s n : Nat) : Int) ∣ rest - day) : ∃ t : Nat, (n : Int) ∣ day + (t : Int) * s - rest := by
  obtain ⟨x, y, e⟩ := bez s n
  obtain ⟨c, hc⟩ := h
  have hn' : (0 : Int) < n := by omega
  refine ⟨((x * c) % (n : Int)).toNat, ?_⟩
  rw [Int.toNat_of_nonneg (Int.emod_nonneg _ (by omega))]
  have d := Int.mul_ediv_add_emod (x * c) (n : Int)
  generalize (x * c) / (n : Int) = q at d
  generalize (x * c) % (n : Int) = r at d
  refine ⟨-(y * c) - q * s, ?_⟩
  have e2 : rest = day + ((s : Int) * x + (n : Int) * y) * c := by rw [e]; omega
  rw [e2]
  grind
/-! ### rests that agree -/
def okP (s : List Nat) (r : List Int) (i j : Nat) : Prop := ((Nat.gcd (s.getD i 0) (s.getD j 0) : Nat) : Int) ∣ r.getD i 0 - r.getD j 0
def AllOk (s : List Nat) (r : List Int) : Prop := ∀ i j, i < j → j < s.length → okP s r i j
structure FirstBad (s : List Nat) (r : List Int) (i j : Nat) : Prop where
  lt : i < j
  le : j < s.length
  bad : ¬ okP s r i j
  ok1 : ∀ i' j', i' < i → i' < j' → j' < s.length → okP s r i' j'
  ok2 : ∀ j', i < j' → j' < j → okP s r i j'
theorem FirstBad.uniq {s : List Nat} {r : List Int} {i j i' j' : Nat} (a : FirstBad s r i j) (b : FirstBad s r i' j') : i = i' ∧ j = j' := by
  rcases Nat.lt_trichotomy i i' with h | h | h
  · exact absurd (b.ok1 i j h a.lt a.le) a.bad
  · subst h
    rcases Nat.lt_trichotomy j j' with k | k | k
    · exact absurd (b.ok2 j a.lt k) a.bad
    · exact ⟨rfl, k⟩
    · exact absurd (a.ok2 j' b.lt k) b.bad
  · exact absurd (a.ok1 i' j' h b.lt b.le) b.bad
theorem FirstBad.not {s : List Nat} {r : List Int} {i j : Nat} (a : FirstBad s r i j) : ¬ AllOk s r := fun h => a.bad (h i j a.lt a.le)
theorem okP_same {s : List Nat} {r r' : List Int} (h : ∀ i, i < s.length → ((s.getD i 0 : Nat) : Int) ∣ r.getD i 0 - r'.getD i 0) {i j : Nat} (hi : i < s.length) (hj : j < s.length) : okP s r i j ↔ okP s r' i j := by
  have a := Int.dvd_trans (Int.natCast_dvd_natCast.mpr (Nat.gcd_dvd_left (s.getD i 0) (s.getD j 0))) (h i hi)
  have b := Int.dvd_trans (Int.natCast_dvd_natCast.mpr (Nat.gcd_dvd_right (s.getD i 0) (s.getD j 0))) (h j hj)
  unfold okP
  generalize ((Nat.gcd (s.getD i 0) (s.getD j 0) : Nat) : Int) = g at a b ⊢
  constructor
  · intro c
    have : r'.getD i 0 - r'.getD j 0 = (r.getD i 0 - r.getD j 0) - (r.getD i 0 - r'.getD i 0) + (r.getD j 0 - r'.getD j 0) := by omega
    rw [this]
    exact Int.dvd_add (Int.dvd_sub c a) b
  · intro c
    have : r.getD i 0 - r.getD j 0 = (r'.getD i 0 - r'.getD j 0) + (r.getD i 0 - r'.getD i 0) - (r.getD j 0 - r'.getD j 0) := by omega
    rw [this]
    exact Int.dvd_sub (Int.dvd_add c a) b
theorem AllOk.same {s : List Nat} {r r' : List Int} (h : ∀ i, i < s.length → ((s.getD i 0 : Nat) : Int) ∣ r.getD i 0 - r'.getD i 0) (a : AllOk s r) : AllOk s r' := fun i j lt le => (okP_same h (by omega) le).mp (a i j lt le)
theorem FirstBad.same {s : List Nat} {r r' : List Int} (h : ∀ i, i < s.length → ((s.getD i 0 : Nat) : Int) ∣ r.getD i 0 - r'.getD i 0) {i j : Nat} (a : FirstBad s r i j) : FirstBad s r' i j where
  lt := a.lt
  le := a.le
  bad := fun z => a.bad ((okP_same h (by have := a.lt; have := a.le; omega) a.le).mpr z)
  ok1 := fun i' j' k1 k2 k3 => (okP_same h (by omega) k3).mp (a.ok1 i' j' k1 k2 k3)
  ok2 := fun j' k1 k2 => (okP_same h (by have := a.lt; have := a.le; omega) (by have := a.le; omega)).mp (a.ok2 j' k1 k2)
/-- a day that has the first rests by the first sizes -/
def Has (s : List Nat) (r : List Int) (k : Nat) (day : Int) : Prop := ∀ i, i < k → ((s.getD i 0 : Nat) : Int) ∣ day - r.getD i 0
theorem take_mem_getD {s : List Nat} {k x : Nat} (hk : k ≤ s.length) (h : x ∈ s.take k) : ∃ i, i < k ∧ s.getD i 0 = x := by
  obtain ⟨i, hi⟩ := List.getElem?_of_mem h
  rw [List.getElem?_take] at hi
  split at hi
  · rename_i lt
    exact ⟨i, lt, by rw [List.getD_eq_getElem?_getD, hi, Option.getD_some]⟩
  · cases hi
theorem getD_take_mem {s : List Nat} {k i : Nat} (hk : k ≤ s.length) (h : i < k) : s.getD i 0 ∈ s.take k := by
  refine List.mem_of_getElem? (i := i) ?_
  rw [List.getElem?_take, if_pos h, List.getD_eq_getElem?_getD, List.getElem?_eq_getElem (by omega), Option.getD_some]
/-- the next wheel, too -/
theorem Has.more {s : List Nat} {r : List Int} {k : Nat} {day : Int} (hk : k < s.length) (pos : 0 < s.getD k 0) (h : Has s r k day) (ok : ∀ i, i < k → okP s r i k) : ∃ t : Nat, ((s.getD k 0 : Nat) : Int) ∣ day + (t : Int) * (lcmL (s.take k) : Nat) - r.getD k 0 := by
  refine steps pos ?_
  have all : Nat.gcd (lcmL (s.take k)) (s.getD k 0) ∣ (r.getD k 0 - day).natAbs := by
    refine gcd_lcmL fun x hx => ?_
    obtain ⟨i, hi, rfl⟩ := take_mem_getD (by omega) hx
    have a := Int.dvd_trans (Int.natCast_dvd_natCast.mpr (Nat.gcd_dvd_left (s.getD i 0) (s.getD k 0))) (h i hi)
    have b := ok i hi
    unfold okP at b
    have c : ((Nat.gcd (s.getD i 0) (s.getD k 0) : Nat) : Int) ∣ r.getD k 0 - day := by
      have : r.getD k 0 - day = -((day - r.getD i 0) + (r.getD i 0 - r.getD k 0)) := by omega
      rw [this]
      exact Int.dvd_neg.mpr (Int.dvd_add a b)
    exact Int.ofNat_dvd_left.mp c
  exact Int.ofNat_dvd_left.mpr all
theorem Has.step {s : List Nat} {r : List Int} {k : Nat} {day : Int} (hk : k ≤ s.length) (h : Has s r k day) (c : Int) : Has s r k (day + c * (lcmL (s.take k) : Nat)) := fun i hi => by
  have a := h i hi
  have b : ((s.getD i 0 : Nat) : Int) ∣ (lcmL (s.take k) : Nat) := Int.natCast_dvd_natCast.mpr (dvd_lcmL (getD_take_mem hk hi))
  have : day + c * (lcmL (s.take k) : Nat) - r.getD i 0 = (day - r.getD i 0) + c * (lcmL (s.take k) : Nat) := by omega
  rw [this]
  exact Int.dvd_add a (Int.dvd_mul_of_dvd_right b)
theorem lcmL_take {s : List Nat} {k : Nat} (hk : k < s.length) : lcmL (s.take (k + 1)) = Nat.lcm (lcmL (s.take k)) (s.getD k 0) := by
  rw [List.take_add_one, List.getElem?_eq_getElem hk, lcmL_app]
  show Nat.lcm _ (lcmL [s[k]]) = _
  rw [lcmL_one, List.getD_eq_getElem?_getD, List.getElem?_eq_getElem hk, Option.getD_some]
/-- the day that is told -/
theorem Has.told {s : List Nat} {r : List Int} {day after : Int} (h : Has s r s.length day) : Has s r s.length (after + (day - after) % (lcmL s : Nat)) := by
  have e := Int.mul_ediv_add_emod (day - after) (lcmL s : Nat)
  have := h.step (Nat.le_refl _) (-((day - after) / (lcmL s : Nat)))
  rw [List.take_length] at this
  have e2 : after + (day - after) % (lcmL s : Nat) = day + -((day - after) / (lcmL s : Nat)) * (lcmL s : Nat) := by
    rw [Int.neg_mul, Int.mul_comm ((day - after) / _)]
    omega
  rw [e2]
  exact this
/-! ### the names of a law's wheel -/
theorem sgn_inj : ∀ a, a < 16 → ∀ b, b < 16 → sgn a = sgn b → a = b := by decide
theorem map_sgn_inj : ∀ {l m : List Nat}, (∀ d ∈ l, d < 10) → (∀ d ∈ m, d < 10) → l.map sgn = m.map sgn → l = m
  | [], [], _, _, _ => rfl
  | [], _ :: _, _, _, h => by cases h
  | _ :: _, [], _, _, h => by cases h
  | a :: l, b :: m, h1, h2, h => by
    rw [List.map_cons, List.map_cons, List.cons.injEq] at h
    have e := sgn_inj a (by have := h1 a List.mem_cons_self; omega) b (by have := h2 b List.mem_cons_self; omega) h.1
    rw [e, map_sgn_inj (fun d hd => h1 d (List.mem_cons_of_mem _ hd)) (fun d hd => h2 d (List.mem_cons_of_mem _ hd)) h.2]
theorem dg_inj {a b : Nat} (h : dg 10 a = dg 10 b) : a = b := by
  obtain ⟨a1, a2, _⟩ := dv_all (b := 10) (by decide) a
  obtain ⟨b1, b2, _⟩ := dv_all (b := 10) (by decide) b
  have e := map_sgn_inj a1 b1 h
  rw [← a2, ← b2, e]
end MM

namespace MM
open PySem L2 PyProof.Rows
section
variable {X : Cx} {E : En} {Γ : Gm} {M : Ow} {K : PySem.W.Frag} {Φ : Rep → Ow → Prop} {ρs : List Rep} {e : Expr} {pos : Pos}
/-- list(a tuple), owned -/
theorem caw_listT (hE : ∀ a ∈ E.M, E.H a ≠ none) (k : ∀ l, l ∉ M.map (·.1) → l ∉ E.M → Φ (RRef l) ((l, OL ρs) :: M)) : CaW E Γ M (fun xs H Q => ∃ p ys, xs = [.ref p] ∧ (SqL K H p ys ∨ SqT K H p ys) ∧ ∀ l, H l = none → Q (.ref l) (upd H l (.lst ys))) [RTt ρs] Φ := fun σ G H a vs hv Q q => by
  match vs, hv with
  | [v], ⟨⟨t, ws, e, h, rr⟩, _⟩ =>
    subst e
    exact ⟨t, ws, rfl, .inr (.inl (.inl (a.gh _ _ h))), fun l hl => q _ _ _ _ _ (k l (a.freshM hl) fun z => hE l z (a.fresh hl)) (Same.refl _) (a.own1 hl ⟨ws, rfl, rr⟩) rfl⟩
/-- tuple(an owned list) -/
theorem caw_tupO {l : Addr} {u : ORep → Ow} {ρ : Rep} (sb : Sub ρ (RRef l)) (fd : Fnd M l (OL ρs) u) (k : Φ (RTt ρs) M) : CaW E Γ M (fun xs H Q => ∃ p ys, xs = [.ref p] ∧ ((SqL K H p ys ∧ ∀ l, H l = none → Q (.ref l) (upd H l (.tup ys))) ∨ (SqT K H p ys ∧ Q (.ref p) H))) [ρ] Φ := fun σ G H a vs hv Q q => by
  match vs, hv with
  | [v], ⟨r, _⟩ =>
    have e : v = .ref l := sb _ _ r
    subst e
    obtain ⟨o, e1, ws, e2, rf⟩ := a.own _ fd.mem
    subst e2
    refine ⟨l, ws, rfl, .inl ⟨SqL.of e1, fun t ht => ?_⟩⟩
    have n : New G H (upd G t (.tup ws)) (upd H t (.tup ws)) := New.put a.gh ht
    exact q _ M _ _ _ k n.gg (a.new n) ⟨t, ws, rfl, upd_same, rf.mono n.gg⟩
theorem we_negI {i : Int} (h : WE X E Γ M e fun ρ M1 => Sub ρ (RI i) ∧ Φ (RI (-i)) M1) : WE X E Γ M (.UnaryOp .USub e pos) Φ :=
  we_un un_neg fun σ G H a Q q => h σ G H a Q fun ρ M1 v G1 H1 ⟨sb, hk⟩ s1 a1 r1 => q ρ M1 v G1 H1 ⟨RI (-i), fun x G H hx Q q => by
    have e : x = .int i := sb _ _ hx
    subst e
    exact ⟨i, rfl, q _ rfl⟩, hk⟩ s1 a1 r1
end
end MM

namespace MM
open PySem L2 PyProof.Rows
/-! ### texts cut, lists turned round, things put in between, tuples of the module -/
section
variable {X : Cx} {E : En} {Γ : Gm} {M : Ow} {o e a : Expr} {pos apos : Pos} {Φ : Rep → Ow → Prop} {K : PySem.W.Frag}
def rPart : V → List V → Hp → VK → Prop := fun x xs H Q => ∃ a b, x = .str a ∧ xs = [.str b] ∧ (b.length == 0) = false ∧ a.length ≤ sizeLine ∧
  ∀ p, H p = none → Q (.ref p) (upd H p (.tup [.str (Txt.partition a b).1, .str (Txt.partition a b).2.1, .str (Txt.partition a b).2.2]))
theorem mt_partR : MtR X "str.partition" rPart := mt_partition
theorem mtw_part {a b l m r : Str} (hb : (b.length == 0) = false) (ha : a.length ≤ sizeLine) (hp : Txt.partition a b = (l, m, r)) (k : Φ (RTt [RS l, RS m, RS r]) M) : MtW E Γ M rPart (RS a) [RS b] Φ := fun σ G H at_ x vs hx hv Q q => by
  match vs, hv with
  | [v], ⟨hv, _⟩ =>
    refine ⟨a, b, hx, by rw [show v = .str b from hv], hb, ha, fun p hq => ?_⟩
    have n : New G H (upd G p (.tup [.str (Txt.partition a b).1, .str (Txt.partition a b).2.1, .str (Txt.partition a b).2.2])) (upd H p (.tup [.str (Txt.partition a b).1, .str (Txt.partition a b).2.1, .str (Txt.partition a b).2.2])) := New.put at_.gh hq
    refine q _ M _ _ _ k n.gg (at_.new n) ⟨p, _, rfl, upd_same, ?_⟩
    rw [hp]
    exact ⟨rfl, rfl, rfl, trivial⟩
def rSplit : V → List V → Hp → VK → Prop := fun x xs H Q => ∃ a b, x = .str a ∧ xs = [.str b] ∧ (b.length == 0) = false ∧ a.length + 2 ≤ sizeLine ∧ rNewStrs (Txt.split a b) H Q
theorem mt_splitR : MtR X "str.split" rSplit := mt_split
theorem reps_strs {G : Hp} : ∀ ys : List Str, Reps (ys.map RS) (ys.map V.str) G
  | [] => trivial
  | _ :: ys => ⟨rfl, reps_strs ys⟩
theorem mtw_split {a b : Str} {ys : List Str} (hb : (b.length == 0) = false) (ha : a.length + 2 ≤ sizeLine) (hs : Txt.split a b = ys) (k : Φ (RLt (ys.map RS)) M) : MtW E Γ M rSplit (RS a) [RS b] Φ := fun σ G H at_ x vs hx hv Q q => by
  match vs, hv with
  | [v], ⟨hv, _⟩ =>
    refine ⟨a, b, hx, by rw [show v = .str b from hv], hb, ha, fun p hq => ?_⟩
    rw [hs]
    have n : New G H (upd G p (.lst (ys.map V.str))) (upd H p (.lst (ys.map V.str))) := New.put at_.gh hq
    exact q _ M _ _ _ k n.gg (at_.new n) ⟨p, _, rfl, upd_same, reps_strs ys⟩
theorem reps_turn {G : Hp} {ρs : List Rep} {vs : List V} (r : Reps ρs vs G) : Reps ρs.reverse vs.reverse G := by
  induction ρs generalizing vs with
  | nil =>
    cases vs with
    | nil => exact trivial
    | cons _ _ => exact r.elim
  | cons ρ ρs ih =>
    cases vs with
    | nil => exact r.elim
    | cons v vs =>
      rw [List.reverse_cons, List.reverse_cons]
      have one : Reps [ρ] [v] G := ⟨r.1, trivial⟩
      exact (ih r.2).app one
theorem we_turn {j : Nat} {p1 p2 p3 : Pos} (h : WE X E Γ M a fun ρ M1 => ∃ ρs, Sub ρ (RL X.K ρs) ∧ Φ (RLt ρs.reverse) M1) : WE X E Γ M (.Subscript a (.Slice none none (some (.UnaryOp .USub (.Constant (.int 1) j p1) p2)) p3) pos) Φ :=
  we_of (pe_revL pe_w) fun σ G H at' Q q => h σ G H at' _ fun ρ M1 x G1 H1 ⟨ρs, sb, hk⟩ s1 a1 r1 => by
    obtain ⟨b, vs, e, hq, rr⟩ := sb _ _ r1
    refine ⟨b, vs, e, Same.seq a1.gh hq, fun p hp => ?_⟩
    have n : New G1 H1 (upd G1 p (.lst vs.reverse)) (upd H1 p (.lst vs.reverse)) := New.put a1.gh hp
    exact q _ M1 _ _ _ hk (s1.trans n.gg) (a1.new n) ⟨p, _, rfl, upd_same, (reps_turn rr).mono n.gg⟩
def rIns : V → List V → Hp → VK → Prop := fun x vs H Q => ∃ (l : Addr) (xs : List V) (i : Int) (y : V), x = .ref l ∧ vs = [.int i, y] ∧ H l = some (.lst xs) ∧ xs.length < sizeLine ∧ 0 ≤ i ∧ i < 2 ^ 63 ∧ Q .non (upd H l (.lst (xs.take i.toNat ++ [y] ++ xs.drop i.toNat)))
theorem mt_insR : MtR X "list.insert" rIns := mt_insert
theorem mtw_ins {p : Addr} {ρo ρ ρi : Rep} {i : Int} {ρs : List Rep} {u : ORep → Ow} (sb : Sub ρo (RRef p)) (si : Sub ρi (RI i)) (fd : Fnd M p (OL ρs) u) (hl : ρs.length < 100000) (h0 : 0 ≤ i) (h1 : i < 2 ^ 63) (k : Φ RN (u (OL (ρs.take i.toNat ++ [ρ] ++ ρs.drop i.toNat)))) : MtW E Γ M rIns ρo [ρi, ρ] Φ := fun σ G H a x vs hx hv Q q => by
  obtain ⟨o, e1, ws, e2, rf⟩ := a.own _ fd.mem
  subst e2
  match vs, hv with
  | [v, y], ⟨r1, r2, _⟩ =>
    have r1 : v = .int i := si _ _ r1
    subst r1
    have one : Reps [ρ] [y] G := ⟨r2, trivial⟩
    refine ⟨p, ws, i, y, sb _ _ hx, rfl, e1, Nat.lt_of_lt_of_le (by rw [← rf.length]; exact hl) (szOf (Nat.le_refl _)), h0, h1, ?_⟩
    exact q _ _ _ _ _ k (Same.refl _) (a.write fd ⟨_, rfl, ((reps_take _ rf).app one).app (reps_drop _ rf)⟩) rfl
/-- a tuple of texts that the module holds -/
def GTup (K : PySem.W.Frag) (a : Addr) (ss : List Str) : Prop := ∃ (o : Obj) (its : Array Value) (n : Nat), K.lookup a = some o ∧ o.cls = .type "tuple" ∧ o.data = .seq its n ∧ its.size ≤ sizeLine ∧ Vals (ss.map V.str) its.toList
theorem GTup.at {a : Addr} {ss : List Str} (g : GTup K a ss) (G : Hp) : (RT K (ss.map RS)).p (.ref a) G := ⟨a, _, rfl, .inr g, reps_strs ss⟩
theorem reps_SV {G : Hp} {ss : List Str} {vs : List V} (r : Reps (ss.map RS) vs G) : vs = ss.map V.str := rvals_strs r
theorem flat_strs : ∀ ss : List Str, (ss.map V.str).all flatV = true
  | [] => rfl
  | s :: ss => by
    rw [List.map_cons, List.all_cons, flat_strs ss]
    rfl
theorem inV_strs {x : Str} : ∀ ss : List Str, inV (.str x) (ss.map V.str) = ss.contains x
  | [] => rfl
  | s :: ss => by
    have e : eqV (.str s) (.str x) = (x == s) := by
      show (s == x) = (x == s)
      by_cases h : s = x
      · subst h
        rfl
      · rw [beq_eq_false_iff_ne.mpr h, beq_eq_false_iff_ne.mpr fun z => h z.symm]
    rw [List.contains_cons, ← inV_strs ss, ← e]
    rfl
/-- a text in, not in a tuple of texts -/
theorem opv_inT {neg : Bool} {x : Str} {ss : List Str} : OpV (rIn K neg) (RS x) (RT K (ss.map RS)) (RB (if neg then !ss.contains x else ss.contains x)) := fun v y G H s hx hy Q q => by
  obtain ⟨p, vs, rfl, hp, r⟩ := hy
  have hx : v = .str x := hx
  subst hx
  rw [reps_SV r] at hp
  refine ⟨p, ss.map V.str, rfl, .inr (same_seqT s hp), rfl, flat_strs ss, ?_⟩
  rw [inV_strs]
  exact q _ G H (New.refl s) rfl
end
end MM

namespace MM
open PySem PySem.Spec L2 PyProof.Rows
/-! ### len(set(a list of texts)) -/
/-- how many unlike ones stand among the first -/
def dn (xs : List Str) : Nat → Nat
  | 0 => 0
  | i + 1 => dn xs i + (if (xs.take i).any (· == xs.getD i Str.empty) then 0 else 1)
theorem dn_le (xs : List Str) : ∀ i, dn xs i ≤ i
  | 0 => Nat.le_refl _
  | i + 1 => by
    have := dn_le xs i
    unfold dn
    split <;> omega
theorem dn_full {xs : List Str} (h : xs.Nodup) : ∀ i, i ≤ xs.length → dn xs i = i
  | 0, _ => rfl
  | i + 1, hi => by
    have ih := dn_full h i (by omega)
    have no : (xs.take i).any (· == xs.getD i Str.empty) = false := by
      rw [List.any_eq_false]
      intro y hy
      obtain ⟨j, hj⟩ := List.getElem?_of_mem hy
      rw [List.getElem?_take] at hj
      split at hj
      · rename_i lt
        have e1 : xs.getD i Str.empty = xs[i] := by rw [List.getD_eq_getElem?_getD, List.getElem?_eq_getElem (by omega), Option.getD_some]
        rw [e1, beq_iff_eq]
        rintro rfl
        obtain ⟨l1, e2⟩ := List.getElem?_eq_some_iff.mp hj
        exact absurd ((List.getElem_inj h).mp e2) (by omega)
      · cases hj
    unfold dn
    rw [ih, no]
    rfl
section
variable {P : Program} {w : World} {A : Around} {E : Value → Shared → Prop} {s : Shared}
/-- the texts put in one by one: what is in, and how many -/
abbrev InSet (P : Program) (w : World) (xs : List Str) (p : Addr) (i : Nat) (h : Heap) : Prop := h.SetOf (PySem.strKind P w) p (fun k => (xs.take i).any (· == k)) (dn xs i)
theorem InSet.up {xs : List Str} {p : Addr} {i : Nat} {h h' : Heap} (z : InSet P w xs p i h) (k : ∀ o, h.get? p = some o → h'.get? p = some o) : InSet P w xs p i h' := by
  obtain ⟨o, es, ep, t, ho, r⟩ := z
  exact ⟨o, es, ep, t, k o ho, r⟩
theorem InSet.next {xs : List Str} {p : Addr} {i : Nat} {h : Heap} (hi : i < xs.length) (z : h.SetOf (PySem.strKind P w) p (fun k => (xs.take i).any (· == k) || decide (k = xs.getD i Str.empty)) (if (xs.take i).any (· == xs.getD i Str.empty) then dn xs i else dn xs i + 1)) : InSet P w xs p (i + 1) h := by
  refine SetOf_congr z (fun k => ?_) ?_
  · have e1 : xs.getD i Str.empty = xs[i] := by rw [List.getD_eq_getElem?_getD, List.getElem?_eq_getElem hi, Option.getD_some]
    rw [e1, List.take_add_one, List.getElem?_eq_getElem hi, List.any_append]
    congr 1
    show decide (k = xs[i]) = (xs[i] == k || false)
    rw [Bool.or_false, Bool.eq_iff_iff, decide_eq_true_iff, beq_iff_eq]
    exact eq_comm
  · show (if (xs.take i).any (· == xs.getD i Str.empty) then dn xs i else dn xs i + 1) = dn xs i + (if (xs.take i).any (· == xs.getD i Str.empty) then 0 else 1)
    split <;> omega
section
variable {R : Result → Shared → Prop} {I p : Addr} {fp wr : List Addr} {G : Array GenState → Array GenState → Prop} {V' : Nat → Value → Prop} {St : Nat → Shared → Prop} {xs : List Str}
theorem put_all (W : WalksS P w A.in1 I fp wr G xs.length V' St) (far : p ∉ fp) (few : xs.length + 1 < scanBound) (val : ∀ i v, V' i v → ∃ t, v = .str (xs.getD i Str.empty) t) :
    ∀ d i : Nat, i + d = xs.length → ∀ s : Shared, St i s → InSet P w xs p i s.heap → (∀ s', Moved (p :: wr) G s s' → InSet P w xs p xs.length s'.heap → R (.ok (.ret .none)) s') →
      codeAny (model P w) A (.builtin "set.update.loop" ⟨[.ref p, .ref I], []⟩) R s := by
  have out : p ∉ wr := fun z => far (W.sub _ z)
  intro d
  induction d with
  | zero =>
    intro i e s st z res
    have e : i = xs.length := e
    subst e
    refine codeAny_builtin F.entry_set_update_loop ?_
    rw [Around.under_plainId F.plain_set_update_loop _]
    refine wpAny_bind (m := pyNext (.ref I)) (W.done s _ _ st fun s2 mv => wpAny_pure ?_)
    exact res s2 (mv.mono fun b hb => List.mem_cons_of_mem _ hb) (z.up fun o ho => mv.heap p o out ho)
  | succ d ih =>
    intro i e s st z res
    have hi : i < xs.length := by omega
    have le := dn_le xs i
    refine codeAny_builtin F.entry_set_update_loop ?_
    rw [Around.under_plainId F.plain_set_update_loop _]
    refine wpAny_bind (m := pyNext (.ref I)) (W.item i s _ _ hi st fun v s2 hv st2 mv => ?_)
    obtain ⟨t, rfl⟩ := val i v hv
    have z2 := z.up (h' := s2.heap) fun o ho => mv.heap p o out ho
    refine wpAny_bind (m := holding [Value.str (xs.getD i Str.empty) t] (setAdd p (.str (xs.getD i Str.empty) t))) (wpAny_holding ?_)
    unfold setAdd
    refine wpAny_holding (wpAny_bind ((PySem.strKind P w).pyHash (k := xs.getD i Str.empty) (strKind_is _ _ _ _) ?_))
    refine wpAny_setAddHashed_of (knd := PySem.strKind P w) (s := { s2 with toks := s2.toks + 1 }) (strKind_is _ _ _ _) rfl z2 (by omega) fun h3 same z3 => ?_
    have keep : ∀ b o, b ≠ p → s2.heap.get? b = some o → h3.get? b = some o := fun b o hb ho => (same.2 b hb).trans ho
    refine wpAny_pure ⟨plainId_quiet F.plain_set_update_loop _, ih (i + 1) (by omega) _ (W.frame _ s2 _ _ st2 (Nat.le_succ _) fun b hb o ho => keep b o (fun y => far (y ▸ hb)) ho) (InSet.next hi z3) fun s4 mv2 z4 => ?_⟩
    refine res s4 (Moved.trans W.gtrans ((mv.mono fun b hb => List.mem_cons_of_mem _ hb).then_heap (Nat.le_succ _) fun b o hb ho => ?_) mv2) z4
    exact keep b o (fun y => hb (y ▸ List.mem_cons_self)) ho
end
abbrev bare (w : World) : Obj := { cls := .type "set", dict := none, data := .set #[] 0 (.fresh 0 0 (!w.params.followText "set-order")) }
set_option maxHeartbeats 8000000 in
theorem set_texts {l : Addr} {items : Array Value} {xs : List Str} {Q : Value → Shared → Prop} (hh : A.handled = none) (hl : s.heap.IsList l items) (hi : StrsAre items.toList xs) (few : xs.length + 1 < scanBound)
    (h : ∀ h' tk, InSet P w xs s.heap.objs.size xs.length h' → (∀ b o, s.heap.get? b = some o → h'.get? b = some o) → Q (.ref s.heap.objs.size) { s with heap := h', toks := tk }) : wpAny (model P w) A (call (.type "set") [.ref l]) Q E s := by
  have size : xs.length = items.size := by rw [← StrsAre.len_eq hi, Array.length_toList]
  have under : l < s.heap.objs.size := by
    obtain ⟨o, e, _⟩ := hl
    exact Heap.lt_size e
  have grown : (s.heap.push (bare w)).objs.size = s.heap.objs.size + 1 := Heap.size_push ..
  have self : (s.heap.push (bare w)).get? s.heap.objs.size = some (bare w) := Heap.get?_push_size _ rfl
  have beside : l ≠ (s.heap.push (bare w)).objs.size := fun z => Nat.ne_of_lt (Nat.lt_succ_of_lt under) (z.trans grown)
  have apart : s.heap.objs.size ∉ [(s.heap.push (bare w)).objs.size, l] := by
    intro z
    rcases List.mem_cons.mp z with z | z
    · exact Nat.ne_of_lt (Nat.lt_succ_self _) (z.trans grown)
    · rw [List.mem_singleton] at z
      exact Nat.ne_of_gt under z
  have there0 : (s.heap.push (bare w)).IsList l items := hl.push _
  obtain ⟨c, tl, hmro⟩ := F.called_set.mro
  have hmade := F.called_set.made
  have hsub := F.called_set.sub
  have h1 := F.called_set.notType
  have h2 := F.called_set.canCreate
  have hct := F.typeCall_set_1 (.ref l)
  refine wpAny_call (codeAny_of_tree ?_)
  show wpAny _ _ (callAny (.type "set") _) _ _ _
  refine wpAny_pure ⟨Code.quiet_builtin _ (by decide +kernel), codeAny_builtin F.entry_type_call ?_⟩
  rw [Around.under_plain (weight_type_call_type "set" [.ref l] []) rfl]
  repeat (any_goals (first | assumption | wp_step))
  refine codeAny_mono (code_set_led1 (.ref l) (E := E) (Q₁ := fun v t => v = .ref s.heap.objs.size ∧ t = { s with heap := s.heap.push (bare w) }) ⟨rfl, rfl⟩) fun r t hr => ?_
  match r, hr with
  | .error e, hr => exact hr
  | .ok (.ret v), ⟨ev, et⟩ =>
    subst ev et
    have hT : Shared.TypeIs { s with heap := s.heap.push (bare w) } (.ref s.heap.objs.size) "set" := ⟨_, self, rfl⟩
    have hli := F.called_set.init.lookup
    have hbi := F.called_set.init.bind (.ref s.heap.objs.size)
    repeat (any_goals (first | assumption | wp_step))
    refine codeAny_mono (codeAny_call_builtin (R := wants (fun v t => v = .none ∧ ∃ h' tk, t = { s with heap := h', toks := tk } ∧ InSet P w xs s.heap.objs.size xs.length h' ∧ (∀ b o, s.heap.get? b = some o → h'.get? b = some o)) E) F.called_set.init.plain F.entry_set_init (check_set_init_1 hT ?init)) fun r t hr => ?after
    case after =>
      match r, hr with
      | .error e, hr => exact hr
      | .ok (.ret v), ⟨ev, h', tk, et, z, kp⟩ =>
        subst ev et
        repeat (any_goals (first | assumption | wp_step))
        exact h _ _ z kp
      | .ok .next, hr => exact hr.elim
      | .ok .brk, hr => exact hr.elim
      | .ok .cont, hr => exact hr.elim
    case init =>
      obtain ⟨⟨lc, ld, lx, ls⟩, hol, hcl, nl, hdl⟩ := there0
      simp only at hcl hdl
      subst hcl
      subst hdl
      have n1 := F.sub_list_set
      have n2 := F.sub_list_frozenset
      have n3 : (Value.type "list" == Value.type "dict") = false := by decide
      have there : (s.heap.push (bare w)).IsList l items := ⟨_, hol, rfl, nl, rfl⟩
      unfold Builtin.«set.__init__» noKeywords Builtin.Frozenset.updateFrom
      generalize hPI : pyIter = PI
      wp_walk
      subst hPI
      refine wpAny_pyIter_list there (wpAny_bind (wpAny_runValue ?_))
      have quiet : A.in1.in1.in1.handled = none := by simp [hh]
      have W := (Walks.list (prog := P) (w := w) quiet (s.heap.push (bare w)).objs.size l beside items).toS
      rw [← size] at W
      refine put_all W apart few (fun i v hv => SS.strs_at hi i v (by rw [Array.getElem?_toList]; exact hv)) xs.length 0 (Nat.zero_add _) _ ⟨⟨_, Heap.get?_push_size _ rfl, rfl, rfl⟩, there.push _⟩ ?start ?stop
      case start =>
        have g0 : ((s.heap.push (bare w)).push { cls := .type "list_iterator", data := .fields #[.ref l, .int 0 0] }).get? s.heap.objs.size = some (bare w) := Heap.get?_push_of_some _ self
        exact SetOf_congr ((setObjOf_fresh (knd := PySem.strKind P w) _).setOf g0 (by unfold scanBound; omega)) (fun _ => rfl) rfl
      case stop =>
        rintro ⟨h', g', d', tk', os'⟩ moved z
        have eg : g' = s.gens := moved.gens
        have ed : d' = s.drawn := moved.drawn
        have eo : os' = s.os := moved.os
        subst eg ed eo
        show wpAny _ _ _ _ _ _
        refine wpAny_pure ?_
        show wpAny _ _ (ret Value.none) _ _ _
        refine wpAny_pure ⟨rfl, h', tk', rfl, z, fun b o ho => ?_⟩
        have hb := Heap.lt_size ho
        refine moved.heap b o ?_ (Heap.get?_push_of_some _ (Heap.get?_push_of_some _ ho))
        intro y
        rcases List.mem_cons.mp y with y | y
        · exact Nat.ne_of_lt hb y
        · rw [List.mem_singleton] at y
          exact Nat.ne_of_lt (Nat.lt_succ_of_lt hb) (y.trans grown)
  | .ok .next, hr => exact hr.elim
  | .ok .brk, hr => exact hr.elim
  | .ok .cont, hr => exact hr.elim
end
def tLenTx (K : PySem.W.Frag) (ta : TE) : TE := fun σ H Q => ta σ H fun x H1 => ∃ l, ∃ xs : List Str, x = .ref l ∧ SqL K H1 l (xs.map V.str) ∧ xs.length < 4000 ∧ Q (.int (dn xs xs.length : Nat)) H1
theorem pe_lenTx {X : Cx} {a : Expr} {ta : TE} {p p2 q pos : Pos} (hc : X.calm = true) (hg : Gl X "len") (hm : X.mg "len" = none) (hg2 : Gl X "set") (hm2 : X.mg "set" = none) (ha : PE X a ta)
    (na : starEach [a] X.env = (false, eval a X.env) :: starEach [] X.env := by rfl) : PE X (.Call (.Name "len" p) [.Call (.Name "set" p2) [a] [] q] [] pos) (tLenTx X.K ta) := by
  refine ⟨fun pins s σ H Q I hyp => ?_⟩
  refine Call_ (ld_blt I hg hm boot_len (callWith_builtin1 (args_cons ?_ rfl) rfl rfl))
  refine Call_ (ld_blt I hg2 hm2 boot_set (callWith_type1 (args_cons (thn (ha.run pins s σ H _ I hyp) fun v s1 ⟨x, H1, I1, r1, l, xs, ex, hq, few, res⟩ => args_nil ?_) na) na rfl))
  subst ex
  cases r1
  obtain ⟨its, r, pl, _⟩ := I1.list hq
  refine set_texts (I1.ok.hd hc) pl.isList (by simpa using strsAre_of r) (by unfold scanBound; omega) fun h' tk z kp => ?_
  have I2 : Inv X pins σ H1 { s1 with heap := h', toks := tk } := I1.kept kp
  obtain ⟨o, es, ep, t, ho, hex, hd, _, _, _, hf, hn⟩ := z
  have le := dn_le xs xs.length
  refine args_nil (call_len_set ho hex hd hf (by rw [hn]; omega) ⟨.int (dn xs xs.length : Nat), H1, I2.tok _, ⟨_, by rw [hn]⟩, res⟩)
section
variable {X : Cx} {E : En} {Γ : Gm} {M : Ow} {a : Expr} {p p2 q pos : Pos} {Φ : Rep → Ow → Prop}
theorem we_lenTx (hc : X.calm = true) (hg : Gl X "len") (hm : X.mg "len" = none) (hg2 : Gl X "set") (hm2 : X.mg "set" = none) (h : WE X E Γ M a fun ρ M1 => ∃ xs : List Str, Sub ρ (RL X.K (xs.map RS)) ∧ xs.length < 4000 ∧ Φ (RI (dn xs xs.length : Nat)) M1)
    (na : starEach [a] X.env = (false, eval a X.env) :: starEach [] X.env := by rfl) : WE X E Γ M (.Call (.Name "len" p) [.Call (.Name "set" p2) [a] [] q] [] pos) Φ :=
  we_of (pe_lenTx hc hg hm hg2 hm2 pe_w na) fun σ G H at_ Q k => h σ G H at_ _ fun ρ M1 v G1 H1 ⟨xs, sb, few, hk⟩ s1 a1 r1 => by
    obtain ⟨l, vs, e, hq, rr⟩ := sb _ _ r1
    rw [rvals_strs rr] at hq
    exact ⟨l, xs, e, Same.seq a1.gh hq, few, k _ _ _ _ _ hk s1 a1 rfl⟩
end
end MM

namespace MM
open PySem L2 PyProof.Rows
section
variable {X : Cx} {E : En} {Γ : Gm} {M : Ow} {e : Expr} {pos p p2 : Pos} {Φ : Rep → Ow → Prop} {x : Str}
theorem we_bltn {v : V} {u : Value} (hg : Gl X x) (hm : X.mg x = none) (hv : bootBuiltins x = some u) (r : RelV v u) (k : Φ (RV v) M) (hn : x ≠ "__name__" := by decide) (hd : (x == ("__debug__" : Str)) = false := by decide) : WE X E Γ M (.Name x pos) Φ := we_of (pe_bltn hg hm hv r hn hd) (wte_c (fun _ => rfl) k)
/-- isinstance(e, a built-in type) -/
theorem we_isiB {t c : String} {b : Bool} (hg : Gl X "isinstance") (hgc : Gl X x) (hm : X.mg "isinstance" = none) (hmc : X.mg x = none) (hv : bootBuiltins x = some (.type c)) (hk : L2.kitB t c = some b)
    (h : WE X E Γ M e fun ρ M1 => TyIs X.K ρ (.type t) ∧ Φ (RB b) M1) (hn : x ≠ "__name__" := by decide) (hd : (x == ("__debug__" : Str)) = false := by decide)
    (he : starEach [e, .Name x p2] X.env = (false, eval e X.env) :: starEach [.Name x p2] X.env := by rfl) (he2 : starEach [.Name x p2] X.env = (false, eval (.Name x p2) X.env) :: starEach [] X.env := by rfl) (hpl : (backTo pos (starEach [.Name x p2] X.env)).any (·.1) = false := by rfl) :
    WE X E Γ M (.Call (.Name "isinstance" p) [e, .Name x p2] [] pos) Φ := by
  refine we_callB call_isi hg hm (by decide +kernel) (wa_cons (fun σ G H a Q q => h σ G H a Q fun ρ M1 v G1 H1 ⟨ty, hk2⟩ => q ρ M1 v G1 H1 (wa_cons (we_bltn (v := .ty c) hgc hmc hv rfl (wa_nil ?_) hn hd) he2)) he) (by decide) (by decide) he hpl
  exact caw_of (cav_isi ty (.ty c) (kit_ty hk)) hk2
theorem cav_len_tt {K : PySem.W.Frag} {ρs : List Rep} : CaV (fun xs H Q => ∃ p ys, xs = [.ref p] ∧ (SqL K H p ys ∨ SqT K H p ys) ∧ Q (.int ys.length) H) [RTt ρs] (RI ρs.length) := fun vs G H s r Q q => by
  match vs, r with
  | [v], ⟨⟨a, ws, e, h, rr⟩, _⟩ =>
    subst e
    refine ⟨a, ws, rfl, .inr (.inl (.inl (s _ _ h))), q _ G H (New.refl s) ?_⟩
    show V.int _ = V.int _
    rw [rr.length]
theorem cav_len_lt {K : PySem.W.Frag} {ρs : List Rep} : CaV (fun xs H Q => ∃ p ys, xs = [.ref p] ∧ (SqL K H p ys ∨ SqT K H p ys) ∧ Q (.int ys.length) H) [RLt ρs] (RI ρs.length) := fun vs G H s r Q q => by
  match vs, r with
  | [v], ⟨⟨a, ws, e, h, rr⟩, _⟩ =>
    subst e
    refine ⟨a, ws, rfl, .inl (.inl (.inl (s _ _ h))), q _ G H (New.refl s) ?_⟩
    show V.int _ = V.int _
    rw [rr.length]
end
end MM

namespace MM
open PySem L2 PyProof.Rows
/-! ### range of any two ints -/
theorem turn_long {P : Program} {w : World} {K : PySem.W.Frag} {tg : Expr} (it : Addr) (lo : Int) (n : Nat) : Turn P w K tg (Itr lo n) [it] it (fun i h => IsLongIter h it (lo + (i : Nat) * 1) ((n : Int) - (i : Nat)) 1) where
  mem := by simp
  obj := fun i h st b hb => by
    have e : b = it := by simpa using hb
    subst e
    exact ⟨_, st, fun v z => by
      have z' : Data.fields _ = Data.cell v := z
      cases z'⟩
  keep := fun i h h' st k => k it (by simp) _ st
  item := by
    intro X hP hw hK hc i pins s σ H E I hf st hg
    subst hP hw hK
    obtain ⟨f0, f1, f2, f3, f4, f5⟩ := hf it (by simp)
    have W := Walks.longrange (prog := X.prog) (w := X.w) (I.ok.hd hc) it lo 1 n
    refine W.item i s _ _ hg st fun v h' tk hv st' kk => ?_
    obtain ⟨t, rfl⟩ := hv
    have I1 : L2.Inv X pins σ H { s with heap := h', toks := tk } := I.turned (fun b o hb e => kk b o (by simpa using hb) e) f0 f1 f3 f4 f5
    refine ⟨_, rfl, go_of (s := { s with heap := h', toks := tk }) (n := "longrange_iterator") st' rfl rfl (by decide) ⟨.int (lo + i), H, I1, ⟨t, ?_⟩, ⟨rfl, rfl⟩, st', fun b hb => (hf b hb).1⟩⟩
    rw [Int.mul_one]
  done := by
    intro X hP hw hK hc i pins s σ H E I hf st hg
    subst hP hw hK
    obtain ⟨f0, f1, f2, f3, f4, f5⟩ := hf it (by simp)
    exact wpAny_pyNext_long_end (I.ok.hd hc) st (by have : n ≤ i := hg; omega) fun h' eb => ⟨rfl, I.turned (t' := s.toks) (fun b o hb e => eb b o hb e) f0 f1 f3 f4 f5⟩
  self := fun _ _ _ _ _ st h => wpAny_pyIter_longiter st h
section
variable {X : Cx} {tg : Expr}
theorem range_itW {pins : List (Addr × Obj)} {σ : L2.St} {H : Hp} {s : Shared} {R : It → Hp → Prop} {E : Value → Shared → Prop} {lo hi : Int} {t u v : Tok} {tk : Nat} (I : L2.Inv X pins σ H s)
    (q : R (Itr lo (hi - lo).toNat) H) : wpAny (model X.prog X.w) X.A (pyIter (.ref s.heap.objs.size)) (PIE X pins σ tg R) E { s with heap := s.heap.push { cls := .type "range", data := .fields #[.int lo t, .int hi u, .int 1 v] }, toks := tk } := by
  have I1 : L2.Inv X pins σ H { s with heap := s.heap.push { cls := .type "range", data := .fields #[.int lo t, .int hi u, .int 1 v] }, toks := tk } := I.kept fun b o e => Heap.get?_push_of_some _ e
  have e1 : lo + ((0 : Nat) : Int) * 1 = lo := by simp
  have e2 : (((hi - lo).toNat : Nat) : Int) - ((0 : Nat) : Int) = Builtin.Range.rangeSize lo hi 1 := by rw [rangeSize_one]; split <;> omega
  cases hs : Builtin.Range.small lo hi 1 with
  | true =>
    refine wpAny_pyIter_range (IsRange.new ..) hs ?_
    refine ⟨(s.heap.push { cls := .type "range", data := .fields #[.int lo t, .int hi u, .int 1 v] }).objs.size, [(s.heap.push { cls := .type "range", data := .fields #[.int lo t, .int hi u, .int 1 v] }).objs.size], _, _, H, rfl, I1.kept (t' := tk) fun b o e => Heap.get?_push_of_some _ e, turn_range _ lo (hi - lo).toNat, ?_, fun b hb => ?_, q⟩
    · show IsRangeIter _ _ (lo + ((0 : Nat) : Int) * 1) ((((hi - lo).toNat : Nat) : Int) - ((0 : Nat) : Int)) 1
      rw [e1, e2]
      exact Heap.get?_push_size _ rfl
    · have e : b = (s.heap.push { cls := .type "range", data := .fields #[.int lo t, .int hi u, .int 1 v] }).objs.size := by simpa using hb
      subst e
      exact I1.fpOk (Nat.le_refl _) (I1.hok.fresh (Nat.le_refl _))
  | false =>
    refine wpAny_pyIter_longrange (IsRange.new ..) hs ?_
    refine ⟨(s.heap.push { cls := .type "range", data := .fields #[.int lo t, .int hi u, .int 1 v] }).objs.size, [(s.heap.push { cls := .type "range", data := .fields #[.int lo t, .int hi u, .int 1 v] }).objs.size], _, _, H, rfl, I1.kept (t' := tk) fun b o e => Heap.get?_push_of_some _ e, turn_long _ lo (hi - lo).toNat, ?_, fun b hb => ?_, q⟩
    · show IsLongIter _ _ (lo + ((0 : Nat) : Int) * 1) ((((hi - lo).toNat : Nat) : Int) - ((0 : Nat) : Int)) 1
      rw [e1, e2]
      exact Heap.get?_push_size _ rfl
    · have e : b = (s.heap.push { cls := .type "range", data := .fields #[.int lo t, .int hi u, .int 1 v] }).objs.size := by simpa using hb
      subst e
      exact I1.fpOk (Nat.le_refl _) (I1.hok.fresh (Nat.le_refl _))
def iRngW (ta : TA) : TI := fun σ H R => ta σ H fun vs H1 => ∃ i j : Int, vs = [.int i, .int j] ∧ R (Itr i (j - i).toNat) H1
theorem pi_rangeW {a b : Expr} {ta : TA} {p pos : Pos} (hg : Gl X "range") (hm : X.mg "range" = none) (ha : PA X [a, b] ta) (hs : starEach [a, b] X.env = [(false, eval a X.env), (false, eval b X.env)] := by rfl) (hs2 : starEach [b] X.env = [(false, eval b X.env)] := by rfl) :
    PI X tg (.Call (.Name "range" p) [a, b] [] pos) (iRngW ta) := by
  refine ⟨fun pins s σ H R I h => ?_⟩
  refine Call_ (ld_blt I hg hm boot_range (PyProof.Rows.callWith_type1 (thn (ha.run pos pins s σ H _ I h) fun us s1 ⟨vs, H1, I1, r1, q1⟩ => ?_) (by rw [hs, hs2]) (by rw [hs2]; rfl)))
  obtain ⟨i, j, e, q⟩ := q1
  subst e
  cases r1 with
  | cons r rr =>
    cases rr with
    | cons r' rr =>
      cases rr
      obtain ⟨t, rfl⟩ := r
      obtain ⟨t', rfl⟩ := r'
      exact call_range_2 (range_itW I1 q)
end
section
variable {X : Cx} {E : En} {Γ : Gm} {M : Ow} {a b tg : Expr} {pos p apos : Pos} {Ψ : Ed} {body : List Stmt}
theorem ws_for_rangeW (hp : PassesOwn (model X.prog X.w) X.A X.env X.xe) (hc : X.calm = true) (hg : Gl X "range") (hm : X.mg "range" = none)
    (h : WA X E Γ M [a, b] fun ρs M1 => ∃ i j : Int, SubL ρs [RI i, RI j] ∧ ForK X E Γ M1 tg body Ψ (j - i).toNat fun n ρ => ρ = RI (i + n))
    (hse : starEach [a, b] X.env = [(false, eval a X.env), (false, eval b X.env)] := by rfl) (hs2 : starEach [b] X.env = [(false, eval b X.env)] := by rfl) (hs : ∀ x, foldedSetIterable (.Call (.Name "range" p) [a, b] [] apos) X.env x = pure x := by intro _; rfl) : WS X E Γ M (.For tg (.Call (.Name "range" p) [a, b] [] apos) body [] pos) Ψ :=
  ws_of (ps_for hp hc (pi_rangeW hg hm pa_w hse hs2) pg_w pss_w hs) fun σ G H a D k => h σ G H a _ fun ρs M1 vs G1 H1 ⟨i0, j, sb, I, h0, ht, hd⟩ s1 a1 r1 => by
    have ks := k.mono s1
    have e : vs = [.int i0, .int j] := by
      match vs, sb.reps r1 with
      | [v, w], ⟨r, r', _⟩ =>
        have r : v = .int i0 := r
        have r' : w = .int j := r'
        rw [r, r']
    refine ⟨i0, j, e, for_range (lo := i0) (fun i σ H => ∃ Γ' M' G', I i Γ' M' ∧ Same G1 G' ∧ At E Γ' M' σ G' H) ⟨Γ, M1, G1, h0, Same.refl _, a1⟩ ?_ ?_⟩
    · rintro i σ H hx ⟨Γ', M', G', hI, s', a'⟩
      exact for_turn ks (ht i _ Γ' M' hx rfl hI) s' a' rfl
    · rintro σ H ⟨Γ', M', G', hI, s', a'⟩
      exact ks.nx _ _ (hd _ _ hI) _ _ _ s' a'
theorem src_rangeW {Z : Ow → Nat → (Nat → Rep → Prop) → Prop} (h : WA X E Γ M [a, b] fun ρs M1 => ∃ i j : Int, SubL ρs [RI i, RI j] ∧ Z M1 (j - i).toNat fun n ρ => ρ = RI (i + n)) : Src X E Γ M (iRngW (tWA X [a, b])) Z :=
  ⟨fun {σ G H} R a' k => h σ G H a' _ fun ρs M1 vs G1 H1 ⟨i0, j, sb, hz⟩ s1 a1 r1 => by
    have e : vs = [.int i0, .int j] := by
      match vs, sb.reps r1 with
      | [v, w], ⟨r, r', _⟩ =>
        have r : v = .int i0 := r
        have r' : w = .int j := r'
        rw [r, r']
    refine ⟨i0, j, e, k _ _ _ _ _ _ hz s1 a1 fun i H2 G2 s2 g2 => ⟨fun hi => hi, fun hi => hi, fun x H3 hi ⟨e3, y⟩ => ?_⟩⟩
    subst e3
    exact ⟨G2, _, New.refl g2, rfl, y⟩⟩
end
end MM

namespace MM
open PySem L2 PyProof.Rows
/-! ### owned lists of ints -/
theorem reps_RI {G : Hp} : ∀ {ns : List Int} {vs : List V}, Reps (ns.map RI) vs G → vs = ns.map V.int
  | [], [], _ => rfl
  | n :: ns, v :: vs, h => by
    have h1 : v = .int n := h.1
    rw [h1, reps_RI (ns := ns) (vs := vs) h.2]
    rfl
  | [], _ :: _, h => h.elim
  | _ :: _, [], h => h.elim
theorem reps_ints0 {G : Hp} : ∀ ns : List Int, Reps (ns.map RI) (ns.map V.int) G
  | [] => trivial
  | _ :: ns => ⟨rfl, reps_ints0 ns⟩
section
variable {X : Cx} {E : En} {Γ : Gm} {M : Ow} {a b e iter tg : Expr} {pos p p2 apos : Pos} {Φ : Rep → Ow → Prop} {Ψ : Ed} {body : List Stmt} {x : Str}
theorem own_ints {σ : L2.St} {G H : Hp} {q : Addr} {ns : List Int} {u : ORep → Ow} (at_ : At E Γ M σ G H) (fd : Fnd M q (OL (ns.map RI)) u) : H q = some (.lst (ns.map V.int)) := by
  obtain ⟨o, e1, ws, e2, rf⟩ := at_.own _ fd.mem
  subst e2
  rw [reps_RI rf] at e1
  exact e1
theorem ws_for_ownI (hp : PassesOwn (model X.prog X.w) X.A X.env X.xe) (hc : X.calm = true)
    (h : WE X E Γ M iter fun ρ M1 => ∃ (q : Addr) (ns : List Int), Sub ρ (RRef q) ∧ ∃ I : Nat → Gm → Ow → Prop, I 0 Γ M1 ∧ (∀ i Γ1 M2, I i Γ1 M2 → ∃ u, Fnd M2 q (OL (ns.map RI)) u) ∧
      (∀ i n Γ1 M2, ns[i]? = some n → I i Γ1 M2 → WG X E Γ1 M2 tg (RI n) fun Γ2 M3 => WSs X E Γ2 M3 body { nx := I (i + 1), ct := I (i + 1), bk := Ψ.nx, rt := Ψ.rt }) ∧ ∀ Γ1 M2, I ns.length Γ1 M2 → Ψ.nx Γ1 M2)
    (hs : ∀ x, foldedSetIterable iter X.env x = pure x := by intro _; rfl) : WS X E Γ M (.For tg iter body [] pos) Ψ :=
  ws_of (ps_for hp hc (pi_list pe_w) pg_w pss_w hs) fun σ G H a D k => h σ G H a _ fun ρ M1 v G1 H1 ⟨q, ns, sb, I, h0, hI, ht, hd⟩ s1 a1 r1 => by
    have e : v = .ref q := sb _ _ r1
    have ks := k.mono s1
    obtain ⟨u, fd⟩ := hI _ _ _ h0
    have e1 := own_ints a1 fd
    refine ⟨q, e, ⟨ns.map V.int, .inl (.inl e1)⟩, for_list (K := X.K) (a := q) (xs := ns.map V.int) (fun i σ H => ∃ Γ' M' G', I i Γ' M' ∧ Same G1 G' ∧ At E Γ' M' σ G' H) ⟨Γ, M1, G1, h0, Same.refl _, a1⟩ (fun i σ H _ ⟨Γ', M', G', hI', s', a'⟩ => ?_) ?_ ?_⟩
    · obtain ⟨u', fd'⟩ := hI _ _ _ hI'
      exact .inl (.inl (own_ints a' fd'))
    · rintro i x σ H hx ⟨Γ', M', G', hI', s', a'⟩
      rw [List.getElem?_map] at hx
      obtain ⟨n, hn, rfl⟩ := Option.map_eq_some_iff.mp hx
      exact for_turn ks (ht i n Γ' M' hn hI') s' a' rfl
    · rintro σ H ⟨Γ', M', G', hI', s', a'⟩
      rw [List.length_map] at hI'
      exact ks.nx _ _ (hd _ _ hI') _ _ _ s' a'
/-- isinstance(e, a built-in type), of an owned list -/
theorem we_isiO {c : String} {k : Bool} (hg : Gl X "isinstance") (hgc : Gl X x) (hm : X.mg "isinstance" = none) (hmc : X.mg x = none) (hv : bootBuiltins x = some (.type c)) (hk : L2.kitB "list" c = some k)
    (h : WE X E Γ M e fun ρ M1 => (∃ q ns u, Sub ρ (RRef q) ∧ Fnd M1 q (OL ns) u) ∧ Φ (RB k) M1) (hn : x ≠ "__name__" := by decide) (hd : (x == ("__debug__" : Str)) = false := by decide)
    (he : starEach [e, .Name x p2] X.env = (false, eval e X.env) :: starEach [.Name x p2] X.env := by rfl) (he2 : starEach [.Name x p2] X.env = (false, eval (.Name x p2) X.env) :: starEach [] X.env := by rfl) (hpl : (backTo pos (starEach [.Name x p2] X.env)).any (·.1) = false := by rfl) :
    WE X E Γ M (.Call (.Name "isinstance" p) [e, .Name x p2] [] pos) Φ := by
  refine we_callB call_isi hg hm (by decide +kernel) (wa_cons (fun σ G H a Q q => h σ G H a Q fun ρ M1 v G1 H1 ⟨⟨q0, ns, u, sb, fd⟩, hk2⟩ => q ρ M1 v G1 H1 (wa_cons (we_bltn (v := .ty c) hgc hmc hv rfl (wa_nil ?_) hn hd) he2)) he) (by decide) (by decide) he hpl
  intro σ G H a vs r Q q
  match vs, r with
  | [v, w], ⟨r1, r2, _⟩ =>
    have r2 : w = .ty c := r2
    have r1 : v = .ref q0 := sb _ _ r1
    subst r2 r1
    obtain ⟨o, e1, ws, e2, rf⟩ := a.own _ fd.mem
    subst e2
    exact ⟨_, _, .type "list", .type c, k, rfl, .ty c, .base (.lst e1), kit_ty hk, q (RB k) M1 _ G H hk2 (Same.refl _) a rfl⟩
/-- == and != of an owned list of ints -/
theorem opw_neO {ρ ρ' : Rep} {q : Addr} {ns : List Int} {u : ORep → Ow} {d : PyData} (sb : Sub ρ (RRef q)) (fd : Fnd M q (OL (ns.map RI)) u) (h2 : IsD X.K ρ' d) (s2 : SeqAt.shaped d = true) (s1 : SeqAt.shaped (.list (ns.map PyData.int)) = true) (k : Φ (RB (!PyData.eqv (.list (ns.map PyData.int)) d)) M) : OpW E Γ M (rNeD X.K) ρ ρ' Φ := fun σ G H a x y hx hy Q q0 => by
  have e : x = .ref q := sb _ _ hx
  subst e
  have e1 := own_ints a fd
  refine ⟨.list (ns.map PyData.int), d, .lst (.inl (.inl e1)) ?_, h2 y G H a.gh hy, s1, s2, q0 _ M _ G H k (Same.refl _) a rfl⟩
  exact isDs_map (f := RI) (g := PyData.int) (fun _ => isD_i) ns _ H H (Same.refl _) (reps_ints0 ns)
/-- == and != of an owned list of ints -/
theorem opw_eqI {ρ ρ' : Rep} {q : Addr} {ns : List Int} {u : ORep → Ow} {d : PyData} (sb : Sub ρ (RRef q)) (fd : Fnd M q (OL (ns.map RI)) u) (h2 : IsD X.K ρ' d) (s2 : SeqAt.shaped d = true) (s1 : SeqAt.shaped (.list (ns.map PyData.int)) = true) (k : Φ (RB (PyData.eqv (.list (ns.map PyData.int)) d)) M) : OpW E Γ M (rEqD X.K) ρ ρ' Φ := fun σ G H a x y hx hy Q q0 => by
  have e : x = .ref q := sb _ _ hx
  subst e
  have e1 := own_ints a fd
  refine ⟨.list (ns.map PyData.int), d, .lst (.inl (.inl e1)) ?_, h2 y G H a.gh hy, s1, s2, q0 _ M _ G H k (Same.refl _) a rfl⟩
  exact isDs_map (f := RI) (g := PyData.int) (fun _ => isD_i) ns _ H H (Same.refl _) (reps_ints0 ns)
end
end MM

namespace MM
open PySem L2 PyProof.Rows
theorem reps2 {ρ1 ρ2 : Rep} {vs : List V} {G : Hp} (h : Reps [ρ1, ρ2] vs G) : ∃ v w, vs = [v, w] ∧ ρ1.p v G ∧ ρ2.p w G :=
  match vs, h with
  | [v, w], ⟨a, b, _⟩ => ⟨v, w, rfl, a, b⟩
section
variable {X : Cx} {E : En} {Γ : Gm} {M : Ow} {a b e : Expr} {pos p : Pos}
/-- zip of two lists that stay as they are -/
theorem src_zip {Z : Ow → Nat → (Nat → Rep → Prop) → Prop} (h : WA X E Γ M [a, b] fun ρs M1 => ∃ r1 r2, SubL ρs [RL X.K r1, RL X.K r2] ∧ Z M1 (min r1.length r2.length) fun i ρ => ∃ ρ1 ρ2, r1[i]? = some ρ1 ∧ r2[i]? = some ρ2 ∧ ρ = RTt [ρ1, ρ2]) : Src X E Γ M (iZip X.K (tWA X [a, b])) Z :=
  ⟨fun {σ G H} R a' k => h σ G H a' _ fun ρs M1 vs G1 H1 ⟨l1, l2, sb, hz⟩ s1 a1 r1 => by
    obtain ⟨v, w, rfl, t1, t2⟩ := reps2 (sb.reps r1)
    obtain ⟨b1, vs1, e1, q1, t1⟩ := t1
    obtain ⟨b2, vs2, e2, q2, t2⟩ := t2
    subst e1 e2
    refine ⟨b1, b2, vs1, vs2, rfl, Same.seq a1.gh q1, Same.seq a1.gh q2, ?_⟩
    refine k _ _ _ _ _ _ hz s1 a1 fun i H2 G2 s2 g2 => ⟨fun hi => ?_, fun hi => ?_, fun x H3 hi hy => ?_⟩
    · have h1 : i < vs1.length := by rw [← t1.length]; omega
      have h2 : i < vs2.length := by rw [← t2.length]; omega
      exact ⟨vs1, vs2, vs1[i], vs2[i], Same.seq (s2.trans g2) q1, Same.seq (s2.trans g2) q2, List.getElem?_eq_getElem h1, List.getElem?_eq_getElem h2⟩
    · refine ⟨vs1, vs2, Same.seq (s2.trans g2) q1, Same.seq (s2.trans g2) q2, ?_⟩
      rw [← t1.length, ← t2.length]
      omega
    · obtain ⟨T, x', y', rfl, hT, rfl, f1, f2⟩ := hy
      obtain ⟨ρ1, i1, r1'⟩ := (t1.mono s2).get2 (f1 vs1 (Same.seq (s2.trans g2) q1))
      obtain ⟨ρ2, i2, r2'⟩ := (t2.mono s2).get2 (f2 vs2 (Same.seq (s2.trans g2) q2))
      have n := New.put (o := HO.tup [x', y']) g2 hT
      exact ⟨_, RTt [ρ1, ρ2], n, ⟨ρ1, ρ2, i1, i2, rfl⟩, T, [x', y'], rfl, upd_same, ρ1.mono _ _ _ n.gg r1', ρ2.mono _ _ _ n.gg r2', trivial⟩⟩
end
theorem cav_sum {K : PySem.W.Frag} {ns : List Int} : CaV (rSum K) [RLt (ns.map RI)] (RI ns.sum) := fun vs G H s r Q q => by
  match vs, r with
  | [v], ⟨⟨a, ws, e, h, rr⟩, _⟩ =>
    subst e
    rw [reps_RI rr] at h
    exact ⟨a, ns, rfl, .inl (.inl (s _ _ h)), q _ G H (New.refl s) rfl⟩
theorem eqv_ints {ns : List Int} : PyData.eqv (.list (ns.map PyData.int)) (.list (ns.map PyData.int)) = true := by
  have h : ∀ l : List Int, PyData.eqvAll (l.map PyData.int) (l.map PyData.int) = true := by
    intro l
    induction l with
    | nil => simp [PyData.eqvAll]
    | cons x l ih => simp [PyData.eqvAll, PyData.eqv, ih]
  simp only [PyData.eqv]
  exact h ns
theorem shaped_ints {ns : List Int} : SeqAt.shaped (.list (ns.map PyData.int)) = true := by
  have h : ∀ l : List Int, PyData.canLayAll0 (l.map PyData.int) = true := by
    intro l
    induction l with
    | nil => rfl
    | cons x l ih => simp [PyData.canLayAll0, PyData.canLay0, ih]
  have h2 : ∀ l : List Int, PyData.depthAll (l.map PyData.int) = 0 := by
    intro l
    induction l with
    | nil => rfl
    | cons x l ih => simp [PyData.depthAll, PyData.depth, ih]
  simp [SeqAt.shaped, PyData.canLay0, PyData.depth, h, h2]
theorem isD_ints {K : PySem.W.Frag} {ns : List Int} : IsD K (RLt (ns.map RI)) (.list (ns.map PyData.int)) := isD_lt (isDs_map (fun _ => isD_i) ns)
theorem atI_last {α : Type} {l : List α} {x : α} (h : l.getLast? = some x) : atI l (-1) = some x := by
  have hl : l ≠ [] := by
    intro e
    subst e
    cases h
  have h0 : 0 < l.length := List.length_pos_iff.mpr hl
  unfold atI ixN
  rw [if_neg (by decide)]
  rw [List.getLast?_eq_getElem?] at h
  rw [if_pos (by omega)]
  have e : ((-1 : Int) + (l.length : Int)).toNat = l.length - 1 := by omega
  rw [e]
  exact h
end MM

namespace MM
open PySem L2 PyProof.Rows
/-! ### zip(a list, a tuple) -/
section
abbrev lti (p : Addr) : Obj := { cls := .type "list_iterator", data := .fields #[.ref p, .int 0 0] }
abbrev tti (q : Addr) : Obj := { cls := .type "tuple_iterator", data := .fields #[.ref q, .int 0 0] }
abbrev mzA (h : Heap) (p : Addr) : Heap := h.push (lti p)
abbrev mzB (h : Heap) (p q : Addr) : Heap := (mzA h p).push (tti q)
abbrev mzC (h : Heap) (p q : Addr) : Heap := (mzB h p q).push { cls := .type "tuple", data := .seq #[.ref h.objs.size, .ref (mzA h p).objs.size] }
abbrev mzD (h : Heap) (p q : Addr) : Heap := (mzC h p q).push { cls := .type "tuple", data := .seq #[.none, .none] }
abbrev mzE (h : Heap) (p q : Addr) : Heap := (mzD h p q).push { cls := .type "zip", data := .fields #[.none, .bool false, .bool false, .ref (mzB h p q).objs.size, .ref (mzC h p q).objs.size] }
theorem zipM_new (p q : Addr) (xs ys : Array Value) : Meets (Builtin.«zip.__new__» ⟨[.type "zip", .ref p, .ref q], []⟩) (fun _ R s => s.heap.IsList p xs ∧ s.heap.IsTuple q ys ∧ R (.ok (.ret (.ref (mzD s.heap p q).objs.size))) { s with heap := mzE s.heap p q }) :=
  .of_wp fun pr wd ar R s hyp => by
    obtain ⟨hp, gn, dr, tk, os⟩ := s
    obtain ⟨y1, y2, res⟩ := hyp
    have isZ := sub_zip
    have A1 : Heap.IsList (Shared.heap ⟨hp, gn, dr, tk, os⟩) p xs := y1
    have A2 : Heap.IsTuple (Shared.heap ⟨hp.push (lti p), gn, dr, tk, os⟩) q ys := Heap.IsTuple.push y2 _
    wp_walk using wpAny_pyIter_list A1, wpAny_pyIter_tuple A2
    exact ⟨_, rfl, res⟩
variable {s : Shared} {prog : Program} {A : Around} {w : World} {E : Value → Shared → Prop}
structure ZipMAt (h : Heap) (N : Nat) (p q : Addr) (i : Nat) : Prop where
  z : IsZip h (N + 4) (N + 2) (N + 3) .none
  ti : IsTupOf2 h (N + 2) (.ref N) (.ref (N + 1))
  to_ : ∃ u v, IsTupOf2 h (N + 3) u v
  a : h.IsListIter N p i
  b : h.IsTupleIter (N + 1) q i
theorem zipM_call {p q : Addr} {xs ys : Array Value} {Q : Value → Shared → Prop} (y1 : s.heap.IsList p xs) (y2 : s.heap.IsTuple q ys)
    (res : ∀ h', ZipMAt h' s.heap.objs.size p q 0 → (∀ c o, s.heap.get? c = some o → h'.get? c = some o) → Q (.ref (s.heap.objs.size + 4)) { s with heap := h' }) : wpAny (model prog w) A (call (.type "zip") [.ref p, .ref q]) Q E s := by
  refine callType_new F.called_zip (by decide) (F.typeCall_zip_2 _ _) (F.newCall_zip_2 _ _) (fun o => F.args_object_init_3 o _ _) F.entry_zip_new (zipM_new p q xs ys) ⟨y1, y2, ?_⟩
  have n1 : (mzA s.heap p).objs.size = s.heap.objs.size + 1 := Heap.size_push ..
  have n2 : (mzB s.heap p q).objs.size = s.heap.objs.size + 2 := by rw [Heap.size_push, n1]
  have n3 : (mzC s.heap p q).objs.size = s.heap.objs.size + 3 := by rw [Heap.size_push, n2]
  have n4 : (mzD s.heap p q).objs.size = s.heap.objs.size + 4 := by rw [Heap.size_push, n3]
  have k5 : ∀ {c : Addr} {o : Obj}, (mzD s.heap p q).get? c = some o → (mzE s.heap p q).get? c = some o := fun e => Heap.get?_push_of_some _ e
  have k4 : ∀ {c : Addr} {o : Obj}, (mzC s.heap p q).get? c = some o → (mzE s.heap p q).get? c = some o := fun e => k5 (Heap.get?_push_of_some _ e)
  have k3 : ∀ {c : Addr} {o : Obj}, (mzB s.heap p q).get? c = some o → (mzE s.heap p q).get? c = some o := fun e => k4 (Heap.get?_push_of_some _ e)
  have k2 : ∀ {c : Addr} {o : Obj}, (mzA s.heap p).get? c = some o → (mzE s.heap p q).get? c = some o := fun e => k3 (Heap.get?_push_of_some _ e)
  have o5 : (mzE s.heap p q).get? (mzD s.heap p q).objs.size = some _ := Heap.get?_push_size _ rfl
  have o4 : (mzE s.heap p q).get? (mzC s.heap p q).objs.size = some _ := k5 (Heap.get?_push_size _ rfl)
  have o3 : (mzE s.heap p q).get? (mzB s.heap p q).objs.size = some _ := k4 (Heap.get?_push_size _ rfl)
  have o2 : (mzE s.heap p q).get? (mzA s.heap p).objs.size = some _ := k3 (Heap.get?_push_size _ rfl)
  have o1 : (mzE s.heap p q).get? s.heap.objs.size = some _ := k2 (Heap.get?_push_size _ rfl)
  show _ ∧ _
  rw [n2, n3, n4] at o5
  rw [n1, n2] at o3
  rw [n3] at o4
  rw [n1] at o2
  rw [n4]
  exact ⟨⟨_, o5, rfl⟩, res _ ⟨o5, o3, ⟨_, _, o4⟩, ⟨_, o1, rfl, rfl⟩, ⟨_, o2, rfl, rfl⟩⟩ fun c o e => k2 (Heap.get?_push_of_some _ e)⟩
end
/-- the items of the list at a and of the tuple at b, in new pairs -/
def ItzM (K : PySem.W.Frag) (a b : Addr) : It :=
  ⟨fun i H => ∃ (xs ys : List V) (x y : V), SqL K H a xs ∧ SqT K H b ys ∧ xs[i]? = some x ∧ ys[i]? = some y,
    fun i H v H' => ∃ T x y, v = .ref T ∧ H T = none ∧ H' = upd H T (.tup [x, y]) ∧ (∀ l, SqL K H a l → l[i]? = some x) ∧ ∀ l, SqT K H b l → l[i]? = some y,
    fun i H => ∃ l m : List V, SqL K H a l ∧ SqT K H b m ∧ (l.length ≤ i ∨ m.length ≤ i)⟩
def cells (N : Nat) : List Addr := [N + 4, N + 3, N + 2, N + 1, N]
theorem mem_cells {N : Nat} {c : Addr} (h : c ∈ cells N) : c = N + 4 ∨ c = N + 3 ∨ c = N + 2 ∨ c = N + 1 ∨ c = N := by simpa [cells] using h
theorem nN {a b : Nat} (h : a ≠ b) : ¬ @Eq Addr a b := h
theorem nM2 {a b c : Nat} (h1 : a ≠ b) (h2 : a ≠ c) : ¬ @Membership.mem Addr (List Addr) _ [b, c] a := fun h => by
  rcases List.mem_cons.mp h with e | h
  · exact h1 e
  · exact h2 (List.mem_singleton.mp h)
theorem sep_cells {N p q : Nat} (hp : p < N) (hq : q < N) : ZipSep2 (N + 4) (N + 2) (N + 3) N (N + 1) [N, p] [N + 1, q] :=
  ⟨nN (by omega), nN (by omega), nN (by omega), nN (by omega), List.mem_cons_self, nM2 (by omega) (by omega), nM2 (by omega) (by omega), nN (by omega), List.mem_cons_self, nM2 (by omega) (by omega), nM2 (by omega) (by omega), nM2 (by omega) (by omega), nM2 (by omega) (by omega)⟩
theorem far_cells {N : Nat} {c : Addr} (hb : c ∉ cells N) : c ≠ N + 4 ∧ c ≠ N + 3 ∧ c ≠ N ∧ c ≠ N + 1 := ⟨fun e => hb (by simp [cells, e]), fun e => hb (by simp [cells, e]), fun e => hb (by simp [cells, e]), fun e => hb (by simp [cells, e])⟩
/-- a list's iterator from the place i on; a tuple's -/
theorem drawsL {prog : Program} {w : World} {A : Around} (hh : A.handled = none) (it l : Addr) (hne : l ≠ it) (items : Array Value) (i : Nat) : Draws prog w A it [it, l] (items.size - i) (fun j v => items[i + j]? = some v) (fun j h => h.IsListIter it l (i + j) ∧ h.IsList l items) where
  live := fun _ _ st => ⟨_, st.1.choose_spec.1⟩
  frame := fun _ _ _ st k => ⟨st.1.at fun o e => k it (by simp) o e, st.2.at fun o e => k l (by simp) o e⟩
  item := fun j s Q E hj st q => by
    have hlt : i + j < items.size := by omega
    refine wpAny_nextOf_list_item st.1 st.2 (x := items[i + j]) (by simp [hlt]) fun h' y sb => ?_
    exact q _ h' s.toks (by simp [hlt]) ⟨y, st.2.extBut sb.extBut hne⟩ sb
  done := fun s Q E st q => wpAny_nextOf_list_end hh st.1 st.2 (by simp; omega) q
theorem drawsT {prog : Program} {w : World} {A : Around} (hh : A.handled = none) (it l : Addr) (hne : l ≠ it) (items : Array Value) (i : Nat) : Draws prog w A it [it, l] (items.size - i) (fun j v => items[i + j]? = some v) (fun j h => h.IsTupleIter it l (i + j) ∧ h.IsTuple l items) where
  live := fun _ _ st => ⟨_, st.1.choose_spec.1⟩
  frame := fun _ _ _ st k => ⟨st.1.at fun o e => k it (by simp) o e, st.2.at fun o e => k l (by simp) o e⟩
  item := fun j s Q E hj st q => by
    have hlt : i + j < items.size := by omega
    refine wpAny_nextOf_tuple_item st.1 st.2 (x := items[i + j]) (by simp [hlt]) fun h' y sb => ?_
    exact q _ h' s.toks (by simp [hlt]) ⟨y, st.2.extBut sb.extBut hne⟩ sb
  done := fun s Q E st q => wpAny_nextOf_tuple_end hh st.1 st.2 (by simp; omega) q
structure ZipMIn (N : Nat) (p q : Addr) (i : Nat) (h : Heap) : Prop extends ZipMAt h N p q i where
  lp : p < N
  lq : q < N
theorem turn_zipM {P : Program} {w : World} {K : PySem.W.Frag} {es : List Expr} {kk : Nat} {tp : Pos} {p q : Addr} {N : Nat} :
    Turn P w K (.Tuple es kk tp) (ItzM K p q) (cells N) (N + 4) (fun i h => ZipMIn N p q i h) where
  mem := by simp [cells]
  obj := fun i h st c hc => by
    obtain ⟨⟨z, ti, ⟨u, v, to_⟩, ⟨o1, e1, _, d1⟩, ⟨o2, e2, _, d2⟩⟩, _, _⟩ := st
    rcases mem_cells hc with rfl | rfl | rfl | rfl | rfl
    · exact ⟨_, z, fun v y => nomatch y⟩
    · exact ⟨_, to_, fun v y => nomatch y⟩
    · exact ⟨_, ti, fun v y => nomatch y⟩
    · exact ⟨o2, e2, fun v y => by rw [d2] at y; cases y⟩
    · exact ⟨o1, e1, fun v y => by rw [d1] at y; cases y⟩
  keep := fun i h h' st k => by
    obtain ⟨⟨z, ti, ⟨u, v, to_⟩, a, b⟩, lp, lq⟩ := st
    exact ⟨⟨k _ (by simp [cells]) _ z, k _ (by simp [cells]) _ ti, ⟨u, v, k _ (by simp [cells]) _ to_⟩, a.at fun o y => k _ (by simp [cells]) o y, b.at fun o y => k _ (by simp [cells]) o y⟩, lp, lq⟩
  item := by
    intro X eP ew eK hc i pins s σ H E I hf st hg
    subst eP ew eK
    obtain ⟨⟨z, ti, ⟨u0, v0, to_⟩, a, b⟩, lp, lq⟩ := st
    obtain ⟨xs, ys, x, y, qx, qy, hx, hy⟩ := hg
    obtain ⟨its, rv, px, _⟩ := I.list qx
    obtain ⟨its2, rv2, py, _⟩ := I.tuple qy
    obtain ⟨u, hu, ru⟩ := rv.get (i := i) hx
    obtain ⟨v, hv, rv'⟩ := rv2.get hy
    have hh : X.A.in1.handled = none := I.ok.hd hc
    have S := sep_cells lp lq
    have i1 : i < its.length := (List.getElem?_eq_some_iff.mp hu).1
    have i2 : i < its2.length := (List.getElem?_eq_some_iff.mp hv).1
    have nz : N + 4 < s.heap.objs.size := Heap.lt_size z
    refine wpAny_pyNext_zipD2_item (i := 0) S (drawsL hh N p (Nat.ne_of_lt lp) its.toArray i) (drawsT hh (N + 1) q (Nat.ne_of_lt (Nat.lt_succ_of_lt lq)) its2.toArray i) z ti to_ ⟨a, px.isList⟩ ⟨b, py⟩ (by simp; omega) (by simp; omega) fun x1 x2 h' tk p1 p2 z' to' st1 st2 new sz k => ?_
    have ex1 : x1 = u := by
      have : its[i]? = some x1 := by simpa using p1
      rw [hu] at this
      exact Option.some.inj this.symm
    have ex2 : x2 = v := by
      have : its2[i]? = some x2 := by simpa using p2
      rw [hv] at this
      exact Option.some.inj this.symm
    subst ex1 ex2
    refine ⟨_, rfl, wpAny_letOwnedTupleGo_zip (s := { s with heap := h', toks := tk }) z' fun h2 z2 sb => ?_⟩
    have T2 : h2.get? s.heap.objs.size = some { cls := .type "tuple", data := .seq #[x1, x2] } := (sb.2 _ (Nat.ne_of_gt nz)).trans new
    have nw : ObjOk X.prog X.w (upd H s.heap.objs.size (.tup [x, y])) h2 s.heap.objs.size (.tup [x, y]) := ⟨by show 2 ≤ sizeLine; decide, [x1, x2], .cons ru (.cons rv' .nil), ⟨_, T2, rfl, _, rfl⟩⟩
    have I2 : Inv X pins σ (upd H s.heap.objs.size (.tup [x, y])) { s with heap := h2, toks := tk } :=
      I.turnedNew (t' := tk) (ch := cells N) (fun c o hb e => (sb.2 c (far_cells hb).1).trans (k c o (far_cells hb).1 (far_cells hb).2.1 (far_cells hb).2.2.1 (far_cells hb).2.2.2 e)) hf (Nat.le_refl _) nw
    refine ⟨.ref s.heap.objs.size, _, I2, rfl, ⟨_, x, y, rfl, I.hok.fresh (Nat.le_refl _), rfl, fun l hl => by rw [I.list_inj hl qx]; exact hx, fun l hl => by rw [I.tuple_inj hl qy]; exact hy⟩, ⟨⟨z2, ?_, ⟨x1, x2, ?_⟩, ?_, ?_⟩, lp, lq⟩, fun c hcm => ?_⟩
    · exact (sb.2 _ (nN (by omega))).trans (k _ _ (nN (by omega)) (nN (by omega)) (nN (by omega)) (nN (by omega)) ti)
    · exact (sb.2 _ (nN (by omega))).trans to'
    · have := st1.1
      simp only [Nat.zero_add] at this
      exact this.at fun o e => (sb.2 _ (nN (by omega))).trans e
    · have := st2.1
      simp only [Nat.zero_add] at this
      exact this.at fun o e => (sb.2 _ (nN (by omega))).trans e
    · have hlt : @LT.lt Nat _ c s.heap.objs.size := by
        rcases mem_cells hcm with e | e | e | e | e <;> (have e : @Eq Nat c _ := e; omega)
      exact (upd_ne (Nat.ne_of_lt hlt)).trans (hf c hcm).1
  done := by
    intro X eP ew eK hc i pins s σ H E I hf st hg
    subst eP ew eK
    obtain ⟨⟨z, ti, ⟨u0, v0, to_⟩, a, b⟩, lp, lq⟩ := st
    obtain ⟨xs, ys, qx, qy, hend⟩ := hg
    obtain ⟨its, rv, px, _⟩ := I.list qx
    obtain ⟨its2, rv2, py, _⟩ := I.tuple qy
    have hh : X.A.in1.handled = none := I.ok.hd hc
    have S := sep_cells lp lq
    have l1 := rv.length
    have l2 := rv2.length
    refine wpAny_pyNext_zipD2_end (i := 0) S (drawsL hh N p (Nat.ne_of_lt lp) its.toArray i) (drawsT hh (N + 1) q (Nat.ne_of_lt (Nat.lt_succ_of_lt lq)) its2.toArray i) z ti to_ ⟨a, px.isList⟩ ⟨b, py⟩ (by omega) (by omega) (by simp; omega) fun h' tk k => ?_
    exact ⟨rfl, I.turnedL (t' := tk) (ch := cells N) (fun c o hb e => k c o (far_cells hb).1 (far_cells hb).2.1 (far_cells hb).2.2.1 (far_cells hb).2.2.2 e) hf⟩
  self := fun A i s Q E st h => wpAny_pyIter_zip st.z h
def iZipM (K : PySem.W.Frag) (ta : TA) : TI := fun σ H R => ta σ H fun vs H1 => ∃ a b xs ys, vs = [.ref a, .ref b] ∧ SqL K H1 a xs ∧ SqT K H1 b ys ∧ R (ItzM K a b) H1
theorem pi_zipM {X : Cx} {e e2 : Expr} {ta : TA} {p pos tpos : Pos} {es : List Expr} {kk : Nat} (hg : Gl X "zip") (hm : X.mg "zip" = none) (ha : PA X [e, e2] ta)
    (hs : starEach [e, e2] X.env = (false, eval e X.env) :: starEach [e2] X.env := by rfl) (hpl : (backTo pos (starEach [e2] X.env)).any (·.1) = false := by rfl) : PI X (.Tuple es kk tpos) (.Call (.Name "zip" p) [e, e2] [] pos) (iZipM X.K ta) := by
  refine ⟨fun pins s σ H R I hw => ?_⟩
  refine Call_ (ld_blt I hg hm PyProof.Rows.boot_zip (PyProof.Rows.callWith_type1 (thn (ha.run pos pins s σ H _ I hw) fun us s1 ⟨vs, H1, I1, r1, a, b, xs, ys, ex, qx, qy, q⟩ => ?_) hs hpl))
  subst ex
  obtain ⟨u, v, rfl, r2, r3⟩ := vals2 r1
  cases r2
  cases r3
  obtain ⟨its, rv, p1, _⟩ := I1.list qx
  obtain ⟨its2, rv2, p2, _⟩ := I1.tuple qy
  have la : @LT.lt Nat _ a s1.heap.objs.size := p1.lt
  have lb : b < s1.heap.objs.size := by
    obtain ⟨o, ho, _⟩ := id p2
    exact Heap.lt_size ho
  refine zipM_call p1.isList p2 fun h' z k => wpAny_pyIter_zip z.z ?_
  have I2 : Inv X pins σ H1 { s1 with heap := h' } := I1.kept (t' := s1.toks) k
  refine ⟨s1.heap.objs.size + 4, cells s1.heap.objs.size, _, _, H1, rfl, I2, turn_zipM, ⟨z, la, lb⟩, fun c hc => ?_, q⟩
  have hle : @LE.le Nat _ s1.heap.objs.size c := by
    rcases mem_cells hc with e | e | e | e | e <;> (have e : @Eq Nat c _ := e; omega)
  exact I1.fpOk (b := c) hle (I1.hok.fresh (a := c) hle)
section
variable {X : Cx} {E : En} {Γ : Gm} {M : Ow} {a b : Expr}
theorem src_zipM {Z : Ow → Nat → (Nat → Rep → Prop) → Prop} (h : WA X E Γ M [a, b] fun ρs M1 => ∃ r1 r2, SubL ρs [RL X.K r1, RT X.K r2] ∧ Z M1 (min r1.length r2.length) fun i ρ => ∃ ρ1 ρ2, r1[i]? = some ρ1 ∧ r2[i]? = some ρ2 ∧ ρ = RTt [ρ1, ρ2]) : Src X E Γ M (iZipM X.K (tWA X [a, b])) Z :=
  ⟨fun {σ G H} R a' k => h σ G H a' _ fun ρs M1 vs G1 H1 ⟨r1, r2, sb, hz⟩ s1 a1 rr => by
    obtain ⟨v, u, rfl, ⟨p, xs, e1, h1, x1⟩, ⟨q, ys, e2, h2, y1⟩⟩ := reps2 (sb.reps rr)
    subst e1 e2
    have q1 : ∀ {H2 G2 : Hp}, Same G1 G2 → Same G2 H2 → SqL X.K H2 p xs := fun s g => Same.seq (s.trans g) h1
    have q2 : ∀ {H2 G2 : Hp}, Same G1 G2 → Same G2 H2 → SqT X.K H2 q ys := fun s g => same_seqT (s.trans g) h2
    refine ⟨p, q, xs, ys, rfl, Same.seq a1.gh h1, same_seqT a1.gh h2, k _ _ _ _ _ _ hz s1 a1 fun i H2 G2 s2 g2 => ⟨fun hi => ?_, fun hi => ?_, fun x H3 hi ⟨T, x2, y2, e3, hT, e4, z1, z2⟩ => ?_⟩⟩
    · have i1 : i < xs.length := by rw [← x1.length]; omega
      have i2 : i < ys.length := by rw [← y1.length]; omega
      exact ⟨xs, ys, xs[i], ys[i], q1 s2 g2, q2 s2 g2, by simp [i1], by simp [i2]⟩
    · refine ⟨xs, ys, q1 s2 g2, q2 s2 g2, ?_⟩
      rw [← x1.length, ← y1.length]
      omega
    · subst e3 e4
      obtain ⟨ρ1, e5, r5⟩ := (x1.mono s2).get2 (z1 xs (q1 s2 g2))
      obtain ⟨ρ2, e6, r6⟩ := (y1.mono s2).get2 (z2 ys (q2 s2 g2))
      have nw : New G2 H2 (upd G2 T (.tup [x2, y2])) (upd H2 T (.tup [x2, y2])) := New.put g2 hT
      exact ⟨_, RTt [ρ1, ρ2], nw, ⟨ρ1, ρ2, e5, e6, rfl⟩, T, [x2, y2], rfl, upd_same, ρ1.mono _ _ _ nw.gg r5, ρ2.mono _ _ _ nw.gg r6, trivial⟩⟩
end
end MM

namespace MM
open PySem L2 PyProof.Rows
theorem reps1 {ρ1 : Rep} {vs : List V} {G : Hp} (h : Reps [ρ1] vs G) : ∃ v, vs = [v] ∧ ρ1.p v G :=
  match vs, h with
  | [v], ⟨a, _⟩ => ⟨v, rfl, a⟩
section
variable {X : Cx} {E : En} {Γ : Gm} {M : Ow} {a b e iter tg : Expr} {body : List Stmt} {pos p : Pos} {Ψ : Ed} {wi : TI}
/-- a loop over any source -/
theorem ws_for_src (hp : PassesOwn (model X.prog X.w) X.A X.env X.xe) (hc : X.calm = true) (hi : PI X tg iter wi) (src : Src X E Γ M wi fun M1 n item => ForK X E Γ M1 tg body Ψ n item)
    (hs : ∀ x, foldedSetIterable iter X.env x = pure x := by intro _; rfl) : WS X E Γ M (.For tg iter body [] pos) Ψ :=
  ws_of (ps_for hp hc hi pg_w pss_w hs) fun σ G H at_ D k => src.lc _ at_ fun J M1 n item G1 H1 ⟨I, h0, ht, hd⟩ s1 a1 hJ => by
    have ks := k.mono s1
    refine ⟨fun i m σ H => m = n - i ∧ i ≤ n ∧ ∃ Γ' M' G', I i Γ' M' ∧ Same G1 G' ∧ At E Γ' M' σ G' H, ⟨n, rfl, Nat.zero_le _, Γ, M1, G1, h0, Same.refl _, a1⟩, ?_⟩
    rintro i m σ2 H2 ⟨rfl, hi, Γ', M', G', hI, s', a'⟩
    obtain ⟨j1, j2, j3⟩ := hJ i H2 G' s' a'.gh
    by_cases hlt : i < n
    · refine .inr ⟨j1 hlt, fun σ' H' => ∃ Γ2 M2 G2, I (i + 1) Γ2 M2 ∧ Same G1 G2 ∧ At E Γ2 M2 σ' G2 H', fun σ' H' hN => ⟨n - (i + 1), by omega, rfl, by omega, hN⟩, fun x H' hy => ?_⟩
      obtain ⟨G3, ρ, n3, hit, rx⟩ := j3 x H' hlt hy
      have a3 := a'.new n3
      have t := for_turn ks (ht i ρ Γ' M' hlt hit hI) (s'.trans n3.gg) a3 rx
      exact t
    · have e : i = n := by omega
      subst e
      exact .inl ⟨j2 (Nat.le_refl _), ks.nx _ _ (hd _ _ hI) _ _ _ s' a'⟩
theorem src_enum {Z : Ow → Nat → (Nat → Rep → Prop) → Prop} (h : WA X E Γ M [e] fun ρs M1 => ∃ r1, SubL ρs [RL X.K r1] ∧ Z M1 r1.length fun i ρ => ∃ ρ1, r1[i]? = some ρ1 ∧ ρ = RTt [RI (i : Int), ρ1]) : Src X E Γ M (iEnum X.K (tWA X [e])) Z :=
  ⟨fun {σ G H} R a' k => h σ G H a' _ fun ρs M1 vs G1 H1 ⟨l1, sb, hz⟩ s1 a1 r1 => by
    obtain ⟨v, rfl, t1⟩ := reps1 (sb.reps r1)
    obtain ⟨b1, vs1, e1, q1, t1⟩ := t1
    subst e1
    refine ⟨b1, vs1, rfl, Same.seq a1.gh q1, ?_⟩
    refine k _ _ _ _ _ _ hz s1 a1 fun i H2 G2 s2 g2 => ⟨fun hi => ?_, fun hi => ?_, fun x H3 hi hy => ?_⟩
    · have h1 : i < vs1.length := by rw [← t1.length]; exact hi
      exact ⟨vs1, vs1[i], Same.seq (s2.trans g2) q1, List.getElem?_eq_getElem h1⟩
    · exact ⟨vs1, Same.seq (s2.trans g2) q1, by rw [← t1.length]; exact hi⟩
    · obtain ⟨T, x', rfl, hT, rfl, f1⟩ := hy
      obtain ⟨ρ1, i1, r1'⟩ := (t1.mono s2).get2 (f1 vs1 (Same.seq (s2.trans g2) q1))
      have n := New.put (o := HO.tup [.int (i : Nat), x']) g2 hT
      exact ⟨_, RTt [RI (i : Int), ρ1], n, ⟨ρ1, i1, rfl⟩, T, [.int (i : Nat), x'], rfl, upd_same, rfl, ρ1.mono _ _ _ n.gg r1', trivial⟩⟩
end
end MM

namespace MM
open PySem L2 PyProof.Rows
/-! ### enumerate(a tuple) -/
section
abbrev enO (N : Nat) : Obj := { cls := .type "enumerate", data := .fields #[.none, .bool false, .ref N, rawInt 0, .none, .none] }
set_option maxHeartbeats 8000000 in
theorem enumT_new (t : Addr) (ys : Array Value) : Meets (Builtin.«enumerate.__new__» ⟨[.type "enumerate", .ref t], []⟩) (fun _ R s => s.heap.IsTuple t ys ∧ R (.ok (.ret (.ref (s.heap.push (tti t)).objs.size))) { s with heap := (s.heap.push (tti t)).push (enO s.heap.objs.size) }) :=
  .of_wp fun pr wd ar R s hyp => by
    obtain ⟨hp, gn, dr, tk, os⟩ := s
    obtain ⟨y, res⟩ := hyp
    have isE := sub_enumerate
    have Y : Heap.IsTuple (Shared.heap ⟨hp, gn, dr, tk, os⟩) t ys := y
    wp_walk using wpAny_pyIter_tuple Y
    refine wpAny_stack_any fun st => wpAny_pure ?_
    split
    · rename_i c _ _ _ _ _
      cases (c == Value.type "enumerate") <;> (wp_walk using wpAny_pyIter_tuple Y; exact ⟨_, rfl, res⟩)
    · wp_walk using wpAny_pyIter_tuple Y
      exact ⟨_, rfl, res⟩
variable {s : Shared} {prog : Program} {A : Around} {w : World} {E : Value → Shared → Prop}
theorem enumT_call {t : Addr} {ys : Array Value} {Q : Value → Shared → Prop} (y : s.heap.IsTuple t ys)
    (res : ∀ h', IsEnum h' (s.heap.objs.size + 1) s.heap.objs.size 0 .none → h'.IsTupleIter s.heap.objs.size t 0 → (∀ c o, s.heap.get? c = some o → h'.get? c = some o) → Q (.ref (s.heap.objs.size + 1)) { s with heap := h' }) : wpAny (model prog w) A (call (.type "enumerate") [.ref t]) Q E s := by
  refine callType_new F.called_enumerate (by decide) (F.typeCall_enumerate_1 _) (F.newCall_enumerate_1 _) (fun o => F.args_object_init_2 o _) F.entry_enumerate_new (enumT_new t ys) ⟨y, ?_⟩
  have n1 : (s.heap.push (tti t)).objs.size = s.heap.objs.size + 1 := Heap.size_push ..
  have o2 : ((s.heap.push (tti t)).push (enO s.heap.objs.size)).get? (s.heap.push (tti t)).objs.size = some _ := Heap.get?_push_size _ rfl
  have o1 : ((s.heap.push (tti t)).push (enO s.heap.objs.size)).get? s.heap.objs.size = some _ := Heap.get?_push_of_some _ (Heap.get?_push_size _ rfl)
  show _ ∧ _
  rw [n1] at o2 ⊢
  exact ⟨⟨_, o2, rfl⟩, res _ o2 ⟨_, o1, rfl, rfl⟩ fun c o e => Heap.get?_push_of_some _ (Heap.get?_push_of_some _ e)⟩
end
/-- the items of the tuple at a, each with its place, in new pairs -/
def IteT (K : PySem.W.Frag) (a : Addr) : It :=
  ⟨fun i H => ∃ (xs : List V) (x : V), SqT K H a xs ∧ xs[i]? = some x,
    fun i H v H' => ∃ T x, v = .ref T ∧ H T = none ∧ H' = upd H T (.tup [.int (i : Nat), x]) ∧ ∀ l, SqT K H a l → l[i]? = some x,
    fun i H => ∃ l : List V, SqT K H a l ∧ l.length ≤ i⟩
structure EnTIn (N a : Addr) (i : Nat) (h : Heap) : Prop where
  e : ∃ old, IsEnum h (N + 1) N ((i : Nat) : Int) old
  it : h.IsTupleIter N a i
  la : a < N
theorem turn_enumT {P : Program} {w : World} {K : PySem.W.Frag} {es : List Expr} {kk : Nat} {tp : Pos} {a N : Addr} : Turn P w K (.Tuple es kk tp) (IteT K a) [N + 1, N] (N + 1) (fun i h => EnTIn N a i h) where
  mem := List.mem_cons_self
  obj := fun i h st c hc => by
    obtain ⟨⟨old, e⟩, ⟨o, ho, _, hd⟩, _⟩ := st
    rcases List.mem_cons.mp hc with rfl | hc
    · exact ⟨_, e, fun v y => nomatch y⟩
    · rw [List.mem_singleton] at hc
      subst hc
      exact ⟨o, ho, fun v y => by rw [hd] at y; cases y⟩
  keep := fun i h h' st k => by
    obtain ⟨⟨old, e⟩, it, la⟩ := st
    exact ⟨⟨old, k _ (by simp) _ e⟩, it.at fun o y => k _ (by simp) o y, la⟩
  item := by
    intro X eP ew eK hc i pins s σ H E I hf st hg
    subst eP ew eK
    obtain ⟨⟨old, e⟩, it, la⟩ := st
    obtain ⟨xs, x, qx, hx⟩ := hg
    obtain ⟨its, rv, px, _⟩ := I.tuple qx
    obtain ⟨u, hu, ru⟩ := rv.get (i := i) hx
    have hh : X.A.in1.handled = none := I.ok.hd hc
    have lt : i < its.length := (List.getElem?_eq_some_iff.mp hu).1
    have nz : N + 1 < s.heap.objs.size := Heap.lt_size e
    have nN1 : ¬ @Eq Addr (N + 1) N := nN (by omega)
    have la' : @LT.lt Nat _ a N := la
    have D := Draws.tuple (prog := X.prog) (w := X.w) hh N a (Nat.ne_of_lt la) its.toArray
    refine wpAny_pyNext_enum_itemD D e ⟨it, px⟩ (by simpa using lt) nN1 (nM2 (by omega) (by omega)) fun y h' tk hy ho st' hT hz k => ?_
    have ey : y = u := by
      have hy : its.toArray[i]? = some y := hy
      have : its[i]? = some y := by simpa using hy
      rw [hu] at this
      exact Option.some.inj this.symm
    subst ey
    refine ⟨_, rfl, wpAny_letOwnedTupleGo_enum (s := { s with heap := h', toks := tk + 1 }) ho fun h2 e2 sb => ?_⟩
    have T2 : h2.get? s.heap.objs.size = some { cls := .type "tuple", data := .seq #[.int i tk, y] } := (sb.2 _ (Nat.ne_of_gt nz)).trans hT
    have nw : ObjOk X.prog X.w (upd H s.heap.objs.size (.tup [.int (i : Nat), x])) h2 s.heap.objs.size (.tup [.int (i : Nat), x]) := ⟨by show 2 ≤ sizeLine; decide, [.int i tk, y], .cons ⟨_, rfl⟩ (.cons ru .nil), ⟨_, T2, rfl, _, rfl⟩⟩
    have away : ∀ c : Addr, c ∉ [N + 1, N] → c ≠ N + 1 ∧ c ≠ N := fun c hc => ⟨fun z => hc (by simp [z]), fun z => hc (by simp [z])⟩
    have I2 : Inv X pins σ (upd H s.heap.objs.size (.tup [.int (i : Nat), x])) { s with heap := h2, toks := tk + 1 } :=
      I.turnedNew (t' := tk + 1) (ch := [N + 1, N]) (fun c o hb q => (sb.2 c (away c hb).1).trans (k c o (away c hb).1 (away c hb).2 q)) hf (Nat.le_refl _) nw
    refine ⟨.ref s.heap.objs.size, _, I2, rfl, ⟨_, x, rfl, I.hok.fresh (Nat.le_refl _), rfl, fun l hl => by rw [I.tuple_inj hl qx]; exact hx⟩, ⟨⟨y, ?_⟩, ?_, la⟩, fun c hcm => ?_⟩
    · have e1 : ((i + 1 : Nat) : Int) = (i : Int) + 1 := by omega
      rw [e1]
      exact e2
    · exact st'.1.at fun o q => (sb.2 _ (nN (by omega))).trans q
    · have hlt : @LT.lt Nat _ c s.heap.objs.size := by
        rcases List.mem_cons.mp hcm with z | z
        · rw [z]
          exact nz
        · rw [List.mem_singleton.mp z]
          exact Nat.lt_of_succ_lt nz
      exact (upd_ne (Nat.ne_of_lt hlt)).trans (hf c hcm).1
  done := by
    intro X eP ew eK hc i pins s σ H E I hf st hg
    subst eP ew eK
    obtain ⟨⟨old, e⟩, it, la⟩ := st
    obtain ⟨l, ql, hend⟩ := hg
    obtain ⟨its, rv, px, _⟩ := I.tuple ql
    have hh : X.A.in1.handled = none := I.ok.hd hc
    have ll := rv.length
    have D := drawsT (prog := X.prog) (w := X.w) hh N a (Nat.ne_of_lt la) its.toArray i
    have z0 : its.toArray.size - i = 0 := by
      rw [List.size_toArray]
      omega
    obtain ⟨f0, f1, f2, f3, f4, f5⟩ := hf N (by simp)
    refine wpAny_pyNext_enum_endD D e (by rw [z0]; exact ⟨it, px⟩) fun h' eb => ?_
    exact ⟨rfl, I.turned (t' := s.toks) (fun b o hb q => eb b o hb q) f0 f1 f3 f4 f5⟩
  self := fun A i s Q E st h => by
    obtain ⟨⟨_, e⟩, _, _⟩ := st
    exact wpAny_pyIter_enum e h
def iEnumT (K : PySem.W.Frag) (ta : TA) : TI := fun σ H R => ta σ H fun vs H1 => ∃ a xs, vs = [.ref a] ∧ SqT K H1 a xs ∧ R (IteT K a) H1
theorem pi_enumT {X : Cx} {e : Expr} {ta : TA} {p pos tpos : Pos} {es : List Expr} {kk : Nat} (hg : Gl X "enumerate") (hm : X.mg "enumerate" = none) (ha : PA X [e] ta) (hs : starEach [e] X.env = [(false, eval e X.env)] := by rfl) :
    PI X (.Tuple es kk tpos) (.Call (.Name "enumerate" p) [e] [] pos) (iEnumT X.K ta) := by
  refine ⟨fun pins s σ H R I hw => ?_⟩
  refine Call_ (ld_blt I hg hm boot_enumerate (PyProof.Rows.callWith_type1 (thn (ha.run pos pins s σ H _ I hw) fun us s1 ⟨vs, H1, I1, r1, a, xs, ex, qx, q⟩ => ?_) hs rfl))
  subst ex
  obtain ⟨u, rfl, ru⟩ := vals1 r1
  cases ru
  obtain ⟨its, rv, px, _⟩ := I1.tuple qx
  have la : @LT.lt Nat _ a s1.heap.objs.size := by
    obtain ⟨o, ho, _⟩ := id px
    exact Heap.lt_size ho
  refine enumT_call px fun h' z it k => wpAny_pyIter_enum z ?_
  have I2 : Inv X pins σ H1 { s1 with heap := h' } := I1.kept (t' := s1.toks) k
  refine ⟨s1.heap.objs.size + 1, [s1.heap.objs.size + 1, s1.heap.objs.size], _, _, H1, rfl, I2, turn_enumT, ⟨⟨_, z⟩, it, la⟩, fun c hc => ?_, q⟩
  have hle : @LE.le Nat _ s1.heap.objs.size c := by
    rcases List.mem_cons.mp hc with z | z
    · have z : @Eq Nat c _ := z
      omega
    · have z : @Eq Nat c _ := List.mem_singleton.mp z
      omega
  exact I1.fpOk (b := c) hle (I1.hok.fresh (a := c) hle)
section
variable {X : Cx} {E : En} {Γ : Gm} {M : Ow} {e : Expr}
theorem src_enumT {Z : Ow → Nat → (Nat → Rep → Prop) → Prop} (h : WA X E Γ M [e] fun ρs M1 => ∃ r1, SubL ρs [RT X.K r1] ∧ Z M1 r1.length fun i ρ => ∃ ρ1, r1[i]? = some ρ1 ∧ ρ = RTt [RI (i : Int), ρ1]) : Src X E Γ M (iEnumT X.K (tWA X [e])) Z :=
  ⟨fun {σ G H} R a' k => h σ G H a' _ fun ρs M1 vs G1 H1 ⟨l1, sb, hz⟩ s1 a1 r1 => by
    obtain ⟨v, rfl, p1, vs1, e1, q1, t1⟩ := reps1 (sb.reps r1)
    subst e1
    have at_ : ∀ {H2 G2 : Hp}, Same G1 G2 → Same G2 H2 → SqT X.K H2 p1 vs1 := fun s g => same_seqT (s.trans g) q1
    refine ⟨p1, vs1, rfl, same_seqT a1.gh q1, k _ _ _ _ _ _ hz s1 a1 fun i H2 G2 s2 g2 => ⟨fun hi => ?_, fun hi => ⟨vs1, at_ s2 g2, by rw [← t1.length]; exact hi⟩, fun x H3 hi ⟨T, x2, e3, hT, e4, z1⟩ => ?_⟩⟩
    · have lt : i < vs1.length := by rw [← t1.length]; exact hi
      exact ⟨vs1, vs1[i], at_ s2 g2, List.getElem?_eq_getElem lt⟩
    · subst e3 e4
      obtain ⟨ρ1, i1, r2⟩ := (t1.mono s2).get2 (z1 vs1 (at_ s2 g2))
      have n := New.put (o := HO.tup [.int (i : Nat), x2]) g2 hT
      exact ⟨_, RTt [RI (i : Int), ρ1], n, ⟨ρ1, i1, rfl⟩, T, [.int (i : Nat), x2], rfl, upd_same, rfl, ρ1.mono _ _ _ n.gg r2, trivial⟩⟩
end
end MM

namespace MM
open PySem L2 PyProof.Rows
/-! ### zip(a list, a list, strict=True), lists as long as each other -/
section
variable {prog : Program} {w : World} {A : Around} {E : Value → Shared → Prop} {s : Shared} {it : Addr} {fp : List Addr} {n i : Nat} {P : Nat → Value → Prop} {St : Nat → Heap → Prop}
theorem ask_more {Q : Option Value → Shared → Prop} (D : Draws prog w A it fp n P St) (hi : i < n) (st : St i s.heap) (k : ∀ x h' tk, P i x → St (i + 1) h' → Heap.SameBut it s.heap h' → Q (some x) { s with heap := h', toks := tk }) : wpAny (model prog w) A (Builtin.SmallTypes.nextOrEnd (.ref it)) Q E s := by
  unfold Builtin.SmallTypes.nextOrEnd
  exact wpAny_bind (wpAny_attempt (D.item i s _ _ hi st fun x h' tk hx st' sb => wpAny_pure (k x h' tk hx st' sb)))
theorem ask_end {Q : Option Value → Shared → Prop} (D : Draws prog w A it fp n P St) (st : St n s.heap) (k : ∀ h', Heap.ExtBut it s.heap h' → Q none { s with heap := h' }) : wpAny (model prog w) A (Builtin.SmallTypes.nextOrEnd (.ref it)) Q E s := by
  unfold Builtin.SmallTypes.nextOrEnd
  refine wpAny_bind (wpAny_attempt (D.done s _ _ st fun h' e ex ⟨o, ho, hc⟩ => ?_))
  exact wpAny_bind (wpAny_isInstance (T := "StopIteration") (b := true) ⟨o, ho, hc⟩ isSubtype_stop (wpAny_pure (k h' ex)))
end
/-- the zip at z, strict -/
abbrev ZS (h : Heap) (z TI TO : Addr) (f0 : Value) : Prop := h.get? z = some { cls := .type "zip", dict := none, data := .fields #[f0, .bool false, .bool true, .ref TI, .ref TO], slots := #[] }
section
variable {prog : Program} {w : World} {A : Around} {E : Value → Shared → Prop} {s : Shared} {z TI TO i1 i2 : Addr} {fp1 fp2 : List Addr} {n i : Nat} {P1 P2 : Nat → Value → Prop} {St1 St2 : Nat → Heap → Prop} {a1 a2 : Value}
set_option maxHeartbeats 8000000 in
theorem strict_item {Q : Value → Shared → Prop} (S : ZipSep2 z TI TO i1 i2 fp1 fp2) (D1 : Draws prog w A i1 fp1 n P1 St1) (D2 : Draws prog w A i2 fp2 n P2 St2)
    (hz : ZS s.heap z TI TO .none) (ti : IsTupOf2 s.heap TI (.ref i1) (.ref i2)) (to_ : IsTupOf2 s.heap TO a1 a2) (st1 : St1 i s.heap) (st2 : St2 i s.heap) (lt : i < n)
    (res : ∀ x y h' tk, P1 i x → P2 i y → ZS h' z TI TO (rawInt s.heap.objs.size) → IsTupOf2 h' TO x y → St1 (i + 1) h' → St2 (i + 1) h' → IsTupOf2 h' s.heap.objs.size x y →
      (∀ c o, c ≠ z → c ≠ TO → c ≠ i1 → c ≠ i2 → s.heap.get? c = some o → h'.get? c = some o) → Q (.ref s.heap.objs.size) { s with heap := h', toks := tk }) :
    wpAny (model prog w) A (Builtin.«zip.__next__» ⟨[.ref z], []⟩) (fun fin s' => ∃ v, fin = .done (.ret v) ∧ Q v s') E s := by
  obtain ⟨hp, gn, dr, tk, os⟩ := s
  refine wpAny_bind (m := field (.ref z) 2) (wpAny_field hz rfl (x := .bool true) rfl ?_)
  refine wpAny_bind (m := field (.ref z) 3) (wpAny_field hz rfl (x := .ref TI) rfl ?_)
  refine wpAny_bind (wpAny_seqItems ti rfl ?_)
  refine wpAny_bind (m := Builtin.SmallTypes.ownedTupleIsFree (.ref z)) ?_
  unfold Builtin.SmallTypes.ownedTupleIsFree
  refine wpAny_bind (wpAny_field hz rfl (x := .none) rfl (wpAny_pure ?_))
  simp only [if_true]
  refine wpAny_bind (wpAny_rule (wpAny_bind (wpAny_field hz rfl (x := .ref TO) rfl ?_)))
  refine wpAny_bind (wpAny_setField_rec hz (by simp) fun b0 z0 c0 => ?_)
  replace z0 : ZS b0 z TI TO .ellipsis := z0
  replace c0 : Heap.SameBut z hp b0 := c0
  simp only [List.zipIdx_cons, List.zipIdx_nil, List.forIn_cons, List.forIn_nil]
  refine wpAny_bind (wpAny_bind (wpAny_bind (wpAny_onRaise ?_)))
  show wpAny _ _ (Builtin.SmallTypes.nextOrEnd (.ref i1)) _ _ ⟨b0, gn, dr, tk, os⟩
  refine ask_more D1 lt (D1.over st1 c0 S.zf1) fun x b1 t1 hx s1 c1 => ?_
  replace c1 : Heap.SameBut i1 b0 b1 := c1
  have u1 : IsTupOf2 b1 TO a1 a2 := c1.extBut _ _ S.Ti1 (c0.extBut _ _ S.TOz to_)
  refine wpAny_bind (wpAny_seqItems (s := ⟨b1, gn, dr, t1, os⟩) u1 rfl ?_)
  refine wpAny_bind (updateSeq_IsTupOf2 (s := ⟨b1, gn, dr, t1, os⟩) u1 fun b2 u2 c2 => ?_)
  replace u2 : IsTupOf2 b2 TO x a2 := u2
  replace c2 : Heap.SameBut TO b1 b2 := c2
  refine wpAny_bind (wpAny_letGo (wpAny_pure ?_))
  refine wpAny_bind (wpAny_bind (wpAny_onRaise ?_))
  show wpAny _ _ (Builtin.SmallTypes.nextOrEnd (.ref i2)) _ _ ⟨b2, gn, dr, t1, os⟩
  refine ask_more D2 lt (D2.over (D2.over (D2.over st2 c0 S.zf2) c1 S.sep1_2) c2 S.Tf2) fun y b3 t2 hy s2 c3 => ?_
  replace c3 : Heap.SameBut i2 b2 b3 := c3
  have u3 : IsTupOf2 b3 TO x a2 := c3.extBut _ _ S.Ti2 u2
  refine wpAny_bind (wpAny_seqItems (s := ⟨b3, gn, dr, t2, os⟩) u3 rfl ?_)
  refine wpAny_bind (updateSeq_IsTupOf2 (s := ⟨b3, gn, dr, t2, os⟩) u3 fun b4 u4 c4 => ?_)
  replace u4 : IsTupOf2 b4 TO x y := u4
  replace c4 : Heap.SameBut TO b3 b4 := c4
  refine wpAny_bind (wpAny_letGo (wpAny_pure (wpAny_pure ?_)))
  refine wpAny_bind (wpAny_seqItems (s := ⟨b4, gn, dr, t2, os⟩) u4 rfl (wpAny_bind (wpAny_newTuple ?_)))
  have same : b4.objs.size = hp.objs.size := by rw [c4.1, c3.1, c2.1, c1.1, c0.1]
  have z4 : ZS b4 z TI TO .ellipsis := c4.extBut _ _ S.TOz.symm (c3.extBut _ _ S.zi2 (c2.extBut _ _ S.TOz.symm (c1.extBut _ _ S.zi1 z0)))
  have old : ∀ c o, c ≠ z → c ≠ TO → c ≠ i1 → c ≠ i2 → hp.get? c = some o → b4.get? c = some o := fun c o k1 k2 k3 k4 e => c4.extBut _ _ k2 (c3.extBut _ _ k4 (c2.extBut _ _ k2 (c1.extBut _ _ k3 (c0.extBut _ _ k1 e))))
  have v1 : St1 (i + 1) b4 := D1.over (D1.over (D1.over s1 c2 S.Tf1) c3 S.sep2_1) c4 S.Tf1
  have v2 : St2 (i + 1) b4 := D2.over s2 c4 S.Tf2
  have under : z < b4.objs.size := Heap.lt_size z4
  refine wpAny_bind (m := Builtin.SmallTypes.ownedTupleHandOut (.ref z) (.ref b4.objs.size)) ?_
  unfold Builtin.SmallTypes.ownedTupleHandOut
  have z5 : ZS (b4.push { cls := .type "tuple", data := .seq #[x, y] }) z TI TO .ellipsis := Heap.get?_push_of_some _ z4
  refine wpAny_bind (wpAny_setField_rec z5 (by simp) fun b6 z6 c6 => ?_)
  replace z6 : ZS b6 z TI TO (rawInt b4.objs.size) := z6
  refine wpAny_setField_rec z6 (by simp) fun b7 z7 c7 => ?_
  replace z7 : ZS b7 z TI TO (rawInt b4.objs.size) := z7
  replace c6 : Heap.SameBut z (b4.push { cls := .type "tuple", data := .seq #[x, y] }) b6 := c6
  replace c7 : Heap.SameBut z b6 b7 := c7
  have up : ∀ c o, c ≠ z → b4.get? c = some o → b7.get? c = some o := fun c o k e => c7.extBut _ _ k (c6.extBut _ _ k (Heap.get?_push_of_some _ e))
  have pair : IsTupOf2 b7 b4.objs.size x y := c7.extBut _ _ (Nat.ne_of_gt under) (c6.extBut _ _ (Nat.ne_of_gt under) (Heap.get?_push_size _ rfl))
  rw [same] at z7 pair
  refine wpAny_pure ⟨_, rfl, ?_⟩
  show Q (.ref b4.objs.size) ⟨b7, gn, dr, t2, os⟩
  rw [same]
  exact res x y b7 t2 hx hy z7 (up _ _ S.TOz u4) (D1.frame _ _ _ v1 fun b hb o e => up b o (fun q => S.zf1 (q ▸ hb)) e) (D2.frame _ _ _ v2 fun b hb o e => up b o (fun q => S.zf2 (q ▸ hb)) e) pair fun c o k1 k2 k3 k4 e => up c o k1 (old c o k1 k2 k3 k4 e)
set_option maxHeartbeats 8000000 in
theorem strict_end {Q : Fin → Shared → Prop} (hh : A.handled = none) (S : ZipSep2 z TI TO i1 i2 fp1 fp2) (D1 : Draws prog w A i1 fp1 n P1 St1) (D2 : Draws prog w A i2 fp2 n P2 St2)
    (hz : ZS s.heap z TI TO .none) (ti : IsTupOf2 s.heap TI (.ref i1) (.ref i2)) (to_ : IsTupOf2 s.heap TO a1 a2) (st1 : St1 n s.heap) (st2 : St2 n s.heap)
    (res : ∀ h' tk e, (∀ c o, c ≠ z → c ≠ TO → c ≠ i1 → c ≠ i2 → s.heap.get? c = some o → h'.get? c = some o) → (∃ o, h'.get? e = some o ∧ o.cls = .type "StopIteration") → E (.ref e) { s with heap := h', toks := tk }) :
    wpAny (model prog w) A (Builtin.«zip.__next__» ⟨[.ref z], []⟩) Q E s := by
  obtain ⟨hp, gn, dr, tk, os⟩ := s
  refine wpAny_bind (m := field (.ref z) 2) (wpAny_field hz rfl (x := .bool true) rfl ?_)
  refine wpAny_bind (m := field (.ref z) 3) (wpAny_field hz rfl (x := .ref TI) rfl ?_)
  refine wpAny_bind (wpAny_seqItems ti rfl ?_)
  refine wpAny_bind (m := Builtin.SmallTypes.ownedTupleIsFree (.ref z)) ?_
  unfold Builtin.SmallTypes.ownedTupleIsFree
  refine wpAny_bind (wpAny_field hz rfl (x := .none) rfl (wpAny_pure ?_))
  simp only [if_true]
  refine wpAny_bind (wpAny_rule (wpAny_bind (wpAny_field hz rfl (x := .ref TO) rfl ?_)))
  refine wpAny_bind (wpAny_setField_rec hz (by simp) fun b0 z0 c0 => ?_)
  replace z0 : ZS b0 z TI TO .ellipsis := z0
  replace c0 : Heap.SameBut z hp b0 := c0
  simp only [List.zipIdx_cons, List.zipIdx_nil, List.forIn_cons, List.forIn_nil]
  refine wpAny_bind (wpAny_bind (wpAny_bind (wpAny_onRaise ?_)))
  show wpAny _ _ (Builtin.SmallTypes.nextOrEnd (.ref i1)) _ _ ⟨b0, gn, dr, tk, os⟩
  refine ask_end D1 (D1.over st1 c0 S.zf1) fun b1 c1 => ?_
  replace c1 : Heap.ExtBut i1 b0 b1 := c1
  have z1 : ZS b1 z TI TO .ellipsis := c1 _ _ S.zi1 z0
  refine wpAny_bind (wpAny_setField_rec (s := ⟨b1, gn, dr, tk, os⟩) z1 (by simp) fun b2 z2 c2 => ?_)
  replace c2 : Heap.SameBut z b1 b2 := c2
  have y2 : St2 n b2 := D2.over (D2.frame _ _ _ (D2.over st2 c0 S.zf2) fun b hb o e => c1 b o (fun q => S.sep1_2 (q ▸ hb)) e) c2 S.zf2
  refine wpAny_bind ?_
  simp only [List.drop_succ_cons, List.drop_zero, List.zipIdx_cons, List.zipIdx_nil, List.forIn_cons, List.forIn_nil]
  have dead : ∀ {Z : PySem.Fin → Shared → Prop}, wpAny (model prog w) A (do
      for (it, j) in (([Value.ref i1, Value.ref i2] : List Value).drop 1).zipIdx 1 do
        if (← Builtin.SmallTypes.nextOrEnd it).isSome then
          rule "zip.__next__.longer"; raiseError "ValueError" s!"zip() argument {j + 1} is longer than {if j == 1 then "argument 1" else s!"arguments 1-{j}"}"
      rule "zip.__next__.all-ended"; Builtin.SmallTypes.stopIteration) Z E ⟨b2, gn, dr, tk, os⟩ := by
    intro Z
    simp only [List.drop_succ_cons, List.drop_zero, List.zipIdx_cons, List.zipIdx_nil, List.forIn_cons, List.forIn_nil]
    refine wpAny_bind (wpAny_bind (wpAny_bind (ask_end D2 y2 fun b3 c3 => ?_)))
    replace c3 : Heap.ExtBut i2 b2 b3 := c3
    have old : ∀ c o, c ≠ z → c ≠ TO → c ≠ i1 → c ≠ i2 → hp.get? c = some o → b3.get? c = some o := fun c o k1 k2 k3 k4 e => c3 _ _ k4 (c2.extBut _ _ k1 (c1 _ _ k3 (c0.extBut _ _ k1 e)))
    simp only [Option.isSome_none, Bool.false_eq_true, if_false]
    refine wpAny_pure (wpAny_pure (wpAny_bind (wpAny_rule ?_)))
    unfold Builtin.SmallTypes.stopIteration
    simp only [newExc, newTuple, raiseNew]
    refine wpAny_bind (wpAny_bind (wpAny_newObj_type ?_ (by size_fits)))
    refine wpAny_bind (m := firstArgMember _ _) (wpAny_of_eq (a := Value.none) (by first | rfl | (simp only [firstArgMember]; rfl)) (wpAny_newObj_type ?_ (by size_fits)))
    refine wpAny_bind (wpAny_handled ?_)
    rw [hh]
    refine wpAny_bind (wpAny_pure (wpAny_throw ?_))
    exact res _ _ _ (fun c o k1 k2 k3 k4 e => Heap.get?_push_of_some _ (Heap.get?_push_of_some _ (old c o k1 k2 k3 k4 e))) ⟨_, Heap.get?_push_size _ rfl, rfl⟩
  exact dead
theorem ZS.ty (hz : ZS s.heap z TI TO a1) : s.TypeIs (.ref z) "zip" := ⟨_, hz, rfl⟩
theorem strict_next {Q : Option Value → Shared → Prop} (S : ZipSep2 z TI TO i1 i2 fp1 fp2) (D1 : Draws prog w A.in1 i1 fp1 n P1 St1) (D2 : Draws prog w A.in1 i2 fp2 n P2 St2)
    (hz : ZS s.heap z TI TO .none) (ti : IsTupOf2 s.heap TI (.ref i1) (.ref i2)) (to_ : IsTupOf2 s.heap TO a1 a2) (st1 : St1 i s.heap) (st2 : St2 i s.heap) (lt : i < n)
    (res : ∀ x y h' tk, P1 i x → P2 i y → ZS h' z TI TO (rawInt s.heap.objs.size) → IsTupOf2 h' TO x y → St1 (i + 1) h' → St2 (i + 1) h' → IsTupOf2 h' s.heap.objs.size x y →
      (∀ c o, c ≠ z → c ≠ TO → c ≠ i1 → c ≠ i2 → s.heap.get? c = some o → h'.get? c = some o) → Q (some (.ref s.heap.objs.size)) { s with heap := h', toks := tk }) :
    wpAny (model prog w) A (pyNext (.ref z)) Q E s := by
  have isz := ZS.ty hz
  unfold pyNext
  refine wpAny_bind (wpAny_attempt (wpAny_callSpecial?_slot (name := Str.ofString "__next__") isz F.slot_zip_next (wpAny_call_entry F.slot_zip_next isz F.entry_zip_next ?_ (F.args_zip_next_1 _))))
  exact strict_item S D1 D2 hz ti to_ st1 st2 lt fun x y h' tk c1 c2 c3 c4 c5 c6 c7 c8 => wpAny_pure (res x y h' tk c1 c2 c3 c4 c5 c6 c7 c8)
theorem strict_stop {Q : Option Value → Shared → Prop} (hh : A.in1.handled = none) (S : ZipSep2 z TI TO i1 i2 fp1 fp2) (D1 : Draws prog w A.in1 i1 fp1 n P1 St1) (D2 : Draws prog w A.in1 i2 fp2 n P2 St2)
    (hz : ZS s.heap z TI TO .none) (ti : IsTupOf2 s.heap TI (.ref i1) (.ref i2)) (to_ : IsTupOf2 s.heap TO a1 a2) (st1 : St1 n s.heap) (st2 : St2 n s.heap)
    (res : ∀ h' tk, (∀ c o, c ≠ z → c ≠ TO → c ≠ i1 → c ≠ i2 → s.heap.get? c = some o → h'.get? c = some o) → Q none { s with heap := h', toks := tk }) : wpAny (model prog w) A (pyNext (.ref z)) Q E s := by
  have isz := ZS.ty hz
  unfold pyNext
  refine wpAny_bind (wpAny_attempt (wpAny_callSpecial?_slot (name := Str.ofString "__next__") isz F.slot_zip_next (wpAny_call_entry F.slot_zip_next isz F.entry_zip_next ?_ (F.args_zip_next_1 _))))
  refine strict_end hh S D1 D2 hz ti to_ st1 st2 fun h' tk e k ⟨o, ho, hc⟩ => ?_
  exact wpAny_bind (wpAny_isInstance (T := "StopIteration") (b := true) ⟨o, ho, hc⟩ isSubtype_stop (wpAny_pure (res h' tk k)))
theorem strict_go {es : List Expr} {kk : Nat} {pos : Pos} {T : Addr} {Q : Unit → Shared → Prop} (hz : ZS s.heap z TI TO (rawInt T)) (res : ∀ h', ZS h' z TI TO .none → Heap.SameBut z s.heap h' → Q () { s with heap := h' }) :
    wpAny (model prog w) A (letOwnedTupleGo (.Tuple es kk pos) (.ref z) (.ref T)) Q E s := by
  unfold letOwnedTupleGo
  refine wpAny_bind (wpAny_load hz ?_)
  show wpAny _ _ (if (["enumerate", "zip", "dict_itemiterator", "dict_reverseitemiterator", "odict_iterator", "itertools.zip_longest", "itertools.pairwise"].contains "zip" && (#[rawInt T, .bool false, .bool true, .ref TI, .ref TO] : Array Value)[0]? == some (rawInt T)) = true then _ else _) Q E s
  rw [if_pos (by simp)]
  exact wpAny_bind (wpAny_rule (wpAny_setField_rec hz (by simp) fun h' z' sb => res h' z' sb))
theorem strict_iter {f0 : Value} {Q : Value → Shared → Prop} (hz : ZS s.heap z TI TO f0) (h : Q (.ref z) s) : wpAny (model prog w) A (pyIter (.ref z)) Q E s := by
  have isz := ZS.ty hz
  refine wpAny_pyIter_slot isz F.slot_zip_iter (wpAny_call_entry F.slot_zip_iter isz F.entry_zip_iter ?_ (F.args_zip_iter_1 _))
  exact wpAny_pure (α := PySem.Fin) ⟨_, rfl, "zip", _, isz, F.slot_zip_next.lookup, h⟩
end
/-! ### zip(a, b, strict=True) is made -/
theorem F.typeCall_zip_strict (a b c : Value) : checkTypeCall "zip" ⟨[a, b], [(Str.ofString "strict", c)]⟩ = pure () := by kernel_rfl
theorem F.newCall_zip_strict (a b c : Value) : checkBuiltinCall "zip.__new__" ⟨[.type "zip", a, b], [(Str.ofString "strict", c)]⟩ = pure () := by kernel_rfl
theorem F.args_init_strict (obj a b c : Value) : argsOk "object.__init__" ⟨[obj, a, b], [(Str.ofString "strict", c)]⟩ := by unfold argsOk; kernel_rfl
section
abbrev szA (h : Heap) (p : Addr) : Heap := h.push (lti p)
abbrev szB (h : Heap) (p q : Addr) : Heap := (szA h p).push (lti q)
abbrev szC (h : Heap) (p q : Addr) : Heap := (szB h p q).push { cls := .type "tuple", data := .seq #[.ref h.objs.size, .ref (szA h p).objs.size] }
abbrev szD (h : Heap) (p q : Addr) : Heap := (szC h p q).push { cls := .type "tuple", data := .seq #[.none, .none] }
abbrev szE (h : Heap) (p q : Addr) : Heap := (szD h p q).push { cls := .type "zip", data := .fields #[.none, .bool false, .bool true, .ref (szB h p q).objs.size, .ref (szC h p q).objs.size] }
set_option maxHeartbeats 8000000 in
theorem zipS_new (p q : Addr) (xs ys : Array Value) : Meets (Builtin.«zip.__new__» ⟨[.type "zip", .ref p, .ref q], [(Str.ofString "strict", .bool true)]⟩) (fun _ R s => s.heap.IsList p xs ∧ s.heap.IsList q ys ∧ R (.ok (.ret (.ref (szD s.heap p q).objs.size))) { s with heap := szE s.heap p q }) :=
  .of_wp fun pr wd ar R s hyp => by
    obtain ⟨hp, gn, dr, tk, os⟩ := s
    obtain ⟨y1, y2, res⟩ := hyp
    have isZ := sub_zip
    have A1 : Heap.IsList (Shared.heap ⟨hp, gn, dr, tk, os⟩) p xs := y1
    have A2 : Heap.IsList (Shared.heap ⟨hp.push (lti p), gn, dr, tk, os⟩) q ys := Heap.IsList.push y2 _
    have e1 : (Str.ofString "strict" != ("strict" : Str)) = false := by decide +kernel
    wp_walk using wpAny_pyIter_list A1, wpAny_pyIter_list A2
    exact ⟨_, rfl, res⟩
variable {s : Shared} {prog : Program} {A : Around} {w : World} {E : Value → Shared → Prop}
structure ZSAt (h : Heap) (N : Nat) (p q : Addr) (i : Nat) : Prop where
  z : ZS h (N + 4) (N + 2) (N + 3) .none
  ti : IsTupOf2 h (N + 2) (.ref N) (.ref (N + 1))
  to_ : ∃ u v, IsTupOf2 h (N + 3) u v
  a : h.IsListIter N p i
  b : h.IsListIter (N + 1) q i
theorem zipS_call {p q : Addr} {xs ys : Array Value} {Q : Value → Shared → Prop} (y1 : s.heap.IsList p xs) (y2 : s.heap.IsList q ys)
    (res : ∀ h', ZSAt h' s.heap.objs.size p q 0 → (∀ c o, s.heap.get? c = some o → h'.get? c = some o) → Q (.ref (s.heap.objs.size + 4)) { s with heap := h' }) : wpAny (model prog w) A (call (.type "zip") [.ref p, .ref q] [(Str.ofString "strict", .bool true)]) Q E s := by
  refine callType_newKw F.called_zip (by decide) (MM.F.typeCall_zip_strict _ _ _) (MM.F.newCall_zip_strict _ _ _) (fun o => MM.F.args_init_strict o _ _ _) F.entry_zip_new (zipS_new p q xs ys) ⟨y1, y2, ?_⟩
  have n1 : (szA s.heap p).objs.size = s.heap.objs.size + 1 := Heap.size_push ..
  have n2 : (szB s.heap p q).objs.size = s.heap.objs.size + 2 := by rw [Heap.size_push, n1]
  have n3 : (szC s.heap p q).objs.size = s.heap.objs.size + 3 := by rw [Heap.size_push, n2]
  have n4 : (szD s.heap p q).objs.size = s.heap.objs.size + 4 := by rw [Heap.size_push, n3]
  have k5 : ∀ {c : Addr} {o : Obj}, (szD s.heap p q).get? c = some o → (szE s.heap p q).get? c = some o := fun e => Heap.get?_push_of_some _ e
  have k4 : ∀ {c : Addr} {o : Obj}, (szC s.heap p q).get? c = some o → (szE s.heap p q).get? c = some o := fun e => k5 (Heap.get?_push_of_some _ e)
  have k3 : ∀ {c : Addr} {o : Obj}, (szB s.heap p q).get? c = some o → (szE s.heap p q).get? c = some o := fun e => k4 (Heap.get?_push_of_some _ e)
  have k2 : ∀ {c : Addr} {o : Obj}, (szA s.heap p).get? c = some o → (szE s.heap p q).get? c = some o := fun e => k3 (Heap.get?_push_of_some _ e)
  have o5 : (szE s.heap p q).get? (szD s.heap p q).objs.size = some _ := Heap.get?_push_size _ rfl
  have o4 : (szE s.heap p q).get? (szC s.heap p q).objs.size = some _ := k5 (Heap.get?_push_size _ rfl)
  have o3 : (szE s.heap p q).get? (szB s.heap p q).objs.size = some _ := k4 (Heap.get?_push_size _ rfl)
  have o2 : (szE s.heap p q).get? (szA s.heap p).objs.size = some _ := k3 (Heap.get?_push_size _ rfl)
  have o1 : (szE s.heap p q).get? s.heap.objs.size = some _ := k2 (Heap.get?_push_size _ rfl)
  show _ ∧ _
  rw [n2, n3, n4] at o5
  rw [n1, n2] at o3
  rw [n3] at o4
  rw [n1] at o2
  rw [n4]
  exact ⟨⟨_, o5, rfl⟩, res _ ⟨o5, o3, ⟨_, _, o4⟩, ⟨_, o1, rfl, rfl⟩, ⟨_, o2, rfl, rfl⟩⟩ fun c o e => k2 (Heap.get?_push_of_some _ e)⟩
end
/-- the items of two lists as long as each other, in new pairs -/
def ItzS (K : PySem.W.Frag) (a b : Addr) : It :=
  ⟨fun i H => ∃ (xs ys : List V) (x y : V), xs.length = ys.length ∧ SqL K H a xs ∧ SqL K H b ys ∧ xs[i]? = some x ∧ ys[i]? = some y,
    fun i H v H' => ∃ T x y, v = .ref T ∧ H T = none ∧ H' = upd H T (.tup [x, y]) ∧ (∀ l, SqL K H a l → l[i]? = some x) ∧ ∀ l, SqL K H b l → l[i]? = some y,
    fun i H => ∃ l m : List V, SqL K H a l ∧ SqL K H b m ∧ l.length ≤ i ∧ m.length ≤ i⟩
structure ZSIn (N : Nat) (p q : Addr) (i : Nat) (h : Heap) : Prop extends ZSAt h N p q i where
  lp : p < N
  lq : q < N
theorem turn_zipS {P : Program} {w : World} {K : PySem.W.Frag} {es : List Expr} {kk : Nat} {tp : Pos} {p q : Addr} {N : Nat} : Turn P w K (.Tuple es kk tp) (ItzS K p q) (cells N) (N + 4) (fun i h => ZSIn N p q i h) where
  mem := by simp [cells]
  obj := fun i h st c hc => by
    obtain ⟨⟨z, ti, ⟨u, v, to_⟩, ⟨o1, e1, _, d1⟩, ⟨o2, e2, _, d2⟩⟩, _, _⟩ := st
    rcases mem_cells hc with rfl | rfl | rfl | rfl | rfl
    · exact ⟨_, z, fun v y => nomatch y⟩
    · exact ⟨_, to_, fun v y => nomatch y⟩
    · exact ⟨_, ti, fun v y => nomatch y⟩
    · exact ⟨o2, e2, fun v y => by rw [d2] at y; cases y⟩
    · exact ⟨o1, e1, fun v y => by rw [d1] at y; cases y⟩
  keep := fun i h h' st k => by
    obtain ⟨⟨z, ti, ⟨u, v, to_⟩, a, b⟩, lp, lq⟩ := st
    exact ⟨⟨k _ (by simp [cells]) _ z, k _ (by simp [cells]) _ ti, ⟨u, v, k _ (by simp [cells]) _ to_⟩, a.at fun o y => k _ (by simp [cells]) o y, b.at fun o y => k _ (by simp [cells]) o y⟩, lp, lq⟩
  item := by
    intro X eP ew eK hc i pins s σ H E I hf st hg
    subst eP ew eK
    obtain ⟨⟨z, ti, ⟨u0, v0, to_⟩, a, b⟩, lp, lq⟩ := st
    obtain ⟨xs, ys, x, y, hn, qx, qy, hx, hy⟩ := hg
    obtain ⟨its, rv, px, _⟩ := I.list qx
    obtain ⟨its2, rv2, py, _⟩ := I.list qy
    obtain ⟨u, hu, ru⟩ := rv.get (i := i) hx
    obtain ⟨v, hv, rv'⟩ := rv2.get hy
    have hh : X.A.in1.handled = none := I.ok.hd hc
    have S := sep_cells lp lq
    have i1 : i < its.length := (List.getElem?_eq_some_iff.mp hu).1
    have both : its2.toArray.size - i = its.toArray.size - i := by
      rw [List.size_toArray, List.size_toArray, ← rv.length, ← rv2.length, hn]
    have D2 := drawsL (prog := X.prog) (w := X.w) hh (N + 1) q (Nat.ne_of_lt (Nat.lt_succ_of_lt lq)) its2.toArray i
    rw [both] at D2
    have nz : N + 4 < s.heap.objs.size := Heap.lt_size z
    refine strict_next (i := 0) S (drawsL hh N p (Nat.ne_of_lt lp) its.toArray i) D2 z ti to_ ⟨a, px.isList⟩ ⟨b, py.isList⟩ (by simp; omega) fun x1 x2 h' tk p1 p2 z' to' st1 st2 new k => ?_
    have ex1 : x1 = u := by
      have : its[i]? = some x1 := by simpa using p1
      rw [hu] at this
      exact Option.some.inj this.symm
    have ex2 : x2 = v := by
      have : its2[i]? = some x2 := by simpa using p2
      rw [hv] at this
      exact Option.some.inj this.symm
    subst ex1 ex2
    refine ⟨_, rfl, strict_go (s := { s with heap := h', toks := tk }) z' fun h2 z2 sb => ?_⟩
    have T2 : h2.get? s.heap.objs.size = some { cls := .type "tuple", data := .seq #[x1, x2] } := (sb.2 _ (Nat.ne_of_gt nz)).trans new
    have nw : ObjOk X.prog X.w (upd H s.heap.objs.size (.tup [x, y])) h2 s.heap.objs.size (.tup [x, y]) := ⟨by show 2 ≤ sizeLine; decide, [x1, x2], .cons ru (.cons rv' .nil), ⟨_, T2, rfl, _, rfl⟩⟩
    have I2 : Inv X pins σ (upd H s.heap.objs.size (.tup [x, y])) { s with heap := h2, toks := tk } :=
      I.turnedNew (t' := tk) (ch := cells N) (fun c o hb e => (sb.2 c (far_cells hb).1).trans (k c o (far_cells hb).1 (far_cells hb).2.1 (far_cells hb).2.2.1 (far_cells hb).2.2.2 e)) hf (Nat.le_refl _) nw
    refine ⟨.ref s.heap.objs.size, _, I2, rfl, ⟨_, x, y, rfl, I.hok.fresh (Nat.le_refl _), rfl, fun l hl => by rw [I.list_inj hl qx]; exact hx, fun l hl => by rw [I.list_inj hl qy]; exact hy⟩, ⟨⟨z2, ?_, ⟨x1, x2, ?_⟩, ?_, ?_⟩, lp, lq⟩, fun c hcm => ?_⟩
    · exact (sb.2 _ (nN (by omega))).trans (k _ _ (nN (by omega)) (nN (by omega)) (nN (by omega)) (nN (by omega)) ti)
    · exact (sb.2 _ (nN (by omega))).trans to'
    · have := st1.1
      simp only [Nat.zero_add] at this
      exact this.at fun o e => (sb.2 _ (nN (by omega))).trans e
    · have := st2.1
      simp only [Nat.zero_add] at this
      exact this.at fun o e => (sb.2 _ (nN (by omega))).trans e
    · have hlt : @LT.lt Nat _ c s.heap.objs.size := by
        rcases mem_cells hcm with e | e | e | e | e <;> (have e : @Eq Nat c _ := e; omega)
      exact (upd_ne (Nat.ne_of_lt hlt)).trans (hf c hcm).1
  done := by
    intro X eP ew eK hc i pins s σ H E I hf st hg
    subst eP ew eK
    obtain ⟨⟨z, ti, ⟨u0, v0, to_⟩, a, b⟩, lp, lq⟩ := st
    obtain ⟨xs, ys, qx, qy, e1, e2⟩ := hg
    obtain ⟨its, rv, px, _⟩ := I.list qx
    obtain ⟨its2, rv2, py, _⟩ := I.list qy
    have hh : X.A.in1.handled = none := I.ok.hd hc
    have S := sep_cells lp lq
    have D1 := drawsL (prog := X.prog) (w := X.w) hh N p (Nat.ne_of_lt lp) its.toArray i
    have D2 := drawsL (prog := X.prog) (w := X.w) hh (N + 1) q (Nat.ne_of_lt (Nat.lt_succ_of_lt lq)) its2.toArray i
    rw [show its.toArray.size - i = 0 by rw [List.size_toArray, ← rv.length]; omega] at D1
    rw [show its2.toArray.size - i = 0 by rw [List.size_toArray, ← rv2.length]; omega] at D2
    refine strict_stop hh S D1 D2 z ti to_ ⟨a, px.isList⟩ ⟨b, py.isList⟩ fun h' tk k => ?_
    exact ⟨rfl, I.turnedL (t' := tk) (ch := cells N) (fun c o hb e => k c o (far_cells hb).1 (far_cells hb).2.1 (far_cells hb).2.2.1 (far_cells hb).2.2.2 e) hf⟩
  self := fun A i s Q E st h => strict_iter st.z h
/-! ### calls of built-in types with keywords -/
theorem callTy_kw {M : Model} {A : Around} {E : Value → Shared → Prop} {s : Shared} {env : Env} {pos : Pos} {T : String} {e : Expr} {rest : List Expr} {kws : List Keyword} {Q : Value → Shared → Prop}
    (h : wpAny M A (spliced (backTo pos (starEach (e :: rest) env))) (fun vs s₁ => wpAny M A (evalAll ((backToKw pos (keywordEach kws env)).map (·.2))) (fun kvs s₂ => wpAny M A (call (.type T) vs (((backToKw pos (keywordEach kws env)).filterMap (·.1)).zip kvs)) Q E s₂) E s₁) E s)
    (he : backTo pos (starEach (e :: rest) env) = (false, eval e env) :: backTo pos (starEach rest env)) (hplain : (backTo pos (starEach (e :: rest) env)).any (·.1) = false)
    (hall : (backToKw pos (keywordEach kws env)).all (·.1.isSome) = true) (hkw : (backToKw pos (keywordEach kws env)).any (·.1.isNone) = false) :
    wpAny M A (callWith pos (.type T) [] (backTo pos (starEach (e :: rest) env)) (backToKw pos (keywordEach kws env))) Q E s := by
  have go : wpAny M A (evalArgs (.type T) true (backTo pos (starEach (e :: rest) env)) (backToKw pos (keywordEach kws env))) (fun a s₁ => wpAny M A (call (.type T) ([] ++ a.pos) a.kw) Q E s₁) E s := by
    rw [he] at h ⊢
    exact evalArgs_kwB hall h
  unfold callWith
  refine wpAny_bind (wpAny_holding (wpAny_mono go (fun a s₁ h₁ => ?_) fun _ _ x => x))
  refine wpAny_bind (wpAny_standAt ?_)
  simp only [hplain, hkw, Bool.or_false]
  refine wpAny_bind (wpAny_pure (wpAny_bind (wpAny_mono h₁ (fun r s₂ hr => ?_) fun _ _ x => x)))
  exact wpAny_bind (wpAny_holding (wpAny_point (wpAny_pure hr)))
def iZipS (K : PySem.W.Frag) (ta : TA) : TI := fun σ H R => ta σ H fun vs H1 => ∃ a b xs ys, vs = [.ref a, .ref b] ∧ SqL K H1 a xs ∧ SqL K H1 b ys ∧ R (ItzS K a b) H1
theorem pi_zipS {X : Cx} {e e2 : Expr} {ta : TA} {p pos tpos kp p3 : Pos} {es : List Expr} {kk j : Nat} (hg : Gl X "zip") (hm : X.mg "zip" = none) (ha : PA X [e, e2] ta)
    (hs : backTo pos (starEach [e, e2] X.env) = (false, eval e X.env) :: backTo pos (starEach [e2] X.env) := by rfl) (hpl : (backTo pos (starEach [e, e2] X.env)).any (·.1) = false := by rfl) : PI X (.Tuple es kk tpos) (.Call (.Name "zip" p) [e, e2] [⟨some "strict", .Constant (.bool true) j p3, kp⟩] pos) (iZipS X.K ta) := by
  refine ⟨fun pins s σ H R I hw => ?_⟩
  refine wpAny_Call_Name_kw (ld_blt I hg hm PyProof.Rows.boot_zip (callTy_kw (thn (ha.run pos pins s σ H _ I hw) fun us s1 ⟨vs, H1, I1, r1, a, b, xs, ys, ex, qx, qy, q⟩ => ?_) hs hpl rfl rfl))
  subst ex
  obtain ⟨u, v, rfl, r2, r3⟩ := vals2 r1
  cases r2
  cases r3
  obtain ⟨its, rv, p1, _⟩ := I1.list qx
  obtain ⟨its2, rv2, p2, _⟩ := I1.list qy
  have la : @LT.lt Nat _ a s1.heap.objs.size := p1.lt
  have lb : @LT.lt Nat _ b s1.heap.objs.size := p2.lt
  refine kws_cons (wpAny_Constant_bool (kws_nil ?_))
  refine zipS_call p1.isList p2.isList fun h' z k => strict_iter z.z ?_
  have I2 : Inv X pins σ H1 { s1 with heap := h' } := I1.kept (t' := s1.toks) k
  refine ⟨s1.heap.objs.size + 4, cells s1.heap.objs.size, _, _, H1, rfl, I2, turn_zipS, ⟨z, la, lb⟩, fun c hc => ?_, q⟩
  have hle : @LE.le Nat _ s1.heap.objs.size c := by
    rcases mem_cells hc with e | e | e | e | e <;> (have e : @Eq Nat c _ := e; omega)
  exact I1.fpOk (b := c) hle (I1.hok.fresh (a := c) hle)
section
variable {X : Cx} {E : En} {Γ : Gm} {M : Ow} {a b : Expr}
theorem src_zipS {Z : Ow → Nat → (Nat → Rep → Prop) → Prop} (h : WA X E Γ M [a, b] fun ρs M1 => ∃ r1 r2, SubL ρs [RL X.K r1, RL X.K r2] ∧ r1.length = r2.length ∧ Z M1 r1.length fun i ρ => ∃ ρ1 ρ2, r1[i]? = some ρ1 ∧ r2[i]? = some ρ2 ∧ ρ = RTt [ρ1, ρ2]) : Src X E Γ M (iZipS X.K (tWA X [a, b])) Z :=
  ⟨fun {σ G H} R a' k => h σ G H a' _ fun ρs M1 vs G1 H1 ⟨r1, r2, sb, hn, hz⟩ s1 a1 rr => by
    obtain ⟨v, u, rfl, ⟨p, xs, e1, h1, x1⟩, ⟨q, ys, e2, h2, y1⟩⟩ := reps2 (sb.reps rr)
    subst e1 e2
    have q1 : ∀ {H2 G2 : Hp}, Same G1 G2 → Same G2 H2 → SqL X.K H2 p xs := fun s g => Same.seq (s.trans g) h1
    have q2 : ∀ {H2 G2 : Hp}, Same G1 G2 → Same G2 H2 → SqL X.K H2 q ys := fun s g => Same.seq (s.trans g) h2
    have l1 := x1.length
    have l2 := y1.length
    refine ⟨p, q, xs, ys, rfl, Same.seq a1.gh h1, Same.seq a1.gh h2, k _ _ _ _ _ _ hz s1 a1 fun i H2 G2 s2 g2 => ⟨fun hi => ?_, fun hi => ?_, fun x H3 hi ⟨T, x2, y2, e3, hT, e4, z1, z2⟩ => ?_⟩⟩
    · have i1 : i < xs.length := by omega
      have i2 : i < ys.length := by omega
      exact ⟨xs, ys, xs[i], ys[i], by omega, q1 s2 g2, q2 s2 g2, by simp [i1], by simp [i2]⟩
    · exact ⟨xs, ys, q1 s2 g2, q2 s2 g2, by omega, by omega⟩
    · subst e3 e4
      obtain ⟨ρ1, f1, t1⟩ := (x1.mono s2).get2 (z1 xs (q1 s2 g2))
      obtain ⟨ρ2, f2, t2⟩ := (y1.mono s2).get2 (z2 ys (q2 s2 g2))
      have n := New.put (o := HO.tup [x2, y2]) g2 hT
      refine ⟨_, RTt [ρ1, ρ2], n, ⟨ρ1, ρ2, f1, f2, rfl⟩, T, [x2, y2], rfl, upd_same, ρ1.mono _ _ _ n.gg t1, ρ2.mono _ _ _ n.gg t2, trivial⟩⟩
end
end MM

namespace MM
open PySem L2 PyProof.Rows
/-! ### dicts whose keys are ints and texts -/
def KRep : List (Key × Rep) → List (Key × V) → Hp → Prop
  | [], [], _ => True
  | (k, ρ) :: l, (k', v) :: m, G => k = k' ∧ ρ.p v G ∧ KRep l m G
  | _, _, _ => False
theorem KRep.mono {G G' : Hp} (s : Same G G') : ∀ {l : List (Key × Rep)} {m : List (Key × V)}, KRep l m G → KRep l m G'
  | [], [], _ => trivial
  | (_, ρ) :: _, (_, _) :: _, h => ⟨h.1, ρ.mono _ _ _ s h.2.1, KRep.mono s h.2.2⟩
  | [], _ :: _, h => h.elim
  | _ :: _, [], h => h.elim
theorem KRep.len {G : Hp} : ∀ {l : List (Key × Rep)} {m : List (Key × V)}, KRep l m G → l.length = m.length
  | [], [], _ => rfl
  | (_, _) :: _, (_, _) :: _, h => congrArg Nat.succ (KRep.len h.2.2)
  | [], _ :: _, h => h.elim
  | _ :: _, [], h => h.elim
def valR : List (Key × Rep) → Key → Option Rep
  | [], _ => none
  | (k', ρ) :: l, k => if k' = k then some ρ else valR l k
theorem KRep.look {G : Hp} {k : Key} : ∀ {l : List (Key × Rep)} {m : List (Key × V)}, KRep l m G → (valR l k = none ∧ valV m k = none) ∨ ∃ ρ v, valR l k = some ρ ∧ valV m k = some v ∧ ρ.p v G
  | [], [], _ => .inl ⟨rfl, rfl⟩
  | (k1, ρ) :: l, (k2, v) :: m, h => by
    obtain ⟨e, h1, h2⟩ := h
    subst e
    by_cases q : k1 = k
    · exact .inr ⟨ρ, v, if_pos q, valV_pos q, h1⟩
    · rcases KRep.look (k := k) h2 with ⟨a, b⟩ | ⟨ρ', v', a, b, c⟩
      · exact .inl ⟨(if_neg q).trans a, (valV_neg q).trans b⟩
      · exact .inr ⟨ρ', v', (if_neg q).trans a, (valV_neg q).trans b, c⟩
  | [], _ :: _, h => h.elim
  | _ :: _, [], h => h.elim
def putKR : List (Key × Rep) → Key → Rep → List (Key × Rep)
  | [], k, ρ => [(k, ρ)]
  | (k', ρ') :: l, k, ρ => if k' = k then (k', ρ) :: l else (k', ρ') :: putKR l k ρ
/-- keys stand once -/
def KOnce (l : List (Key × Rep)) : Prop := (l.map (·.1)).Nodup
theorem KRep.keys {G : Hp} : ∀ {l : List (Key × Rep)} {m : List (Key × V)}, KRep l m G → l.map (·.1) = m.map (·.1)
  | [], [], _ => rfl
  | (_, _) :: _, (_, _) :: _, h => by
    rw [List.map_cons, List.map_cons, KRep.keys h.2.2, h.1]
  | [], _ :: _, h => h.elim
  | _ :: _, [], h => h.elim
theorem map_same {k : Key} {v : V} : ∀ {m : List (Key × V)}, k ∉ m.map (·.1) → m.map (fun kv => if kv.1 = k then (kv.1, v) else kv) = m
  | [], _ => rfl
  | (k', w) :: m, h => by
    rw [List.map_cons, List.mem_cons, not_or] at h
    rw [List.map_cons, map_same h.2]
    have : ¬ k' = k := fun e => h.1 e.symm
    simp [this]
theorem putK_cons_pos {k : Key} {v w : V} {m : List (Key × V)} (h : k ∉ m.map (·.1)) : putK ((k, w) :: m) k v = (k, v) :: m := by
  unfold putK
  rw [if_pos (by simp), List.map_cons, map_same h]
  simp
theorem putK_cons_neg {k k' : Key} {v w : V} {m : List (Key × V)} (h : ¬ k' = k) : putK ((k', w) :: m) k v = (k', w) :: putK m k v := by
  unfold putK
  rw [List.any_cons, decide_eq_false h, Bool.false_or]
  split
  · rw [List.map_cons]
    simp [h]
  · rfl
theorem KRep.put {G : Hp} {k : Key} {ρ : Rep} {v : V} (r : ρ.p v G) : ∀ {l : List (Key × Rep)} {m : List (Key × V)}, KOnce l → KRep l m G → KRep (putKR l k ρ) (putK m k v) G
  | [], [], _, _ => ⟨rfl, r, trivial⟩
  | (k1, ρ1) :: l, (k2, w) :: m, o, h => by
    have ks := KRep.keys h.2.2
    obtain ⟨e, h1, h2⟩ := h
    subst e
    have o' : (k1 :: l.map (·.1)).Nodup := o
    rw [List.nodup_cons] at o'
    unfold putKR
    by_cases q : k1 = k
    · subst q
      rw [if_pos rfl, putK_cons_pos (by rw [← ks]; exact o'.1)]
      exact ⟨rfl, r, h2⟩
    · rw [if_neg q, putK_cons_neg q]
      exact ⟨rfl, h1, KRep.put r o'.2 h2⟩
  | [], _ :: _, _, h => h.elim
  | _ :: _, [], _, h => h.elim
theorem putKR_keys {k : Key} {ρ : Rep} : ∀ {l : List (Key × Rep)}, (k ∈ l.map (·.1) ∧ (putKR l k ρ).map (·.1) = l.map (·.1)) ∨ (k ∉ l.map (·.1) ∧ (putKR l k ρ).map (·.1) = l.map (·.1) ++ [k])
  | [] => .inr ⟨by simp, rfl⟩
  | (k', ρ') :: l => by
    unfold putKR
    by_cases q : k' = k
    · subst q
      rw [if_pos rfl]
      exact .inl ⟨List.mem_cons_self, rfl⟩
    · rw [if_neg q, List.map_cons, List.map_cons]
      rcases putKR_keys (k := k) (ρ := ρ) (l := l) with ⟨m, e⟩ | ⟨m, e⟩
      · exact .inl ⟨List.mem_cons_of_mem _ m, by rw [e]⟩
      · exact .inr ⟨by rw [List.mem_cons, not_or]; exact ⟨fun z => q z.symm, m⟩, by rw [e]; rfl⟩
theorem KOnce.put {k : Key} {ρ : Rep} {l : List (Key × Rep)} (o : KOnce l) : KOnce (putKR l k ρ) := by
  unfold KOnce
  rcases putKR_keys (k := k) (ρ := ρ) (l := l) with ⟨m, e⟩ | ⟨m, e⟩
  · rw [e]
    exact o
  · rw [e, List.nodup_append]
    refine ⟨o, by simp, fun a ha b hb z => ?_⟩
    rw [List.mem_singleton.mp hb] at z
    subst z
    exact m ha
def OD (l : List (Key × Rep)) : ORep := ⟨fun o G => ∃ kvs, o = .dK kvs ∧ KRep l kvs G, fun _ _ _ s ⟨kvs, e, r⟩ => ⟨kvs, e, r.mono s⟩⟩
/-- what stands for a key -/
def KeyR (ρ : Rep) (k : Key) : Prop := ∀ v G, ρ.p v G → v = kV k
theorem keyR_s {s : Str} : KeyR (RS s) (.inr s) := fun v G h => h
theorem keyR_i {i : Int} : KeyR (RI i) (.inl i) := fun v G h => h
section
variable {X : Cx} {E : En} {Γ : Gm} {M : Ow} {a b e o i value : Expr} {pos p pos' : Pos} {Φ : Rep → Ow → Prop} {Ψ : Ed} {k : Nat}
theorem we_dnew (h : ∀ p, p ∉ M.map (·.1) → p ∉ E.M → Φ (RRef p) ((p, OD []) :: M)) (hE : ∀ a ∈ E.M, E.H a ≠ none) : WE X E Γ M (.Dict [] [] pos) Φ :=
  we_of pe_dnewK fun σ G H a Q q p hp => q _ _ _ _ _ (h p (a.freshM hp) fun z => hE p z (a.fresh hp)) (Same.refl _) (a.own1 hp ⟨[], rfl, trivial⟩) rfl
/-- d[k], there -/
theorem we_dget (hr : Room k X.A) (h : WE X E Γ M o fun ρo M1 => WE X E Γ M1 i fun ρi M2 => ∃ p l u key ρ, MM.Sub ρo (RRef p) ∧ Fnd M2 p (OD l) u ∧ KeyR ρi key ∧ valR l key = some ρ ∧ Φ ρ M2) (hs : NoSl i := by exact fun _ _ => rfl) : WE X E Γ M (.Subscript o i pos) Φ :=
  we_of (pe_dget (by have := hr.un; omega) pe_w pe_w hs) fun σ G H at_ Q q => h σ G H at_ _ fun ρo M1 x G1 H1 h1 s1 a1 r1 => h1 σ G1 H1 a1 _ fun ρi M2 y G2 H2 ⟨p, l, u, key, ρ, sb, fd, kr, hv, hk⟩ s2 a2 r2 => by
    obtain ⟨ob, e1, kvs, e2, r⟩ := a2.own _ fd.mem
    subst e2
    rcases r.look (k := key) with ⟨z, _⟩ | ⟨ρ', v, z1, z2, z3⟩
    · rw [hv] at z
      cases z
    · rw [hv] at z1
      cases z1
      have ey := kr _ _ r2
      subst ey
      refine ⟨p, v, sb _ _ (ρo.mono _ _ _ s2 r1), ?_, q _ _ _ _ _ hk (s1.trans s2) a2 z3⟩
      have := DGet.k (k := key) e1
      rw [z2] at this
      exact this
/-- k in d, k not in d -/
theorem wt_din {Φ : Bool → Ow → Prop} (hr : Room k X.A) (h : WE X E Γ M i fun ρi M1 => WE X E Γ M1 o fun ρo M2 => ∃ p l u key, MM.Sub ρo (RRef p) ∧ Fnd M2 p (OD l) u ∧ KeyR ρi key ∧ Φ (valR l key).isSome M2) (hm : behindInMarks .In o = false := by exact nomark _) : WT X E Γ M (.Compare i [.In] [o] pos) Φ :=
  wt_of (pt_cmp (pc_din (by have := hr.un; omega) pe_w pe_w) hm) fun σ G H at_ Q q => h σ G H at_ _ fun ρi M1 y G1 H1 h1 s1 a1 r1 => h1 σ G1 H1 a1 _ fun ρo M2 x G2 H2 ⟨p, l, u, key, sb, fd, kr, hk⟩ s2 a2 r2 => by
    obtain ⟨ob, e1, kvs, e2, r⟩ := a2.own _ fd.mem
    subst e2
    have ey := kr _ _ (ρi.mono _ _ _ s2 r1)
    subst ey
    have same : (valV kvs key).isSome = (valR l key).isSome := by
      rcases r.look (k := key) with ⟨z1, z2⟩ | ⟨ρ', v, z1, z2, z3⟩
      · rw [z1, z2]
        rfl
      · rw [z1, z2]
        rfl
    exact ⟨p, _, sb _ _ r2, DGet.k (k := key) e1, _, congrArg V.bl same, q _ _ _ _ hk (s1.trans s2) a2⟩
theorem wt_dnotin {Φ : Bool → Ow → Prop} (hr : Room k X.A) (h : WE X E Γ M i fun ρi M1 => WE X E Γ M1 o fun ρo M2 => ∃ p l u key, MM.Sub ρo (RRef p) ∧ Fnd M2 p (OD l) u ∧ KeyR ρi key ∧ Φ (!(valR l key).isSome) M2) (hm : behindInMarks .NotIn o = false := by exact nomark _) : WT X E Γ M (.Compare i [.NotIn] [o] pos) Φ :=
  wt_of (pt_cmp (pc_dnotin (by have := hr.un; omega) pe_w pe_w) hm) fun σ G H at_ Q q => h σ G H at_ _ fun ρi M1 y G1 H1 h1 s1 a1 r1 => h1 σ G1 H1 a1 _ fun ρo M2 x G2 H2 ⟨p, l, u, key, sb, fd, kr, hk⟩ s2 a2 r2 => by
    obtain ⟨ob, e1, kvs, e2, r⟩ := a2.own _ fd.mem
    subst e2
    have ey := kr _ _ (ρi.mono _ _ _ s2 r1)
    subst ey
    have same : (valV kvs key).isSome = (valR l key).isSome := by
      rcases r.look (k := key) with ⟨z1, z2⟩ | ⟨ρ', v, z1, z2, z3⟩
      · rw [z1, z2]
        rfl
      · rw [z1, z2]
        rfl
    exact ⟨p, _, sb _ _ r2, DGet.k (k := key) e1, _, congrArg V.bl (congrArg not same), q _ _ _ _ hk (s1.trans s2) a2⟩
/-- d[k] = v -/
theorem ws_dput (hr : Room k X.A) (h : WE X E Γ M value fun ρv M1 => WE X E Γ M1 o fun ρo M2 => WE X E Γ M2 i fun ρi M3 => ∃ p l u key, MM.Sub ρo (RRef p) ∧ Fnd M3 p (OD l) u ∧ KeyR ρi key ∧ KOnce l ∧ l.length ≤ 100000 ∧ Ψ.nx Γ (u (OD (putKR l key ρv))))
    (hs : swapsWith value (some (.Subscript o i pos')) pos.line X.env = pure false := by rfl) : WS X E Γ M (.Assign [.Subscript o i pos'] value pos) Ψ :=
  ws_of (ps_dput (by have := hr.un; omega) pe_w pe_w pe_w hs) fun σ G H at_ D c => h σ G H at_ _ fun ρv M1 v G1 H1 h1 s1 a1 r1 => h1 σ G1 H1 a1 _ fun ρo M2 x G2 H2 h2 s2 a2 r2 => h2 σ G2 H2 a2 _ fun ρi M3 y G3 H3 ⟨p, l, u, key, sb, fd, kr, ho, hl, hk⟩ s3 a3 r3 => by
    obtain ⟨ob, e1, kvs, e2, r⟩ := a3.own _ fd.mem
    subst e2
    have ey := kr _ _ r3
    subst ey
    have hl' : kvs.length < sizeLine := Nat.lt_of_le_of_lt (by rw [← r.len]; exact hl) (by decide +kernel)
    refine ⟨p, _, sb _ _ (ρo.mono _ _ _ s3 r2), DPut.k (k := key) e1 hl', ?_⟩
    exact c.nx _ _ hk _ _ _ ((s1.trans s2).trans s3) (a3.write fd ⟨_, rfl, r.put (ρv.mono _ _ _ (s2.trans s3) r1) ho⟩)
end
/-! ### dict(pairs) -/
def mergeR (l more : List (Key × Rep)) : List (Key × Rep) := more.foldl (fun acc kv => putKR acc kv.1 kv.2) l
theorem mergeR_once : ∀ {more l : List (Key × Rep)}, KOnce l → KOnce (mergeR l more)
  | [], _, o => o
  | (_, _) :: more, _, o => mergeR_once (more := more) o.put
theorem krep_merge {G : Hp} : ∀ {more : List (Key × Rep)} {ms : List (Key × V)} {l : List (Key × Rep)} {kvs : List (Key × V)}, KOnce l → KRep more ms G → KRep l kvs G → KRep (mergeR l more) (mergeK kvs ms) G
  | [], [], _, _, _, _, h => h
  | (k, ρ) :: more, (k', v) :: ms, l, kvs, o, r, h => by
    obtain ⟨e, r1, r2⟩ := r
    subst e
    exact krep_merge (more := more) (ms := ms) o.put r2 (h.put r1 o)
  | [], _ :: _, _, _, _, r, _ => r.elim
  | _ :: _, [], _, _, _, r, _ => r.elim
/-- new keys, each once -/
theorem mergeR_new : ∀ {more l : List (Key × Rep)}, ((l ++ more).map (·.1)).Nodup → mergeR l more = l ++ more
  | [], l, _ => (List.append_nil l).symm
  | (k, ρ) :: more, l, h => by
    have hk : k ∉ l.map (·.1) := fun hm => by
      rw [List.map_append, List.nodup_append] at h
      exact h.2.2 k hm k (by simp) rfl
    have put : ∀ {l : List (Key × Rep)}, k ∉ l.map (·.1) → putKR l k ρ = l ++ [(k, ρ)] := by
      intro l
      induction l with
      | nil => intro _; rfl
      | cons x l ih =>
        intro hn
        obtain ⟨k', ρ'⟩ := x
        rw [List.map_cons, List.mem_cons, not_or] at hn
        show (if k' = k then _ else _) = _
        rw [if_neg (fun e => hn.1 e.symm), ih hn.2]
        rfl
    show mergeR (putKR l k ρ) more = _
    rw [put hk, mergeR_new (by rw [List.append_assoc]; exact h), List.append_assoc]
    rfl
/-- the pairs of a list -/
def prR (kv : Key × Rep) : Rep := RTt [RV (kV kv.1), kv.2]
theorem pairs_in {K : PySem.W.Frag} {G H : Hp} (s : Same G H) : ∀ {more : List (Key × Rep)} {vs : List V}, Reps (more.map prR) vs G → ∃ (ps : List Addr) (ms : List (Key × V)), vs = ps.map V.ref ∧ Paired (fun p kv => SqT K H p [kV kv.1, kv.2]) ps ms ∧ KRep more ms G
  | [], [], _ => ⟨[], [], rfl, .nil, trivial⟩
  | (k, ρ) :: more, v :: vs, h => by
    obtain ⟨⟨p, ws, e, hp, r⟩, h2⟩ := h
    obtain ⟨ps, ms, e2, h3, h4⟩ := pairs_in (K := K) s h2
    subst e e2
    match ws, r with
    | [x, y], ⟨r1, r2, _⟩ =>
      have r1 : x = kV k := r1
      subst r1
      exact ⟨p :: ps, (k, y) :: ms, rfl, .cons (.inl (.inl (s _ _ hp))) h3, rfl, r2, h4⟩
  | [], _ :: _, h => h.elim
  | _ :: _, [], h => h.elim
def rDictP (K : PySem.W.Frag) : List V → Hp → VK → Prop := fun xs H Q => ∃ (a : Addr) (ps : List Addr) (kvs : List (Key × V)), xs = [.ref a] ∧ SqL K H a (ps.map V.ref) ∧ Paired (fun p kv => SqT K H p [kV kv.1, kv.2]) ps kvs ∧ ∀ p, H p = none → Q (.ref p) (upd H p (.dK (mergeK [] kvs)))
theorem call_dictR {X : Cx} (hc : X.calm = true) : CallR X (.type "dict") (rDictP X.K) := call_dictP hc
theorem caw_dictP {E : En} {Γ : Gm} {M : Ow} {Φ : Rep → Ow → Prop} {K : PySem.W.Frag} {more : List (Key × Rep)} (hE : ∀ a ∈ E.M, E.H a ≠ none) (k : ∀ p, p ∉ M.map (·.1) → p ∉ E.M → Φ (RRef p) ((p, OD (mergeR [] more)) :: M)) : CaW E Γ M (rDictP K) [RLt (more.map prR)] Φ := fun σ G H a vs hv Q q => by
  match vs, hv with
  | [v], ⟨⟨t, ws, e, h, r⟩, _⟩ =>
    subst e
    obtain ⟨ps, ms, e2, h3, h4⟩ := pairs_in (K := K) a.gh r
    subst e2
    exact ⟨t, ps, ms, rfl, .inl (.inl (a.gh _ _ h)), h3, fun p hp => q _ _ _ _ _ (k p (a.freshM hp) fun z => hE p z (a.fresh hp)) (Same.refl _) (a.own1 hp ⟨_, rfl, krep_merge List.nodup_nil h4 trivial⟩) rfl⟩
end MM

namespace MM
open PySem L2 PyProof.Rows
/-! ### wheels -/
structure WhT (K : PySem.W.Frag) (C : Addr) : Prop where
  ci : ClsI K C
  n1 : NoAttr K C "names"
  n2 : NoAttr K C "first"
structure Wh where
  names : List Str
  first : Int
def whF (w : Wh) : List (Str × Rep) := [("names", RTt (w.names.map RS)), ("first", RI w.first)]
def RWh (C : Addr) (w : Wh) : Rep := RIns C (whF w)
theorem wk1 : (("first" : Str) == ("names" : Str)) = false := by decide +kernel
theorem hasF_names {K : PySem.W.Frag} {C : Addr} {w : Wh} (T : WhT K C) : HasF K (RWh C w) "names" (RTt (w.names.map RS)) := hasF_ins T.ci.cl T.n1 (by simp [whF, List.lookup])
theorem hasF_first {K : PySem.W.Frag} {C : Addr} {w : Wh} (T : WhT K C) : HasF K (RWh C w) "first" (RI w.first) := hasF_ins T.ci.cl T.n2 (by simp [whF, List.lookup, wk1])
structure WhOk (w : Wh) : Prop where
  ne : w.names ≠ []
  nd : w.names.Nodup
  le : w.names.length ≤ 1000
  ok : ∀ s ∈ w.names, PyData.strOk s = true
  z : Bd 70 w.first
/-- the name of a day -/
def Wh.on (w : Wh) (d : Int) : Str := w.names.getD ((d - w.first) % (w.names.length : Int)).toNat Str.empty
theorem WhOk.pos {w : Wh} (h : WhOk w) : 0 < w.names.length := List.length_pos_iff.mpr h.ne
theorem at_n {α : Type} {l : List α} {i : Nat} {x : α} (h : l[i]? = some x) : atI l (i : Int) = some x := by
  have lt := (List.getElem?_eq_some_iff.mp h).1
  unfold atI ixN
  rw [if_pos (by omega), if_pos (by omega), Option.bind_some, Int.toNat_natCast, h]
theorem Wh.at_on {w : Wh} (h : WhOk w) (d : Int) : atI (w.names.map RS) ((d - w.first) % (w.names.length : Int)) = some (RS (w.on d)) := by
  have p := h.pos
  have a := Int.emod_nonneg (d - w.first) (show ((w.names.length : Nat) : Int) ≠ 0 by omega)
  have b := Int.emod_lt_of_pos (d - w.first) (show (0 : Int) < (w.names.length : Nat) by omega)
  unfold Wh.on
  generalize (d - w.first) % (w.names.length : Int) = x at a b
  obtain ⟨k, rfl⟩ := Int.eq_ofNat_of_zero_le a
  have k1 : k < w.names.length := by omega
  refine at_n ?_
  rw [List.getElem?_map, Int.toNat_natCast, List.getD_eq_getElem?_getD, List.getElem?_eq_getElem k1]
  rfl
theorem shaped_txts {l : List Str} (h : ∀ s ∈ l, PyData.strOk s = true) : SeqAt.shaped (.list (l.map PyData.str)) = true := by
  have k : PyData.canLayAll0 (l.map PyData.str) = true := by
    induction l with
    | nil => rfl
    | cons x l ih => simp [PyData.canLayAll0, PyData.canLay0, h x List.mem_cons_self, ih fun s hs => h s (List.mem_cons_of_mem _ hs)]
  have d : PyData.depthAll (l.map PyData.str) = 0 := by
    clear h k
    induction l with
    | nil => rfl
    | cons x l ih => simp [PyData.depthAll, PyData.depth, ih]
  simp [SeqAt.shaped, PyData.canLay0, PyData.depth, k, d]
theorem isD_txts {K : PySem.W.Frag} {l : List Str} : IsD K (RLt (l.map RS)) (.list (l.map PyData.str)) := isD_lt (isDs_map (fun _ => isD_s) l)
theorem eqv_txts : ∀ {l m : List Str}, PyData.eqv (.list (l.map PyData.str)) (.list (m.map PyData.str)) = decide (l = m) := by
  have k : ∀ l m : List Str, PyData.eqvAll (l.map PyData.str) (m.map PyData.str) = decide (l = m) := by
    intro l
    induction l with
    | nil =>
      intro m
      cases m with
      | nil => simp [PyData.eqvAll]
      | cons y m => simp [PyData.eqvAll]
    | cons x l ih =>
      intro m
      cases m with
      | nil => simp [PyData.eqvAll]
      | cons y m =>
        simp only [List.map_cons, PyData.eqvAll, PyData.eqv, ih]
        by_cases e : x = y
        · subst e
          simp
        · simp [e]
  intro l m
  simp only [PyData.eqv]
  exact k l m
theorem caw_tupL {K : PySem.W.Frag} {E : En} {Γ : Gm} {M : Ow} {Φ : Rep → Ow → Prop} {ρs : List Rep} (k : Φ (RTt ρs) M) : CaW E Γ M (fun xs H Q => ∃ p ys, xs = [.ref p] ∧ ((SqL K H p ys ∧ ∀ l, H l = none → Q (.ref l) (upd H l (.tup ys))) ∨ (SqT K H p ys ∧ Q (.ref p) H))) [RLt ρs] Φ := fun σ G H a vs hv Q q => by
  match vs, hv with
  | [v], ⟨⟨l, ws, e1, e2, rf⟩, _⟩ =>
    subst e1
    refine ⟨l, ws, rfl, .inl ⟨SqL.of (a.gh _ _ e2), fun t ht => ?_⟩⟩
    have n : New G H (upd G t (.tup ws)) (upd H t (.tup ws)) := New.put a.gh ht
    exact q _ M _ _ _ k n.gg (a.new n) ⟨t, ws, rfl, upd_same, rf.mono n.gg⟩
/-! ### the places of names -/
def plc (l : List Str) : List (Key × Rep) := l.zipIdx.map fun x => (.inr x.1, RI (x.2 : Int))
theorem plc_keys {l : List Str} : (plc l).map (·.1) = l.map Sum.inr := by
  unfold plc
  rw [List.map_map]
  have : ((fun x : Key × Rep => x.1) ∘ fun x : Str × Nat => ((.inr x.1, RI (x.2 : Int)) : Key × Rep)) = (Sum.inr ∘ fun x : Str × Nat => x.1) := rfl
  rw [this, ← List.map_map, List.zipIdx_map_fst]
theorem plc_once {l : List Str} (h : l.Nodup) : KOnce (plc l) := by
  unfold KOnce
  rw [plc_keys]
  exact List.Pairwise.map _ (fun a b z y => z (Sum.inr.inj y)) h
theorem plc_at {l : List Str} {i : Nat} {s : Str} (h : l[i]? = some s) : (plc l)[i]? = some (.inr s, RI (i : Int)) := by
  unfold plc
  rw [List.getElem?_map, List.getElem?_zipIdx, h]
  simp
theorem valR_in {l : List (Key × Rep)} {k : Key} {ρ : Rep} (o : KOnce l) (h : (k, ρ) ∈ l) : valR l k = some ρ := by
  induction l with
  | nil => cases h
  | cons x l ih =>
    obtain ⟨k', ρ'⟩ := x
    have o' : (k' :: l.map (·.1)).Nodup := o
    rw [List.nodup_cons] at o'
    show (if k' = k then some ρ' else valR l k) = _
    rcases List.mem_cons.mp h with e | e
    · cases e
      rw [if_pos rfl]
    · have : ¬ k' = k := fun z => o'.1 (z ▸ List.mem_map_of_mem (f := (·.1)) e)
      rw [if_neg this]
      exact ih o'.2 e
theorem plc_val {l : List Str} (h : l.Nodup) {k : Nat} (hk : k < l.length) : valR (plc l) (.inr (l.getD k Str.empty)) = some (RI (k : Int)) := by
  have e : l[k]? = some (l.getD k Str.empty) := by rw [List.getD_eq_getElem?_getD, List.getElem?_eq_getElem hk, Option.getD_some]
  exact valR_in (plc_once h) (List.mem_of_getElem? (plc_at e))
/-! ### contracts -/
def con_Wheel_init (C : Addr) : Con := { I := Addr × Wh, B := Unit, pre := fun i => WhOk i.2, args := fun i => [RRef i.1, RLt (i.2.names.map RS), RI i.2.first], own := fun i => [(i.1, OIns C [])], post := fun _ _ => True, res := fun _ _ => RN, own' := fun i _ => [(i.1, OIns C (whF i.2))] }
theorem ck_Wheel {CW : Addr} {ρ1 ρ2 : Rep} {M : Ow} {Φ : Rep → Ow → Prop} {w : Wh} {p : Addr} (h1 : Sub ρ1 (RLt (w.names.map RS))) (h2 : Sub ρ2 (RI w.first)) (hw : WhOk w) (k : Φ (RWh CW w) M) :
    CallK (con_Wheel_init CW) [RRef p, ρ1, ρ2] ((p, OIns CW []) :: M) fun ρ M' => Sub ρ RN ∧ ∃ l M2, Rm M' p (OIns CW l) M2 ∧ Φ (RIns CW l) M2 :=
  ⟨(p, w), M, hw, .cons Sub.rfl (.cons h1 (.cons h2 .nil)), .cons .here OSub.rfl .nil, fun _ _ => ⟨Sub.rfl, whF w, M, .here, k⟩⟩
def con_wlen (C : Addr) : Con := { I := Wh, B := Unit, pre := fun _ => True, args := fun w => [RWh C w], own := fun _ => [], post := fun _ _ => True, res := fun w _ => RI (w.names.length : Nat), own' := fun _ _ => [] }
theorem ck_wlen {C : Addr} {ρ : Rep} {M : Ow} {Φ : Rep → Ow → Prop} {w : Wh} (h : Sub ρ (RWh C w)) (k : Φ (RI (w.names.length : Nat)) M) : CallK (con_wlen C) [ρ] M Φ :=
  ⟨w, M, trivial, .cons h .nil, .nil, fun _ _ => k⟩
def con_on (C : Addr) : Con := { I := Wh × Int, B := Unit, pre := fun i => WhOk i.1, args := fun i => [RWh C i.1, RI i.2], own := fun _ => [], post := fun _ _ => True, res := fun i _ => RS (i.1.on i.2), own' := fun _ _ => [] }
theorem ck_on {C : Addr} {ρ1 ρ2 : Rep} {M : Ow} {Φ : Rep → Ow → Prop} {w : Wh} {d : Int} (h1 : Sub ρ1 (RWh C w)) (h2 : Sub ρ2 (RI d)) (hw : WhOk w) (k : Φ (RS (w.on d)) M) : CallK (con_on C) [ρ1, ρ2] M Φ :=
  ⟨(w, d), M, hw, .cons h1 (.cons h2 .nil), .nil, fun _ _ => k⟩
def con_rest (C : Addr) : Con := { I := Wh × Nat, B := Unit, pre := fun i => WhOk i.1 ∧ i.2 < i.1.names.length, args := fun i => [RWh C i.1, RS (i.1.names.getD i.2 Str.empty)], own := fun _ => [], post := fun _ _ => True, res := fun i _ => RI (i.1.first + (i.2 : Nat)), own' := fun _ _ => [] }
theorem ck_rest {C : Addr} {ρ1 ρ2 : Rep} {M : Ow} {Φ : Rep → Ow → Prop} {w : Wh} {k : Nat} (h1 : Sub ρ1 (RWh C w)) (h2 : Sub ρ2 (RS (w.names.getD k Str.empty))) (hw : WhOk w) (hk : k < w.names.length) (q : Φ (RI (w.first + (k : Nat))) M) : CallK (con_rest C) [ρ1, ρ2] M Φ :=
  ⟨(w, k), M, ⟨hw, hk⟩, .cons h1 (.cons h2 .nil), .nil, fun _ _ => q⟩
structure BltW (mg : Str → Option Value) : Prop where
  len : mg "len" = none
  set : mg "set" = none
  tup : mg "tuple" = none
  dict : mg "dict" = none
  enum : mg "enumerate" = none
  zip : mg "zip" = none
  rng : mg "range" = none
  str : mg "str" = none
section
variable {P : Program} {w : World} {K : PySem.W.Frag} {mg : Str → Option Value} {base : Heap} {CW : Addr}
theorem ok_Wheel_init {dvs : List V} {f : Addr} {fd : FuncData} (F : FdD K "__init__" "Wheel.__init__" s_Wheel_init dvs f fd) (T : WhT K CW) (B : BltW mg) : FnOk P w K mg base CX0 1 f fd (N_Wheel_init.take 3) (conSp (con_Wheel_init CW)) := by
  refine fn_conD (con_Wheel_init CW) F sc_Wheel_init (fun _ => rfl) fun cd A outer s H EE G i hp hr hE => ?_
  obtain ⟨p, v⟩ := i
  have hw : WhOk v := hp
  have few := hw.le
  refine wss_cons (ws_if (wt_bool (wp_or (wt_cmp (op_eqD hr.units) (nomark _) (we_var 1 r1_Wheel_init rfl (we_lst (wa_nil ⟨by show 0 ≤ 100000; decide, ?_⟩)))))))
  refine opw_of (opv_eq isD_txts (isD_txts (l := [])) (shaped_txts hw.ok) (by decide)) ⟨_, Sub.rfl, fun _ => ?more, fun hk => ?bad⟩
  case bad =>
    rw [eqv_txts (m := [])] at hk
    exact absurd (of_decide_eq_true hk) hw.ne
  case more =>
    refine wp_or1 (wt_cmp op_lt (nomark _) (we_lenTx rfl g_len_Wheel_init B.len g_set_Wheel_init B.set (we_var 1 r1_Wheel_init rfl ⟨v.names, sub_lt, by omega, ?_⟩)))
    refine we_callB call_len_seq g_len_Wheel_init B.len (by decide +kernel) (wa_cons (we_var 1 r1_Wheel_init rfl (wa_nil (caw_of cav_len_lt (opw_of opv_lt_i ⟨_, Sub.rfl, fun hk => ?bad2, fun _ => wss_nil ?_⟩)))))
    case bad2 =>
      have hk := of_decide_eq_true hk
      rw [dn_full hw.nd _ (Nat.le_refl _), List.length_map] at hk
      exact absurd hk (Int.lt_irrefl _)
    refine wss_cons (ws_fldN (we_callTy call_tuple_of g_tuple_Wheel_init B.tup (by decide +kernel) (wa_cons (we_var 1 r1_Wheel_init rfl (wa_nil (caw_tupL (we_var 0 r0_Wheel_init rfl ⟨p, CW, [], _, Sub.rfl, .here, T.ci.cl, T.n1, by decide, rfl, ?_⟩)))))))
    refine wss_one (ws_fldN (we_var 2 r2_Wheel_init rfl (we_var 0 r0_Wheel_init rfl ⟨p, CW, _, _, Sub.rfl, .here, T.ci.cl, T.n2, by show 1 < 1000; decide, by simp [List.lookup, wk1], ?_⟩)))
    exact ⟨(), [], trivial, Sub.rfl, .cons .here OSub.rfl .nil⟩
theorem ok_wlen {f : Addr} {fd : FuncData} (F : FdD K "__len__" "Wheel.__len__" s_Wheel_len [] f fd) (T : WhT K CW) (B : BltW mg) : FnOk P w K mg base CX0 1 f fd (N_Wheel_len.take 1) (conSp (con_wlen CW)) := by
  refine fn_conD (con_wlen CW) F sc_Wheel_len (fun _ => rfl) fun cd A outer s H EE G (v : Wh) hp hr hE => ?_
  refine wss_one (ws_ret (we_callB call_len_seq g_len_Wheel_len B.len (by decide +kernel) (wa_cons (we_fld (we_var 0 r0_Wheel_len rfl ⟨_, hasF_names T, wa_nil (caw_of cav_len_tt ⟨(), [], trivial, ?_, .nil⟩)⟩)))))
  rw [List.length_map]
  exact Sub.rfl
theorem ok_on {f : Addr} {fd : FuncData} (F : FdD K "name_on" "Wheel.name_on" s_Wheel_name_on [] f fd) (T : WhT K CW) (B : BltW mg) : FnOk P w K mg base CX0 1 f fd (N_Wheel_name_on.take 2) (conSp (con_on CW)) := by
  refine fn_conD (con_on CW) F sc_Wheel_name_on (fun _ => rfl) fun cd A outer s H EE G i hp hr hE => ?_
  obtain ⟨v, d⟩ := i
  have hw : WhOk v := hp
  have p := hw.pos
  refine wss_one (ws_ret (we_ix ix_seq (we_fld (we_var 0 r0_Wheel_name_on rfl ⟨_, hasF_names T, ?_⟩))))
  refine we_bin op_modN (we_bin op_sub (we_var 1 r1_Wheel_name_on rfl (we_fld (we_var 0 r0_Wheel_name_on rfl ⟨_, hasF_first T, opw_of opv_sub_i ?_⟩))))
  refine we_callB call_len_seq g_len_Wheel_name_on B.len (by decide +kernel) (wa_cons (we_fld (we_var 0 r0_Wheel_name_on rfl ⟨_, hasF_names T, wa_nil (caw_of cav_len_tt ?_)⟩)))
  rw [List.length_map]
  exact opw_of (opv_mod_i (Int.natCast_pos.mpr p)) (opw_of (opv_ix_t sub_tt (v.at_on hw d)) ⟨(), [], trivial, Sub.rfl, .nil⟩)
theorem ok_rest {f : Addr} {fd : FuncData} (F : FdD K "rest_of" "rest_of" s_f_rest_of [] f fd) (T : WhT K CW) (B : BltW mg) : FnOk P w K mg base CX0 1 f fd (N_f_rest_of.take 2) (conSp (con_rest CW)) := by
  refine fn_conD (con_rest CW) F sc_f_rest_of (fun _ => rfl) fun cd A outer s H EE G i hp hr hE => ?_
  obtain ⟨v, k⟩ := i
  obtain ⟨hw, hk⟩ := hp
  have hw : WhOk v := hw
  have hk : k < v.names.length := hk
  have few := hw.le
  refine wss_cons (ws_set 2 w2_f_rest_of (we_callTy (call_dictR rfl) g_dict_f_rest_of B.dict (by decide +kernel) (wa_cons (we_freeze (we_lc (t := gTup K 2 (gNames [3, 5])) (own := [("place", 3), ("one", 5)]) rfl sc_f_rest_of.nd (pi_enumT g_enumerate_f_rest_of B.enum pa_w) (blkOk_by ?ok) ?hg hE ?src)))))
  case ok =>
    show blkC N_f_rest_of (defScope s_f_rest_of) _ _ = true
    decide +kernel
  case hg =>
    intro s H C cl fp
    exact pg_tup (n := 2) (t := gNames [3, 5]) rfl (pgs_cons (pg_name sc_f_rest_of.nd rfl (.inl rfl)) (pgs_cons (pg_name sc_f_rest_of.nd rfl (.inl rfl)) pgs_nil))
  case src =>
    refine src_enumT (wa_cons (we_fld (we_var 0 r0_f_rest_of rfl ⟨_, hasF_names T, wa_nil ⟨v.names.map RS, .cons sub_tt .nil, fun i o M => M = [] ∧ o = ((plc v.names).map prR).take i, ⟨rfl, rfl⟩, ?turn, ?done⟩⟩)))
    case turn =>
      rintro i ρ o M1 D hi ⟨ρ1, h1, rfl⟩ ⟨rfl, rfl⟩
      rw [List.getElem?_map] at h1
      obtain ⟨nm, hn, rfl⟩ := Option.map_eq_some_iff.mp h1
      have lt := (List.getElem?_eq_some_iff.mp hn).1
      refine ⟨setAll [3, 5] [RI (i : Int), RS nm], blkT_tup (is := [3, 5]) (by decide) rfl sub_tt, fun s H0 C cl fp => ?_⟩
      refine we_tup (wa_cons (we_var 5 ?r5 rfl (wa_cons (we_var 3 ?r3 rfl (wa_nil ⟨by show 2 ≤ 100000; decide, [], RTt [RS nm, RI (i : Int)], rfl, Sub.rfl, ?len, rfl, ?tk⟩)))))
      case r5 => exact ⟨rfl, by first | exact .inl rfl | exact .inr (.inl rfl), by decide, by decide⟩
      case r3 => exact ⟨rfl, by first | exact .inl rfl | exact .inr (.inl rfl), by decide, by decide⟩
      case len =>
        rw [List.length_take]
        omega
      case tk =>
        rw [List.take_add_one, List.getElem?_map, plc_at hn]
        rfl
    case done =>
      rintro D o M1 hD hM ⟨rfl, rfl⟩
      have all : ((plc v.names).map prR).take (v.names.map RS).length = (plc v.names).map prR := by
        refine List.take_of_length_le ?_
        unfold plc
        rw [List.length_map, List.length_map, List.length_map, List.length_zipIdx]
        exact Nat.le_refl _
      rw [all]
      refine ⟨D, _, [], Sub.rfl, .here, hD, wa_nil (caw_dictP (more := plc v.names) hE fun p hp hpE => ?_)⟩
      rw [mergeR_new (more := plc v.names) (l := []) (plc_once hw.nd), List.nil_append]
      refine wss_cons (ws_try0 (wss_one (ws_set 3 ?wr (we_dget hr (we_var 2 ?g2 rfl (we_var 1 ?g1 rfl ⟨p, _, _, .inr (v.names.getD k Str.empty), RI (k : Int), Sub.rfl, .here, keyR_s, plc_val hw.nd hk, ?_⟩))))))
      case wr => exact ⟨sc_f_rest_of.nd, rfl, by first | exact .inl rfl | exact .inr rfl, .inl rfl⟩
      case g2 => exact ⟨rfl, by first | exact .inl rfl | exact .inr (.inl rfl), by decide, by decide⟩
      case g1 => exact ⟨rfl, by first | exact .inl rfl | exact .inr (.inl rfl), by decide, by decide⟩
      exact wss_one (ws_ret (we_bin op_addU (we_fld (we_var 0 r0_f_rest_of rfl ⟨_, hasF_first T, we_var 3 r3_f_rest_of rfl (opw_of opv_add_i ⟨(), _, trivial, Sub.rfl, .nil⟩)⟩))))
end
end MM

namespace PySem
namespace XG
open PySem.W PySem.HandSPX PySem.Calls PyProof.Rows
section
open PySem.Builtin PySem.Builtin.ObjectAttr
variable {prog : Program} {w : World} {A : Around} {E : Value → Shared → Prop} {R : Result → Shared → Prop} {hh0 : Heap} {g : Array GenState} {d : Drawn} {t : Nat} {os : OsState}
  {KK : W.Frag} {B : String} {bmB : List Value} {name : Str} {tk : Tok} {v : Value} {x Ce : Addr} {fv : Array Value}
/-- a store of a field into a thing that has no dict as yet -/
theorem first (SF : StoreFacts B bmB "object.__setattr__" "object") (X : KK.In hh0) (xat : hh0.get? x = some { cls := .ref Ce, data := .fields fv }) (ov : excOver KK Ce bmB = true) (hd : hasDictIn KK Ce = true) (no : findIn KK (.ref Ce) name = some none)
    (fin : ∀ hf tf dq, (∀ b o, b ≠ x → hh0.get? b = some o → hf.get? b = some o) → hh0.objs.size ≤ dq → dq ≠ x → hf.get? x = some { cls := .ref Ce, dict := some dq, data := .fields fv } →
      hf.Ns1 dq (fun y => if y = name then some v else none) → R (.ok (.ret .none)) ⟨hf, g, d, tf, os⟩) :
    codeAny (model prog w) A (.call (.builtin "object.__setattr__") ⟨[.ref x, .str name tk, v], []⟩) R ⟨hh0, g, d, t, os⟩ := by
  have xne : x ≠ hh0.objs.size := Nat.ne_of_lt (Heap.lt_size xat)
  have tkn : takerIn KK Ce name = some none := by unfold takerIn; rw [no]; rfl
  refine osa_openX (od := none) SF X ⟨xat, rfl, rfl, trivial⟩ ov tkn fun b => ?_
  obtain ⟨cd, hc, hh⟩ := any_some hd
  have lc : W.Looks (model prog w) hh0 (classData Ce) cd := W.looks_clsIn X hc
  show wpAny _ _ (storeInOwnDict (.ref x) (.ref Ce) (.str name tk) name v b) _ _ _
  obtain ⟨nm, bs, mro, ns, qn, hdc, sn, sb, ab, col, del⟩ := cd
  dsimp only at hh
  subst hh
  unfold storeInOwnDict
  unfold ownDictForStores
  repeat (first | with_reducible refine store_in_new ?_ ?_ | with_reducible refine wpAny_loadPart_at xat ?_ | with_reducible refine lc.at ?_ | wp_step)
  · exact ⟨_, #[], _, (Heap.get?_update_ne _ _ _ _ xne.symm).trans (Heap.get?_push_at rfl rfl), rfl, fun ex he => absurd he (by simp), fun _ => rfl⟩
  · intro hf tf nf sbt
    have xat1 : (hh0.push { cls := .type "dict", data := .dict #[] }).get? x = some { cls := .ref Ce, data := .fields fv } := Heap.get?_push_of_some _ xat
    refine fin hf tf hh0.objs.size (fun c o hb oat => ?_) (Nat.le_refl _) xne.symm ?_ nf
    · exact (sbt.2 c (Nat.ne_of_lt (Heap.lt_size oat))).trans ((Heap.get?_update_ne _ _ _ _ hb).trans (Heap.get?_push_of_some _ oat))
    · exact (sbt.2 x xne).trans (Heap.get?_update_self _ xat1 rfl)
/-- .. that has its dict -/
theorem further {dq : Addr} {m0 : Str → Option Value} {nl : List Str} (SF : StoreFacts B bmB "object.__setattr__" "object") (X : KK.In hh0) (xat : hh0.get? x = some { cls := .ref Ce, dict := some dq, data := .fields fv }) (hns : hh0.Ns1 dq m0) (hw : Within m0 nl) (hz : nl.length ≤ 1000)
    (ov : excOver KK Ce bmB = true) (hd : hasDictIn KK Ce = true) (no : findIn KK (.ref Ce) name = some none)
    (fin : ∀ hf tf, (∀ b o, b ≠ dq → hh0.get? b = some o → hf.get? b = some o) → hf.Ns1 dq (fun y => if y = name then some v else m0 y) → R (.ok (.ret .none)) ⟨hf, g, d, tf, os⟩) :
    codeAny (model prog w) A (.call (.builtin "object.__setattr__") ⟨[.ref x, .str name tk, v], []⟩) R ⟨hh0, g, d, t, os⟩ := by
  obtain ⟨obD, entD, entP, obAt, obDat, _⟩ := hns.count hw
  have tkn : takerIn KK Ce name = some none := by unfold takerIn; rw [no]; rfl
  refine osa_openX (od := some obD) SF X ⟨xat, rfl, rfl, obAt⟩ ov tkn fun b => ?_
  obtain ⟨cd, hc, hh⟩ := any_some hd
  have lc : W.Looks (model prog w) hh0 (classData Ce) cd := W.looks_clsIn X hc
  show wpAny _ _ (storeInOwnDict (.ref x) (.ref Ce) (.str name tk) name v b) _ _ _
  obtain ⟨nm, bs, mro, ns, qn, hdc, sn, sb, ab, col, del⟩ := cd
  dsimp only at hh
  subst hh
  unfold storeInOwnDict
  unfold ownDictForStores
  repeat (first | with_reducible refine OEX.store_in_old hns hw hz ?_ | with_reducible refine wpAny_loadPart_at xat ?_ | with_reducible refine lc.at ?_ | wp_step)
  intro hf tf nf sbt
  exact fin hf tf (fun c o hb oat => (sbt.2 c hb).trans oat) nf
end
/-! ### an exception of an own class is made: what is asked of the built-in class that makes it -/
section
variable {M : Model} {prog : Program} {w : World} {A : Around} {E : Value → Shared → Prop} {R : Result → Shared → Prop} {hh0 : Heap} {g : Array GenState} {d : Drawn} {t : Nat} {os : OsState}
  {nm qn : Str} {Ce Na : Addr} {bss tl bm0 : List Value} {hdi : Bool} {sns : List Str} {sbs : List Value} {abb : Bool} {cll : Option Bool} {ddd : Option Addr} {j0 j1 j2 j3 j5 : Option Value} {B0 newId initId : String} {argl : List Value}
theorem allowed (F : ExcBaseFacts B0 newId initId bm0) (inB : tl.contains (.type B0) = true) {Q : Unit → Shared → Prop} (at_ : hh0.get? Ce = some (excClassObj nm qn Ce Na bss tl hdi sns sbs abb cll ddd j0 j1 j2 j3 j5 newId)) (q : Q () ⟨hh0, g, d, t, os⟩) :
    wpAny M A (checkBuiltinCall newId ⟨.ref Ce :: argl, []⟩) Q E ⟨hh0, g, d, t, os⟩ := by
  have isB : (Value.ref Ce :: tl).contains (.type B0) = true := by rw [List.contains_cons, inB, Bool.or_true]
  have star := F.noStar
  simp only [checkBuiltinCall, F.newKind, F.newSplit, F.newRow]
  repeat (first | refine wpAny_loadPart_at at_ ?_ | (refine wpAny_isSubtype_exc at_ ?_; rw [isB]) | refine wpAny_staticBase_exc at_ ?_ | refine wpAny_madeBy_exc at_ ?_ | simp only [bne_self_eq_false, Bool.false_eq_true, if_false] | wp_step)
  exact q
theorem laid_new (F : ExcBaseFacts B0 newId initId bm0) (inB : tl.contains (.type B0) = true) (noA : tl.contains (.type "AttributeError") = false) (noN : tl.contains (.type "NameError") = false)
    (at_ : hh0.get? Ce = some (excClassObj nm qn Ce Na bss tl hdi sns sbs abb cll ddd j0 j1 j2 j3 j5 newId)) (few : argl.length ≤ sizeLine)
    (q : R (.ok (.ret (.ref (hh0.objs.size + 1)))) ⟨(hh0.push { cls := .type "tuple", data := .seq argl.toArray }).push { cls := .ref Ce, data := .fields #[.ref hh0.objs.size, .none, .none, .none, .bool false, .none] }, g, d, t, os⟩) :
    codeAny (model prog w) A (.builtin newId ⟨.ref Ce :: argl, []⟩) R ⟨hh0, g, d, t, os⟩ := by
  have ends_ := F.ends
  have isB : (Value.ref Ce :: tl).contains (.type B0) = true := by rw [List.contains_cons, inB, Bool.or_true]
  have isA : (Value.ref Ce :: tl).contains (.type "AttributeError") = false := by rw [List.contains_cons, noA]; rfl
  have isN : (Value.ref Ce :: tl).contains (.type "NameError") = false := by rw [List.contains_cons, noN]; rfl
  refine codeAny_builtinAt F.entry ?_
  unfold Builtin.«BaseException.__new__»
  refine wpAt_bind ?_
  show wpAt _ _ _ (stack >>= _) _ _ _
  refine wpAt_bind (wpAt_stack fun p under => wpAt_of_wpAny ?_)
  wp_walk
  refine wpAt_of_wpAny ?_
  rw [F.owner]
  repeat (first | with_reducible refine wpAny_madeHere_exc F.canon at_ ?_ | with_reducible refine wpAny_loadPart_at at_ ?_ | (with_reducible refine wpAny_isSubtype_exc at_ ?_; first | rw [isB] | rw [isA] | rw [isN]) | wp_step)
  show R _ _
  rw [Heap.size_push]
  exact q
theorem type_call (F : ExcBaseFacts B0 newId initId bm0) (inB : tl.contains (.type B0) = true) (noA : tl.contains (.type "AttributeError") = false) (noN : tl.contains (.type "NameError") = false) {fI : Addr} {Q : Fin → Shared → Prop}
    (at_ : hh0.get? Ce = some (excClassObj nm qn Ce Na bss tl hdi sns sbs abb cll ddd j0 j1 j2 j3 j5 newId)) (li : W.Looks (model prog w) hh0 (typeLookup (.ref Ce) "__init__") (some (.ref fI))) (lb : ∀ self, W.Looks (model prog w) hh0 (bindSpecial (.ref fI) self) (.ref fI, [self])) (few : argl.length ≤ sizeLine)
    (q : codeAny (model prog w) A (.call (.ref fI) ⟨.ref (hh0.objs.size + 1) :: argl, []⟩) (fun r s' => match r with | .ok (.ret v) => v = .none ∧ Q (.done (.ret (.ref (hh0.objs.size + 1)))) s' | .ok _ => False | .error e => E e s') ⟨(hh0.push (W.kdv_tup argl)).push (excO Ce hh0.objs.size), g, d, t, os⟩) :
    wpAny (model prog w) A (Builtin.«type.__call__» ⟨.ref Ce :: argl, []⟩) Q E ⟨hh0, g, d, t, os⟩ := by
  repeat (first | with_reducible refine wpAny_loadPart_at at_ ?_ | with_reducible refine wpAny_madeBy_exc at_ ?_ | wp_step)
  refine codeAny_call_builtin_code (Code.quiet_builtin _ F.quiet) (allowed F inB at_ (laid_new F inB noA noN at_ few ?_))
  show wpAny _ _ _ _ _ _
  have kee : ∀ b o, hh0.get? b = some o → ((hh0.push (W.kdv_tup argl)).push (excO Ce hh0.objs.size)).get? b = some o := fun b o e => Heap.get?_push_of_some _ (Heap.get?_push_of_some _ e)
  have at1 := kee _ _ at_
  have got : ((hh0.push (W.kdv_tup argl)).push (excO Ce hh0.objs.size)).get? (hh0.objs.size + 1) = some (excO Ce hh0.objs.size) := by heap_get
  have isC : (Value.ref Ce :: tl).contains (.ref Ce) = true := by simp
  have li1 := li.keeps kee
  have lb1 := (lb (.ref (hh0.objs.size + 1))).keeps kee
  unfold isInstance
  repeat (first | with_reducible refine wpAny_loadPart_at got ?_ | (with_reducible refine wpAny_isSubtype_exc at1 ?_; rw [isC]) | wp_step)
  show wpAny _ _ (typeLookup (.ref Ce) _) _ _ _
  refine li1.at ?_
  refine wpAny_holding (wpAny_bind (lb1.at ?_))
  refine wpAny_bind (wpAny_call (codeAny_mono q fun r s' z => ?_))
  rcases r with e | (v | _ | _ | _) <;> first | exact z | exact z.elim | skip
  obtain ⟨ev, z⟩ := z
  subst ev
  first
    | exact wpAny_pure (wpAny_pure z)
    | (wp_walk; exact z)
theorem made_own (F : ExcBaseFacts B0 newId initId bm0) (inB : tl.contains (.type B0) = true) (noA : tl.contains (.type "AttributeError") = false) (noN : tl.contains (.type "NameError") = false) {fI : Addr}
    (at_ : hh0.get? Ce = some (excClassObj nm qn Ce Na bss tl hdi sns sbs abb cll ddd j0 j1 j2 j3 j5 newId)) (li : W.Looks (model prog w) hh0 (typeLookup (.ref Ce) "__init__") (some (.ref fI))) (lb : ∀ self, W.Looks (model prog w) hh0 (bindSpecial (.ref fI) self) (.ref fI, [self])) (few : argl.length ≤ sizeLine)
    (q : codeAny (model prog w) (A.under (.builtin "type.__call__" ⟨.ref Ce :: argl, []⟩)) (.call (.ref fI) ⟨.ref (hh0.objs.size + 1) :: argl, []⟩) (W.InitBack (hh0.objs.size + 1) R) ⟨(hh0.push (W.kdv_tup argl)).push (excO Ce hh0.objs.size), g, d, t, os⟩) :
    codeAny (model prog w) A (.call (.ref Ce) ⟨argl, []⟩) R ⟨hh0, g, d, t, os⟩ := by
  have k1 := tc_lookup
  have k2 := tc_bind (.ref Ce)
  have isT : (⟨hh0, g, d, t, os⟩ : Shared).TypeIs (.ref Ce) "type" := ⟨_, at_, rfl⟩
  refine codeAny_of_tree ?_
  show wpAny _ _ (callAny (.ref Ce) _) _ _ _
  repeat (any_goals (first | assumption | with_reducible refine wpAny_loadPart_at at_ ?_ | wp_step))
  refine ⟨rfl, ?_⟩
  refine codeAny_call_builtin_at (Code.quiet_builtin _ (by decide +kernel)) entry_typeCall (wpAny_check_type_call_sub at_ (type_call F inB noA noN at_ li lb few ?_))
  refine codeAny_mono q fun r s' z => ?_
  rcases r with e | (v | _ | _ | _) <;> exact z
end
end XG
end PySem
namespace MM
open PySem L2 PyProof.Rows
/-- what the written part says of an exception's class that stores fields -/
structure OxC (KK : PySem.W.Frag) (Ce : Addr) (newId : String) (bmB : List Value) : Prop where
  ci : PySem.W.excInitIn KK Ce bmB newId = true
  ov : PySem.W.excOver KK Ce bmB = true
  sa : PySem.W.findIn KK (.ref Ce) "__setattr__" = some (some (.builtin "object.__setattr__"))
  exC : PySem.W.subIn KK (.ref Ce) (.type "BaseException") = some true
  tyC : PySem.W.typeIn KK (.ref Ce) = some (.type "type")
  kC : PySem.W.keepIn KK (.ref Ce) = true
  hd : PySem.W.hasDictIn KK Ce = true
/-- an instance is made by the built-in class B0, at or above B -/
def BF (newId initId : String) (bmB : List Value) : Prop := ∃ B0 bm0, ExcBaseFacts B0 newId initId bm0 ∧ bmB.contains (.type B0) = true ∧ bmB.contains (.type "AttributeError") = false ∧ bmB.contains (.type "NameError") = false
structure XB (B newId initId : String) (bmB : List Value) : Prop where
  bf : BF newId initId bmB
  sf : StoreFacts B bmB "object.__setattr__" "object"
theorem xb_of {B newId initId : String} {bmB : List Value} (h : ExcBaseFacts B newId initId bmB) (sf : StoreFacts B bmB "object.__setattr__" "object") : XB B newId initId bmB := ⟨⟨B, bmB, h, h.hasB, h.noAttr, h.noName⟩, sf⟩
def OxOk (KK : PySem.W.Frag) (Ce : Addr) : Prop := ∃ B newId initId bmB, XB B newId initId bmB ∧ OxC KK Ce newId bmB
section
variable {X : Cx} {pns : List (Addr × Obj)} {σ : L2.St} {H : Hp} {s : Shared} {a Ce dq : Addr} {f : Str} {y : V} {u : Value} {flds : List (Str × V)} {Q : Unit → Shared → Prop} {E : Value → Shared → Prop} {A : Around}
theorem xst_new (T : OxOk X.K Ce) (Iv : L2.Inv X pns σ H s) (ex : H a = some (exo a Ce none)) (no : PySem.W.findIn X.K (.ref Ce) f = some none) (ry : RelV y u)
    (h : ∀ dq s', H dq = none → dq ≠ a → L2.Inv X pns σ (upd (upd H dq (exd dq [(f, y)])) a (exo a Ce (some dq))) s' → Q () s') : wpAny (model X.prog X.w) A (setAttr (.ref a) f u) Q E s := by
  obtain ⟨B, nI, iI, bmB, xb, T⟩ := T
  obtain ⟨t1, oat⟩ := exo_at Iv.hok ex
  obtain ⟨hh0, g, d, t, os⟩ := s
  refine PySem.W.set_plain Iv.kIn (ox := { cls := .ref Ce, dict := none, data := .fields #[.ref t1, .none, .none, .none, .bool false, .none] }) (od := none) ⟨oat, rfl, rfl, trivial⟩ T.sa ?_
  refine PySem.XG.first xb.sf Iv.kIn oat T.ov T.hd no (fun hf tf dq kp dn dne xat hn => ?_)
  have dfree : H dq = none := Iv.hok.fresh dn
  have dne0 : ∀ {b : Addr} {o : Obj}, hh0.get? b = some o → b ≠ dq := fun {b o} qq => Nat.ne_of_lt (Nat.lt_of_lt_of_le (Heap.lt_size qq) dn)
  have ane : ∀ {b : Addr}, H b = none → b ≠ a := fun {b} n z => by
    rw [z, ex] at n
    cases n
  have U : Un X.fs [] H (upd (upd H dq (exd dq [(f, y)])) a (exo a Ce (some dq))) hh0 hf := {
    keep := fun b o qq n _ _ => kp b o (ane n) qq
    slot := fun b o qq n _ _ => ⟨o.slots, kp b o (ane n) qq⟩
    free := fun b o qq n _ => by rw [upd_ne (ane n), upd_ne (dne0 qq)]; exact n
    there := fun b o qq _ => by
      by_cases hb : b = a
      · exact ⟨_, by rw [hb]; exact xat⟩
      · exact ⟨o, kp b o hb qq⟩
    tups := fun b xs qq => by rw [upd_ne (at_ne ex qq exo_tup), upd_ne (ne_of_none qq dfree)]; exact qq
    frzs := fun b o v qq => by rw [upd_ne (at_ne ex qq exo_frz), upd_ne (ne_of_none qq dfree)]; exact qq
    tbls := fun b ps qq => ⟨#[], by rw [upd_ne (at_ne ex qq exo_tbl), upd_ne (ne_of_none qq dfree), qq]; simp⟩ }
  refine h dq _ dfree dne (Iv.un (t' := tf) U fun b o qq => ?_)
  by_cases hb : b = a
  · subst hb
    rw [upd_same] at qq
    cases qq
    exact exo_ok xat
  · rw [upd_ne hb] at qq
    by_cases hdd : b = dq
    · subst hdd
      rw [upd_same] at qq
      cases qq
      exact exd_ok hn (relO_put (fs := []) ry (fun _ => trivial))
    · rw [upd_ne hdd] at qq
      exact (Iv.hok b o qq).stay (fun c v hc z => kp c v (by
          rcases hc with hc | hc
          · rw [hc]
            exact hb
          · exact at_ne ex hc exo_own) z)
        (fun c hc => by rw [upd_ne (at_ne ex hc exo_own), upd_ne (ne_of_none hc dfree)]; exact hc) (fun c xs hc => by rw [upd_ne (at_ne ex hc exo_tup), upd_ne (ne_of_none hc dfree)]; exact hc)
theorem xst_old (T : OxOk X.K Ce) (Iv : L2.Inv X pns σ H s) (ex : H a = some (exo a Ce (some dq))) (ed : H dq = some (exd dq flds)) (hln : flds.length ≤ 900) (no : PySem.W.findIn X.K (.ref Ce) f = some none) (ry : RelV y u)
    (h : ∀ s', L2.Inv X pns σ (upd H dq (exd dq ((f, y) :: flds))) s' → Q () s') : wpAny (model X.prog X.w) A (setAttr (.ref a) f u) Q E s := by
  obtain ⟨B, nI, iI, bmB, xb, T⟩ := T
  obtain ⟨t1, oat⟩ := exo_at Iv.hok ex
  obtain ⟨mA, hns, rel⟩ := exd_at Iv.hok ed
  have hw := within_of rel
  obtain ⟨hh0, g, d, t, os⟩ := s
  obtain ⟨obD, _, _, obAt, _, _⟩ := hns.count hw
  refine PySem.W.set_plain Iv.kIn (ox := { cls := .ref Ce, dict := some dq, data := .fields #[.ref t1, .none, .none, .none, .bool false, .none] }) (od := some obD) ⟨oat, rfl, rfl, obAt⟩ T.sa ?_
  refine PySem.XG.further xb.sf Iv.kIn oat hns hw (by rw [List.length_map]; omega) T.ov T.hd no (fun hf tf kp hn => ?_)
  have hd : ∃ o, hf.get? dq = some o := by
    obtain ⟨o, _, _, e', _⟩ := hn
    exact ⟨o, e'⟩
  exact h _ (Iv.write (t' := tf) (x := dq) (e := dq) (o := exd dq ((f, y) :: flds)) (by rw [ed]; exact True.intro) (.inl rfl) kp hd (exd_ok hn (relO_put ry rel)))
end
/-- self.f = ex, self the exception that is being made -/
def tXst (KK : PySem.W.Frag) (f : Str) (to te : TE) : TS := fun Dn σ H => te σ H fun y H1 => to σ H1 fun x H2 => ∃ a Ce : Addr, x = .ref a ∧ OxOk KK Ce ∧ PySem.W.findIn KK (.ref Ce) f = some none ∧
  ((H2 a = some (exo a Ce none) ∧ ∀ dq, H2 dq = none → dq ≠ a → Dn.nx σ (upd (upd H2 dq (exd dq [(f, y)])) a (exo a Ce (some dq)))) ∨
    ∃ (dq : Addr) (flds : List (Str × V)), H2 a = some (exo a Ce (some dq)) ∧ H2 dq = some (exd dq flds) ∧ flds.length ≤ 900 ∧ Dn.nx σ (upd H2 dq (exd dq ((f, y) :: flds))))
section
variable {X : Cx} {o ex : Expr} {es : List Expr} {to te : TE} {ta : TA} {f : Str} {p p' p1 p2 pos : Pos}
theorem ps_xst (oat : PE X o to) (he : PE X ex te) (sbt : swapsWith ex (some (.Attribute o f p')) pos.line X.env = pure false := by rfl) : PS X (.Assign [.Attribute o f p'] ex pos) (tXst X.K f to te) := by
  refine ⟨fun pns s σ H Dn Iv h => ?_⟩
  refine plainObj_wpAny_Assign_Attribute (thn (he.run pns s σ H _ Iv h) fun v s1 ⟨y, H1, Iv1, rv1, q1⟩ => thn (oat.run pns s1 σ H1 _ Iv1 q1) fun u s2 ⟨x, H2, Iv2, r2, a, Ce, ex, T, no, qq⟩ => ?_) sbt
  subst ex
  have eu : u = Value.ref a := r2
  subst eu
  rcases qq with ⟨ea, qq⟩ | ⟨dq, flds, ea, ed, hln, qq⟩
  · exact xst_new T Iv2 ea no rv1 fun dq s' n ne J => ⟨σ, _, J, qq dq n ne⟩
  · exact xst_old T Iv2 ea ed hln no rv1 fun s' J => ⟨σ, _, J, qq⟩
/-- Ce(ex, ..): C's __init__ keeps sp -/
theorem pmk_xex {CX : CXT} {x : Str} {Ce fI : Addr} {kp : Nat} {fd : FuncData} {ps : List Str} {sp : Sp} {ds : List Value} {dvs : List V} (T : OxOk X.K Ce) (iC : PySem.W.findIn X.K (.ref Ce) "__init__" = some (some (.ref fI))) (tI : PySem.W.isFn X.K (.ref fI) = true)
    (F1 : FnOk X.prog X.w X.K X.mg X.base CX kp fI fd ps sp) (hr : Room (kp + 1) X.A) (hb : Binds X.K fd ps ds) (hd : Vals dvs ds) (xat : Passes CX X (fun _ _ _ => False)) (hg : Gl X x) (hm : X.mg x = some (.ref Ce)) (ha : PA X (ex :: es) ta)
    (hdb : (x == ("__debug__" : Str)) = false := by decide) (he : starEach (ex :: es) X.env = (false, eval ex X.env) :: starEach es X.env := by rfl) (hpl : (backTo pos (starEach es X.env)).any (·.1) = false := by rfl) :
    PMk X (.Call (.Name x p) (ex :: es) [] pos) (tMkO Ce sp dvs ta) := by
  intro pns s σ H Q Iv h
  obtain ⟨B, nI, iI, bmB, xb, T⟩ := T
  refine wpAny_Call_Name_kw (ld_glob Iv hg hm ?_ hdb)
  refine PySem.W.callWith_K (h₀ := X.base) Iv.ok.mod.kin T.kC (thn (ha.run pos pns s σ H _ Iv h) fun uvs s1 ⟨vs, H1, Iv1, rv1, hz, q1⟩ => ⟨Iv1.kIn, ?_⟩) he hpl
  show wpAny _ _ (call (.ref Ce) uvs) _ _ _
  obtain ⟨nm, N, qn, bs, bm, hdct, sn, sub, ab, col, dd, k0, k1, k2, k3, k5, hC, hT⟩ := PySem.W.excInit_of Iv1.kIn T.ci
  obtain ⟨oI, hoI, clI⟩ : ∃ oI, s1.heap.get? fI = some oI ∧ oI.cls = .type "function" := by
    obtain ⟨o, oat, hc⟩ := Option.map_eq_some_iff.mp (show (X.K.lookup fI).map (·.cls) = some (.type "function") from beq_iff_eq.mp tI)
    exact ⟨o, Iv1.kIn _ _ oat, hc⟩
  obtain ⟨hh0, g, dr, tk, os⟩ := s1
  have szle : hh0.objs.size ≤ hh0.objs.size + 1 := Nat.le_succ _
  have hn : H1 (hh0.objs.size + 1) = none := Iv1.hok.fresh szle
  have fin := q1 (hh0.objs.size + 1) hn
  have kee : ∀ b o, hh0.get? b = some o → ((hh0.push (PySem.W.kdv_tup uvs)).push (PySem.HandSPX.excO Ce hh0.objs.size)).get? b = some o := fun b o ex => Heap.get?_push_of_some _ (Heap.get?_push_of_some _ ex)
  have got : ((hh0.push (PySem.W.kdv_tup uvs)).push (PySem.HandSPX.excO Ce hh0.objs.size)).get? (hh0.objs.size + 1) = some (PySem.HandSPX.excO Ce hh0.objs.size) := by heap_get
  have Iv2 : L2.Inv X pns σ (upd H1 (hh0.objs.size + 1) (exo (hh0.objs.size + 1) Ce none)) ⟨(hh0.push (PySem.W.kdv_tup uvs)).push (PySem.HandSPX.excO Ce hh0.objs.size), g, dr, tk, os⟩ :=
    Iv1.laid (t' := tk) (a := hh0.objs.size + 1) (o := exo (hh0.objs.size + 1) Ce none) (h' := (hh0.push (PySem.W.kdv_tup uvs)).push (PySem.HandSPX.excO Ce hh0.objs.size)) kee szle (exo_ok got)
  have r2 : Vals (V.ref (hh0.objs.size + 1) :: (vs ++ dvs)) (Value.ref (hh0.objs.size + 1) :: (uvs ++ ds)) := .cons rfl (rv1.append hd)
  have hln : (Value.ref (hh0.objs.size + 1) :: uvs ++ ds).length = ps.length := by
    have ex := r2.length
    rw [F1.len _ _ _ _ fin] at ex
    exact ex.symm
  have usle : uvs.length ≤ sizeLine := by
    rw [← Paired.length rv1, sizeLine_eq]
    omega
  obtain ⟨B0, bm0, bf, inB, noA, noN⟩ := xb.bf
  refine wpAny_call (PySem.XG.made_own bf (by rw [hT]; exact inB) (by rw [hT]; exact noA) (by rw [hT]; exact noN) hC (PySem.W.looks_findIn Iv1.kIn iC) (fun self => PySem.W.exc_bind hoI clI self) usle
    (codeAny_mono (F1.run _ X.stack _ _ ⟨Value.ref (hh0.objs.size + 1) :: uvs, []⟩ (Value.ref (hh0.objs.size + 1) :: (uvs ++ ds)) _ _ (fun _ _ _ => False) (hr.make Ce uvs []) (Iv2.env0.make Ce uvs []) (hb _ (Value.ref (hh0.objs.size + 1) :: uvs) Iv2.kIn hln) r2 fin) fun r s' res => ?_))
  cases r with
  | error er => exact xat pns σ _ _ er s' Iv2 res
  | ok fl =>
    cases fl with
    | ret u =>
      obtain ⟨v, H2, os2, bare2, un2, hok2, rv, ev, d, flds, ea, ed, hd1, q2⟩ := res
      subst ev
      obtain ⟨h2, g2, d2, t2, osz⟩ := s'
      exact ⟨rv, mk_end (raises_own T.exC T.tyC) Iv1 szle kee un2 hok2 os2 bare2 ea ed hd1 q2⟩
    | next => exact False.elim res
    | brk => exact False.elim res
    | cont => exact False.elim res
end
end MM

namespace MM
open PySem L2 PyProof.Rows
/-! ### At: from a later start; a slot forgotten -/
section
variable {E : En} {Γ Γ' : Gm} {M M' : Ow} {σ σ' : L2.St} {G H G' H' : Hp}
theorem At.rebase (a : At E Γ M σ G H) : At ⟨G, H, M.map (·.1)⟩ Γ M σ G H :=
  ⟨a.len, a.env, a.gh, a.own, a.gn, a.nd, Same.refl _, fun _ _ _ e => e, fun _ _ g => g, fun q hq => .inl (List.mem_map.mpr ⟨q, hq, rfl⟩), fun _ h => h⟩
theorem At.comp (a : At E Γ M σ G H) (b : At ⟨G, H, M.map (·.1)⟩ Γ' M' σ' G' H') : At E Γ' M' σ' G' H' where
  len := b.len
  env := b.env
  gh := b.gh
  own := b.own
  gn := b.gn
  nd := b.nd
  g0 := a.g0.trans b.g0
  keep := fun x o h1 h2 => b.keep x o (fun hm => by
    obtain ⟨q, hq, e⟩ := List.mem_map.mp hm
    rcases a.loc q hq with z | z
    · rw [e] at z; exact h1 z
    · rw [e, h2] at z; cases z) (a.keep x o h1 h2)
  nw := fun x h1 h2 => a.nw x h1 (b.nw x (a.there x h1) h2)
  loc := fun q hq => by
    rcases b.loc q hq with z | z
    · obtain ⟨q', h1, e⟩ := List.mem_map.mp z
      rw [← e]; exact a.loc q' h1
    · exact .inr (a.fresh z)
  there := fun x h => b.there x (a.there x h)
theorem At.unset (a : At E Γ M σ G H) (i : Nat) : At E (Γ.set i none) M (σ.set i none) G H :=
  ⟨by simp [a.len], fun j ρ e => by
    by_cases hj : i = j
    · subst hj
      by_cases hl : i < Γ.length
      · rw [List.getElem?_set_self hl] at e; simp at e
      · rw [List.getElem?_eq_none (by simp; omega)] at e; cases e
    · rw [List.getElem?_set_ne hj] at e
      obtain ⟨v, e1, r⟩ := a.env j ρ e
      exact ⟨v, by rw [List.getElem?_set_ne hj]; exact e1, r⟩, a.gh, a.own, a.gn, a.nd, a.g0, a.keep, a.nw, a.loc, a.there⟩
theorem At.there0 (a : At E Γ M σ G H) : ∀ x ∈ M.map (·.1), H x ≠ none := fun x hx => by
  obtain ⟨q, hq, e⟩ := List.mem_map.mp hx
  obtain ⟨o, e2, _⟩ := a.own q hq
  rw [← e, e2]; simp
end
/-! ### a thing that is being made: its fields -/
def OX (p C : Addr) (d : Option Addr) : ORep := ⟨fun o _ => o = exo p C d, fun _ _ _ _ h => h⟩
def OXD (d : Addr) (l : List (Str × Rep)) : ORep := ⟨fun o G => ∃ fs, o = exd d fs ∧ FRep l fs G, fun _ _ _ s ⟨fs, e, r⟩ => ⟨fs, e, r.mono s⟩⟩
section
variable {X : Cx} {E : En} {Γ : Gm} {M : Ow} {e : Expr} {es : List Expr} {pos p pos' : Pos} {k : Nat} {x : Str} {Ψ : Ed}
theorem ws_xst1 {o value : Expr} {f : Str} (h : WE X E Γ M value fun ρv M1 => WE X E Γ M1 o fun ρo M2 => ∃ p C u, Sub ρo (RRef p) ∧ Fnd M2 p (OX p C none) u ∧ OxOk X.K C ∧ PySem.W.findIn X.K (.ref C) f = some none ∧
      ∀ d, d ∉ M2.map (·.1) → Ψ.nx Γ ((d, OXD d [(f, ρv)]) :: u (OX p C (some d))))
    (hs : swapsWith value (some (.Attribute o f pos')) pos.line X.env = pure false := by rfl) : WS X E Γ M (.Assign [.Attribute o f pos'] value pos) Ψ :=
  ws_of (ps_xst pe_w pe_w hs) fun σ G H a D k => h σ G H a _ fun ρv M1 v G1 H1 h1 s1 a1 r1 => h1 σ G1 H1 a1 _ fun ρo M2 y G2 H2 ⟨p, C, u, sb, fd, T, no, hk⟩ s2 a2 r2 => by
    obtain ⟨o, e1, e2⟩ := a2.own _ fd.mem
    have e2 : o = exo p C none := e2
    subst e2
    refine ⟨p, C, sb _ _ r2, T, no, .inl ⟨e1, fun d nd ne => ?_⟩⟩
    have a3 := a2.own1 (p := d) (o := exd d [(f, v)]) (r := OXD d [(f, ρv)]) nd ⟨_, rfl, rfl, ρv.mono _ _ _ s2 r1, trivial⟩
    have a4 := a3.write (o := exo p C (some d)) (r' := OX p C (some d)) (.there fd) rfl
    exact k.nx _ _ (hk d (a2.freshM nd)) _ _ _ (s1.trans s2) a4
theorem ws_xst2 {o value : Expr} {f : Str} (h : WE X E Γ M value fun ρv M1 => WE X E Γ M1 o fun ρo M2 => ∃ p C d l u u2, Sub ρo (RRef p) ∧ Fnd M2 p (OX p C (some d)) u ∧ Fnd M2 d (OXD d l) u2 ∧ OxOk X.K C ∧ PySem.W.findIn X.K (.ref C) f = some none ∧ l.length ≤ 800 ∧
      Ψ.nx Γ (u2 (OXD d ((f, ρv) :: l))))
    (hs : swapsWith value (some (.Attribute o f pos')) pos.line X.env = pure false := by rfl) : WS X E Γ M (.Assign [.Attribute o f pos'] value pos) Ψ :=
  ws_of (ps_xst pe_w pe_w hs) fun σ G H a D k => h σ G H a _ fun ρv M1 v G1 H1 h1 s1 a1 r1 => h1 σ G1 H1 a1 _ fun ρo M2 y G2 H2 ⟨p, C, d, l, u, u2, sb, fd, fd2, T, no, hl, hk⟩ s2 a2 r2 => by
    obtain ⟨o, e1, e2⟩ := a2.own _ fd.mem
    have e2 : o = exo p C (some d) := e2
    subst e2
    obtain ⟨o2, e3, fs, e4, rf⟩ := a2.own _ fd2.mem
    have e4 : o2 = exd d fs := e4
    subst e4
    refine ⟨p, C, sb _ _ r2, T, no, .inr ⟨d, fs, e1, e3, by rw [← rf.len]; omega, ?_⟩⟩
    exact k.nx _ _ hk _ _ _ (s1.trans s2) (a2.write fd2 ⟨_, rfl, rfl, ρv.mono _ _ _ s2 r1, rf⟩)
/-! ### raise C(e, ..) -/
/-- C's __init__ lays the fields l of what it is given -/
def conXI (C : Addr) (n : Nat) (l : List Rep → List (Str × Rep)) : Con := { I := Addr × { ρs : List Rep // ρs.length = n }, B := Addr, pre := fun _ => True, args := fun i => RRef i.1 :: i.2.1, own := fun i => [(i.1, OX i.1 C none)], post := fun _ _ => True, res := fun _ _ => RN, own' := fun i d => [(d, OXD d (l i.2.1)), (i.1, OX i.1 C (some d))] }
/-- the name x holds an exception's class -/
def KnX (P : Program) (w : World) (K : PySem.W.Frag) (mg : Str → Option Value) (base : Heap) (k : Nat) (x : Str) (C : Addr) (n : Nat) (l : List Rep → List (Str × Rep)) : Prop :=
  mg x = some (.ref C) ∧ OxOk K C ∧ n ≤ 100 ∧ ∃ (f : Addr) (fd : FuncData) (ps : List Str), PySem.W.findIn K (.ref C) "__init__" = some (some (.ref f)) ∧ PySem.W.isFn K (.ref f) = true ∧ Binds K fd ps [] ∧ FnOk P w K mg base CX0 k f fd ps (conSp (conXI C n l))
/-- what may leave: an exception of class C with the fields l, where Ξ -/
def TakesX (X : Cx) (E : En) (Ξ : Addr → List (Str × Rep) → Gm → Ow → Prop) : Prop :=
  ∃ W : WX, Takes X W ∧ ∀ C l Γ M, Ξ C l Γ M → ∀ σ G H d fs, At E Γ M σ G H → G d = some (.xd fs) → FRep l fs G → W (.ref C) (some d) σ H
theorem TakesX.imp {Ξ Ξ' : Addr → List (Str × Rep) → Gm → Ow → Prop} (t : TakesX X E Ξ) (h : ∀ C l Γ M, Ξ' C l Γ M → Ξ C l Γ M) : TakesX X E Ξ' :=
  let ⟨W, tk, hw⟩ := t; ⟨W, tk, fun C l Γ M x => hw C l Γ M (h C l Γ M x)⟩
variable {Ξ : Addr → List (Str × Rep) → Gm → Ow → Prop} {C : Addr} {n : Nat} {l : List Rep → List (Str × Rep)}
theorem ws_raiseX (F : KnX X.prog X.w X.K X.mg X.base k x C n l) (T : TakesX X E Ξ) (hr : Room (k + 1) X.A) (hg : Gl X x) (hc : X.calm = true)
    (h : WA X E Γ M (e :: es) fun ρs M' => ρs.length = n ∧ Ξ C (l ρs) Γ M')
    (hdb : (x == ("__debug__" : Str)) = false := by decide)
    (he : starEach (e :: es) X.env = (false, eval e X.env) :: starEach es X.env := by rfl)
    (hpl : (backTo pos (starEach es X.env)).any (·.1) = false := by rfl) :
    WS X E Γ M (.Raise (some (.Call (.Name x p) (e :: es) [] pos)) none pos') Ψ := by
  obtain ⟨hm, ok, hn, f, fd, ps, iC, tI, hb, F⟩ := F
  obtain ⟨W, tk, hw⟩ := T
  refine ws_of (ps_raise hc tk (pmk_xex (dvs := []) ok iC tI F hr hb .nil (fun _ _ _ _ _ _ _ z => z.elim) hg hm pa_w hdb he hpl)) fun σ G H a D k => ?_
  refine h σ G H a _ fun ρs M' vs G1 H1 ⟨hl, hk⟩ s1 a1 r1 => ⟨by rw [← r1.length, hl]; omega, fun q nq => ?_⟩
  refine ⟨G1, (q, ⟨ρs, hl⟩), a1.gh.trans (same_upd nq), trivial, ⟨rfl, by rw [List.append_nil]; exact r1⟩, fun z hz => ?_, fun z hz => ?_, by show ([(q, OX q C none)].map (·.1)).Nodup; simp, fun d v G2 H2 _ t rv => ⟨rv, ?_⟩⟩
  · have hz : z = (q, OX q C none) := by simpa [conXI] using hz
    subst hz
    exact ⟨_, upd_same, rfl⟩
  · have hz : z = (q, OX q C none) := by simpa [conXI] using hz
    subst hz
    exact a1.freshG nq
  · have td := t.own (d, OXD d (l ρs)) (by simp [conXI])
    have tq := t.own (q, OX q C (some d)) (by simp [conXI])
    have nG := t.gn (d, OXD d (l ρs)) (by simp [conXI])
    have nQ := t.gn (q, OX q C (some d)) (by simp [conXI])
    obtain ⟨od, ed, fs, e2, rf⟩ := td
    subst e2
    obtain ⟨oq, eq, e3⟩ := tq
    have e3 : oq = exo q C (some d) := e3
    subst e3
    have hdq : d ≠ q := fun z => by
      subst z
      rw [eq] at ed
      have n : [d, d].Nodup := t.nd
      simp at n
    have hd1 : H1 d = none := by
      rcases t.loc (d, OXD d (l ρs)) (by simp [conXI]) with z | z
      · exact absurd (List.mem_singleton.mp z) hdq
      · rw [upd_ne hdq] at z; exact z
    refine ⟨d, fs, eq, ed, hd1, ?_⟩
    have sg : Same G2 (upd G2 d (.xd fs)) := same_upd nG
    refine hw C (l ρs) Γ M' hk σ (upd G2 d (.xd fs)) _ d fs (a1.new (G' := upd G2 d (.xd fs)) ⟨t.gg.trans sg, fun b o z => ?_, fun b o z => ?_, fun b h1 h2 => ?_⟩) upd_same (rf.mono sg)
    · by_cases hb : b = d
      · subst hb; rw [upd_same] at z ⊢; exact z
      · rw [upd_ne hb] at z ⊢
        have hq : b ≠ q := fun y => by subst y; rw [nQ] at z; cases z
        rw [del_ne hq]; exact t.gh b o z
    · have hq : b ≠ q := ne_of_none z nq
      rw [upd_ne (ne_of_none z hd1), del_ne hq]
      exact t.keep b o (by simpa [conXI] using hq) (by rw [upd_ne hq]; exact z)
    · have hb : b ≠ d := fun y => by subst y; exact h1 hd1
      rw [upd_ne hb] at h2
      exact t.nw b (by
        by_cases hq : b = q
        · subst hq; exact absurd nq h1
        · rw [upd_ne hq]; exact h1) h2
end
/-! ### what a def promises that may raise -/
structure ConX extends Con where
  Z : Type
  bad : I → Z → Prop
  cls : I → Z → Addr
  fld : I → Z → List (Str × Rep)
  ownX : I → Z → Ow
def conSpX (c : ConX) : Sp := fun vs H Q EE => ∃ (G : Hp) (i : c.I), Same G H ∧ c.pre i ∧ Reps (c.args i) vs G ∧ (∀ q ∈ c.own i, ∃ o, H q.1 = some o ∧ q.2.p o G) ∧ (∀ q ∈ c.own i, G q.1 = none) ∧ ((c.own i).map (·.1)).Nodup ∧
  (∀ x v G' H', c.post i x → Aft G H G' H' (c.own i) (c.own' i x) → (c.res i x).p v G' → Q v H') ∧
  ∀ z d fs G' H', c.bad i z → Aft G H G' H' (c.own i) (c.ownX i z) → G' d = some (.xd fs) → FRep (c.fld i z) fs G' → EE (.ref (c.cls i z)) (some d) H'
def CallX (c : ConX) (ρs : List Rep) (Γ : Gm) (M : Ow) (Φ : Rep → Ow → Prop) (Ξ : Addr → List (Str × Rep) → Gm → Ow → Prop) : Prop :=
  ∃ (i : c.I) (rest : Ow), c.pre i ∧ SubL ρs (c.args i) ∧ Pk M (c.own i) rest ∧ (∀ x, c.post i x → Φ (c.res i x) (c.own' i x ++ rest)) ∧ ∀ z, c.bad i z → Ξ (c.cls i z) (c.fld i z) Γ (c.ownX i z ++ rest)
section
variable {X : Cx} {E : En} {Γ : Gm} {M : Ow} {e : Expr} {es : List Expr} {kws : List Keyword} {ks : List Str} {pos p pos' : Pos} {k n : Nat} {x : Str} {Φ : Rep → Ow → Prop} {Ξ : Addr → List (Str × Rep) → Gm → Ow → Prop} {c : ConX} {dvs : List V} {gV : List V → List V → List V} {gR : List Rep → List Rep → List Rep}
theorem callX_run {σ : L2.St} {G H : Hp} {ρs : List Rep} {vs : List V} {Q : VK} {W : WX} (hw : ∀ C l Γ M, Ξ C l Γ M → ∀ σ G H d fs, At E Γ M σ G H → G d = some (.xd fs) → FRep l fs G → W (.ref C) (some d) σ H) (h : CallX c ρs Γ M Φ Ξ) (a : At E Γ M σ G H) (r : Reps ρs vs G)
    (kq : ∀ ρ M' v G' H', Φ ρ M' → Same G G' → At E Γ M' σ G' H' → ρ.p v G' → Q v H') : conSpX c vs H Q (fun cls d H' => W cls d σ H') := by
  obtain ⟨i, rest, hp, sb, pk, h1, h2⟩ := h
  obtain ⟨o1, o2, o3⟩ := a.picked pk
  exact ⟨G, i, a.gh, hp, sb.reps r, o1, o2, o3, fun x v G' H' px t rv => kq _ _ v G' H' (h1 x px) t.gg (a.aft pk t) rv, fun z d fs G' H' bz t gd rf => hw _ _ _ _ (h2 z bz) σ G' H' d fs (a.aft pk t) gd rf⟩
/-- the run of a def that may raise -/
theorem run_fnX {pins : List (Addr × Obj)} {σ : L2.St} {H : Hp} {s : Shared} {Q : VK} {W : WX} {f : Addr} {fd : FuncData} {ps : List Str} {sp : Sp} {us : List Value} {vs : List V} {args : Args} (F : FnOk X.prog X.w X.K X.mg X.base (L2.CX X.prog X.w) k f fd ps sp) (tk : Takes X W) (hr : Room k X.A)
    (I : L2.Inv X pins σ H s) (hb : BindsTo s fd args (ps.zip us)) (r : Vals vs us) (h : sp vs H Q (fun cls d H' => W cls d σ H')) : codeAny (model X.prog X.w) X.A (.call (.ref f) args) (fun res s' => match res with
      | .ok (.ret u) => EP X pins σ Q u s'
      | .ok _ => False
      | .error er => X.xe er s') s := by
  refine codeAny_mono (F.run X.A X.stack s H args us vs Q _ hr I.env0 hb r h) fun res s' hq => ?_
  cases res with
  | error er => exact tk er s' (XE.of_call I (fun _ _ _ z => z) hq)
  | ok fl =>
    cases fl with
    | ret u => exact I.after hq
    | next => exact hq.elim
    | brk => exact hq.elim
    | cont => exact hq.elim
def KnR (P : Program) (w : World) (K : PySem.W.Frag) (mg : Str → Option Value) (base : Heap) (k : Nat) (x : Str) (dvs : List V) (c : ConX) : Prop :=
  ∃ (f : Addr) (fd : FuncData) (ps : List Str) (ds : List Value), mg x = some (.ref f) ∧ PySem.W.keepIn K (.ref f) = true ∧ Binds K fd ps ds ∧ Vals dvs ds ∧ FnOk P w K mg base (L2.CX P w) k f fd ps (conSpX c)
theorem we_callX (F : KnR X.prog X.w X.K X.mg X.base k x dvs c) (T : TakesX X E Ξ) (hr : Room k X.A) (hg : Gl X x)
    (h : WA X E Γ M (e :: es) fun ρs M' => CallX c (ρs ++ dvs.map RV) Γ M' Φ Ξ)
    (hdb : (x == ("__debug__" : Str)) = false := by decide)
    (he : starEach (e :: es) X.env = (false, eval e X.env) :: starEach es X.env := by rfl)
    (hpl : (backTo pos (starEach es X.env)).any (·.1) = false := by rfl) :
    WE X E Γ M (.Call (.Name x p) (e :: es) [] pos) Φ := by
  obtain ⟨f, fd, ps, ds, hm, hk, hb, hd, F⟩ := F
  obtain ⟨W, tk, hw⟩ := T
  refine we_of (t := fun σ H Q => tWA X (e :: es) σ H fun vs H1 => conSpX c (vs ++ dvs) H1 Q (fun cls d H' => W cls d σ H')) ⟨fun pins s σ H Q I h => ?_⟩ fun σ G H a Q q => ?_
  · refine wpAny_Call_Name_kw (ld_glob I hg hm ?_ hdb)
    refine PySem.W.callWith_K (h₀ := X.base) I.ok.mod.kin hk (thn (pa_w.run pos pins s σ H _ I h) fun us s1 ⟨vs, H1, I1, r, q⟩ => ⟨I1.kIn, ?_⟩) he hpl
    have rr : Vals (vs ++ dvs) (us ++ ds) := Vals.append r hd
    have ln : (us ++ ds).length = ps.length := by rw [← rr.length]; exact F.len _ _ _ _ q
    exact wpAny_call (codeAny_mono (run_fnX (pins := pins) F tk hr I1 (hb s1 us I1.kIn ln) rr q) fun res s' hq => by
      cases res with
      | error er => exact hq
      | ok fl => cases fl <;> exact hq)
  · exact h σ G H a _ fun ρs M1 vs G1 H1 hh s1 a1 r1 => callX_run hw hh a1 (r1.app (reps_RV dvs)) fun ρ M2 v G2 H2 h2 s2 => q ρ M2 v G2 H2 h2 (s1.trans s2)
end
/-! ### a def that may raise keeps its promise -/
abbrev xX (P : Program) (w : World) (K : PySem.W.Frag) (mg : Str → Option Value) (base : Heap) (N : List Str) (qual : Str) (sc : Scope) (f : Addr) (cd : Value) (A : Around) (outer : List Env) (s : Shared) (H : Hp) (EE : XK) : Cx :=
  cxOf (L2.CX P w) P w K mg base N qual sc f cd A outer s H EE
/-- how it may end -/
def XiOf (c : ConX) (i : c.I) : Addr → List (Str × Rep) → Gm → Ow → Prop := fun C l _ M => ∃ z rest, c.bad i z ∧ C = c.cls i z ∧ (∀ fs G, FRep l fs G → FRep (c.fld i z) fs G) ∧ Pk M (c.ownX i z) rest
theorem At.aftOf {G0 H0 : Hp} {o o' M rest : Ow} {Γ : Gm} {σ : L2.St} {G H : Hp} (a : At ⟨G0, H0, o.map (·.1)⟩ Γ M σ G H) (pk : Pk M o' rest) : Aft G0 H0 G H o o' := by
  obtain ⟨p1, p2, p3⟩ := a.picked pk
  refine ⟨a.g0, a.gh, fun b u h1 h2 => a.keep b u h1 h2, fun b h1 h2 => a.nw b h1 h2, p1, p2, p3, fun q hq => ?_, fun b hb => a.there b hb⟩
  obtain ⟨q', h1, h2, _⟩ := (pk.f a.nd).own q hq
  rw [← h2]; exact a.loc q' h1
theorem fn_conX {P : Program} {w : World} {K : PySem.W.Frag} {mg : Str → Option Value} {base : Heap} {x qual : Str} {st : Stmt} {dvs : List V} {f : Addr} {fd : FuncData} {N ps : List Str} {k : Nat} (c : ConX) (F : FdD K x qual st dvs f fd) (S : FnScope N ps (defScope st)) (hl : ∀ i, (c.args i).length = ps.length)
    (h : ∀ (cd : Value) (A : Around) (outer : List Env) (s : Shared) (H : Hp) (EE : XK) (G : Hp) (i : c.I), c.pre i → Room k (A.deeper (PyProof.Rows.envOfC qual (defScope st) s.heap.objs.size f cd)) → (∀ a ∈ (c.own i).map (·.1), H a ≠ none) →
      TakesX (xX P w K mg base N qual (defScope st) f cd A outer s H EE) ⟨G, H, (c.own i).map (·.1)⟩ (XiOf c i) →
      WSs (xX P w K mg base N qual (defScope st) f cd A outer s H EE) ⟨G, H, (c.own i).map (·.1)⟩ (startG N (c.args i)) (c.own i) (defBody st) (EdOf c.toCon i)) : FnOk P w K mg base (L2.CX P w) (k + 1) f fd ps (conSpX c) := by
  refine F.ok S (fun vs H Q EE hh => ?_) fun cdv A outer s H vs Q EE hr hh => ?_
  · obtain ⟨G, i, _, _, r, _⟩ := hh
    rw [← r.length]; exact hl i
  · obtain ⟨G, i, gh, hp, r, o1, o2, o3, kk, kx⟩ := hh
    refine ⟨tWSs (xX P w K mg base N qual (defScope st) f cdv A outer s H EE) (defBody st), pss_w, ?_⟩
    have a0 : At ⟨G, H, (c.own i).map (·.1)⟩ (startG N (c.args i)) (c.own i) (L2.start N vs) G H :=
      ⟨by simp [startG, L2.start, r.length], start_env r, gh, o1, o2, o3, Same.refl _, fun _ _ _ e => e, fun _ _ hg => hg, fun q hq => .inl (List.mem_map.mpr ⟨q, hq, rfl⟩), fun _ h => h⟩
    have fin : ∀ ρ M, Rt c.toCon i ρ M → ∀ v G' H', At ⟨G, H, (c.own i).map (·.1)⟩ [] M [] G' H' → ρ.p v G' → Q v H' := fun ρ M ⟨x, rest, px, sb, pk⟩ v G' H' a rv => kk x v G' H' px (a.aftOf pk) (sb _ _ rv)
    refine h cdv A outer s H EE G i hp hr a0.there0 ⟨fun cls d _ H => EE cls d H, takes_of rfl rfl rfl rfl, fun C l Γ M ⟨z, rest, bz, ec, fl, pk⟩ σ G' H' d fs a gd rf => ?_⟩ (L2.start N vs) G H a0 _
      ⟨fun Γ M h' σ G' H' _ a' => fin _ _ h' _ _ _ a'.env0 rfl, fun ρ M h' v G' H' _ a' rv => fin _ _ h' _ _ _ a' rv, fun _ _ h' => h'.elim, fun _ _ h' => h'.elim⟩
    subst ec
    exact kx z d fs G' H' bz (a.aftOf pk) gd (fl _ _ rf)
end MM

namespace MM
open PySem L2 PyProof.Rows
/-! ### an exception that is kept -/
def exq (a : Addr) (cls : Value) (d : Option Addr) : HO := .ext fun h => ∃ o, h.get? a = some o ∧ Zc cls d o ∧ ∃ vs, o.data = .fields vs
theorem exq_ok {P : Program} {w : World} {H : Hp} {h : Heap} {a : Addr} {cls : Value} {d : Option Addr} {o : Obj} (e : h.get? a = some o) (z : Zc cls d o) (f : ∃ vs, o.data = .fields vs) : ObjOk P w H h a (exq a cls d) :=
  ⟨⟨o, e, z, f⟩, ⟨o, e⟩, fun _ _ ⟨o1, e1, z1, f1⟩ k => ⟨o1, k _ e1, z1, f1⟩⟩
theorem exq_at {P : Program} {w : World} {H : Hp} {h : Heap} {a : Addr} {cls : Value} {d : Option Addr} (hok : HOk P w H h) (e : H a = some (exq a cls d)) : ∃ o, h.get? a = some o ∧ Zc cls d o ∧ ∃ vs, o.data = .fields vs := by
  have x : ObjOk P w H h a (exq a cls d) := hok a _ e
  exact x.1
def RExc (C : Addr) (l : List (Str × Rep)) : Rep :=
  ⟨fun v G => ∃ a d fs, v = .ref a ∧ G a = some (exq a (.ref C) (some d)) ∧ G d = some (.xd fs) ∧ FRep l fs G, fun _ _ _ s ⟨a, d, fs, e, h1, h2, r⟩ => ⟨a, d, fs, e, s _ _ h1, s _ _ h2, r.mono s⟩⟩
section
variable {X : Cx} {pins : List (Addr × Obj)} {σ : L2.St} {H : Hp} {sI s s' : Shared} {B : Heap} {a : Addr} {cls : Value} {d : Option Addr} {o : Obj}
/-- back on the ground, the exception tracked -/
theorem landedK (I : L2.Inv X pins σ H sI) (nb : ∀ b u, sI.heap.get? b = some u → b ∉ frs X.stack → B.get? b = some u) (st : B.StaysIn s'.heap) (up : sI.heap.UpToSlots s'.heap) (os : s'.os = sI.os) (ag : AllBare s'.gens)
    (nB : B.get? a = none) (nf : a ∉ frs X.stack) (na : H a = none) (e : s'.heap.get? a = some o) (z : Zc cls d o) (f : ∃ vs, o.data = .fields vs) : L2.Inv X pins σ (upd H a (exq a cls d)) s' := by
  have far : ∀ {b : Addr} {u : Obj}, sI.heap.get? b = some u → b ≠ a := fun {b u} q y => by
    subst y
    rw [nb _ _ q nf] at nB
    cases nB
  have hne : ∀ {b : Addr} {u : HO}, H b = some u → b ≠ a := fun q => ne_of_none q na
  have fr : ∀ b ∈ frs X.stack, ∀ u, sI.heap.get? b = some u → ∃ sl, s'.heap.get? b = some { u with slots := sl } := fun b hb u q => by
    obtain ⟨_, u', q', hd⟩ := I.stack.mem hb
    rw [q] at q'; cases q'
    exact up b u q hd
  have hokB : HOk X.prog X.w H s'.heap := (I.inGround nb).kept st
  refine I.call' (ch := []) os ⟨fun b u q _ hb _ => st b u (nb b u q hb), fun b u q _ hb _ => fr b hb u q, fun b u q n _ => by rw [upd_ne (far q)]; exact n, fun b u q _ => ?_,
    fun b xs q => by rw [upd_ne (hne q)]; exact q, fun b u v q => by rw [upd_ne (hne q)]; exact q, fun b ps q => ⟨#[], by rw [upd_ne (hne q), q]; simp⟩⟩ (fun b u q => ?_) ag (fun _ y => nomatch y)
  · by_cases hbs : b ∈ frs X.stack
    · obtain ⟨sl, q'⟩ := fr b hbs u q
      exact ⟨_, q'⟩
    · exact ⟨u, st b u (nb b u q hbs)⟩
  · by_cases hb : b = a
    · subst hb
      rw [upd_same] at q; cases q
      exact exq_ok e z f
    · rw [upd_ne hb] at q
      exact (hokB b u q).stay (fun _ _ _ y => y) (fun c hc => by rw [upd_ne (hne hc)]; exact hc) fun c xs hc => by rw [upd_ne (hne hc)]; exact hc
theorem toSuite (I : L2.Inv X pins σ H s) (a : Addr) : L2.Inv (X.suite a (X.pn ++ pins)) [] σ H s :=
  ⟨I.ok.suite _ _, I.os, I.bare, I.base, I.loc, I.cell, I.free, I.freeC, fun p hp => I.pin p (by rw [List.append_nil] at hp; exact hp), I.hok, I.len⟩
theorem ofSuite {a : Addr} {pn : List (Addr × Obj)} (I : L2.Inv (X.suite a (X.pn ++ pins)) pn σ H s) (ok : X.Ok) : L2.Inv X pins σ H s :=
  ⟨ok, I.os, I.bare, I.base, I.loc, I.cell, I.free, I.freeC, fun z hz => I.pin z (List.mem_append_left _ hz), I.hok, I.len⟩
end
/-- what an except clause asks: an exception of class cls is meant by te -/
def TestK (X : Cx) (te : Expr) (cls : Value) : Prop := ∀ (a : Addr) (pn : List (Addr × Obj)) (σ : L2.St) (H : Hp) (s : Shared) (A : Around) (Q : Bool → Shared → Prop) (E E' : Value → Shared → Prop), L2.Inv (X.suite a pn) [] σ H s →
  PySem.W.Looks (model X.prog X.w) s.heap (typeOf (.ref a)) cls → (∀ h', (∀ b o, s.heap.get? b = some o → h'.get? b = some o) → Q true { s with heap := h' }) →
  wpAny (model X.prog X.w) (X.A.mark (some (.ref a))) (eval te X.env) (fun c s1 => wpAny (model X.prog X.w) A (excMatches (.ref a) c) Q E' s1) E s
section
variable {X : Cx} {x : Str} {np : Pos} {c cls : Value}
theorem nameK (hc : Names X x c) {a : Addr} {pn : List (Addr × Obj)} {σ : L2.St} {H : Hp} {s : Shared} {Q : Value → Shared → Prop} {E : Value → Shared → Prop} (I : L2.Inv (X.suite a pn) [] σ H s) (q : Q c s) : wpAny (model X.prog X.w) (X.A.mark (some (.ref a))) (eval (.Name x np) X.env) Q E s := by
  obtain ⟨hg, hd, hm | ⟨hm, hv, hn⟩⟩ := hc
  · exact ld_glob (X := X.suite a pn) I hg hm q hd
  · exact ld_blt (X := X.suite a pn) I hg hm hv q hn hd
theorem test1 (hc : Names X x c) (e : PySem.W.exmOne X.K cls c = some true) : TestK X (.Name x np) cls := fun a pn σ H s A Q E E' I lt q =>
  nameK hc I ((PySem.W.exm_one (M := model X.prog X.w) (K := X.K) I.kIn lt e).here (q s.heap fun _ _ z => z))
end
section
variable {X : Cx} {n : Str} {i : Nat} {te : Expr} {body suite : List Stmt} {b₀ : Stmt} {pos pos' : Pos} {tb : WX → TS} {ts : Addr → Value → Option Addr → TS} {ok : Value → Prop}
/-- what is wished of the body's exceptions -/
def wKeep (ok : Value → Prop) (i : Nat) (ts : Addr → Value → Option Addr → TS) (D : Ends) : WX := fun cls d σ H =>
  ok cls ∧ ∀ a, H a = none → ts a cls d { nx := fun σ' H' => D.nx (σ'.set i none) H', rt := D.rt, bk := fun σ' H' => D.bk (σ'.set i none) H', ct := fun σ' H' => D.ct (σ'.set i none) H' } (σ.set i (some (.ref a))) (upd H a (exq a cls d))
theorem ps_tryK (hs : X.stack = X.env :: X.outer) (hf : X.env.frame = some X.env.locals) (hN : X.N.Nodup) (hi : X.N[i]? = some n) (hn : X.env.kindOf n = some .local) (ht : ∀ cls, ok cls → TestK X te cls)
    (hbd : ∀ (wx : WX) (pn : List (Addr × Obj)) (xe : Value → Shared → Prop), Takes (X.tr pn xe) wx → PassesOwn (model X.prog X.w) X.A X.env xe → PSs (X.tr pn xe) body (tb wx))
    (hsu : ∀ (a : Addr) (cls : Value) (d : Option Addr) (pn : List (Addr × Obj)), PSs (X.suite a pn) (b₀ :: suite) (ts a cls d)) :
    PS X (.Try body [.ExceptHandler (some te) (some n) (b₀ :: suite) pos'] [] [] pos) (fun D σ H => tb (wKeep ok i ts D) D σ H) := by
  refine ⟨fun pns s σ H D I h => ?_⟩
  have iok := I.ok
  have hfr : X.A.frames = some (X.env :: X.outer) := by rw [iok.frames, hs]
  refine wpAny_Try_except (wpAny_mono ((hbd (wKeep ok i ts D) (X.pn ++ pns) (fun e s₁ => wpAny (model X.prog X.w) X.A (noteFrame e X.env) (fun _ s₂ => wpAny (model X.prog X.w) X.A (setFlight e none) (fun _ s₃ =>
    wpAny (model X.prog X.w) X.A (handleBy e X.env [.ExceptHandler (some te) (some n) (b₀ :: suite) pos']) (SP X pns D) X.xe s₃) X.xe s₂) X.xe s₁) (fun u s' xx => ?_) PassesOwn.looking).run [] s σ H D (I.toTry _) h) (fun f s1 hsp => ?_) fun e s1 he => he)
  · obtain ⟨a, B, sI, pins', σ', H', cls, d, rfl, J', nb, up, sky, na, os, ag, hok, yes⟩ := xx
    have J : L2.Inv X pns σ' H' sI := J'.ofTry iok
    have sk : Sky B (X.env :: X.outer) a (Zc cls d) X.env.locals s'.heap := by rw [← hs]; exact sky
    show wpAny _ X.A (noteFrame (.ref a) X.env) _ _ _
    refine Sky.land Zc.steady hfr hf sk fun h3 fl3 up3 => ?_
    have J3 : L2.Inv X pns σ' H' { s' with heap := h3 } := J.landed nb fl3.1 (up.trans up3) os ag
    obtain ⟨o3, vs3, e3, z3, d3⟩ := fl3.there
    refine wpAny_handleBy_cons (codeAny_handlers_test ?_) (fun y => nomatch y)
    have lt : PySem.W.Looks (model X.prog X.w) h3 (typeOf (.ref a)) cls := fun A Q E s k q => wpAny_typeOf_ref (k _ _ e3) (by rw [z3.1]; exact q)
    refine ht cls hok a _ σ' H' { s' with heap := h3 } _ _ _ _ (toSuite J3 a) lt fun h5 k5 => ?_
    show codeAny _ _ _ _ _
    have fl5 : HandSPX.FlyingZ B (X.env :: X.outer) a (Zc cls d) h5 := by
      obtain ⟨f1, f2, f3, oe, ws, T, oT, ts, g1, g2, g3, g4, g5, g6, g7, g8, g9⟩ := fl3
      exact ⟨fun b u y => k5 _ _ (f1 b u y), f2, f3.of_keeps fun b u y _ => ⟨u, k5 _ _ y, rfl⟩, oe, ws, T, oT, ts, k5 _ _ g1, g2, g3, g4, g5, g6, k5 _ _ g7, g8, g9⟩
    have up5 : h3.UpToSlots h5 := Heap.UpToSlots.of_keeps k5
    refine codeAny_handlers_suite_as (HandSPX.lands_againZ (s := { s' with heap := h5 }) fl5 fun h6 fl6 up6 => ?_)
    obtain ⟨o6, vs6, e6, z6, d6⟩ := fl6.there
    have nfr : a ∉ frs X.stack := fun hm => by
      rw [hs] at hm
      obtain ⟨_, u, y, hnf⟩ := fl6.2.2.1.mem hm
      rw [e6] at y; cases y
      exact hnf _ d6
    have J6 : L2.Inv X pns σ' (upd H' a (exq a cls d)) { s' with heap := h6 } := landedK J nb fl6.1 (((up.trans up3).trans up5).trans up6) os ag fl6.2.1 nfr na e6 z6 ⟨_, d6⟩
    refine store_ok (X := X.suite a (X.pn ++ pns)) (v := .ref a) (toSuite J6 a) hN hi (.inl hn) rfl (fun s7 J7 => ?_) (.inr hn)
    refine wpAny_mono ((hsu a cls d (X.pn ++ pns)).run [] s7 _ _ _ J7 (yes a na)) (fun f s8 hsp => ?_) fun _ _ y => y.elim
    have out : ∀ {σ8 : L2.St} {H8 : Hp} {Q : Shared → Prop}, L2.Inv (X.suite a (X.pn ++ pns)) [] σ8 H8 s8 → (∀ s9, L2.Inv X pns (σ8.set i none) H8 s9 → Q s9) →
        wpAny (model X.prog X.w) X.A (do bindName X.env n .none; unbindBehindTheSuite X.env n pos') (fun _ s9 => Q s9) X.xe s8 := fun {σ8 H8 Q} J8 hq => gone_ok (ofSuite J8 iok) hN hi hn hq
    cases f with
    | next =>
      obtain ⟨σ8, H8, J8, q8⟩ := hsp
      exact out J8 fun s9 J9 => ⟨_, _, J9, q8⟩
    | brk =>
      obtain ⟨σ8, H8, J8, q8⟩ := hsp
      exact out J8 fun s9 J9 => ⟨_, _, J9, q8⟩
    | cont =>
      obtain ⟨σ8, H8, J8, q8⟩ := hsp
      exact out J8 fun s9 J9 => ⟨_, _, J9, q8⟩
    | ret u =>
      obtain ⟨v8, σ8, H8, J8, r8, q8⟩ := hsp
      exact out J8 fun s9 J9 => ⟨_, _, _, J9, r8, q8⟩
  · cases f with
    | next =>
      obtain ⟨σ', H', J', q⟩ := hsp
      exact wpAny_execs_nil ⟨σ', H', J'.ofTry iok, q⟩
    | brk =>
      obtain ⟨σ', H', J', q⟩ := hsp
      exact ⟨σ', H', J'.ofTry iok, q⟩
    | cont =>
      obtain ⟨σ', H', J', q⟩ := hsp
      exact ⟨σ', H', J'.ofTry iok, q⟩
    | ret u =>
      obtain ⟨v, σ', H', Jt, r, q⟩ := hsp
      exact ⟨v, σ', H', Jt.ofTry iok, r, q⟩
end
section
variable {X : Cx} {E : En} {Γ : Gm} {M : Ow} {n : Str} {te : Expr} {body suite : List Stmt} {b₀ : Stmt} {pos pos' : Pos} {Ψ : Ed} {Ξ : Addr → List (Str × Rep) → Gm → Ow → Prop}
/-- try: body, except te as n: suite; slot i is n's -/
theorem ws_tryK (i : Nat) (hs : X.stack = X.env :: X.outer) (hf : X.env.frame = some X.env.locals) (hN : X.N.Nodup) (hi : X.N[i]? = some n) (hn : X.env.kindOf n = some .local)
    (hb : ∀ (G H : Hp) (pn : List (Addr × Obj)) (xe : Value → Shared → Prop), (∀ a ∈ M.map (·.1), H a ≠ none) → PassesOwn (model X.prog X.w) X.A X.env xe → TakesX (X.tr pn xe) ⟨G, H, M.map (·.1)⟩ Ξ → WSs (X.tr pn xe) ⟨G, H, M.map (·.1)⟩ Γ M body Ψ)
    (hsu : ∀ C l Γ' M', Ξ C l Γ' M' → TestK X te (.ref C) ∧ ∀ a pn, WSs (X.suite a pn) E (Γ'.set i (some (RExc C l))) M' (b₀ :: suite)
      { nx := fun Γ2 M2 => Ψ.nx (Γ2.set i none) M2, rt := Ψ.rt, bk := fun Γ2 M2 => Ψ.bk (Γ2.set i none) M2, ct := fun Γ2 M2 => Ψ.ct (Γ2.set i none) M2 }) :
    WS X E Γ M (.Try body [.ExceptHandler (some te) (some n) (b₀ :: suite) pos'] [] [] pos) Ψ :=
  ws_of (ps_tryK (i := i) (ok := fun cls => TestK X te cls) (tb := fun W D σ H => ∀ pn xe, Takes (X.tr pn xe) W → PassesOwn (model X.prog X.w) X.A X.env xe → tWSs (X.tr pn xe) body D σ H) (ts := fun a _ _ D σ H => ∀ pn, tWSs (X.suite a pn) (b₀ :: suite) D σ H)
    hs hf hN hi hn (fun _ t => t) (fun W pn xe tk po => ⟨fun pins s σ H D I h => pss_w.run pins s σ H D I (h pn xe tk po)⟩) (fun a _ _ pn => ⟨fun pins s σ H D I h => pss_w.run pins s σ H D I (h pn)⟩)) fun σ G H a D k pn xe tk po => by
      refine hb G H pn xe a.there0 po ⟨_, tk, fun C l Γ1 M1 hx σ1 G1 H1 d fs a1 gd rf => ⟨(hsu C l Γ1 M1 hx).1, fun q nq pn2 => ?_⟩⟩ σ G H a.rebase D
        ⟨fun Γ2 M2 h σ2 G2 H2 s2 a2 => k.nx Γ2 M2 h σ2 G2 H2 s2 (a.comp a2), fun ρ M2 h v G2 H2 s2 a2 r => k.rt ρ M2 h v G2 H2 s2 (a.env0.comp a2) r, fun Γ2 M2 h σ2 G2 H2 s2 a2 => k.bk Γ2 M2 h σ2 G2 H2 s2 (a.comp a2), fun Γ2 M2 h σ2 G2 H2 s2 a2 => k.ct Γ2 M2 h σ2 G2 H2 s2 (a.comp a2)⟩
      have nw : New G1 H1 (upd G1 q (exq q (.ref C) (some d))) (upd H1 q (exq q (.ref C) (some d))) := New.put a1.gh nq
      have nG : G1 q = none := a1.freshG nq
      have a2 := ((a.comp a1).new nw).set (i := i) (ρ := RExc C l) (v := .ref q) ⟨q, d, fs, rfl, upd_same, by rw [upd_ne (ne_of_none gd nG)]; exact gd, rf.mono nw.gg⟩
      have sg : Same G (upd G1 q (exq q (.ref C) (some d))) := a1.g0.trans nw.gg
      exact (hsu C l Γ1 M1 hx).2 q pn2 _ _ _ a2 _ ⟨fun Γ2 M2 h σ2 G2 H2 s2 a3 => k.nx _ M2 h _ G2 H2 (sg.trans s2) (a3.unset i), fun ρ M2 h v G2 H2 s2 a3 r => k.rt ρ M2 h v G2 H2 (sg.trans s2) a3 r,
        fun Γ2 M2 h σ2 G2 H2 s2 a3 => k.bk _ M2 h _ G2 H2 (sg.trans s2) (a3.unset i), fun Γ2 M2 h σ2 G2 H2 s2 a3 => k.ct _ M2 h _ G2 H2 (sg.trans s2) (a3.unset i)⟩
end
/-! ### isinstance of it; its fields -/
/-- as a thing of the heap -/
theorem exq_inst {P : Program} {w : World} {H : Hp} {h : Heap} {a C d : Addr} {fs : List (Str × V)} (hok : HOk P w H h) (e : H a = some (exq a (.ref C) (some d))) (ed : H d = some (.xd fs)) :
    ∃ o od, PySem.W.InstAt h a o C (some od) ∧ ∀ f v, fs.lookup f = some v → ∃ u, PySem.W.lookIn f od = some (some u) ∧ RelV v u := by
  obtain ⟨o, e1, z, vs, hd⟩ := exq_at hok e
  have hx : ObjOk P w H h d (.xd fs) := hok d _ ed
  obtain ⟨mA, hns, hr⟩ := hx
  obtain ⟨od, hod, hl⟩ := lookIn_ns hns
  refine ⟨o, od, ⟨e1, z.1, by unfold PySem.W.notCls; rw [hd] <;> rfl, by rw [z.2]; exact hod⟩, fun f v l => ?_⟩
  obtain ⟨u, hu, ru⟩ := RelO.some_of (v := v) (o := mA f) (by rw [← l]; exact hr f)
  exact ⟨u, by rw [hl, hu], ru⟩
def rIsX (K : PySem.W.Frag) : List V → Hp → VK → Prop := fun xs H Q => ∃ (a C d : Addr) (fs : List (Str × V)) (c : V) (b : Bool), xs = [.ref a, c] ∧ H a = some (exq a (.ref C) (some d)) ∧ H d = some (.xd fs) ∧ ExcC K C ∧
  ((∃ cv, (∀ u, RelV c u → u = cv) ∧ PySem.W.kitOne K (.ref C) cv = some b) ∨ ∃ (tp : Addr) (ys : List V) (us : List Value), c = .ref tp ∧ H tp = some (.tup ys) ∧ (∀ us', Vals ys us' → us' = us) ∧ PySem.W.kitAny K (.ref C) us = some b) ∧ Q (.bl b) H
theorem clsSome {K : PySem.W.Frag} {C : Addr} (h : ExcC K C) : (PySem.W.clsIn K C).isSome = true := by
  obtain ⟨cd, hc, _⟩ := PySem.W.any_some h.hd
  rw [hc]; rfl
theorem call_isX {X : Cx} : CallR X (.builtin "isinstance") (rIsX X.K) := by
  intro pns s σ H xs us Q I r h
  obtain ⟨a, C, d, fs, c, b, rfl, ea, ed, T, hc, q⟩ := h
  obtain ⟨o, od, J, _⟩ := exq_inst I.hok ea ed
  cases r with
  | cons rx rr =>
    cases rr with
    | cons rt rr =>
      cases rr
      cases rx
      have Z : PySem.W.KitX X.K (.ref a) (.ref C) (fun h => PySem.W.InstAt h a o C (some od)) := PySem.W.kitx_exc (clsSome T) T.hg T.hk T.hs T.ha T.hn T.ht T.hm
      rcases hc with ⟨cv, hcv, e⟩ | ⟨tp, ys, ws, rfl, et, hv, e⟩
      · have ec := hcv _ rt
        subst ec
        exact PySem.W.kia_one Z I.kIn J e (fun z => nomatch z) fun tk => ⟨.bl b, H, I.kept (t' := tk) fun _ _ z => z, rfl, q⟩
      · cases rt
        have hx : ObjOk X.prog X.w H s.heap tp (.tup ys) := I.hok tp _ et
        obtain ⟨_, its, rv, ot, eo, hct⟩ := hx
        have ei := hv _ rv
        subst ei
        obtain ⟨oc, odd, oda, osl⟩ := ot
        obtain ⟨hcl, n, hdt⟩ := hct
        dsimp only at hcl hdt
        subst hcl hdt
        exact PySem.W.kia_tup Z I.kIn J eo e (fun z => nomatch z) fun tk => ⟨.bl b, H, I.kept (t' := tk) fun _ _ z => z, rfl, q⟩
end MM

namespace MM
open PySem L2 PyProof.Rows
/-! ### isinstance(e, c), e.f -/
theorem cav_isX {K : PySem.W.Frag} {C : Addr} {l : List (Str × Rep)} {c : V} {cv : Value} {b : Bool} (T : ExcC K C) (hc : ∀ u, RelV c u → u = cv) (hk : PySem.W.kitOne K (.ref C) cv = some b) : CaV (rIsX K) [RExc C l, RV c] (RB b) := fun vs G H s r Q q => by
  match vs, r with
  | [v, w], ⟨⟨a, d, fs, e, h1, h2, rf⟩, e2, _⟩ =>
    subst e
    have e2 : w = c := e2
    subst e2
    exact ⟨a, C, d, fs, w, b, rfl, s _ _ h1, s _ _ h2, T, .inl ⟨cv, hc, hk⟩, q _ G H (New.refl s) rfl⟩
theorem reps_RVs {G : Hp} : ∀ {cs vs : List V}, Reps (cs.map RV) vs G → vs = cs
  | [], [], _ => rfl
  | _ :: _, _ :: _, h => by
    have e : _ = _ := h.1
    rw [e, reps_RVs h.2]
  | [], _ :: _, h => h.elim
  | _ :: _, [], h => h.elim
theorem cav_isXt {K : PySem.W.Frag} {C : Addr} {l : List (Str × Rep)} {cs : List V} {us : List Value} {b : Bool} (T : ExcC K C) (hc : ∀ us', Vals cs us' → us' = us) (hk : PySem.W.kitAny K (.ref C) us = some b) : CaV (rIsX K) [RExc C l, RTt (cs.map RV)] (RB b) := fun vs G H s r Q q => by
  match vs, r with
  | [v, w], ⟨⟨a, d, fs, e, h1, h2, rf⟩, ⟨tp, ys, e2, h3, r3⟩, _⟩ =>
    subst e e2
    have e3 := reps_RVs r3
    subst e3
    exact ⟨a, C, d, fs, .ref tp, b, rfl, s _ _ h1, s _ _ h2, T, .inr ⟨tp, ys, us, rfl, s _ _ h3, hc, hk⟩, q _ G H (New.refl s) rfl⟩
theorem vals_refs : ∀ {cs : List Addr} {us : List Value}, Vals (cs.map V.ref) us → us = cs.map Value.ref
  | [], _, .nil => rfl
  | _ :: cs, _, .cons r t => by
    have e : _ = _ := r
    rw [e, vals_refs t]; rfl
section
variable {X : Cx} {E : En} {Γ : Gm} {M : Ow} {a e : Expr} {es : List Expr} {kws : List Keyword} {ks : List Str} {pos p : Pos} {k n : Nat} {x : Str} {Φ : Rep → Ow → Prop} {Ξ : Addr → List (Str × Rep) → Gm → Ow → Prop} {c : ConX} {dvs : List V} {gV : List V → List V → List V} {gR : List Rep → List Rep → List Rep}
theorem pe_xq {te : TE} {f : Str} (he : PE X e te) (hb : attributeBase e f X.env (eval e X.env) = eval e X.env := by rfl) :
    PE X (.Attribute e f pos) (fun σ H Q => te σ H fun x H1 => ∃ (a C d : Addr) (fs : List (Str × V)) (v : V), x = .ref a ∧ H1 a = some (exq a (.ref C) (some d)) ∧ H1 d = some (.xd fs) ∧ ExcC X.K C ∧ PySem.W.findIn X.K (.ref C) f = some none ∧ fs.lookup f = some v ∧ Q v H1) := by
  refine ⟨fun pins s σ H Q I h => attr_of hb (thn (he.run pins s σ H _ I h) fun u s1 hh => ?_)⟩
  obtain ⟨x, H1, I1, rx, a, C, d, fs, v, ex, ea, ed, T, no, l, q⟩ := hh
  subst ex
  have eu : u = Value.ref a := rx
  subst eu
  obtain ⟨o, od, J, lk⟩ := exq_inst I1.hok ea ed
  obtain ⟨w, lw, rw'⟩ := lk f v l
  exact HandSPX.exc_get I1.kIn J T.hg T.hk T.hs (PySem.W.findObj_own T.hd no rfl lw) (handed_of rw') ⟨v, H1, I1.tok _, rw', q⟩
theorem we_xf {f : Str} (h : WE X E Γ M a fun ρ M' => ∃ C l ρf, Sub ρ (RExc C l) ∧ ExcC X.K C ∧ PySem.W.findIn X.K (.ref C) f = some none ∧ l.lookup f = some ρf ∧ Φ ρf M') (hb : attributeBase a f X.env (eval a X.env) = eval a X.env := by rfl) : WE X E Γ M (.Attribute a f pos) Φ :=
  we_of (pe_xq pe_w hb) fun σ G H at' Q q => h σ G H at' _ fun ρ M' v G1 H1 ⟨C, l, ρf, sb, T, no, hl, hk⟩ s1 a1 r1 => by
    obtain ⟨b, d, fs, e1, e2, e3, rf⟩ := sb _ _ r1
    obtain ⟨w, e4, r4⟩ := rf.look hl
    exact ⟨b, C, d, fs, w, e1, a1.gh _ _ e2, a1.gh _ _ e3, T, no, e4, q ρf M' w G1 H1 hk s1 a1 r4⟩
/-! ### keywords -/
def KnRK (P : Program) (w : World) (K : PySem.W.Frag) (mg : Str → Option Value) (base : Heap) (k : Nat) (x : Str) (n : Nat) (ks : List Str) (gV : List V → List V → List V) (c : ConX) : Prop :=
  ∃ (f : Addr) (fd : FuncData) (ps : List Str) (g : List Value → List Value → List Value), mg x = some (.ref f) ∧ PySem.W.keepIn K (.ref f) = true ∧ KBn K fd ps n ks g gV ∧ FnOk P w K mg base (L2.CX P w) k f fd ps (conSpX c)
theorem endX {pins : List (Addr × Obj)} {σ : L2.St} {Q : VK} {s : Shared} {cd : Code} (h : codeAny (model X.prog X.w) X.A cd (fun res s' => match res with
      | .ok (.ret u) => EP X pins σ Q u s'
      | .ok _ => False
      | .error er => X.xe er s') s) : codeAny (model X.prog X.w) X.A cd (fun res s' => match res with
      | .error er => X.xe er s'
      | .ok fl => match fl with
        | .ret u => EP X pins σ Q u s'
        | _ => False) s := codeAny_mono h fun res s' hq => by
    cases res with
    | error er => exact hq
    | ok fl => cases fl <;> exact hq
theorem we_callXN (F : KnRK X.prog X.w X.K X.mg X.base k x n ks gV c) (gr : GvR gV gR n ks.length) (T : TakesX X E Ξ) (hr : Room k X.A) (hg : Gl X x)
    (h : WA X E Γ M (e :: es) fun ρs M1 => ρs.length = n ∧ WK X E Γ M1 kws fun ρz M2 => ρz.length = ks.length ∧ CallX c (gR ρs ρz) Γ M2 Φ Ξ)
    (hall : (backToKw pos (keywordEach kws X.env)).all (·.1.isSome) = true := by rfl) (hks : (backToKw pos (keywordEach kws X.env)).filterMap (·.1) = ks := by rfl)
    (hdb : (x == ("__debug__" : Str)) = false := by decide)
    (he : starEach (e :: es) X.env = (false, eval e X.env) :: starEach es X.env := by rfl) (hplain : ((backTo pos (starEach (e :: es) X.env)).any (·.1) || (backToKw pos (keywordEach kws X.env)).any (·.1.isNone)) = false := by rfl) :
    WE X E Γ M (.Call (.Name x p) (e :: es) kws pos) Φ := by
  obtain ⟨f, fd, ps, g, hm, hk, hb, F⟩ := F
  obtain ⟨W, tk, hw⟩ := T
  refine we_of (t := fun σ H Q => tWA X (e :: es) σ H fun vs H1 => tWK X kws σ H1 fun zs H2 => vs.length = n ∧ zs.length = ks.length ∧ conSpX c (gV vs zs) H2 Q (fun cls d H' => W cls d σ H')) ⟨fun pins s σ H Q I h => ?_⟩ fun σ G H a Q q => ?_
  · refine wpAny_Call_Name_kw (ld_glob I hg hm ?_ hdb)
    refine PySem.W.callWith_KW (h₀ := X.base) I.ok.mod.kin hk hall (thn (pa_w.run pos pins s σ H _ I h) fun us s1 ⟨vs, H1, I1, r, q⟩ => ?_) hplain he
    refine thn (pk_w.run pos pins s1 σ H1 _ I1 q) fun ws s2 ⟨zs, H2, I2, rz, l1, l2, q2⟩ => ⟨I2.kIn, ?_⟩
    rw [hks]
    exact wpAny_call (codeAny_mono (run_fnX (pins := pins) F tk hr I2 (hb.to s2 us ws I2.kIn (r.length.symm.trans l1) (rz.length.symm.trans l2)) (hb.rel r rz) q2) fun res s' hq => by
      cases res with
      | error er => exact hq
      | ok fl => cases fl <;> exact hq)
  · exact h σ G H a _ fun ρs M1 vs G1 H1 ⟨l1, h1⟩ s1 a1 r1 => h1 σ G1 H1 a1 _ fun ρz M2 zs G2 H2 ⟨l2, hh⟩ s2 a2 r2 =>
      ⟨by rw [← r1.length]; exact l1, by rw [← r2.length]; exact l2, callX_run hw hh a2 (gr.run l1 l2 (r1.mono s2) r2) fun ρ M3 v G3 H3 h3 s3 => q ρ M3 v G3 H3 h3 ((s1.trans s2).trans s3)⟩
theorem we_callXN0 (F : KnRK X.prog X.w X.K X.mg X.base k x 0 ks gV c) (gr : GvR gV gR 0 ks.length) (T : TakesX X E Ξ) (hr : Room k X.A) (hg : Gl X x)
    (h : WK X E Γ M kws fun ρz M2 => ρz.length = ks.length ∧ CallX c (gR [] ρz) Γ M2 Φ Ξ)
    (hall : (backToKw pos (keywordEach kws X.env)).all (·.1.isSome) = true := by rfl) (hks : (backToKw pos (keywordEach kws X.env)).filterMap (·.1) = ks := by rfl)
    (hdb : (x == ("__debug__" : Str)) = false := by decide) (hplain : ((backTo pos (starEach [] X.env)).any (·.1) || (backToKw pos (keywordEach kws X.env)).any (·.1.isNone)) = false := by rfl) :
    WE X E Γ M (.Call (.Name x p) [] kws pos) Φ := by
  obtain ⟨f, fd, ps, g, hm, hk, hb, F⟩ := F
  obtain ⟨W, tk, hw⟩ := T
  refine we_of (t := fun σ H Q => tWK X kws σ H fun zs H2 => zs.length = ks.length ∧ conSpX c (gV [] zs) H2 Q (fun cls d H' => W cls d σ H')) ⟨fun pins s σ H Q I h => ?_⟩ fun σ G H a Q q => ?_
  · refine wpAny_Call_Name_kw (ld_glob I hg hm ?_ hdb)
    refine PySem.W.callWith_KW0 (h₀ := X.base) I.ok.mod.kin hk hall ?_ hplain
    refine thn (pk_w.run pos pins s σ H _ I h) fun ws s2 ⟨zs, H2, I2, rz, l2, q2⟩ => ⟨I2.kIn, ?_⟩
    rw [hks]
    exact wpAny_call (codeAny_mono (run_fnX (pins := pins) F tk hr I2 (hb.to s2 [] ws I2.kIn rfl (rz.length.symm.trans l2)) (hb.rel .nil rz) q2) fun res s' hq => by
      cases res with
      | error er => exact hq
      | ok fl => cases fl <;> exact hq)
  · exact h σ G H a _ fun ρz M2 zs G2 H2 ⟨l2, hh⟩ s2 a2 r2 =>
      ⟨by rw [← r2.length]; exact l2, callX_run hw hh a2 (gr.run rfl l2 trivial r2) fun ρ M3 v G3 H3 h3 s3 => q ρ M3 v G3 H3 h3 (s2.trans s3)⟩
end
/-! ### the slots of a try's body, of an except suite -/
section
variable {X : Cx} {i : Nat} {x : Str} {pn : List (Addr × Obj)} {xe : Value → Shared → Prop} {a : Addr}
theorem Rd1.tr (r : Rd1 X i x) : Rd1 (X.tr pn xe) i x := ⟨r.at_, r.vis, r.hd, r.hcd⟩
theorem Rd1.su (r : Rd1 X i x) : Rd1 (X.suite a pn) i x := ⟨r.at_, r.vis, r.hd, r.hcd⟩
theorem Wr1.tr (r : Wr1 X i x) : Wr1 (X.tr pn xe) i x := ⟨r.nd, r.at_, r.loc, r.fn⟩
theorem Wr1.su (r : Wr1 X i x) : Wr1 (X.suite a pn) i x := ⟨r.nd, r.at_, r.loc, r.fn⟩
end
/-! ### where it does not raise -/
def ConX.quiet (c : ConX) : Con := { c.toCon with pre := fun i => c.pre i ∧ ∀ z, ¬ c.bad i z }
section
variable {P : Program} {w : World} {K : PySem.W.Frag} {mg : Str → Option Value} {base : Heap} {k n : Nat} {f : Addr} {fd : FuncData} {ps ks : List Str} {c : ConX} {x : Str} {dvs : List V} {gV : List V → List V → List V}
theorem quiet_sp {vs : List V} {H : Hp} {Q : VK} {EE E1 : XK} (h : conSp c.quiet vs H Q EE) : conSpX c vs H Q E1 := by
  obtain ⟨G, i, s, ⟨hp, nb⟩, r, o1, o2, o3, kk⟩ := h
  exact ⟨G, i, s, hp, r, o1, o2, o3, kk, fun z _ _ _ _ bz => absurd bz (nb z)⟩
theorem quiet_fn (F : FnOk P w K mg base (L2.CX P w) k f fd ps (conSpX c)) : FnOk P w K mg base CX0 k f fd ps (conSp c.quiet) :=
  ⟨fun vs H Q EE h => F.len vs H Q E0 (quiet_sp h), fun A outer s H args us vs Q EE hr he hb hv hs => codeAny_mono (F.run A outer s H args us vs Q E0 hr he hb hv (quiet_sp hs)) fun r s' h => by
    cases r with
    | error e =>
      obtain ⟨_, _, _, _, _, _, _, _, _, _, _, _, zz⟩ := h
      exact zz.elim
    | ok fl => cases fl <;> exact h⟩
theorem KnR.quiet (F : KnR P w K mg base k x dvs c) : Kn P w K mg base k x dvs c.quiet :=
  let ⟨f, fd, ps, ds, hm, hk, hb, hd, F⟩ := F; ⟨f, fd, ps, ds, hm, hk, hb, hd, quiet_fn F⟩
theorem KnRK.quiet (F : KnRK P w K mg base k x n ks gV c) : KnK P w K mg base k x n ks gV c.quiet :=
  let ⟨f, fd, ps, g, hm, hk, hb, F⟩ := F; ⟨f, fd, ps, g, hm, hk, hb, quiet_fn F⟩
end
end MM

namespace PySem
namespace XF
open PySem.W PySem.HandSPX PySem.Spec PyProof.Rows HotX
/-! ### raise x from e, where e is the exception that is handled -/
/-- the heap behind: the cause, and that it is told -/
def caused (h : Heap) (a x1 : Addr) : Heap := (h.update a (Obj.mapFields (·.setIfInBounds 3 (Value.ref x1)))).update a (Obj.mapFields (·.setIfInBounds 4 (Value.bool true)))
def causedO (o : Obj) (x1 : Addr) : Obj := (o.mapFields (·.setIfInBounds 3 (Value.ref x1))).mapFields (·.setIfInBounds 4 (Value.bool true))
def causedV (vs : Array Value) (x1 : Addr) : Array Value := (vs.setIfInBounds 3 (Value.ref x1)).setIfInBounds 4 (Value.bool true)
section
variable {h : Heap} {a b x1 : Addr} {o : Obj} {vs : Array Value} {i j : Nat} {x y : Value}
theorem caused_other (ne : a ≠ b) : (caused h a x1).get? b = h.get? b := by
  show ((h.update a _).update a _).get? b = _
  rw [Heap.get?_update_other _ _ ne]
  rw [Heap.get?_update_other _ _ ne]
theorem caused_data (d : o.data = .fields vs) : (causedO o x1).data = .fields (causedV vs x1) := Obj.data_mapFields (Obj.data_mapFields d _) _
theorem caused_at (e : h.get? a = some o) (d : o.data = .fields vs) : (caused h a x1).get? a = some (causedO o x1) :=
  Heap.get?_update_self _ (Heap.get?_update_self _ e (Obj.isFreed_of_fields (Obj.data_mapFields d _))) (Obj.isFreed_of_fields (caused_data d))
theorem causedO_cls : (causedO o x1).cls = o.cls := by
  unfold causedO
  rw [Obj.cls_mapFields, Obj.cls_mapFields]
theorem causedO_dict : (causedO o x1).dict = o.dict := by
  unfold causedO
  rw [dict_mapFields, dict_mapFields]
theorem causedV_size : (causedV vs x1).size = vs.size := by simp [causedV]
theorem causedV_1 (e : vs[1]? = some y) : (causedV vs x1)[1]? = some y := set_other (by decide) (set_other (by decide) e)
end
section
variable {prog : Program} {w : World} {A : Around} {E : Value → Shared → Prop} {env : Env} {s : Shared} {x c : Sem Value} {Q : Flow → Shared → Prop} {x1 : Addr}
theorem raise_caused
    (h : wpAny (model prog w) A x (fun v s₁ => ∃ (a : Addr) (oe o1 : Obj) (vs ws : Array Value) (cls cls1 : Value), v = .ref a ∧ s₁.heap.get? a = some oe ∧ oe.cls = cls ∧ oe.data = .fields vs ∧ vs[1]? = some .none ∧ 4 < vs.size ∧ x1 ≠ a ∧
      HotAt A x1 s₁.heap ∧ s₁.heap.get? x1 = some o1 ∧ o1.cls = cls1 ∧ o1.data = .fields ws ∧
      Looks (model prog w) s₁.heap (isSubtype cls1 (.type "BaseException")) true ∧ Looks (model prog w) s₁.heap (isSubtype cls (.type "BaseException")) true ∧ Looks (model prog w) (caused s₁.heap a x1) (typeOf cls) (.type "type") ∧
      (∀ Q' : Value → Shared → Prop, Q' (.ref x1) s₁ → wpAny (model prog w) A c Q' E s₁) ∧
      E (.ref a) { s₁ with heap := (caused s₁.heap a x1).update a (Obj.mapFields (·.setIfInBounds 2 (.ref x1))) }) E s) :
    wpAny (model prog w) A (raiseStmt env (some x) (some c)) Q E s := by
  unfold raiseStmt
  dsimp only
  refine wpAny_bind (wpAny_mono h (fun v s₁ hv => ?_) fun _ _ z => z)
  obtain ⟨a, oe, o1, vs, ws, cls, cls1, rfl, ha, hcls, hd, v1, v4, ne, hot, h1, hc1, hd1, K1, K2, K3, hc, hE⟩ := hv
  have notTy : ∀ {b : Addr} {o : Obj} {us : Array Value} {σ : Shared} {Q' : Bool → Shared → Prop}, σ.heap.get? b = some o → o.data = .fields us → Q' false σ → wpAny (model prog w) A (isType (.ref b)) Q' E σ := by
    intro b o us σ Q' g d q
    simp only [isType, loadHead]
    refine wpAny_bind (wpAny_loadPart g ?_)
    rw [d]
    exact wpAny_pure q
  have isE : ∀ {b : Addr} {o : Obj} {k : Value}, s₁.heap.get? b = some o → o.cls = k → Looks (model prog w) s₁.heap (isSubtype k (.type "BaseException")) true → Looks (model prog w) s₁.heap (isInstance (.ref b) (.type "BaseException")) true := fun {b o k} g e l => by
    have lt : Looks (model prog w) s₁.heap (typeOf (.ref b)) k := fun A Q E s keep q => wpAny_typeOf_ref (keep _ _ g) (by rw [e]; exact q)
    exact lt.andThen l
  have e3 : 3 < vs.size := by omega
  have g3 := Heap.get?_update_self (Obj.mapFields (·.setIfInBounds 3 (Value.ref x1))) ha (Obj.isFreed_of_fields (Obj.data_mapFields hd _))
  have d3 := Obj.data_mapFields hd (·.setIfInBounds 3 (Value.ref x1))
  have e4 : 4 < (vs.setIfInBounds 3 (Value.ref x1)).size := by simp [v4]
  have g4 := caused_at (x1 := x1) ha hd
  have d4 := caused_data (x1 := x1) hd
  have hot4 : HotAt A x1 (caused s₁.heap a x1) := by
    obtain ⟨q1, o, us, q2, q3, q4⟩ := hot
    exact ⟨q1, o, us, (caused_other (Ne.symm ne)).trans q2, q3, q4⟩
  have tail : wpAny (model prog w) A (do
      let u ← isType (.ref a)
      if u = true then do
          let y ← holding [.ref a] (raisedFor (.ref a) (.ref a))
          setFlight y none
          raiseNew y
        else do
          let y ← raisedInstance (.ref a)
          setFlight y none
          raiseNew y : Sem Flow) Q E { s₁ with heap := caused s₁.heap a x1 } := by
    refine wpAny_bind (notTy g4 d4 ?_)
    simp only [Bool.false_eq_true, if_false]
    unfold raisedInstance
    have lt : Looks (model prog w) (caused s₁.heap a x1) (typeOf (.ref a)) cls := fun A Q E s keep q => wpAny_typeOf_ref (keep _ _ g4) (by rw [causedO_cls, hcls]; exact q)
    refine wpAny_bind (wpAny_bind (lt.here (wpAny_bind (K3.here ?_))))
    rw [if_pos (beq_self_eq_true _)]
    refine wpAny_pure ?_
    unfold setFlight
    refine wpAny_bind (wpAny_bind (wpAny_field g4 d4 (causedV_1 v1) ?_))
    rw [if_neg (by decide)]
    refine wpAny_pure ?_
    exact raiseNew_hot hot4 ne g4 d4 (by rw [causedV_size]; omega) hE
  refine wpAny_bind (wpAny_holding (hc _ (wpAny_bind (wpAny_pure ?_))))
  dsimp only
  refine wpAny_bind (wpAny_holding ?_)
  unfold excFromValue isExcClass
  refine wpAny_bind (wpAny_bind (notTy ha hd ?_))
  simp only [Bool.false_eq_true, if_false]
  refine wpAny_pure ?_
  simp only [Bool.false_eq_true, if_false]
  refine wpAny_bind ((isE ha hcls K2).here ?_)
  simp only [if_true]
  refine wpAny_pure ?_
  rw [if_neg (show ¬ (Value.ref x1 == Value.none) = true from by simp)]
  refine wpAny_bind (wpAny_holding ?_)
  refine wpAny_bind (wpAny_bind (notTy h1 hd1 ?_))
  simp only [Bool.false_eq_true, if_false]
  refine wpAny_pure ?_
  simp only [Bool.false_eq_true, if_false]
  refine wpAny_bind ((isE h1 hc1 K1).here ?_)
  simp only [if_true]
  refine wpAny_pure ?_
  refine wpAny_bind (wpAny_setField ha hd e3 (wpAny_bind (wpAny_setField g3 d3 e4 ?_)))
  exact tail
end
end XF
end PySem
namespace MM
open PySem L2 PyProof.Rows
/-! ### a def that runs while an exception is handled -/
abbrev xdH (P : Program) (w : World) (K : PySem.W.Frag) (mg : Str → Option Value) (base : Heap) (N : List Str) (qual : Str) (sc : Scope) (f : Addr) (cd : Value) (A : Around) (outer : List Env) (s : Shared) (H : Hp) (EE : XK) (q : Addr × Obj) : Cx :=
  (L2H.cxH CX0 P w K mg base N qual sc f cd A outer s H EE q).nox
theorem fn_conH {P : Program} {w : World} {K : PySem.W.Frag} {mg : Str → Option Value} {base : Heap} {x qual : Str} {st : Stmt} {dvs : List V} {f : Addr} {fd : FuncData} {N ps : List Str} {k : Nat} (c : Con) (F : FdD K x qual st dvs f fd) (S : FnScope N ps (defScope st)) (hl : ∀ i, (c.args i).length = ps.length)
    (h : ∀ (cd : Value) (A : Around) (outer : List Env) (s : Shared) (H : Hp) (EE : XK) (G : Hp) (q : Addr × Obj) (i : c.I), c.pre i → (∀ a ∈ (c.own i).map (·.1), H a ≠ none) →
      WSs (xdH P w K mg base N qual (defScope st) f cd A outer s H EE q) ⟨G, H, (c.own i).map (·.1)⟩ (startG N (c.args i)) (c.own i) (defBody st) (EdOf c i)) : L2H.FnH P w K mg base CX0 (k + 1) f fd ps (conSp c) := by
  obtain ⟨oc, od, dV, kV, doc, pm, an, cdv, ct, osl, rfl, lk, hcd, _, _⟩ := F.ex
  refine L2H.fn_ofH lk hcd S (fun vs H Q EE hh => ?_) fun A outer s H vs Q EE q hot hr hh => ?_
  · obtain ⟨G, i, _, _, r, _⟩ := hh
    exact (hl i) ▸ r.length.symm
  · obtain ⟨G, i, gh, hp, r, o1, o2, o3, kk⟩ := hh
    refine ⟨tWSs (xdH P w K mg base N qual (defScope st) f cdv A outer s H EE q) (defBody st), pss_w.nox, ?_⟩
    have a0 : At ⟨G, H, (c.own i).map (·.1)⟩ (startG N (c.args i)) (c.own i) (L2.start N vs) G H :=
      ⟨by simp [startG, L2.start, r.length], start_env r, gh, o1, o2, o3, Same.refl _, fun _ _ _ e => e, fun _ _ hg => hg, fun q hq => .inl (List.mem_map.mpr ⟨q, hq, rfl⟩), fun _ h => h⟩
    have fin : ∀ ρ M, Rt c i ρ M → ∀ v G' H', At ⟨G, H, (c.own i).map (·.1)⟩ [] M [] G' H' → ρ.p v G' → Q v H' := fun ρ M ⟨x, rest, px, sb, pk⟩ v G' H' a rv => kk x v G' H' px (a.aftOf pk) (sb _ _ rv)
    exact h cdv A outer s H EE G q i hp a0.there0 (L2.start N vs) G H a0 _ ⟨fun Γ M h' σ G' H' _ a' => fin _ _ h' _ _ _ a'.env0 rfl, fun ρ M h' v G' H' _ a' rv => fin _ _ h' _ _ _ a' rv, fun _ _ h' => h'.elim, fun _ _ h' => h'.elim⟩
section
variable {X : Cx} {ex : Expr} {es : List Expr} {ta : TA} {p pos : Pos}
/-- C(e, ..) while an exception is handled: an exception with its six fields -/
theorem pmk_xexH {x : Str} {Ce fI : Addr} {kp : Nat} {fd : FuncData} {ps : List Str} {sp : Sp} (T : OxOk X.K Ce) (iC : PySem.W.findIn X.K (.ref Ce) "__init__" = some (some (.ref fI))) (tI : PySem.W.isFn X.K (.ref fI) = true)
    (F1 : L2H.FnH X.prog X.w X.K X.mg X.base CX0 kp fI fd ps sp) (hr : L2H.RoomH (kp + 1) X.A) (hot : L2H.HotC X) (hb : Binds X.K fd ps []) (hg : Gl X x) (hm : X.mg x = some (.ref Ce)) (ha : PA X (ex :: es) ta)
    (hdb : (x == ("__debug__" : Str)) = false := by decide) (he : starEach (ex :: es) X.env = (false, eval ex X.env) :: starEach es X.env := by rfl) (hpl : (backTo pos (starEach es X.env)).any (·.1) = false := by rfl) :
    L2H.PMk5 X (.Call (.Name x p) (ex :: es) [] pos) (tMkO Ce sp [] ta) := by
  intro pns s σ H Q Iv h
  obtain ⟨B, nI, iI, bmB, xb, T⟩ := T
  obtain ⟨q, hot, hq⟩ := hot
  refine wpAny_Call_Name_kw (ld_glob Iv hg hm ?_ hdb)
  refine PySem.W.callWith_K (h₀ := X.base) Iv.ok.mod.kin T.kC (thn (ha.run pos pns s σ H _ Iv h) fun uvs s1 ⟨vs, H1, Iv1, rv1, hz, q1⟩ => ⟨Iv1.kIn, ?_⟩) he hpl
  show wpAny _ _ (call (.ref Ce) uvs) _ _ _
  obtain ⟨nm, N, qn, bs, bm, hdct, sn, sub, ab, col, dd, k0, k1, k2, k3, k5, hC, hT⟩ := PySem.W.excInit_of Iv1.kIn T.ci
  obtain ⟨oI, hoI, clI⟩ : ∃ oI, s1.heap.get? fI = some oI ∧ oI.cls = .type "function" := by
    obtain ⟨o, oat, hc⟩ := Option.map_eq_some_iff.mp (show (X.K.lookup fI).map (·.cls) = some (.type "function") from beq_iff_eq.mp tI)
    exact ⟨o, Iv1.kIn _ _ oat, hc⟩
  obtain ⟨hh0, g, dr, tk, os⟩ := s1
  have szle : hh0.objs.size ≤ hh0.objs.size + 1 := Nat.le_succ _
  have hn : H1 (hh0.objs.size + 1) = none := Iv1.hok.fresh szle
  have fin := q1 (hh0.objs.size + 1) hn
  rw [List.append_nil] at fin
  have kee : ∀ b o, hh0.get? b = some o → ((hh0.push (PySem.W.kdv_tup uvs)).push (PySem.HandSPX.excO Ce hh0.objs.size)).get? b = some o := fun b o ex => Heap.get?_push_of_some _ (Heap.get?_push_of_some _ ex)
  have got : ((hh0.push (PySem.W.kdv_tup uvs)).push (PySem.HandSPX.excO Ce hh0.objs.size)).get? (hh0.objs.size + 1) = some (PySem.HandSPX.excO Ce hh0.objs.size) := by heap_get
  have Iv2 : L2.Inv X pns σ (upd H1 (hh0.objs.size + 1) (exo (hh0.objs.size + 1) Ce none)) ⟨(hh0.push (PySem.W.kdv_tup uvs)).push (PySem.HandSPX.excO Ce hh0.objs.size), g, dr, tk, os⟩ :=
    Iv1.laid (t' := tk) (a := hh0.objs.size + 1) (o := exo (hh0.objs.size + 1) Ce none) (h' := (hh0.push (PySem.W.kdv_tup uvs)).push (PySem.HandSPX.excO Ce hh0.objs.size)) kee szle (exo_ok got)
  have r2 : Vals (V.ref (hh0.objs.size + 1) :: vs) (Value.ref (hh0.objs.size + 1) :: uvs) := .cons rfl rv1
  have hln : (Value.ref (hh0.objs.size + 1) :: uvs ++ []).length = ps.length := by
    have ex := r2.length
    rw [F1.len _ _ _ _ fin] at ex
    rw [List.append_nil]
    exact ex.symm
  have usle : uvs.length ≤ sizeLine := by
    rw [← Paired.length rv1, sizeLine_eq]
    omega
  have bnd := hb _ (Value.ref (hh0.objs.size + 1) :: uvs) Iv2.kIn hln
  rw [List.append_nil] at bnd
  have pq := Iv2.pin q (List.mem_append_left _ hq)
  have far : L2H.PinOk X.stack (upd H1 (hh0.objs.size + 1) (exo (hh0.objs.size + 1) Ce none)) ⟨(hh0.push (PySem.W.kdv_tup uvs)).push (PySem.HandSPX.excO Ce hh0.objs.size), g, dr, tk, os⟩ q :=
    { get := pq.1, free := pq.2.1, nofs := fun z => (List.mem_cons.mp (Iv2.stkSub q.1 z)).elim pq.2.2.1 pq.2.2.2.1, nocell := pq.2.2.2.2 }
  obtain ⟨B0, bm0, bf, inB, noA, noN⟩ := xb.bf
  refine wpAny_call (PySem.XG.made_own bf (by rw [hT]; exact inB) (by rw [hT]; exact noA) (by rw [hT]; exact noN) hC (PySem.W.looks_findIn Iv1.kIn iC) (fun self => PySem.W.exc_bind hoI clI self) usle
    (codeAny_mono (F1.run _ X.stack _ _ ⟨Value.ref (hh0.objs.size + 1) :: uvs, []⟩ (Value.ref (hh0.objs.size + 1) :: uvs) _ _ (fun _ _ _ => False) q (hr.make Ce uvs []) ⟨hot.1, hot.2⟩ far (Iv2.env0.make Ce uvs []) bnd r2 fin) fun r s' res => ?_))
  cases r with
  | error er => exact False.elim res
  | ok fl =>
    cases fl with
    | ret u =>
      obtain ⟨v, H2, os2, bare2, un2, hok2, rv, ev, d, flds, ea, ed, hd1, q2⟩ := res
      subst ev
      obtain ⟨h2, g2, d2, t2, osz⟩ := s'
      obtain ⟨t0, G, J, kG, ge, hoe, na⟩ := mk_end0 (d2 := d2) (t2 := t2) Iv1 szle kee un2 hok2 os2 bare2 ea ed hd1
      have z6 : ∀ vs : Array Value, ({ cls := .ref Ce, dict := some d, data := .fields #[.ref t0, .none, .none, .none, .bool false, .none] } : Obj).data = .fields vs → vs = #[.ref t0, .none, .none, .none, .bool false, .none] := fun vs e => by
        cases e
        rfl
      refine ⟨rv, ⟨hh0.objs.size + 1, _, _, ⟨G, g2, d2, t2, osz⟩, _, .ref Ce, some d, rfl, J, kG, ge, hoe, ⟨rfl, rfl, fun vs e => ?_⟩, rfl, rfl, na, rfl, bare2, raises_own T.exC T.tyC, q2⟩, fun b ob us eb gb db => ?_⟩
      · rw [z6 vs e]
        rfl
      · cases eb
        have gb : h2.get? (hh0.objs.size + 1) = some ob := gb
        rw [hoe] at gb
        have eo := Option.some.inj gb
        subst eo
        rw [z6 us db]
        show 4 < 6
        decide
    | next => exact False.elim res
    | brk => exact False.elim res
    | cont => exact False.elim res
end
/-! ### raise C(..) from n -/
/-- p's object is handled, its class one of exceptions -/
def HotK (X : Cx) (a : Addr) : Prop := ∃ oe : Obj, L2H.Hot1 X.A (a, oe) ∧ (a, oe) ∈ X.pn ∧ ∀ h : Heap, X.K.In h → PySem.W.Looks (model X.prog X.w) h (isSubtype oe.cls (.type "BaseException")) true
theorem HotK.hot {X : Cx} {a : Addr} (h : HotK X a) : L2H.HotC X := ⟨_, h.choose_spec.1, h.choose_spec.2.1⟩
theorem ps_raiseF {X : Cx} {W : WX} {e : Expr} {t : L2.St → Hp → XK → Prop} {i : Nat} {n : Str} {a1 : Addr} {p2 pos : Pos} (hot : HotK X a1) (tk : Takes X W) (he : L2H.PMk5 X e t) (hi : X.N[i]? = some n) (hn : X.env.kindOf n = some .local) (hv : Vis X.env.scope n)
    (hd : (n == ("__debug__" : Str)) = false) : PS X (.Raise (some e) (some (.Name n p2)) pos) (fun _ σ H => σ[i]? = some (some (.ref a1)) ∧ t σ H fun cls d H' => W cls d σ H') := by
  refine ⟨fun pins s σ H D I h => ?_⟩
  obtain ⟨h1, h2⟩ := h
  obtain ⟨o1, ⟨hh, ws, w1, w2⟩, mem, sub⟩ := hot
  show wpAny _ _ (do standAt pos; raiseStmt X.env (some (do let v ← eval e X.env; standAt pos; pure v)) (some (do let v ← eval (.Name n p2) X.env; standAt pos; pure v))) _ _ _
  refine wpAny_bind (wpAny_standAt (PySem.XF.raise_caused (x1 := a1) (wpAny_bind (wpAny_mono (he pins s σ H _ I h2) (fun u s1 hu => wpAny_bind (wpAny_standAt (wpAny_pure ?_))) fun _ _ z => z))))
  obtain ⟨⟨a, oe, vs, sI, H', cls, d, rfl, J, kk, an, ag1, az, ad, a1n, na, os, bare, rs, q⟩, six⟩ := hu
  have pn1 := J.pin (a1, o1) (List.mem_append_left _ mem)
  have ne : a1 ≠ a := fun z => by
    have e := pn1.1
    rw [show ((a1, o1) : Addr × Obj).1 = a from z, an] at e
    cases e
  have kc : ∀ b u, sI.heap.get? b = some u → (PySem.XF.caused s1.heap a a1).get? b = some u := fun b u z => by
    have nb : a ≠ b := fun y => by
      rw [← y, an] at z
      cases z
    rw [PySem.XF.caused_other nb]
    exact kk b u z
  obtain ⟨m, hm, look⟩ := J.loc
  obtain ⟨u, ru, lu⟩ := look i n _ hi h1 hv
  have ru : u = Value.ref a1 := ru
  subst ru
  have lu : m n = some (.ref a1) := by
    rcases lu with ⟨_, z⟩ | ⟨z | z, _⟩
    · exact z
    · rw [hn] at z
      cases z
    · rw [hn] at z
      cases z
  have hm1 : s1.heap.Ns X.env.locals m := hm.keeps kk
  have d4 := PySem.XF.caused_data (x1 := a1) ad
  have g4 := PySem.XF.caused_at (x1 := a1) ag1 ad
  have f1 : ((PySem.XF.causedV vs a1).setIfInBounds 2 (Value.ref a1))[1]? = some Value.none := HotX.set_other (by decide) (PySem.XF.causedV_1 a1n)
  refine ⟨a, oe, o1, vs, ws, cls, o1.cls, rfl, ag1, az.1, ad, a1n, six a oe vs rfl ag1 ad, ne, ⟨hh, o1, ws, kk _ _ pn1.1, w1, w2⟩, kk _ _ pn1.1, rfl, w1, sub _ (J.kIn.keeps kk), (rs (model X.prog X.w) s1.heap (J.kIn.keeps kk)).1, (rs (model X.prog X.w) _ (J.kIn.keeps kc)).2, fun Q' q' => ?_, ?_⟩
  · exact wpAny_bind (wpAny_Name (wpAny_loadName_local J.ok.kind hn hm1 lu (wpAny_bind (wpAny_standAt (wpAny_pure q')))) hd)
  · refine tk _ _ (XE.new J (fun b u z => ?_) an (Heap.get?_update_self _ g4 (Obj.isFreed_of_fields (Obj.data_mapFields d4 _))) ⟨?_, ?_⟩ (Obj.data_mapFields d4 _) f1 na os bare q)
    · have nb : a ≠ b := fun y => by
        rw [← y, an] at z
        cases z
      exact (Heap.get?_update_other _ _ nb).trans (kc b u z)
    · rw [Obj.cls_mapFields, PySem.XF.causedO_cls]
      exact az.1
    · rw [PySem.HandSPX.dict_mapFields, PySem.XF.causedO_dict]
      exact az.2.1
end MM

namespace MM
open PySem L2 PyProof.Rows
/-! ### try: body, except x as n: a suite that raises -/
section
variable {X : Cx} {pins : List (Addr × Obj)} {σ : L2.St} {H : Hp} {s : Shared} {h' : Heap} {n : Str} {i : Nat} {ov : Option Value}
/-- the name n is gone from the frame -/
theorem gone_inv {m' : Str → Option Value} {t : Nat} (I : L2.Inv X pins σ H s) (hN : X.N.Nodup) (hi : X.N[i]? = some n) (sb : Heap.SameBut X.env.locals s.heap h') (hm' : h'.Ns X.env.locals m') (hm : ∀ m, s.heap.Ns X.env.locals m → ∀ y, y ≠ n → m' y = m y) : L2.Inv X pins (σ.set i none) H { s with heap := h', toks := t } where
  ok := I.ok
  os := I.os
  bare := I.bare
  base := by
    have far : ∀ {b : Addr} {o : Obj}, X.s_0.heap.get? b = some o → h'.get? b = s.heap.get? b := fun {b o} e => sb.2 b (Nat.ne_of_lt (Nat.lt_of_lt_of_le (Heap.lt_size e) I.ok.above))
    exact {
      keep := fun b o e z1 z2 z3 => (far e).trans (I.base.keep b o e z1 z2 z3)
      slot := fun b o e z1 z2 z3 => by
        obtain ⟨sl, y⟩ := I.base.slot b o e z1 z2 z3
        exact ⟨sl, (far e).trans y⟩
      free := I.base.free
      there := fun b o e z => by
        obtain ⟨o2, y⟩ := I.base.there b o e z
        exact ⟨o2, (far e).trans y⟩
      tups := I.base.tups
      frzs := I.base.frzs
      tbls := I.base.tbls }
  loc := by
    obtain ⟨m, k1, k2⟩ := I.loc
    refine ⟨m', hm', fun j y v e1 e2 e3 => ?_⟩
    have ji : j ≠ i := fun z => by
      subst z
      rw [List.getElem?_set] at e2
      split at e2
      · split at e2 <;> cases e2
      · rename_i z
        exact z rfl
    rw [List.getElem?_set_ne (Ne.symm ji)] at e2
    obtain ⟨u, r, l⟩ := k2 j y v e1 e2 e3
    refine ⟨u, r, l.imp (fun ⟨a1, a2⟩ => ⟨a1, ?_⟩) fun ⟨a1, c, a2, a3⟩ => ⟨a1, c, a2, ?_⟩⟩
    · rw [hm m k1 y fun z => ji (nodup_ix hN e1 (z ▸ hi))]
      exact a2
    · exact a3.sameBut sb (I.cne y c a2)
  cell := fun y c e => by
    obtain ⟨u, z⟩ := I.cell y c e
    exact ⟨u, z.sameBut sb (I.cne y c e)⟩
  free := I.free
  freeC := I.freeC
  pin := fun p hp => by
    obtain ⟨q1, q2, q3, q4⟩ := I.pin p hp
    exact ⟨(sb.2 p.1 q3).trans q1, q2, q3, q4⟩
  hok := fun b u e => (I.hok b u e).stay (fun c v hc q => (sb.2 c fun z => by
      subst z
      have fr := I.free
      rcases hc with hc | hc
      · rw [hc, e] at fr
        cases fr
      · rw [hc] at fr
        cases fr).trans q) (fun _ q => q) fun _ _ q => q
  len := (List.length_set ..).trans I.len
end
theorem frames_but {B h h' : Heap} {L : Addr} (sb : Heap.SameBut L h h') (hd : ∃ o, h'.get? L = some o ∧ ∀ vs, o.data ≠ .fields vs) : ∀ {l : List Env}, h.FunFrames B l → h'.FunFrames B l
  | [], _ => trivial
  | env :: l, ⟨hk, ⟨F, o, e1, e2, e3, e4⟩, hr⟩ => by
    refine ⟨hk, ?_, frames_but sb hd hr⟩
    by_cases z : F = L
    · subst z
      obtain ⟨o2, k1, k2⟩ := hd
      exact ⟨F, o2, e1, e2, k1, k2⟩
    · exact ⟨F, o, e1, e2, (sb.2 F z).trans e3, e4⟩
theorem held_but {B h h' : Heap} {env : Env} {outer : List Env} {a L : Addr} {Z : Obj → Prop} (hf : env.frame = some L) (sb : Heap.SameBut L h h') (hd : ∃ o, h'.get? L = some o ∧ ∀ vs, o.data ≠ .fields vs) (x : HandSPX.HeldZ B (env :: outer) a Z L h) : HandSPX.HeldZ B (env :: outer) a Z L h' := by
  obtain ⟨st, bn, ff, oe, vs, T, oT, ts, x1, x2, x3, x4, x5, x6, x7, x8, x9⟩ := x
  obtain ⟨_, ⟨F, oF, f1, f2, f3, f4⟩, _⟩ := id ff
  rw [hf] at f1
  cases f1
  have rec_ : ∀ {b : Addr} {o : Obj} {us : Array Value}, h.get? b = some o → o.data = .fields us → b ≠ L := fun {b o us} e d z => by
    subst z
    rw [e] at f3
    cases f3
    exact f4 _ d
  refine ⟨fun b o e => (sb.2 b fun z => ?_).trans (st b o e), bn, frames_but sb hd ff, oe, vs, T, oT, ts, (sb.2 a (rec_ x1 x3)).trans x1, x2, x3, x4, x5, x6, (sb.2 T (rec_ x7 x8)).trans x7, x8, x9⟩
  subst z
  rw [f2] at e
  cases e
theorem ns_up {h h' : Heap} {L : Addr} {m : Str → Option Value} (x : h.Ns L m) (up : h.UpToSlots h') : h'.Ns L m := by
  obtain ⟨o, es, ep, e, d, k, f⟩ := x
  obtain ⟨sl, e2⟩ := up L o e fun vs z => by
    rw [d] at z
    cases z
  exact ⟨_, es, ep, e2, d, k, f⟩
theorem ns_uniq {h : Heap} {L : Addr} {m m' : Str → Option Value} (x : h.Ns L m) (y : h.Ns L m') : m = m' := by
  obtain ⟨o, es, ep, e, d, k, f⟩ := x
  obtain ⟨o2, es2, ep2, e2, d2, k2, f2⟩ := y
  rw [e] at e2
  cases e2
  rw [d] at d2
  cases d2
  exact funext fun z => (f z).symm.trans (f2 z)
/-- the context of a suite that raises -/
abbrev suX (X : Cx) (a : Addr) (pn : List (Addr × Obj)) (xe : Value → Shared → Prop) : Cx := (X.suite a pn).wish xe
section
variable {X : Cx} {x n : Str} {c : Value} {i : Nat} {body suite : List Stmt} {b₀ : Stmt} {np pos pos' : Pos} {tb : WX → TS} {ts : Addr → Value → Option Addr → TS} {Wout : WX}
/-- what is wished of the body's exceptions: all are caught -/
def wFrom (K : PySem.W.Frag) (c : Value) (i : Nat) (ts : Addr → Value → Option Addr → TS) (D : Ends) : WX := fun cls d σ H =>
  PySem.W.exmOne K cls c = some true ∧ ∀ a, H a = none → ts a cls d { nx := fun σ' H' => D.nx (σ'.set i none) H', rt := D.rt, bk := fun σ' H' => D.bk (σ'.set i none) H', ct := fun σ' H' => D.ct (σ'.set i none) H' } (σ.set i (some (.ref a))) H
theorem ps_tryF (hs : X.stack = X.env :: X.outer) (hf : X.env.frame = some X.env.locals) (hN : X.N.Nodup) (hi : X.N[i]? = some n) (hn : X.env.kindOf n = some .local) (hc : Names X x c) (tk : Takes X Wout)
    (hbd : ∀ (wx : WX) (pn : List (Addr × Obj)) (xe : Value → Shared → Prop), L2N.Takes (X.tr pn xe) wx → PassesOwn (model X.prog X.w) X.A X.env xe → PSs (X.tr pn xe) body (tb wx))
    (hsu : ∀ (a : Addr) (oe : Obj) (cls : Value) (d : Option Addr) (pn : List (Addr × Obj)) (xe : Value → Shared → Prop), L2N.Zn cls d oe → (∃ vs, oe.data = .fields vs) → Takes (suX X a ((a, oe) :: pn) xe) (fun cls d σ H => Wout cls d (σ.set i none) H) →
      PSs (suX X a ((a, oe) :: pn) xe) (b₀ :: suite) (ts a cls d)) :
    PS X (.Try body [.ExceptHandler (some (.Name x np)) (some n) (b₀ :: suite) pos'] [] [] pos) (fun D σ H => tb (wFrom X.K c i ts D) D σ H) := by
  refine ⟨fun pns s σ H D I h => ?_⟩
  have iok := I.ok
  have hfr : X.A.frames = some (X.env :: X.outer) := by rw [iok.frames, hs]
  refine wpAny_Try_except (wpAny_mono ((hbd (wFrom X.K c i ts D) (X.pn ++ pns) (fun e s₁ => wpAny (model X.prog X.w) X.A (noteFrame e X.env) (fun _ s₂ => wpAny (model X.prog X.w) X.A (setFlight e none) (fun _ s₃ =>
    wpAny (model X.prog X.w) X.A (handleBy e X.env [.ExceptHandler (some (.Name x np)) (some n) (b₀ :: suite) pos']) (SP X pns D) X.xe s₃) X.xe s₂) X.xe s₁) (fun u s' xx => ?_) PassesOwn.looking).run [] s σ H D (I.toTry _) h) (fun f s1 hsp => ?_) fun e s1 he => he)
  · obtain ⟨a, B, sI, pins', σ', H', cls, d, rfl, J', nb, up, sky, na, os, ag, hone, yes⟩ := xx
    have J : L2.Inv X pns σ' H' sI := J'.ofTry iok
    have sk : Sky B (X.env :: X.outer) a (L2N.Zn cls d) X.env.locals s'.heap := by rw [← hs]; exact sky
    show wpAny _ X.A (noteFrame (.ref a) X.env) _ _ _
    refine L2N.Sky.land L2N.Zn.steady hfr hf sk fun h3 fl3 up3 => ?_
    have J3 : L2.Inv X pns σ' H' { s' with heap := h3 } := J.landed nb fl3.1 (up.trans up3) os ag
    obtain ⟨o3, vs3, e3, z3, d3⟩ := fl3.there
    have offF : ∀ {h : Heap} {o : Obj} {us : Array Value}, h.FunFrames B (X.env :: X.outer) → h.get? a = some o → o.data = .fields us → a ∉ frs (X.env :: X.outer) := fun {h o us} ff e q hm => by
      obtain ⟨_, u, y, hnf⟩ := ff.mem hm
      rw [e] at y
      cases y
      exact hnf _ q
    have nfr := offF fl3.2.2.1 e3 d3
    have nL : a ≠ X.env.locals := fun z => nfr (List.mem_filterMap.mpr ⟨X.env, List.mem_cons_self, hf.trans (congrArg some z.symm)⟩)
    have nF : a ∉ X.fs := fun hm => by
      obtain ⟨e, he, q⟩ := List.mem_filterMap.mp hm
      exact nfr (List.mem_filterMap.mpr ⟨e, List.mem_cons_of_mem _ he, q⟩)
    have S3 := J3.suite e3 d3 na nL nF
    refine wpAny_handleBy_cons (codeAny_handlers_test ?_) (fun y => nomatch y)
    have lt : PySem.W.Looks (model X.prog X.w) h3 (typeOf (.ref a)) cls := fun A Q E s k q => wpAny_typeOf_ref (k _ _ e3) (by rw [z3.1]; exact q)
    have lm := PySem.W.exm_one (M := model X.prog X.w) J3.kIn lt hone
    have test : ∀ {Q : Value → Shared → Prop} {E : Value → Shared → Prop}, Q c { s' with heap := h3 } → wpAny (model X.prog X.w) (X.A.mark (some (.ref a))) (eval (.Name x np) X.env) Q E { s' with heap := h3 } := fun {Q E} q => by
      obtain ⟨g1, g2, g3 | ⟨g3, g4, g5⟩⟩ := hc
      · exact ld_glob (X := X.suite a ((a, o3) :: (X.pn ++ pns))) S3 g1 g3 q g2
      · exact ld_blt (X := X.suite a ((a, o3) :: (X.pn ++ pns))) S3 g1 g3 g4 q g5 g2
    refine test (lm.here ?_)
    refine codeAny_handlers_suite_as (HandSPX.lands_againZ fl3 fun h6 fl6 up6 => ?_)
    obtain ⟨o6, vs6, e6, z6, d6⟩ := fl6.there
    have J6 : L2.Inv X pns σ' H' { s' with heap := h6 } := J.landed nb fl6.1 ((up.trans up3).trans up6) os ag
    have S6 := J6.suite e6 d6 na nL nF
    refine store_ok (X := X.suite a ((a, o6) :: (X.pn ++ pns))) (v := .ref a) S6 hN hi (.inl hn) rfl (fun s7 J7 => ?_) (.inr hn)
    refine wpAny_mono ((hsu a o6 cls d (X.pn ++ pns) _ z6 ⟨_, d6⟩ ?tk).run [] s7 _ _ _ (J7.wish _) (yes a na)) (fun f s8 hsp => ?_) fun x s8 hx => hx
    case tk =>
      intro u s9 xx
      obtain ⟨a2, B2, sI2, pn2, σ2, H2, cls2, d2, rfl, I2, nb2, up2, sky2, na2, os2, ag2, w2⟩ := xx
      have hfr2 : (X.A.mark (some (.ref a))).frames = some (X.env :: X.outer) := hfr
      have sky2 : Sky B2 (X.env :: X.outer) a2 (Zc cls2 d2) X.env.locals s9.heap := by rw [← hs]; exact sky2
      have hcls : (X.env.scope.kind == .class || (X.env.scope.kind == .module && X.env.locals != X.env.globals)) = false := by rw [iok.kind]; rfl
      have note : ∀ {Q : Unit → Shared → Prop} {E : Value → Shared → Prop}, (∀ h1, HandSPX.HeldZ B2 (X.env :: X.outer) a2 (Zc cls2 d2) X.env.locals h1 → s9.heap.UpToSlots h1 → Q () { s9 with heap := h1 }) →
          wpAny (model X.prog X.w) (X.A.mark (some (.ref a))) (noteFrame (.ref a2) X.env) Q E s9 := fun {Q E} q => by
        rcases sky2 with ⟨y1, y2, y3, oe, vs, y4, y5, y6, y7⟩ | fl | hh
        · exact HandSPX.look_newZ Zc.steady hfr2 y3 hf y4 y1 y2 y6 y7 y5 q
        · exact HandSPX.looks_onZ Zc.steady hfr2 hf fl q
        · exact HandSPX.againZ hf hh.2.2.2 (q s9.heap hh (Heap.UpToSlots.refl _))
      show wpAny (model X.prog X.w) (X.A.mark (some (.ref a))) (noteFrame (.ref a2) X.env) _ _ s9
      refine note fun h1 held1 up1 => ?_
      have st : (suX X a ((a, o6) :: (X.pn ++ pns)) (fun _ _ => False)).stack = X.stack := rfl
      have J1 := Inv.landed (s' := { s9 with heap := h1 }) I2 nb2 held1.1 (up2.trans up1) os2 ag2
      obtain ⟨m1, n1, _⟩ := J1.loc
      obtain ⟨mI, nI, _⟩ := I2.loc
      refine wpAny_nameGoes_keeps hn n1 hcls fun h3 v n3 sb3 => ?_
      obtain ⟨oL, esL, epL, gL, dL, kL, fL⟩ := id n3
      have held3 := held_but hf sb3 ⟨oL, gL, fun vs z => by
        rw [dL] at z
        cases z⟩ held1
      -- the state without the exception
      obtain ⟨oI, esI, epI, gI, _⟩ := id nI
      have frL : oL.isFreed = false := (Heap.get?_some_iff.mp gL).2
      have gG : (sI2.heap.update X.env.locals fun _ => oL).get? X.env.locals = some oL := Heap.get?_update_self _ gI frL
      have sbG : Heap.SameBut X.env.locals sI2.heap (sI2.heap.update X.env.locals fun _ => oL) := Heap.SameBut.update _ _ _
      have eqm : mI = m1 := ns_uniq (ns_up nI (up2.trans up1)) n1
      have IG := gone_inv (t := sI2.toks) I2 hN hi sbG ⟨oL, esL, epL, gG, dL, kL, fL⟩ fun m hm y hy => by
        rw [ns_uniq hm nI, eqm]
        exact if_neg hy
      have IG2 : L2.Inv X pns (σ2.set i none) H2 { sI2 with heap := sI2.heap.update X.env.locals fun _ => oL, toks := sI2.toks } := Inv.unsuite (a := a) (q := (a, o6)) (Inv.unwish IG) iok
      have fin : ∀ h5, HandSPX.HeldZ B2 (X.env :: X.outer) a2 (Zc cls2 d2) X.env.locals h5 → h3.UpToSlots h5 → X.xe (.ref a2) { s9 with heap := h5, toks := s9.toks + 1 } := fun h5 held5 up5 => by
        refine tk _ _ ⟨a2, B2, _, pns, σ2.set i none, H2, cls2, d2, rfl, IG2, fun b o e hb => ?_, fun b o e hnf => ?_, .inr (.inr (by rw [hs]; exact held5)), na2, os2, ag2, w2⟩
        · have bL : b ≠ X.env.locals := fun z => hb (by rw [hs, z]; exact List.mem_filterMap.mpr ⟨X.env, List.mem_cons_self, hf⟩)
          exact nb2 b o ((sbG.2 b bL).symm.trans e) hb
        · by_cases bL : b = X.env.locals
          · subst bL
            have e : (sI2.heap.update X.env.locals fun _ => oL).get? X.env.locals = some o := e
            rw [gG] at e
            cases e
            exact up5 _ _ gL hnf
          · have e : (sI2.heap.update X.env.locals fun _ => oL).get? b = some o := e
            rw [sbG.2 b bL] at e
            obtain ⟨sl, k1⟩ := (up2.trans up1) b o e hnf
            obtain ⟨sl2, k2⟩ := up5 b _ ((sb3.2 b bL).trans k1) hnf
            exact ⟨sl2, k2⟩
      obtain ⟨_, _, _, oe, vs, T, oT, ts', t1, t2, t3, t4, t5⟩ := id held3
      unfold PySem.passOn
      refine wpAny_bind (wpAny_field t1 t3 t4 ?_)
      rw [if_neg (show ¬ ((Value.ref T == Value.none) = true) from by simp)]
      have go : wpAny (model X.prog X.w) (X.A.mark (some (.ref a))) (setFlight (.ref a2) X.env.frame) (fun _ s4 => wpAny (model X.prog X.w) (X.A.mark (some (.ref a))) (throw (.ref a2) : Sem Flow) (fun _ _ => False)
          (notedBy (model X.prog X.w) (X.A.mark (some (.ref a))) X.env fun x s' => cameBackBy (model X.prog X.w) X.A X.env X.xe x s') s4)
          (notedBy (model X.prog X.w) (X.A.mark (some (.ref a))) X.env fun x s' => cameBackBy (model X.prog X.w) X.A X.env X.xe x s') { s9 with heap := h3, toks := s9.toks + 1 } := by
        rw [hf]
        refine HandSPX.setFlight_onZ held3 fun h4 held4 up4 => wpAny_throw ?_
        show wpAny _ _ (noteFrame (.ref a2) X.env) _ _ _
        refine HandSPX.againZ hf held4.2.2.2 ?_
        show wpAny _ _ _ _ _ _
        obtain ⟨_, _, _, oe4, vs4, T4, oT4, ts4, y1, y2, y3, y4, y5⟩ := id held4
        refine wpAny_bind (wpAny_field y1 y3 y4 ?_)
        rw [if_neg (show ¬ ((Value.ref T4 == Value.none) = true) from by simp)]
        have last : wpAny (model X.prog X.w) X.A (setFlight (.ref a2) X.env.frame) (fun _ s4 => X.xe (.ref a2) s4) X.xe { s9 with heap := h4, toks := s9.toks + 1 } := by
          rw [hf]
          exact HandSPX.setFlight_onZ held4 fun h5 held5 up5 => fin h5 held5 (up4.trans up5)
        first
          | exact wpAny_bind (wpAny_pure last)
          | exact last
      first
        | exact wpAny_bind (wpAny_pure (wpAny_bind go))
        | exact wpAny_bind go
    have out : ∀ {σ8 : L2.St} {H8 : Hp} {Q : Shared → Prop} {xe : Value → Shared → Prop}, L2.Inv (suX X a ((a, o6) :: (X.pn ++ pns)) xe) [] σ8 H8 s8 → (∀ s9, L2.Inv X pns (σ8.set i none) H8 s9 → Q s9) →
        wpAny (model X.prog X.w) X.A (do bindName X.env n .none; unbindBehindTheSuite X.env n pos') (fun _ s9 => Q s9) X.xe s8 := fun {σ8 H8 Q xe} J8 hq => gone_ok (Inv.unsuite (a := a) (q := (a, o6)) (Inv.unwish J8) iok) hN hi hn hq
    cases f with
    | next =>
      obtain ⟨σ8, H8, J8, q8⟩ := hsp
      exact out J8 fun s9 J9 => ⟨_, _, J9, q8⟩
    | brk =>
      obtain ⟨σ8, H8, J8, q8⟩ := hsp
      exact out J8 fun s9 J9 => ⟨_, _, J9, q8⟩
    | cont =>
      obtain ⟨σ8, H8, J8, q8⟩ := hsp
      exact out J8 fun s9 J9 => ⟨_, _, J9, q8⟩
    | ret u =>
      obtain ⟨v8, σ8, H8, J8, r8, q8⟩ := hsp
      exact out J8 fun s9 J9 => ⟨_, _, _, J9, r8, q8⟩
  · cases f with
    | next =>
      obtain ⟨σ', H', J', q⟩ := hsp
      exact wpAny_execs_nil ⟨σ', H', J'.ofTry iok, q⟩
    | brk =>
      obtain ⟨σ', H', J', q⟩ := hsp
      exact ⟨σ', H', J'.ofTry iok, q⟩
    | cont =>
      obtain ⟨σ', H', J', q⟩ := hsp
      exact ⟨σ', H', J'.ofTry iok, q⟩
    | ret u =>
      obtain ⟨v, σ', H', J', r, q⟩ := hsp
      exact ⟨v, σ', H', J'.ofTry iok, r, q⟩
end
end MM

namespace MM
open PySem L2 PyProof.Rows
/-! ### d[k] that may not be there; except KeyError as e: raise C(..) from e -/
/-- an exception of the built-in class T may leave, where Ξ -/
def TakesB (X : Cx) (E : En) (T : String) (Ξ : Gm → Ow → Prop) : Prop := ∃ W : WX, L2N.Takes X W ∧ ∀ Γ M, Ξ Γ M → ∀ σ G H d, At E Γ M σ G H → W (.type T) d σ H
section
variable {X : Cx} {W : WX} {E : En} {Γ : Gm} {M : Ow} {o i e : Expr} {es : List Expr} {td ty : TE} {pos p p2 pos' : Pos} {k nn : Nat} {Φ : Rep → Ow → Prop} {Ψ : Ed} {y n : Str} {C : Addr} {l : List Rep → List (Str × Rep)}
theorem pe_dgetN (hc : X.calm = true) (hu : X.A.units + 1 < cLine) (tk : L2N.Takes X W) (ho : PE X o td) (hi : PE X i ty) (hs : NoSl i) : PE X (.Subscript o i pos) (tDGetX W td ty) := by
  refine ⟨fun pns s σ H Q Iv h => ?_⟩
  refine subD_of PySem.F.slot_dict_getitem.lookup hs (thn (ho.run pns s σ H _ Iv h) fun u s1 ⟨x, H1, I1, r1, q1⟩ => thn (hi.run pns s1 σ H1 _ I1 q1) fun v s2 ⟨z, H2, I2, r2, a, ov, ex, g, qs, qn⟩ => ?_)
  subst ex
  have eu : u = Value.ref a := r1
  subst eu
  refine ⟨dict_typeIs I2 g, ?_⟩
  cases ov with
  | some v => exact d_getItem hu I2 g r2 fun w' s3 I3 rw' => ⟨v, H2, I3, rw', qs v rfl⟩
  | none => exact d_missing hu (I2.ok.hd hc) I2 g r2 fun h' e t' ne => L2N.takes_newN (t' := t') tk I2 ne (qn rfl)
theorem we_dgetB {Ξ : Gm → Ow → Prop} (hc : X.calm = true) (T : TakesB X E "KeyError" Ξ) (hr : Room k X.A)
    (h : WE X E Γ M o fun ρo M1 => WE X E Γ M1 i fun ρi M2 => ∃ p l u key, MM.Sub ρo (RRef p) ∧ Fnd M2 p (OD l) u ∧ KeyR ρi key ∧ (∀ ρ, valR l key = some ρ → Φ ρ M2) ∧ (valR l key = none → Ξ Γ M2)) (hs : NoSl i := by exact fun _ _ => rfl) : WE X E Γ M (.Subscript o i pos) Φ := by
  obtain ⟨W, tk, hw⟩ := T
  refine we_of (pe_dgetN hc (by have := hr.un; omega) tk pe_w pe_w hs) fun σ G H at_ Q q => ?_
  refine h σ G H at_ _ fun ρo M1 x G1 H1 h1 s1 a1 r1 => h1 σ G1 H1 a1 _ fun ρi M2 z G2 H2 ⟨p, l, u, key, sb, fd, kr, hv, hn⟩ s2 a2 r2 => ?_
  obtain ⟨ob, e1, kvs, e2, r⟩ := a2.own _ fd.mem
  subst e2
  have ey := kr _ _ r2
  subst ey
  refine ⟨p, valV kvs key, sb _ _ (ρo.mono _ _ _ s2 r1), DGet.k e1, fun v ev => ?_, fun ev d => ?_⟩
  · rcases r.look (k := key) with ⟨_, z2⟩ | ⟨ρ', v', z1, z2, z3⟩
    · rw [z2] at ev
      cases ev
    · rw [z2] at ev
      cases ev
      exact q _ _ _ _ _ (hv ρ' z1) (s1.trans s2) a2 z3
  · rcases r.look (k := key) with ⟨z1, _⟩ | ⟨ρ', v', z1, z2, z3⟩
    · exact hw _ _ (hn z1) σ G2 H2 d a2
    · rw [z2] at ev
      cases ev
/-- the name y holds an exception's class, called while another one is handled -/
def KnXH (P : Program) (w : World) (K : PySem.W.Frag) (mg : Str → Option Value) (base : Heap) (k : Nat) (x : Str) (C : Addr) (n : Nat) (l : List Rep → List (Str × Rep)) : Prop :=
  mg x = some (.ref C) ∧ OxOk K C ∧ n ≤ 100 ∧ ∃ (f : Addr) (fd : FuncData) (ps : List Str), PySem.W.findIn K (.ref C) "__init__" = some (some (.ref f)) ∧ PySem.W.isFn K (.ref f) = true ∧ Binds K fd ps [] ∧ L2H.FnH P w K mg base CX0 k f fd ps (conSp (conXI C n l))
theorem ws_raiseF {Ξ : Addr → List (Str × Rep) → Gm → Ow → Prop} {i : Nat} {a1 : Addr} (F : KnXH X.prog X.w X.K X.mg X.base k y C nn l) (hot : HotK X a1) (T : TakesX X E Ξ) (hr : L2H.RoomH (k + 1) X.A) (hg : Gl X y) (rd : Rd1 X i n) (hn : X.env.kindOf n = some .local) (hΓ : Γ[i]? = some (some (RRef a1)))
    (h : WA X E Γ M (e :: es) fun ρs M' => ρs.length = nn ∧ Ξ C (l ρs) Γ M')
    (hdb : (y == ("__debug__" : Str)) = false := by decide)
    (he : starEach (e :: es) X.env = (false, eval e X.env) :: starEach es X.env := by rfl)
    (hpl : (backTo pos (starEach es X.env)).any (·.1) = false := by rfl) :
    WS X E Γ M (.Raise (some (.Call (.Name y p) (e :: es) [] pos)) (some (.Name n p2)) pos') Ψ := by
  obtain ⟨hm, ok, hnn, f, fd, ps, iC, tI, hb, F⟩ := F
  obtain ⟨W, tk, hw⟩ := T
  refine ws_of (ps_raiseF hot tk (pmk_xexH ok iC tI F hr hot.hot hb hg hm pa_w hdb he hpl) rd.at_ hn rd.vis rd.hd) fun σ G H a D kk => ?_
  obtain ⟨vv, v1, v2⟩ := a.env i _ hΓ
  have v2 : vv = V.ref a1 := v2
  subst v2
  refine ⟨v1, h σ G H a _ fun ρs M' vs G1 H1 ⟨hl, hk⟩ s1 at1 r1 => ⟨by rw [← r1.length, hl]; omega, fun q nq => ?_⟩⟩
  refine ⟨G1, (q, ⟨ρs, hl⟩), at1.gh.trans (same_upd nq), trivial, ⟨rfl, by rw [List.append_nil]; exact r1⟩, fun z hz => ?_, fun z hz => ?_, by show ([(q, OX q C none)].map (·.1)).Nodup; simp, fun d v G2 H2 _ t rv => ⟨rv, ?_⟩⟩
  · have hz : z = (q, OX q C none) := by simpa [conXI] using hz
    subst hz
    exact ⟨_, upd_same, rfl⟩
  · have hz : z = (q, OX q C none) := by simpa [conXI] using hz
    subst hz
    exact at1.freshG nq
  · have td := t.own (d, OXD d (l ρs)) (by simp [conXI])
    have tq := t.own (q, OX q C (some d)) (by simp [conXI])
    have nG := t.gn (d, OXD d (l ρs)) (by simp [conXI])
    have nQ := t.gn (q, OX q C (some d)) (by simp [conXI])
    obtain ⟨od, ed, fs, e2, rf⟩ := td
    subst e2
    obtain ⟨oq, eq, e3⟩ := tq
    have e3 : oq = exo q C (some d) := e3
    subst e3
    have hdq : d ≠ q := fun z => by
      subst z
      rw [eq] at ed
      have n : [d, d].Nodup := t.nd
      simp at n
    have hd1 : H1 d = none := by
      rcases t.loc (d, OXD d (l ρs)) (by simp [conXI]) with z | z
      · exact absurd (List.mem_singleton.mp z) hdq
      · rw [upd_ne hdq] at z; exact z
    refine ⟨d, fs, eq, ed, hd1, ?_⟩
    have sg : Same G2 (upd G2 d (.xd fs)) := same_upd nG
    refine hw C (l ρs) Γ M' hk σ (upd G2 d (.xd fs)) _ d fs (at1.new (G' := upd G2 d (.xd fs)) ⟨t.gg.trans sg, fun b o z => ?_, fun b o z => ?_, fun b h1 h2 => ?_⟩) upd_same (rf.mono sg)
    · by_cases hb : b = d
      · subst hb; rw [upd_same] at z ⊢; exact z
      · rw [upd_ne hb] at z ⊢
        have hq : b ≠ q := fun y => by subst y; rw [nQ] at z; cases z
        rw [del_ne hq]; exact t.gh b o z
    · have hq : b ≠ q := ne_of_none z nq
      rw [upd_ne (ne_of_none z hd1), del_ne hq]
      exact t.keep b o (by simpa [conXI] using hq) (by rw [upd_ne hq]; exact z)
    · have hb : b ≠ d := fun y => by subst y; exact h1 hd1
      rw [upd_ne hb] at h2
      exact t.nw b (by
        by_cases hq : b = q
        · subst hq; exact absurd nq h1
        · rw [upd_ne hq]; exact h1) h2
end
section
variable {X : Cx} {E : En} {Γ : Gm} {M : Ow} {x n : Str} {T : String} {c : Value} {body suite : List Stmt} {b₀ : Stmt} {np pos pos' : Pos} {Ψ : Ed}
theorem ws_tryF (i : Nat) {Ξ : Gm → Ow → Prop} {Ξo : Addr → List (Str × Rep) → Gm → Ow → Prop} (hs : X.stack = X.env :: X.outer) (hf : X.env.frame = some X.env.locals) (hN : X.N.Nodup) (hi : X.N[i]? = some n) (hn : X.env.kindOf n = some .local) (hc : Names X x c)
    (hex : PySem.W.exmOne X.K (.type T) c = some true) (hT : isSubtype (.type T) (.type "BaseException") = pure true) (To : TakesX X E Ξo)
    (hb : ∀ (G H : Hp) (pn : List (Addr × Obj)) (xe : Value → Shared → Prop), (∀ a ∈ M.map (·.1), H a ≠ none) → PassesOwn (model X.prog X.w) X.A X.env xe → TakesB (X.tr pn xe) ⟨G, H, M.map (·.1)⟩ T Ξ → WSs (X.tr pn xe) ⟨G, H, M.map (·.1)⟩ Γ M body Ψ)
    (hsu : ∀ Γ' M', Ξ Γ' M' → ∀ a pn xe, HotK (suX X a pn xe) a → TakesX (suX X a pn xe) E (fun C l Γ2 M2 => Ξo C l (Γ2.set i none) M2) → WSs (suX X a pn xe) E (Γ'.set i (some (RRef a))) M' (b₀ :: suite)
      { nx := fun Γ2 M2 => Ψ.nx (Γ2.set i none) M2, rt := Ψ.rt, bk := fun Γ2 M2 => Ψ.bk (Γ2.set i none) M2, ct := fun Γ2 M2 => Ψ.ct (Γ2.set i none) M2 }) :
    WS X E Γ M (.Try body [.ExceptHandler (some (.Name x np)) (some n) (b₀ :: suite) pos'] [] [] pos) Ψ := by
  obtain ⟨Wo, tko, hwo⟩ := To
  refine ws_of (ps_tryF (i := i) (Wout := Wo) (tb := fun W D σ H => ∀ pn xe, L2N.Takes (X.tr pn xe) W → PassesOwn (model X.prog X.w) X.A X.env xe → tWSs (X.tr pn xe) body D σ H)
    (ts := fun a cls d D σ H => ∀ oe pn xe, L2N.Zn cls d oe → (∃ vs, oe.data = .fields vs) → Takes (suX X a ((a, oe) :: pn) xe) (fun cls d σ H => Wo cls d (σ.set i none) H) → tWSs (suX X a ((a, oe) :: pn) xe) (b₀ :: suite) D σ H)
    hs hf hN hi hn hc tko (fun W pn xe tk po => ⟨fun pins s σ H D I h => pss_w.run pins s σ H D I (h pn xe tk po)⟩) (fun a oe cls d pn xe z f tk => ⟨fun pins s σ H D I h => pss_w.run pins s σ H D I (h oe pn xe z f tk)⟩)) fun σ G H a D k pn xe tk po => ?_
  refine hb G H pn xe a.there0 po ⟨_, tk, fun Γ1 M1 hx σ1 G1 H1 d at1 => ⟨hex, fun q nq oe pn2 xe2 z f tk2 => ?_⟩⟩ σ G H a.rebase D
    ⟨fun Γ2 M2 h σ2 G2 H2 s2 a2 => k.nx Γ2 M2 h σ2 G2 H2 s2 (a.comp a2), fun ρ M2 h v G2 H2 s2 a2 r => k.rt ρ M2 h v G2 H2 s2 (a.env0.comp a2) r, fun Γ2 M2 h σ2 G2 H2 s2 a2 => k.bk Γ2 M2 h σ2 G2 H2 s2 (a.comp a2), fun Γ2 M2 h σ2 G2 H2 s2 a2 => k.ct Γ2 M2 h σ2 G2 H2 s2 (a.comp a2)⟩
  obtain ⟨vs, hd⟩ := f
  have hot : HotK (suX X q ((q, oe) :: pn2) xe2) q := ⟨oe, ⟨rfl, vs, hd, z.2.2 vs hd⟩, List.mem_cons_self, fun h _ => by rw [z.1]; exact PySem.W.Looks.of_pure hT⟩
  have sg : Same G G1 := at1.g0
  refine hsu Γ1 M1 hx q _ xe2 hot ⟨_, tk2, fun C l Γ2 M2 x2 σ2 G2 H2 d2 fs at2 gd rf => hwo C l _ M2 x2 _ G2 H2 d2 fs (at2.unset i) gd rf⟩ _ G1 H1 ((a.comp at1).set (i := i) (ρ := RRef q) (v := .ref q) rfl) _
    ⟨fun Γ2 M2 h σ2 G2 H2 s2 a3 => k.nx _ M2 h _ G2 H2 (sg.trans s2) (a3.unset i), fun ρ M2 h v G2 H2 s2 a3 r => k.rt ρ M2 h v G2 H2 (sg.trans s2) a3 r,
      fun Γ2 M2 h σ2 G2 H2 s2 a3 => k.bk _ M2 h _ G2 H2 (sg.trans s2) (a3.unset i), fun Γ2 M2 h σ2 G2 H2 s2 a3 => k.ct _ M2 h _ G2 H2 (sg.trans s2) (a3.unset i)⟩
end
end MM

namespace MM
open PySem L2 PyProof.Rows
/-! ### o.m(e, ..) that may raise -/
def KnMX (P : Program) (w : World) (K : PySem.W.Frag) (mg : Str → Option Value) (base : Heap) (k : Nat) (C : Addr) (m : Str) (c : ConX) : Prop :=
  ∃ (f : Addr) (fd : FuncData) (ps : List Str), Meth K C m f ∧ Cls K C ∧ Binds K fd ps [] ∧ FnOk P w K mg base (L2.CX P w) k f fd ps (conSpX c)
section
variable {X : Cx} {E : En} {Γ : Gm} {M : Ow} {e o : Expr} {es : List Expr} {pos apos : Pos} {k : Nat} {C : Addr} {m : Str} {Φ : Rep → Ow → Prop} {Ξ : Addr → List (Str × Rep) → Gm → Ow → Prop} {c : ConX} {pl : Sem Bool}
theorem we_methX (F : KnMX X.prog X.w X.K X.mg X.base k C m c) (T : TakesX X E Ξ) (hr : Room k X.A)
    (h : WE X E Γ M o fun ρ M1 => HasI ρ C m ∧ WA X E Γ M1 (e :: es) fun ρs M' => CallX c (ρ :: ρs) Γ M' Φ Ξ)
    (hst : starEach (e :: es) X.env = (false, eval e X.env) :: starEach es X.env := by rfl) (hpl : (backTo pos (starEach es X.env)).any (·.1) = false := by rfl)
    (ht : eval (.Call (.Attribute o m apos) (e :: es) [] pos) X.env = (do
      let ov ← eval o X.env
      standAt apos.atName
      let (f, first) ← holding [ov] (getMethod ov m pl)
      callWith pos f first (backTo pos (starEach (e :: es) X.env)) (backToKw pos (keywordEach [] X.env))) := by rfl) :
    WE X E Γ M (.Call (.Attribute o m apos) (e :: es) [] pos) Φ := by
  obtain ⟨f, fd, ps, hm, hc, hb, F⟩ := F
  obtain ⟨W, tk, hw⟩ := T
  refine we_of (t := fun σ H Q => tW X o σ H fun x H1 => ∃ a dx fs, x = .ref a ∧ H1 a = some (.ins C dx fs) ∧ fs.lookup m = none ∧ tWA X (e :: es) σ H1 fun vs H2 => conSpX c (x :: vs) H2 Q (fun cls d H' => W cls d σ H')) ⟨fun pins s σ H Q I h => ?_⟩ fun σ G H a Q q => ?_
  · refine PySem.W.methodCall_KW (pl := pl) (thn (pe_w.run pins s σ H _ I h) fun u s1 ⟨x, H1, I1, rx, b, dx, fs, ex, eb, lk, q1⟩ => ?_) ht
    subst ex
    cases rx
    refine getmeth_ok I1 eb hc hm lk ?_
    refine PySem.W.callWith_K (first := [.ref b]) (h₀ := X.base) I.ok.mod.kin hm.kp (thn (pa_w.run pos pins s1 σ H1 _ I1 q1) fun us s2 ⟨vs, H2, I2, r, q2⟩ => ⟨I2.kIn, ?_⟩) hst hpl
    have rr : Vals (V.ref b :: vs) (Value.ref b :: us) := .cons rfl r
    have ln : (Value.ref b :: us ++ []).length = ps.length := by
      rw [List.append_nil, ← rr.length]
      exact F.len _ _ _ _ q2
    have bd := hb s2 (Value.ref b :: us) I2.kIn ln
    rw [List.append_nil] at bd
    exact wpAny_call (codeAny_mono (run_fnX (pins := pins) F tk hr I2 bd rr q2) fun res s' hq => by
      cases res with
      | error er => exact hq
      | ok fl => cases fl <;> exact hq)
  · refine h σ G H a _ fun ρ M1 v G1 H1 ⟨hi, h1⟩ s1 a1 r1 => ?_
    obtain ⟨b, dx, fs, e1, e2, e3⟩ := hi v G1 r1
    refine ⟨b, dx, fs, e1, a1.gh _ _ e2, e3, h1 σ G1 H1 a1 _ fun ρs M' vs G2 H2 hh s2 a2 r2 => ?_⟩
    exact callX_run hw hh a2 ⟨ρ.mono _ _ _ s2 r1, r2⟩ fun ρ' M3 w G3 H3 h3 s3 => q ρ' M3 w G3 H3 h3 ((s1.trans s2).trans s3)
end
/-! ### a text so many times -/
def repS (z : Str) (i : Int) : Str := if i < 1 then Str.empty else if (i == 1 || z.length == 0) = true then z else ⟨(List.replicate i.toNat z.cps).foldl (· ++ ·) #[]⟩
def rRepS : R2 := fun x y H Q => ∃ z i, x = .str z ∧ y = .int i ∧ 0 ≤ i ∧ i ≤ 1000 ∧ z.length ≤ 100 ∧ Q (.str (repS z i)) H
theorem op_repS {X : Cx} : OpR X (binaryOp .Mult) rRepS := by
  intro pns s σ H x y v u Q Iv rx ry ⟨z, i, ex, ey, i0, i1, hz, q⟩
  subst ex ey
  obtain ⟨t, rfl⟩ := rx
  obtain ⟨t', rfl⟩ := ry
  refine PySem.P.mul_str ?_ (fun h _ => ?_) (fun h _ => ?_) ?_
  · rw [decide_eq_false (show ¬ i < -(2 ^ 63 : Int) by omega), decide_eq_false (show ¬ i ≥ (2 ^ 63 : Int) by omega)]
    rfl
  · have : (100 : Int) ≤ (2 ^ 63 - 1) / i := Int.le_ediv_of_mul_le (by omega) (by omega)
    omega
  · have : z.length * i.toNat ≤ 100 * 1000 := Nat.mul_le_mul hz (by omega)
    have small : 100 * 1000 ≤ sizeLine := by decide
    show decide (z.length * i.toNat > sizeLine) = false
    rw [decide_eq_false_iff_not]
    omega
  · unfold repS at q
    split
    · rename_i h
      rw [if_pos h] at q
      exact ⟨by decide, .str _, H, Iv.tok _, ⟨_, rfl⟩, q⟩
    · rename_i h
      rw [if_neg h] at q
      split
      · rename_i h2
        rw [if_pos h2] at q
        exact ⟨.str _, H, Iv, ⟨_, rfl⟩, q⟩
      · rename_i h2
        rw [if_neg h2] at q
        refine ⟨?_, .str _, H, Iv.tok _, ⟨_, rfl⟩, q⟩
        show (List.foldl (fun x1 x2 => x1 ++ x2) #[] (List.replicate i.toNat z.cps)).size ≤ sizeLine
        have len : ∀ (n : Nat) (acc : Array Nat), (List.foldl (fun x1 x2 => x1 ++ x2) acc (List.replicate n z.cps)).size = acc.size + n * z.cps.size := by
          intro n
          induction n with
          | zero => intro acc; simp
          | succ n ih =>
            intro acc
            rw [List.replicate_succ, List.foldl_cons, ih, Array.size_append, Nat.succ_mul]
            omega
        rw [len]
        have m1 : i.toNat * z.cps.size ≤ 1000 * 100 := Nat.mul_le_mul (by omega) hz
        have small : 1000 * 100 ≤ sizeLine := by decide
        show 0 + _ ≤ _
        omega
theorem opv_repS {i : Int} {z : Str} (h0 : 0 ≤ i) (h1 : i ≤ 1000) (hz : z.length ≤ 100) : OpV rRepS (RS z) (RI i) (RS (repS z i)) := fun x y G H s hx hy Q q => by
  have hx : x = .str z := hx
  have hy : y = .int i := hy
  subst hx hy
  exact ⟨z, i, rfl, rfl, h0, h1, hz, q _ G H (New.refl s) rfl⟩
/-! ### a list with two alike -/
theorem dn_lt {xs : List Str} (h : ¬ xs.Nodup) : dn xs xs.length < xs.length := by
  have key : ∀ i, i ≤ xs.length → dn xs i = i → (xs.take i).Nodup := by
    intro i
    induction i with
    | zero =>
      intro _ _
      rw [List.take_zero]
      exact List.nodup_nil
    | succ i ih =>
      intro hi e
      have le := dn_le xs i
      unfold dn at e
      split at e
      · omega
      · rename_i no
        have hi' : i < xs.length := by omega
        have e1 : xs.getD i Str.empty = xs[i] := by rw [List.getD_eq_getElem?_getD, List.getElem?_eq_getElem hi', Option.getD_some]
        rw [List.take_add_one, List.getElem?_eq_getElem hi', Option.toList_some, List.nodup_append]
        refine ⟨ih (by omega) (by omega), by simp, fun a ha b hb z => no ?_⟩
        rw [List.mem_singleton] at hb
        subst hb
        subst z
        rw [e1, List.any_eq_true]
        exact ⟨_, ha, beq_self_eq_true _⟩
  have le := dn_le xs xs.length
  rcases Nat.lt_or_ge (dn xs xs.length) xs.length with k | k
  · exact k
  · have := key xs.length (Nat.le_refl _) (by omega)
    rw [List.take_length] at this
    exact absurd this h
end MM

namespace MM
open PySem L2 PyProof.Rows
/-! ### a class whose __init__ may raise -/
section
variable {X : Cx} {E : En} {Γ : Gm} {M : Ow} {e : Expr} {es : List Expr} {kws : List Keyword} {ks : List Str} {pos p : Pos} {k n : Nat} {x : Str} {Φ : Rep → Ow → Prop} {Ξ : Addr → List (Str × Rep) → Gm → Ow → Prop} {c : ConX} {dvs : List V} {gV : List V → List V → List V} {gR : List Rep → List Rep → List Rep} {C f : Addr} {fd : FuncData} {ps : List Str}
theorem run_mkX {pins : List (Addr × Obj)} {σ : L2.St} {H : Hp} {s : Shared} {Q : VK} {W : WX} {sp : Sp} {us all : List Value} {kw : List (Str × Value)} {vals : List V} (Mm : Mk X.K C f) (F : FnOk X.prog X.w X.K X.mg X.base (L2.CX X.prog X.w) k f fd ps sp) (tk : Takes X W) (hr : Room (k + 1) X.A) (I : L2.Inv X pins σ H s)
    (hb : ∀ s' : Shared, X.K.In s'.heap → BindsTo s' fd ⟨Value.ref (s.heap.objs.size + 1) :: us, kw⟩ (ps.zip all)) (r : Vals vals all)
    (h : sp vals (upd (upd H s.heap.objs.size (.own (s.heap.objs.size + 1))) (s.heap.objs.size + 1) (.ins C s.heap.objs.size [])) (fun v H2 => v = .non ∧ Q (.ref (s.heap.objs.size + 1)) H2) (fun cls d H' => W cls d σ H')) :
    wpAny (model X.prog X.w) X.A (call (.ref C) us kw) (EP X pins σ Q) X.xe s := by
  have I2 := L2.Inv.made (C := C) I
  refine wpAny_call (make_map (f := f) I.kIn Mm.makes Mm.init (beq_iff_eq.mp Mm.fn) (codeAny_mono (F.run _ X.stack _ _ ⟨Value.ref (s.heap.objs.size + 1) :: us, kw⟩ all vals _ _ (hr.make C us kw) (I2.env0.make C us kw) (hb _ I2.kIn) r h) fun res s' hq => ?_))
  cases res with
  | error er => exact tk er s' (XE.of_call I2 (fun _ _ _ z => z) hq)
  | ok fl =>
    cases fl with
    | ret u =>
      obtain ⟨v, H', I3, rv, ev, q3⟩ := I2.after hq
      subst ev
      exact ⟨rv, V.ref (s.heap.objs.size + 1), H', I3, rfl, q3⟩
    | next => exact hq.elim
    | brk => exact hq.elim
    | cont => exact hq.elim
def MakeX (E : En) (C : Addr) (c : ConX) (ρs : Addr → List Rep) (Γ : Gm) (M : Ow) (Φ : Rep → Ow → Prop) (Ξ : Addr → List (Str × Rep) → Gm → Ow → Prop) : Prop :=
  ∀ p, p ∉ M.map (·.1) → p ∉ E.M → CallX c (ρs p) Γ ((p, OIns C []) :: M) (fun ρ M' => Sub ρ RN ∧ ∃ l M2, Rm M' p (OIns C l) M2 ∧ Φ (RIns C l) M2) Ξ
theorem makeX_run {σ : L2.St} {G H : Hp} {ρs : Addr → List Rep} {vs : Addr → List V} {Q : VK} {W : WX} (hw : ∀ C l Γ M, Ξ C l Γ M → ∀ σ G H d fs, At E Γ M σ G H → G d = some (.xd fs) → FRep l fs G → W (.ref C) (some d) σ H) (hE : ∀ a ∈ E.M, E.H a ≠ none) (h : MakeX E C c ρs Γ M Φ Ξ) (a : At E Γ M σ G H) (r : ∀ p, Reps (ρs p) (vs p) G)
    (q : ∀ ρ M' v G' H', Φ ρ M' → Same G G' → At E Γ M' σ G' H' → ρ.p v G' → Q v H') (x dx : Addr) (nx : H x = none) (nd : H dx = none) (ne : dx ≠ x) : conSpX c (vs x) (upd (upd H dx (.own x)) x (.ins C dx [])) (fun v H2 => v = .non ∧ Q (.ref x) H2) (fun cls d H' => W cls d σ H') := by
  have a1 := a.new (New.side (o := .own x) a.gh nd)
  have nx1 : upd H dx (.own x) x = none := by rw [upd_ne (Ne.symm ne)]; exact nx
  have hpE : x ∉ E.M := fun z => hE x z (a.fresh nx)
  have a2 := a1.own1 (r := OIns C []) nx1 ⟨dx, [], rfl, trivial⟩
  refine callX_run hw (h x (a.freshM nx) hpE) a2 (r x) fun ρ M' v G' H' ⟨sb, l, M2, rm, hΦ⟩ s' a' r' => ⟨sb _ _ r', ?_⟩
  obtain ⟨o, e1, ⟨dx', fs, e2, rf⟩, sg, a3⟩ := a'.freeze rm hpE
  subst e2
  exact q _ _ _ _ _ hΦ (s'.trans sg) a3 ⟨x, dx', fs, rfl, upd_same, rf.mono sg⟩
def KnCR (P : Program) (w : World) (K : PySem.W.Frag) (mg : Str → Option Value) (base : Heap) (k : Nat) (x : Str) (C : Addr) (dvs : List V) (c : ConX) : Prop :=
  ∃ (f : Addr) (fd : FuncData) (ps : List Str) (ds : List Value), mg x = some (.ref C) ∧ Mk K C f ∧ Binds K fd ps ds ∧ Vals dvs ds ∧ FnOk P w K mg base (L2.CX P w) k f fd ps (conSpX c)
def KnCRK (P : Program) (w : World) (K : PySem.W.Frag) (mg : Str → Option Value) (base : Heap) (k : Nat) (x : Str) (C : Addr) (n : Nat) (ks : List Str) (gV : List V → List V → List V) (c : ConX) : Prop :=
  ∃ (f : Addr) (fd : FuncData) (ps : List Str) (g : List Value → List Value → List Value), mg x = some (.ref C) ∧ Mk K C f ∧ KBn K fd ps (n + 1) ks g gV ∧ FnOk P w K mg base (L2.CX P w) k f fd ps (conSpX c)
theorem made_ne (s : Shared) : s.heap.objs.size ≠ s.heap.objs.size + 1 := Nat.ne_of_lt (Nat.lt_succ_self _)
theorem we_makeX (F : KnCR X.prog X.w X.K X.mg X.base k x C dvs c) (T : TakesX X E Ξ) (hr : Room (k + 1) X.A) (hg : Gl X x) (hE : ∀ a ∈ E.M, E.H a ≠ none)
    (h : WA X E Γ M (e :: es) fun ρs M' => MakeX E C c (fun p => RRef p :: (ρs ++ dvs.map RV)) Γ M' Φ Ξ)
    (hdb : (x == ("__debug__" : Str)) = false := by decide) (he : starEach (e :: es) X.env = (false, eval e X.env) :: starEach es X.env := by rfl)
    (hpl : (backTo pos (starEach es X.env)).any (·.1) = false := by rfl) : WE X E Γ M (.Call (.Name x p) (e :: es) [] pos) Φ := by
  obtain ⟨f, fd, ps, ds, hm, Mm, hb, hd, F⟩ := F
  obtain ⟨W, tk, hw⟩ := T
  refine we_of (t := fun σ H Q => tWA X (e :: es) σ H fun vs H1 => ∀ x dx, H1 x = none → H1 dx = none → dx ≠ x → conSpX c (.ref x :: (vs ++ dvs)) (upd (upd H1 dx (.own x)) x (.ins C dx [])) (fun v H2 => v = .non ∧ Q (.ref x) H2) (fun cls d H' => W cls d σ H')) ⟨fun pins s σ H Q I h => ?_⟩ fun σ G H a Q q => ?_
  · refine wpAny_Call_Name_kw (ld_glob I hg hm ?_ hdb)
    refine PySem.W.callWith_K (h₀ := X.base) I.ok.mod.kin Mm.kp (thn (pa_w.run pos pins s σ H _ I h) fun us s1 ⟨vs, H1, I1, r, q⟩ => ⟨I1.kIn, ?_⟩) he hpl
    have hq := q (s1.heap.objs.size + 1) s1.heap.objs.size (I1.hok.fresh (Nat.le_succ _)) (I1.hok.fresh (Nat.le_refl _)) (made_ne s1)
    have rr : Vals (V.ref (s1.heap.objs.size + 1) :: (vs ++ dvs)) (Value.ref (s1.heap.objs.size + 1) :: (us ++ ds)) := .cons rfl (Vals.append r hd)
    have ln : (Value.ref (s1.heap.objs.size + 1) :: us ++ ds).length = ps.length := by
      have e := rr.length
      rw [F.len _ _ _ _ hq] at e
      exact e.symm
    exact run_mkX (all := Value.ref (s1.heap.objs.size + 1) :: (us ++ ds)) Mm F tk hr I1 (fun s' ki => hb s' (Value.ref (s1.heap.objs.size + 1) :: us) ki ln) rr hq
  · exact h σ G H a _ fun ρs M1 vs G1 H1 hh s1 a1 r1 => makeX_run (vs := fun p => .ref p :: (vs ++ dvs)) hw hE hh a1 (fun p => ⟨rfl, r1.app (reps_RV dvs)⟩) fun ρ M2 v G2 H2 h2 s2 => q ρ M2 v G2 H2 h2 (s1.trans s2)
theorem we_makeXN (F : KnCRK X.prog X.w X.K X.mg X.base k x C n ks gV c) (gr : GvR gV gR (n + 1) ks.length) (T : TakesX X E Ξ) (hr : Room (k + 1) X.A) (hg : Gl X x) (hE : ∀ a ∈ E.M, E.H a ≠ none)
    (h : WA X E Γ M (e :: es) fun ρs M1 => ρs.length = n ∧ WK X E Γ M1 kws fun ρz M2 => ρz.length = ks.length ∧ MakeX E C c (fun p => gR (RRef p :: ρs) ρz) Γ M2 Φ Ξ)
    (hall : (backToKw pos (keywordEach kws X.env)).all (·.1.isSome) = true := by rfl) (hks : (backToKw pos (keywordEach kws X.env)).filterMap (·.1) = ks := by rfl)
    (hdb : (x == ("__debug__" : Str)) = false := by decide)
    (he : starEach (e :: es) X.env = (false, eval e X.env) :: starEach es X.env := by rfl) (hplain : ((backTo pos (starEach (e :: es) X.env)).any (·.1) || (backToKw pos (keywordEach kws X.env)).any (·.1.isNone)) = false := by rfl) :
    WE X E Γ M (.Call (.Name x p) (e :: es) kws pos) Φ := by
  obtain ⟨f, fd, ps, g, hm, Mm, hb, F⟩ := F
  obtain ⟨W, tk, hw⟩ := T
  refine we_of (t := fun σ H Q => tWA X (e :: es) σ H fun vs H1 => tWK X kws σ H1 fun zs H2 => vs.length = n ∧ zs.length = ks.length ∧ ∀ x dx, H2 x = none → H2 dx = none → dx ≠ x → conSpX c (gV (.ref x :: vs) zs) (upd (upd H2 dx (.own x)) x (.ins C dx [])) (fun v H3 => v = .non ∧ Q (.ref x) H3) (fun cls d H' => W cls d σ H')) ⟨fun pins s σ H Q I h => ?_⟩ fun σ G H a Q q => ?_
  · refine wpAny_Call_Name_kw (ld_glob I hg hm ?_ hdb)
    refine PySem.W.callWith_KW (h₀ := X.base) I.ok.mod.kin Mm.kp hall (thn (pa_w.run pos pins s σ H _ I h) fun us s1 ⟨vs, H1, I1, r, q⟩ => ?_) hplain he
    refine thn (pk_w.run pos pins s1 σ H1 _ I1 q) fun ws s2 ⟨zs, H2, I2, rz, l1, l2, q2⟩ => ⟨I2.kIn, ?_⟩
    rw [hks]
    have hq := q2 (s2.heap.objs.size + 1) s2.heap.objs.size (I2.hok.fresh (Nat.le_succ _)) (I2.hok.fresh (Nat.le_refl _)) (made_ne s2)
    have r1 : Vals (V.ref (s2.heap.objs.size + 1) :: vs) (Value.ref (s2.heap.objs.size + 1) :: us) := .cons rfl r
    exact run_mkX (all := g (Value.ref (s2.heap.objs.size + 1) :: us) ws) Mm F tk hr I2 (fun s' ki => hb.to s' (Value.ref (s2.heap.objs.size + 1) :: us) ws ki (r1.length.symm.trans (congrArg Nat.succ l1)) (rz.length.symm.trans l2)) (hb.rel r1 rz) hq
  · exact h σ G H a _ fun ρs M1 vs G1 H1 ⟨l1, h1⟩ s1 a1 r1 => h1 σ G1 H1 a1 _ fun ρz M2 zs G2 H2 ⟨l2, hh⟩ s2 a2 r2 =>
      ⟨by rw [← r1.length]; exact l1, by rw [← r2.length]; exact l2, makeX_run (vs := fun p => gV (.ref p :: vs) zs) hw hE hh a2 (fun p => gr.run (ρs := RRef p :: ρs) (by simp [l1]) l2 ⟨rfl, r1.mono s2⟩ r2) fun ρ M3 v G3 H3 h3 s3 => q ρ M3 v G3 H3 h3 ((s1.trans s2).trans s3)⟩
theorem we_makeXN0 (F : KnCRK X.prog X.w X.K X.mg X.base k x C 0 ks gV c) (gr : GvR gV gR 1 ks.length) (T : TakesX X E Ξ) (hr : Room (k + 1) X.A) (hg : Gl X x) (hE : ∀ a ∈ E.M, E.H a ≠ none)
    (h : WK X E Γ M kws fun ρz M2 => ρz.length = ks.length ∧ MakeX E C c (fun p => gR [RRef p] ρz) Γ M2 Φ Ξ)
    (hall : (backToKw pos (keywordEach kws X.env)).all (·.1.isSome) = true := by rfl) (hks : (backToKw pos (keywordEach kws X.env)).filterMap (·.1) = ks := by rfl)
    (hdb : (x == ("__debug__" : Str)) = false := by decide) (hplain : ((backTo pos (starEach [] X.env)).any (·.1) || (backToKw pos (keywordEach kws X.env)).any (·.1.isNone)) = false := by rfl) :
    WE X E Γ M (.Call (.Name x p) [] kws pos) Φ := by
  obtain ⟨f, fd, ps, g, hm, Mm, hb, F⟩ := F
  obtain ⟨W, tk, hw⟩ := T
  refine we_of (t := fun σ H Q => tWK X kws σ H fun zs H2 => zs.length = ks.length ∧ ∀ x dx, H2 x = none → H2 dx = none → dx ≠ x → conSpX c (gV [.ref x] zs) (upd (upd H2 dx (.own x)) x (.ins C dx [])) (fun v H3 => v = .non ∧ Q (.ref x) H3) (fun cls d H' => W cls d σ H')) ⟨fun pins s σ H Q I h => ?_⟩ fun σ G H a Q q => ?_
  · refine wpAny_Call_Name_kw (ld_glob I hg hm ?_ hdb)
    refine PySem.W.callWith_KW0 (h₀ := X.base) I.ok.mod.kin Mm.kp hall ?_ hplain
    refine thn (pk_w.run pos pins s σ H _ I h) fun ws s2 ⟨zs, H2, I2, rz, l2, q2⟩ => ⟨I2.kIn, ?_⟩
    rw [hks]
    have hq := q2 (s2.heap.objs.size + 1) s2.heap.objs.size (I2.hok.fresh (Nat.le_succ _)) (I2.hok.fresh (Nat.le_refl _)) (made_ne s2)
    have r1 : Vals [V.ref (s2.heap.objs.size + 1)] [Value.ref (s2.heap.objs.size + 1)] := .cons rfl .nil
    exact run_mkX (us := []) (all := g [Value.ref (s2.heap.objs.size + 1)] ws) Mm F tk hr I2 (fun s' ki => hb.to s' [Value.ref (s2.heap.objs.size + 1)] ws ki rfl (rz.length.symm.trans l2)) (hb.rel r1 rz) hq
  · exact h σ G H a _ fun ρz M2 zs G2 H2 ⟨l2, hh⟩ s2 a2 r2 =>
      ⟨by rw [← r2.length]; exact l2, makeX_run (vs := fun p => gV [.ref p] zs) hw hE hh a2 (fun p => gr.run (ρs := [RRef p]) rfl l2 ⟨rfl, trivial⟩ r2) fun ρ M3 v G3 H3 h3 s3 => q ρ M3 v G3 H3 h3 (s2.trans s3)⟩
end
end MM

namespace MM
open PySem L2 PyProof.Rows
section
variable {X : Cx} {E : En} {Γ : Gm} {M : Ow} {K : PySem.W.Frag} {Φ : Rep → Ow → Prop} {ρs : List Rep}
/-- list(a list), owned -/
theorem caw_listL (hE : ∀ a ∈ E.M, E.H a ≠ none) (k : ∀ l, l ∉ M.map (·.1) → l ∉ E.M → Φ (RRef l) ((l, OL ρs) :: M)) : CaW E Γ M (fun xs H Q => ∃ p ys, xs = [.ref p] ∧ (SqL K H p ys ∨ SqT K H p ys) ∧ ∀ l, H l = none → Q (.ref l) (upd H l (.lst ys))) [RLt ρs] Φ := fun σ G H a vs hv Q q => by
  match vs, hv with
  | [v], ⟨⟨t, ws, e, h, rr⟩, _⟩ =>
    subst e
    exact ⟨t, ws, rfl, .inl (SqL.of (a.gh _ _ h)), fun l hl => q _ _ _ _ _ (k l (a.freshM hl) fun z => hE l z (a.fresh hl)) (Same.refl _) (a.own1 hl ⟨ws, rfl, rr⟩) rfl⟩
end
theorem hasI_wh {C : Addr} {v : Wh} {m : Str} (h : ((m == ("names" : Str)) || (m == ("first" : Str))) = false) : HasI (RWh C v) C m := by
  simp only [Bool.or_eq_false_iff] at h
  exact hasI_ins (by simp [whF, List.lookup, h.1, h.2])
/-! ### wheels that are refused, names that no day has -/
def nwL : List Rep → List (Str × Rep)
  | [ρ] => [("names", ρ)]
  | _ => []
def nnL : List Rep → List (Str × Rep)
  | [ρ] => [("name", ρ)]
  | _ => []
def nwF (l : List Str) : List (Str × Rep) := nwL [RLt (l.map RS)]
def nnF (s : Str) : List (Str × Rep) := nnL [RS s]
structure WhIn (l : List Str) (f : Int) : Prop where
  le : l.length ≤ 1000
  ok : ∀ s ∈ l, PyData.strOk s = true
  z : Bd 70 f
def Good (l : List Str) : Prop := l ≠ [] ∧ l.Nodup
theorem WhIn.good {l : List Str} {f : Int} (h : WhIn l f) (g : Good l) : WhOk ⟨l, f⟩ := ⟨g.1, g.2, h.le, h.ok, h.z⟩
def con_WhX (CW CZ : Addr) : ConX := { I := Addr × List Str × Int, B := Unit, pre := fun i => WhIn i.2.1 i.2.2, args := fun i => [RRef i.1, RLt (i.2.1.map RS), RI i.2.2], own := fun i => [(i.1, OIns CW [])], post := fun i _ => Good i.2.1, res := fun _ _ => RN, own' := fun i _ => [(i.1, OIns CW (whF ⟨i.2.1, i.2.2⟩))], Z := Unit, bad := fun i _ => ¬ Good i.2.1, cls := fun _ _ => CZ, fld := fun i _ => nwF i.2.1, ownX := fun _ _ => [] }
def con_restX (CW CN : Addr) : ConX := { I := Wh × Str, B := Nat, pre := fun i => WhOk i.1, args := fun i => [RWh CW i.1, RS i.2], own := fun _ => [], post := fun i k => i.1.names[k]? = some i.2, res := fun i k => RI (i.1.first + (k : Nat)), own' := fun _ _ => [], Z := Unit, bad := fun i _ => i.2 ∉ i.1.names, cls := fun _ _ => CN, fld := fun i _ => nnF i.2, ownX := fun _ _ => [] }
def con_nextX (CW CN : Addr) : ConX := { I := Wh × Int × Str, B := Int, pre := fun i => WhOk i.1, args := fun i => [RWh CW i.1, RI i.2.1, RS i.2.2], own := fun _ => [], post := fun i _ => i.2.2 ∈ i.1.names, res := fun _ t => RI t, own' := fun _ _ => [], Z := Unit, bad := fun i _ => i.2.2 ∉ i.1.names, cls := fun _ _ => CN, fld := fun i _ => nnF i.2.2, ownX := fun _ _ => [] }
theorem plc_look {l : List Str} {s : Str} {ρ : Rep} (h : valR (plc l) (.inr s) = some ρ) : ∃ k : Nat, l[k]? = some s ∧ ρ = RI (k : Int) := by
  have key : ∀ (m : List (Key × Rep)) (k : Key) (ρ : Rep), valR m k = some ρ → (k, ρ) ∈ m := by
    intro m
    induction m with
    | nil => intro k ρ z; cases z
    | cons x m ih =>
      intro k ρ z
      obtain ⟨k', ρ'⟩ := x
      have z : (if k' = k then some ρ' else valR m k) = some ρ := z
      by_cases e : k' = k
      · rw [if_pos e] at z
        cases z
        rw [e]
        exact List.mem_cons_self
      · rw [if_neg e] at z
        exact List.mem_cons_of_mem _ (ih k ρ z)
  have m := key _ _ _ h
  unfold plc at m
  obtain ⟨⟨x, k⟩, hx, e⟩ := List.mem_map.mp m
  have hk := List.mem_zipIdx_iff_getElem?.mp hx
  cases e
  exact ⟨k, hk, rfl⟩
theorem plc_miss {l : List Str} {s : Str} (h : valR (plc l) (.inr s) = none) : s ∉ l := fun hm => by
  have key : ∀ (m : List (Key × Rep)) (k : Key), valR m k = none → k ∉ m.map (·.1) := by
    intro m
    induction m with
    | nil => intro k z y; cases y
    | cons x m ih =>
      intro k z y
      obtain ⟨k', ρ'⟩ := x
      have z : (if k' = k then some ρ' else valR m k) = none := z
      by_cases e : k' = k
      · rw [if_pos e] at z
        cases z
      · rw [if_neg e] at z
        rcases List.mem_cons.mp y with q | q
        · exact e q.symm
        · exact ih k z q
  have := key _ _ h
  rw [plc_keys] at this
  exact this (List.mem_map_of_mem hm)
/-- the names from the day 0 on -/
def fnL (v : Wh) : List Str := (List.range v.names.length).map fun d : Nat => v.on (d : Int)
def whT (v : Wh) : Str := Txt.join " " (fnL v)
def con_fn (CW : Addr) : Con := { I := Wh, B := Unit, pre := fun v => WhOk v, args := fun v => [RWh CW v], own := fun _ => [], post := fun _ _ => True, res := fun v _ => RLt ((fnL v).map RS), own' := fun _ _ => [] }
theorem ck_fn {CW : Addr} {ρ : Rep} {M : Ow} {Φ : Rep → Ow → Prop} {v : Wh} (h : Sub ρ (RWh CW v)) (hw : WhOk v) (k : Φ (RLt ((fnL v).map RS)) M) : CallK (con_fn CW) [ρ] M Φ := ⟨v, M, hw, .cons h .nil, .nil, fun _ _ => k⟩
structure WhS (v : Wh) : Prop where
  ok : WhOk v
  sm : ∀ s ∈ v.names, s.length ≤ 1000
def con_Wh_str (CW : Addr) : Con := { I := Wh, B := Unit, pre := fun v => WhS v, args := fun v => [RWh CW v], own := fun _ => [], post := fun _ _ => True, res := fun v _ => RS (whT v), own' := fun _ _ => [] }
theorem ck_Wh_str {CW : Addr} {ρ : Rep} {M : Ow} {Φ : Rep → Ow → Prop} {v : Wh} (h : Sub ρ (RWh CW v)) (hw : WhS v) (k : Φ (RS (whT v)) M) : CallK (con_Wh_str CW) [ρ] M Φ := ⟨v, M, hw, .cons h .nil, .nil, fun _ _ => k⟩
theorem Wh.on_in {w : Wh} (h : WhOk w) (d : Int) : w.on d ∈ w.names := by
  have p := h.pos
  have a := Int.emod_nonneg (d - w.first) (show ((w.names.length : Nat) : Int) ≠ 0 by omega)
  have b := Int.emod_lt_of_pos (d - w.first) (show (0 : Int) < (w.names.length : Nat) by omega)
  unfold Wh.on
  rw [List.getD_eq_getElem?_getD, List.getElem?_eq_getElem (by omega)]
  exact List.getElem_mem _
theorem fnL_in {v : Wh} (h : WhOk v) : ∀ s ∈ fnL v, s ∈ v.names := fun s hs => by
  obtain ⟨d, _, rfl⟩ := List.mem_map.mp hs
  exact v.on_in h d
theorem sum_le_of {l : List Str} {n : Nat} (h : ∀ s ∈ l, s.length ≤ n) : (l.map (·.length)).sum ≤ l.length * n := by
  induction l with
  | nil => simp
  | cons x l ih =>
    have a := ih fun s hs => h s (List.mem_cons_of_mem _ hs)
    have b := h x List.mem_cons_self
    rw [List.map_cons, List.sum_cons, List.length_cons, Nat.succ_mul]
    omega
theorem exmKE {K : PySem.W.Frag} : PySem.W.exmOne K (.type "KeyError") (.type "KeyError") = some true := by kernel_rfl
theorem subKE : isSubtype (.type "KeyError") (.type "BaseException") = pure true := by
  rw [isSubtype_type]
  kernel_rfl
section
variable {P : Program} {w : World} {K : PySem.W.Frag} {mg : Str → Option Value} {base : Heap} {CW CZ CN : Addr}
theorem ok_fn {f : Addr} {fd : FuncData} (F : FdD K "from_nought" "from_nought" s_f_from_nought [] f fd) (T : WhT K CW) (B : BltW mg) (On : KnM P w K mg base 1 CW "name_on" [] (con_on CW)) : FnOk P w K mg base CX0 2 f fd (N_f_from_nought.take 1) (conSp (con_fn CW)) := by
  refine fn_conD (con_fn CW) F sc_f_from_nought (fun _ => rfl) fun cd A outer s H EE G (v : Wh) hp hr hE => ?_
  have hw : WhOk v := hp
  have few := hw.le
  refine wss_one (ws_ret (we_freeze (we_lc (t := gName 1) (own := [("day", 1)]) rfl sc_f_from_nought.nd (pi_range1 g_range_f_from_nought B.rng pa_w) (blkOk_by ?ok) ?hg hE ?src)))
  case ok =>
    show blkC N_f_from_nought (defScope s_f_from_nought) _ _ = true
    decide +kernel
  case hg =>
    intro s H C cl fp
    exact pg_name sc_f_from_nought.nd rfl (.inl rfl)
  case src =>
    refine src_range1 (wa_cons (we_callB call_len_seq g_len_f_from_nought B.len (by decide +kernel) (wa_cons (we_fld (we_var 0 r0_f_from_nought rfl ⟨_, hasF_names T, wa_nil (caw_of cav_len_tt (wa_nil ⟨_, .cons Sub.rfl .nil, ?bnd, fun i o M' => M' = [] ∧ o = ((fnL v).map RS).take i, ⟨rfl, rfl⟩, ?turn, ?done⟩))⟩)))))
    case bnd =>
      rw [List.length_map]
      exact ⟨by omega, by omega⟩
    case turn =>
      rintro i ρ o M1 D hi rfl ⟨rfl, rfl⟩
      rw [List.length_map] at hi
      have hi : i < v.names.length := by omega
      refine ⟨fun Γ => Γ.set 1 (some (RI (i : Int))), blkT_name 1 (by decide), fun s H0 C cl fp => ?_⟩
      refine we_meth On (hr.mono (by decide)) pass0 (we_var 0 ?r0 rfl ⟨hasI_wh (by decide +kernel), wa_cons (we_var 1 ?r1 rfl (wa_nil (ck_on Sub.rfl Sub.rfl hw ⟨[], RS (v.on (i : Int)), rfl, Sub.rfl, ?len, rfl, ?tk⟩)))⟩)
      case r0 => exact ⟨rfl, by first | exact .inl rfl | exact .inr (.inl rfl), by decide, by decide⟩
      case r1 => exact ⟨rfl, by first | exact .inl rfl | exact .inr (.inl rfl), by decide, by decide⟩
      case len =>
        rw [List.length_take]
        omega
      case tk =>
        have e : ((fnL v).map RS)[i]? = some (RS (v.on (i : Int))) := by
          unfold fnL
          rw [List.getElem?_map, List.getElem?_map, List.getElem?_range hi]
          rfl
        rw [List.take_add_one, e]
        rfl
    case done =>
      rintro D o M1 hD hM ⟨rfl, rfl⟩
      have all : ((fnL v).map RS).take ((v.names.map RS).length : Int).toNat = (fnL v).map RS := by
        refine List.take_of_length_le ?_
        unfold fnL
        rw [List.length_map, List.length_map, List.length_map, List.length_range]
        omega
      rw [all]
      exact ⟨D, _, [], Sub.rfl, .here, hD, (), [], trivial, Sub.rfl, .nil⟩
theorem ok_Wh_str {f : Addr} {fd : FuncData} (F : FdD K "__str__" "Wheel.__str__" s_Wheel_str [] f fd) (Fn : Kn P w K mg base 2 "from_nought" [] (con_fn CW)) : FnOk P w K mg base CX0 3 f fd (N_Wheel_str.take 1) (conSp (con_Wh_str CW)) := by
  refine fn_conD (con_Wh_str CW) F sc_Wheel_str (fun _ => rfl) fun cd A outer s H EE G (v : Wh) hp hr hE => ?_
  have hw : WhS v := hp
  have few := hw.ok.le
  refine wss_one (ws_ret (we_bm PySem.F.plainAttrs_str PySem.F.slot_str_join PySem.F.type_str_join mt_join (we_str ⟨tyw_str, wa_cons (we_call Fn hr g_from_nought_Wheel_str pass0 (wa_cons (we_var 0 r0_Wheel_str rfl (wa_nil (ck_fn Sub.rfl hw.ok (wa_nil (mtw_join ?sz ⟨(), [], trivial, Sub.rfl, .nil⟩)))))))⟩)))
  case sz =>
    have s1 := sum_le_of (l := fnL v) (n := 1000) fun s hs => hw.sm s (fnL_in hw.ok s hs)
    have s2 : (fnL v).length = v.names.length := by
      unfold fnL
      rw [List.length_map, List.length_range]
    have s3 : (" " : Str).length = 1 := by decide +kernel
    rw [s2] at s1
    rw [s2, s3]
    omega
end
end MM

namespace MM
open PySem L2 PyProof.Rows
section
variable {X : Cx} {E : En} {Γ : Gm} {M : Ow} {a : Expr} {pos p2 : Pos} {Φ : Rep → Ow → Prop} {lo hi : Option Expr}
/-- a slice of a tuple, not the whole of it -/
theorem we_slT (h : WE X E Γ M a fun ρ M1 => ∃ ρs, Sub ρ (RT X.K ρs) ∧ WO X E Γ M1 lo fun l M2 => WO X E Γ M2 hi fun u M3 => ¬ (HT.sIx ρs.length 0 l = 0 ∧ HT.sIx ρs.length ρs.length u = ρs.length) ∧ Φ (RTt (cutL ρs l u)) M3) : WE X E Γ M (.Subscript a (.Slice lo hi none p2) pos) Φ :=
  we_of (pe_slice sl_tup pe_w po_w po_w) fun σ G H at' Q q => h σ G H at' _ fun ρ M1 x G1 H1 ⟨ρs, sb, h1⟩ s1 a1 r1 => h1 σ G1 H1 a1 _ fun l M2 G2 H2 h2 s2 a2 => h2 σ G2 H2 a2 _ fun u M3 G3 H3 ⟨hw, hk⟩ s3 a3 => by
    obtain ⟨b, vs, e, hq, rr⟩ := sb _ _ (ρ.mono _ _ _ (s2.trans s3) r1)
    refine ⟨b, vs, e, same_seqT a3.gh hq, by rw [← rr.length]; exact hw, fun p hp => ?_⟩
    have n : New G3 H3 (upd G3 p (.tup (cutV vs l u))) (upd H3 p (.tup (cutV vs l u))) := New.put a3.gh hp
    exact q _ M3 _ _ _ hk ((s1.trans (s2.trans s3)).trans n.gg) (a3.new n) ⟨p, _, rfl, upd_same, (reps_cut rr l u).mono n.gg⟩
end
theorem cut3 {α : Type} {a b c : α} : cutL [a, b, c] (some 1) none = [b, c] := rfl
end MM

namespace MM
open PySem L2 PyProof.Rows
/-! ### the names of a law's lists -/
def itx (i : Int) : Str := Str.ofString (toString i)
def TX (l : List Nat) : Str := ⟨l.toArray⟩
theorem opv_ix_s {K : PySem.W.Frag} {z : Str} {i : Int} {c : Nat} (hl : z.length ≤ sizeLine) (h : atI z.cps.toList i = some c) : OpV (rIx K) (RS z) (RI i) (RS (TX [c])) := fun x y G H s hx hy Q q =>
  .inr (.inr ⟨z, i, c, hx, hy, hl, h, q _ G H (New.refl s) rfl⟩)
abbrev ABC : Str := "abcdefghijklmnopqrstuvwxyz"
theorem abc_at {i : Nat} : atI (ABC : Str).cps.toList ((i : Int) % 26) = some (97 + i % 26) := by
  have key : ∀ n : Nat, n < 26 → atI (ABC : Str).cps.toList (n : Int) = some (97 + n) := by decide +kernel
  have := key (i % 26) (Nat.mod_lt _ (by decide))
  rw [← this]
  rfl
theorem abc_len : (ABC : Str).length ≤ sizeLine := by decide +kernel
def nmL4 (k : Nat) : List Str := [repS (TX [97 + k % 26]) (1 + (k : Int) / 26), itx (k : Int), repS ("x" : Str) (k : Int), TX [97 + k % 26] ++ (" " : Str) ++ itx (k : Int)]
def nmF (j k : Nat) : Str := (nmL4 k).getD j Str.empty
def nmTest (s : Str) : Bool := PyData.strOk s && decide (s.length ≤ 60) && !(s == ("-" : Str)) && PyData.strOk (cutS s (some 1) none) && (s.cps.toList.all fun c => decide (c < 128)) && PyData.strOk ⟨s.cps.map up1⟩
def nmA (j a : Nat) : Bool := (List.range 15).all fun k => nmTest (nmF j (a + k))
theorem nm_a00 : nmA 0 0 = true := by decide +kernel
theorem nm_a01 : nmA 0 15 = true := by decide +kernel
theorem nm_a02 : nmA 0 30 = true := by decide +kernel
theorem nm_a03 : nmA 0 45 = true := by decide +kernel
theorem nm_a10 : nmA 1 0 = true := by decide +kernel
theorem nm_a11 : nmA 1 15 = true := by decide +kernel
theorem nm_a12 : nmA 1 30 = true := by decide +kernel
theorem nm_a13 : nmA 1 45 = true := by decide +kernel
theorem nm_a20 : nmA 2 0 = true := by decide +kernel
theorem nm_a21 : nmA 2 15 = true := by decide +kernel
theorem nm_a22 : nmA 2 30 = true := by decide +kernel
theorem nm_a23 : nmA 2 45 = true := by decide +kernel
theorem nm_a30 : nmA 3 0 = true := by decide +kernel
theorem nm_a31 : nmA 3 15 = true := by decide +kernel
theorem nm_a32 : nmA 3 30 = true := by decide +kernel
theorem nm_a33 : nmA 3 45 = true := by decide +kernel
theorem nmA_at {j a k : Nat} (h : nmA j a = true) (h1 : a ≤ k) (h2 : k < a + 15) : nmTest (nmF j k) = true := by
  have b := List.all_eq_true.mp h (k - a) (List.mem_range.mpr (by omega))
  rw [show a + (k - a) = k by omega] at b
  exact b
theorem nm_all {j k : Nat} (hj : j < 4) (hk : k < 60) : nmTest (nmF j k) = true := by
  match j, hj with
  | 0, _ =>
    rcases Nat.lt_or_ge k 15 with q | q
    · exact nmA_at nm_a00 (Nat.zero_le _) q
    · rcases Nat.lt_or_ge k 30 with r | r
      · exact nmA_at nm_a01 q r
      · rcases Nat.lt_or_ge k 45 with u | u
        · exact nmA_at nm_a02 r u
        · exact nmA_at nm_a03 u hk
  | 1, _ =>
    rcases Nat.lt_or_ge k 15 with q | q
    · exact nmA_at nm_a10 (Nat.zero_le _) q
    · rcases Nat.lt_or_ge k 30 with r | r
      · exact nmA_at nm_a11 q r
      · rcases Nat.lt_or_ge k 45 with u | u
        · exact nmA_at nm_a12 r u
        · exact nmA_at nm_a13 u hk
  | 2, _ =>
    rcases Nat.lt_or_ge k 15 with q | q
    · exact nmA_at nm_a20 (Nat.zero_le _) q
    · rcases Nat.lt_or_ge k 30 with r | r
      · exact nmA_at nm_a21 q r
      · rcases Nat.lt_or_ge k 45 with u | u
        · exact nmA_at nm_a22 r u
        · exact nmA_at nm_a23 u hk
  | 3, _ =>
    rcases Nat.lt_or_ge k 15 with q | q
    · exact nmA_at nm_a30 (Nat.zero_le _) q
    · rcases Nat.lt_or_ge k 30 with r | r
      · exact nmA_at nm_a31 q r
      · rcases Nat.lt_or_ge k 45 with u | u
        · exact nmA_at nm_a32 r u
        · exact nmA_at nm_a33 u hk
theorem nm_nd : ∀ j : Nat, j < 4 → ((List.range 60).map (nmF j)).Nodup := by decide +kernel
end MM

namespace MM
open PySem L2 PyProof.Rows
def con_L_day : Con := { I := Addr × Nat, B := Int, pre := fun i => i.2 ≤ 100000000, args := fun i => [RRef i.1], own := fun i => [(i.1, ODr i.2)], post := fun _ q => Bd 70 q, res := fun _ q => RI q, own' := fun i _ => [(i.1, ODr (i.2 + 1))] }
theorem ck_L_day {ρ : Rep} {M M1 : Ow} {Φ : Rep → Ow → Prop} {p : Addr} {n : Nat} (h : Sub ρ (RRef p)) (rm : Rm M p (ODr n) M1) (hn : n ≤ 100000000) (k : ∀ q : Int, Bd 70 q → Φ (RI q) ((p, ODr (n + 1)) :: M1)) : CallK con_L_day [ρ] M Φ :=
  ⟨(p, n), M1, hn, .cons h .nil, .cons rm OSub.rfl .nil, fun q hq => k q hq⟩
section
variable {P : Program} {w : World} {K : PySem.W.Frag} {mg : Str → Option Value} {base : Heap} {CS CC : Addr}

theorem ok_L_day {f : Addr} {fd : FuncData} (F : FdD K "_law_day" "_law_day" s_f_L_day [] f fd) (Nx : Kn P w K mg base 1 "_law_next" [] con_L_next) : FnOk P w K mg base CX0 2 f fd ["_law_draws_here"] (conSp con_L_day) := by
  refine fn_conD con_L_day F sc_f_L_day (fun _ => rfl) fun cd A outer s H EE G i hp hr hE => ?_
  obtain ⟨p, n⟩ := i
  have hp : n ≤ 100000000 := hp
  refine wss_cons (ws_set 1 w1_f_L_day (we_call Nx hr g__law_next_f_L_day pass0 (wa_cons (we_var 0 r0_f_L_day rfl (wa_nil (ck_L_next Sub.rfl .here (by omega) fun x hx => ?_))))))
  obtain ⟨x0, x1⟩ := hx
  have bx : Bd 30 (x / 4) := by
    show (x / 4).natAbs < 2 ^ 30
    omega
  refine wss_cons (ws_set 2 w2_f_L_day (we_lst (wa_cons (we_bin op_modN (we_bin op_fdivA (we_var 1 r1_f_L_day rfl (we_int (opw_of (opv_div_i (by decide) (by decide)) (we_int (opw_of (opv_mod_i (by decide)) ?_))))))))))
  refine wa_cons (we_bin op_sub (we_int (we_bin op_modN (we_bin op_fdivA (we_var 1 r1_f_L_day rfl (we_int (opw_of (opv_div_i (by decide) (by decide)) (we_int (opw_of (opv_mod_i (by decide)) (opw_of opv_sub_i ?_))))))))))
  refine wa_cons (we_bin op_sub (we_bin op_mulU (we_bin op_fdivA (we_var 1 r1_f_L_day rfl (we_int (opw_of (opv_div_i (by decide) (by decide)) (we_bin op_pow (we_int (we_int (opw_of (opv_powL (v := 1000000000) (by decide) (by decide) (by decide) (by decide)) ?_))))))))))
  refine opw_of (opv_mul_i (mulOk (m := 40) bx (show Bd 40 1000000000 by show (1000000000 : Int).natAbs < 2 ^ 40; decide) (by decide))) (we_bin op_pow (we_int (we_int (opw_of (opv_powL (v := 100000000000000000) (by decide) (by decide) (by decide) (by decide)) (opw_of opv_sub_i (wa_nil ⟨by show 3 ≤ 100000; decide, ?_⟩))))))
  refine wss_one (ws_ret (we_ix ix_seq (we_bin op_addU (we_var 2 r2_f_L_day rfl (we_lst (wa_cons (we_bin op_sub (we_bin op_pow (we_int (we_int (opw_of (opv_powL (v := 10000000000000000000) (by decide) (by decide) (by decide) (by decide)) ?_)))))))))))
  refine we_bin op_fdivA (we_var 1 r1_f_L_day rfl (we_int (opw_of (opv_div_i (by decide) (by decide)) (opw_of opv_sub_i (wa_nil ⟨by show 1 ≤ 100000; decide, opw_of (opv_add_l (by show 4 ≤ 100000; decide)) ?_⟩)))))
  refine we_bin op_modN (we_var 1 r1_f_L_day rfl (we_int (opw_of (opv_mod_i (by decide)) ?_)))
  refine opw_pickI (fun b => -1000000000000000000 ≤ b ∧ b ≤ 10000000000000000000) (by omega) (by show x % 4 < 4; omega) (.cons (by omega) (.cons (by omega) (.cons (by omega) (.cons (by omega) .nil)))) fun b hb => ?_
  refine ⟨b, [], ?_, Sub.rfl, .cons .here OSub.rfl .nil⟩
  show b.natAbs < 2 ^ 70
  omega
end
end MM

namespace MM
open PySem L2 PyProof.Rows
def con_L_far : Con := { I := Addr × Nat, B := Int, pre := fun i => i.2 ≤ 100000000, args := fun i => [RRef i.1], own := fun i => [(i.1, ODr i.2)], post := fun _ q => Bd 65 q, res := fun _ q => RI q, own' := fun i _ => [(i.1, ODr (i.2 + 1))] }
theorem ck_L_far {ρ : Rep} {M M1 : Ow} {Φ : Rep → Ow → Prop} {p : Addr} {n : Nat} (h : Sub ρ (RRef p)) (rm : Rm M p (ODr n) M1) (hn : n ≤ 100000000) (k : ∀ q : Int, Bd 65 q → Φ (RI q) ((p, ODr (n + 1)) :: M1)) : CallK con_L_far [ρ] M Φ :=
  ⟨(p, n), M1, hn, .cons h .nil, .cons rm OSub.rfl .nil, fun q hq => k q hq⟩
section
variable {P : Program} {w : World} {K : PySem.W.Frag} {mg : Str → Option Value} {base : Heap}
theorem ok_L_far {f : Addr} {fd : FuncData} (F : FdD K "_law_far" "_law_far" s_f_L_far [] f fd) (Nx : Kn P w K mg base 1 "_law_next" [] con_L_next) : FnOk P w K mg base CX0 2 f fd (N_f_L_far.take 1) (conSp con_L_far) := by
  refine fn_conD con_L_far F sc_f_L_far (fun _ => rfl) fun cd A outer s H EE G i hp hr hE => ?_
  obtain ⟨p, n⟩ := i
  have hp : n ≤ 100000000 := hp
  refine wss_cons (ws_set 1 w1_f_L_far (we_call Nx hr g__law_next_f_L_far pass0 (wa_cons (we_var 0 r0_f_L_far rfl (wa_nil (ck_L_next Sub.rfl .here (by omega) fun x hx => ?_))))))
  obtain ⟨x0, x1⟩ := hx
  have bx : Bd 30 (x / 4) := by
    show (x / 4).natAbs < 2 ^ 30
    omega
  refine wss_one (ws_ret (we_ix ix_seq (we_lst (wa_cons (we_int ?_)))))
  refine wa_cons (we_bin op_modN (we_bin op_fdivA (we_var 1 r1_f_L_far rfl (we_int (opw_of (opv_div_i (by decide) (by decide)) (we_int (opw_of (opv_mod_i (by decide)) ?_)))))))
  refine wa_cons (we_bin op_sub (we_int (we_bin op_modN (we_bin op_fdivA (we_var 1 r1_f_L_far rfl (we_int (opw_of (opv_div_i (by decide) (by decide)) (we_int (opw_of (opv_mod_i (by decide)) (opw_of opv_sub_i ?_))))))))))
  refine wa_cons (we_bin op_sub (we_bin op_mulU (we_bin op_fdivA (we_var 1 r1_f_L_far rfl (we_int (opw_of (opv_div_i (by decide) (by decide)) (we_bin op_pow (we_int (we_int (opw_of (opv_powL (v := 1000000000) (by decide) (by decide) (by decide) (by decide)) ?_))))))))))
  refine opw_of (opv_mul_i (mulOk (m := 40) bx (show Bd 40 1000000000 by show (1000000000 : Int).natAbs < 2 ^ 40; decide) (by decide))) (we_bin op_pow (we_int (we_int (opw_of (opv_powL (v := 100000000000000000) (by decide) (by decide) (by decide) (by decide)) (opw_of opv_sub_i (wa_nil ⟨by show 4 ≤ 100000; decide, ?_⟩))))))
  refine we_bin op_modN (we_var 1 r1_f_L_far rfl (we_int (opw_of (opv_mod_i (by decide)) ?_)))
  refine opw_pickI (fun b => -1000000000000000000 ≤ b ∧ b ≤ 1000000000000000000) (by omega) (by show x % 4 < 4; omega) (.cons (by omega) (.cons (by omega) (.cons (by omega) (.cons (by omega) .nil)))) fun b hb => ?_
  refine ⟨b, [], ?_, Sub.rfl, .cons .here OSub.rfl .nil⟩
  show b.natAbs < 2 ^ 65
  omega
end
end MM

namespace MM
open PySem L2 PyProof.Rows
section
variable {X : Cx} {E : En} {Γ : Gm} {M M' : Ow} {Ψ : Ed} {st : List Stmt} {σ : L2.St} {G H : Hp}
/-- an owned thing is forgotten -/
theorem wss_drop {p : Addr} {r : ORep} (rm : Rm M p r M') (h : WSs X E Γ M' st Ψ) : WSs X E Γ M st Ψ := fun σ G H a D k => h σ G H (a.drop rm) D k
theorem At.perm (a : At E Γ M σ G H) (hm : ∀ q ∈ M', q ∈ M) (nd : (M'.map (·.1)).Nodup) : At E Γ M' σ G H :=
  ⟨a.len, a.env, a.gh, fun q hq => a.own q (hm q hq), fun q hq => a.gn q (hm q hq), nd, a.g0, a.keep, a.nw, fun q hq => a.loc q (hm q hq), a.there⟩
/-- the first two change places -/
theorem wss_swap {x y : Addr × ORep} (h : WSs X E Γ (y :: x :: M) st Ψ) : WSs X E Γ (x :: y :: M) st Ψ := fun σ G H a D k =>
  h σ G H (a.perm (fun q hq => by
    rcases List.mem_cons.mp hq with e | hq
    · subst e; exact List.mem_cons_of_mem _ List.mem_cons_self
    · rcases List.mem_cons.mp hq with e | hq
      · subst e; exact List.mem_cons_self
      · exact List.mem_cons_of_mem _ (List.mem_cons_of_mem _ hq)) (by
    have n := a.nd
    simp only [List.map_cons, List.nodup_cons, List.mem_cons, not_or] at n ⊢
    exact ⟨⟨fun e => n.1.1 e.symm, n.2.1⟩, n.1.2, n.2.2⟩)) D k
end
/-- tuple + tuple, neither empty -/
theorem opv_add_t {K : PySem.W.Frag} {ρ ρ' : Rep} {ρs ρs' : List Rep} (h : (ρ :: ρs).length + (ρ' :: ρs').length ≤ 100000) : OpV (rAddU K) (RTt (ρ :: ρs)) (RTt (ρ' :: ρs')) (RTt ((ρ :: ρs) ++ (ρ' :: ρs'))) := fun x y G H s ⟨a, xs, e1, h1, r1⟩ ⟨b, ys, e2, h2, r2⟩ Q q => by
  subst e1 e2
  have hx : xs ≠ [] := fun z => by subst z; exact r1.elim
  have hy : ys ≠ [] := fun z => by subst z; exact r2.elim
  refine .inr (.inr (.inr ⟨a, b, xs, ys, rfl, rfl, .inl (.inl (s _ _ h1)), .inl (.inl (s _ _ h2)), hx, by rw [← r1.length, ← r2.length]; exact szOf h, fun z => absurd z hy, fun _ p hp => ?_⟩))
  have n : New G H (upd G p (.tup (xs ++ ys))) (upd H p (.tup (xs ++ ys))) := New.put s hp
  exact q _ _ _ n ⟨p, _, rfl, upd_same, (r1.app r2).mono n.gg⟩
end MM

namespace MM
open PySem L2 PyProof.Rows
/-! ### lists of unlike names -/
theorem nm_test {j k : Nat} (hj : j < 4) (hk : k < 60) : nmTest (nmF j k) = true := nm_all hj hk
structure NmOk (s : Str) : Prop where
  ok : PyData.strOk s = true
  le : s.length ≤ 60
  no : s ≠ ("-" : Str)
  cut : PyData.strOk (cutS s (some 1) none) = true
  up : PyData.strOk (Txt.upper s) = true
theorem nm_ok {s : Str} (h : nmTest s = true) : NmOk s := by
  unfold nmTest at h
  simp only [Bool.and_eq_true, decide_eq_true_eq, Bool.not_eq_true', beq_eq_false_iff_ne, List.all_eq_true] at h
  obtain ⟨⟨⟨⟨⟨a, b⟩, c⟩, d⟩, e⟩, f⟩ := h
  refine ⟨a, b, c, d, ?_⟩
  rw [upper_ascii e]
  exact f
structure Nm (l : List Str) : Prop where
  ex : ∃ j m : Nat, j < 4 ∧ 1 ≤ m ∧ m ≤ 60 ∧ l.Perm ((List.range m).map (nmF j))
theorem Nm.len {l : List Str} (h : Nm l) : 1 ≤ l.length ∧ l.length ≤ 60 := by
  obtain ⟨j, m, hj, m1, m2, hp⟩ := h.ex
  rw [hp.length_eq, List.length_map, List.length_range]
  exact ⟨m1, m2⟩
theorem Nm.all {l : List Str} (h : Nm l) : ∀ s ∈ l, NmOk s := fun s hs => by
  obtain ⟨j, m, hj, m1, m2, hp⟩ := h.ex
  obtain ⟨k, hk, rfl⟩ := List.mem_map.mp (hp.mem_iff.mp hs)
  have := List.mem_range.mp hk
  exact nm_ok (nm_test hj (by omega))
theorem Nm.good {l : List Str} (h : Nm l) : Good l := by
  have ln := h.len
  refine ⟨fun e => ?_, ?_⟩
  · rw [e] at ln
    simp at ln
  · obtain ⟨j, m, hj, m1, m2, hp⟩ := h.ex
    refine hp.nodup_iff.mpr ((nm_nd j hj).sublist ?_)
    refine List.Sublist.map _ ?_
    exact List.range_sublist.mpr (by omega)
theorem Nm.inn {l : List Str} (h : Nm l) {f : Int} (z : Bd 70 f) : WhIn l f := ⟨by have := h.len; omega, fun s hs => (h.all s hs).ok, z⟩
theorem perm_put {α : Type} {L M : List α} {x : α} (h : L.Perm M) (j : Nat) : (L.take j ++ [x] ++ L.drop j).Perm (M ++ [x]) := by
  have a : (L.take j ++ [x] ++ L.drop j).Perm (x :: L) := by
    rw [List.append_assoc]
    refine (List.perm_middle (l₁ := L.take j) (a := x) (l₂ := L.drop j)).trans ?_
    rw [List.take_append_drop]
  exact a.trans ((h.cons x).trans (List.perm_append_comm (l₁ := [x]) (l₂ := M)))
def con_L_unlike : Con := { I := Addr × Nat, B := { l : List Str // Nm l }, pre := fun i => i.2 ≤ 1000, args := fun i => [RRef i.1, RI 60], own := fun i => [(i.1, ODr i.2)], post := fun _ _ => True, res := fun _ l => RLt (l.1.map RS), own' := fun i l => [(i.1, ODr (i.2 + 1 + l.1.length))] }
theorem ck_L_unlike {ρ1 ρ2 : Rep} {M M1 : Ow} {Φ : Rep → Ow → Prop} {p : Addr} {n : Nat} (h : Sub ρ1 (RRef p)) (h2 : Sub ρ2 (RI 60)) (rm : Rm M p (ODr n) M1) (hn : n ≤ 1000) (k : ∀ l : List Str, Nm l → Φ (RLt (l.map RS)) ((p, ODr (n + 1 + l.length)) :: M1)) : CallK con_L_unlike [ρ1, ρ2] M Φ :=
  ⟨(p, n), M1, hn, .cons h (.cons h2 .nil), .cons rm OSub.rfl .nil, fun l _ => k l.1 l.2⟩
section
variable {P : Program} {w : World} {K : PySem.W.Frag} {mg : Str → Option Value} {base : Heap}
theorem ok_L_unlike {f : Addr} {fd : FuncData} (F : FdD K "_law_unlike" "_law_unlike" s_f_L_unlike [] f fd) (B : BltW mg) (Nx : Kn P w K mg base 1 "_law_next" [] con_L_next) : FnOk P w K mg base CX0 2 f fd (N_f_L_unlike.take 2) (conSp con_L_unlike) := by
  refine fn_conD con_L_unlike F sc_f_L_unlike (fun _ => rfl) fun cd A outer s H EE G i hp hr hE => ?_
  obtain ⟨p, n⟩ := i
  have hp : n ≤ 1000 := hp
  refine wss_cons (ws_set 2 w2_f_L_unlike (we_call Nx hr g__law_next_f_L_unlike pass0 (wa_cons (we_var 0 r0_f_L_unlike rfl (wa_nil (ck_L_next Sub.rfl .here (by omega) fun x hx => ?_))))))
  obtain ⟨x0, x1⟩ := hx
  refine wss_cons (ws_set 3 w3_f_L_unlike (we_ix ix_seq (we_lst (wa_cons (we_bin op_addU (we_int (we_bin op_modN (we_bin op_fdivA (we_var 2 r2_f_L_unlike rfl (we_int (opw_of (opv_div_i (by decide) (by decide)) (we_int (opw_of (opv_mod_i (by decide)) (opw_of opv_add_i ?_))))))))))))))
  refine wa_cons (we_int (wa_cons (we_bin op_addU (we_int (we_bin op_modN (we_bin op_fdivA (we_var 2 r2_f_L_unlike rfl (we_int (opw_of (opv_div_i (by decide) (by decide)) (we_var 1 r1_f_L_unlike rfl (opw_of (opv_mod_i (by decide)) (opw_of opv_add_i ?_))))))))))))
  refine wa_cons (we_var 1 r1_f_L_unlike rfl (wa_nil ⟨by show 4 ≤ 100000; decide, we_bin op_modN (we_var 2 r2_f_L_unlike rfl (we_int (opw_of (opv_mod_i (by decide)) ?_)))⟩))
  refine opw_pickI (fun b => 1 ≤ b ∧ b ≤ 60) (by omega) (by show x % 4 < 4; omega) (.cons (by omega) (.cons (by omega) (.cons (by omega) (.cons (by omega) .nil)))) fun b hb => ?_
  obtain ⟨b1, b2⟩ := hb
  refine wss_cons (ws_set 4 w4_f_L_unlike (we_str ?_))
  refine wss_cons (ws_set 5 w5_f_L_unlike (we_lstO (wa_nil ⟨by show 0 ≤ 100000; decide, fun l hl hlE => ?_⟩) hE))
  refine wss_swap ?_
  obtain ⟨j, hj, ej⟩ : ∃ j : Nat, j < 4 ∧ x / 256 % 4 = (j : Int) := ⟨(x / 256 % 4).toNat, by omega, by omega⟩
  refine wss_cut (fun Γ M => ∃ (L : List Str) (o6 o7 : Option Rep), L.Perm ((List.range b.toNat).map (nmF j)) ∧ Γ = [some (RRef p), some (RI 60), some (RI x), some (RI b), some (RS ABC), some (RRef l), o6, o7] ∧ M = [(p, ODr (n + 1 + L.length)), (l, OL (L.map RS))]) (ws_for_range1 PassesOwn.never rfl g_range_f_L_unlike B.rng (wa_cons (we_var 3 r3_f_L_unlike rfl (wa_nil ⟨b, .cons Sub.rfl .nil, ⟨by omega, by omega⟩, ?loop⟩)))) ?rest
  case rest =>
    rintro Γ M ⟨L, o6, o7, hL, rfl, rfl⟩
    exact wss_one (ws_ret (we_freeze (we_var 5 r5_f_L_unlike rfl ⟨l, _, _, Sub.rfl, .there .here, hlE, ⟨L, ⟨⟨j, b.toNat, hj, by omega, by omega, hL⟩⟩⟩, [], trivial, Sub.rfl, .cons .here OSub.rfl .nil⟩)))
  case loop =>
    refine ⟨fun i Γ M => ∃ (L : List Str) (o6 o7 : Option Rep), L.Perm ((List.range i).map (nmF j)) ∧ Γ = [some (RRef p), some (RI 60), some (RI x), some (RI b), some (RS ABC), some (RRef l), o6, o7] ∧ M = [(p, ODr (n + 1 + L.length)), (l, OL (L.map RS))], ⟨[], none, none, List.Perm.refl _, rfl, rfl⟩, ?turn, ?done⟩
    case done =>
      rintro Γ M ⟨L, o6, o7, hL, rfl, rfl⟩
      exact ⟨L, o6, o7, hL, rfl, rfl⟩
    case turn =>
      rintro i ρ Γ M hi rfl ⟨L, o6, o7, hL, rfl, rfl⟩
      have hi60 : i < 60 := by omega
      have ln : L.length = i := by rw [hL.length_eq, List.length_map, List.length_range]
      have lg : ((i : Int)).natAbs.log2 < 1920 := Nat.lt_of_le_of_lt (Nat.log2_le_self _) (by omega)
      have one : ∀ c : Nat, (TX [c]).length ≤ 100 := fun c => by show 1 ≤ 100; decide
      refine wg_name 6 w6_f_L_unlike ?_
      refine wss_cons (ws_set 7 w7_f_L_unlike (we_ix ix_seq (we_lst (wa_cons (we_bin op_repS (we_ix ix_seq (we_var 4 r4_f_L_unlike rfl (we_bin op_modN (we_var 6 r6_f_L_unlike rfl (we_int (opw_of (opv_mod_i (by decide)) (opw_of (opv_ix_s abc_len abc_at) ?_))))))))))))
      refine we_bin op_addU (we_int (we_bin op_fdivA (we_var 6 r6_f_L_unlike rfl (we_int (opw_of (opv_div_i (by decide) (by decide)) (opw_of opv_add_i (opw_of (opv_repS (by omega) (by omega) (one _)) ?_)))))))
      refine wa_cons (we_strI g_str_f_L_unlike B.str (we_var 6 r6_f_L_unlike rfl ⟨_, Sub.rfl, lg, ?_⟩))
      refine wa_cons (we_bin op_repS (we_str (we_var 6 r6_f_L_unlike rfl (opw_of (opv_repS (by omega) (by omega) (by decide +kernel)) ?_))))
      refine wa_cons (we_bin op_addU (we_bin op_addU (we_ix ix_seq (we_var 4 r4_f_L_unlike rfl (we_bin op_modN (we_var 6 r6_f_L_unlike rfl (we_int (opw_of (opv_mod_i (by decide)) (opw_of (opv_ix_s abc_len abc_at) ?_)))))))))
      have l2 : (TX [97 + i % 26]).length + (" " : Str).length ≤ 100000 := by
        have := one (97 + i % 26)
        have e : (" " : Str).length = 1 := by decide +kernel
        omega
      have l3 : (TX [97 + i % 26] ++ (" " : Str)).length + (Str.ofString (toString (i : Int))).length ≤ 100000 := by
        have := int_text_len_1921 lg
        have a := one (97 + i % 26)
        have e : (" " : Str).length = 1 := by decide +kernel
        rw [Str.length_append]
        omega
      refine we_str (opw_of (opv_add_s l2) (we_strI g_str_f_L_unlike B.str (we_var 6 r6_f_L_unlike rfl ⟨_, Sub.rfl, lg, opw_of (opv_add_s l3) ?_⟩)))
      refine wa_nil ⟨by show 4 ≤ 100000; decide, we_bin op_modN (we_bin op_fdivA (we_var 2 r2_f_L_unlike rfl (we_int (opw_of (opv_div_i (by decide) (by decide)) (we_int (opw_of (opv_mod_i (by decide)) ?ix))))))⟩
      case ix =>
        rw [ej]
        have at4 : atI ((nmL4 i).map RS) (j : Int) = some (RS (nmF j i)) := by
          refine at_n ?_
          have h4 : j < (nmL4 i).length := hj
          rw [List.getElem?_map, List.getElem?_eq_getElem h4]
          unfold nmF
          rw [List.getD_eq_getElem?_getD, List.getElem?_eq_getElem h4]
          rfl
        refine opw_of (opv_ix_l (ρs := (nmL4 i).map RS) sub_lt at4) ?_
        refine wss_one (ws_expr (we_bm PySem.F.plainAttrs_list PySem.F.slot_list_insert PySem.F.type_list_insert mt_insR (we_var 5 r5_f_L_unlike rfl ⟨tyw_listO Sub.rfl (.there .here), ?args⟩)))
        refine wa_cons (we_bin op_modN (we_call Nx hr g__law_next_f_L_unlike pass0 (wa_cons (we_var 0 r0_f_L_unlike rfl (wa_nil (ck_L_next Sub.rfl .here (by omega) fun y hy => ?_))))))
        refine we_bin op_addU (we_var 6 r6_f_L_unlike rfl (we_int (opw_of opv_add_i (opw_of (opv_mod_i (by omega)) (wa_cons (we_var 7 r7_f_L_unlike rfl (wa_nil ?_)))))))
        have j0 : 0 ≤ y % ((i : Int) + 1) := Int.emod_nonneg _ (by omega)
        have j1 : y % ((i : Int) + 1) < (i : Int) + 1 := Int.emod_lt_of_pos _ (by omega)
        refine mtw_ins Sub.rfl Sub.rfl (.there .here) (by rw [List.length_map]; omega) j0 (by omega) ?_
        generalize (y % ((i : Int) + 1)).toNat = q
        refine ⟨L.take q ++ [nmF j i] ++ L.drop q, _, _, ?perm, rfl, ?same⟩
        case perm =>
          rw [List.range_succ, List.map_append]
          exact perm_put hL q
        case same =>
          have e : (L.take q ++ [nmF j i] ++ L.drop q).map RS = (L.map RS).take q ++ [RS (nmF j i)] ++ (L.map RS).drop q := by
            simp only [List.map_append, List.map_take, List.map_drop]
            rfl
          have ll : (L.take q ++ [nmF j i] ++ L.drop q).length = L.length + 1 := by
            simp only [List.length_append, List.length_take, List.length_drop, List.length_cons, List.length_nil]
            omega
          rw [e, ll]
          rfl
end
/-! ### texts -/
section
variable {X : Cx} {E : En} {Γ : Gm} {M : Ow} {a : Expr} {lo hi : Option Expr} {pos p2 : Pos} {Φ : Rep → Ow → Prop} {K : PySem.W.Frag}
theorem we_slS (h : WE X E Γ M a fun ρ M1 => ∃ z, Sub ρ (RS z) ∧ z.length ≤ 100000 ∧ WO X E Γ M1 lo fun l M2 => WO X E Γ M2 hi fun u M3 => Φ (RS (cutS z l u)) M3) : WE X E Γ M (.Subscript a (.Slice lo hi none p2) pos) Φ :=
  we_of (pe_slice sl_str pe_w po_w po_w) fun σ G H at' Q q => h σ G H at' _ fun ρ M1 x G1 H1 ⟨z, sb, hz, h1⟩ s1 a1 r1 => h1 σ G1 H1 a1 _ fun l M2 G2 H2 h2 s2 a2 => h2 σ G2 H2 a2 _ fun u M3 G3 H3 hk s3 a3 =>
    ⟨z, sb _ _ (ρ.mono _ _ _ (s2.trans s3) r1), szOf hz, q _ M3 _ G3 H3 hk (s1.trans (s2.trans s3)) a3 rfl⟩
theorem mtw_upper {s : Str} (hl : s.length ≤ 5592405) (k : Φ (RS (Txt.upper s)) M) : MtW E Γ M (fun x xs H Q => ∃ a, x = .str a ∧ xs = [] ∧ a.length ≤ 5592405 ∧ Q (.str (Txt.upper a)) H) (RS s) [] Φ := fun σ G H at_ x vs hx hv Q q => by
  match vs, hv with
  | [], _ => exact ⟨s, hx, rfl, hl, q _ _ _ _ _ k (Same.refl _) at_ rfl⟩
theorem opv_inS {neg : Bool} {x : Str} {ss : List Str} : OpV (rIn K neg) (RS x) (RLt (ss.map RS)) (RB (if neg then !ss.contains x else ss.contains x)) := fun v y G H s hx hy Q q => by
  obtain ⟨p, vs, rfl, hp, r⟩ := hy
  have hx : v = .str x := hx
  subst hx
  rw [reps_SV r] at hp
  refine ⟨p, ss.map V.str, rfl, .inl (SqL.of (s _ _ hp)), rfl, flat_strs ss, ?_⟩
  rw [inV_strs]
  exact q _ G H (New.refl s) rfl
end
theorem eqv_sr {a : Str} : PyData.eqv (.str a) (.str a) = true := by simp [PyData.eqv]
theorem strOk_join {y : Str} (hy : PyData.strOk y = true) : ∀ {l : List Str}, (∀ s ∈ l, PyData.strOk s = true) → PyData.strOk (Txt.join y l) = true := by
  intro l
  rw [TL.join_eq]
  induction l with
  | nil => intro _; exact (by decide +kernel : PyData.strOk Str.empty = true)
  | cons p l ih =>
    intro h
    cases l with
    | nil => exact h p List.mem_cons_self
    | cons q r =>
      show PyData.strOk (p ++ y ++ Str.join y (q :: r)) = true
      exact strOk_app (strOk_app (h p List.mem_cons_self) hy) (ih fun s hs => h s (List.mem_cons_of_mem _ hs))
theorem whT_ok {v : Wh} (h : WhOk v) : PyData.strOk (whT v) = true := strOk_join (by decide +kernel) fun s hs => h.ok s (fnL_in h s hs)
theorem cut_to {α : Type} {l : List α} {k : Nat} (h : k ≤ l.length) : cutL l none (some (k : Int)) = l.take k := by
  unfold cutL
  rw [HT.sIx_none, HT.sIx_nat, List.drop_zero, Nat.sub_zero, Nat.min_eq_left h]
theorem cut_on {α : Type} {l : List α} {k : Nat} (h : k ≤ l.length) : cutL l (some (k : Int)) none = l.drop k := by
  unfold cutL
  rw [HT.sIx_none, HT.sIx_nat, Nat.min_eq_left h]
  exact List.take_of_length_le (by rw [List.length_drop]; exact Nat.le_refl _)
end MM

namespace MM
open PySem L2 PyProof.Rows
/-! ### {x}, {x!r} of own instances -/
section
open PySem.W
variable {prog : Program} {w : World} {A : Around} {E : Value → Shared → Prop} {s : Shared} {K : PySem.W.Frag} {x C f : Addr} {ox : Obj} {od : Option Obj}
theorem reprObj_own {Q : Value → Shared → Prop} (hu : A.units < cLine) (X : K.In s.heap) (I : InstAt s.heap x ox C od) (hs : findIn K (.ref C) "__repr__" = some (some (.ref f))) (hf : isFn K (.ref f) = true)
    (h : wpAny (model prog w) A (call (.ref f) [.ref x]) (StrBack Q) E s) : wpAny (model prog w) A (pyReprObj (.ref x)) Q E s := by
  have last : wpAny (model prog w) A (callSpecialIfBound? (.ref x) (Str.ofString "__repr__") []) (fun r s' => ∃ y t, r = some (.str y t) ∧ Q (.str y t) s') E s := ifBound_K X I hs hf (wpAny_mono h (fun r s' hr => by cases r <;> first | exact hr.elim | exact ⟨_, _, rfl, hr⟩) fun _ _ z => z)
  unfold pyReprObj
  refine wpAny_bind (m := cRoomFor _ _) (wpAny_cRoomFor hu ?_)
  refine wpAny_bind (m := specialOf (.ref x) (Str.ofString "__repr__")) (wpAny_bind (I.type.here ((looks_findIn X hs).here ?_)))
  refine wpAny_bind (m := callSpecialIfBound? (.ref x) (Str.ofString "__repr__") []) (wpAny_mono last (fun r s' ⟨y, t, er, q⟩ => ?_) fun _ _ z => z)
  subst er
  refine wpAny_bind (wpAny_isInstance (T := "str") (b := true) (typeIs_str _ _ _) isSubtype_str_str ?_)
  exact wpAny_pure q
end
section
variable {X : Cx} {n : Nat} {C f a : Addr} {fd : FuncData} {ps : List Str} {sp : Sp} {e : Expr} {te : TE} {pos : Pos}
/-- {x}: by its own __str__ -/
theorem pe_fmtO (F : FnOk X.prog X.w X.K X.mg X.base CX0 n f fd ps sp) (hs : PySem.W.findIn X.K (.ref C) "__str__" = some (some (.ref f))) (hf : PySem.W.isFn X.K (.ref f) = true) (hb : Binds X.K fd ps [])
    (hm : PySem.W.findIn X.K (.ref C) "__format__" = some (some (.builtin "object.__format__"))) (ho : PySem.W.mroIn X.K C (.type "object") = some true) (hx : Passes CX0 X E0) (hr : Room (n + 1) X.A) (he : PE X e te) :
    PE X (.FormattedValue e (-1) none pos) (fun σ H Q => te σ H fun v H1 => rStrO C sp [v] H1 Q) := by
  refine ⟨fun pins s σ H Q I h => ?_⟩
  refine wpAny_FormattedValue_plain (thn (he.run pins s σ H _ I h) fun v s1 hv => ?_)
  obtain ⟨x, H1, I1, r1, a, dx, fs, ex, ha, q⟩ := hv
  cases ex
  cases (show v = Value.ref a from r1)
  obtain ⟨mA, J, _⟩ := ins_get I1.hok ha
  obtain ⟨od, J, _⟩ := J.look
  have hr1 : Room n X.A.in1 := Room.in1 hr
  have I2 : L2.Inv X pins σ H1 { s1 with toks := s1.toks + 1 } := I1.tok _
  exact PySem.W.kfo_fieldS hr1.units0 I1.kIn J hm ho hs hf (wpAny_mono (run_own F hb hr1 I2.env0.in1 hx I2 q) (fun w s' z => txBack z) fun _ _ x => x)
/-- {x!r}: by its own __repr__ -/
theorem pe_fmtOR (F : FnOk X.prog X.w X.K X.mg X.base CX0 n f fd ps sp) (hs : PySem.W.findIn X.K (.ref C) "__repr__" = some (some (.ref f))) (hf : PySem.W.isFn X.K (.ref f) = true) (hb : Binds X.K fd ps []) (hx : Passes CX0 X E0) (hr : Room n X.A) (he : PE X e te) :
    PE X (.FormattedValue e 114 none pos) (fun σ H Q => te σ H fun v H1 => rStrO C sp [v] H1 fun z H2 => ∃ y : Str, z = .str y ∧ y.length ≤ sizeLine ∧ Q (.str y) H2) := by
  refine ⟨fun pins s σ H Q I h => ?_⟩
  refine wpAny_FormattedValue_repr (thn (he.run pins s σ H _ I h) fun v s1 hv => ?_)
  obtain ⟨x, H1, I1, r1, a, dx, fs, ex, ha, q⟩ := hv
  cases ex
  cases (show v = Value.ref a from r1)
  obtain ⟨mA, J, _⟩ := ins_get I1.hok ha
  obtain ⟨od, J, _⟩ := J.look
  refine reprObj_own hr.units0 I1.kIn J hs hf (wpAny_mono (run_own F hb hr I1.env0 hx I1 q) (fun w s' z => ?_) fun _ _ x => x)
  obtain ⟨z1, H2, I2, rz, t, ez, y, ey, hl, qz⟩ := z
  subst ez
  cases ey
  obtain ⟨tk, e⟩ := (show ∃ tk, w = Value.str t tk from rz)
  cases e
  exact wpAny_formatField_str ⟨.str t, H2, I2, ⟨_, rfl⟩, qz⟩ ⟨.str t, H2, I2.tok _, ⟨_, rfl⟩, qz⟩ hl
end
section
variable {X : Cx} {E : En} {Γ : Gm} {M : Ow} {e : Expr} {pos p : Pos} {Φ : Rep → Ow → Prop} {k : Nat} {C : Addr} {c : Con}
theorem we_fmtO (F : KnO X.prog X.w X.K X.mg X.base k C "__str__" c) (hm : PySem.W.findIn X.K (.ref C) "__format__" = some (some (.builtin "object.__format__"))) (ho : PySem.W.mroIn X.K C (.type "object") = some true) (hr : Room (k + 1) X.A) (hx : Passes CX0 X E0)
    (h : WE X E Γ M e fun ρ M1 => (∃ l, MM.Sub ρ (RIns C l)) ∧ CallK c [ρ] M1 fun ρ' M' => (∃ t, MM.Sub ρ' (RS t)) ∧ Φ ρ' M') : WE X E Γ M (.FormattedValue e (-1) none pos) Φ := by
  obtain ⟨f, fd, ps, hs, hf, hb, ok⟩ := F
  refine we_of (pe_fmtO ok hs hf hb hm ho hx hr pe_w) fun σ G H a Q q => ?_
  exact h σ G H a _ fun ρ M1 v G1 H1 ⟨s1, ck⟩ sg a1 r1 => caw_own rfl s1 ck σ G1 H1 a1 [v] ⟨r1, trivial⟩ Q fun ρ' M2 v2 G2 H2 h2 s2 => q ρ' M2 v2 G2 H2 h2 (sg.trans s2)
theorem we_fmtOR (F : KnO X.prog X.w X.K X.mg X.base k C "__repr__" c) (hr : Room k X.A) (hx : Passes CX0 X E0)
    (h : WE X E Γ M e fun ρ M1 => (∃ l, MM.Sub ρ (RIns C l)) ∧ CallK c [ρ] M1 fun ρ' M' => ∃ t : Str, MM.Sub ρ' (RS t) ∧ t.length ≤ 100000 ∧ Φ (RS t) M') : WE X E Γ M (.FormattedValue e 114 none pos) Φ := by
  obtain ⟨f, fd, ps, hs, hf, hb, ok⟩ := F
  refine we_of (pe_fmtOR ok hs hf hb hx hr pe_w) fun σ G H a Q q => ?_
  refine h σ G H a _ fun ρ M1 v G1 H1 ⟨s1, ck⟩ sg a1 r1 => ?_
  refine caw_own (Φ := fun ρ' M' => ∃ t : Str, MM.Sub ρ' (RS t) ∧ t.length ≤ 100000 ∧ Φ (RS t) M') rfl s1 ?_ σ G1 H1 a1 [v] ⟨r1, trivial⟩ _ fun ρ' M2 v2 G2 H2 ⟨t, st, hl, hφ⟩ s2 a2 r2 => ?_
  · obtain ⟨i, rest, hp, sb, pk, hk⟩ := ck
    exact ⟨i, rest, hp, sb, pk, fun x px => ⟨⟨_, (hk x px).choose_spec.1⟩, hk x px⟩⟩
  · exact ⟨t, st _ _ r2, szOf hl, q (RS t) M2 _ G2 H2 hφ (sg.trans s2) a2 rfl⟩
end
end MM

/-! repr of lists of texts: what is told of the callers' guards goes down with the calls. -/
namespace MM
open PySem L2 PyProof.Rows
/-- a def's promise where no repr is under way -/
structure FnG (P : Program) (w : World) (K : PySem.W.Frag) (mg : Str → Option Value) (base : Heap) (k : Nat) (f : Addr) (fd : FuncData) (ps : List Str) (sp : Sp) : Prop where
  len : ∀ vs H Q EE, sp vs H Q EE → vs.length = ps.length
  go : ∀ (A : Around) (under : List Env) (s : Shared) (H : Hp) (args : Args) (us : List Value) (vs : List V) (Q : VK) (EE : XK), Room k A → A.guards = some [] → Env0 P w K mg base A under s H → BindsTo s fd args (ps.zip us) → Vals vs us → sp vs H Q EE →
    codeAny (model P w) A (.call (.ref f) args) (CR CX0 under P w H s Q EE) s
theorem fnG_of {P : Program} {w : World} {K : PySem.W.Frag} {mg : Str → Option Value} {base : Heap} {k : Nat} {f : Addr} {name qual : Str} {params : Arguments} {body : List Stmt} {scope : Scope} {dV kV doc pm cdv ct oc : Value} {an od : Option Addr}
    {osl : Array (Option Value)} {N ps : List Str} {sp : Sp} (kept : K.lookup f = some ⟨oc, od, .func (PySem.W.fnOf name qual params body scope dV kV doc pm an cdv ct), osl⟩) (ci : PySem.W.codeIn K cdv qual = true) (sc : FnScope N ps scope)
    (len : ∀ vs H Q EE, sp vs H Q EE → vs.length = ps.length)
    (runs : ∀ (A : Around) (under : List Env) (s : Shared) (H : Hp) (vs : List V) (Q : VK) (EE : XK), Room k (A.deeper (envOfC qual scope s.heap.objs.size f cdv)) → A.guards = some [] → sp vs H Q EE →
      ∃ t, PSs (cxOf CX0 P w K mg base N qual scope f cdv A under s H EE) body t ∧ t { nx := fun _ H' => Q .non H', rt := Q } (L2.start N vs) H) :
    FnG P w K mg base (k + 1) f (PySem.W.fnOf name qual params body scope dV kV doc pm an cdv ct) ps sp := by
  refine ⟨len, fun A under s H args us vs Q EE rm gd e0 bd rv want => ?_⟩
  have kin : K.In s.heap := e0.mod.kin.keeps fun b o e => (e0.bs b o e).1
  have nol : s.heap.NoLimit := e0.mod.nolimit.keeps fun b o e => (e0.bs b o e).1
  have kinds : ∀ y ∈ ps.zip us, scope.names.lookup y.1 = some .local ∨ (scope.names.lookup y.1 = some .cell ∧ ((cellsFrom (s.heap.objs.size + 1) scope.names []).lookup y.1).isSome = true) := fun ⟨m, v⟩ hy =>
    (sc.par m (List.of_mem_zip hy).1).elim .inl fun q => .inr ⟨q, PySem.W.cellsFrom_some _ _ _ (.inl q)⟩
  refine codeAny_call_function rm.depth (kin _ _ kept) rfl sc.co sc.gen rfl (PySem.W.codeRec_of kin ci) (bd _ _ _ _ (wpAny_newFunctionEnv_cells sc.kind kinds fun env he s1 x => ?_))
  subst he
  refine ⟨nol.keeps x.toInCall.keep, codeAny_func ?_⟩
  obtain ⟨t, ht, hq⟩ := runs A under s H vs Q EE (rm.deeper _) gd want
  refine wpAny_mono (ht.run [] s1 (L2.start N vs) H _ (inv_start sc rm.hd e0 (len _ _ _ _ want) rv x) hq) (fun fl s' hs => ?_) fun _ _ hs => hs
  cases fl with
  | brk =>
    obtain ⟨_, _, _, z⟩ := hs
    exact False.elim z
  | cont =>
    obtain ⟨_, _, _, z⟩ := hs
    exact False.elim z
  | next =>
    obtain ⟨_, H', J, z⟩ := hs
    exact ⟨V.non, H', J.os, J.bare, J.base, J.hok, rfl, z⟩
  | ret u =>
    obtain ⟨v, _, H', J, ru, z⟩ := hs
    exact ⟨v, H', J.os, J.bare, J.base, J.hok, ru, z⟩
theorem fn_conG {P : Program} {w : World} {K : PySem.W.Frag} {mg : Str → Option Value} {base : Heap} {x qual : Str} {st : Stmt} {dvs : List V} {f : Addr} {fd : FuncData} {N ps : List Str} {k : Nat} (c : Con) (F : FdD K x qual st dvs f fd) (S : FnScope N ps (defScope st)) (hl : ∀ i, (c.args i).length = ps.length)
    (h : ∀ (cd : Value) (A : Around) (outer : List Env) (s : Shared) (H : Hp) (EE : XK) (G : Hp) (i : c.I), c.pre i → Room k (A.deeper (PyProof.Rows.envOfC qual (defScope st) s.heap.objs.size f cd)) → A.guards = some [] → (∀ a ∈ (c.own i).map (·.1), H a ≠ none) →
      WSs (xd P w K mg base N qual (defScope st) f cd A outer s H EE) ⟨G, H, (c.own i).map (·.1)⟩ (startG N (c.args i)) (c.own i) (defBody st) (EdOf c i)) : FnG P w K mg base (k + 1) f fd ps (conSp c) := by
  obtain ⟨oc, od, dV, kV, doc, pm, an, cdv, ct, osl, rfl, lk, hcd, _, _⟩ := F.ex
  refine fnG_of lk hcd S (fun vs H Q EE hh => ?_) fun A outer s H vs Q EE hr gd hh => ?_
  · obtain ⟨G, i, _, _, r, _⟩ := hh
    exact (hl i) ▸ r.length.symm
  · obtain ⟨G, i, gh, hp, r, o1, o2, o3, kk⟩ := hh
    refine ⟨tWSs (xd P w K mg base N qual (defScope st) f cdv A outer s H EE) (defBody st), pss_w.nox, ?_⟩
    have a0 : At ⟨G, H, (c.own i).map (·.1)⟩ (startG N (c.args i)) (c.own i) (L2.start N vs) G H :=
      ⟨by simp [startG, L2.start, r.length], start_env r, gh, o1, o2, o3, Same.refl _, fun _ _ _ e => e, fun _ _ hg => hg, fun q hq => .inl (List.mem_map.mpr ⟨q, hq, rfl⟩), fun _ h => h⟩
    have fin : ∀ ρ M, Rt c i ρ M → ∀ v G' H', At ⟨G, H, (c.own i).map (·.1)⟩ [] M [] G' H' → ρ.p v G' → Q v H' := fun ρ M ⟨x, rest, px, sb, pk⟩ v G' H' a rv => kk x v G' H' px (a.aftOf pk) (sb _ _ rv)
    exact h cdv A outer s H EE G i hp hr gd a0.there0 (L2.start N vs) G H a0 _ ⟨fun Γ M h' σ G' H' _ a' => fin _ _ h' _ _ _ a'.env0 rfl, fun ρ M h' v G' H' _ a' rv => fin _ _ h' _ _ _ a' rv, fun _ _ h' => h'.elim, fun _ _ h' => h'.elim⟩
/-! ### calls -/
def KnG (P : Program) (w : World) (K : PySem.W.Frag) (mg : Str → Option Value) (base : Heap) (k : Nat) (x : Str) (c : Con) : Prop :=
  ∃ (f : Addr) (fd : FuncData) (ps : List Str), mg x = some (.ref f) ∧ PySem.W.keepIn K (.ref f) = true ∧ Binds K fd ps [] ∧ FnG P w K mg base k f fd ps (conSp c)
/-- an own method of one argument -/
def KnOG (P : Program) (w : World) (K : PySem.W.Frag) (mg : Str → Option Value) (base : Heap) (k : Nat) (C : Addr) (m : Str) (c : Con) : Prop :=
  ∃ (f : Addr) (fd : FuncData) (ps : List Str), PySem.W.findIn K (.ref C) m = some (some (.ref f)) ∧ PySem.W.isFn K (.ref f) = true ∧ Binds K fd ps [] ∧ FnG P w K mg base k f fd ps (conSp c)
section
variable {X : Cx} {n : Nat} {C f a : Addr} {fd : FuncData} {ps : List Str} {sp : Sp}
theorem run_G {A : Around} {pins : List (Addr × Obj)} {σ : L2.St} {H : Hp} {s : Shared} {Q : VK} {us : List Value} {vs : List V} (F : FnG X.prog X.w X.K X.mg X.base n f fd ps sp) (hb : Binds X.K fd ps []) (hr : Room n A) (gd : A.guards = some []) (e0 : Env0 X.prog X.w X.K X.mg X.base A X.stack s H) (hx : Passes CX0 X E0) (I : L2.Inv X pins σ H s) (r : Vals vs us) (h : sp vs H Q E0) :
    wpAny (model X.prog X.w) A (call (.ref f) us) (EP X pins σ Q) X.xe s := by
  have hl : us.length = ps.length := r.length.symm.trans (F.len _ _ _ _ h)
  have bd := hb s us I.kIn (by rw [List.append_nil]; exact hl)
  rw [List.append_nil] at bd
  refine wpAny_call (codeAny_mono (F.go A X.stack s H ⟨us, []⟩ us vs _ E0 hr gd e0 bd r h) fun res s' hq => ?_)
  cases res with
  | error e => exact hx pins σ H s e s' I hq
  | ok fl =>
    cases fl with
    | ret w => exact I.after hq
    | next => exact False.elim hq
    | brk => exact False.elim hq
    | cont => exact False.elim hq
theorem call_reprG (F : FnG X.prog X.w X.K X.mg X.base n f fd ps sp) (hs : PySem.W.findIn X.K (.ref C) "__repr__" = some (some (.ref f))) (hf : PySem.W.isFn X.K (.ref f) = true) (hb : Binds X.K fd ps []) (hx : Passes CX0 X E0) (hr : Room (n + 1) X.A) (gd : X.A.guards = some []) : CallR X (.builtin "repr") (rStrO C sp) := by
  intro pins s σ H xs us Q I r h
  obtain ⟨a, dx, fs, rfl, ha, q⟩ := h
  obtain ⟨u, rfl, ru⟩ := r.one
  cases (show u = Value.ref a from ru)
  obtain ⟨mA, J, _⟩ := ins_get I.hok ha
  obtain ⟨od, J, _⟩ := J.look
  have hr1 : Room n X.A.in1 := Room.in1 hr
  exact repr_own hr1.units0 I.kIn J hs hf (wpAny_mono (run_G F hb hr1 gd I.env0.in1 hx I (vs := [V.ref a]) (.cons (show RelV (V.ref a) (Value.ref a) from rfl) .nil) q) (fun w s' z => txBack z) fun _ _ x => x)
end
/-- the text of a list of texts -/
def rpL (l : List Str) : Str := PyData.shown (.list (l.map PyData.str))
section
variable {X : Cx} {E : En} {Γ : Gm} {M : Ow} {e : Expr} {es : List Expr} {pos p : Pos} {Φ : Rep → Ow → Prop} {k : Nat} {x : Str} {C : Addr} {c : Con}
theorem we_callG (F : KnG X.prog X.w X.K X.mg X.base k x c) (hr : Room k X.A) (gd : X.A.guards = some []) (hg : Gl X x) (hx : Passes CX0 X E0)
    (h : WA X E Γ M (e :: es) fun ρs M' => CallK c ρs M' Φ)
    (hdb : (x == ("__debug__" : Str)) = false := by decide) (he : starEach (e :: es) X.env = (false, eval e X.env) :: starEach es X.env := by rfl) (hpl : (backTo pos (starEach es X.env)).any (·.1) = false := by rfl) :
    WE X E Γ M (.Call (.Name x p) (e :: es) [] pos) Φ := by
  obtain ⟨f, fd, ps, hm, hk, hb, F⟩ := F
  refine we_of (t := fun σ H Q => tWA X (e :: es) σ H fun vs H1 => conSp c vs H1 Q E0) ⟨fun pins s σ H Q I h => ?_⟩ fun σ G H a Q q => ?_
  · refine wpAny_Call_Name_kw (ld_glob I hg hm ?_ hdb)
    exact PySem.W.callWith_K (h₀ := X.base) I.ok.mod.kin hk (thn (pa_w.run pos pins s σ H _ I h) fun us s1 ⟨vs, H1, I1, r, q⟩ => ⟨I1.kIn, run_G F hb hr gd I1.env0 hx I1 r q⟩) he hpl
  · exact h σ G H a _ fun ρs M1 vs G1 H1 hh s1 a1 r1 => callK_run hh a1 r1 fun ρ M2 v G2 H2 h2 s2 => q ρ M2 v G2 H2 h2 (s1.trans s2)
theorem we_reprOG (F : KnOG X.prog X.w X.K X.mg X.base k C "__repr__" c) (hr : Room (k + 1) X.A) (gd : X.A.guards = some []) (hg : Gl X "repr") (hm : X.mg "repr" = none) (hx : Passes CX0 X E0)
    (h : WE X E Γ M e fun ρ M1 => (∃ l, MM.Sub ρ (RIns C l)) ∧ CallK c [ρ] M1 fun ρ' M' => (∃ t, MM.Sub ρ' (RS t)) ∧ Φ ρ' M')
    (he : starEach [e] X.env = (false, eval e X.env) :: starEach [] X.env := by rfl) (hpl : (backTo pos (starEach [] X.env)).any (·.1) = false := by rfl) : WE X E Γ M (.Call (.Name "repr" p) [e] [] pos) Φ := by
  obtain ⟨f, fd, ps, hs, hf, hb, ok⟩ := F
  refine we_callB (call_reprG ok hs hf hb hx hr gd) hg hm (by decide +kernel) (wa_cons ?_ he) (by decide) (by decide) he hpl
  intro σ G H at_ Q q
  exact h σ G H at_ Q fun ρ M' v G' H' ⟨s1, ck⟩ => q ρ M' v G' H' (wa_nil (caw_own rfl s1 ck))
/-! ### repr of a list of texts -/
theorem reads_txts {h : Heap} : ∀ {l : List Str} {its : List Value}, Vals (l.map V.str) its → ReadsAll h its (l.map PyData.str) []
  | [], _, .nil => .nil
  | _ :: _, _, .cons r rs => by
    obtain ⟨tk, e⟩ := r
    subst e
    exact .cons (.str _ _) (reads_txts rs)
theorem show_txts : ∀ l : List Str, PyData.showable (.list (l.map PyData.str)) = true := fun l => by
  have k : PyData.showableAll (l.map PyData.str) = true := by
    induction l with
    | nil => rfl
    | cons x l ih => simp [PyData.showableAll, PyData.showable, ih]
  simp [PyData.showable, k]
theorem dict_txts : ∀ l : List Str, PyData.hasDict (.list (l.map PyData.str)) = false := fun l => by
  have k : PyData.hasDictAll (l.map PyData.str) = false := by
    induction l with
    | nil => rfl
    | cons x l ih => simp [PyData.hasDictAll, PyData.hasDict, ih]
  simp [PyData.hasDict, k]
theorem deep_txts : ∀ l : List Str, PyData.depth (.list (l.map PyData.str)) ≤ 1 := fun l => by
  have k : PyData.depthAll (l.map PyData.str) = 0 := by
    induction l with
    | nil => rfl
    | cons x l ih => simp [PyData.depthAll, PyData.depth, ih]
  simp [PyData.depth, k]
theorem reads_list {X : Cx} {pins : List (Addr × Obj)} {σ : L2.St} {H : Hp} {s : Shared} {b : Addr} {l : List Str} (I : L2.Inv X pins σ H s) (h : SqL X.K H b (l.map V.str)) : ∃ as, Reads s.heap (.ref b) (.list (l.map PyData.str)) as := by
  obtain ⟨its, r, ⟨o, n, e, hc, _, hd⟩, _⟩ := I.list h
  exact ⟨_, .list e hc hd (reads_txts (by simpa using r))⟩
def rReprL (K : PySem.W.Frag) : List V → Hp → VK → Prop := fun xs H Q => ∃ b l, xs = [.ref b] ∧ SqL K H b (l.map V.str) ∧ (rpL l).length ≤ sizeLine ∧ Q (.str (rpL l)) H
theorem call_reprL {X : Cx} (hu : X.A.units + 2 < cLine) (gd : X.A.guards = some []) : CallR X (.builtin "repr") (rReprL X.K) := by
  intro pins s σ H xs us Q I r h
  obtain ⟨b, l, rfl, hb, hz, q⟩ := h
  obtain ⟨u, rfl, ru⟩ := r.one
  cases (show u = Value.ref b from ru)
  obtain ⟨as, rd⟩ := reads_list I hb
  refine repr_of_reads' rd (show_txts l) (fun z => by rw [dict_txts] at z; cases z) gd (by have := deep_txts l; omega) (fun _ _ e => e) (fun h' u tk k => ?_) hz
  exact ⟨.str (rpL l), H, I.un (t' := tk) (Un.kept k) (I.hok.kept k), ⟨_, rfl⟩, q⟩
theorem pe_fmtLR {X : Cx} {e : Expr} {te : TE} {pos : Pos} (hu : X.A.units + 1 < cLine) (gd : X.A.guards = some []) (he : PE X e te) :
    PE X (.FormattedValue e 114 none pos) (fun σ H Q => te σ H fun v H1 => ∃ b l, v = .ref b ∧ SqL X.K H1 b (l.map V.str) ∧ (rpL l).length ≤ sizeLine ∧ Q (.str (rpL l)) H1) := by
  refine ⟨fun pins s σ H Q I h => ?_⟩
  refine wpAny_FormattedValue_repr (thn (he.run pins s σ H _ I h) fun v s1 hv => ?_)
  obtain ⟨y, H1, I1, r1, b, l, ey, hb, hz, q⟩ := hv
  cases ey
  cases (show v = Value.ref b from r1)
  obtain ⟨as, rd⟩ := reads_list I1 hb
  refine pyReprObj_of_reads rd (show_txts l) (fun z => by rw [dict_txts] at z; cases z) gd (by have := deep_txts l; omega) (fun _ _ e => e) (fun h' u tk k => ?_) hz
  have J := I1.un (t' := tk) (Un.kept k) (I1.hok.kept k)
  exact wpAny_formatField_str ⟨.str (rpL l), H1, J, ⟨_, rfl⟩, q⟩ ⟨.str (rpL l), H1, J.tok _, ⟨_, rfl⟩, q⟩ hz
/-- repr(a list of texts) -/
theorem we_reprL (hr : Room k X.A) (gd : X.A.guards = some []) (hg : Gl X "repr") (hm : X.mg "repr" = none)
    (h : WE X E Γ M e fun ρ M1 => ∃ l : List Str, Sub ρ (RL X.K (l.map RS)) ∧ (rpL l).length ≤ sizeLine ∧ Φ (RS (rpL l)) M1)
    (he : starEach [e] X.env = (false, eval e X.env) :: starEach [] X.env := by rfl) (hpl : (backTo pos (starEach [] X.env)).any (·.1) = false := by rfl) : WE X E Γ M (.Call (.Name "repr" p) [e] [] pos) Φ := by
  refine we_callB (call_reprL (by have := hr.un; omega) gd) hg hm (by decide +kernel) (wa_cons ?_ he) (by decide) (by decide) he hpl
  intro σ G H at_ Q q
  refine h σ G H at_ Q fun ρ M' v G' H' ⟨l, sb, hz, hk⟩ => q ρ M' v G' H' (wa_nil fun σ2 G2 H2 a2 vs hv Q2 q2 => ?_)
  match vs, hv with
  | [y], ⟨hv, _⟩ =>
    obtain ⟨b, ws, e1, h1, rr⟩ := sb _ _ hv
    subst e1
    rw [reps_SV rr] at h1
    exact ⟨b, l, rfl, Same.seq a2.gh h1, hz, q2 _ _ _ _ _ hk (Same.refl _) a2 rfl⟩
/-- {x!r} of a list of texts -/
theorem we_fmtLR (hr : Room k X.A) (gd : X.A.guards = some []) (h : WE X E Γ M e fun ρ M1 => ∃ l : List Str, Sub ρ (RL X.K (l.map RS)) ∧ (rpL l).length ≤ sizeLine ∧ Φ (RS (rpL l)) M1) : WE X E Γ M (.FormattedValue e 114 none pos) Φ :=
  we_of (pe_fmtLR (by have := hr.un; omega) gd pe_w) fun σ G H a Q q => h σ G H a _ fun ρ M1 v G1 H1 ⟨l, sb, hz, hk⟩ s1 a1 r1 => by
    obtain ⟨b, ws, e1, h1, rr⟩ := sb _ _ r1
    rw [reps_SV rr] at h1
    exact ⟨b, l, e1, Same.seq a1.gh h1, hz, q _ M1 _ G1 H1 hk s1 a1 rfl⟩
end
end MM

namespace MM
open PySem L2 PyProof.Rows
/-! ### the end of a law whose def knows that no repr is under way -/
section
variable {P : Program} {w : World} {K : PySem.W.Frag} {mg mb : Str → Option Value} {k : Nat} {fa a : Addr} {fd : FuncData} {x : Str} {sp : Sp} {s1 : Shared} {vs : List Value} {ns : List Int} {H : Hp}
/-- what the call leaves of what stood -/
theorem script_out (only : L2.Only H) (hok : HOk P w H s1.heap) {r : Result} {s' : Shared} (en : CR CX0 [] P w H s1 (fun v _ => v = .bl true) (fun _ _ _ => False) r s') :
    r = .ok (.ret (.bool true)) ∧ OldK s1.heap s'.heap ∧ s'.os = s1.os ∧ AllBare s'.gens := by
  match r, en with
  | .error _, en => exact False.elim en
  | .ok .brk, en => exact False.elim en
  | .ok .cont, en => exact False.elim en
  | .ok .next, en => exact False.elim en
  | .ok (.ret u), ⟨v, H2, os, bare, un, hok2, ru, ev⟩ =>
    cases (show v = V.bl true from ev)
    cases (show u = Value.bool true from ru)
    refine ⟨rfl, OldK.of_keep fun b o eb => ?_, os, bare⟩
    rcases only b with z | ⟨ob, zs, z⟩
    · exact un.keep b o eb z (fun y => absurd (show b ∈ ([] : List Addr) from y) (by simp)) (by simp)
    · have before := (hok b _ z).1
      have behind := (hok2 b _ (un.frzs b ob _ z)).1
      rw [eb] at before
      cases before
      exact behind
theorem script_run (kin : K.In s1.heap) (hns : s1.heap.Ns mainGlobals mg) (hmb : s1.heap.Ns builtinsNs mb) (hbb : ∀ x : Str, x ≠ "__name__" → mb x = bootBuiltins x) (lim : s1.heap.NoLimit) (hg : s1.gens = #[])
    (at_ : s1.heap.get? a = some { cls := .type "list", data := .seq vs.toArray }) (room : Room k callerA)
    (F : ∀ base : Heap, K.In base → base.Ns mainGlobals mg → FnG P w K mg base k fa fd [x] sp) (bind : ∀ (s : Shared) (u : Value), BindsTo s fd ⟨[u], []⟩ [(x, u)])
    (only : L2.Only H) (want : sp [.ref a] H (fun v _ => v = .bl true) fun _ _ _ => False) (hok : HOk P w H s1.heap) (alone : ∀ b, H b ≠ none → b = a) (mine : H a ≠ none → K.lookup a = none) :
    codeAny (model P w) callerA (.call (.ref fa) ⟨[.ref a], []⟩) (fun r s' => r = .ok (.ret (.bool true)) ∧ OldK s1.heap s'.heap ∧ s'.os = s1.os ∧ AllBare s'.gens) s1 := by
  have free : ∀ {b : Addr}, b ≠ a → H b = none := fun {b} n => by
    cases q : H b with
    | none => rfl
    | some u => exact absurd (alone b (by rw [q]; simp)) n
  have under : ∀ {b : Addr} {m : Str → Option Value}, s1.heap.Ns b m → (hidT s1.heap H).Ns b m := fun {b m} ⟨o, es, ep, eb, db, rest⟩ => by
    have n : b ≠ a := fun z => by
      rw [z, at_] at eb
      cases eb
      cases db
    exact ⟨o, es, ep, hidT_get eb (free n), db, rest⟩
  have kb : K.In (hidT s1.heap H) := fun b o eb => by
    refine hidT_get (kin b o eb) ?_
    by_cases n : b = a
    · cases q : H b with
      | none => rfl
      | some u =>
        rw [n] at q eb
        rw [mine (by rw [q]; simp)] at eb
        cases eb
    · exact free n
  obtain ⟨mc, l1, l2⟩ := lim
  have md : Mod K mg (hidT s1.heap H) := ⟨kb, under hns, ⟨mb, under hmb, hbb⟩, mc, under l1, l2⟩
  have e0 : Env0 P w K mg (hidT s1.heap H) callerA [] s1 H := { frames := rfl, mod := md, bs := fun b o eb => of_hidT eb, bsz := Nat.le_of_eq (hidT_size _ _), funs := trivial, frf := fun b hb => absurd (show b ∈ ([] : List Addr) from hb) (by simp), hok := hok, bare := .of_eq hg }
  exact codeAny_mono ((F _ kb (under hns)).go callerA [] s1 H ⟨[.ref a], []⟩ [.ref a] [.ref a] _ _ room rfl e0 (bind s1 (.ref a)) (.cons (show RelV (V.ref a) (Value.ref a) from rfl) .nil) want) fun r s' en => script_out only hok en
theorem law_callG (kin : K.In s1.heap) (hns : s1.heap.Ns mainGlobals mg) (hmb : s1.heap.Ns builtinsNs mb) (hbb : ∀ x : Str, x ≠ "__name__" → mb x = bootBuiltins x) (lim : s1.heap.NoLimit) (hg : s1.gens = #[])
    (at_ : s1.heap.get? a = some { cls := .type "list", data := .seq vs.toArray }) (hi : IntsAre vs ns) (few : ns.length ≤ sizeLine) (room : Room k callerA)
    (F : ∀ base : Heap, K.In base → base.Ns mainGlobals mg → FnG P w K mg base k fa fd [x] sp) (bind : ∀ (s : Shared) (u : Value), BindsTo s fd ⟨[u], []⟩ [(x, u)])
    (want : ∀ H : Hp, L2.Only H → SqL K H a (ns.map V.int) → sp [.ref a] H (fun v _ => v = .bl true) fun _ _ _ => False) :
    codeAny (model P w) callerA (.call (.ref fa) ⟨[.ref a], []⟩) (fun r s' => r = .ok (.ret (.bool true)) ∧ OldK s1.heap s'.heap ∧ s'.os = s1.os ∧ AllBare s'.gens) s1 := by
  have rv := vals_ints hi
  cases hk : K.lookup a with
  | some o =>
    have ek := kin a o hk
    rw [at_] at ek
    cases ek
    have none_ : L2.Only fun _ => none := fun _ => .inl rfl
    refine script_run kin hns hmb hbb lim hg at_ room F bind (H := fun _ => none) none_ (want _ none_ (.inr ⟨_, vs.toArray, _, hk, rfl, rfl, rfl, ?_, by simpa using rv⟩)) (fun b u z => ?_) (fun b z => absurd rfl z) fun z => absurd rfl z
    · rw [List.size_toArray, hi.length]
      exact few
    · cases (show (none : Option HO) = some u from z)
  | none =>
    obtain ⟨H, eH⟩ : ∃ H : Hp, H = fun b => if b = a then some (.frz { cls := .type "list", data := .seq vs.toArray } (.lst (ns.map V.int))) else none := ⟨_, rfl⟩
    have ha : H a = some (.frz { cls := .type "list", data := .seq vs.toArray } (.lst (ns.map V.int))) := by
      rw [eH]
      exact if_pos rfl
    have hb : ∀ b, b ≠ a → H b = none := fun b n => by
      rw [eH]
      exact if_neg n
    have only : L2.Only H := fun b => by
      by_cases n : b = a
      · rw [n]
        exact .inr ⟨_, _, ha⟩
      · exact .inl (hb b n)
    refine script_run kin hns hmb hbb lim hg at_ room F bind only (want H only (.inl (.inr ⟨_, ha⟩))) (fun b u z => ?_) (fun b z => ?_) fun _ => hk
    · by_cases n : b = a
      · subst n
        rw [ha] at z
        cases z
        exact ⟨at_, by rw [List.length_map]; exact few, vs, _, rv, at_⟩
      · rw [hb b n] at z
        cases z
    · by_cases n : b = a
      · exact n
      · exact absurd (hb b n) z
end
/-- the law's end -/
theorem walk_lawG {l : PySem.W.OpenLaw} {k : Nat} {q : Program} {loose : List Str} {XP : (Str → Option Value) → Heap → Prop} {YP : World → Heap → Prop} {d : DefRec} {K : Params → PySem.W.Frag} (hn : l.most = some 63) (hdf : d.params.defaults = []) (hr : Room k callerA)
    (hY : ∀ (w : World) (h : Heap), YP w h → (K w.params).In h)
    (F : ∀ (w : World) (mg : Str → Option Value) (fa : Addr) (h : Heap), (K w.params).In h → h.Ns mainGlobals mg → mg d.name = some (.ref fa) →
      ∃ fd : FuncData, (∀ (s : Shared) (u : Value), BindsTo s fd ⟨[u], []⟩ [("_law_script", u)]) ∧ ∀ base : Heap, (K w.params).In base → base.Ns mainGlobals mg → FnG l.prog w (K w.params) mg base k fa fd ["_law_script"] (conSp (con_law (K w.params)))) :
    PySem.W.WalkO q loose XP YP l.row.toRowW d [] (fun f vs => PySem.call f vs) := by
  refine Att.attach_call hn hdf fun w s0 s1 mg mb fa o pm cd doc a vs ns G Y ho hd hcd hmg hobj hints hlen hg => ?_
  obtain ⟨fd, hb, hF⟩ := F w mg fa _ (hY w _ Y) G.T.g hmg
  exact law_callG (hY w _ Y) G.T.g G.T.b G.T.builtins G.T.nolimit hg hobj hints (Nat.le_trans hlen (by decide)) hr hF hb fun H hO hS => law_start hS hlen fun _ => rfl
end MM

namespace MM
open PySem L2 PyProof.Rows
/-! ### == by an own __eq__, whatever it tells -/
def rEqO (C : Addr) (sp : Sp) : R2 := fun x y H Q => ∃ (a b dx dy : Addr) (fs gs : List (Str × V)), x = .ref a ∧ y = .ref b ∧ H a = some (.ins C dx fs) ∧ H b = some (.ins C dy gs) ∧ sp [.ref a, .ref b] H (fun v H' => (∃ k, v = .bl k) ∧ Q v H') E0
theorem op_eqO {X : Cx} {n : Nat} {C f : Addr} {fd : FuncData} {ps : List Str} {sp : Sp} (F : FnOk X.prog X.w X.K X.mg X.base CX0 n f fd ps sp) (hs : PySem.W.findIn X.K (.ref C) "__eq__" = some (some (.ref f))) (hf : PySem.W.isFn X.K (.ref f) = true) (hb : Binds X.K fd ps []) (hx : Passes CX0 X E0) (hr : Room n X.A) : OpR X (compareOp .Eq) (rEqO C sp) := by
  intro pins s σ H x y v u Q I rx ry hq
  obtain ⟨a, b, dx, dy, fs, gs, rfl, rfl, ha, hb', hsp⟩ := hq
  cases rx
  cases ry
  show wpAny (model X.prog X.w) X.A (richCompare .Eq _ _) (EP X pins σ Q) X.xe s
  obtain ⟨mA, J, _⟩ := ins_get I.hok ha
  obtain ⟨mB, J', _⟩ := ins_get I.hok hb'
  obtain ⟨od, J, _⟩ := J.look
  obtain ⟨od', J', _⟩ := J'.look
  obtain ⟨m, hF⟩ := I.fr
  refine PySem.W.cmp_K (op := .Eq) (tb := .ref C) hr.units0 hF I.ok.mod.kin J J'.type (by simp [PySem.W.notFirst]) hs hf ?_
  have hl := F.len _ _ _ _ hsp
  have r2 : Vals [V.ref a, V.ref b] [Value.ref a, Value.ref b] := .cons rfl (.cons rfl .nil)
  refine wpAny_call (codeAny_mono (F.run X.A X.stack s H ⟨[.ref a, .ref b], []⟩ [.ref a, .ref b] [.ref a, .ref b] _ E0 hr I.env0 (by
    have := hb s [.ref a, .ref b] I.kIn (by simpa using hl)
    simpa using this) r2 hsp) fun r s' hq => ?_)
  cases r with
  | error e => exact hx pins σ H s e s' I hq
  | ok fl =>
    cases fl with
    | ret w =>
      obtain ⟨z, H', I', rz, ez, qz⟩ := I.after hq
      obtain ⟨k, ek⟩ := ez
      subst ek
      cases rz
      exact ⟨.bl k, H', I', rfl, qz⟩
    | next => exact False.elim hq
    | brk => exact False.elim hq
    | cont => exact False.elim hq
section
variable {X : Cx} {E : En} {Γ : Gm} {M : Ow} {a b : Expr} {pos : Pos} {Φ : Rep → Ow → Prop} {k : Nat} {C : Addr} {c : Con}
theorem opw_eqO {sp : Sp} {ρa ρb : Rep} (hsp : sp = conSp c) (s1 : ∃ l, MM.Sub ρa (RIns C l)) (s2 : ∃ l, MM.Sub ρb (RIns C l)) (ck : CallK c [ρa, ρb] M fun ρ M' => (∃ k, MM.Sub ρ (RB k)) ∧ Φ ρ M') : OpW E Γ M (rEqO C sp) ρa ρb Φ := fun σ3 G4 H4 at3 x y hx hy Q3 q3 => by
  subst hsp
  obtain ⟨l, s1⟩ := s1
  obtain ⟨l', s2⟩ := s2
  obtain ⟨b1, dx, fs, e1, h1, r1⟩ := s1 _ _ hx
  obtain ⟨b2, dy, gs, e2, h2, r2⟩ := s2 _ _ hy
  have cr := callK_run (EE := E0) (Q := fun v H' => (∃ k, v = .bl k) ∧ Q3 v H') ck at3 (vs := [x, y]) ⟨hx, hy, trivial⟩ fun ρ4 M4 v4 G5 H5 ⟨⟨k, sk⟩, hφ⟩ s4 a4 r4 => ⟨⟨k, sk _ _ r4⟩, q3 ρ4 M4 v4 G5 H5 hφ s4 a4 r4⟩
  subst e1 e2
  exact ⟨b1, b2, dx, dy, fs, gs, rfl, rfl, at3.gh _ _ h1, at3.gh _ _ h2, cr⟩
theorem we_eqO (F : KnE X.prog X.w X.K X.mg X.base k C c) (hr : Room k X.A) (hx : Passes CX0 X E0)
    (h : WE X E Γ M a fun ρa Ma => WE X E Γ Ma b fun ρb Mb => (∃ l, MM.Sub ρa (RIns C l)) ∧ (∃ l, MM.Sub ρb (RIns C l)) ∧ CallK c [ρa, ρb] Mb fun ρ M' => (∃ k, MM.Sub ρ (RB k)) ∧ Φ ρ M') (hm : behindInMarks .Eq b = false := by exact nomark _) : WE X E Γ M (.Compare a [.Eq] [b] pos) Φ := by
  obtain ⟨f, fd, ps, hs, hf, hb, ok⟩ := F
  refine we_cmp (op_eqO ok hs hf hb hx hr) hm ?_
  intro σ G H at_ Q q
  refine h σ G H at_ Q fun ρ M' v G' H' hh => q ρ M' v G' H' ?_
  intro σ2 G2 H2 at2 Q2 q2
  exact hh σ2 G2 H2 at2 Q2 fun ρ2 M2 v2 G3 H3 ⟨s1, s2, ck⟩ => q2 ρ2 M2 v2 G3 H3 (opw_eqO rfl s1 s2 ck)
theorem wt_eqO {Φ : Bool → Ow → Prop} (F : KnE X.prog X.w X.K X.mg X.base k C c) (hr : Room k X.A) (hx : Passes CX0 X E0)
    (h : WE X E Γ M a fun ρa Ma => WE X E Γ Ma b fun ρb Mb => (∃ l, MM.Sub ρa (RIns C l)) ∧ (∃ l, MM.Sub ρb (RIns C l)) ∧ CallK c [ρa, ρb] Mb fun ρ M' => ∃ k, MM.Sub ρ (RB k) ∧ Φ k M') (hm : behindInMarks .Eq b = false := by exact nomark _) : WT X E Γ M (.Compare a [.Eq] [b] pos) Φ := by
  obtain ⟨f, fd, ps, hs, hf, hb, ok⟩ := F
  refine wt_cmp (op_eqO ok hs hf hb hx hr) hm ?_
  intro σ G H at_ Q q
  refine h σ G H at_ Q fun ρ M' v G' H' hh => q ρ M' v G' H' ?_
  intro σ2 G2 H2 at2 Q2 q2
  refine hh σ2 G2 H2 at2 Q2 fun ρ2 M2 v2 G3 H3 ⟨s1, s2, i, rest, hp, sb, pk, hk⟩ => q2 ρ2 M2 v2 G3 H3 (opw_eqO rfl s1 s2 ⟨i, rest, hp, sb, pk, fun x px => ?_⟩)
  obtain ⟨k, sk, hφ⟩ := hk x px
  exact ⟨⟨k, sk⟩, k, sk, hφ⟩
end
end MM

namespace MM
open PySem L2 PyProof.Rows
open PySem.W
section
variable {prog : Program} {w : World} {A : Around} {E : Value → Shared → Prop} {s : Shared} {K : PySem.W.Frag} {x C L f : Addr} {h₀ : Heap} {m : Str → Option Value} {ox : Obj} {od : Option Obj} {b : Value}
theorem check_K {M : Model} {rest : List Value} {Q : Unit → Shared → Prop} (X : K.In s.heap) (I : InstAt s.heap x ox C od) (hsub : subIn K (.ref C) (.type "object") = some true) (ha : argsOk "object.__ne__" ⟨.ref x :: rest, []⟩) (hq : Q () s) :
    wpAny M A (checkBuiltinCall "object.__ne__" ⟨.ref x :: rest, []⟩) Q E s := by
  simp only [checkBuiltinCall, PySem.F.cmpKind_ne, PySem.F.cmpSplit_ne]
  refine wpAny_bind ?_
  · unfold isInstance
    refine wpAny_bind (I.type.here ((looks_subIn X hsub).here ?_))
    simp only [Bool.not_true, Bool.false_eq_true, if_false]
    cases hsig : Manifest.signature? "object.__ne__" with
    | none => exact wpAny_pure hq
    | some sig =>
      simp only [argsOk, hsig] at ha
      have h2 : Bind.checkArgs "object.__ne__" sig ⟨.ref x :: rest, []⟩ = pure () := ha
      show wpAny M A (Bind.checkArgs "object.__ne__" sig ⟨.ref x :: rest, []⟩) Q E _
      rw [h2]; exact wpAny_pure hq
/-- the body of the default != -/
theorem body_K {Q : Fin → Shared → Prop} (hu : A.units < cLine) (X : K.In s.heap) (I : InstAt s.heap x ox C od) (hs : findIn K (.ref C) "__eq__" = some (some (.ref f))) (hf : isFn K (.ref f) = true)
    (hcall : wpAny (model prog w) A (call (.ref f) [.ref x, b]) (fun v s' => ∃ k, v = .bool k ∧ Q (.done (.ret (.bool (!k)))) s') E s) :
    wpAny (model prog w) A (Builtin.«object.__ne__» ⟨[.ref x, b], []⟩) Q E s := by
  unfold Builtin.«object.__ne__»
  repeat (first
    | with_reducible refine wpAny_cRoomFor hu ?_
    | (refine wpAny_bind (m := callSpecialIfBound? (.ref x) (Str.ofString "__eq__") [b])
        (ifBound_K X I hs hf (wpAny_mono hcall (fun r s' hr => by
          obtain ⟨k, rfl, hq⟩ := hr
          repeat (first | exact hq | exact wpAny_pure hq | exact wpAny_truthy_bool hq | (refine wpAny_bind (m := truthy (.bool _)) (wpAny_truthy_bool ?_)) | wp_step)) fun _ _ e => e)))
    | wp_step)
theorem ne_bound {Q : Option Value → Shared → Prop} (hu : A.units + 1 < cLine) (X : K.In s.heap) (I : InstAt s.heap x ox C od) (hne : findIn K (.ref C) "__ne__" = some (some (.builtin "object.__ne__"))) (hsub : subIn K (.ref C) (.type "object") = some true)
    (hcall : wpAny (model prog w) A (call (.builtin "object.__ne__") [.ref x, b]) (fun v => Q (some v)) E s) : wpAny (model prog w) A (callSpecialIfBound? (.ref x) "__ne__" [b]) Q E s := by
  simp only [callSpecialIfBound?, bindSpecialIfBound?]
  refine wpAny_holding (wpAny_bind (wpAny_bind (wpAny_bind (I.type.here ((looks_findIn X hne).here ?_)))))
  simp only [PySem.F.cmp_object.ne.bind]
  refine wpAny_bind (wpAny_askSetting (wpAny_ite ?_))
  have fin : wpAny (model prog w) A (call (.builtin "object.__ne__") ([.ref x] ++ [b]) >>= fun v => pure (some v)) Q E s :=
    wpAny_bind (wpAny_mono hcall (fun v s' h' => wpAny_pure h') fun _ _ h' => h')
  split
  · exact wpAny_bind (wpAny_pure (wpAny_pure fin))
  · exact wpAny_tryCatch (wpAny_bind (wpAny_pure (wpAny_pure fin)))
theorem ne_K {Q : Value → Shared → Prop} (hu : A.units + 1 < cLine) (F : Fr h₀ L s.heap m) (X₀ : K.In h₀) (I : InstAt s.heap x ox C od) (hb : Looks (model prog w) s.heap (typeOf b) (.ref C)) (hne : findIn K (.ref C) "__ne__" = some (some (.builtin "object.__ne__"))) (hsub : subIn K (.ref C) (.type "object") = some true)
    (hs : findIn K (.ref C) "__eq__" = some (some (.ref f))) (hf : isFn K (.ref f) = true)
    (h : wpAny (model prog w) A.in1 (call (.ref f) [.ref x, b]) (fun v s' => ∃ k, v = .bool k ∧ Q (.bool (!k)) s') E s) : wpAny (model prog w) A (richCompare .NotEq (.ref x) b) Q E s := by
  have X := X₀.keeps F.keep
  have one : wpAny (model prog w) A (tryCompare (.ref x) "__ne__" b) (fun r s' => ∃ v, r = some v ∧ Q v s') E s := by
    simp only [tryCompare]
    refine wpAny_bind (ne_bound hu X I hne hsub (wpAny_call (codeAny_call_builtin PySem.F.cmp_object.ne.plain PySem.F.cmpEntry_ne (check_K X I hsub (PySem.F.cmpArgs_ne _ _) (body_K (A := A.in1) ?_ X I hs hf (wpAny_mono h (fun v s' hv => ?_) fun _ _ e => e))))))
    · exact hu
    · obtain ⟨k, rfl, hq⟩ := hv
      first | exact ⟨k, rfl, wpAny_pure ⟨_, rfl, hq⟩⟩ | exact ⟨k, rfl, wpAny_pure (wpAny_pure ⟨_, rfl, hq⟩)⟩
  unfold richCompare
  simp only [oneThing_ref]
  refine wpAny_holding (wpAny_bind (wpAny_cRoomFor (Nat.lt_of_succ_lt hu) ?_))
  refine wpAny_bind (I.type.here (wpAny_bind (hb.here ?_)))
  rw [show (Value.ref C != Value.ref C) = false from by simp]
  simp only [Bool.false_eq_true, if_false]
  refine wpAny_bind (wpAny_pure ?_)
  simp only [Bool.false_eq_true, if_false]
  refine wpAny_bind (wpAny_mono one (fun r s' z => ?_) fun _ _ e => e)
  obtain ⟨v, rfl, hq⟩ := z
  exact wpAny_pure hq
end
/-! ### != by an own __eq__ -/
def rNeO (C : Addr) (sp : Sp) : R2 := fun x y H Q => ∃ (a b dx dy : Addr) (fs gs : List (Str × V)), x = .ref a ∧ y = .ref b ∧ H a = some (.ins C dx fs) ∧ H b = some (.ins C dy gs) ∧ sp [.ref a, .ref b] H (fun v H' => ∃ k, v = .bl k ∧ Q (.bl (!k)) H') E0
theorem op_neO {X : Cx} {n : Nat} {C f : Addr} {fd : FuncData} {ps : List Str} {sp : Sp} (F : FnOk X.prog X.w X.K X.mg X.base CX0 n f fd ps sp) (hs : PySem.W.findIn X.K (.ref C) "__eq__" = some (some (.ref f))) (hf : PySem.W.isFn X.K (.ref f) = true) (hb : Binds X.K fd ps []) (hne : findIn X.K (.ref C) "__ne__" = some (some (.builtin "object.__ne__"))) (hsub : subIn X.K (.ref C) (.type "object") = some true) (hx : Passes CX0 X E0) (hr : Room (n + 1) X.A) : OpR X (compareOp .NotEq) (rNeO C sp) := by
  intro pins s σ H x y v u Q I rx ry hq
  obtain ⟨a, b, dx, dy, fs, gs, rfl, rfl, ha, hb', hsp⟩ := hq
  cases rx
  cases ry
  show wpAny (model X.prog X.w) X.A (richCompare .NotEq _ _) (EP X pins σ Q) X.xe s
  obtain ⟨mA, J, _⟩ := ins_get I.hok ha
  obtain ⟨mB, J', _⟩ := ins_get I.hok hb'
  obtain ⟨od, J, _⟩ := J.look
  obtain ⟨od', J', _⟩ := J'.look
  obtain ⟨m, hF⟩ := I.fr
  refine ne_K hr.in1.units0 hF I.ok.mod.kin J J'.type hne hsub hs hf ?_
  have hl := F.len _ _ _ _ hsp
  have r2 : Vals [V.ref a, V.ref b] [Value.ref a, Value.ref b] := .cons rfl (.cons rfl .nil)
  refine wpAny_call (codeAny_mono (F.run X.A.in1 X.stack s H ⟨[.ref a, .ref b], []⟩ [.ref a, .ref b] [.ref a, .ref b] _ E0 hr.in1 I.env0.in1 (by
    have := hb s [.ref a, .ref b] I.kIn (by simpa using hl)
    simpa using this) r2 hsp) fun r s' hq => ?_)
  cases r with
  | error e => exact hx pins σ H s e s' I hq
  | ok fl =>
    cases fl with
    | ret w =>
      obtain ⟨z, H', I', rz, ez⟩ := I.after hq
      obtain ⟨k, ek, qz⟩ := ez
      subst ek
      cases rz
      exact ⟨k, rfl, .bl (!k), H', I', rfl, qz⟩
    | next => exact False.elim hq
    | brk => exact False.elim hq
    | cont => exact False.elim hq
structure KnN (P : Program) (w : World) (K : PySem.W.Frag) (mg : Str → Option Value) (base : Heap) (k : Nat) (C : Addr) (c : Con) : Prop where
  eq : KnE P w K mg base k C c
  ne : findIn K (.ref C) "__ne__" = some (some (.builtin "object.__ne__"))
  sub : subIn K (.ref C) (.type "object") = some true
section
variable {X : Cx} {E : En} {Γ : Gm} {M : Ow} {a b : Expr} {pos : Pos} {k : Nat} {C : Addr} {c : Con}
theorem wt_neO {Φ : Bool → Ow → Prop} (F : KnN X.prog X.w X.K X.mg X.base k C c) (hr : Room (k + 1) X.A) (hx : Passes CX0 X E0)
    (h : WE X E Γ M a fun ρa Ma => WE X E Γ Ma b fun ρb Mb => (∃ l, MM.Sub ρa (RIns C l)) ∧ (∃ l, MM.Sub ρb (RIns C l)) ∧ CallK c [ρa, ρb] Mb fun ρ M' => ∃ k, MM.Sub ρ (RB k) ∧ Φ (!k) M') (hm : behindInMarks .NotEq b = false := by exact nomark _) : WT X E Γ M (.Compare a [.NotEq] [b] pos) Φ := by
  obtain ⟨⟨f, fd, ps, hs, hf, hb, ok⟩, hne, hsub⟩ := F
  refine wt_cmp (op_neO ok hs hf hb hne hsub hx hr) hm ?_
  intro σ G H at_ Q q
  refine h σ G H at_ Q fun ρ M' v G' H' hh => q ρ M' v G' H' ?_
  intro σ2 G2 H2 at2 Q2 q2
  refine hh σ2 G2 H2 at2 Q2 fun ρ2 M2 v2 G3 H3 ⟨⟨l, s1⟩, ⟨l', s2⟩, ck⟩ => q2 ρ2 M2 v2 G3 H3 ?_
  intro σ3 G4 H4 at3 x y hx' hy' Q3 q3
  obtain ⟨b1, dx, fs, e1, h1, r1⟩ := s1 _ _ hx'
  obtain ⟨b2, dy, gs, e2, h2, r2⟩ := s2 _ _ hy'
  have cr := callK_run (EE := E0) (Q := fun v H' => ∃ k, v = .bl k ∧ Q3 (.bl (!k)) H') ck at3 (vs := [x, y]) ⟨hx', hy', trivial⟩ fun ρ4 M4 v4 G5 H5 ⟨k, sk, hφ⟩ s4 a4 r4 => ⟨k, sk _ _ r4, q3 (RB (!k)) M4 _ G5 H5 ⟨!k, Sub.rfl, hφ⟩ s4 a4 rfl⟩
  subst e1 e2
  exact ⟨b1, b2, dx, dy, fs, gs, rfl, rfl, at3.gh _ _ h1, at3.gh _ _ h2, cr⟩
end
end MM

namespace MM
open PySem L2 PyProof.Rows
/-! ### an own instance beside a thing of a built-in type -/
section
open PySem.W
variable {prog : Program} {w : World} {A : Around} {E : Value → Shared → Prop} {s : Shared} {K : PySem.W.Frag} {x C L f : Addr} {h₀ : Heap} {m : Str → Option Value} {ox : Obj} {od : Option Obj} {b tb : Value}
/-- the default != of an own thing and another -/
theorem ne_KF {Q : Value → Shared → Prop} (hu : A.units + 1 < cLine) (F : Fr h₀ L s.heap m) (X₀ : K.In h₀) (I : InstAt s.heap x ox C od) (hb : Looks (model prog w) s.heap (typeOf b) tb) (hn : notFirst K C tb = true) (hne : findIn K (.ref C) "__ne__" = some (some (.builtin "object.__ne__"))) (hsub : subIn K (.ref C) (.type "object") = some true)
    (hs : findIn K (.ref C) "__eq__" = some (some (.ref f))) (hf : isFn K (.ref f) = true)
    (h : wpAny (model prog w) A.in1 (call (.ref f) [.ref x, b]) (fun v s' => ∃ k, v = .bool k ∧ Q (.bool (!k)) s') E s) : wpAny (model prog w) A (richCompare .NotEq (.ref x) b) Q E s := by
  have X := X₀.keeps F.keep
  have one : wpAny (model prog w) A (tryCompare (.ref x) "__ne__" b) (fun r s' => ∃ v, r = some v ∧ Q v s') E s := by
    simp only [tryCompare]
    refine wpAny_bind (ne_bound hu X I hne hsub (wpAny_call (codeAny_call_builtin PySem.F.cmp_object.ne.plain PySem.F.cmpEntry_ne (check_K X I hsub (PySem.F.cmpArgs_ne _ _) (body_K (A := A.in1) ?_ X I hs hf (wpAny_mono h (fun v s' hv => ?_) fun _ _ e => e))))))
    · exact hu
    · obtain ⟨k, rfl, hq⟩ := hv
      first | exact ⟨k, rfl, wpAny_pure ⟨_, rfl, hq⟩⟩ | exact ⟨k, rfl, wpAny_pure (wpAny_pure ⟨_, rfl, hq⟩)⟩
  unfold richCompare
  simp only [oneThing_ref]
  refine wpAny_holding (wpAny_bind (wpAny_cRoomFor (Nat.lt_of_succ_lt hu) ?_))
  refine wpAny_bind (I.type.here (wpAny_bind (hb.here ?_)))
  have tail : wpAny (model prog w) A (tryCompare (.ref x) "__ne__" b >>= fun r => match r with
      | some v => pure v
      | none => pure (Value.bool false)) Q E s := wpAny_bind (wpAny_mono one (fun r s' z => by obtain ⟨v, rfl, hq⟩ := z; exact wpAny_pure hq) fun _ _ e => e)
  split
  · rename_i q
    have e : subIn K tb (.ref C) = some false := by
      rcases Bool.or_eq_true_iff.mp hn with e | e
      · rw [beq_iff_eq.mp e] at q; simp at q
      · exact beq_iff_eq.mp e
    refine wpAny_bind ((looks_subIn X e).here ?_)
    simp only [Bool.false_eq_true, if_false]
    refine wpAny_bind (wpAny_mono one (fun r s' z => ?_) fun _ _ e => e)
    obtain ⟨v, rfl, hq⟩ := z
    exact wpAny_pure hq
  · refine wpAny_bind (wpAny_pure ?_)
    simp only [Bool.false_eq_true, if_false]
    refine wpAny_bind (wpAny_mono one (fun r s' z => ?_) fun _ _ e => e)
    obtain ⟨v, rfl, hq⟩ := z
    exact wpAny_pure hq
end
theorem notF {K : PySem.W.Frag} {C : Addr} {t : Value} (h : PySem.W.subIn K t (.ref C) = some false) : PySem.W.notFirst K C t = true := by
  unfold PySem.W.notFirst
  rw [h]
  simp
/-- own == other, own != other: by the own __eq__ -/
def rFrg (K : PySem.W.Frag) (C : Addr) (sp : Sp) (g : Bool → Bool) : R2 := fun x y H Q => ∃ (a dx : Addr) (fs : List (Str × V)) (t : Value), x = .ref a ∧ H a = some (.ins C dx fs) ∧ TyX K H y t ∧ PySem.W.subIn K t (.ref C) = some false ∧ sp [x, y] H (fun v H' => ∃ k, v = .bl k ∧ Q (.bl (g k)) H') E0
section
variable {X : Cx} {n : Nat} {C f : Addr} {fd : FuncData} {ps : List Str} {sp : Sp}
theorem run_eq2 {A : Around} {pins : List (Addr × Obj)} {σ : L2.St} {H : Hp} {s : Shared} {x y : V} {u v : Value} {R : Value → Shared → Prop} {Q : VK} (F : FnOk X.prog X.w X.K X.mg X.base CX0 n f fd ps sp) (hb : Binds X.K fd ps []) (hx : Passes CX0 X E0) (hr : Room n A) (e0 : Env0 X.prog X.w X.K X.mg X.base A X.stack s H) (I : L2.Inv X pins σ H s) (rx : RelV x u) (ry : RelV y v)
    (hsp : sp [x, y] H Q E0) (k : ∀ z s' w, RelV z w → (∃ H', L2.Inv X pins σ H' s' ∧ Q z H') → R w s') : wpAny (model X.prog X.w) A (call (.ref f) [u, v]) R X.xe s := by
  have hl := F.len _ _ _ _ hsp
  have r2 : Vals [x, y] [u, v] := .cons rx (.cons ry .nil)
  refine wpAny_call (codeAny_mono (F.run A X.stack s H ⟨[u, v], []⟩ [u, v] [x, y] _ E0 hr e0 (by
    have := hb s [u, v] I.kIn (by simpa using hl)
    simpa using this) r2 hsp) fun r s' hq => ?_)
  cases r with
  | error e => exact hx pins σ H s e s' I hq
  | ok fl =>
    cases fl with
    | ret w =>
      obtain ⟨z, H', I', rz, q⟩ := I.after hq
      exact k z s' w rz ⟨H', I', q⟩
    | next => exact False.elim hq
    | brk => exact False.elim hq
    | cont => exact False.elim hq
theorem op_eqF (F : FnOk X.prog X.w X.K X.mg X.base CX0 n f fd ps sp) (hs : PySem.W.findIn X.K (.ref C) "__eq__" = some (some (.ref f))) (hf : PySem.W.isFn X.K (.ref f) = true) (hb : Binds X.K fd ps []) (hx : Passes CX0 X E0) (hr : Room n X.A) : OpR X (compareOp .Eq) (rFrg X.K C sp id) := by
  intro pins s σ H x y v u Q I rx ry hq
  obtain ⟨a, dx, fs, t, rfl, ha, ty, hsub, hsp⟩ := hq
  cases rx
  show wpAny (model X.prog X.w) X.A (richCompare .Eq _ _) (EP X pins σ Q) X.xe s
  obtain ⟨mA, J, _⟩ := ins_get I.hok ha
  obtain ⟨od, J, _⟩ := J.look
  obtain ⟨m, hF⟩ := I.fr
  obtain ⟨P, Z, p, _⟩ := kit_of I ry ty
  refine PySem.W.cmp_K (op := .Eq) hr.units0 hF I.ok.mod.kin J (Z.ty _ _ I.kIn p) (notF hsub) hs hf ?_
  refine run_eq2 F hb hx hr I.env0 I (show RelV (V.ref a) (Value.ref a) from rfl) ry hsp fun z s' w rz ⟨H', I', k, ez, q⟩ => ?_
  subst ez
  cases rz
  exact ⟨.bl k, H', I', rfl, q⟩
theorem op_neF (F : FnOk X.prog X.w X.K X.mg X.base CX0 n f fd ps sp) (hs : PySem.W.findIn X.K (.ref C) "__eq__" = some (some (.ref f))) (hf : PySem.W.isFn X.K (.ref f) = true) (hb : Binds X.K fd ps []) (hne : PySem.W.findIn X.K (.ref C) "__ne__" = some (some (.builtin "object.__ne__"))) (hso : PySem.W.subIn X.K (.ref C) (.type "object") = some true) (hx : Passes CX0 X E0) (hr : Room (n + 1) X.A) : OpR X (compareOp .NotEq) (rFrg X.K C sp not) := by
  intro pins s σ H x y v u Q I rx ry hq
  obtain ⟨a, dx, fs, t, rfl, ha, ty, hsub, hsp⟩ := hq
  cases rx
  show wpAny (model X.prog X.w) X.A (richCompare .NotEq _ _) (EP X pins σ Q) X.xe s
  obtain ⟨mA, J, _⟩ := ins_get I.hok ha
  obtain ⟨od, J, _⟩ := J.look
  obtain ⟨m, hF⟩ := I.fr
  obtain ⟨P, Z, p, _⟩ := kit_of I ry ty
  refine ne_KF hr.in1.units0 hF I.ok.mod.kin J (Z.ty _ _ I.kIn p) (notF hsub) hne hso hs hf ?_
  refine run_eq2 F hb hx hr.in1 I.env0.in1 I (show RelV (V.ref a) (Value.ref a) from rfl) ry hsp fun z s' w rz ⟨H', I', k, ez, q⟩ => ?_
  subst ez
  cases rz
  exact ⟨k, rfl, .bl (!k), H', I', rfl, q⟩
end
end MM

namespace MM
open PySem L2 PyProof.Rows
/-! ### x in a list whose items tell by an own __eq__ -/
section
open PySem.SeqAt
open AutoSeq1 (wpAny_loadPart')
open MeetsSeq MeetsSeq2 MeetsSeq3 SeqRoads2
variable {prog : Program} {w : World} {A : Around} {R : Result → Shared → Prop} {l : Addr} {N : Nat}
/-- what stands at l while x is sought: J tells what holds while the items ahead of i were not equal, B what holds of the answer -/
def Seeks (prog : Program) (w : World) (A : Around) (E : Value → Shared → Prop) (l : Addr) (N : Nat) (x : Value) (J : Nat → Shared → Prop) (B : Bool → Shared → Prop) : Prop :=
  ∀ i s, J i s → ∃ (items : Array Value) (n : Nat) (sl : Array (Option Value)), s.heap.get? l = some { cls := .type "list", data := .seq items n, slots := sl } ∧ items.size = N ∧ (N ≤ i → B false s) ∧
    ∀ h : i < items.size, wpAny (model prog w) A.in1 (eqBool items[i] x) (fun r s' => if r = true then B true s' else J (i + 1) s') E s
theorem seek_loop {x : Value} {J : Nat → Shared → Prop} {B : Bool → Shared → Prop} (look : Seeks prog w A (fun e s' => R (.error e) s') l N x J B) (told : ∀ b s, B b s → R (.ok (.ret (.bool b))) s) :
    ∀ (k i : Nat), i + k = N → ∀ s, J i s → wpAny (model prog w) A.in1 (Builtin.«list.__contains__.loop» ⟨[.ref l, x, rawInt i], []⟩) (GQ.FinOf prog w A R) (fun e s' => R (.error e) s') s
  | 0, i, hk, s, j => by
    obtain ⟨items, n, sl, hl, hN, out, _⟩ := look i s j
    have done := told _ _ (out (by omega))
    obtain ⟨hp, g, d, tk, os⟩ := s
    wp_walk using wpAny_loadPart' hl
    have hi : items[((i : Nat) : Int).toNat]? = none := by simp; omega
    rw [hi]
    wp_walk
    exact done
  | k + 1, i, hk, s, j => by
    obtain ⟨items, n, sl, hl, hN, _, turn⟩ := look i s j
    have hlt : i < items.size := by omega
    have tn := turn hlt
    have rest := fun s' j' => seek_loop look told k (i + 1) (by omega) s' j'
    obtain ⟨hp, g, d, tk, os⟩ := s
    wp_walk using wpAny_loadPart' hl
    have hi : items[((i : Nat) : Int).toNat]? = some items[i] := by simp [hlt]
    rw [hi]
    refine wpAny_bind (wpAny_mono tn (fun r s' z => ?_) fun _ _ y => y)
    cases r with
    | true =>
      have done := told _ _ (show B true s' from z)
      obtain ⟨hp, g, d, tk, os⟩ := s'
      wp_walk
      exact done
    | false =>
      have go := rest s' (show J (i + 1) s' from z)
      have hc : ((i : Int) + 1) = ((i + 1 : Nat) : Int) := by omega
      obtain ⟨hp, g, d, tk, os⟩ := s'
      wp_walk
      rw [hc]
      exact ⟨plainId_quiet plain_contains_loop _, codeAny_builtin entry_contains_loop (by
        rw [Around.under_plainId plain_contains_loop _]
        exact go)⟩
theorem seek_call {E : Value → Shared → Prop} {s : Shared} {x : Value} {J : Nat → Shared → Prop} {B : Bool → Shared → Prop} (look : Seeks prog w A E l N x J B) (j : J 0 s) : wpAny (model prog w) A (call (.builtin "list.__contains__") [.ref l, x]) (fun v s' => ∃ b, v = .bool b ∧ B b s') E s := by
  obtain ⟨items, n, sl, hl, hN, _, _⟩ := look 0 s j
  refine GQ.call_here F.slot_list_contains ⟨_, hl, rfl⟩ F.entry_list_contains (F.args_list_contains_2 _ _) ?_
  have go := seek_loop (R := wants (fun v s' => ∃ b, v = .bool b ∧ B b s') E) look (fun b s z => ⟨b, rfl, z⟩) N 0 (by omega) s j
  obtain ⟨hp, g, d, tk, os⟩ := s
  wp_walk using wpAny_loadPart' hl
  exact ⟨plainId_quiet plain_contains_loop _, codeAny_builtin entry_contains_loop (by
    rw [Around.under_plainId plain_contains_loop _]
    exact go)⟩
end
/-! ### pairs that == tells alike or apart -/
/-- D x y k: x == y tells k -/
abbrev Tel := V → V → Bool → Hp → Prop
def TelG (X : Cx) (n : Nat) (D : Tel) : Prop := ∀ (A : Around) (pins : List (Addr × Obj)) (s : Shared) (σ : L2.St) (H : Hp) (x y : V) (k : Bool) (u v : Value), L2.Sub X n A → L2.Inv X pins σ H s → RelV x u → RelV y v → D x y k H →
    wpAny (model X.prog X.w) A (eqBool u v) (fun r s' => r = k ∧ ∃ H', L2.Inv X pins σ H' s' ∧ L2.Ext H H') X.xe s
def TelM (D : Tel) : Prop := ∀ x y k H H', L2.Ext H H' → D x y k H → D x y k H'
/-- which of the items is the first that is equal -/
inductive Seek (D : Tel) (y : V) : List V → Bool → Hp → Prop
  | nil {H : Hp} : Seek D y [] false H
  | hit {x : V} {xs : List V} {H : Hp} : D x y true H → Seek D y (x :: xs) true H
  | miss {x : V} {xs : List V} {b : Bool} {H : Hp} : D x y false H → Seek D y xs b H → Seek D y (x :: xs) b H
theorem Seek.mono {D : Tel} (m : TelM D) {y : V} {xs : List V} {b : Bool} {H H' : Hp} (e : L2.Ext H H') (h : Seek D y xs b H) : Seek D y xs b H' := by
  induction h with
  | nil => exact .nil
  | hit d => exact .hit (m _ _ _ _ _ e d)
  | miss d _ ih => exact .miss (m _ _ _ _ _ e d) (ih e)
def rInG (K : PySem.W.Frag) (D : Tel) (g : Bool → Bool) : R2 := fun x y H Q => ∃ (a : Addr) (xs : List V) (b : Bool), y = .ref a ∧ L2.SqL K H a xs ∧ Seek D x xs b H ∧ ∀ H', L2.Ext H H' → Q (.bl (g b)) H'
section
variable {X : Cx} {n : Nat} {D : Tel}
/-- the answer, of the items from i on -/
def LeftK (X : Cx) (D : Tel) (pins : List (Addr × Obj)) (σ : L2.St) (H : Hp) (x : V) (xs : List V) (b : Bool) (i : Nat) (s' : Shared) : Prop := ∃ H', L2.Inv X pins σ H' s' ∧ L2.Ext H H' ∧ Seek D x (xs.drop i) b H'
theorem seek_run (m : TelM D) (T : TelG X n D) {A : Around} (sb : L2.Sub X (n + 1) A) {pins : List (Addr × Obj)} {s : Shared} {σ : L2.St} {H : Hp} {x : V} {v : Value} {a : Addr} {xs : List V} {b : Bool} (I : L2.Inv X pins σ H s) (rx : RelV x v) (hl : L2.SqL X.K H a xs) (sk : Seek D x xs b H) :
    wpAny (model X.prog X.w) A (call (.builtin "list.__contains__") [.ref a, v]) (fun r s' => ∃ c, r = .bool c ∧ c = b ∧ ∃ H', L2.Inv X pins σ H' s' ∧ L2.Ext H H') X.xe s := by
  refine seek_call (N := xs.length) (J := LeftK X D pins σ H x xs b) (B := fun c s' => c = b ∧ ∃ H', L2.Inv X pins σ H' s' ∧ L2.Ext H H') ?_ ⟨H, I, L2.Ext.rfl', by rw [List.drop_zero]; exact sk⟩
  rintro i s1 ⟨H1, I1, e1, sk1⟩
  obtain ⟨its, rv, ⟨⟨cls, dd, data, sls⟩, n0, ho, hc, hdn, hdt⟩, hlen⟩ := I1.list (hl.ext e1)
  simp only at hc hdn hdt
  subst hc hdn hdt
  refine ⟨its.toArray, n0, sls, ho, by rw [List.size_toArray, ← rv.length], fun hi => ?_, fun hi => ?_⟩
  · rw [List.drop_of_length_le hi] at sk1
    cases sk1
    exact ⟨rfl, H1, I1, e1⟩
  · have hi' : i < its.length := by simpa using hi
    have hx : i < xs.length := by rw [rv.length]; exact hi'
    rw [List.drop_eq_getElem_cons hx] at sk1
    obtain ⟨u, hu, ru⟩ := rv.get (List.getElem?_eq_getElem hx)
    have eu : its.toArray[i] = u := by
      rw [List.getElem?_eq_getElem hi'] at hu
      simpa using hu
    rw [eu]
    cases sk1 with
    | hit d =>
      refine wpAny_mono (T A.in1 pins s1 σ H1 _ _ _ _ _ sb.in1 I1 ru rx d) (fun r s2 ⟨er, H2, I2, e2⟩ => ?_) fun _ _ z => z
      subst er
      exact ⟨rfl, H2, I2, e1.trans e2⟩
    | miss d rest =>
      refine wpAny_mono (T A.in1 pins s1 σ H1 _ _ _ _ _ sb.in1 I1 ru rx d) (fun r s2 ⟨er, H2, I2, e2⟩ => ?_) fun _ _ z => z
      subst er
      exact ⟨H2, I2, e1.trans e2, rest.mono m e2⟩
theorem op_inG (m : TelM D) (T : TelG X n D) (hr : Room (n + 1) X.A) : OpR X (compareOp .In) (rInG X.K D id) := by
  intro pins s σ H x y v u Q I rx ry ⟨a, xs, b, ey, hl, sk, q⟩
  subst ey
  cases ry
  obtain ⟨its, rv, ⟨⟨cls, dd, data, sls⟩, n0, ho, hc, hdn, hdt⟩, hlen⟩ := I.list hl
  refine In_slot ⟨_, ho, hc⟩ F.slot_list_contains (wpAny_mono (seek_run m T ⟨hr, rfl⟩ I rx hl sk) (fun r s' ⟨c, er, ec, H', I', e'⟩ => ?_) fun _ _ z => z)
  subst er ec
  exact wpAny_truthy_bool ⟨.bl c, H', I', rfl, q H' e'⟩
theorem op_notInG (m : TelM D) (T : TelG X n D) (hr : Room (n + 1) X.A) : OpR X (compareOp .NotIn) (rInG X.K D not) := by
  intro pins s σ H x y v u Q I rx ry ⟨a, xs, b, ey, hl, sk, q⟩
  subst ey
  cases ry
  obtain ⟨its, rv, ⟨⟨cls, dd, data, sls⟩, n0, ho, hc, hdn, hdt⟩, hlen⟩ := I.list hl
  refine NotIn_slot ⟨_, ho, hc⟩ F.slot_list_contains (wpAny_mono (seek_run m T ⟨hr, rfl⟩ I rx hl sk) (fun r s' ⟨c, er, ec, H', I', e'⟩ => ?_) fun _ _ z => z)
  subst er ec
  exact wpAny_truthy_bool ⟨.bl (!c), H', I', rfl, q H' e'⟩
end
end MM

namespace MM
open PySem L2 PyProof.Rows
/-! ### a thing of a built-in type beside an own instance -/
section
open AutoSeq1 (wpAny_loadPart')
variable {prog : Program} {w : World} {A : Around} {E : Value → Shared → Prop} {s : Shared} {x C dx : Addr} {Q : Value → Shared → Prop}
theorem decl_int {i : Int} {t : Tok} (hx : s.heap.get? x = some (PySem.W.instObj C dx)) (q : Q .notImplemented s) : wpAny (model prog w) A (call (.builtin "int.__eq__") [.int i t, .ref x]) Q E s := by
  refine GQ.call_here F.slot_int_eq (typeIs_int s i t) F.entry_int_eq (F.args_int_eq_2 _ _) ?_
  obtain ⟨hp, g, d, tk, os⟩ := s
  wp_walk using wpAny_loadPart' hx
  exact q
theorem decl_bool {i : Bool} (hx : s.heap.get? x = some (PySem.W.instObj C dx)) (q : Q .notImplemented s) : wpAny (model prog w) A (call (.builtin "int.__eq__") [.bool i, .ref x]) Q E s := by
  refine GQ.call_here F.slot_bool_eq (s := s) rfl F.entry_int_eq (F.args_int_eq_2 _ _) ?_
  obtain ⟨hp, g, d, tk, os⟩ := s
  wp_walk using wpAny_loadPart' hx
  exact q
theorem decl_str {i : Str} {t : Tok} (hx : s.heap.get? x = some (PySem.W.instObj C dx)) (q : Q .notImplemented s) : wpAny (model prog w) A (call (.builtin "str.__eq__") [.str i t, .ref x]) Q E s := by
  refine GQ.call_here F.slot_str_eq (typeIs_str s i t) F.entry_str_eq (F.args_str_eq_2 _ _) ?_
  obtain ⟨hp, g, d, tk, os⟩ := s
  wp_walk using wpAny_loadPart' hx
  exact q
theorem decl_non (q : Q .notImplemented s) : wpAny (model prog w) A (call (.builtin "NoneType.__eq__") [.none, .ref x]) Q E s := by
  refine GQ.call_here F.slot_NoneType_eq (s := s) rfl F.entry_NoneType_eq (F.args_NoneType_eq_2 _ _) ?_
  obtain ⟨hp, g, d, tk, os⟩ := s
  wp_walk
  exact q
theorem decl_list {a : Addr} {K : PySem.W.Frag} {ox : Obj} {od : Option Obj} (X : K.In s.heap) (ha : s.TypeIs (.ref a) "list") (I : PySem.W.InstAt s.heap x ox C od) (e : PySem.W.subIn K (.ref C) (.type "list") = some false) (q : Q .notImplemented s) : wpAny (model prog w) A (call (.builtin "list.__eq__") [.ref a, .ref x]) Q E s := by
  refine GQ.call_here F.slot_list_eq ha F.entry_list_eq (F.args_list_eq_2 _ _) ?_
  have L : PySem.W.Looks (model prog w) s.heap (isInstance (.ref x) (.type "list")) false := I.type.andThen (PySem.W.looks_subIn X e)
  unfold Builtin.«list.__eq__»
  refine wpAny_bind (m := slotArgs "__eq__" 1 _) (wpAny_pure ?_)
  refine wpAny_bind (L.here ?_)
  wp_walk
  exact q
theorem decl_tup {a : Addr} {K : PySem.W.Frag} {ox : Obj} {od : Option Obj} (X : K.In s.heap) (ha : s.TypeIs (.ref a) "tuple") (I : PySem.W.InstAt s.heap x ox C od) (e : PySem.W.subIn K (.ref C) (.type "tuple") = some false) (q : Q .notImplemented s) : wpAny (model prog w) A (call (.builtin "tuple.__eq__") [.ref a, .ref x]) Q E s := by
  refine GQ.call_here F.slot_tuple_eq ha F.entry_tuple_eq (F.args_tuple_eq_2 _ _) ?_
  have L : PySem.W.Looks (model prog w) s.heap (isInstance (.ref x) (.type "tuple")) false := I.type.andThen (PySem.W.looks_subIn X e)
  unfold Builtin.«tuple.__eq__»
  refine wpAny_bind (m := slotArgs "__eq__" 1 _) (wpAny_pure ?_)
  refine wpAny_bind (L.here ?_)
  wp_walk
  exact q
end
end MM

namespace MM
open PySem L2 PyProof.Rows
/-- a thing of a built-in type, and its type -/
inductive Frg (H : Hp) : V → String → Prop
  | int (i : Int) : Frg H (.int i) "int"
  | bl (b : Bool) : Frg H (.bl b) "bool"
  | str (t : Str) : Frg H (.str t) "str"
  | non : Frg H .non "NoneType"
  | lst {a : Addr} {xs : List V} (e : H a = some (.lst xs)) : Frg H (.ref a) "list"
  | tup {a : Addr} {xs : List V} (e : H a = some (.tup xs)) : Frg H (.ref a) "tuple"
theorem Frg.tyX {K : PySem.W.Frag} {H : Hp} {x : V} {T : String} (f : Frg H x T) : TyX K H x (.type T) := by
  cases f with
  | int i => exact .base (.int i)
  | bl b => exact .base (.bl b)
  | str t => exact .base (.str t)
  | non => exact .base .non
  | lst e => exact .base (.lst e)
  | tup e => exact .base (.tup e)
theorem Frg.ext {H H' : Hp} {x : V} {T : String} (f : Frg H x T) (e : L2.Ext H H') : Frg H' x T := by
  cases f with
  | int i => exact .int i
  | bl b => exact .bl b
  | str t => exact .str t
  | non => exact .non
  | lst h => exact .lst (e _ _ h)
  | tup h => exact .tup (e _ _ h)
/-- what the written part says of a class beside the built-in types -/
structure FrgC (K : PySem.W.Frag) (C : Addr) : Prop where
  i1 : PySem.W.subIn K (.type "int") (.ref C) = some false
  i2 : PySem.W.subIn K (.ref C) (.type "int") = some false
  b1 : PySem.W.subIn K (.type "bool") (.ref C) = some false
  b2 : PySem.W.subIn K (.ref C) (.type "bool") = some false
  s1 : PySem.W.subIn K (.type "str") (.ref C) = some false
  s2 : PySem.W.subIn K (.ref C) (.type "str") = some false
  n1 : PySem.W.subIn K (.type "NoneType") (.ref C) = some false
  n2 : PySem.W.subIn K (.ref C) (.type "NoneType") = some false
  l1 : PySem.W.subIn K (.type "list") (.ref C) = some false
  l2 : PySem.W.subIn K (.ref C) (.type "list") = some false
  t1 : PySem.W.subIn K (.type "tuple") (.ref C) = some false
  t2 : PySem.W.subIn K (.ref C) (.type "tuple") = some false
theorem FrgC.to {K : PySem.W.Frag} {C : Addr} (c : FrgC K C) {H : Hp} {x : V} {T : String} (f : Frg H x T) : PySem.W.subIn K (.type T) (.ref C) = some false := by
  cases f with
  | int i => exact c.i1
  | bl b => exact c.b1
  | str t => exact c.s1
  | non => exact c.n1
  | lst h => exact c.l1
  | tup h => exact c.t1
section
open PySem.W
variable {prog : Program} {w : World} {A : Around} {E : Value → Shared → Prop} {s : Shared} {K : PySem.W.Frag} {x C f : Addr} {ox : Obj} {od : Option Obj} {u : Value} {T id : String}
/-- u == own, where u's == declines -/
theorem cmp_FK {Q : Value → Shared → Prop} (hu : A.units < cLine) (X : K.In s.heap) (hT : s.TypeIs u T) (slot : Slot T "__eq__" id) (I : InstAt s.heap x ox C od) (e : subIn K (.ref C) (.type T) = some false) (hs : findIn K (.ref C) "__eq__" = some (some (.ref f))) (hf : isFn K (.ref f) = true)
    (decl : ∀ Q' : Value → Shared → Prop, Q' .notImplemented s → wpAny (model prog w) A (call (.builtin id) [u, .ref x]) Q' E s) (h : wpAny (model prog w) A (call (.ref f) [.ref x, u]) (PySem.W.CmpBack Q) E s) : wpAny (model prog w) A (richCompare .Eq u (.ref x)) Q E s := by
  unfold richCompare
  simp only [hT.oneThing_none]
  refine wpAny_holding (wpAny_bind (wpAny_cRoomFor hu ?_))
  refine wpAny_bind (wpAny_typeOf hT (wpAny_bind (I.type.here ?_)))
  have ne : (Value.type T != Value.ref C) = true := by simp
  simp only [ne, if_true]
  refine wpAny_bind ((looks_subIn X e).here ?_)
  simp only [Bool.false_eq_true, if_false, Bool.not_false, if_true]
  refine wpAny_bind (m := tryCompare u _ (.ref x)) (wpAny_tryCompare_declines hT slot (wpAny_mono (decl (fun v s2 => v = .notImplemented ∧ s = s2) ⟨rfl, rfl⟩) (fun v s2 z => ⟨z.1, ?_⟩) fun _ _ y => y))
  obtain ⟨_, rfl⟩ := z
  have one : wpAny (model prog w) A (tryCompare (.ref x) (cmpInfo .Eq).2.2 u) (fun r s' => ∃ v, r = some v ∧ Q v s') E s := by
    unfold tryCompare
    refine wpAny_bind (ifBound_K X I hs hf (wpAny_mono h (fun v s' hv => ?_) fun _ _ e => e))
    cases v <;> first | exact hv.elim | exact wpAny_pure ⟨_, rfl, hv⟩
  refine wpAny_bind (wpAny_mono one (fun r s' z => ?_) fun _ _ e => e)
  obtain ⟨v, rfl, hq⟩ := z
  exact wpAny_pure hq
end
theorem eqBool_ne {prog : Program} {w : World} {A : Around} {E : Value → Shared → Prop} {s : Shared} {u v : Value} {Q : Bool → Shared → Prop} (h : u ≠ v) (hf : ∀ x t, u ≠ .float x t) (rc : wpAny (model prog w) A (richCompare .Eq u v) (fun r s' => ∃ b, r = .bool b ∧ Q b s') E s) : wpAny (model prog w) A (eqBool u v) Q E s := by
  unfold eqBool
  refine wpAny_holding (wpAny_ite_split (fun hab => absurd (eq_of_beq hab) h) (fun _ => ?_))
  cases u <;> first
    | exact absurd rfl (hf _ _)
    | (refine wpAny_bind (wpAny_mono rc (fun r s' hr => ?_) fun _ _ y => y)
       obtain ⟨b, rfl, q⟩ := hr
       exact wpAny_truthy_bool q)
/-- what a promise says of two values -/
def Says (c : Con) (x y : V) (k : Bool) (H : Hp) : Prop := ∃ (G : Hp) (i : c.I), Same G H ∧ c.pre i ∧ Reps (c.args i) [x, y] G ∧ ∀ z, c.post i z → c.res i z = RB k
theorem Says.ext {c : Con} {x y : V} {k : Bool} {H H' : Hp} (e : L2.Ext H H') (h : Says c x y k H) : Says c x y k H' := by
  obtain ⟨G, i, s, r⟩ := h
  exact ⟨G, i, fun a o z => e a o (s a o z), r⟩
theorem Says.sp {c : Con} (ho : ∀ i, c.own i = []) {x y : V} {k : Bool} {H : Hp} (h : Says c x y k H) : conSp c [x, y] H (fun v H' => v = .bl k ∧ L2.Ext H H') E0 := by
  obtain ⟨G, i, s, hp, r, hk⟩ := h
  refine ⟨G, i, s, hp, r, ?_, ?_, ?_, fun x v G' H' px tf rv => ?_⟩
  · rw [ho]; exact fun q hq => (List.not_mem_nil hq).elim
  · rw [ho]; exact fun q hq => (List.not_mem_nil hq).elim
  · rw [ho]; exact List.nodup_nil
  · rw [hk _ px] at rv
    refine ⟨rv, fun z u hz => tf.keep z u ?_ hz⟩
    rw [ho]
    exact List.not_mem_nil
/-- own and own -/
def DOO (C : Addr) (c : Con) : Tel := fun x y k H => ∃ (a b dx dy : Addr) (fs gs : List (Str × V)), x = .ref a ∧ y = .ref b ∧ H a = some (.ins C dx fs) ∧ H b = some (.ins C dy gs) ∧ (a = b → k = true) ∧ Says c x y k H
/-- own and another -/
def DOF (C : Addr) (c : Con) : Tel := fun x y k H => ∃ (a dx : Addr) (fs : List (Str × V)) (T : String), x = .ref a ∧ H a = some (.ins C dx fs) ∧ Frg H y T ∧ Says c x y k H
/-- another and own -/
def DFO (C : Addr) (c : Con) : Tel := fun x y k H => ∃ (b dy : Addr) (gs : List (Str × V)) (T : String), y = .ref b ∧ H b = some (.ins C dy gs) ∧ Frg H x T ∧ Says c y x k H
def DFF : Tel := fun x y k _ => flatV x = true ∧ flatV y = true ∧ eqV x y = k
theorem telM_oo {C : Addr} {c : Con} : TelM (DOO C c) := fun x y k H H' e ⟨a, b, dx, dy, fs, gs, h1, h2, h3, h4, h5, h6⟩ => ⟨a, b, dx, dy, fs, gs, h1, h2, e _ _ h3, e _ _ h4, h5, h6.ext e⟩
theorem telM_of {C : Addr} {c : Con} : TelM (DOF C c) := fun x y k H H' e ⟨a, dx, fs, T, h1, h2, h3, h4⟩ => ⟨a, dx, fs, T, h1, e _ _ h2, h3.ext e, h4.ext e⟩
theorem telM_fo {C : Addr} {c : Con} : TelM (DFO C c) := fun x y k H H' e ⟨a, dx, fs, T, h1, h2, h3, h4⟩ => ⟨a, dx, fs, T, h1, e _ _ h2, h3.ext e, h4.ext e⟩
theorem telM_ff : TelM DFF := fun x y k H H' e h => h
def TelOr (D D' : Tel) : Tel := fun x y k H => D x y k H ∨ D' x y k H
theorem TelM.or {D D' : Tel} (h : TelM D) (h' : TelM D') : TelM (TelOr D D') := fun x y k H H' e d => d.elim (fun d => .inl (h _ _ _ _ _ e d)) fun d => .inr (h' _ _ _ _ _ e d)
section
variable {X : Cx} {n m : Nat} {D D' : Tel} {C f : Addr} {fd : FuncData} {ps : List Str} {c : Con}
theorem TelG.or (h : TelG X n D) (h' : TelG X n D') : TelG X n (TelOr D D') := fun A pins s σ H x y k u v sb I rx ry d => by
  rcases d with d | d
  · exact h A pins s σ H x y k u v sb I rx ry d
  · exact h' A pins s σ H x y k u v sb I rx ry d
theorem TelG.mono (h : TelG X n D) (hn : n ≤ m) : TelG X m D := fun A pins s σ H x y k u v sb => h A pins s σ H x y k u v (sb.mono hn)
theorem telG_ff : TelG X 0 DFF := fun A pins s σ H x y k u v sb I rx ry ⟨fx, fy, e⟩ => by
  have q := eqAt_V (A := A) (s := s) rx ry fx fy
  rw [e] at q
  exact q X.prog X.w X.xe _ ⟨rfl, H, I, L2.Ext.rfl'⟩
theorem says_run {A : Around} {pins : List (Addr × Obj)} {σ : L2.St} {H : Hp} {s : Shared} {x y : V} {u v : Value} {k : Bool} (ho : ∀ i, c.own i = []) (F : FnOk X.prog X.w X.K X.mg X.base CX0 n f fd ps (conSp c)) (hb : Binds X.K fd ps []) (hx : Passes CX0 X E0) (sb : L2.Sub X n A) (I : L2.Inv X pins σ H s) (rx : RelV x u) (ry : RelV y v) (h : Says c x y k H) :
    wpAny (model X.prog X.w) A (call (.ref f) [u, v]) (fun r s' => r = .bool k ∧ ∃ H', L2.Inv X pins σ H' s' ∧ L2.Ext H H') X.xe s := by
  refine run_eq2 F hb hx sb.room (let e := I.env0; ⟨by rw [sb.fr]; exact e.frames, e.mod, e.bs, e.bsz, e.funs, e.frf, e.hok, e.bare⟩) I rx ry (h.sp ho) fun z s' w rz ⟨H', I', ez, e⟩ => ?_
  subst ez
  cases rz
  exact ⟨rfl, H', I', e⟩
/-- what == asks of an own class: its __eq__ keeps c -/
structure EqIn (X : Cx) (n : Nat) (C : Addr) (c : Con) : Prop where
  ho : ∀ i, c.own i = []
  kn : KnE X.prog X.w X.K X.mg X.base n C c
theorem telG_oo (K : EqIn X n C c) (hx : Passes CX0 X E0) : TelG X n (DOO C c) := by
  obtain ⟨ho, f, fd, ps, hs, hf, hb, F⟩ := K
  intro A pins s σ H x y k u v sb I rx ry ⟨a, b, dx, dy, fs, gs, ex, ey, ha, hb', hab, says⟩
  subst ex ey
  cases rx
  cases ry
  by_cases e : a = b
  · have ek := hab e
    subst e ek
    exact SeqAt.EqAt.same (A := A) (s := s) (.ref a) X.prog X.w X.xe _ ⟨rfl, H, I, L2.Ext.rfl'⟩
  obtain ⟨mA, J, _⟩ := ins_get I.hok ha
  obtain ⟨mB, J', _⟩ := ins_get I.hok hb'
  obtain ⟨od, J, _⟩ := J.look
  obtain ⟨od', J', _⟩ := J'.look
  obtain ⟨m, hF⟩ := I.fr
  refine GQ.eqBool_refG e (PySem.W.cmp_K (op := .Eq) (tb := .ref C) sb.room.units0 hF I.ok.mod.kin J J'.type (by simp [PySem.W.notFirst]) hs hf ?_)
  refine wpAny_mono (says_run ho F hb hx sb I (show RelV (V.ref a) (Value.ref a) from rfl) (show RelV (V.ref b) (Value.ref b) from rfl) says) (fun r s' ⟨er, H', I', e'⟩ => ?_) fun _ _ z => z
  subst er
  exact ⟨k, rfl, rfl, H', I', e'⟩
theorem telG_of (K : EqIn X n C c) (hc : FrgC X.K C) (hx : Passes CX0 X E0) : TelG X n (DOF C c) := by
  obtain ⟨ho, f, fd, ps, hs, hf, hb, F⟩ := K
  intro A pins s σ H x y k u v sb I rx ry ⟨a, dx, fs, T, ex, ha, fr, says⟩
  subst ex
  cases rx
  obtain ⟨mA, J, _⟩ := ins_get I.hok ha
  obtain ⟨od, J, _⟩ := J.look
  obtain ⟨m, hF⟩ := I.fr
  obtain ⟨P, Z, p, _⟩ := kit_of I ry (fr.tyX (K := X.K))
  have ne : Value.ref a ≠ v := by
    intro z
    subst z
    cases fr with
    | lst e => cases ry; rw [e] at ha; cases ha
    | tup e => cases ry; rw [e] at ha; cases ha
    | int i => obtain ⟨t, z⟩ := ry; cases z
    | bl i => cases ry
    | str i => obtain ⟨t, z⟩ := ry; cases z
    | non => cases ry
  refine eqBool_ne ne (fun _ _ z => by cases z) (PySem.W.cmp_K (op := .Eq) sb.room.units0 hF I.ok.mod.kin J (Z.ty _ _ I.kIn p) (notF (hc.to fr)) hs hf ?_)
  refine wpAny_mono (says_run ho F hb hx sb I (show RelV (V.ref a) (Value.ref a) from rfl) ry says) (fun r s' ⟨er, H', I', e'⟩ => ?_) fun _ _ z => z
  subst er
  exact ⟨k, rfl, rfl, H', I', e'⟩
theorem telG_fo (K : EqIn X n C c) (hc : FrgC X.K C) (hx : Passes CX0 X E0) : TelG X n (DFO C c) := by
  obtain ⟨ho, f, fd, ps, hs, hf, hb, F⟩ := K
  intro A pins s σ H x y k u v sb I rx ry ⟨a, dx, fs, T, ex, ha, fr, says⟩
  subst ex
  cases ry
  obtain ⟨mA, O, _⟩ := ins_get I.hok ha
  obtain ⟨od, J, _⟩ := O.look
  have run := says_run ho F hb hx sb I (show RelV (V.ref a) (Value.ref a) from rfl) rx says
  have fin : ∀ (Tn id : String), s.TypeIs u Tn → Slot Tn "__eq__" id → PySem.W.subIn X.K (.ref C) (.type Tn) = some false → u ≠ .ref a → (∀ x t, u ≠ .float x t) →
      (∀ Q' : Value → Shared → Prop, Q' .notImplemented s → wpAny (model X.prog X.w) A (call (.builtin id) [u, .ref a]) Q' X.xe s) →
      wpAny (model X.prog X.w) A (eqBool u (.ref a)) (fun r s' => r = k ∧ ∃ H', L2.Inv X pins σ H' s' ∧ L2.Ext H H') X.xe s := by
    intro Tn id hT slot e ne nf decl
    refine eqBool_ne ne nf (cmp_FK sb.room.units0 I.kIn hT slot J e hs hf decl (wpAny_mono run (fun r s' ⟨er, H', I', e'⟩ => ?_) fun _ _ z => z))
    subst er
    exact ⟨k, rfl, rfl, H', I', e'⟩
  cases fr with
  | int i =>
    obtain ⟨t, rfl⟩ := rx
    exact fin "int" _ (typeIs_int _ _ _) PySem.F.slot_int_eq hc.i2 (by simp) (by simp) fun Q' q => decl_int O.obj q
  | bl i =>
    cases rx
    exact fin "bool" _ rfl PySem.F.slot_bool_eq hc.b2 (by simp) (by simp) fun Q' q => decl_bool O.obj q
  | str i =>
    obtain ⟨t, rfl⟩ := rx
    exact fin "str" _ (typeIs_str _ _ _) PySem.F.slot_str_eq hc.s2 (by simp) (by simp) fun Q' q => decl_str O.obj q
  | non =>
    cases rx
    exact fin "NoneType" _ rfl PySem.F.slot_NoneType_eq hc.n2 (by simp) (by simp) fun Q' q => decl_non q
  | @lst b xs e =>
    cases rx
    have ne : Value.ref b ≠ Value.ref a := fun z => by
      cases z
      rw [e] at ha
      cases ha
    obtain ⟨_, _, n0, _, h1⟩ := (show ObjOk X.prog X.w H s.heap b (.lst xs) from I.hok b _ e)
    exact fin "list" _ ⟨_, h1, rfl⟩ PySem.F.slot_list_eq hc.l2 ne (by simp) fun Q' q => decl_list I.kIn ⟨_, h1, rfl⟩ J hc.l2 q
  | @tup b xs e =>
    cases rx
    have ne : Value.ref b ≠ Value.ref a := fun z => by
      cases z
      rw [e] at ha
      cases ha
    obtain ⟨_, _, _, o, h1, h2, _⟩ := (show ObjOk X.prog X.w H s.heap b (.tup xs) from I.hok b _ e)
    exact fin "tuple" _ ⟨o, h1, h2⟩ PySem.F.slot_tuple_eq hc.t2 ne (by simp) fun Q' q => decl_tup I.kIn ⟨o, h1, h2⟩ J hc.t2 q
end
end MM

namespace MM
open PySem L2 PyProof.Rows
/-! ### own things beside others: rules -/
def RFrg (ρ : Rep) (T : String) : Prop := ∀ x G H, Same G H → ρ.p x G → Frg H x T
theorem rfrg_i {i : Int} : RFrg (RI i) "int" := fun x G H s h => by
  have h : x = .int i := h
  subst h; exact .int i
theorem rfrg_b {i : Bool} : RFrg (RB i) "bool" := fun x G H s h => by
  have h : x = .bl i := h
  subst h; exact .bl i
theorem rfrg_s {i : Str} : RFrg (RS i) "str" := fun x G H s h => by
  have h : x = .str i := h
  subst h; exact .str i
theorem rfrg_n : RFrg RN "NoneType" := fun x G H s h => by
  have h : x = .non := h
  subst h; exact .non
theorem rfrg_l {ρs : List Rep} : RFrg (RLt ρs) "list" := fun x G H s ⟨a, vs, e, h, _⟩ => by
  subst e; exact .lst (s _ _ h)
theorem rfrg_t {ρs : List Rep} : RFrg (RTt ρs) "tuple" := fun x G H s ⟨a, vs, e, h, _⟩ => by
  subst e; exact .tup (s _ _ h)
theorem RFrg.sub {ρ ρ' : Rep} {T : String} (sb : MM.Sub ρ ρ') (h : RFrg ρ' T) : RFrg ρ T := fun x G H s r => h x G H s (sb _ _ r)
theorem RFrg.tyIs {K : PySem.W.Frag} {ρ : Rep} {T : String} (h : RFrg ρ T) : TyIs K ρ (.type T) := fun v G H s r => (h v G H s r).tyX
/-- __eq__ of an own thing and one of a built-in type: False -/
def con_eqF (K : PySem.W.Frag) (C : Addr) : Con := { I := List (Str × Rep) × Rep × String, B := Unit, pre := fun i => RFrg i.2.1 i.2.2 ∧ PySem.W.subIn K (.type i.2.2) (.ref C) = some false, args := fun i => [RIns C i.1, i.2.1], own := fun _ => [], post := fun _ _ => True, res := fun _ _ => RB false, own' := fun _ _ => [] }
theorem FrgC.sub {K : PySem.W.Frag} {C : Addr} (c : FrgC K C) {T : String} (h : T = "int" ∨ T = "bool" ∨ T = "str" ∨ T = "NoneType" ∨ T = "list" ∨ T = "tuple") : PySem.W.subIn K (.type T) (.ref C) = some false := by
  rcases h with rfl | rfl | rfl | rfl | rfl | rfl
  · exact c.i1
  · exact c.b1
  · exact c.s1
  · exact c.n1
  · exact c.l1
  · exact c.t1
section
variable {X : Cx} {E : En} {Γ : Gm} {M : Ow} {a b : Expr} {pos : Pos} {Φ : Rep → Ow → Prop} {k : Nat} {C : Addr}
theorem opw_frg {g : Bool → Bool} {ρ ρ' : Rep} {l : List (Str × Rep)} {T : String} (hc : FrgC X.K C) (hT : T = "int" ∨ T = "bool" ∨ T = "str" ∨ T = "NoneType" ∨ T = "list" ∨ T = "tuple") (s1 : MM.Sub ρ (RIns C l)) (s2 : RFrg ρ' T) (q0 : Φ (RB (g false)) M) : OpW E Γ M (rFrg X.K C (conSp (con_eqF X.K C)) g) ρ ρ' Φ := fun σ G H at_ x y hx hy Q q => by
  obtain ⟨b1, dx, fs, e1, h1, r1⟩ := s1 _ _ hx
  have fr := s2 _ _ _ at_.gh hy
  have cr := callK_run (c := con_eqF X.K C) (ρs := [RIns C l, ρ']) (vs := [x, y]) (Φ := fun ρ M' => ρ = RB false ∧ M' = M) (Q := fun v H' => ∃ k, v = .bl k ∧ Q (.bl (g k)) H') (EE := E0) ⟨(l, ρ', T), M, ⟨s2, hc.sub hT⟩, .cons Sub.rfl (.cons Sub.rfl .nil), .nil, fun _ _ => ⟨rfl, rfl⟩⟩ at_ ⟨⟨b1, dx, fs, e1, h1, r1⟩, hy, trivial⟩ fun ρ4 M4 v4 G5 H5 ⟨e4, e5⟩ s4 a4 r4 => by
    subst e4 e5
    exact ⟨false, r4, q _ _ _ _ _ q0 s4 a4 rfl⟩
  subst e1
  exact ⟨b1, dx, fs, .type T, rfl, at_.gh _ _ h1, fr.tyX, hc.sub hT, cr⟩
theorem op_eqFK (F : KnE X.prog X.w X.K X.mg X.base k C (con_eqF X.K C)) (hr : Room k X.A) (hx : Passes CX0 X E0) : OpR X (compareOp .Eq) (rFrg X.K C (conSp (con_eqF X.K C)) id) := by
  obtain ⟨f, fd, ps, hs, hf, hb, ok⟩ := F
  exact op_eqF ok hs hf hb hx hr
theorem op_neFK (F : KnN X.prog X.w X.K X.mg X.base k C (con_eqF X.K C)) (hr : Room (k + 1) X.A) (hx : Passes CX0 X E0) : OpR X (compareOp .NotEq) (rFrg X.K C (conSp (con_eqF X.K C)) not) := by
  obtain ⟨⟨f, fd, ps, hs, hf, hb, ok⟩, hne, hsub⟩ := F
  exact op_neF ok hs hf hb hne hsub hx hr
/-! ### in -/
def RTel (D : Tel) (ρ ρ' : Rep) (k : Bool) : Prop := ∀ x y G H, Same G H → ρ.p x G → ρ'.p y G → D x y k H
inductive SeekR (D : Tel) (ρ : Rep) : List Rep → Bool → Prop
  | nil : SeekR D ρ [] false
  | hit {ρ1 : Rep} {ρs : List Rep} : RTel D ρ1 ρ true → SeekR D ρ (ρ1 :: ρs) true
  | miss {ρ1 : Rep} {ρs : List Rep} {b : Bool} : RTel D ρ1 ρ false → SeekR D ρ ρs b → SeekR D ρ (ρ1 :: ρs) b
theorem SeekR.run {D : Tel} {ρ : Rep} {ρs : List Rep} {b : Bool} (h : SeekR D ρ ρs b) {G H : Hp} {y : V} (s : Same G H) (ry : ρ.p y G) : ∀ {xs : List V}, Reps ρs xs G → Seek D y xs b H := by
  induction h with
  | nil =>
    intro xs r
    cases xs with
    | nil => exact .nil
    | cons _ _ => exact r.elim
  | hit t =>
    intro xs r
    cases xs with
    | nil => exact r.elim
    | cons x xs => exact .hit (t _ _ _ _ s r.1 ry)
  | miss t _ ih =>
    intro xs r
    cases xs with
    | nil => exact r.elim
    | cons x xs => exact .miss (t _ _ _ _ s r.1 ry) (ih r.2)
theorem opv_inG {K : PySem.W.Frag} {D : Tel} {ρ : Rep} {ρs : List Rep} {b : Bool} {g : Bool → Bool} (h : SeekR D ρ ρs b) : OpV (rInG K D g) ρ (RLt ρs) (RB (g b)) := fun x y G H s hx hy Q q => by
  obtain ⟨p, vs, e, hp, r⟩ := hy
  subst e
  exact ⟨p, vs, b, rfl, .inl (.inl (s _ _ hp)), h.run s hx r, fun H' e' => q _ G H' ⟨Same.refl _, s.trans e', e', fun _ _ z => z⟩ rfl⟩
/-- an own class that is compared: the kinds of pairs -/
def DOwn (K : PySem.W.Frag) (C : Addr) (c : Con) : Tel := TelOr (DOO C c) (TelOr (DOF C (con_eqF K C)) (TelOr (DFO C (con_eqF K C)) DFF))
theorem telM_own {K : PySem.W.Frag} {c : Con} : TelM (DOwn K C c) := telM_oo.or (telM_of.or (telM_fo.or telM_ff))
theorem telG_own {c : Con} (ho : ∀ i, c.own i = []) (hc : FrgC X.K C) (F : KnE X.prog X.w X.K X.mg X.base k C c) (F' : KnE X.prog X.w X.K X.mg X.base k C (con_eqF X.K C)) (hx : Passes CX0 X E0) : TelG X k (DOwn X.K C c) :=
  (telG_oo ⟨ho, F⟩ hx).or ((telG_of ⟨fun _ => rfl, F'⟩ hc hx).or ((telG_fo ⟨fun _ => rfl, F'⟩ hc hx).or (telG_ff.mono (Nat.zero_le _))))
theorem rtel_oo {K : PySem.W.Frag} {c : Con} (i : c.I) {l l' : List (Str × Rep)} {b : Bool} (hp : c.pre i) (ha : c.args i = [RIns C l, RIns C l']) (hk : ∀ z, c.post i z → c.res i z = RB b) (hs : ∀ v G, (RIns C l).p v G → (RIns C l').p v G → b = true) : RTel (DOwn K C c) (RIns C l) (RIns C l') b := fun x y G H s rx ry => by
  have rx' := rx
  have ry' := ry
  obtain ⟨b1, dx, fs, e1, h1, r1⟩ := rx'
  obtain ⟨b2, dy, gs, e2, h2, r2⟩ := ry'
  refine .inl ⟨b1, b2, dx, dy, fs, gs, e1, e2, s _ _ h1, s _ _ h2, fun e => ?_, G, i, s, hp, ?_, hk⟩
  · subst e
    refine hs x G rx ?_
    have : x = y := e1.trans e2.symm
    rw [this]; exact ry
  · rw [ha]; exact ⟨rx, ry, trivial⟩
theorem rtel_of {K : PySem.W.Frag} {c : Con} (hc : FrgC K C) {l : List (Str × Rep)} {ρ : Rep} {T : String} (hT : T = "int" ∨ T = "bool" ∨ T = "str" ∨ T = "NoneType" ∨ T = "list" ∨ T = "tuple") (h : RFrg ρ T) : RTel (DOwn K C c) (RIns C l) ρ false := fun x y G H s rx ry => by
  have rx' := rx
  obtain ⟨b1, dx, fs, e1, h1, r1⟩ := rx'
  exact .inr (.inl ⟨b1, dx, fs, T, e1, s _ _ h1, h _ _ _ s ry, G, (l, ρ, T), s, ⟨h, hc.sub hT⟩, ⟨rx, ry, trivial⟩, fun _ _ => rfl⟩)
theorem rtel_fo {K : PySem.W.Frag} {c : Con} (hc : FrgC K C) {l : List (Str × Rep)} {ρ : Rep} {T : String} (hT : T = "int" ∨ T = "bool" ∨ T = "str" ∨ T = "NoneType" ∨ T = "list" ∨ T = "tuple") (h : RFrg ρ T) : RTel (DOwn K C c) ρ (RIns C l) false := fun x y G H s rx ry => by
  have ry' := ry
  obtain ⟨b1, dx, fs, e1, h1, r1⟩ := ry'
  exact .inr (.inr (.inl ⟨b1, dx, fs, T, e1, s _ _ h1, h _ _ _ s rx, G, (l, ρ, T), s, ⟨h, hc.sub hT⟩, ⟨ry, rx, trivial⟩, fun _ _ => rfl⟩))
end
end MM

namespace MM
open PySem L2 PyProof.Rows
/-! ### len(x) of an own instance -/
def LenBack (Q : Value → Shared → Prop) (v : Value) (s' : Shared) : Prop := ∃ (n : Nat) (t : Tok), v = .int n t ∧ n < 2 ^ 62 ∧ ∀ t' tk, Q (.int n t') { s' with toks := tk }
section
open PySem.W
variable {prog : Program} {w : World} {A : Around} {E : Value → Shared → Prop} {s : Shared} {K : PySem.W.Frag} {x C f : Addr} {ox : Obj} {od : Option Obj}
theorem len_own {Q : Value → Shared → Prop} (X : K.In s.heap) (I : InstAt s.heap x ox C od) (hs : findIn K (.ref C) "__len__" = some (some (.ref f))) (hf : isFn K (.ref f) = true)
    (h : wpAny (model prog w) A.in1 (call (.ref f) [.ref x]) (LenBack Q) E s) : wpAny (model prog w) A (call (.builtin "len") [.ref x]) Q E s := by
  refine Calls.call_function_entry kind_len plain_len entry_len (args_len1 _) ?_
  unfold Builtin.«len»
  refine wpAny_bind (m := oneArg "len" _) (wpAny_pure ?_)
  refine wpAny_bind (m := callSpecial? (.ref x) (Str.ofString "__len__")) (special_fn X I hs (beq_iff_eq.mp hf) (wpAny_mono h (fun r s' ⟨n, t, er, small, q⟩ => ?_) fun _ _ z => z))
  subst er
  refine wpAny_bind (wpAny_holding (wpAny_pure (wpAny_bind (wpAny_letGo ?_))))
  have n1 : ¬ ((n : Nat) : Int) < 0 := by omega
  have n2 : ¬ ((n : Nat) : Int) ≥ 2 ^ 63 := by omega
  show wpAny _ _ (if ((n : Nat) : Int) < 0 then _ else if ((n : Nat) : Int) ≥ 2 ^ 63 then _ else _) _ _ _
  rw [if_neg n1, if_neg n2]
  exact wpAny_bind (wpAny_mkInt (wpAny_pure ⟨_, rfl, q _ _⟩))
end
section
variable {X : Cx} {n : Nat} {C f a : Addr} {fd : FuncData} {ps : List Str} {sp : Sp}
def rLenO (C : Addr) (sp : Sp) : List V → Hp → VK → Prop := fun xs H Q => ∃ (a dx : Addr) (fs : List (Str × V)), xs = [V.ref a] ∧ H a = some (.ins C dx fs) ∧ sp [.ref a] H (fun v H' => ∃ k : Nat, v = .int k ∧ k < 2 ^ 62 ∧ Q v H') E0
theorem call_lenO (F : FnOk X.prog X.w X.K X.mg X.base CX0 n f fd ps sp) (hs : PySem.W.findIn X.K (.ref C) "__len__" = some (some (.ref f))) (hf : PySem.W.isFn X.K (.ref f) = true) (hb : Binds X.K fd ps []) (hx : Passes CX0 X E0) (hr : Room (n + 1) X.A) : CallR X (.builtin "len") (rLenO C sp) := by
  intro pins s σ H xs us Q I r h
  obtain ⟨a, dx, fs, rfl, ha, q⟩ := h
  obtain ⟨u, rfl, ru⟩ := r.one
  cases (show u = Value.ref a from ru)
  obtain ⟨mA, J, _⟩ := ins_get I.hok ha
  obtain ⟨od, J, _⟩ := J.look
  have hr1 : Room n X.A.in1 := Room.in1 hr
  refine len_own I.kIn J hs hf (wpAny_mono (run_own F hb hr1 I.env0.in1 hx I q) (fun v s' z => ?_) fun _ _ x => x)
  obtain ⟨y, H', I', rz, k, ek, small, qz⟩ := z
  subst ek
  obtain ⟨t, e⟩ := (show ∃ t, v = Value.int k t from rz)
  subst e
  exact ⟨k, t, rfl, small, fun t' tk => ⟨.int k, H', I'.tok _, ⟨t', rfl⟩, qz⟩⟩
end
section
variable {X : Cx} {E : En} {Γ : Gm} {M : Ow} {e : Expr} {pos p : Pos} {Φ : Rep → Ow → Prop} {k : Nat} {C : Addr} {c : Con}
theorem caw_len {ρ : Rep} (s1 : ∃ l, MM.Sub ρ (RIns C l)) (ck : CallK c [ρ] M fun ρ' M' => (∃ n : Nat, MM.Sub ρ' (RI (n : Int)) ∧ n < 2 ^ 62) ∧ Φ ρ' M') : CaW E Γ M (rLenO C (conSp c)) [ρ] Φ := fun σ G H a vs hv Q q => by
  match vs, hv with
  | [v], ⟨hv, _⟩ =>
    obtain ⟨l, s1⟩ := s1
    obtain ⟨b, dx, fs, e1, h1, r1⟩ := s1 _ _ hv
    have cr := callK_run (EE := E0) (Q := fun v H' => ∃ k : Nat, v = .int k ∧ k < 2 ^ 62 ∧ Q v H') ck a (vs := [v]) ⟨hv, trivial⟩ fun ρ4 M4 v4 G5 H5 ⟨⟨n, st, sm⟩, hφ⟩ s4 a4 r4 => ⟨n, st _ _ r4, sm, q ρ4 M4 v4 G5 H5 hφ s4 a4 r4⟩
    subst e1
    exact ⟨b, dx, fs, rfl, a.gh _ _ h1, cr⟩
/-- len(x) -/
theorem we_lenO (F : KnO X.prog X.w X.K X.mg X.base k C "__len__" c) (hr : Room (k + 1) X.A) (hg : Gl X "len") (hm : X.mg "len" = none) (hx : Passes CX0 X E0)
    (h : WE X E Γ M e fun ρ M1 => (∃ l, MM.Sub ρ (RIns C l)) ∧ CallK c [ρ] M1 fun ρ' M' => (∃ n : Nat, MM.Sub ρ' (RI (n : Int)) ∧ n < 2 ^ 62) ∧ Φ ρ' M')
    (he : starEach [e] X.env = (false, eval e X.env) :: starEach [] X.env := by rfl) (hpl : (backTo pos (starEach [] X.env)).any (·.1) = false := by rfl) : WE X E Γ M (.Call (.Name "len" p) [e] [] pos) Φ := by
  obtain ⟨f, fd, ps, hs, hf, hb, ok⟩ := F
  refine we_callB (call_lenO ok hs hf hb hx hr) hg hm (by decide +kernel) (wa_cons ?_ he) (by decide) (by decide) he hpl
  intro σ G H at_ Q q
  exact h σ G H at_ Q fun ρ M' v G' H' ⟨s1, ck⟩ => q ρ M' v G' H' (wa_nil (caw_len s1 ck))
end
end MM

namespace MM
open PySem L2 PyProof.Rows
section
variable {X : Cx} {E : En} {Γ : Gm} {M : Ow} {a b c e : Expr} {pos p p2 : Pos} {Φ : Rep → Ow → Prop} {x : Str} {K : PySem.W.Frag}
/-- d in ns, d not in ns -/
theorem inV_ints {d : Int} : ∀ ns : List Int, inV (.int d) (ns.map V.int) = ns.any (fun n => n == d)
  | [] => rfl
  | n :: ns => by
    have ih := inV_ints (d := d) ns
    unfold inV at ih ⊢
    rw [List.map_cons, List.any_cons, List.any_cons, ih]
    rfl
theorem flat_ints : ∀ ns : List Int, (ns.map V.int).all flatV = true
  | [] => rfl
  | n :: ns => by
    rw [List.map_cons, List.all_cons, flat_ints ns]
    rfl
theorem opv_inI {neg : Bool} {d : Int} {ns : List Int} : OpV (rIn K neg) (RI d) (RLt (ns.map RI)) (RB (if neg then !ns.any (fun n => n == d) else ns.any (fun n => n == d))) := fun x y G H s hx hy Q q => by
  obtain ⟨p, vs, rfl, hp, r⟩ := hy
  have hx : x = V.int d := hx
  subst hx
  rw [reps_RI r] at hp
  refine ⟨p, ns.map V.int, rfl, .inl (.inl (.inl (s _ _ hp))), rfl, flat_ints ns, ?_⟩
  rw [inV_ints]
  exact q _ G H (New.refl s) rfl
/-- the least and the greatest of a list -/
theorem caw_min {ns : List Int} (h0 : 0 < ns.length) (k : ∀ m, m ∈ ns → (∀ y, y ∈ ns → m ≤ y) → Φ (RI m) M) : CaW E Γ M (rMin K) [RLt (ns.map RI)] Φ := fun σ G H a vs hv Q q => by
  match vs, hv with
  | [v], ⟨⟨l, ws, e, h, rr⟩, _⟩ =>
    subst e
    rw [reps_RI rr] at h
    exact ⟨l, ns, rfl, .inl (.inl (a.gh _ _ h)), h0, fun m hm hl => q (RI m) M _ G H (k m hm hl) (Same.refl _) a rfl⟩
theorem caw_max {ns : List Int} (h0 : 0 < ns.length) (k : ∀ m, m ∈ ns → (∀ y, y ∈ ns → y ≤ m) → Φ (RI m) M) : CaW E Γ M (rMax K) [RLt (ns.map RI)] Φ := fun σ G H a vs hv Q q => by
  match vs, hv with
  | [v], ⟨⟨l, ws, e, h, rr⟩, _⟩ =>
    subst e
    rw [reps_RI rr] at h
    exact ⟨l, ns, rfl, .inl (.inl (a.gh _ _ h)), h0, fun m hm hl => q (RI m) M _ G H (k m hm hl) (Same.refl _) a rfl⟩
/-- a op b op' c -/
theorem wte_chain {r r' : R2} {ta tb tc : TE} (h : WTE E Γ M ta fun ρa Ma => WTE E Γ Ma tb fun ρb Mb => OpW E Γ Mb r ρa ρb fun ρ M3 => ∃ k, Sub ρ (RB k) ∧ (k = true → WTE E Γ M3 tc fun ρc Mc => OpW E Γ Mc r' ρb ρc Φ) ∧ (k = false → Φ (RB false) M3)) : WTE E Γ M (tChain r r' ta tb tc) Φ := fun σ G H at_ Q q =>
  h σ G H at_ _ fun ρa Ma x G1 H1 h1 s1 a1 r1 => h1 σ G1 H1 a1 _ fun ρb Mb y G2 H2 h2 s2 a2 r2 =>
    h2 σ G2 H2 a2 x y (ρa.mono _ _ _ s2 r1) r2 _ fun ρ M3 z G3 H3 ⟨k, sk, ht, hf⟩ s3 a3 r3 => by
      refine ⟨k, sk _ _ r3, ?_⟩
      cases k with
      | true =>
        rw [if_pos rfl]
        exact ht rfl σ G3 H3 a3 _ fun ρc Mc w G4 H4 h4 s4 a4 r4 => h4 σ G4 H4 a4 y w (ρb.mono _ _ _ (s3.trans s4) r2) r4 Q fun ρ' M' v G' H' k' s5 => q ρ' M' v G' H' k' ((((s1.trans s2).trans s3).trans s4).trans s5)
      | false =>
        rw [if_neg (by decide)]
        exact q _ M3 _ G3 H3 (hf rfl) ((s1.trans s2).trans s3) a3 rfl
theorem we_chain {op op' : CmpOp} {r r' : R2} (ho : OpR X (compareOp op) r) (ho' : OpR X (compareOp op') r')
    (h : WE X E Γ M a fun ρa Ma => WE X E Γ Ma b fun ρb Mb => OpW E Γ Mb r ρa ρb fun ρ M3 => ∃ k, Sub ρ (RB k) ∧ (k = true → WE X E Γ M3 c fun ρc Mc => OpW E Γ Mc r' ρb ρc Φ) ∧ (k = false → Φ (RB false) M3))
    (hm : lastMarks [op, op'] [b, c] = false := by with_unfolding_all rfl) : WE X E Γ M (.Compare a [op, op'] [b, c] pos) Φ := we_of (pe_chain ho ho' pe_w pe_w pe_w hm) (wte_chain h)
theorem wt_chain {Φ : Bool → Ow → Prop} {op op' : CmpOp} {r r' : R2} (ho : OpR X (compareOp op) r) (ho' : OpR X (compareOp op') r')
    (h : WE X E Γ M a fun ρa Ma => WE X E Γ Ma b fun ρb Mb => OpW E Γ Mb r ρa ρb fun ρ M3 => ∃ k, Sub ρ (RB k) ∧ (k = true → WE X E Γ M3 c fun ρc Mc => OpW E Γ Mc r' ρb ρc fun ρ M' => ∃ k, Sub ρ (RB k) ∧ Φ k M') ∧ (k = false → Φ false M3))
    (hm : lastMarks [op, op'] [b, c] = false := by with_unfolding_all rfl) : WT X E Γ M (.Compare a [op, op'] [b, c] pos) Φ :=
  wt_of (pt_chain ho ho' pe_w pe_w pe_w hm) (wtt_test (wte_chain fun σ G H at_ Q q => h σ G H at_ Q fun ρa Ma x G1 H1 h1 => q ρa Ma x G1 H1 fun σ G H at_ Q q => h1 σ G H at_ Q fun ρb Mb y G2 H2 h2 => q ρb Mb y G2 H2 fun σ G H a' x y hx hy Q q => h2 σ G H a' x y hx hy Q fun ρ M3 v G3 H3 ⟨k, sk, ht, hf⟩ => q ρ M3 v G3 H3 ⟨k, sk, ht, fun e => ⟨false, Sub.rfl, hf e⟩⟩))
/-- list(range(a, b)) -/
def rgI (i j : Int) : List Int := (List.range (j - i).toNat).map fun (n : Nat) => i + (n : Int)
theorem rg_reps {i j : Int} {G : Hp} : Reps ((rgI i j).map RI) (rgV i j) G := by
  have e : rgV i j = (rgI i j).map V.int := by
    unfold rgV rgI
    rw [List.map_map]
    rfl
  rw [e]
  exact reps_ints0 _
theorem we_listRg (hc : X.calm = true) (hg : Gl X "list") (hm : X.mg "list" = none) (hgr : Gl X "range") (hmr : X.mg "range" = none)
    (h : WE X E Γ M a fun ρ M1 => ∃ i, Sub ρ (RI i) ∧ WE X E Γ M1 b fun ρ' M2 => ∃ j, Sub ρ' (RI j) ∧ RgOk i j ∧ Φ (RLt ((rgI i j).map RI)) M2)
    (na : starEach [a, b] X.env = (false, eval a X.env) :: starEach [b] X.env := by rfl) (nb : starEach [b] X.env = (false, eval b X.env) :: starEach [] X.env := by rfl) (hp : (backTo p2 (starEach [b] X.env)).any (·.1) = false := by rfl)
    (ne : starEach [.Call (.Name "range" p) [a, b] [] p2] X.env = (false, eval (.Call (.Name "range" p) [a, b] [] p2) X.env) :: starEach [] X.env := by rfl) : WE X E Γ M (.Call (.Name "list" pos) [.Call (.Name "range" p) [a, b] [] p2] [] pos2) Φ :=
  we_of (pe_listRg hc hg hm (prg_2 hgr hmr pe_w pe_w na nb hp) ne) fun σ G H at_ Q q => h σ G H at_ _ fun ρ M1 v G1 H1 ⟨i, si, h2⟩ s1 a1 r1 => h2 σ G1 H1 a1 _ fun ρ' M2 v' G2 H2 ⟨j, sj, ok, hk⟩ s2 a2 r2 =>
    ⟨i, j, si _ _ r1, sj _ _ r2, ok, fun l hl => by
      have n := New.put (o := HO.lst (rgV i j)) a2.gh hl
      exact q _ M2 _ _ _ hk ((s1.trans s2).trans n.gg) (a2.new n) ⟨l, rgV i j, rfl, upd_same, rg_reps⟩⟩
end
/-! ### sorted of what is sorted -/
open PySem.W in
def rSortD (K : PySem.W.Frag) : List V → Hp → VK → Prop := fun vs H Q => ∃ (a : Addr) (xs : List V) (ds : List PyData), vs = [.ref a] ∧ SqL K H a xs ∧ DpAll K H xs ds ∧ PySem.W.AllAlike ds ∧ PySem.W.Sortable ds ∧ (∀ d ∈ ds, d.depth ≤ 50) ∧
  ds.Pairwise (fun d e => PySem.W.dataLe false (fun x : PyData => x) d e = true) ∧ ∀ p, H p = none → Q (.ref p) (upd H p (.lst xs))
theorem dpAll_len {K : PySem.W.Frag} {H : Hp} : ∀ {xs : List V} {ds : List PyData}, DpAll K H xs ds → xs.length = ds.length
  | [], [], _ => rfl
  | [], _ :: _, h => by cases h
  | _ :: _, [], h => by cases h
  | x :: xs, d :: ds, h => by
    cases h with
    | cons h1 h2 => rw [List.length_cons, List.length_cons, dpAll_len h2]
theorem each_zip {vs : List V} : ∀ {us : List Value} {ds : List PyData}, Vals vs us → vs.length = ds.length → PySem.W.EachIs (fun u (b : V × PyData) => RelV b.1 u) us (vs.zip ds) := by
  induction vs with
  | nil =>
    intro us ds r l
    cases r
    exact .nil
  | cons v vs ih =>
    intro us ds r l
    cases r with
    | cons h t =>
      cases ds with
      | nil => cases l
      | cons d ds => exact .cons h (ih t (by simpa using l))
theorem each_reads {X : Cx} {pins : List (Addr × Obj)} {σ : L2.St} {H : Hp} {s : Shared} (I : L2.Inv X pins σ H s) {vs : List V} : ∀ {us : List Value} {ds : List PyData}, Vals vs us → DpAll X.K H vs ds → PySem.W.EachIs (fun u (b : V × PyData) => ∃ as, Reads s.heap u b.2 as) us (vs.zip ds) := by
  induction vs with
  | nil =>
    intro us ds r l
    cases r
    exact .nil
  | cons v vs ih =>
    intro us ds r l
    cases r with
    | cons h t =>
      cases ds with
      | nil => cases l
      | cons d ds =>
        cases l with
        | cons l1 l2 => exact .cons (Dp.reads I d v _ l1 h) (ih t l2)
theorem vals_of_zip : ∀ {vs : List V} {us : List Value} {ds : List PyData}, PySem.W.EachIs (fun u (b : V × PyData) => RelV b.1 u) us (vs.zip ds) → vs.length = ds.length → Vals vs us := by
  intro vs
  induction vs with
  | nil =>
    intro us ds r l
    cases r
    exact .nil
  | cons v vs ih =>
    intro us ds r l
    cases ds with
    | nil => cases l
    | cons d ds =>
      cases r with
      | cons h t => exact .cons h (ih t (by simpa using l))
theorem cr_sortedD {X : Cx} (hu : X.A.units + 64 < cLine) : CallR X (.builtin "sorted") (rSortD X.K) := by
  intro pins s σ H vs us Q I r h
  obtain ⟨a, xs, ds, rfl, hs, hd, hal, hk, hdp, hpw, q⟩ := h
  obtain ⟨its, rv, hl, hz⟩ := I.list hs
  rw [Vals.ref1 r]
  have hlen := dpAll_len hd
  have em : (xs.zip ds).map Prod.snd = ds := List.map_snd_zip (by omega)
  refine PySem.W.sorted_data (vs := its) (bs := xs.zip ds) (enc := Prod.snd) (R := fun u b => RelV b.1 u) hl.isList (each_zip rv hlen) (each_reads I rv hd) (by rw [em]; exact hal) (by rw [em]; exact hk) (by rw [List.length_zip]; omega) (fun b hb => ?dep) fun out ho eo => ?_
  case dep =>
    have := hdp b.2 (List.of_mem_zip (a := b.1) (b := b.2) hb).2
    omega
  have es : (xs.zip ds).mergeSort (PySem.W.dataLe false Prod.snd) = xs.zip ds := by
    refine List.mergeSort_of_pairwise ?_
    have hp := hpw
    rw [← em] at hp
    exact List.pairwise_map.mp hp
  rw [es] at eo
  have vo := vals_of_zip eo hlen
  obtain ⟨ep, he'⟩ := PyProof.Rows.sortedAll_at s.heap its out.toArray
  exact ⟨.ref _, upd H (s.heap.objs.size + 1) (.lst xs), I.laid (t' := s.toks) (fun _ _ => PyProof.Rows.sortedAll_old) (Nat.le_succ _) ⟨hz, out, ep, vo, he'⟩, rfl, q _ (I.hok.fresh (Nat.le_succ _))⟩
theorem cav_sorted {K : PySem.W.Frag} {ρs : List Rep} {ds : List PyData} (hd : IsDs K ρs ds) (hal : PySem.W.AllAlike ds) (hk : PySem.W.Sortable ds) (hdp : ∀ d ∈ ds, d.depth ≤ 50) (hpw : ds.Pairwise (fun d e => PySem.W.dataLe false (fun x : PyData => x) d e = true)) : CaV (rSortD K) [RLt ρs] (RLt ρs) := fun vs G H s r Q q => by
  match vs, r with
  | [v], ⟨⟨a, ws, e, h, rr⟩, _⟩ =>
    subst e
    refine ⟨a, ws, ds, rfl, .inl (.inl (s _ _ h)), hd ws G H s rr, hal, hk, hdp, hpw, fun p hp => ?_⟩
    have n := New.put (o := HO.lst ws) s hp
    exact q _ _ _ n ⟨p, ws, rfl, upd_same, rr.mono n.gg⟩
/-! ### rows of a number and a truth -/
def dNB (m : Int × Bool) : PyData := .tuple [.int m.1, .bool m.2]
def RNB (m : Int × Bool) : Rep := RTt [RI m.1, RB m.2]
theorem isD_NB {K : PySem.W.Frag} {m : Int × Bool} : IsD K (RNB m) (dNB m) := isD_tt (isDs_cons isD_i (isDs_cons isD_b isDs_nil))
theorem eqv_map {α : Type} {f : α → PyData} (h : ∀ a, PyData.eqv (f a) (f a) = true) (l : List α) : PyData.eqv (.list (l.map f)) (.list (l.map f)) = true := by
  have k : ∀ l : List α, PyData.eqvAll (l.map f) (l.map f) = true := by
    intro l
    induction l with
    | nil => simp [PyData.eqvAll]
    | cons x l ih => simp [PyData.eqvAll, h, ih]
  simp only [PyData.eqv]
  exact k l
theorem shaped_map {α : Type} {f : α → PyData} (h : ∀ a, PyData.canLay0 (f a) = true) (h2 : ∀ a, PyData.depth (f a) ≤ 5) (l : List α) : SeqAt.shaped (.list (l.map f)) = true := by
  have k : ∀ l : List α, PyData.canLayAll0 (l.map f) = true := by
    intro l
    induction l with
    | nil => rfl
    | cons x l ih => simp [PyData.canLayAll0, h, ih]
  have k2 : ∀ l : List α, PyData.depthAll (l.map f) ≤ 5 := by
    intro l
    induction l with
    | nil => simp [PyData.depthAll]
    | cons x l ih =>
      have := h2 x
      simp only [List.map_cons, PyData.depthAll]
      omega
  have := k2 l
  simp [SeqAt.shaped, PyData.canLay0, PyData.depth, k]
  omega
theorem eqv_NB (m : Int × Bool) : PyData.eqv (dNB m) (dNB m) = true := by simp [dNB, PyData.eqv, PyData.eqvAll]
theorem lay_NB (m : Int × Bool) : PyData.canLay0 (dNB m) = true := by simp [dNB, PyData.canLay0, PyData.canLayAll0]
theorem dep_NB (m : Int × Bool) : PyData.depth (dNB m) ≤ 5 := by simp [dNB, PyData.depth, PyData.depthAll]
theorem le_NB {m m' : Int × Bool} (h : m.1 < m'.1 ∨ (m.1 = m'.1 ∧ (m.2 = true → m'.2 = true))) : PySem.W.dataLe false (fun x : PyData => x) (dNB m) (dNB m') = true := by
  obtain ⟨a, b⟩ := m
  obtain ⟨a', b'⟩ := m'
  show (!PySem.W.dataLt (.tuple [.int a', .bool b']) (.tuple [.int a, .bool b])) = true
  rw [PySem.W.dataLt_pair (by simp [PySem.W.alike]) (by simp [PySem.W.alike])]
  have h : a < a' ∨ (a = a' ∧ (b = true → b' = true)) := h
  by_cases e : a' = a
  · subst e
    have hb : b = true → b' = true := by
      rcases h with h | h
      · omega
      · exact h.2
    rw [if_pos (by simp [PyData.eqv])]
    cases b <;> cases b'
    · rfl
    · decide +kernel
    · cases hb rfl
    · rfl
  · rw [if_neg (by simp [PyData.eqv, e]), PySem.W.dataLt_int]
    have : ¬ a' < a := by omega
    simp [this]
theorem alike_NB (ms : List (Int × Bool)) : PySem.W.AllAlike (ms.map dNB) := PySem.W.AllAlike.of fun b b' => by simp [dNB, PySem.W.alike, PySem.W.alikeAll]
theorem sortable_NB (ms : List (Int × Bool)) : PySem.W.Sortable (ms.map dNB) := PySem.W.Sortable.tuples fun b => ⟨_, _, rfl⟩
end MM

namespace MM
open PySem L2 PyProof.Rows
/-! ### == of wheels, repr, next_named -/
structure WhR (v : Wh) : Prop where
  ok : WhOk v
  le : v.names.length ≤ 100
  sm : ∀ s ∈ v.names, s.length ≤ 60
theorem WhR.s {v : Wh} (h : WhR v) : WhS v := ⟨h.ok, fun s hs => by have := h.sm s hs; omega⟩
theorem rpL_len {l : List Str} (ok : ∀ s ∈ l, PyData.strOk s = true) (sm : ∀ s ∈ l, s.length ≤ 60) (le : l.length ≤ 100) : (rpL l).length ≤ 61000 := by
  unfold rpL
  rw [show PyData.shown (.list (l.map PyData.str)) = listText (PyData.shownAll (l.map PyData.str)) by simp only [PyData.shown]]
  rw [PyData.shownAll_strs]
  have a := listText_len_le (l.map reprText)
  have b : ((l.map reprText).map (·.length)).sum ≤ l.length * 602 := by
    clear a le
    induction l with
    | nil => simp
    | cons x l ih =>
      have h1 := ih (fun s hs => ok s (List.mem_cons_of_mem _ hs)) fun s hs => sm s (List.mem_cons_of_mem _ hs)
      have h2 := StrLaws.reprText_len x fun c hc => by
        have z := ok x List.mem_cons_self
        unfold PyData.strOk at z
        rw [Array.all_eq_true_iff_forall_mem] at z
        have := of_decide_eq_true (z c (by simpa using hc))
        omega
      have h3 := sm x List.mem_cons_self
      rw [List.map_cons, List.map_cons, List.sum_cons, List.length_cons, Nat.succ_mul]
      omega
  rw [List.length_map] at a
  omega
theorem WhR.rp {v : Wh} (h : WhR v) : (rpL v.names).length ≤ 61000 := rpL_len h.ok.ok h.sm h.le
def whR (v : Wh) : Str := ("Wheel(" : Str) ++ rpL v.names ++ (", first=" : Str) ++ itx v.first ++ (")" : Str)
def con_eqW (CW : Addr) : Con := { I := Wh × Wh, B := Unit, pre := fun i => WhOk i.1 ∧ WhOk i.2, args := fun i => [RWh CW i.1, RWh CW i.2], own := fun _ => [], post := fun _ _ => True, res := fun i _ => RB (decide (fnL i.1 = fnL i.2)), own' := fun _ _ => [] }
theorem ck_eqW {CW : Addr} {ρ1 ρ2 : Rep} {M : Ow} {Φ : Rep → Ow → Prop} (a b : Wh) (h1 : Sub ρ1 (RWh CW a)) (h2 : Sub ρ2 (RWh CW b)) (ha : WhOk a) (hb : WhOk b) (k : Φ (RB (decide (fnL a = fnL b))) M) : CallK (con_eqW CW) [ρ1, ρ2] M Φ := ⟨(a, b), M, ⟨ha, hb⟩, .cons h1 (.cons h2 .nil), .nil, fun _ _ => k⟩
def con_reprW (CW : Addr) : Con := { I := Wh, B := Unit, pre := fun v => WhR v, args := fun v => [RWh CW v], own := fun _ => [], post := fun _ _ => True, res := fun v _ => RS (whR v), own' := fun _ _ => [] }
theorem ck_reprW {CW : Addr} {ρ : Rep} {M : Ow} {Φ : Rep → Ow → Prop} {v : Wh} (h : Sub ρ (RWh CW v)) (hw : WhR v) (k : Φ (RS (whR v)) M) : CallK (con_reprW CW) [ρ] M Φ := ⟨v, M, hw, .cons h .nil, .nil, fun _ _ => k⟩
/-- the first day from d on that has the name at the place k -/
def nxt (v : Wh) (d : Int) (k : Nat) : Int := d + (v.first + (k : Nat) - d) % ((v.names.length : Nat) : Int)
structure NxI where
  v : Wh
  d : Int
  k : Nat
def con_nx (CW : Addr) : Con := { I := NxI, B := Unit, pre := fun i => WhOk i.v ∧ i.k < i.v.names.length, args := fun i => [RWh CW i.v, RI i.d, RS (i.v.names.getD i.k Str.empty)], own := fun _ => [], post := fun _ _ => True, res := fun i _ => RI (nxt i.v i.d i.k), own' := fun _ _ => [] }
theorem ck_nx {CW : Addr} {ρ1 ρ2 ρ3 : Rep} {M : Ow} {Φ : Rep → Ow → Prop} {v : Wh} {d : Int} {k : Nat} (h1 : Sub ρ1 (RWh CW v)) (h2 : Sub ρ2 (RI d)) (h3 : Sub ρ3 (RS (v.names.getD k Str.empty))) (hv : WhOk v) (hk : k < v.names.length) (q : Φ (RI (nxt v d k)) M) : CallK (con_nx CW) [ρ1, ρ2, ρ3] M Φ :=
  ⟨⟨v, d, k⟩, M, ⟨hv, hk⟩, .cons h1 (.cons h2 (.cons h3 .nil)), .nil, fun _ _ => q⟩
theorem kitWh {K : PySem.W.Frag} {C : Addr} {T : String} (h1 : PySem.W.isClsIn K C = true) (h2 : PySem.W.typeIn K (.ref C) = some (.type "type")) (h3 : PySem.W.subIn K (.type T) (.ref C) = some false) : PySem.W.kitOne K (.type T) (.ref C) = some false := kitInt h1 h2 h3
theorem fnL_ok {v : Wh} (h : WhOk v) : ∀ s ∈ fnL v, PyData.strOk s = true := fun s hs => h.ok s (fnL_in h s hs)
theorem lg_of {n : Nat} {i : Int} (h : Bd n i) (hn : n ≤ 1900) : i.natAbs.log2 < 1920 := Nat.lt_of_le_of_lt (Nat.le_of_lt_succ (Nat.lt_succ_of_lt (bd_log (h.mono (show n ≤ 1900 by omega)) (by decide)))) (by decide)
theorem itx_len {i : Int} (h : Bd 70 i) : (itx i).length ≤ 2000 := by
  have := int_text_len_1921 (i := i) (lg_of h (by decide))
  show (Str.ofString (toString i)).length ≤ 2000
  omega
section
variable {X : Cx} {E : En} {Γ : Gm} {M : Ow} {a b : Expr} {pos : Pos} {Φ : Rep → Ow → Prop} {k : Nat} {C : Addr} {c : Con}
theorem opw_neQ {sp : Sp} {ρa ρb : Rep} (hsp : sp = conSp c) (s1 : ∃ l, MM.Sub ρa (RIns C l)) (s2 : ∃ l, MM.Sub ρb (RIns C l)) (ck : CallK c [ρa, ρb] M fun ρ M' => ∃ k, MM.Sub ρ (RB k) ∧ Φ (RB (!k)) M') : OpW E Γ M (rNeO C sp) ρa ρb Φ := fun σ3 G4 H4 at3 x y hx hy Q3 q3 => by
  subst hsp
  obtain ⟨l, s1⟩ := s1
  obtain ⟨l', s2⟩ := s2
  obtain ⟨b1, dx, fs, e1, h1, r1⟩ := s1 _ _ hx
  obtain ⟨b2, dy, gs, e2, h2, r2⟩ := s2 _ _ hy
  have cr := callK_run (EE := E0) (Q := fun v H' => ∃ k, v = .bl k ∧ Q3 (.bl (!k)) H') ck at3 (vs := [x, y]) ⟨hx, hy, trivial⟩ fun ρ4 M4 v4 G5 H5 ⟨k, sk, hφ⟩ s4 a4 r4 => ⟨k, sk _ _ r4, q3 (RB (!k)) M4 _ G5 H5 hφ s4 a4 rfl⟩
  subst e1 e2
  exact ⟨b1, b2, dx, dy, fs, gs, rfl, rfl, at3.gh _ _ h1, at3.gh _ _ h2, cr⟩
theorem we_neQ (F : KnN X.prog X.w X.K X.mg X.base k C c) (hr : Room (k + 1) X.A) (hx : Passes CX0 X E0)
    (h : WE X E Γ M a fun ρa Ma => WE X E Γ Ma b fun ρb Mb => (∃ l, MM.Sub ρa (RIns C l)) ∧ (∃ l, MM.Sub ρb (RIns C l)) ∧ CallK c [ρa, ρb] Mb fun ρ M' => ∃ k, MM.Sub ρ (RB k) ∧ Φ (RB (!k)) M') (hm : behindInMarks .NotEq b = false := by exact nomark _) : WE X E Γ M (.Compare a [.NotEq] [b] pos) Φ := by
  obtain ⟨⟨f, fd, ps, hs, hf, hb, ok⟩, hne, hso⟩ := F
  refine we_cmp (op_neO ok hs hf hb hne hso hx hr) hm ?_
  intro σ G H at_ Q q
  refine h σ G H at_ Q fun ρ M' v G' H' hh => q ρ M' v G' H' ?_
  intro σ2 G2 H2 at2 Q2 q2
  exact hh σ2 G2 H2 at2 Q2 fun ρ2 M2 v2 G3 H3 ⟨s1, s2, ck⟩ => q2 ρ2 M2 v2 G3 H3 (opw_neQ rfl s1 s2 ck)
/-- a list times a small number -/
theorem opv_rep {ρs : List Rep} {n : Nat} (h1 : n ≤ 1000) (h : ρs.length * n ≤ 100000) : OpV rRep (RLt ρs) (RI (n : Int)) (RLt (List.replicate n ρs).flatten) := fun x y G H s hx hy Q q => by
  obtain ⟨b, xs, e1, hb, r⟩ := hx
  have e2 : y = .int (n : Int) := hy
  subst e1 e2
  refine ⟨b, n, xs, rfl, rfl, s _ _ hb, by omega, by omega, by rw [← r.length, Int.toNat_natCast]; exact szOf h, fun p hp => ?_⟩
  have nw : New G H (upd G p (.lst (List.replicate n xs).flatten)) (upd H p (.lst (List.replicate n xs).flatten)) := New.put s hp
  refine q _ _ _ nw ⟨p, _, rfl, upd_same, ?_⟩
  have all : ∀ k : Nat, Reps (List.replicate k ρs).flatten (List.replicate k xs).flatten G := fun k => by
    induction k with
    | zero => trivial
    | succ k ih =>
      rw [List.replicate_succ, List.replicate_succ, List.flatten_cons, List.flatten_cons]
      exact r.app ih
  exact (all n).mono nw.gg
end
section
variable {P : Program} {w : World} {K : PySem.W.Frag} {mg : Str → Option Value} {base : Heap} {CW : Addr}
theorem ok_eqW {f : Addr} {fd : FuncData} (F : FdD K "__eq__" "Wheel.__eq__" s_Wheel_eq [] f fd) (T : WhT K CW) (hm : mg "Wheel" = some (.ref CW)) (hi : mg "isinstance" = none) (Fo : Kn P w K mg base 2 "from_nought" [] (con_fn CW)) : FnOk P w K mg base CX0 3 f fd ["self", "other"] (conSp (con_eqW CW)) := by
  refine fn_conD (con_eqW CW) F sc_Wheel_eq (fun _ => rfl) fun cd A outer s H EE G i hp hr hE => ?_
  obtain ⟨a, b⟩ := i
  obtain ⟨ha, hb⟩ := hp
  have ha : WhOk a := ha
  have hb : WhOk b := hb
  refine wss_one (ws_ret (we_and (we_callB call_isi g_isinstance_Wheel_eq hi (by decide +kernel) (wa_cons (we_var 1 r1_Wheel_eq rfl (wa_cons (we_glob (v := .ref CW) (ρ := RV (.ref CW)) g_Wheel_Wheel_eq hm rfl (fun _ => rfl) (wa_nil ?_))))))))
  refine caw_of (cav_isi (tyIs_ins T.ci) (.own CW) kit_self) ⟨true, Sub.rfl, fun _ => ?_, fun hk => (by cases hk)⟩
  refine we_and1 (we_cmp (op_eqD hr.units) (nomark _) (we_call Fo hr g_from_nought_Wheel_eq pass0 (wa_cons (we_var 0 r0_Wheel_eq rfl (wa_nil (ck_fn Sub.rfl ha ?_))))))
  refine we_call Fo hr g_from_nought_Wheel_eq pass0 (wa_cons (we_var 1 r1_Wheel_eq rfl (wa_nil (ck_fn Sub.rfl hb (opw_of (opv_eq isD_txts isD_txts (shaped_txts (fnL_ok ha)) (shaped_txts (fnL_ok hb))) ?_)))))
  rw [eqv_txts]
  exact ⟨(), [], trivial, Sub.rfl, .nil⟩
theorem ok_eqFW {f : Addr} {fd : FuncData} (F : FdD K "__eq__" "Wheel.__eq__" s_Wheel_eq [] f fd) (k1 : PySem.W.isClsIn K CW = true) (k2 : PySem.W.typeIn K (.ref CW) = some (.type "type")) (hm : mg "Wheel" = some (.ref CW)) (hi : mg "isinstance" = none) : FnOk P w K mg base CX0 3 f fd ["self", "other"] (conSp (con_eqF K CW)) := by
  refine fn_conD (con_eqF K CW) F sc_Wheel_eq (fun _ => rfl) fun cd A outer s H EE G i hp hr hE => ?_
  obtain ⟨l, ρ, T⟩ := i
  obtain ⟨h1, h2⟩ := hp
  have h1 : RFrg ρ T := h1
  refine wss_one (ws_ret (we_and (we_callB call_isi g_isinstance_Wheel_eq hi (by decide +kernel) (wa_cons (we_var 1 r1_Wheel_eq rfl (wa_cons (we_glob (v := .ref CW) (ρ := RV (.ref CW)) g_Wheel_Wheel_eq hm rfl (fun _ => rfl) (wa_nil ?_))))))))
  exact caw_of (cav_isi h1.tyIs (.own CW) (kitWh k1 k2 h2)) ⟨false, Sub.rfl, fun hk => (by cases hk), fun _ => ⟨(), [], trivial, Sub.rfl, .nil⟩⟩
theorem ok_reprW {f : Addr} {fd : FuncData} (F : FdD K "__repr__" "Wheel.__repr__" s_Wheel_repr [] f fd) (T : WhT K CW) (hls : mg "list" = none) : FnG P w K mg base 1 f fd (N_Wheel_repr.take 1) (conSp (con_reprW CW)) := by
  refine fn_conG (con_reprW CW) F sc_Wheel_repr (fun _ => rfl) fun cd A outer s H EE G (v : Wh) hp hr gd hE => ?_
  have hw : WhR v := hp
  have rl := hw.rp
  have il := itx_len hw.ok.z
  have c1 : ("Wheel(" : Str).length = 6 := by decide +kernel
  have c2 : (", first=" : Str).length = 8 := by decide +kernel
  have c3 : (")" : Str).length = 1 := by decide +kernel
  have sz : sizeLine = 16777216 := by decide
  refine wss_one (ws_ret (we_joined (we_str ⟨_, Sub.rfl, ?s1, we_fmtLR hr gd (we_freeze (we_callTy call_list_of g_list_Wheel_repr hls (by decide +kernel) (wa_cons (we_fld (we_var 0 r0_Wheel_repr rfl ⟨_, hasF_names T, wa_nil (caw_listT hE fun q hq hqE => ⟨q, _, _, Sub.rfl, .here, hqE, v.names, sub_lt, by omega, ⟨_, Sub.rfl, ?s2, ?tail⟩⟩)⟩))))) ⟩)))
  case s1 =>
    rw [Str.length_append, c1, sz]
    show 0 + 6 ≤ 16777216
    omega
  case s2 =>
    rw [Str.length_append, Str.length_append, c1, sz]
    show 0 + 6 + _ ≤ 16777216
    omega
  case tail =>
    refine we_str ⟨_, Sub.rfl, ?s3, we_fmtI (we_fld (we_var 0 r0_Wheel_repr rfl ⟨_, hasF_first T, v.first, Sub.rfl, lg_of hw.ok.z (by decide), ⟨_, Sub.rfl, ?s4, we_str ⟨_, Sub.rfl, ?s5, ?out⟩⟩⟩))⟩
    case s3 =>
      rw [Str.length_append, Str.length_append, Str.length_append, c1, c2, sz]
      show 0 + 6 + _ + 8 ≤ 16777216
      omega
    case s4 =>
      rw [Str.length_append, Str.length_append, Str.length_append, Str.length_append, c1, c2, sz]
      show 0 + 6 + _ + 8 + (itx v.first).length ≤ 16777216
      omega
    case s5 =>
      rw [Str.length_append, Str.length_append, Str.length_append, Str.length_append, Str.length_append, c1, c2, c3, sz]
      show 0 + 6 + _ + 8 + (itx v.first).length + 1 ≤ 16777216
      omega
    case out =>
      refine ⟨(), _, trivial, ?_, .nil⟩
      show Sub (RS (Str.empty ++ ("Wheel(" : Str) ++ rpL v.names ++ (", first=" : Str) ++ itx v.first ++ (")" : Str))) (RS (whR v))
      rw [PySem.Str.empty_append]
      exact Sub.rfl
theorem ok_nx {f : Addr} {fd : FuncData} (F : FdD K "next_named" "Wheel.next_named" s_Wheel_next_named [] f fd) (T : WhT K CW) (B : BltW mg) (Re : Kn P w K mg base 1 "rest_of" [] (con_rest CW)) : FnOk P w K mg base CX0 2 f fd (N_Wheel_next_named.take 3) (conSp (con_nx CW)) := by
  refine fn_conD (con_nx CW) F sc_Wheel_next_named (fun _ => rfl) fun cd A outer s H EE G i hp hr hE => ?_
  obtain ⟨v, d, k⟩ := i
  obtain ⟨hv, hk⟩ := hp
  have hv : WhOk v := hv
  have hk : k < v.names.length := hk
  refine wss_one (ws_ret (we_bin op_addU (we_var 1 r1_Wheel_next_named rfl (we_bin op_modN (we_bin op_sub (we_call Re hr g_rest_of_Wheel_next_named pass0 (wa_cons (we_var 0 r0_Wheel_next_named rfl (wa_cons (we_var 2 r2_Wheel_next_named rfl (wa_nil ?_)))))))))))
  refine ck_rest (w := v) (k := k) Sub.rfl Sub.rfl hv hk (we_var 1 r1_Wheel_next_named rfl (opw_of opv_sub_i ?_))
  refine we_callB call_len_seq g_len_Wheel_next_named B.len (by decide +kernel) (wa_cons (we_fld (we_var 0 r0_Wheel_next_named rfl ⟨_, hasF_names T, wa_nil (caw_of cav_len_tt ?_)⟩)))
  rw [List.length_map]
  exact opw_of (opv_mod_i (Int.natCast_pos.mpr hv.pos)) (opw_of opv_add_i ⟨(), [], trivial, Sub.rfl, .nil⟩)
end
end MM

namespace MM
open PySem L2 PyProof.Rows
/-! ### owned lists of texts -/
section
variable {X : Cx} {E : En} {Γ : Gm} {M : Ow} {a b e iter tg : Expr} {pos p p2 q apos : Pos} {Φ : Rep → Ow → Prop} {Ψ : Ed} {x : Str}
theorem reps_strs0 {G : Hp} : ∀ ns : List Str, Reps (ns.map RS) (ns.map V.str) G
  | [] => trivial
  | _ :: ns => ⟨rfl, reps_strs0 ns⟩
theorem own_txts {σ : L2.St} {G H : Hp} {q : Addr} {ns : List Str} {u : ORep → Ow} (at_ : At E Γ M σ G H) (fd : Fnd M q (OL (ns.map RS)) u) : H q = some (.lst (ns.map V.str)) := by
  obtain ⟨o, e1, ws, e2, rf⟩ := at_.own _ fd.mem
  subst e2
  rw [rvals_strs rf] at e1
  exact e1
/-- == and != of an owned list of texts -/
theorem opw_eqTx {ρ ρ' : Rep} {q : Addr} {ns : List Str} {u : ORep → Ow} {d : PyData} (sb : Sub ρ (RRef q)) (fd : Fnd M q (OL (ns.map RS)) u) (h2 : IsD X.K ρ' d) (s2 : SeqAt.shaped d = true) (s1 : SeqAt.shaped (.list (ns.map PyData.str)) = true) (k : Φ (RB (PyData.eqv (.list (ns.map PyData.str)) d)) M) : OpW E Γ M (rEqD X.K) ρ ρ' Φ := fun σ G H a x y hx hy Q q0 => by
  have e : x = .ref q := sb _ _ hx
  subst e
  have e1 := own_txts a fd
  refine ⟨.list (ns.map PyData.str), d, .lst (.inl (.inl e1)) ?_, h2 y G H a.gh hy, s1, s2, q0 _ M _ G H k (Same.refl _) a rfl⟩
  exact isDs_map (f := RS) (g := PyData.str) (fun _ => isD_s) ns _ H H (Same.refl _) (reps_strs0 ns)
theorem opw_neTx {ρ ρ' : Rep} {q : Addr} {ns : List Str} {u : ORep → Ow} {d : PyData} (sb : Sub ρ (RRef q)) (fd : Fnd M q (OL (ns.map RS)) u) (h2 : IsD X.K ρ' d) (s2 : SeqAt.shaped d = true) (s1 : SeqAt.shaped (.list (ns.map PyData.str)) = true) (k : Φ (RB (!PyData.eqv (.list (ns.map PyData.str)) d)) M) : OpW E Γ M (rNeD X.K) ρ ρ' Φ := fun σ G H a x y hx hy Q q0 => by
  have e : x = .ref q := sb _ _ hx
  subst e
  have e1 := own_txts a fd
  refine ⟨.list (ns.map PyData.str), d, .lst (.inl (.inl e1)) ?_, h2 y G H a.gh hy, s1, s2, q0 _ M _ G H k (Same.refl _) a rfl⟩
  exact isDs_map (f := RS) (g := PyData.str) (fun _ => isD_s) ns _ H H (Same.refl _) (reps_strs0 ns)
/-- len(set(an owned list of texts)) -/
theorem we_lenTxO (hc : X.calm = true) (hg : Gl X "len") (hm : X.mg "len" = none) (hg2 : Gl X "set") (hm2 : X.mg "set" = none) (h : WE X E Γ M a fun ρ M1 => ∃ (w : Addr) (xs : List Str) (u : ORep → Ow), Sub ρ (RRef w) ∧ Fnd M1 w (OL (xs.map RS)) u ∧ xs.length < 4000 ∧ Φ (RI (dn xs xs.length : Nat)) M1)
    (na : starEach [a] X.env = (false, eval a X.env) :: starEach [] X.env := by rfl) : WE X E Γ M (.Call (.Name "len" p) [.Call (.Name "set" p2) [a] [] q] [] pos) Φ :=
  we_of (pe_lenTx hc hg hm hg2 hm2 pe_w na) fun σ G H at_ Q k => h σ G H at_ _ fun ρ M1 v G1 H1 ⟨w, xs, u, sb, fd, few, hk⟩ s1 a1 r1 =>
    ⟨w, xs, sb _ _ r1, SqL.of (own_txts a1 fd), few, k _ _ _ _ _ hk s1 a1 rfl⟩
/-- len(an owned list) -/
theorem caw_lenOw {K : PySem.W.Frag} {l : Addr} {ρs : List Rep} {u : ORep → Ow} {ρ : Rep} (sb : Sub ρ (RRef l)) (fd : Fnd M l (OL ρs) u) (k : Φ (RI ρs.length) M) : CaW E Γ M (fun xs H Q => ∃ p ys, xs = [.ref p] ∧ (SqL K H p ys ∨ SqT K H p ys) ∧ Q (.int ys.length) H) [ρ] Φ := fun σ G H a vs hv Q q => by
  match vs, hv with
  | [v], ⟨r, _⟩ =>
    have e : v = .ref l := sb _ _ r
    subst e
    obtain ⟨o, e1, ws, e2, rf⟩ := a.own _ fd.mem
    subst e2
    refine ⟨l, ws, rfl, .inl (SqL.of e1), ?_⟩
    rw [← rf.length]
    exact q _ _ _ _ _ k (Same.refl _) a rfl
end
end MM

namespace MM
open PySem L2 PyProof.Rows
/-! ### names of days -/
theorem emod_to {n k x : Int} (k0 : 0 ≤ k) (k1 : k < n) (h : (x - k) % n = 0) : x % n = k := by
  have e : x = k + n * ((x - k) / n) := by
    have := Int.mul_ediv_add_emod (x - k) n
    omega
  rw [e, Int.add_mul_emod_self_left]
  exact Int.emod_eq_of_lt k0 k1
theorem emod_sub0 {n x : Int} : (x - x % n) % n = 0 := by
  have := Int.mul_ediv_add_emod x n
  have e : x - x % n = n * (x / n) := by omega
  rw [e]
  exact Int.mul_emod_right _ _
theorem Wh.on_at {w : Wh} (h : WhOk w) {d : Int} {k : Nat} (hk : k < w.names.length) : w.on d = w.names.getD k Str.empty ↔ (d - w.first) % ((w.names.length : Nat) : Int) = (k : Int) := by
  have p := h.pos
  have a := Int.emod_nonneg (d - w.first) (show ((w.names.length : Nat) : Int) ≠ 0 by omega)
  have b := Int.emod_lt_of_pos (d - w.first) (show (0 : Int) < (w.names.length : Nat) by omega)
  unfold Wh.on
  generalize (d - w.first) % ((w.names.length : Nat) : Int) = x at a b
  obtain ⟨j, rfl⟩ := Int.eq_ofNat_of_zero_le a
  have k1 : j < w.names.length := by omega
  rw [Int.toNat_natCast, List.getD_eq_getElem?_getD, List.getElem?_eq_getElem k1, Option.getD_some, List.getD_eq_getElem?_getD, List.getElem?_eq_getElem hk, Option.getD_some, List.getElem_inj h.nd]
  omega
theorem nxt_of {w : Wh} (h : WhOk w) {d : Int} {k i : Nat} (hk : k < w.names.length) (hi : i < w.names.length) (e : w.on (d + (i : Int)) = w.names.getD k Str.empty) : d + (i : Int) = nxt w d k := by
  have z := (Wh.on_at h hk).mp e
  have s := emod_sub0 (n := ((w.names.length : Nat) : Int)) (x := d + (i : Int) - w.first)
  rw [z] at s
  unfold nxt
  rw [emod_to (n := ((w.names.length : Nat) : Int)) (k := (i : Int)) (x := w.first + (k : Int) - d) (by omega) (by omega)]
  have e2 : w.first + (k : Int) - d - (i : Int) = -(d + (i : Int) - w.first - (k : Int)) := by omega
  rw [e2]
  exact Int.emod_eq_zero_of_dvd (Int.dvd_neg.mpr (Int.dvd_of_emod_eq_zero s))
theorem nxt_some {w : Wh} (h : WhOk w) (d : Int) {k : Nat} (hk : k < w.names.length) : ∃ i : Nat, i < w.names.length ∧ w.on (d + (i : Int)) = w.names.getD k Str.empty := by
  have p := h.pos
  have a := Int.emod_nonneg (w.first + (k : Int) - d) (show ((w.names.length : Nat) : Int) ≠ 0 by omega)
  have b := Int.emod_lt_of_pos (w.first + (k : Int) - d) (show (0 : Int) < (w.names.length : Nat) by omega)
  have s := emod_sub0 (n := ((w.names.length : Nat) : Int)) (x := w.first + (k : Int) - d)
  generalize (w.first + (k : Int) - d) % ((w.names.length : Nat) : Int) = x at a b s
  obtain ⟨i, rfl⟩ := Int.eq_ofNat_of_zero_le a
  refine ⟨i, by omega, (Wh.on_at h hk).mpr (emod_to (by omega) (by omega) ?_)⟩
  have e2 : d + (i : Int) - w.first - (k : Int) = -(w.first + (k : Int) - d - (i : Int)) := by omega
  rw [e2]
  exact Int.emod_eq_zero_of_dvd (Int.dvd_neg.mpr (Int.dvd_of_emod_eq_zero s))
theorem eqv_txtt : ∀ {l m : List Str}, PyData.eqv (.tuple (l.map PyData.str)) (.tuple (m.map PyData.str)) = decide (l = m) := by
  intro l m
  have e := eqv_txts (l := l) (m := m)
  simp only [PyData.eqv] at e ⊢
  exact e
theorem shaped_txtt {l : List Str} (h : ∀ s ∈ l, PyData.strOk s = true) : SeqAt.shaped (.tuple (l.map PyData.str)) = true := by
  have e := shaped_txts h
  simp only [SeqAt.shaped, PyData.canLay0, PyData.depth] at e ⊢
  exact e
theorem isD_txtt {K : PySem.W.Frag} {l : List Str} : IsD K (RTt (l.map RS)) (.tuple (l.map PyData.str)) := isD_tt (isDs_map (fun _ => isD_s) l)
theorem eqv_bb {a b : Bool} : PyData.eqv (.bool a) (.bool b) = (a == b) := by simp [PyData.eqv]
/-! ### contracts -/
def con_L_on : Con := { I := Wh × Int, B := Unit, pre := fun i => WhOk i.1, args := fun i => [RLt (i.1.names.map RS), RI i.1.first, RI i.2], own := fun _ => [], post := fun _ _ => True, res := fun i _ => RS (i.1.on i.2), own' := fun _ _ => [] }
theorem ck_L_on {ρ1 ρ2 ρ3 : Rep} {M : Ow} {Φ : Rep → Ow → Prop} {w : Wh} {d : Int} (h1 : Sub ρ1 (RLt (w.names.map RS))) (h2 : Sub ρ2 (RI w.first)) (h3 : Sub ρ3 (RI d)) (hw : WhOk w) (k : Φ (RS (w.on d)) M) : CallK con_L_on [ρ1, ρ2, ρ3] M Φ :=
  ⟨(w, d), M, hw, .cons h1 (.cons h2 (.cons h3 .nil)), .nil, fun _ _ => k⟩
def con_L_fn : Con := { I := Wh, B := Unit, pre := fun v => WhOk v, args := fun v => [RLt (v.names.map RS), RI v.first], own := fun _ => [], post := fun _ _ => True, res := fun v _ => RLt ((fnL v).map RS), own' := fun _ _ => [] }
theorem ck_L_fn {ρ1 ρ2 : Rep} {M : Ow} {Φ : Rep → Ow → Prop} {v : Wh} (h1 : Sub ρ1 (RLt (v.names.map RS))) (h2 : Sub ρ2 (RI v.first)) (hw : WhOk v) (k : Φ (RLt ((fnL v).map RS)) M) : CallK con_L_fn [ρ1, ρ2] M Φ := ⟨v, M, hw, .cons h1 (.cons h2 .nil), .nil, fun _ _ => k⟩
def con_L_nd : Con := { I := NxI, B := Unit, pre := fun i => WhOk i.v ∧ i.k < i.v.names.length, args := fun i => [RLt (i.v.names.map RS), RI i.v.first, RI i.d, RS (i.v.names.getD i.k Str.empty)], own := fun _ => [], post := fun _ _ => True, res := fun i _ => RI (nxt i.v i.d i.k), own' := fun _ _ => [] }
theorem ck_L_nd {ρ1 ρ2 ρ3 ρ4 : Rep} {M : Ow} {Φ : Rep → Ow → Prop} {v : Wh} {d : Int} {k : Nat} (h1 : Sub ρ1 (RLt (v.names.map RS))) (h2 : Sub ρ2 (RI v.first)) (h3 : Sub ρ3 (RI d)) (h4 : Sub ρ4 (RS (v.names.getD k Str.empty))) (hv : WhOk v) (hk : k < v.names.length) (q : Φ (RI (nxt v d k)) M) : CallK con_L_nd [ρ1, ρ2, ρ3, ρ4] M Φ :=
  ⟨⟨v, d, k⟩, M, ⟨hv, hk⟩, .cons h1 (.cons h2 (.cons h3 (.cons h4 .nil))), .nil, fun _ _ => q⟩
def con_L_whole : Con := { I := Int, B := Unit, pre := fun _ => True, args := fun i => [RI i], own := fun _ => [], post := fun _ _ => True, res := fun _ _ => RB true, own' := fun _ _ => [] }
theorem ck_L_whole {ρ : Rep} {M : Ow} {Φ : Rep → Ow → Prop} {i : Int} (h : Sub ρ (RI i)) (k : Φ (RB true) M) : CallK con_L_whole [ρ] M Φ :=
  ⟨i, M, trivial, .cons h .nil, .nil, fun _ _ => k⟩
def con_L_fr (CW : Addr) : Con := { I := Wh, B := Unit, pre := fun v => WhR v, args := fun v => [RWh CW v, RLt (v.names.map RS), RI v.first], own := fun _ => [], post := fun _ _ => True, res := fun _ _ => RB true, own' := fun _ _ => [] }
theorem ck_L_fr {CW : Addr} {ρ1 ρ2 ρ3 : Rep} {M : Ow} {Φ : Rep → Ow → Prop} {v : Wh} (h1 : Sub ρ1 (RWh CW v)) (h2 : Sub ρ2 (RLt (v.names.map RS))) (h3 : Sub ρ3 (RI v.first)) (hv : WhR v) (k : Φ (RB true) M) : CallK (con_L_fr CW) [ρ1, ρ2, ρ3] M Φ :=
  ⟨v, M, hv, .cons h1 (.cons h2 (.cons h3 .nil)), .nil, fun _ _ => k⟩
structure DrI where
  p : Addr
  n : Nat
  v : Wh
def con_L_dr (CW : Addr) : Con := { I := DrI, B := Unit, pre := fun i => i.n ≤ 1000 ∧ WhOk i.v, args := fun i => [RRef i.p, RWh CW i.v, RLt (i.v.names.map RS), RI i.v.first], own := fun i => [(i.p, ODr i.n)], post := fun _ _ => True, res := fun _ _ => RB true, own' := fun i _ => [(i.p, ODr (i.n + 10))] }
theorem ck_L_dr {CW : Addr} {ρ1 ρ2 ρ3 ρ4 : Rep} {M M1 : Ow} {Φ : Rep → Ow → Prop} {p : Addr} {n : Nat} {v : Wh} (h1 : Sub ρ1 (RRef p)) (h2 : Sub ρ2 (RWh CW v)) (h3 : Sub ρ3 (RLt (v.names.map RS))) (h4 : Sub ρ4 (RI v.first)) (rm : Rm M p (ODr n) M1) (hn : n ≤ 1000) (hv : WhOk v) (k : Φ (RB true) ((p, ODr (n + 10)) :: M1)) : CallK (con_L_dr CW) [ρ1, ρ2, ρ3, ρ4] M Φ :=
  ⟨⟨p, n, v⟩, M1, ⟨hn, hv⟩, .cons h1 (.cons h2 (.cons h3 (.cons h4 .nil))), .cons rm OSub.rfl .nil, fun _ _ => k⟩
structure OthI where
  p : Addr
  n : Nat
  v : Wh
structure WhZ (v : Wh) : Prop where
  r : WhR v
  z : Bd 68 v.first
def con_L_oth : Con := { I := OthI, B := Wh, pre := fun i => i.n ≤ 1000 ∧ Nm i.v.names ∧ Bd 65 i.v.first, args := fun i => [RRef i.p, RLt (i.v.names.map RS), RI i.v.first], own := fun i => [(i.p, ODr i.n)], post := fun _ v => WhR v, res := fun _ v => RTt [RLt (v.names.map RS), RI v.first], own' := fun i _ => [(i.p, ODr (i.n + 1))] }
theorem ck_L_oth {ρ1 ρ2 ρ3 : Rep} {M M1 : Ow} {Φ : Rep → Ow → Prop} {p : Addr} {n : Nat} {v : Wh} (h1 : Sub ρ1 (RRef p)) (h2 : Sub ρ2 (RLt (v.names.map RS))) (h3 : Sub ρ3 (RI v.first)) (rm : Rm M p (ODr n) M1) (hn : n ≤ 1000) (hv : Nm v.names) (hz : Bd 65 v.first) (k : ∀ o : Wh, WhR o → Φ (RTt [RLt (o.names.map RS), RI o.first]) ((p, ODr (n + 1)) :: M1)) : CallK con_L_oth [ρ1, ρ2, ρ3] M Φ :=
  ⟨⟨p, n, v⟩, M1, ⟨hn, hv, hz⟩, .cons h1 (.cons h2 (.cons h3 .nil)), .cons rm OSub.rfl .nil, fun o ho => k o ho⟩
/-- a wheel made of a list that may be changed behind -/
def con_WhO (CW : Addr) : Con := { I := Addr × Addr × Wh, B := Unit, pre := fun i => WhOk i.2.2, args := fun i => [RRef i.1, RRef i.2.1, RI i.2.2.first], own := fun i => [(i.1, OIns CW []), (i.2.1, OL (i.2.2.names.map RS))], post := fun _ _ => True, res := fun _ _ => RN, own' := fun i _ => [(i.1, OIns CW (whF i.2.2)), (i.2.1, OL (i.2.2.names.map RS))] }
theorem ck_WhO {CW : Addr} {ρ1 ρ2 : Rep} {M M1 : Ow} {Φ : Rep → Ow → Prop} {v : Wh} {p q : Addr} (h1 : Sub ρ1 (RRef q)) (h2 : Sub ρ2 (RI v.first)) (rm : Rm M q (OL (v.names.map RS)) M1) (hw : WhOk v) (k : Φ (RWh CW v) ((q, OL (v.names.map RS)) :: M1)) :
    CallK (con_WhO CW) [RRef p, ρ1, ρ2] ((p, OIns CW []) :: M) fun ρ M' => Sub ρ RN ∧ ∃ l M2, Rm M' p (OIns CW l) M2 ∧ Φ (RIns CW l) M2 :=
  ⟨(p, q, v), M1, hw, .cons Sub.rfl (.cons h1 (.cons h2 .nil)), .cons .here OSub.rfl (.cons rm OSub.rfl .nil), fun _ _ => ⟨Sub.rfl, whF v, _, .here, k⟩⟩
section
variable {P : Program} {w : World} {K : PySem.W.Frag} {mg : Str → Option Value} {base : Heap} {CW : Addr}
theorem ok_WhO {dvs : List V} {f : Addr} {fd : FuncData} (F : FdD K "__init__" "Wheel.__init__" s_Wheel_init dvs f fd) (T : WhT K CW) (B : BltW mg) : FnOk P w K mg base CX0 1 f fd (N_Wheel_init.take 3) (conSp (con_WhO CW)) := by
  refine fn_conD (con_WhO CW) F sc_Wheel_init (fun _ => rfl) fun cd A outer s H EE G i hp hr hE => ?_
  obtain ⟨p, q, v⟩ := i
  have hw : WhOk v := hp
  have few := hw.le
  refine wss_cons (ws_if (wt_bool (wp_or (wt_cmp (op_eqD hr.units) (nomark _) (we_var 1 r1_Wheel_init rfl (we_lst (wa_nil ⟨by show 0 ≤ 100000; decide, ?_⟩)))))))
  refine opw_eqTx Sub.rfl (.there .here) (isD_txts (l := [])) (by decide) (shaped_txts hw.ok) ⟨_, Sub.rfl, fun _ => ?more, fun hk => ?bad⟩
  case bad =>
    rw [eqv_txts (m := [])] at hk
    exact absurd (of_decide_eq_true hk) hw.ne
  case more =>
    refine wp_or1 (wt_cmp op_lt (nomark _) (we_lenTxO rfl g_len_Wheel_init B.len g_set_Wheel_init B.set (we_var 1 r1_Wheel_init rfl ⟨q, v.names, _, Sub.rfl, .there .here, by omega, ?_⟩)))
    refine we_callB call_len_seq g_len_Wheel_init B.len (by decide +kernel) (wa_cons (we_var 1 r1_Wheel_init rfl (wa_nil (caw_lenOw Sub.rfl (.there .here) (opw_of opv_lt_i ⟨_, Sub.rfl, fun hk => ?bad2, fun _ => wss_nil ?_⟩)))))
    case bad2 =>
      have hk := of_decide_eq_true hk
      rw [dn_full hw.nd _ (Nat.le_refl _), List.length_map] at hk
      exact absurd hk (Int.lt_irrefl _)
    refine wss_cons (ws_fldN (we_callTy call_tuple_of g_tuple_Wheel_init B.tup (by decide +kernel) (wa_cons (we_var 1 r1_Wheel_init rfl (wa_nil (caw_tupO Sub.rfl (.there .here) (we_var 0 r0_Wheel_init rfl ⟨p, CW, [], _, Sub.rfl, .here, T.ci.cl, T.n1, by decide, rfl, ?_⟩)))))))
    refine wss_one (ws_fldN (we_var 2 r2_Wheel_init rfl (we_var 0 r0_Wheel_init rfl ⟨p, CW, _, _, Sub.rfl, .here, T.ci.cl, T.n2, by show 1 < 1000; decide, by simp [List.lookup, wk1], ?_⟩)))
    exact ⟨(), [], trivial, Sub.rfl, .cons .here OSub.rfl (.cons .here OSub.rfl .nil)⟩
theorem ok_L_on {f : Addr} {fd : FuncData} (F : FdD K "_law_on" "_law_on" s_f_L_on [] f fd) (B : BltW mg) : FnOk P w K mg base CX0 1 f fd (N_f_L_on.take 3) (conSp con_L_on) := by
  refine fn_conD con_L_on F sc_f_L_on (fun _ => rfl) fun cd A outer s H EE G i hp hr hE => ?_
  obtain ⟨v, d⟩ := i
  have hw : WhOk v := hp
  have p := hw.pos
  refine wss_one (ws_ret (we_ix ix_seq (we_var 0 r0_f_L_on rfl ?_)))
  refine we_bin op_modN (we_bin op_sub (we_var 2 r2_f_L_on rfl (we_var 1 r1_f_L_on rfl (opw_of opv_sub_i ?_))))
  refine we_callB call_len_seq g_len_f_L_on B.len (by decide +kernel) (wa_cons (we_var 0 r0_f_L_on rfl (wa_nil (caw_of cav_len_lt ?_))))
  rw [List.length_map]
  exact opw_of (opv_mod_i (Int.natCast_pos.mpr p)) (opw_of (opv_ix_l sub_lt (v.at_on hw d)) ⟨(), [], trivial, Sub.rfl, .nil⟩)
theorem ok_L_fn {f : Addr} {fd : FuncData} (F : FdD K "_law_from_nought" "_law_from_nought" s_f_L_from_nought [] f fd) (B : BltW mg) (On : Kn P w K mg base 1 "_law_on" [] con_L_on) : FnOk P w K mg base CX0 2 f fd (N_f_L_from_nought.take 2) (conSp con_L_fn) := by
  refine fn_conD con_L_fn F sc_f_L_from_nought (fun _ => rfl) fun cd A outer s H EE G (v : Wh) hp hr hE => ?_
  have hw : WhOk v := hp
  have few := hw.le
  refine wss_one (ws_ret (we_freeze (we_lc (t := gName 2) (own := [("_law_a_day", 2)]) rfl sc_f_L_from_nought.nd (pi_range1 g_range_f_L_from_nought B.rng pa_w) (blkOk_by ?ok) ?hg hE ?src)))
  case ok =>
    show blkC N_f_L_from_nought (defScope s_f_L_from_nought) _ _ = true
    decide +kernel
  case hg =>
    intro s H C cl fp
    exact pg_name sc_f_L_from_nought.nd rfl (.inl rfl)
  case src =>
    refine src_range1 (wa_cons (we_callB call_len_seq g_len_f_L_from_nought B.len (by decide +kernel) (wa_cons (we_var 0 r0_f_L_from_nought rfl (wa_nil (caw_of cav_len_lt (wa_nil ⟨_, .cons Sub.rfl .nil, ?bnd, fun i o M' => M' = [] ∧ o = ((fnL v).map RS).take i, ⟨rfl, rfl⟩, ?turn, ?done⟩)))))))
    case bnd =>
      rw [List.length_map]
      exact ⟨by omega, by omega⟩
    case turn =>
      rintro i ρ o M1 D hi rfl ⟨rfl, rfl⟩
      rw [List.length_map] at hi
      have hi : i < v.names.length := by omega
      refine ⟨fun Γ => Γ.set 2 (some (RI (i : Int))), blkT_name 2 (by decide), fun s H0 C cl fp => ?_⟩
      refine we_call On (hr.mono (by decide)) rfl pass0 (wa_cons (we_var 0 ?r0 rfl (wa_cons (we_var 1 ?r1 rfl (wa_cons (we_var 2 ?r2 rfl (wa_nil (ck_L_on Sub.rfl Sub.rfl Sub.rfl hw ⟨[], RS (v.on (i : Int)), rfl, Sub.rfl, ?len, rfl, ?tk⟩))))))))
      case r0 => exact ⟨rfl, by first | exact .inl rfl | exact .inr (.inl rfl), by decide, by decide⟩
      case r1 => exact ⟨rfl, by first | exact .inl rfl | exact .inr (.inl rfl), by decide, by decide⟩
      case r2 => exact ⟨rfl, by first | exact .inl rfl | exact .inr (.inl rfl), by decide, by decide⟩
      case len =>
        rw [List.length_take]
        omega
      case tk =>
        have e : ((fnL v).map RS)[i]? = some (RS (v.on (i : Int))) := by
          unfold fnL
          rw [List.getElem?_map, List.getElem?_map, List.getElem?_range hi]
          rfl
        rw [List.take_add_one, e]
        rfl
    case done =>
      rintro D o M1 hD hM ⟨rfl, rfl⟩
      have all : ((fnL v).map RS).take (((v.names.map RS).length : Nat) : Int).toNat = (fnL v).map RS := by
        refine List.take_of_length_le ?_
        unfold fnL
        simp only [List.length_map, List.length_range, Int.toNat_natCast]
        exact Nat.le_refl _
      rw [all]
      exact ⟨D, _, [], Sub.rfl, .here, hD, (), [], trivial, Sub.rfl, .nil⟩
theorem ok_L_nd {f : Addr} {fd : FuncData} (F : FdD K "_law_next_day" "_law_next_day" s_f_L_next_day [] f fd) (B : BltW mg) (On : Kn P w K mg base 1 "_law_on" [] con_L_on) : FnOk P w K mg base CX0 2 f fd (N_f_L_next_day.take 4) (conSp con_L_nd) := by
  refine fn_conD con_L_nd F sc_f_L_next_day (fun _ => rfl) fun cd A outer s H EE G i hp hr hE => ?_
  obtain ⟨v, d, k⟩ := i
  obtain ⟨hw, hk⟩ := hp
  have hw : WhOk v := hw
  have hk : k < v.names.length := hk
  have few := hw.le
  refine wss_cons (ws_for_range1 PassesOwn.never rfl g_range_f_L_next_day B.rng (wa_cons (we_callB call_len_seq g_len_f_L_next_day B.len (by decide +kernel) (wa_cons (we_var 0 r0_f_L_next_day rfl (wa_nil (caw_of cav_len_lt (wa_nil ⟨_, .cons Sub.rfl .nil, ?bnd, ?loop⟩))))))))
  case bnd =>
    rw [List.length_map]
    show -(2 ^ 62) ≤ ((v.names.length : Nat) : Int) ∧ ((v.names.length : Nat) : Int) < 2 ^ 62
    exact ⟨by omega, by omega⟩
  case loop =>
    refine ⟨fun i Γ M => (∀ j : Nat, j < i → v.on (d + (j : Int)) ≠ v.names.getD k Str.empty) ∧ M = [] ∧ ∃ o4, Γ = [some (RLt (v.names.map RS)), some (RI v.first), some (RI d), some (RS (v.names.getD k Str.empty)), o4], ⟨fun j z => absurd z (Nat.not_lt_zero j), rfl, none, rfl⟩, ?turn, ?done⟩
    case done =>
      rintro Γ M ⟨no, rfl, o4, rfl⟩
      obtain ⟨j, j1, j2⟩ := nxt_some hw d hk
      rw [List.length_map, Int.toNat_natCast] at no
      exact absurd j2 (no j j1)
    case turn =>
      rintro i ρ Γ M hi rfl ⟨no, rfl, o4, rfl⟩
      rw [List.length_map, Int.toNat_natCast] at hi
      refine wg_name 4 w4_f_L_next_day ?_
      refine wss_one (ws_if (wt_cmp (op_eqD hr.units) (nomark _) (we_call On (hr.mono (by decide)) g__law_on_f_L_next_day pass0 (wa_cons (we_var 0 r0_f_L_next_day rfl (wa_cons (we_var 1 r1_f_L_next_day rfl (wa_cons (we_bin op_addU (we_var 2 r2_f_L_next_day rfl (we_var 4 r4_f_L_next_day rfl (opw_of opv_add_i ?_))))))))))))
      refine wa_nil (ck_L_on Sub.rfl Sub.rfl Sub.rfl hw (we_var 3 r3_f_L_next_day rfl (opw_of (opv_eq isD_s isD_s (shaped_so (hw.ok _ (Wh.on_in hw _))) (shaped_so (hw.ok _ ?mem))) ⟨_, Sub.rfl, fun hk2 => ?yes, fun hk2 => ?no⟩)))
      case mem =>
        rw [List.getD_eq_getElem?_getD, List.getElem?_eq_getElem hk, Option.getD_some]
        exact List.getElem_mem hk
      case yes =>
        have e : v.on (d + (i : Int)) = v.names.getD k Str.empty := by
          simp only [PyData.eqv] at hk2
          exact of_decide_eq_true hk2
        refine wss_one (ws_ret (we_bin op_addU (we_var 2 r2_f_L_next_day rfl (we_var 4 r4_f_L_next_day rfl (opw_of opv_add_i ⟨(), [], trivial, ?_, .nil⟩)))))
        rw [nxt_of hw hk hi e]
        exact Sub.rfl
      case no =>
        refine wss_nil ⟨fun j hj => ?_, rfl, _, rfl⟩
        rcases Nat.lt_succ_iff_lt_or_eq.mp hj with z | z
        · exact no j z
        · subst z
          simp only [PyData.eqv] at hk2
          exact of_decide_eq_false hk2
end
end MM

namespace MM
open PySem L2 PyProof.Rows
/-! ### methods called with keywords -/
def tMethN (C : Addr) (m : Str) (n k : Nat) (sp : Sp) (gV : List V → List V → List V) (E : XK) (ta : TE) (t tk : TA) : TE := fun σ H Q => ta σ H fun x H1 => ∃ a dx fs, x = .ref a ∧ H1 a = some (.ins C dx fs) ∧ fs.lookup m = none ∧ t σ H1 fun vs H2 => tk σ H2 fun zs H3 => vs.length = n ∧ zs.length = k ∧ sp (gV (x :: vs) zs) H3 Q E
def tMethN0 (C : Addr) (m : Str) (k : Nat) (sp : Sp) (gV : List V → List V → List V) (E : XK) (ta : TE) (tk : TA) : TE := fun σ H Q => ta σ H fun x H1 => ∃ a dx fs, x = .ref a ∧ H1 a = some (.ins C dx fs) ∧ fs.lookup m = none ∧ tk σ H1 fun zs H3 => zs.length = k ∧ sp (gV [x] zs) H3 Q E
section
variable {X : Cx} {CX : CXT} {k n : Nat} {f C : Addr} {fd : FuncData} {ps : List Str} {sp : Sp} {EE : XK} {m : Str} {p pos apos : Pos} {e o : Expr} {es : List Expr} {kws : List Keyword} {ks : List Str} {ta : TE} {t tk : TA} {g : List Value → List Value → List Value} {gV : List V → List V → List V}
theorem pe_methN {pl : Sem Bool} (he : PE X o ta) (c : Cls X.K C) (hm : L2.Meth X.K C m f) (F : FnOk X.prog X.w X.K X.mg X.base CX k f fd ps sp) (hr : Room k X.A) (hb : KBn X.K fd ps (n + 1) ks g gV) (hx : Passes CX X EE) (ha : PA X (e :: es) t) (hkw : PK X kws tk)
    (hall : (backToKw pos (keywordEach kws X.env)).all (·.1.isSome) = true := by rfl) (hks : (backToKw pos (keywordEach kws X.env)).filterMap (·.1) = ks := by rfl)
    (hst : starEach (e :: es) X.env = (false, eval e X.env) :: starEach es X.env := by rfl) (hpl : ((backTo pos (starEach (e :: es) X.env)).any (·.1) || (backToKw pos (keywordEach kws X.env)).any (·.1.isNone)) = false := by rfl)
    (ht : eval (.Call (.Attribute o m apos) (e :: es) kws pos) X.env = (do
      let ov ← eval o X.env
      standAt apos.atName
      let (f, first) ← holding [ov] (getMethod ov m pl)
      callWith pos f first (backTo pos (starEach (e :: es) X.env)) (backToKw pos (keywordEach kws X.env))) := by rfl) :
    PE X (.Call (.Attribute o m apos) (e :: es) kws pos) (tMethN C m n ks.length sp gV EE ta t tk) := by
  refine ⟨fun pins s σ H Q I h => ?_⟩
  refine PySem.W.methodCall_KW (pl := pl) (thn (he.run pins s σ H _ I h) fun u s1 ⟨x, H1, I1, rx, a, dx, fs, ex, ea, l, q⟩ => ?_) ht
  subst ex
  obtain rfl : u = Value.ref a := rx
  refine getmeth_ok I1 ea c hm l ?_
  refine PySem.W.callWith_KW (first := [.ref a]) (h₀ := X.base) I.ok.mod.kin hm.kp hall (thn (ha.run pos pins s1 σ H1 _ I1 q) fun us s2 ⟨vs, H2, I2, r, q2⟩ => ?_) hpl hst
  refine thn (hkw.run pos pins s2 σ H2 _ I2 q2) fun ws s3 ⟨zs, H3, I3, rz, l1, l2, q3⟩ => ⟨I3.kIn, ?_⟩
  rw [hks]
  exact run_fnN (us := .ref a :: us) (vs := .ref a :: vs) F hr hb hx I3 (.cons rfl r) rz (by simp [l1]) l2 q3
theorem pe_methN0 {pl : Sem Bool} (he : PE X o ta) (c : Cls X.K C) (hm : L2.Meth X.K C m f) (F : FnOk X.prog X.w X.K X.mg X.base CX k f fd ps sp) (hr : Room k X.A) (hb : KBn X.K fd ps 1 ks g gV) (hx : Passes CX X EE) (hkw : PK X kws tk)
    (hall : (backToKw pos (keywordEach kws X.env)).all (·.1.isSome) = true := by rfl) (hks : (backToKw pos (keywordEach kws X.env)).filterMap (·.1) = ks := by rfl)
    (hpl : ((backTo pos (starEach [] X.env)).any (·.1) || (backToKw pos (keywordEach kws X.env)).any (·.1.isNone)) = false := by rfl)
    (ht : eval (.Call (.Attribute o m apos) [] kws pos) X.env = (do
      let ov ← eval o X.env
      standAt apos.atName
      let (f, first) ← holding [ov] (getMethod ov m pl)
      callWith pos f first (backTo pos (starEach [] X.env)) (backToKw pos (keywordEach kws X.env))) := by rfl) :
    PE X (.Call (.Attribute o m apos) [] kws pos) (tMethN0 C m ks.length sp gV EE ta tk) := by
  refine ⟨fun pins s σ H Q I h => ?_⟩
  refine PySem.W.methodCall_KW (pl := pl) (thn (he.run pins s σ H _ I h) fun u s1 ⟨x, H1, I1, rx, a, dx, fs, ex, ea, l, q⟩ => ?_) ht
  subst ex
  obtain rfl : u = Value.ref a := rx
  refine getmeth_ok I1 ea c hm l ?_
  refine PySem.W.callWith_KW0 (first := [.ref a]) (h₀ := X.base) I.ok.mod.kin hm.kp hall ?_ hpl
  refine thn (hkw.run pos pins s1 σ H1 _ I1 q) fun ws s3 ⟨zs, H3, I3, rz, l2, q3⟩ => ⟨I3.kIn, ?_⟩
  rw [hks]
  exact run_fnN (us := [.ref a]) (vs := [.ref a]) F hr hb hx I3 (.cons rfl .nil) rz rfl l2 q3
end
section
variable {X : Cx} {E : En} {Γ : Gm} {M : Ow} {a b e o : Expr} {es : List Expr} {kws : List Keyword} {ks : List Str} {pos p apos : Pos} {Φ : Rep → Ow → Prop} {k n : Nat} {m : Str} {C : Addr} {c : Con} {gV : List V → List V → List V} {gR : List Rep → List Rep → List Rep}
theorem we_methN {pl : Sem Bool} (F : KnMK X.prog X.w X.K X.mg X.base k C m n ks gV c) (gr : GvR gV gR (n + 1) ks.length) (hr : Room k X.A) (hx : Passes CX0 X E0)
    (h : WE X E Γ M o fun ρ M1 => HasI ρ C m ∧ WA X E Γ M1 (e :: es) fun ρs M2 => ρs.length = n ∧ WK X E Γ M2 kws fun ρz M3 => ρz.length = ks.length ∧ CallK c (gR (ρ :: ρs) ρz) M3 Φ)
    (hall : (backToKw pos (keywordEach kws X.env)).all (·.1.isSome) = true := by rfl) (hks : (backToKw pos (keywordEach kws X.env)).filterMap (·.1) = ks := by rfl)
    (hst : starEach (e :: es) X.env = (false, eval e X.env) :: starEach es X.env := by rfl) (hpl : ((backTo pos (starEach (e :: es) X.env)).any (·.1) || (backToKw pos (keywordEach kws X.env)).any (·.1.isNone)) = false := by rfl)
    (ht : eval (.Call (.Attribute o m apos) (e :: es) kws pos) X.env = (do
      let ov ← eval o X.env
      standAt apos.atName
      let (f, first) ← holding [ov] (getMethod ov m pl)
      callWith pos f first (backTo pos (starEach (e :: es) X.env)) (backToKw pos (keywordEach kws X.env))) := by rfl) :
    WE X E Γ M (.Call (.Attribute o m apos) (e :: es) kws pos) Φ := by
  obtain ⟨f, fd, ps, g, hm, hc, hb, F⟩ := F
  refine we_of (pe_methN pe_w hc hm F hr hb hx pa_w pk_w hall hks hst hpl ht) fun σ G H a Q q => ?_
  exact h σ G H a _ fun ρ M1 v G1 H1 ⟨hi, h1⟩ s1 a1 r1 => by
    obtain ⟨b, dx, fs, e1, e2, e3⟩ := hi v G1 r1
    refine ⟨b, dx, fs, e1, a1.gh _ _ e2, e3, h1 σ G1 H1 a1 _ fun ρs M' vs G2 H2 ⟨l1, h2⟩ s2 a2 r2 => ?_⟩
    refine h2 σ G2 H2 a2 _ fun ρz M3 zs G3 H3 ⟨l2, hh⟩ s3 a3 r3 => ⟨by rw [← r2.length]; exact l1, by rw [← r3.length]; exact l2, ?_⟩
    exact callK_run hh a3 (gr.run (by simp [l1]) l2 ⟨ρ.mono _ _ _ (s2.trans s3) r1, r2.mono s3⟩ r3) fun ρ' M4 w G4 H4 h4 s4 => q ρ' M4 w G4 H4 h4 (((s1.trans s2).trans s3).trans s4)
theorem we_methN0 {pl : Sem Bool} (F : KnMK X.prog X.w X.K X.mg X.base k C m 0 ks gV c) (gr : GvR gV gR 1 ks.length) (hr : Room k X.A) (hx : Passes CX0 X E0)
    (h : WE X E Γ M o fun ρ M1 => HasI ρ C m ∧ WK X E Γ M1 kws fun ρz M3 => ρz.length = ks.length ∧ CallK c (gR [ρ] ρz) M3 Φ)
    (hall : (backToKw pos (keywordEach kws X.env)).all (·.1.isSome) = true := by rfl) (hks : (backToKw pos (keywordEach kws X.env)).filterMap (·.1) = ks := by rfl)
    (hpl : ((backTo pos (starEach [] X.env)).any (·.1) || (backToKw pos (keywordEach kws X.env)).any (·.1.isNone)) = false := by rfl)
    (ht : eval (.Call (.Attribute o m apos) [] kws pos) X.env = (do
      let ov ← eval o X.env
      standAt apos.atName
      let (f, first) ← holding [ov] (getMethod ov m pl)
      callWith pos f first (backTo pos (starEach [] X.env)) (backToKw pos (keywordEach kws X.env))) := by rfl) :
    WE X E Γ M (.Call (.Attribute o m apos) [] kws pos) Φ := by
  obtain ⟨f, fd, ps, g, hm, hc, hb, F⟩ := F
  refine we_of (pe_methN0 pe_w hc hm F hr hb hx pk_w hall hks hpl ht) fun σ G H a Q q => ?_
  exact h σ G H a _ fun ρ M1 v G1 H1 ⟨hi, h1⟩ s1 a1 r1 => by
    obtain ⟨b, dx, fs, e1, e2, e3⟩ := hi v G1 r1
    refine ⟨b, dx, fs, e1, a1.gh _ _ e2, e3, h1 σ G1 H1 a1 _ fun ρz M3 zs G3 H3 ⟨l2, hh⟩ s3 a3 r3 => ⟨by rw [← r3.length]; exact l2, ?_⟩⟩
    exact callK_run hh a3 (gr.run rfl l2 ⟨ρ.mono _ _ _ s3 r1, trivial⟩ r3) fun ρ' M4 w G4 H4 h4 s4 => q ρ' M4 w G4 H4 h4 ((s1.trans s3).trans s4)
end
/-! ### defs without defaults, called with keywords; methods -/
section
variable {P : Program} {w : World} {K : PySem.W.Frag} {mg : Str → Option Value} {base h : Heap} {k : Nat} {x qual : Str} {st : Stmt} {f C : Addr} {fd : FuncData} {ps : List Str} {c : Con}
theorem kb0_of (n : Nat) (ks : List Str) (g : {α : Type} → List α → List α → List α) (F : FdD K x qual st [] f fd)
    (hrel : ∀ {vs zs : List V} {us ws : List Value}, Vals vs us → Vals zs ws → Vals (g vs zs) (g us ws))
    (hb : ∀ (kV doc pm : Value) (an : Option Addr) (cdv ct : Value) (us ws : List Value), us.length = n → ws.length = ks.length → bindArgs (PySem.W.fnOf x qual (defArgs st) (defBody st) (defScope st) .none kV doc pm an cdv ct) ⟨us, ks.zip ws⟩ = pure (ps.zip (g us ws))) : KBn K fd ps n ks (fun us ws => g us ws) (fun vs zs => g vs zs) := by
  obtain ⟨oc, od, dV, kV, doc, pm, an, cdv, ct, osl, rfl, lk, hcd, hD, hK⟩ := F.ex
  rcases hD with ⟨_, rfl⟩ | ⟨e, _⟩
  · exact ⟨fun s us ws _ l1 l2 => .of_eq (hb kV doc pm an cdv ct us ws l1 l2), hrel⟩
  · exact absurd rfl e
theorem knK0_of (n : Nat) (ks : List Str) (g : {α : Type} → List α → List α → List α) (X : K.In h) (G : h.Ns mainGlobals mg) (a : PySem.W.nsIn K mainGlobals x = some (some (.ref f))) (F : FdD K x x st [] f fd) (ok : FnOk P w K mg base CX0 k f fd ps (conSp c))
    (hrel : ∀ {vs zs : List V} {us ws : List Value}, Vals vs us → Vals zs ws → Vals (g vs zs) (g us ws))
    (hb : ∀ (kV doc pm : Value) (an : Option Addr) (cdv ct : Value) (us ws : List Value), us.length = n → ws.length = ks.length → bindArgs (PySem.W.fnOf x x (defArgs st) (defBody st) (defScope st) .none kV doc pm an cdv ct) ⟨us, ks.zip ws⟩ = pure (ps.zip (g us ws))) : KnK P w K mg base k x n ks (fun vs zs => g vs zs) c :=
  ⟨f, fd, ps, _, PySem.W.mg_of X G a, F.kp, kb0_of n ks g F hrel hb, ok⟩
theorem knM_of (cl : Cls K C) (a : PySem.W.findIn K (.ref C) x = some (some (.ref f))) (i : PySem.W.isFn K (.ref f) = true) (F : FdD K x qual st [] f fd) (ok : FnOk P w K mg base CX0 k f fd ps (conSp c))
    (hb : ∀ (kV doc pm : Value) (an : Option Addr) (cdv ct : Value) (us : List Value), us.length = ps.length → bindArgs (PySem.W.fnOf x qual (defArgs st) (defBody st) (defScope st) .none kV doc pm an cdv ct) ⟨us, []⟩ = pure (ps.zip us)) : KnM P w K mg base k C x [] c :=
  ⟨f, fd, ps, [], ⟨a, i, F.kp⟩, cl, F.bindsN hb, .nil, ok⟩
theorem knMK0_of (n : Nat) (ks : List Str) (g : {α : Type} → List α → List α → List α) (cl : Cls K C) (a : PySem.W.findIn K (.ref C) x = some (some (.ref f))) (i : PySem.W.isFn K (.ref f) = true) (F : FdD K x qual st [] f fd) (ok : FnOk P w K mg base CX0 k f fd ps (conSp c))
    (hrel : ∀ {vs zs : List V} {us ws : List Value}, Vals vs us → Vals zs ws → Vals (g vs zs) (g us ws))
    (hb : ∀ (kV doc pm : Value) (an : Option Addr) (cdv ct : Value) (us ws : List Value), us.length = n + 1 → ws.length = ks.length → bindArgs (PySem.W.fnOf x qual (defArgs st) (defBody st) (defScope st) .none kV doc pm an cdv ct) ⟨us, ks.zip ws⟩ = pure (ps.zip (g us ws))) : KnMK P w K mg base k C x n ks (fun vs zs => g vs zs) c :=
  ⟨f, fd, ps, _, ⟨a, i, F.kp⟩, cl, kb0_of (n + 1) ks g F hrel hb, ok⟩
end
/-! ### values put in the parameters' order -/
def permL {α : Type} (idx : List Nat) (l : List α) : List α := idx.filterMap fun i => l[i]?
theorem vals_perm {vs : List V} {us : List Value} (h : Vals vs us) : ∀ idx : List Nat, Vals (permL idx vs) (permL idx us)
  | [] => .nil
  | i :: idx => by
    have ih := vals_perm h idx
    unfold permL at ih ⊢
    cases e : vs[i]? with
    | none =>
      have e2 := h.none_of e
      rw [List.filterMap_cons_none e, List.filterMap_cons_none e2]
      exact ih
    | some v =>
      obtain ⟨u, e2, r⟩ := h.get e
      rw [List.filterMap_cons_some e, List.filterMap_cons_some e2]
      exact .cons r ih
theorem reps_perm {ρs : List Rep} {vs : List V} {G : Hp} (h : Reps ρs vs G) : ∀ idx : List Nat, Reps (permL idx ρs) (permL idx vs) G
  | [] => trivial
  | i :: idx => by
    have ih := reps_perm h idx
    unfold permL at ih ⊢
    cases e : ρs[i]? with
    | none =>
      have e2 : vs[i]? = none := by
        rw [List.getElem?_eq_none_iff] at e ⊢
        rw [← h.length]
        exact e
      rw [List.filterMap_cons_none e, List.filterMap_cons_none e2]
      exact ih
    | some ρ =>
      obtain ⟨v, e2, r⟩ := h.get e
      rw [List.filterMap_cons_some e, List.filterMap_cons_some e2]
      exact ⟨r, ih⟩
def gvP (idx : List Nat) {α : Type} (a z : List α) : List α := permL idx (a ++ z)
theorem gr_P (idx : List Nat) {n m : Nat} : GvR (gvP idx) (gvP idx) n m := ⟨fun _ _ r1 r2 => reps_perm (r1.app r2) idx⟩
theorem rel_P (idx : List Nat) {vs zs : List V} {us ws : List Value} (r1 : Vals vs us) (r2 : Vals zs ws) : Vals (gvP idx vs zs) (gvP idx us ws) := vals_perm (Vals.append r1 r2) idx
end MM

namespace MM
open PySem L2 PyProof.Rows
/-! ### the repr of a text is a text -/
theorem char_lt (c : Char) : c.toNat < 0x110000 := by
  have h : c.val.toNat < 0xd800 ∨ (0xdfff < c.val.toNat ∧ c.val.toNat < 0x110000) := c.valid
  show c.val.toNat < 0x110000
  omega
theorem hex_lt {w c d : Nat} (h : d ∈ List.replicate (w - ((Nat.toDigits 16 c).map Char.toNat).length) 48 ++ (Nat.toDigits 16 c).map Char.toNat) : d < 0x110000 := by
  rcases List.mem_append.mp h with h | h
  · have := List.eq_of_mem_replicate h
    omega
  · obtain ⟨x, _, rfl⟩ := List.mem_map.mp h
    exact char_lt x
theorem repr_lt {q c : Nat} (hc : c < 0x110000) : ∀ d ∈ PySem.Builtin.Str.reprChar q c, d < 0x110000 := by
  intro d hd
  have two : ∀ a b : Nat, d ∈ [a, b] → a < 0x110000 → b < 0x110000 → d < 0x110000 := fun a b h ha hb => by
    rcases List.mem_cons.mp h with e | h
    · omega
    · have := List.mem_singleton.mp h
      omega
  unfold PySem.Builtin.Str.reprChar at hd
  split at hd
  · exact two _ _ hd (by decide) hc
  · split at hd
    · exact two _ _ hd (by decide) (by decide)
    · split at hd
      · exact two _ _ hd (by decide) (by decide)
      · split at hd
        · exact two _ _ hd (by decide) (by decide)
        · split at hd
          · have := List.mem_singleton.mp hd
            omega
          · split at hd
            · rcases List.mem_append.mp hd with h | h
              · exact two _ _ h (by decide) (by decide)
              · exact hex_lt h
            · split at hd
              · rcases List.mem_append.mp hd with h | h
                · exact two _ _ h (by decide) (by decide)
                · exact hex_lt h
              · rcases List.mem_append.mp hd with h | h
                · exact two _ _ h (by decide) (by decide)
                · exact hex_lt h
theorem strOk_iff {x : Str} : PyData.strOk x = true ↔ ∀ c ∈ x.cps.toList, c < 0x110000 := by
  unfold PyData.strOk
  rw [Array.all_eq_true_iff_forall_mem]
  constructor
  · intro h c hc
    exact of_decide_eq_true (h c (Array.mem_toList_iff.mp hc))
  · intro h c hc
    exact decide_eq_true (h c (Array.mem_toList_iff.mpr hc))
theorem fold_lt {q : Nat} : ∀ (l : List Nat) (acc : Array Nat), (∀ c ∈ l, c < 0x110000) → (∀ c ∈ acc.toList, c < 0x110000) → ∀ c ∈ (l.foldl (fun out c => out ++ (PySem.Builtin.Str.reprChar q c).toArray) acc).toList, c < 0x110000
  | [], _, _, h => h
  | x :: l, acc, hl, h => by
    refine fold_lt l _ (fun c hc => hl c (List.mem_cons_of_mem _ hc)) fun c hc => ?_
    rw [Array.toList_append] at hc
    rcases List.mem_append.mp hc with z | z
    · exact h c z
    · exact repr_lt (hl x List.mem_cons_self) c (by simpa using z)
theorem quote_lt {x : Str} : PySem.reprQuote x < 0x110000 := by
  unfold PySem.reprQuote
  split <;> decide
theorem strOk_repr {x : Str} (h : PyData.strOk x = true) : PyData.strOk (PySem.reprText x) = true := by
  have h := strOk_iff.mp h
  refine strOk_iff.mpr fun c hc => ?_
  unfold PySem.reprText at hc
  rw [Array.toList_push] at hc
  rcases List.mem_append.mp hc with z | z
  · rw [← Array.foldl_toList] at z
    refine fold_lt x.cps.toList _ h (fun d hd => ?_) c z
    have e : d = PySem.reprQuote x := by simpa using hd
    rw [e]
    exact quote_lt
  · rw [List.mem_singleton.mp z]
    exact quote_lt
theorem strOk_from : ∀ (ts : List Str) (k : Nat) (acc : Str), PyData.strOk acc = true → (∀ t ∈ ts, PyData.strOk t = true) → PyData.strOk (textFrom k acc ts) = true
  | [], _, _, h, _ => h
  | t :: ts, k, acc, h, ht => by
    refine strOk_from ts (k + 1) _ (strOk_app (strOk_app h ?_) (ht t List.mem_cons_self)) fun u hu => ht u (List.mem_cons_of_mem _ hu)
    split
    · decide +kernel
    · decide +kernel
theorem strOk_rpL {l : List Str} (h : ∀ s ∈ l, PyData.strOk s = true) : PyData.strOk (rpL l) = true := by
  unfold rpL
  rw [show PyData.shown (.list (l.map PyData.str)) = listText (PyData.shownAll (l.map PyData.str)) by simp only [PyData.shown]]
  rw [PyData.shownAll_strs]
  refine strOk_app (strOk_from _ 0 _ (by decide +kernel) fun t ht => ?_) (by decide +kernel)
  obtain ⟨s, hs, rfl⟩ := List.mem_map.mp ht
  exact strOk_repr (h s hs)
end MM

namespace MM
open PySem L2 PyProof.Rows
structure BltM (mg : Str → Option Value) : Prop extends BltW mg where
  int : mg "int" = none
  isi : mg "isinstance" = none
  bool : mg "bool" = none
  lst : mg "list" = none
  repr : mg "repr" = none
def AllInt (ρs : List Rep) : Prop := ∀ ρ ∈ ρs, ∃ d : Int, ρ = RI d
theorem allInt_nil : AllInt [] := fun _ h => absurd h List.not_mem_nil
theorem allInt_cons {d : Int} {ρs : List Rep} (h : AllInt ρs) : AllInt (RI d :: ρs) := fun ρ hρ => by
  rcases List.mem_cons.mp hρ with e | e
  · exact ⟨d, e⟩
  · exact h ρ e
theorem shaped_n2 {a b : Int} : SeqAt.shaped (.list [.int a, .int b]) = true := rfl
theorem isD_n2 {K : PySem.W.Frag} {a b : Int} : IsD K (RLt [RI a, RI b]) (.list [.int a, .int b]) := isD_lt (isDs_cons isD_i (isDs_cons isD_i isDs_nil))
section
variable {P : Program} {w : World} {K : PySem.W.Frag} {mg : Str → Option Value} {base : Heap} {CW : Addr}
theorem ok_L_whole {f : Addr} {fd : FuncData} (F : FdD K "_law_whole" "_law_whole" s_f_L_whole [] f fd) (B : BltM mg) : FnOk P w K mg base CX0 1 f fd (N_f_L_whole.take 1) (conSp con_L_whole) := by
  refine fn_conD con_L_whole F sc_f_L_whole (fun _ => rfl) fun cd A outer s H EE G (i : Int) hp hr hE => ?_
  refine wss_one (ws_ret (we_and (we_isiB (t := "int") (c := "int") (b := true) g_isinstance_f_L_whole g_int_f_L_whole B.isi B.int (by decide +kernel) (by decide +kernel) (we_var 0 r0_f_L_whole rfl ⟨tyIs_i, ?_⟩))))
  refine ⟨true, Sub.rfl, fun _ => ?_, fun h => (by cases h)⟩
  exact we_and1 (we_not (we_isiB (t := "int") (c := "bool") (b := false) g_isinstance_f_L_whole g_bool_f_L_whole B.isi B.bool (by decide +kernel) (by decide +kernel) (we_var 0 r0_f_L_whole rfl ⟨tyIs_i, ⟨false, Sub.rfl, (), [], trivial, Sub.rfl, .nil⟩⟩)))
/-- the methods of wheels -/
structure WhM (P : Program) (w : World) (K : PySem.W.Frag) (mg : Str → Option Value) (base : Heap) (CW : Addr) : Prop where
  on : KnM P w K mg base 1 CW "name_on" [] (con_on CW)
  onK : KnMK P w K mg base 1 CW "name_on" 0 ["day"] (gvP [0, 1]) (con_on CW)
  nx : KnM P w K mg base 2 CW "next_named" [] (con_nx CW)
  nxK : KnMK P w K mg base 2 CW "next_named" 0 ["name", "day"] (gvP [0, 2, 1]) (con_nx CW)
theorem ok_L_dr {f : Addr} {fd : FuncData} (F : FdD K "_law_days_right" "_law_days_right" s_f_L_days_right [] f fd) (B : BltM mg) (Nx : Kn P w K mg base 1 "_law_next" [] con_L_next) (Dy : Kn P w K mg base 2 "_law_day" [] con_L_day) (On : Kn P w K mg base 1 "_law_on" [] con_L_on) (Nd : Kn P w K mg base 2 "_law_next_day" [] con_L_nd) (Wl : Kn P w K mg base 1 "_law_whole" [] con_L_whole) (W : WhM P w K mg base CW) : FnOk P w K mg base CX0 3 f fd (N_f_L_days_right.take 4) (conSp (con_L_dr CW)) := by
  refine fn_conD (con_L_dr CW) F sc_f_L_days_right (fun _ => rfl) fun cd A outer s H EE G i hp hr hE => ?_
  obtain ⟨p, n, v⟩ := i
  obtain ⟨hn, hw⟩ := hp
  have hn : n ≤ 1000 := hn
  have hw : WhOk v := hw
  have pos := hw.pos
  have hr1 := hr.mono (show 1 ≤ 2 by decide)
  have inn : ∀ d, PyData.strOk (v.on d) = true := fun d => hw.ok _ (Wh.on_in hw d)
  refine wss_cons (ws_set 4 w4_f_L_days_right (we_lst (wa_cons (we_int (wa_cons (we_int ?_))))))
  refine wa_cons (we_negI (we_int ⟨Sub.rfl, wa_cons (we_var 3 r3_f_L_days_right rfl ?_)⟩))
  refine wa_cons (we_bin op_sub (we_var 3 r3_f_L_days_right rfl (we_int (opw_of opv_sub_i ?_))))
  refine wa_cons (we_bin op_addU (we_var 3 r3_f_L_days_right rfl ?_))
  refine we_callB call_len_seq g_len_f_L_days_right B.len (by decide +kernel) (wa_cons (we_var 2 r2_f_L_days_right rfl (wa_nil (caw_of cav_len_lt (opw_of opv_add_i ?_)))))
  refine wa_cons (we_call Dy hr g__law_day_f_L_days_right pass0 (wa_cons (we_var 0 r0_f_L_days_right rfl (wa_nil (ck_L_day Sub.rfl .here (by omega) fun d1 hd1 => ?_)))))
  refine wa_cons (we_call Dy hr g__law_day_f_L_days_right pass0 (wa_cons (we_var 0 r0_f_L_days_right rfl (wa_nil (ck_L_day Sub.rfl .here (by omega) fun d2 hd2 => ?_)))))
  refine wa_nil ⟨by show 8 ≤ 100000; decide, ?_⟩
  generalize hds : [RI 0, RI 1, RI (-1), RI v.first, RI (v.first - 1), RI (v.first + ((v.names.map RS).length : Nat)), RI d1, RI d2] = ds
  have all : AllInt ds := by
    rw [← hds]
    exact allInt_cons (allInt_cons (allInt_cons (allInt_cons (allInt_cons (allInt_cons (allInt_cons (allInt_cons allInt_nil)))))))
  have l8 : ds.length = 8 := by
    rw [← hds]
    rfl
  refine wss_cons (ws_for_list PassesOwn.never rfl (we_var 4 r4_f_L_days_right rfl ⟨ds, sub_lt, fun i Γ M => M = [(p, ODr (n + 2 + i))] ∧ ∃ o5 o6 o7 o8, Γ = [some (RRef p), some (RWh CW v), some (RLt (v.names.map RS)), some (RI v.first), some (RLt ds), o5, o6, o7, o8], ⟨rfl, none, none, none, none, rfl⟩, ?turn, ?done⟩))
  case done =>
    rintro Γ M ⟨rfl, o5, o6, o7, o8, rfl⟩
    rw [l8]
    exact wss_one (ws_ret (we_bl ⟨(), _, trivial, Sub.rfl, .cons .here OSub.rfl .nil⟩))
  case turn =>
    rintro i ρ Γ M hi hρ ⟨rfl, o5, o6, o7, o8, rfl⟩
    obtain ⟨d, rfl⟩ := all ρ (List.mem_of_getElem? hρ)
    have i8 : i < 8 := by
      rw [← l8]
      exact (List.getElem?_eq_some_iff.mp hρ).1
    refine wg_name 5 w5_f_L_days_right ?_
    refine wss_cons (ws_if (wt_cmp (op_neD hr.units) (nomark _) (we_lst (wa_cons (we_meth W.on hr1 pass0 (we_var 1 r1_f_L_days_right rfl ⟨hasI_wh (by decide +kernel), wa_cons (we_var 5 r5_f_L_days_right rfl (wa_nil (ck_on Sub.rfl Sub.rfl hw ?_)))⟩))))))
    refine wa_cons (we_methN0 (gR := gvP [0, 1]) W.onK (gr_P _) hr1 pass0 (we_var 1 r1_f_L_days_right rfl ⟨hasI_wh (by decide +kernel), wk_cons (we_var 5 r5_f_L_days_right rfl (wk_nil ⟨rfl, ck_on Sub.rfl Sub.rfl hw ?_⟩))⟩))
    refine wa_nil ⟨by show 2 ≤ 100000; decide, ?_⟩
    refine we_bin op_rep (we_lst (wa_cons (we_call On hr1 g__law_on_f_L_days_right pass0 (wa_cons (we_var 2 r2_f_L_days_right rfl (wa_cons (we_var 3 r3_f_L_days_right rfl (wa_cons (we_var 5 r5_f_L_days_right rfl (wa_nil (ck_L_on Sub.rfl Sub.rfl Sub.rfl hw ?_)))))))))))
    refine wa_nil ⟨by show 1 ≤ 100000; decide, we_int (opw_of (opv_rep (n := 2) (by decide) (by show 1 * 2 ≤ 100000; decide)) ?_)⟩
    have two : ∀ s ∈ [v.on d, v.on d], PyData.strOk s = true := fun s hs => by
      rcases List.mem_cons.mp hs with e | e
      · rw [e]
        exact inn d
      · rw [List.mem_singleton.mp e]
        exact inn d
    refine opw_of (opv_ne (isD_txts (l := [v.on d, v.on d])) (isD_txts (l := [v.on d, v.on d])) (shaped_txts two) (shaped_txts two)) ⟨_, Sub.rfl, fun hk => ?bad1, fun _ => wss_nil ?go1⟩
    case bad1 =>
      rw [eqv_txts, decide_eq_true rfl] at hk
      cases hk
    case go1 =>
      refine wss_cons (ws_set 6 w6_f_L_days_right (we_ix ix_seq (we_var 2 r2_f_L_days_right rfl (we_bin op_modN (we_call Nx hr1 g__law_next_f_L_days_right pass0 (wa_cons (we_var 0 r0_f_L_days_right rfl (wa_nil (ck_L_next Sub.rfl .here (by omega) fun y hy => ?_)))))))))
      refine we_callB call_len_seq g_len_f_L_days_right B.len (by decide +kernel) (wa_cons (we_var 2 r2_f_L_days_right rfl (wa_nil (caw_of cav_len_lt ?_))))
      rw [List.length_map]
      refine opw_of (opv_mod_i (Int.natCast_pos.mpr pos)) ?_
      have y0 := Int.emod_nonneg y (show ((v.names.length : Nat) : Int) ≠ 0 by omega)
      have y1 := Int.emod_lt_of_pos y (show (0 : Int) < (v.names.length : Nat) by omega)
      generalize y % ((v.names.length : Nat) : Int) = q at y0 y1
      obtain ⟨k, rfl⟩ := Int.eq_ofNat_of_zero_le y0
      have hk : k < v.names.length := by omega
      have em : v.names[k]? = some (v.names.getD k Str.empty) := by rw [List.getD_eq_getElem?_getD, List.getElem?_eq_getElem hk, Option.getD_some]
      refine opw_of (opv_ix_l (ρ := RS (v.names.getD k Str.empty)) sub_lt (at_n (by rw [List.getElem?_map, em]; rfl))) ?_
      refine wss_cons (ws_set 7 w7_f_L_days_right (we_lst (wa_cons (we_meth W.nx hr pass0 (we_var 1 r1_f_L_days_right rfl ⟨hasI_wh (by decide +kernel), ?_⟩)))))
      refine wa_cons (we_var 5 r5_f_L_days_right rfl (wa_cons (we_var 6 r6_f_L_days_right rfl (wa_nil (ck_nx Sub.rfl Sub.rfl Sub.rfl hw hk ?_)))))
      refine wa_cons (we_methN0 (gR := gvP [0, 2, 1]) W.nxK (gr_P _) hr pass0 (we_var 1 r1_f_L_days_right rfl ⟨hasI_wh (by decide +kernel), wk_cons (we_var 6 r6_f_L_days_right rfl (wk_cons (we_var 5 r5_f_L_days_right rfl (wk_nil ⟨rfl, ck_nx Sub.rfl Sub.rfl Sub.rfl hw hk ?_⟩))))⟩))
      refine wa_nil ⟨by show 2 ≤ 100000; decide, ?_⟩
      refine wss_cons (ws_set 8 w8_f_L_days_right (we_call Nd hr g__law_next_day_f_L_days_right pass0 (wa_cons (we_var 2 r2_f_L_days_right rfl (wa_cons (we_var 3 r3_f_L_days_right rfl (wa_cons (we_var 5 r5_f_L_days_right rfl (wa_cons (we_var 6 r6_f_L_days_right rfl (wa_nil (ck_L_nd Sub.rfl Sub.rfl Sub.rfl Sub.rfl hw hk ?_))))))))))))
      refine wss_one (ws_if (wt_bool (wp_or (wt_not (wt_val (we_call Wl hr1 g__law_whole_f_L_days_right pass0 (wa_cons (we_ix ix_seq (we_var 7 r7_f_L_days_right rfl (we_int (opw_of (opv_ix_l sub_lt rfl) ?_)))))))))))
      refine wa_nil (ck_L_whole Sub.rfl ⟨true, Sub.rfl, fun _ => ?t2, fun hk => (by cases hk)⟩)
      case t2 =>
        refine wp_or1 (wt_cmp (op_neD hr.units) (nomark _) (we_var 7 r7_f_L_days_right rfl (we_lst (wa_cons (we_var 8 r8_f_L_days_right rfl (wa_cons (we_var 8 r8_f_L_days_right rfl (wa_nil ⟨by show 2 ≤ 100000; decide, ?_⟩))))))))
        refine opw_of (opv_ne isD_n2 isD_n2 shaped_n2 shaped_n2) ⟨_, Sub.rfl, fun hk => ?bad2, fun _ => wss_nil ⟨?own, _, _, _, _, rfl⟩⟩
        case bad2 =>
          simp [PyData.eqv, PyData.eqvAll] at hk
        case own => rfl
theorem ok_L_fr {f : Addr} {fd : FuncData} (F : FdD K "_law_fields_right" "_law_fields_right" s_f_L_fields_right [] f fd) (T : WhT K CW) (B : BltM mg) (Fn : Kn P w K mg base 2 "_law_from_nought" [] con_L_fn) (Ln : KnO P w K mg base 1 CW "__len__" (con_wlen CW)) (St : KnO P w K mg base 3 CW "__str__" (con_Wh_str CW)) (Rp : KnOG P w K mg base 1 CW "__repr__" (con_reprW CW)) : FnG P w K mg base 6 f fd (N_f_L_fields_right.take 3) (conSp (con_L_fr CW)) := by
  refine fn_conG (con_L_fr CW) F sc_f_L_fields_right (fun _ => rfl) fun cd A outer s H EE G (v : Wh) hp hr gd hE => ?_
  have hw : WhR v := hp
  have ok := hw.ok
  have few := hw.le
  have rl := hw.rp
  have il := itx_len ok.z
  have c1 : ("Wheel(" : Str).length = 6 := by decide +kernel
  have c2 : (", first=" : Str).length = 8 := by decide +kernel
  have c3 : (")" : Str).length = 1 := by decide +kernel
  have sz : sizeLine = 16777216 := by decide
  refine wss_cons (ws_if (wt_bool (wp_or (wt_cmp (op_neD hr.units) (nomark _) (we_fld (we_var 0 r0_f_L_fields_right rfl ⟨_, hasF_names T, ?_⟩))))))
  refine we_callTy call_tuple_of g_tuple_f_L_fields_right B.tup (by decide +kernel) (wa_cons (we_var 1 r1_f_L_fields_right rfl (wa_nil (caw_tupL ?_))))
  refine opw_of (opv_ne isD_txtt isD_txtt (shaped_txtt ok.ok) (shaped_txtt ok.ok)) ⟨_, Sub.rfl, fun _ => ?t2, fun hk => ?bad1⟩
  case bad1 =>
    rw [eqv_txtt, decide_eq_true rfl] at hk
    cases hk
  case t2 =>
    refine wp_or (wt_cmp (op_neD hr.units) (nomark _) (we_fld (we_var 0 r0_f_L_fields_right rfl ⟨_, hasF_first T, we_var 2 r2_f_L_fields_right rfl (opw_of (opv_ne isD_i isD_i shaped_i shaped_i) ⟨_, Sub.rfl, fun _ => ?t3, fun hk => ?bad2⟩)⟩)))
    case bad2 =>
      simp [PyData.eqv] at hk
    case t3 =>
      refine wp_or1 (wt_cmp (op_neD hr.units) (nomark _) (we_lenO Ln (hr.mono (by decide)) g_len_f_L_fields_right B.len pass0 (we_var 0 r0_f_L_fields_right rfl ⟨⟨_, Sub.rfl⟩, ck_wlen Sub.rfl ⟨⟨_, Sub.rfl, by omega⟩, ?_⟩⟩)))
      refine we_callB call_len_seq g_len_f_L_fields_right B.len (by decide +kernel) (wa_cons (we_var 1 r1_f_L_fields_right rfl (wa_nil (caw_of cav_len_lt ?_))))
      refine opw_of (opv_ne isD_i isD_i shaped_i shaped_i) ⟨_, Sub.rfl, fun hk => ?bad3, fun _ => wss_nil ?go1⟩
      case bad3 =>
        rw [List.length_map] at hk
        simp [PyData.eqv] at hk
      case go1 =>
        have wt := whT_ok ok
        refine wss_cons (ws_if (wt_cmp (op_neD hr.units) (nomark _) (we_strO St hr g_str_f_L_fields_right B.str pass0 (we_var 0 r0_f_L_fields_right rfl ⟨⟨_, Sub.rfl⟩, ck_Wh_str Sub.rfl hw.s ⟨⟨_, Sub.rfl⟩, ?_⟩⟩))))
        refine we_bm PySem.F.plainAttrs_str PySem.F.slot_str_join PySem.F.type_str_join mt_join (we_str ⟨tyw_str, wa_cons (we_call Fn (hr.mono (by decide)) g__law_from_nought_f_L_fields_right pass0 (wa_cons (we_var 1 r1_f_L_fields_right rfl (wa_cons (we_var 2 r2_f_L_fields_right rfl (wa_nil (ck_L_fn Sub.rfl Sub.rfl ok (wa_nil (mtw_join ?sz ?_)))))))))⟩)
        case sz =>
          have s1 := sum_le_of (l := fnL v) (n := 1000) fun s hs => hw.s.sm s (fnL_in ok s hs)
          have s2 : (fnL v).length = v.names.length := by
            unfold fnL
            rw [List.length_map, List.length_range]
          have s3 : (" " : Str).length = 1 := by decide +kernel
          rw [s2] at s1
          rw [s2, s3]
          omega
        refine opw_of (opv_ne isD_s isD_s (shaped_so wt) (shaped_so wt)) ⟨_, Sub.rfl, fun hk => ?bad4, fun _ => wss_nil ?go2⟩
        case bad4 =>
          have hk : (!PyData.eqv (.str (whT v)) (.str (whT v))) = true := hk
          rw [eqv_sr] at hk
          cases hk
        case go2 =>
          refine wss_one (ws_ret (we_cmp (op_eqD hr.units) (nomark _) (we_reprOG Rp (hr.mono (by decide)) gd g_repr_f_L_fields_right B.repr pass0 (we_var 0 r0_f_L_fields_right rfl ⟨⟨_, Sub.rfl⟩, ck_reprW Sub.rfl hw ⟨⟨_, Sub.rfl⟩, ?_⟩⟩))))
          refine we_bin op_addU (we_bin op_addU (we_bin op_addU (we_bin op_addU (we_str (we_reprL hr gd g_repr_f_L_fields_right B.repr (we_var 1 r1_f_L_fields_right rfl ⟨v.names, sub_lt, by omega, ?_⟩))))))
          refine opw_of (opv_add_s (by omega)) (we_str (opw_of (opv_add_s ?z2) ?_))
          case z2 =>
            rw [Str.length_append]
            omega
          refine we_strI g_str_f_L_fields_right B.str (we_var 2 r2_f_L_fields_right rfl ⟨_, Sub.rfl, lg_of ok.z (by decide), opw_of (opv_add_s ?z3) (we_str (opw_of (opv_add_s ?z4) ?_))⟩)
          case z3 =>
            rw [Str.length_append, Str.length_append]
            show _ + (itx v.first).length ≤ 100000
            omega
          case z4 =>
            rw [Str.length_append, Str.length_append, Str.length_append]
            show _ + (itx v.first).length + _ ≤ 100000
            omega
          have e : (("Wheel(" : Str) ++ rpL v.names ++ (", first=" : Str) ++ Str.ofString (toString v.first) ++ (")" : Str)) = whR v := rfl
          rw [e]
          have okw : PyData.strOk (whR v) = true := strOk_app (strOk_app (strOk_app (strOk_app (by decide +kernel) (strOk_rpL ok.ok)) (by decide +kernel)) strOk_of) (by decide +kernel)
          refine opw_of (opv_eq isD_s isD_s (shaped_so okw) (shaped_so okw)) ?_
          rw [eqv_sr]
          exact ⟨(), [], trivial, Sub.rfl, .nil⟩
end
end MM

namespace MM
open PySem L2 PyProof.Rows
/-! ### lists of names turned about -/
theorem nodup_pick {l : List Str} (h : l.Nodup) (f : Nat → Nat) (hf : ∀ i, i < l.length → f i < l.length) (inj : ∀ i j, i < l.length → j < l.length → f i = f j → i = j) : ((List.range l.length).map fun k => l.getD (f k) Str.empty).Nodup := by
  unfold List.Nodup
  rw [List.pairwise_map]
  refine List.Pairwise.imp_of_mem ?_ List.nodup_range
  intro i j hi hj ne e
  have hi := List.mem_range.mp hi
  have hj := List.mem_range.mp hj
  have a := hf i hi
  have b := hf j hj
  rw [List.getD_eq_getElem?_getD, List.getElem?_eq_getElem a, Option.getD_some, List.getD_eq_getElem?_getD, List.getElem?_eq_getElem b, Option.getD_some, List.getElem_inj h] at e
  exact ne (inj i j hi hj e)
theorem mod_inj {n b i j : Nat} (hi : i < n) (hj : j < n) (e : (i + b) % n = (j + b) % n) : i = j := by
  have key : ∀ x y : Nat, x < n → y < n → x ≤ y → (x + b) % n = (y + b) % n → x = y := fun x y hx hy le e => by
    have z := Nat.sub_mod_eq_zero_of_mod_eq e.symm
    have e2 : y + b - (x + b) = y - x := by omega
    rw [e2, Nat.mod_eq_of_lt (by omega)] at z
    omega
  rcases Nat.le_total i j with le | le
  · exact key i j hi hj le e
  · exact (key j i hj hi le e.symm).symm
def turnL (l : List Str) (b : Nat) : List Str := (List.range l.length).map fun k => l.getD ((k + b) % l.length) Str.empty
theorem turn_len {l : List Str} {b : Nat} : (turnL l b).length = l.length := by
  unfold turnL
  rw [List.length_map, List.length_range]
theorem getD_in {l : List Str} {k : Nat} (h : k < l.length) : l.getD k Str.empty ∈ l := by
  rw [List.getD_eq_getElem?_getD, List.getElem?_eq_getElem h, Option.getD_some]
  exact List.getElem_mem h
theorem turn_in {l : List Str} {b : Nat} : ∀ s ∈ turnL l b, s ∈ l := fun s hs => by
  obtain ⟨k, hk, rfl⟩ := List.mem_map.mp hs
  have := List.mem_range.mp hk
  exact getD_in (Nat.mod_lt _ (by omega))
theorem turn_nd {l : List Str} {b : Nat} (h : l.Nodup) : (turnL l b).Nodup :=
  nodup_pick h (fun k => (k + b) % l.length) (fun i hi => Nat.mod_lt _ (by omega)) fun i j hi hj e => mod_inj hi hj e
def swapL (l : List Str) (a : Nat) : List Str := (l.set 0 (l.getD a Str.empty)).set a (l.getD 0 Str.empty)
def swF (a k : Nat) : Nat := if k = a then 0 else if k = 0 then a else k
theorem swap_eq {l : List Str} {a : Nat} (h : a < l.length) : swapL l a = (List.range l.length).map fun k => l.getD (swF a k) Str.empty := by
  refine List.ext_getElem? fun k => ?_
  unfold swapL swF
  rw [List.getElem?_set, List.getElem?_set, List.getElem?_map, List.length_set]
  by_cases hk : k < l.length
  · rw [List.getElem?_range hk]
    by_cases e : a = k
    · subst e
      simp [h]
    · rw [if_neg e]
      by_cases z : 0 = k
      · subst z
        simp [hk, e]
        rw [if_neg fun y => e y.symm]
      · rw [if_neg z, Option.map_some, if_neg (fun y => e y.symm), if_neg (fun y => z y.symm), List.getD_eq_getElem?_getD, List.getElem?_eq_getElem hk, Option.getD_some]
  · have e1 : (List.range l.length)[k]? = none := List.getElem?_eq_none (by rw [List.length_range]; omega)
    have e2 : l[k]? = none := List.getElem?_eq_none (by omega)
    rw [e1, e2]
    have z : ¬ a = k := by omega
    have y : ¬ 0 = k := by omega
    rw [if_neg z, if_neg y]
    rfl
theorem swap_len {l : List Str} {a : Nat} : (swapL l a).length = l.length := by
  unfold swapL
  rw [List.length_set, List.length_set]
theorem swap_in {l : List Str} {a : Nat} (h : a < l.length) : ∀ s ∈ swapL l a, s ∈ l := fun s hs => by
  rw [swap_eq h] at hs
  obtain ⟨k, hk, rfl⟩ := List.mem_map.mp hs
  have := List.mem_range.mp hk
  refine getD_in ?_
  unfold swF
  split
  · omega
  · split <;> omega
theorem swap_nd {l : List Str} {a : Nat} (h : a < l.length) (nd : l.Nodup) : (swapL l a).Nodup := by
  rw [swap_eq h]
  refine nodup_pick nd (swF a) (fun i hi => ?_) fun i j hi hj e => ?_
  · unfold swF
    split
    · omega
    · split <;> omega
  · unfold swF at e
    split at e <;> split at e <;> (try split at e) <;> (try split at e) <;> omega
abbrev ZZ : Str := "zz zz"
def moreL (l : List Str) : List Str := cutL (l ++ [ZZ]) (some (-60)) none
theorem nm_zz : (List.range 4).all (fun j => (List.range 60).all fun k => decide (nmF j k ≠ ZZ)) = true := by decide +kernel
theorem Nm.zz {l : List Str} (h : Nm l) : ZZ ∉ l := fun hs => by
  obtain ⟨j, m, hj, m1, m2, hp⟩ := h.ex
  obtain ⟨k, hk, e⟩ := List.mem_map.mp (hp.mem_iff.mp hs)
  have hk := List.mem_range.mp hk
  have a := List.all_eq_true.mp nm_zz j (List.mem_range.mpr hj)
  have b := List.all_eq_true.mp a k (List.mem_range.mpr (by omega))
  exact of_decide_eq_true b e
theorem zz_ok : PyData.strOk ZZ = true := by decide +kernel
theorem zz_len : ZZ.length ≤ 60 := by decide +kernel
theorem more_sub {l : List Str} : (moreL l).Sublist (l ++ [ZZ]) := by
  unfold moreL cutL
  exact (List.take_sublist _ _).trans (List.drop_sublist _ _)
theorem more_pos {l : List Str} (h : 1 ≤ l.length) : 0 < (moreL l).length := by
  have e : HT.sIx (l ++ [ZZ]).length 0 (some (-60)) < (l ++ [ZZ]).length := by
    rw [List.length_append]
    show HT.sIx (l.length + 1) 0 (some (-60)) < l.length + 1
    show (if (-60 : Int) < 0 then ((-60 : Int) + ((l.length + 1 : Nat) : Int)).toNat else min (-60 : Int).toNat (l.length + 1)) < l.length + 1
    rw [if_pos (by decide)]
    omega
  unfold moreL cutL
  rw [HT.sIx_none, List.length_take, List.length_drop]
  omega
theorem whR_of {l m : List Str} {f : Int} (hm : Nm l) (ne : 0 < m.length) (le : m.length ≤ 100) (nd : m.Nodup) (inn : ∀ s ∈ m, s ∈ l ++ [ZZ]) (z : Bd 70 f) : WhR ⟨m, f⟩ := by
  have all : ∀ s ∈ m, PyData.strOk s = true ∧ s.length ≤ 60 := fun s hs => by
    rcases List.mem_append.mp (inn s hs) with a | a
    · exact ⟨(hm.all s a).ok, (hm.all s a).le⟩
    · rw [List.mem_singleton.mp a]
      exact ⟨zz_ok, zz_len⟩
  exact ⟨⟨List.length_pos_iff.mp ne, nd, by show m.length ≤ 1000; omega, fun s hs => (all s hs).1, z⟩, le, fun s hs => (all s hs).2⟩
def OkO (ρ : Rep) : Prop := ∃ o : Wh, WhR o ∧ ρ = RTt [RLt (o.names.map RS), RI o.first]
def AllO (ρs : List Rep) : Prop := ∀ ρ ∈ ρs, OkO ρ
theorem allO_nil : AllO [] := fun _ h => absurd h List.not_mem_nil
theorem allO_cons {o : Wh} {ρs : List Rep} (ho : WhR o) (h : AllO ρs) : AllO (RTt [RLt (o.names.map RS), RI o.first] :: ρs) := fun ρ hρ => by
  rcases List.mem_cons.mp hρ with e | e
  · exact ⟨o, ho, e⟩
  · exact h ρ e
theorem opw_pickO {K : PySem.W.Frag} {E : En} {Γ : Gm} {M : Ow} {Φ : Rep → Ow → Prop} {ρs : List Rep} {i : Int} (h0 : 0 ≤ i) (h1 : i < ρs.length) (a : AllO ρs) (k : ∀ o : Wh, WhR o → Φ (RTt [RLt (o.names.map RS), RI o.first]) M) : OpW E Γ M (rIx K) (RLt ρs) (RI i) Φ := by
  obtain ⟨x, e, hm, _⟩ := atI_of (l := ρs) h0 h1
  obtain ⟨o, ho, rfl⟩ := a x hm
  exact opw_of (opv_ix_l sub_lt e) (k o ho)
section
variable {P : Program} {w : World} {K : PySem.W.Frag} {mg : Str → Option Value} {base : Heap} {CW : Addr}
theorem ok_L_oth {f : Addr} {fd : FuncData} (F : FdD K "_law_other" "_law_other" s_f_L_other [] f fd) (B : BltM mg) (Nx : Kn P w K mg base 1 "_law_next" [] con_L_next) : FnOk P w K mg base CX0 2 f fd (N_f_L_other.take 3) (conSp con_L_oth) := by
  refine fn_conD con_L_oth F sc_f_L_other (fun _ => rfl) fun cd A outer s H EE G i hp hr hE => ?_
  obtain ⟨p, n, l, f⟩ := i
  obtain ⟨hn, hm, hz⟩ := hp
  have hn : n ≤ 1000 := hn
  have hm : Nm l := hm
  have hz : Bd 65 f := hz
  have ln := hm.len
  obtain ⟨l1, l60⟩ := ln
  have gd := hm.good
  show WSs _ _ (startG N_f_L_other [RRef p, RLt (l.map RS), RI f]) [(p, ODr n)] _ _
  refine wss_cons (ws_set 3 w3_f_L_other (we_call Nx hr g__law_next_f_L_other pass0 (wa_cons (we_var 0 r0_f_L_other rfl (wa_nil (ck_L_next Sub.rfl .here (by omega) fun x hx => ?_))))))
  obtain ⟨x0, x1⟩ := hx
  refine wss_cons (ws_set 4 w4_f_L_other (we_bin op_modN (we_bin op_fdivA (we_var 3 r3_f_L_other rfl (we_int (opw_of (opv_div_i (by decide) (by decide)) ?_))))))
  refine we_bin op_addU (we_bin op_mulU (we_int (we_callB call_len_seq g_len_f_L_other B.len (by decide +kernel) (wa_cons (we_var 1 r1_f_L_other rfl (wa_nil (caw_of cav_len_lt ?_)))))))
  rw [List.length_map]
  refine opw_of (opv_mul_i (mulOk (n := 2) (m := 20) (show Bd 2 2 by show (2 : Int).natAbs < 2 ^ 2; decide) (show Bd 20 ((l.length : Nat) : Int) by show ((l.length : Nat) : Int).natAbs < 2 ^ 20; omega) (by decide))) (we_int (opw_of opv_add_i (opw_of (opv_mod_i (by omega)) ?_)))
  obtain ⟨b, eb, hb⟩ : ∃ b : Nat, x / 8 % (2 * ((l.length : Nat) : Int) + 1) = (b : Int) ∧ b ≤ 120 := by
    have a := Int.emod_nonneg (x / 8) (show 2 * ((l.length : Nat) : Int) + 1 ≠ 0 by omega)
    have c := Int.emod_lt_of_pos (x / 8) (show 0 < 2 * ((l.length : Nat) : Int) + 1 by omega)
    exact ⟨(x / 8 % (2 * ((l.length : Nat) : Int) + 1)).toNat, by omega, by omega⟩
  rw [eb]
  refine wss_cons (ws_setLc (t := gName 9) (own := [("_law_k", 9)]) 5 rfl sc_f_L_other.nd rfl rfl ?hsw (pi_range1 g_range_f_L_other B.rng pa_w) (blkOk_by ?ok) ?hg hE ?src)
  case hsw => rfl
  case ok =>
    show blkC N_f_L_other (defScope s_f_L_other) _ _ = true
    decide +kernel
  case hg =>
    intro s H C cl fp
    exact pg_name sc_f_L_other.nd rfl (.inl rfl)
  case src =>
    refine src_range1 (wa_cons (we_callB call_len_seq g_len_f_L_other B.len (by decide +kernel) (wa_cons (we_var 1 r1_f_L_other rfl (wa_nil (caw_of cav_len_lt (wa_nil ⟨_, .cons Sub.rfl .nil, ?bnd, fun i o M' => M' = [(p, ODr (n + 1))] ∧ o = ((turnL l b).map RS).take i, ⟨rfl, rfl⟩, ?turn, ?done⟩)))))))
    case bnd =>
      rw [List.length_map]
      exact ⟨by omega, by omega⟩
    case turn =>
      rintro i ρ o M1 D hi rfl ⟨rfl, rfl⟩
      rw [List.length_map, Int.toNat_natCast] at hi
      refine ⟨fun Γ => Γ.set 9 (some (RI (i : Int))), blkT_name 9 (by decide), fun s H0 C cl fp => ?_⟩
      refine we_ix ix_seq (we_var 1 ?r1 rfl (we_bin op_modN (we_bin op_addU (we_var 9 ?r9 rfl (we_var 4 ?r4 rfl (opw_of opv_add_i ?_))))))
      case r1 => exact ⟨rfl, by first | exact .inl rfl | exact .inr (.inl rfl), by decide, by decide⟩
      case r9 => exact ⟨rfl, by first | exact .inl rfl | exact .inr (.inl rfl), by decide, by decide⟩
      case r4 => exact ⟨rfl, by first | exact .inl rfl | exact .inr (.inl rfl), by decide, by decide⟩
      refine we_callB call_len_seq rfl B.len (by decide +kernel) (wa_cons (we_var 1 ?r1b rfl (wa_nil (caw_of cav_len_lt ?_))))
      case r1b => exact ⟨rfl, by first | exact .inl rfl | exact .inr (.inl rfl), by decide, by decide⟩
      rw [List.length_map]
      refine opw_of (opv_mod_i (by omega)) ?_
      have em : (((i : Int) + (b : Int)) % ((l.length : Nat) : Int)) = (((i + b) % l.length : Nat) : Int) := by rw [Int.natCast_emod, Int.natCast_add]
      rw [em]
      have lt : (i + b) % l.length < l.length := Nat.mod_lt _ (by omega)
      refine opw_of (opv_ix_l (ρ := RS (l.getD ((i + b) % l.length) Str.empty)) sub_lt (at_n ?at_)) ⟨_, RS (l.getD ((i + b) % l.length) Str.empty), rfl, Sub.rfl, ?len, rfl, ?tk⟩
      case at_ =>
        rw [List.getElem?_map, List.getElem?_eq_getElem lt, List.getD_eq_getElem?_getD, List.getElem?_eq_getElem lt]
        rfl
      case len =>
        rw [List.length_take]
        omega
      case tk =>
        have e : ((turnL l b).map RS)[i]? = some (RS (l.getD ((i + b) % l.length) Str.empty)) := by
          unfold turnL
          rw [List.getElem?_map, List.getElem?_map, List.getElem?_range hi]
          rfl
        rw [List.take_add_one, e]
        rfl
    case done =>
      rintro D o M1 hD hM ⟨rfl, rfl⟩
      have all : ((turnL l b).map RS).take (((l.map RS).length : Nat) : Int).toNat = (turnL l b).map RS := by
        refine List.take_of_length_le ?_
        rw [List.length_map, List.length_map, Int.toNat_natCast, turn_len]
        exact Nat.le_refl _
      rw [all]
      refine wss_freeze 5 rfl .here hD ?_
      refine wss_cons (ws_set 6 w6_f_L_other (we_bin op_modN (we_bin op_fdivA (we_var 3 r3_f_L_other rfl (we_int (opw_of (opv_div_i (by decide) (by decide)) ?_))))))
      refine we_callB call_len_seq g_len_f_L_other B.len (by decide +kernel) (wa_cons (we_var 1 r1_f_L_other rfl (wa_nil (caw_of cav_len_lt ?_))))
      rw [List.length_map]
      refine opw_of (opv_mod_i (by omega)) ?_
      obtain ⟨a, ea, ha⟩ : ∃ a : Nat, x / 8 % ((l.length : Nat) : Int) = (a : Int) ∧ a < l.length := by
        have a := Int.emod_nonneg (x / 8) (show ((l.length : Nat) : Int) ≠ 0 by omega)
        have c := Int.emod_lt_of_pos (x / 8) (show (0 : Int) < ((l.length : Nat) : Int) by omega)
        exact ⟨(x / 8 % ((l.length : Nat) : Int)).toNat, by omega, by omega⟩
      rw [ea]
      refine wss_cons (ws_set 7 w7_f_L_other (we_callTy call_list_of g_list_f_L_other B.lst (by decide +kernel) (wa_cons (we_var 1 r1_f_L_other rfl (wa_nil (caw_listL hE fun q hq hqE => ?_))))))
      have at_a : atI (l.map RS) (a : Int) = some (RS (l.getD a Str.empty)) := at_n (by
        rw [List.getElem?_map, List.getElem?_eq_getElem ha, List.getD_eq_getElem?_getD, List.getElem?_eq_getElem ha]
        rfl)
      have at_0 : atI (l.map RS) 0 = some (RS (l.getD 0 Str.empty)) := at_n (i := 0) (by
        rw [List.getElem?_map, List.getElem?_eq_getElem (show 0 < l.length by omega), List.getD_eq_getElem?_getD, List.getElem?_eq_getElem (show 0 < l.length by omega)]
        rfl)
      have ix0 : ixN (l.map RS).length 0 = some 0 := by
        unfold ixN
        rw [List.length_map, if_pos (by omega), if_pos (by omega)]
        rfl
      have ixa : ixN ((l.map RS).set 0 (RS (l.getD a Str.empty))).length (a : Int) = some a := by
        unfold ixN
        rw [List.length_set, List.length_map, if_pos (by omega), if_pos (by omega), Int.toNat_natCast]
      refine wss_cons (ws_asg (we_tup (wa_cons (we_ix ix_seq (we_var 7 r7_f_L_other rfl (we_var 6 r6_f_L_other rfl (opw_ix_o Sub.rfl Sub.rfl .here at_a ?_)))))))
      refine wa_cons (we_ix ix_seq (we_var 7 r7_f_L_other rfl (we_int (opw_ix_o Sub.rfl Sub.rfl .here at_0 (wa_nil ⟨by show 2 ≤ 100000; decide, ?_⟩)))))
      refine wg_tup rfl sub_tt rfl (wgs_cons (wg_setL (we_var 7 r7_f_L_other rfl (we_int ⟨q, l.map RS, 0, 0, _, Sub.rfl, Sub.rfl, .here, ix0, ?_⟩))))
      refine wgs_cons (wg_setL (we_var 7 r7_f_L_other rfl (we_var 6 r6_f_L_other rfl ⟨q, _, (a : Int), a, _, Sub.rfl, Sub.rfl, .here, ixa, wgs_nil ?_⟩)))
      have sw : ((l.map RS).set 0 (RS (l.getD a Str.empty))).set a (RS (l.getD 0 Str.empty)) = (swapL l a).map RS := by
        unfold swapL
        rw [List.map_set, List.map_set]
      rw [sw]
      refine wss_freeze 7 rfl .here hqE ?_
      have zf : Bd 70 f := hz.mono (by decide)
      have zb : Bd 70 (f + (b : Int)) := by
        have h : f.natAbs < 2 ^ 65 := hz
        show (f + (b : Int)).natAbs < 2 ^ 70
        omega
      have zc : Bd 70 (f + ((l.length : Nat) : Int) * ((b : Int) - 3)) := by
        have h : f.natAbs < 2 ^ 65 := hz
        have m1 : (((l.length : Nat) : Int) * ((b : Int) - 3)).natAbs ≤ 60 * 120 := by
          rw [Int.natAbs_mul]
          exact Nat.mul_le_mul (by omega) (by omega)
        show (f + ((l.length : Nat) : Int) * ((b : Int) - 3)).natAbs < 2 ^ 70
        omega
      have inl : ∀ {m : List Str}, (∀ s ∈ m, s ∈ l) → ∀ s ∈ m, s ∈ l ++ [ZZ] := fun h s hs => List.mem_append_left _ (h s hs)
      have w1 : WhR ⟨turnL l b, f + (b : Int)⟩ := whR_of hm (by rw [turn_len]; omega) (by rw [turn_len]; omega) (turn_nd gd.2) (inl turn_in) zb
      have w2 : WhR ⟨turnL l b, f⟩ := whR_of hm (by rw [turn_len]; omega) (by rw [turn_len]; omega) (turn_nd gd.2) (inl turn_in) zf
      have w3 : WhR ⟨l, f + (b : Int)⟩ := whR_of hm (by omega) (by omega) gd.2 (inl fun _ h => h) zb
      have w4 : WhR ⟨swapL l a, f⟩ := whR_of hm (by rw [swap_len]; omega) (by rw [swap_len]; omega) (swap_nd ha gd.2) (inl (swap_in ha)) zf
      have w5 : WhR ⟨moreL l, f⟩ := whR_of hm (more_pos l1) (by have := more_sub (l := l).length_le; rw [List.length_append] at this; have e : [ZZ].length = 1 := rfl; omega) (more_sub.nodup (List.nodup_append.mpr ⟨gd.2, by simp, fun s hs t ht e => by rw [List.mem_singleton.mp ht] at e; rw [e] at hs; exact hm.zz hs⟩)) (fun s hs => more_sub.subset hs) zf
      have w6 : WhR ⟨l, f + ((l.length : Nat) : Int) * ((b : Int) - 3)⟩ := whR_of hm (by omega) (by omega) gd.2 (inl fun _ h => h) zc
      have w7 : WhR ⟨l.take (a + 1), f⟩ := whR_of hm (by rw [List.length_take]; omega) (by rw [List.length_take]; omega) (gd.2.sublist (List.take_sublist _ _)) (inl fun s hs => List.mem_of_mem_take hs) zf
      refine wss_cons (ws_set 8 w8_f_L_other (we_lstO (wa_cons (we_tup (wa_cons (we_var 5 r5_f_L_other rfl (wa_cons (we_bin op_addU (we_var 2 r2_f_L_other rfl (we_var 4 r4_f_L_other rfl (opw_of opv_add_i (wa_nil ⟨by show 2 ≤ 100000; decide, ?_⟩)))))))))) hE))
      refine wa_cons (we_tup (wa_cons (we_var 5 r5_f_L_other rfl (wa_cons (we_var 2 r2_f_L_other rfl (wa_nil ⟨by show 2 ≤ 100000; decide, ?_⟩))))))
      refine wa_cons (we_tup (wa_cons (we_freeze (we_callTy call_list_of g_list_f_L_other B.lst (by decide +kernel) (wa_cons (we_var 1 r1_f_L_other rfl (wa_nil (caw_listL hE fun q2 hq2 hq2E => ⟨q2, _, _, Sub.rfl, .here, hq2E, ?_⟩))))))))
      refine wa_cons (we_bin op_addU (we_var 2 r2_f_L_other rfl (we_var 4 r4_f_L_other rfl (opw_of opv_add_i (wa_nil ⟨by show 2 ≤ 100000; decide, ?_⟩)))))
      refine wa_cons (we_tup (wa_cons (we_var 7 r7_f_L_other rfl (wa_cons (we_var 2 r2_f_L_other rfl (wa_nil ⟨by show 2 ≤ 100000; decide, ?_⟩))))))
      refine wa_nil ⟨by show 4 ≤ 100000; decide, fun t ht htE => ?_⟩
      refine wss_cons (ws_expr (we_bm PySem.F.plainAttrs_list PySem.F.slot_list_append PySem.F.type_list_append mt_append (we_var 8 r8_f_L_other rfl ⟨tyw_listO Sub.rfl .here, ?_⟩)))
      refine wa_cons (we_tup (wa_cons (we_slL (we_bin op_addU (we_var 1 r1_f_L_other rfl (we_lst (wa_cons (we_str (wa_nil ⟨by show 1 ≤ 100000; decide, opw_of (opv_add_l ?la) ?_⟩)))))))))
      case la =>
        rw [List.length_map]
        show l.length + 1 ≤ 100000
        omega
      refine ⟨_, sub_lt, wo_some (we_negI (we_int ⟨Sub.rfl, -60, Sub.rfl, wo_none ?_⟩))⟩
      have ec : cutL (l.map RS ++ [RS ZZ]) (some (-60)) none = (moreL l).map RS := by
        unfold moreL
        rw [← cutL_map, List.map_append]
        rfl
      rw [ec]
      refine wa_cons (we_var 2 r2_f_L_other rfl (wa_nil ⟨by show 2 ≤ 100000; decide, wa_nil (mtw_append Sub.rfl .here (by show 4 < 100000; decide) ?_)⟩))
      refine wss_freeze 8 rfl .here htE ?_
      refine wss_cons (ws_set 8 w8_f_L_other (we_bin op_addU (we_var 8 r8_f_L_other rfl (we_lst (wa_cons (we_tup (wa_cons (we_freeze (we_callTy call_list_of g_list_f_L_other B.lst (by decide +kernel) (wa_cons (we_var 1 r1_f_L_other rfl (wa_nil (caw_listL hE fun q3 hq3 hq3E => ⟨q3, _, _, Sub.rfl, .here, hq3E, ?_⟩)))))))))))))
      refine wa_cons (we_bin op_addU (we_var 2 r2_f_L_other rfl (we_bin op_mulU (we_callB call_len_seq g_len_f_L_other B.len (by decide +kernel) (wa_cons (we_var 1 r1_f_L_other rfl (wa_nil (caw_of cav_len_lt ?_))))))))
      rw [List.length_map]
      refine we_bin op_sub (we_var 4 r4_f_L_other rfl (we_int (opw_of opv_sub_i (opw_of (opv_mul_i (mulOk (n := 20) (m := 20) (show Bd 20 ((l.length : Nat) : Int) by show ((l.length : Nat) : Int).natAbs < 2 ^ 20; omega) (show Bd 20 ((b : Int) - 3) by show ((b : Int) - 3).natAbs < 2 ^ 20; omega) (by decide))) (opw_of opv_add_i (wa_nil ⟨by show 2 ≤ 100000; decide, ?_⟩))))))
      refine wa_cons (we_tup (wa_cons (we_slL (we_var 1 r1_f_L_other rfl ⟨_, sub_lt, wo_none (wo_some (we_bin op_addU (we_var 6 r6_f_L_other rfl (we_int (opw_of opv_add_i ⟨_, Sub.rfl, ?_⟩)))))⟩))))
      have e7 : cutL (l.map RS) none (some ((a : Int) + 1)) = (l.take (a + 1)).map RS := by
        rw [cutL_map]
        congr 1
        exact cut_to (k := a + 1) (by omega)
      rw [e7]
      refine wa_cons (we_var 2 r2_f_L_other rfl (wa_nil ⟨by show 2 ≤ 100000; decide, wa_nil ⟨by show 2 ≤ 100000; decide, opw_of (opv_add_l (by show 7 ≤ 100000; decide)) ?_⟩⟩))
      refine wss_one (ws_ret (we_ix ix_seq (we_var 8 r8_f_L_other rfl (we_bin op_modN (we_var 3 r3_f_L_other rfl (we_int (opw_of (opv_mod_i (by decide)) ?_)))))))
      refine opw_pickO (Int.emod_nonneg _ (by decide)) (by show x % 7 < 7; omega) ?all7 fun o ho => ⟨o, _, ho, Sub.rfl, .cons .here OSub.rfl .nil⟩
      case all7 => exact allO_cons w1 (allO_cons w2 (allO_cons w3 (allO_cons w4 (allO_cons w5 (allO_cons w6 (allO_cons w7 allO_nil))))))
end
end MM

namespace MM
open PySem L2 PyProof.Rows
def con_L_rt : Con := { I := Addr, B := Unit, pre := fun _ => True, args := fun p => [RRef p], own := fun p => [(p, ODr 0)], post := fun _ _ => True, res := fun _ _ => RB true, own' := fun _ _ => [] }
theorem ck_L_rt {ρ : Rep} {M M1 : Ow} {Φ : Rep → Ow → Prop} {p : Addr} (h : Sub ρ (RRef p)) (rm : Rm M p (ODr 0) M1) (k : Φ (RB true) M1) : CallK con_L_rt [ρ] M Φ :=
  ⟨p, M1, trivial, .cons h .nil, .cons rm OSub.rfl .nil, fun _ _ => k⟩
theorem mk_WhO {E : En} {CW : Addr} {M M1 : Ow} {ρ1 ρ2 : Rep} {Φ : Rep → Ow → Prop} {q : Addr} {l : List Str} {f : Int} (h1 : Sub ρ1 (RRef q)) (h2 : Sub ρ2 (RI f)) (rm : Rm M q (OL (l.map RS)) M1) (hw : WhOk ⟨l, f⟩) (k : Φ (RWh CW ⟨l, f⟩) ((q, OL (l.map RS)) :: M1)) : MakeK E CW (con_WhO CW) [ρ1, ρ2] M Φ := fun p hp hpE =>
  ck_WhO (v := ⟨l, f⟩) h1 h2 rm hw k
theorem mkN_WhO {E : En} {CW : Addr} {gR : List Rep → List Rep → List Rep} {ρs ρz : List Rep} {M M1 : Ow} {ρ1 ρ2 : Rep} {Φ : Rep → Ow → Prop} {q : Addr} {l : List Str} {f : Int} (hs : ∀ p, gR (RRef p :: ρs) ρz = [RRef p, ρ1, ρ2]) (h1 : Sub ρ1 (RRef q)) (h2 : Sub ρ2 (RI f)) (rm : Rm M q (OL (l.map RS)) M1) (hw : WhOk ⟨l, f⟩) (k : Φ (RWh CW ⟨l, f⟩) ((q, OL (l.map RS)) :: M1)) : MakeN E CW (con_WhO CW) gR ρs ρz M Φ := fun p hp hpE => by
  rw [hs p]
  exact ck_WhO (v := ⟨l, f⟩) h1 h2 rm hw k
theorem mkN_Wh {E : En} {CW : Addr} {gR : List Rep → List Rep → List Rep} {ρs ρz : List Rep} {M : Ow} {ρ1 ρ2 : Rep} {Φ : Rep → Ow → Prop} {v : Wh} (hs : ∀ p, gR (RRef p :: ρs) ρz = [RRef p, ρ1, ρ2]) (h1 : Sub ρ1 (RLt (v.names.map RS))) (h2 : Sub ρ2 (RI v.first)) (hw : WhOk v) (k : Φ (RWh CW v) M) : MakeN E CW (con_Wheel_init CW) gR ρs ρz M Φ := fun p hp hpE => by
  rw [hs p]
  exact ck_Wheel h1 h2 hw k
def thW (v : Wh) : List Rep := [RLt (v.names.map RS), RTt (v.names.map RS), RS (whT v), RI ((v.names.map RS).length : Nat), RN]
theorem thW_frg {v : Wh} {ρ : Rep} (h : ρ ∈ thW v) : ∃ T, (T = "int" ∨ T = "bool" ∨ T = "str" ∨ T = "NoneType" ∨ T = "list" ∨ T = "tuple") ∧ RFrg ρ T := by
  simp only [thW, List.mem_cons, List.not_mem_nil, or_false] at h
  rcases h with rfl | rfl | rfl | rfl | rfl
  · exact ⟨"list", .inr (.inr (.inr (.inr (.inl rfl)))), rfrg_l⟩
  · exact ⟨"tuple", .inr (.inr (.inr (.inr (.inr rfl)))), rfrg_t⟩
  · exact ⟨"str", .inr (.inr (.inl rfl)), rfrg_s⟩
  · exact ⟨"int", .inl rfl, rfrg_i⟩
  · exact ⟨"NoneType", .inr (.inr (.inr (.inl rfl))), rfrg_n⟩
/-- what the law's tests call -/
structure TlW (P : Program) (w : World) (K : PySem.W.Frag) (mg : Str → Option Value) (base : Heap) (CW : Addr) : Prop where
  nx : Kn P w K mg base 1 "_law_next" [] con_L_next
  un : Kn P w K mg base 2 "_law_unlike" [] con_L_unlike
  fa : Kn P w K mg base 2 "_law_far" [] con_L_far
  ot : Kn P w K mg base 2 "_law_other" [] con_L_oth
  fn : Kn P w K mg base 2 "_law_from_nought" [] con_L_fn
  dr : Kn P w K mg base 3 "_law_days_right" [] (con_L_dr CW)
  fr : KnG P w K mg base 6 "_law_fields_right" (con_L_fr CW)
  m1 : KnC P w K mg base 1 "Wheel" CW [.int 0] (con_WhO CW)
  m2 : KnC P w K mg base 1 "Wheel" CW [] (con_WhO CW)
  mw : KnCK P w K mg base 1 "Wheel" CW 0 ["first", "names"] (gvP [0, 2, 1]) (con_WhO CW)
  mi : KnCK P w K mg base 1 "Wheel" CW 1 ["first"] (gvP [0, 1, 2]) (con_Wheel_init CW)
  st : KnO P w K mg base 3 CW "__str__" (con_Wh_str CW)
  eq : KnN P w K mg base 3 CW (con_eqW CW)
  ef : KnN P w K mg base 3 CW (con_eqF K CW)
  fc : FrgC K CW
section
variable {P : Program} {w : World} {K : PySem.W.Frag} {mg : Str → Option Value} {base : Heap} {CW : Addr}
theorem ok_L_right {f : Addr} {fd : FuncData} (F : FdD K "_law_right" "_law_right" s_f_L_right [] f fd) (B : BltM mg) (T : TlW P w K mg base CW) : FnG P w K mg base 7 f fd (N_f_L_right.take 1) (conSp con_L_rt) := by
  refine fn_conG con_L_rt F sc_f_L_right (fun _ => rfl) fun cd A outer s H EE G (p : Addr) hp hr gd hE => ?_
  have hr1 := hr.mono (show 1 ≤ 6 by decide)
  have hr2 := hr.mono (show 2 ≤ 6 by decide)
  have hr3 := hr.mono (show 3 ≤ 6 by decide)
  have hr4 := hr.mono (show 4 ≤ 6 by decide)
  have hr5 := hr.mono (show 5 ≤ 6 by decide)
  refine wss_cons (ws_set 1 w1_f_L_right (we_call T.un hr2 g__law_unlike_f_L_right pass0 (wa_cons (we_var 0 r0_f_L_right rfl (wa_cons (we_int (wa_nil (ck_L_unlike (n := 0) Sub.rfl Sub.rfl .here (by decide) fun l hl => ?_))))))))
  have ln := hl.len
  have good := hl.good
  refine wss_cons (ws_set 2 w2_f_L_right (we_call T.fa hr2 g__law_far_f_L_right pass0 (wa_cons (we_var 0 r0_f_L_right rfl (wa_nil (ck_L_far Sub.rfl .here (by omega) fun fi hf => ?_))))))
  have wok : WhOk ⟨l, fi⟩ := (hl.inn (hf.mono (by decide))).good good
  have wr : WhR ⟨l, fi⟩ := ⟨wok, by show l.length ≤ 100; omega, fun s hs => (hl.all s hs).le⟩
  generalize hn : 0 + 1 + l.length + 1 = n
  have n1 : n ≤ 100 := by omega
  refine wss_cons (ws_set 3 w3_f_L_right (we_callTy call_list_of g_list_f_L_right B.lst (by decide +kernel) (wa_cons (we_var 1 r1_f_L_right rfl (wa_nil (caw_listL hE fun q hq hqE => ?_))))))
  refine wss_cons (ws_set 4 w4_f_L_right (we_ix ix_seq (we_lst (wa_cons (we_make T.m2 hr2 g_Wheel_f_L_right pass0 hE (wa_cons (we_var 3 r3_f_L_right rfl (wa_cons (we_var 2 r2_f_L_right rfl (wa_nil (mk_WhO Sub.rfl Sub.rfl .here wok ?_)))))))))))
  refine wa_cons (we_makeN0 (gR := gvP [0, 2, 1]) T.mw (gr_P _) hr2 g_Wheel_f_L_right pass0 hE (wk_cons (we_var 2 r2_f_L_right rfl (wk_cons (we_var 3 r3_f_L_right rfl (wk_nil ⟨rfl, mkN_WhO (fun _ => rfl) Sub.rfl Sub.rfl .here wok ?_⟩))))))
  refine wa_nil ⟨by show 2 ≤ 100000; decide, ?_⟩
  refine we_bin op_modN (we_call T.nx hr1 g__law_next_f_L_right pass0 (wa_cons (we_var 0 r0_f_L_right rfl (wa_nil (ck_L_next Sub.rfl (.there .here) (by omega) fun y hy => we_int (opw_of (opv_mod_i (by decide)) ?_))))))
  have at_y : atI [RWh CW ⟨l, fi⟩, RWh CW ⟨l, fi⟩] (y % 2) = some (RWh CW ⟨l, fi⟩) := by
    rcases Int.emod_two_eq y with e | e
    · rw [e]
      rfl
    · rw [e]
      rfl
  refine opw_of (opv_ix_l sub_lt at_y) ?_
  refine wss_cut (fun Γ M => Γ = [some (RRef p), some (RLt (l.map RS)), some (RI fi), some (RRef q), some (RWh CW ⟨l, fi⟩), none, none, none, none, none] ∧ M = [(q, OL (l.map RS)), (p, ODr (n + 1))]) ?first ?rest
  case first =>
    refine ws_if (wt_cmp (op_eqD hr.units) (nomark _) (we_var 2 r2_f_L_right rfl (we_int (opw_of (opv_eq isD_i isD_i shaped_i shaped_i) ⟨_, Sub.rfl, fun hk => ?yes, fun _ => wss_swap (wss_nil ⟨rfl, rfl⟩)⟩))))
    case yes =>
      have e0 : fi = 0 := by
        simp only [PyData.eqv] at hk
        exact of_decide_eq_true hk
      subst e0
      exact wss_one (ws_set 4 w4_f_L_right (we_make T.m1 hr2 g_Wheel_f_L_right pass0 hE (wa_cons (we_var 3 r3_f_L_right rfl (wa_nil (mk_WhO (f := 0) Sub.rfl Sub.rfl (.there .here) wok ⟨rfl, rfl⟩))))))
  case rest =>
    rintro Γ M ⟨rfl, rfl⟩
    have oks : ∀ s ∈ l, PyData.strOk s = true := fun s hs => (hl.all s hs).ok
    have lp : 0 < l.length := by omega
    have in0 : l.getD 0 Str.empty ∈ l := getD_in lp
    have at_0 : atI (l.map RS) 0 = some (RS (l.getD 0 Str.empty)) := at_n (i := 0) (by
      rw [List.getElem?_map, List.getElem?_eq_getElem lp, List.getD_eq_getElem?_getD, List.getElem?_eq_getElem lp]
      rfl)
    have ix0 : ixN (l.map RS).length 0 = some 0 := by
      unfold ixN
      rw [List.length_map, if_pos (by omega), if_pos (by omega)]
      rfl
    have ly : (l.getD 0 Str.empty).length + ("y" : Str).length ≤ 100000 := by
      have a := (hl.all _ in0).le
      have b : ("y" : Str).length = 1 := by decide +kernel
      omega
    refine wss_cons (ws_if (wt_cmp (op_neD hr.units) (nomark _) (we_var 3 r3_f_L_right rfl (we_var 1 r1_f_L_right rfl (opw_neTx Sub.rfl .here isD_txts (shaped_txts oks) (shaped_txts oks) ⟨_, Sub.rfl, fun hk => ?bad1, fun _ => wss_nil ?go1⟩)))))
    case bad1 =>
      rw [eqv_txts, decide_eq_true rfl] at hk
      cases hk
    case go1 =>
      refine wss_cons (ws_asg (we_bin op_addU (we_ix ix_seq (we_var 3 r3_f_L_right rfl (we_int (opw_ix_o Sub.rfl Sub.rfl .here at_0 (we_str (opw_of (opv_add_s ly) ?_))))))))
      refine wg_setL (we_var 3 r3_f_L_right rfl (we_int ⟨q, l.map RS, 0, 0, _, Sub.rfl, Sub.rfl, .here, ix0, ?_⟩))
      refine wss_cons (ws_expr (we_bm PySem.F.plainAttrs_list PySem.F.slot_list_append PySem.F.type_list_append mt_append (we_var 3 r3_f_L_right rfl ⟨tyw_listO Sub.rfl .here, wa_cons (we_str (wa_nil (mtw_append Sub.rfl .here (by rw [List.length_set, List.length_map]; omega) ?_)))⟩)))
      generalize hjk : OL (((l.map RS).set 0 (RS (l.getD 0 Str.empty ++ ("y" : Str)))) ++ [RS ("zzz" : Str)]) = junk
      refine wss_swap ?_
      refine wss_cons (ws_if (wt_bool (wp_or (wt_not (wt_val (we_callG T.fr hr gd g__law_fields_right_f_L_right pass0 (wa_cons (we_var 4 r4_f_L_right rfl (wa_cons (we_var 1 r1_f_L_right rfl (wa_cons (we_var 2 r2_f_L_right rfl (wa_nil (ck_L_fr (v := ⟨l, fi⟩) Sub.rfl Sub.rfl Sub.rfl wr ⟨true, Sub.rfl, fun _ => ?t1, fun hk => (by cases hk)⟩))))))))))))))
      case t1 =>
        refine wp_or1 (wt_not (wt_val (we_call T.dr hr3 g__law_days_right_f_L_right pass0 (wa_cons (we_var 0 r0_f_L_right rfl (wa_cons (we_var 4 r4_f_L_right rfl (wa_cons (we_var 1 r1_f_L_right rfl (wa_cons (we_var 2 r2_f_L_right rfl (wa_nil (ck_L_dr (v := ⟨l, fi⟩) Sub.rfl Sub.rfl Sub.rfl Sub.rfl .here (by omega) wok ⟨true, Sub.rfl, fun hk => (by cases hk), fun _ => wss_nil ?go2⟩)))))))))))))
        case go2 =>
          refine wss_cons (ws_for_list PassesOwn.never rfl (we_lst (wa_cons (we_var 1 r1_f_L_right rfl ?things))))
          case things =>
            refine wa_cons (we_callTy call_tuple_of g_tuple_f_L_right B.tup (by decide +kernel) (wa_cons (we_var 1 r1_f_L_right rfl (wa_nil (caw_tupL ?_)))))
            refine wa_cons (we_strO T.st hr5 g_str_f_L_right B.str pass0 (we_var 4 r4_f_L_right rfl ⟨⟨_, Sub.rfl⟩, ck_Wh_str (v := ⟨l, fi⟩) Sub.rfl wr.s ⟨⟨_, Sub.rfl⟩, ?_⟩⟩))
            refine wa_cons (we_callB call_len_seq g_len_f_L_right B.len (by decide +kernel) (wa_cons (we_var 1 r1_f_L_right rfl (wa_nil (caw_of cav_len_lt ?_)))))
            refine wa_cons (we_non (wa_nil ⟨by show 5 ≤ 100000; decide, ?_⟩))
            refine ⟨thW ⟨l, fi⟩, sub_lt, fun i Γ M => M = [(p, ODr (n + 1 + 10)), (q, junk)] ∧ ∃ o5, Γ = [some (RRef p), some (RLt (l.map RS)), some (RI fi), some (RRef q), some (RWh CW ⟨l, fi⟩), o5, none, none, none, none], ⟨rfl, none, rfl⟩, ?turn, ?done⟩
            case turn =>
              rintro i ρ Γ M hi hρ ⟨rfl, o5, rfl⟩
              obtain ⟨TT, hT, fr⟩ := thW_frg (List.mem_of_getElem? hρ)
              refine wg_name 5 w5_f_L_right ?_
              refine wss_one (ws_if (wt_bool (wp_or (wt_cmp (op_eqFK T.ef.eq hr3 pass0) (nomark _) (we_var 4 r4_f_L_right rfl (we_var 5 r5_f_L_right rfl (opw_frg (g := id) T.fc hT Sub.rfl fr ⟨false, Sub.rfl, fun _ => ?t4, fun hk => (by cases hk)⟩)))))))
              case t4 =>
                exact wp_or1 (wt_not (wt_cmp (op_neFK T.ef hr4 pass0) (nomark _) (we_var 4 r4_f_L_right rfl (we_var 5 r5_f_L_right rfl (opw_frg (g := not) T.fc hT Sub.rfl fr ⟨true, Sub.rfl, fun hk => (by cases hk), fun _ => wss_nil ⟨rfl, _, rfl⟩⟩)))))
            case done =>
              rintro Γ M ⟨rfl, o5, rfl⟩
              refine wss_cons (ws_asg (we_call T.ot hr2 g__law_other_f_L_right pass0 (wa_cons (we_var 0 r0_f_L_right rfl (wa_cons (we_var 1 r1_f_L_right rfl (wa_cons (we_var 2 r2_f_L_right rfl (wa_nil (ck_L_oth (v := ⟨l, fi⟩) Sub.rfl Sub.rfl Sub.rfl .here (by omega) hl hf fun o ho => ?_))))))))))
              refine wg_tup rfl sub_tt rfl (wgs_cons (wg_name 6 w6_f_L_right (wgs_cons (wg_name 7 w7_f_L_right (wgs_nil ?_)))))
              refine wss_cons (ws_set 8 w8_f_L_right (we_makeN (gR := gvP [0, 1, 2]) T.mi (gr_P _) hr2 g_Wheel_f_L_right pass0 hE (wa_cons (we_var 6 r6_f_L_right rfl (wa_nil ⟨rfl, wk_cons (we_var 7 r7_f_L_right rfl (wk_nil ⟨rfl, mkN_Wh (v := o) (fun _ => rfl) Sub.rfl Sub.rfl ho.ok ?_⟩))⟩)))))
              have sf1 := shaped_txts (fnL_ok wok)
              have sf2 := shaped_txts (fnL_ok ho.ok)
              refine wss_cons (ws_set 9 w9_f_L_right (we_cmp (op_eqD hr.units) (nomark _) (we_call T.fn hr2 g__law_from_nought_f_L_right pass0 (wa_cons (we_var 1 r1_f_L_right rfl (wa_cons (we_var 2 r2_f_L_right rfl (wa_nil (ck_L_fn (v := ⟨l, fi⟩) Sub.rfl Sub.rfl wok ?_)))))))))
              refine we_call T.fn hr2 g__law_from_nought_f_L_right pass0 (wa_cons (we_var 6 r6_f_L_right rfl (wa_cons (we_var 7 r7_f_L_right rfl (wa_nil (ck_L_fn (v := o) Sub.rfl Sub.rfl ho.ok (opw_of (opv_eq isD_txts isD_txts sf1 sf2) ?_)))))))
              rw [eqv_txts]
              have comm : decide (fnL o = fnL ⟨l, fi⟩) = decide (fnL ⟨l, fi⟩ = fnL o) := decide_eq_decide.mpr eq_comm
              generalize hdue : decide (fnL ⟨l, fi⟩ = fnL o) = due
              rw [hdue] at comm
              refine wss_cons (ws_if (wt_bool (wp_or (wt_cmp (op_neD hr.units) (nomark _) (we_eqO T.eq.eq hr3 pass0 (we_var 4 r4_f_L_right rfl (we_var 8 r8_f_L_right rfl ⟨⟨_, Sub.rfl⟩, ⟨_, Sub.rfl⟩, ck_eqW ⟨l, fi⟩ o Sub.rfl Sub.rfl wok ho.ok ⟨⟨_, Sub.rfl⟩, ?c1⟩⟩)))))))
              case c1 =>
                rw [hdue]
                refine we_var 9 r9_f_L_right rfl (opw_of (opv_ne isD_b isD_b rfl rfl) ⟨_, Sub.rfl, fun _ => ?c2, fun hk => ?bad2⟩)
                case bad2 =>
                  rw [eqv_bb] at hk
                  simp at hk
                case c2 =>
                  refine wp_or (wt_cmp (op_eqD hr.units) (nomark _) (we_neQ T.eq hr4 pass0 (we_var 4 r4_f_L_right rfl (we_var 8 r8_f_L_right rfl ⟨⟨_, Sub.rfl⟩, ⟨_, Sub.rfl⟩, ck_eqW ⟨l, fi⟩ o Sub.rfl Sub.rfl wok ho.ok ⟨_, Sub.rfl, ?c3⟩⟩))))
                  case c3 =>
                    rw [hdue]
                    refine we_var 9 r9_f_L_right rfl (opw_of (opv_eq isD_b isD_b rfl rfl) ⟨_, Sub.rfl, fun _ => ?c4, fun hk => ?bad3⟩)
                    case bad3 =>
                      rw [eqv_bb] at hk
                      simp at hk
                    case c4 =>
                      refine wp_or1 (wt_cmp (op_neD hr.units) (nomark _) (we_eqO T.eq.eq hr3 pass0 (we_var 8 r8_f_L_right rfl (we_var 4 r4_f_L_right rfl ⟨⟨_, Sub.rfl⟩, ⟨_, Sub.rfl⟩, ck_eqW o ⟨l, fi⟩ Sub.rfl Sub.rfl ho.ok wok ⟨⟨_, Sub.rfl⟩, ?c5⟩⟩))))
                      case c5 =>
                        rw [comm]
                        refine we_var 9 r9_f_L_right rfl (opw_of (opv_ne isD_b isD_b rfl rfl) ⟨_, Sub.rfl, fun hk => ?bad4, fun _ => wss_nil ?go3⟩)
                        case bad4 =>
                          rw [eqv_bb] at hk
                          simp at hk
                        case go3 =>
                          refine wss_one (ws_ret (we_and (we_callG T.fr hr gd g__law_fields_right_f_L_right pass0 (wa_cons (we_var 4 r4_f_L_right rfl (wa_cons (we_var 1 r1_f_L_right rfl (wa_cons (we_var 2 r2_f_L_right rfl (wa_nil (ck_L_fr (v := ⟨l, fi⟩) Sub.rfl Sub.rfl Sub.rfl wr ⟨true, Sub.rfl, fun _ => ?last, fun hk => (by cases hk)⟩)))))))))))
                          case last =>
                            exact we_and1 (we_callG T.fr hr gd g__law_fields_right_f_L_right pass0 (wa_cons (we_var 8 r8_f_L_right rfl (wa_cons (we_var 6 r6_f_L_right rfl (wa_cons (we_var 7 r7_f_L_right rfl (wa_nil (ck_L_fr (v := o) Sub.rfl Sub.rfl Sub.rfl ho ⟨(), _, trivial, Sub.rfl, .nil⟩)))))))) )
theorem ok_LAW {f : Addr} {fd : FuncData} (F : FdD K "law" "law" s_f_LAW [] f fd) (L : LawB P w K mg base) (Rg : KnG P w K mg base 7 "_law_right" con_L_rt) : FnG P w K mg base 8 f fd ["_law_script"] (conSp (con_law K)) := by
  refine fn_conG (con_law K) F sc_f_LAW (fun _ => rfl) fun cd A outer s H EE G (ns : List Int) hp hr gd hE => ?_
  have hp : ns.length ≤ 63 := hp
  have hr1 := hr.mono (show 1 ≤ 7 by decide)
  refine wss_cut (fun _ _ => True) (ws_for_list PassesOwn.never rfl (we_bin op_addU (we_slL (we_var 0 r0_f_LAW rfl ⟨_, Sub.rfl, wo_none (wo_some (we_int ⟨3, Sub.rfl, we_lst (wa_cons (we_int (wa_nil ⟨by show 1 ≤ 100000; decide, ?add⟩)))⟩))⟩)))) ?rest
  case rest =>
    rintro Γ M -
    exact wss_one (ws_ret (we_bl ⟨(), _, trivial, Sub.rfl, .nil⟩))
  case add =>
    refine opw_of (opv_add_l ?len) ⟨_, sub_lt, fun _ Γ _ => ∃ o1, Γ = [some (RL K (ns.map RI)), o1], ⟨none, rfl⟩, ?turn, fun _ _ _ => trivial⟩
    case len =>
      have h1 := cutL_len (l := ns.map RI) (lo := none) (hi := some 3)
      rw [List.length_map] at h1
      show (cutL (ns.map RI) none (some 3)).length + 1 ≤ 100000
      omega
    case turn =>
      rintro i ρ Γ M hi' hρ ⟨o1, rfl⟩
      obtain ⟨cell, rfl⟩ := cells_of hρ
      refine wg_name 1 w1_f_LAW ?_
      refine wss_one (ws_if (wt_not (wt_val (we_callG Rg hr gd g__law_right_f_LAW pass0 (wa_cons (we_call L.draws hr1 g__law_draws_f_LAW pass0 ?dr))))))
      refine wa_cons (we_var 1 r1_f_LAW rfl (wa_nil (ck_L_draws Sub.rfl fun q => wa_nil (ck_L_rt Sub.rfl .here ⟨true, Sub.rfl, fun hk => absurd hk (by decide), fun _ => wss_nil ⟨_, rfl⟩⟩))))
end
end MM

namespace MM
open PySem L2 PyProof.Rows
structure TopW (K : PySem.W.Frag) (CW : Addr) : Prop where
  cls : ClsE K "Wheel" CW
  n1 : PySem.W.findIn K (.ref CW) "names" = some none
  n2 : PySem.W.findIn K (.ref CW) "first" = some none
  init : MetE K CW "__init__" "Wheel.__init__" s_Wheel_init [.int 0]
  wlen : MetE K CW "__len__" "Wheel.__len__" s_Wheel_len []
  weq : MetE K CW "__eq__" "Wheel.__eq__" s_Wheel_eq []
  wrep : MetE K CW "__repr__" "Wheel.__repr__" s_Wheel_repr []
  wstr : MetE K CW "__str__" "Wheel.__str__" s_Wheel_str []
  on : MetE K CW "name_on" "Wheel.name_on" s_Wheel_name_on []
  nxt : MetE K CW "next_named" "Wheel.next_named" s_Wheel_next_named []
  ne : PySem.W.findIn K (.ref CW) "__ne__" = some (some (.builtin "object.__ne__"))
  so : PySem.W.subIn K (.ref CW) (.type "object") = some true
  k1 : PySem.W.isClsIn K CW = true
  k2 : PySem.W.typeIn K (.ref CW) = some (.type "type")
  fri1 : PySem.W.subIn K (.type "int") (.ref CW) = some false
  fri2 : PySem.W.subIn K (.ref CW) (.type "int") = some false
  frb1 : PySem.W.subIn K (.type "bool") (.ref CW) = some false
  frb2 : PySem.W.subIn K (.ref CW) (.type "bool") = some false
  frs1 : PySem.W.subIn K (.type "str") (.ref CW) = some false
  frs2 : PySem.W.subIn K (.ref CW) (.type "str") = some false
  frn1 : PySem.W.subIn K (.type "NoneType") (.ref CW) = some false
  frn2 : PySem.W.subIn K (.ref CW) (.type "NoneType") = some false
  frl1 : PySem.W.subIn K (.type "list") (.ref CW) = some false
  frl2 : PySem.W.subIn K (.ref CW) (.type "list") = some false
  frt1 : PySem.W.subIn K (.type "tuple") (.ref CW) = some false
  frt2 : PySem.W.subIn K (.ref CW) (.type "tuple") = some false
structure TopBl (K : PySem.W.Frag) : Prop where
  zL : PySem.W.nsIn K mainGlobals "len" = some none
  zS : PySem.W.nsIn K mainGlobals "set" = some none
  zT : PySem.W.nsIn K mainGlobals "tuple" = some none
  zD : PySem.W.nsIn K mainGlobals "dict" = some none
  zE : PySem.W.nsIn K mainGlobals "enumerate" = some none
  zZ : PySem.W.nsIn K mainGlobals "zip" = some none
  zX : PySem.W.nsIn K mainGlobals "str" = some none
  zN : PySem.W.nsIn K mainGlobals "int" = some none
  zI : PySem.W.nsIn K mainGlobals "isinstance" = some none
  zB : PySem.W.nsIn K mainGlobals "bool" = some none
  zLi : PySem.W.nsIn K mainGlobals "list" = some none
  zP : PySem.W.nsIn K mainGlobals "repr" = some none
structure TopL (K : PySem.W.Frag) : Prop where
  rest_of : DefE K "rest_of" s_f_rest_of []
  fnought : DefE K "from_nought" s_f_from_nought []
  lunlike : DefE K "_law_unlike" s_f_L_unlike []
  lfar : DefE K "_law_far" s_f_L_far []
  lday : DefE K "_law_day" s_f_L_day []
  lwhole : DefE K "_law_whole" s_f_L_whole []
  lon : DefE K "_law_on" s_f_L_on []
  lfrom_nought : DefE K "_law_from_nought" s_f_L_from_nought []
  lother : DefE K "_law_other" s_f_L_other []
  lnext_day : DefE K "_law_next_day" s_f_L_next_day []
  ldays_right : DefE K "_law_days_right" s_f_L_days_right []
  lfields_right : DefE K "_law_fields_right" s_f_L_fields_right []
  lright : DefE K "_law_right" s_f_L_right []
  law : DefE K "law" s_f_LAW []
section
variable {P : Program} {w : World} {K : PySem.W.Frag} {mg : Str → Option Value} {base h : Heap} {CW : Addr}
theorem all_mk {l : PySem.W.OpenLaw} {fa : Addr} (X : K.In h) (G : h.Ns mainGlobals mg) (hfa : mg "law" = some (.ref fa)) (W : TopW K CW) (Bl : TopBl K) (D : TopB K) (L : TopL K) :
    ∃ fd : FuncData, (∀ (s : Shared) (v : Value), BindsTo s fd ⟨[v], []⟩ [("_law_script", v)]) ∧ ∀ base : Heap, K.In base → base.Ns mainGlobals mg → FnG l.prog w K mg base 8 fa fd ["_law_script"] (conSp (con_law K)) := by
  obtain ⟨f0, d0, a0, F0⟩ := L.law
  have e := hfa.symm.trans (PySem.W.mg_of X G a0)
  cases e
  refine ⟨d0, fun s v => F0.bindsA (ps := ["_law_script"]) (fun _ _ _ _ _ _ us hl => match us, hl with | [_], _ => rfl) s [v] rfl, fun base _ _ => ?_⟩
  have LB : LawB l.prog w K mg base := lawB_of X G D
  have B : BltM mg := ⟨⟨PySem.W.mg_none_of X G Bl.zL, PySem.W.mg_none_of X G Bl.zS, PySem.W.mg_none_of X G Bl.zT, PySem.W.mg_none_of X G Bl.zD, PySem.W.mg_none_of X G Bl.zE, PySem.W.mg_none_of X G Bl.zZ, PySem.W.mg_none_of X G D.zR, PySem.W.mg_none_of X G Bl.zX⟩, PySem.W.mg_none_of X G Bl.zN, PySem.W.mg_none_of X G Bl.zI, PySem.W.mg_none_of X G Bl.zB, PySem.W.mg_none_of X G Bl.zLi, PySem.W.mg_none_of X G Bl.zP⟩
  have BW : BltW mg := B.toBltW
  have hm : mg "Wheel" = some (.ref CW) := PySem.W.mg_of X G W.cls.at_
  obtain ⟨fi, di, ai, ii, Fi⟩ := W.init
  obtain ⟨fl, dl, al, il, Fl⟩ := W.wlen
  obtain ⟨fe, de, ae, ie, Fe⟩ := W.weq
  obtain ⟨fp, dp, ap, ip, Fp⟩ := W.wrep
  obtain ⟨fs, ds, as, is, Fs⟩ := W.wstr
  obtain ⟨fn, dn, an, inn, Fn⟩ := W.on
  obtain ⟨fx, dx, ax, ix, Fx⟩ := W.nxt
  have WT : WhT K CW := ⟨W.cls.ci, W.n1, W.n2⟩
  have m1 : KnC l.prog w K mg base 1 "Wheel" CW [.int 0] (con_WhO CW) := knC_of (ps := ["self", "names", "first"]) 2 0 X G W.cls ai ii Fi (ok_WhO Fi WT BW) (by simp) rfl (fun _ _ _ _ _ _ _ us its l1 l2 => match us, its, l1, l2 with | [_, _], [_], _, _ => ⟨_, rfl, rfl⟩)
  have m2 : KnC l.prog w K mg base 1 "Wheel" CW [] (con_WhO CW) := knC_of (ps := ["self", "names", "first"]) 3 1 X G W.cls ai ii Fi (ok_WhO Fi WT BW) (by simp) rfl (fun _ _ _ _ _ _ _ us its l1 l2 => match us, its, l1, l2 with | [_, _, _], [_], _, _ => ⟨_, rfl, rfl⟩)
  have mw : KnCK l.prog w K mg base 1 "Wheel" CW 0 ["first", "names"] (gvP [0, 2, 1]) (con_WhO CW) := knCK_of (ps := ["self", "names", "first"]) 0 ["first", "names"] (fun a _ z => gvP [0, 2, 1] a z) X G W.cls ai ii Fi (ok_WhO Fi WT BW) (by simp) (fun r1 _ r2 => rel_P [0, 2, 1] r1 r2) (fun _ _ _ _ _ _ _ us its ws l1 l2 l3 => match us, its, ws, l1, l2, l3 with | [_], [_], [_, _], _, _, _ => ⟨_, rfl, rfl⟩)
  have mi : KnCK l.prog w K mg base 1 "Wheel" CW 1 ["first"] (gvP [0, 1, 2]) (con_Wheel_init CW) := knCK_of (ps := ["self", "names", "first"]) 1 ["first"] (fun a _ z => gvP [0, 1, 2] a z) X G W.cls ai ii Fi (ok_Wheel_init Fi WT BW) (by simp) (fun r1 _ r2 => rel_P [0, 1, 2] r1 r2) (fun _ _ _ _ _ _ _ us its ws l1 l2 l3 => match us, its, ws, l1, l2, l3 with | [_, _], [_], [_], _, _, _ => ⟨_, rfl, rfl⟩)
  have Ln : KnO l.prog w K mg base 1 CW "__len__" (con_wlen CW) := ⟨fl, dl, _, al, il, Fl.bindsN (fun _ _ _ _ _ _ us hl => match us, hl with | [_], _ => rfl), ok_wlen Fl WT BW⟩
  have On : KnM l.prog w K mg base 1 CW "name_on" [] (con_on CW) := knM_of W.cls.ci.cl an inn Fn (ok_on Fn WT BW) (fun _ _ _ _ _ _ us hl => match us, hl with | [_, _], _ => rfl)
  have OnK : KnMK l.prog w K mg base 1 CW "name_on" 0 ["day"] (gvP [0, 1]) (con_on CW) := knMK0_of (ps := ["self", "day"]) 0 ["day"] (fun a z => gvP [0, 1] a z) W.cls.ci.cl an inn Fn (ok_on Fn WT BW) (fun r1 r2 => rel_P [0, 1] r1 r2) (fun _ _ _ _ _ _ us ws l1 l2 => match us, ws, l1, l2 with | [_], [_], _, _ => rfl)
  obtain ⟨fr, dr, ar, Fr⟩ := L.rest_of
  have Re : Kn l.prog w K mg base 1 "rest_of" [] (con_rest CW) := kn_of X G ar Fr (ok_rest Fr WT BW) (fun _ _ _ _ _ _ us hl => match us, hl with | [_, _], _ => rfl)
  have Nx : KnM l.prog w K mg base 2 CW "next_named" [] (con_nx CW) := knM_of W.cls.ci.cl ax ix Fx (ok_nx Fx WT BW Re) (fun _ _ _ _ _ _ us hl => match us, hl with | [_, _, _], _ => rfl)
  have NxK : KnMK l.prog w K mg base 2 CW "next_named" 0 ["name", "day"] (gvP [0, 2, 1]) (con_nx CW) := knMK0_of (ps := ["self", "day", "name"]) 0 ["name", "day"] (fun a z => gvP [0, 2, 1] a z) W.cls.ci.cl ax ix Fx (ok_nx Fx WT BW Re) (fun r1 r2 => rel_P [0, 2, 1] r1 r2) (fun _ _ _ _ _ _ us ws l1 l2 => match us, ws, l1, l2 with | [_], [_, _], _, _ => rfl)
  have WM : WhM l.prog w K mg base CW := ⟨On, OnK, Nx, NxK⟩
  have hc : FrgC K CW := ⟨W.fri1, W.fri2, W.frb1, W.frb2, W.frs1, W.frs2, W.frn1, W.frn2, W.frl1, W.frl2, W.frt1, W.frt2⟩
  have Rp : KnOG l.prog w K mg base 1 CW "__repr__" (con_reprW CW) := ⟨fp, dp, _, ap, ip, Fp.bindsN (fun _ _ _ _ _ _ us hl => match us, hl with | [_], _ => rfl), ok_reprW Fp WT B.lst⟩
  obtain ⟨f1, d1, a1, F1⟩ := L.fnought
  have Fo : Kn l.prog w K mg base 2 "from_nought" [] (con_fn CW) := kn_of X G a1 F1 (ok_fn F1 WT BW On) (fun _ _ _ _ _ _ us hl => match us, hl with | [_], _ => rfl)
  obtain ⟨f2, d2, a2, F2⟩ := L.lunlike
  have Un : Kn l.prog w K mg base 2 "_law_unlike" [] con_L_unlike := kn_of X G a2 F2 (ok_L_unlike F2 BW LB.next) (fun _ _ _ _ _ _ us hl => match us, hl with | [_, _], _ => rfl)
  obtain ⟨f3, d3, a3, F3⟩ := L.lfar
  have Fa : Kn l.prog w K mg base 2 "_law_far" [] con_L_far := kn_of X G a3 F3 (ok_L_far F3 LB.next) (fun _ _ _ _ _ _ us hl => match us, hl with | [_], _ => rfl)
  obtain ⟨f4, d4, a4, F4⟩ := L.lday
  have Dy : Kn l.prog w K mg base 2 "_law_day" [] con_L_day := kn_of X G a4 F4 (ok_L_day F4 LB.next) (fun _ _ _ _ _ _ us hl => match us, hl with | [_], _ => rfl)
  obtain ⟨f5, d5, a5, F5⟩ := L.lwhole
  have Wl : Kn l.prog w K mg base 1 "_law_whole" [] con_L_whole := kn_of X G a5 F5 (ok_L_whole F5 B) (fun _ _ _ _ _ _ us hl => match us, hl with | [_], _ => rfl)
  obtain ⟨f6, d6, a6, F6⟩ := L.lon
  have Lo : Kn l.prog w K mg base 1 "_law_on" [] con_L_on := kn_of X G a6 F6 (ok_L_on F6 BW) (fun _ _ _ _ _ _ us hl => match us, hl with | [_, _, _], _ => rfl)
  obtain ⟨f7, d7, a7, F7⟩ := L.lfrom_nought
  have Lf : Kn l.prog w K mg base 2 "_law_from_nought" [] con_L_fn := kn_of X G a7 F7 (ok_L_fn F7 BW Lo) (fun _ _ _ _ _ _ us hl => match us, hl with | [_, _], _ => rfl)
  obtain ⟨f8, d8, a8, F8⟩ := L.lother
  have Ot : Kn l.prog w K mg base 2 "_law_other" [] con_L_oth := kn_of X G a8 F8 (ok_L_oth F8 B LB.next) (fun _ _ _ _ _ _ us hl => match us, hl with | [_, _, _], _ => rfl)
  obtain ⟨f9, d9, a9, F9⟩ := L.lnext_day
  have Nd : Kn l.prog w K mg base 2 "_law_next_day" [] con_L_nd := kn_of X G a9 F9 (ok_L_nd F9 BW Lo) (fun _ _ _ _ _ _ us hl => match us, hl with | [_, _, _, _], _ => rfl)
  obtain ⟨f10, d10, a10, F10⟩ := L.ldays_right
  have Dr : Kn l.prog w K mg base 3 "_law_days_right" [] (con_L_dr CW) := kn_of X G a10 F10 (ok_L_dr F10 B LB.next Dy Lo Nd Wl WM) (fun _ _ _ _ _ _ us hl => match us, hl with | [_, _, _, _], _ => rfl)
  have St : KnO l.prog w K mg base 3 CW "__str__" (con_Wh_str CW) := ⟨fs, ds, _, as, is, Fs.bindsN (fun _ _ _ _ _ _ us hl => match us, hl with | [_], _ => rfl), ok_Wh_str Fs Fo⟩
  have Eq : KnN l.prog w K mg base 3 CW (con_eqW CW) := ⟨⟨fe, de, _, ae, ie, Fe.bindsN (fun _ _ _ _ _ _ us hl => match us, hl with | [_, _], _ => rfl), ok_eqW Fe WT hm B.isi Fo⟩, W.ne, W.so⟩
  have Ef : KnN l.prog w K mg base 3 CW (con_eqF K CW) := ⟨⟨fe, de, _, ae, ie, Fe.bindsN (fun _ _ _ _ _ _ us hl => match us, hl with | [_, _], _ => rfl), ok_eqFW Fe W.k1 W.k2 hm B.isi⟩, W.ne, W.so⟩
  obtain ⟨fq, dq, aq, Fq⟩ := L.lfields_right
  have FR : KnG l.prog w K mg base 6 "_law_fields_right" (con_L_fr CW) := ⟨fq, dq, _, PySem.W.mg_of X G aq, Fq.kp, Fq.bindsN (fun _ _ _ _ _ _ us hl => match us, hl with | [_, _, _], _ => rfl), ok_L_fr Fq WT B Lf Ln St Rp⟩
  have TL : TlW l.prog w K mg base CW := ⟨LB.next, Un, Fa, Ot, Lf, Dr, FR, m1, m2, mw, mi, St, Eq, Ef, hc⟩
  obtain ⟨fr2, dr2, ar2, Fr2⟩ := L.lright
  have Rg : KnG l.prog w K mg base 7 "_law_right" con_L_rt := ⟨fr2, dr2, _, PySem.W.mg_of X G ar2, Fr2.kp, Fr2.bindsN (fun _ _ _ _ _ _ us hl => match us, hl with | [_], _ => rfl), ok_L_right Fr2 B TL⟩
  exact ok_LAW F0 LB Rg
end
end MM

open PySem PySem.W PyProof.Rows
local macro_rules | `(tactic| walk_at "def") => `(tactic| (refine' MM.defE_mk ?a ?l ?c ?k; (case a => k_is); (case l => k_is); (case c => k_is); (case k => k_is)))
local macro_rules | `(tactic| walk_at "met") => `(tactic| (refine' MM.metE_mk ?a ?i ?l ?c ?k; (case a => k_is); (case i => k_is); (case l => k_is); (case c => k_is); (case k => k_is)))
local macro_rules | `(tactic| walk_at "def1") => `(tactic| (refine' MM.defE_mkT ?a ?l ?c ?k ?lT ?hd ?hv; (case a => k_is); (case l => k_is); (case c => k_is); (case k => k_is); (case lT => k_is); (case hd => simp); (case hv => exact .cons ⟨_, rfl⟩ .nil)))
local macro_rules | `(tactic| walk_at "init1") => `(tactic| (refine' MM.metE_mkT ?a ?i ?l ?c ?k ?lT ?hd ?hv; (case a => k_is); (case i => k_is); (case l => k_is); (case c => k_is); (case k => k_is); (case lT => k_is); (case hd => simp); (case hv => exact .cons ⟨_, rfl⟩ .nil)))
local macro_rules | `(tactic| walk_at "defI") => `(tactic| (refine' MM.defE_mkT ?a ?l ?c ?k ?lT ?hd ?hv; (case a => k_is); (case l => k_is); (case c => k_is); (case k => k_is); (case lT => k_is); (case hd => simp); (case hv => exact .cons rfl .nil)))
local macro_rules | `(tactic| walk_at "initB") => `(tactic| (refine' MM.metE_mkT ?a ?i ?l ?c ?k ?lT ?hd ?hv; (case a => k_is); (case i => k_is); (case l => k_is); (case c => k_is); (case k => k_is); (case lT => k_is); (case hd => simp); (case hv => exact .cons rfl .nil)))
local macro_rules | `(tactic| walk_at "init2") => `(tactic| (refine' MM.metE_mkT ?a ?i ?l ?c ?k ?lT ?hd ?hv; (case a => k_is); (case i => k_is); (case l => k_is); (case c => k_is); (case k => k_is); (case lT => k_is); (case hd => simp); (case hv => exact .cons rfl (.cons rfl .nil))))
local macro_rules | `(tactic| walk_at "cls") => `(tactic| (refine' MM.ClsE.mk ?at_ ?pg ?hd ?po ?sa ?ha ?hn ?htk ?hm ?makes ?kp; (case at_ => k_is); (case pg => k_is); (case hd => k_is); (case po => k_is); (case sa => k_is); (case ha => k_is); (case hn => k_is); (case htk => k_is); (case hm => k_is); (case makes => k_is); (case kp => k_is)))
set_option maxHeartbeats 0 in
theorem PySem.Challenge.cw_meanmoon_k61_wheels_holds : PySem.Challenge.rw_meanmoon_k61_wheels.Holds := by
  w_on; o_law; k_head; (case hw => w_witness2)
  k_fill
  refine MM.walk_lawG (k := 8) (l := PySem.Challenge.rw_meanmoon_k61_wheels) rfl rfl ⟨rfl, by decide, by decide⟩ (fun w h Y => PySem.W.kIn_of Y) ?F
  case F =>
    intro w mg fa h KX G hmg
    refine' MM.all_mk KX G hmg ?W ?Bl ?D ?L
    case W =>
      refine' MM.TopW.mk ?cls ?n1 ?n2 ?init ?wlen ?weq ?wrep ?wstr ?on ?nxt ?ne ?so ?k1 ?k2 ?fri1 ?fri2 ?frb1 ?frb2 ?frs1 ?frs2 ?frn1 ?frn2 ?frl1 ?frl2 ?frt1 ?frt2
      case cls => walk_at "cls"
      case n1 => k_is
      case n2 => k_is
      case init => walk_at "init1"
      case wlen => walk_at "met"
      case weq => walk_at "met"
      case wrep => walk_at "met"
      case wstr => walk_at "met"
      case on => walk_at "met"
      case nxt => walk_at "met"
      case ne => k_is
      case so => k_is
      case k1 => k_is
      case k2 => k_is
      case fri1 => k_is
      case fri2 => k_is
      case frb1 => k_is
      case frb2 => k_is
      case frs1 => k_is
      case frs2 => k_is
      case frn1 => k_is
      case frn2 => k_is
      case frl1 => k_is
      case frl2 => k_is
      case frt1 => k_is
      case frt2 => k_is
    case Bl =>
      refine' MM.TopBl.mk ?zL ?zS ?zT ?zD ?zE ?zZ ?zX ?zN ?zI ?zB ?zLi ?zP
      case zL => k_is
      case zS => k_is
      case zT => k_is
      case zD => k_is
      case zE => k_is
      case zZ => k_is
      case zX => k_is
      case zN => k_is
      case zI => k_is
      case zB => k_is
      case zLi => k_is
      case zP => k_is
    case D =>
      refine' MM.TopB.mk ?zR ?draws ?next
      case zR => k_is
      case draws => walk_at "def"
      case next => walk_at "def"
    case L =>
      refine' MM.TopL.mk ?rest_of ?fnought ?lunlike ?lfar ?lday ?lwhole ?lon ?lfrom_nought ?lother ?lnext_day ?ldays_right ?lfields_right ?lright ?law
      case rest_of => walk_at "def"
      case fnought => walk_at "def"
      case lunlike => walk_at "def"
      case lfar => walk_at "def"
      case lday => walk_at "def"
      case lwhole => walk_at "def"
      case lon => walk_at "def"
      case lfrom_nought => walk_at "def"
      case lother => walk_at "def"
      case lnext_day => walk_at "def"
      case ldays_right => walk_at "def"
      case lfields_right => walk_at "def"
      case lright => walk_at "def"
      case law => walk_at "def"

