import PyProof.Rows.All
import Wide.All
import OpenK.AllK
import Wide.FinOn
import HandS.ForSpec
import HandS.ForMost
import HandS.Deep
import HandS.Defaults
import HandS.Lambda
import HandS.TupAny
import HandS.TupMul
import HandS.Style
import KE.DataEq
import KE.DataCmp
import KE.DataIsa
import KE.DataAny
import KE.DataMinMax
import KE.SortData
import HandS.Walk
import HandS.Exc
import HandS.WordsExc
import HandS.ExcCtx
import HandS.ExcOwn
import HandS.Text
import HandS.List
import KE.GoesMore
import HandS.Strs
import HandS.SetFor
import HandS.Conv
import HandS.Zip
import KE.GoesEnum
import HandS.HeadEnd
import HandS.More
import HandS.StrMore
import HandS.HeadHook2
import HandS.HeadHook3
import HandS.HeadHook4
import HandS.FStr
import HandS.HotCalls
import KE.KDictZip
import HandS.Iter
import HandS.ExcIs
import KE.KExcIs
import HandS.ExcField
import HandS.EndTab
import HandS.IsInst
import KE.KRevSl
import KE.KStateDown
import Lean
import HandS.Head0
import HandS.Head1
import HandS.Head2
import HandS.HeadHook1
import PySem.Challenge.RW_atlasturns_k01_atlases_recognized
set_option Elab.async false
set_option linter.all false
set_option maxRecDepth 100000
set_option maxHeartbeats 1000000
/-! A layer of our own over the hand layer: what expressions and statements compute, in plain data. -/
namespace Dl
open PySem L2

/-! ### data at a heap grows -/
theorem seqT {K : PySem.W.Frag} {H H' : Hp} {a : Addr} {xs : List V} (e : Same H H') (h : SqT K H a xs) : SqT K H' a xs := by
  rcases h with (h | ⟨o, h⟩) | h
  · exact .inl (.inl (e _ _ h))
  · exact .inl (.inr ⟨o, e _ _ h⟩)
  · exact .inr h
mutual
theorem Dpm {K : PySem.W.Frag} {H H' : Hp} (e : Same H H') : ∀ {v : V} {d : PyData}, Dp K H v d → Dp K H' v d
  | _, _, .non => .non
  | _, _, .bl b => .bl b
  | _, _, .int i => .int i
  | _, _, .str x => .str x
  | _, _, .lst h r => .lst (e.seq h) (Dpms e r)
  | _, _, .tup h r => .tup (seqT e h) (Dpms e r)
theorem Dpms {K : PySem.W.Frag} {H H' : Hp} (e : Same H H') : ∀ {vs : List V} {ds : List PyData}, DpAll K H vs ds → DpAll K H' vs ds
  | _, _, .nil => .nil
  | _, _, .cons h r => .cons (Dpm e h) (Dpms e r)
end
theorem DpAll.len {K : PySem.W.Frag} {H : Hp} : ∀ {vs : List V} {ds : List PyData}, DpAll K H vs ds → vs.length = ds.length
  | _, _, .nil => rfl
  | _, _, .cons _ r => by rw [List.length_cons, List.length_cons, DpAll.len r]
theorem DpAll.app {K : PySem.W.Frag} {H : Hp} : ∀ {vs ws : List V} {ds es : List PyData}, DpAll K H vs ds → DpAll K H ws es → DpAll K H (vs ++ ws) (ds ++ es)
  | _, _, _, _, .nil, s => s
  | _, _, _, _, .cons h r, s => .cons h (DpAll.app r s)
theorem DpAll.get {K : PySem.W.Frag} {H : Hp} : ∀ {vs : List V} {ds : List PyData} {i : Nat} {d : PyData}, DpAll K H vs ds → ds[i]? = some d → ∃ v, vs[i]? = some v ∧ Dp K H v d
  | _, _, _, _, .nil, e => by simp at e
  | _, _, 0, _, .cons h _, e => ⟨_, rfl, by simp at e; exact e ▸ h⟩
  | _, _, i + 1, d, .cons _ r, e => by
    obtain ⟨v, h1, h2⟩ := DpAll.get (i := i) (d := d) r (by simpa using e)
    exact ⟨v, by simpa using h1, h2⟩
theorem DpAll.get' {K : PySem.W.Frag} {H : Hp} : ∀ {vs : List V} {ds : List PyData} {i : Nat} {v : V}, DpAll K H vs ds → vs[i]? = some v → ∃ d, ds[i]? = some d ∧ Dp K H v d
  | _, _, _, _, .nil, e => by simp at e
  | _, _, 0, _, .cons h _, e => ⟨_, rfl, by simp at e; exact e ▸ h⟩
  | _, _, i + 1, v, .cons _ r, e => by
    obtain ⟨d, h1, h2⟩ := DpAll.get' (i := i) (v := v) r (by simpa using e)
    exact ⟨d, by simpa using h1, h2⟩
theorem DpAll.take {K : PySem.W.Frag} {H : Hp} : ∀ (n : Nat) {vs : List V} {ds : List PyData}, DpAll K H vs ds → DpAll K H (vs.take n) (ds.take n)
  | 0, _, _, _ => .nil
  | _ + 1, _, _, .nil => .nil
  | n + 1, _, _, .cons h r => .cons h (DpAll.take n r)
theorem DpAll.drop {K : PySem.W.Frag} {H : Hp} : ∀ (n : Nat) {vs : List V} {ds : List PyData}, DpAll K H vs ds → DpAll K H (vs.drop n) (ds.drop n)
  | 0, _, _, r => r
  | _ + 1, _, _, .nil => .nil
  | n + 1, _, _, .cons _ r => DpAll.drop n r
theorem DpAll.set {K : PySem.W.Frag} {H : Hp} {v : V} {d : PyData} (q : Dp K H v d) : ∀ (i : Nat) {vs : List V} {ds : List PyData}, DpAll K H vs ds → DpAll K H (vs.set i v) (ds.set i d)
  | _, _, _, .nil => .nil
  | 0, _, _, .cons _ r => .cons q r
  | i + 1, _, _, .cons h r => .cons h (DpAll.set q i r)
theorem DpAll.erase {K : PySem.W.Frag} {H : Hp} : ∀ (i : Nat) {vs : List V} {ds : List PyData}, DpAll K H vs ds → DpAll K H (vs.eraseIdx i) (ds.eraseIdx i)
  | _, _, _, .nil => .nil
  | 0, _, _, .cons _ r => r
  | i + 1, _, _, .cons h r => .cons h (DpAll.erase i r)
theorem DpAll.rev {K : PySem.W.Frag} {H : Hp} : ∀ {vs : List V} {ds : List PyData}, DpAll K H vs ds → DpAll K H vs.reverse ds.reverse
  | _, _, .nil => .nil
  | _, _, .cons h r => by
    rw [List.reverse_cons, List.reverse_cons]
    exact DpAll.app (DpAll.rev r) (.cons h .nil)
theorem DpAll.one {K : PySem.W.Frag} {H : Hp} {v : V} {d : PyData} (h : Dp K H v d) : DpAll K H [v] [d] := .cons h .nil
theorem same_upd {H : Hp} {p : Addr} {o : HO} (h : H p = none) : Same H (upd H p o) := fun b x e => by
  rw [upd_ne (ne_of_none e h)]
  exact e
theorem same_both {G H : Hp} {p : Addr} {o : HO} (h : Same G H) : Same (upd G p o) (upd H p o) := fun b x e => by
  by_cases hb : b = p
  · subst hb
    rw [upd_same] at e ⊢
    exact e
  · rw [upd_ne hb] at e ⊢
    exact h b x e

/-! ### slots, states, results -/
/-- what a name of the def holds: nothing that is known; shared data; a list of the def's own (b: it was handed in) -/
inductive Slot where
  | non
  | sh (d : PyData)
  | own (b : Bool) (ds : List PyData)
  | raw (v : V)
abbrev Rho := List Slot
structure Exn where
  cls : Str
  fld : Option (Str × Int)
inductive Rs (α : Type) where
  | ok (a : α) (ρ : Rho)
  | ex (e : Exn)
  | bad
def Rs.andThen {α β : Type} (x : Rs α) (k : α → Rho → Rs β) : Rs β := match x with
  | .ok a ρ => k a ρ
  | .ex e => .ex e
  | .bad => .bad
/-- where a body begins: the shared part, the heap, the lists that were handed in (slot, address) -/
structure Bs where
  G0 : Hp
  H0 : Hp
  P0 : Nat → Addr → Prop
  /-- the tables of code objects that lambdas grow, with the names told there -/
  T : List (Addr × Str)
/-- the tables stand, out of the shared part -/
def TabOk (B : Bs) (G H : Hp) : Prop := ∀ p ∈ B.T, LamX.TabS H p.1 p.2 ∧ G p.1 = none ∧ ∃ j, B.P0 j p.1
def SlotAt (K : PySem.W.Frag) (B : Bs) (G H : Hp) (i : Nat) (o : Option (Option V)) : Slot → Prop
  | .non => True
  | .sh d => ∃ v, o = some (some v) ∧ Dp K G v d
  | .own b ds => ∃ p vs, o = some (some (V.ref p)) ∧ G p = none ∧ H p = some (.lst vs) ∧ DpAll K G vs ds ∧ (if b = true then B.P0 i p else B.H0 p = none)
  | .raw v => o = some (some v)
def OwnAt (ρ : Rho) (σ : St) (i : Nat) (p : Addr) : Prop := ∃ b ds, ρ[i]? = some (.own b ds) ∧ σ[i]? = some (some (V.ref p))
structure EnvAt (K : PySem.W.Frag) (B : Bs) (G H : Hp) (σ : St) (ρ : Rho) : Prop where
  len : σ.length = ρ.length
  gg : Same B.G0 G
  gh : Same G H
  fr : ∀ b o, B.H0 b = some o → (∀ i, ¬ B.P0 i b) → H b = some o
  nw : ∀ b, B.H0 b ≠ none → B.G0 b = none → G b = none
  lv : ∀ i p, B.P0 i p → H p ≠ none
  sl : ∀ i s, ρ[i]? = some s → SlotAt K B G H i σ[i]? s
  ap : ∀ i j p, OwnAt ρ σ i p → OwnAt ρ σ j p → i = j
  tb : TabOk B G H
/-- the heaps grow by objects that nobody had -/
structure Ext (G H G' H' : Hp) : Prop where
  g : Same G G'
  h : Same H H'
  gh : Same G' H'
  nw : ∀ b, H b ≠ none → G b = none → G' b = none
theorem Ext.refl {G H : Hp} (h : Same G H) : Ext G H G H := ⟨Same.refl _, Same.refl _, h, fun _ _ e => e⟩
theorem Ext.trans {G H G1 H1 G2 H2 : Hp} (a : Ext G H G1 H1) (b : Ext G1 H1 G2 H2) : Ext G H G2 H2 :=
  ⟨a.g.trans b.g, a.h.trans b.h, b.gh, fun c h1 h2 => b.nw c (fun z => by
    cases e : H c with
    | none => exact h1 e
    | some o => rw [a.h c o e] at z; cases z) (a.nw c h1 h2)⟩
theorem Ext.new {G H : Hp} {p : Addr} {o : HO} (h : Same G H) (hp : H p = none) : Ext G H (upd G p o) (upd H p o) :=
  ⟨same_upd (h.free hp), same_upd hp, same_both h, fun b h1 h2 => by
    have : b ≠ p := fun e => h1 (e ▸ hp)
    rw [upd_ne this]
    exact h2⟩
/-- the heap alone grows -/
theorem Ext.heap {G H H' : Hp} (h : Same G H) (e : Same H H') : Ext G H G H' := ⟨Same.refl _, e, h.trans e, fun _ _ z => z⟩
section
variable {K : PySem.W.Frag} {B : Bs} {G H G' H' : Hp} {σ : St} {ρ : Rho}
theorem some_ne {H : Hp} {b : Addr} {o : HO} (h : H b = some o) : H b ≠ none := fun z => by rw [h] at z; cases z
theorem ne_some {H : Hp} {b : Addr} (h : H b ≠ none) : ∃ o, H b = some o := by
  cases e : H b with
  | none => exact absurd e h
  | some o => exact ⟨o, rfl⟩
theorem tab_ne {P : Addr} {q : Str} (t : LamX.TabS H P q) : H P ≠ none := by
  obtain ⟨ps, h, _⟩ := t
  exact some_ne h
theorem tab_upd {P p : Addr} {q : Str} {vs : List V} {o : HO} (t : LamX.TabS H P q) (h : H p = some (.lst vs)) : P ≠ p ∧ LamX.TabS (upd H p o) P q := by
  obtain ⟨ps, h1, h2, h3⟩ := t
  have ne : P ≠ p := fun z => by rw [z, h] at h1; cases h1
  refine ⟨ne, ps, by rw [upd_ne ne]; exact h1, h2, fun pos cv hc => ?_⟩
  obtain ⟨c, e1, e2⟩ := h3 pos cv hc
  refine ⟨c, e1, ?_⟩
  rw [upd_ne]
  · exact e2
  · intro z
    rw [z, h] at e2
    cases e2
theorem tab_but {P p : Addr} {q : Str} {vs : List V} (t : LamX.TabS H P q) (h : H p = some (.lst vs)) (x : ∀ b o, b ≠ p → H b = some o → H' b = some o) : LamX.TabS H' P q := by
  obtain ⟨ps, h1, h2, h3⟩ := t
  refine ⟨ps, x P _ (fun z => by rw [z, h] at h1; cases h1) h1, h2, fun pos cv hc => ?_⟩
  obtain ⟨c, e1, e2⟩ := h3 pos cv hc
  exact ⟨c, e1, x c _ (fun z => by rw [z, h] at e2; cases e2) e2⟩
theorem TabOk.ext (t : TabOk B G H) (x : Ext G H G' H') : TabOk B G' H' := fun p hp => by
  obtain ⟨h1, h2, h3⟩ := t p hp
  exact ⟨h1.ext x.h, x.nw _ (tab_ne h1) h2, h3⟩
theorem TabOk.put {p : Addr} {vs : List V} {o : HO} (t : TabOk B G H) (h : H p = some (.lst vs)) : TabOk B G (upd H p o) := fun q hq => by
  obtain ⟨h1, h2, h3⟩ := t q hq
  exact ⟨(tab_upd h1 h).2, h2, h3⟩
theorem TabOk.frz {p : Addr} {vs : List V} {o : HO} (t : TabOk B G H) (h : H p = some (.lst vs)) : TabOk B (upd G p o) H := fun q hq => by
  obtain ⟨h1, h2, h3⟩ := t q hq
  exact ⟨h1, by rw [upd_ne (tab_upd (o := o) h1 h).1]; exact h2, h3⟩
theorem EnvAt.live (e : EnvAt K B G H σ ρ) {b : Addr} (h : B.H0 b ≠ none) : H b ≠ none := by
  by_cases hb : ∃ i, B.P0 i b
  · obtain ⟨i, hi⟩ := hb
    exact e.lv i b hi
  · obtain ⟨o, ho⟩ := ne_some h
    exact some_ne (e.fr b o ho fun i hi => hb ⟨i, hi⟩)
theorem EnvAt.fresh (e : EnvAt K B G H σ ρ) {b : Addr} (h : H b = none) : B.H0 b = none := by
  cases q : B.H0 b with
  | none => rfl
  | some o => exact absurd h (e.live (some_ne q))
theorem EnvAt.ext (e : EnvAt K B G H σ ρ) (x : Ext G H G' H') : EnvAt K B G' H' σ ρ := by
  refine ⟨e.len, e.gg.trans x.g, x.gh, fun b o h1 h2 => x.h b o (e.fr b o h1 h2), fun b h1 h2 => x.nw b (e.live h1) (e.nw b h1 h2), fun i p h z => ?_, fun i s h => ?_, e.ap, e.tb.ext x⟩
  · obtain ⟨o, ho⟩ := ne_some (e.lv i p h)
    rw [x.h p o ho] at z
    cases z
  · have q := e.sl i s h
    cases s with
    | non => trivial
    | sh d =>
      obtain ⟨v, h1, h2⟩ := q
      exact ⟨v, h1, Dpm x.g h2⟩
    | own b ds =>
      obtain ⟨p, vs, h1, h2, h3, h4, h5⟩ := q
      exact ⟨p, vs, h1, x.nw p (some_ne h3) h2, x.h p _ h3, Dpms x.g h4, h5⟩
    | raw v => exact q
theorem EnvAt.shv (e : EnvAt K B G H σ ρ) {i : Nat} {d : PyData} (h : ρ[i]? = some (.sh d)) : ∃ v, σ[i]? = some (some v) ∧ Dp K G v d := e.sl i _ h
theorem EnvAt.ownv (e : EnvAt K B G H σ ρ) {i : Nat} {b : Bool} {ds : List PyData} (h : ρ[i]? = some (.own b ds)) :
    ∃ p vs, σ[i]? = some (some (V.ref p)) ∧ G p = none ∧ H p = some (.lst vs) ∧ DpAll K G vs ds ∧ (if b = true then B.P0 i p else B.H0 p = none) := e.sl i _ h
/-- a name gets shared data -/
theorem EnvAt.set (e : EnvAt K B G H σ ρ) {i : Nat} {v : V} {d : PyData} (h : Dp K G v d) : EnvAt K B G H (σ.set i (some v)) (ρ.set i (.sh d)) := by
  have hl := e.len
  refine ⟨by rw [List.length_set, List.length_set, hl], e.gg, e.gh, e.fr, e.nw, e.lv, fun j s q => ?_, fun j k p q1 q2 => ?_, e.tb⟩
  · by_cases hj : i = j
    · subst hj
      by_cases hi : i < ρ.length
      · rw [List.getElem?_set_self hi] at q
        cases q
        exact ⟨v, by rw [List.getElem?_set_self (by omega)], h⟩
      · rw [List.getElem?_eq_none (by rw [List.length_set]; omega)] at q
        cases q
    · rw [List.getElem?_set_ne hj] at q ⊢
      exact e.sl j s q
  · have aux : ∀ j p, OwnAt (ρ.set i (.sh d)) (σ.set i (some v)) j p → OwnAt ρ σ j p := fun j p ⟨b, ds, h1, h2⟩ => by
      by_cases hj : i = j
      · subst hj
        by_cases hi : i < ρ.length
        · rw [List.getElem?_set_self hi] at h1
          cases h1
        · rw [List.getElem?_eq_none (by rw [List.length_set]; omega)] at h1
          cases h1
      · rw [List.getElem?_set_ne hj] at h1 h2
        exact ⟨b, ds, h1, h2⟩
    exact e.ap j k p (aux j p q1) (aux k p q2)
/-- a name gets a list of one's own -/
theorem EnvAt.setOwn (e : EnvAt K B G H σ ρ) {i : Nat} {p : Addr} {vs : List V} {ds : List PyData} (h1 : G p = none) (h2 : H p = some (.lst vs)) (h3 : DpAll K G vs ds) (h4 : B.H0 p = none)
    (h5 : ∀ j, ¬ OwnAt ρ σ j p) : EnvAt K B G H (σ.set i (some (V.ref p))) (ρ.set i (.own false ds)) := by
  have hl := e.len
  refine ⟨by rw [List.length_set, List.length_set, hl], e.gg, e.gh, e.fr, e.nw, e.lv, fun j s q => ?_, fun j k q q1 q2 => ?_, e.tb⟩
  · by_cases hj : i = j
    · subst hj
      by_cases hi : i < ρ.length
      · rw [List.getElem?_set_self hi] at q
        cases q
        exact ⟨p, vs, by rw [List.getElem?_set_self (by omega)], h1, h2, h3, h4⟩
      · rw [List.getElem?_eq_none (by rw [List.length_set]; omega)] at q
        cases q
    · rw [List.getElem?_set_ne hj] at q ⊢
      exact e.sl j s q
  · have aux : ∀ j q, OwnAt (ρ.set i (.own false ds)) (σ.set i (some (V.ref p))) j q → (j = i ∧ q = p) ∨ (j ≠ i ∧ OwnAt ρ σ j q) := fun j q ⟨b, es, e1, e2⟩ => by
      by_cases hj : i = j
      · subst hj
        by_cases hi : i < ρ.length
        · rw [List.getElem?_set_self (by omega)] at e2
          cases e2
          exact .inl ⟨rfl, rfl⟩
        · rw [List.getElem?_eq_none (by rw [List.length_set]; omega)] at e1
          cases e1
      · rw [List.getElem?_set_ne hj] at e1 e2
        exact .inr ⟨fun z => hj z.symm, b, es, e1, e2⟩
    rcases aux j q q1 with ⟨a1, a2⟩ | ⟨a1, a2⟩
    · rcases aux k q q2 with ⟨b1, b2⟩ | ⟨b1, b2⟩
      · rw [a1, b1]
      · rw [a2] at b2
        exact absurd b2 (h5 k)
    · rcases aux k q q2 with ⟨b1, b2⟩ | ⟨b1, b2⟩
      · rw [b2] at a2
        exact absurd a2 (h5 j)
      · exact e.ap j k q a2 b2
/-- a list of one's own changes -/
theorem EnvAt.chg (e : EnvAt K B G H σ ρ) {i : Nat} {b : Bool} {ds es : List PyData} {p : Addr} {ws : List V} (h : ρ[i]? = some (.own b ds)) (hp : σ[i]? = some (some (V.ref p))) (hw : DpAll K G ws es) :
    EnvAt K B G (upd H p (.lst ws)) σ (ρ.set i (.own b es)) := by
  obtain ⟨p', vs, h1, h2, h3, h4, h5⟩ := e.ownv h
  rw [hp] at h1
  cases h1
  have hi : i < ρ.length := (List.getElem?_eq_some_iff.mp h).1
  have aux : ∀ j q, OwnAt (ρ.set i (.own b es)) σ j q → OwnAt ρ σ j q := fun j q ⟨c, fs, e1, e2⟩ => by
    by_cases hj : i = j
    · subst hj
      exact ⟨b, ds, h, e2⟩
    · rw [List.getElem?_set_ne hj] at e1
      exact ⟨c, fs, e1, e2⟩
  have nG : ∀ c o, G c = some o → c ≠ p := fun c o q z => by rw [z, h2] at q; cases q
  refine ⟨by rw [List.length_set]; exact e.len, e.gg, fun c o q => by rw [upd_ne (nG c o q)]; exact e.gh c o q, fun c o q1 q2 => ?_, e.nw, fun j c q => ?_, fun j s q => ?_, fun j k q q1 q2 => e.ap j k q (aux j q q1) (aux k q q2), e.tb.put h3⟩
  · have : c ≠ p := fun z => by
      subst z
      cases b with
      | true => exact q2 i h5
      | false =>
        have h5 : B.H0 c = none := h5
        rw [h5] at q1
        cases q1
    rw [upd_ne this]
    exact e.fr c o q1 q2
  · by_cases hc : c = p
    · subst hc
      rw [upd_same]
      exact fun z => nomatch z
    · rw [upd_ne hc]
      exact e.lv j c q
  · by_cases hj : i = j
    · subst hj
      rw [List.getElem?_set_self hi] at q
      cases q
      exact ⟨p, ws, hp, h2, upd_same, hw, h5⟩
    · rw [List.getElem?_set_ne hj] at q
      have z := e.sl j s q
      cases s with
      | non => trivial
      | sh d => exact z
      | raw v => exact z
      | own c fs =>
        obtain ⟨r, us, z1, z2, z3, z4, z5⟩ := z
        have : r ≠ p := fun y => by
          subst y
          exact hj (e.ap i j r ⟨b, ds, h, hp⟩ ⟨c, fs, q, z1⟩)
        exact ⟨r, us, z1, z2, by rw [upd_ne this]; exact z3, z4, z5⟩
/-- a name's content is forgotten -/
theorem EnvAt.forget (e : EnvAt K B G H σ ρ) {i : Nat} : EnvAt K B G H σ (ρ.set i .non) := by
  have hl := e.len
  refine ⟨by rw [List.length_set, hl], e.gg, e.gh, e.fr, e.nw, e.lv, fun j s q => ?_, fun j k p q1 q2 => ?_, e.tb⟩
  · by_cases hj : i = j
    · subst hj
      by_cases hi : i < ρ.length
      · rw [List.getElem?_set_self hi] at q
        cases q
        trivial
      · rw [List.getElem?_eq_none (by rw [List.length_set]; omega)] at q
        cases q
    · rw [List.getElem?_set_ne hj] at q
      exact e.sl j s q
  · have aux : ∀ j p, OwnAt (ρ.set i .non) σ j p → OwnAt ρ σ j p := fun j p ⟨b, ds, h1, h2⟩ => by
      by_cases hj : i = j
      · subst hj
        by_cases hi : i < ρ.length
        · rw [List.getElem?_set_self hi] at h1
          cases h1
        · rw [List.getElem?_eq_none (by rw [List.length_set]; omega)] at h1
          cases h1
      · rw [List.getElem?_set_ne hj] at h1
        exact ⟨b, ds, h1, h2⟩
    exact e.ap j k p (aux j p q1) (aux k p q2)
/-- a fresh list becomes shared -/
theorem EnvAt.freeze (e : EnvAt K B G H σ ρ) {p : Addr} {vs : List V} {ds : List PyData} (h1 : G p = none) (h2 : H p = some (.lst vs)) (h3 : DpAll K G vs ds) (h4 : B.H0 p = none)
    (h5 : ∀ j, ¬ OwnAt ρ σ j p) : EnvAt K B (upd G p (.lst vs)) H σ ρ ∧ Same G (upd G p (.lst vs)) ∧ Dp K (upd G p (.lst vs)) (.ref p) (.list ds) := by
  have sg : Same G (upd G p (.lst vs)) := same_upd h1
  refine ⟨⟨e.len, e.gg.trans sg, fun b o q => ?_, e.fr, fun b q1 q2 => ?_, e.lv, fun j s q => ?_, e.ap, e.tb.frz h2⟩, sg, .lst (.of upd_same) (Dpms sg h3)⟩
  · by_cases hb : b = p
    · subst hb
      rw [upd_same] at q
      cases q
      exact h2
    · rw [upd_ne hb] at q
      exact e.gh b o q
  · have : b ≠ p := fun z => q1 (z ▸ h4)
    rw [upd_ne this]
    exact e.nw b q1 q2
  · have z := e.sl j s q
    cases s with
    | non => trivial
    | raw v => exact z
    | sh d =>
      obtain ⟨v, z1, z2⟩ := z
      exact ⟨v, z1, Dpm sg z2⟩
    | own c fs =>
      obtain ⟨r, us, z1, z2, z3, z4, z5⟩ := z
      have : r ≠ p := fun y => h5 j ⟨c, fs, q, y ▸ z1⟩
      exact ⟨r, us, z1, by rw [upd_ne this]; exact z2, z3, Dpms sg z4, z5⟩
/-- the list of one's own at slot i becomes shared -/
theorem EnvAt.share (e : EnvAt K B G H σ ρ) {i : Nat} {ds : List PyData} {p : Addr} (h : ρ[i]? = some (.own false ds)) (hp : σ[i]? = some (some (V.ref p))) :
    ∃ G', EnvAt K B G' H σ (ρ.set i (.sh (.list ds))) ∧ Same G G' ∧ Dp K G' (.ref p) (.list ds) := by
  obtain ⟨p', vs, h1, h2, h3, h4, h5⟩ := e.ownv h
  rw [hp] at h1
  cases h1
  have hi : i < ρ.length := (List.getElem?_eq_some_iff.mp h).1
  have e1 := (e.forget (i := i)).freeze h2 h3 h4 h5 (fun j ⟨c, fs, q1, q2⟩ => by
    by_cases hj : i = j
    · subst hj
      rw [List.getElem?_set_self hi] at q1
      cases q1
    · rw [List.getElem?_set_ne hj] at q1
      exact hj (e.ap i j p ⟨_, ds, h, hp⟩ ⟨c, fs, q1, q2⟩))
  obtain ⟨e2, s, d⟩ := e1
  refine ⟨_, ?_, s, d⟩
  have e3 := e2.set (i := i) d
  have hσ : σ.set i (some (V.ref p)) = σ := List.ext_getElem? fun j => by
    by_cases hj : i = j
    · subst hj
      rw [List.getElem?_set_self (by rw [e.len]; exact hi), hp]
    · rw [List.getElem?_set_ne hj]
  rw [hσ, List.set_set] at e3
  exact e3
end
end Dl

set_option Elab.async false
set_option linter.all false
set_option maxRecDepth 100000
set_option maxHeartbeats 1000000
namespace Dl
open PySem L2

/-! ### what is wanted behind an evaluation -/
def ExAt (mg : Str → Option Value) (e : Exn) (u : Value) (dx : Option Addr) (H : Hp) : Prop :=
  ∃ C, u = Value.ref C ∧ mg e.cls = some (Value.ref C) ∧ match e.fld with
    | none => dx = none
    | some (f, i) => ∃ a, dx = some a ∧ H a = some (.xd [(f, .int i)])
def FrB (B : Bs) (H : Hp) : Prop := ∀ b o, B.H0 b = some o → (∀ i, ¬ B.P0 i b) → H b = some o
def Wex (mg : Str → Option Value) (B : Bs) (E : XK) (e : Exn) : Prop := ∀ H u dx, FrB B H → ExAt mg e u dx H → E u dx H
def Want {α : Type} (mg : Str → Option Value) (B : Bs) (E : XK) (r : Rs α) (k : α → Rho → Prop) : Prop := match r with
  | .ok a ρ => k a ρ
  | .ex e => Wex mg B E e
  | .bad => False
section
variable {α β : Type} {mg : Str → Option Value} {B : Bs} {E : XK}
theorem Want.andThen {x : Rs α} {k : α → Rho → Rs β} {R : β → Rho → Prop} (h : Want mg B E (x.andThen k) R) : Want mg B E x fun a ρ => Want mg B E (k a ρ) R := by
  cases x <;> exact h
theorem Want.mono {x : Rs α} {R R' : α → Rho → Prop} (h : Want mg B E x R) (f : ∀ a ρ, x = .ok a ρ → R a ρ → R' a ρ) : Want mg B E x R' := by
  cases x with
  | ok a ρ => exact f a ρ rfl h
  | ex e => exact h
  | bad => exact h
end
/-- an end of an expression -/
abbrev KE' (K : PySem.W.Frag) (B : Bs) (G : Hp) (σ : L2.St) (Q : VK) : PyData → Rho → Prop := fun d ρ' => ∀ G' H' v, Same G G' → EnvAt K B G' H' σ ρ' → Dp K G' v d → Q v H'
abbrev KT' (K : PySem.W.Frag) (B : Bs) (G : Hp) (σ : L2.St) (Q : Bool → Hp → Prop) : Bool → Rho → Prop := fun b ρ' => ∀ G' H', Same G G' → EnvAt K B G' H' σ ρ' → Q b H'
abbrev KA' (K : PySem.W.Frag) (B : Bs) (G : Hp) (σ : L2.St) (Q : List V → Hp → Prop) : List PyData → Rho → Prop := fun ds ρ' => ∀ G' H' vs, Same G G' → EnvAt K B G' H' σ ρ' → DpAll K G' vs ds → Q vs H'
/-- a list that nobody else has -/
abbrev KO' (K : PySem.W.Frag) (B : Bs) (G : Hp) (σ : L2.St) (Q : VK) : List PyData → Rho → Prop := fun ds ρ' => ∀ G' H' p vs, Same G G' → EnvAt K B G' H' σ ρ' → G' p = none → H' p = some (.lst vs) → DpAll K G' vs ds → B.H0 p = none → (∀ j, ¬ OwnAt ρ' σ j p) → (∀ j, ¬ B.P0 j p) → Q (V.ref p) H'

def PD (X : Cx) (E : XK) (e : Expr) (f : Rho → Rs PyData) : Prop := ∃ t, PE X e t ∧ ∀ B G H σ ρ Q, EnvAt X.K B G H σ ρ → Want X.mg B E (f ρ) (KE' X.K B G σ Q) → t σ H Q
def PDT (X : Cx) (E : XK) (e : Expr) (f : Rho → Rs Bool) : Prop := ∃ t, PT X e t ∧ ∀ B G H σ ρ Q, EnvAt X.K B G H σ ρ → Want X.mg B E (f ρ) (KT' X.K B G σ Q) → t σ H Q
def PDW (X : Cx) (E : XK) (e : Expr) (f : Rho → Rs Bool) : Prop := ∃ t, PW X e t ∧ ∀ B G H σ ρ Q, EnvAt X.K B G H σ ρ → Want X.mg B E (f ρ) (KT' X.K B G σ Q) → t σ H Q
def PDA (X : Cx) (E : XK) (es : List Expr) (f : Rho → Rs (List PyData)) : Prop := (∃ t, PA X es t ∧ ∀ B G H σ ρ Q, EnvAt X.K B G H σ ρ → Want X.mg B E (f ρ) (KA' X.K B G σ Q) → t σ H Q) ∧ ∀ ρ ds ρ', f ρ = .ok ds ρ' → ds.length = es.length
def PDO (X : Cx) (E : XK) (e : Expr) (f : Rho → Rs (List PyData)) : Prop := ∃ t, PE X e t ∧ ∀ B G H σ ρ Q, EnvAt X.K B G H σ ρ → Want X.mg B E (f ρ) (KO' X.K B G σ Q) → t σ H Q

/-! ### the functions -/
def opt {α : Type} (o : Option α) (ρ : Rho) : Rs α := match o with
  | some d => .ok d ρ
  | none => .bad
def eC (d : PyData) : Rho → Rs PyData := fun ρ => .ok d ρ
def eV (i : Nat) : Rho → Rs PyData := fun ρ => match ρ[i]? with
  | some (.sh d) => .ok d ρ
  | some (.own false ds) => .ok (.list ds) (ρ.set i (.sh (.list ds)))
  | _ => .bad
def eBin (p : PyData → PyData → Option PyData) (fa fb : Rho → Rs PyData) : Rho → Rs PyData := fun ρ => (fa ρ).andThen fun a ρ => (fb ρ).andThen fun b ρ => opt (p a b) ρ
def eUn (p : PyData → Option PyData) (fa : Rho → Rs PyData) : Rho → Rs PyData := fun ρ => (fa ρ).andThen fun a ρ => opt (p a) ρ
def isB : PyData → Option Bool
  | .bool b => some b
  | _ => none
def eT (fa : Rho → Rs PyData) : Rho → Rs Bool := fun ρ => (fa ρ).andThen fun a ρ => opt (isB a) ρ
def eAnd (ta tb : Rho → Rs Bool) : Rho → Rs Bool := fun ρ => (ta ρ).andThen fun b ρ => if b = true then tb ρ else .ok false ρ
def eOr (ta tb : Rho → Rs Bool) : Rho → Rs Bool := fun ρ => (ta ρ).andThen fun b ρ => if b = true then .ok true ρ else tb ρ
def eNot (ta : Rho → Rs Bool) : Rho → Rs Bool := fun ρ => (ta ρ).andThen fun b ρ => .ok (!b) ρ
def eAndV (fa fb : Rho → Rs PyData) : Rho → Rs PyData := fun ρ => (eT fa ρ).andThen fun b ρ => if b = true then fb ρ else .ok (.bool false) ρ
def eOrV (fa fb : Rho → Rs PyData) : Rho → Rs PyData := fun ρ => (eT fa ρ).andThen fun b ρ => if b = true then .ok (.bool true) ρ else fb ρ
def eNotV (fa : Rho → Rs PyData) : Rho → Rs PyData := fun ρ => (eT fa ρ).andThen fun b ρ => .ok (.bool (!b)) ρ
def eIf (t : Rho → Rs Bool) (fa fb : Rho → Rs PyData) : Rho → Rs PyData := fun ρ => (t ρ).andThen fun b ρ => if b = true then fa ρ else fb ρ
def eChain (p q : PyData → PyData → Option PyData) (fa fb fc : Rho → Rs PyData) : Rho → Rs PyData := fun ρ => (fa ρ).andThen fun a ρ => (fb ρ).andThen fun b ρ =>
  (opt ((p a b).bind isB) ρ).andThen fun k ρ => if k = true then (fc ρ).andThen fun c ρ => opt (q b c) ρ else .ok (.bool false) ρ
def eNil : Rho → Rs (List PyData) := fun ρ => .ok [] ρ
def eCons (fa : Rho → Rs PyData) (fr : Rho → Rs (List PyData)) : Rho → Rs (List PyData) := fun ρ => (fa ρ).andThen fun a ρ => (fr ρ).andThen fun r ρ => .ok (a :: r) ρ
def eTup (f : Rho → Rs (List PyData)) : Rho → Rs PyData := fun ρ => (f ρ).andThen fun ds ρ => .ok (.tuple ds) ρ
def eLst (f : Rho → Rs (List PyData)) : Rho → Rs PyData := fun ρ => (f ρ).andThen fun ds ρ => .ok (.list ds) ρ
def eCall (p : List PyData → Option PyData) (f : Rho → Rs (List PyData)) : Rho → Rs PyData := fun ρ => (f ρ).andThen fun ds ρ => opt (p ds) ρ
def eCallO (p : List PyData → Option (List PyData)) (f : Rho → Rs (List PyData)) : Rho → Rs (List PyData) := fun ρ => (f ρ).andThen fun ds ρ => opt (p ds) ρ

/-! ### what a built-in operation does to data -/
def Q2 (K : PySem.W.Frag) (p : PyData → PyData → Option PyData) : R2 := fun x y H Q => ∃ G a b d, Same G H ∧ Dp K G x a ∧ Dp K G y b ∧ p a b = some d ∧ ∀ G' H' v, Ext G H G' H' → Dp K G' v d → Q v H'
def Q1 (K : PySem.W.Frag) (p : PyData → Option PyData) : V → Hp → VK → Prop := fun x H Q => ∃ G a d, Same G H ∧ Dp K G x a ∧ p a = some d ∧ ∀ G' H' v, Ext G H G' H' → Dp K G' v d → Q v H'
def QL (K : PySem.W.Frag) (p : List PyData → Option PyData) : List V → Hp → VK → Prop := fun xs H Q => ∃ G as d, Same G H ∧ DpAll K G xs as ∧ p as = some d ∧ ∀ G' H' v, Ext G H G' H' → Dp K G' v d → Q v H'
/-- a new list -/
def QO (K : PySem.W.Frag) (p : List PyData → Option (List PyData)) : List V → Hp → VK → Prop := fun xs H Q => ∃ G as ds, Same G H ∧ DpAll K G xs as ∧ p as = some ds ∧
  ∀ G' H' q vs, Ext G H G' H' → H q = none → G' q = none → H' q = some (.lst vs) → DpAll K G' vs ds → Q (V.ref q) H'
abbrev P2 (X : Cx) (f : Value → Value → Sem Value) (p : PyData → PyData → Option PyData) : Prop := OpR X f (Q2 X.K p)
abbrev P1 (X : Cx) (f : Value → Sem Value) (p : PyData → Option PyData) : Prop := UnR X f (Q1 X.K p)
abbrev PL (X : Cx) (f : Value) (p : List PyData → Option PyData) : Prop := CallR X f (QL X.K p)
abbrev PO' (X : Cx) (f : Value) (p : List PyData → Option (List PyData)) : Prop := CallR X f (QO X.K p)

/-! ### expressions -/
section
variable {X : Cx} {E : XK} {pos : Pos} {e a b c : Expr} {es rest : List Expr} {fa fb fc : Rho → Rs PyData} {ta tb : Rho → Rs Bool} {fs fr : Rho → Rs (List PyData)}
theorem ext_end {K : PySem.W.Frag} {mg : Str → Option Value} {B : Bs} {G G1 H1 : Hp} {σ : L2.St} {ρ : Rho} {Q : VK} {d : PyData} (hs : Same G G1) (e : EnvAt K B G1 H1 σ ρ) (h : KE' K B G σ Q d ρ) : ∀ G' H' v, Ext G1 H1 G' H' → Dp K G' v d → Q v H' :=
  fun G' H' v x y => h G' H' v (hs.trans x.g) (e.ext x) y
theorem pd_c {v : V} {d : PyData} (h : PE X e (tC v)) (hd : ∀ K G, Dp K G v d) : PD X E e (eC d) :=
  ⟨_, h, fun B G H σ ρ Q en w => w G H v (Same.refl _) en (hd _ _)⟩
theorem pd_int {i : Int} {j} : PD X E (.Constant (.int i) j pos) (eC (.int i)) := pd_c pe_int fun _ _ => .int i
theorem pd_bl {i : Bool} {j} : PD X E (.Constant (.bool i) j pos) (eC (.bool i)) := pd_c pe_bl fun _ _ => .bl i
theorem pd_non {j} : PD X E (.Constant .none j pos) (eC .none) := pd_c pe_non fun _ _ => .non
theorem pd_str {x : Str} {j} : PD X E (.Constant (.str x) j pos) (eC (.str x)) := pd_c pe_str fun _ _ => .str x
/-- a module's constant: an int, a text -/
theorem pd_gint {x : Str} {i : Int} (hg : Gl X x) (hm : ∃ t, X.mg x = some (.int i t)) (hd : (x == ("__debug__" : Str)) = false := by decide) : PD X E (.Name x pos) (eC (.int i)) := by
  obtain ⟨t, ht⟩ := hm
  exact pd_c (pe_glob (v := .int i) hg ht ⟨t, rfl⟩ hd) fun _ _ => .int i
theorem pd_gstr {x z : Str} (hg : Gl X x) (hm : ∃ t, X.mg x = some (.str z t)) (hd : (x == ("__debug__" : Str)) = false := by decide) : PD X E (.Name x pos) (eC (.str z)) := by
  obtain ⟨t, ht⟩ := hm
  exact pd_c (pe_glob (v := .str z) hg ht ⟨t, rfl⟩ hd) fun _ _ => .str z
/-- an object of the module that reads as data whatever the heap -/
theorem pd_gref {x : Str} {p : Addr} {d : PyData} (hg : Gl X x) (hm : X.mg x = some (.ref p)) (h : ∀ G, Dp X.K G (.ref p) d) (hd : (x == ("__debug__" : Str)) = false := by decide) : PD X E (.Name x pos) (eC d) :=
  ⟨_, pe_glob hg hm (v := .ref p) rfl hd, fun B G H σ ρ Q en w => w G H _ (Same.refl _) en (h _)⟩
theorem pd_v (i : Nat) {x : Str} (hN : X.N[i]? = some x := by rfl) (hv : Vis X.env.scope x := by first | exact Or.inl rfl | exact Or.inr (Or.inl rfl) | exact Or.inr (Or.inr rfl)) (hd : (x == ("__debug__" : Str)) = false := by decide)
    (hcd : (x == ("__classdict__" : Str)) = false := by decide) : PD X E (.Name x pos) (eV i) := by
  refine ⟨_, pe_var hN hv hd hcd, fun B G H σ ρ Q en w => ?_⟩
  unfold eV at w
  split at w
  · rename_i d hi
    obtain ⟨v, h1, h2⟩ := en.shv hi
    exact ⟨v, h1, w G H v (Same.refl _) en h2⟩
  · rename_i ds hi
    obtain ⟨p, vs, h1, _⟩ := en.ownv hi
    obtain ⟨G', e', s', d'⟩ := en.share hi h1
    exact ⟨_, h1, w G' H _ s' e' d'⟩
  · exact w.elim
theorem pd_bin {op : Operator} {p : PyData → PyData → Option PyData} (ho : P2 X (binaryOp op) p) (ha : PD X E a fa) (hb : PD X E b fb) : PD X E (.BinOp a op b pos) (eBin p fa fb) := by
  obtain ⟨t1, h1, w1⟩ := ha
  obtain ⟨t2, h2, w2⟩ := hb
  refine ⟨_, pe_op ho h1 h2, fun B G H σ ρ Q en w => ?_⟩
  refine w1 B G H σ ρ _ en (w.andThen.mono fun a ρ1 _ w' G1 H1 v s1 en1 d1 => ?_)
  refine w2 B G1 H1 σ ρ1 _ en1 (w'.andThen.mono fun b ρ2 _ w'' G2 H2 u s2 en2 d2 => ?_)
  unfold opt at w''
  split at w''
  · rename_i d hd
    exact ⟨G2, a, b, d, en2.gh, Dpm s2 d1, d2, hd, ext_end (mg := X.mg) (s1.trans s2) en2 w''⟩
  · exact w''.elim
theorem pd_un {op : UnaryOp} {p : PyData → Option PyData} (ho : P1 X (unaryOp op) p) (ha : PD X E a fa) : PD X E (.UnaryOp op a pos) (eUn p fa) := by
  obtain ⟨t1, h1, w1⟩ := ha
  refine ⟨_, pe_un ho h1, fun B G H σ ρ Q en w => ?_⟩
  refine w1 B G H σ ρ _ en (w.andThen.mono fun a ρ1 _ w' G1 H1 v s1 en1 d1 => ?_)
  unfold opt at w'
  split at w'
  · rename_i d hd
    exact ⟨G1, a, d, en1.gh, d1, hd, ext_end (mg := X.mg) s1 en1 w'⟩
  · exact w'.elim
theorem pd_cmp {op : CmpOp} {p : PyData → PyData → Option PyData} (ho : P2 X (compareOp op) p) (ha : PD X E a fa) (hb : PD X E b fb) (hm : behindInMarks op b = false := by first | exact nomark _ | rfl) : PD X E (.Compare a [op] [b] pos) (eBin p fa fb) := by
  obtain ⟨t1, h1, w1⟩ := ha
  obtain ⟨t2, h2, w2⟩ := hb
  refine ⟨_, pe_cmpR ho h1 h2 hm, fun B G H σ ρ Q en w => ?_⟩
  refine w1 B G H σ ρ _ en (w.andThen.mono fun a ρ1 _ w' G1 H1 v s1 en1 d1 => ?_)
  refine w2 B G1 H1 σ ρ1 _ en1 (w'.andThen.mono fun b ρ2 _ w'' G2 H2 u s2 en2 d2 => ?_)
  unfold opt at w''
  split at w''
  · rename_i d hd
    exact ⟨G2, a, b, d, en2.gh, Dpm s2 d1, d2, hd, ext_end (mg := X.mg) (s1.trans s2) en2 w''⟩
  · exact w''.elim
theorem dp_bl {K : PySem.W.Frag} {G : Hp} {v : V} {k : Bool} (h : Dp K G v (.bool k)) : v = .bl k := by cases h; rfl
theorem pdt_cmp {op : CmpOp} {p : PyData → PyData → Option PyData} (ho : P2 X (compareOp op) p) (ha : PD X E a fa) (hb : PD X E b fb) (hm : behindInMarks op b = false := by first | exact nomark _ | rfl) : PDT X E (.Compare a [op] [b] pos) (eT (eBin p fa fb)) := by
  obtain ⟨t1, h1, w1⟩ := ha
  obtain ⟨t2, h2, w2⟩ := hb
  refine ⟨_, pt_cmpR ho h1 h2 hm, fun B G H σ ρ Q en w => ?_⟩
  have w := w.andThen
  refine w1 B G H σ ρ _ en (w.andThen.mono fun a ρ1 _ w' G1 H1 v s1 en1 d1 => ?_)
  refine w2 B G1 H1 σ ρ1 _ en1 (w'.andThen.mono fun b ρ2 _ w'' G2 H2 u s2 en2 d2 => ?_)
  unfold opt at w''
  split at w''
  · rename_i d hd
    refine ⟨G2, a, b, d, en2.gh, Dpm s2 d1, d2, hd, fun G' H' z x dz => ?_⟩
    have w3 : Want X.mg B E (opt (isB d) ρ2) (KT' X.K B G σ Q) := w''
    cases d with
    | bool k => exact ⟨k, dp_bl dz, w3 G' H' ((s1.trans s2).trans x.g) (en2.ext x)⟩
    | _ => exact w3.elim
  · exact w''.elim
theorem chain_reads {p q : PyData → PyData → Option PyData} {t1 t2 t3 : TE} (w1 : ∀ B G H σ ρ Q, EnvAt X.K B G H σ ρ → Want X.mg B E (fa ρ) (KE' X.K B G σ Q) → t1 σ H Q) (w2 : ∀ B G H σ ρ Q, EnvAt X.K B G H σ ρ → Want X.mg B E (fb ρ) (KE' X.K B G σ Q) → t2 σ H Q) (w3 : ∀ B G H σ ρ Q, EnvAt X.K B G H σ ρ → Want X.mg B E (fc ρ) (KE' X.K B G σ Q) → t3 σ H Q) :
    ∀ B G H σ ρ Q, EnvAt X.K B G H σ ρ → Want X.mg B E (eChain p q fa fb fc ρ) (KE' X.K B G σ Q) → tChain (Q2 X.K p) (Q2 X.K q) t1 t2 t3 σ H Q := by
  intro B G H σ ρ Q en w
  refine w1 B G H σ ρ _ en (w.andThen.mono fun a ρ1 _ w' G1 H1 v s1 en1 d1 => ?_)
  refine w2 B G1 H1 σ ρ1 _ en1 (w'.andThen.mono fun b ρ2 _ w'' G2 H2 u s2 en2 d2 => ?_)
  cases hp : p a b with
  | none =>
    rw [hp] at w''
    exact w''.elim
  | some d =>
    rw [hp] at w''
    refine ⟨G2, a, b, d, en2.gh, Dpm s2 d1, d2, hp, fun G3 H3 z x dz => ?_⟩
    cases d with
    | bool k =>
      refine ⟨k, dp_bl dz, ?_⟩
      have en3 := en2.ext x
      cases k with
      | false =>
        refine L2.iteF ?_
        exact w'' G3 H3 _ ((s1.trans s2).trans x.g) en3 (.bl false)
      | true =>
        refine L2.iteT ?_
        have w4 : Want X.mg B E ((fc ρ2).andThen fun c ρ => opt (q b c) ρ) (KE' X.K B G σ Q) := w''
        refine w3 B G3 H3 σ ρ2 _ en3 (w4.andThen.mono fun c ρ4 _ w5 G4 H4 y s4 en4 d4 => ?_)
        unfold opt at w5
        split at w5
        · rename_i d hd
          exact ⟨G4, b, c, d, en4.gh, Dpm (x.g.trans s4) d2, d4, hd, ext_end (mg := X.mg) (((s1.trans s2).trans x.g).trans s4) en4 w5⟩
        · exact w5.elim
    | _ => exact w''.elim
theorem pd_chain {op op' : CmpOp} {p q : PyData → PyData → Option PyData} (ho : P2 X (compareOp op) p) (ho' : P2 X (compareOp op') q) (ha : PD X E a fa) (hb : PD X E b fb) (hc : PD X E c fc)
    (hm : lastMarks [op, op'] [b, c] = false := by with_unfolding_all rfl) : PD X E (.Compare a [op, op'] [b, c] pos) (eChain p q fa fb fc) := by
  obtain ⟨t1, h1, w1⟩ := ha
  obtain ⟨t2, h2, w2⟩ := hb
  obtain ⟨t3, h3, w3⟩ := hc
  exact ⟨_, pe_chain ho ho' h1 h2 h3 hm, chain_reads w1 w2 w3⟩
theorem eT_ke {mg : Str → Option Value} {K : PySem.W.Frag} {B : Bs} {G : Hp} {σ : L2.St} {ρ : Rho} {Q : Bool → Hp → Prop} (w : Want mg B E (eT fa ρ) (KT' K B G σ Q)) : Want mg B E (fa ρ) (KE' K B G σ fun x H1 => ∃ k, x = .bl k ∧ Q k H1) := by
  refine w.andThen.mono fun d ρ1 _ w' G1 H1 v s1 en1 d1 => ?_
  cases d with
  | bool k => exact ⟨k, dp_bl d1, w' G1 H1 s1 en1⟩
  | _ => exact w'.elim
theorem pdt_chain {op op' : CmpOp} {p q : PyData → PyData → Option PyData} (ho : P2 X (compareOp op) p) (ho' : P2 X (compareOp op') q) (ha : PD X E a fa) (hb : PD X E b fb) (hc : PD X E c fc)
    (hm : lastMarks [op, op'] [b, c] = false := by with_unfolding_all rfl) : PDT X E (.Compare a [op, op'] [b, c] pos) (eT (eChain p q fa fb fc)) := by
  obtain ⟨t1, h1, w1⟩ := ha
  obtain ⟨t2, h2, w2⟩ := hb
  obtain ⟨t3, h3, w3⟩ := hc
  exact ⟨_, pt_chain ho ho' h1 h2 h3 hm, fun B G H σ ρ Q en w => chain_reads w1 w2 w3 B G H σ ρ _ en (eT_ke w)⟩
/-- a test by an expression's value -/
theorem pdt_v (h : PD X E e fa) (he : ∀ whole, isTrue e X.env whole = (do let v ← whole; standAt e.pos; holding [v] (truthy v)) := by intro _; rfl) : PDT X E e (eT fa) := by
  obtain ⟨t, h1, w1⟩ := h
  refine ⟨_, pt_val h1 he, fun B G H σ ρ Q en w => ?_⟩
  refine w1 B G H σ ρ _ en (w.andThen.mono fun d ρ1 _ w' G1 H1 v s1 en1 d1 => ?_)
  cases d with
  | bool k => exact ⟨k, dp_bl d1, w' G1 H1 s1 en1⟩
  | _ => exact w'.elim
theorem pdw_and1 (ha : PDT X E a ta) : PDW X E (.BoolOp .And [a] pos) ta := by
  obtain ⟨t, h, w⟩ := ha
  exact ⟨_, pw_and1 h, w⟩
theorem pdw_or1 (ha : PDT X E a ta) : PDW X E (.BoolOp .Or [a] pos) ta := by
  obtain ⟨t, h, w⟩ := ha
  exact ⟨_, pw_or1 h, w⟩
theorem pdw_and (ha : PDT X E a ta) (hb : PDW X E (.BoolOp .And (b :: rest) pos) tb) : PDW X E (.BoolOp .And (a :: b :: rest) pos) (eAnd ta tb) := by
  obtain ⟨t1, h1, w1⟩ := ha
  obtain ⟨t2, h2, w2⟩ := hb
  refine ⟨_, pw_and h1 h2, fun B G H σ ρ Q en w => ?_⟩
  refine w1 B G H σ ρ _ en (w.andThen.mono fun k ρ1 _ w' G1 H1 s1 en1 => ?_)
  cases k with
  | true => exact L2.iteT (w2 B G1 H1 σ ρ1 _ en1 (w'.mono fun k ρ2 _ q G2 H2 s2 en2 => q G2 H2 (s1.trans s2) en2))
  | false => exact L2.iteF (w' G1 H1 s1 en1)
theorem pdw_or (ha : PDT X E a ta) (hb : PDW X E (.BoolOp .Or (b :: rest) pos) tb) : PDW X E (.BoolOp .Or (a :: b :: rest) pos) (eOr ta tb) := by
  obtain ⟨t1, h1, w1⟩ := ha
  obtain ⟨t2, h2, w2⟩ := hb
  refine ⟨_, pw_or h1 h2, fun B G H σ ρ Q en w => ?_⟩
  refine w1 B G H σ ρ _ en (w.andThen.mono fun k ρ1 _ w' G1 H1 s1 en1 => ?_)
  cases k with
  | true => exact L2.iteT (w' G1 H1 s1 en1)
  | false => exact L2.iteF (w2 B G1 H1 σ ρ1 _ en1 (w'.mono fun k ρ2 _ q G2 H2 s2 en2 => q G2 H2 (s1.trans s2) en2))
theorem pdt_w (h : PDW X E e ta) : PDT X E e ta := by
  obtain ⟨t, h1, w⟩ := h
  exact ⟨_, h1.pt, w⟩
theorem pdt_not (ha : PDT X E a ta) : PDT X E (.UnaryOp .Not a pos) (eNot ta) := by
  obtain ⟨t1, h1, w1⟩ := ha
  refine ⟨_, pt_not h1, fun B G H σ ρ Q en w => ?_⟩
  exact w1 B G H σ ρ _ en (w.andThen.mono fun k ρ1 _ w' G1 H1 s1 en1 => w' G1 H1 s1 en1)
theorem pd_and1 {op} (ha : PD X E a fa) : PD X E (.BoolOp op [a] pos) fa := by
  obtain ⟨t, h, w⟩ := ha
  exact ⟨_, pe_one h, w⟩
theorem pd_and (ha : PD X E a fa) (hb : PD X E (.BoolOp .And (b :: rest) pos) fb) : PD X E (.BoolOp .And (a :: b :: rest) pos) (eAndV fa fb) := by
  obtain ⟨t1, h1, w1⟩ := ha
  obtain ⟨t2, h2, w2⟩ := hb
  refine ⟨_, pe_and h1 h2, fun B G H σ ρ Q en w => ?_⟩
  have w := w.andThen.andThen
  refine w1 B G H σ ρ _ en (w.mono fun d ρ1 _ w' G1 H1 v s1 en1 d1 => ?_)
  cases d with
  | bool k =>
    refine ⟨k, dp_bl d1, ?_⟩
    cases k with
    | true => exact L2.iteT (w2 B G1 H1 σ ρ1 _ en1 (Want.mono (show Want X.mg B E (fb ρ1) _ from w') fun d ρ2 _ q G2 H2 v s2 en2 => q G2 H2 v (s1.trans s2) en2))
    | false => exact L2.iteF (w' G1 H1 _ s1 en1 (.bl false))
  | _ => exact w'.elim
theorem pd_or (ha : PD X E a fa) (hb : PD X E (.BoolOp .Or (b :: rest) pos) fb) : PD X E (.BoolOp .Or (a :: b :: rest) pos) (eOrV fa fb) := by
  obtain ⟨t1, h1, w1⟩ := ha
  obtain ⟨t2, h2, w2⟩ := hb
  refine ⟨_, pe_or h1 h2, fun B G H σ ρ Q en w => ?_⟩
  have w := w.andThen.andThen
  refine w1 B G H σ ρ _ en (w.mono fun d ρ1 _ w' G1 H1 v s1 en1 d1 => ?_)
  cases d with
  | bool k =>
    refine ⟨k, dp_bl d1, ?_⟩
    cases k with
    | false => exact L2.iteF (w2 B G1 H1 σ ρ1 _ en1 (Want.mono (show Want X.mg B E (fb ρ1) _ from w') fun d ρ2 _ q G2 H2 v s2 en2 => q G2 H2 v (s1.trans s2) en2))
    | true => exact L2.iteT (w' G1 H1 _ s1 en1 (.bl true))
  | _ => exact w'.elim
theorem pd_not (ha : PD X E a fa) : PD X E (.UnaryOp .Not a pos) (eNotV fa) := by
  obtain ⟨t1, h1, w1⟩ := ha
  refine ⟨_, pe_not h1, fun B G H σ ρ Q en w => ?_⟩
  have w := w.andThen.andThen
  refine w1 B G H σ ρ _ en (w.mono fun d ρ1 _ w' G1 H1 v s1 en1 d1 => ?_)
  cases d with
  | bool k => exact ⟨k, dp_bl d1, w' G1 H1 _ s1 en1 (.bl _)⟩
  | _ => exact w'.elim
theorem pd_if (hc : PDT X E c ta) (ha : PD X E a fa) (hb : PD X E b fb) : PD X E (.IfExp c a b pos) (eIf ta fa fb) := by
  obtain ⟨t0, h0, w0⟩ := hc
  obtain ⟨t1, h1, w1⟩ := ha
  obtain ⟨t2, h2, w2⟩ := hb
  refine ⟨_, pe_ifExp h0 h1 h2, fun B G H σ ρ Q en w => ?_⟩
  refine w0 B G H σ ρ _ en (w.andThen.mono fun k ρ1 _ w' G1 H1 s1 en1 => ?_)
  cases k with
  | true => exact L2.iteT (w1 B G1 H1 σ ρ1 _ en1 (Want.mono (show Want X.mg B E (fa ρ1) _ from w') fun d ρ2 _ q G2 H2 v s2 en2 => q G2 H2 v (s1.trans s2) en2))
  | false => exact L2.iteF (w2 B G1 H1 σ ρ1 _ en1 (Want.mono (show Want X.mg B E (fb ρ1) _ from w') fun d ρ2 _ q G2 H2 v s2 en2 => q G2 H2 v (s1.trans s2) en2))
theorem pda_nil : PDA X E [] eNil := ⟨⟨_, pa_nil, fun B G H σ ρ Q en w => w G H [] (Same.refl _) en .nil⟩, fun ρ ds ρ' h => by
  cases h
  rfl⟩
theorem pda_cons (ha : PD X E e fa) (hr : PDA X E es fr) (hs : starEach (e :: es) X.env = (false, eval e X.env) :: starEach es X.env := by rfl) : PDA X E (e :: es) (eCons fa fr) := by
  obtain ⟨t1, h1, w1⟩ := ha
  obtain ⟨⟨t2, h2, w2⟩, hl⟩ := hr
  refine ⟨⟨_, pa_cons h1 h2 hs, fun B G H σ ρ Q en w => ?_⟩, fun ρ ds ρ' h => ?_⟩
  · refine w1 B G H σ ρ _ en (w.andThen.mono fun a ρ1 _ w' G1 H1 v s1 en1 d1 => ?_)
    refine w2 B G1 H1 σ ρ1 _ en1 (w'.andThen.mono fun b ρ2 _ w'' G2 H2 u s2 en2 d2 => ?_)
    exact w'' G2 H2 (v :: u) (s1.trans s2) en2 (.cons (Dpm s2 d1) d2)
  · unfold eCons at h
    cases q : fa ρ with
    | ok a ρ1 =>
      rw [q] at h
      cases q2 : fr ρ1 with
      | ok r ρ2 =>
        have h : (fr ρ1).andThen (fun r ρ => Rs.ok (a :: r) ρ) = .ok ds ρ' := h
        rw [q2] at h
        cases h
        rw [List.length_cons, List.length_cons, hl _ _ _ q2]
      | ex e =>
        have h : (fr ρ1).andThen (fun r ρ => Rs.ok (a :: r) ρ) = .ok ds ρ' := h
        rw [q2] at h
        cases h
      | bad =>
        have h : (fr ρ1).andThen (fun r ρ => Rs.ok (a :: r) ρ) = .ok ds ρ' := h
        rw [q2] at h
        cases h
    | ex e =>
      rw [q] at h
      cases h
    | bad =>
      rw [q] at h
      cases h
theorem line1000 {n : Nat} (h : n ≤ 1000) : n ≤ sizeLine := Nat.le_of_lt (small1000 h)
theorem pd_tup {x1} (h : PDA X E es fs) (hl : es.length ≤ 1000 := by decide) : PD X E (.Tuple es x1 pos) (eTup fs) := by
  obtain ⟨⟨t1, h1, w1⟩, hn⟩ := h
  refine ⟨_, pe_tup h1, fun B G H σ ρ Q en w => ?_⟩
  refine w1 B G H σ ρ _ en (w.andThen.mono fun ds ρ1 q w' G1 H1 vs s1 en1 d1 => ?_)
  have hz : vs.length ≤ 1000 := by rw [DpAll.len d1, hn _ _ _ q]; exact hl
  refine ⟨line1000 hz, fun p hp => ?_⟩
  have x : Ext G1 H1 (upd G1 p (.tup vs)) (upd H1 p (.tup vs)) := Ext.new en1.gh hp
  exact w' _ _ _ (s1.trans x.g) (en1.ext x) (.tup (.of upd_same) (Dpms x.g d1))
theorem pdo_lst (h : PDA X E es fs) (hl : es.length ≤ 1000 := by decide) : PDO X E (.List es pos) fs := by
  obtain ⟨⟨t1, h1, w1⟩, hn⟩ := h
  refine ⟨_, pe_lst h1, fun B G H σ ρ Q en w => ?_⟩
  refine w1 B G H σ ρ _ en (w.mono fun ds ρ1 q w' G1 H1 vs s1 en1 d1 => ?_)
  have hz : vs.length ≤ 1000 := by rw [DpAll.len d1, hn _ _ _ q]; exact hl
  refine ⟨line1000 hz, fun p hp => ?_⟩
  have x : Ext G1 H1 G1 (upd H1 p (.lst vs)) := Ext.heap en1.gh (same_upd hp)
  refine w' _ _ p vs s1 (en1.ext x) (en1.gh.free hp) upd_same d1 (en1.fresh hp) (fun j ⟨b, es, o1, o2⟩ => ?_) fun j h => en1.lv j p h hp
  obtain ⟨q, us, z1, z2, z3, _⟩ := en1.ownv o1
  rw [o2] at z1
  cases z1
  rw [hp] at z3
  cases z3
/-- a new list as a value -/
theorem pd_o (h : PDO X E e fs) : PD X E e (eLst fs) := by
  obtain ⟨t1, h1, w1⟩ := h
  refine ⟨_, h1, fun B G H σ ρ Q en w => ?_⟩
  refine w1 B G H σ ρ _ en (w.andThen.mono fun ds ρ1 q w' G1 H1 p vs s1 en1 g1 q1 d1 q2 q3 _ => ?_)
  obtain ⟨e2, s2, d2⟩ := en1.freeze g1 q1 d1 q2 q3
  exact w' _ _ _ (s1.trans s2) e2 d2
end
end Dl

set_option Elab.async false
set_option linter.all false
set_option maxRecDepth 100000
set_option maxHeartbeats 1000000
namespace Dl
open PySem L2
/-! ### the built-in operations, by data -/
mutual
theorem Dp_plain {K : PySem.W.Frag} {H : Hp} : ∀ {v : V} {d : PyData}, Dp K H v d → d.plain = true
  | _, _, .non => rfl
  | _, _, .bl _ => rfl
  | _, _, .int _ => rfl
  | _, _, .str _ => rfl
  | _, _, .lst _ r => by rw [PyData.plain]; exact Dps_plain r
  | _, _, .tup _ r => by rw [PyData.plain]; exact Dps_plain r
theorem Dps_plain {K : PySem.W.Frag} {H : Hp} : ∀ {vs : List V} {ds : List PyData}, DpAll K H vs ds → PyData.plainAll ds = true
  | _, _, .nil => rfl
  | _, _, .cons h r => by rw [PyData.plainAll, Dp_plain h, Dps_plain r]; rfl
end
def pAdd : PyData → PyData → Option PyData
  | .int i, .int j => some (.int (i + j))
  | .str x, .str y => if x.length + y.length ≤ 1000000 then some (.str (x ++ y)) else none
  | .list xs, .list ys => if xs.length + ys.length ≤ 1000000 then some (.list (xs ++ ys)) else none
  | .tuple xs, .tuple ys => if xs.length + ys.length ≤ 1000000 then some (.tuple (xs ++ ys)) else none
  | _, _ => none
def pSub : PyData → PyData → Option PyData
  | .int i, .int j => some (.int (i - j))
  | _, _ => none
/-- an int times an int (one of them below 2 ^ 64), a list or a tuple some times -/
def pMul : PyData → PyData → Option PyData
  | .int i, .int j => if i.natAbs < 18446744073709551616 ∨ j.natAbs < 18446744073709551616 then some (.int (i * j)) else none
  | .tuple xs, .int k => if 2 ≤ k ∧ k ≤ 1000 ∧ xs.length ≤ 1000 ∧ xs ≠ [] then some (.tuple (List.replicate k.toNat xs).flatten) else none
  | .list xs, .int k => if k ≤ 1000 ∧ -1000 ≤ k ∧ xs.length * k.toNat ≤ 1000000 then some (.list (List.replicate k.toNat xs).flatten) else none
  | _, _ => none
def pFdiv : PyData → PyData → Option PyData
  | .int i, .int j => if 0 < j ∧ j < 1073741824 then some (.int (i / j)) else none
  | _, _ => none
def pMod : PyData → PyData → Option PyData
  | .int i, .int j => if 0 < j then some (.int (i % j)) else none
  | _, _ => none
def pPow : PyData → PyData → Option PyData
  | .int i, .int j => if 0 ≤ j ∧ j ≤ 1000000 ∧ i.natAbs < 18446744073709551616 then some (.int (i ^ j.toNat)) else none
  | _, _ => none
def pEq (a b : PyData) : Option PyData := if min a.depth b.depth ≤ 64 then some (.bool (PyData.eqv a b)) else none
def pNe (a b : PyData) : Option PyData := if min a.depth b.depth ≤ 64 then some (.bool (!PyData.eqv a b)) else none
def okCmp (a b : PyData) : Bool := PySem.W.alike a b && (match a with | .none => false | _ => true) && decide (min a.depth b.depth ≤ 64)
def pLt : PyData → PyData → Option PyData
  | .int i, .int j => some (.bool (decide (i < j)))
  | a, b => if okCmp a b = true then some (.bool (PySem.W.dataLt a b)) else none
def pLe : PyData → PyData → Option PyData
  | .int i, .int j => some (.bool (decide (i ≤ j)))
  | a, b => if okCmp a b = true then some (.bool (!PySem.W.dataLt b a)) else none
def pGt : PyData → PyData → Option PyData
  | .int i, .int j => some (.bool (decide (j < i)))
  | a, b => if okCmp a b = true then some (.bool (PySem.W.dataLt b a)) else none
def pGe : PyData → PyData → Option PyData
  | .int i, .int j => some (.bool (decide (j ≤ i)))
  | a, b => if okCmp a b = true then some (.bool (!PySem.W.dataLt a b)) else none
def isN : PyData → Bool
  | .none => true
  | _ => false
def pIs : PyData → PyData → Option PyData
  | a, .none => some (.bool (isN a))
  | _, _ => none
def pIsNot : PyData → PyData → Option PyData
  | a, .none => some (.bool (!isN a))
  | _, _ => none
def pIn : PyData → PyData → Option PyData
  | .str x, .str y => some (.bool (!(Builtin.Str.occurrences y x 0 y.length 1).isEmpty))
  | d, .list ds => if d.depth ≤ 60 then some (.bool (ds.any fun z => PyData.eqv z d)) else none
  | d, .tuple ds => if d.depth ≤ 60 then some (.bool (ds.any fun z => PyData.eqv z d)) else none
  | _, _ => none
def pNotIn : PyData → PyData → Option PyData
  | .str x, .str y => some (.bool (!(!(Builtin.Str.occurrences y x 0 y.length 1).isEmpty)))
  | d, .list ds => if d.depth ≤ 60 then some (.bool (!ds.any fun z => PyData.eqv z d)) else none
  | d, .tuple ds => if d.depth ≤ 60 then some (.bool (!ds.any fun z => PyData.eqv z d)) else none
  | _, _ => none
def pNeg : PyData → Option PyData
  | .int i => some (.int (-i))
  | _ => none
theorem size_lt : (1000000 : Nat) ≤ sizeLine := by rw [sizeLine_eq]; decide
section
variable {X : Cx}
theorem op_catL : OpR X (binaryOp .Add) (fun x y H Q => ∃ a b xs ys, x = .ref a ∧ y = .ref b ∧ SqL X.K H a xs ∧ SqL X.K H b ys ∧ xs.length + ys.length ≤ sizeLine ∧ ∀ p, H p = none → Q (.ref p) (upd H p (.lst (xs ++ ys)))) := by
  intro pins s σ H x y v u Q I rx ry h
  obtain ⟨a, b, xs, ys, rfl, rfl, ha, hb, hz, q⟩ := h
  cases rx
  cases ry
  obtain ⟨its, r, ⟨⟨cls, dd, data, sl⟩, n, ho, hc, hn, hd⟩, _⟩ := I.list ha
  obtain ⟨its2, r2, ⟨⟨cls2, dd2, data2, sl2⟩, n2, ho2, hc2, hn2, hd2⟩, _⟩ := I.list hb
  simp only at hc hd hc2 hd2
  subst hc hd hc2 hd2
  have e : its.toArray ++ its2.toArray = (its ++ its2).toArray := by simp
  have h1 := r.length
  have h2 := r2.length
  refine concat_meets ⟨_, ho, rfl⟩ ⟨_, ho2, rfl⟩ noFill_list_add seq_list_add PySem.F.slot_list_add PySem.F.entry_list_add (PySem.F.args_list_add_2 _ _) (PyProof.Rows.list_addW a b its.toArray its2.toArray n n2 dd dd2 sl sl2 (by simp; omega)) ⟨ho, ho2, ?_⟩
  rw [e]
  exact ⟨.ref _, _, I.lnew (t' := s.toks) (r.append r2) (by rw [List.length_append]; omega), rfl, q _ I.fresh⟩
theorem dp_int {K : PySem.W.Frag} {G : Hp} {v : V} {k : Int} (h : Dp K G v (.int k)) : v = .int k := by cases h; rfl
theorem dp_str {K : PySem.W.Frag} {G : Hp} {v : V} {k : Str} (h : Dp K G v (.str k)) : v = .str k := by cases h; rfl
theorem dp_non {K : PySem.W.Frag} {G : Hp} {v : V} (h : Dp K G v .none) : v = .non := by cases h; rfl
theorem dp_lst {K : PySem.W.Frag} {G : Hp} {v : V} {ds : List PyData} (h : Dp K G v (.list ds)) : ∃ a xs, v = .ref a ∧ SqL K G a xs ∧ DpAll K G xs ds := by
  cases h with
  | lst h r => exact ⟨_, _, rfl, h, r⟩
theorem dp_tup {K : PySem.W.Frag} {G : Hp} {v : V} {ds : List PyData} (h : Dp K G v (.tuple ds)) : ∃ a xs, v = .ref a ∧ SqT K G a xs ∧ DpAll K G xs ds := by
  cases h with
  | tup h r => exact ⟨_, _, rfl, h, r⟩
theorem new_lst {K : PySem.W.Frag} {G H : Hp} {p : Addr} {vs : List V} {ds : List PyData} (h : Same G H) (hp : H p = none) (r : DpAll K G vs ds) : Ext G H (upd G p (.lst vs)) (upd H p (.lst vs)) ∧ Dp K (upd G p (.lst vs)) (.ref p) (.list ds) :=
  have x : Ext G H (upd G p (.lst vs)) (upd H p (.lst vs)) := Ext.new h hp
  ⟨x, .lst (.of upd_same) (Dpms x.g r)⟩
theorem new_tup {K : PySem.W.Frag} {G H : Hp} {p : Addr} {vs : List V} {ds : List PyData} (h : Same G H) (hp : H p = none) (r : DpAll K G vs ds) : Ext G H (upd G p (.tup vs)) (upd H p (.tup vs)) ∧ Dp K (upd G p (.tup vs)) (.ref p) (.tuple ds) :=
  have x : Ext G H (upd G p (.tup vs)) (upd H p (.tup vs)) := Ext.new h hp
  ⟨x, .tup (.of upd_same) (Dpms x.g r)⟩
theorem p2_add : P2 X (binaryOp .Add) pAdd := by
  intro pins s σ H x y v u Q I rx ry h
  obtain ⟨G, a, b, d, gh, da, db, hp, q⟩ := h
  unfold pAdd at hp
  split at hp
  · cases hp
    cases dp_int da
    cases dp_int db
    exact op_add pins s σ H _ _ v u Q I rx ry ⟨_, _, rfl, rfl, q G H _ (Ext.refl gh) (.int _)⟩
  · split at hp
    · rename_i hz
      cases hp
      cases dp_str da
      cases dp_str db
      exact op_add_str pins s σ H _ _ v u Q I rx ry ⟨_, _, rfl, rfl, Nat.le_trans hz size_lt, q G H _ (Ext.refl gh) (.str _)⟩
    · cases hp
  · split at hp
    · rename_i hz
      cases hp
      obtain ⟨a1, xs, rfl, h1, r1⟩ := dp_lst da
      obtain ⟨a2, ys, rfl, h2, r2⟩ := dp_lst db
      refine op_catL pins s σ H _ _ v u Q I rx ry ⟨_, _, _, _, rfl, rfl, gh.seq h1, gh.seq h2, by rw [DpAll.len r1, DpAll.len r2]; exact Nat.le_trans hz size_lt, fun p hp => ?_⟩
      obtain ⟨x1, x2⟩ := new_lst gh hp (DpAll.app r1 r2)
      exact q _ _ _ x1 x2
    · cases hp
  · split at hp
    · rename_i hz
      cases hp
      obtain ⟨a1, xs, rfl, h1, r1⟩ := dp_tup da
      obtain ⟨a2, ys, rfl, h2, r2⟩ := dp_tup db
      refine op_catA pins s σ H _ _ v u Q I rx ry ⟨_, _, _, _, rfl, rfl, seqT gh h1, seqT gh h2, by rw [DpAll.len r1, DpAll.len r2]; exact Nat.le_trans hz size_lt, fun e => ?_, fun _ e => ?_, fun _ _ p hp => ?_⟩
      · subst e
        cases r1
        exact q G H _ (Ext.refl gh) (by rw [List.nil_append]; exact .tup h2 r2)
      · subst e
        cases r2
        exact q G H _ (Ext.refl gh) (by rw [List.append_nil]; exact .tup h1 r1)
      · obtain ⟨x1, x2⟩ := new_tup gh hp (DpAll.app r1 r2)
        exact q _ _ _ x1 x2
    · cases hp
  · cases hp
theorem p2_sub : P2 X (binaryOp .Sub) pSub := by
  intro pins s σ H x y v u Q I rx ry h
  obtain ⟨G, a, b, d, gh, da, db, hp, q⟩ := h
  unfold pSub at hp
  split at hp
  · cases hp
    cases dp_int da
    cases dp_int db
    exact op_sub pins s σ H _ _ v u Q I rx ry ⟨_, _, rfl, rfl, q G H _ (Ext.refl gh) (.int _)⟩
  · cases hp
theorem rep_all {K : PySem.W.Frag} {G : Hp} {vs : List V} {ds : List PyData} (r : DpAll K G vs ds) : ∀ k : Nat, DpAll K G (List.replicate k vs).flatten (List.replicate k ds).flatten
  | 0 => .nil
  | k + 1 => by
    rw [List.replicate_succ, List.replicate_succ, List.flatten_cons, List.flatten_cons]
    exact DpAll.app r (rep_all r k)
theorem op_repL : OpR X (binaryOp .Mult) (fun x y H Q => ∃ l k xs, x = .ref l ∧ y = .int k ∧ SqL X.K H l xs ∧ -(2 ^ 63) ≤ k ∧ k < 2 ^ 63 ∧ xs.length * k.toNat ≤ sizeLine ∧ ∀ p, H p = none → Q (.ref p) (upd H p (.lst (List.replicate k.toNat xs).flatten))) := by
  intro pins s σ H x y v u Q I rx ry h
  obtain ⟨l, k, xs, rfl, rfl, hH, h1, h2, hz, q⟩ := h
  cases rx
  obtain ⟨t, rfl⟩ := ry
  obtain ⟨its, r, ⟨⟨cls, dd, data, sl⟩, n, ho, hc, hn, hd⟩, _⟩ := I.list hH
  simp only at hc hd
  subst hc hd
  have hl := r.length
  have hlen : its.toArray.size * k.toNat ≤ sizeLine := by rw [List.size_toArray, ← hl]; exact hz
  have hcap : ¬ its.toArray.size * k.toNat > (2 ^ 63 - 1) / 8 := by
    have : (sizeLine : Nat) ≤ (2 ^ 63 - 1) / 8 := by decide
    omega
  have hfit : ¬ (!Builtin.List.listFitsIndex k) = true := by
    rw [fitsIndex_both h1 h2]
    exact Bool.false_ne_true
  have hlong : ¬ Builtin.List.listTooLong (its.toArray.size * k.toNat) = true := by
    rw [notLongL hlen]
    exact Bool.false_ne_true
  have hnew : List.foldl (fun x1 x2 => x1 ++ x2) #[] (List.replicate (if its.toArray.isEmpty = true then 0 else k.toNat) its.toArray) = (List.replicate k.toNat its).flatten.toArray := by
    have f0 : ∀ m : Nat, List.foldl (fun x1 x2 => x1 ++ x2) #[] (List.replicate m its.toArray) = (List.replicate m its).flatten.toArray := fun m => by
      have := foldl_rep its m []
      rw [List.nil_append] at this
      exact this
    rw [f0]
    cases its with
    | nil => simp
    | cons a r' => rw [if_neg (by simp)]
  refine wpAny_binaryOp_repeat_ref (T := "list") (U := "int") (by decide) ⟨_, ho, rfl⟩ (fun s' => typeIs_int s' k t) noFill_list_mul PySem.F.fills_int_mul PySem.F.slot_int_rmul repeat_list PySem.F.slot_int_index.lookup
    (call_meets PySem.F.slot_int_rmul (typeIs_int s k t) PySem.F.entry_int_rmul (PySem.F.args_int_rmul_2 _ _) (lm_int_rmul_list_any k t l its.toArray n dd sl)
      ⟨ho, rfl, ⟨_, ho, rfl⟩, call_meets PySem.F.slot_list_mul ⟨_, ho, rfl⟩ PySem.F.entry_list_mul (PySem.F.args_list_mul_2 _ _)
        (lm_list_mul_any l its.toArray n dd sl k t hfit hcap hlong) ⟨ho, ?_⟩⟩)
  rw [hnew]
  exact ⟨.ref _, _, I.lnew (t' := s.toks) (r.rep k.toNat) (by rw [PyProof.Rows.lm_len_rep_flat, Nat.mul_comm]; exact hz), rfl, q _ I.fresh⟩
theorem p2_mul : P2 X (binaryOp .Mult) pMul := by
  intro pins s σ H x y v u Q I rx ry h
  obtain ⟨G, a, b, d, gh, da, db, hp, q⟩ := h
  unfold pMul at hp
  split at hp
  · split at hp
    · rename_i i j hz
      cases hp
      cases dp_int da
      cases dp_int db
      refine op_mul pins s σ H _ _ v u Q I rx ry ⟨_, _, rfl, rfl, ?_, q G H _ (Ext.refl gh) (.int _)⟩
      rcases hz with hz | hz
      · exact .inl ⟨by omega, by omega⟩
      · exact .inr ⟨by omega, by omega⟩
    · cases hp
  · split at hp
    · rename_i hz
      cases hp
      obtain ⟨a1, xs, rfl, h1, r1⟩ := dp_tup da
      cases dp_int db
      obtain ⟨z1, z2, z3, z4⟩ := hz
      refine op_repT pins s σ H _ _ v u Q I rx ry ⟨_, _, xs, rfl, rfl, seqT gh h1, fun e => z4 ?_, z1, z2, by rw [DpAll.len r1]; exact z3, fun p hp => ?_⟩
      · subst e
        cases r1
        rfl
      · obtain ⟨x1, x2⟩ := new_tup gh hp (rep_all r1 _)
        exact q _ _ _ x1 x2
    · cases hp
  · split at hp
    · rename_i hz
      cases hp
      obtain ⟨a1, xs, rfl, h1, r1⟩ := dp_lst da
      cases dp_int db
      obtain ⟨z1, z2, z3⟩ := hz
      refine op_repL pins s σ H _ _ v u Q I rx ry ⟨_, _, xs, rfl, rfl, gh.seq h1, by omega, by omega, ?_, fun p hp => ?_⟩
      · rw [DpAll.len r1]
        exact Nat.le_trans z3 size_lt
      · obtain ⟨x1, x2⟩ := new_lst gh hp (rep_all r1 _)
        exact q _ _ _ x1 x2
    · cases hp
  · cases hp
theorem p2_fdiv : P2 X (binaryOp .FloorDiv) pFdiv := by
  intro pins s σ H x y v u Q I rx ry h
  obtain ⟨G, a, b, d, gh, da, db, hp, q⟩ := h
  unfold pFdiv at hp
  split at hp
  · split at hp
    · rename_i hz
      cases hp
      cases dp_int da
      cases dp_int db
      exact op_fdiv pins s σ H _ _ v u Q I rx ry ⟨_, _, rfl, rfl, hz, q G H _ (Ext.refl gh) (.int _)⟩
    · cases hp
  · cases hp
theorem p2_mod : P2 X (binaryOp .Mod) pMod := by
  intro pins s σ H x y v u Q I rx ry h
  obtain ⟨G, a, b, d, gh, da, db, hp, q⟩ := h
  unfold pMod at hp
  split at hp
  · split at hp
    · rename_i hz
      cases hp
      cases dp_int da
      cases dp_int db
      exact op_mod pins s σ H _ _ v u Q I rx ry ⟨_, _, rfl, rfl, hz, q G H _ (Ext.refl gh) (.int _)⟩
    · cases hp
  · cases hp
theorem p2_pow : P2 X (binaryOp .Pow) pPow := by
  intro pins s σ H x y v u Q I rx ry h
  obtain ⟨G, a, b, d, gh, da, db, hp, q⟩ := h
  unfold pPow at hp
  split at hp
  · split at hp
    · rename_i hz
      cases hp
      cases dp_int da
      cases dp_int db
      exact op_pow pins s σ H _ _ v u Q I rx ry ⟨_, _, rfl, rfl, ⟨hz.1, hz.2.1, by have := hz.2.2; omega⟩, q G H _ (Ext.refl gh) (.int _)⟩
    · cases hp
  · cases hp
theorem units64 {k : Nat} {A : Around} (hr : Room k A) : A.units + 64 < cLine := hr.units
theorem p2_eq (hu : X.A.units + 64 < cLine) : P2 X (compareOp .Eq) pEq := by
  intro pins s σ H x y v u Q I rx ry h
  obtain ⟨G, a, b, d, gh, da, db, hp, q⟩ := h
  unfold pEq at hp
  split at hp
  · rename_i hz
    cases hp
    obtain ⟨as, r1⟩ := Dp.reads I a x v (Dpm gh da) rx
    obtain ⟨bs, r2⟩ := Dp.reads I b y u (Dpm gh db) ry
    exact PySem.SeqAt.eq_plain r1 r2 (Dp_plain da) (Dp_plain db) (by omega) ⟨.bl _, H, I, rfl, q G H _ (Ext.refl gh) (.bl _)⟩
  · cases hp
theorem p2_ne (hu : X.A.units + 64 < cLine) : P2 X (compareOp .NotEq) pNe := by
  intro pins s σ H x y v u Q I rx ry h
  obtain ⟨G, a, b, d, gh, da, db, hp, q⟩ := h
  unfold pNe at hp
  split at hp
  · rename_i hz
    cases hp
    obtain ⟨as, r1⟩ := Dp.reads I a x v (Dpm gh da) rx
    obtain ⟨bs, r2⟩ := Dp.reads I b y u (Dpm gh db) ry
    exact PySem.SeqAt.ne_plain r1 r2 (Dp_plain da) (Dp_plain db) (by omega) ⟨.bl _, H, I, rfl, q G H _ (Ext.refl gh) (.bl _)⟩
  · cases hp
theorem okCmp_of {a b : PyData} (h : okCmp a b = true) : PySem.W.alike a b = true ∧ a ≠ .none ∧ min a.depth b.depth ≤ 64 := by
  unfold okCmp at h
  simp only [Bool.and_eq_true, decide_eq_true_eq] at h
  obtain ⟨⟨h1, h2⟩, h3⟩ := h
  refine ⟨h1, fun e => ?_, h3⟩
  subst e
  cases h2
theorem p2_lt (hu : X.A.units + 64 < cLine) : P2 X (compareOp .Lt) pLt := by
  intro pins s σ H x y v u Q I rx ry h
  obtain ⟨G, a, b, d, gh, da, db, hp, q⟩ := h
  unfold pLt at hp
  split at hp
  · cases hp
    cases dp_int da
    cases dp_int db
    exact op_lt pins s σ H _ _ v u Q I rx ry ⟨_, _, rfl, rfl, q G H _ (Ext.refl gh) (.bl _)⟩
  · split at hp
    · rename_i hz
      cases hp
      obtain ⟨z1, z2, z3⟩ := okCmp_of hz
      obtain ⟨as, r1⟩ := Dp.reads I a x v (Dpm gh da) rx
      obtain ⟨bs, r2⟩ := Dp.reads I b y u (Dpm gh db) ry
      exact PySem.W.lt_data r1 r2 z1 z2 (by omega) ⟨.bl _, H, I, rfl, q G H _ (Ext.refl gh) (.bl _)⟩
    · cases hp
theorem p2_le (hu : X.A.units + 64 < cLine) : P2 X (compareOp .LtE) pLe := by
  intro pins s σ H x y v u Q I rx ry h
  obtain ⟨G, a, b, d, gh, da, db, hp, q⟩ := h
  unfold pLe at hp
  split at hp
  · cases hp
    cases dp_int da
    cases dp_int db
    exact op_le pins s σ H _ _ v u Q I rx ry ⟨_, _, rfl, rfl, q G H _ (Ext.refl gh) (.bl _)⟩
  · split at hp
    · rename_i hz
      cases hp
      obtain ⟨z1, z2, z3⟩ := okCmp_of hz
      obtain ⟨as, r1⟩ := Dp.reads I a x v (Dpm gh da) rx
      obtain ⟨bs, r2⟩ := Dp.reads I b y u (Dpm gh db) ry
      exact PySem.W.le_data r1 r2 z1 z2 (by omega) ⟨.bl _, H, I, rfl, q G H _ (Ext.refl gh) (.bl _)⟩
    · cases hp
theorem p2_gt (hu : X.A.units + 64 < cLine) : P2 X (compareOp .Gt) pGt := by
  intro pins s σ H x y v u Q I rx ry h
  obtain ⟨G, a, b, d, gh, da, db, hp, q⟩ := h
  unfold pGt at hp
  split at hp
  · cases hp
    cases dp_int da
    cases dp_int db
    exact op_gt pins s σ H _ _ v u Q I rx ry ⟨_, _, rfl, rfl, q G H _ (Ext.refl gh) (.bl _)⟩
  · split at hp
    · rename_i hz
      cases hp
      obtain ⟨z1, z2, z3⟩ := okCmp_of hz
      obtain ⟨as, r1⟩ := Dp.reads I a x v (Dpm gh da) rx
      obtain ⟨bs, r2⟩ := Dp.reads I b y u (Dpm gh db) ry
      exact PySem.W.gt_data r1 r2 z1 z2 (by omega) ⟨.bl _, H, I, rfl, q G H _ (Ext.refl gh) (.bl _)⟩
    · cases hp
theorem p2_ge (hu : X.A.units + 64 < cLine) : P2 X (compareOp .GtE) pGe := by
  intro pins s σ H x y v u Q I rx ry h
  obtain ⟨G, a, b, d, gh, da, db, hp, q⟩ := h
  unfold pGe at hp
  split at hp
  · cases hp
    cases dp_int da
    cases dp_int db
    exact op_ge pins s σ H _ _ v u Q I rx ry ⟨_, _, rfl, rfl, q G H _ (Ext.refl gh) (.bl _)⟩
  · split at hp
    · rename_i hz
      cases hp
      obtain ⟨z1, z2, z3⟩ := okCmp_of hz
      obtain ⟨as, r1⟩ := Dp.reads I a x v (Dpm gh da) rx
      obtain ⟨bs, r2⟩ := Dp.reads I b y u (Dpm gh db) ry
      exact PySem.W.ge_data r1 r2 z1 z2 (by omega) ⟨.bl _, H, I, rfl, q G H _ (Ext.refl gh) (.bl _)⟩
    · cases hp
theorem isN_dp {K : PySem.W.Frag} {G : Hp} {v : V} {d : PyData} (h : Dp K G v d) : decide (v = .non) = isN d := by
  cases h <;> rfl
theorem p2_is : P2 X (compareOp .Is) pIs := by
  intro pins s σ H x y v u Q I rx ry h
  obtain ⟨G, a, b, d, gh, da, db, hp, q⟩ := h
  unfold pIs at hp
  split at hp
  · cases hp
    cases dp_non db
    exact op_isN pins s σ H _ _ v u Q I rx ry ⟨rfl, by rw [isN_dp da]; exact q G H _ (Ext.refl gh) (.bl _)⟩
  · cases hp
theorem p2_isNot : P2 X (compareOp .IsNot) pIsNot := by
  intro pins s σ H x y v u Q I rx ry h
  obtain ⟨G, a, b, d, gh, da, db, hp, q⟩ := h
  unfold pIsNot at hp
  split at hp
  · cases hp
    cases dp_non db
    exact op_notN pins s σ H _ _ v u Q I rx ry ⟨rfl, by rw [isN_dp da]; exact q G H _ (Ext.refl gh) (.bl _)⟩
  · cases hp
theorem p2_in (hu : X.A.units + 64 < cLine) : P2 X (compareOp .In) pIn := by
  intro pins s σ H x y v u Q I rx ry h
  obtain ⟨G, a, b, d, gh, da, db, hp, q⟩ := h
  unfold pIn at hp
  split at hp
  · cases hp
    cases dp_str da
    cases dp_str db
    exact op_in_str pins s σ H _ _ v u Q I rx ry ⟨_, _, rfl, rfl, q G H _ (Ext.refl gh) (.bl _)⟩
  · split at hp
    · rename_i ds hz
      cases hp
      obtain ⟨as, r1⟩ := Dp.reads I a x v (Dpm gh da) rx
      obtain ⟨bs, r2⟩ := Dp.reads I _ y u (Dpm gh db) ry
      have pp := Dp_plain db
      rw [PyData.plain] at pp
      exact PySem.SeqAt.in_list_data r2 r1 pp (Dp_plain da) (by have := Nat.min_le_right (PyData.depthAll ds) a.depth; omega) ⟨.bl _, H, I, rfl, q G H _ (Ext.refl gh) (.bl _)⟩
    · cases hp
  · split at hp
    · rename_i ds hz
      cases hp
      obtain ⟨as, r1⟩ := Dp.reads I a x v (Dpm gh da) rx
      obtain ⟨bs, r2⟩ := Dp.reads I _ y u (Dpm gh db) ry
      have pp := Dp_plain db
      rw [PyData.plain] at pp
      exact PySem.SeqAt.in_tuple_data r2 r1 pp (Dp_plain da) (by have := Nat.min_le_right (PyData.depthAll ds) a.depth; omega) ⟨.bl _, H, I, rfl, q G H _ (Ext.refl gh) (.bl _)⟩
    · cases hp
  · cases hp
theorem p2_notIn (hu : X.A.units + 64 < cLine) : P2 X (compareOp .NotIn) pNotIn := by
  intro pins s σ H x y v u Q I rx ry h
  obtain ⟨G, a, b, d, gh, da, db, hp, q⟩ := h
  unfold pNotIn at hp
  split at hp
  · cases hp
    cases dp_str da
    cases dp_str db
    exact op_notin_str pins s σ H _ _ v u Q I rx ry ⟨_, _, rfl, rfl, q G H _ (Ext.refl gh) (.bl _)⟩
  · split at hp
    · rename_i ds hz
      cases hp
      obtain ⟨as, r1⟩ := Dp.reads I a x v (Dpm gh da) rx
      obtain ⟨bs, r2⟩ := Dp.reads I _ y u (Dpm gh db) ry
      have pp := Dp_plain db
      rw [PyData.plain] at pp
      exact PySem.SeqAt.notIn_list_data r2 r1 pp (Dp_plain da) (by have := Nat.min_le_right (PyData.depthAll ds) a.depth; omega) ⟨.bl _, H, I, rfl, q G H _ (Ext.refl gh) (.bl _)⟩
    · cases hp
  · split at hp
    · rename_i ds hz
      cases hp
      obtain ⟨as, r1⟩ := Dp.reads I a x v (Dpm gh da) rx
      obtain ⟨bs, r2⟩ := Dp.reads I _ y u (Dpm gh db) ry
      have pp := Dp_plain db
      rw [PyData.plain] at pp
      exact PySem.SeqAt.notIn_tuple_data r2 r1 pp (Dp_plain da) (by have := Nat.min_le_right (PyData.depthAll ds) a.depth; omega) ⟨.bl _, H, I, rfl, q G H _ (Ext.refl gh) (.bl _)⟩
    · cases hp
  · cases hp
theorem p1_neg : P1 X (unaryOp .USub) pNeg := by
  intro pins s σ H x v Q I rx h
  obtain ⟨G, a, d, gh, da, hp, q⟩ := h
  unfold pNeg at hp
  split at hp
  · cases hp
    cases dp_int da
    exact un_neg pins s σ H _ v Q I rx ⟨_, rfl, q G H _ (Ext.refl gh) (.int _)⟩
  · cases hp
/-! ### calls of built-ins -/
def pLen : List PyData → Option PyData
  | [.str x] => if x.length ≤ 1000000 then some (.int x.length) else none
  | [.list xs] => some (.int xs.length)
  | [.tuple xs] => some (.int xs.length)
  | _ => none
def pInt : List PyData → Option PyData
  | [.int i] => some (.int i)
  | [.bool b] => some (.int (if b then 1 else 0))
  | _ => none
def pAbs : List PyData → Option PyData
  | [.int i] => some (.int (if i < 0 then -i else i))
  | _ => none
def pMax2 : List PyData → Option PyData
  | [.int i, .int j] => some (.int (if j > i then j else i))
  | _ => none
def pMin2 : List PyData → Option PyData
  | [.int i, .int j] => some (.int (if j < i then j else i))
  | _ => none
def pTuple : List PyData → Option PyData
  | [.list xs] => some (.tuple xs)
  | [.tuple xs] => some (.tuple xs)
  | _ => none
def pList : List PyData → Option (List PyData)
  | [.list xs] => some xs
  | [.tuple xs] => some xs
  | _ => none
theorem dps_one {K : PySem.W.Frag} {G : Hp} {vs : List V} {d : PyData} (h : DpAll K G vs [d]) : ∃ v, vs = [v] ∧ Dp K G v d := by
  cases h with
  | cons h r => cases r; exact ⟨_, rfl, h⟩
theorem dps_two {K : PySem.W.Frag} {G : Hp} {vs : List V} {d e : PyData} (h : DpAll K G vs [d, e]) : ∃ v u, vs = [v, u] ∧ Dp K G v d ∧ Dp K G u e := by
  cases h with
  | cons h r => cases r with
    | cons h2 r => cases r; exact ⟨_, _, rfl, h, h2⟩
theorem pl_len : PL X (.builtin "len") pLen := by
  intro pins s σ H xs us Q I r h
  obtain ⟨G, as, d, gh, da, hp, q⟩ := h
  unfold pLen at hp
  split at hp
  · obtain ⟨v, rfl, dv⟩ := dps_one da
    cases dp_str dv
    split at hp
    · rename_i hz
      cases hp
      exact call_len pins s σ H _ us Q I r ⟨_, _, rfl, ⟨Nat.le_trans hz size_lt, rfl⟩, q G H _ (Ext.refl gh) (.int _)⟩
    · cases hp
  · obtain ⟨v, rfl, dv⟩ := dps_one da
    cases hp
    obtain ⟨a, ys, rfl, hs, rs⟩ := dp_lst dv
    exact call_len pins s σ H _ us Q I r ⟨_, _, rfl, .inl ⟨_, gh.seq hs, rfl⟩, by rw [DpAll.len rs]; exact q G H _ (Ext.refl gh) (.int _)⟩
  · obtain ⟨v, rfl, dv⟩ := dps_one da
    cases hp
    obtain ⟨a, ys, rfl, hs, rs⟩ := dp_tup dv
    exact call_len pins s σ H _ us Q I r ⟨_, _, rfl, .inr ⟨_, seqT gh hs, rfl⟩, by rw [DpAll.len rs]; exact q G H _ (Ext.refl gh) (.int _)⟩
  · cases hp
theorem pl_int : PL X (.type "int") pInt := by
  intro pins s σ H xs us Q I r h
  obtain ⟨G, as, d, gh, da, hp, q⟩ := h
  unfold pInt at hp
  split at hp
  · obtain ⟨v, rfl, dv⟩ := dps_one da
    cases dp_int dv
    cases hp
    exact call_int1 pins s σ H _ us Q I r (.inl ⟨_, rfl, q G H _ (Ext.refl gh) (.int _)⟩)
  · obtain ⟨v, rfl, dv⟩ := dps_one da
    cases dp_bl dv
    cases hp
    exact call_int1 pins s σ H _ us Q I r (.inr ⟨_, rfl, q G H _ (Ext.refl gh) (.int _)⟩)
  · cases hp
theorem pl_abs : PL X (.builtin "abs") pAbs := by
  intro pins s σ H xs us Q I r h
  obtain ⟨G, as, d, gh, da, hp, q⟩ := h
  unfold pAbs at hp
  split at hp
  · obtain ⟨v, rfl, dv⟩ := dps_one da
    cases dp_int dv
    cases hp
    exact call_abs pins s σ H _ us Q I r ⟨_, rfl, q G H _ (Ext.refl gh) (.int _)⟩
  · cases hp
theorem pl_max2 (hc : X.calm = true) : PL X (.builtin "max") pMax2 := by
  intro pins s σ H xs us Q I r h
  obtain ⟨G, as, d, gh, da, hp, q⟩ := h
  unfold pMax2 at hp
  split at hp
  · obtain ⟨v, u, rfl, dv, du⟩ := dps_two da
    cases dp_int dv
    cases dp_int du
    cases hp
    exact call_max2 hc pins s σ H _ us Q I r ⟨_, _, rfl, q G H _ (Ext.refl gh) (.int _)⟩
  · cases hp
theorem pl_min2 (hc : X.calm = true) : PL X (.builtin "min") pMin2 := by
  intro pins s σ H xs us Q I r h
  obtain ⟨G, as, d, gh, da, hp, q⟩ := h
  unfold pMin2 at hp
  split at hp
  · obtain ⟨v, u, rfl, dv, du⟩ := dps_two da
    cases dp_int dv
    cases dp_int du
    cases hp
    exact call_min2 hc pins s σ H _ us Q I r ⟨_, _, rfl, q G H _ (Ext.refl gh) (.int _)⟩
  · cases hp
theorem pl_tuple : PL X (.type "tuple") pTuple := by
  intro pins s σ H xs us Q I r h
  obtain ⟨G, as, d, gh, da, hp, q⟩ := h
  unfold pTuple at hp
  split at hp
  · obtain ⟨v, rfl, dv⟩ := dps_one da
    cases hp
    obtain ⟨a, ys, rfl, hs, rs⟩ := dp_lst dv
    refine call_tuple_of pins s σ H _ us Q I r ⟨_, _, rfl, .inl ⟨gh.seq hs, fun l hl => ?_⟩⟩
    obtain ⟨x1, x2⟩ := new_tup gh hl rs
    exact q _ _ _ x1 x2
  · obtain ⟨v, rfl, dv⟩ := dps_one da
    cases hp
    obtain ⟨a, ys, rfl, hs, rs⟩ := dp_tup dv
    exact call_tuple_of pins s σ H _ us Q I r ⟨_, _, rfl, .inr ⟨seqT gh hs, q G H _ (Ext.refl gh) (.tup hs rs)⟩⟩
  · cases hp
theorem po_list : PO' X (.type "list") pList := by
  intro pins s σ H xs us Q I r h
  obtain ⟨G, as, ds, gh, da, hp, q⟩ := h
  unfold pList at hp
  split at hp
  · obtain ⟨v, rfl, dv⟩ := dps_one da
    cases hp
    obtain ⟨a, ys, rfl, hs, rs⟩ := dp_lst dv
    refine call_list_of pins s σ H _ us Q I r ⟨_, _, rfl, .inl (gh.seq hs), fun l hl => ?_⟩
    exact q G _ l ys (Ext.heap gh (same_upd hl)) hl (gh.free hl) upd_same rs
  · obtain ⟨v, rfl, dv⟩ := dps_one da
    cases hp
    obtain ⟨a, ys, rfl, hs, rs⟩ := dp_tup dv
    refine call_list_of pins s σ H _ us Q I r ⟨_, _, rfl, .inr (seqT gh hs), fun l hl => ?_⟩
    exact q G _ l ys (Ext.heap gh (same_upd hl)) hl (gh.free hl) upd_same rs
  · cases hp
/-! bools in a list -/
def boolsOf : List PyData → Option (List Bool)
  | [] => some []
  | .bool b :: r => (boolsOf r).map (b :: ·)
  | _ => none
theorem boolsOf_map : ∀ (bs : List Bool), boolsOf (bs.map .bool) = some bs
  | [] => rfl
  | b :: r => by
    show (boolsOf (r.map .bool)).map (b :: ·) = _
    rw [boolsOf_map r]
    rfl
theorem bools_v {K : PySem.W.Frag} {G : Hp} : ∀ {vs : List V} {ds : List PyData} {bs : List Bool}, DpAll K G vs ds → boolsOf ds = some bs → vs = bs.map V.bl
  | _, _, _, .nil, h => by cases h; rfl
  | _, d :: ds, bs, .cons h1 r, h => by
    cases d with
    | bool b =>
      cases e : boolsOf ds with
      | none =>
        have h : (boolsOf ds).map (b :: ·) = some bs := h
        rw [e] at h
        cases h
      | some cs =>
        have h : (boolsOf ds).map (b :: ·) = some bs := h
        rw [e] at h
        cases h
        cases dp_bl h1
        rw [bools_v r e]
        rfl
    | _ => cases h
def pAll : List PyData → Option PyData
  | [.list xs] => (boolsOf xs).map fun bs => .bool (bs.all id)
  | _ => none
def pAny : List PyData → Option PyData
  | [.list xs] => (boolsOf xs).map fun bs => .bool (bs.any id)
  | _ => none
theorem pl_all (hc : X.calm = true) : PL X (.builtin "all") pAll := by
  intro pins s σ H xs us Q I r h
  obtain ⟨G, as, d, gh, da, hp, q⟩ := h
  unfold pAll at hp
  split at hp
  · rename_i ys
    obtain ⟨v, rfl, dv⟩ := dps_one da
    obtain ⟨a, zs, rfl, hs, rs⟩ := dp_lst dv
    cases e : boolsOf ys with
    | none =>
      rw [e] at hp
      cases hp
    | some bs =>
      rw [e] at hp
      cases hp
      cases bools_v rs e
      exact cr_all hc pins s σ H _ us Q I r ⟨_, _, rfl, gh.seq hs, q G H _ (Ext.refl gh) (.bl _)⟩
  · cases hp
theorem pl_any (hc : X.calm = true) : PL X (.builtin "any") pAny := by
  intro pins s σ H xs us Q I r h
  obtain ⟨G, as, d, gh, da, hp, q⟩ := h
  unfold pAny at hp
  split at hp
  · rename_i ys
    obtain ⟨v, rfl, dv⟩ := dps_one da
    obtain ⟨a, zs, rfl, hs, rs⟩ := dp_lst dv
    cases e : boolsOf ys with
    | none =>
      rw [e] at hp
      cases hp
    | some bs =>
      rw [e] at hp
      cases hp
      cases bools_v rs e
      exact cr_any hc pins s σ H _ us Q I r ⟨_, _, rfl, gh.seq hs, q G H _ (Ext.refl gh) (.bl _)⟩
  · cases hp
end
end Dl

set_option Elab.async false
set_option linter.all false
set_option maxRecDepth 100000
set_option maxHeartbeats 1000000
namespace Dl
open PySem L2
open Classical
/-! ### the least, the greatest; sorted -/
noncomputable def pMin1 : List PyData → Option PyData
  | [.list (x :: xs)] => if PySem.W.AlikeAll (x :: xs) ∧ PyData.depthAll (x :: xs) ≤ 60 then some (PySem.W.minD x xs) else none
  | _ => none
noncomputable def pMax1 : List PyData → Option PyData
  | [.list (x :: xs)] => if PySem.W.AlikeAll (x :: xs) ∧ PyData.depthAll (x :: xs) ≤ 60 then some (PySem.W.maxD x xs) else none
  | _ => none
noncomputable def pSorted : List PyData → Option (List PyData)
  | [.list xs] => if PySem.W.AllAlike xs ∧ PySem.W.Sortable xs ∧ (∀ d ∈ xs, d.depth ≤ 60) ∧ xs.length ≤ 1000000 then some (xs.mergeSort (PySem.W.dataLe false id)) else none
  | _ => none
theorem dp_same {X : Cx} {pins : List (Addr × Obj)} {σ : L2.St} {H : Hp} {s : Shared} {v : V} {u : Value} {d e : PyData} {as : List Addr} {h' : Heap} (I : Inv X pins σ H s) (hk : ∀ b o, s.heap.get? b = some o → h'.get? b = some o) (r : RelV v u) (hd : Dp X.K H v d) (he : Reads h' u e as) : d = e := by
  obtain ⟨bs, r1⟩ := Dp.reads I d v u hd r
  exact PySem.SeqAt.plain_unique d e u bs as (Dp_plain hd) (PySem.W.reads_keeps hk r1) he
section
variable {X : Cx}
theorem pl_min1 (hc : X.calm = true) (hu : X.A.units + 64 < cLine) : PL X (.builtin "min") pMin1 := by
  intro pins s σ H xs us Q I r h
  obtain ⟨G, as, d, gh, da, hp, q⟩ := h
  unfold pMin1 at hp
  split at hp
  · rename_i x ys
    split at hp
    · rename_i hz
      cases hp
      obtain ⟨v, rfl, dv⟩ := dps_one da
      obtain ⟨a, ws, rfl, hs, rs⟩ := dp_lst dv
      obtain ⟨u, rfl, ru⟩ := vals1 r
      cases ru
      obtain ⟨its, rv, pl, hl⟩ := I.list (gh.seq hs)
      obtain ⟨bs, hr⟩ := Dp.readsAll I _ _ _ (Dpms gh rs) rv
      refine PySem.W.min_list_data (I.ok.hd hc) pl.isList (by simpa using hr) hz.1 (by have := hz.2; omega) fun i v h' tk cs hi hrd hk => ?_
      have hi' : its[i]? = some v := by simpa using hi
      obtain ⟨wv, hw, rw'⟩ : ∃ wv, ws[i]? = some wv ∧ RelV wv v := by
        cases e : ws[i]? with
        | none =>
          rw [rv.none_of e] at hi'
          cases hi'
        | some wv =>
          obtain ⟨u, h1, h2⟩ := rv.get e
          rw [hi'] at h1
          cases h1
          exact ⟨wv, rfl, h2⟩
      obtain ⟨dd, hd1, hd2⟩ := DpAll.get' rs hw
      cases dp_same I hk rw' (Dpm gh hd2) hrd
      exact ⟨wv, H, I.kept (h' := h') (t' := tk) hk, rw', q G H _ (Ext.refl gh) hd2⟩
    · cases hp
  · cases hp
theorem pl_max1 (hc : X.calm = true) (hu : X.A.units + 64 < cLine) : PL X (.builtin "max") pMax1 := by
  intro pins s σ H xs us Q I r h
  obtain ⟨G, as, d, gh, da, hp, q⟩ := h
  unfold pMax1 at hp
  split at hp
  · rename_i x ys
    split at hp
    · rename_i hz
      cases hp
      obtain ⟨v, rfl, dv⟩ := dps_one da
      obtain ⟨a, ws, rfl, hs, rs⟩ := dp_lst dv
      obtain ⟨u, rfl, ru⟩ := vals1 r
      cases ru
      obtain ⟨its, rv, pl, hl⟩ := I.list (gh.seq hs)
      obtain ⟨bs, hr⟩ := Dp.readsAll I _ _ _ (Dpms gh rs) rv
      refine PySem.W.max_list_data (I.ok.hd hc) pl.isList (by simpa using hr) hz.1 (by have := hz.2; omega) fun i v h' tk cs hi hrd hk => ?_
      have hi' : its[i]? = some v := by simpa using hi
      obtain ⟨wv, hw, rw'⟩ : ∃ wv, ws[i]? = some wv ∧ RelV wv v := by
        cases e : ws[i]? with
        | none =>
          rw [rv.none_of e] at hi'
          cases hi'
        | some wv =>
          obtain ⟨u, h1, h2⟩ := rv.get e
          rw [hi'] at h1
          cases h1
          exact ⟨wv, rfl, h2⟩
      obtain ⟨dd, hd1, hd2⟩ := DpAll.get' rs hw
      cases dp_same I hk rw' (Dpm gh hd2) hrd
      exact ⟨wv, H, I.kept (h' := h') (t' := tk) hk, rw', q G H _ (Ext.refl gh) hd2⟩
    · cases hp
  · cases hp
theorem each_of {K : PySem.W.Frag} {G : Hp} : ∀ {vs : List V} {us : List Value} {ds : List PyData}, Vals vs us → DpAll K G vs ds → PySem.W.EachIs (fun u d => ∃ v, RelV v u ∧ Dp K G v d) us ds
  | _, _, _, .nil, .nil => .nil
  | _, _, _, .cons r t, .cons h k => .cons ⟨_, r, h⟩ (each_of t k)
theorem of_each {K : PySem.W.Frag} {G : Hp} : ∀ {us : List Value} {ds : List PyData}, PySem.W.EachIs (fun u d => ∃ v, RelV v u ∧ Dp K G v d) us ds → ∃ vs, Vals vs us ∧ DpAll K G vs ds
  | _, _, .nil => ⟨[], .nil, .nil⟩
  | _, _, .cons ⟨v, r, h⟩ t =>
    let ⟨vs, a, b⟩ := of_each t
    ⟨v :: vs, .cons r a, .cons h b⟩
theorem po_sorted (hu : X.A.units + 64 < cLine) : PO' X (.builtin "sorted") pSorted := by
  intro pins s σ H xs us Q I r h
  obtain ⟨G, as, ds, gh, da, hp, q⟩ := h
  unfold pSorted at hp
  split at hp
  · rename_i ys
    split at hp
    · rename_i hz
      cases hp
      obtain ⟨v, rfl, dv⟩ := dps_one da
      obtain ⟨a, ws, rfl, hs, rs⟩ := dp_lst dv
      obtain ⟨u, rfl, ru⟩ := vals1 r
      cases ru
      obtain ⟨its, rv, pl, hl⟩ := I.list (gh.seq hs)
      have em : ys.map (fun d => d) = ys := List.map_id' ys
      obtain ⟨hz1, hz2, hz3, hz4⟩ := hz
      have er : PySem.W.EachIs (fun u d => ∃ as, Reads s.heap u d as) its ys := (each_of rv (Dpms gh rs)).mono fun u d ⟨v, r, h⟩ => Dp.reads I d v u h r
      refine PySem.W.sorted_data (enc := fun d => d) (R := fun u d => ∃ v, RelV v u ∧ Dp X.K G v d) pl.isList (each_of rv rs) er (by rw [em]; exact hz1) (by rw [em]; exact hz2) (Nat.le_trans hz4 size_lt) (fun b hb => by have := hz3 b hb; omega) fun out hlen eo => ?_
      obtain ⟨vs', rv', dv'⟩ := of_each eo
      obtain ⟨c, hc⟩ := PyProof.Rows.sortedAll_at s.heap its out.toArray
      have hsz : vs'.length ≤ sizeLine := by rw [rv'.length, hlen]; exact Nat.le_trans hz4 size_lt
      have hn : H (s.heap.objs.size + 1) = none := I.hok.fresh (Nat.le_succ _)
      have J := I.laid (t' := s.toks) (h' := PyProof.Rows.sortedAll s.heap its out.toArray) (a := s.heap.objs.size + 1) (o := .lst vs') (fun _ _ => PyProof.Rows.sortedAll_old) (Nat.le_succ _) ⟨hsz, out, c, rv', hc⟩
      exact ⟨.ref _, _, J, rfl, q G _ _ vs' (Ext.heap gh (same_upd hn)) hn (gh.free hn) upd_same dv'⟩
    · cases hp
  · cases hp
/-! ### isinstance of a built-in class -/
def rIsi (K : PySem.W.Frag) (T : String) (p : PyData → Bool) : List V → Hp → VK → Prop := fun xs H Q => ∃ G x a, xs = [x, .ty T] ∧ Same G H ∧ Dp K G x a ∧ Q (.bl (p a)) H
theorem vals_isi {x : V} {T : String} {us : List Value} (r : Vals [x, .ty T] us) : ∃ u, us = [u, .type T] ∧ RelV x u := by
  cases r with
  | cons r t => cases t with
    | cons r2 t2 =>
      cases t2
      cases r2
      exact ⟨_, rfl, r⟩
theorem isi_bool : CallR X (.builtin "isinstance") (rIsi X.K "bool" PyData.isBool) := by
  intro pins s σ H xs us Q I r h
  obtain ⟨G, x, a, rfl, gh, d, q⟩ := h
  obtain ⟨u, rfl, ru⟩ := vals_isi r
  obtain ⟨as, r1⟩ := Dp.reads I a x u (Dpm gh d) ru
  exact PySem.W.isinstance_bool_data r1 fun tk _ => ⟨.bl _, H, I.tok tk, rfl, q⟩
theorem isi_int : CallR X (.builtin "isinstance") (rIsi X.K "int" PyData.isInt) := by
  intro pins s σ H xs us Q I r h
  obtain ⟨G, x, a, rfl, gh, d, q⟩ := h
  obtain ⟨u, rfl, ru⟩ := vals_isi r
  obtain ⟨as, r1⟩ := Dp.reads I a x u (Dpm gh d) ru
  exact PySem.W.isinstance_int_data r1 fun tk _ => ⟨.bl _, H, I.tok tk, rfl, q⟩
theorem isi_str : CallR X (.builtin "isinstance") (rIsi X.K "str" PyData.isStr) := by
  intro pins s σ H xs us Q I r h
  obtain ⟨G, x, a, rfl, gh, d, q⟩ := h
  obtain ⟨u, rfl, ru⟩ := vals_isi r
  obtain ⟨as, r1⟩ := Dp.reads I a x u (Dpm gh d) ru
  exact PySem.W.isinstance_str_data r1 fun tk _ => ⟨.bl _, H, I.tok tk, rfl, q⟩
theorem isi_list : CallR X (.builtin "isinstance") (rIsi X.K "list" PyData.isList) := by
  intro pins s σ H xs us Q I r h
  obtain ⟨G, x, a, rfl, gh, d, q⟩ := h
  obtain ⟨u, rfl, ru⟩ := vals_isi r
  obtain ⟨as, r1⟩ := Dp.reads I a x u (Dpm gh d) ru
  exact PySem.W.isinstance_list_data r1 fun tk _ => ⟨.bl _, H, I.tok tk, rfl, q⟩
theorem isi_tuple : CallR X (.builtin "isinstance") (rIsi X.K "tuple" PyData.isTuple) := by
  intro pins s σ H xs us Q I r h
  obtain ⟨G, x, a, rfl, gh, d, q⟩ := h
  obtain ⟨u, rfl, ru⟩ := vals_isi r
  obtain ⟨as, r1⟩ := Dp.reads I a x u (Dpm gh d) ru
  exact PySem.W.isinstance_tuple_data r1 fun tk _ => ⟨.bl _, H, I.tok tk, rfl, q⟩
def eIsi (p : PyData → Bool) (fa : Rho → Rs PyData) : Rho → Rs PyData := fun ρ => (fa ρ).andThen fun a ρ => .ok (.bool (p a)) ρ
theorem pd_isi {E : XK} {e : Expr} {fa : Rho → Rs PyData} {T : String} {x : Str} {p p2 pos : Pos} {f : PyData → Bool} (hc : CallR X (.builtin "isinstance") (rIsi X.K T f)) (hg : Gl X "isinstance") (hm : X.mg "isinstance" = none) (hgT : Gl X x) (hmT : X.mg x = none) (hvT : bootBuiltins x = some (.type T)) (ha : PD X E e fa)
    (hv : bootBuiltins "isinstance" = some (.builtin "isinstance") := by decide +kernel) (hxn : x ≠ "__name__" := by decide) (hdb : (x == ("__debug__" : Str)) = false := by decide)
    (he : starEach [e, .Name x p2] X.env = (false, eval e X.env) :: starEach [.Name x p2] X.env := by rfl) (he2 : starEach [.Name x p2] X.env = [(false, eval (.Name x p2) X.env)] := by rfl) (hpl : (backTo pos (starEach [.Name x p2] X.env)).any (·.1) = false := by rfl) :
    PD X E (.Call (.Name "isinstance" p) [e, .Name x p2] [] pos) (eIsi f fa) := by
  obtain ⟨t, h1, w1⟩ := ha
  refine ⟨_, pe_callB hc hg hm hv (pa_cons h1 (pa_cons (pe_bltn (v := .ty T) hgT hmT hvT rfl hxn hdb) pa_nil he2) he) (by decide) (by decide) he hpl, fun B G H σ ρ Q en w => ?_⟩
  refine w1 B G H σ ρ _ en (w.andThen.mono fun a ρ1 _ w' G1 H1 v s1 en1 d1 => ?_)
  exact ⟨G1, v, a, rfl, en1.gh, d1, w' G1 H1 _ s1 en1 (.bl _)⟩
/-! ### calls of built-in functions and classes -/
section
variable {E : XK} {x : Str} {p pos : Pos} {e : Expr} {es : List Expr} {fs : Rho → Rs (List PyData)} {id T : String}
theorem pd_callB {pf : List PyData → Option PyData} (hc : PL X (.builtin id) pf) (hg : Gl X x) (hm : X.mg x = none) (hv : bootBuiltins x = some (.builtin id)) (ha : PDA X E (e :: es) fs) (hn : x ≠ "__name__" := by decide) (hdb : (x == ("__debug__" : Str)) = false := by decide)
    (he : starEach (e :: es) X.env = (false, eval e X.env) :: starEach es X.env := by rfl) (hpl : (backTo pos (starEach es X.env)).any (·.1) = false := by rfl) : PD X E (.Call (.Name x p) (e :: es) [] pos) (eCall pf fs) := by
  obtain ⟨⟨t, h1, w1⟩, _⟩ := ha
  refine ⟨_, L2.pe_callB hc hg hm hv h1 hn hdb he hpl, fun B G H σ ρ Q en w => ?_⟩
  refine w1 B G H σ ρ _ en (w.andThen.mono fun ds ρ1 _ w' G1 H1 vs s1 en1 d1 => ?_)
  unfold opt at w'
  split at w'
  · rename_i d hd
    exact ⟨G1, ds, d, en1.gh, d1, hd, ext_end (mg := X.mg) s1 en1 w'⟩
  · exact w'.elim
theorem pd_callTy {pf : List PyData → Option PyData} (hc : PL X (.type T) pf) (hg : Gl X x) (hm : X.mg x = none) (hv : bootBuiltins x = some (.type T)) (ha : PDA X E (e :: es) fs) (hn : x ≠ "__name__" := by decide) (hdb : (x == ("__debug__" : Str)) = false := by decide)
    (he : starEach (e :: es) X.env = (false, eval e X.env) :: starEach es X.env := by rfl) (hpl : (backTo pos (starEach es X.env)).any (·.1) = false := by rfl) : PD X E (.Call (.Name x p) (e :: es) [] pos) (eCall pf fs) := by
  obtain ⟨⟨t, h1, w1⟩, _⟩ := ha
  refine ⟨_, L2.pe_callTy hc hg hm hv h1 hn hdb he hpl, fun B G H σ ρ Q en w => ?_⟩
  refine w1 B G H σ ρ _ en (w.andThen.mono fun ds ρ1 _ w' G1 H1 vs s1 en1 d1 => ?_)
  unfold opt at w'
  split at w'
  · rename_i d hd
    exact ⟨G1, ds, d, en1.gh, d1, hd, ext_end (mg := X.mg) s1 en1 w'⟩
  · exact w'.elim
theorem not_own {K : PySem.W.Frag} {B : Bs} {G H : Hp} {σ : L2.St} {ρ : Rho} (en : EnvAt K B G H σ ρ) {p : Addr} (hp : H p = none) : ∀ j, ¬ OwnAt ρ σ j p := fun j ⟨b, es, o1, o2⟩ => by
  obtain ⟨q, us, z1, z2, z3, _⟩ := en.ownv o1
  rw [o2] at z1
  cases z1
  rw [hp] at z3
  cases z3
theorem pdo_callB {pf : List PyData → Option (List PyData)} (hc : PO' X (.builtin id) pf) (hg : Gl X x) (hm : X.mg x = none) (hv : bootBuiltins x = some (.builtin id)) (ha : PDA X E (e :: es) fs) (hn : x ≠ "__name__" := by decide) (hdb : (x == ("__debug__" : Str)) = false := by decide)
    (he : starEach (e :: es) X.env = (false, eval e X.env) :: starEach es X.env := by rfl) (hpl : (backTo pos (starEach es X.env)).any (·.1) = false := by rfl) : PDO X E (.Call (.Name x p) (e :: es) [] pos) (eCallO pf fs) := by
  obtain ⟨⟨t, h1, w1⟩, _⟩ := ha
  refine ⟨_, L2.pe_callB hc hg hm hv h1 hn hdb he hpl, fun B G H σ ρ Q en w => ?_⟩
  refine w1 B G H σ ρ _ en (w.andThen.mono fun ds ρ1 _ w' G1 H1 vs s1 en1 d1 => ?_)
  unfold opt at w'
  split at w'
  · rename_i d hd
    exact ⟨G1, ds, d, en1.gh, d1, hd, fun G' H' q us xx n1 n2 n3 n4 => w' G' H' q us (s1.trans xx.g) (en1.ext xx) n2 n3 n4 (en1.fresh n1) (not_own en1 n1) fun j h => en1.lv j q h n1⟩
  · exact w'.elim
theorem pdo_callTy {pf : List PyData → Option (List PyData)} (hc : PO' X (.type T) pf) (hg : Gl X x) (hm : X.mg x = none) (hv : bootBuiltins x = some (.type T)) (ha : PDA X E (e :: es) fs) (hn : x ≠ "__name__" := by decide) (hdb : (x == ("__debug__" : Str)) = false := by decide)
    (he : starEach (e :: es) X.env = (false, eval e X.env) :: starEach es X.env := by rfl) (hpl : (backTo pos (starEach es X.env)).any (·.1) = false := by rfl) : PDO X E (.Call (.Name x p) (e :: es) [] pos) (eCallO pf fs) := by
  obtain ⟨⟨t, h1, w1⟩, _⟩ := ha
  refine ⟨_, L2.pe_callTy hc hg hm hv h1 hn hdb he hpl, fun B G H σ ρ Q en w => ?_⟩
  refine w1 B G H σ ρ _ en (w.andThen.mono fun ds ρ1 _ w' G1 H1 vs s1 en1 d1 => ?_)
  unfold opt at w'
  split at w'
  · rename_i d hd
    exact ⟨G1, ds, d, en1.gh, d1, hd, fun G' H' q us xx n1 n2 n3 n4 => w' G' H' q us (s1.trans xx.g) (en1.ext xx) n2 n3 n4 (en1.fresh n1) (not_own en1 n1) fun j h => en1.lv j q h n1⟩
  · exact w'.elim
end
/-! ### items, slices -/
def pIx : PyData → PyData → Option PyData
  | .list xs, .int i => atI xs i
  | .tuple xs, .int i => atI xs i
  | .str z, .int i => if z.length ≤ 1000000 then (atI z.cps.toList i).map fun c => .str ⟨#[c]⟩ else none
  | _, _ => none
theorem atI_dp {K : PySem.W.Frag} {G : Hp} {vs : List V} {ds : List PyData} {i : Int} {d : PyData} (r : DpAll K G vs ds) (h : atI ds i = some d) : ∃ v, atI vs i = some v ∧ Dp K G v d := by
  unfold atI at h ⊢
  rw [DpAll.len r]
  cases e : ixN ds.length i with
  | none =>
    rw [e] at h
    cases h
  | some j =>
    rw [e] at h
    have h : ds[j]? = some d := h
    obtain ⟨v, h1, h2⟩ := DpAll.get r h
    exact ⟨v, h1, h2⟩
theorem pd_ix {E : XK} {a b : Expr} {fa fb : Rho → Rs PyData} {pos : Pos} (ha : PD X E a fa) (hb : PD X E b fb) (hs : PlainIx b := by exact fun _ _ => rfl) : PD X E (.Subscript a b pos) (eBin pIx fa fb) := by
  obtain ⟨t1, h1, w1⟩ := ha
  obtain ⟨t2, h2, w2⟩ := hb
  refine ⟨_, pe_ix ix_seq h1 h2 hs, fun B G H σ ρ Q en w => ?_⟩
  refine w1 B G H σ ρ _ en (w.andThen.mono fun a ρ1 _ w' G1 H1 v s1 en1 d1 => ?_)
  refine w2 B G1 H1 σ ρ1 _ en1 (w'.andThen.mono fun b ρ2 _ w'' G2 H2 u s2 en2 d2 => ?_)
  unfold opt at w''
  split at w''
  · rename_i d hd
    have d1 := Dpm s2 d1
    unfold pIx at hd
    split at hd
    · obtain ⟨a1, xs, rfl, g1, r1⟩ := dp_lst d1
      cases dp_int d2
      obtain ⟨z, e1, e2⟩ := atI_dp r1 hd
      exact .inl ⟨_, xs, _, z, rfl, rfl, en2.gh.seq g1, e1, w'' G2 H2 z (s1.trans s2) en2 e2⟩
    · obtain ⟨a1, xs, rfl, g1, r1⟩ := dp_tup d1
      cases dp_int d2
      obtain ⟨z, e1, e2⟩ := atI_dp r1 hd
      exact .inr (.inl ⟨_, xs, _, z, rfl, rfl, seqT en2.gh g1, e1, w'' G2 H2 z (s1.trans s2) en2 e2⟩)
    · cases dp_str d1
      cases dp_int d2
      split at hd
      · rename_i hz
        obtain ⟨c, e, rfl⟩ := Option.map_eq_some_iff.mp hd
        exact .inr (.inr ⟨_, _, c, rfl, rfl, Nat.le_trans hz size_lt, e, w'' G2 H2 _ (s1.trans s2) en2 (.str _)⟩)
      · cases hd
    · cases hd
  · exact w''.elim
end
end Dl

set_option Elab.async false
set_option linter.all false
set_option maxRecDepth 100000
set_option maxHeartbeats 1000000
namespace Dl
open PySem L2
/-! ### a new beginning -/
/-- behind code that may have changed the list at p alone -/
structure ExtP (p : Addr) (G H G' H' : Hp) : Prop where
  g : Same G G'
  h : ∀ b o, b ≠ p → H b = some o → H' b = some o
  gh : Same G' H'
  nw : ∀ b, H b ≠ none → G b = none → G' b = none
section
variable {K : PySem.W.Frag} {B : Bs} {G H G' H' : Hp} {σ σ' : L2.St} {ρ ρ' : Rho}
theorem EnvAt.extP (e : EnvAt K B G H σ ρ) {i : Nat} {b : Bool} {ds es : List PyData} {p : Addr} {ws : List V} (h : ρ[i]? = some (.own b ds)) (hp : σ[i]? = some (some (V.ref p))) (x : ExtP p G H G' H') (hw : H' p = some (.lst ws)) (hd : DpAll K G' ws es) :
    EnvAt K B G' H' σ (ρ.set i (.own b es)) := by
  obtain ⟨p', vs, h1, h2, h3, h4, h5⟩ := e.ownv h
  rw [hp] at h1
  cases h1
  have hi : i < ρ.length := (List.getElem?_eq_some_iff.mp h).1
  have aux : ∀ j q, OwnAt (ρ.set i (.own b es)) σ j q → OwnAt ρ σ j q := fun j q ⟨c, fs, e1, e2⟩ => by
    by_cases hj : i = j
    · subst hj
      exact ⟨b, ds, h, e2⟩
    · rw [List.getElem?_set_ne hj] at e1
      exact ⟨c, fs, e1, e2⟩
  have gp : G' p = none := x.nw p (some_ne h3) h2
  refine ⟨by rw [List.length_set]; exact e.len, e.gg.trans x.g, x.gh, fun c o q1 q2 => ?_, fun c q1 q2 => x.nw c (e.live q1) (e.nw c q1 q2), fun j c q => ?_, fun j s q => ?_, fun j k q q1 q2 => e.ap j k q (aux j q q1) (aux k q q2), fun q hq => ?_⟩
  · refine x.h c o (fun z => ?_) (e.fr c o q1 q2)
    subst z
    cases b with
    | true => exact q2 i h5
    | false =>
      have h5 : B.H0 c = none := h5
      rw [h5] at q1
      cases q1
  · by_cases hc : c = p
    · subst hc
      rw [hw]
      exact fun z => nomatch z
    · obtain ⟨o, ho⟩ := ne_some (e.lv j c q)
      rw [x.h c o hc ho]
      exact fun z => nomatch z
  · by_cases hj : i = j
    · subst hj
      rw [List.getElem?_set_self hi] at q
      cases q
      exact ⟨p, ws, hp, gp, hw, hd, h5⟩
    · rw [List.getElem?_set_ne hj] at q
      have z := e.sl j s q
      cases s with
      | non => trivial
      | sh d =>
        obtain ⟨v, z1, z2⟩ := z
        exact ⟨v, z1, Dpm x.g z2⟩
      | raw v => exact z
      | own c fs =>
        obtain ⟨r, us, z1, z2, z3, z4, z5⟩ := z
        have : r ≠ p := fun y => by
          subst y
          exact hj (e.ap i j r ⟨b, ds, h, hp⟩ ⟨c, fs, q, z1⟩)
        exact ⟨r, us, z1, x.nw r (some_ne z3) z2, x.h r _ this z3, Dpms x.g z4, z5⟩
  · obtain ⟨t1, t2, t3⟩ := e.tb q hq
    exact ⟨tab_but t1 h3 x.h, x.nw _ (tab_ne t1) t2, t3⟩
/-- the names vs forgotten -/
def wipeR (vs : List Nat) (ρ : Rho) : Rho := ρ.mapIdx fun i s => if i ∈ vs then .non else s
/-- the names as they are behind a block that had its own vs -/
def unwipeR (vs : List Nat) (ρ ρ' : Rho) : Rho := ρ'.mapIdx fun i s => if i ∈ vs then (match ρ[i]? with | some (.sh d) => .sh d | some (.raw v) => .raw v | _ => .non) else s
theorem wipeR_at {vs : List Nat} {i : Nat} {s : Slot} (h : (wipeR vs ρ)[i]? = some s) : ∃ s0, ρ[i]? = some s0 ∧ s = if i ∈ vs then .non else s0 := by
  unfold wipeR at h
  rw [List.getElem?_mapIdx] at h
  obtain ⟨s0, h1, h2⟩ := Option.map_eq_some_iff.mp h
  exact ⟨s0, h1, h2.symm⟩
theorem unwipeR_at {vs : List Nat} {i : Nat} {s : Slot} (h : (unwipeR vs ρ ρ')[i]? = some s) : ∃ s0, ρ'[i]? = some s0 ∧ s = if i ∈ vs then (match ρ[i]? with | some (.sh d) => .sh d | some (.raw v) => .raw v | _ => .non) else s0 := by
  unfold unwipeR at h
  rw [List.getElem?_mapIdx] at h
  obtain ⟨s0, h1, h2⟩ := Option.map_eq_some_iff.mp h
  exact ⟨s0, h1, h2.symm⟩
theorem EnvAt.wiped (e : EnvAt K B G H σ ρ) (vs : List Nat) : EnvAt K B G H (wipe σ vs) (wipeR vs ρ) := by
  have key : ∀ i p, OwnAt (wipeR vs ρ) (wipe σ vs) i p → OwnAt ρ σ i p := fun i p ⟨b, ds, h1, h2⟩ => by
    obtain ⟨s0, h3, h4⟩ := wipeR_at h1
    by_cases hi : i ∈ vs
    · rw [if_pos hi] at h4
      cases h4
    · rw [if_neg hi] at h4
      subst h4
      exact ⟨b, ds, h3, by rw [← wipe_out hi]; exact h2⟩
  refine ⟨by rw [wipe_length, e.len]; unfold wipeR; rw [List.length_mapIdx], e.gg, e.gh, e.fr, e.nw, e.lv, fun i s h => ?_, fun i j p h1 h2 => e.ap i j p (key i p h1) (key j p h2), e.tb⟩
  obtain ⟨s0, h3, h4⟩ := wipeR_at h
  by_cases hi : i ∈ vs
  · rw [if_pos hi] at h4
    subst h4
    trivial
  · rw [if_neg hi] at h4
    subst h4
    rw [wipe_out hi]
    exact e.sl i _ h3
theorem EnvAt.unwiped (e : EnvAt K B G H σ ρ) {vs : List Nat} (s : Same G G') (e' : EnvAt K B G' H' (wipe σ vs) ρ') : EnvAt K B G' H' σ (unwipeR vs ρ ρ') := by
  have key : ∀ i p, OwnAt (unwipeR vs ρ ρ') σ i p → OwnAt ρ' (wipe σ vs) i p := fun i p ⟨b, ds, h1, h2⟩ => by
    obtain ⟨s0, h3, h4⟩ := unwipeR_at h1
    by_cases hi : i ∈ vs
    · rw [if_pos hi] at h4
      split at h4 <;> cases h4
    · rw [if_neg hi] at h4
      subst h4
      exact ⟨b, ds, h3, by rw [wipe_out hi]; exact h2⟩
  refine ⟨by rw [← wipe_length σ vs, e'.len]; unfold unwipeR; rw [List.length_mapIdx], e'.gg, e'.gh, e'.fr, e'.nw, e'.lv, fun i s0 h => ?_, fun i j p h1 h2 => e'.ap i j p (key i p h1) (key j p h2), e'.tb⟩
  obtain ⟨s1, h3, h4⟩ := unwipeR_at h
  by_cases hi : i ∈ vs
  · rw [if_pos hi] at h4
    subst h4
    split
    · rename_i d q
      obtain ⟨v, z1, z2⟩ := e.shv q
      exact ⟨v, z1, Dpm s z2⟩
    · rename_i v q
      exact e.sl i _ q
    · trivial
  · rw [if_neg hi] at h4
    subst h4
    have z := e'.sl i _ h3
    rw [wipe_out hi] at z
    exact z
/-- an object that is not touched meanwhile -/
abbrev Bs.keep (B : Bs) (D : Addr) (o : HO) : Bs := ⟨B.G0, upd B.H0 D o, B.P0, B.T⟩
theorem EnvAt.keep (e : EnvAt K B G H σ ρ) {D : Addr} {o : HO} (hG : G D = none) (hD : H D = some o) (hn : ∀ j, ¬ OwnAt ρ σ j D) : EnvAt K (B.keep D o) G H σ ρ := by
  refine ⟨e.len, e.gg, e.gh, fun b u h1 h2 => ?_, fun b h1 h2 => ?_, e.lv, fun i s h => ?_, e.ap, e.tb⟩
  · by_cases hb : b = D
    · subst hb
      rw [show (B.keep b o).H0 b = some o from upd_same] at h1
      cases h1
      exact hD
    · exact e.fr b u (by rw [← show (B.keep D o).H0 b = B.H0 b from upd_ne hb]; exact h1) h2
  · by_cases hb : b = D
    · rw [hb]
      exact hG
    · exact e.nw b (by rw [← show (B.keep D o).H0 b = B.H0 b from upd_ne hb]; exact h1) h2
  · have z := e.sl i s h
    cases s with
    | own b ds =>
      obtain ⟨p, us, z1, z2, z3, z4, z5⟩ := z
      refine ⟨p, us, z1, z2, z3, z4, ?_⟩
      cases b with
      | true => exact z5
      | false =>
        have hp : p ≠ D := fun q => hn i ⟨false, ds, h, q ▸ z1⟩
        show upd B.H0 D o p = none
        rw [upd_ne hp]
        exact z5
    | _ => exact z
theorem EnvAt.unkeep {D : Addr} {o : HO} (e : EnvAt K (B.keep D o) G H σ ρ) (h0 : B.H0 D = none) (hg : B.G0 D = none) (hp : ∀ j, ¬ B.P0 j D) : EnvAt K B G H σ ρ ∧ H D = some o ∧ G D = none ∧ ∀ j, ¬ OwnAt ρ σ j D := by
  have hD : (B.keep D o).H0 D = some o := upd_same
  have hH : H D = some o := e.fr D o hD hp
  have hG : G D = none := e.nw D (some_ne hD) hg
  refine ⟨⟨e.len, e.gg, e.gh, fun b u h1 h2 => ?_, fun b h1 h2 => ?_, e.lv, fun i s h => ?_, e.ap, e.tb⟩, hH, hG, fun j ⟨b, ds, g1, g2⟩ => ?_⟩
  · have hb : b ≠ D := fun z => by rw [z, h0] at h1; cases h1
    exact e.fr b u (by rw [show (B.keep D o).H0 b = B.H0 b from upd_ne hb]; exact h1) h2
  · have hb : b ≠ D := fun z => by rw [z, h0] at h1; exact h1 rfl
    exact e.nw b (by rw [show (B.keep D o).H0 b = B.H0 b from upd_ne hb]; exact h1) h2
  · have z := e.sl i s h
    cases s with
    | own b ds =>
      obtain ⟨p, us, z1, z2, z3, z4, z5⟩ := z
      refine ⟨p, us, z1, z2, z3, z4, ?_⟩
      cases b with
      | true => exact z5
      | false =>
        have z5 : upd B.H0 D o p = none := z5
        have hp : p ≠ D := fun q => by rw [q, upd_same] at z5; cases z5
        rw [upd_ne hp] at z5
        exact z5
    | _ => exact z
  · obtain ⟨p, us, z1, z2, z3, z4, z5⟩ := e.ownv g1
    rw [g2] at z1
    cases z1
    cases b with
    | true => exact hp j z5
    | false =>
      have z5 : upd B.H0 D o D = none := z5
      rw [upd_same] at z5
      cases z5
/-- a look: own lists are read as data, nothing of them is kept -/
def Slot.see : Slot → Slot
  | .own _ ds => .sh (.list ds)
  | s => s
theorem see_at {i : Nat} {s : Slot} (h : (ρ.map Slot.see)[i]? = some s) : ∃ s0, ρ[i]? = some s0 ∧ s = s0.see := by
  rw [List.getElem?_map] at h
  obtain ⟨s0, h1, h2⟩ := Option.map_eq_some_iff.mp h
  exact ⟨s0, h1, h2.symm⟩
def seeB (G H : Hp) : Bs := ⟨G, H, fun _ _ => False, []⟩
/-- the shared part with the own lists -/
noncomputable def seeG (G H : Hp) (ρ : Rho) (σ : L2.St) : Hp := fun b => open Classical in if ∃ i, OwnAt ρ σ i b then H b else G b
theorem EnvAt.look (e : EnvAt K B G H σ ρ) : Same G (seeG G H ρ σ) ∧ EnvAt K (seeB (seeG G H ρ σ) H) (seeG G H ρ σ) H σ (ρ.map Slot.see) := by
  have sg : Same G (seeG G H ρ σ) := fun b o h => by
    unfold seeG
    split
    · exact e.gh b o h
    · exact h
  have gh : Same (seeG G H ρ σ) H := fun b o h => by
    unfold seeG at h
    split at h
    · exact h
    · exact e.gh b o h
  have noOwn : ∀ i p, ¬ OwnAt (ρ.map Slot.see) σ i p := fun i p ⟨b, ds, h1, _⟩ => by
    obtain ⟨s0, _, h2⟩ := see_at h1
    cases s0 <;> cases h2
  refine ⟨sg, by rw [List.length_map]; exact e.len, Same.refl _, gh, fun b o h _ => h, fun b _ h => h, fun i p h => h.elim, fun i s h => ?_, fun i j p h1 _ => absurd h1 (noOwn i p), fun p hp => nomatch hp⟩
  obtain ⟨s0, h1, h2⟩ := see_at h
  have z := e.sl i s0 h1
  cases s0 with
  | non => subst h2; trivial
  | raw v => subst h2; exact z
  | sh d =>
    subst h2
    obtain ⟨v, z1, z2⟩ := z
    exact ⟨v, z1, Dpm sg z2⟩
  | own b ds =>
    subst h2
    obtain ⟨p, us, z1, z2, z3, z4, z5⟩ := z
    refine ⟨_, z1, .lst (.of ?_) (Dpms sg z4)⟩
    unfold seeG
    rw [if_pos ⟨i, b, ds, h1, z1⟩]
    exact z3
theorem EnvAt.unlook (e : EnvAt K B G H σ ρ) (x : Same H H') : EnvAt K B G H' σ ρ := e.ext (Ext.heap e.gh x)
end
def atom : PyData → Bool
  | .none => true
  | .bool _ => true
  | .int _ => true
  | .str _ => true
  | _ => false
theorem atom_dp {K : PySem.W.Frag} {G G' : Hp} {v : V} {d : PyData} (h : atom d = true) (q : Dp K G v d) : Dp K G' v d := by
  cases q with
  | non => exact .non
  | bl b => exact .bl b
  | int i => exact .int i
  | str x => exact .str x
  | lst _ _ => cases h
  | tup _ _ => cases h
/-- the value of an expression that only reads, an atom -/
def eLook (f : Rho → Rs PyData) : Rho → Rs PyData := fun ρ => match f (ρ.map Slot.see) with
  | .ok d _ => if atom d = true then .ok d ρ else .bad
  | _ => .bad
theorem pd_look {X : Cx} {E : XK} {e : Expr} {f : Rho → Rs PyData} (h : PD X E e f) : PD X E e (eLook f) := by
  obtain ⟨t, h1, w1⟩ := h
  refine ⟨_, h1, fun B G H σ ρ Q en w => ?_⟩
  obtain ⟨sg, en2⟩ := en.look
  refine w1 _ _ H σ _ Q en2 ?_
  unfold eLook at w
  split at w
  · rename_i d ρ' hd
    rw [hd]
    split at w
    · rename_i ha
      intro G' H' v s' e' d'
      have hh : Same H H' := fun b o h => e'.fr b o h fun _ z => z
      exact w G H' v (Same.refl _) (en.unlook hh) (atom_dp ha d')
    · exact w.elim
  · exact w.elim
end Dl

set_option Elab.async false
set_option linter.all false
set_option maxRecDepth 100000
set_option maxHeartbeats 1000000
namespace Dl
open PySem L2
/-! ### statements -/
inductive Fl where
  | nx
  | rt (d : PyData)
  | bk
  | ct
  | ro (ds : List PyData)
def KS (K : PySem.W.Frag) (B : Bs) (G : Hp) (D : Ends) : Fl → Rho → Prop
  | .nx, ρ' => ∀ G' H' σ', Same G G' → EnvAt K B G' H' σ' ρ' → D.nx σ' H'
  | .rt d, ρ' => ∀ G' H' σ' v, Same G G' → EnvAt K B G' H' σ' ρ' → Dp K G' v d → D.rt v H'
  | .bk, ρ' => ∀ G' H' σ', Same G G' → EnvAt K B G' H' σ' ρ' → D.bk σ' H'
  | .ct, ρ' => ∀ G' H' σ', Same G G' → EnvAt K B G' H' σ' ρ' → D.ct σ' H'
  | .ro ds, ρ' => ∀ G' H' σ' p vs, Same G G' → EnvAt K B G' H' σ' ρ' → G' p = none → H' p = some (.lst vs) → DpAll K G' vs ds → B.H0 p = none → D.rt (V.ref p) H'
theorem KS.grow {K : PySem.W.Frag} {B : Bs} {G G1 : Hp} {D : Ends} {fl : Fl} {ρ : Rho} (s : Same G G1) (h : KS K B G D fl ρ) : KS K B G1 D fl ρ := by
  cases fl with
  | nx => exact fun G' H' σ' s' e => h G' H' σ' (s.trans s') e
  | rt d => exact fun G' H' σ' v s' e q => h G' H' σ' v (s.trans s') e q
  | bk => exact fun G' H' σ' s' e => h G' H' σ' (s.trans s') e
  | ct => exact fun G' H' σ' s' e => h G' H' σ' (s.trans s') e
  | ro ds => exact fun G' H' σ' p vs s' e a b c d => h G' H' σ' p vs (s.trans s') e a b c d
def PDS (X : Cx) (E : XK) (st : Stmt) (f : Rho → Rs Fl) : Prop := ∃ t, PS X st t ∧ ∀ B G H σ ρ D, EnvAt X.K B G H σ ρ → Want X.mg B E (f ρ) (KS X.K B G D) → t D σ H
def PDs (X : Cx) (E : XK) (st : List Stmt) (f : Rho → Rs Fl) : Prop := ∃ t, PSs X st t ∧ ∀ B G H σ ρ D, EnvAt X.K B G H σ ρ → Want X.mg B E (f ρ) (KS X.K B G D) → t D σ H
def sNil : Rho → Rs Fl := fun ρ => .ok .nx ρ
def thenS (g : Rho → Rs Fl) : Fl → Rho → Rs Fl
  | .nx, ρ => g ρ
  | fl, ρ => .ok fl ρ
def sSeq (f g : Rho → Rs Fl) : Rho → Rs Fl := fun ρ => (f ρ).andThen (thenS g)
def sRet (f : Rho → Rs PyData) : Rho → Rs Fl := fun ρ => (f ρ).andThen fun d ρ => .ok (.rt d) ρ
def sSet (i : Nat) (f : Rho → Rs PyData) : Rho → Rs Fl := fun ρ => (f ρ).andThen fun d ρ => .ok .nx (ρ.set i (.sh d))
def sSetO (i : Nat) (f : Rho → Rs (List PyData)) : Rho → Rs Fl := fun ρ => (f ρ).andThen fun ds ρ => .ok .nx (ρ.set i (.own false ds))
def sExpr (f : Rho → Rs PyData) : Rho → Rs Fl := fun ρ => (f ρ).andThen fun _ ρ => .ok .nx ρ
def sIf (t : Rho → Rs Bool) (a b : Rho → Rs Fl) : Rho → Rs Fl := fun ρ => (t ρ).andThen fun k ρ => if k = true then a ρ else b ρ
def sBreak : Rho → Rs Fl := fun ρ => .ok .bk ρ
def sRetO (f : Rho → Rs (List PyData)) : Rho → Rs Fl := fun ρ => (f ρ).andThen fun ds ρ => .ok (.ro ds) ρ
def sCont : Rho → Rs Fl := fun ρ => .ok .ct ρ
section
variable {X : Cx} {E : XK} {pos : Pos} {e : Expr} {st : Stmt} {rest : List Stmt} {f g : Rho → Rs Fl} {fe : Rho → Rs PyData} {fo : Rho → Rs (List PyData)} {ft : Rho → Rs Bool}
theorem pds_nil : PDs X E [] sNil := ⟨_, pss_nil, fun B G H σ ρ D en w => w G H σ (Same.refl _) en⟩
theorem pds_cons (h1 : PDS X E st f) (h2 : PDs X E rest g) : PDs X E (st :: rest) (sSeq f g) := by
  obtain ⟨t1, p1, w1⟩ := h1
  obtain ⟨t2, p2, w2⟩ := h2
  refine ⟨_, pss_cons p1 p2, fun B G H σ ρ D en w => ?_⟩
  refine w1 B G H σ ρ _ en (w.andThen.mono fun fl ρ1 _ w' => ?_)
  cases fl with
  | nx => exact fun G1 H1 σ1 s1 en1 => w2 B G1 H1 σ1 ρ1 D en1 (Want.mono (show Want X.mg B E (g ρ1) _ from w') fun fl ρ2 _ q => q.grow s1)
  | rt d => exact w'
  | bk => exact w'
  | ct => exact w'
  | ro ds => exact w'
theorem pds_one (h1 : PDS X E st f) : PDs X E [st] f := by
  obtain ⟨t1, p1, w1⟩ := h1
  exact ⟨_, pss_one p1, w1⟩
theorem pds_pass : PDS X E (.Pass pos) sNil := ⟨_, ps_pass, fun B G H σ ρ D en w => w G H σ (Same.refl _) en⟩
theorem pds_break : PDS X E (.Break pos) sBreak := ⟨_, ps_break, fun B G H σ ρ D en w => w G H σ (Same.refl _) en⟩
theorem pds_cont : PDS X E (.Continue pos) sCont := ⟨_, ps_continue, fun B G H σ ρ D en w => w G H σ (Same.refl _) en⟩
theorem pds_ret (h : PD X E e fe) : PDS X E (.Return (some e) pos) (sRet fe) := by
  obtain ⟨t1, p1, w1⟩ := h
  refine ⟨_, ps_ret p1, fun B G H σ ρ D en w => ?_⟩
  exact w1 B G H σ ρ _ en (w.andThen.mono fun d ρ1 _ w' G1 H1 v s1 en1 d1 => w' G1 H1 σ v s1 en1 d1)
theorem pds_retO (h : PDO X E e fo) : PDS X E (.Return (some e) pos) (sRetO fo) := by
  obtain ⟨t1, p1, w1⟩ := h
  refine ⟨_, ps_ret p1, fun B G H σ ρ D en w => ?_⟩
  exact w1 B G H σ ρ _ en (w.andThen.mono fun ds ρ1 _ w' G1 H1 p vs s1 en1 a b c d _ _ => w' G1 H1 σ p vs s1 en1 a b c d)
theorem pds_expr (h : PD X E e fe) (hs : swapsWith e none pos.line X.env = pure false := by rfl) : PDS X E (.Expr e pos) (sExpr fe) := by
  obtain ⟨t1, p1, w1⟩ := h
  refine ⟨_, ps_expr p1 hs, fun B G H σ ρ D en w => ?_⟩
  exact w1 B G H σ ρ _ en (w.andThen.mono fun d ρ1 _ w' G1 H1 v s1 en1 d1 => w' G1 H1 σ s1 en1)
theorem pds_if {c : Expr} {a b : List Stmt} (hc : PDT X E c ft) (ha : PDs X E a f) (hb : PDs X E b g) : PDS X E (.If c a b pos) (sIf ft f g) := by
  obtain ⟨t0, h0, w0⟩ := hc
  obtain ⟨t1, h1, w1⟩ := ha
  obtain ⟨t2, h2, w2⟩ := hb
  refine ⟨_, ps_if h0 h1 h2, fun B G H σ ρ D en w => ?_⟩
  refine w0 B G H σ ρ _ en (w.andThen.mono fun k ρ1 _ w' G1 H1 s1 en1 => ?_)
  cases k with
  | true => exact L2.iteT (w1 B G1 H1 σ ρ1 D en1 (Want.mono (show Want X.mg B E (f ρ1) _ from w') fun fl ρ2 _ q => q.grow s1))
  | false => exact L2.iteF (w2 B G1 H1 σ ρ1 D en1 (Want.mono (show Want X.mg B E (g ρ1) _ from w') fun fl ρ2 _ q => q.grow s1))
theorem pds_set (i : Nat) {x : Str} {pos' : Pos} (h : PD X E e fe) (hN : X.N.Nodup) (hi : X.N[i]? = some x := by rfl) (hx : Loc X.env.scope x := by first | exact Or.inl rfl | exact Or.inr rfl) (hs : swapsWith e (some (.Name x pos')) pos.line X.env = pure false := by rfl)
    (hf : X.fn x = true ∨ X.env.scope.names.lookup x = some .local := by first | exact .inl rfl | exact .inr rfl) : PDS X E (.Assign [.Name x pos'] e pos) (sSet i fe) := by
  obtain ⟨t1, p1, w1⟩ := h
  refine ⟨_, ps_set hN hi hx p1 hs hf, fun B G H σ ρ D en w => ?_⟩
  exact w1 B G H σ ρ _ en (w.andThen.mono fun d ρ1 _ w' G1 H1 v s1 en1 d1 => w' G1 H1 _ s1 (en1.set d1))
theorem pds_setO (i : Nat) {x : Str} {pos' : Pos} (h : PDO X E e fo) (hN : X.N.Nodup) (hi : X.N[i]? = some x := by rfl) (hx : Loc X.env.scope x := by first | exact Or.inl rfl | exact Or.inr rfl) (hs : swapsWith e (some (.Name x pos')) pos.line X.env = pure false := by rfl)
    (hf : X.fn x = true ∨ X.env.scope.names.lookup x = some .local := by first | exact .inl rfl | exact .inr rfl) : PDS X E (.Assign [.Name x pos'] e pos) (sSetO i fo) := by
  obtain ⟨t1, p1, w1⟩ := h
  refine ⟨_, ps_set hN hi hx p1 hs hf, fun B G H σ ρ D en w => ?_⟩
  exact w1 B G H σ ρ _ en (w.andThen.mono fun ds ρ1 _ w' G1 H1 p vs s1 en1 g1 h1 d1 q1 q2 _ => w' G1 H1 _ s1 (en1.setOwn g1 h1 d1 q1 q2))
end
/-! ### targets -/
structure PDG (X : Cx) (tg : Expr) (ts : List Nat) (bind : PyData → Rho → Option Rho) : Prop where
  ex : ∃ g, PG X tg g ∧ ∀ B G H σ ρ v d ρ' Q, EnvAt X.K B G H σ ρ → Dp X.K G v d → bind d ρ = some ρ' → (∀ σ', EnvAt X.K B G H σ' ρ' → (∀ vs : List Nat, (∀ i ∈ ts, i ∈ vs) → wipe σ' vs = wipe σ vs) → Q σ' H) → g v σ H Q
structure PDGs (X : Cx) (tg : List Expr) (ts : List Nat) (bind : List PyData → Rho → Option Rho) : Prop where
  ex : ∃ g, PGs X tg g ∧ ∀ B G H σ ρ vs ds ρ' Q, EnvAt X.K B G H σ ρ → DpAll X.K G vs ds → bind ds ρ = some ρ' → (∀ σ', EnvAt X.K B G H σ' ρ' → (∀ us : List Nat, (∀ i ∈ ts, i ∈ us) → wipe σ' us = wipe σ us) → Q σ' H) → g vs σ H Q
  len : ∀ ds ρ ρ', bind ds ρ = some ρ' → ds.length = tg.length
def bName (i : Nat) : PyData → Rho → Option Rho := fun d ρ => some (ρ.set i (.sh d))
def bNil : List PyData → Rho → Option Rho := fun ds ρ => match ds with | [] => some ρ | _ => none
def bCons (b : PyData → Rho → Option Rho) (r : List PyData → Rho → Option Rho) : List PyData → Rho → Option Rho := fun ds ρ => match ds with
  | d :: ds => (b d ρ).bind (r ds)
  | [] => none
def bTup (b : List PyData → Rho → Option Rho) : PyData → Rho → Option Rho := fun d ρ => match d with
  | .tuple ds => b ds ρ
  | _ => none
theorem wipe_set {σ : L2.St} {i : Nat} {o : Option V} : ∀ {vs : List Nat}, i ∈ vs → wipe (σ.set i o) vs = wipe σ vs
  | v :: vs, h => by
    show (wipe (σ.set i o) vs).set v none = (wipe σ vs).set v none
    by_cases hv : v = i
    · subst hv
      by_cases hm : v ∈ vs
      · rw [wipe_set hm]
      · have aux : ∀ ws : List Nat, v ∉ ws → wipe (σ.set v o) ws = (wipe σ ws).set v o := by
          intro ws
          induction ws with
          | nil => intro _; rfl
          | cons w ws ih =>
            intro hw
            show (wipe (σ.set v o) ws).set w none = ((wipe σ ws).set w none).set v o
            rw [ih (fun z => hw (List.mem_cons_of_mem _ z)), List.set_comm _ _ (fun z => hw (by rw [z]; exact List.mem_cons_self))]
        rw [aux vs hm, List.set_set]
    · rcases List.mem_cons.mp h with e | e
      · exact absurd e.symm hv
      · rw [wipe_set e]
section
variable {X : Cx} {e : Expr} {es : List Expr} {ts us : List Nat} {b : PyData → Rho → Option Rho} {bs : List PyData → Rho → Option Rho} {pos : Pos}
theorem pdg_name (i : Nat) {x : Str} (hN : X.N.Nodup) (hi : X.N[i]? = some x := by rfl) (hx : Loc X.env.scope x := by first | exact Or.inl rfl | exact Or.inr rfl) (hf : X.fn x = true ∨ X.env.scope.names.lookup x = some .local := by first | exact .inl rfl | exact .inr rfl) : PDG X (.Name x pos) [i] (bName i) :=
  ⟨_, pg_name hN hi hx hf, fun B G H σ ρ v d ρ' Q en hd hb k => by
    cases hb
    exact k _ (en.set hd) fun vs h => wipe_set (h i List.mem_cons_self)⟩
theorem pdgs_nil : PDGs X [] [] bNil := ⟨⟨_, pgs_nil, fun B G H σ ρ vs ds ρ' Q en hd hb k => by
  unfold bNil at hb
  split at hb
  · cases hb
    cases hd
    exact ⟨rfl, k σ en fun _ _ => rfl⟩
  · cases hb⟩, fun ds ρ ρ' h => by
  unfold bNil at h
  split at h
  · rfl
  · cases h⟩
theorem pdgs_cons (h1 : PDG X e ts b) (h2 : PDGs X es us bs) (hs : (assignEach (e :: es) X.env).map (·.2) = assign e X.env :: (assignEach es X.env).map (·.2) := by rfl) : PDGs X (e :: es) (ts ++ us) (bCons b bs) := by
  obtain ⟨g1, p1, w1⟩ := h1.ex
  obtain ⟨g2, p2, w2⟩ := h2.ex
  refine ⟨⟨_, pgs_cons p1 p2 hs, fun B G H σ ρ vs ds ρ' Q en hd hb k => ?_⟩, fun ds ρ ρ' h => ?_⟩
  · cases hd with
    | nil => cases hb
    | cons d1 r1 =>
      rename_i v vs d ds
      have hb : (b d ρ).bind (bs ds) = some ρ' := hb
      cases q : b d ρ with
      | none =>
        rw [q] at hb
        cases hb
      | some ρ1 =>
        rw [q] at hb
        refine ⟨v, vs, rfl, w1 B G H σ ρ v d ρ1 _ en d1 q fun σ1 en1 k1 => ?_⟩
        exact w2 B G H σ1 ρ1 vs ds ρ' _ en1 r1 hb fun σ2 en2 k2 => k σ2 en2 fun ws hw => by
          rw [k2 ws fun i hi => hw i (List.mem_append_right _ hi), k1 ws fun i hi => hw i (List.mem_append_left _ hi)]
  · cases ds with
    | nil => cases h
    | cons d ds =>
      have h : (b d ρ).bind (bs ds) = some ρ' := h
      cases q : b d ρ with
      | none =>
        rw [q] at h
        cases h
      | some ρ1 =>
        rw [q] at h
        rw [List.length_cons, List.length_cons, h2.len _ _ _ h]
theorem pdg_tup {k : Nat} (hc : X.calm = true) (h : PDGs X es ts bs) (hn : (assignEach es X.env).length = es.length := by rfl) (hst : (assignEach es X.env).findIdx? (·.1) = none := by rfl) : PDG X (.Tuple es k pos) ts (bTup bs) := by
  obtain ⟨g, p, w⟩ := h.ex
  refine ⟨_, pg_tup hc p hn hst, fun B G H σ ρ v d ρ' Q en hd hb k => ?_⟩
  cases d with
  | tuple ds =>
    obtain ⟨a, xs, rfl, h1, r1⟩ := dp_tup hd
    exact ⟨a, xs, rfl, seqT en.gh h1, by rw [DpAll.len r1]; exact h.len _ _ _ hb, w B G H σ ρ xs ds ρ' Q en r1 hb k⟩
  | _ => cases hb
/-- target = value -/
def sAsg (f : Rho → Rs PyData) (b : PyData → Rho → Option Rho) : Rho → Rs Fl := fun ρ => (f ρ).andThen fun d ρ => match b d ρ with
  | some ρ' => .ok .nx ρ'
  | none => .bad
theorem pds_asg {E : XK} {tg : Expr} {fe : Rho → Rs PyData} (he : PD X E e fe) (hg : PDG X tg ts b) (hs : swapsWithSole [tg] e pos.line X.env = pure false := by rfl) (hw : swappedStores [tg] e X.env = pure none := by rfl)
    (h1 : (assignEach [tg] X.env).map (·.2) = [assign tg X.env] := by rfl) : PDS X E (.Assign [tg] e pos) (sAsg fe b) := by
  obtain ⟨t1, p1, w1⟩ := he
  obtain ⟨g, p, w2⟩ := hg.ex
  refine ⟨_, ps_asg p1 p hs hw h1, fun B G H σ ρ D en w => ?_⟩
  refine w1 B G H σ ρ _ en (w.andThen.mono fun d ρ1 _ w' G1 H1 v s1 en1 d1 => ?_)
  cases q : b d ρ1 with
  | none =>
    simp only [q] at w'
    exact w'.elim
  | some ρ' =>
    simp only [q] at w'
    exact w2 B G1 H1 σ ρ1 v d ρ' _ en1 d1 q fun σ' en' _ => w' G1 H1 σ' s1 en'
/-- a, b = x, y: two values, stored as shared data or as lists of one's own (k: whether) -/
def slotOf (o : Bool) (d : PyData) : Option Slot := match o, d with
  | true, .list ds => some (.own false ds)
  | true, _ => none
  | false, d => some (.sh d)
end
/-! ### what is walked -/
structure IterOk (K : PySem.W.Frag) (J : It) (G : Hp) (items : List PyData) : Prop where
  ex : ∃ (Gc : Hp → Prop) (Y : Nat → Hp → V → Hp → Prop), L2.Walk J items.length Gc Y ∧ (∀ G' H', Same G G' → Same G' H' → Gc H') ∧
    ∀ i G' H' x H2, i < items.length → Same G G' → Same G' H' → Y i H' x H2 → ∃ G2 d, Ext G' H' G2 H2 ∧ items[i]? = some d ∧ Dp K G2 x d
abbrev KI' (K : PySem.W.Frag) (B : Bs) (G : Hp) (σ : L2.St) (R : It → Hp → Prop) : List PyData → Rho → Prop := fun items ρ' => ∀ J G' H', Same G G' → EnvAt K B G' H' σ ρ' → IterOk K J G' items → R J H'
def PDI (X : Cx) (E : XK) (tg e : Expr) (f : Rho → Rs (List PyData)) : Prop := ∃ wi, PI X tg e wi ∧ ∀ B G H σ ρ R, EnvAt X.K B G H σ ρ → Want X.mg B E (f ρ) (KI' X.K B G σ R) → wi σ H R
theorem iter_list {K : PySem.W.Frag} {G : Hp} {a : Addr} {xs : List V} {ds : List PyData} (h : SqL K G a xs) (r : DpAll K G xs ds) : IterOk K (Itl K a) G ds := by
  refine ⟨_, _, by rw [← DpAll.len r]; exact walk_list (xs := xs), fun G' H' s1 s2 => s2.seq (s1.seq h), fun i G' H' x H2 hi s1 s2 y => ?_⟩
  obtain ⟨rfl, y⟩ := y
  obtain ⟨d, e1, e2⟩ := DpAll.get' r y
  exact ⟨G', d, Ext.refl s2, e1, Dpm s1 e2⟩
theorem iter_tup {K : PySem.W.Frag} {G : Hp} {a : Addr} {xs : List V} {ds : List PyData} (h : SqT K G a xs) (r : DpAll K G xs ds) : IterOk K (Itt K a) G ds := by
  refine ⟨_, _, by rw [← DpAll.len r]; exact walk_tup (xs := xs), fun G' H' s1 s2 => seqT s2 (seqT s1 h), fun i G' H' x H2 hi s1 s2 y => ?_⟩
  obtain ⟨rfl, y⟩ := y
  obtain ⟨d, e1, e2⟩ := DpAll.get' r y
  exact ⟨G', d, Ext.refl s2, e1, Dpm s1 e2⟩
def rngL (lo : Int) (n : Nat) : List PyData := (List.range n).map fun i => .int (lo + (i : Nat))
theorem rngL_len (lo : Int) (n : Nat) : (rngL lo n).length = n := by unfold rngL; rw [List.length_map, List.length_range]
theorem iter_rng {K : PySem.W.Frag} {G : Hp} {lo : Int} {n : Nat} : IterOk K (Itr lo n) G (rngL lo n) := by
  refine ⟨_, _, by rw [rngL_len]; exact walk_range, fun _ _ _ _ => trivial, fun i G' H' x H2 hi s1 s2 y => ?_⟩
  obtain ⟨rfl, rfl⟩ := y
  rw [rngL_len] at hi
  refine ⟨G', .int (lo + (i : Nat)), Ext.refl s2, ?_, .int _⟩
  unfold rngL
  rw [List.getElem?_map, List.getElem?_range hi]
  rfl
def signs (z : Str) : List PyData := z.cps.toList.map fun c => .str ⟨#[c]⟩
theorem iter_str {K : PySem.W.Frag} {G : Hp} {z : Str} : IterOk K (Its z) G (signs z) := by
  have hl : (signs z).length = z.cps.size := by unfold signs; rw [List.length_map, Array.length_toList]
  refine ⟨_, _, by rw [hl]; exact walk_str, fun _ _ _ _ => trivial, fun i G' H' x H2 hi s1 s2 y => ?_⟩
  obtain ⟨rfl, c, hc, rfl⟩ := y
  refine ⟨G', .str ⟨#[c]⟩, Ext.refl s2, ?_, .str _⟩
  unfold signs
  rw [List.getElem?_map, Array.getElem?_toList, hc]
  rfl
def itemsOf : PyData → Option (List PyData)
  | .list ds => some ds
  | .tuple ds => some ds
  | .str z => some (signs z)
  | _ => none
def iSeq (f : Rho → Rs PyData) : Rho → Rs (List PyData) := fun ρ => (f ρ).andThen fun d ρ => opt (itemsOf d) ρ
def iRng1 (f : Rho → Rs PyData) : Rho → Rs (List PyData) := fun ρ => (f ρ).andThen fun d ρ => match d with
  | .int n => if -1000000 ≤ n ∧ n ≤ 1000000 then .ok (rngL 0 n.toNat) ρ else .bad
  | _ => .bad
def iRng2 (f g : Rho → Rs PyData) : Rho → Rs (List PyData) := fun ρ => (f ρ).andThen fun a ρ => (g ρ).andThen fun b ρ => match a, b with
  | .int m, .int n => if (-1000000 ≤ m ∧ m ≤ 1000000) ∧ -1000000 ≤ n ∧ n ≤ 1000000 then .ok (rngL m (n - m).toNat) ρ else .bad
  | _, _ => .bad
section
variable {X : Cx} {E : XK} {tg e : Expr} {fe fg : Rho → Rs PyData}
/-- a list, a tuple or a text by its kind at the time -/
theorem pi_seq {l : Expr} {tl : TE} (hl : PE X l tl) : PI X tg l (fun σ H R => tl σ H fun x H1 => (∃ a, x = .ref a ∧ (∃ xs, SqL X.K H1 a xs) ∧ R (Itl X.K a) H1) ∨ (∃ a, x = .ref a ∧ (∃ xs, SqT X.K H1 a xs) ∧ R (Itt X.K a) H1) ∨ (∃ z, x = .str z ∧ R (Its z) H1)) := by
  refine ⟨fun pins s σ H R I h => ?_⟩
  refine thn (hl.run pins s σ H _ I h) fun v s1 ⟨x, H1, I1, r1, q1⟩ => ?_
  rcases q1 with ⟨a, e, ⟨xs, hq⟩, q⟩ | ⟨a, e, ⟨xs, hq⟩, q⟩ | ⟨z, e, q⟩
  · subst e
    cases r1
    obtain ⟨its, rv, p, hz⟩ := I1.list hq
    refine wpAny_pyIter_list p.isList ?_
    refine ⟨s1.heap.objs.size, [s1.heap.objs.size], _, _, H1, rfl, I1.kept (t' := s1.toks) fun b o e => Heap.get?_push_of_some _ e, turn_list a _, ⟨_, Heap.get?_push_size _ rfl, rfl, rfl⟩, fun b hb => ?_, q⟩
    cases List.mem_singleton.mp hb
    exact I1.fpOk (Nat.le_refl _) (I1.hok.fresh (Nat.le_refl _))
  · subst e
    cases r1
    obtain ⟨its, rv, p, hz⟩ := I1.tuple hq
    refine wpAny_pyIter_tuple (show s1.heap.IsTuple a its.toArray from p) ?_
    refine ⟨s1.heap.objs.size, [s1.heap.objs.size], _, _, H1, rfl, I1.kept (t' := s1.toks) fun b o e => Heap.get?_push_of_some _ e, turn_tuple a _, ⟨_, Heap.get?_push_size _ rfl, rfl, rfl⟩, fun b hb => ?_, q⟩
    cases List.mem_singleton.mp hb
    exact I1.fpOk (Nat.le_refl _) (I1.hok.fresh (Nat.le_refl _))
  · subst e
    obtain ⟨t, rfl⟩ := r1
    cases ha : z.cps.all (· < 128)
    · exact wpAny_pyIter_wide ha (pi_one (tk := s1.toks) I1 _ (turn_str _ z t "str_iterator" (.inr rfl)) ⟨_, Heap.get?_push_size _ rfl, rfl, rfl⟩ q)
    · exact wpAny_pyIter_ascii ha (pi_one (tk := s1.toks) I1 _ (turn_str _ z t "str_ascii_iterator" (.inl rfl)) ⟨_, Heap.get?_push_size _ rfl, rfl, rfl⟩ q)
theorem pdi_seq (h : PD X E e fe) : PDI X E tg e (iSeq fe) := by
  obtain ⟨t, h1, w1⟩ := h
  refine ⟨_, pi_seq h1, fun B G H σ ρ R en w => ?_⟩
  refine w1 B G H σ ρ _ en (w.andThen.mono fun d ρ1 _ w' G1 H1 v s1 en1 d1 => ?_)
  cases d with
  | list ds =>
    obtain ⟨a, xs, rfl, g1, r1⟩ := dp_lst d1
    exact .inl ⟨a, rfl, ⟨xs, en1.gh.seq g1⟩, w' _ G1 H1 s1 en1 (iter_list g1 r1)⟩
  | tuple ds =>
    obtain ⟨a, xs, rfl, g1, r1⟩ := dp_tup d1
    exact .inr (.inl ⟨a, rfl, ⟨xs, seqT en1.gh g1⟩, w' _ G1 H1 s1 en1 (iter_tup g1 r1)⟩)
  | str z =>
    cases dp_str d1
    exact .inr (.inr ⟨z, rfl, w' _ G1 H1 s1 en1 iter_str⟩)
  | none => exact w'.elim
  | bool _ => exact w'.elim
  | int _ => exact w'.elim
  | dict _ => exact w'.elim
theorem pdi_rng1 {p pos : Pos} (ha : PD X E e fe) (hg : Gl X "range" := by rfl) (hm : X.mg "range" = none) (hs : starEach [e] X.env = [(false, eval e X.env)] := by rfl) : PDI X E tg (.Call (.Name "range" p) [e] [] pos) (iRng1 fe) := by
  obtain ⟨⟨t, h1, w1⟩, _⟩ := pda_cons (es := []) ha pda_nil hs
  refine ⟨_, pi_range1 hg hm h1 hs, fun B G H σ ρ R en w => ?_⟩
  refine w1 B G H σ ρ _ en ?_
  unfold iRng1 at w
  unfold eCons eNil
  cases q : fe ρ with
  | bad =>
    rw [q] at w
    exact w.elim
  | ex x =>
    rw [q] at w
    exact w
  | ok d ρ1 =>
    rw [q] at w
    intro G1 H1 vs s1 en1 d1
    obtain ⟨v, rfl, dv⟩ := dps_one d1
    cases d with
    | int n =>
      cases dp_int dv
      have w : Want X.mg B E (if -1000000 ≤ n ∧ n ≤ 1000000 then Rs.ok (rngL 0 n.toNat) ρ1 else .bad) (KI' X.K B G σ R) := w
      split at w
      · rename_i hz
        exact ⟨n, rfl, by omega, by omega, w _ G1 H1 s1 en1 iter_rng⟩
      · exact w.elim
    | _ => exact w.elim
theorem pdi_rng2 {a b : Expr} {p pos : Pos} (ha : PD X E a fe) (hb : PD X E b fg) (hg : Gl X "range" := by rfl) (hm : X.mg "range" = none) (hs : starEach [a, b] X.env = [(false, eval a X.env), (false, eval b X.env)] := by rfl) (hs2 : starEach [b] X.env = [(false, eval b X.env)] := by rfl) :
    PDI X E tg (.Call (.Name "range" p) [a, b] [] pos) (iRng2 fe fg) := by
  obtain ⟨⟨t, h1, w1⟩, _⟩ := pda_cons (es := [b]) ha (pda_cons (es := []) hb pda_nil hs2) (by rw [hs, hs2])
  refine ⟨_, pi_range2 hg hm h1 hs hs2, fun B G H σ ρ R en w => ?_⟩
  refine w1 B G H σ ρ _ en ?_
  unfold iRng2 at w
  unfold eCons eNil
  cases q : fe ρ with
  | bad =>
    rw [q] at w
    exact w.elim
  | ex x =>
    rw [q] at w
    exact w
  | ok d ρ1 =>
    rw [q] at w
    show Want X.mg B E (((fg ρ1).andThen fun c ρ => Rs.ok [c] ρ).andThen fun r ρ => Rs.ok (d :: r) ρ) _
    have w : Want X.mg B E ((fg ρ1).andThen fun b ρ => match d, b with
      | .int m, .int n => if (-1000000 ≤ m ∧ m ≤ 1000000) ∧ -1000000 ≤ n ∧ n ≤ 1000000 then .ok (rngL m (n - m).toNat) ρ else .bad
      | _, _ => .bad) (KI' X.K B G σ R) := w
    cases q2 : fg ρ1 with
    | bad =>
      rw [q2] at w
      exact w.elim
    | ex x =>
      rw [q2] at w
      exact w
    | ok c ρ2 =>
      rw [q2] at w
      intro G1 H1 vs s1 en1 d1
      obtain ⟨v, u, rfl, dv, du⟩ := dps_two d1
      cases d with
      | int m =>
        cases c with
        | int n =>
          cases dp_int dv
          cases dp_int du
          have w : Want X.mg B E (if (-1000000 ≤ m ∧ m ≤ 1000000) ∧ -1000000 ≤ n ∧ n ≤ 1000000 then .ok (rngL m (n - m).toNat) ρ2 else .bad) (KI' X.K B G σ R) := w
          split at w
          · rename_i hz
            exact ⟨m, n, rfl, ⟨by omega, by omega, by omega, by omega⟩, w _ G1 H1 s1 en1 iter_rng⟩
          · exact w.elim
        | _ => exact w.elim
      | _ => exact w.elim
end
/-! ### for -/
def loopS (k : Rho → Rs Fl) : Fl → Rho → Rs Fl
  | .nx, ρ => k ρ
  | .ct, ρ => k ρ
  | .bk, ρ => .ok .nx ρ
  | .rt d, ρ => .ok (.rt d) ρ
  | .ro ds, ρ => .ok (.ro ds) ρ
def forL (b : PyData → Rho → Option Rho) (body : Rho → Rs Fl) : List PyData → Rho → Rs Fl
  | [], ρ => .ok .nx ρ
  | d :: ds, ρ => match b d ρ with
    | some ρ1 => (body ρ1).andThen (loopS (forL b body ds))
    | none => .bad
def sFor (fi : Rho → Rs (List PyData)) (b : PyData → Rho → Option Rho) (body : Rho → Rs Fl) : Rho → Rs Fl := fun ρ => (fi ρ).andThen fun items ρ => forL b body items ρ
section
variable {X : Cx} {E : XK} {tg iter : Expr} {body : List Stmt} {fi : Rho → Rs (List PyData)} {b : PyData → Rho → Option Rho} {ts : List Nat} {fb : Rho → Rs Fl} {pos : Pos}
theorem Ext.env {K : PySem.W.Frag} {B : Bs} {G H G' H' : Hp} {σ : L2.St} {ρ : Rho} (e : EnvAt K B G H σ ρ) (x : Ext G H G' H') : EnvAt K B G' H' σ ρ := e.ext x
theorem pds_for (hp : PassesOwn (model X.prog X.w) X.A X.env X.xe) (hc : X.calm = true) (hi : PDI X E tg iter fi) (hg : PDG X tg ts b) (hb : PDs X E body fb) (hs : ∀ x, foldedSetIterable iter X.env x = pure x := by intro _; rfl) :
    PDS X E (.For tg iter body [] pos) (sFor fi b fb) := by
  obtain ⟨wi, h1, w1⟩ := hi
  obtain ⟨g, h2, w2⟩ := hg.ex
  obtain ⟨tb, h3, w3⟩ := hb
  refine ⟨_, ps_for hp hc h1 h2 h3 hs, fun B G H σ ρ D en w => ?_⟩
  refine w1 B G H σ ρ _ en (w.andThen.mono fun items ρ1 _ w' J G1 H1 s1 en1 it => ?_)
  obtain ⟨Gc, Y, wk, hG, hY⟩ := it.ex
  refine for_it wk (fun i σ H => ∃ G2 ρ2, Same G1 G2 ∧ EnvAt X.K B G2 H σ ρ2 ∧ Want X.mg B E (forL b fb (items.drop i) ρ2) (KS X.K B G D)) ⟨G1, ρ1, Same.refl _, en1, by rw [List.drop_zero]; exact w'⟩
    (fun i σ H _ ⟨G2, ρ2, s2, en2, _⟩ => hG G2 H s2 en2.gh) ?_ ?_
  · rintro i x σ2 H2 H3 hi ⟨G2, ρ2, s2, en2, w4⟩ y
    obtain ⟨G3, d, xx, hd, dd⟩ := hY i G2 H2 x H3 hi s2 en2.gh y
    have en3 := en2.ext xx
    have e : items.drop i = d :: items.drop (i + 1) := by
      obtain ⟨h5, h6⟩ := List.getElem?_eq_some_iff.mp hd
      rw [List.drop_eq_getElem_cons h5, h6]
    rw [e] at w4
    unfold forL at w4
    cases q : b d ρ2 with
    | none =>
      simp only [q] at w4
      exact w4.elim
    | some ρ3 =>
      simp only [q] at w4
      refine w2 B G3 H3 σ2 ρ2 x d ρ3 _ en3 dd q fun σ3 en4 _ => ?_
      refine w3 B G3 H3 σ3 ρ3 _ en4 (w4.andThen.mono fun fl ρ4 _ w5 => ?_)
      have s13 : Same G1 G3 := s2.trans xx.g
      cases fl with
      | nx => exact fun G5 H5 σ5 s5 en5 => ⟨G5, ρ4, s13.trans s5, en5, w5⟩
      | ct => exact fun G5 H5 σ5 s5 en5 => ⟨G5, ρ4, s13.trans s5, en5, w5⟩
      | bk => exact fun G5 H5 σ5 s5 en5 => w5 G5 H5 σ5 ((s1.trans s13).trans s5) en5
      | rt d => exact fun G5 H5 σ5 v s5 en5 d5 => w5 G5 H5 σ5 v ((s1.trans s13).trans s5) en5 d5
      | ro ds => exact fun G5 H5 σ5 p vs s5 en5 a b c d => w5 G5 H5 σ5 p vs ((s1.trans s13).trans s5) en5 a b c d
  · rintro σ2 H2 ⟨G2, ρ2, s2, en2, w4⟩
    rw [List.drop_length] at w4
    exact w4 G2 H2 σ2 (s1.trans s2) en2
end
/-! ### while, with some number of turns -/
def whileN (t : Rho → Rs Bool) (body : Rho → Rs Fl) : Nat → Rho → Rs Fl
  | 0, _ => .bad
  | n + 1, ρ => (t ρ).andThen fun k ρ => if k = true then (body ρ).andThen (loopS (whileN t body n)) else .ok .nx ρ
/-- some number of turns is enough -/
noncomputable def sWhile (t : Rho → Rs Bool) (body : Rho → Rs Fl) : Rho → Rs Fl := fun ρ => open Classical in if h : ∃ n, ¬ (match whileN t body n ρ with | .bad => True | _ => False) then whileN t body h.choose ρ else .bad
section
variable {X : Cx} {E : XK} {c : Expr} {body : List Stmt} {ft : Rho → Rs Bool} {fb : Rho → Rs Fl} {pos : Pos}
theorem pds_while (hp : PassesOwn (model X.prog X.w) X.A X.env X.xe) (hc : PDT X E c ft) (hb : PDs X E body fb) : PDS X E (.While c body [] pos) (sWhile ft fb) := by
  obtain ⟨t0, h0, w0⟩ := hc
  obtain ⟨t1, h1, w1⟩ := hb
  refine ⟨_, ps_while hp h0 h1, fun B G H σ ρ D en w => ?_⟩
  unfold sWhile at w
  split at w
  · rename_i hn
    refine ⟨fun m σ H => ∃ G2 ρ2, Same G G2 ∧ EnvAt X.K B G2 H σ ρ2 ∧ Want X.mg B E (whileN ft fb m ρ2) (KS X.K B G D), ⟨_, G, ρ, Same.refl _, en, w⟩, ?_⟩
    rintro m σ2 H2 ⟨G2, ρ2, s2, en2, w2⟩
    cases m with
    | zero => exact w2.elim
    | succ m =>
      have w2 : Want X.mg B E ((ft ρ2).andThen fun k ρ => if k = true then (fb ρ).andThen (loopS (whileN ft fb m)) else .ok .nx ρ) (KS X.K B G D) := w2
      refine w0 B G2 H2 σ2 ρ2 _ en2 (w2.andThen.mono fun k ρ3 _ w3 G3 H3 s3 en3 => ?_)
      cases k with
      | false => exact L2.iteF (w3 G3 H3 σ2 (s2.trans s3) en3)
      | true =>
        refine L2.iteT ⟨fun σ' H' => ∃ G4 ρ4, Same G G4 ∧ EnvAt X.K B G4 H' σ' ρ4 ∧ Want X.mg B E (whileN ft fb m ρ4) (KS X.K B G D), fun σ' H' h => ⟨m, Nat.lt_succ_self _, h⟩, ?_⟩
        have w3 : Want X.mg B E ((fb ρ3).andThen (loopS (whileN ft fb m))) (KS X.K B G D) := w3
        refine w1 B G3 H3 σ2 ρ3 _ en3 (w3.andThen.mono fun fl ρ5 _ w5 => ?_)
        cases fl with
        | nx => exact fun G5 H5 σ5 s5 en5 => ⟨G5, ρ5, (s2.trans s3).trans s5, en5, w5⟩
        | ct => exact fun G5 H5 σ5 s5 en5 => ⟨G5, ρ5, (s2.trans s3).trans s5, en5, w5⟩
        | bk => exact fun G5 H5 σ5 s5 en5 => w5 G5 H5 σ5 ((s2.trans s3).trans s5) en5
        | rt d => exact fun G5 H5 σ5 v s5 en5 d5 => w5 G5 H5 σ5 v ((s2.trans s3).trans s5) en5 d5
        | ro ds => exact fun G5 H5 σ5 p vs s5 en5 a b c d => w5 G5 H5 σ5 p vs ((s2.trans s3).trans s5) en5 a b c d
  · exact w.elim
end
end Dl

set_option Elab.async false
set_option linter.all false
set_option maxRecDepth 100000
set_option maxHeartbeats 1000000
namespace Dl
open PySem L2
/-! ### the readings in one form -/
def tD (K : PySem.W.Frag) (mg : Str → Option Value) (E : XK) (f : Rho → Rs PyData) : TE := fun σ H Q => ∃ B G ρ, EnvAt K B G H σ ρ ∧ Want mg B E (f ρ) (KE' K B G σ Q)
def tDT (K : PySem.W.Frag) (mg : Str → Option Value) (E : XK) (f : Rho → Rs Bool) : TT := fun σ H Q => ∃ B G ρ, EnvAt K B G H σ ρ ∧ Want mg B E (f ρ) (KT' K B G σ Q)
def tDI (K : PySem.W.Frag) (mg : Str → Option Value) (E : XK) (f : Rho → Rs (List PyData)) : TI := fun σ H R => ∃ B G ρ, EnvAt K B G H σ ρ ∧ Want mg B E (f ρ) (KI' K B G σ R)
def gD (K : PySem.W.Frag) (ts : List Nat) (b : PyData → Rho → Option Rho) : TG := fun v σ H Q => ∃ B G ρ d ρ', EnvAt K B G H σ ρ ∧ Dp K G v d ∧ b d ρ = some ρ' ∧ ∀ σ', EnvAt K B G H σ' ρ' → (∀ vs : List Nat, (∀ i ∈ ts, i ∈ vs) → wipe σ' vs = wipe σ vs) → Q σ' H
def PDTs (X : Cx) (E : XK) (ifs : List Expr) (f : Rho → Rs Bool) : Prop := PTs X ifs (tDT X.K X.mg E f)
def eYes : Rho → Rs Bool := fun ρ => .ok true ρ
section
variable {X : Cx} {E : XK} {e tg : Expr} {f : Rho → Rs PyData} {ft : Rho → Rs Bool} {fi : Rho → Rs (List PyData)} {ts : List Nat} {b : PyData → Rho → Option Rho}
theorem PD.can (h : PD X E e f) : PE X e (tD X.K X.mg E f) := by
  obtain ⟨t, h1, w1⟩ := h
  exact ⟨fun pins s σ H Q I ⟨B, G, ρ, en, w⟩ => h1.run pins s σ H Q I (w1 B G H σ ρ Q en w)⟩
theorem PDT.can (h : PDT X E e ft) : PT X e (tDT X.K X.mg E ft) := by
  obtain ⟨t, h1, w1⟩ := h
  exact ⟨fun pins s σ H Q I ⟨B, G, ρ, en, w⟩ => h1.run pins s σ H Q I (w1 B G H σ ρ Q en w)⟩
theorem PDI.can (h : PDI X E tg e fi) : PI X tg e (tDI X.K X.mg E fi) := by
  obtain ⟨t, h1, w1⟩ := h
  exact ⟨fun pins s σ H R I ⟨B, G, ρ, en, w⟩ => h1.run pins s σ H R I (w1 B G H σ ρ R en w)⟩
theorem PDG.can (h : PDG X tg ts b) : PG X tg (gD X.K ts b) := by
  obtain ⟨g, h1, w1⟩ := h.ex
  exact ⟨fun pins s σ H v u Q I r ⟨B, G, ρ, d, ρ', en, hd, hb, k⟩ => h1.run pins s σ H v u Q I r (w1 B G H σ ρ v d ρ' Q en hd hb k)⟩
theorem pdts_nil : PDTs X E [] eYes := by
  refine ⟨fun pins s σ H Q I ⟨B, G, ρ, en, w⟩ => ?_⟩
  exact pts_nil.run pins s σ H Q I (show Q true H from w G H (Same.refl _) en)
theorem pdts_one {c : Expr} (h : PDT X E c ft) : PDTs X E [c] ft := pts_one (PDT.can h)
end
/-! ### comprehensions -/
def lcL (b : PyData → Rho → Option Rho) (ft : Rho → Rs Bool) (fe : Rho → Rs PyData) (vs : List Nat) : List PyData → Rho → Rs (List PyData)
  | [], ρ => .ok [] ρ
  | d :: ds, ρ => match b d ρ with
    | none => .bad
    | some ρ1 => (ft ρ1).andThen fun k ρ2 => if k = true then (fe ρ2).andThen fun y ρ3 => (lcL b ft fe vs ds (wipeR vs ρ3)).andThen fun ys ρ4 => .ok (y :: ys) ρ4 else lcL b ft fe vs ds (wipeR vs ρ2)
def eLc (fi : Rho → Rs (List PyData)) (b : PyData → Rho → Option Rho) (ft : Rho → Rs Bool) (fe : Rho → Rs PyData) (vs : List Nat) : Rho → Rs (List PyData) := fun ρ => (fi ρ).andThen fun items ρ1 =>
  match lcL b ft fe vs items (wipeR vs ρ1) with
  | .ok ys ρ2 => if ys.length ≤ 1000000 then .ok ys (unwipeR vs ρ1 ρ2) else .bad
  | _ => .bad
/-- what a block's results are to be -/
def LcEnd (r : Rs (List PyData)) (pre : List PyData) (k : List PyData → Rho → Prop) : Prop := match r with
  | .ok ys ρ => k (pre ++ ys) ρ
  | _ => False
theorem LcEnd.cons {α : Type} {x : Rs α} {g : α → Rho → Rs (List PyData)} {pre : List PyData} {k : List PyData → Rho → Prop} {mg : Str → Option Value} {B : Bs} {E : XK} (h : LcEnd (x.andThen g) pre k) : Want mg B E x fun a ρ => LcEnd (g a ρ) pre k := by
  cases x with
  | ok a ρ => exact h
  | ex e => exact h.elim
  | bad => exact h.elim
section
variable {X : Cx} {E : XK} {elt tg iter : Expr} {ifs : List Expr} {scope : Scope} {own : List (Str × Nat)} {pos : Pos} {fi : Rho → Rs (List PyData)} {b : PyData → Rho → Option Rho} {ts : List Nat} {ft : Rho → Rs Bool} {fe : Rho → Rs PyData}
/-- the readings of a comprehension's parts, for every block -/
abbrev InBlk (X : Cx) (scope : Scope) (p : Cx → Prop) : Prop := ∀ (s : Shared) (H : Hp) (C : Addr) (cl : List (Str × Addr)) (fp : List Addr), p (X.blk s H scope (compEnvC scope cl C X.env) fp)
theorem wipe_get (τ : L2.St) (j : Nat) : ∀ us : List Nat, (wipe τ us)[j]? = if j ∈ us then (if j < τ.length then some none else none) else τ[j]?
  | [] => by rw [if_neg (by simp)]; rfl
  | u :: us => by
    show ((wipe τ us).set u none)[j]? = _
    by_cases hu : u = j
    · subst hu
      rw [if_pos List.mem_cons_self]
      by_cases hl : u < τ.length
      · rw [List.getElem?_set_self (by rw [wipe_length]; exact hl), if_pos hl]
      · rw [List.getElem?_eq_none (by rw [List.length_set, wipe_length]; omega), if_neg hl]
    · rw [List.getElem?_set_ne hu, wipe_get τ j us]
      by_cases hj : j ∈ us
      · rw [if_pos hj, if_pos (List.mem_cons_of_mem _ hj)]
      · rw [if_neg hj, if_neg fun z => hj ((List.mem_cons.mp z).resolve_left fun y => hu y.symm)]
theorem wipe_wipe (τ : L2.St) {us vs : List Nat} (h : ∀ i ∈ us, i ∈ vs) : wipe (wipe τ us) vs = wipe τ vs := List.ext_getElem? fun j => by
  rw [wipe_get, wipe_get τ j vs, wipe_length]
  by_cases hj : j ∈ vs
  · rw [if_pos hj, if_pos hj]
  · rw [if_neg hj, if_neg hj, wipe_get, if_neg fun z => hj (h j z)]
/-- anything that is walked, from any heap on -/
theorem it_any {J : It} {n : Nat} {Gc : Hp → Prop} {Y : Nat → Hp → V → Hp → Prop} (w : L2.Walk J n Gc Y) {H1 : Hp} {Qd : Hp → Prop} {T : Nat → V → Hp → (Hp → Prop) → Prop} (Pv : Nat → Hp → Prop) (h0 : Pv 0 H1) (hG : ∀ i H, Pv i H → Gc H)
    (hs : ∀ i x H H', i < n → Pv i H → Y i H x H' → T i x H' (Pv (i + 1))) (hd : ∀ H, Pv n H → Qd H) :
    ∃ W : Nat → Nat → Hp → Prop, (∃ m, W 0 m H1) ∧ ∀ i m H, W i m H → (J.stop i H ∧ Qd H) ∨ (J.go i H ∧ ∃ Nx : Hp → Prop, (∀ H', Nx H' → ∃ m', m' < m ∧ W (i + 1) m' H') ∧ ∀ x H', J.yld i H x H' → T i x H' Nx) := by
  refine ⟨fun i m H => m = n - i ∧ i ≤ n ∧ Pv i H, ⟨n, by simp, Nat.zero_le _, h0⟩, ?_⟩
  rintro i m H ⟨rfl, hi, p⟩
  have q := hG i H p
  by_cases hlt : i < n
  · exact .inr ⟨w.goes i H hlt q, Pv (i + 1), fun H' p' => ⟨n - (i + 1), by omega, rfl, hlt, p'⟩, fun x H' y => hs i x H H' hlt p (w.yields i H x H' hlt q y)⟩
  · obtain rfl : i = n := by omega
    exact .inl ⟨w.stops H q, hd H p⟩
/-- the new list at D, while a block fills it -/
structure AtD (K : PySem.W.Frag) (B : Bs) (D : Addr) (G H : Hp) (σ : L2.St) (ρ : Rho) (acc : List V) (ad : List PyData) : Prop where
  en : EnvAt K B G H σ ρ
  hl : H D = some (.lst acc)
  hg : G D = none
  ho : ∀ j, ¬ OwnAt ρ σ j D
  da : DpAll K G acc ad
structure NewD (B : Bs) (D : Addr) : Prop where
  h0 : B.H0 D = none
  g0 : B.G0 D = none
  p0 : ∀ j, ¬ B.P0 j D
theorem AtD.wiped {K : PySem.W.Frag} {B : Bs} {D : Addr} {G H : Hp} {σ τ : L2.St} {ρ : Rho} {acc : List V} {ad : List PyData} (x : AtD K B D G H σ ρ acc ad) {vs : List Nat} (e : wipe σ vs = τ) : AtD K B D G H τ (wipeR vs ρ) acc ad := by
  subst e
  refine ⟨x.en.wiped vs, x.hl, x.hg, fun j ⟨c, ds, o1, o2⟩ => ?_, x.da⟩
  obtain ⟨s0, o3, o4⟩ := wipeR_at o1
  by_cases hj : j ∈ vs
  · rw [if_pos hj] at o4
    cases o4
  · rw [if_neg hj] at o4
    subst o4
    rw [wipe_out hj] at o2
    exact x.ho j ⟨c, ds, o3, o2⟩
theorem AtD.ext {K : PySem.W.Frag} {B : Bs} {D : Addr} {G H G' H' : Hp} {σ : L2.St} {ρ : Rho} {acc : List V} {ad : List PyData} (x : AtD K B D G H σ ρ acc ad) (e : Ext G H G' H') : AtD K B D G' H' σ ρ acc ad :=
  ⟨x.en.ext e, e.h D _ x.hl, e.nw D (some_ne x.hl) x.hg, x.ho, Dpms e.g x.da⟩
/-- back from code that ran while D was kept -/
theorem AtD.back {K : PySem.W.Frag} {B : Bs} {D : Addr} {G G' H' : Hp} {σ : L2.St} {ρ : Rho} {acc : List V} {ad : List PyData} (n : NewD B D) (e : EnvAt K (B.keep D (.lst acc)) G' H' σ ρ) (s : Same G G') (da : DpAll K G acc ad) : AtD K B D G' H' σ ρ acc ad := by
  obtain ⟨u1, u2, u3, u4⟩ := e.unkeep n.h0 n.g0 n.p0
  exact ⟨u1, u2, u3, u4, Dpms s da⟩
theorem AtD.push {K : PySem.W.Frag} {B : Bs} {D : Addr} {G H : Hp} {σ : L2.St} {ρ : Rho} {acc : List V} {ad : List PyData} (n : NewD B D) (x : AtD K B D G H σ ρ acc ad) {v : V} {y : PyData} (d : Dp K G v y) : AtD K B D G (upd H D (.lst (acc ++ [v]))) σ ρ (acc ++ [v]) (ad ++ [y]) := by
  have u1 := x.en
  have nD : ∀ c o, G c = some o → c ≠ D := fun c o q z => by rw [z, x.hg] at q; cases q
  refine ⟨⟨u1.len, u1.gg, fun c o q => by rw [upd_ne (nD c o q)]; exact u1.gh c o q, fun c o q1 q2 => ?_, u1.nw, fun j c q => ?_, fun j s q => ?_, u1.ap, u1.tb.put x.hl⟩, upd_same, x.hg, x.ho, DpAll.app x.da (Dl.DpAll.one d)⟩
  · have : c ≠ D := fun z => by rw [z, n.h0] at q1; cases q1
    rw [upd_ne this]
    exact u1.fr c o q1 q2
  · have : c ≠ D := fun z => n.p0 j (z ▸ q)
    rw [upd_ne this]
    exact u1.lv j c q
  · have z := u1.sl j s q
    cases s with
    | own c fs =>
      obtain ⟨r, us, z1, z2, z3, z4, z5⟩ := z
      have : r ≠ D := fun y => x.ho j ⟨c, fs, q, y ▸ z1⟩
      exact ⟨r, us, z1, z2, by rw [upd_ne this]; exact z3, z4, z5⟩
    | _ => exact z
theorem LcEnd.len {r : Rs (List PyData)} {pre : List PyData} {k : List PyData → Rho → Prop} (h : LcEnd r pre k) (hk : ∀ ys ρ, k ys ρ → ys.length ≤ 1000000) : pre.length ≤ 1000000 := by
  cases r with
  | ok ys ρ =>
    have := hk _ _ h
    rw [List.length_append] at this
    omega
  | ex e => exact h.elim
  | bad => exact h.elim
theorem LcEnd.app {r : Rs (List PyData)} {g : List PyData → Rho → Rho} {pre ys : List PyData} {k : List PyData → Rho → Prop} (h : LcEnd (r.andThen fun zs ρ => .ok (ys ++ zs) ρ) pre k) : LcEnd r (pre ++ ys) k := by
  cases r with
  | ok zs ρ =>
    show k (pre ++ ys ++ zs) ρ
    rw [List.append_assoc]
    exact h
  | ex e => exact h.elim
  | bad => exact h.elim
/-- one clause's loop -/
theorem lc_loop {K : PySem.W.Frag} {mg : Str → Option Value} {B : Bs} {G1 H1 : Hp} {σ : L2.St} {ρ0 : Rho} {acc0 : List V} {ad0 : List PyData} {J : It} {items : List PyData} {vs : List Nat} {D : Addr} {k : List PyData → Rho → Prop} {Qd : Hp → Prop} (hts : ∀ i ∈ ts, i ∈ vs) (n : NewD B D)
    (x0 : AtD K B D G1 H1 (wipe σ vs) ρ0 acc0 ad0) (it : IterOk K J G1 items) (w : LcEnd (lcL b ft fe vs items ρ0) ad0 k) (hk : ∀ ys ρ, k ys ρ → ys.length ≤ 1000000)
    (hd : ∀ ys ρ G' H' acc, k ys ρ → Same G1 G' → AtD K B D G' H' (wipe σ vs) ρ acc ys → Qd H') :
    ∃ W : Nat → Nat → Hp → Prop, (∃ m, W 0 m H1) ∧ ∀ i m H, W i m H →
      (J.stop i H ∧ Qd H) ∨ (J.go i H ∧ ∃ Nx : Hp → Prop, (∀ H', Nx H' → ∃ m', m' < m ∧ W (i + 1) m' H') ∧ ∀ x H', J.yld i H x H' → gD K ts b x (wipe σ vs) H' fun σ2 H2 => wipe σ2 vs = wipe σ vs ∧ tDT K mg E0 ft σ2 H2 fun k H3 =>
        if k = true then tD K mg E0 fe σ2 H3 fun y H4 => ∃ acc, H4 D = some (.lst acc) ∧ acc.length < sizeLine ∧ Nx (upd H4 D (.lst (acc ++ [y]))) else Nx H3) := by
  obtain ⟨Gc, Y, wk, hG, hY⟩ := it.ex
  refine it_any wk (T := fun i x H' Nx => gD K ts b x (wipe σ vs) H' fun σ2 H2 => wipe σ2 vs = wipe σ vs ∧ tDT K mg E0 ft σ2 H2 fun k H3 =>
        if k = true then tD K mg E0 fe σ2 H3 fun y H4 => ∃ acc, H4 D = some (.lst acc) ∧ acc.length < sizeLine ∧ Nx (upd H4 D (.lst (acc ++ [y]))) else Nx H3)
    (fun i H => ∃ G2 ρ2 acc ad, Same G1 G2 ∧ AtD K B D G2 H (wipe σ vs) ρ2 acc ad ∧ LcEnd (lcL b ft fe vs (items.drop i) ρ2) ad k) ⟨G1, ρ0, acc0, ad0, Same.refl _, x0, by rw [List.drop_zero]; exact w⟩ (fun i H ⟨G2, ρ2, acc, ad, s2, x2, _⟩ => hG G2 H s2 x2.en.gh) ?_ ?_
  · rintro i x H2 H3 hi ⟨G2, ρ2, acc, ad, s2, x2, w4⟩ y
    obtain ⟨G3, d, xx, hd', dd⟩ := hY i G2 H2 x H3 hi s2 x2.en.gh y
    have x3 := x2.ext xx
    have en3 := x3.en.keep x3.hg x3.hl x3.ho
    have e : items.drop i = d :: items.drop (i + 1) := by
      obtain ⟨h5, h6⟩ := List.getElem?_eq_some_iff.mp hd'
      rw [List.drop_eq_getElem_cons h5, h6]
    rw [e] at w4
    unfold lcL at w4
    cases q : b d ρ2 with
    | none =>
      simp only [q] at w4
      exact w4.elim
    | some ρ3 =>
      simp only [q] at w4
      refine ⟨_, G3, ρ2, d, ρ3, en3, dd, q, fun σ3 en4 hw => ?_⟩
      have eσ : wipe σ3 vs = wipe σ vs := by rw [hw vs hts, wipe_wipe σ fun _ h => h]
      refine ⟨eσ, _, G3, ρ3, en4, (LcEnd.cons w4).mono fun c ρ4 _ w6 G4 H4 s4 en5 => ?_⟩
      cases c with
      | false =>
        refine L2.iteF ⟨G4, wipeR vs ρ4, acc, ad, (s2.trans xx.g).trans s4, (AtD.back n en5 s4 x3.da).wiped eσ, w6⟩
      | true =>
        refine L2.iteT ⟨_, G4, ρ4, en5, ?_⟩
        have w7 : LcEnd ((fe ρ4).andThen fun y ρ5 => (lcL b ft fe vs (items.drop (i + 1)) (wipeR vs ρ5)).andThen fun ys ρ6 => .ok (y :: ys) ρ6) ad k := w6
        refine (LcEnd.cons w7).mono fun y ρ5 _ w8 G5 H5 v s5 en6 d6 => ?_
        have w9 : LcEnd (lcL b ft fe vs (items.drop (i + 1)) (wipeR vs ρ5)) (ad ++ [y]) k := LcEnd.app (ys := [y]) (g := fun _ ρ => ρ) w8
        have x6 := ((AtD.back n en6 (s4.trans s5) x3.da).wiped eσ)
        refine ⟨acc, x6.hl, ?_, G5, wipeR vs ρ5, acc ++ [v], ad ++ [y], (s2.trans xx.g).trans (s4.trans s5), x6.push n d6, w9⟩
        have h1 := LcEnd.len w9 hk
        rw [List.length_append, ← DpAll.len x3.da, List.length_singleton] at h1
        have := size_lt
        omega
  · rintro H2 ⟨G2, ρ2, acc, ad, s2, x2, w4⟩
    rw [List.drop_length] at w4
    have w5 : k (ad ++ []) ρ2 := w4
    rw [List.append_nil] at w5
    exact hd ad ρ2 G2 H2 acc w5 s2 x2
theorem lc_begin {K : PySem.W.Frag} {B : Bs} {G1 H1 : Hp} {σ : L2.St} {ρ1 : Rho} {D : Addr} (en1 : EnvAt K B G1 H1 σ ρ1) (hD : H1 D = none) (vs : List Nat) : NewD B D ∧ AtD K B D G1 (upd H1 D (.lst [])) (wipe σ vs) (wipeR vs ρ1) [] [] :=
  ⟨⟨en1.fresh hD, (en1.gg.trans en1.gh).free hD, fun j h => en1.lv j D h hD⟩, (en1.wiped vs).ext (Ext.heap en1.gh (same_upd hD)), upd_same, en1.gh.free hD, not_own (en1.wiped vs) hD, .nil⟩
/-- the end: the list is nobody else's -/
theorem lc_end {K : PySem.W.Frag} {B : Bs} {G G1 H1 G' H' : Hp} {σ : L2.St} {ρ1 ρ : Rho} {D : Addr} {vs : List Nat} {acc : List V} {ys : List PyData} {Q : VK} (n : NewD B D) (s1 : Same G G1) (en1 : EnvAt K B G1 H1 σ ρ1) (h : KO' K B G σ Q ys (unwipeR vs ρ1 ρ)) (s2 : Same G1 G') (x : AtD K B D G' H' (wipe σ vs) ρ acc ys) : Q (V.ref D) H' := by
  refine h G' H' D acc (s1.trans s2) (en1.unwiped s2 x.en) x.hg x.hl x.da n.h0 (fun j ⟨c, ds, o1, o2⟩ => ?_) n.p0
  obtain ⟨s0, o3, o4⟩ := unwipeR_at o1
  by_cases hj : j ∈ vs
  · rw [if_pos hj] at o4
    split at o4 <;> cases o4
  · rw [if_neg hj] at o4
    subst o4
    exact x.ho j ⟨c, ds, o3, by rw [wipe_out hj]; exact o2⟩
theorem lc_reads {K : PySem.W.Frag} {mg : Str → Option Value} {B : Bs} {G G1 H1 : Hp} {σ : L2.St} {ρ1 : Rho} {Q : VK} {J : It} {items : List PyData} {vs : List Nat} (hts : ∀ i ∈ ts, i ∈ vs) (s1 : Same G G1) (en1 : EnvAt K B G1 H1 σ ρ1) (it : IterOk K J G1 items) (D : Addr) (hD : H1 D = none)
    (w : LcEnd (lcL b ft fe vs items (wipeR vs ρ1)) [] fun ys ρ2 => ys.length ≤ 1000000 ∧ KO' K B G σ Q ys (unwipeR vs ρ1 ρ2)) :
    ∃ W : Nat → Nat → Hp → Prop, (∃ m, W 0 m (upd H1 D (.lst []))) ∧ ∀ i m H, W i m H →
      (J.stop i H ∧ Q (.ref D) H) ∨ (J.go i H ∧ ∃ Nx : Hp → Prop, (∀ H', Nx H' → ∃ m', m' < m ∧ W (i + 1) m' H') ∧ ∀ x H', J.yld i H x H' → gD K ts b x (wipe σ vs) H' fun σ2 H2 => wipe σ2 vs = wipe σ vs ∧ tDT K mg E0 ft σ2 H2 fun k H3 =>
        if k = true then tD K mg E0 fe σ2 H3 fun y H4 => ∃ acc, H4 D = some (.lst acc) ∧ acc.length < sizeLine ∧ Nx (upd H4 D (.lst (acc ++ [y]))) else Nx H3) := by
  obtain ⟨n, x0⟩ := lc_begin en1 hD vs
  exact lc_loop hts n x0 it w (fun _ _ h => h.1) fun ys ρ G' H' acc h s2 x => lc_end n s1 en1 h.2 s2 x
theorem lc_of {mg : Str → Option Value} {B : Bs} {E : XK} {fi' : List PyData} {ρ1 : Rho} {vs : List Nat} {k : List PyData → Rho → Prop}
    (w : Want mg B E (match lcL b ft fe vs fi' (wipeR vs ρ1) with | .ok ys ρ2 => if ys.length ≤ 1000000 then Rs.ok ys (unwipeR vs ρ1 ρ2) else .bad | _ => .bad) k) :
    LcEnd (lcL b ft fe vs fi' (wipeR vs ρ1)) [] fun ys ρ2 => ys.length ≤ 1000000 ∧ k ys (unwipeR vs ρ1 ρ2) := by
  cases q : lcL b ft fe vs fi' (wipeR vs ρ1) with
  | ok ys ρ2 =>
    rw [q] at w
    simp only at w
    split at w
    · rename_i h
      exact ⟨h, w⟩
    · exact w.elim
  | ex e =>
    rw [q] at w
    exact w.elim
  | bad =>
    rw [q] at w
    exact w.elim
theorem pdo_lc (hc : X.calm = true) (hN : X.N.Nodup) (hi : PDI X E tg iter fi) (ok : BlkOk X.N X.env.scope scope own) (hg : InBlk X scope fun Y => PDG Y tg ts b) (hts : ∀ i ∈ ts, i ∈ own.map (·.2)) (ht : InBlk X scope fun Y => PDTs Y E0 ifs ft) (he : InBlk X scope fun Y => PD Y E0 elt fe)
    (hs : ∀ x, foldedSetIterable iter X.env x = pure x := by intro _; rfl) : PDO X E (.ListComp elt [⟨tg, iter, ifs, 0⟩] scope pos) (eLc fi b ft fe (own.map (·.2))) := by
  obtain ⟨wi, h1, w1⟩ := hi
  refine ⟨_, pe_lc (X := X) (g := gD X.K ts b) (tt := tDT X.K X.mg E0 ft) (te := tD X.K X.mg E0 fe) hc hN h1 ok (fun s H C cl fp => (hg s H C cl fp).can) (fun s H C cl fp => ht s H C cl fp) (fun s H C cl fp => PD.can (he s H C cl fp)) hs, fun B G H σ ρ Q en w => ?_⟩
  refine w1 B G H σ ρ _ en (w.andThen.mono fun items ρ1 _ w' J G1 H1 s1 en1 it D hD => ?_)
  exact lc_reads hts s1 en1 it D hD (lc_of w')
/-- name = [..] on one line -/
theorem pds_setLc (i : Nat) {y : Str} {py spos : Pos} (hc : X.calm = true) (hN : X.N.Nodup) (hi : PDI X E tg iter fi) (ok : BlkOk X.N X.env.scope scope own) (hg : InBlk X scope fun Y => PDG Y tg ts b) (hts : ∀ i ∈ ts, i ∈ own.map (·.2)) (ht : InBlk X scope fun Y => PDTs Y E0 ifs ft) (he : InBlk X scope fun Y => PD Y E0 elt fe)
    (hy : X.N[i]? = some y := by rfl) (hyl : X.env.scope.names.lookup y = some .local := by rfl) (hsw : swapsWith (.ListComp elt [⟨tg, iter, ifs, 0⟩] scope pos) (some (.Name y py)) spos.line X.env = pure true := by exact sw_true rfl rfl rfl (by decide +kernel))
    (hs : ∀ x, foldedSetIterable iter X.env x = pure x := by intro _; rfl) : PDS X E (.Assign [.Name y py] (.ListComp elt [⟨tg, iter, ifs, 0⟩] scope pos) spos) (sSet i (eLst (eLc fi b ft fe (own.map (·.2))))) := by
  obtain ⟨wi, h1, w1⟩ := hi
  refine ⟨_, ps_setLc (X := X) (g := gD X.K ts b) (tt := tDT X.K X.mg E0 ft) (te := tD X.K X.mg E0 fe) hc hN hy hyl hsw h1 ok (fun s H C cl fp => (hg s H C cl fp).can) (fun s H C cl fp => ht s H C cl fp) (fun s H C cl fp => PD.can (he s H C cl fp)) hs, fun B G H σ ρ D en w => ?_⟩
  have w := w.andThen.andThen.andThen
  refine w1 B G H σ ρ _ en (w.mono fun items ρ1 _ w' J G1 H1 s1 en1 it L hL => ?_)
  refine lc_reads (K := X.K) (mg := X.mg) (Q := fun x H1 => gName i x σ H1 D.nx) hts s1 en1 it L hL ?_
  have w2 := lc_of w'
  cases q : lcL b ft fe (own.map (·.2)) items (wipeR (own.map (·.2)) ρ1) with
  | ok ys ρ2 =>
    rw [q] at w2
    obtain ⟨z1, z2⟩ := w2
    refine ⟨z1, fun G' H' p vs s' e' g' q' d' n1 n2 _ => ?_⟩
    obtain ⟨e2, s2, d2⟩ := e'.freeze g' q' d' n1 n2
    exact z2 _ H' _ (s'.trans s2) (e2.set d2)
  | ex e =>
    rw [q] at w2
    exact w2.elim
  | bad =>
    rw [q] at w2
    exact w2.elim
theorem pds_setLcO (i : Nat) {y : Str} {py spos : Pos} (hc : X.calm = true) (hN : X.N.Nodup) (hi : PDI X E tg iter fi) (ok : BlkOk X.N X.env.scope scope own) (hg : InBlk X scope fun Y => PDG Y tg ts b) (hts : ∀ i ∈ ts, i ∈ own.map (·.2)) (ht : InBlk X scope fun Y => PDTs Y E0 ifs ft) (he : InBlk X scope fun Y => PD Y E0 elt fe)
    (hy : X.N[i]? = some y := by rfl) (hyl : X.env.scope.names.lookup y = some .local := by rfl) (hsw : swapsWith (.ListComp elt [⟨tg, iter, ifs, 0⟩] scope pos) (some (.Name y py)) spos.line X.env = pure true := by exact sw_true rfl rfl rfl (by decide +kernel))
    (hs : ∀ x, foldedSetIterable iter X.env x = pure x := by intro _; rfl) : PDS X E (.Assign [.Name y py] (.ListComp elt [⟨tg, iter, ifs, 0⟩] scope pos) spos) (sSetO i (eLc fi b ft fe (own.map (·.2)))) := by
  obtain ⟨wi, h1, w1⟩ := hi
  refine ⟨_, ps_setLc (X := X) (g := gD X.K ts b) (tt := tDT X.K X.mg E0 ft) (te := tD X.K X.mg E0 fe) hc hN hy hyl hsw h1 ok (fun s H C cl fp => (hg s H C cl fp).can) (fun s H C cl fp => ht s H C cl fp) (fun s H C cl fp => PD.can (he s H C cl fp)) hs, fun B G H σ ρ D en w => ?_⟩
  have w := w.andThen.andThen
  refine w1 B G H σ ρ _ en (w.mono fun items ρ1 _ w' J G1 H1 s1 en1 it L hL => ?_)
  refine lc_reads (K := X.K) (mg := X.mg) (Q := fun x H1 => gName i x σ H1 D.nx) hts s1 en1 it L hL ?_
  have w2 := lc_of w'
  cases q : lcL b ft fe (own.map (·.2)) items (wipeR (own.map (·.2)) ρ1) with
  | ok ys ρ2 =>
    rw [q] at w2
    obtain ⟨z1, z2⟩ := w2
    exact ⟨z1, fun G' H' p vs s' e' g' q' d' n1 n2 _ => z2 _ H' _ s' (e'.setOwn g' q' d' n1 n2)⟩
  | ex e =>
    rw [q] at w2
    exact w2.elim
  | bad =>
    rw [q] at w2
    exact w2.elim
/-! two clauses -/
def lc2L (b : PyData → Rho → Option Rho) (ft : Rho → Rs Bool) (fi1 : Rho → Rs (List PyData)) (b1 : PyData → Rho → Option Rho) (ft1 : Rho → Rs Bool) (fe : Rho → Rs PyData) (vs vs1 : List Nat) : List PyData → Rho → Rs (List PyData)
  | [], ρ => .ok [] ρ
  | d :: ds, ρ => match b d ρ with
    | none => .bad
    | some ρ1 => (ft ρ1).andThen fun k ρ2 => if k = true then (fi1 ρ2).andThen fun items1 ρ3 => (lcL b1 ft1 fe vs1 items1 (wipeR vs1 ρ3)).andThen fun ys ρ4 => (lc2L b ft fi1 b1 ft1 fe vs vs1 ds (wipeR vs ρ4)).andThen fun zs ρ5 => .ok (ys ++ zs) ρ5
      else lc2L b ft fi1 b1 ft1 fe vs vs1 ds (wipeR vs ρ2)
def eLc2 (fi : Rho → Rs (List PyData)) (b : PyData → Rho → Option Rho) (ft : Rho → Rs Bool) (fi1 : Rho → Rs (List PyData)) (b1 : PyData → Rho → Option Rho) (ft1 : Rho → Rs Bool) (fe : Rho → Rs PyData) (vs vs1 : List Nat) : Rho → Rs (List PyData) := fun ρ => (fi ρ).andThen fun items ρ1 =>
  match lc2L b ft fi1 b1 ft1 fe vs vs1 items (wipeR vs ρ1) with
  | .ok ys ρ2 => if ys.length ≤ 1000000 then .ok ys (unwipeR vs ρ1 ρ2) else .bad
  | _ => .bad
section
variable {X : Cx} {E : XK} {elt tg iter tg1 iter1 : Expr} {ifs ifs1 : List Expr} {scope : Scope} {own : List (Str × Nat)} {pos : Pos} {fi fi1 : Rho → Rs (List PyData)} {b b1 : PyData → Rho → Option Rho} {ts ts1 vs1 : List Nat} {ft ft1 : Rho → Rs Bool} {fe : Rho → Rs PyData}
theorem lc2_reads {K : PySem.W.Frag} {mg : Str → Option Value} {B : Bs} {G G1 H1 : Hp} {σ : L2.St} {ρ1 : Rho} {Q : VK} {J : It} {items : List PyData} {vs : List Nat} (hts : ∀ i ∈ ts, i ∈ vs) (hts1 : ∀ i ∈ ts1, i ∈ vs1) (hv : ∀ i ∈ vs1, i ∈ vs) (s1 : Same G G1) (en1 : EnvAt K B G1 H1 σ ρ1) (it : IterOk K J G1 items) (D : Addr) (hD : H1 D = none)
    (w : LcEnd (lc2L b ft fi1 b1 ft1 fe vs vs1 items (wipeR vs ρ1)) [] fun ys ρ2 => ys.length ≤ 1000000 ∧ KO' K B G σ Q ys (unwipeR vs ρ1 ρ2)) :
    ∃ W : Nat → Nat → Hp → Prop, (∃ m, W 0 m (upd H1 D (.lst []))) ∧ ∀ i m H, W i m H →
      (J.stop i H ∧ Q (.ref D) H) ∨ (J.go i H ∧ ∃ Nx : Hp → Prop, (∀ H', Nx H' → ∃ m', m' < m ∧ W (i + 1) m' H') ∧ ∀ x H', J.yld i H x H' → gD K ts b x (wipe σ vs) H' fun σ2 H2 => wipe σ2 vs = wipe σ vs ∧ tDT K mg E0 ft σ2 H2 fun k H3 =>
        if k = true then tDI K mg E0 fi1 σ2 H3 fun J1 H4 => ∃ W1 : Nat → Nat → Hp → Prop, (∃ m, W1 0 m H4) ∧ ∀ j k H, W1 j k H →
          (J1.stop j H ∧ Nx H) ∨ (J1.go j H ∧ ∃ Nx1 : Hp → Prop, (∀ H', Nx1 H' → ∃ k', k' < k ∧ W1 (j + 1) k' H') ∧ ∀ x H', J1.yld j H x H' → gD K ts1 b1 x (wipe σ2 vs1) H' fun σ3 H5 => wipe σ3 vs1 = wipe σ2 vs1 ∧ tDT K mg E0 ft1 σ3 H5 fun k H6 =>
            if k = true then tD K mg E0 fe σ3 H6 fun y H7 => ∃ acc, H7 D = some (.lst acc) ∧ acc.length < sizeLine ∧ Nx1 (upd H7 D (.lst (acc ++ [y]))) else Nx1 H6)
        else Nx H3) := by
  obtain ⟨n, x0⟩ := lc_begin en1 hD vs
  obtain ⟨Gc, Y, wk, hG, hY⟩ := it.ex
  have hk : ∀ ys ρ2, (ys.length ≤ 1000000 ∧ KO' K B G σ Q ys (unwipeR vs ρ1 ρ2)) → ys.length ≤ 1000000 := fun _ _ h => h.1
  refine it_any wk (T := fun i x H' Nx => gD K ts b x (wipe σ vs) H' fun σ2 H2 => wipe σ2 vs = wipe σ vs ∧ tDT K mg E0 ft σ2 H2 fun k H3 =>
        if k = true then tDI K mg E0 fi1 σ2 H3 fun J1 H4 => ∃ W1 : Nat → Nat → Hp → Prop, (∃ m, W1 0 m H4) ∧ ∀ j k H, W1 j k H →
          (J1.stop j H ∧ Nx H) ∨ (J1.go j H ∧ ∃ Nx1 : Hp → Prop, (∀ H', Nx1 H' → ∃ k', k' < k ∧ W1 (j + 1) k' H') ∧ ∀ x H', J1.yld j H x H' → gD K ts1 b1 x (wipe σ2 vs1) H' fun σ3 H5 => wipe σ3 vs1 = wipe σ2 vs1 ∧ tDT K mg E0 ft1 σ3 H5 fun k H6 =>
            if k = true then tD K mg E0 fe σ3 H6 fun y H7 => ∃ acc, H7 D = some (.lst acc) ∧ acc.length < sizeLine ∧ Nx1 (upd H7 D (.lst (acc ++ [y]))) else Nx1 H6)
        else Nx H3)
    (fun i H => ∃ G2 ρ2 acc ad, Same G1 G2 ∧ AtD K B D G2 H (wipe σ vs) ρ2 acc ad ∧ LcEnd (lc2L b ft fi1 b1 ft1 fe vs vs1 (items.drop i) ρ2) ad fun ys ρ2 => ys.length ≤ 1000000 ∧ KO' K B G σ Q ys (unwipeR vs ρ1 ρ2))
    ⟨G1, _, [], [], Same.refl _, x0, by rw [List.drop_zero]; exact w⟩ (fun i H ⟨G2, ρ2, acc, ad, s2, x2, _⟩ => hG G2 H s2 x2.en.gh) ?_ ?_
  · rintro i x H2 H3 hi ⟨G2, ρ2, acc, ad, s2, x2, w4⟩ y
    obtain ⟨G3, d, xx, hd', dd⟩ := hY i G2 H2 x H3 hi s2 x2.en.gh y
    have x3 := x2.ext xx
    have en3 := x3.en.keep x3.hg x3.hl x3.ho
    have e : items.drop i = d :: items.drop (i + 1) := by
      obtain ⟨h5, h6⟩ := List.getElem?_eq_some_iff.mp hd'
      rw [List.drop_eq_getElem_cons h5, h6]
    rw [e] at w4
    unfold lc2L at w4
    cases q : b d ρ2 with
    | none =>
      simp only [q] at w4
      exact w4.elim
    | some ρ3 =>
      simp only [q] at w4
      refine ⟨_, G3, ρ2, d, ρ3, en3, dd, q, fun σ3 en4 hw => ?_⟩
      have eσ : wipe σ3 vs = wipe σ vs := by rw [hw vs hts, wipe_wipe σ fun _ h => h]
      refine ⟨eσ, _, G3, ρ3, en4, (LcEnd.cons w4).mono fun c ρ4 _ w6 G4 H4 s4 en5 => ?_⟩
      cases c with
      | false =>
        refine L2.iteF ⟨G4, wipeR vs ρ4, acc, ad, (s2.trans xx.g).trans s4, (AtD.back n en5 s4 x3.da).wiped eσ, w6⟩
      | true =>
        refine L2.iteT ⟨_, G4, ρ4, en5, ?_⟩
        have w7 : LcEnd ((fi1 ρ4).andThen fun items1 ρ5 => (lcL b1 ft1 fe vs1 items1 (wipeR vs1 ρ5)).andThen fun ys ρ6 => (lc2L b ft fi1 b1 ft1 fe vs vs1 (items.drop (i + 1)) (wipeR vs ρ6)).andThen fun zs ρ7 => .ok (ys ++ zs) ρ7) ad
          fun ys ρ2 => ys.length ≤ 1000000 ∧ KO' K B G σ Q ys (unwipeR vs ρ1 ρ2) := w6
        refine (LcEnd.cons w7).mono fun items1 ρ5 _ w8 J1 G5 H5 s5 en6 it1 => ?_
        have x6 := AtD.back n en6 (s4.trans s5) x3.da
        -- the inner clause's own loop
        have w9 : LcEnd (lcL b1 ft1 fe vs1 items1 (wipeR vs1 ρ5)) ad fun ys ρ6 => LcEnd (lc2L b ft fi1 b1 ft1 fe vs vs1 (items.drop (i + 1)) (wipeR vs ρ6)) ys fun ys ρ2 => ys.length ≤ 1000000 ∧ KO' K B G σ Q ys (unwipeR vs ρ1 ρ2) := by
          cases r : lcL b1 ft1 fe vs1 items1 (wipeR vs1 ρ5) with
          | ok ys ρ6 =>
            rw [r] at w8
            exact LcEnd.app (ys := ys) (g := fun _ ρ => ρ) w8
          | ex e =>
            rw [r] at w8
            exact w8.elim
          | bad =>
            rw [r] at w8
            exact w8.elim
        refine lc_loop (σ := σ3) hts1 n (x6.wiped rfl) it1 w9 (fun ys ρ6 h => LcEnd.len h hk) fun ys ρ6 G' H' acc' h s' x' => ?_
        exact ⟨G', wipeR vs ρ6, acc', ys, ((s2.trans xx.g).trans (s4.trans s5)).trans s', x'.wiped (by rw [wipe_wipe σ3 hv, eσ]), h⟩
  · rintro H2 ⟨G2, ρ2, acc, ad, s2, x2, w4⟩
    rw [List.drop_length] at w4
    have w5 : (ad ++ []).length ≤ 1000000 ∧ KO' K B G σ Q (ad ++ []) (unwipeR vs ρ1 ρ2) := w4
    rw [List.append_nil] at w5
    exact lc_end n s1 en1 w5.2 s2 x2
theorem lc2_of {mg : Str → Option Value} {B : Bs} {E : XK} {r : Rs (List PyData)} {ρ1 : Rho} {vs : List Nat} {k : List PyData → Rho → Prop}
    (w : Want mg B E (match r with | .ok ys ρ2 => if ys.length ≤ 1000000 then Rs.ok ys (unwipeR vs ρ1 ρ2) else .bad | _ => .bad) k) :
    LcEnd r [] fun ys ρ2 => ys.length ≤ 1000000 ∧ k ys (unwipeR vs ρ1 ρ2) := by
  cases r with
  | ok ys ρ2 =>
    simp only at w
    split at w
    · rename_i h
      exact ⟨h, w⟩
    · exact w.elim
  | ex e => exact w.elim
  | bad => exact w.elim
theorem pdo_lc2 (hc : X.calm = true) (hN : X.N.Nodup) (hi : PDI X E tg iter fi) (ok : BlkOk X.N X.env.scope scope own) (hv : ∀ i ∈ vs1, i ∈ own.map (·.2)) (hg : InBlk X scope fun Y => PDG Y tg ts b) (hts : ∀ i ∈ ts, i ∈ own.map (·.2)) (ht : InBlk X scope fun Y => PDTs Y E0 ifs ft)
    (hi1 : InBlk X scope fun Y => PDI Y E0 tg1 iter1 fi1) (hg1 : InBlk X scope fun Y => PDG Y tg1 ts1 b1) (hts1 : ∀ i ∈ ts1, i ∈ vs1) (ht1 : InBlk X scope fun Y => PDTs Y E0 ifs1 ft1) (he : InBlk X scope fun Y => PD Y E0 elt fe)
    (hs : ∀ x, foldedSetIterable iter X.env x = pure x := by intro _; rfl) (hs1 : ∀ env x, foldedSetIterable iter1 env x = pure x := by intro _ _; rfl) :
    PDO X E (.ListComp elt [⟨tg, iter, ifs, 0⟩, ⟨tg1, iter1, ifs1, 0⟩] scope pos) (eLc2 fi b ft fi1 b1 ft1 fe (own.map (·.2)) vs1) := by
  obtain ⟨wi, h1, w1⟩ := hi
  refine ⟨_, pe_lc2 (X := X) (g := gD X.K ts b) (tt := tDT X.K X.mg E0 ft) (g1 := gD X.K ts1 b1) (tt1 := tDT X.K X.mg E0 ft1) (wi1 := tDI X.K X.mg E0 fi1) (te := tD X.K X.mg E0 fe) hc hN h1 ok hv (fun s H C cl fp => (hg s H C cl fp).can) (fun s H C cl fp => ht s H C cl fp) (fun s H C cl fp => PDI.can (hi1 s H C cl fp)) (fun s H C cl fp => (hg1 s H C cl fp).can)
    (fun s H C cl fp => ht1 s H C cl fp) (fun s H C cl fp => PD.can (he s H C cl fp)) hs hs1, fun B G H σ ρ Q en w => ?_⟩
  refine w1 B G H σ ρ _ en (w.andThen.mono fun items ρ1 _ w' J G1 H1 s1 en1 it D hD => ?_)
  exact lc2_reads hts hts1 hv s1 en1 it D hD (lc2_of w')
theorem pds_setLc2 (i : Nat) {y : Str} {py spos : Pos} (hc : X.calm = true) (hN : X.N.Nodup) (hi : PDI X E tg iter fi) (ok : BlkOk X.N X.env.scope scope own) (hv : ∀ i ∈ vs1, i ∈ own.map (·.2)) (hg : InBlk X scope fun Y => PDG Y tg ts b) (hts : ∀ i ∈ ts, i ∈ own.map (·.2)) (ht : InBlk X scope fun Y => PDTs Y E0 ifs ft)
    (hi1 : InBlk X scope fun Y => PDI Y E0 tg1 iter1 fi1) (hg1 : InBlk X scope fun Y => PDG Y tg1 ts1 b1) (hts1 : ∀ i ∈ ts1, i ∈ vs1) (ht1 : InBlk X scope fun Y => PDTs Y E0 ifs1 ft1) (he : InBlk X scope fun Y => PD Y E0 elt fe)
    (hy : X.N[i]? = some y := by rfl) (hyl : X.env.scope.names.lookup y = some .local := by rfl) (hsw : swapsWith (.ListComp elt [⟨tg, iter, ifs, 0⟩, ⟨tg1, iter1, ifs1, 0⟩] scope pos) (some (.Name y py)) spos.line X.env = pure true := by exact sw_true rfl rfl rfl (by decide +kernel))
    (hs : ∀ x, foldedSetIterable iter X.env x = pure x := by intro _; rfl) (hs1 : ∀ env x, foldedSetIterable iter1 env x = pure x := by intro _ _; rfl) :
    PDS X E (.Assign [.Name y py] (.ListComp elt [⟨tg, iter, ifs, 0⟩, ⟨tg1, iter1, ifs1, 0⟩] scope pos) spos) (sSet i (eLst (eLc2 fi b ft fi1 b1 ft1 fe (own.map (·.2)) vs1))) := by
  obtain ⟨wi, h1, w1⟩ := hi
  refine ⟨_, ps_setLc2 (X := X) (g := gD X.K ts b) (tt := tDT X.K X.mg E0 ft) (g1 := gD X.K ts1 b1) (tt1 := tDT X.K X.mg E0 ft1) (wi1 := tDI X.K X.mg E0 fi1) (te := tD X.K X.mg E0 fe) hc hN hy hyl hsw h1 ok hv (fun s H C cl fp => (hg s H C cl fp).can) (fun s H C cl fp => ht s H C cl fp) (fun s H C cl fp => PDI.can (hi1 s H C cl fp)) (fun s H C cl fp => (hg1 s H C cl fp).can)
    (fun s H C cl fp => ht1 s H C cl fp) (fun s H C cl fp => PD.can (he s H C cl fp)) hs hs1, fun B G H σ ρ D en w => ?_⟩
  have w := w.andThen.andThen.andThen
  refine w1 B G H σ ρ _ en (w.mono fun items ρ1 _ w' J G1 H1 s1 en1 it L hL => ?_)
  refine lc2_reads (K := X.K) (mg := X.mg) (Q := fun x H1 => gName i x σ H1 D.nx) hts hts1 hv s1 en1 it L hL ?_
  have w2 := lc2_of w'
  cases q : lc2L b ft fi1 b1 ft1 fe (own.map (·.2)) vs1 items (wipeR (own.map (·.2)) ρ1) with
  | ok ys ρ2 =>
    rw [q] at w2
    obtain ⟨z1, z2⟩ := w2
    refine ⟨z1, fun G' H' p vs s' e' g' q' d' n1 n2 _ => ?_⟩
    obtain ⟨e2, s2, d2⟩ := e'.freeze g' q' d' n1 n2
    exact z2 _ H' _ (s'.trans s2) (e2.set d2)
  | ex e =>
    rw [q] at w2
    exact w2.elim
  | bad =>
    rw [q] at w2
    exact w2.elim
end
end
end Dl

set_option Elab.async false
set_option linter.all false
set_option maxRecDepth 100000
set_option maxHeartbeats 1000000
namespace Dl
open PySem L2
/-! ### what a def promises, by data -/
def spP (K : PySem.W.Frag) (mg : Str → Option Value) (n : Nat) (F : List PyData → Rs PyData) : Sp := fun vs H Q E => vs.length = n ∧ ∃ G ds, Same G H ∧ DpAll K G vs ds ∧ match F ds with
  | .ok d _ => ∀ G' H' v, Ext G H G' H' → Dp K G' v d → Q v H'
  | .ex e => ∀ H' u dx, Same H H' → ExAt mg e u dx H' → E u dx H'
  | .bad => False
/-- its first argument is a list that it may change -/
def spB (K : PySem.W.Frag) (n : Nat) (F : List PyData → List PyData → Rs (PyData × List PyData)) : Sp := fun vs H Q _ => vs.length = n + 1 ∧ ∃ G p ws cs us ds, vs = .ref p :: us ∧ Same G H ∧ G p = none ∧ H p = some (.lst ws) ∧ DpAll K G ws cs ∧ DpAll K G us ds ∧ match F cs ds with
  | .ok r _ => ∀ G' H' v ws', ExtP p G H G' H' → H' p = some (.lst ws') → DpAll K G' ws' r.2 → Dp K G' v r.1 → Q v H'
  | _ => False
def fnP (k : Nat) (body : Rho → Rs Fl) : List PyData → Rs PyData := fun ds => match body (ds.map .sh ++ List.replicate (k - ds.length) .non) with
  | .ok (.rt d) _ => .ok d []
  | .ok .nx _ => .ok .none []
  | .ex e => .ex e
  | _ => .bad
/-- its result is a new list -/
def spO (K : PySem.W.Frag) (mg : Str → Option Value) (n : Nat) (F : List PyData → Rs (List PyData)) : Sp := fun vs H Q E => vs.length = n ∧ ∃ G ds, Same G H ∧ DpAll K G vs ds ∧ match F ds with
  | .ok es _ => ∀ G' H' p ws, Ext G H G' H' → H p = none → G' p = none → H' p = some (.lst ws) → DpAll K G' ws es → Q (V.ref p) H'
  | .ex e => ∀ H' u dx, Same H H' → ExAt mg e u dx H' → E u dx H'
  | .bad => False
def fnO (k : Nat) (body : Rho → Rs Fl) : List PyData → Rs (List PyData) := fun ds => match body (ds.map .sh ++ List.replicate (k - ds.length) .non) with
  | .ok (.ro ds) _ => .ok ds []
  | .ex e => .ex e
  | _ => .bad
def outB (d : PyData) (ρ : Rho) : Rs (PyData × List PyData) := match ρ[0]? with
  | some (Slot.own true cs) => .ok (d, cs) []
  | _ => .bad
def fnB (k : Nat) (body : Rho → Rs Fl) : List PyData → List PyData → Rs (PyData × List PyData) := fun cs ds => match body (.own true cs :: ds.map .sh ++ List.replicate (k - (ds.length + 1)) .non) with
  | .ok (.rt d) ρ => outB d ρ
  | .ok .nx ρ => outB .none ρ
  | _ => .bad
theorem start_len {N : List Str} {vs : List V} (h : vs.length ≤ N.length) : (L2.start N vs).length = N.length := by
  unfold L2.start
  rw [List.length_append, List.length_map, List.length_replicate]
  omega
theorem sh_slots {K : PySem.W.Frag} {G : Hp} {vs : List V} {ds : List PyData} {m : Nat} (r : DpAll K G vs ds) {i : Nat} {s : Slot} (h : (ds.map Slot.sh ++ List.replicate m .non)[i]? = some s) :
    (s = .non) ∨ ∃ d v, s = .sh d ∧ vs[i]? = some v ∧ Dp K G v d := by
  by_cases hi : i < ds.length
  · rw [List.getElem?_append_left (by simpa using hi), List.getElem?_map] at h
    obtain ⟨d, h1, h2⟩ := Option.map_eq_some_iff.mp h
    obtain ⟨v, h3, h4⟩ := DpAll.get r h1
    exact .inr ⟨d, v, h2.symm, h3, h4⟩
  · rw [List.getElem?_append_right (by simpa using hi), List.getElem?_replicate] at h
    split at h
    · exact .inl (Option.some.inj h).symm
    · cases h
theorem start_at {N : List Str} {vs : List V} {i : Nat} {v : V} (h : vs[i]? = some v) : (L2.start N vs)[i]? = some (some v) := by
  unfold L2.start
  rw [List.getElem?_append_left (by rw [List.length_map]; exact (List.getElem?_eq_some_iff.mp h).1), List.getElem?_map, h]
  rfl
theorem env_pure {K : PySem.W.Frag} {N : List Str} {G H : Hp} {vs : List V} {ds : List PyData} (hl : vs.length ≤ N.length) (gh : Same G H) (r : DpAll K G vs ds) : EnvAt K ⟨G, H, fun _ _ => False, []⟩ G H (L2.start N vs) (ds.map .sh ++ List.replicate (N.length - ds.length) .non) := by
  have no : ∀ i p, ¬ OwnAt (ds.map Slot.sh ++ List.replicate (N.length - ds.length) .non) (L2.start N vs) i p := fun i p ⟨b, es, h1, _⟩ => by
    rcases sh_slots r h1 with e | ⟨d, v, e, _⟩ <;> cases e
  refine ⟨?_, Same.refl _, gh, fun b o h _ => h, fun b _ h => h, fun i p h => h.elim, fun i s h => ?_, fun i j p h _ => absurd h (no i p), fun p hp => nomatch hp⟩
  · rw [start_len hl, List.length_append, List.length_map, List.length_replicate, ← DpAll.len r]
    omega
  · rcases sh_slots r h with e | ⟨d, v, e, h1, h2⟩
    · subst e
      trivial
    · subst e
      exact ⟨v, start_at h1, h2⟩
theorem env_bor {K : PySem.W.Frag} {N : List Str} {G H : Hp} {p : Addr} {ws us : List V} {cs ds : List PyData} (hl : us.length + 1 ≤ N.length) (gh : Same G H) (hp : G p = none) (hw : H p = some (.lst ws)) (rc : DpAll K G ws cs) (r : DpAll K G us ds) :
    EnvAt K ⟨G, H, fun i q => i = 0 ∧ q = p, []⟩ G H (L2.start N (.ref p :: us)) (.own true cs :: ds.map .sh ++ List.replicate (N.length - (ds.length + 1)) .non) := by
  have tail : ∀ i s, (Slot.own true cs :: ds.map Slot.sh ++ List.replicate (N.length - (ds.length + 1)) .non)[i + 1]? = some s → (s = .non) ∨ ∃ d v, s = .sh d ∧ us[i]? = some v ∧ Dp K G v d := fun i s h => sh_slots r (by simpa using h)
  have z0 : ∀ i q, OwnAt (Slot.own true cs :: ds.map Slot.sh ++ List.replicate (N.length - (ds.length + 1)) .non) (L2.start N (.ref p :: us)) i q → i = 0 := fun i q ⟨b, es, h1, _⟩ => by
    cases i with
    | zero => rfl
    | succ i => rcases tail i _ h1 with e | ⟨d, v, e, _⟩ <;> cases e
  refine ⟨?_, Same.refl _, gh, fun b o h _ => h, fun b _ h => h, fun i q h => (by rw [h.2, hw]; exact fun z => nomatch z), fun i s h => ?_, fun i j q h1 h2 => (z0 i q h1).trans (z0 j q h2).symm, fun p hp => nomatch hp⟩
  · rw [start_len (vs := V.ref p :: us) (by rw [List.length_cons]; exact hl), List.length_append, List.length_cons, List.length_map, List.length_replicate, ← DpAll.len r]
    omega
  · cases i with
    | zero =>
      cases h
      exact ⟨p, ws, start_at rfl, hp, hw, rc, rfl, rfl⟩
    | succ i =>
      rcases tail i _ h with e | ⟨d, v, e, h1, h2⟩
      · subst e
        trivial
      · subst e
        exact ⟨v, start_at (by simpa using h1), h2⟩
section
variable {P : Program} {w : World} {K : PySem.W.Frag} {mg : Str → Option Value} {base : Heap} {x qual : Str} {params : Arguments} {body : List Stmt} {scope : Scope} {f : Addr} {fd : FuncData} {N ps : List Str} {k : Nat}
/-- the context of a def's body -/
abbrev DefX (P : Program) (w : World) (K : PySem.W.Frag) (mg : Str → Option Value) (base : Heap) (N : List Str) (qual : Str) (scope : Scope) (f : Addr) (cdv : Value) (A : Around) (outer : List Env) (s : Shared) (H : Hp) (E : XK) : Cx :=
  cxOf (L2N.CX P w) P w K mg base N qual scope f cdv A outer s H E
theorem takesX {cdv : Value} {A : Around} {outer : List Env} {s : Shared} {H : Hp} {E : XK} : L2N.Takes (DefX P w K mg base N qual scope f cdv A outer s H E) (fun c d _ H => E c d H) := L2N.takes_of rfl rfl rfl rfl
theorem passX {cdv : Value} {A : Around} {outer : List Env} {s : Shared} {H : Hp} {E : XK} : Passes (L2N.CX P w) (DefX P w K mg base N qual scope f cdv A outer s H E) E := L2N.passes_call takesX fun _ _ _ _ h => h
theorem ownX {cdv : Value} {A : Around} {outer : List Env} {s : Shared} {H : Hp} {E : XK} : PassesOwn (model P w) (DefX P w K mg base N qual scope f cdv A outer s H E).A (DefX P w K mg base N qual scope f cdv A outer s H E).env (DefX P w K mg base N qual scope f cdv A outer s H E).xe := passes_of rfl
theorem ok_pure {fb : Rho → Rs Fl} (F : FunD K x qual params body scope [] [] f fd) (S : FnScope N ps scope) (hN : ps.length ≤ N.length) (h : ∀ (cdv : Value) (A : Around) (outer : List Env) (s : Shared) (H : Hp) (E : XK), Room k (A.deeper (PyProof.Rows.envOfC qual scope s.heap.objs.size f cdv)) → PDs (DefX P w K mg base N qual scope f cdv A outer s H E) E body fb) :
    FnOk P w K mg base (L2N.CX P w) (k + 1) f fd ps (spP K mg ps.length (fnP N.length fb)) := by
  refine F.ok S (fun vs H Q E h => h.1) (fun cdv A outer s H vs Q E hr hsp => ?_)
  obtain ⟨hl, G, ds, gh, r, w0⟩ := hsp
  obtain ⟨t, h1, w1⟩ := h cdv A outer s H E hr
  refine ⟨t, h1, w1 ⟨G, H, fun _ _ => False, []⟩ G H _ _ _ (env_pure (N := N) (by rw [hl]; exact hN) gh r) ?_⟩
  have ext : ∀ {G' H' : Hp} {σ' : L2.St} {ρ' : Rho}, Same G G' → EnvAt K ⟨G, H, fun _ _ => False, []⟩ G' H' σ' ρ' → Ext G H G' H' := fun s e => ⟨s, fun b o q => e.fr b o q fun _ z => z, e.gh, fun b h1 h2 => e.nw b h1 h2⟩
  unfold fnP at w0
  cases q : fb (ds.map .sh ++ List.replicate (N.length - ds.length) .non) with
  | ok fl ρ' =>
    rw [q] at w0
    cases fl with
    | nx => exact fun G' H' σ' s e => w0 G' H' .non (ext s e) .non
    | rt d => exact fun G' H' σ' v s e dv => w0 G' H' v (ext s e) dv
    | bk => exact w0.elim
    | ct => exact w0.elim
    | ro ds => exact w0.elim
  | ex e =>
    rw [q] at w0
    exact fun H' u dx fr ea => w0 H' u dx (fun b o z => fr b o z fun _ y => y) ea
  | bad =>
    rw [q] at w0
    exact w0.elim
theorem ok_own {fb : Rho → Rs Fl} (F : FunD K x qual params body scope [] [] f fd) (S : FnScope N ps scope) (hN : ps.length ≤ N.length) (h : ∀ (cdv : Value) (A : Around) (outer : List Env) (s : Shared) (H : Hp) (E : XK), Room k (A.deeper (PyProof.Rows.envOfC qual scope s.heap.objs.size f cdv)) → PDs (DefX P w K mg base N qual scope f cdv A outer s H E) E body fb) :
    FnOk P w K mg base (L2N.CX P w) (k + 1) f fd ps (spO K mg ps.length (fnO N.length fb)) := by
  refine F.ok S (fun vs H Q E h => h.1) (fun cdv A outer s H vs Q E hr hsp => ?_)
  obtain ⟨hl, G, ds, gh, r, w0⟩ := hsp
  obtain ⟨t, h1, w1⟩ := h cdv A outer s H E hr
  refine ⟨t, h1, w1 ⟨G, H, fun _ _ => False, []⟩ G H _ _ _ (env_pure (N := N) (by rw [hl]; exact hN) gh r) ?_⟩
  have ext : ∀ {G' H' : Hp} {σ' : L2.St} {ρ' : Rho}, Same G G' → EnvAt K ⟨G, H, fun _ _ => False, []⟩ G' H' σ' ρ' → Ext G H G' H' := fun s e => ⟨s, fun b o q => e.fr b o q fun _ z => z, e.gh, fun b h1 h2 => e.nw b h1 h2⟩
  unfold fnO at w0
  cases q : fb (ds.map .sh ++ List.replicate (N.length - ds.length) .non) with
  | ok fl ρ' =>
    rw [q] at w0
    cases fl with
    | ro es => exact fun G' H' σ' p vs s e a b c d => w0 G' H' p vs (ext s e) d a b c
    | nx => exact w0.elim
    | rt d => exact w0.elim
    | bk => exact w0.elim
    | ct => exact w0.elim
  | ex e =>
    rw [q] at w0
    exact fun H' u dx fr ea => w0 H' u dx (fun b o z => fr b o z fun _ y => y) ea
  | bad =>
    rw [q] at w0
    exact w0.elim
theorem ok_bor {fb : Rho → Rs Fl} (F : FunD K x qual params body scope [] [] f fd) (S : FnScope N ps scope) (hN : ps.length ≤ N.length) (n : Nat) (hn : ps.length = n + 1) (h : ∀ (cdv : Value) (A : Around) (outer : List Env) (s : Shared) (H : Hp) (E : XK), Room k (A.deeper (PyProof.Rows.envOfC qual scope s.heap.objs.size f cdv)) → PDs (DefX P w K mg base N qual scope f cdv A outer s H E) E body fb) :
    FnOk P w K mg base (L2N.CX P w) (k + 1) f fd ps (spB K n (fnB N.length fb)) := by
  refine F.ok S (fun vs H Q E h => by rw [h.1, hn]) (fun cdv A outer s H vs Q E hr hsp => ?_)
  obtain ⟨hl, G, p, ws, cs, us, ds, rfl, gh, hp, hw, rc, r, w0⟩ := hsp
  obtain ⟨t, h1, w1⟩ := h cdv A outer s H E hr
  rw [List.length_cons] at hl
  refine ⟨t, h1, w1 ⟨G, H, fun i q => i = 0 ∧ q = p, []⟩ G H _ _ _ (env_bor (N := N) (by omega) gh hp hw rc r) ?_⟩
  have ext : ∀ {G' H' : Hp} {σ' : L2.St} {ρ' : Rho}, Same G G' → EnvAt K ⟨G, H, fun i q => i = 0 ∧ q = p, []⟩ G' H' σ' ρ' → ExtP p G H G' H' := fun s e => ⟨s, fun b o hb q => e.fr b o q fun i z => hb z.2, e.gh, fun b h1 h2 => e.nw b h1 h2⟩
  have out : ∀ {d : PyData} {ρ' : Rho} {G' H' : Hp} {σ' : L2.St} {v : V}, (match outB d ρ' with
      | .ok r _ => ∀ G' H' v ws', ExtP p G H G' H' → H' p = some (.lst ws') → DpAll K G' ws' r.2 → Dp K G' v r.1 → Q v H'
      | _ => False) → Same G G' → EnvAt K ⟨G, H, fun i q => i = 0 ∧ q = p, []⟩ G' H' σ' ρ' → Dp K G' v d → Q v H' := fun {d ρ' G' H' σ' v} z s e dv => by
    unfold outB at z
    cases q : ρ'[0]? with
    | none =>
      rw [q] at z
      exact z.elim
    | some sl =>
      rw [q] at z
      cases sl with
      | own b cs' =>
        cases b with
        | true =>
          obtain ⟨p', us', g1, g2, g3, g4, g5⟩ := e.ownv q
          have : p' = p := g5.2
          subst this
          exact z G' H' v us' (ext s e) g3 g4 dv
        | false => exact z.elim
      | _ => exact z.elim
  unfold fnB at w0
  cases q : fb (.own true cs :: ds.map .sh ++ List.replicate (N.length - (ds.length + 1)) .non) with
  | ok fl ρ' =>
    rw [q] at w0
    cases fl with
    | nx => exact fun G' H' σ' s e => out w0 s e .non
    | rt d => exact fun G' H' σ' v s e dv => out w0 s e dv
    | bk => exact w0.elim
    | ct => exact w0.elim
    | ro ds => exact w0.elim
  | ex e =>
    rw [q] at w0
    exact w0.elim
  | bad =>
    rw [q] at w0
    exact w0.elim
end
/-! ### calls of the text's own defs -/
structure Callee (P : Program) (w : World) (K : PySem.W.Frag) (mg : Str → Option Value) (base : Heap) (x : Str) (k : Nat) (sp : Sp) : Prop where
  ex : ∃ f fd ps, FnOk P w K mg base (L2N.CX P w) k f fd ps sp ∧ mg x = some (.ref f) ∧ PySem.W.keepIn K (.ref f) = true ∧ Binds K fd ps []
def eFn (F : List PyData → Rs PyData) (fs : Rho → Rs (List PyData)) : Rho → Rs PyData := fun ρ => (fs ρ).andThen fun ds ρ => match F ds with
  | .ok d _ => .ok d ρ
  | .ex e => .ex e
  | .bad => .bad
def afterO (i : Nat) (F : List PyData → List PyData → Rs (PyData × List PyData)) (ds : List PyData) (ρ : Rho) : Rs PyData := match ρ[i]? with
  | some (Slot.own b cs) => (match F cs ds with
    | .ok r _ => .ok r.1 (ρ.set i (.own b r.2))
    | _ => .bad)
  | _ => .bad
def eFnO (i : Nat) (F : List PyData → List PyData → Rs (PyData × List PyData)) (fs : Rho → Rs (List PyData)) : Rho → Rs PyData := fun ρ => match ρ[i]? with
  | some (Slot.own _ _) => (fs ρ).andThen (afterO i F)
  | _ => .bad
def eFnN (F : List PyData → Rs (List PyData)) (fs : Rho → Rs (List PyData)) : Rho → Rs (List PyData) := fun ρ => (fs ρ).andThen fun ds ρ => match F ds with
  | .ok d _ => .ok d ρ
  | .ex e => .ex e
  | .bad => .bad
section
variable {X : Cx} {E : XK} {k n : Nat} {F : List PyData → Rs PyData} {FB : List PyData → List PyData → Rs (PyData × List PyData)} {x y : Str} {p p2 pos : Pos} {e : Expr} {es : List Expr} {fs : Rho → Rs (List PyData)}
theorem pd_call (C : Callee X.prog X.w X.K X.mg X.base x k (spP X.K X.mg n F)) (hr : Room k X.A) (hx : Passes (L2N.CX X.prog X.w) X E) (ha : PDA X E (e :: es) fs) (hn : (e :: es).length = n := by rfl) (hg : Gl X x := by rfl) (hdb : (x == ("__debug__" : Str)) = false := by decide)
    (he : starEach (e :: es) X.env = (false, eval e X.env) :: starEach es X.env := by rfl) (hpl : (backTo pos (starEach es X.env)).any (·.1) = false := by rfl) : PD X E (.Call (.Name x p) (e :: es) [] pos) (eFn F fs) := by
  obtain ⟨f, fd, ps, h1, h2, h3, h4⟩ := C.ex
  obtain ⟨⟨t, g1, w1⟩, hl⟩ := ha
  refine ⟨_, pe_call h1 hr hg h2 h3 h4 .nil hx g1 hdb he hpl, fun B G H σ ρ Q en w => ?_⟩
  refine w1 B G H σ ρ _ en (w.andThen.mono fun ds ρ1 q w' G1 H1 vs s1 en1 d1 => ?_)
  show spP X.K X.mg n F (vs ++ []) H1 Q E
  rw [List.append_nil]
  refine ⟨by rw [DpAll.len d1, hl _ _ _ q, hn], G1, ds, en1.gh, d1, ?_⟩
  cases r : F ds with
  | ok d _ =>
    rw [r] at w'
    exact ext_end (mg := X.mg) s1 en1 w'
  | ex c =>
    rw [r] at w'
    exact fun H' u dx s ea => w' H' u dx (fun b o z1 z2 => s b o (en1.fr b o z1 z2)) ea
  | bad =>
    rw [r] at w'
    exact w'.elim
theorem pdo_call {FN : List PyData → Rs (List PyData)} (C : Callee X.prog X.w X.K X.mg X.base x k (spO X.K X.mg n FN)) (hr : Room k X.A) (hx : Passes (L2N.CX X.prog X.w) X E) (ha : PDA X E (e :: es) fs) (hn : (e :: es).length = n := by rfl) (hg : Gl X x := by rfl) (hdb : (x == ("__debug__" : Str)) = false := by decide)
    (he : starEach (e :: es) X.env = (false, eval e X.env) :: starEach es X.env := by rfl) (hpl : (backTo pos (starEach es X.env)).any (·.1) = false := by rfl) : PDO X E (.Call (.Name x p) (e :: es) [] pos) (eFnN FN fs) := by
  obtain ⟨f, fd, ps, h1, h2, h3, h4⟩ := C.ex
  obtain ⟨⟨t, g1, w1⟩, hl⟩ := ha
  refine ⟨_, pe_call h1 hr hg h2 h3 h4 .nil hx g1 hdb he hpl, fun B G H σ ρ Q en w => ?_⟩
  refine w1 B G H σ ρ _ en (w.andThen.mono fun ds ρ1 q w' G1 H1 vs s1 en1 d1 => ?_)
  show spO X.K X.mg n FN (vs ++ []) H1 Q E
  rw [List.append_nil]
  refine ⟨by rw [DpAll.len d1, hl _ _ _ q, hn], G1, ds, en1.gh, d1, ?_⟩
  cases r : FN ds with
  | ok d _ =>
    rw [r] at w'
    exact fun G' H' q us xx n1 n2 n3 n4 => w' G' H' q us (s1.trans xx.g) (en1.ext xx) n2 n3 n4 (en1.fresh n1) (not_own en1 n1) fun j h => en1.lv j q h n1
  | ex c =>
    rw [r] at w'
    exact fun H' u dx s ea => w' H' u dx (fun b o z1 z2 => s b o (en1.fr b o z1 z2)) ea
  | bad =>
    rw [r] at w'
    exact w'.elim
theorem pd_call0 (C : Callee X.prog X.w X.K X.mg X.base x k (spP X.K X.mg 0 F)) (hr : Room k X.A) (hx : Passes (L2N.CX X.prog X.w) X E) (hg : Gl X x := by rfl) (hdb : (x == ("__debug__" : Str)) = false := by decide) : PD X E (.Call (.Name x p) [] [] pos) (eFn F eNil) := by
  obtain ⟨f, fd, ps, h1, h2, h3, h4⟩ := C.ex
  refine ⟨_, L2.pe_call0 h1 hr hg h2 h3 h4 .nil hx hdb, fun B G H σ ρ Q en w => ?_⟩
  have w' : Want X.mg B E (match F [] with | .ok d _ => .ok d ρ | .ex e => .ex e | .bad => .bad) (KE' X.K B G σ Q) := w
  refine ⟨rfl, G, [], en.gh, .nil, ?_⟩
  cases r : F [] with
  | ok d _ =>
    rw [r] at w'
    exact ext_end (mg := X.mg) (Same.refl _) en w'
  | ex c =>
    rw [r] at w'
    exact fun H' u dx s ea => w' H' u dx (fun b o z1 z2 => s b o (en.fr b o z1 z2)) ea
  | bad =>
    rw [r] at w'
    exact w'.elim
theorem pd_callO (i : Nat) (C : Callee X.prog X.w X.K X.mg X.base x k (spB X.K n FB)) (hr : Room k X.A) (hx : Passes (L2N.CX X.prog X.w) X E) (ha : PDA X E es fs) (hn : es.length = n := by rfl) (hN : X.N[i]? = some y := by rfl) (hv : Vis X.env.scope y := by first | exact Or.inl rfl | exact Or.inr (Or.inl rfl) | exact Or.inr (Or.inr rfl))
    (hg : Gl X x := by rfl) (hdb : (x == ("__debug__" : Str)) = false := by decide) (hd : (y == ("__debug__" : Str)) = false := by decide) (hcd : (y == ("__classdict__" : Str)) = false := by decide)
    (he : starEach (.Name y p2 :: es) X.env = (false, eval (.Name y p2) X.env) :: starEach es X.env := by rfl) (hpl : (backTo pos (starEach es X.env)).any (·.1) = false := by rfl) : PD X E (.Call (.Name x p) (.Name y p2 :: es) [] pos) (eFnO i FB fs) := by
  obtain ⟨f, fd, ps, h1, h2, h3, h4⟩ := C.ex
  obtain ⟨⟨t, g1, w1⟩, hl⟩ := ha
  refine ⟨_, pe_call h1 hr hg h2 h3 h4 .nil hx (pa_cons (pe_var hN hv hd hcd) g1 he) hdb he hpl, fun B G H σ ρ Q en w => ?_⟩
  unfold eFnO at w
  split at w
  · rename_i b0 cs0 q0
    obtain ⟨p0, _, z1, _⟩ := en.ownv q0
    refine ⟨_, z1, w1 B G H σ ρ _ en (w.andThen.mono fun ds ρ1 q w' G1 H1 vs s1 en1 d1 => ?_)⟩
    show spB X.K n FB (V.ref p0 :: vs ++ []) H1 Q E
    rw [List.append_nil]
    unfold afterO at w'
    split at w'
    · rename_i b cs q1
      obtain ⟨p1, ws, y1, y2, y3, y4, y5⟩ := en1.ownv q1
      rw [z1] at y1
      cases y1
      refine ⟨by rw [List.length_cons, DpAll.len d1, hl _ _ _ q, hn], G1, p0, ws, cs, vs, ds, rfl, en1.gh, y2, y3, y4, d1, ?_⟩
      cases r : FB cs ds with
      | ok r0 ρ' =>
        simp only [r] at w'
        exact fun G' H' v ws' xx hw hd' dv => w' G' H' v (s1.trans xx.g) (en1.extP q1 z1 xx hw hd') dv
      | ex c =>
        simp only [r] at w'
        exact w'.elim
      | bad =>
        simp only [r] at w'
        exact w'.elim
    · exact w'.elim
  · exact w.elim
end
end Dl

set_option Elab.async false
set_option linter.all false
set_option maxRecDepth 100000
set_option maxHeartbeats 1000000
namespace Dl
open PySem L2
/-! ### raise -/
/-- a class of the text's own errors over ValueError, called with a text -/
structure ExcC (K : PySem.W.Frag) (mg : Str → Option Value) (x : Str) : Prop where
  ex : ∃ C, mg x = some (.ref C) ∧ PySem.W.excIn K C [.type "ValueError", .type "Exception", .type "BaseException", .type "object"] "ValueError.__new__" = true ∧ PySem.W.keepIn K (.ref C) = true ∧ PySem.W.subIn K (.ref C) (.type "BaseException") = some true ∧ PySem.W.typeIn K (.ref C) = some (.type "type")
def sRaise (x : Str) : Rho → Rs Fl := fun _ => .ex ⟨x, none⟩
theorem pds_raise {X : Cx} {E : XK} {x m : Str} {j : Nat} {p p2 pos pos' : Pos} (C : ExcC X.K X.mg x) (hc : X.calm = true) (tk : L2N.Takes X (fun c d _ H => E c d H)) (hg : Gl X x := by rfl) (hdb : (x == ("__debug__" : Str)) = false := by decide) :
    PDS X E (.Raise (some (.Call (.Name x p) [.Constant (.str m) j p2] [] pos)) none pos') (sRaise x) := by
  obtain ⟨C, h1, h2, h3, h4, h5⟩ := C.ex
  refine ⟨_, L2N.ps_raise hc tk (L2N.pmk_own PySem.F.excBase_ValueError h2 h1 h3 (raises_own h4 h5) hg hdb), fun B G H σ ρ D en w => ?_⟩
  exact w H _ _ en.fr ⟨C, rfl, h1, rfl⟩
/-! ### looks -/
def eLookT (f : Rho → Rs Bool) : Rho → Rs Bool := fun ρ => match f (ρ.map Slot.see) with
  | .ok b _ => .ok b ρ
  | _ => .bad
theorem pdt_look {X : Cx} {E : XK} {e : Expr} {f : Rho → Rs Bool} (h : PDT X E e f) : PDT X E e (eLookT f) := by
  obtain ⟨t, h1, w1⟩ := h
  refine ⟨_, h1, fun B G H σ ρ Q en w => ?_⟩
  obtain ⟨sg, en2⟩ := en.look
  refine w1 _ _ H σ _ Q en2 ?_
  unfold eLookT at w
  split at w
  · rename_i b ρ' hd
    rw [hd]
    intro G' H' s' e'
    have hh : Same H H' := fun b o h => e'.fr b o h fun _ z => z
    exact w G H' (Same.refl _) (en.unlook hh)
  · exact w.elim
/-! ### lists of one's own -/
def ownAt (ρ : Rho) (i : Nat) : Option (Bool × List PyData) := match ρ[i]? with
  | some (.own b ds) => some (b, ds)
  | _ => none
theorem ownAt_iff {ρ : Rho} {i : Nat} {z : Bool × List PyData} (h : ownAt ρ i = some z) : ρ[i]? = some (.own z.1 z.2) := by
  unfold ownAt at h
  split at h
  · rename_i b ds q
    cases h
    exact q
  · cases h
/-- own[k] -/
def eOIx (i : Nat) (f : Rho → Rs PyData) : Rho → Rs PyData := fun ρ => match ownAt ρ i with
  | none => .bad
  | some _ => (f ρ).andThen fun k ρ1 => match ownAt ρ1 i, k with
    | some z, .int k => opt (atI z.2 k) ρ1
    | _, _ => .bad
/-- own.append(e) -/
def sApp (i : Nat) (f : Rho → Rs PyData) : Rho → Rs Fl := fun ρ => match ownAt ρ i with
  | none => .bad
  | some _ => (f ρ).andThen fun d ρ1 => match ownAt ρ1 i with
    | some z => if z.2.length < 1000000 then .ok .nx (ρ1.set i (.own z.1 (z.2 ++ [d]))) else .bad
    | _ => .bad
/-- own.pop(k) -/
def ePopAt (i : Nat) (f : Rho → Rs PyData) : Rho → Rs PyData := fun ρ => match ownAt ρ i with
  | none => .bad
  | some _ => (f ρ).andThen fun d ρ1 => match ownAt ρ1 i, d with
    | some z, .int k => (match ixN z.2.length k with
      | some j => if z.2.length ≤ 1000000 then (match z.2[j]? with
        | some d => .ok d (ρ1.set i (.own z.1 (z.2.eraseIdx j)))
        | none => .bad) else .bad
      | none => .bad)
    | _, _ => .bad
/-- own.pop() -/
def ePop (i : Nat) : Rho → Rs PyData := fun ρ => match ownAt ρ i with
  | none => .bad
  | some z => match z.2[z.2.length - 1]? with
    | some d => .ok d (ρ.set i (.own z.1 z.2.dropLast))
    | none => .bad
/-- own[k] = e -/
def sStore (i : Nat) (fk f : Rho → Rs PyData) : Rho → Rs Fl := fun ρ => (f ρ).andThen fun d ρ1 => match ownAt ρ1 i with
  | none => .bad
  | some _ => (fk ρ1).andThen fun k ρ2 => match ownAt ρ2 i, k with
    | some z, .int k => (match ixN z.2.length k with
      | some j => .ok .nx (ρ2.set i (.own z.1 (z.2.set j d)))
      | none => .bad)
    | _, _ => .bad
theorem DpAll.dropLast {K : PySem.W.Frag} {G : Hp} : ∀ {vs : List V} {ds : List PyData}, DpAll K G vs ds → DpAll K G vs.dropLast ds.dropLast
  | _, _, .nil => .nil
  | _, _, .cons h r => by
    cases r with
    | nil => exact .nil
    | cons h' r' => exact .cons h (DpAll.dropLast (.cons h' r'))
section
variable {X : Cx} {E : XK} {e : Expr} {x : Str} {p apos pos : Pos} {f fk : Rho → Rs PyData}
theorem pd_oix (i : Nat) (hf : PD X E e f) (hN : X.N[i]? = some x := by rfl) (hv : Vis X.env.scope x := by first | exact Or.inl rfl | exact Or.inr (Or.inl rfl) | exact Or.inr (Or.inr rfl)) (hd : (x == ("__debug__" : Str)) = false := by decide)
    (hcd : (x == ("__classdict__" : Str)) = false := by decide) (hs : PlainIx e := by exact fun _ _ => rfl) : PD X E (.Subscript (.Name x p) e pos) (eOIx i f) := by
  obtain ⟨t1, h1, w1⟩ := hf
  refine ⟨_, pe_ix ix_list (pe_var hN hv hd hcd) h1 hs, fun B G H σ ρ Q en w => ?_⟩
  unfold eOIx at w
  split at w
  · exact w.elim
  · rename_i z0 q0
    obtain ⟨q, us, z1, z2, z3, z4, z5⟩ := en.ownv (ownAt_iff q0)
    refine ⟨_, z1, w1 B G H σ ρ _ en (w.andThen.mono fun d ρ1 _ w' G1 H1 v s1 en1 d1 => ?_)⟩
    split at w'
    · rename_i z k q1 _
      obtain ⟨q', us', y1, y2, y3, y4, y5⟩ := en1.ownv (ownAt_iff q1)
      rw [z1] at y1
      cases y1
      unfold opt at w'
      split at w'
      · rename_i dd hdd
        cases dp_int d1
        obtain ⟨vv, e1, e2⟩ := atI_dp y4 hdd
        exact ⟨q, us', k, vv, rfl, rfl, SqL.of y3, e1, w' G1 H1 vv s1 en1 e2⟩
      · exact w'.elim
    · exact w'.elim
theorem pds_app (i : Nat) {e : Expr} {f : Rho → Rs PyData} {pos' : Pos} (hf : PD X E e f) (hN : X.N[i]? = some x := by rfl) (hv : Vis X.env.scope x := by first | exact Or.inl rfl | exact Or.inr (Or.inl rfl) | exact Or.inr (Or.inr rfl)) (hd : (x == ("__debug__" : Str)) = false := by decide)
    (hcd : (x == ("__classdict__" : Str)) = false := by decide)
    (hbase : attributeBase (.Name x p) "append" X.env (eval (.Name x p) X.env) = eval (.Name x p) X.env := by rfl)
    (hfew : ((backTo pos (starEach [e] X.env)).all (fun x => !x.1) && (backToKw pos (keywordEach [] X.env)).all (fun x => x.1.isSome)
      && decide (([e] : List Expr).length + ([] : List Keyword).length + (if ([] : List Keyword).isEmpty then 0 else 1) < 30)) = true := by rfl)
    (hline : (apos.endLine == pos.line) = true := by rfl) (hs : starEach [e] X.env = [(false, eval e X.env)] := by rfl)
    (hsw : swapsWith (.Call (.Attribute (.Name x p) "append" apos) [e] [] pos) none pos'.line X.env = pure false := by rfl) :
    PDS X E (.Expr (.Call (.Attribute (.Name x p) "append" apos) [e] [] pos) pos') (sApp i f) := by
  obtain ⟨t1, h1, w1⟩ := hf
  refine ⟨_, ps_expr (pe_bm PySem.F.plainAttrs_list PySem.F.slot_list_append PySem.F.type_list_append mt_append (pe_var hN hv hd hcd) (pa_cons h1 pa_nil hs) hbase hfew hline hs (by rfl)) hsw, fun B G H σ ρ D en w => ?_⟩
  unfold sApp at w
  split at w
  · exact w.elim
  · rename_i z0 q0
    obtain ⟨q, us, z1, z2, z3, z4, z5⟩ := en.ownv (ownAt_iff q0)
    refine ⟨_, z1, .inl ⟨rfl, _, SqL.of z3⟩, w1 B G H σ ρ _ en (w.andThen.mono fun d ρ1 _ w' G1 H1 v s1 en1 d1 => ?_)⟩
    split at w'
    · rename_i z q1
      split at w'
      · rename_i hz
        obtain ⟨q', us', y1, y2, y3, y4, y5⟩ := en1.ownv (ownAt_iff q1)
        rw [z1] at y1
        cases y1
        refine ⟨q, us', v, rfl, rfl, y3, ?_, w' G1 _ σ s1 (en1.chg (ownAt_iff q1) z1 (DpAll.app y4 (Dl.DpAll.one d1)))⟩
        rw [DpAll.len y4]
        exact Nat.lt_of_lt_of_le hz size_lt
      · exact w'.elim
    · exact w'.elim
theorem pd_popAt (i : Nat) {e : Expr} {f : Rho → Rs PyData} (hf : PD X E e f) (hN : X.N[i]? = some x := by rfl) (hv : Vis X.env.scope x := by first | exact Or.inl rfl | exact Or.inr (Or.inl rfl) | exact Or.inr (Or.inr rfl)) (hd : (x == ("__debug__" : Str)) = false := by decide)
    (hcd : (x == ("__classdict__" : Str)) = false := by decide)
    (hbase : attributeBase (.Name x p) "pop" X.env (eval (.Name x p) X.env) = eval (.Name x p) X.env := by rfl)
    (hfew : ((backTo pos (starEach [e] X.env)).all (fun x => !x.1) && (backToKw pos (keywordEach [] X.env)).all (fun x => x.1.isSome)
      && decide (([e] : List Expr).length + ([] : List Keyword).length + (if ([] : List Keyword).isEmpty then 0 else 1) < 30)) = true := by rfl)
    (hline : (apos.endLine == pos.line) = true := by rfl) (hs : starEach [e] X.env = [(false, eval e X.env)] := by rfl) :
    PD X E (.Call (.Attribute (.Name x p) "pop" apos) [e] [] pos) (ePopAt i f) := by
  obtain ⟨t1, h1, w1⟩ := hf
  refine ⟨_, pe_bm PySem.F.plainAttrs_list PySem.F.slot_list_pop PySem.F.type_list_pop mt_popAt (pe_var hN hv hd hcd) (pa_cons h1 pa_nil hs) hbase hfew hline hs (by rfl), fun B G H σ ρ Q en w => ?_⟩
  unfold ePopAt at w
  split at w
  · exact w.elim
  · rename_i z0 q0
    obtain ⟨q, us, z1, z2, z3, z4, z5⟩ := en.ownv (ownAt_iff q0)
    refine ⟨_, z1, .inl ⟨rfl, _, SqL.of z3⟩, w1 B G H σ ρ _ en (w.andThen.mono fun d ρ1 _ w' G1 H1 v s1 en1 d1 => ?_)⟩
    split at w'
    · rename_i z k q1 _
      split at w'
      · rename_i j hj
        split at w'
        · rename_i hz
          split at w'
          · rename_i dd hdd
            obtain ⟨q', us', y1, y2, y3, y4, y5⟩ := en1.ownv (ownAt_iff q1)
            rw [z1] at y1
            cases y1
            cases dp_int d1
            obtain ⟨vv, e1, e2⟩ := DpAll.get y4 hdd
            obtain ⟨g1, g2, g3, g4⟩ := ixN_seq hj
            refine ⟨q, us', k, j, vv, rfl, rfl, y3, by omega, by omega, by rw [DpAll.len y4]; exact g1, e1, ?_⟩
            exact w' G1 _ vv s1 (en1.chg (ownAt_iff q1) z1 (DpAll.erase j y4)) e2
          · exact w'.elim
        · exact w'.elim
      · exact w'.elim
    · exact w'.elim
theorem pd_pop (i : Nat) (hN : X.N[i]? = some x := by rfl) (hv : Vis X.env.scope x := by first | exact Or.inl rfl | exact Or.inr (Or.inl rfl) | exact Or.inr (Or.inr rfl)) (hd : (x == ("__debug__" : Str)) = false := by decide)
    (hcd : (x == ("__classdict__" : Str)) = false := by decide)
    (hbase : attributeBase (.Name x p) "pop" X.env (eval (.Name x p) X.env) = eval (.Name x p) X.env := by rfl)
    (hline : (apos.endLine == pos.line) = true := by rfl) :
    PD X E (.Call (.Attribute (.Name x p) "pop" apos) [] [] pos) (ePop i) := by
  refine ⟨_, pe_bm0 PySem.F.plainAttrs_list PySem.F.slot_list_pop PySem.F.type_list_pop mt_pop (pe_var hN hv hd hcd) hbase hline, fun B G H σ ρ Q en w => ?_⟩
  unfold ePop at w
  split at w
  · exact w.elim
  · rename_i z q1
    split at w
    · rename_i dd hdd
      obtain ⟨q, us', z1, y2, y3, y4, y5⟩ := en.ownv (ownAt_iff q1)
      have hl := DpAll.len y4
      obtain ⟨vv, e1, e2⟩ := DpAll.get y4 hdd
      refine ⟨_, z1, .inl ⟨rfl, _, SqL.of y3⟩, q, us', vv, rfl, rfl, y3, by rw [hl]; exact e1, ?_⟩
      exact w G _ vv (Same.refl _) (en.chg (ownAt_iff q1) z1 (DpAll.dropLast y4)) e2
    · exact w.elim
theorem pds_store (i : Nat) {e ek : Expr} {pos' : Pos} (hf : PD X E e f) (hk : PD X E ek fk) (hN : X.N[i]? = some x := by rfl) (hv : Vis X.env.scope x := by first | exact Or.inl rfl | exact Or.inr (Or.inl rfl) | exact Or.inr (Or.inr rfl)) (hd : (x == ("__debug__" : Str)) = false := by decide)
    (hcd : (x == ("__classdict__" : Str)) = false := by decide)
    (ha : ∀ v, assign (.Subscript (.Name x p) ek pos) X.env v = (do
      let ov ← holding [v] (eval (.Name x p) X.env)
      let iv ← holding [v, ov] (eval ek X.env)
      standAt pos
      holding [v, ov, iv] (setItem ov iv v)
      release [v, ov, iv] []) := by intro _; rfl)
    (hs : swapsWithSole [.Subscript (.Name x p) ek pos] e pos'.line X.env = pure false := by rfl) (hw : swappedStores [.Subscript (.Name x p) ek pos] e X.env = pure none := by rfl)
    (h1 : (assignEach [.Subscript (.Name x p) ek pos] X.env).map (·.2) = [assign (.Subscript (.Name x p) ek pos) X.env] := by rfl) :
    PDS X E (.Assign [.Subscript (.Name x p) ek pos] e pos') (sStore i fk f) := by
  obtain ⟨t1, g1, w1⟩ := hf
  obtain ⟨t2, g2, w2⟩ := hk
  refine ⟨_, ps_asg g1 (pg_sub (pe_var hN hv hd hcd) g2 set_list ha) hs hw h1, fun B G H σ ρ D en w => ?_⟩
  unfold sStore at w
  refine w1 B G H σ ρ _ en (w.andThen.mono fun d ρ1 _ w' G1 H1 v s1 en1 d1 => ?_)
  split at w'
  · exact w'.elim
  · rename_i z0 q0
    obtain ⟨q, us, z1, z2, z3, z4, z5⟩ := en1.ownv (ownAt_iff q0)
    refine ⟨_, z1, w2 B G1 H1 σ ρ1 _ en1 (w'.andThen.mono fun k ρ2 _ w' G2 H2 kv s2 en2 d2 => ?_)⟩
    split at w'
    · rename_i z k q1 _
      split at w'
      · rename_i j hj
        obtain ⟨q', us', y1, y2, y3, y4, y5⟩ := en2.ownv (ownAt_iff q1)
        rw [z1] at y1
        cases y1
        cases dp_int d2
        exact ⟨q, us', k, j, rfl, rfl, y3, by rw [DpAll.len y4]; exact hj, w' G2 _ σ (s1.trans s2) (en2.chg (ownAt_iff q1) z1 (DpAll.set (Dpm s2 d1) j y4))⟩
      · exact w'.elim
    · exact w'.elim
end
end Dl

set_option Elab.async false
set_option linter.all false
set_option maxRecDepth 100000
set_option maxHeartbeats 1000000
namespace Dl
open PySem L2
/-! ### a, b = x, y -/
inductive Part where
  | sh (d : PyData)
  | ow (ds : List PyData)
inductive PartsAt (K : PySem.W.Frag) (B : Bs) (G H : Hp) (σ : L2.St) (ρ : Rho) : List Addr → List V → List Part → Prop
  | nil : PartsAt K B G H σ ρ [] [] []
  | sh {ps vs ss v d} : Dp K G v d → PartsAt K B G H σ ρ ps vs ss → PartsAt K B G H σ ρ ps (v :: vs) (.sh d :: ss)
  | ow {ps vs ss p us ds} : G p = none → H p = some (.lst us) → DpAll K G us ds → B.H0 p = none → (∀ j, ¬ OwnAt ρ σ j p) → (∀ j, ¬ B.P0 j p) → p ∉ ps → PartsAt K B G H σ ρ ps vs ss → PartsAt K B G H σ ρ (p :: ps) (.ref p :: vs) (.ow ds :: ss)
abbrev KM' (K : PySem.W.Frag) (B : Bs) (G : Hp) (σ : L2.St) (Q : List V → Hp → Prop) : List Part → Rho → Prop := fun ss ρ' => ∀ G' H' ps vs, Same G G' → EnvAt K B G' H' σ ρ' → PartsAt K B G' H' σ ρ' ps vs ss → Q vs H'
def PDM (X : Cx) (E : XK) (es : List Expr) (f : Rho → Rs (List Part)) : Prop := (∃ t, PA X es t ∧ ∀ B G H σ ρ Q, EnvAt X.K B G H σ ρ → Want X.mg B E (f ρ) (KM' X.K B G σ Q) → t σ H Q) ∧ ∀ ρ ds ρ', f ρ = .ok ds ρ' → ds.length = es.length
def mNil : Rho → Rs (List Part) := fun ρ => .ok [] ρ
def mSh (fa : Rho → Rs PyData) (fr : Rho → Rs (List Part)) : Rho → Rs (List Part) := fun ρ => (fa ρ).andThen fun a ρ => (fr ρ).andThen fun r ρ => .ok (.sh a :: r) ρ
def mOw (fa : Rho → Rs (List PyData)) (fr : Rho → Rs (List Part)) : Rho → Rs (List Part) := fun ρ => (fa ρ).andThen fun a ρ => (fr ρ).andThen fun r ρ => .ok (.ow a :: r) ρ
def setPart (i : Nat) (ρ : Rho) : Part → Rho
  | .sh d => ρ.set i (.sh d)
  | .ow ds => ρ.set i (.own false ds)
def setParts : List Nat → List Part → Rho → Rho
  | i :: is, s :: ss, ρ => setParts is ss (setPart i ρ s)
  | _, _, ρ => ρ
def setVs : List Nat → List V → L2.St → L2.St
  | i :: is, v :: vs, σ => setVs is vs (σ.set i (some v))
  | _, _, σ => σ
def sPar (is : List Nat) (f : Rho → Rs (List Part)) : Rho → Rs Fl := fun ρ => (f ρ).andThen fun ss ρ => .ok .nx (setParts is ss ρ)
section
variable {K : PySem.W.Frag} {B : Bs} {G H : Hp} {σ : L2.St} {ρ : Rho} {ps : List Addr} {vs : List V} {ss : List Part}
theorem PartsAt.len (h : PartsAt K B G H σ ρ ps vs ss) : vs.length = ss.length := by
  induction h with
  | nil => rfl
  | sh _ _ ih => rw [List.length_cons, List.length_cons, ih]
  | ow _ _ _ _ _ _ _ _ ih => rw [List.length_cons, List.length_cons, ih]
theorem PartsAt.chg {σ' : L2.St} {ρ' : Rho} (h : PartsAt K B G H σ ρ ps vs ss) (k : ∀ p ∈ ps, (∀ j, ¬ OwnAt ρ σ j p) → ∀ j, ¬ OwnAt ρ' σ' j p) : PartsAt K B G H σ' ρ' ps vs ss := by
  induction h with
  | nil => exact .nil
  | sh d _ ih => exact .sh d (ih k)
  | ow a b c d e f g _ ih => exact .ow a b c d (k _ List.mem_cons_self e) f g (ih fun p hp => k p (List.mem_cons_of_mem _ hp))
theorem PartsAt.owns (h : PartsAt K B G H σ ρ ps vs ss) : ∀ p ∈ ps, B.H0 p = none := by
  induction h with
  | nil => exact fun p hp => by cases hp
  | sh _ _ ih => exact ih
  | ow _ _ _ d _ _ _ _ ih =>
    intro p hp
    rcases List.mem_cons.mp hp with e | e
    · rw [e]; exact d
    · exact ih p e
theorem keepNone {D p : Addr} {o : HO} (d : (B.keep D o).H0 p = none) : B.H0 p = none := by
  have hp : p ≠ D := fun q => by rw [q, show (B.keep D o).H0 D = some o from upd_same] at d; cases d
  rw [← show (B.keep D o).H0 p = B.H0 p from upd_ne hp]
  exact d
theorem PartsAt.unkeep {D : Addr} {o : HO} (h : PartsAt K (B.keep D o) G H σ ρ ps vs ss) : PartsAt K B G H σ ρ ps vs ss := by
  induction h with
  | nil => exact .nil
  | sh d _ ih => exact .sh d ih
  | ow a b c d e f g _ ih =>
    exact .ow a b c (keepNone d) e f g ih
theorem notOwn_sh {i : Nat} {v : V} {d : PyData} {j : Nat} {p : Addr} (h : OwnAt (ρ.set i (.sh d)) (σ.set i (some v)) j p) : OwnAt ρ σ j p := by
  obtain ⟨b, ds, h1, h2⟩ := h
  by_cases hj : i = j
  · subst hj
    by_cases hi : i < ρ.length
    · rw [List.getElem?_set_self hi] at h1
      cases h1
    · rw [List.getElem?_eq_none (by rw [List.length_set]; omega)] at h1
      cases h1
  · rw [List.getElem?_set_ne hj] at h1 h2
    exact ⟨b, ds, h1, h2⟩
theorem notOwn_ow (hl : σ.length = ρ.length) {i : Nat} {q : Addr} {ds : List PyData} {j : Nat} {p : Addr} (hpq : p ≠ q) (h : OwnAt (ρ.set i (.own false ds)) (σ.set i (some (V.ref q))) j p) : OwnAt ρ σ j p := by
  obtain ⟨b, es, h1, h2⟩ := h
  by_cases hj : i = j
  · subst hj
    by_cases hi : i < ρ.length
    · rw [List.getElem?_set_self (by omega)] at h2
      cases h2
      exact absurd rfl hpq
    · rw [List.getElem?_eq_none (by rw [List.length_set]; omega)] at h1
      cases h1
  · rw [List.getElem?_set_ne hj] at h1 h2
    exact ⟨b, es, h1, h2⟩
theorem parts_set : ∀ (is : List Nat) {vs : List V} {ss : List Part} {σ : L2.St} {ρ : Rho} {ps : List Addr}, EnvAt K B G H σ ρ → PartsAt K B G H σ ρ ps vs ss → EnvAt K B G H (setVs is vs σ) (setParts is ss ρ)
  | [], _, _, _, _, _, e, .nil => e
  | [], _, _, _, _, _, e, .sh _ _ => e
  | [], _, _, _, _, _, e, .ow _ _ _ _ _ _ _ _ => e
  | _ :: _, _, _, _, _, _, e, .nil => e
  | i :: is, _, _, _, _, _, e, .sh d r => parts_set is (e.set d) (r.chg fun _ _ z j y => z j (notOwn_sh y))
  | i :: is, _, _, _, _, _, e, .ow a b c d f g h r => parts_set is (e.setOwn a b c d f) (r.chg fun p hp z j y => z j (notOwn_ow e.len (fun q => h (by rw [← q]; exact hp)) y))
end
section
variable {X : Cx} {E : XK} {pos : Pos} {e a b c : Expr} {es : List Expr} {fa : Rho → Rs PyData} {fo : Rho → Rs (List PyData)} {fr fm : Rho → Rs (List Part)}
theorem Want.keep {α : Type} {mg : Str → Option Value} {B : Bs} {D : Addr} {o : HO} {r : Rs α} {k : α → Rho → Prop} (h0 : B.H0 D = none) (h : Want mg B E r k) : Want mg (B.keep D o) E r k := by
  cases r with
  | ok a ρ => exact h
  | bad => exact h
  | ex x => exact fun H u dx fr ea => h H u dx (fun b o' z1 z2 => fr b o' (by
      have hb : b ≠ D := fun q => by rw [q, h0] at z1; cases z1
      rw [show (B.keep D o).H0 b = B.H0 b from upd_ne hb]
      exact z1) z2) ea
theorem pdm_nil : PDM X E [] mNil := ⟨⟨_, pa_nil, fun B G H σ ρ Q en w => w G H [] [] (Same.refl _) en .nil⟩, fun ρ ds ρ' h => by
  cases h
  rfl⟩
theorem pdm_sh (ha : PD X E e fa) (hr : PDM X E es fr) (hs : starEach (e :: es) X.env = (false, eval e X.env) :: starEach es X.env := by rfl) : PDM X E (e :: es) (mSh fa fr) := by
  obtain ⟨t1, h1, w1⟩ := ha
  obtain ⟨⟨t2, h2, w2⟩, hl⟩ := hr
  refine ⟨⟨_, pa_cons h1 h2 hs, fun B G H σ ρ Q en w => ?_⟩, fun ρ ds ρ' h => ?_⟩
  · refine w1 B G H σ ρ _ en (w.andThen.mono fun a ρ1 _ w' G1 H1 v s1 en1 d1 => ?_)
    refine w2 B G1 H1 σ ρ1 _ en1 (w'.andThen.mono fun b ρ2 _ w'' G2 H2 ps u s2 en2 d2 => ?_)
    exact w'' G2 H2 ps (v :: u) (s1.trans s2) en2 (.sh (Dpm s2 d1) d2)
  · unfold mSh at h
    cases q : fa ρ with
    | ok a ρ1 =>
      rw [q] at h
      have h : (fr ρ1).andThen (fun r ρ => Rs.ok (Part.sh a :: r) ρ) = .ok ds ρ' := h
      cases q2 : fr ρ1 with
      | ok r ρ2 =>
        rw [q2] at h
        cases h
        rw [List.length_cons, List.length_cons, hl _ _ _ q2]
      | ex e => rw [q2] at h; cases h
      | bad => rw [q2] at h; cases h
    | ex e => rw [q] at h; cases h
    | bad => rw [q] at h; cases h
theorem pdm_ow (ha : PDO X E e fo) (hr : PDM X E es fr) (hs : starEach (e :: es) X.env = (false, eval e X.env) :: starEach es X.env := by rfl) : PDM X E (e :: es) (mOw fo fr) := by
  obtain ⟨t1, h1, w1⟩ := ha
  obtain ⟨⟨t2, h2, w2⟩, hl⟩ := hr
  refine ⟨⟨_, pa_cons h1 h2 hs, fun B G H σ ρ Q en w => ?_⟩, fun ρ ds ρ' h => ?_⟩
  · refine w1 B G H σ ρ _ en (w.andThen.mono fun a ρ1 _ w' G1 H1 p vs s1 en1 g1 q1 d1 q2 q3 q4 => ?_)
    have g0 : B.G0 p = none := en1.gg.free g1
    refine w2 (B.keep p (.lst vs)) G1 H1 σ ρ1 _ (en1.keep g1 q1 q3) (Want.keep q2 (w'.andThen.mono fun b ρ2 _ w'' G2 H2 ps u s2 en2 d2 => ?_))
    obtain ⟨e3, k1, k2, k3⟩ := en2.unkeep q2 g0 q4
    refine w'' G2 H2 (p :: ps) (.ref p :: u) (s1.trans s2) e3 (.ow k2 k1 (Dpms s2 d1) q2 k3 q4 (fun hp => ?_) d2.unkeep)
    have := d2.owns p hp
    rw [show (B.keep p (.lst vs)).H0 p = some (.lst vs) from upd_same] at this
    cases this
  · unfold mOw at h
    cases q : fo ρ with
    | ok a ρ1 =>
      rw [q] at h
      have h : (fr ρ1).andThen (fun r ρ => Rs.ok (Part.ow a :: r) ρ) = .ok ds ρ' := h
      cases q2 : fr ρ1 with
      | ok r ρ2 =>
        rw [q2] at h
        cases h
        rw [List.length_cons, List.length_cons, hl _ _ _ q2]
      | ex e => rw [q2] at h; cases h
      | bad => rw [q2] at h; cases h
    | ex e => rw [q] at h; cases h
    | bad => rw [q] at h; cases h
theorem pds_par2 (i j : Nat) {x y : Str} {px py pt : Pos} {kt k2 pt2} (h : PDM X E [a, b] fm) (hc : X.calm = true) (hN : X.N.Nodup) (hi : X.N[i]? = some x := by rfl) (hj : X.N[j]? = some y := by rfl) (hij : i ≠ j := by decide)
    (hx : X.env.scope.names.lookup x = some .local := by rfl) (hy : X.env.scope.names.lookup y = some .local := by rfl)
    (hw : swappedStores [.Tuple [.Name x px, .Name y py] kt pt] (.Tuple [a, b] k2 pt2) X.env = pure (some [x, y]) := by rfl)
    (hs : swapsWithSole [.Tuple [.Name x px, .Name y py] kt pt] (.Tuple [a, b] k2 pt2) pos.line X.env = pure false := by rfl) :
    PDS X E (.Assign [.Tuple [.Name x px, .Name y py] kt pt] (.Tuple [a, b] k2 pt2) pos) (sPar [i, j] fm) := by
  obtain ⟨⟨t1, h1, w1⟩, hl⟩ := h
  refine ⟨_, ps_par hc hN hi hj hij hx hy h1 hw hs, fun B G H σ ρ D en w => ?_⟩
  refine w1 B G H σ ρ _ en (w.andThen.mono fun ss ρ1 q w' G1 H1 ps vs s1 en1 d1 => ?_)
  have hz : vs.length = 2 := by rw [d1.len, hl _ _ _ q]; rfl
  match vs, hz with
  | [v, u], _ => exact ⟨v, u, rfl, w' G1 H1 _ s1 (parts_set [i, j] en1 d1)⟩
theorem pds_par3 (i j l : Nat) {x y z : Str} {px py pz pt : Pos} {kt k2 pt2} (h : PDM X E [a, b, c] fm) (hc : X.calm = true) (hN : X.N.Nodup) (hi : X.N[i]? = some x := by rfl) (hj : X.N[j]? = some y := by rfl) (hl0 : X.N[l]? = some z := by rfl) (hij : i ≠ j := by decide) (hil : i ≠ l := by decide) (hjl : j ≠ l := by decide)
    (hx : X.env.scope.names.lookup x = some .local := by rfl) (hy : X.env.scope.names.lookup y = some .local := by rfl) (hz : X.env.scope.names.lookup z = some .local := by rfl)
    (hw : swappedStores [.Tuple [.Name x px, .Name y py, .Name z pz] kt pt] (.Tuple [a, b, c] k2 pt2) X.env = pure (some [x, y, z]) := by rfl)
    (hs : swapsWithSole [.Tuple [.Name x px, .Name y py, .Name z pz] kt pt] (.Tuple [a, b, c] k2 pt2) pos.line X.env = pure false := by rfl) :
    PDS X E (.Assign [.Tuple [.Name x px, .Name y py, .Name z pz] kt pt] (.Tuple [a, b, c] k2 pt2) pos) (sPar [i, j, l] fm) := by
  obtain ⟨⟨t1, h1, w1⟩, hl⟩ := h
  refine ⟨_, ps_par3 hc hN hi hj hl0 hij hil hjl hx hy hz h1 hw hs, fun B G H σ ρ D en w => ?_⟩
  refine w1 B G H σ ρ _ en (w.andThen.mono fun ss ρ1 q w' G1 H1 ps vs s1 en1 d1 => ?_)
  have hz : vs.length = 3 := by rw [d1.len, hl _ _ _ q]; rfl
  match vs, hz with
  | [v, u, t], _ => exact ⟨v, u, t, rfl, w' G1 H1 _ s1 (parts_set [i, j, l] en1 d1)⟩
end
/-! ### slices -/
def PDP (X : Cx) (E : XK) (e : Option Expr) (f : Rho → Rs (Option Int)) : Prop := ∃ t, PO X e t ∧ ∀ B G H σ ρ Q, EnvAt X.K B G H σ ρ → Want X.mg B E (f ρ) (fun o ρ' => ∀ G' H', Same G G' → EnvAt X.K B G' H' σ ρ' → Q o H') → t σ H Q
def eNoP : Rho → Rs (Option Int) := fun ρ => .ok none ρ
def eP (f : Rho → Rs PyData) : Rho → Rs (Option Int) := fun ρ => (f ρ).andThen fun d ρ => match d with
  | .int i => .ok (some i) ρ
  | _ => .bad
def cutD (xs : List PyData) (lo hi : Option Int) : List PyData := (xs.drop (HT.sIx xs.length 0 lo)).take (HT.sIx xs.length xs.length hi - HT.sIx xs.length 0 lo)
def pSl : PyData → Option Int → Option Int → Option PyData
  | .list xs, lo, hi => some (.list (cutD xs lo hi))
  | .tuple xs, lo, hi => some (.tuple (cutD xs lo hi))
  | .str z, lo, hi => if z.length ≤ 1000000 then some (.str (cutS z lo hi)) else none
  | _, _, _ => none
def eSl (fa : Rho → Rs PyData) (fl fh : Rho → Rs (Option Int)) : Rho → Rs PyData := fun ρ => (fa ρ).andThen fun a ρ => (fl ρ).andThen fun l ρ => (fh ρ).andThen fun h ρ => opt (pSl a l h) ρ
theorem cut_dp {K : PySem.W.Frag} {G : Hp} {vs : List V} {ds : List PyData} {lo hi : Option Int} (r : DpAll K G vs ds) : DpAll K G (cutV vs lo hi) (cutD ds lo hi) := by
  unfold cutV cutD
  rw [DpAll.len r]
  exact DpAll.take _ (DpAll.drop _ r)
section
variable {X : Cx} {E : XK} {pos p2 : Pos} {e : Expr} {lo hi : Option Expr} {fa : Rho → Rs PyData} {fl fh : Rho → Rs (Option Int)}
theorem pdp_none : PDP X E none eNoP := ⟨_, po_none, fun B G H σ ρ Q en w => w G H (Same.refl _) en⟩
theorem pdp_some (h : PD X E e fa) : PDP X E (some e) (eP fa) := by
  obtain ⟨t1, h1, w1⟩ := h
  refine ⟨_, po_some h1, fun B G H σ ρ Q en w => ?_⟩
  refine w1 B G H σ ρ _ en (w.andThen.mono fun d ρ1 _ w' G1 H1 v s1 en1 d1 => ?_)
  cases d with
  | int i =>
    cases dp_int d1
    exact ⟨i, rfl, w' G1 H1 s1 en1⟩
  | _ => exact w'.elim
theorem pd_slice (ha : PD X E e fa) (hl : PDP X E lo fl) (hh : PDP X E hi fh) : PD X E (.Subscript e (.Slice lo hi none p2) pos) (eSl fa fl fh) := by
  obtain ⟨t1, h1, w1⟩ := ha
  obtain ⟨t2, h2, w2⟩ := hl
  obtain ⟨t3, h3, w3⟩ := hh
  refine ⟨_, pe_slice (sl_list.or (sl_tupA.or sl_str)) h1 h2 h3, fun B G H σ ρ Q en w => ?_⟩
  refine w1 B G H σ ρ _ en (w.andThen.mono fun a ρ1 _ w' G1 H1 v s1 en1 d1 => ?_)
  refine w2 B G1 H1 σ ρ1 _ en1 (w'.andThen.mono fun l ρ2 _ w2' G2 H2 s2 en2 => ?_)
  refine w3 B G2 H2 σ ρ2 _ en2 (w2'.andThen.mono fun h ρ3 _ w3' G3 H3 s3 en3 => ?_)
  have d3 := Dpm (s2.trans s3) d1
  unfold opt at w3'
  split at w3'
  · rename_i d hd
    have fin := ext_end (mg := X.mg) ((s1.trans s2).trans s3) en3 w3'
    cases a with
    | list xs =>
      cases hd
      obtain ⟨q, vs, rfl, g1, r1⟩ := dp_lst d3
      refine .inl ⟨q, vs, rfl, en3.gh.seq g1, fun p hp => ?_⟩
      obtain ⟨x1, x2⟩ := new_lst en3.gh hp (cut_dp (lo := l) (hi := h) r1)
      exact fin _ _ _ x1 x2
    | tuple xs =>
      cases hd
      obtain ⟨q, vs, rfl, g1, r1⟩ := dp_tup d3
      refine .inr (.inl ⟨q, vs, rfl, seqT en3.gh g1, fun hw => ?_, fun _ p hp => ?_⟩)
      · have e1 : cutD xs l h = xs := by
          unfold cutD
          rw [← DpAll.len r1, hw.1, hw.2, List.drop_zero, Nat.sub_zero, DpAll.len r1, List.take_length]
        rw [e1] at fin
        exact fin G3 H3 _ (Ext.refl en3.gh) (.tup g1 r1)
      · obtain ⟨x1, x2⟩ := new_tup en3.gh hp (cut_dp (lo := l) (hi := h) r1)
        exact fin _ _ _ x1 x2
    | str z =>
      cases dp_str d3
      have hd : (if z.length ≤ 1000000 then some (PyData.str (cutS z l h)) else none) = some d := hd
      split at hd
      · rename_i hz
        cases hd
        exact .inr (.inr ⟨z, rfl, Nat.le_trans hz size_lt, fin G3 H3 _ (Ext.refl en3.gh) (.str _)⟩)
      · cases hd
    | none => cases hd
    | bool _ => cases hd
    | int _ => cases hd
    | dict _ => cases hd
  · exact w3'.elim
end
end Dl

set_option Elab.async false
set_option linter.all false
set_option maxRecDepth 100000
set_option maxHeartbeats 4000000
namespace Dl
open PySem L2
open PyProof.Rows (IntsAre)
/-! ### set(xs) of a list of ints, then sorted -/
abbrev freshSet (w : World) : Obj := { cls := .type "set", dict := none, data := .set #[] 0 (.fresh 0 0 (!w.params.followText "set-order")) }
section
variable {P : Program} {w : World} {A : Around} {E : Value → Shared → Prop} {s : Shared}
theorem set_list_ints {l : Addr} {items : Array Value} (ns : List Int) {Q : Value → Shared → Prop} (hh : A.handled = none) (hl : s.heap.IsList l items) (hit : IntsAre items.toList ns) (hb : ns.length + 1 < scanBound)
    (h : ∀ (h' : Heap) (tk c : Nat), SetR w h' s.heap.objs.size (fun j => decide (j ∈ ns)) c → c ≤ ns.length → (∀ b o, s.heap.get? b = some o → h'.get? b = some o) → Q (.ref s.heap.objs.size) { s with heap := h', toks := tk }) :
    wpAny (model P w) A (call (.type "set") [.ref l]) Q E s := by
  have hz : items.size = ns.length := by simpa using IntsAre.length hit
  obtain ⟨_, _, hmro⟩ := F.called_set.mro
  have a1 := F.called_set.made
  have a2 := F.called_set.sub
  refine wpAny_call (codeAny_of_tree ?_)
  show wpAny _ _ (callAny (.type "set") _) _ _ _
  refine wpAny_pure ⟨Code.quiet_builtin _ (by decide +kernel), codeAny_builtin F.entry_type_call ?_⟩
  rw [Around.under_plain (weight_type_call_type "set" [.ref l] []) rfl]
  have a3 := F.called_set.notType
  have a4 := F.called_set.canCreate
  have a5 := F.typeCall_set_1 (.ref l)
  repeat (any_goals (first | assumption | wp_step))
  refine codeAny_mono (code_set_led1 (.ref l) (E := E) (Q₁ := fun z s1 => z = .ref s.heap.objs.size ∧ s1 = { s with heap := s.heap.push (freshSet w) }) ⟨rfl, rfl⟩) fun r s1 hr => ?_
  match r, hr with
  | .error e, hr => exact hr
  | .ok .next, hr => exact hr.elim
  | .ok .brk, hr => exact hr.elim
  | .ok .cont, hr => exact hr.elim
  | .ok (.ret z), hr =>
    obtain ⟨rfl, rfl⟩ := hr
    have hS : (s.heap.push (freshSet w)).get? s.heap.objs.size = some (freshSet w) := Heap.get?_push_size _ rfl
    have hT : Shared.TypeIs { s with heap := s.heap.push (freshSet w) } (.ref s.heap.objs.size) "set" := ⟨_, hS, rfl⟩
    have b1 := F.called_set.init.lookup
    have b2 := F.called_set.init.bind (.ref s.heap.objs.size)
    repeat (any_goals (first | assumption | wp_step))
    refine codeAny_mono (codeAny_call_builtin (R := wants (fun r s2 => r = .none ∧ ∃ h' tk c, s2 = { s with heap := h', toks := tk } ∧ SetR w h' s.heap.objs.size (fun j => decide (j ∈ ns)) c ∧ c ≤ ns.length ∧ (∀ b o, s.heap.get? b = some o → h'.get? b = some o)) E)
      F.called_set.init.plain F.entry_set_init (check_set_init_1 hT ?_)) fun r2 s2 hr2 => ?_
    · obtain ⟨⟨c1, c2, c3, c4⟩, ho, d1, nl, d2⟩ := hl
      simp only at d1 d2
      subst d1 d2
      have ho' : (s.heap.push (freshSet w)).get? l = some ⟨.type "list", c2, .seq items nl, c4⟩ := Heap.get?_push_of_some _ ho
      have e1 := F.sub_list_set
      have e2 := F.sub_list_frozenset
      have e3 : (Value.type "list" == Value.type "dict") = false := by decide
      have hl1 : (s.heap.push (freshSet w)).IsList l items := ⟨_, ho', rfl, nl, rfl⟩
      unfold Builtin.«set.__init__» noKeywords Builtin.Frozenset.updateFrom
      generalize hPI : pyIter = PI
      wp_walk
      subst hPI
      refine wpAny_pyIter_list hl1 (wpAny_bind (wpAny_runValue ?_))
      have lt : l < s.heap.objs.size := Heap.lt_size ho
      have sz : (s.heap.push (freshSet w)).objs.size = s.heap.objs.size + 1 := Heap.size_push ..
      have ne1 : l ≠ (s.heap.push (freshSet w)).objs.size := by rw [sz]; exact Nat.ne_of_lt (Nat.lt_succ_of_lt lt)
      refine set_update_ints ((Walks.list (by simp [hh]) _ l ne1 items).toS) s.heap.objs.size (by
          rw [sz]
          simp only [List.mem_cons, List.not_mem_nil, or_false, not_or]
          exact ⟨Nat.ne_of_lt (Nat.lt_succ_self _), Nat.ne_of_gt lt⟩) ns hz hb (fun i v hv => ?_) (items.size - 0) 0 _ (by omega) (Nat.zero_le _)
        ⟨⟨_, Heap.get?_push_size _ rfl, rfl, rfl⟩, (hl1.push _)⟩ ⟨0, Nat.le_refl 0, setR_new_at (Heap.get?_push_of_some _ hS)⟩ fun s' c' hm hc' hS' => ?_
      · have hi : i < ns.length := by rw [← hz]; exact (Array.getElem?_eq_some_iff.mp hv).1
        obtain ⟨t, e⟩ := PyProof.Rows.IntsAre.int_at hit i v (by rw [Array.getElem?_toList]; exact hv)
        refine ⟨ns[i], t, List.getElem?_eq_getElem hi, ?_⟩
        rw [e, List.getD_eq_getElem?_getD, List.getElem?_eq_getElem hi]
        rfl
      · obtain ⟨h', g2, d', tk', os'⟩ := s'
        obtain rfl : g2 = s.gens := hm.gens
        obtain rfl : d' = s.drawn := hm.drawn
        obtain rfl : os' = s.os := hm.os
        show wpAny _ _ _ _ _ _
        refine wpAny_pure ?_
        show wpAny _ _ (ret Value.none) _ _ _
        rw [hz] at hc'
        refine wpAny_pure ⟨rfl, h', tk', c', rfl, hS', hc', fun b o e => ?_⟩
        have hb0 : b < s.heap.objs.size := Heap.lt_size e
        refine hm.heap b o ?_ (Heap.get?_push_of_some _ (Heap.get?_push_of_some _ e))
        simp only [List.mem_cons, List.not_mem_nil, or_false, not_or]
        exact ⟨Nat.ne_of_lt hb0, by rw [sz]; exact Nat.ne_of_lt (Nat.lt_succ_of_lt hb0)⟩
    · match r2, hr2 with
      | .error e, hr2 => exact hr2
      | .ok .next, hr2 => exact hr2.elim
      | .ok .brk, hr2 => exact hr2.elim
      | .ok .cont, hr2 => exact hr2.elim
      | .ok (.ret z), hr2 =>
        obtain ⟨rfl, h', tk, c', rfl, k1, k2, k3⟩ := hr2
        repeat (any_goals (first | assumption | wp_step))
        exact h _ _ _ k1 k2 k3
end
end Dl

set_option Elab.async false
set_option linter.all false
set_option maxRecDepth 100000
set_option maxHeartbeats 1000000
namespace Dl
open PySem L2
/-! ### enumerate of a list or a tuple -/
set_option maxHeartbeats 4000000 in
theorem meets_enumerate_1 {v : Value} {o : Obj} {H : Heap → Prop} (B : Begins v o H) :
    Meets (Builtin.«enumerate.__new__» ⟨[.type "enumerate", v], []⟩) (fun _ R s => H s.heap ∧
      R (.ok (.ret (.ref (s.heap.push o).objs.size))) { s with heap := (s.heap.push o).push { cls := .type "enumerate", data := .fields #[.none, .bool false, .ref s.heap.objs.size, rawInt 0, .none, .none] } }) :=
  .of_wp fun prog w A R s h => by
    obtain ⟨hp, g, d, tk, os⟩ := s; obtain ⟨h1, h⟩ := h
    have hsub := sub_enumerate
    have q1 : ∀ {A' : Around} {E : Value → Shared → Prop} {Q : Value → Shared → Prop}, Q (.ref hp.objs.size) ⟨hp.push o, g, d, tk, os⟩ → wpAny (model prog w) A' (pyIter v) Q E ⟨hp, g, d, tk, os⟩ :=
      fun q => B.iter prog w _ _ ⟨hp, g, d, tk, os⟩ _ h1 q
    wp_walk using q1
    refine wpAny_stack_any fun st => wpAny_pure ?_
    split
    · rename_i c _ _ _ _ _
      cases (c == Value.type "enumerate")
      · wp_walk using q1
        exact ⟨_, rfl, h⟩
      · wp_walk using q1
        exact ⟨_, rfl, h⟩
    · wp_walk using q1
      exact ⟨_, rfl, h⟩
theorem call_enumerate_1 {prog : Program} {w : World} {A : Around} {E : Value → Shared → Prop} {s : Shared} {v : Value} {o : Obj} {H : Heap → Prop} {Q : Value → Shared → Prop} (B : Begins v o H) (h1 : H s.heap)
    (h : ∀ h', IsEnum h' (s.heap.objs.size + 1) s.heap.objs.size 0 .none → h'.get? s.heap.objs.size = some o → h'.objs.size = s.heap.objs.size + 2 →
      (∀ b o, s.heap.get? b = some o → h'.get? b = some o) → Q (.ref (s.heap.objs.size + 1)) { s with heap := h' }) :
    wpAny (model prog w) A (call (.type "enumerate") [v]) Q E s := by
  refine callType_new PySem.F.called_enumerate (by decide) (PySem.F.typeCall_enumerate_1 _) (PySem.F.newCall_enumerate_1 _) (fun obj => PySem.F.args_object_init_2 obj _) PySem.F.entry_enumerate_new
    (meets_enumerate_1 B) ⟨h1, ?_⟩
  have hz : (s.heap.push o).objs.size = s.heap.objs.size + 1 := Heap.size_push ..
  show _ ∧ _
  rw [hz]
  have he : IsEnum ((s.heap.push o).push { cls := .type "enumerate", data := .fields #[.none, .bool false, .ref s.heap.objs.size, rawInt 0, .none, .none] }) (s.heap.objs.size + 1) s.heap.objs.size 0 .none := by
    have := Heap.get?_push_size (s.heap.push o) (o := { cls := .type "enumerate", data := .fields #[.none, .bool false, .ref s.heap.objs.size, rawInt 0, .none, .none] }) rfl
    rw [hz] at this; exact this
  refine ⟨⟨_, he, rfl⟩, h _ he (Heap.get?_push_of_some _ (Heap.get?_push_size _ B.free)) (by rw [Heap.size_push, hz]) fun b o x => Heap.get?_push_of_some _ (Heap.get?_push_of_some _ x)⟩
def IteT (K : PySem.W.Frag) (a : Addr) : It :=
  ⟨fun i H => ∃ (xs : List V) (x : V), SqT K H a xs ∧ xs[i]? = some x, fun i H v H' => ∃ T x, v = .ref T ∧ H T = none ∧ H' = upd H T (.tup [.int (i : Nat), x]) ∧ ∀ xs, SqT K H a xs → xs[i]? = some x, fun i H => ∃ xs : List V, SqT K H a xs ∧ xs.length ≤ i⟩
theorem turn_enumT {P : Program} {w : World} {K : PySem.W.Frag} {elts : List Expr} {kk : Nat} {tpos : Pos} (a e it : Addr) :
    Turn P w K (.Tuple elts kk tpos) (IteT K a) [e, it] e (fun i h => (∃ old, IsEnum h e it ((i : Nat) : Int) old) ∧ h.IsTupleIter it a i ∧ e ≠ it ∧ e ≠ a ∧ a ≠ it) where
  mem := by simp
  obj := fun i h st b hb => by
    obtain ⟨⟨old, he⟩, ⟨o, ho, hc, hd⟩, _⟩ := st
    have e' : b = e ∨ b = it := by simpa using hb
    rcases e' with z | z
    · rw [z]; exact ⟨_, he, fun v q => nomatch q⟩
    · rw [z]; exact ⟨o, ho, fun v q => by rw [hd] at q; cases q⟩
  keep := fun i h h' st k => let ⟨⟨old, he⟩, hi, hne⟩ := st; ⟨⟨old, k e (by simp) _ he⟩, hi.at fun o q => k it (by simp) o q, hne⟩
  item := by
    intro X hP hw hK hc i pins s σ H E I hf st hg
    subst hP hw hK
    obtain ⟨⟨old, he⟩, hit, hne, hea, hai⟩ := st
    obtain ⟨xs, x, hq, hx⟩ := hg
    obtain ⟨its, rv, p, hz⟩ := I.tuple hq
    have p : s.heap.IsTuple a its.toArray := p
    obtain ⟨u, hu, ru⟩ := rv.get hx
    have hel : e < s.heap.objs.size := Heap.lt_size he
    have hil : it < s.heap.objs.size := by obtain ⟨_, q, _⟩ := hit; exact Heap.lt_size q
    have hh : X.A.in1.handled = none := by have := I.ok.hd hc; simpa using this
    refine wpAny_pyNext_enum_itemD (Draws.tuple hh it a hai its.toArray) he ⟨hit, p⟩ (by
      have := (List.getElem?_eq_some_iff.mp hu).1
      simpa using this) hne (by simp; exact ⟨hne, hea⟩) fun u' h' tk hu' ho hst' hT hsz hk => ?_
    have hu' : its.toArray[i]? = some u' := hu'
    obtain rfl : u' = u := by
      rw [List.getElem?_toArray, hu] at hu'
      exact (Option.some.inj hu').symm
    obtain ⟨hit', hl'⟩ := hst'
    refine ⟨_, rfl, wpAny_letOwnedTupleGo_enum (s := { s with heap := h', toks := tk + 1 }) ho fun h'' he' sb => ?_⟩
    have hT2 : h''.get? s.heap.objs.size = some { cls := .type "tuple", data := .seq #[.int i tk, u'] } := (sb.2 _ (Nat.ne_of_gt hel)).trans hT
    have new : ObjOk X.prog X.w (upd H s.heap.objs.size (.tup [.int (i : Nat), x])) h'' s.heap.objs.size (.tup [.int (i : Nat), x]) :=
      ⟨by show 2 ≤ sizeLine; decide, [.int i tk, u'], .cons ⟨_, rfl⟩ (.cons ru .nil), ⟨_, hT2, rfl, _, rfl⟩⟩
    have I1 : Inv X pins σ (upd H s.heap.objs.size (.tup [.int (i : Nat), x])) { s with heap := h'', toks := tk + 1 } :=
      I.turnedNew (ch := [e, it]) (fun b ob hb q => (sb.2 b (fun z => hb (by simp [z]))).trans (hk b ob (fun z => hb (by simp [z])) (fun z => hb (by simp [z])) q)) hf (Nat.le_refl _) new
    refine ⟨.ref s.heap.objs.size, _, I1, rfl, ⟨_, x, rfl, I.hok.fresh (Nat.le_refl _), rfl, fun ys hy => by rw [I.tuple_inj hy hq]; exact hx⟩, ⟨⟨u', ?_⟩, hit'.at fun o q => (sb.2 it (Ne.symm hne)).trans q, hne, hea, hai⟩, fun b hb => ?_⟩
    · have e1 : ((i + 1 : Nat) : Int) = (i : Int) + 1 := by omega
      rw [e1]; exact he'
    · have hb' : b < s.heap.objs.size := by
        have e' : b = e ∨ b = it := by simpa using hb
        rcases e' with z | z
        · rw [z]; exact hel
        · rw [z]; exact hil
      rw [upd_ne (Nat.ne_of_lt hb')]
      exact (hf b hb).1
  done := by
    intro X hP hw hK hc i pins s σ H E I hf st hg
    subst hP hw hK
    obtain ⟨⟨old, he⟩, hit, hne, hea, hai⟩ := st
    obtain ⟨xs, hq, hx⟩ := hg
    obtain ⟨its, rv, p, hz⟩ := I.tuple hq
    have p : s.heap.IsTuple a its.toArray := p
    obtain ⟨f0, f1, f2, f3, f4, f5⟩ := hf it (by simp)
    have hl := rv.length
    have hh : X.A.in1.handled = none := by have := I.ok.hd hc; simpa using this
    have hT : s.TypeIs (.ref e) "enumerate" := ⟨_, he, rfl⟩
    unfold pyNext
    refine wpAny_bind (wpAny_attempt (wpAny_callSpecial?_slot (name := Str.ofString "__next__") hT PySem.F.slot_enumerate_next
      (wpAny_call_entry PySem.F.slot_enumerate_next hT PySem.F.entry_enumerate_next ?_ (PySem.F.args_enumerate_next_1 _))))
    show wpAny _ _ (field (.ref e) 2 >>= _) _ _ _
    refine wpAny_bind (wpAny_field he rfl (x := .ref it) rfl ?_)
    refine wpAny_bind (wpAny_nextOf_tuple_end hh hit p (by simp; omega) fun h' x he' hx' => ?_)
    obtain ⟨o, ho, hcl⟩ := hx'
    refine wpAny_bind (wpAny_isInstance (T := "StopIteration") (b := true) ⟨o, ho, hcl⟩ isSubtype_stop ?_)
    exact wpAny_pure ⟨rfl, I.turned (t' := s.toks) (fun b o hb q => he' b o hb q) f0 f1 f3 f4 f5⟩
  self := fun A i s Q E st h => let ⟨⟨_, he⟩, _⟩ := st; wpAny_pyIter_enum he h
theorem pi_enumA {X : Cx} {e : Expr} {ta : TA} {p pos tpos : Pos} {elts : List Expr} {kk : Nat} (hg : Gl X "enumerate") (hm : X.mg "enumerate" = none) (ha : PA X [e] ta) (hs : starEach [e] X.env = [(false, eval e X.env)] := by rfl) :
    PI X (.Tuple elts kk tpos) (.Call (.Name "enumerate" p) [e] [] pos) (fun σ H R => ta σ H fun vs H1 => ∃ a, vs = [.ref a] ∧ ((∃ xs, SqL X.K H1 a xs ∧ R (Ite X.K a) H1) ∨ ∃ xs, SqT X.K H1 a xs ∧ R (IteT X.K a) H1)) := by
  refine ⟨fun pins s σ H R I h => ?_⟩
  refine PyProof.Rows.Call_ (ld_blt I hg hm PyProof.Rows.boot_enumerate (PyProof.Rows.callWith_type1 (thn (ha.run pos pins s σ H _ I h) fun us s1 ⟨vs, H1, I1, r1, q1⟩ => ?_) hs rfl))
  obtain ⟨a, ex, q⟩ := q1
  subst ex
  cases r1 with
  | cons r rr =>
    cases rr
    cases r
    rcases q with ⟨xs, hq, q⟩ | ⟨xs, hq, q⟩
    · obtain ⟨its, rv, p', hz⟩ := I1.list hq
      refine call_enumerate_list p'.isList fun h' he hit hsz hk => wpAny_pyIter_enum he ?_
      have I2 : Inv X pins σ H1 { s1 with heap := h' } := I1.kept (t' := s1.toks) hk
      refine ⟨s1.heap.objs.size + 1, [s1.heap.objs.size + 1, s1.heap.objs.size], _, _, H1, rfl, I2, turn_enum a (s1.heap.objs.size + 1) s1.heap.objs.size, ⟨⟨.none, he⟩, hit, Nat.succ_ne_self _⟩, fun b hb => ?_, q⟩
      have e' : b = s1.heap.objs.size + 1 ∨ b = s1.heap.objs.size := by simpa using hb
      have hle : s1.heap.objs.size ≤ b := by
        rcases e' with z | z
        · rw [z]; exact Nat.le_add_right _ _
        · rw [z]; exact Nat.le_refl _
      exact I1.fpOk hle (I1.hok.fresh hle)
    · obtain ⟨its, rv, p', hz⟩ := I1.tuple hq
      have p' : s1.heap.IsTuple a its.toArray := p'
      refine call_enumerate_1 (begins_tuple a its.toArray) p' fun h' he hit hsz hk => wpAny_pyIter_enum he ?_
      have I2 : Inv X pins σ H1 { s1 with heap := h' } := I1.kept (t' := s1.toks) hk
      have hal : a < s1.heap.objs.size := by obtain ⟨_, q, _⟩ := p'; exact Heap.lt_size q
      refine ⟨s1.heap.objs.size + 1, [s1.heap.objs.size + 1, s1.heap.objs.size], _, _, H1, rfl, I2, turn_enumT a (s1.heap.objs.size + 1) s1.heap.objs.size, ⟨⟨.none, he⟩, ⟨_, hit, rfl, rfl⟩, Nat.succ_ne_self _, Nat.ne_of_gt (Nat.lt_succ_of_lt hal), Nat.ne_of_lt hal⟩, fun b hb => ?_, q⟩
      have e' : b = s1.heap.objs.size + 1 ∨ b = s1.heap.objs.size := by simpa using hb
      have hle : s1.heap.objs.size ≤ b := by
        rcases e' with z | z
        · rw [z]; exact Nat.le_add_right _ _
        · rw [z]; exact Nat.le_refl _
      exact I1.fpOk hle (I1.hok.fresh hle)
theorem walk_enumT {K : PySem.W.Frag} {a : Addr} {xs : List V} : L2.Walk (IteT K a) xs.length (fun H => SqT K H a xs) (YPair (fun i => some (.int (i : Nat))) (fun i => xs[i]?)) := by
  refine ⟨fun i _ hi q => ⟨xs, xs[i], q, by simp [hi]⟩, fun _ q => ⟨xs, q, Nat.le_refl _⟩, fun i H v H' _ q y => ?_⟩
  obtain ⟨T, x, h1, h2, h3, h4⟩ := y
  exact ⟨T, .int (i : Nat), x, h1, h2, h3, rfl, h4 xs q⟩
def enumD (ds : List PyData) : List PyData := ds.mapIdx fun i d => .tuple [.int (i : Nat), d]
theorem iter_pair {K : PySem.W.Frag} {J : It} {G : Hp} {xs : List V} {ds : List PyData} {Gc : Hp → Prop} (r : DpAll K G xs ds) (w : L2.Walk J xs.length Gc (YPair (fun i => some (.int (i : Nat))) (fun i => xs[i]?))) (hG : ∀ G' H', Same G G' → Same G' H' → Gc H') : IterOk K J G (enumD ds) := by
  have hl : (enumD ds).length = xs.length := by unfold enumD; rw [List.length_mapIdx, DpAll.len r]
  refine ⟨_, _, by rw [hl]; exact w, hG, fun i G' H' x H2 hi s1 s2 y => ?_⟩
  obtain ⟨T, u, v, rfl, hT, rfl, hu, hv⟩ := y
  cases hu
  obtain ⟨d, e1, e2⟩ := DpAll.get' r hv
  have ex : Ext G' H' (upd G' T (.tup [.int (i : Nat), v])) (upd H' T (.tup [.int (i : Nat), v])) := Ext.new s2 hT
  refine ⟨_, .tuple [.int (i : Nat), d], ex, ?_, .tup (.of upd_same) (.cons (.int _) (.cons (Dpm ex.g (Dpm s1 e2)) .nil))⟩
  unfold enumD
  rw [List.getElem?_mapIdx, e1]
  rfl
def seqOf : PyData → Option (List PyData)
  | .list ds => some ds
  | .tuple ds => some ds
  | _ => none
def iEnu (f : Rho → Rs PyData) : Rho → Rs (List PyData) := fun ρ => (f ρ).andThen fun d ρ => opt ((seqOf d).map enumD) ρ
theorem pdi_enum {X : Cx} {E : XK} {e : Expr} {fe : Rho → Rs PyData} {p pos tpos : Pos} {elts : List Expr} {kk : Nat} (h : PD X E e fe) (hm : X.mg "enumerate" = none) (hg : Gl X "enumerate" := by rfl) (hs : starEach [e] X.env = [(false, eval e X.env)] := by rfl) :
    PDI X E (.Tuple elts kk tpos) (.Call (.Name "enumerate" p) [e] [] pos) (iEnu fe) := by
  obtain ⟨t, h1, w1⟩ := h
  refine ⟨_, pi_enumA hg hm (pa_cons h1 pa_nil hs) hs, fun B G H σ ρ R en w => ?_⟩
  refine w1 B G H σ ρ _ en (w.andThen.mono fun d ρ1 _ w' G1 H1 v s1 en1 d1 => ?_)
  cases d with
  | list ds =>
    obtain ⟨a, xs, rfl, g1, r1⟩ := dp_lst d1
    exact ⟨a, rfl, .inl ⟨xs, en1.gh.seq g1, w' _ G1 H1 s1 en1 (iter_pair r1 walk_enum fun G' H' s2 s3 => s3.seq (s2.seq g1))⟩⟩
  | tuple ds =>
    obtain ⟨a, xs, rfl, g1, r1⟩ := dp_tup d1
    exact ⟨a, rfl, .inr ⟨xs, seqT en1.gh g1, w' _ G1 H1 s1 en1 (iter_pair r1 walk_enumT fun G' H' s2 s3 => seqT s3 (seqT s2 g1))⟩⟩
  | none => exact w'.elim
  | bool _ => exact w'.elim
  | int _ => exact w'.elim
  | str _ => exact w'.elim
  | dict _ => exact w'.elim
/-! ### list(range(n)) -/
def eLRng (f : Rho → Rs PyData) : Rho → Rs (List PyData) := iRng1 f
theorem rgV_dp {K : PySem.W.Frag} {G : Hp} {a b : Int} : DpAll K G (rgV a b) (rngL a (b - a).toNat) := by
  unfold rgV rngL
  generalize List.range (b - a).toNat = l
  induction l with
  | nil => exact .nil
  | cons x l ih => exact .cons (.int _) ih
theorem pdo_lrng {X : Cx} {E : XK} {e : Expr} {fe : Rho → Rs PyData} {p p2 pos pos2 : Pos} (h : PD X E e fe) (hc : X.calm = true) (hm : X.mg "list" = none) (hm2 : X.mg "range" = none) (hg : Gl X "list" := by rfl) (hg2 : Gl X "range" := by rfl)
    (na : starEach [e] X.env = (false, eval e X.env) :: starEach [] X.env := by rfl) (na2 : starEach [.Call (.Name "range" p2) [e] [] pos2] X.env = (false, eval (.Call (.Name "range" p2) [e] [] pos2) X.env) :: starEach [] X.env := by rfl) :
    PDO X E (.Call (.Name "list" p) [.Call (.Name "range" p2) [e] [] pos2] [] pos) (iRng1 fe) := by
  obtain ⟨t, h1, w1⟩ := h
  refine ⟨_, pe_listRg hc hg hm (prg_1 hg2 hm2 h1 na) na2, fun B G H σ ρ Q en w => ?_⟩
  unfold iRng1 at w
  refine w1 B G H σ ρ _ en (w.andThen.mono fun d ρ1 _ w' G1 H1 v s1 en1 d1 => ?_)
  cases d with
  | int n =>
    cases dp_int d1
    have w' : Want X.mg B E (if -1000000 ≤ n ∧ n ≤ 1000000 then Rs.ok (rngL 0 n.toNat) ρ1 else .bad) (KO' X.K B G σ Q) := w'
    split at w'
    · rename_i hz
      refine ⟨n, rfl, ⟨by omega, by omega, by omega, by omega, by omega⟩, fun q hq => ?_⟩
      have x : Ext G1 H1 G1 (upd H1 q (.lst (rgV 0 n))) := Ext.heap en1.gh (same_upd hq)
      have r := rgV_dp (K := X.K) (G := G1) (a := 0) (b := n)
      rw [Int.sub_zero] at r
      exact w' G1 _ q _ s1 (en1.ext x) (en1.gh.free hq) upd_same r (en1.fresh hq) (not_own en1 hq) fun j h => en1.lv j q h hq
    · exact w'.elim
  | _ => exact w'.elim
end Dl

set_option Elab.async false
set_option linter.all false
set_option maxRecDepth 100000
set_option maxHeartbeats 1000000
namespace Dl
open PySem L2
/-! ### sorted(set(xs)) of ints -/
def intsOf : List PyData → Option (List Int)
  | [] => some []
  | .int i :: r => (intsOf r).map (i :: ·)
  | _ => none
theorem intsOf_map : ∀ ns : List Int, intsOf (ns.map .int) = some ns
  | [] => rfl
  | n :: ns => by
    show (intsOf (ns.map .int)).map (n :: ·) = _
    rw [intsOf_map ns]
    rfl
theorem intsOf_eq : ∀ {ds : List PyData} {ns : List Int}, intsOf ds = some ns → ds = ns.map .int
  | [], _, h => by cases h; rfl
  | .int i :: r, ns, h => by
    have h : (intsOf r).map (i :: ·) = some ns := h
    cases q : intsOf r with
    | none => rw [q] at h; cases h
    | some ms =>
      rw [q] at h
      cases h
      rw [intsOf_eq q]
      rfl
  | .none :: _, _, h => by cases h
  | .bool _ :: _, _, h => by cases h
  | .str _ :: _, _, h => by cases h
  | .list _ :: _, _, h => by cases h
  | .tuple _ :: _, _, h => by cases h
  | .dict _ :: _, _, h => by cases h
def insS (k : Int) : List Int → List Int
  | [] => [k]
  | x :: r => if k < x then k :: x :: r else if x < k then x :: insS k r else x :: r
def sset (ns : List Int) : List Int := ns.foldr insS []
theorem mem_insS (k j : Int) : ∀ r : List Int, j ∈ insS k r ↔ j = k ∨ j ∈ r
  | [] => by simp [insS]
  | x :: r => by
    unfold insS
    split
    · simp
    · split
      · rw [List.mem_cons, mem_insS k j r, List.mem_cons]
        constructor
        · rintro (h | h | h)
          · exact .inr (.inl h)
          · exact .inl h
          · exact .inr (.inr h)
        · rintro (h | h | h)
          · exact .inr (.inl h)
          · exact .inl h
          · exact .inr (.inr h)
      · have e : x = k := by omega
        subst e
        rw [List.mem_cons]
        constructor
        · exact .inr
        · rintro (h | h)
          · exact .inl h
          · exact h
theorem mem_sset (j : Int) : ∀ ns : List Int, j ∈ sset ns ↔ j ∈ ns
  | [] => by simp [sset]
  | n :: ns => by
    show j ∈ insS n (sset ns) ↔ _
    rw [mem_insS, mem_sset j ns, List.mem_cons]
theorem insS_sorted (k : Int) : ∀ {r : List Int}, r.Pairwise (· < ·) → (insS k r).Pairwise (· < ·)
  | [], _ => List.pairwise_singleton _ _
  | x :: r, h => by
    obtain ⟨h1, h2⟩ := List.pairwise_cons.mp h
    unfold insS
    split
    · rename_i hk
      refine List.pairwise_cons.mpr ⟨fun y hy => ?_, h⟩
      rcases List.mem_cons.mp hy with e | e
      · rw [e]; exact hk
      · exact Int.lt_trans hk (h1 y e)
    · split
      · rename_i hk
        refine List.pairwise_cons.mpr ⟨fun y hy => ?_, insS_sorted k h2⟩
        rcases (mem_insS k y r).mp hy with e | e
        · rw [e]; exact hk
        · exact h1 y e
      · exact h
theorem sset_sorted : ∀ ns : List Int, (sset ns).Pairwise (· < ·)
  | [] => .nil
  | n :: ns => insS_sorted n (sset_sorted ns)
theorem sorted_unique : ∀ {xs ys : List Int}, xs.Pairwise (· < ·) → ys.Pairwise (· < ·) → (∀ k, k ∈ xs ↔ k ∈ ys) → xs = ys
  | [], [], _, _, _ => rfl
  | [], y :: ys, _, _, h => by have := (h y).mpr List.mem_cons_self; cases this
  | x :: xs, [], _, _, h => by have := (h x).mp List.mem_cons_self; cases this
  | x :: xs, y :: ys, hx, hy, h => by
    obtain ⟨a1, a2⟩ := List.pairwise_cons.mp hx
    obtain ⟨b1, b2⟩ := List.pairwise_cons.mp hy
    have e : x = y := by
      rcases List.mem_cons.mp ((h x).mp List.mem_cons_self) with e | e
      · exact e
      · rcases List.mem_cons.mp ((h y).mpr List.mem_cons_self) with f | f
        · exact f.symm
        · have := a1 y f
          have := b1 x e
          omega
    subst e
    rw [sorted_unique a2 b2 fun k => ⟨fun hk => ?_, fun hk => ?_⟩]
    · rcases List.mem_cons.mp ((h k).mp (List.mem_cons_of_mem _ hk)) with f | f
      · have := a1 k hk
        omega
      · exact f
    · rcases List.mem_cons.mp ((h k).mpr (List.mem_cons_of_mem _ hk)) with f | f
      · have := b1 k hk
        omega
      · exact f
def pSortSet : PyData → Option (List PyData)
  | .list ds => (intsOf ds).bind fun ns => if ns.length < 60 then some ((sset ns).map .int) else none
  | _ => none
def eSS (f : Rho → Rs PyData) : Rho → Rs (List PyData) := fun ρ => (f ρ).andThen fun d ρ => opt (pSortSet d) ρ
theorem ints_dp {K : PySem.W.Frag} {G : Hp} : ∀ {ns : List Int} {vs : List V}, DpAll K G vs (ns.map .int) → vs = ns.map V.int
  | [], _, h => by cases h; rfl
  | n :: ns, _, h => by
    cases h with
    | cons h r =>
      rw [ints_dp r, dp_int h]
      rfl
theorem dp_ints {K : PySem.W.Frag} {G : Hp} : ∀ {ns : List Int}, DpAll K G (ns.map V.int) (ns.map .int)
  | [] => .nil
  | n :: ns => .cons (.int n) dp_ints
def rSetI (X : Cx) : List V → Hp → VK → Prop := fun vs H Q => ∃ (a : Addr) (ns : List Int), vs = [V.ref a] ∧ SqL X.K H a (ns.map V.int) ∧ ns.length < 60 ∧ ∀ p c, H p = none → c ≤ ns.length → Q (.ref p) (upd H p (SetO X.w p (fun j => decide (j ∈ ns)) c))
theorem intsAre_of' : ∀ {ns : List Int} {us : List Value}, Vals (ns.map V.int) us → PyProof.Rows.IntsAre us ns := fun h => intsAre_of h
theorem cr_setI {X : Cx} (hc : X.calm = true) : CallR X (.type "set") (rSetI X) := by
  intro pins s σ H vs us Q I r h
  obtain ⟨a, ns, rfl, hs, hn, q⟩ := h
  rw [Vals.ref1 r]
  obtain ⟨its, rv, pl, hl⟩ := I.list hs
  refine set_list_ints ns (I.ok.hd hc) pl.isList (by simpa using intsAre_of rv) (by
    have : (64 : Nat) ≤ scanBound := by decide
    omega) fun h' tk c hS hc' hk => ?_
  have hf : H s.heap.objs.size = none := I.hok.fresh (Nat.le_refl _)
  exact ⟨.ref _, _, I.laid (t' := tk) hk (Nat.le_refl _) (setO_new hS), rfl, q _ c hf hc'⟩
theorem pdo_sortSet {X : Cx} {E : XK} {e : Expr} {fe : Rho → Rs PyData} {p p2 pos pos2 : Pos} (h : PD X E e fe) (hc : X.calm = true) (hm : X.mg "sorted" = none) (hm2 : X.mg "set" = none) (hg : Gl X "sorted" := by rfl) (hg2 : Gl X "set" := by rfl)
    (he : starEach [e] X.env = [(false, eval e X.env)] := by rfl)
    (he2 : starEach [.Call (.Name "set" p2) [e] [] pos2] X.env = [(false, eval (.Call (.Name "set" p2) [e] [] pos2) X.env)] := by rfl) :
    PDO X E (.Call (.Name "sorted" p) [.Call (.Name "set" p2) [e] [] pos2] [] pos) (eSS fe) := by
  obtain ⟨t, h1, w1⟩ := h
  refine ⟨_, L2.pe_callB (cr_sortedSet hc) hg hm (by decide +kernel) (pa_cons (L2.pe_callTy (cr_setI hc) hg2 hm2 (by decide +kernel) (pa_cons h1 pa_nil he) (by decide) (by decide) he rfl) pa_nil he2) (by decide) (by decide) he2 rfl, fun B G H σ ρ Q en w => ?_⟩
  refine w1 B G H σ ρ _ en (w.andThen.mono fun d ρ1 _ w' G1 H1 v s1 en1 d1 => ?_)
  cases d with
  | list ds =>
    obtain ⟨a, xs, rfl, g1, r1⟩ := dp_lst d1
    have w' : Want X.mg B E (opt ((intsOf ds).bind fun ns => if ns.length < 60 then some ((sset ns).map PyData.int) else none) ρ1) (KO' X.K B G σ Q) := w'
    cases hi : intsOf ds with
    | none =>
      rw [hi] at w'
      exact w'.elim
    | some ns =>
      rw [hi] at w'
      have w' : Want X.mg B E (opt (if ns.length < 60 then some ((sset ns).map PyData.int) else none) ρ1) (KO' X.K B G σ Q) := w'
      split at w'
      · rename_i hz
        rw [intsOf_eq hi] at r1
        cases ints_dp r1
        refine ⟨a, ns, rfl, en1.gh.seq g1, hz, fun q c hq hcn => ?_⟩
        refine ⟨q, _, c, rfl, upd_same, by omega, fun ms p hs hm _ hp => ?_⟩
        have e1 : ms = sset ns := sorted_unique hs (sset_sorted ns) fun k => by rw [hm, mem_sset]; simp
        subst e1
        have x1 : Ext G1 H1 G1 (upd H1 q (SetO X.w q (fun j => decide (j ∈ ns)) c)) := Ext.heap en1.gh (same_upd hq)
        have en2 := en1.ext x1
        have x2 := Ext.heap en2.gh (same_upd (o := .lst ((sset ns).map V.int)) hp)
        exact w' G1 _ p _ s1 (en2.ext x2) (en2.gh.free hp) upd_same dp_ints (en2.fresh hp) (not_own en2 hp) fun j h => en2.lv j p h hp
      · exact w'.elim
  | _ => exact w'.elim
end Dl

set_option Elab.async false
set_option linter.all false
set_option maxRecDepth 100000
set_option maxHeartbeats 1000000
namespace Dl
open PySem L2
section
variable {P : Program} {w : World} {K : PySem.W.Frag} {mg : Str → Option Value} {base : Heap} {x qual : Str} {params : Arguments} {body : List Stmt} {scope : Scope} {f : Addr} {fd : FuncData} {N ps : List Str} {k : Nat}
theorem ok_bad (F : FunD K x qual params body scope [] [] f fd) (S : FnScope N ps scope) (n : Nat) (hn : ps.length = n) : FnOk P w K mg base (L2N.CX P w) (k + 1) f fd ps (spP K mg n (fun _ => .bad)) := by
  refine F.ok S (fun vs H Q E h => h.1.trans hn.symm) (fun cdv A outer s H vs Q E hr hsp => ?_)
  obtain ⟨_, _, _, _, _, h⟩ := hsp
  exact h.elim
end
end Dl

set_option Elab.async false
set_option linter.all false
set_option maxRecDepth 100000
namespace Dl
open PySem PySem.Spec PyProof.Rows L2
/-- the law's def, where what it may let out depends on the World -/
theorem walk_own {l : PySem.W.OpenLaw} {n k : Nat} {q : Program} {loose : List Str} {XP : (Str → Option Value) → Heap → Prop} {YP : World → Heap → Prop} {d : DefRec} {x : Str}
    (hn : l.most = some n) (hn2 : n ≤ sizeLine) (hdf : d.params.defaults = []) (hr : Room k callerA)
    (F : ∀ (w : World) (mg : Str → Option Value) (fa : Addr) (h : Heap), YP w h → h.Ns mainGlobals mg → mg d.name = some (.ref fa) →
      ∃ (K : PySem.W.Frag) (fd : FuncData) (sp : Sp), K.In h ∧ (∀ (s : Shared) (u : Value), BindsTo s fd ⟨[u], []⟩ [(x, u)]) ∧
        (∀ (H : Hp) (a : Addr) (ns : List Int), ns.length ≤ n → Only H → SqL K H a (ns.map V.int) → sp [.ref a] H (fun v _ => v = .bl true) fun _ _ _ => False) ∧
        ∀ base : Heap, K.In base → base.Ns mainGlobals mg → FnOk l.prog w K mg base (L2N.CX l.prog w) k fa fd [x] sp) :
    PySem.W.WalkO q loose XP YP l.row.toRowW d [] (fun f vs => PySem.call f vs) := by
  refine Att.attach_call hn hdf fun w s₀ s₁ mg mb fa o pm cd doc a vs ns G Y ho hd hcd hmg hobj hints hlen hg => ?_
  obtain ⟨K, fd, sp, KX, hb, hsp, hF⟩ := F w mg fa _ Y G.T.g hmg
  exact law_call KX G.T.g G.T.b G.T.builtins G.T.nolimit hg hobj hints (Nat.le_trans hlen hn2) hr hF hb (fun H hO hS => hsp H a ns hlen hO hS) fun H e s' z => by
    obtain ⟨_, _, _, _, _, _, _, _, _, _, _, _, z⟩ := z
    exact z
end Dl

set_option Elab.async false
set_option linter.all false
set_option maxRecDepth 100000
set_option maxHeartbeats 1000000
namespace Dl
open PySem L2
/-! ### the text's own tables -/
/-- a name of the module that reads as data -/
structure GDat (K : PySem.W.Frag) (mg : Str → Option Value) (x : Str) (d : PyData) : Prop where
  ex : ∃ p, mg x = some (.ref p) ∧ ∀ G, Dp K G (.ref p) d
theorem pd_gdat {X : Cx} {E : XK} {x : Str} {pos : Pos} {d : PyData} (h : GDat X.K X.mg x d) (hg : Gl X x := by rfl) (hd : (x == ("__debug__" : Str)) = false := by decide) : PD X E (.Name x pos) (eC d) := by
  obtain ⟨p, h1, h2⟩ := h.ex
  exact pd_gref hg h1 h2 hd
/-- a dict of the module with text keys and data -/
structure GDic (K : PySem.W.Frag) (w : World) (mg : Str → Option Value) (x : Str) (kvs : List (Str × PyData)) : Prop where
  ex : ∃ p es n, mg x = some (.ref p) ∧ KDict K w p es n ∧ ∀ z d, kvs.lookup z = some d → ∃ u v, PySem.W.nsIn K p z = some (some u) ∧ RelV v u ∧ ∀ G, Dp K G v d
def pDic (kvs : List (Str × PyData)) : PyData → Option PyData
  | .str z => kvs.lookup z
  | _ => none
theorem pd_gdic {X : Cx} {E : XK} {x : Str} {p pos : Pos} {e : Expr} {f : Rho → Rs PyData} {kvs : List (Str × PyData)} (h : GDic X.K X.w X.mg x kvs) (hf : PD X E e f) (hg : Gl X x := by rfl) (hd : (x == ("__debug__" : Str)) = false := by decide) (hs : PlainIx e := by exact fun _ _ => rfl) :
    PD X E (.Subscript (.Name x p) e pos) (eUn (pDic kvs) f) := by
  obtain ⟨a, es, n, h1, D, h3⟩ := h.ex
  obtain ⟨t1, g1, w1⟩ := hf
  have hi : IxR X (fun x y H Q => ∃ (z : Str) (u0 : Value) (v0 : V), x = .ref a ∧ y = .str z ∧ PySem.W.nsIn X.K a z = some (some u0) ∧ RelV v0 u0 ∧ Q v0 H) := by
    intro value slice pins s σ H x y v u Q I rx ry q hs
    obtain ⟨z, u0, v0, rfl, rfl, q1, q2, q3⟩ := q
    have hv : v = Value.ref a := rx
    subst hv
    refine PyProof.Rows.tail_any (T := "dict") (kd_type D I) PySem.F.slot_dict_getitem.lookup ?_ hs
    exact op_item_kd D pins s σ H (V.ref a) (V.str z) (Value.ref a) u Q I rfl ry ⟨z, u0, v0, rfl, rfl, q1, q2, q3⟩
  refine ⟨_, pe_ix hi (pe_glob hg h1 (v := .ref a) rfl hd) g1 hs, fun B G H σ ρ Q en w => ?_⟩
  refine w1 B G H σ ρ _ en (w.andThen.mono fun d ρ1 _ w' G1 H1 v s1 en1 d1 => ?_)
  unfold opt at w'
  split at w'
  · rename_i dd hdd
    cases d with
    | str z =>
      cases dp_str d1
      obtain ⟨u, vv, e1, e2, e3⟩ := h3 z dd hdd
      exact ⟨z, u, vv, rfl, rfl, e1, e2, w' G1 H1 vv s1 en1 (e3 G1)⟩
    | _ => cases hdd
  · exact w'.elim
/-! ### s.index(t), found -/
def pIndexS : PyData → PyData → Option PyData
  | .str a, .str b => (Txt.index0 a b).map fun k => .int (k : Nat)
  | _, _ => none
/-- a method of a text: the text first -/
def eStrM (p : PyData → PyData → Option PyData) (fo fe : Rho → Rs PyData) : Rho → Rs PyData := fun ρ => (fo ρ).andThen fun a ρ => match a with
  | .str z => (fe ρ).andThen fun b ρ => opt (p (.str z) b) ρ
  | _ => .bad
theorem mt_indexF {X : Cx} : MtR X "str.index" (fun x xs H Q => ∃ (a b : Str) (k : Nat), x = .str a ∧ xs = [.str b] ∧ Txt.index0 a b = some k ∧ Q (.int (k : Nat)) H) := by
  intro pins s σ H x xs v us Q I rx rs h
  obtain ⟨a, b, k, rfl, rfl, hk, w⟩ := h
  obtain ⟨t, rfl⟩ := rx
  cases rs with
  | cons r1 rs =>
    cases rs
    obtain ⟨u, rfl⟩ := r1
    cases q : Builtin.Str.occurrences a b 0 a.length 1 with
    | nil =>
      unfold Txt.index0 at hk
      rw [q] at hk
      cases hk
    | cons k' rest =>
      have e : k' = k := by
        unfold Txt.index0 at hk
        rw [q] at hk
        exact Option.some.inj hk
      subst e
      exact call_gives PySem.F.slot_str_index (typeIs_str _ _ _) PySem.F.entry_str_index (PySem.F.args_str_index_2 _ _) (gives_str_index a b t u k' rest q) ⟨.int (k' : Nat), H, I.tok _, ⟨_, rfl⟩, w⟩
theorem pd_indexS {X : Cx} {E : XK} {o e : Expr} {fo fe : Rho → Rs PyData} {apos pos : Pos} (ho : PD X E o fo) (he : PD X E e fe)
    (hbase : attributeBase o "index" X.env (eval o X.env) = eval o X.env := by rfl)
    (hfew : ((backTo pos (starEach [e] X.env)).all (fun x => !x.1) && (backToKw pos (keywordEach [] X.env)).all (fun x => x.1.isSome)
      && decide (([e] : List Expr).length + ([] : List Keyword).length + (if ([] : List Keyword).isEmpty then 0 else 1) < 30)) = true := by rfl)
    (hline : (apos.endLine == pos.line) = true := by rfl) (hs : starEach [e] X.env = [(false, eval e X.env)] := by rfl) :
    PD X E (.Call (.Attribute o "index" apos) [e] [] pos) (eStrM pIndexS fo fe) := by
  obtain ⟨t1, h1, w1⟩ := ho
  obtain ⟨t2, h2, w2⟩ := he
  refine ⟨_, pe_bm PySem.F.plainAttrs_str PySem.F.slot_str_index PySem.F.type_str_index mt_indexF h1 (pa_cons h2 pa_nil hs) hbase hfew hline hs (by rfl), fun B G H σ ρ Q en w => ?_⟩
  refine w1 B G H σ ρ _ en (w.andThen.mono fun a ρ1 q1 w' G1 H1 v s1 en1 d1 => ?_)
  cases a with
  | str z =>
    cases dp_str d1
    refine ⟨rfl, ?_⟩
    refine w2 B G1 H1 σ ρ1 _ en1 (w'.andThen.mono fun b ρ2 _ w'' G2 H2 u s2 en2 d2 => ?_)
    unfold opt at w''
    split at w''
    · rename_i d hd
      cases b with
      | str y =>
        cases dp_str d2
        obtain ⟨k, hk, rfl⟩ := Option.map_eq_some_iff.mp hd
        exact ⟨z, y, k, rfl, rfl, hk, w'' G2 H2 _ (s1.trans s2) en2 (.int _)⟩
      | _ => cases hd
    · exact w''.elim
  | _ => exact w'.elim
/-! ### the facts of tables -/
open He in
def dvOf : PyData → Dv
  | .int i => .int i
  | .str x => .str x
  | .bool b => .bl b
  | _ => .non
theorem dvs_dp {K : PySem.W.Frag} {G : Hp} : ∀ {ds : List PyData}, ds.all atom = true → DpAll K G ((ds.map dvOf).map (He.Dv.v K)) ds
  | [], _ => .nil
  | d :: ds, h => by
    rw [List.all_cons, Bool.and_eq_true] at h
    refine .cons ?_ (dvs_dp h.2)
    cases d with
    | none => exact .non
    | bool b => exact .bl b
    | int i => exact .int i
    | str x => exact .str x
    | list _ => cases h.1
    | tuple _ => cases h.1
    | dict _ => cases h.1
def tupAtB (K : PySem.W.Frag) (a : Addr) (vs : List He.Dv) : Bool := match K.lookup a with
  | some ⟨.type c, _, .seq its _, _⟩ => decide (c = "tuple") && (decide (its.size ≤ sizeLine) && He.relAll (vs.map (He.Dv.v K)) its.toList)
  | _ => false
theorem tupAtB_ok {K : PySem.W.Frag} {a : Addr} {vs : List He.Dv} (h : tupAtB K a vs = true) (H : Hp) : SqT K H a (vs.map (He.Dv.v K)) := by
  unfold tupAtB at h
  split at h
  · rename_i c d its n sl q
    rw [Bool.and_eq_true, Bool.and_eq_true] at h
    obtain ⟨h1, h3, h4⟩ := h
    exact .inr ⟨_, its, n, q, congrArg Value.type (of_decide_eq_true h1), rfl, of_decide_eq_true h3, He.relAll_ok h4⟩
  · cases h
theorem gdat_tup {K : PySem.W.Frag} {mg : Str → Option Value} {x : Str} {ds : List PyData} (hg : mg x = some (.ref (He.ga K x))) (h : tupAtB K (He.ga K x) (ds.map dvOf) = true) (ha : ds.all atom = true := by decide) : GDat K mg x (.tuple ds) :=
  ⟨⟨_, hg, fun G => .tup (tupAtB_ok h G) (dvs_dp ha)⟩⟩
def dicB (K : PySem.W.Frag) (a : Addr) (kvs : List (Str × List PyData)) : Bool := kvs.all fun q => q.2.all atom && (match PySem.W.nsIn K a q.1 with
  | some (some (.ref b)) => tupAtB K b (q.2.map dvOf)
  | _ => false)
theorem lookup_map {kvs : List (Str × List PyData)} {z : Str} {d : PyData} (h : (kvs.map fun q => (q.1, PyData.tuple q.2)).lookup z = some d) : ∃ ds, (z, ds) ∈ kvs ∧ d = .tuple ds := by
  induction kvs with
  | nil => cases h
  | cons q kvs ih =>
    rw [List.map_cons, List.lookup_cons] at h
    split at h
    · rename_i e
      cases h
      have : z = q.1 := by simpa using e
      exact ⟨q.2, by rw [this]; exact List.mem_cons_self, rfl⟩
    · obtain ⟨ds, h1, h2⟩ := ih h
      exact ⟨ds, List.mem_cons_of_mem _ h1, h2⟩
theorem gdic_of {K : PySem.W.Frag} {w : World} {mg : Str → Option Value} {x : Str} {kvs : List (Str × List PyData)} (hg : mg x = some (.ref (He.ga K x))) (D : ∃ es n, KDict K w (He.ga K x) es n) (h : dicB K (He.ga K x) kvs = true) : GDic K w mg x (kvs.map fun q => (q.1, PyData.tuple q.2)) := by
  obtain ⟨es, n, D⟩ := D
  refine ⟨⟨_, es, n, hg, D, fun z d hz => ?_⟩⟩
  obtain ⟨ds, h1, rfl⟩ := lookup_map hz
  have h2 := List.all_eq_true.mp h _ h1
  rw [Bool.and_eq_true] at h2
  obtain ⟨h3, h4⟩ := h2
  split at h4
  · rename_i b q
    exact ⟨_, .ref b, q, rfl, fun G => .tup (tupAtB_ok h4 G) (dvs_dp h3)⟩
  · cases h4
/-! ### for a, b in zip(xs, ys), lists -/
def iZip (fa fb : Rho → Rs PyData) : Rho → Rs (List PyData) := fun ρ => (fa ρ).andThen fun a ρ => (fb ρ).andThen fun b ρ => match a, b with
  | .list xs, .list ys => .ok ((xs.zip ys).map fun p => .tuple [p.1, p.2]) ρ
  | _, _ => .bad
theorem pdi_zip {X : Cx} {E : XK} {e e2 : Expr} {fa fb : Rho → Rs PyData} {p pos tpos : Pos} {elts : List Expr} {kk : Nat} (ha : PD X E e fa) (hb : PD X E e2 fb) (hm : X.mg "zip" = none) (hg : Gl X "zip" := by rfl)
    (hs : starEach [e, e2] X.env = (false, eval e X.env) :: starEach [e2] X.env := by rfl) (hs2 : starEach [e2] X.env = [(false, eval e2 X.env)] := by rfl) (hpl : (backTo pos (starEach [e2] X.env)).any (·.1) = false := by rfl) :
    PDI X E (.Tuple elts kk tpos) (.Call (.Name "zip" p) [e, e2] [] pos) (iZip fa fb) := by
  obtain ⟨t1, h1, w1⟩ := ha
  obtain ⟨t2, h2, w2⟩ := hb
  refine ⟨_, RZ.pi_zipA hg hm (pa_cons h1 (pa_cons h2 pa_nil hs2) hs) hs hpl, fun B G H σ ρ R en w => ?_⟩
  refine w1 B G H σ ρ _ en (w.andThen.mono fun a ρ1 _ w' G1 H1 v s1 en1 d1 => ?_)
  refine w2 B G1 H1 σ ρ1 _ en1 (w'.andThen.mono fun b ρ2 _ w'' G2 H2 u s2 en2 d2 => ?_)
  cases a with
  | list xs =>
    cases b with
    | list ys =>
      obtain ⟨a1, vs, rfl, g1, r1⟩ := dp_lst (Dpm s2 d1)
      obtain ⟨a2, us, rfl, g2, r2⟩ := dp_lst d2
      refine ⟨a1, a2, vs, us, rfl, .inl ⟨en2.gh.seq g1, en2.gh.seq g2, w'' _ G2 H2 (s1.trans s2) en2 ?_⟩⟩
      have hl : ((xs.zip ys).map fun p => PyData.tuple [p.1, p.2]).length = min vs.length us.length := by
        rw [List.length_map, List.length_zip, DpAll.len r1, DpAll.len r2]
      refine ⟨fun H => SqL X.K H a1 vs ∧ SqL X.K H a2 us, _, by rw [hl]; exact walk_zip (xs := vs) (ys := us) rfl, fun G' H' s3 s4 => ⟨s4.seq (s3.seq g1), s4.seq (s3.seq g2)⟩, fun i G' H' x H2' hi s3 s4 y => ?_⟩
      obtain ⟨T, u1, v1, rfl, hT, rfl, hu, hv⟩ := y
      obtain ⟨d, e1, e2⟩ := DpAll.get' r1 hu
      obtain ⟨d', e3, e4⟩ := DpAll.get' r2 hv
      have ex : Ext G' H' (upd G' T (.tup [u1, v1])) (upd H' T (.tup [u1, v1])) := Ext.new s4 hT
      refine ⟨_, .tuple [d, d'], ex, ?_, .tup (.of upd_same) (.cons (Dpm ex.g (Dpm s3 e2)) (.cons (Dpm ex.g (Dpm s3 e4)) .nil))⟩
      rw [List.getElem?_map, List.getElem?_zip_eq_some (z := (d, d')) |>.mpr ⟨e1, e3⟩]
      rfl
    | _ => exact w''.elim
  | _ => exact w''.elim
/-! ### a World by one of its rows -/
def withRow (w : World) (b : Bool) : World := { w with params := { w.params with followText := fun s => if s = "special-get-raises" then b else w.params.followText s } }
theorem withRow_eq (w : World) : withRow w (w.params.followText "special-get-raises") = w := by
  unfold withRow
  have e : (fun s => if s = "special-get-raises" then w.params.followText "special-get-raises" else w.params.followText s) = w.params.followText := funext fun s => by
    split
    · rename_i h
      rw [h]
    · rfl
  rw [e]
theorem by_row {p : World → Prop} (w : World) (h1 : p (withRow w true)) (h2 : p (withRow w false)) : p w := by
  rw [← withRow_eq w]
  cases w.params.followText "special-get-raises" with
  | true => exact h1
  | false => exact h2
end Dl

set_option Elab.async false
set_option linter.all false
set_option maxRecDepth 100000
set_option maxHeartbeats 1000000
namespace Dl
open PySem L2
/-! ### what no run reaches -/
section
variable {X : Cx} {E : XK} {e : Expr} {st : Stmt}
theorem pd_bad : PD X E e (fun _ => .bad) := ⟨fun _ _ _ => False, ⟨fun _ _ _ _ _ _ h => h.elim⟩, fun _ _ _ _ _ _ _ w => w.elim⟩
theorem pdt_bad : PDT X E e (fun _ => .bad) := ⟨fun _ _ _ => False, ⟨fun _ _ _ _ _ _ h => h.elim⟩, fun _ _ _ _ _ _ _ w => w.elim⟩
theorem pdo_bad : PDO X E e (fun _ => .bad) := ⟨fun _ _ _ => False, ⟨fun _ _ _ _ _ _ h => h.elim⟩, fun _ _ _ _ _ _ _ w => w.elim⟩
theorem pds_bad : PDS X E st (fun _ => .bad) := ⟨fun _ _ _ => False, ⟨fun _ _ _ _ _ _ h => h.elim⟩, fun _ _ _ _ _ _ _ w => w.elim⟩
end
/-! ### str(i) -/
def pStr : List PyData → Option PyData
  | [.int i] => if i.natAbs < 18446744073709551616 then some (.str (toString i)) else none
  | _ => none
theorem pl_str {X : Cx} : PL X (.type "str") pStr := by
  intro pins s σ H xs us Q I r h
  obtain ⟨G, as, d, gh, da, hp, q⟩ := h
  unfold pStr at hp
  split at hp
  · split at hp
    · rename_i i hz
      cases hp
      obtain ⟨v, rfl, dv⟩ := dps_one da
      cases dp_int dv
      refine call_str_int pins s σ H _ us Q I r ⟨i, rfl, ?_, q G H _ (Ext.refl gh) (.str _)⟩
      by_cases h0 : i.natAbs = 0
      · rw [h0]; decide
      · exact (Nat.log2_lt h0).mpr (Nat.lt_trans hz (by decide))
    · cases hp
  · cases hp
/-! ### s.split(t), t.join(xs) -/
def eStrMO (p : PyData → PyData → Option (List PyData)) (fo fe : Rho → Rs PyData) : Rho → Rs (List PyData) := fun ρ => (fo ρ).andThen fun a ρ => match a with
  | .str z => (fe ρ).andThen fun b ρ => opt (p (.str z) b) ρ
  | _ => .bad
def pSplit : PyData → PyData → Option (List PyData)
  | .str a, .str b => if (b.length == 0) = false ∧ a.length ≤ 1000000 then some ((Txt.split a b).map .str) else none
  | _, _ => none
def strsOf : List PyData → Option (List Str)
  | [] => some []
  | .str z :: r => (strsOf r).map (z :: ·)
  | _ => none
theorem strsOf_map : ∀ zs : List Str, strsOf (zs.map .str) = some zs
  | [] => rfl
  | z :: zs => by
    show (strsOf (zs.map .str)).map (z :: ·) = _
    rw [strsOf_map zs]
    rfl
theorem strsOf_eq : ∀ {ds : List PyData} {zs : List Str}, strsOf ds = some zs → ds = zs.map .str
  | [], _, h => by cases h; rfl
  | .str z :: r, zs, h => by
    have h : (strsOf r).map (z :: ·) = some zs := h
    cases q : strsOf r with
    | none => rw [q] at h; cases h
    | some ys =>
      rw [q] at h
      cases h
      rw [strsOf_eq q]
      rfl
  | .none :: _, _, h => by cases h
  | .bool _ :: _, _, h => by cases h
  | .int _ :: _, _, h => by cases h
  | .list _ :: _, _, h => by cases h
  | .tuple _ :: _, _, h => by cases h
  | .dict _ :: _, _, h => by cases h
theorem strs_dp {K : PySem.W.Frag} {G : Hp} : ∀ {zs : List Str} {vs : List V}, DpAll K G vs (zs.map .str) → vs = zs.map V.str
  | [], _, h => by cases h; rfl
  | z :: zs, _, h => by
    cases h with
    | cons h r =>
      rw [strs_dp r, dp_str h]
      rfl
theorem dp_strs {K : PySem.W.Frag} {G : Hp} : ∀ {zs : List Str}, DpAll K G (zs.map V.str) (zs.map .str)
  | [] => .nil
  | z :: zs => .cons (.str z) dp_strs
def pJoin : PyData → PyData → Option PyData
  | .str a, .list ds => (strsOf ds).bind fun zs => if (zs.map (·.length)).sum + zs.length * a.length ≤ 16777216 then some (.str (Txt.join a zs)) else none
  | _, _ => none
section
variable {X : Cx} {E : XK} {o e : Expr} {fo fe : Rho → Rs PyData} {apos pos : Pos}
theorem pdo_split (ho : PD X E o fo) (he : PD X E e fe) (hs : starEach [e] X.env = [(false, eval e X.env)] := by rfl) (hbase : attributeBase o "split" X.env (eval o X.env) = eval o X.env := by rfl) (hline : (apos.endLine == pos.line) = true := by rfl) :
    PDO X E (.Call (.Attribute o "split" apos) [e] [] pos) (eStrMO pSplit fo fe) := by
  obtain ⟨t1, h1, w1⟩ := ho
  obtain ⟨t2, h2, w2⟩ := he
  refine ⟨_, pe_split h1 h2 hs hbase hline, fun B G H σ ρ Q en w => ?_⟩
  refine w1 B G H σ ρ _ en (w.andThen.mono fun a ρ1 q1 w' G1 H1 v s1 en1 d1 => ?_)
  cases a with
  | str z =>
    cases dp_str d1
    refine ⟨⟨z, rfl⟩, ?_⟩
    refine w2 B G1 H1 σ ρ1 _ en1 (w'.andThen.mono fun b ρ2 _ w'' G2 H2 u s2 en2 d2 => ?_)
    unfold opt at w''
    split at w''
    · rename_i d hd
      cases b with
      | str y =>
        cases dp_str d2
        have hd : (if (y.length == 0) = false ∧ z.length ≤ 1000000 then some ((Txt.split z y).map PyData.str) else none) = some d := hd
        split at hd
        · rename_i hz
          cases hd
          refine ⟨z, y, rfl, rfl, hz.1, by rw [sizeLine_eq]; omega, fun q hq => ?_⟩
          have x : Ext G2 H2 G2 (upd H2 q (.lst ((Txt.split z y).map V.str))) := Ext.heap en2.gh (same_upd hq)
          exact w'' G2 _ q _ (s1.trans s2) (en2.ext x) (en2.gh.free hq) upd_same dp_strs (en2.fresh hq) (not_own en2 hq) fun j h => en2.lv j q h hq
        · cases hd
      | _ => cases hd
    · exact w''.elim
  | _ => exact w'.elim
theorem pd_join (ho : PD X E o fo) (he : PD X E e fe) (hs : starEach [e] X.env = [(false, eval e X.env)] := by rfl) (hbase : attributeBase o "join" X.env (eval o X.env) = eval o X.env := by rfl) (hline : (apos.endLine == pos.line) = true := by rfl) :
    PD X E (.Call (.Attribute o "join" apos) [e] [] pos) (eStrM pJoin fo fe) := by
  obtain ⟨t1, h1, w1⟩ := ho
  obtain ⟨t2, h2, w2⟩ := he
  refine ⟨_, pe_join h1 h2 hs hbase hline, fun B G H σ ρ Q en w => ?_⟩
  refine w1 B G H σ ρ _ en (w.andThen.mono fun a ρ1 q1 w' G1 H1 v s1 en1 d1 => ?_)
  cases a with
  | str z =>
    cases dp_str d1
    refine ⟨⟨z, rfl⟩, ?_⟩
    refine w2 B G1 H1 σ ρ1 _ en1 (w'.andThen.mono fun b ρ2 _ w'' G2 H2 u s2 en2 d2 => ?_)
    unfold opt at w''
    split at w''
    · rename_i d hd
      cases b with
      | list ds =>
        have hd : ((strsOf ds).bind fun zs => if (zs.map (·.length)).sum + zs.length * z.length ≤ 16777216 then some (PyData.str (Txt.join z zs)) else none) = some d := hd
        cases hq : strsOf ds with
        | none =>
          rw [hq] at hd
          cases hd
        | some zs =>
          rw [hq] at hd
          have hd : (if (zs.map (·.length)).sum + zs.length * z.length ≤ 16777216 then some (PyData.str (Txt.join z zs)) else none) = some d := hd
          split at hd
          · rename_i hz
            cases hd
            rw [strsOf_eq hq] at d2
            obtain ⟨p, xs, rfl, g1, r1⟩ := dp_lst d2
            cases strs_dp r1
            exact ⟨z, p, zs, rfl, rfl, .inl (en2.gh.seq g1), hz, w'' G2 H2 _ (s1.trans s2) en2 (.str _)⟩
          · cases hd
      | _ => cases hd
    · exact w''.elim
  | _ => exact w'.elim
end
/-! ### f'..' -/
def pFmt : PyData → Option PyData
  | .int i => if i.natAbs < 18446744073709551616 then some (.str (toString i)) else none
  | .str z => if z.length ≤ 1000000 then some (.str z) else none
  | _ => none
theorem pd_fmt {X : Cx} {E : XK} {e : Expr} {fe : Rho → Rs PyData} {pos : Pos} (he : PD X E e fe) : PD X E (.FormattedValue e (-1) none pos) (eUn pFmt fe) := by
  obtain ⟨t1, h1, w1⟩ := he
  refine ⟨_, pe_fmt h1, fun B G H σ ρ Q en w => ?_⟩
  refine w1 B G H σ ρ _ en (w.andThen.mono fun a ρ1 _ w' G1 H1 v s1 en1 d1 => ?_)
  unfold opt at w'
  split at w'
  · rename_i d hd
    cases a with
    | int i =>
      cases dp_int d1
      have hd : (if i.natAbs < 18446744073709551616 then some (PyData.str (toString i)) else none) = some d := hd
      split at hd
      · rename_i hz
        cases hd
        refine .inr ⟨i, rfl, ?_, w' G1 H1 _ s1 en1 (.str _)⟩
        by_cases h0 : i.natAbs = 0
        · rw [h0]; decide
        · exact (Nat.log2_lt h0).mpr (Nat.lt_trans hz (by decide))
      · cases hd
    | str z =>
      cases dp_str d1
      have hd : (if z.length ≤ 1000000 then some (PyData.str z) else none) = some d := hd
      split at hd
      · rename_i hz
        cases hd
        exact .inl ⟨z, rfl, Nat.le_trans hz size_lt, w' G1 H1 _ s1 en1 (.str _)⟩
      · cases hd
    | _ => cases hd
  · exact w'.elim
def PDJ (X : Cx) (E : XK) (es : List Expr) (f : Str → Rho → Rs Str) : Prop := ∃ ts, PJ X es ts ∧ ∀ B G H σ ρ acc Q, EnvAt X.K B G H σ ρ → Want X.mg B E (f acc ρ) (fun out ρ' => ∀ G' H', Same G G' → EnvAt X.K B G' H' σ ρ' → Q out H') → tJs ts acc σ H Q
def jNil (acc : Str) : Rho → Rs Str := fun ρ => .ok acc ρ
def jCons (fe : Rho → Rs PyData) (fr : Str → Rho → Rs Str) (acc : Str) : Rho → Rs Str := fun ρ => (fe ρ).andThen fun d ρ => match d with
  | .str y => if (acc ++ y).length ≤ 1000000 then fr (acc ++ y) ρ else .bad
  | _ => .bad
def eJ (f : Str → Rho → Rs Str) : Rho → Rs PyData := fun ρ => (f Str.empty ρ).andThen fun out ρ => .ok (.str out) ρ
section
variable {X : Cx} {E : XK} {e v1 v2 : Expr} {es rest : List Expr} {fe : Rho → Rs PyData} {fr : Str → Rho → Rs Str} {pos : Pos}
theorem pdj_nil : PDJ X E [] jNil := ⟨[], .nil, fun B G H σ ρ acc Q en w => w G H (Same.refl _) en⟩
theorem pdj_cons (he : PD X E e fe) (hr : PDJ X E es fr) : PDJ X E (e :: es) (jCons fe fr) := by
  obtain ⟨t1, h1, w1⟩ := he
  obtain ⟨ts, h2, w2⟩ := hr
  refine ⟨t1 :: ts, .cons h1 h2, fun B G H σ ρ acc Q en w => ?_⟩
  refine w1 B G H σ ρ _ en (w.andThen.mono fun d ρ1 _ w' G1 H1 v s1 en1 d1 => ?_)
  cases d with
  | str y =>
    cases dp_str d1
    have w' : Want X.mg B E (if (acc ++ y).length ≤ 1000000 then fr (acc ++ y) ρ1 else .bad) _ := w'
    split at w'
    · rename_i hz
      exact ⟨y, rfl, Nat.le_trans hz size_lt, w2 B G1 H1 σ ρ1 _ Q en1 (w'.mono fun out ρ2 _ q G2 H2 s2 en2 => q G2 H2 (s1.trans s2) en2)⟩
    · exact w'.elim
  | _ => exact w'.elim
theorem pd_joined (h : PDJ X E (v1 :: v2 :: rest) fr) : PD X E (.JoinedStr (v1 :: v2 :: rest) pos) (eJ fr) := by
  obtain ⟨ts, h1, w1⟩ := h
  refine ⟨_, pe_joined h1, fun B G H σ ρ Q en w => ?_⟩
  exact w1 B G H σ ρ _ _ en (w.andThen.mono fun out ρ1 _ w' G1 H1 s1 en1 => w' G1 H1 _ s1 en1 (.str out))
end
end Dl

set_option Elab.async false
set_option linter.all false
set_option maxRecDepth 100000
set_option maxHeartbeats 1000000
namespace Dl
open PySem L2
/-! ### a + b of lists, as a list of one's own -/
def eCatO (fa fb : Rho → Rs PyData) : Rho → Rs (List PyData) := fun ρ => (fa ρ).andThen fun a ρ => (fb ρ).andThen fun b ρ => match a, b with
  | .list xs, .list ys => if xs.length + ys.length ≤ 1000000 then .ok (xs ++ ys) ρ else .bad
  | _, _ => .bad
theorem pdo_cat {X : Cx} {E : XK} {a b : Expr} {fa fb : Rho → Rs PyData} {pos : Pos} (ha : PD X E a fa) (hb : PD X E b fb) : PDO X E (.BinOp a .Add b pos) (eCatO fa fb) := by
  obtain ⟨t1, h1, w1⟩ := ha
  obtain ⟨t2, h2, w2⟩ := hb
  refine ⟨_, pe_op op_catL h1 h2, fun B G H σ ρ Q en w => ?_⟩
  refine w1 B G H σ ρ _ en (w.andThen.mono fun a ρ1 _ w' G1 H1 v s1 en1 d1 => ?_)
  refine w2 B G1 H1 σ ρ1 _ en1 (w'.andThen.mono fun b ρ2 _ w'' G2 H2 u s2 en2 d2 => ?_)
  cases a with
  | list xs =>
    cases b with
    | list ys =>
      have w'' : Want X.mg B E (if xs.length + ys.length ≤ 1000000 then Rs.ok (xs ++ ys) ρ2 else .bad) (KO' X.K B G σ Q) := w''
      split at w''
      · rename_i hz
        obtain ⟨p1, vs, rfl, g1, r1⟩ := dp_lst (Dpm s2 d1)
        obtain ⟨p2, us, rfl, g2, r2⟩ := dp_lst d2
        refine ⟨p1, p2, vs, us, rfl, rfl, en2.gh.seq g1, en2.gh.seq g2, by rw [DpAll.len r1, DpAll.len r2]; exact Nat.le_trans hz size_lt, fun q hq => ?_⟩
        have x : Ext G2 H2 G2 (upd H2 q (.lst (vs ++ us))) := Ext.heap en2.gh (same_upd hq)
        exact w'' G2 _ q _ (s1.trans s2) (en2.ext x) (en2.gh.free hq) upd_same (DpAll.app r1 r2) (en2.fresh hq) (not_own en2 hq) fun j h => en2.lv j q h hq
      · exact w''.elim
    | _ => exact w''.elim
  | _ => exact w''.elim
end Dl

set_option Elab.async false
set_option linter.all false
set_option maxRecDepth 100000
set_option maxHeartbeats 2000000
/-! Iterators that end while an exception is handled. -/
namespace Dt
open PySem PySem.Spec PyProof.Rows HotX
section
variable {prog : Program} {w : World} {A : Around} {E : Value → Shared → Prop} {s : Shared} {x1 : Addr}
abbrev Stays (h h' : Heap) : Prop := ∀ b o, h.get? b = some o → h'.get? b = some o
theorem hot_at {A' : Around} {h h' : Heap} (hot : HotAt A x1 h) (ha : A'.handled = A.handled) (k : ∀ o, h.get? x1 = some o → h'.get? x1 = some o) : HotAt A' x1 h' :=
  let ⟨a, o, vs, b, c, d⟩ := hot
  ⟨ha.trans a, o, vs, k o b, c, d⟩
/-- a StopIteration is made and raised, another exception being handled -/
theorem stop_raised {α : Type} {Q : α → Shared → Prop} (hot : HotAt A x1 s.heap) (hE : ∀ h' e, Stays s.heap h' → (∃ o, h'.get? e = some o ∧ o.cls = .type "StopIteration") → E (.ref e) { s with heap := h' }) :
    wpAny (model prog w) A (newExc (.type "StopIteration") [] >>= fun e => (raiseNew e : Sem α)) Q E s := by
  refine wpAny_bind (by
    simp only [newExc, newTuple]
    refine wpAny_bind (wpAny_newObj_type (wpAny_bind (m := firstArgMember _ _) (wpAny_of_eq (a := Value.none) (by first | rfl | (simp only [firstArgMember]; rfl)) (wpAny_newObj_type ?_ (by size_fits)))) (by size_fits))
    obtain ⟨_, o1, v1, g1, _, _⟩ := id hot
    exact raiseNew_hot (hot_at hot rfl fun o e => Heap.get?_push_of_some _ (Heap.get?_push_of_some _ e)) (Nat.ne_of_lt (Heap.lt_size (Heap.get?_push_of_some _ g1))) (Heap.get?_push_size _ rfl) rfl (by first | (simp; done) | (simp; omega) | (simp only [Array.size_append]; simp; omega))
      (hE _ _ (fun b o e => (Heap.get?_update_other _ _ (Nat.ne_of_gt (Heap.lt_size (Heap.get?_push_of_some _ e)))).trans (Heap.get?_push_of_some _ (Heap.get?_push_of_some _ e))) ⟨_, Heap.get?_update_self _ (Heap.get?_push_size _ rfl) rfl, rfl⟩))
/-- a list's iterator that is at its end -/
theorem list_over {it l : Addr} {i : Nat} {items : Array Value} {Q : Value → Shared → Prop} (hot : HotAt A x1 s.heap) (n1 : x1 ≠ it) (hit : s.heap.IsListIter it l i) (hl : s.heap.IsList l items) (hx : items[i]? = none)
    (hE : ∀ h' e, Heap.ExtBut it s.heap h' → (∃ o, h'.get? e = some o ∧ o.cls = .type "StopIteration") → E (.ref e) { s with heap := h' }) : wpAny (model prog w) A (Builtin.SmallTypes.nextOf (.ref it)) Q E s := by
  obtain ⟨o, g, c, d⟩ := id hit
  obtain ⟨u, gu, _, nu, du⟩ := hl
  unfold Builtin.SmallTypes.nextOf
  refine wpAny_bind (wpAny_callSpecial?_slot (name := Str.ofString "__next__") hit.typeIs slot_listiter_next (wpAny_call_entry slot_listiter_next hit.typeIs entry_listiter_next ?_ (args_listiter_next _)))
  show wpAny _ A.in1 (field (.ref it) 0 >>= _) _ _ s; refine wpAny_bind (wpAny_field g d (x := .ref l) rfl ?_); show wpAny _ _ (if (Value.ref l == Value.none) = true then _ else _) _ _ s; rw [if_neg (fun z : (Value.ref l == Value.none) = true => Bool.noConfusion z)]
  show wpAny _ A.in1 (field (.ref it) 1 >>= _) _ _ s; refine wpAny_bind (wpAny_field g d (x := .int i 0) rfl (wpAny_bind (wpAny_seqItems gu du ?_))); simp only [Int.toNat_natCast, hx]
  refine wpAny_bind (wpAny_rule (wpAny_bind (wpAny_setField g d (by simp) (stop_raised (hot_at hot rfl fun o e => (Heap.get?_update_other _ _ n1.symm).trans e) fun h' e k he => hE h' e (fun b o nb q => k b o ((Heap.get?_update_other _ _ nb.symm).trans q)) he))))
/-- a tuple's iterator that is at its end -/
theorem tuple_over {it t : Addr} {i : Nat} {items : Array Value} {Q : Option Value → Shared → Prop} (hot : HotAt A x1 s.heap) (n1 : x1 ≠ it) (hit : IsTupIter s.heap it t i) (ht : IsTup s.heap t items) (hx : items[i]? = none)
    (hQ : ∀ h', Heap.ExtBut it s.heap h' → Q none { s with heap := h' }) : wpAny (model prog w) A (pyNext (.ref it)) Q E s := by
  obtain ⟨o, g, c, d⟩ := id hit
  obtain ⟨u, gu, _, nu, du⟩ := ht
  unfold pyNext
  refine wpAny_bind (wpAny_attempt (wpAny_callSpecial?_slot (name := Str.ofString "__next__") hit.typeIs slot_tupleiter_next (wpAny_call_entry slot_tupleiter_next hit.typeIs entry_tupleiter_next ?_ (args_tupleiter_next _))))
  show wpAny _ A.in1 (field (.ref it) 0 >>= _) _ _ s; refine wpAny_bind (wpAny_field g d (x := .ref t) rfl ?_); show wpAny _ _ (if (Value.ref t == Value.none) = true then _ else _) _ _ s; rw [if_neg (fun z : (Value.ref t == Value.none) = true => Bool.noConfusion z)]
  show wpAny _ A.in1 (field (.ref it) 1 >>= _) _ _ s; refine wpAny_bind (wpAny_field g d (x := .int i 0) rfl (wpAny_bind (wpAny_seqItems gu du ?_))); simp only [Int.toNat_natCast, hx]
  refine wpAny_bind (wpAny_rule (wpAny_bind (wpAny_setField g d (by simp) (stop_raised (hot_at hot rfl fun o e => (Heap.get?_update_other _ _ n1.symm).trans e) fun h' e k he => ?_))))
  obtain ⟨oe, g1, g2⟩ := he
  exact wpAny_bind (wpAny_isInstance (T := "StopIteration") (b := true) ⟨oe, g1, g2⟩ isSubtype_stop (wpAny_pure (hQ h' fun b o nb q => k b o ((Heap.get?_update_other _ _ nb.symm).trans q))))
/-- a, b = a tuple of two -/
theorem unpack_hot {env : Env} {elts : List Expr} {kk} {pos : Pos} {t : Addr} {items : Array Value} {Q : Unit → Shared → Prop} (hot : HotAt A x1 s.heap) (ht : IsTup s.heap t items) (hn : (assignEach elts env).length = items.size) (hs : (assignEach elts env).findIdx? (·.1) = none)
    (h : ∀ h', Heap.ExtBut s.heap.objs.size s.heap h' → wpAny (model prog w) A (assignInOrder ((assignEach elts env).map (·.2)) items.toList) Q E { s with heap := h' }) : wpAny (model prog w) A (assign (.Tuple elts kk pos) env (.ref t)) Q E s := by
  have nt : t ≠ s.heap.objs.size := let ⟨_, g, _⟩ := ht; Nat.ne_of_lt (Heap.lt_size g)
  have n1 : x1 ≠ s.heap.objs.size := let ⟨_, _, _, g, _⟩ := hot; Nat.ne_of_lt (Heap.lt_size g)
  rw [assign_Tuple]; unfold unpack; rw [hn, hs]
  refine wpAny_bind (wpAny_standAt (wpAny_bind (wpAny_holding ?_)))
  unfold unpackItems notIterableAtAll
  refine wpAny_bind (wpAny_bind (wpAny_specialOf ht.typeIs slot_tuple_iter.lookup (wpAny_pure ?_))); simp only [Bool.false_eq_true, if_false]
  refine wpAny_bind (wpAny_holding (iter_tuple ht (wpAny_bind (wpAny_holding (draw_tuple nt items.size 0 _ _ ⟨_, Heap.get?_push_size _ rfl, rfl, rfl⟩ (ht.push _) (by omega) fun g1 i1 s1 => ?_)))))
  rw [show List.take items.size (List.drop 0 items.toList) = items.toList from (List.take_of_length_le (by simp)).trans List.drop_zero, if_neg (by simp)]
  refine wpAny_bind (wpAny_holding (tuple_over (hot_at hot rfl fun o e => s1.extBut _ _ n1 (Heap.get?_push_of_some _ e)) n1 i1 ((ht.push _).extBut s1.extBut nt) (by simp) fun g2 e2 => ?_))
  simp only [Option.isSome_none, Bool.false_eq_true, if_false]
  exact wpAny_pure (h g2 fun b o nb q => e2 b o nb (s1.extBut b o nb (Heap.get?_push_of_some _ q)))
/-- a zip whose first list is at its end -/
theorem zip_over {z TI TO i1 i2 l1 l2 : Addr} {k1 : Nat} {xs : Array Value} {Q : Option Value → Shared → Prop} (hot : HotAt A x1 s.heap) (n1 : x1 ≠ z) (n2 : x1 ≠ i1) (D : ZipApart z TI TO i1 i2 l1 l2) (hz : IsZip s.heap z TI TO .none) (hTI : IsPair s.heap TI (.ref i1) (.ref i2))
    (h1 : s.heap.IsListIter i1 l1 k1) (hl1 : s.heap.IsList l1 xs) (hx : xs[k1]? = none) (hQ : ∀ h', (∀ c o, c ≠ z → c ≠ i1 → s.heap.get? c = some o → h'.get? c = some o) → Q none { s with heap := h' }) : wpAny (model prog w) A (pyNext (.ref z)) Q E s := by
  have ty : s.TypeIs (.ref z) "zip" := ⟨_, hz, rfl⟩
  unfold pyNext
  refine wpAny_bind (wpAny_attempt (wpAny_callSpecial?_slot (name := Str.ofString "__next__") ty F.slot_zip_next (wpAny_call_entry F.slot_zip_next ty F.entry_zip_next ?_ (F.args_zip_next_1 _))))
  show wpAny _ A.in1 (field (.ref z) 2 >>= _) _ _ s; refine wpAny_bind (wpAny_field hz rfl (x := .bool false) rfl ?_); show wpAny _ A.in1 (field (.ref z) 3 >>= _) _ _ s
  refine wpAny_bind (wpAny_field hz rfl (x := .ref TI) rfl (wpAny_bind (wpAny_seqItems hTI rfl ?_))); show wpAny _ A.in1 (Builtin.SmallTypes.ownedTupleIsFree (.ref z) >>= _) _ _ s
  unfold Builtin.SmallTypes.ownedTupleIsFree
  refine wpAny_bind (wpAny_bind (wpAny_field hz rfl (x := .none) rfl (wpAny_pure ?_))); simp only [if_true]
  refine wpAny_bind (wpAny_rule (wpAny_bind (wpAny_field hz rfl (x := .ref TO) rfl (wpAny_bind (wpAny_setField_rec hz (by simp) fun g1 z1 s1 => ?_)))))
  have z1 : IsZip g1 z TI TO .ellipsis := z1
  refine wpAny_bind ?_; simp only [List.zipIdx_cons, List.zipIdx_nil, List.forIn_cons, List.forIn_nil]
  refine wpAny_bind (wpAny_bind (wpAny_onRaise ?_)); show wpAny _ A.in1 (Builtin.SmallTypes.nextOf (.ref i1) >>= _) _ _ _
  refine wpAny_bind (list_over (hot_at (A := A) (A' := A.in1) hot rfl fun o e => s1.extBut _ _ n1 e) n2 (h1.extBut s1.extBut D.i1z) (hl1.extBut s1.extBut D.l1z) hx fun g2 e s2 he => ?_)
  obtain ⟨oe, q1, q2⟩ := he
  have z2 : IsZip g2 z TI TO .ellipsis := s2 _ _ D.i1z.symm z1
  have ez : e ≠ z := fun y => by subst y; rw [z2] at q1; cases q1; simp at q2
  refine wpAny_setField_rec z2 (by simp) fun g3 _ s3 => wpAny_bind (wpAny_isInstance (T := "StopIteration") (b := true) ⟨oe, s3.extBut _ _ ez q1, q2⟩ isSubtype_stop (wpAny_pure (hQ g3 fun c o c1 c2 y => s3.extBut _ _ c1 (s2 _ _ c2 (s1.extBut _ _ c1 y)))))
end
end Dt

set_option Elab.async false
set_option linter.all false
set_option maxRecDepth 100000
set_option maxHeartbeats 400000
/-! A list comprehension over a zip while an exception is handled; the exception is known to the abstract heap. -/
namespace Dt
open PySem PySem.Spec PyProof.Rows HotX L2
abbrev St := L2.St
/-- the exception at a: of the class cls, its own dict at d, raised where nothing was handled -/
def ExcN (a : Addr) (cls : Value) (d : Option Addr) : HO := .ext fun h => ∃ (o : Obj) (vs : Array Value), h.get? a = some o ∧ o.cls = cls ∧ o.dict = d ∧ o.data = .fields vs ∧ vs[2]? = some .none
/-- the exception that is handled is known -/
structure HxA (A : Around) (H : Hp) : Prop where
  ex : ∃ (a : Addr) (cls : Value) (d : Option Addr), A.handled = some (.ref a) ∧ H a = some (ExcN a cls d)
abbrev Hx (X : Cx) (H : Hp) : Prop := HxA X.A H
theorem HxA.same {A : Around} {H H' : Hp} (h : HxA A H) (e : Same H H') : HxA A H' :=
  let ⟨a, c, d, h1, h2⟩ := h.ex
  ⟨a, c, d, h1, e a _ h2⟩
section
variable {X : Cx} {pins : List (Addr × Obj)} {σ : St} {H : Hp} {s : Shared}
theorem hx_at (I : Inv X pins σ H s) (h : Hx X H) : ∃ x1, HotAt X.A x1 s.heap ∧ H x1 ≠ none := by
  obtain ⟨a, c, d, h1, h2⟩ := h.ex
  obtain ⟨⟨o, vs, q1, q2, q3, q4, q5⟩, _, _⟩ := I.hok a _ h2
  exact ⟨a, ⟨h1, o, vs, q1, q4, q5⟩, fun z => by rw [h2] at z; cases z⟩
/-- an iterator's turns there -/
structure TurnK (P : Program) (w : World) (K : PySem.W.Frag) (tg : Expr) (J : It) (fp : List Addr) (it : Addr) (tn : Nat → Heap → Prop) : Prop where
  here : it ∈ fp
  objs : ∀ i h, tn i h → ∀ b ∈ fp, ∃ o, h.get? b = some o ∧ ∀ v, o.data ≠ .cell v
  stay : ∀ i h h', tn i h → (∀ b ∈ fp, ∀ o, h.get? b = some o → h'.get? b = some o) → tn i h'
  next : ∀ (Y : Cx), Y.prog = P → Y.w = w → Y.K = K → ∀ (i : Nat) (ps : List (Addr × Obj)) (z : Shared) (τ : St) (M : Hp) (E : Value → Shared → Prop), Inv Y ps τ M z → Hx Y M → (∀ b ∈ fp, FpOk Y ps M b) → tn i z.heap → J.go i M →
    wpAny (model P w) Y.A (pyNext (.ref it)) (fun r z1 => ∃ u, r = some u ∧ wpAny (model P w) Y.A (letOwnedTupleGo tg (.ref it) u) (fun _ z2 => ∃ x M', Inv Y ps τ M' z2 ∧ RelV x u ∧ J.yld i M x M' ∧ tn (i + 1) z2.heap ∧ ∀ b ∈ fp, M' b = none) E z1) E z
  over : ∀ (Y : Cx), Y.prog = P → Y.w = w → Y.K = K → ∀ (i : Nat) (ps : List (Addr × Obj)) (z : Shared) (τ : St) (M : Hp) (E : Value → Shared → Prop), Inv Y ps τ M z → Hx Y M → (∀ b ∈ fp, FpOk Y ps M b) → tn i z.heap → J.stop i M →
    wpAny (model P w) Y.A (pyNext (.ref it)) (fun r z1 => r = none ∧ Inv Y ps τ M z1) E z
  iself : ∀ (A : Around) (i : Nat) (z : Shared) (Q : Value → Shared → Prop) (E : Value → Shared → Prop), tn i z.heap → Q (.ref it) z → wpAny (model P w) A (pyIter (.ref it)) Q E z
/-- zip of two lists, the first one not the longer -/
def ItK (K : PySem.W.Frag) (a b : Addr) : It := { Itz K a b with stop := fun i M => ∃ xs : List V, SqL K M a xs ∧ xs.length ≤ i }
theorem zipK {P : Program} {w : World} {K : PySem.W.Frag} {elts : List Expr} {kk : Nat} {tpos : Pos} {a b z TI TO i1 i2 : Addr} (D : ZipApart z TI TO i1 i2 a b) :
    TurnK P w K (.Tuple elts kk tpos) (ItK K a b) [z, TI, TO, i1, i2] z (fun i h => IsZip h z TI TO .none ∧ IsPair h TI (.ref i1) (.ref i2) ∧ (∃ x y, IsPair h TO x y) ∧ h.IsListIter i1 a i ∧ h.IsListIter i2 b i) := by
  have five : ∀ {c : Addr}, c ∈ [z, TI, TO, i1, i2] → c = z ∨ c = TI ∨ c = TO ∨ c = i1 ∨ c = i2 := fun h => by simpa using h
  refine ⟨by simp, fun i h ⟨q1, q2, ⟨x, y, q3⟩, ⟨o1, e1, _, d1⟩, o2, e2, _, d2⟩ c hc => ?_, fun i h h' ⟨q1, q2, ⟨x, y, q3⟩, q4, q5⟩ k => ⟨k z (by simp) _ q1, k TI (by simp) _ q2, ⟨x, y, k TO (by simp) _ q3⟩, q4.at fun o q => k i1 (by simp) o q, q5.at fun o q => k i2 (by simp) o q⟩, ?_, ?_, fun A i s Q E st h => wpAny_pyIter_zip st.1 h⟩
  · rcases five hc with e | e | e | e | e <;> rw [e]
    · exact ⟨_, q1, fun v q => nomatch q⟩
    · exact ⟨_, q2, fun v q => nomatch q⟩
    · exact ⟨_, q3, fun v q => nomatch q⟩
    · exact ⟨o1, e1, fun v q => by rw [d1] at q; cases q⟩
    · exact ⟨o2, e2, fun v q => by rw [d2] at q; cases q⟩
  · intro Y eP ew eK i ps s1 τ M E J hx hf ⟨q1, q2, ⟨x0, y0, q3⟩, q4, q5⟩ go
    subst eP ew eK
    obtain ⟨xs, ys, x, y, lx, ly, gx, gy⟩ := go
    obtain ⟨us, ru, pu, _⟩ := J.list lx
    obtain ⟨vs, rv, pv, _⟩ := J.list ly
    obtain ⟨u, gu, ru'⟩ := ru.get gx
    obtain ⟨v, gv, rv'⟩ := rv.get gy
    have zl : z < s1.heap.objs.size := Heap.lt_size q1
    refine wpAny_pyNext_zip_item D q1 q2 q3 q4 q5 pu.isList pv.isList (x := u) (y := v) (by simpa using gu) (by simpa using gv) fun h1 r1 r2 r3 r4 r5 _ r7 => ⟨_, rfl, wpAny_letOwnedTupleGo_zip (s := { s1 with heap := h1 }) r1 fun h2 t1 sb => ?_⟩
    have T2 : h2.get? s1.heap.objs.size = some { cls := .type "tuple", data := .seq #[u, v] } := (sb.2 _ (Nat.ne_of_gt zl)).trans r5
    have ok : ObjOk Y.prog Y.w (upd M s1.heap.objs.size (.tup [x, y])) h2 s1.heap.objs.size (.tup [x, y]) := ⟨by show 2 ≤ sizeLine; decide, [u, v], .cons ru' (.cons rv' .nil), ⟨_, T2, rfl, _, rfl⟩⟩
    have J1 := J.turnedNew (t' := s1.toks) (ch := [z, TI, TO, i1, i2]) (h' := h2) (fun c o hb q => (sb.2 c (fun e => hb (by simp [e]))).trans (r7 c o (fun e => hb (by simp [e])) (fun e => hb (by simp [e])) (fun e => hb (by simp [e])) (fun e => hb (by simp [e])) q)) hf (Nat.le_refl _) ok
    refine ⟨.ref s1.heap.objs.size, _, J1, rfl, ⟨_, x, y, rfl, J.hok.fresh (Nat.le_refl _), rfl, fun l hl => by rw [J.list_inj hl lx]; exact gx, fun l hl => by rw [J.list_inj hl ly]; exact gy⟩, ⟨t1, (sb.2 _ D.TIz).trans (r7 _ _ D.TIz D.TITO D.TIi1 D.TIi2 q2), ⟨u, v, (sb.2 _ D.TOz).trans r2⟩, r3.at fun o q => (sb.2 _ D.i1z).trans q, r4.at fun o q => (sb.2 _ D.i2z).trans q⟩, fun c hc => ?_⟩
    have lt : c < s1.heap.objs.size := by
      rcases five hc with e | e | e | e | e <;> rw [e]
      · exact zl
      · exact Heap.lt_size q2
      · exact Heap.lt_size q3
      · exact let ⟨_, e1, _⟩ := q4; Heap.lt_size e1
      · exact let ⟨_, e2, _⟩ := q5; Heap.lt_size e2
    rw [upd_ne (Nat.ne_of_lt lt)]; exact (hf c hc).1
  · intro Y eP ew eK i ps s1 τ M E J hx hf ⟨q1, q2, ⟨x0, y0, q3⟩, q4, q5⟩ ⟨xs, lx, hl⟩
    subst eP ew eK
    obtain ⟨us, ru, pu, _⟩ := J.list lx
    have l1 := ru.length
    obtain ⟨x1, hot, live⟩ := hx_at J hx
    have ne : ∀ c ∈ [z, TI, TO, i1, i2], x1 ≠ c := fun c hc e => live (by rw [e]; exact (hf c hc).1)
    exact zip_over hot (ne z (by simp)) (ne i1 (by simp)) D q1 q2 q4 pu.isList (by simp; omega) fun h' hk => ⟨rfl, J.turnedL (t' := s1.toks) (ch := [z, TI, TO, i1, i2]) (fun c o hb q => hk c o (fun e => hb (by simp [e])) (fun e => hb (by simp [e])) q) hf⟩
/-- an iterator has come -/
structure PIK (X : Cx) (tg iter : Expr) (wi : TI) : Prop where
  run : ∀ (ps : List (Addr × Obj)) (z : Shared) (τ : St) (M : Hp) (R : It → Hp → Prop), Inv X ps τ M z → wi τ M R →
    wpAny (model X.prog X.w) X.A (eval iter X.env) (fun v z1 => wpAny (model X.prog X.w) X.A (pyIter v) (fun itv z2 => ∃ (it : Addr) (fp : List Addr) (tn : Nat → Heap → Prop) (J : It) (M' : Hp), itv = .ref it ∧ Inv X ps τ M' z2 ∧ TurnK X.prog X.w X.K tg J fp it tn ∧ tn 0 z2.heap ∧ (∀ b ∈ fp, FpOk X ps M' b) ∧ R J M') X.xe z1) X.xe z
def iZipK (K : PySem.W.Frag) (ta : TA) : TI := fun σ H R => ta σ H fun vs H1 => ∃ a b xs ys, vs = [.ref a, .ref b] ∧ SqL K H1 a xs ∧ SqL K H1 b ys ∧ R (ItK K a b) H1
theorem pik_zip {e e2 : Expr} {ta : TA} {p pos tpos : Pos} {elts : List Expr} {kk : Nat} (hg : Gl X "zip") (hm : X.mg "zip" = none) (ha : PA X [e, e2] ta) (hs : starEach [e, e2] X.env = (false, eval e X.env) :: starEach [e2] X.env := by rfl)
    (hpl : (backTo pos (starEach [e2] X.env)).any (·.1) = false := by rfl) : PIK X (.Tuple elts kk tpos) (.Call (.Name "zip" p) [e, e2] [] pos) (iZipK X.K ta) := by
  refine ⟨fun ps z τ M R I h => ?_⟩
  refine Call_ (ld_blt I hg hm PyProof.Rows.boot_zip (PyProof.Rows.callWith_type1 (thn (ha.run pos ps z τ M _ I h) fun us s1 hh => ?_) hs hpl))
  obtain ⟨vs, H1, I1, r1, a, b, xs, ys, ev, lx, ly, q⟩ := hh
  subst ev
  obtain ⟨us1, ru, pu, _⟩ := I1.list lx
  obtain ⟨us2, rv, pv, _⟩ := I1.list ly
  cases r1 with | cons ra r2 => cases r2 with | cons rb r3 =>
    cases r3; cases ra; cases rb
    refine call_zip_2 pu.isList pv.isList fun h' z1 z2 z3 z4 z5 _ hk => wpAny_pyIter_zip z1 ⟨s1.heap.objs.size + 4, [s1.heap.objs.size + 4, s1.heap.objs.size + 2, s1.heap.objs.size + 3, s1.heap.objs.size, s1.heap.objs.size + 1], _, _, H1, rfl, I1.kept (t' := s1.toks) hk, zipK (PySem.W.ktu_apart s1.heap.objs.size a b pu.lt pv.lt), ⟨z1, z2, ⟨_, _, z3⟩, z4, z5⟩, fun c hc => ?_, q⟩
    have le : s1.heap.objs.size ≤ c := by
      simp only [List.mem_cons, List.not_mem_nil, or_false] at hc
      rcases hc with e | e | e | e | e <;> rw [e] <;> first | exact Nat.le_add_right _ _ | exact Nat.le_refl _
    exact I1.fpOk le (I1.hok.fresh le)
/-- (a, b, ..) = a tuple -/
def gTupK (A : Around) (K : PySem.W.Frag) (n : Nat) (t : TGs) : TG := fun v σ H Q => HxA A H ∧ ∃ a xs, v = .ref a ∧ SqT K H a xs ∧ xs.length = n ∧ t xs σ H Q
theorem pgk_tup {es : List Expr} {k : Nat} {t : TGs} {n : Nat} {pos : Pos} (h : PGs X es t) (hn : (assignEach es X.env).length = n := by rfl) (hst : (assignEach es X.env).findIdx? (·.1) = none := by rfl) : PG X (.Tuple es k pos) (gTupK X.A X.K n t) := by
  refine ⟨fun ps s τ M v u Q I r ⟨hx, a, xs, ev, lt, hl, w⟩ => ?_⟩
  subst ev
  obtain rfl : u = Value.ref a := r
  obtain ⟨us, ru, pu, _⟩ := I.tuple lt
  obtain ⟨x1, hot, _⟩ := hx_at I hx
  refine unpack_hot hot pu (by simp [hn, ← hl, ru.length]) hst fun h' hk => h.run ps _ τ M xs _ Q (I.kept (t' := s.toks) fun b o e => hk b o (Nat.ne_of_lt (Heap.lt_size e)) e) (by simpa using ru) w
end
end Dt

set_option Elab.async false
set_option linter.all false
set_option maxRecDepth 100000
set_option maxHeartbeats 800000
/-! [elt for target in iter if ..] while an exception is handled. -/
namespace Dt
open PySem PySem.Spec PyProof.Rows HotX L2
def tLcK (X : Cx) (wi : TI) (g : TG) (tt : TT) (te : TE) (vs : List Nat) : TE := fun σ H Q => wi σ H fun J H1 => ∀ D, H1 D = none → ∃ W : Nat → Nat → Hp → Prop, (∃ m, W 0 m (upd H1 D (.lst []))) ∧ ∀ i m M, W i m M → Hx X M ∧
  ((J.stop i M ∧ Q (.ref D) M) ∨ (J.go i M ∧ ∃ Nx : Hp → Prop, (∀ M', Nx M' → ∃ m', m' < m ∧ W (i + 1) m' M') ∧ ∀ x M', J.yld i M x M' → g x (wipe σ vs) M' fun τ M2 => wipe τ vs = wipe σ vs ∧ tt τ M2 fun b M3 =>
    if b = true then te τ M3 fun y M4 => ∃ acc, M4 D = some (.lst acc) ∧ acc.length < sizeLine ∧ Nx (upd M4 D (.lst (acc ++ [y]))) else Nx M3))
theorem pek_lc {X : Cx} {elt tg iter : Expr} {ifs : List Expr} {scope : Scope} {own : List (Str × Nat)} {pos : Pos} {wi : TI} {g : TG} {tt : TT} {te : TE} (nd : X.N.Nodup) (hi : PIK X tg iter wi) (ok : BlkOk X.N X.env.scope scope own)
    (hg : ∀ (s : Shared) (H : Hp) (C : Addr) (cl : List (Str × Addr)) (fp : List Addr), PG (X.blk s H scope (compEnvC scope cl C X.env) fp) tg g)
    (ht : ∀ (s : Shared) (H : Hp) (C : Addr) (cl : List (Str × Addr)) (fp : List Addr), PTs (X.blk s H scope (compEnvC scope cl C X.env) fp) ifs tt)
    (he : ∀ (s : Shared) (H : Hp) (C : Addr) (cl : List (Str × Addr)) (fp : List Addr), PE (X.blk s H scope (compEnvC scope cl C X.env) fp) elt te)
    (hs : ∀ x, foldedSetIterable iter X.env x = pure x := by intro _; rfl) : PE X (.ListComp elt [⟨tg, iter, ifs, 0⟩] scope pos) (tLcK X wi g tt te (own.map (·.2))) := by
  refine ⟨fun ps s0 σ M0 Q I h => ?_⟩
  rw [eval_ListComp]
  have fr : ∀ y ∈ scope.names, y.2 = .free → ∃ c, X.env.cells.lookup y.1 = some c := fun y hy e => (ok.free y hy e).elim (fun k => I.ok.has _ (.inl k)) fun k => I.ok.has _ (.inr k)
  refine wpAny_comprehension_free (use := none) rfl hs (closure_ok fr) ok.kind (fun y hy e => by rw [ok.uniq y hy, e]) (thn (hi.run ps s0 σ M0 _ I h) fun xv s1 hx => thn hx fun itv s2 h2 => ?_)
  obtain ⟨it, fp, tn, J, M2, rfl, I2, T, st2, f2, q⟩ := h2
  refine wpAny_newObj_type (newEnv_comp ?_) (by show 0 ≤ sizeLine; decide)
  generalize eD : s2.heap.objs.size = D
  obtain ⟨W, ⟨m0, w0⟩, turn⟩ := q D (I2.hok.fresh (Nat.le_of_eq eD))
  -- the list that grows
  generalize e3 : ({ s2 with heap := s2.heap.push { cls := .type "list", data := .seq ([] : List Value).toArray } } : Shared) = s3
  have g3 : s3.heap = s2.heap.push { cls := .type "list", data := .seq ([] : List Value).toArray } := by rw [← e3]
  have I3 : Inv X ps σ (upd M2 D (.lst [])) s3 := by
    rw [← e3]
    exact I2.laid (t' := s2.toks) (fun b o e => Heap.get?_push_of_some _ e) (Nat.le_of_eq eD) ⟨Nat.zero_le _, [], 0, .nil, by rw [← eD]; exact Heap.get?_push_size _ rfl⟩
  have small : ∀ b ∈ fp, b < s2.heap.objs.size := fun b hb => let ⟨o, e, _⟩ := T.objs _ _ st2 b hb; Heap.lt_size e
  have f3 : ∀ b ∈ fp, FpOk X ps (upd M2 D (.lst [])) b ∧ b < s3.heap.objs.size := fun b hb => ⟨⟨by rw [upd_ne (by rw [← eD]; exact Nat.ne_of_lt (small b hb))]; exact (f2 b hb).1, (f2 b hb).2⟩, by rw [g3, Heap.size_push]; exact Nat.lt_succ_of_lt (small b hb)⟩
  have st3 : tn 0 s3.heap := T.stay _ _ _ st2 fun b _ o e => by rw [g3]; exact Heap.get?_push_of_some _ e
  have I4 := block_start I3 ok nd f3
  have pg := hg s3 (upd M2 D (.lst [])) s3.heap.objs.size (cellsFrom (s3.heap.objs.size + 1) scope.names (cloFrom X.env.cells scope.names [])) fp
  have pt := ht s3 (upd M2 D (.lst [])) s3.heap.objs.size (cellsFrom (s3.heap.objs.size + 1) scope.names (cloFrom X.env.cells scope.names [])) fp
  have pe := he s3 (upd M2 D (.lst [])) s3.heap.objs.size (cellsFrom (s3.heap.objs.size + 1) scope.names (cloFrom X.env.cells scope.names [])) fp
  show codeAny _ X.A (.compStart (.ListComp elt [⟨tg, iter, ifs, 0⟩] scope pos) 0 (.ref it) (.ref D) (compEnvC scope (cellsFrom (s3.heap.objs.size + 1) scope.names (cloFrom X.env.cells scope.names [])) s3.heap.objs.size X.env)) (compPost _ X.A X.xe none _ (.ref D) s3.heap.objs.size) { s3 with heap := pushCells (s3.heap.push { cls := .type "dict", data := .dict #[] }) scope.names }
  have nfp : ∀ b ∈ fp, (upd M2 D (.lst [])) b = none := fun b hb => (f3 b hb).1.1
  generalize ece : compEnvC scope (cellsFrom (s3.heap.objs.size + 1) scope.names (cloFrom X.env.cells scope.names [])) s3.heap.objs.size X.env = ce at I4 pg pt pe ⊢
  have cL : ce.locals = s3.heap.objs.size := by subst ece; rfl
  generalize eM3 : upd M2 D (.lst []) = M3 at I3 I4 pg pt pe w0 nfp f3
  generalize e4 : ({ s3 with heap := pushCells (s3.heap.push { cls := .type "dict", data := .dict #[] }) scope.names } : Shared) = s4 at I4 ⊢
  have st4 : tn 0 s4.heap := T.stay _ _ _ st3 fun b _ o e => by rw [← e4]; exact pushCells_keeps _ _ _ _ (Heap.get?_push_of_some _ e)
  -- the iterator's objects within the block
  have inn : ∀ {τ : St} {M' : Hp} {z : Shared}, Inv (X.blk s3 M3 scope ce fp) [] τ M' z → (∀ b ∈ fp, M' b = none) → ∀ b ∈ fp, FpOk (X.blk s3 M3 scope ce fp) [] M' b := fun J hn b hb =>
    ⟨hn b hb, (J.ok.exf b hb).1, J.ok.exfs b hb, .inl hb, fun x c e => (J.ok.exf b hb).2 x c e, fun p hp => absurd (show p ∈ ([] : List (Addr × Obj)) ++ [] from hp) (by simp)⟩
  refine codeAny_compStart_list ?loop (T.iself X.A 0 _ _ _ st4 ?loop)
  refine compLoop_any (fun n z => ∃ i M', Inv (X.blk s3 M3 scope ce fp) [] (wipe σ (own.map (·.2))) M' z ∧ tn i z.heap ∧ (∀ b ∈ fp, M' b = none) ∧ W i n M') (fun n s5 ⟨i, M5, I5, st5, n5, w5⟩ => ?_) m0 ⟨0, M3, I4, st4, nfp, w0⟩
  obtain ⟨hx5, alt⟩ := turn i n M5 w5
  rcases alt with ⟨stop, qq⟩ | ⟨go, Nx, hNx, step⟩
  · refine thnF (T.over (X.blk s3 M3 scope ce fp) rfl rfl rfl i [] s5 _ M5 (fun _ _ => False) I5 ⟨hx5.ex⟩ (inn I5 n5) st5 stop) fun r s6 ⟨er, I6⟩ => ?_
    subst er
    have I7 : Inv X ps σ M5 s6 := I3.call' (ch := fp) I6.os I6.base I6.hok I6.bare fun b hb => ⟨(f3 b hb).1.2.2.2.1, (f3 b hb).1.2.1, (f3 b hb).1.2.2.2.2.1, (f3 b hb).1.2.2.2.2.2⟩
    have fC : M5 s3.heap.objs.size = none := cL ▸ (show M5 ce.locals = none from I6.free)
    obtain ⟨m, ns, _⟩ := I6.loc
    refine ⟨m, cL ▸ (show s6.heap.Ns ce.locals m from ns), fun h'' sb => ?_⟩
    obtain ⟨p0, p1, p2, p3, p4, p5⟩ := I3.fpOk (Nat.le_refl _) fC
    exact ⟨.ref D, M5, I7.turned (t' := s6.toks) (fun b o hb e => (sb.2 b hb).trans e) p0 p1 p3 p4 p5, rfl, qq⟩
  · refine thnF (T.next (X.blk s3 M3 scope ce fp) rfl rfl rfl i [] s5 _ M5 (fun _ _ => False) I5 ⟨hx5.ex⟩ (inn I5 n5) st5 go) fun r s6 ⟨u, er, h6⟩ => ?_
    subst er
    refine thnF h6 fun _ s7 ⟨x, M7, I7, r7, y7, st7, n7⟩ => ?_
    refine thnF (pg.run _ s7 _ M7 x u _ (I7.pinned (inn I7 n7) (T.objs _ _ st7)) r7 (step x M7 y7)) fun _ s8 ⟨τ, M8, I8, hw, q8⟩ => thnF (pt.run _ s8 τ M8 _ I8 q8) fun b s9 ⟨M9, I9, q9⟩ => ?_
    have back : ∀ {z : Shared} {M' : Hp}, Inv (X.blk s3 M3 scope ce fp) ([] ++ pinsAt fp s7.heap) τ M' z → Nx M' → ∃ m, m < n ∧ ∃ i M', Inv (X.blk s3 M3 scope ce fp) [] (wipe σ (own.map (·.2))) M' z ∧ tn i z.heap ∧ (∀ b ∈ fp, M' b = none) ∧ W i m M' := fun {z M'} J nx => by
      obtain ⟨m', lt, w'⟩ := hNx M' nx
      have pin : ∀ b ∈ fp, ∀ o, s7.heap.get? b = some o → z.heap.get? b = some o ∧ M' b = none := fun b hb o e => let t := J.pin (b, o) (List.mem_append_right _ (List.mem_append_right _ (mem_pinsAt hb e))); ⟨t.1, t.2.1⟩
      refine ⟨m', lt, i + 1, M', (J.unpinned (pins := [])).weak (by rw [← hw, wipe_length]) (fun j v e => (wipe_some (hw ▸ e)).1), T.stay _ _ _ st7 fun b hb o e => (pin b hb o e).1, fun b hb => ?_, w'⟩
      obtain ⟨o, e, _⟩ := T.objs _ _ st7 b hb
      exact (pin b hb o e).2
    cases b with
    | false => exact back I9 q9
    | true => exact thnF (pe.run _ s9 τ M9 _ I9 q9) fun y s10 ⟨yv, M10, I10, r10, acc, hD, hl, nx⟩ => app_ok (X := X.blk s3 M3 scope ce fp) I10 hD hl r10 fun s11 I11 => back I11 nx
end Dt

set_option Elab.async false
set_option linter.all false
set_option maxRecDepth 100000
set_option maxHeartbeats 800000
/-! try: body, except A as e: .., except B as e: .., the caught exception known to the abstract heap. -/
namespace Dt
open PySem PySem.Spec PyProof.Rows HotX L2
/-- behind a suite its name is gone -/
def noName (i : Nat) (D : Ends) : Ends := ⟨fun τ M => D.nx (τ.set i none) M, D.rt, fun τ M => D.bk (τ.set i none) M, fun τ M => D.ct (τ.set i none) M⟩
def wNamed (K : PySem.W.Frag) (Wout : WX) (D : Ends) : List (Value × Nat × (Addr → Value → Option Addr → TS)) → WX
  | [] => Wout
  | (c, i, ts) :: r => fun cls d σ H => ∃ b, PySem.W.exmOne K cls c = some b ∧ (b = true → ∀ a, H a = none → ts a cls d (noName i D) (σ.set i (some (.ref a))) (upd H a (ExcN a cls d))) ∧ (b = false → wNamed K Wout D r cls d σ H)
inductive HdsN (X : Cx) : List ExceptHandler → List (Value × Nat × (Addr → Value → Option Addr → TS)) → Prop
  | nil : HdsN X [] []
  | cons {x n : Str} {c : Value} {i : Nat} {ts : Addr → Value → Option Addr → TS} {b₀ : Stmt} {su : List Stmt} {p p' : Pos} {hs : List ExceptHandler} {l : List (Value × Nat × (Addr → Value → Option Addr → TS))} (hc : Names X x c) (hi : X.N[i]? = some n) (hl : X.env.kindOf n = some .local)
      (hsu : ∀ (a : Addr) (cls : Value) (d : Option Addr) (pn : List (Addr × Obj)), PSs (X.suite a pn) (b₀ :: su) (ts a cls d)) (r : HdsN X hs l) : HdsN X (.ExceptHandler (some (.Name x p)) (some n) (b₀ :: su) p' :: hs) ((c, i, ts) :: l)
theorem HOk.exc {P : Program} {w : World} {H : Hp} {h : Heap} {a : Addr} {oe : Obj} {vs : Array Value} {cls : Value} {d : Option Addr} (k : HOk P w H h) (na : H a = none) (g : h.get? a = some oe) (z : L2N.Zn cls d oe) (dv : oe.data = .fields vs) : HOk P w (upd H a (ExcN a cls d)) h := fun b o e => by
  by_cases hb : b = a
  · subst hb
    rw [upd_same] at e
    cases e
    refine ⟨⟨oe, vs, g, z.1, z.2.1, dv, z.2.2 vs dv⟩, ⟨oe, g⟩, fun h1 h2 ⟨o, us, q1, q2⟩ k => ⟨o, us, k o q1, q2⟩⟩
  · rw [upd_ne hb] at e
    have t := k b o e
    have ne : ∀ {c : Addr} {u : HO}, H c = some u → c ≠ a := fun hc y => by rw [y, na] at hc; cases hc
    have go : ∀ (u : HO), ObjOk P w H h b u → ObjOk P w (upd H a (ExcN a cls d)) h b u := fun u => by
      induction u with
      | dT kvs =>
        intro ⟨q1, q2, xs, q3, q4⟩
        refine ⟨q1, q2, xs, ?_, q4⟩
        clear q1 q4
        induction q3 with
        | nil => exact .nil
        | cons r _ ih => exact .cons ⟨r.1, by rw [upd_ne (ne r.2.1)]; exact r.2.1, r.2.2⟩ ih
      | ins C dx fs =>
        intro ⟨q1, q2⟩
        exact ⟨by rw [upd_ne (ne q1)]; exact q1, q2⟩
      | frz o u ih => exact fun ⟨q1, q2⟩ => ⟨q1, ih q2⟩
      | lst _ => exact id
      | tup _ => exact id
      | dK _ => exact id
      | set _ _ => exact id
      | own _ => exact id
      | xd _ => exact id
      | met _ _ => exact id
      | rng _ _ => exact id
      | tbl _ => exact id
      | ext _ => exact id
    exact go o t
section
variable {X : Cx} {pins : List (Addr × Obj)} {σ : L2.St} {H : Hp} {s : Shared}
theorem to_suite {a : Addr} {oe : Obj} {vs : Array Value} {cls : Value} {d : Option Addr} (I : Inv X pins σ H s) (g : s.heap.get? a = some oe) (z : L2N.Zn cls d oe) (dv : oe.data = .fields vs) (na : H a = none) (nL : a ≠ X.env.locals) (nc : ∀ x c, X.env.cells.lookup x = some c → c ≠ a) (n0 : X.s_0.heap.get? a = none) :
    Inv (X.suite a (X.pn ++ pins)) [] σ (upd H a (ExcN a cls d)) s ∨ ∃ p ∈ X.pn ++ pins, p.1 = a := by
  by_cases hp : ∃ p ∈ X.pn ++ pins, p.1 = a
  · exact .inr hp
  have ne : ∀ {b : Addr} {o : Obj}, X.s_0.heap.get? b = some o → b ≠ a := fun e y => by rw [y, n0] at e; cases e
  have n1 : ∀ {b : Addr} {u : HO}, H b = some u → b ≠ a := fun e y => by rw [y, na] at e; cases e
  refine .inl ⟨I.ok.suite _ _, I.os, I.bare, ⟨I.base.keep, I.base.slot, fun b o e n hb => by rw [upd_ne (ne e)]; exact I.base.free b o e n hb, I.base.there, fun b xs e => ?_, fun b o u e => ?_, fun b ps e => ?_⟩, I.loc, I.cell, ?_, fun x c e => ?_, fun p hq => ?_, HOk.exc I.hok na g z dv, I.len⟩
  · have t := I.base.tups b xs e
    rw [upd_ne (n1 t)]; exact t
  · have t := I.base.frzs b o u e
    rw [upd_ne (n1 t)]; exact t
  · obtain ⟨m, t⟩ := I.base.tbls b ps e
    exact ⟨m, by rw [upd_ne (n1 t)]; exact t⟩
  · show upd H a _ X.env.locals = none
    rw [upd_ne nL.symm]; exact I.free
  · rw [upd_ne (nc x c e)]; exact I.freeC x c e
  · have hq : p ∈ X.pn ++ pins := by rw [List.append_nil] at hq; exact hq
    obtain ⟨t1, t2, t3⟩ := I.pin p hq
    exact ⟨t1, by rw [upd_ne fun y => hp ⟨p, hq, y⟩]; exact t2, t3⟩
end
theorem pst_named {X : Cx} {body : List Stmt} {hd : ExceptHandler} {hds : List ExceptHandler} {l : List (Value × Nat × (Addr → Value → Option Addr → TS))} {pos : Pos} {tb : WX → TS} {Wout : WX} (hs : X.stack = X.env :: X.outer) (hf : X.env.frame = some X.env.locals) (hx : X.ex = []) (nd : X.N.Nodup) (tk : L2N.Takes X Wout)
    (hb : ∀ (W : WX) (pn : List (Addr × Obj)) (xe : Value → Shared → Prop), L2N.Takes (X.tr pn xe) W → PassesOwn (model X.prog X.w) X.A X.env xe → PSs (X.tr pn xe) body (tb W)) (hh : HdsN X (hd :: hds) l) : PS X (.Try body (hd :: hds) [] [] pos) (fun D σ H => tb (wNamed X.K Wout D l) D σ H) := by
  refine ⟨fun ps s σ M D I h => wpAny_Try_except (wpAny_mono ((hb (wNamed X.K Wout D l) (X.pn ++ ps) (fun e s₁ => wpAny (model X.prog X.w) X.A (noteFrame e X.env) (fun _ s₂ => wpAny (model X.prog X.w) X.A (setFlight e none) (fun _ s₃ => wpAny (model X.prog X.w) X.A (handleBy e X.env (hd :: hds)) (SP X ps D) X.xe s₃) X.xe s₂) X.xe s₁) (fun u s' xx => ?_) PassesOwn.looking).run [] s σ M D (I.toTry _) h) (fun f s1 hsp => ?_) fun _ _ z => z)⟩
  · have ok := I.ok
    have fr : X.A.frames = some (X.env :: X.outer) := by rw [ok.frames, hs]
    obtain ⟨a, B, sI, ps', τ, N, cls, d, rfl, J', nb, up, sky, na, os, ag, w⟩ := xx
    have J : Inv X ps τ N sI := J'.ofTry ok
    have sky' : Sky B (X.env :: X.outer) a (L2N.Zn cls d) X.env.locals s'.heap := hs ▸ sky
    refine L2N.Sky.land L2N.Zn.steady fr hf sky' fun h3 fl3 up3 => ?_
    have noB : ∀ {o : Obj}, B.get? a ≠ some o := fun e => by rw [fl3.2.1] at e; cases e
    obtain ⟨oe3, vs3, g3, z3, d3⟩ := fl3.there
    have J3 : Inv X ps τ N { s' with heap := h3 } := J.landed nb fl3.1 (up.trans up3) os ag
    have apart : ∀ {h : Heap} {o : Obj} {vs : Array Value}, h.FunFrames B (X.env :: X.outer) → h.get? a = some o → o.data = .fields vs → a ∉ frs (X.env :: X.outer) := fun ff e dd hm => by
      obtain ⟨_, o', e', n'⟩ := ff.mem hm
      exact n' _ ((congrArg Obj.data (Option.some.inj (e'.symm.trans e))).trans dd)
    have nfr := apart fl3.2.2.1 g3 d3
    have nL : a ≠ X.env.locals := fun y => nfr (List.mem_filterMap.mpr ⟨X.env, List.mem_cons_self, by rw [hf, y]⟩)
    have nI : ∀ {o : Obj}, sI.heap.get? a ≠ some o := fun e => noB (nb a _ e (by rw [hs]; exact nfr))
    have n0 : X.s_0.heap.get? a = none := by
      cases q : X.s_0.heap.get? a with
      | none => rfl
      | some o =>
        obtain ⟨o', t⟩ := J.base.there a o q (by rw [hx]; simp)
        exact absurd t nI
    have nc : ∀ x c, X.env.cells.lookup x = some c → c ≠ a := fun x c e y => by
      obtain ⟨v, o, t, _⟩ := J.cell x c e
      rw [y] at t; exact nI t
    have npin : ¬ ∃ p ∈ X.pn ++ ps, p.1 = a := fun ⟨p, hp, y⟩ => nI (y ▸ (J.pin p hp).1)
    have walk : ∀ {hs' : List ExceptHandler} {l' : List (Value × Nat × (Addr → Value → Option Addr → TS))}, HdsN X hs' l' → wNamed X.K Wout D l' cls d τ N → wpAny (model X.prog X.w) X.A (handleBy (.ref a) X.env hs') (SP X ps D) X.xe { s' with heap := h3 } := by
      intro hs' l' hk
      induction hk with
      | nil =>
        intro w
        obtain ⟨_, _, _, oe, vs, T, oT, ts', he, hz, hd', h1, hr⟩ := id fl3
        refine wpAny_handleBy_nil ?_; unfold PySem.passOn
        refine wpAny_bind (wpAny_field he hd' h1 ?_); rw [if_neg (show ¬ ((Value.ref T == Value.none) = true) from by simp)]
        have out : wpAny (model X.prog X.w) X.A (setFlight (.ref a) X.env.frame) (fun _ s4 => wpAny (model X.prog X.w) X.A (throw (.ref a) : Sem Flow) (SP X ps D) X.xe s4) X.xe { s' with heap := h3 } := by
          rw [hf]
          exact HandSPX.setFlight_upZ fl3 fun h4 hh4 up4 => wpAny_throw (tk _ _ ⟨a, B, sI, ps, τ, N, cls, d, rfl, J, nb, (up.trans up3).trans up4, .inr (.inr (hs ▸ hh4)), na, os, ag, w⟩)
        first | exact wpAny_bind (wpAny_pure (wpAny_bind out)) | exact wpAny_bind out
      | @cons x n c i ts b₀ su p p' hs2 l2 hc hi hl hsu r ih =>
        intro w
        obtain ⟨b, e1, yes, no⟩ := w
        refine wpAny_handleBy_cons (codeAny_handlers_test ?_) (by intro q; cases q)
        have S3 : Inv (X.suite a (X.pn ++ ps)) [] τ (upd N a (ExcN a cls d)) { s' with heap := h3 } := (to_suite J3 g3 z3 d3 na nL nc n0).resolve_right npin
        have LT : PySem.W.Looks (model X.prog X.w) h3 (typeOf (.ref a)) cls := fun A Q E s k q => wpAny_typeOf_ref (k _ _ g3) (by rw [z3.1]; exact q)
        have LM := PySem.W.exm_one (M := model X.prog X.w) (J3.kIn) LT e1
        have ld : ∀ {Q E : Value → Shared → Prop}, Q c { s' with heap := h3 } → wpAny (model X.prog X.w) (X.A.mark (some (.ref a))) (eval (.Name x p) X.env) Q E { s' with heap := h3 } := fun q => by
          obtain ⟨t1, t2, t3 | ⟨t3, t4, t5⟩⟩ := hc
          · exact ld_glob (X := X.suite a (X.pn ++ ps)) S3 t1 t3 q t2
          · exact ld_blt (X := X.suite a (X.pn ++ ps)) S3 t1 t3 t4 q t5 t2
        refine ld (LM.here ?_)
        cases b with
        | false => exact ih (no rfl)
        | true =>
          refine codeAny_handlers_suite_as (HandSPX.lands_againZ fl3 fun h4 fl4 up4 => ?_)
          obtain ⟨oe4, vs4, g4, z4, d4⟩ := fl4.there
          have J4 : Inv X ps τ N { s' with heap := h4 } := J.landed nb fl4.1 ((up.trans up3).trans up4) os ag
          have S4 := (to_suite J4 g4 z4 d4 na nL nc n0).resolve_right npin
          refine store_ok (X := X.suite a (X.pn ++ ps)) (v := .ref a) S4 nd hi (.inl hl) rfl (fun s5 S5 => ?_) (.inr hl)
          refine wpAny_mono ((hsu a cls d (X.pn ++ ps)).run [] s5 _ _ (noName i D) S5 (yes rfl a na)) (fun f s6 hsp => ?_) fun _ _ z => z.elim
          have unS : ∀ {τ6 : L2.St} {N6 : Hp}, Inv (X.suite a (X.pn ++ ps)) [] τ6 N6 s6 → Inv X ps τ6 N6 s6 := fun S => ⟨ok, S.os, S.bare, S.base, S.loc, S.cell, S.free, S.freeC, fun p hp => S.pin p (List.mem_append_left _ hp), S.hok, S.len⟩
          cases f with
          | next => obtain ⟨τ6, N6, S6, q6⟩ := hsp; exact gone_ok (unS S6) nd hi hl fun s7 J7 => ⟨_, _, J7, q6⟩
          | brk => obtain ⟨τ6, N6, S6, q6⟩ := hsp; exact gone_ok (unS S6) nd hi hl fun s7 J7 => ⟨_, _, J7, q6⟩
          | cont => obtain ⟨τ6, N6, S6, q6⟩ := hsp; exact gone_ok (unS S6) nd hi hl fun s7 J7 => ⟨_, _, J7, q6⟩
          | ret u => obtain ⟨v6, τ6, N6, S6, r6, q6⟩ := hsp; exact gone_ok (unS S6) nd hi hl fun s7 J7 => ⟨_, _, _, J7, r6, q6⟩
    exact walk hh w
  · cases f with
    | next => obtain ⟨τ, N, J, q⟩ := hsp; exact wpAny_execs_nil ⟨τ, N, J.ofTry I.ok, q⟩
    | brk => obtain ⟨τ, N, J, q⟩ := hsp; exact ⟨τ, N, J.ofTry I.ok, q⟩
    | cont => obtain ⟨τ, N, J, q⟩ := hsp; exact ⟨τ, N, J.ofTry I.ok, q⟩
    | ret u => obtain ⟨v, τ, N, J, r, q⟩ := hsp; exact ⟨v, τ, N, J.ofTry I.ok, r, q⟩
end Dt

set_option Elab.async false
set_option linter.all false
set_option maxRecDepth 100000
set_option maxHeartbeats 800000
/-! The def that tells an exception's kind, called where it is handled. -/
namespace Dt
open PySem PySem.Spec PyProof.Rows HotX L2
/-- what isinstance asks of an exception's class -/
structure XCls (K : PySem.W.Frag) (C : Addr) : Prop where
  cl : (PySem.W.clsIn K C).isSome = true
  ga : PySem.W.findIn K (.ref C) "__getattribute__" = some (some (.builtin "BaseException.__getattribute__"))
  gt : PySem.W.findIn K (.ref C) "__getattr__" = some none
  sb : PySem.W.subIn K (.ref C) (.type "BaseException") = some true
  kc : PySem.W.findIn K (.ref C) "__class__" = some (some (.builtin "object.__class__"))
  gs : PySem.W.specialIn K (.builtin "object.__class__") "__get__" = some (some (.builtin "getset_descriptor.__get__"))
  tk : PySem.W.takesIn K (.builtin "object.__class__") = some true
  mr : PySem.W.mroIn K C (.type "object") = some true
/-- the exception at a, known -/
structure KnownE (K : PySem.W.Frag) (H : Hp) (a C : Addr) (d : Option Addr) : Prop where
  at_ : H a = some (ExcN a (.ref C) d)
  dx : ∀ x, d = some x → ∃ fs, H x = some (.xd fs)
  xc : XCls K C
theorem KnownE.same {K : PySem.W.Frag} {H H' : Hp} {a C : Addr} {d : Option Addr} (k : KnownE K H a C d) (e : Same H H') : KnownE K H' a C d :=
  ⟨e _ _ k.at_, fun x hx => let ⟨fs, h⟩ := k.dx x hx; ⟨fs, e _ _ h⟩, k.xc⟩
section
variable {X : Cx}
def rIsK (K : PySem.W.Frag) : List V → Hp → VK → Prop := fun xs H Q => ∃ (a C : Addr) (d : Option Addr) (c : V) (cv : Value) (b : Bool), xs = [.ref a, c] ∧ (∀ u, RelV c u → u = cv) ∧ KnownE K H a C d ∧ PySem.W.kitOne K (.ref C) cv = some b ∧ Q (.bl b) H
theorem call_isK : CallR X (.builtin "isinstance") (rIsK X.K) := by
  intro ps s σ H xs us Q I r ⟨a, C, d, c, cv, b, ex, hc, k, e, q⟩
  subst ex
  cases r with | cons r1 r2 => cases r2 with | cons r3 r4 =>
  cases r4
  cases r1
  have ec := hc _ r3
  subst ec
  obtain ⟨⟨o, vs, g, h1, h2, h3, _⟩, _, _⟩ := I.hok a _ k.at_
  have nc : PySem.W.notCls o = true := by unfold PySem.W.notCls; rw [h3]
  have key : ∀ (od : Option Obj), PySem.W.InstAt s.heap a o C od → wpAny (model X.prog X.w) X.A (call (.builtin "isinstance") [.ref a, _]) (EP X ps σ Q) X.xe s := fun od J =>
    PySem.W.kia_one (PySem.W.kitx_exc k.xc.cl k.xc.ga k.xc.gt k.xc.sb k.xc.kc k.xc.gs k.xc.tk k.xc.mr) I.kIn J e (fun z => nomatch z) fun tk => ⟨.bl b, H, I.kept (t' := tk) fun _ _ z => z, rfl, q⟩
  cases d with
  | none => exact key none ⟨g, h1, nc, by rw [h2]; trivial⟩
  | some x =>
    obtain ⟨fs, hx⟩ := k.dx x rfl
    obtain ⟨mA, ns, _⟩ := I.hok x _ hx
    obtain ⟨ox, es, ep, gx, _⟩ := ns
    exact key (some ox) ⟨g, h1, nc, by rw [h2]; exact gx⟩
/-- isinstance(e, x) -/
def tIsX (K : PySem.W.Frag) (cv : Value) : TE := fun σ H Q => ∃ (a C : Addr) (d : Option Addr) (b : Bool), σ[0]? = some (some (.ref a)) ∧ KnownE K H a C d ∧ PySem.W.kitOne K (.ref C) cv = some b ∧ Q (.bl b) H
theorem pe_isC {x en : Str} {cx : Addr} {p1 p2 p3 p4 : Pos} (hN : X.N[0]? = some en) (hv : Vis X.env.scope en) (hg : Gl X "isinstance") (hm : X.mg "isinstance" = none) (hx : Gl X x) (hmx : X.mg x = some (.ref cx)) (hxd : (x == ("__debug__" : Str)) = false) (hed : (en == ("__debug__" : Str)) = false) (hec : (en == ("__classdict__" : Str)) = false)
    (he : starEach [.Name en p2, .Name x p3] X.env = (false, eval (.Name en p2) X.env) :: starEach [.Name x p3] X.env := by rfl) (he2 : starEach [.Name x p3] X.env = [(false, eval (.Name x p3) X.env)] := by rfl) (hpl : (backTo p4 (starEach [.Name x p3] X.env)).any (·.1) = false := by rfl) :
    PE X (.Call (.Name "isinstance" p1) [.Name en p2, .Name x p3] [] p4) (tIsX X.K (.ref cx)) := by
  have t := pe_callB (pos := p4) (p := p1) call_isK hg hm (by decide +kernel) (pa_cons (pv (pos := p2) 0 hN hv hed hec) (pa_cons (pe_glob (v := .ref cx) hx hmx rfl hxd) pa_nil he2) he) (by decide) (by decide) he hpl
  exact ⟨fun ps s σ H Q I ⟨a, C, d, b, q1, q2, q3, q4⟩ => t.run ps s σ H Q I ⟨.ref a, q1, a, C, d, .ref cx, .ref cx, b, rfl, fun u r => r, q2, q3, q4⟩⟩
theorem pe_isB {x en : Str} {T : String} {p1 p2 p3 p4 : Pos} (hN : X.N[0]? = some en) (hv : Vis X.env.scope en) (hg : Gl X "isinstance") (hm : X.mg "isinstance" = none) (hx : Gl X x) (hmx : X.mg x = none) (hvx : bootBuiltins x = some (.type T)) (hxn : x ≠ "__name__") (hxd : (x == ("__debug__" : Str)) = false) (hed : (en == ("__debug__" : Str)) = false) (hec : (en == ("__classdict__" : Str)) = false)
    (he : starEach [.Name en p2, .Name x p3] X.env = (false, eval (.Name en p2) X.env) :: starEach [.Name x p3] X.env := by rfl) (he2 : starEach [.Name x p3] X.env = [(false, eval (.Name x p3) X.env)] := by rfl) (hpl : (backTo p4 (starEach [.Name x p3] X.env)).any (·.1) = false := by rfl) :
    PE X (.Call (.Name "isinstance" p1) [.Name en p2, .Name x p3] [] p4) (tIsX X.K (.type T)) := by
  have t := pe_callB (pos := p4) (p := p1) call_isK hg hm (by decide +kernel) (pa_cons (pv (pos := p2) 0 hN hv hed hec) (pa_cons (pe_bltn (v := .ty T) hx hmx hvx rfl hxn hxd) pa_nil he2) he) (by decide) (by decide) he hpl
  exact ⟨fun ps s σ H Q I ⟨a, C, d, b, q1, q2, q3, q4⟩ => t.run ps s σ H Q I ⟨.ref a, q1, a, C, d, .ty T, .type T, b, rfl, fun u r => r, q2, q3, q4⟩⟩
end
end Dt

set_option Elab.async false
set_option linter.all false
set_option maxRecDepth 100000
set_option maxHeartbeats 800000
namespace Dt
open PySem PySem.Spec PyProof.Rows HotX L2
/-- the words of an exception's kinds -/
def kinStr (bs : List Bool) : Str := Txt.join " " ((((Txt.split "atlas cell walk rule page number share table heard unlike undo many text +" " ").zip bs).filter (·.2)).map (·.1))
def tKl (K : PySem.W.Frag) (a C : Addr) (d : Option Addr) (bs : List Bool) : TE := fun σ H Q => (σ[0]? = some (some (.ref a)) ∧ KnownE K H a C d) ∧ ∀ p H', Same H H' → H p = none → H' p = some (.lst (bs.map .bl)) → Q (.ref p) H'
section
variable {X : Cx} {a C : Addr} {d : Option Addr}
theorem same_new {H : Hp} {p : Addr} {o : HO} (h : H p = none) : Same H (upd H p o) := fun b x e => (upd_ne (ne_of_none e h)).trans e
theorem kl3 {i1 i2 i3 : Expr} {v1 v2 v3 : Value} {b1 b2 b3 : Bool} {pos : Pos} (h1 : PE X i1 (tIsX X.K v1)) (h2 : PE X i2 (tIsX X.K v2)) (h3 : PE X i3 (tIsX X.K v3)) (k1 : PySem.W.kitOne X.K (.ref C) v1 = some b1) (k2 : PySem.W.kitOne X.K (.ref C) v2 = some b2) (k3 : PySem.W.kitOne X.K (.ref C) v3 = some b3)
    (s1 : starEach [i1, i2, i3] X.env = (false, eval i1 X.env) :: starEach [i2, i3] X.env := by rfl) (s2 : starEach [i2, i3] X.env = (false, eval i2 X.env) :: starEach [i3] X.env := by rfl) (s3 : starEach [i3] X.env = [(false, eval i3 X.env)] := by rfl) : PE X (.List [i1, i2, i3] pos) (tKl X.K a C d [b1, b2, b3]) := by
  have t := pe_lst (pos := pos) (pa_cons h1 (pa_cons h2 (pa_cons h3 pa_nil s3) s2) s1)
  exact ⟨fun ps s σ H Q I ⟨⟨q1, q2⟩, q⟩ => t.run ps s σ H Q I ⟨a, C, d, b1, q1, q2, k1, a, C, d, b2, q1, q2, k2, a, C, d, b3, q1, q2, k3, by show 3 ≤ sizeLine; rw [sizeLine_eq]; decide, fun p hp => q p _ (same_new hp) hp upd_same⟩⟩
theorem kl2 {i1 i2 : Expr} {v1 v2 : Value} {b1 b2 : Bool} {pos : Pos} (h1 : PE X i1 (tIsX X.K v1)) (h2 : PE X i2 (tIsX X.K v2)) (k1 : PySem.W.kitOne X.K (.ref C) v1 = some b1) (k2 : PySem.W.kitOne X.K (.ref C) v2 = some b2)
    (s1 : starEach [i1, i2] X.env = (false, eval i1 X.env) :: starEach [i2] X.env := by rfl) (s2 : starEach [i2] X.env = [(false, eval i2 X.env)] := by rfl) : PE X (.List [i1, i2] pos) (tKl X.K a C d [b1, b2]) := by
  have t := pe_lst (pos := pos) (pa_cons h1 (pa_cons h2 pa_nil s2) s1)
  exact ⟨fun ps s σ H Q I ⟨⟨q1, q2⟩, q⟩ => t.run ps s σ H Q I ⟨a, C, d, b1, q1, q2, k1, a, C, d, b2, q1, q2, k2, by show 2 ≤ sizeLine; rw [sizeLine_eq]; decide, fun p hp => q p _ (same_new hp) hp upd_same⟩⟩
/-- kinds = [..] -/
theorem ks_one {kn : Str} {e : Expr} {bs : List Bool} {p pos : Pos} (nd : X.N.Nodup) (hi : X.N[1]? = some kn) (hl : Loc X.env.scope kn) (h : PE X e (tKl X.K a C d bs)) (hs : swapsWith e (some (.Name kn p)) pos.line X.env = pure false := by rfl) (hf : X.fn kn = true ∨ X.env.scope.names.lookup kn = some .local := by first | exact .inl rfl | exact .inr rfl) :
    PS X (.Assign [.Name kn p] e pos) (fun D σ H => (σ[0]? = some (some (.ref a)) ∧ KnownE X.K H a C d) ∧ ∀ q H', Same H H' → H' q = some (.lst (bs.map .bl)) → D.nx (σ.set 1 (some (.ref q))) H') := by
  have t := ps_set (pos := pos) (pos' := p) nd hi hl h hs hf
  exact ⟨fun ps s σ H D I ⟨q1, q2⟩ => t.run ps s σ H D I ⟨q1, fun p H' e _ r => q2 p H' e r⟩⟩
/-- kinds = kinds + [..] -/
theorem ks_more {kn : Str} {e : Expr} {bs : List Bool} {p p2 p3 pos : Pos} (nd : X.N.Nodup) (hi : X.N[1]? = some kn) (hl : Loc X.env.scope kn) (h : PE X e (tKl X.K a C d bs)) (hv : Vis X.env.scope kn) (hd : (kn == ("__debug__" : Str)) = false) (hc : (kn == ("__classdict__" : Str)) = false)
    (hs : swapsWith (.BinOp (.Name kn p2) .Add e p3) (some (.Name kn p)) pos.line X.env = pure false := by rfl) (hf : X.fn kn = true ∨ X.env.scope.names.lookup kn = some .local := by first | exact .inl rfl | exact .inr rfl) :
    PS X (.Assign [.Name kn p] (.BinOp (.Name kn p2) .Add e p3) pos) (fun D σ H => (σ[0]? = some (some (.ref a)) ∧ KnownE X.K H a C d) ∧ ∃ r L, σ[1]? = some (some (.ref r)) ∧ H r = some (.lst (L.map V.bl)) ∧ L.length + bs.length ≤ 1000 ∧ ∀ q H', Same H H' → H' q = some (.lst ((L ++ bs).map .bl)) → D.nx (σ.set 1 (some (.ref q))) H') := by
  have t := ps_set (pos := pos) (pos' := p) nd hi hl (pe_op (pos := p3) Dl.op_catL (pv (pos := p2) 1 hi hv hd hc) h) hs hf
  refine ⟨fun ps s σ H D I ⟨q1, r, L, q2, q3, q4, q5⟩ => t.run ps s σ H D I ⟨.ref r, q2, q1, fun p H' e1 fp e2 => ?_⟩⟩
  refine ⟨r, p, L.map .bl, bs.map .bl, rfl, rfl, .of (e1 _ _ q3), .of e2, by rw [List.length_map, List.length_map, sizeLine_eq]; omega, fun q hq => ?_⟩
  exact q5 q _ (e1.trans (same_new hq)) (by rw [upd_same, List.map_append])
/-- the words picked -/
def tPick (K : PySem.W.Frag) (A : Around) : TE := fun σ H Q => HxA A H ∧ ∃ (z : Str) (r : Addr) (bs : List Bool), σ.length = 5 ∧ σ[2]? = some (some (.str z)) ∧ σ[1]? = some (some (.ref r)) ∧ H r = some (.lst (bs.map .bl)) ∧ z.length ≤ 1000 ∧ (Txt.split z " ").length = bs.length ∧
  ∀ p H', Same H H' → H' p = some (.lst ((((Txt.split z " ").zip bs).filter (·.2)).map fun q => .str q.1)) → Q (.ref p) H'
theorem pick_of {ce : Expr} (h : PE X ce (tLcK X (iZipK X.K (tCons (tM1 (fun x xs H Q => ∃ a b, x = .str a ∧ xs = [.str b] ∧ (b.length == 0) = false ∧ a.length + 2 ≤ sizeLine ∧ rNewStrs (Txt.split a b) H Q) (tVar 2) (tC (.str " "))) (tCons (tVar 1) tNil))) (gTupK X.A X.K 2 (gCons (gName 3) (gCons (gName 4) gNil))) (tB (tVar 4)) (tVar 3) [3, 4])) : PE X ce (tPick X.K X.A) := by
  refine ⟨fun ps s σ H Q I ⟨hx, z, r, bs, len, q1, q2, q3, hz, hl, w⟩ => h.run ps s σ H Q I ⟨.str z, q1, ⟨z, rfl⟩, z, " ", rfl, rfl, by decide +kernel, by rw [sizeLine_eq]; omega, fun p hp => ?_⟩⟩
  generalize hW : Txt.split z " " = W at *
  have s1 : Same H (upd H p (.lst (W.map V.str))) := same_new hp
  refine ⟨.ref r, q2, p, r, W.map .str, bs.map .bl, rfl, .of upd_same, .of (s1 _ _ q3), fun D hD => ?_⟩
  generalize hH1 : upd H p (.lst (W.map V.str)) = H1 at s1 hD ⊢
  have hp1 : H1 p = some (.lst (W.map V.str)) := by rw [← hH1]; exact upd_same
  have sel : ∀ i, i ≤ W.length → (((W.take i).zip (bs.take i)).filter (·.2)).length ≤ 1000000 := fun i hi => by
    have h1 := List.length_filter_le (fun q : Str × Bool => q.2) ((W.take i).zip (bs.take i))
    have h2 : W.length ≤ z.length + 1 := by
      have := PyProof.Rows.split_weight z " " (by decide +kernel)
      rw [hW] at this
      omega
    rw [List.length_zip, List.length_take, List.length_take] at h1
    omega
  refine ⟨fun i m M => Same H1 M ∧ i ≤ W.length ∧ m = W.length - i ∧ M D = some (.lst ((((W.take i).zip (bs.take i)).filter (·.2)).map fun q => .str q.1)), ⟨W.length, same_new hD, Nat.zero_le _, rfl, by rw [upd_same]; rfl⟩, fun i m M ⟨w1, w2, w3, w4⟩ => ⟨hx.same (s1.trans w1), ?_⟩⟩
  by_cases hi : i < W.length
  · refine .inr ⟨⟨W.map .str, bs.map .bl, .str W[i], .bl (bs[i]'(by omega)), .of (w1 _ _ hp1), .of (w1 _ _ (s1 _ _ q3)), by rw [List.getElem?_map, List.getElem?_eq_getElem hi]; rfl, by rw [List.getElem?_map, List.getElem?_eq_getElem (by omega)]; rfl⟩,
      fun M' => Same H1 M' ∧ M' D = some (.lst ((((W.take (i + 1)).zip (bs.take (i + 1))).filter (·.2)).map fun q => .str q.1)), fun M' ⟨a1, a2⟩ => ⟨W.length - (i + 1), by omega, a1, by omega, rfl, a2⟩, fun x M' y => ?_⟩
    obtain ⟨T, u, v, rfl, fT, rfl, y1, y2⟩ := y
    have e1 : some (V.str W[i]) = some u := by
      rw [← y1 _ (.of (w1 _ _ hp1)), List.getElem?_map, List.getElem?_eq_getElem hi]; rfl
    have e2 : some (V.bl (bs[i]'(by omega))) = some v := by
      rw [← y2 _ (.of (w1 _ _ (s1 _ _ q3))), List.getElem?_map, List.getElem?_eq_getElem (by omega)]; rfl
    cases e1
    cases e2
    have sM : ∀ o, Same M (upd M T o) := fun o => same_new fT
    have lw : (wipe σ [3, 4]).length = 5 := by rw [wipe_length, len]
    refine ⟨(hx.same (s1.trans w1)).same (sM _), T, _, rfl, .of upd_same, rfl, _, _, rfl, _, _, rfl, rfl, ?_, .bl (bs[i]'(by omega)), by rw [List.getElem?_set_self (by rw [List.length_set]; omega)], _, rfl, ?_⟩
    · show ((((wipe σ [3, 4]).set 3 _).set 4 _).set 4 none).set 3 none = (σ.set 4 none).set 3 none
      show (((((σ.set 4 none).set 3 none).set 3 _).set 4 _).set 4 none).set 3 none = (σ.set 4 none).set 3 none
      rw [List.set_set, List.set_set, List.set_comm _ _ (by decide : (3 : Nat) ≠ 4), List.set_set, List.set_set]
    · have tk : (W.take (i + 1)).zip (bs.take (i + 1)) = (W.take i).zip (bs.take i) ++ [(W[i], bs[i]'(by omega))] := by
        rw [List.take_succ_eq_append_getElem hi, List.take_succ_eq_append_getElem (by omega), List.zip_append (by rw [List.length_take, List.length_take]; omega)]; rfl
      cases hb : bs[i]'(by omega) with
      | true =>
        simp only [if_true]
        refine ⟨.str W[i], by rw [List.getElem?_set_ne (by decide), List.getElem?_set_self (by omega)], _, sM _ _ _ w4, by rw [List.length_map, sizeLine_eq]; have := sel i (by omega); omega, fun b o e => ?_, ?_⟩
        · have nb : b ≠ D := fun y => by rw [y, hD] at e; cases e
          rw [upd_ne nb]; exact sM _ _ _ (w1 _ _ e)
        · rw [upd_same, tk, hb, List.filter_append, List.map_append]; rfl
      | false =>
        simp only [Bool.false_eq_true, if_false]
        exact ⟨w1.trans (sM _), by rw [sM _ _ _ w4, tk, hb, List.filter_append, List.filter_cons_of_neg (by simp), List.filter_nil, List.append_nil]⟩
  · have ei : i = W.length := by omega
    refine .inl ⟨⟨W.map .str, .of (w1 _ _ hp1), by rw [List.length_map]; omega⟩, w D M (s1.trans w1) ?_⟩
    rw [w4, ei, List.take_length, hl, List.take_length]
abbrev tOne (K : PySem.W.Frag) (a C : Addr) (d : Option Addr) (bs : List Bool) : TS := fun D σ H => (σ[0]? = some (some (.ref a)) ∧ KnownE K H a C d) ∧ ∀ q H', Same H H' → H' q = some (.lst (bs.map .bl)) → D.nx (σ.set 1 (some (.ref q))) H'
abbrev tMore (K : PySem.W.Frag) (a C : Addr) (d : Option Addr) (bs : List Bool) : TS := fun D σ H => (σ[0]? = some (some (.ref a)) ∧ KnownE K H a C d) ∧ ∃ r L, σ[1]? = some (some (.ref r)) ∧ H r = some (.lst (L.map V.bl)) ∧ L.length + bs.length ≤ 1000 ∧ ∀ q H', Same H H' → H' q = some (.lst ((L ++ bs).map .bl)) → D.nx (σ.set 1 (some (.ref q))) H'
def kinWords : Str := "atlas cell walk rule page number share table heard unlike undo many text +"
theorem kin_words : (Txt.split kinWords " ").length = 14 ∧ ((Txt.split kinWords " ").map (·.length)).sum ≤ 1000 := by decide +kernel
theorem kin_run {st1 st2 st3 st4 st5 st6 st7 : Stmt} {b1 b2 b3 b4 b5 : List Bool} (h1 : PS X st1 (tOne X.K a C d b1)) (h2 : PS X st2 (tMore X.K a C d b2)) (h3 : PS X st3 (tMore X.K a C d b3)) (h4 : PS X st4 (tMore X.K a C d b4)) (h5 : PS X st5 (tMore X.K a C d b5)) (hl : (b1 ++ b2 ++ b3 ++ b4 ++ b5).length = 14)
    (h6 : PS X st6 (fun D σ H => D.nx (σ.set 2 (some (.str kinWords))) H))
    (h7 : PS X st7 (tRet (tM1 (fun x xs H Q => ∃ a p, ∃ ys : List Str, x = .str a ∧ xs = [.ref p] ∧ (SqL X.K H p (ys.map V.str) ∨ SqT X.K H p (ys.map V.str)) ∧ (ys.map (·.length)).sum + ys.length * a.length ≤ 16777216 ∧ Q (.str (Txt.join a ys)) H) (tC (.str " ")) (tPick X.K X.A)))) :
    PSs X [st1, st2, st3, st4, st5, st6, st7] (fun D σ H => (σ[0]? = some (some (.ref a)) ∧ σ.length = 5 ∧ KnownE X.K H a C d ∧ X.A.handled = some (.ref a)) ∧ ∀ H', Same H H' → D.rt (.str (kinStr (b1 ++ b2 ++ b3 ++ b4 ++ b5))) H') := by
  have t := pss_cons h1 (pss_cons h2 (pss_cons h3 (pss_cons h4 (pss_cons h5 (pss_cons h6 (pss_one h7))))))
  simp only [List.length_append] at hl
  refine ⟨fun ps s σ H D I ⟨⟨q1, q2, q3, q4⟩, w⟩ => t.run ps s σ H D I ⟨⟨q1, q3⟩, fun r1 H1 e1 g1 => ?_⟩⟩
  have S0 : ∀ (v : Option V), (σ.set 1 v)[0]? = some (some (.ref a)) := fun v => by rw [List.getElem?_set_ne (by decide)]; exact q1
  have S1 : ∀ (v : Option V), (σ.set 1 v)[1]? = some v := fun v => List.getElem?_set_self (by omega)
  refine ⟨⟨S0 _, q3.same e1⟩, r1, b1, S1 _, g1, by omega, fun r2 H2 e2 g2 => ?_⟩
  rw [List.set_set]
  refine ⟨⟨S0 _, (q3.same e1).same e2⟩, r2, b1 ++ b2, S1 _, g2, by rw [List.length_append]; omega, fun r3 H3 e3 g3 => ?_⟩
  rw [List.set_set]
  refine ⟨⟨S0 _, ((q3.same e1).same e2).same e3⟩, r3, b1 ++ b2 ++ b3, S1 _, g3, by simp only [List.length_append]; omega, fun r4 H4 e4 g4 => ?_⟩
  rw [List.set_set]
  refine ⟨⟨S0 _, (((q3.same e1).same e2).same e3).same e4⟩, r4, b1 ++ b2 ++ b3 ++ b4, S1 _, g4, by simp only [List.length_append]; omega, fun r5 H5 e5 g5 => ?_⟩
  rw [List.set_set]
  have k5 := ((((q3.same e1).same e2).same e3).same e4).same e5
  have s5 : Same H H5 := (((e1.trans e2).trans e3).trans e4).trans e5
  obtain ⟨kw1, kw2⟩ := kin_words
  refine ⟨⟨" ", rfl⟩, ⟨a, .ref C, d, q4, k5.at_⟩, kinWords, r5, _, by rw [List.length_set, List.length_set]; exact q2, by rw [List.getElem?_set_self (by rw [List.length_set]; omega)], by rw [List.getElem?_set_ne (by decide)]; exact S1 _, g5, by decide +kernel, by simp only [List.length_append]; rw [kw1]; omega, fun p H6 e6 g6 => ?_⟩
  generalize hZ : (((Txt.split kinWords " ").zip (b1 ++ b2 ++ b3 ++ b4 ++ b5)).filter (·.2)) = Z at g6
  refine ⟨" ", p, Z.map (·.1), rfl, rfl, .inl (.of (by rw [g6, List.map_map]; rfl)), ?_, ?_⟩
  · have l1 : Z.length ≤ 14 := by
      rw [← hZ]
      refine Nat.le_trans (List.length_filter_le _ _) ?_
      rw [List.length_zip, kw1]; omega
    have l2 : ∀ y ∈ Z.map (·.1), y.length ≤ 1000 := fun y hy => by
      obtain ⟨q, hq, rfl⟩ := List.mem_map.mp hy
      rw [← hZ] at hq
      have m1 := (List.of_mem_zip (List.mem_filter.mp hq).1).1
      exact Nat.le_trans (PyProof.Rows.len_le_sum_of_mem m1) kw2
    have l3 : ∀ L : List Str, (∀ y ∈ L, y.length ≤ 1000) → (L.map (·.length)).sum ≤ 1000 * L.length := fun L => by
      induction L with
      | nil => simp
      | cons y L ih =>
        intro h
        have := h y List.mem_cons_self
        have := ih fun z hz => h z (List.mem_cons_of_mem _ hz)
        rw [List.map_cons, List.sum_cons, List.length_cons]; omega
    have := l3 _ l2
    rw [List.length_map] at this ⊢
    have : (" " : Str).length = 1 := by decide +kernel
    rw [this]; omega
  · have : Txt.join " " (Z.map (·.1)) = kinStr (b1 ++ b2 ++ b3 ++ b4 ++ b5) := by rw [← hZ]; rfl
    rw [this]
    exact w _ (s5.trans e6)
/-! ### a def called where an exception is handled -/
abbrev calmA (A : Around) : Around := { A with handled := none }
theorem mark_deeper {A : Around} {v : Value} (h : A.handled = some v) (env : Env) : ((calmA A).deeper env).mark (some v) = A.deeper env := by
  cases A
  cases h
  rfl
abbrev hotCx (P : Program) (w : World) (K : PySem.W.Frag) (mg : Str → Option Value) (base : Heap) (N : List Str) (qual : Str) (scope : Scope) (f : Addr) (cd : Value) (A : Around) (outer : List Env) (s : Shared) (H : Hp) (a : Addr) : Cx :=
  (cxOf C8.CX0 P w K mg base N qual scope f cd (calmA A) outer s H C8.E0).suite a []
theorem run_hot {P : Program} {w : World} {K : PySem.W.Frag} {mg : Str → Option Value} {base : Heap} {f a : Addr} {x qual : Str} {params : Arguments} {body : List Stmt} {scope : Scope} {fd : FuncData} {N ps : List Str} {k : Nat} (F : FunD K x qual params body scope [] [] f fd) (S : FnScope N ps scope)
    {A : Around} {outer : List Env} {s : Shared} {H : Hp} {args : Args} {us : List Value} {vs : List V} {Q : VK} (hr : L2H.RoomH (k + 1) A) (ha : A.handled = some (.ref a)) (e0 : Env0 P w K mg base A outer s H) (hb : BindsTo s fd args (ps.zip us)) (r : Vals vs us) (hl : vs.length = ps.length)
    (hbody : ∀ cdv, ∃ t, PSs (hotCx P w K mg base N qual scope f cdv A outer s H a) body t ∧ t { nx := fun _ H' => Q .non H', rt := Q } (L2.start N vs) H) : codeAny (model P w) A (.call (.ref f) args) (CR C8.CX0 outer P w H s Q C8.E0) s := by
  obtain ⟨oc, od, dV, kV, doc, pm, an, cdv, ct, osl, rfl, lk, hcd, _, _⟩ := F.ex
  have KX : K.In s.heap := e0.mod.kin.keeps fun b o e => (e0.bs b o e).1
  have par : ∀ y ∈ ps.zip us, scope.names.lookup y.1 = some .local ∨ (scope.names.lookup y.1 = some .cell ∧ ((cellsFrom (s.heap.objs.size + 1) scope.names []).lookup y.1).isSome = true) := fun y hy =>
    (S.par y.1 (List.of_mem_zip hy).1).imp id fun q => ⟨q, PySem.W.cellsFrom_some _ _ _ (.inl q)⟩
  refine codeAny_call_function hr.depth (KX _ _ lk) rfl S.co S.gen rfl (PySem.W.codeRec_of KX hcd) (hb _ _ _ _ (wpAny_newFunctionEnv_cells S.kind par fun env he s1 x => ?_))
  subst he
  refine ⟨(e0.mod.nolimit.keeps fun b o e => (e0.bs b o e).1).keeps x.toInCall.keep, codeAny_func ?_⟩
  obtain ⟨t, ht, hq⟩ := hbody cdv
  have e1 : Env0 P w K mg base (calmA A) outer s H := ⟨e0.frames, e0.mod, e0.bs, e0.bsz, e0.funs, e0.frf, e0.hok, e0.bare⟩
  have J := inv_start (CX := C8.CX0) (cd := cdv) (E := C8.E0) S rfl e1 hl r x
  have I : Inv (hotCx P w K mg base N qual scope f cdv A outer s H a) [] (L2.start N vs) H s1 := ⟨J.ok.suite _ _, J.os, J.bare, J.base, J.loc, J.cell, J.free, J.freeC, fun p hp => J.pin p hp, J.hok, J.len⟩
  have eA : (hotCx P w K mg base N qual scope f cdv A outer s H a).A = A.deeper (PyProof.Rows.envOfC qual scope s.heap.objs.size f cdv) := mark_deeper ha _
  have run := ht.run [] s1 (L2.start N vs) H _ I hq
  rw [eA] at run
  refine wpAny_mono run (fun fl s' hs => ?_) fun e s' hs => hs.elim
  cases fl with
  | ret u => obtain ⟨v, τ, M, T, rv, q⟩ := hs; exact ⟨v, M, T.os, T.bare, T.base, T.hok, rv, q⟩
  | next => obtain ⟨τ, M, T, q⟩ := hs; exact ⟨.non, M, T.os, T.bare, T.base, T.hok, rfl, q⟩
  | brk => obtain ⟨_, _, _, q⟩ := hs; exact q.elim
  | cont => obtain ⟨_, _, _, q⟩ := hs; exact q.elim
end
end Dt

set_option Elab.async false
set_option linter.all false
set_option maxRecDepth 100000
set_option maxHeartbeats 800000
/-! A def that is handed a lambda without parameters and calls it within its try. -/
namespace Dt
open PySem PySem.Spec PyProof.Rows HotX L2
abbrev lamName (X : Cx) : Str := X.env.qual ++ "<lambda>"
section
variable {X : Cx} {pins : List (Addr × Obj)} {σ : L2.St} {H HZ : Hp} {s s1 : Shared}
/-- the lambda is made: nothing that is known changes but its maker's table -/
theorem door_made {T : List (Addr × Str)} {c P : Addr} {params : Arguments} {body : Expr} {scope : Scope} {pos : Pos} {E Q : Value → Shared → Prop} (I : Inv X pins σ H s) (TB : LamX.TabB X.base X.mg c P) (hcode : X.env.code = .ref c) (hm : (P, lamName X) ∈ T) (hu : ∀ p ∈ T, p.1 = P → p.2 = lamName X)
    (hT : LamX.Tabs T H) (hdef : defaultsOf params X.env = ([], [])) (hfree : ∀ y ∈ scope.names, y.2 = .free → ∃ c, X.env.cells.lookup y.1 = some c)
    (h : ∀ (f c' : Addr) (pm ctv : Value) (H1 : Hp) (s' : Shared), Inv X pins σ H1 s' → (∀ b o, b ≠ P → H b = some o → H1 b = some o) → LamX.Tabs T H1 → s'.heap.get? f = some (PySem.W.kla_obj "<lambda>" (lamName X) params body scope (cloFrom X.env.cells scope.names []) pm c' ctv) → H1 f = none → f ∉ frs X.stack →
      H1 c' = some (LamX.CodeO c' (lamName X)) → Q (.ref f) s') : wpAny (model X.prog X.w) X.A (eval (.Lambda params body scope pos) X.env) Q E s := by
  obtain ⟨ps, hP, tri, told⟩ := hT _ hm
  have bP : s.heap.BuiltinsAt X.mg P := TB.bm.keeps I.bk
  have gP : s.heap.get? P = some { cls := .none, data := .fields ps } := I.hok P _ hP
  have clear : ∀ f, s.heap.objs.size ≤ f → f ∉ frs X.stack := fun f hf z => (List.mem_cons.mp (I.stkSub _ z)).elim (fun e => Nat.lt_irrefl _ (Nat.lt_of_lt_of_le (e ▸ I.lt) hf)) fun e => I.nofs hf e
  refine PySem.W.kla_eval hdef ?_
  cases hc : codeAmong pos ps.toList with
  | some cv =>
    obtain ⟨c', rfl, hco⟩ := told pos cv hc
    refine PySem.W.kla_makeFunctionHit (mg := X.mg) (c := c) (P := P) (ps := ps) (closure_ok hfree) I.ok.glob (I.mod.glob.keeps I.bk) hcode (TB.code.keeps I.bk) gP tri hc bP fun ctv h' tk hx hsz => ?_
    exact h h'.objs.size c' ((X.mg "__name__").getD .none) ctv H _ (I.kept fun b o e => Heap.get?_push_of_some _ (hx b o e)) (fun _ _ _ e => e) hT (Heap.get?_push_size _ rfl) (I.hok.fresh hsz) (clear _ hsz) hco
  | none =>
    refine PySem.W.kla_makeFunction (mg := X.mg) (c := c) (P := P) (ps := ps) (closure_ok hfree) I.ok.glob (I.mod.glob.keeps I.bk) hcode (TB.code.keeps I.bk) gP tri hc TB.gP bP fun c' ctv h' tk hx hge hlt hrec htb => ?_
    obtain ⟨c2, oc, us, t, e2, hoc, hd, hv⟩ := hrec
    cases e2
    have sz : s.heap.objs.size ≤ h'.objs.size := Nat.le_trans hge (Nat.le_of_lt hlt)
    have nC : H c' = none := I.hok.fresh hge
    have J := LamX.inv_table (q := lamName X) (t' := tk) (more := #[rawInt pos.line, rawInt pos.col, .ref c']) (h' := h'.push (PySem.W.kla_obj "<lambda>" (lamName X) params body scope (cloFrom X.env.cells scope.names []) ((X.mg "__name__").getD .none) c' ctv)) I hP (fun b o hb e => Heap.get?_push_of_some _ (hx b o hb e)) (Heap.get?_push_of_some _ htb) hge ⟨oc, us, t, Heap.get?_push_of_some _ hoc, hd, hv⟩
    have old : ∀ b o, b ≠ P → H b = some o → upd (upd H P (.tbl (ps ++ #[rawInt pos.line, rawInt pos.col, .ref c']))) c' (LamX.CodeO c' (lamName X)) b = some o := fun b o nb e => by rw [upd_ne (ne_of_none e nC), upd_ne nb]; exact e
    have code : ∀ {b : Addr} {q : Str}, H b = some (LamX.CodeO b q) → b ≠ P := fun e z => by rw [z, hP] at e; cases e
    have eL : (ps ++ #[rawInt pos.line, rawInt pos.col, .ref c']).toList = ps.toList ++ [rawInt pos.line, rawInt pos.col, .ref c'] := by simp
    refine h h'.objs.size c' _ ctv _ _ J old (fun p hp => ?_) (Heap.get?_push_size _ rfl) (by rw [upd_ne (Nat.ne_of_gt hlt), upd_ne (Nat.ne_of_gt (Nat.lt_of_lt_of_le (Heap.lt_size gP) sz))]; exact I.hok.fresh sz) (clear _ sz) upd_same
    by_cases hb : p.1 = P
    · refine ⟨_, by rw [hb, upd_ne (ne_of_none hP nC), upd_same], by rw [eL]; exact PySem.TriplesOk_snoc _ _ _ _ tri, fun pp cv hcv => ?_⟩
      rw [eL] at hcv
      rcases LamX.among_app _ tri hcv with z | z
      · obtain ⟨c0, e1, e3⟩ := told pp cv z
        exact ⟨c0, e1, by rw [hu p hp hb]; exact old _ _ (code e3) e3⟩
      · exact ⟨c', z, by rw [hu p hp hb]; exact upd_same⟩
    · obtain ⟨qs, a1, a2, a3⟩ := hT p hp
      refine ⟨qs, old _ _ hb a1, a2, fun pp cv hcv => ?_⟩
      obtain ⟨c0, e1, e3⟩ := a3 pp cv hcv
      exact ⟨c0, e1, old _ _ (code e3) e3⟩
/-- the context of the lambda's body: what leaves it bears no context of its own -/
abbrev doorCx (X : Cx) (A : Around) (outer : List Env) (s : Shared) (H : Hp) (E : XK) (scope : Scope) (f c' : Addr) : Cx :=
  (LamX.lamCx X A outer s H E scope f c').wish fun e s' => wpAny (model X.prog X.w) (A.deeper (LamX.lamEnv X scope s.heap.objs.size f c')) (leaving (LamX.lamEnv X scope s.heap.objs.size f c') e) (fun _ s'' => L2N.CX X.prog X.w outer H s E e s'') (fun e' s'' => L2N.CX X.prog X.w outer H s E e' s'') s'
/-- a() in the def that got the lambda as its name a -/
theorem door_call {CXg : CXT} {Eg : XK} {Ng : List Str} {qg : Str} {sg : Scope} {g f c' : Addr} {cdg pm ctv : Value} {params : Arguments} {body : Expr} {scope : Scope} {k i : Nat} {a : Str} {pn : List (Addr × Obj)} {xe : Value → Shared → Prop} {W : WX} {tb : XK → TE} {p1 p2 : Pos}
    (I : Inv X pins σ H s) (L : LamX.LamS X.env.scope scope) (hf : s.heap.get? f = some (PySem.W.kla_obj "<lambda>" (lamName X) params body scope (cloFrom X.env.cells scope.names []) pm c' ctv)) (hfn : H f = none) (hfr : f ∉ frs X.stack)
    (hbind : bindArgs (PySem.W.kla_fn "<lambda>" (lamName X) params body scope (cloFrom X.env.cells scope.names []) pm (.ref c') ctv) ⟨[], []⟩ = pure [])
    (tk : L2N.Takes ((cxOf CXg X.prog X.w X.K X.mg X.base Ng qg sg g cdg X.A X.stack s H Eg).tr pn xe) W) (hr : Room (k + 1) (X.A.deeper (PyProof.Rows.envOfC qg sg s.heap.objs.size g cdg)))
    (hbody : ∀ (A : Around) (outer : List Env) (s : Shared) (H : Hp) (E : XK), Room k (A.deeper (LamX.lamEnv X scope s.heap.objs.size f c')) → PE (doorCx X A outer s H E scope f c') body (tb E)) (hN : Ng[i]? = some a) (hv : Vis sg a) (hd : (a == ("__debug__" : Str)) = false := by decide) (hcd : (a == ("__classdict__" : Str)) = false := by decide) :
    PE ((cxOf CXg X.prog X.w X.K X.mg X.base Ng qg sg g cdg X.A X.stack s H Eg).tr pn xe) (.Call (.Name a p1) [] [] p2) (fun τ M Q => τ[i]? = some (some (.ref f)) ∧ M c' = some (LamX.CodeO c' (lamName X)) ∧ ∃ E : XK, (∀ cls d N, E cls d N → W cls d τ N) ∧ tb E σ M Q) := by
  refine ⟨fun ps z τ M Q IZ ⟨hs, hc, E, hW, ht⟩ => wpAny_Call_Name_kw (thn ((pe_var (pos := p1) (i := i) hN hv hd hcd).run ps z τ M (fun v M1 => v = .ref f ∧ M1 = M) IZ ⟨.ref f, hs, rfl, rfl⟩) fun u z1 hh => ?_)⟩
  obtain ⟨v, M1, I1, r1, ev, eM⟩ := hh
  subst ev
  rw [eM] at I1
  obtain rfl : u = Value.ref f := r1
  have of1 : z1.heap.get? f = some (PySem.W.kla_obj "<lambda>" (lamName X) params body scope (cloFrom X.env.cells scope.names []) pm c' ctv) := I1.base.keep f _ hf hfn hfr (fun y => nomatch (show f ∈ ([] : List Addr) from y))
  obtain ⟨⟨oc, us, t, hoc, hdc, hvc⟩, _, _⟩ := I1.hok c' _ hc
  refine PySem.W.callWith_F0 ⟨_, _, _, _, of1⟩ ?_
  have rc : codeAny (model X.prog X.w) (X.A.deeper (PyProof.Rows.envOfC qg sg s.heap.objs.size g cdg)) (.call (.ref f) ⟨[], []⟩) (CR (L2N.CX X.prog X.w) (PyProof.Rows.envOfC qg sg s.heap.objs.size g cdg :: X.stack) X.prog X.w M z1 Q E) z1 := by
    refine PySem.W.kla_callFunE hr.depth of1 rfl L.co L.gen rfl ⟨c', oc, us, t, rfl, hoc, hdc, hvc⟩ ?_
    rw [hbind]
    refine wpAny_pure (wpAny_newFunctionEnv (fun y hy => (L.own y hy).2) (fun y hy => absurd hy (by simp)) (fun h₁ hns hsb => ⟨I1.nolimit.fresh _ hsb, ?_⟩) L.kind)
    have kp : ∀ b o, z1.heap.get? b = some o → h₁.get? b = some o := fun b o e => hsb.extBut b o (Nat.ne_of_lt (Heap.lt_size e)) (Heap.get?_push_of_some _ e)
    have J0 := LamX.lam_start2 (E := E) (f := f) (c' := c') (tk := z1.toks + ([] : List (Str × Value)).length) I L I1.env0 hr.hd I1.base hns kp
    have J := J0.wish fun e s' => wpAny (model X.prog X.w) ((X.A.deeper (PyProof.Rows.envOfC qg sg s.heap.objs.size g cdg)).deeper (LamX.lamEnv X scope z1.heap.objs.size f c')) (leaving (LamX.lamEnv X scope z1.heap.objs.size f c') e) (fun _ s'' => L2N.CX X.prog X.w (PyProof.Rows.envOfC qg sg s.heap.objs.size g cdg :: X.stack) M z1 E e s'') (fun e' s'' => L2N.CX X.prog X.w (PyProof.Rows.envOfC qg sg s.heap.objs.size g cdg :: X.stack) M z1 E e' s'') s'
    exact PySem.W.kla_codeExpr (wpAny_mono ((hbody _ _ z1 M E (hr.deeper _)).run [] _ _ M Q J ht) (fun v s' ⟨w', M', J', rv, q⟩ => ⟨w', M', J'.os, J'.bare, J'.base, J'.hok, rv, q⟩) fun e s' hq => hq)
  refine wpAny_call (codeAny_mono rc fun r s' hq => ?_)
  cases r with
  | error e =>
    obtain ⟨a0, B0, M0, cls0, d0, q1, q2, q3, q4, q5, q6, q7, q8⟩ := hq
    exact L2N.passAt tk τ ps M z1 e s' I1 ⟨a0, B0, M0, cls0, d0, q1, q2, q3, q4, q5, q6, q7, hW _ _ _ q8⟩
  | ok fl =>
    cases fl with
    | ret u => exact I1.after hq
    | next => exact hq.elim
    | brk => exact hq.elim
    | cont => exact hq.elim
/-- what the def that got the lambda makes of the lambda's reading -/
def DoorDef (X : Cx) (Ng : List Str) (x : Str) (sg : Scope) (g : Addr) (cdg : Value) (bg : List Stmt) (a : Str) (q : Str) (TT : (XK → Hp → VK → Prop) → Hp → VK → Prop) : Prop :=
  ∀ (f c' : Addr) (s : Shared) (H : Hp) (Q : VK) (tl : XK → Hp → VK → Prop),
    (∀ (W : WX) (pn : List (Addr × Obj)) (xe : Value → Shared → Prop) (p1 p2 : Pos), L2N.Takes ((cxOf C8.CX0 X.prog X.w X.K X.mg X.base Ng x sg g cdg X.A X.stack s H C8.E0).tr pn xe) W →
      PE ((cxOf C8.CX0 X.prog X.w X.K X.mg X.base Ng x sg g cdg X.A X.stack s H C8.E0).tr pn xe) (.Call (.Name a p1) [] [] p2) (fun τ M Q => τ[0]? = some (some (.ref f)) ∧ M c' = some (LamX.CodeO c' q) ∧ tl (fun cls d N => W cls d τ N) M Q)) →
    (∀ (E E' : XK) M Q Q', (∀ cls d N, E cls d N → E' cls d N) → (∀ v M', Q v M' → Q' v M') → tl E M Q → tl E' M Q') → H c' = some (LamX.CodeO c' q) → TT tl H Q → ∃ t, PSs (cxOf C8.CX0 X.prog X.w X.K X.mg X.base Ng x sg g cdg X.A X.stack s H C8.E0).nox bg t ∧ t { nx := fun _ M => Q .non M, rt := Q } (L2.start Ng [.ref f]) H
end
/-- the lambda's reading, up to what is wanted -/
def upTo (t : XK → TE) (σ : L2.St) : XK → Hp → VK → Prop := fun E M Q => ∃ (E0 : XK) (Q0 : VK), (∀ cls d N, E0 cls d N → E cls d N) ∧ (∀ v M', Q0 v M' → Q v M') ∧ t E0 σ M Q0
theorem pe_upTo {X : Cx} {e : Expr} {A : L2.St → Hp → Prop} {B : Hp → Prop} {W : WX} {t : XK → TE} {σ : L2.St} (h : PE X e (fun τ M Q => A τ M ∧ B M ∧ ∃ E : XK, (∀ cls d N, E cls d N → W cls d τ N) ∧ t E σ M Q)) : PE X e (fun τ M Q => A τ M ∧ B M ∧ upTo t σ (fun cls d N => W cls d τ N) M Q) :=
  ⟨fun ps s τ M Q I ⟨q1, q2, E0, Q0, h1, h2, q3⟩ => wpAny_mono (h.run ps s τ M Q0 I ⟨q1, q2, E0, h1, q3⟩) (fun u s' ⟨v, M', J, r, q⟩ => ⟨v, M', J, r, h2 v M' q⟩) fun _ _ z => z⟩
/-- x(lambda: body) -/
theorem pe_door {X : Cx} {T : List (Addr × Str)} {TT : (XK → Hp → VK → Prop) → Hp → VK → Prop} {x a : Str} {g c P : Addr} {k : Nat} {pg : Arguments} {bg : List Stmt} {sg : Scope} {dV kV doc pm cdv ct oc : Value} {an od : Option Addr} {osl : Array (Option Value)} {Ng : List Str}
    {params : Arguments} {body : Expr} {scope : Scope} {t : XK → TE} {p lpos pos : Pos} (hg : Gl X x) (hm : X.mg x = some (.ref g)) (hk : PySem.W.keepIn X.K (.ref g) = true) (lk : X.K.lookup g = some ⟨oc, od, .func (PySem.W.fnOf x x pg bg sg dV kV doc pm an cdv ct), osl⟩) (hcg : PySem.W.codeIn X.K cdv x = true)
    (hb : L2.Binds X.K (PySem.W.fnOf x x pg bg sg dV kV doc pm an cdv ct) [a] []) (Sg : FnScope Ng [a] sg) (hNg : Ng[0]? = some a) (hva : Vis sg a) (hG : DoorDef X Ng x sg g cdv bg a (lamName X) TT) (TB : LamX.TabB X.base X.mg c P) (hcode : X.env.code = .ref c) (hmT : (P, lamName X) ∈ T) (hu : ∀ p ∈ T, p.1 = P → p.2 = lamName X)
    (hr : Room (k + 2) X.A) (L : LamX.LamS X.env.scope scope) (hdef : defaultsOf params X.env = ([], [])) (hbind : ∀ (q : Str) (cl : List (Str × Addr)) (pm cv ctv : Value), bindArgs (PySem.W.kla_fn "<lambda>" q params body scope cl pm cv ctv) ⟨[], []⟩ = pure [])
    (hbody : ∀ (A : Around) (outer : List Env) (s : Shared) (H : Hp) (E : XK) (f c' : Addr), Room k (A.deeper (LamX.lamEnv X scope s.heap.objs.size f c')) → PE (doorCx X A outer s H E scope f c') body (t E)) (hdb : (x == ("__debug__" : Str)) = false := by decide) (hd : (a == ("__debug__" : Str)) = false := by decide) (hcd : (a == ("__classdict__" : Str)) = false := by decide) :
    PE X (.Call (.Name x p) [.Lambda params body scope lpos] [] pos) (fun σ H Q => LamX.Tabs T H ∧ ∀ H1, (∀ b o, b ≠ P → H b = some o → H1 b = some o) → LamX.Tabs T H1 → TT (upTo t σ) H1 Q) := by
  refine ⟨fun ps s σ H Q I ⟨hT, h⟩ => wpAny_Call_Name_kw (ld_glob I hg hm (PySem.W.callWith_K (h₀ := X.base) I.ok.mod.kin hk ?_ (by rfl) (by rfl)) hdb)⟩
  show wpAny _ X.A (spliced ((false, eval (.Lambda params body scope lpos) X.env) :: backTo pos (starEach [] X.env))) _ _ s
  refine Calls.spliced_cons (door_made I TB hcode hmT hu hT hdef (L.has I.ok) fun f c' pm' ctv H1 s' I1 eN T1 hf hfn hfr hco => Calls.spliced_nil ⟨I1.kIn, ?_⟩)
  have rc : codeAny (model X.prog X.w) X.A (.call (.ref g) ⟨[.ref f], []⟩) (CR C8.CX0 X.stack X.prog X.w H1 s' Q C8.E0) s' := by
    refine LamX.run_ofS (N := Ng) (ps := [a]) (us := [.ref f]) (vs := [.ref f]) lk hcg Sg hr I1.env0 (hb s' [.ref f] I1.kIn rfl) (.cons rfl .nil) rfl fun hr' => ?_
    obtain ⟨t', ht', hq'⟩ := hG f c' s' H1 Q (upTo t σ) (fun W pn xe p1 p2 tk => pe_upTo (door_call (i := 0) I1 L hf hfn hfr (hbind _ _ _ _ _) tk hr' (fun A outer s H E hr2 => hbody A outer s H E f c' hr2) hNg hva hd hcd)) (fun E E' M Q Q' n m ⟨E0, Q0, n0, m0, z⟩ => ⟨E0, Q0, fun _ _ _ y => n _ _ _ (n0 _ _ _ y), fun v M' y => m v M' (m0 v M' y), z⟩) hco (h H1 eN T1)
    exact ⟨t', ht'.nox, hq'⟩
  refine wpAny_call (codeAny_mono rc fun r s2 hq => ?_)
  cases r with
  | error e => exact (show False from hq).elim
  | ok fl =>
    cases fl with
    | ret u => exact I1.after hq
    | next => exact hq.elim
    | brk => exact hq.elim
    | cont => exact hq.elim
end Dt

set_option Elab.async false
set_option linter.all false
set_option maxRecDepth 100000
set_option maxHeartbeats 800000
/-! try: found = ("told", door()) except A as e: found = (kin(e), e.f) .. except C as e: found = kin(e) -/
namespace Dt
open PySem PySem.Spec PyProof.Rows HotX L2
/-- e.n of a known exception -/
theorem pek_fld {X : Cx} {e : Expr} {te : TE} {pos : Pos} {n : Str} (he : PE X e te) (hb : attributeBase e n X.env (eval e X.env) = eval e X.env := by rfl) :
    PE X (.Attribute e n pos) (fun σ H Q => te σ H fun x H1 => ∃ (a C dd : Addr) (fs : List (Str × V)) (v : V), x = .ref a ∧ KnownE X.K H1 a C (some dd) ∧ XfC X.K C ∧ PySem.W.findIn X.K (.ref C) n = some none ∧ H1 dd = some (.xd fs) ∧ fs.lookup n = some v ∧ Q v H1) := by
  refine ⟨fun ps s σ H Q I h => attr_of hb (thn (he.run ps s σ H _ I h) fun u s1 hh => ?_)⟩
  obtain ⟨x, H1, I1, rx, a, C, dd, fs, v, ex, k, T, hno, hx, hl, q⟩ := hh
  subst ex
  obtain rfl : u = Value.ref a := rx
  obtain ⟨⟨o, vs, g, h1, h2, h3, _⟩, _, _⟩ := I1.hok a _ k.at_
  obtain ⟨mA, ns, rel⟩ := (I1.hok dd _ hx : ObjOk X.prog X.w H1 s1.heap dd (.xd fs))
  obtain ⟨od, go, look⟩ := lookIn_ns ns
  obtain ⟨u, hu, ru⟩ := RelO.some_of (v := v) (o := mA n) (by rw [← hl]; exact rel n)
  exact HandSPX.exc_get I1.kIn ⟨g, h1, by unfold PySem.W.notCls; rw [h3] <;> rfl, by rw [h2]; exact go⟩ T.ga T.gg T.exC (PySem.W.findObj_own T.hdC hno rfl (by rw [look, hu])) (handed_of ru) ⟨v, H1, I1.tok _, ru, q⟩
/-- the def x tells the kinds bs of an exception of the class C -/
structure KinOk (P : Program) (w : World) (K : PySem.W.Frag) (mg : Str → Option Value) (base : Heap) (x : Str) (KC : Addr → List Bool → Prop) : Prop where
  ex : ∃ (f : Addr) (fd : FuncData) (en : Str), mg x = some (.ref f) ∧ PySem.W.keepIn K (.ref f) = true ∧ Binds K fd [en] [] ∧ ∀ (A : Around) (outer : List Env) (s : Shared) (H : Hp) (args : Args) (us : List Value) (a C : Addr) (bs : List Bool) (d : Option Addr) (Q : VK), KC C bs → L2H.RoomH 1 A → A.handled = some (.ref a) → KnownE K H a C d →
    Env0 P w K mg base A outer s H → BindsTo s fd args ([en].zip us) → Vals [.ref a] us → (∀ H', Same H H' → Q (.str (kinStr bs)) H') → codeAny (model P w) A (.call (.ref f) args) (CR C8.CX0 outer P w H s Q C8.E0) s
theorem pe_kin {X : Cx} {x en : Str} {KC : Addr → List Bool → Prop} {a : Addr} {i : Nat} {p q pos : Pos} (kin : KinOk X.prog X.w X.K X.mg X.base x KC) (hr : L2H.RoomH 1 X.A) (ha : X.A.handled = some (.ref a)) (hg : Gl X x) (hN : X.N[i]? = some en) (hv : Vis X.env.scope en) (hed : (en == ("__debug__" : Str)) = false) (hec : (en == ("__classdict__" : Str)) = false)
    (hdb : (x == ("__debug__" : Str)) = false := by decide) (hs : starEach [.Name en q] X.env = [(false, eval (.Name en q) X.env)] := by rfl) (hpl : (backTo pos (starEach ([] : List Expr) X.env)).any (·.1) = false := by rfl) :
    PE X (.Call (.Name x p) [.Name en q] [] pos) (fun σ H Q => ∃ (C : Addr) (bs : List Bool) (d : Option Addr), σ[i]? = some (some (.ref a)) ∧ KC C bs ∧ KnownE X.K H a C d ∧ ∀ H', Same H H' → Q (.str (kinStr bs)) H') := by
  obtain ⟨f, fd, e0, hm, hk, hb, run⟩ := kin.ex
  have ar : PA X [.Name en q] (tCons (tVar i) tNil) := pa_cons (pv (pos := q) i hN hv hed hec) pa_nil hs
  refine ⟨fun ps s σ H Q I ⟨C, bs, d, q1, q2, q3, w⟩ => wpAny_Call_Name_kw (ld_glob I hg hm (PySem.W.callWith_K (h₀ := X.base) I.ok.mod.kin hk (thn (ar.run pos ps s σ H (fun vs H1 => vs = [.ref a] ∧ H1 = H) I ⟨.ref a, q1, rfl, rfl⟩) fun us s1 hh => ?_) hs hpl) hdb)⟩
  obtain ⟨vs, H1, I1, r, ev, eH⟩ := hh
  subst ev
  rw [eH] at I1
  have b := hb s1 us I1.kIn (by rw [List.append_nil]; exact r.length.symm)
  rw [List.append_nil] at b
  refine ⟨I1.kIn, wpAny_call (codeAny_mono (run X.A X.stack s1 H ⟨us, []⟩ us a C bs d Q q2 hr ha q3 I1.env0 b r w) fun r s2 hq => ?_)⟩
  cases r with
  | error e => exact (show False from hq).elim
  | ok fl =>
    cases fl with
    | ret u => exact I1.after hq
    | next => exact hq.elim
    | brk => exact hq.elim
    | cont => exact hq.elim
end Dt
namespace Dt
open PySem PySem.Spec PyProof.Rows HotX L2
/-- the facts of such a def's names -/
structure TryNames (X : Cx) (KC : Addr → List Bool → Prop) (kn cT fT cX fX cA : Str) (CT CX' CA : Addr) : Prop where
  nd : X.N.Nodup
  N0 : X.N[0]? = some ("door" : Str)
  N1 : X.N[1]? = some ("found" : Str)
  N2 : X.N[2]? = some ("e" : Str)
  l1 : Loc X.env.scope "found"
  v1 : Vis X.env.scope "found"
  v2 : Vis X.env.scope "e"
  k2 : X.env.kindOf "e" = some .local
  f1 : X.fn ("found" : Str) = true ∨ X.env.scope.names.lookup ("found" : Str) = some .local
  gk : Gl X kn
  nT : Names X cT (.ref CT)
  nX : Names X cX (.ref CX')
  nA : Names X cA (.ref CA)
  dk : (kn == ("__debug__" : Str)) = false
/-- what the def makes of the lambda's reading -/
def TTry (K : PySem.W.Frag) (KC : Addr → List Bool → Prop) (fT fX : Str) (CT CX' CA : Addr) : (XK → Hp → VK → Prop) → Hp → VK → Prop := fun tl H Q =>
  tl (fun cls d M => ∃ (C : Addr) (bs : List Bool), cls = .ref C ∧ XCls K C ∧ KC C bs ∧ (∀ x, d = some x → ∃ fs, M x = some (.xd fs)) ∧ ∃ bT bX : Bool, PySem.W.exmOne K (.ref C) (.ref CT) = some bT ∧
      (bT = true → ∃ (dd : Addr) (fs : List (Str × V)) (v : V), d = some dd ∧ M dd = some (.xd fs) ∧ XfC K C ∧ PySem.W.findIn K (.ref C) fT = some none ∧ fs.lookup fT = some v ∧ ∀ p M', Same M M' → M p = none → M' p = some (.tup [.str (kinStr bs), v]) → Q (.ref p) M') ∧
      (bT = false → PySem.W.exmOne K (.ref C) (.ref CX') = some bX ∧
        (bX = true → ∃ (dd : Addr) (fs : List (Str × V)) (v : V), d = some dd ∧ M dd = some (.xd fs) ∧ XfC K C ∧ PySem.W.findIn K (.ref C) fX = some none ∧ fs.lookup fX = some v ∧ ∀ p M', Same M M' → M p = none → M' p = some (.tup [.str (kinStr bs), v]) → Q (.ref p) M') ∧
        (bX = false → PySem.W.exmOne K (.ref C) (.ref CA) = some true ∧ ∀ M', Same M M' → Q (.str (kinStr bs)) M'))) H
    (fun v M => ∀ p M', Same M M' → M p = none → M' p = some (.tup [.str "told", v]) → Q (.ref p) M')
section
variable {X : Cx} {KC : Addr → List Bool → Prop} {kn cT fT cX fX cA : Str} {CT CX' CA : Addr}
/-- found = (kin(e), e.f) -/
def tSuF (K : PySem.W.Frag) (KC : Addr → List Bool → Prop) (fl : Str) (a : Addr) : TS := fun D σ M => ∃ (C : Addr) (bs : List Bool) (dd : Addr) (fs : List (Str × V)) (v : V), σ[2]? = some (some (.ref a)) ∧ KC C bs ∧ KnownE K M a C (some dd) ∧ XfC K C ∧ PySem.W.findIn K (.ref C) fl = some none ∧ M dd = some (.xd fs) ∧ fs.lookup fl = some v ∧
  ∀ p M', Same M M' → M p = none → M' p = some (.tup [.str (kinStr bs), v]) → D.nx (σ.set 1 (some (.ref p))) M'
theorem suite_fld (T : TryNames X KC kn cT fT cX fX cA CT CX' CA) {a : Addr} {pn : List (Addr × Obj)} (kin : KinOk X.prog X.w X.K X.mg X.base kn KC) (hr : L2H.RoomH 1 X.A) {fl : Str} {kk} {p1 p2 p3 p4 p5 p6 p7 p8 : Pos}
    (s1 : starEach [.Name "e" p3] (X.suite a pn).env = [(false, eval (.Name "e" p3) (X.suite a pn).env)] := by rfl) (s2 : (backTo p4 (starEach ([] : List Expr) (X.suite a pn).env)).any (·.1) = false := by rfl) (s3 : attributeBase (.Name "e" p5) fl (X.suite a pn).env (eval (.Name "e" p5) (X.suite a pn).env) = eval (.Name "e" p5) (X.suite a pn).env := by rfl)
    (s4 : starEach [.Call (.Name kn p2) [.Name "e" p3] [] p4, .Attribute (.Name "e" p5) fl p6] (X.suite a pn).env = (false, eval (.Call (.Name kn p2) [.Name "e" p3] [] p4) (X.suite a pn).env) :: starEach [.Attribute (.Name "e" p5) fl p6] (X.suite a pn).env := by rfl) (s5 : starEach [.Attribute (.Name "e" p5) fl p6] (X.suite a pn).env = [(false, eval (.Attribute (.Name "e" p5) fl p6) (X.suite a pn).env)] := by rfl)
    (s6 : swapsWith (.Tuple [.Call (.Name kn p2) [.Name "e" p3] [] p4, .Attribute (.Name "e" p5) fl p6] kk p7) (some (.Name "found" p1)) p8.line (X.suite a pn).env = pure false := by rfl) :
    PSs (X.suite a pn) [.Assign [.Name "found" p1] (.Tuple [.Call (.Name kn p2) [.Name "e" p3] [] p4, .Attribute (.Name "e" p5) fl p6] kk p7) p8] (tSuF X.K KC fl a) := by
  have c := pe_kin (X := X.suite a pn) (i := 2) (p := p2) (q := p3) (pos := p4) kin ⟨hr.dp, hr.un⟩ (by show (some (Value.ref a)).or X.A.handled = _; rfl) T.gk T.N2 T.v2 (by decide) (by decide) T.dk s1 s2
  have f := pek_fld (X := X.suite a pn) (pos := p6) (n := fl) (pv (pos := p5) 2 T.N2 T.v2 (by decide) (by decide)) s3
  have t := ps_set (X := X.suite a pn) (pos := p8) (pos' := p1) T.nd T.N1 T.l1 (pe_tup (x1 := kk) (pos := p7) (pa_cons c (pa_cons f pa_nil s5) s4)) s6 T.f1
  refine ⟨fun ps s σ M D I ⟨C, bs, dd, fs, v, q1, q2, q3, q4, q5, q6, q7, w⟩ => (pss_one t).run ps s σ M D I ⟨C, bs, some dd, q1, q2, q3, fun M1 e1 => ⟨.ref a, q1, a, C, dd, fs, v, rfl, q3.same e1, q4, q5, e1 _ _ q6, q7, by show 2 ≤ sizeLine; rw [sizeLine_eq]; decide, fun p hp => ?_⟩⟩⟩
  exact w p _ (e1.trans (same_new hp)) (by cases h : M p with | none => rfl | some o => rw [e1 _ _ h] at hp; cases hp) upd_same
/-- found = kin(e) -/
def tSuK (K : PySem.W.Frag) (KC : Addr → List Bool → Prop) (a : Addr) : TS := fun D σ M => ∃ (C : Addr) (bs : List Bool) (d : Option Addr), σ[2]? = some (some (.ref a)) ∧ KC C bs ∧ KnownE K M a C d ∧ ∀ M', Same M M' → D.nx (σ.set 1 (some (.str (kinStr bs)))) M'
theorem suite_kin (T : TryNames X KC kn cT fT cX fX cA CT CX' CA) {a : Addr} {pn : List (Addr × Obj)} (kin : KinOk X.prog X.w X.K X.mg X.base kn KC) (hr : L2H.RoomH 1 X.A) {p1 p2 p3 p4 p8 : Pos}
    (s1 : starEach [.Name "e" p3] (X.suite a pn).env = [(false, eval (.Name "e" p3) (X.suite a pn).env)] := by rfl) (s2 : (backTo p4 (starEach ([] : List Expr) (X.suite a pn).env)).any (·.1) = false := by rfl)
    (s6 : swapsWith (.Call (.Name kn p2) [.Name "e" p3] [] p4) (some (.Name "found" p1)) p8.line (X.suite a pn).env = pure false := by rfl) :
    PSs (X.suite a pn) [.Assign [.Name "found" p1] (.Call (.Name kn p2) [.Name "e" p3] [] p4) p8] (tSuK X.K KC a) := by
  have c := pe_kin (X := X.suite a pn) (i := 2) (p := p2) (q := p3) (pos := p4) kin ⟨hr.dp, hr.un⟩ (by show (some (Value.ref a)).or X.A.handled = _; rfl) T.gk T.N2 T.v2 (by decide) (by decide) T.dk s1 s2
  have t := ps_set (X := X.suite a pn) (pos := p8) (pos' := p1) T.nd T.N1 T.l1 c s6 T.f1
  exact ⟨fun ps s σ M D I ⟨C, bs, d, q1, q2, q3, w⟩ => (pss_one t).run ps s σ M D I ⟨C, bs, d, q1, q2, q3, w⟩⟩
end
/-- the whole def -/
theorem try_def {X : Cx} {KC : Addr → List Bool → Prop} {kn x cT fT cX fX cA q : Str} {CT CX' CA g : Addr} {cdg : Value} {sg : Scope} {jn jt} {kk k1 k2} {z1 z2 z3 z4 z5 z6 z7 z8 z9 y0 y1 y2 a1 a2 a3 a4 a5 a6 a7 a8 a9 a0 b1 b2 b3 b4 b5 b6 b7 b8 b9 b0 c1 c2 c3 c4 c5 c6 c7 : Pos} {Ng : List Str}
    (T : ∀ (s : Shared) (H : Hp), TryNames (cxOf C8.CX0 X.prog X.w X.K X.mg X.base Ng x sg g cdg X.A X.stack s H C8.E0).nox KC kn cT fT cX fX cA CT CX' CA) (kin : KinOk X.prog X.w X.K X.mg X.base kn KC) (hr : ∀ s : Shared, L2H.RoomH 1 (X.A.deeper (PyProof.Rows.envOfC x sg s.heap.objs.size g cdg))) (hl : Ng.length = 3) :
    DoorDef X Ng x sg g cdg [.Assign [.Name "found" z1] (.Constant .none jn z2) z3,
      .Try [.Assign [.Name "found" z4] (.Tuple [.Constant (.str "told") jt z5, .Call (.Name "door" z6) [] [] z7] kk z8) z9]
        [.ExceptHandler (some (.Name cT a1)) (some "e") [.Assign [.Name "found" a2] (.Tuple [.Call (.Name kn a3) [.Name "e" a4] [] a5, .Attribute (.Name "e" a6) fT a7] k1 a8) a9] a0,
          .ExceptHandler (some (.Name cX b1)) (some "e") [.Assign [.Name "found" b2] (.Tuple [.Call (.Name kn b3) [.Name "e" b4] [] b5, .Attribute (.Name "e" b6) fX b7] k2 b8) b9] b0,
          .ExceptHandler (some (.Name cA c1)) (some "e") [.Assign [.Name "found" c2] (.Call (.Name kn c3) [.Name "e" c4] [] c5) c6] c7] [] [] y0,
      .Return (some (.Name "found" y1)) y2] "door" q (TTry X.K KC fT fX CT CX' CA) := by
  intro f c' s H Q tl act mono hc h
  have t := T s H
  have hL : (L2.start Ng [V.ref f]).length = 3 := by unfold L2.start; rw [List.length_append, List.length_map, List.length_replicate, hl]; rfl
  have h0 : (L2.start Ng [V.ref f])[0]? = some (some (.ref f)) := rfl
  generalize hY : (cxOf C8.CX0 X.prog X.w X.K X.mg X.base Ng x sg g cdg X.A X.stack s H C8.E0) = Y0 at *
  have eK : Y0.K = X.K := by rw [← hY]; rfl
  have kin' : KinOk Y0.prog Y0.w Y0.K Y0.mg Y0.base kn KC := by rw [← hY]; exact kin
  have hr' : L2H.RoomH 1 Y0.A := by rw [← hY]; exact hr s
  have st : Y0.stack = Y0.env :: Y0.outer ∧ Y0.env.frame = some Y0.env.locals ∧ Y0.ex = [] := by rw [← hY]; exact ⟨rfl, rfl, rfl⟩
  have body : ∀ (W : WX) (pn : List (Addr × Obj)) (xe : Value → Shared → Prop), L2N.Takes (Y0.nox.tr pn xe) W → PassesOwn (model Y0.nox.prog Y0.nox.w) Y0.nox.A Y0.nox.env xe → PSs (Y0.nox.tr pn xe) [.Assign [.Name "found" z4] (.Tuple [.Constant (.str "told") jt z5, .Call (.Name "door" z6) [] [] z7] kk z8) z9]
      (fun D σ M => σ[0]? = some (some (.ref f)) ∧ M c' = some (LamX.CodeO c' q) ∧ tl (fun cls d N => W cls d σ N) M fun v M' => ∀ p, M' p = none → D.nx (σ.set 1 (some (.ref p))) (upd M' p (.tup [.str "told", v]))) := fun W pn xe tk _ => by
    have hp : PE (Y0.nox.tr pn xe) (.Call (.Name "door" z6) [] [] z7) _ := act W pn xe z6 z7 tk
    have st := ps_set (X := Y0.nox.tr pn xe) (pos := z9) (pos' := z4) t.nd t.N1 t.l1 (pe_tup (x1 := kk) (pos := z8) (pa_cons (pe_str (x := "told") (j := jt) (pos := z5)) (pa_cons hp pa_nil))) rfl t.f1
    exact ⟨fun ps s' σ M D I ⟨h1, h2, h3⟩ => (pss_one st).run ps s' σ M D I ⟨h1, h2, mono _ _ _ _ _ (fun _ _ _ y => y) (fun v M' y => ⟨by show 2 ≤ sizeLine; rw [sizeLine_eq]; decide, fun p hp => y p hp⟩) h3⟩⟩
  have hd : HdsN Y0.nox _ [(.ref CT, 2, fun a _ _ => tSuF Y0.K KC fT a), (.ref CX', 2, fun a _ _ => tSuF Y0.K KC fX a), (.ref CA, 2, fun a _ _ => tSuK Y0.K KC a)] :=
    .cons (p := a1) (p' := a0) t.nT t.N2 t.k2 (fun a cls d pn => suite_fld (X := Y0.nox) (kk := k1) (p1 := a2) (p2 := a3) (p3 := a4) (p4 := a5) (p5 := a6) (p6 := a7) (p7 := a8) (p8 := a9) t kin' hr')
      (.cons (p := b1) (p' := b0) t.nX t.N2 t.k2 (fun a cls d pn => suite_fld (X := Y0.nox) (kk := k2) (p1 := b2) (p2 := b3) (p3 := b4) (p4 := b5) (p5 := b6) (p6 := b7) (p7 := b8) (p8 := b9) t kin' hr')
        (.cons (p := c1) (p' := c7) t.nA t.N2 t.k2 (fun a cls d pn => suite_kin (X := Y0.nox) (p1 := c2) (p2 := c3) (p3 := c4) (p4 := c5) (p8 := c6) t kin' hr') .nil))
  have s1 := ps_set (X := Y0.nox) (pos := z3) (pos' := z1) t.nd t.N1 t.l1 (pe_non (j := jn) (pos := z2)) rfl t.f1
  have s2 := pst_named (X := Y0.nox) (pos := y0) (Wout := fun _ _ _ _ => False) st.1 st.2.1 st.2.2 t.nd (fun u s' ⟨_, _, _, _, _, _, _, _, _, _, _, _, _, _, _, _, z⟩ => z.elim) body hd
  have s3 := ps_ret (X := Y0.nox) (pos := y2) (pv (pos := y1) 1 t.N1 t.v1 (by decide) (by decide))
  refine ⟨_, pss_cons s1 (pss_cons s2 (pss_one s3)), ?_⟩
  have l2 : ∀ (v : Option V), ((L2.start Ng [V.ref f]).set 1 v).length = 3 := fun v => by rw [List.length_set]; exact hL
  refine ⟨by rw [List.getElem?_set_ne (by decide)]; exact h0, hc, mono _ _ _ _ _ (fun cls d M hx => ?_) (fun v M hv p hp => ⟨.ref p, List.getElem?_set_self (by rw [l2]; decide), hv p _ (same_new hp) hp upd_same⟩) h⟩
  obtain ⟨C, bs, rfl, xc, kc, dx, bT, bX, e1, hT, hF⟩ := hx
  have put : ∀ (v w : Option V), ((((L2.start Ng [V.ref f]).set 1 v).set 2 w)[2]? = some w) := fun v w => List.getElem?_set_self (by rw [l2]; decide)
  have at1 : ∀ (v w : Option V) (u : V), (((((L2.start Ng [V.ref f]).set 1 v).set 2 w).set 1 (some u)).set 2 none)[1]? = some (some u) := fun v w u => by
    rw [List.getElem?_set_ne (by decide), List.getElem?_set_self (by rw [List.length_set, l2]; decide)]
  have known : ∀ (a : Addr) (d : Option Addr), M a = none → (∀ x, d = some x → ∃ fs, M x = some (.xd fs)) → KnownE Y0.K (upd M a (ExcN a (.ref C) d)) a C d := fun a d na hd => ⟨upd_same, fun x hx => let ⟨fs, y⟩ := hd x hx; ⟨fs, same_new na _ _ y⟩, eK ▸ xc⟩
  refine ⟨bT, by rw [eK]; exact e1, fun hb a na => ?_, fun hb => ?_⟩
  · obtain ⟨dd, fs, v, rfl, q1, q2, q3, q4, w⟩ := hT hb
    exact ⟨C, bs, dd, fs, v, put _ _, kc, known a _ na dx, by rw [eK]; exact q2, by rw [eK]; exact q3, same_new na _ _ q1, q4, fun p M' s fp g => ⟨.ref p, at1 _ _ _, w p M' ((same_new na).trans s) (by cases y : M p with | none => rfl | some o => rw [same_new na _ _ y] at fp; cases fp) g⟩⟩
  · obtain ⟨e2, hX, hA⟩ := hF hb
    refine ⟨bX, by rw [eK]; exact e2, fun hb2 a na => ?_, fun hb2 => ?_⟩
    · obtain ⟨dd, fs, v, rfl, q1, q2, q3, q4, w⟩ := hX hb2
      exact ⟨C, bs, dd, fs, v, put _ _, kc, known a _ na dx, by rw [eK]; exact q2, by rw [eK]; exact q3, same_new na _ _ q1, q4, fun p M' s fp g => ⟨.ref p, at1 _ _ _, w p M' ((same_new na).trans s) (by cases y : M p with | none => rfl | some o => rw [same_new na _ _ y] at fp; cases fp) g⟩⟩
    · obtain ⟨e3, w⟩ := hA hb2
      exact ⟨true, by rw [eK]; exact e3, fun _ a na => ⟨C, bs, d, put _ _, kc, known a _ na dx, fun M' s => ⟨.str (kinStr bs), at1 _ _ _, w M' ((same_new na).trans s)⟩⟩, fun z => nomatch z⟩
end Dt

set_option Elab.async false
set_option linter.all false
set_option maxRecDepth 100000
set_option maxHeartbeats 800000
/-! The layer's judgements where tables of code objects are known. -/
namespace Dl
open PySem L2 Dt
section
variable {K : PySem.W.Frag} {B : Bs} {G H G' H' : Hp} {σ : L2.St} {ρ : Rho}
/-- nothing but the table at P changes -/
theorem EnvAt.tabs (e : EnvAt K B G H σ ρ) {P : Addr} {q : Str} (hP : (P, q) ∈ B.T) (k : ∀ b o, b ≠ P → H b = some o → H' b = some o) (t : LamX.Tabs B.T H') : EnvAt K B G H' σ ρ := by
  obtain ⟨t1, t2, j, t3⟩ := e.tb _ hP
  obtain ⟨ps, tP, _⟩ := t1
  have nG : ∀ b o, G b = some o → b ≠ P := fun b o h z => by rw [z, t2] at h; cases h
  refine ⟨e.len, e.gg, fun b o h => k b o (nG b o h) (e.gh b o h), fun b o h1 h2 => k b o (fun z => h2 j (z ▸ t3)) (e.fr b o h1 h2), e.nw, fun i p h => ?_, fun i s h => ?_, e.ap, fun p hp => ?_⟩
  · by_cases hp : p = P
    · rw [hp]
      exact tab_ne (t _ hP)
    · obtain ⟨o, ho⟩ := ne_some (e.lv i p h)
      rw [k p o hp ho]
      exact fun z => nomatch z
  · have z := e.sl i s h
    cases s with
    | own b ds =>
      obtain ⟨p, vs, z1, z2, z3, z4, z5⟩ := z
      exact ⟨p, vs, z1, z2, k p _ (fun y => by rw [y, tP] at z3; cases z3) z3, z4, z5⟩
    | non => trivial
    | sh d => exact z
    | raw v => exact z
  · obtain ⟨_, q2, q3⟩ := e.tb p hp
    exact ⟨t p hp, q2, q3⟩
/-- a lambda's body sees no list of one's own -/
def Slot.hide : Slot → Slot
  | .own _ _ => .non
  | s => s
theorem EnvAt.door (e : EnvAt K B G H σ ρ) : EnvAt K ⟨G, H, fun _ _ => False, []⟩ G H σ (ρ.map Slot.hide) := by
  have no : ∀ i p, ¬ OwnAt (ρ.map Slot.hide) σ i p := fun i p ⟨b, ds, h1, _⟩ => by
    rw [List.getElem?_map] at h1
    obtain ⟨s0, _, h2⟩ := Option.map_eq_some_iff.mp h1
    cases s0 <;> cases h2
  refine ⟨by rw [List.length_map]; exact e.len, Same.refl _, e.gh, fun b o h _ => h, fun b _ h => h, fun i p h => h.elim, fun i s h => ?_, fun i j p h1 _ => absurd h1 (no i p), fun p hp => nomatch hp⟩
  rw [List.getElem?_map] at h
  obtain ⟨s0, h1, rfl⟩ := Option.map_eq_some_iff.mp h
  have z := e.sl i s0 h1
  cases s0 with
  | own b ds => trivial
  | non => trivial
  | sh d => exact z
  | raw v => exact z
theorem EnvAt.undoor (e : EnvAt K B G H σ ρ) {ρ' : Rho} (s : Same G G') (e' : EnvAt K ⟨G, H, fun _ _ => False, []⟩ G' H' σ ρ') : EnvAt K B G' H' σ ρ :=
  e.ext ⟨s, fun b o h => e'.fr b o h fun _ z => z, e'.gh, fun b h1 h2 => e'.nw b h1 h2⟩
end
/-- the reading of a judgement, whatever its context's state -/
def canon (K : PySem.W.Frag) (mg : Str → Option Value) (f : Rho → Rs PyData) (E : XK) : TE := fun σ H Q => ∃ B G ρ, EnvAt K B G H σ ρ ∧ Want mg B E (f ρ) (KE' K B G σ Q)
theorem pe_canon {X : Cx} {E : XK} {e : Expr} {f : Rho → Rs PyData} (h : PD X E e f) : PE X e (canon X.K X.mg f E) := by
  obtain ⟨t, h1, w⟩ := h
  exact ⟨fun ps s σ H Q I ⟨B, G, ρ, en, q⟩ => h1.run ps s σ H Q I (w B G H σ ρ Q en q)⟩
/-! ### kinds of exceptions -/
def excNames : List Str := ["InvalidAtlas", "InvalidCell", "InvalidWalk", "InvalidRule", "InvalidPage", "InvalidNumber", "InvalidShare", "InvalidTable", "InvalidHeard", "Unlike", "NothingToUndo", "TooMany", "InvalidText"]
def kinB (x : Str) : List Bool := excNames.map (fun y => decide (y = x)) ++ [true]
def kinS (x : Str) : Str := kinStr (kinB x)
def kinD (e : Exn) : Option PyData := match e.fld with
  | none => if e.cls ∈ excNames ∧ e.cls ≠ "TooMany" ∧ e.cls ≠ "InvalidText" then some (.str (kinS e.cls)) else none
  | some (f, i) => if (e.cls = "TooMany" ∧ f = "limit") ∨ (e.cls = "InvalidText" ∧ f = "line") then some (.tuple [.str (kinS e.cls), .int i]) else none
structure KinF (K : PySem.W.Frag) (mg : Str → Option Value) (KC : Addr → List Bool → Prop) (CT CX' CA : Addr) : Prop where
  ex : ∀ x ∈ excNames, ∀ C, mg x = some (.ref C) → XCls K C ∧ KC C (kinB x) ∧ PySem.W.exmOne K (.ref C) (.ref CT) = some (decide (x = "TooMany")) ∧ PySem.W.exmOne K (.ref C) (.ref CX') = some (decide (x = "InvalidText")) ∧ PySem.W.exmOne K (.ref C) (.ref CA) = some true ∧
    (x = "TooMany" → XfC K C ∧ PySem.W.findIn K (.ref C) "limit" = some none) ∧ (x = "InvalidText" → XfC K C ∧ PySem.W.findIn K (.ref C) "line" = some none)
/-- what the def that tries tells -/
def eTry (f : Rho → Rs PyData) : Rho → Rs PyData := fun ρ => match f (ρ.map Slot.hide) with
  | .ok d _ => .ok (.tuple [.str "told", d]) ρ
  | .ex e => opt (kinD e) ρ
  | .bad => .bad
/-- judgements for bodies whose tables are T -/
def PDL (T : List (Addr × Str)) (X : Cx) (E : XK) (e : Expr) (f : Rho → Rs PyData) : Prop := ∃ t, PE X e t ∧ ∀ B G H σ ρ Q, B.T = T → EnvAt X.K B G H σ ρ → Want X.mg B E (f ρ) (KE' X.K B G σ Q) → t σ H Q
def PDTL (T : List (Addr × Str)) (X : Cx) (E : XK) (e : Expr) (f : Rho → Rs Bool) : Prop := ∃ t, PT X e t ∧ ∀ B G H σ ρ Q, B.T = T → EnvAt X.K B G H σ ρ → Want X.mg B E (f ρ) (KT' X.K B G σ Q) → t σ H Q
def PDWL (T : List (Addr × Str)) (X : Cx) (E : XK) (e : Expr) (f : Rho → Rs Bool) : Prop := ∃ t, PW X e t ∧ ∀ B G H σ ρ Q, B.T = T → EnvAt X.K B G H σ ρ → Want X.mg B E (f ρ) (KT' X.K B G σ Q) → t σ H Q
def PDSL (T : List (Addr × Str)) (X : Cx) (E : XK) (st : Stmt) (f : Rho → Rs Fl) : Prop := ∃ t, PS X st t ∧ ∀ B G H σ ρ D, B.T = T → EnvAt X.K B G H σ ρ → Want X.mg B E (f ρ) (KS X.K B G D) → t D σ H
def PDsL (T : List (Addr × Str)) (X : Cx) (E : XK) (st : List Stmt) (f : Rho → Rs Fl) : Prop := ∃ t, PSs X st t ∧ ∀ B G H σ ρ D, B.T = T → EnvAt X.K B G H σ ρ → Want X.mg B E (f ρ) (KS X.K B G D) → t D σ H
section
variable {T : List (Addr × Str)} {X : Cx} {E : XK} {e a b c : Expr} {pos : Pos}
theorem PD.l {f : Rho → Rs PyData} (h : PD X E e f) : PDL T X E e f := let ⟨t, p, w⟩ := h; ⟨t, p, fun B G H σ ρ Q _ => w B G H σ ρ Q⟩
theorem PDT.l {f : Rho → Rs Bool} (h : PDT X E e f) : PDTL T X E e f := let ⟨t, p, w⟩ := h; ⟨t, p, fun B G H σ ρ Q _ => w B G H σ ρ Q⟩
theorem PDS.l {st : Stmt} {f : Rho → Rs Fl} (h : PDS X E st f) : PDSL T X E st f := let ⟨t, p, w⟩ := h; ⟨t, p, fun B G H σ ρ Q _ => w B G H σ ρ Q⟩
theorem PDs.l {st : List Stmt} {f : Rho → Rs Fl} (h : PDs X E st f) : PDsL T X E st f := let ⟨t, p, w⟩ := h; ⟨t, p, fun B G H σ ρ Q _ => w B G H σ ρ Q⟩
/-- x(lambda: body), x the def that tries -/
theorem pdl_try {KC : Addr → List Bool → Prop} {CT CX' CA : Addr} {x ar : Str} {g cc P : Addr} {k : Nat} {pg : Arguments} {bg : List Stmt} {sg : Scope} {dV kV doc pm cdv ct oc : Value} {an od : Option Addr} {osl : Array (Option Value)} {Ng : List Str} {params : Arguments} {body : Expr} {scope : Scope} {fe : Rho → Rs PyData} {p lpos : Pos}
    (kf : KinF X.K X.mg KC CT CX' CA) (hg : Gl X x) (hm : X.mg x = some (.ref g)) (hk : PySem.W.keepIn X.K (.ref g) = true) (lk : X.K.lookup g = some ⟨oc, od, .func (PySem.W.fnOf x x pg bg sg dV kV doc pm an cdv ct), osl⟩) (hcg : PySem.W.codeIn X.K cdv x = true) (hb : L2.Binds X.K (PySem.W.fnOf x x pg bg sg dV kV doc pm an cdv ct) [ar] [])
    (Sg : FnScope Ng [ar] sg) (hNg : Ng[0]? = some ar) (hva : Vis sg ar) (hG : DoorDef X Ng x sg g cdv bg ar (lamName X) (TTry X.K KC "limit" "line" CT CX' CA)) (TB : LamX.TabB X.base X.mg cc P) (hcode : X.env.code = .ref cc) (hmT : (P, lamName X) ∈ T) (hu : ∀ p ∈ T, p.1 = P → p.2 = lamName X) (hr : Room (k + 2) X.A) (L : LamX.LamS X.env.scope scope) (hdef : defaultsOf params X.env = ([], []))
    (hbind : ∀ (q : Str) (cl : List (Str × Addr)) (pm cv ctv : Value), bindArgs (PySem.W.kla_fn "<lambda>" q params body scope cl pm cv ctv) ⟨[], []⟩ = pure []) (hbody : ∀ (A : Around) (outer : List Env) (s : Shared) (H : Hp) (E : XK) (f c' : Addr), Room k (A.deeper (LamX.lamEnv X scope s.heap.objs.size f c')) → PD (doorCx X A outer s H E scope f c') E body fe)
    (hdb : (x == ("__debug__" : Str)) = false := by decide) (hd : (ar == ("__debug__" : Str)) = false := by decide) (hcd : (ar == ("__classdict__" : Str)) = false := by decide) : PDL T X E (.Call (.Name x p) [.Lambda params body scope lpos] [] pos) (eTry fe) := by
  have d := pe_door (T := T) (t := canon X.K X.mg fe) (p := p) (lpos := lpos) (pos := pos) hg hm hk lk hcg hb Sg hNg hva hG TB hcode hmT hu hr L hdef hbind (fun A outer s H E f c' hr => pe_canon (hbody A outer s H E f c' hr)) hdb hd hcd
  refine ⟨_, d, fun B G H σ ρ Q hT en w => ?_⟩
  subst hT
  refine ⟨fun p hp => (en.tb p hp).1, fun H1 k1 t1 => ?_⟩
  have en1 := en.tabs hmT k1 t1
  refine ⟨_, _, fun _ _ _ z => z, fun _ _ z => z, ⟨G, H1, fun _ _ => False, []⟩, G, ρ.map Slot.hide, en1.door, ?_⟩
  have put : ∀ {G' H' M' : Hp} {p : Addr} {o : HO}, EnvAt X.K B G' H' σ ρ → Same H' M' → H' p = none → M' p = some o → EnvAt X.K B (upd G' p o) M' σ ρ ∧ Same G' (upd G' p o) := fun {G' H' M' p o} e s hp hM => by
    have gp := e.gh.free hp
    refine ⟨e.ext ⟨same_upd gp, s, fun b u h => ?_, fun b h1 h2 => ?_⟩, same_upd gp⟩
    · by_cases hb : b = p
      · subst hb
        rw [upd_same] at h
        cases h
        exact hM
      · rw [upd_ne hb] at h
        exact s _ _ (e.gh _ _ h)
    · have : b ≠ p := fun z => h1 (z ▸ hp)
      rw [upd_ne this]
      exact h2
  unfold eTry at w
  cases q : fe (ρ.map Slot.hide) with
  | bad =>
    rw [q] at w
    exact w.elim
  | ok d ρ' =>
    rw [q] at w
    intro G' H' v sG e' dv p M' sM fp gM
    obtain ⟨e2, sg⟩ := put (en1.undoor sG e') sM fp gM
    exact w _ M' _ (sG.trans sg) e2 (.tup (.of upd_same) (.cons (.str _) (.cons (Dpm sg dv) .nil)))
  | ex x =>
    rw [q] at w
    have w : Want X.mg B E (opt (kinD x) ρ) (KE' X.K B G σ Q) := w
    intro H' u dx fr ea
    obtain ⟨C, rfl, hC, hf⟩ := ea
    have sH : Same H1 H' := fun b o h => fr b o h fun _ z => z
    have e3 : EnvAt X.K B G H' σ ρ := en1.ext (Ext.heap en1.gh sH)
    obtain ⟨cls, fld⟩ := x
    unfold kinD at w
    cases fld with
    | none =>
      simp only at w hf hC
      split at w
      · rename_i hc
        obtain ⟨k1, k2, k3, k4, k5, _, _⟩ := kf.ex cls hc.1 C hC
        rw [decide_eq_false hc.2.1] at k3
        rw [decide_eq_false hc.2.2] at k4
        refine ⟨C, _, rfl, k1, k2, (fun x hx => by rw [hf] at hx; cases hx), false, false, k3, fun z => Bool.noConfusion z, fun _ => ⟨k4, fun z => Bool.noConfusion z, fun _ => ⟨k5, fun M' sM => ?_⟩⟩⟩
        exact w G M' _ (Same.refl _) (e3.ext (Ext.heap e3.gh sM)) (.str _)
      · exact w.elim
    | some fi =>
      obtain ⟨f, i⟩ := fi
      simp only at w hf hC
      obtain ⟨ax, rfl, hx⟩ := hf
      split at w
      · rename_i hc
        have fin : ∀ p M', Same H' M' → H' p = none → M' p = some (.tup [.str (kinStr (kinB cls)), .int i]) → Q (.ref p) M' := fun p M' sM fp gM => by
          obtain ⟨e2, sg⟩ := put e3 sM fp gM
          exact w _ M' _ sg e2 (.tup (.of upd_same) (.cons (.str _) (.cons (.int _) .nil)))
        rcases hc with ⟨rfl, rfl⟩ | ⟨rfl, rfl⟩
        · obtain ⟨k1, k2, k3, k4, k5, k6, _⟩ := kf.ex "TooMany" (by decide +kernel) C hC
          exact ⟨C, _, rfl, k1, k2, (fun x hx' => by cases hx'; exact ⟨_, hx⟩), true, false, k3, fun _ => ⟨ax, _, .int i, rfl, hx, (k6 rfl).1, (k6 rfl).2, rfl, fin⟩, fun z => Bool.noConfusion z⟩
        · obtain ⟨k1, k2, k3, k4, k5, _, k7⟩ := kf.ex "InvalidText" (by decide +kernel) C hC
          exact ⟨C, _, rfl, k1, k2, (fun x hx' => by cases hx'; exact ⟨_, hx⟩), false, true, k3, fun z => Bool.noConfusion z, fun _ => ⟨k4, fun _ => ⟨ax, _, .int i, rfl, hx, (k7 rfl).1, (k7 rfl).2, rfl, fin⟩, fun z => Bool.noConfusion z⟩⟩
      · exact w.elim
end
end Dl

set_option Elab.async false
set_option linter.all false
set_option maxRecDepth 100000
set_option maxHeartbeats 800000
namespace Dl
open PySem L2 Dt
section
variable {T : List (Addr × Str)} {X : Cx} {E : XK} {e a b : Expr} {rest : List Expr} {pos : Pos} {st : Stmt} {sts : List Stmt} {f g : Rho → Rs Fl} {fa fb : Rho → Rs PyData} {ta tb : Rho → Rs Bool}
theorem pdtl_cmp {op : CmpOp} {p : PyData → PyData → Option PyData} (ho : P2 X (compareOp op) p) (ha : PDL T X E a fa) (hb : PD X E b fb) (hm : behindInMarks op b = false := by first | exact nomark _ | rfl) : PDTL T X E (.Compare a [op] [b] pos) (eT (eBin p fa fb)) := by
  obtain ⟨t1, h1, w1⟩ := ha
  obtain ⟨t2, h2, w2⟩ := hb
  refine ⟨_, pt_cmpR ho h1 h2 hm, fun B G H σ ρ Q hT en w => ?_⟩
  have w := w.andThen
  refine w1 B G H σ ρ _ hT en (w.andThen.mono fun a ρ1 _ w' G1 H1 v s1 en1 d1 => ?_)
  refine w2 B G1 H1 σ ρ1 _ en1 (w'.andThen.mono fun b ρ2 _ w'' G2 H2 u s2 en2 d2 => ?_)
  unfold opt at w''
  split at w''
  · rename_i d hd
    refine ⟨G2, a, b, d, en2.gh, Dpm s2 d1, d2, hd, fun G' H' z x dz => ?_⟩
    have w3 : Want X.mg B E (opt (isB d) ρ2) (KT' X.K B G σ Q) := w''
    cases d with
    | bool k =>
      cases dp_bl dz
      exact ⟨k, rfl, w3 G' H' ((s1.trans s2).trans x.g) (en2.ext x)⟩
    | _ => exact w3.elim
  · exact w''.elim
theorem pdtl_v {f : Rho → Rs PyData} (h : PDL T X E e f) (he : ∀ whole, isTrue e X.env whole = (do let v ← whole; standAt e.pos; holding [v] (truthy v)) := by intro _; rfl) : PDTL T X E e (eT f) := by
  obtain ⟨t, h1, w1⟩ := h
  refine ⟨_, pt_val h1 he, fun B G H σ ρ Q hT en w => w1 B G H σ ρ _ hT en (w.andThen.mono fun d ρ1 _ w' G1 H1 v s1 en1 d1 => ?_)⟩
  cases d with
  | bool k => exact ⟨k, dp_bl d1, w' G1 H1 s1 en1⟩
  | _ => exact w'.elim
theorem pdtl_not (ha : PDTL T X E a ta) : PDTL T X E (.UnaryOp .Not a pos) (eNot ta) := by
  obtain ⟨t1, h1, w1⟩ := ha
  exact ⟨_, pt_not h1, fun B G H σ ρ Q hT en w => w1 B G H σ ρ _ hT en (w.andThen.mono fun k ρ1 _ w' G1 H1 s1 en1 => w' G1 H1 s1 en1)⟩
theorem pdwl_one (ha : PDTL T X E a ta) : PDWL T X E (.BoolOp .And [a] pos) ta := let ⟨_, h, w⟩ := ha; ⟨_, pw_and1 h, w⟩
theorem pdwl_or1 (ha : PDTL T X E a ta) : PDWL T X E (.BoolOp .Or [a] pos) ta := let ⟨_, h, w⟩ := ha; ⟨_, pw_or1 h, w⟩
theorem pdwl_and (ha : PDTL T X E a ta) (hb : PDWL T X E (.BoolOp .And (b :: rest) pos) tb) : PDWL T X E (.BoolOp .And (a :: b :: rest) pos) (eAnd ta tb) := by
  obtain ⟨t1, h1, w1⟩ := ha
  obtain ⟨t2, h2, w2⟩ := hb
  refine ⟨_, pw_and h1 h2, fun B G H σ ρ Q hT en w => w1 B G H σ ρ _ hT en (w.andThen.mono fun k ρ1 _ w' G1 H1 s1 en1 => ?_)⟩
  cases k with
  | true => exact L2.iteT (w2 B G1 H1 σ ρ1 _ hT en1 (w'.mono fun k ρ2 _ q G2 H2 s2 en2 => q G2 H2 (s1.trans s2) en2))
  | false => exact L2.iteF (w' G1 H1 s1 en1)
theorem pdwl_or (ha : PDTL T X E a ta) (hb : PDWL T X E (.BoolOp .Or (b :: rest) pos) tb) : PDWL T X E (.BoolOp .Or (a :: b :: rest) pos) (eOr ta tb) := by
  obtain ⟨t1, h1, w1⟩ := ha
  obtain ⟨t2, h2, w2⟩ := hb
  refine ⟨_, pw_or h1 h2, fun B G H σ ρ Q hT en w => w1 B G H σ ρ _ hT en (w.andThen.mono fun k ρ1 _ w' G1 H1 s1 en1 => ?_)⟩
  cases k with
  | true => exact L2.iteT (w' G1 H1 s1 en1)
  | false => exact L2.iteF (w2 B G1 H1 σ ρ1 _ hT en1 (w'.mono fun k ρ2 _ q G2 H2 s2 en2 => q G2 H2 (s1.trans s2) en2))
theorem pdtl_w (h : PDWL T X E e ta) : PDTL T X E e ta := let ⟨_, h1, w⟩ := h; ⟨_, h1.pt, w⟩
/-! ### statements -/
theorem pdsl_nil : PDsL T X E [] sNil := PDs.l pds_nil
theorem pdsl_one (h1 : PDSL T X E st f) : PDsL T X E [st] f := let ⟨_, p1, w1⟩ := h1; ⟨_, pss_one p1, w1⟩
theorem pdsl_cons (h1 : PDSL T X E st f) (h2 : PDsL T X E sts g) : PDsL T X E (st :: sts) (sSeq f g) := by
  obtain ⟨t1, p1, w1⟩ := h1
  obtain ⟨t2, p2, w2⟩ := h2
  refine ⟨_, pss_cons p1 p2, fun B G H σ ρ D hT en w => w1 B G H σ ρ _ hT en (w.andThen.mono fun fl ρ1 _ w' => ?_)⟩
  cases fl with
  | nx => exact fun G1 H1 σ1 s1 en1 => w2 B G1 H1 σ1 ρ1 D hT en1 (Want.mono (show Want X.mg B E (g ρ1) _ from w') fun fl ρ2 _ q => q.grow s1)
  | _ => exact w'
theorem pdsl_if {c : Expr} {l m : List Stmt} (hc : PDTL T X E c ta) (ha : PDsL T X E l f) (hb : PDsL T X E m g) : PDSL T X E (.If c l m pos) (sIf ta f g) := by
  obtain ⟨t0, h0, w0⟩ := hc
  obtain ⟨t1, h1, w1⟩ := ha
  obtain ⟨t2, h2, w2⟩ := hb
  refine ⟨_, ps_if h0 h1 h2, fun B G H σ ρ D hT en w => w0 B G H σ ρ _ hT en (w.andThen.mono fun k ρ1 _ w' G1 H1 s1 en1 => ?_)⟩
  cases k with
  | true => exact L2.iteT (w1 B G1 H1 σ ρ1 D hT en1 (Want.mono (show Want X.mg B E (f ρ1) _ from w') fun fl ρ2 _ q => q.grow s1))
  | false => exact L2.iteF (w2 B G1 H1 σ ρ1 D hT en1 (Want.mono (show Want X.mg B E (g ρ1) _ from w') fun fl ρ2 _ q => q.grow s1))
theorem pdsl_set (i : Nat) {x : Str} {pos' : Pos} (h : PDL T X E e fa) (hN : X.N.Nodup) (hi : X.N[i]? = some x := by rfl) (hx : Loc X.env.scope x := by first | exact Or.inl rfl | exact Or.inr rfl) (hs : swapsWith e (some (.Name x pos')) pos.line X.env = pure false := by rfl)
    (hf : X.fn x = true ∨ X.env.scope.names.lookup x = some .local := by first | exact .inl rfl | exact .inr rfl) : PDSL T X E (.Assign [.Name x pos'] e pos) (sSet i fa) := by
  obtain ⟨t1, p1, w1⟩ := h
  exact ⟨_, ps_set hN hi hx p1 hs hf, fun B G H σ ρ D hT en w => w1 B G H σ ρ _ hT en (w.andThen.mono fun d ρ1 _ w' G1 H1 v s1 en1 d1 => w' G1 H1 _ s1 (en1.set d1))⟩
theorem pdsl_for {tg iter : Expr} {body : List Stmt} {fi : Rho → Rs (List PyData)} {bd : PyData → Rho → Option Rho} {ts : List Nat} {fbd : Rho → Rs Fl} (hp : PassesOwn (model X.prog X.w) X.A X.env X.xe) (hc : X.calm = true) (hi : PDI X E tg iter fi) (hg : PDG X tg ts bd) (hb : PDsL T X E body fbd)
    (hs : ∀ x, foldedSetIterable iter X.env x = pure x := by intro _; rfl) : PDSL T X E (.For tg iter body [] pos) (sFor fi bd fbd) := by
  obtain ⟨wi, h1, w1⟩ := hi
  obtain ⟨gg, h2, w2⟩ := hg.ex
  obtain ⟨tbd, h3, w3⟩ := hb
  refine ⟨_, ps_for hp hc h1 h2 h3 hs, fun B G H σ ρ D hT en w => w1 B G H σ ρ _ en (w.andThen.mono fun items ρ1 _ w' J G1 H1 s1 en1 it => ?_)⟩
  obtain ⟨Gc, Y, wk, hG, hY⟩ := it.ex
  refine for_it wk (fun i σ H => ∃ G2 ρ2, Same G1 G2 ∧ EnvAt X.K B G2 H σ ρ2 ∧ Want X.mg B E (forL bd fbd (items.drop i) ρ2) (KS X.K B G D)) ⟨G1, ρ1, Same.refl _, en1, by rw [List.drop_zero]; exact w'⟩
    (fun i σ H _ ⟨G2, ρ2, s2, en2, _⟩ => hG G2 H s2 en2.gh) ?_ ?_
  · rintro i x σ2 H2 H3 hi ⟨G2, ρ2, s2, en2, w4⟩ y
    obtain ⟨G3, d, xx, hd, dd⟩ := hY i G2 H2 x H3 hi s2 en2.gh y
    have en3 := en2.ext xx
    have e : items.drop i = d :: items.drop (i + 1) := by
      obtain ⟨h5, h6⟩ := List.getElem?_eq_some_iff.mp hd
      rw [List.drop_eq_getElem_cons h5, h6]
    rw [e] at w4
    unfold forL at w4
    cases q : bd d ρ2 with
    | none =>
      simp only [q] at w4
      exact w4.elim
    | some ρ3 =>
      simp only [q] at w4
      refine w2 B G3 H3 σ2 ρ2 x d ρ3 _ en3 dd q fun σ3 en4 _ => w3 B G3 H3 σ3 ρ3 _ hT en4 (w4.andThen.mono fun fl ρ4 _ w5 => ?_)
      have s13 : Same G1 G3 := s2.trans xx.g
      cases fl with
      | nx => exact fun G5 H5 σ5 s5 en5 => ⟨G5, ρ4, s13.trans s5, en5, w5⟩
      | ct => exact fun G5 H5 σ5 s5 en5 => ⟨G5, ρ4, s13.trans s5, en5, w5⟩
      | bk => exact fun G5 H5 σ5 s5 en5 => w5 G5 H5 σ5 ((s1.trans s13).trans s5) en5
      | rt d => exact fun G5 H5 σ5 v s5 en5 d5 => w5 G5 H5 σ5 v ((s1.trans s13).trans s5) en5 d5
      | ro ds => exact fun G5 H5 σ5 p vs s5 en5 a b c d => w5 G5 H5 σ5 p vs ((s1.trans s13).trans s5) en5 a b c d
  · rintro σ2 H2 ⟨G2, ρ2, s2, en2, w4⟩
    rw [List.drop_length] at w4
    exact w4 G2 H2 σ2 (s1.trans s2) en2
end
/-! ### the law's def, with tables -/
def spL (K : PySem.W.Frag) (T : List (Addr × Str)) (n : Nat) (F : List PyData → Rs PyData) : Sp := fun vs H Q _ => vs.length = n ∧ ∃ G ds, Same G H ∧ DpAll K G vs ds ∧ (∀ p ∈ T, LamX.TabS H p.1 p.2 ∧ G p.1 = none) ∧ match F ds with
  | .ok d _ => ∀ G' H' v, Dp K G' v d → Q v H'
  | _ => False
def codB (K : PySem.W.Frag) (f c : Addr) : Bool := match K.lookup f with
  | some ⟨_, _, .func fd, _⟩ => (match fd.code with
    | .ref a => decide (a = c)
    | _ => false)
  | _ => false
theorem codB_ref {K : PySem.W.Frag} {f c : Addr} {oc od osl} {fd : FuncData} (lk : K.lookup f = some ⟨oc, od, .func fd, osl⟩) (h : codB K f c = true) : fd.code = .ref c := by
  unfold codB at h
  rw [lk] at h
  revert h
  show (match fd.code with | .ref a => decide (a = c) | _ => false) = true → _
  cases fd.code with
  | ref a => exact fun h => congrArg Value.ref (of_decide_eq_true h)
  | _ => exact nofun
theorem env_tab {K : PySem.W.Frag} {N : List Str} {T : List (Addr × Str)} {G H : Hp} {vs : List V} {ds : List PyData} (hl : vs.length ≤ N.length) (gh : Same G H) (r : DpAll K G vs ds) (tb : ∀ p ∈ T, LamX.TabS H p.1 p.2 ∧ G p.1 = none) :
    EnvAt K ⟨G, H, fun _ p => ∃ q, (p, q) ∈ T, T⟩ G H (L2.start N vs) (ds.map .sh ++ List.replicate (N.length - ds.length) .non) := by
  have e := env_pure (K := K) hl gh r
  have no : ∀ i p, ¬ OwnAt (ds.map Slot.sh ++ List.replicate (N.length - ds.length) .non) (L2.start N vs) i p := fun i p ⟨b, es, h1, _⟩ => by
    rcases sh_slots r h1 with e | ⟨d, v, e, _⟩ <;> cases e
  refine ⟨e.len, Same.refl _, gh, fun b o h _ => h, fun b _ h => h, fun i p ⟨q, h⟩ => tab_ne (tb _ h).1, fun i s h => ?_, fun i j p h _ => absurd h (no i p), fun p hp => ⟨(tb p hp).1, (tb p hp).2, 0, p.2, hp⟩⟩
  rcases sh_slots r h with q | ⟨d, v, q, _⟩
  · subst q; trivial
  · subst q; exact e.sl i _ h
theorem ok_lawL {P : Program} {w : World} {K : PySem.W.Frag} {mg : Str → Option Value} {base : Heap} {x qual : Str} {params : Arguments} {body : List Stmt} {scope : Scope} {f c : Addr} {fd : FuncData} {N ps : List Str} {k : Nat} {T : List (Addr × Str)} {fb : Rho → Rs Fl} (F : FunD K x qual params body scope [] [] f fd) (S : FnScope N ps scope) (hN : ps.length ≤ N.length) (hc : codB K f c = true)
    (h : ∀ (A : Around) (outer : List Env) (s : Shared) (H : Hp) (E : XK), Room k (A.deeper (PyProof.Rows.envOfC qual scope s.heap.objs.size f (.ref c))) → PDsL T (DefX P w K mg base N qual scope f (.ref c) A outer s H E) E body fb) :
    FnOk P w K mg base (L2N.CX P w) (k + 1) f fd ps (spL K T ps.length (fnP N.length fb)) := by
  obtain ⟨oc, od, dV, kV, doc, pm, an, cdv, ct, osl, rfl, lk, hcd, _, _⟩ := F.ex
  have ec : cdv = .ref c := codB_ref lk hc
  subst ec
  refine fn_of lk hcd S (fun vs H Q E h => h.1) fun A outer s H vs Q E hr ⟨hl, G, ds, gh, r, tb, w0⟩ => ?_
  obtain ⟨t, h1, w1⟩ := h A outer s H E hr
  refine ⟨t, h1, w1 _ G H _ _ _ rfl (env_tab (T := T) (N := N) (by rw [hl]; exact hN) gh r tb) ?_⟩
  unfold fnP at w0
  cases q : fb (ds.map .sh ++ List.replicate (N.length - ds.length) .non) with
  | ok fl ρ' =>
    rw [q] at w0
    cases fl with
    | nx => exact fun G' H' σ' s e => w0 G' H' .non .non
    | rt d => exact fun G' H' σ' v s e dv => w0 G' H' v dv
    | bk => exact w0.elim
    | ct => exact w0.elim
    | ro ds => exact w0.elim
  | ex e =>
    rw [q] at w0
    exact w0.elim
  | bad =>
    rw [q] at w0
    exact w0.elim
theorem walk_ownT {l : PySem.W.OpenLaw} {n k : Nat} {q : Program} {loose : List Str} {XP : (Str → Option Value) → Heap → Prop} {YP : World → Heap → Prop} {d : DefRec} {x : Str} (hn : l.most = some n) (hn2 : n ≤ sizeLine) (hdf : d.params.defaults = []) (hr : Room k callerA)
    (F : ∀ (w : World) (mg : Str → Option Value) (fa : Addr) (h : Heap), YP w h → h.Ns mainGlobals mg → mg d.name = some (.ref fa) →
      ∃ (K : PySem.W.Frag) (fd : FuncData) (cs : List (Addr × Addr)) (sp : Sp), K.In h ∧ (∀ p ∈ cs, h.get? p.2 = some { cls := .none, data := .fields #[] }) ∧ (∀ p ∈ cs, K.lookup p.2 = none) ∧ (∀ p ∈ cs, PySem.W.CodeHd h p.1 p.2) ∧ (∀ (s : Shared) (u : Value), BindsTo s fd ⟨[u], []⟩ [(x, u)]) ∧
        (∀ (H : Hp) (a : Addr) (ns : List Int), ns.length ≤ n → (∀ p ∈ cs, H p.2 = some (.tbl #[])) → SqL K H a (ns.map V.int) → sp [.ref a] H (fun v _ => v = .bl true) fun _ _ _ => False) ∧
        ∀ base : Heap, K.In base → base.Ns mainGlobals mg → (∀ p ∈ cs, LamX.TabB base mg p.1 p.2) → FnOk l.prog w K mg base (L2N.CX l.prog w) k fa fd [x] sp) : PySem.W.WalkO q loose XP YP l.row.toRowW d [] (fun f vs => PySem.call f vs) := by
  refine Att.attach_callB hn hdf fun w s₀ s₁ mg mb fa o pm cd doc a vs ns G Y ho hd hcd hmg hobj hints hlen hbits hg => ?_
  obtain ⟨K, fd, cs, sp, KX, hT, nT, C, hb, hsp, hF⟩ := F w mg fa _ Y G.T.g hmg
  exact LamX.law_callTs KX G.T.g G.T.b G.T.builtins G.T.nolimit hg hT nT C G.T.bmain hobj hints (Nat.le_trans hlen hn2) hr hF hb (fun H hH hS => hsp H a ns hlen hH hS) fun H e s' z => by
    obtain ⟨_, _, _, _, _, _, _, _, _, _, _, _, z⟩ := z
    exact z
end Dl

set_option Elab.async false
set_option linter.all false
set_option maxRecDepth 100000
set_option maxHeartbeats 800000
namespace Dl
open PySem L2 Dt
/-- what isinstance tells of the class C, name by name -/
def kinK (K : PySem.W.Frag) (mg : Str → Option Value) (C : Addr) (x : Str) (b : Bool) : Prop := ∀ c, mg x = some (.ref c) → PySem.W.kitOne K (.ref C) (.ref c) = some b
def kinC (K : PySem.W.Frag) (mg : Str → Option Value) : Addr → List Bool → Prop := fun C bs => ∃ b0 b1 b2 b3 b4 b5 b6 b7 b8 b9 b10 b11 b12 b13 : Bool, bs = [b0, b1, b2, b3, b4, b5, b6, b7, b8, b9, b10, b11, b12, b13] ∧
  kinK K mg C "InvalidAtlas" b0 ∧ kinK K mg C "InvalidCell" b1 ∧ kinK K mg C "InvalidWalk" b2 ∧ kinK K mg C "InvalidRule" b3 ∧ kinK K mg C "InvalidPage" b4 ∧ kinK K mg C "InvalidNumber" b5 ∧ kinK K mg C "InvalidShare" b6 ∧ kinK K mg C "InvalidTable" b7 ∧ kinK K mg C "InvalidHeard" b8 ∧
  kinK K mg C "Unlike" b9 ∧ kinK K mg C "NothingToUndo" b10 ∧ kinK K mg C "TooMany" b11 ∧ kinK K mg C "InvalidText" b12 ∧ PySem.W.kitOne K (.ref C) (.type "ValueError") = some b13
/-- a block lets nothing out -/
theorem passN {X : Cx} : Passes (L2N.CX X.prog X.w) X E0 := fun _ _ _ _ _ _ _ h => by
  obtain ⟨a1, a2, a3, a4, a5, b1, b2, b3, b4, b5, b6, b7, z⟩ := h
  exact False.elim z
/-- calls within the lambda's body -/
theorem takesD {X : Cx} {A : Around} {outer : List Env} {s : Shared} {H : Hp} {E : XK} {scope : Scope} {f c' : Addr} : L2N.Takes (doorCx X A outer s H E scope f c') (fun c d _ H => E c d H) := L2N.takes_of rfl rfl rfl rfl
theorem passD {X : Cx} {A : Around} {outer : List Env} {s : Shared} {H : Hp} {E : XK} {scope : Scope} {f c' : Addr} : Passes (L2N.CX X.prog X.w) (doorCx X A outer s H E scope f c') E := L2N.passes_call takesD fun _ _ _ _ h => h
/-! ### the facts of the classes, as a check of K -/
def xclsB (K : PySem.W.Frag) (C : Addr) : Bool := (PySem.W.clsIn K C).isSome && (decide (PySem.W.findIn K (.ref C) "__getattribute__" = some (some (.builtin "BaseException.__getattribute__"))) && (decide (PySem.W.findIn K (.ref C) "__getattr__" = some none) && (decide (PySem.W.subIn K (.ref C) (.type "BaseException") = some true) &&
  (decide (PySem.W.findIn K (.ref C) "__class__" = some (some (.builtin "object.__class__"))) && (decide (PySem.W.specialIn K (.builtin "object.__class__") "__get__" = some (some (.builtin "getset_descriptor.__get__"))) && (decide (PySem.W.takesIn K (.builtin "object.__class__") = some true) && decide (PySem.W.mroIn K C (.type "object") = some true)))))))
theorem xclsB_ok {K : PySem.W.Frag} {C : Addr} (h : xclsB K C = true) : XCls K C := by
  unfold xclsB at h
  simp only [Bool.and_eq_true, decide_eq_true_eq] at h
  obtain ⟨h1, h2, h3, h4, h5, h6, h7, h8⟩ := h
  exact ⟨h1, h2, h3, h4, h5, h6, h7, h8⟩
def kinXB (K : PySem.W.Frag) (x : Str) : Bool := xclsB K (He.ga K x) && (excNames.all (fun y => decide (PySem.W.kitOne K (.ref (He.ga K x)) (.ref (He.ga K y)) = some (decide (y = x)))) && (decide (PySem.W.kitOne K (.ref (He.ga K x)) (.type "ValueError") = some true) &&
  (decide (PySem.W.exmOne K (.ref (He.ga K x)) (.ref (He.ga K "TooMany")) = some (decide (x = "TooMany"))) && (decide (PySem.W.exmOne K (.ref (He.ga K x)) (.ref (He.ga K "InvalidText")) = some (decide (x = "InvalidText"))) && decide (PySem.W.exmOne K (.ref (He.ga K x)) (.ref (He.ga K "AtlasError")) = some true)))))
def kinFB (K : PySem.W.Frag) : Bool := excNames.all (kinXB K) && (xfB K (He.ga K "TooMany") && (decide (PySem.W.findIn K (.ref (He.ga K "TooMany")) "limit" = some none) && (xfB K (He.ga K "InvalidText") && decide (PySem.W.findIn K (.ref (He.ga K "InvalidText")) "line" = some none))))
theorem kinF_of {K : PySem.W.Frag} {mg : Str → Option Value} (h : kinFB K = true) (hg : ∀ x ∈ excNames, mg x = some (.ref (He.ga K x))) : KinF K mg (kinC K mg) (He.ga K "TooMany") (He.ga K "InvalidText") (He.ga K "AtlasError") := by
  unfold kinFB at h
  simp only [Bool.and_eq_true, decide_eq_true_eq] at h
  obtain ⟨h1, h2, h3, h4, h5⟩ := h
  refine ⟨fun x hx C hC => ?_⟩
  have z := List.all_eq_true.mp h1 x hx
  unfold kinXB at z
  simp only [Bool.and_eq_true, decide_eq_true_eq] at z
  obtain ⟨z1, z2, z3, z4, z5, z6⟩ := z
  have e := (hg x hx).symm.trans hC
  have e : C = He.ga K x := by cases e; rfl
  subst e
  have kk : ∀ y ∈ excNames, kinK K mg (He.ga K x) y (decide (y = x)) := fun y hy c hc => by
    have e := (hg y hy).symm.trans hc
    have e : c = He.ga K y := by cases e; rfl
    subst e
    exact of_decide_eq_true (List.all_eq_true.mp z2 y hy)
  refine ⟨xclsB_ok z1, ⟨_, _, _, _, _, _, _, _, _, _, _, _, _, _, rfl, kk _ (by decide +kernel), kk _ (by decide +kernel), kk _ (by decide +kernel), kk _ (by decide +kernel), kk _ (by decide +kernel), kk _ (by decide +kernel), kk _ (by decide +kernel), kk _ (by decide +kernel), kk _ (by decide +kernel), kk _ (by decide +kernel), kk _ (by decide +kernel), kk _ (by decide +kernel), kk _ (by decide +kernel), z3⟩, z4, z5, z6, fun q => ?_, fun q => ?_⟩
  · subst q; exact ⟨xfB_ok h2, h3⟩
  · subst q; exact ⟨xfB_ok h4, h5⟩
/-- the def that tries, ready to be called with a lambda -/
structure TryOk (P : Program) (w : World) (K : PySem.W.Frag) (mg : Str → Option Value) (base : Heap) (x : Str) : Prop where
  ex : ∃ (KC : Addr → List Bool → Prop) (CT CX' CA g : Addr) (pg : Arguments) (bg : List Stmt) (sg : Scope) (dV kV doc pm cdv ct oc : Value) (an od : Option Addr) (osl : Array (Option Value)) (Ng : List Str), KinF K mg KC CT CX' CA ∧ mg x = some (.ref g) ∧ PySem.W.keepIn K (.ref g) = true ∧
    K.lookup g = some ⟨oc, od, .func (PySem.W.fnOf x x pg bg sg dV kV doc pm an cdv ct), osl⟩ ∧ PySem.W.codeIn K cdv x = true ∧ L2.Binds K (PySem.W.fnOf x x pg bg sg dV kV doc pm an cdv ct) ["door"] [] ∧ FnScope Ng ["door"] sg ∧ Ng[0]? = some ("door" : Str) ∧ Vis sg "door" ∧
    ∀ (X : Cx) (q : Str), X.prog = P → X.w = w → X.K = K → X.mg = mg → X.base = base → Room 2 X.A → DoorDef X Ng x sg g cdv bg "door" q (TTry K KC "limit" "line" CT CX' CA)
theorem pdl_tryK {T : List (Addr × Str)} {X : Cx} {E : XK} {x : Str} {cc P : Addr} {k : Nat} {params : Arguments} {body : Expr} {scope : Scope} {fe : Rho → Rs PyData} {p lpos pos : Pos} (t : TryOk X.prog X.w X.K X.mg X.base x) (hr : Room (k + 2) X.A) (TB : LamX.TabB X.base X.mg cc P) (hmT : (P, lamName X) ∈ T) (hu : ∀ p ∈ T, p.1 = P → p.2 = lamName X)
    (hbody : ∀ (A : Around) (outer : List Env) (s : Shared) (H : Hp) (E : XK) (f c' : Addr), Room k (A.deeper (LamX.lamEnv X scope s.heap.objs.size f c')) → Passes (L2N.CX (doorCx X A outer s H E scope f c').prog (doorCx X A outer s H E scope f c').w) (doorCx X A outer s H E scope f c') E → PD (doorCx X A outer s H E scope f c') E body fe) (hg : Gl X x := by rfl) (hcode : X.env.code = .ref cc := by rfl) (L : LamX.LamS X.env.scope scope := by exact LamX.lamS_by (by kernel_rfl)) (hdef : defaultsOf params X.env = ([], []) := by rfl)
    (hbind : ∀ (q : Str) (cl : List (Str × Addr)) (pm cv ctv : Value), bindArgs (PySem.W.kla_fn "<lambda>" q params body scope cl pm cv ctv) ⟨[], []⟩ = pure [] := by intros; rfl) (hdb : (x == ("__debug__" : Str)) = false := by decide) : PDL T X E (.Call (.Name x p) [.Lambda params body scope lpos] [] pos) (eTry fe) := by
  obtain ⟨KC, CT, CX', CA, g, pg, bg, sg, dV, kV, doc, pm, cdv, ct, oc, an, od, osl, Ng, kf, hm, hk, lk, hcg, hb, Sg, hN, hv, hG⟩ := t.ex
  exact pdl_try kf hg hm hk lk hcg hb Sg hN hv (hG X _ rfl rfl rfl rfl rfl (hr.mono (by omega))) TB hcode hmT hu hr L hdef hbind (fun A outer s H E f c' hr => hbody A outer s H E f c' hr (passD (X := X) (A := A) (outer := outer) (s := s) (H := H) (E := E) (scope := scope) (f := f) (c' := c'))) hdb
end Dl

set_option Elab.async false
set_option linter.all false
set_option maxRecDepth 100000
set_option maxHeartbeats 800000
namespace Dl
open PySem L2 Dt
/-- the heap without its tables -/
def noTb (H : Hp) : Hp := fun b => match H b with
  | some (.tbl _) => none
  | o => o
theorem noTb_same (H : Hp) : Same (noTb H) H := fun b o h => by
  unfold noTb at h
  split at h
  · cases h
  · exact h
theorem noTb_at {H : Hp} {b : Addr} {o : HO} (h : H b = some o) (n : ∀ ps, o ≠ .tbl ps) : noTb H b = some o := by
  unfold noTb
  split
  · rename_i ps e
    rw [h] at e
    cases e
    exact absurd rfl (n ps)
  · exact h
theorem noTb_tab {H : Hp} {b : Addr} {ps : Array Value} (h : H b = some (.tbl ps)) : noTb H b = none := by
  unfold noTb
  rw [h]
theorem sq_noTb {K : PySem.W.Frag} {H : Hp} {a : Addr} {xs : List V} (h : SqL K H a xs) : SqL K (noTb H) a xs := by
  rcases h with h | h
  · exact .inl (by
      unfold Rd at h ⊢
      rcases h with h | ⟨x, h1⟩
      · exact .inl (noTb_at h nofun)
      · exact .inr ⟨x, noTb_at h1 nofun⟩)
  · exact .inr h
theorem spL_ints {K : PySem.W.Frag} {H : Hp} {a P : Addr} {q : Str} {ns : List Int} {F : List PyData → Rs PyData} (hP : H P = some (.tbl #[])) (hS : SqL K H a (ns.map V.int)) (hF : ∃ ρ, F [.list (ns.map .int)] = .ok (.bool true) ρ) : spL K [(P, q)] 1 F [.ref a] H (fun v _ => v = .bl true) fun _ _ _ => False := by
  obtain ⟨ρ, hF⟩ := hF
  refine ⟨rfl, noTb H, [.list (ns.map .int)], noTb_same H, .cons (.lst (sq_noTb hS) dp_ints) .nil, fun p hp => ?_, ?_⟩
  · cases hp with
    | head => exact ⟨⟨#[], hP, trivial, fun _ _ h => by cases h⟩, noTb_tab hP⟩
    | tail _ h => cases h
  · rw [hF]
    exact fun G' H' v dv => dp_bl dv
theorem one_mem {P : Addr} {q : Str} : (P, q) ∈ [(P, q)] := List.Mem.head _
theorem one_hu {P : Addr} {q : Str} : ∀ p ∈ [(P, q)], p.1 = P → p.2 = q := fun p hp _ => by
  cases hp with
  | head => rfl
  | tail _ h => cases h
abbrev lamLaw : Str := (("law" : Str) ++ (".<locals>." : Str)) ++ ("<lambda>" : Str)
end Dl

set_option Elab.async false
set_option linter.all false
set_option maxRecDepth 100000
set_option maxHeartbeats 800000
/-! e[::-1] of a list, of a tuple; isinstance with two classes -/
namespace Dl
open PySem L2 PySem.Calls PyProof.Rows
section
variable {prog : Program} {w : World} {A : Around} {E : Value → Shared → Prop} {s : Shared}
theorem cut_back {sl : Addr} {vk : Value} {n : Nat} {Q : Int × Int × Nat → Shared → Prop} (hs : s.heap.IsSliceOf sl .none .none vk) (pk : IsPart vk (some (-1))) (h : Q ((n : Int) - 1, -1, n) s) : wpAny (model prog w) A (Builtin.Slice.sliceApplied (.ref sl) (pure (n : Int))) Q E s := by
  obtain ⟨os, hos, hcs, hds⟩ := id hs
  unfold Builtin.Slice.sliceApplied Builtin.Slice.sliceFields
  refine wpAny_bind (wpAny_bind (wpAny_field hos hds (x := .none) rfl (wpAny_bind (wpAny_field hos hds (x := .none) rfl (wpAny_bind (wpAny_field hos hds (x := vk) rfl (wpAny_pure ?_)))))))
  refine wpAny_bind (HT.slicePart_ pk ?_)
  show wpAny _ _ (if ((-1 : Int) == 0) = true then _ else _) _ _ s
  rw [if_neg (by decide)]
  refine wpAny_bind (slicePart_none (wpAny_bind (slicePart_none (wpAny_bind (wpAny_pure ?_)))))
  show wpAny _ _ (pure ((n : Int) - 1, (-1 : Int), Builtin.Slice.slicePlaces ((n : Int) - 1) (-1) (-1))) _ _ s
  have e : Builtin.Slice.slicePlaces ((n : Int) - 1) (-1) (-1) = n := by
    unfold Builtin.Slice.slicePlaces
    have h1 : ¬ ((-1 : Int) > 0) := by decide
    simp only [h1, if_false]
    by_cases h : (n : Int) - 1 > -1
    · rw [if_pos h]
      have : ((n : Int) - 1 - -1 - 1) / (- -1) = (n : Int) - 1 := by rw [show (- -1 : Int) = 1 by decide, Int.ediv_one]; omega
      rw [this]; omega
    · rw [if_neg h]; omega
  rw [e]
  exact wpAny_pure h
theorem pick_back (xs : Array Value) : ((List.range xs.size).filterMap fun (m : Nat) => xs[(((xs.size : Int) - 1) + (m : Int) * (-1)).toNat]?).toArray = xs.toList.reverse.toArray := by
  have h : (List.range xs.size).map (fun k => xs.size - 1 - k) = (List.range xs.size).reverse := PySem.W.krv_range _
  have e : (List.range xs.size).filterMap (fun (m : Nat) => xs[(((xs.size : Int) - 1) + (m : Int) * (-1)).toNat]?) = ((List.range xs.size).map (fun k => xs.size - 1 - k)).filterMap (xs[·]?) := by
    rw [List.filterMap_map]
    congr 1
    funext m
    show xs[(((xs.size : Int) - 1) + (m : Int) * (-1)).toNat]? = xs[xs.size - 1 - m]?
    congr 1
    omega
  rw [e, h, List.filterMap_reverse, PySem.W.krv_all]
theorem tuple_back {t sl : Addr} {items : Array Value} {vk : Value} {Q : Value → Shared → Prop} (ht : IsTup s.heap t items) (hs : s.heap.IsSliceOf sl .none .none vk) (pk : IsPart vk (some (-1)))
    (h : Q (.ref s.heap.objs.size) { s with heap := s.heap.push { cls := .type "tuple", data := .seq items.toList.reverse.toArray } }) (hsz : items.size ≤ sizeLine) : wpAny (model prog w) A (getItem (.ref t) (.ref sl)) Q E s := by
  have htake : sizeOk (.seq items.toList.reverse.toArray) := by
    show items.toList.reverse.toArray.size ≤ sizeLine
    rw [List.size_toArray, List.length_reverse, Array.length_toList]
    exact hsz
  obtain ⟨os, hos, hcs, hds⟩ := id hs
  have hTs : s.TypeIs (.ref sl) "slice" := ⟨os, hos, hcs⟩
  unfold getItem
  try with_reducible refine wpAny_holding ?_
  first | refine wpAny_bind (wpAny_pure ?_) | skip
  refine wpAny_bind (wpAny_sequenceKey ht.typeIs (by decide) ?_)
  refine wpAny_bind (wpAny_callSpecial?_slot (name := Str.ofString "__getitem__") ht.typeIs PyProof.Rows.slot_tuple_getitem
    (wpAny_call_entry PyProof.Rows.slot_tuple_getitem ht.typeIs entry_tuple_getitem ?_ (args_tuple_getitem _ _)))
  show wpAny _ _ (Builtin.Tuple.tupleItemsOf (.ref t) >>= _) _ _ s
  refine wpAny_bind (tupleItemsOf_ ht ?_)
  refine wpAny_bind (wpAny_typeOf hTs ?_)
  rw [if_pos (by decide)]
  refine wpAny_bind (cut_back hs pk ?_)
  show wpAny _ _ (if (((items.size : Int) - 1 == 0 && (-1 : Int) == 1 && items.size == items.size) = true) then _ else _) _ _ s
  rw [if_neg (by simp), pick_back]
  first
    | exact wpAny_bind (m := Builtin.Tuple.tupleExact _) (wpAny_newObj_type (wpAny_pure ⟨_, rfl, wpAny_pure h⟩) htake)
    | exact wpAny_bind (m := Builtin.Tuple.tupleExact _) (wpAny_newObj_type (wpAny_bind (wpAny_pure (wpAny_pure ⟨_, rfl, wpAny_pure h⟩))) htake)
    | exact wpAny_bind (wpAny_bind (m := Builtin.Tuple.tupleExact _) (wpAny_newObj_type (wpAny_pure (wpAny_pure ⟨_, rfl, wpAny_pure h⟩)) htake))
    | exact wpAny_bind (wpAny_bind (m := Builtin.Tuple.tupleExact _) (wpAny_newObj_type (wpAny_pure ⟨_, rfl, wpAny_pure h⟩) htake))
end
section
variable {X : Cx} {E : XK} {pos p2 : Pos} {e st : Expr} {fa : Rho → Rs PyData}
/-- e[::-1] -/
def tBack (K : PySem.W.Frag) (te : TE) (tk : TO) : TE := fun σ H Q => te σ H fun x H1 => tk σ H1 fun k H2 => k = some (-1) ∧ ∃ a xs, x = .ref a ∧ ((SqL K H2 a xs ∧ ∀ p, H2 p = none → Q (.ref p) (upd H2 p (.lst xs.reverse))) ∨ (SqT K H2 a xs ∧ ∀ p, H2 p = none → Q (.ref p) (upd H2 p (.tup xs.reverse))))
theorem vals_back {xs : List V} {us : List Value} (r : Vals xs us) : Vals xs.reverse us.reverse := by
  induction r with
  | nil => exact .nil
  | cons h t ih =>
    rw [List.reverse_cons, List.reverse_cons]
    exact ih.append (.cons h .nil)
theorem pe_back {te : TE} {tk : TO} (he : PE X e te) (hk : PO X (some st) tk) : PE X (.Subscript e (.Slice none none (some st) p2) pos) (tBack X.K te tk) := by
  refine ⟨fun pins s σ H Q I h => ?_⟩
  refine Subscript_ (thn (he.run pins s σ H _ I h) fun v s1 ⟨x, H1, I1, r1, q1⟩ => ?_)
  refine wpAny_Slice ?_
  rw [evalPart_none]
  refine wpAny_pure (wpAny_pure (thn (hk.run pins s1 σ H1 _ I1 q1) fun vk s3 ⟨k, H3, I3, pk, ek, q3⟩ => ?_))
  subst ek
  have I4 : Inv X pins σ H3 { s3 with heap := s3.heap.push { cls := .type "slice", data := .fields #[.none, .none, vk] } } := I3.kept (t' := s3.toks) fun b ob q => Heap.get?_push_of_some _ q
  have hs : (s3.heap.push { cls := .type "slice", data := .fields #[.none, .none, vk] }).IsSliceOf s3.heap.objs.size .none .none vk := Heap.IsSliceOf.new ..
  show wpAny (model X.prog X.w) X.A (subscriptTail e (.Slice none none (some st) p2) v (.ref s3.heap.objs.size)) (EP X pins σ Q) X.xe { s3 with heap := s3.heap.push { cls := .type "slice", data := .fields #[.none, .none, vk] } }
  obtain ⟨a, xs, rfl, q⟩ := q3
  obtain rfl : v = Value.ref a := r1
  rcases q with ⟨hx, q⟩ | ⟨hx, q⟩
  · obtain ⟨its, r, ht, hz⟩ := I4.list hx
    refine tail_any (ops := [.ref a, .ref s3.heap.objs.size]) ht.isList.typeIs slot_list_getitem.lookup ?_ (by with_unfolding_all rfl)
    have hz2 : its.toArray.size ≤ sizeLine := by rw [List.size_toArray, ← r.length]; exact hz
    refine wpAny_getItem_list_slice ht.isList hs .none .none pk (by decide) ?_ hz2
    rw [PySem.W.krv_pick]
    refine ⟨.ref _, _, I4.laid (t' := s3.toks) (o := .lst xs.reverse) (fun b ob q => Heap.get?_push_of_some _ q) (Nat.le_refl _) ?_, rfl, q _ (I4.hok.fresh (Nat.le_refl _))⟩
    exact ⟨by rw [List.length_reverse]; exact hz, _, 0, vals_back r, Heap.get?_push_size _ rfl⟩
  · obtain ⟨its, r, ht, hz⟩ := I4.tuple hx
    refine tail_any (ops := [.ref a, .ref s3.heap.objs.size]) ht.typeIs PyProof.Rows.slot_tuple_getitem.lookup ?_ (by with_unfolding_all rfl)
    have hz2 : its.toArray.size ≤ sizeLine := by rw [List.size_toArray, ← r.length]; exact hz
    refine tuple_back ht hs pk ?_ hz2
    refine ⟨.ref _, _, I4.laid (t' := s3.toks) (o := .tup xs.reverse) (fun b ob q => Heap.get?_push_of_some _ q) (Nat.le_refl _) ?_, rfl, q _ (I4.hok.fresh (Nat.le_refl _))⟩
    exact ⟨by rw [List.length_reverse]; exact hz, _, vals_back r, IsTup.new _ _⟩
def pBack : PyData → Option PyData
  | .list xs => some (.list xs.reverse)
  | .tuple xs => some (.tuple xs.reverse)
  | _ => none
def eBack (fa fk : Rho → Rs PyData) : Rho → Rs PyData := fun ρ => (fa ρ).andThen fun a ρ => (fk ρ).andThen fun k ρ => match k with
  | .int i => if i = -1 then opt (pBack a) ρ else .bad
  | _ => .bad
theorem pd_back {fk : Rho → Rs PyData} (ha : PD X E e fa) (hk : PD X E st fk) : PD X E (.Subscript e (.Slice none none (some st) p2) pos) (eBack fa fk) := by
  obtain ⟨t1, h1, w1⟩ := ha
  obtain ⟨t2, h2, w2⟩ := hk
  refine ⟨_, pe_back h1 (po_some h2), fun B G H σ ρ Q en w => ?_⟩
  refine w1 B G H σ ρ _ en (w.andThen.mono fun a ρ1 _ w' G1 H1 v s1 en1 d1 => ?_)
  refine w2 B G1 H1 σ ρ1 _ en1 (w'.andThen.mono fun k ρ2 _ w2' G2 H2 u s2 en2 d2 => ?_)
  have d3 := Dpm s2 d1
  cases k with
  | int i =>
    have w2' : Want X.mg B E (if i = -1 then opt (pBack a) ρ2 else .bad) (KE' X.K B G σ Q) := w2'
    by_cases ek : i = -1
    · rw [if_pos ek] at w2'
      subst ek
      refine ⟨-1, dp_int d2, rfl, ?_⟩
      cases hd : pBack a with
      | none =>
        rw [hd] at w2'
        exact w2'.elim
      | some d =>
        rw [hd] at w2'
        have fin := ext_end (mg := X.mg) (s1.trans s2) en2 w2'
        cases a with
        | list xs =>
          cases hd
          obtain ⟨q, vs, rfl, g1, r1⟩ := dp_lst d3
          refine ⟨q, vs, rfl, .inl ⟨en2.gh.seq g1, fun p hp => ?_⟩⟩
          obtain ⟨x1, x2⟩ := new_lst en2.gh hp (DpAll.rev r1)
          exact fin _ _ _ x1 x2
        | tuple xs =>
          cases hd
          obtain ⟨q, vs, rfl, g1, r1⟩ := dp_tup d3
          refine ⟨q, vs, rfl, .inr ⟨seqT en2.gh g1, fun p hp => ?_⟩⟩
          obtain ⟨x1, x2⟩ := new_tup en2.gh hp (DpAll.rev r1)
          exact fin _ _ _ x1 x2
        | _ => cases hd
    · rw [if_neg ek] at w2'
      exact w2'.elim
  | _ => exact w2'.elim
/-! ### isinstance(e, (tuple, list)) -/
def tyS : PyData → String
  | .none => "NoneType"
  | .bool _ => "bool"
  | .int _ => "int"
  | .str _ => "str"
  | .list _ => "list"
  | .tuple _ => "tuple"
  | .dict _ => "dict"
theorem ty_dp {K : PySem.W.Frag} {H : Hp} {v : V} {d : PyData} (h : Dp K H v d) : TyX K H v (.type (tyS d)) := by
  cases h with
  | non => exact .base .non
  | bl b => exact .base (.bl b)
  | int i => exact .base (.int i)
  | str x => exact .base (.str x)
  | lst hs _ =>
    rcases hs with (h | ⟨o, h⟩) | ⟨o, _, _, h, c, _⟩
    · exact .base (.lst h)
    · exact .base (.frz h)
    · exact .kList h c
  | tup hs _ =>
    rcases hs with (h | ⟨o, h⟩) | ⟨o, _, _, h, c, _⟩
    · exact .base (.tup h)
    · exact .fTuple h
    · exact .kTuple h c
theorem pd_isiTL {p p2 p3 p4 pos : Pos} {k} (hg : Gl X "isinstance") (hm : X.mg "isinstance" = none) (hgT : Gl X "tuple") (hmT : X.mg "tuple" = none) (hgL : Gl X "list") (hmL : X.mg "list" = none) (ha : PD X E e fa)
    (he : starEach [e, .Tuple [.Name "tuple" p2, .Name "list" p3] k p4] X.env = (false, eval e X.env) :: starEach [.Tuple [.Name "tuple" p2, .Name "list" p3] k p4] X.env := by rfl) : PD X E (.Call (.Name "isinstance" p) [e, .Tuple [.Name "tuple" p2, .Name "list" p3] k p4] [] pos) (eIsi (fun d => d.isTuple || d.isList) fa) := by
  obtain ⟨t, h1, w1⟩ := ha
  refine ⟨_, pe_callB call_isiT hg hm (by decide +kernel) (pa_cons h1 (pa_cons (pe_tup (pa_cons (pe_bltn (v := .ty "tuple") hgT hmT (by decide +kernel) rfl (by decide) (by decide)) (pa_cons (pe_bltn (v := .ty "list") hgL hmL (by decide +kernel) rfl (by decide) (by decide)) pa_nil))) pa_nil) he) (by decide) (by decide) he rfl, fun B G H σ ρ Q en w => ?_⟩
  refine w1 B G H σ ρ _ en (w.andThen.mono fun a ρ1 _ w' G1 H1 v s1 en1 d1 => ?_)
  refine ⟨by show 2 ≤ sizeLine; rw [sizeLine_eq]; decide, fun q hq => ?_⟩
  have gq : G1 q = none := en1.gh.free hq
  have x1 : Ext G1 H1 G1 (upd H1 q (.tup [.ty "tuple", .ty "list"])) := Ext.heap en1.gh (Dt.same_new hq)
  refine ⟨v, q, [.ty "tuple", .ty "list"], .type (tyS a), [.type "tuple", .type "list"], a.isTuple || a.isList, rfl, upd_same, .cons (.ty _) (.cons (.ty _) .nil), ty_dp (Dpm x1.gh d1), ?_, w' G1 _ _ s1 (en1.ext x1) (.bl _)⟩
  cases a <;> rfl
end
section
variable {P : Program} {w : World} {K : PySem.W.Frag} {mg : Str → Option Value} {base : Heap} {x qual : Str} {params : Arguments} {body : List Stmt} {scope : Scope} {f : Addr} {fd : FuncData} {N ps : List Str} {k : Nat}
theorem ok_badB (F : FunD K x qual params body scope [] [] f fd) (S : FnScope N ps scope) (n : Nat) (hn : ps.length = n + 1) : FnOk P w K mg base (L2N.CX P w) (k + 1) f fd ps (spB K n (fun _ _ => .bad)) := by
  refine F.ok S (fun vs H Q E h => h.1.trans hn.symm) (fun cdv A outer s H vs Q E hr hsp => ?_)
  obtain ⟨_, _, _, _, _, _, _, _, _, _, _, _, _, h⟩ := hsp
  exact h.elim
end
/-! ### a text times a number -/
def repS (x : Str) (k : Nat) : Str := ⟨(List.replicate k x.cps).foldl (· ++ ·) #[]⟩
theorem fold_cps (c : Array Nat) : ∀ (k : Nat) (a : Array Nat), ((List.replicate k c).foldl (· ++ ·) a).toList = a.toList ++ (List.replicate k c.toList).flatten
  | 0, a => by simp
  | k + 1, a => by
    rw [List.replicate_succ, List.foldl_cons, fold_cps c k, List.replicate_succ, List.flatten_cons, Array.toList_append, List.append_assoc]
theorem repS_cps (x : Str) (k : Nat) : (repS x k).cps.toList = (List.replicate k x.cps.toList).flatten := by
  show ((List.replicate k x.cps).foldl (· ++ ·) #[]).toList = _
  rw [fold_cps]
  rfl
theorem repS_len (x : Str) (k : Nat) : (repS x k).length = k * x.length := by
  show (repS x k).cps.size = k * x.cps.size
  rw [← Array.length_toList, repS_cps, List.length_flatten, List.map_replicate, List.sum_replicate_nat, Array.length_toList]
def pMulS : PyData → PyData → Option PyData
  | .str x, .int k => if (2 ≤ k ∧ k ≤ 1000) ∧ 1 ≤ x.length ∧ x.length ≤ 1000 then some (.str (repS x k.toNat)) else none
  | _, _ => none
theorem p2_mulS {X : Cx} : P2 X (binaryOp .Mult) pMulS := by
  intro pins s σ H x y v u Q I rx ry h
  obtain ⟨G, a, b, d, gh, da, db, hp, q⟩ := h
  unfold pMulS at hp
  split at hp
  · rename_i z k
    split at hp
    · rename_i hz
      cases hp
      cases dp_str da
      cases dp_int db
      obtain ⟨t1, rfl⟩ := rx
      obtain ⟨t2, rfl⟩ := ry
      have e1 : (k == 1 || z.length == 0) = false := by
        have h1 : (k == 1) = false := by rw [beq_eq_false_iff_ne]; omega
        have h2 : (z.length == 0) = false := by rw [beq_eq_false_iff_ne]; omega
        rw [h1, h2]
        rfl
      have hk : z.length * k.toNat ≤ 1000000 := Nat.le_trans (Nat.mul_le_mul hz.2.2 (show k.toNat ≤ 1000 by omega)) (by decide)
      refine PySem.P.mul_str (by
        have h1 : ¬ k < -(2 ^ 63 : Int) := by omega
        have h2 : ¬ k ≥ 2 ^ 63 := by omega
        rw [decide_eq_false h1, decide_eq_false h2]
        rfl) (fun _ _ => ?_) (fun _ _ => ?_) ?_
      · have h3 : (z.length : Int) * k ≤ 1000 * 1000 := Int.mul_le_mul (by omega) hz.1.2 (by omega) (by decide)
        have h4 : (z.length : Int) ≤ (2 ^ 63 - 1) / k := (Int.le_ediv_iff_mul_le (by omega)).mpr (Int.le_trans h3 (by decide))
        omega
      · show decide (z.length * k.toNat > sizeLine) = false
        have := size_lt
        rw [decide_eq_false_iff_not]
        omega
      · rw [if_neg (by omega), if_neg (by rw [e1]; exact Bool.false_ne_true)]
        refine ⟨?_, ⟨.str _, H, I.tok _, ⟨_, rfl⟩, q G H _ (Ext.refl gh) (.str _)⟩⟩
        show (repS z k.toNat).length ≤ sizeLine
        have := size_lt
        rw [repS_len, Nat.mul_comm]
        omega
    · cases hp
  · cases hp
end Dl

set_option Elab.async false
set_option linter.all false
set_option maxRecDepth 100000
set_option maxHeartbeats 1000000
/-! Running the functions on known slots: rewriting rules. -/
namespace Dl
open PySem L2
section
variable {α β : Type} {ρ : Rho}
@[simp] theorem run_ok (a : α) (k : α → Rho → Rs β) : (Rs.ok a ρ).andThen k = k a ρ := rfl
@[simp] theorem run_ex (e : Exn) (k : α → Rho → Rs β) : (Rs.ex e : Rs α).andThen k = .ex e := rfl
@[simp] theorem run_bad (k : α → Rho → Rs β) : (Rs.bad : Rs α).andThen k = .bad := rfl
@[simp] theorem run_some (d : α) : opt (some d) ρ = .ok d ρ := rfl
@[simp] theorem run_none : opt (none : Option α) ρ = .bad := rfl
@[simp] theorem run_eC (d : PyData) : eC d ρ = .ok d ρ := rfl
@[simp] theorem run_eBin (p : PyData → PyData → Option PyData) (fa fb : Rho → Rs PyData) : eBin p fa fb ρ = (fa ρ).andThen fun a ρ => (fb ρ).andThen fun b ρ => opt (p a b) ρ := rfl
@[simp] theorem run_eUn (p : PyData → Option PyData) (fa : Rho → Rs PyData) : eUn p fa ρ = (fa ρ).andThen fun a ρ => opt (p a) ρ := rfl
@[simp] theorem run_eT (fa : Rho → Rs PyData) : eT fa ρ = (fa ρ).andThen fun a ρ => opt (isB a) ρ := rfl
@[simp] theorem run_eAnd (ta tb : Rho → Rs Bool) : eAnd ta tb ρ = (ta ρ).andThen fun b ρ => if b = true then tb ρ else .ok false ρ := rfl
@[simp] theorem run_eOr (ta tb : Rho → Rs Bool) : eOr ta tb ρ = (ta ρ).andThen fun b ρ => if b = true then .ok true ρ else tb ρ := rfl
@[simp] theorem run_eNot (ta : Rho → Rs Bool) : eNot ta ρ = (ta ρ).andThen fun b ρ => .ok (!b) ρ := rfl
@[simp] theorem run_eAndV (fa fb : Rho → Rs PyData) : eAndV fa fb ρ = (eT fa ρ).andThen fun b ρ => if b = true then fb ρ else .ok (.bool false) ρ := rfl
@[simp] theorem run_eOrV (fa fb : Rho → Rs PyData) : eOrV fa fb ρ = (eT fa ρ).andThen fun b ρ => if b = true then .ok (.bool true) ρ else fb ρ := rfl
@[simp] theorem run_eNotV (fa : Rho → Rs PyData) : eNotV fa ρ = (eT fa ρ).andThen fun b ρ => .ok (.bool (!b)) ρ := rfl
@[simp] theorem run_eIf (t : Rho → Rs Bool) (fa fb : Rho → Rs PyData) : eIf t fa fb ρ = (t ρ).andThen fun b ρ => if b = true then fa ρ else fb ρ := rfl
@[simp] theorem run_eChain (p q : PyData → PyData → Option PyData) (fa fb fc : Rho → Rs PyData) : eChain p q fa fb fc ρ = (fa ρ).andThen fun a ρ => (fb ρ).andThen fun b ρ =>
  (opt ((p a b).bind isB) ρ).andThen fun k ρ => if k = true then (fc ρ).andThen fun c ρ => opt (q b c) ρ else .ok (.bool false) ρ := rfl
@[simp] theorem run_eNil : eNil ρ = .ok [] ρ := rfl
@[simp] theorem run_eCons (fa : Rho → Rs PyData) (fr : Rho → Rs (List PyData)) : eCons fa fr ρ = (fa ρ).andThen fun a ρ => (fr ρ).andThen fun r ρ => .ok (a :: r) ρ := rfl
@[simp] theorem run_eTup (f : Rho → Rs (List PyData)) : eTup f ρ = (f ρ).andThen fun ds ρ => .ok (.tuple ds) ρ := rfl
@[simp] theorem run_eLst (f : Rho → Rs (List PyData)) : eLst f ρ = (f ρ).andThen fun ds ρ => .ok (.list ds) ρ := rfl
@[simp] theorem run_eCall (p : List PyData → Option PyData) (f : Rho → Rs (List PyData)) : eCall p f ρ = (f ρ).andThen fun ds ρ => opt (p ds) ρ := rfl
@[simp] theorem run_eCallO (p : List PyData → Option (List PyData)) (f : Rho → Rs (List PyData)) : eCallO p f ρ = (f ρ).andThen fun ds ρ => opt (p ds) ρ := rfl
@[simp] theorem run_eIsi (p : PyData → Bool) (fa : Rho → Rs PyData) : eIsi p fa ρ = (fa ρ).andThen fun a ρ => .ok (.bool (p a)) ρ := rfl
@[simp] theorem run_sNil : sNil ρ = .ok .nx ρ := rfl
@[simp] theorem run_sSeq (f g : Rho → Rs Fl) : sSeq f g ρ = (f ρ).andThen (thenS g) := rfl
@[simp] theorem run_thenNx (g : Rho → Rs Fl) : thenS g .nx ρ = g ρ := rfl
@[simp] theorem run_thenRt (g : Rho → Rs Fl) (d : PyData) : thenS g (.rt d) ρ = .ok (.rt d) ρ := rfl
@[simp] theorem run_thenRo (g : Rho → Rs Fl) (d : List PyData) : thenS g (.ro d) ρ = .ok (.ro d) ρ := rfl
@[simp] theorem run_thenBk (g : Rho → Rs Fl) : thenS g .bk ρ = .ok .bk ρ := rfl
@[simp] theorem run_thenCt (g : Rho → Rs Fl) : thenS g .ct ρ = .ok .ct ρ := rfl
@[simp] theorem run_sRet (f : Rho → Rs PyData) : sRet f ρ = (f ρ).andThen fun d ρ => .ok (.rt d) ρ := rfl
@[simp] theorem run_sRetO (f : Rho → Rs (List PyData)) : sRetO f ρ = (f ρ).andThen fun d ρ => .ok (.ro d) ρ := rfl
@[simp] theorem run_sSet (i : Nat) (f : Rho → Rs PyData) : sSet i f ρ = (f ρ).andThen fun d ρ => .ok .nx (ρ.set i (.sh d)) := rfl
@[simp] theorem run_sSetO (i : Nat) (f : Rho → Rs (List PyData)) : sSetO i f ρ = (f ρ).andThen fun ds ρ => .ok .nx (ρ.set i (.own false ds)) := rfl
@[simp] theorem run_sExpr (f : Rho → Rs PyData) : sExpr f ρ = (f ρ).andThen fun _ ρ => .ok .nx ρ := rfl
@[simp] theorem run_sIf (t : Rho → Rs Bool) (a b : Rho → Rs Fl) : sIf t a b ρ = (t ρ).andThen fun k ρ => if k = true then a ρ else b ρ := rfl
@[simp] theorem run_sBreak : sBreak ρ = .ok .bk ρ := rfl
@[simp] theorem run_sCont : sCont ρ = .ok .ct ρ := rfl
@[simp] theorem run_sRaise (x : Str) : sRaise x ρ = .ex ⟨x, none⟩ := rfl
@[simp] theorem run_sFor (fi : Rho → Rs (List PyData)) (b : PyData → Rho → Option Rho) (body : Rho → Rs Fl) : sFor fi b body ρ = (fi ρ).andThen fun items ρ => forL b body items ρ := rfl
@[simp] theorem run_iSeq (f : Rho → Rs PyData) : iSeq f ρ = (f ρ).andThen fun d ρ => opt (itemsOf d) ρ := rfl
@[simp] theorem run_iEnu (f : Rho → Rs PyData) : iEnu f ρ = (f ρ).andThen fun d ρ => opt ((seqOf d).map enumD) ρ := rfl
@[simp] theorem run_sPar (is : List Nat) (f : Rho → Rs (List Part)) : sPar is f ρ = (f ρ).andThen fun ss ρ => .ok .nx (setParts is ss ρ) := rfl
@[simp] theorem run_mNil : mNil ρ = .ok [] ρ := rfl
@[simp] theorem run_mSh (fa : Rho → Rs PyData) (fr : Rho → Rs (List Part)) : mSh fa fr ρ = (fa ρ).andThen fun a ρ => (fr ρ).andThen fun r ρ => .ok (.sh a :: r) ρ := rfl
@[simp] theorem run_mOw (fa : Rho → Rs (List PyData)) (fr : Rho → Rs (List Part)) : mOw fa fr ρ = (fa ρ).andThen fun a ρ => (fr ρ).andThen fun r ρ => .ok (.ow a :: r) ρ := rfl
@[simp] theorem run_setParts (i : Nat) (is : List Nat) (s : Part) (ss : List Part) : setParts (i :: is) (s :: ss) ρ = setParts is ss (setPart i ρ s) := rfl
@[simp] theorem run_setParts0 (ss : List Part) : setParts [] ss ρ = ρ := rfl
@[simp] theorem run_setSh (i : Nat) (d : PyData) : setPart i ρ (.sh d) = ρ.set i (.sh d) := rfl
@[simp] theorem run_setOw (i : Nat) (ds : List PyData) : setPart i ρ (.ow ds) = ρ.set i (.own false ds) := rfl
@[simp] theorem run_eNoP : eNoP ρ = .ok none ρ := rfl
@[simp] theorem run_eSl (fa : Rho → Rs PyData) (fl fh : Rho → Rs (Option Int)) : eSl fa fl fh ρ = (fa ρ).andThen fun a ρ => (fl ρ).andThen fun l ρ => (fh ρ).andThen fun h ρ => opt (pSl a l h) ρ := rfl
@[simp] theorem run_eSS (f : Rho → Rs PyData) : eSS f ρ = (f ρ).andThen fun d ρ => opt (pSortSet d) ρ := rfl
@[simp] theorem run_bName (i : Nat) (d : PyData) : bName i d ρ = some (ρ.set i (.sh d)) := rfl
@[simp] theorem run_bNil : bNil [] ρ = some ρ := rfl
@[simp] theorem run_bCons (b : PyData → Rho → Option Rho) (r : List PyData → Rho → Option Rho) (d : PyData) (ds : List PyData) : bCons b r (d :: ds) ρ = (b d ρ).bind (r ds) := rfl
@[simp] theorem run_bTup (b : List PyData → Rho → Option Rho) (ds : List PyData) : bTup b (.tuple ds) ρ = b ds ρ := rfl
@[simp] theorem run_eYes : eYes ρ = .ok true ρ := rfl
/-! slots -/
theorem run_eV_sh {i : Nat} {d : PyData} (h : ρ[i]? = some (.sh d)) : eV i ρ = .ok d ρ := by unfold eV; rw [h]
theorem run_eV_own {i : Nat} {ds : List PyData} (h : ρ[i]? = some (.own false ds)) : eV i ρ = .ok (.list ds) (ρ.set i (.sh (.list ds))) := by unfold eV; rw [h]
theorem run_ownAt {i : Nat} {b : Bool} {ds : List PyData} (h : ρ[i]? = some (.own b ds)) : ownAt ρ i = some (b, ds) := by unfold ownAt; rw [h]
@[simp] theorem run_eP (f : Rho → Rs PyData) : eP f ρ = (f ρ).andThen fun d ρ => match d with
  | .int i => .ok (some i) ρ
  | _ => .bad := rfl
@[simp] theorem run_iRng1 (f : Rho → Rs PyData) : iRng1 f ρ = (f ρ).andThen fun d ρ => match d with
  | .int n => if -1000000 ≤ n ∧ n ≤ 1000000 then .ok (rngL 0 n.toNat) ρ else .bad
  | _ => .bad := rfl
@[simp] theorem run_iRng2 (f g : Rho → Rs PyData) : iRng2 f g ρ = (f ρ).andThen fun a ρ => (g ρ).andThen fun b ρ => match a, b with
  | .int m, .int n => if (-1000000 ≤ m ∧ m ≤ 1000000) ∧ -1000000 ≤ n ∧ n ≤ 1000000 then .ok (rngL m (n - m).toNat) ρ else .bad
  | _, _ => .bad := rfl
@[simp] theorem run_sAsg (f : Rho → Rs PyData) (b : PyData → Rho → Option Rho) : sAsg f b ρ = (f ρ).andThen fun d ρ => match b d ρ with
  | some ρ' => .ok .nx ρ'
  | none => .bad := rfl
@[simp] theorem run_eFn (F : List PyData → Rs PyData) (fs : Rho → Rs (List PyData)) : eFn F fs ρ = (fs ρ).andThen fun ds ρ => match F ds with
  | .ok d _ => .ok d ρ
  | .ex e => .ex e
  | .bad => .bad := rfl
@[simp] theorem run_eFnN (F : List PyData → Rs (List PyData)) (fs : Rho → Rs (List PyData)) : eFnN F fs ρ = (fs ρ).andThen fun ds ρ => match F ds with
  | .ok d _ => .ok d ρ
  | .ex e => .ex e
  | .bad => .bad := rfl
theorem run_eFnO {i : Nat} {F : List PyData → List PyData → Rs (PyData × List PyData)} {fs : Rho → Rs (List PyData)} {b : Bool} {cs : List PyData} (h : ρ[i]? = some (.own b cs)) : eFnO i F fs ρ = (fs ρ).andThen (afterO i F) := by
  unfold eFnO
  rw [h]
theorem run_afterO {i : Nat} {F : List PyData → List PyData → Rs (PyData × List PyData)} {b : Bool} {ds cs cs' : List PyData} {r : PyData} {ρ' : Rho} (h : ρ[i]? = some (.own b cs)) (e : F cs ds = .ok (r, cs') ρ') : afterO i F ds ρ = .ok r (ρ.set i (.own b cs')) := by
  unfold afterO
  rw [h]
  simp only
  rw [e]
theorem run_eV {i : Nat} : eV i ρ = match ρ[i]? with
  | some (.sh d) => .ok d ρ
  | some (.own false ds) => .ok (.list ds) (ρ.set i (.sh (.list ds)))
  | _ => .bad := rfl
theorem run_ownAt' {i : Nat} : ownAt ρ i = match ρ[i]? with
  | some (.own b ds) => some (b, ds)
  | _ => none := rfl
theorem run_eOIx {i : Nat} {f : Rho → Rs PyData} : eOIx i f ρ = match ownAt ρ i with
  | none => .bad
  | some _ => (f ρ).andThen fun k ρ1 => match ownAt ρ1 i, k with
    | some z, .int k => opt (atI z.2 k) ρ1
    | _, _ => .bad := rfl
theorem run_sApp {i : Nat} {f : Rho → Rs PyData} : sApp i f ρ = match ownAt ρ i with
  | none => .bad
  | some _ => (f ρ).andThen fun d ρ1 => match ownAt ρ1 i with
    | some z => if z.2.length < 1000000 then .ok .nx (ρ1.set i (.own z.1 (z.2 ++ [d]))) else .bad
    | _ => .bad := rfl
theorem run_ePopAt {i : Nat} {f : Rho → Rs PyData} : ePopAt i f ρ = match ownAt ρ i with
  | none => .bad
  | some _ => (f ρ).andThen fun d ρ1 => match ownAt ρ1 i, d with
    | some z, .int k => (match ixN z.2.length k with
      | some j => if z.2.length ≤ 1000000 then (match z.2[j]? with
        | some d => .ok d (ρ1.set i (.own z.1 (z.2.eraseIdx j)))
        | none => .bad) else .bad
      | none => .bad)
    | _, _ => .bad := rfl
theorem run_eFnO' {i : Nat} {F : List PyData → List PyData → Rs (PyData × List PyData)} {fs : Rho → Rs (List PyData)} : eFnO i F fs ρ = match ρ[i]? with
  | some (Slot.own _ _) => (fs ρ).andThen (afterO i F)
  | _ => .bad := rfl
theorem run_afterO' {i : Nat} {F : List PyData → List PyData → Rs (PyData × List PyData)} {ds : List PyData} : afterO i F ds ρ = match ρ[i]? with
  | some (Slot.own b cs) => (match F cs ds with
    | .ok r _ => .ok r.1 (ρ.set i (.own b r.2))
    | _ => .bad)
  | _ => .bad := rfl
theorem run_eLook {f : Rho → Rs PyData} : eLook f ρ = match f (ρ.map Slot.see) with
  | .ok d _ => if atom d = true then .ok d ρ else .bad
  | _ => .bad := rfl
theorem run_eLookT {f : Rho → Rs Bool} : eLookT f ρ = match f (ρ.map Slot.see) with
  | .ok b _ => .ok b ρ
  | _ => .bad := rfl
theorem run_sStore {i : Nat} {fk f : Rho → Rs PyData} : sStore i fk f ρ = (f ρ).andThen fun d ρ1 => match ownAt ρ1 i with
  | none => .bad
  | some _ => (fk ρ1).andThen fun k ρ2 => match ownAt ρ2 i, k with
    | some z, .int k => (match ixN z.2.length k with
      | some j => .ok .nx (ρ2.set i (.own z.1 (z.2.set j d)))
      | none => .bad)
    | _, _ => .bad := rfl
end
/-! operations on known data -/
section
variable {i j : Int} {x y : Str} {xs ys : List PyData}
@[simp] theorem isB_bool {b : Bool} : isB (.bool b) = some b := rfl
@[simp] theorem op_add : pAdd (.int i) (.int j) = some (.int (i + j)) := rfl
@[simp] theorem op_sub : pSub (.int i) (.int j) = some (.int (i - j)) := rfl
@[simp] theorem op_neg : pNeg (.int i) = some (.int (-i)) := rfl
@[simp] theorem op_lt : pLt (.int i) (.int j) = some (.bool (decide (i < j))) := rfl
@[simp] theorem op_le : pLe (.int i) (.int j) = some (.bool (decide (i ≤ j))) := rfl
@[simp] theorem op_gt : pGt (.int i) (.int j) = some (.bool (decide (j < i))) := rfl
@[simp] theorem op_ge : pGe (.int i) (.int j) = some (.bool (decide (j ≤ i))) := rfl
@[simp] theorem op_is {d : PyData} : pIs d .none = some (.bool (isN d)) := by cases d <;> rfl
@[simp] theorem op_isNot {d : PyData} : pIsNot d .none = some (.bool (!isN d)) := by cases d <;> rfl
@[simp] theorem isN_none : isN .none = true := rfl
@[simp] theorem isN_int : isN (.int i) = false := rfl
@[simp] theorem isN_tuple : isN (.tuple xs) = false := rfl
@[simp] theorem isN_list : isN (.list xs) = false := rfl
@[simp] theorem isN_str : isN (.str x) = false := rfl
@[simp] theorem isN_bool {b : Bool} : isN (.bool b) = false := rfl
theorem op_mul (h : i.natAbs < 18446744073709551616 ∨ j.natAbs < 18446744073709551616) : pMul (.int i) (.int j) = some (.int (i * j)) := if_pos h
theorem op_fdiv (h : 0 < j ∧ j < 1073741824) : pFdiv (.int i) (.int j) = some (.int (i / j)) := if_pos h
theorem op_mod (h : 0 < j) : pMod (.int i) (.int j) = some (.int (i % j)) := if_pos h
theorem op_pow (h : 0 ≤ j ∧ j ≤ 1000000 ∧ i.natAbs < 18446744073709551616) : pPow (.int i) (.int j) = some (.int (i ^ j.toNat)) := if_pos h
theorem op_catl (h : xs.length + ys.length ≤ 1000000) : pAdd (.list xs) (.list ys) = some (.list (xs ++ ys)) := if_pos h
theorem op_catt (h : xs.length + ys.length ≤ 1000000) : pAdd (.tuple xs) (.tuple ys) = some (.tuple (xs ++ ys)) := if_pos h
@[simp] theorem op_eqi : pEq (.int i) (.int j) = some (.bool (decide (i = j))) := by
  unfold pEq
  rw [if_pos (by simp [PyData.depth]), show PyData.eqv (.int i) (.int j) = (i == j) by simp [PyData.eqv]]
  rfl
@[simp] theorem op_nei : pNe (.int i) (.int j) = some (.bool (decide (i ≠ j))) := by
  unfold pNe
  rw [if_pos (by simp [PyData.depth]), show PyData.eqv (.int i) (.int j) = (i == j) by simp [PyData.eqv]]
  by_cases h : i = j <;> simp [h]
@[simp] theorem op_lenl : pLen [.list xs] = some (.int xs.length) := rfl
@[simp] theorem op_lent : pLen [.tuple xs] = some (.int xs.length) := rfl
@[simp] theorem op_int : pInt [.int i] = some (.int i) := rfl
@[simp] theorem op_intb {b : Bool} : pInt [.bool b] = some (.int (if b = true then 1 else 0)) := by cases b <;> rfl
@[simp] theorem op_max2 : pMax2 [.int i, .int j] = some (.int (if j > i then j else i)) := rfl
@[simp] theorem op_min2 : pMin2 [.int i, .int j] = some (.int (if j < i then j else i)) := rfl
@[simp] theorem op_tupl : pTuple [.list xs] = some (.tuple xs) := rfl
@[simp] theorem op_tupt : pTuple [.tuple xs] = some (.tuple xs) := rfl
@[simp] theorem op_lstl : pList [.list xs] = some xs := rfl
@[simp] theorem op_lstt : pList [.tuple xs] = some xs := rfl
@[simp] theorem op_ixl : pIx (.list xs) (.int i) = atI xs i := rfl
@[simp] theorem op_ixt : pIx (.tuple xs) (.int i) = atI xs i := rfl
theorem atI_nat {α : Type} {l : List α} {k : Nat} : atI l (k : Int) = l[k]? := by
  unfold atI ixN
  by_cases h : k < l.length
  · rw [if_pos (by omega), if_pos (by omega)]
    rfl
  · rw [if_pos (by omega), if_neg (by omega), List.getElem?_eq_none (by omega)]
    rfl
theorem atI_of {α : Type} {l : List α} {i : Int} (h : 0 ≤ i) : atI l i = l[i.toNat]? := by
  rw [← atI_nat, Int.toNat_of_nonneg h]
@[simp] theorem atI_0 {α : Type} {l : List α} : atI l 0 = l[0]? := atI_nat (k := 0)
@[simp] theorem atI_1 {α : Type} {l : List α} : atI l 1 = l[1]? := atI_nat (k := 1)
@[simp] theorem atI_2 {α : Type} {l : List α} : atI l 2 = l[2]? := atI_nat (k := 2)
@[simp] theorem atI_3 {α : Type} {l : List α} : atI l 3 = l[3]? := atI_nat (k := 3)
@[simp] theorem atI_4 {α : Type} {l : List α} : atI l 4 = l[4]? := atI_nat (k := 4)
theorem ixN_of {n : Nat} {i : Int} (h : 0 ≤ i) (h2 : i < n) : ixN n i = some i.toNat := by
  unfold ixN
  rw [if_pos h, if_pos h2]
@[simp] theorem isInt_int : PyData.isInt (.int i) = true := rfl
@[simp] theorem items_l : itemsOf (.list xs) = some xs := rfl
@[simp] theorem items_t : itemsOf (.tuple xs) = some xs := rfl
@[simp] theorem seq_l : seqOf (.list xs) = some xs := rfl
@[simp] theorem seq_t : seqOf (.tuple xs) = some xs := rfl
end
theorem rngL_get {n : Nat} {d : PyData} (h : d ∈ rngL 0 n) : ∃ k : Nat, k < n ∧ d = .int k := by
  unfold rngL at h
  obtain ⟨k, h1, h2⟩ := List.mem_map.mp h
  exact ⟨k, List.mem_range.mp h1, by rw [← h2]; simp⟩
end Dl

set_option Elab.async false
set_option linter.all false
set_option maxRecDepth 100000
set_option maxHeartbeats 1000000
namespace Dl
open PySem L2
/-! loops by invariants -/
theorem forL_inv {b : PyData → Rho → Option Rho} {body : Rho → Rs Fl} (I : Nat → Rho → Prop) : ∀ (items : List PyData) (ρ : Rho) (k : Nat), I k ρ →
    (∀ i d ρ, items[i]? = some d → I (k + i) ρ → ∃ ρ1 ρ2, b d ρ = some ρ1 ∧ body ρ1 = .ok .nx ρ2 ∧ I (k + i + 1) ρ2) → ∃ ρ', forL b body items ρ = .ok .nx ρ' ∧ I (k + items.length) ρ'
  | [], ρ, k, h, _ => ⟨ρ, rfl, h⟩
  | d :: ds, ρ, k, h, hs => by
    obtain ⟨ρ1, ρ2, e1, e2, e3⟩ := hs 0 d ρ rfl h
    obtain ⟨ρ', e4, e5⟩ := forL_inv I ds ρ2 (k + 1) e3 (fun i d' ρ hi hI => by
      have := hs (i + 1) d' ρ hi (by rw [show k + (i + 1) = k + 1 + i by omega]; exact hI)
      rw [show k + 1 + i + 1 = k + (i + 1) + 1 by omega]
      exact this)
    refine ⟨ρ', ?_, by rw [List.length_cons, show k + (ds.length + 1) = k + 1 + ds.length by omega]; exact e5⟩
    show (match b d ρ with | some ρ1 => (body ρ1).andThen (loopS (forL b body ds)) | none => Rs.bad) = _
    rw [e1]
    show (body ρ1).andThen (loopS (forL b body ds)) = _
    rw [e2]
    exact e4
theorem forL_all {b : PyData → Rho → Option Rho} {body : Rho → Rs Fl} (I : Nat → Rho → Prop) (items : List PyData) (ρ : Rho) (h : I 0 ρ)
    (hs : ∀ i d ρ, items[i]? = some d → I i ρ → ∃ ρ1 ρ2, b d ρ = some ρ1 ∧ body ρ1 = .ok .nx ρ2 ∧ I (i + 1) ρ2) : ∃ ρ', forL b body items ρ = .ok .nx ρ' ∧ I items.length ρ' := by
  obtain ⟨ρ', e1, e2⟩ := forL_inv I items ρ 0 h (fun i d ρ hi hI => by
    rw [Nat.zero_add] at hI ⊢
    exact hs i d ρ hi hI)
  rw [Nat.zero_add] at e2
  exact ⟨ρ', e1, e2⟩
/-- a comprehension with states -/
theorem lcL_inv {b : PyData → Rho → Option Rho} {ft : Rho → Rs Bool} {fe : Rho → Rs PyData} {vs : List Nat} (I : Nat → List PyData → Rho → Prop) : ∀ (items : List PyData) (ρ : Rho) (k : Nat) (acc : List PyData), I k acc ρ →
    (∀ i d acc ρ, items[i]? = some d → I (k + i) acc ρ → ∃ ρ1, b d ρ = some ρ1 ∧ ((∃ ρ2, ft ρ1 = .ok false ρ2 ∧ I (k + i + 1) acc (wipeR vs ρ2)) ∨ ∃ ρ2 y ρ3, ft ρ1 = .ok true ρ2 ∧ fe ρ2 = .ok y ρ3 ∧ I (k + i + 1) (acc ++ [y]) (wipeR vs ρ3))) →
    ∃ ys ρ', lcL b ft fe vs items ρ = .ok ys ρ' ∧ I (k + items.length) (acc ++ ys) ρ'
  | [], ρ, k, acc, h, _ => ⟨[], ρ, rfl, by rw [List.append_nil]; exact h⟩
  | d :: ds, ρ, k, acc, h, hs => by
    obtain ⟨ρ1, e1, hh⟩ := hs 0 d acc ρ rfl h
    have step : ∀ acc' ρ2, I (k + 0 + 1) acc' ρ2 → ∃ ys ρ', lcL b ft fe vs ds ρ2 = .ok ys ρ' ∧ I (k + (d :: ds).length) (acc' ++ ys) ρ' := fun acc' ρ2 h2 => by
      obtain ⟨ys, ρ', e4, e5⟩ := lcL_inv I ds ρ2 (k + 1) acc' h2 (fun i d' acc ρ hi hI => by
        have := hs (i + 1) d' acc ρ hi (by rw [show k + (i + 1) = k + 1 + i by omega]; exact hI)
        rw [show k + 1 + i + 1 = k + (i + 1) + 1 by omega]
        exact this)
      exact ⟨ys, ρ', e4, by rw [List.length_cons, show k + (ds.length + 1) = k + 1 + ds.length by omega]; exact e5⟩
    have un : lcL b ft fe vs (d :: ds) ρ = (ft ρ1).andThen fun k ρ2 => if k = true then (fe ρ2).andThen fun y ρ3 => (lcL b ft fe vs ds (wipeR vs ρ3)).andThen fun ys ρ4 => .ok (y :: ys) ρ4 else lcL b ft fe vs ds (wipeR vs ρ2) := by
      show (match b d ρ with | none => Rs.bad | some ρ1 => _) = _
      rw [e1]
    rw [un]
    rcases hh with ⟨ρ2, e2, e3⟩ | ⟨ρ2, y, ρ3, e2, e3, e6⟩
    · obtain ⟨ys, ρ', e4, e5⟩ := step acc _ e3
      exact ⟨ys, ρ', by rw [e2]; exact e4, e5⟩
    · obtain ⟨ys, ρ', e4, e5⟩ := step (acc ++ [y]) _ e6
      refine ⟨y :: ys, ρ', ?_, by rw [List.append_assoc] at e5; exact e5⟩
      rw [e2]
      show (fe ρ2).andThen (fun y ρ3 => (lcL b ft fe vs ds (wipeR vs ρ3)).andThen fun ys ρ4 => .ok (y :: ys) ρ4) = _
      rw [e3]
      show (lcL b ft fe vs ds (wipeR vs ρ3)).andThen (fun ys ρ4 => Rs.ok (y :: ys) ρ4) = _
      rw [e4]
      rfl
theorem lcL_all {b : PyData → Rho → Option Rho} {ft : Rho → Rs Bool} {fe : Rho → Rs PyData} {vs : List Nat} (I : Nat → List PyData → Rho → Prop) (items : List PyData) (ρ : Rho) (h : I 0 [] ρ)
    (hs : ∀ i d acc ρ, items[i]? = some d → I i acc ρ → ∃ ρ1, b d ρ = some ρ1 ∧ ((∃ ρ2, ft ρ1 = .ok false ρ2 ∧ I (i + 1) acc (wipeR vs ρ2)) ∨ ∃ ρ2 y ρ3, ft ρ1 = .ok true ρ2 ∧ fe ρ2 = .ok y ρ3 ∧ I (i + 1) (acc ++ [y]) (wipeR vs ρ3))) :
    ∃ ys ρ', lcL b ft fe vs items ρ = .ok ys ρ' ∧ I items.length ys ρ' := by
  obtain ⟨ys, ρ', e1, e2⟩ := lcL_inv I items ρ 0 [] h (fun i d acc ρ hi hI => by
    rw [Nat.zero_add] at hI ⊢
    exact hs i d acc ρ hi hI)
  rw [Nat.zero_add] at e2
  exact ⟨ys, ρ', e1, e2⟩
/-- a comprehension that changes nothing: a filter and a map -/
theorem lcL_pure {b : PyData → Rho → Option Rho} {ft : Rho → Rs Bool} {fe : Rho → Rs PyData} {vs : List Nat} {ρ0 : Rho} (t : PyData → Bool) (g : PyData → PyData) : ∀ (items : List PyData),
    (∀ d ∈ items, ∃ ρ1 ρ2, b d ρ0 = some ρ1 ∧ ft ρ1 = .ok (t d) ρ2 ∧ ((t d = false ∧ wipeR vs ρ2 = ρ0) ∨ ∃ ρ3, fe ρ2 = .ok (g d) ρ3 ∧ wipeR vs ρ2 = ρ0 ∧ wipeR vs ρ3 = ρ0)) →
    lcL b ft fe vs items ρ0 = .ok ((items.filter t).map g) ρ0
  | [], _ => rfl
  | d :: ds, hs => by
    obtain ⟨ρ1, ρ2, e1, e2, e3⟩ := hs d List.mem_cons_self
    have ih := lcL_pure t g ds fun d hd => hs d (List.mem_cons_of_mem _ hd)
    show (match b d ρ0 with | none => Rs.bad | some ρ1 => (ft ρ1).andThen fun k ρ2 => if k = true then (fe ρ2).andThen fun y ρ3 => (lcL b ft fe vs ds (wipeR vs ρ3)).andThen fun ys ρ4 => Rs.ok (y :: ys) ρ4 else lcL b ft fe vs ds (wipeR vs ρ2)) = _
    rw [e1]
    show (ft ρ1).andThen (fun k ρ2 => if k = true then (fe ρ2).andThen fun y ρ3 => (lcL b ft fe vs ds (wipeR vs ρ3)).andThen fun ys ρ4 => Rs.ok (y :: ys) ρ4 else lcL b ft fe vs ds (wipeR vs ρ2)) = _
    rw [e2]
    cases ht : t d with
    | false =>
      have e4 : wipeR vs ρ2 = ρ0 := by
        rcases e3 with ⟨_, e⟩ | ⟨_, _, e, _⟩ <;> exact e
      show lcL b ft fe vs ds (wipeR vs ρ2) = _
      rw [e4, ih, List.filter_cons_of_neg (by simp [ht])]
    | true =>
      rcases e3 with ⟨e, _⟩ | ⟨ρ3, e4, _, e5⟩
      · rw [ht] at e; cases e
      · show (fe ρ2).andThen (fun y ρ3 => (lcL b ft fe vs ds (wipeR vs ρ3)).andThen fun ys ρ4 => Rs.ok (y :: ys) ρ4) = _
        rw [e4]
        show (lcL b ft fe vs ds (wipeR vs ρ3)).andThen (fun ys ρ4 => Rs.ok (g d :: ys) ρ4) = _
        rw [e5, ih, List.filter_cons_of_pos ht]
        rfl
theorem run_eLc {fi : Rho → Rs (List PyData)} {b : PyData → Rho → Option Rho} {ft : Rho → Rs Bool} {fe : Rho → Rs PyData} {vs : List Nat} {ρ : Rho} : eLc fi b ft fe vs ρ = (fi ρ).andThen fun items ρ1 =>
  match lcL b ft fe vs items (wipeR vs ρ1) with
  | .ok ys ρ2 => if ys.length ≤ 1000000 then .ok ys (unwipeR vs ρ1 ρ2) else .bad
  | _ => .bad := rfl
/-- the whole, changing nothing -/
theorem eLc_pure {fi : Rho → Rs (List PyData)} {b : PyData → Rho → Option Rho} {ft : Rho → Rs Bool} {fe : Rho → Rs PyData} {vs : List Nat} {ρ ρ1 : Rho} {items : List PyData} (t : PyData → Bool) (g : PyData → PyData) (hi : fi ρ = .ok items ρ1) (hl : items.length ≤ 1000000) (hu : unwipeR vs ρ1 (wipeR vs ρ1) = ρ1)
    (hs : ∀ d ∈ items, ∃ ρ2 ρ3, b d (wipeR vs ρ1) = some ρ2 ∧ ft ρ2 = .ok (t d) ρ3 ∧ ((t d = false ∧ wipeR vs ρ3 = wipeR vs ρ1) ∨ ∃ ρ4, fe ρ3 = .ok (g d) ρ4 ∧ wipeR vs ρ3 = wipeR vs ρ1 ∧ wipeR vs ρ4 = wipeR vs ρ1)) :
    eLc fi b ft fe vs ρ = .ok ((items.filter t).map g) ρ1 := by
  rw [run_eLc, hi, run_ok, lcL_pure t g items hs]
  simp only
  rw [if_pos, hu]
  rw [List.length_map]
  exact Nat.le_trans (List.length_filter_le _ _) hl
/-- `forL` that ends with a return or goes on: every turn goes on -/
theorem wipe_nil (vs : List Nat) : wipeR vs [] = [] := rfl
theorem all_bools {ds : List PyData} {f : PyData → Bool} : pAll [.list (ds.map fun d => .bool (f d))] = some (.bool (ds.all f)) := by
  unfold pAll
  have e : boolsOf (ds.map fun d => .bool (f d)) = some (ds.map f) := by
    rw [show (ds.map fun d => PyData.bool (f d)) = (ds.map f).map .bool by rw [List.map_map]; rfl]
    exact boolsOf_map _
  simp only [e, Option.map_some, List.all_map]
  rfl
theorem any_bools {ds : List PyData} {f : PyData → Bool} : pAny [.list (ds.map fun d => .bool (f d))] = some (.bool (ds.any f)) := by
  unfold pAny
  have e : boolsOf (ds.map fun d => .bool (f d)) = some (ds.map f) := by
    rw [show (ds.map fun d => PyData.bool (f d)) = (ds.map f).map .bool by rw [List.map_map]; rfl]
    exact boolsOf_map _
  simp only [e, Option.map_some, List.any_map]
  rfl
end Dl

set_option Elab.async false
set_option linter.all false
set_option maxRecDepth 100000
set_option maxHeartbeats 1000000
namespace Dl
open PySem L2
theorem whileN_succ {t : Rho → Rs Bool} {body : Rho → Rs Fl} {n : Nat} {ρ : Rho} : whileN t body (n + 1) ρ = (t ρ).andThen fun k ρ => if k = true then (body ρ).andThen (loopS (whileN t body n)) else .ok .nx ρ := rfl
theorem whileN_mono {t : Rho → Rs Bool} {body : Rho → Rs Fl} : ∀ (n : Nat) (ρ : Rho) (r : Rs Fl), whileN t body n ρ = r → r ≠ .bad → whileN t body (n + 1) ρ = r
  | 0, ρ, r, h, hr => absurd h.symm hr
  | n + 1, ρ, r, h, hr => by
    rw [whileN_succ] at h ⊢
    generalize t ρ = x at h ⊢
    cases x with
    | bad => exact h
    | ex e => exact h
    | ok k ρ1 =>
      rw [run_ok] at h ⊢
      cases k with
      | false => exact h
      | true =>
        rw [if_pos rfl] at h ⊢
        generalize body ρ1 = y at h ⊢
        cases y with
        | bad => exact h
        | ex e => exact h
        | ok fl ρ2 =>
          rw [run_ok] at h ⊢
          cases fl with
          | nx => exact whileN_mono n ρ2 r h hr
          | ct => exact whileN_mono n ρ2 r h hr
          | bk => exact h
          | rt d => exact h
          | ro d => exact h
theorem whileN_le {t : Rho → Rs Bool} {body : Rho → Rs Fl} {n m : Nat} {ρ : Rho} {r : Rs Fl} (h : whileN t body n ρ = r) (hr : r ≠ .bad) (hm : n ≤ m) : whileN t body m ρ = r := by
  induction hm with
  | refl => exact h
  | step _ ih => exact whileN_mono _ _ _ ih hr
theorem sWhile_of {t : Rho → Rs Bool} {body : Rho → Rs Fl} {n : Nat} {ρ : Rho} {r : Rs Fl} (h : whileN t body n ρ = r) (hr : r ≠ .bad) : sWhile t body ρ = r := by
  unfold sWhile
  split
  · rename_i ex
    have hc : whileN t body ex.choose ρ ≠ .bad := fun e => ex.choose_spec (by rw [e]; trivial)
    have z1 : whileN t body (n + ex.choose) ρ = r := whileN_le h hr (Nat.le_add_right _ _)
    have z2 : whileN t body (n + ex.choose) ρ = whileN t body ex.choose ρ := whileN_le rfl hc (Nat.le_add_left _ _)
    rw [← z2, z1]
  · rename_i no
    refine absurd ⟨n, ?_⟩ no
    rw [h]
    cases r with
    | bad => exact absurd rfl hr
    | ok a ρ => exact fun z => z
    | ex e => exact fun z => z
/-- eqv with a list of nothing -/
theorem eqv_nil (ds : List PyData) : PyData.eqv (.list ds) (.list []) = ds.isEmpty := by
  cases ds <;> simp [PyData.eqv, PyData.eqvAll]
theorem op_nel (ds : List PyData) : pNe (.list ds) (.list []) = some (.bool (!ds.isEmpty)) := by
  unfold pNe
  rw [if_pos (by simp [PyData.depth, PyData.depthAll]), eqv_nil]
theorem op_eql (ds : List PyData) : pEq (.list ds) (.list []) = some (.bool ds.isEmpty) := by
  unfold pEq
  rw [if_pos (by simp [PyData.depth, PyData.depthAll]), eqv_nil]
end Dl

set_option Elab.async false
set_option linter.all false
set_option maxRecDepth 100000
set_option maxHeartbeats 1000000
namespace Dl
open PySem L2
section
variable {ι : Type} {fi : Rho → Rs (List PyData)} {b : PyData → Rho → Option Rho} {ft : Rho → Rs Bool} {fe : Rho → Rs PyData} {vs : List Nat} {ρ ρ0 ρ1 : Rho}
theorem lcL_typed (enc : ι → PyData) (t : ι → Bool) (g : ι → PyData) : ∀ (xs : List ι),
    (∀ x ∈ xs, ∃ ρ1 ρ2, b (enc x) ρ0 = some ρ1 ∧ ft ρ1 = .ok (t x) ρ2 ∧ ((t x = false ∧ wipeR vs ρ2 = ρ0) ∨ ∃ ρ3, fe ρ2 = .ok (g x) ρ3 ∧ wipeR vs ρ2 = ρ0 ∧ wipeR vs ρ3 = ρ0)) →
    lcL b ft fe vs (xs.map enc) ρ0 = .ok ((xs.filter t).map g) ρ0
  | [], _ => rfl
  | x :: xs, hs => by
    obtain ⟨ρ1, ρ2, e1, e2, e3⟩ := hs x List.mem_cons_self
    have ih := lcL_typed enc t g xs fun d hd => hs d (List.mem_cons_of_mem _ hd)
    show (match b (enc x) ρ0 with | none => Rs.bad | some ρ1 => (ft ρ1).andThen fun k ρ2 => if k = true then (fe ρ2).andThen fun y ρ3 => (lcL b ft fe vs (xs.map enc) (wipeR vs ρ3)).andThen fun ys ρ4 => Rs.ok (y :: ys) ρ4 else lcL b ft fe vs (xs.map enc) (wipeR vs ρ2)) = _
    rw [e1]
    show (ft ρ1).andThen (fun k ρ2 => if k = true then (fe ρ2).andThen fun y ρ3 => (lcL b ft fe vs (xs.map enc) (wipeR vs ρ3)).andThen fun ys ρ4 => Rs.ok (y :: ys) ρ4 else lcL b ft fe vs (xs.map enc) (wipeR vs ρ2)) = _
    rw [e2]
    cases ht : t x with
    | false =>
      have e4 : wipeR vs ρ2 = ρ0 := by
        rcases e3 with ⟨_, e⟩ | ⟨_, _, e, _⟩ <;> exact e
      show lcL b ft fe vs (xs.map enc) (wipeR vs ρ2) = _
      rw [e4, ih, List.filter_cons_of_neg (by simp [ht])]
    | true =>
      rcases e3 with ⟨e, _⟩ | ⟨ρ3, e4, _, e5⟩
      · rw [ht] at e; cases e
      · show (fe ρ2).andThen (fun y ρ3 => (lcL b ft fe vs (xs.map enc) (wipeR vs ρ3)).andThen fun ys ρ4 => Rs.ok (y :: ys) ρ4) = _
        rw [e4]
        show (lcL b ft fe vs (xs.map enc) (wipeR vs ρ3)).andThen (fun ys ρ4 => Rs.ok (g x :: ys) ρ4) = _
        rw [e5, ih, List.filter_cons_of_pos ht]
        rfl
/-- a filter and a map over known items -/
theorem eLc_typed (xs : List ι) (enc : ι → PyData) (t : ι → Bool) (g : ι → PyData) (hi : fi ρ = .ok (xs.map enc) ρ1) (hl : xs.length ≤ 1000000) (hu : unwipeR vs ρ1 (wipeR vs ρ1) = ρ1)
    (hs : ∀ x ∈ xs, ∃ ρ2 ρ3, b (enc x) (wipeR vs ρ1) = some ρ2 ∧ ft ρ2 = .ok (t x) ρ3 ∧ ((t x = false ∧ wipeR vs ρ3 = wipeR vs ρ1) ∨ ∃ ρ4, fe ρ3 = .ok (g x) ρ4 ∧ wipeR vs ρ3 = wipeR vs ρ1 ∧ wipeR vs ρ4 = wipeR vs ρ1)) :
    eLc fi b ft fe vs ρ = .ok ((xs.filter t).map g) ρ1 := by
  rw [run_eLc, hi, run_ok, lcL_typed enc t g xs hs]
  simp only
  rw [if_pos, hu]
  rw [List.length_map]
  exact Nat.le_trans (List.length_filter_le _ _) hl
theorem eLc_map (xs : List ι) (enc : ι → PyData) (g : ι → PyData) (hi : fi ρ = .ok (xs.map enc) ρ1) (hl : xs.length ≤ 1000000) (hu : unwipeR vs ρ1 (wipeR vs ρ1) = ρ1)
    (hs : ∀ x ∈ xs, ∃ ρ2 ρ4, b (enc x) (wipeR vs ρ1) = some ρ2 ∧ fe ρ2 = .ok (g x) ρ4 ∧ wipeR vs ρ2 = wipeR vs ρ1 ∧ wipeR vs ρ4 = wipeR vs ρ1) :
    eLc fi b eYes fe vs ρ = .ok (xs.map g) ρ1 := by
  have := eLc_typed (fi := fi) (b := b) (ft := eYes) (fe := fe) (vs := vs) (ρ := ρ) (ρ1 := ρ1) xs enc (fun _ => true) g hi hl hu fun x hx => by
    obtain ⟨ρ2, ρ4, e1, e2, e3, e4⟩ := hs x hx
    exact ⟨ρ2, ρ2, e1, rfl, .inr ⟨ρ4, e2, e3, e4⟩⟩
  rw [this, List.filter_eq_self.mpr (fun _ _ => rfl)]
/-- one turn, to be computed -/
def StepM (b : PyData → Rho → Option Rho) (fe : Rho → Rs PyData) (vs : List Nat) (ρ0 : Rho) (d y : PyData) : Prop := match b d ρ0 with
  | some ρ2 => (match fe ρ2 with
    | .ok z ρ4 => z = y ∧ wipeR vs ρ2 = ρ0 ∧ wipeR vs ρ4 = ρ0
    | _ => False)
  | none => False
def StepF (b : PyData → Rho → Option Rho) (ft : Rho → Rs Bool) (fe : Rho → Rs PyData) (vs : List Nat) (ρ0 : Rho) (d : PyData) (t : Bool) (y : PyData) : Prop := match b d ρ0 with
  | some ρ2 => (match ft ρ2 with
    | .ok k ρ3 => k = t ∧ wipeR vs ρ3 = ρ0 ∧ (t = true → match fe ρ3 with
      | .ok z ρ4 => z = y ∧ wipeR vs ρ4 = ρ0
      | _ => False)
    | _ => False)
  | none => False
theorem lc_map (xs : List ι) (enc : ι → PyData) (g : ι → PyData) (hi : fi ρ = .ok (xs.map enc) ρ1) (hl : xs.length ≤ 1000000) (hu : unwipeR vs ρ1 (wipeR vs ρ1) = ρ1)
    (hs : ∀ x ∈ xs, StepM b fe vs (wipeR vs ρ1) (enc x) (g x)) : eLc fi b eYes fe vs ρ = .ok (xs.map g) ρ1 := by
  refine eLc_map xs enc g hi hl hu fun x hx => ?_
  have h := hs x hx
  unfold StepM at h
  split at h
  · rename_i ρ2 e1
    split at h
    · rename_i z ρ4 e2
      exact ⟨ρ2, ρ4, e1, by rw [e2, h.1], h.2.1, h.2.2⟩
    · exact h.elim
  · exact h.elim
theorem lc_filter (xs : List ι) (enc : ι → PyData) (t : ι → Bool) (g : ι → PyData) (hi : fi ρ = .ok (xs.map enc) ρ1) (hl : xs.length ≤ 1000000) (hu : unwipeR vs ρ1 (wipeR vs ρ1) = ρ1)
    (hs : ∀ x ∈ xs, StepF b ft fe vs (wipeR vs ρ1) (enc x) (t x) (g x)) : eLc fi b ft fe vs ρ = .ok ((xs.filter t).map g) ρ1 := by
  refine eLc_typed xs enc t g hi hl hu fun x hx => ?_
  have h := hs x hx
  unfold StepF at h
  split at h
  · rename_i ρ2 e1
    split at h
    · rename_i k ρ3 e2
      obtain ⟨h1, h2, h3⟩ := h
      cases ht : t x with
      | false => exact ⟨ρ2, ρ3, e1, by rw [e2, h1, ht], .inl ⟨rfl, h2⟩⟩
      | true =>
        have h4 := h3 ht
        split at h4
        · rename_i z ρ4 e3
          exact ⟨ρ2, ρ3, e1, by rw [e2, h1, ht], .inr ⟨ρ4, by rw [e3, h4.1], h2, h4.2⟩⟩
        · exact h4.elim
    · exact h.elim
  · exact h.elim
/-- two generators: the second's items may hang on the first's -/
theorem wipeR_wipeR (vs : List Nat) (ρ : Rho) : wipeR vs (wipeR vs ρ) = wipeR vs ρ := by
  unfold wipeR
  rw [List.mapIdx_mapIdx]
  congr 1
  funext i s
  simp only [Function.comp]
  split <;> rfl
end
theorem seq_nx {f g : Rho → Rs Fl} {ρ ρ' : Rho} (h : f ρ = .ok .nx ρ') : sSeq f g ρ = g ρ' := by
  rw [run_sSeq, h]
  rfl
theorem rngL_map {n : Nat} : rngL 0 n = (List.range n).map fun i => .int (i : Int) := by
  unfold rngL
  simp
theorem cut_take (xs : List PyData) (k : Nat) : cutD xs none (some (k : Int)) = xs.take k := by
  unfold cutD
  rw [HT.sIx_nat]
  show (xs.drop 0).take (min k xs.length - 0) = _
  rw [List.drop_zero, Nat.sub_zero]
  by_cases h : k ≤ xs.length
  · rw [Nat.min_eq_left h]
  · rw [Nat.min_eq_right (by omega), List.take_length, List.take_of_length_le (by omega)]
end Dl

set_option Elab.async false
set_option linter.all false
set_option maxRecDepth 100000
set_option maxHeartbeats 1000000
namespace Dl
open PySem L2
section
variable {ι κ : Type} {fi fi1 : Rho → Rs (List PyData)} {b b1 : PyData → Rho → Option Rho} {ft ft1 : Rho → Rs Bool} {fe : Rho → Rs PyData} {vs vs1 : List Nat} {ρ ρ0 ρ1 : Rho}
theorem StepF.ex {d : PyData} {t : Bool} {y : PyData} (h : StepF b ft fe vs ρ0 d t y) : ∃ ρ1 ρ2, b d ρ0 = some ρ1 ∧ ft ρ1 = .ok t ρ2 ∧ ((t = false ∧ wipeR vs ρ2 = ρ0) ∨ ∃ ρ3, fe ρ2 = .ok y ρ3 ∧ wipeR vs ρ2 = ρ0 ∧ wipeR vs ρ3 = ρ0) := by
  unfold StepF at h
  split at h
  · rename_i ρ2 e1
    split at h
    · rename_i k ρ3 e2
      obtain ⟨h1, h2, h3⟩ := h
      cases ht : t with
      | false => exact ⟨ρ2, ρ3, e1, by rw [e2, h1, ht], .inl ⟨rfl, h2⟩⟩
      | true =>
        have h4 := h3 ht
        split at h4
        · rename_i z ρ4 e3
          exact ⟨ρ2, ρ3, e1, by rw [e2, h1, ht], .inr ⟨ρ4, by rw [e3, h4.1], h2, h4.2⟩⟩
        · exact h4.elim
    · exact h.elim
  · exact h.elim
theorem StepM.toF {d y : PyData} (h : StepM b fe vs ρ0 d y) : StepF b eYes fe vs ρ0 d true y := by
  unfold StepM at h
  unfold StepF
  split at h
  · rename_i ρ2 e1
    split at h
    · rename_i z ρ4 e2
      refine ⟨rfl, h.2.1, fun _ => ?_⟩
      rw [e2]
      exact ⟨h.1, h.2.2⟩
    · exact h.elim
  · exact h.elim
/-- one turn of the outer generator -/
def Step2 (b : PyData → Rho → Option Rho) (fi1 : Rho → Rs (List PyData)) (b1 : PyData → Rho → Option Rho) (ft1 : Rho → Rs Bool) (fe : Rho → Rs PyData) (vs vs1 : List Nat) (ρ0 : Rho) (d : PyData) (enc1 : κ → PyData) (ys : List κ) (t : κ → Bool) (g : κ → PyData) : Prop := match b d ρ0 with
  | some ρ1 => (match fi1 ρ1 with
    | .ok its ρ3 => its = ys.map enc1 ∧ wipeR vs (wipeR vs1 ρ3) = ρ0 ∧ ∀ y ∈ ys, StepF b1 ft1 fe vs1 (wipeR vs1 ρ3) (enc1 y) (t y) (g y)
    | _ => False)
  | none => False
theorem lc2_typed (enc : ι → PyData) (enc1 : κ → PyData) (ys : ι → List κ) (t : ι → κ → Bool) (g : ι → κ → PyData) : ∀ (xs : List ι), (∀ x ∈ xs, Step2 b fi1 b1 ft1 fe vs vs1 ρ0 (enc x) enc1 (ys x) (t x) (g x)) →
    lc2L b eYes fi1 b1 ft1 fe vs vs1 (xs.map enc) ρ0 = .ok (xs.flatMap fun x => ((ys x).filter (t x)).map (g x)) ρ0
  | [], _ => rfl
  | x :: xs, hs => by
    have ih := lc2_typed enc enc1 ys t g xs fun d hd => hs d (List.mem_cons_of_mem _ hd)
    have h := hs x List.mem_cons_self
    unfold Step2 at h
    split at h
    · rename_i ρ1 e1
      split at h
      · rename_i its ρ3 e2
        obtain ⟨h1, h2, h3⟩ := h
        have e3 := lcL_typed enc1 (t x) (g x) (ys x) (ft := ft1) (b := b1) (fe := fe) (vs := vs1) (ρ0 := wipeR vs1 ρ3) fun y hy => (h3 y hy).ex
        show (match b (enc x) ρ0 with | none => Rs.bad | some ρ1 => (eYes ρ1).andThen fun k ρ2 => if k = true then (fi1 ρ2).andThen fun items1 ρ3 => (lcL b1 ft1 fe vs1 items1 (wipeR vs1 ρ3)).andThen fun ys ρ4 => (lc2L b eYes fi1 b1 ft1 fe vs vs1 (xs.map enc) (wipeR vs ρ4)).andThen fun zs ρ5 => Rs.ok (ys ++ zs) ρ5 else lc2L b eYes fi1 b1 ft1 fe vs vs1 (xs.map enc) (wipeR vs ρ2)) = _
        rw [e1]
        show (fi1 ρ1).andThen (fun items1 ρ3 => (lcL b1 ft1 fe vs1 items1 (wipeR vs1 ρ3)).andThen fun ys ρ4 => (lc2L b eYes fi1 b1 ft1 fe vs vs1 (xs.map enc) (wipeR vs ρ4)).andThen fun zs ρ5 => Rs.ok (ys ++ zs) ρ5) = _
        rw [e2, run_ok, h1, e3, run_ok, h2, ih, run_ok]
        rfl
      · exact h.elim
    · exact h.elim
theorem run_eLc2 : eLc2 fi b ft fi1 b1 ft1 fe vs vs1 ρ = (fi ρ).andThen fun items ρ1 =>
  match lc2L b ft fi1 b1 ft1 fe vs vs1 items (wipeR vs ρ1) with
  | .ok ys ρ2 => if ys.length ≤ 1000000 then .ok ys (unwipeR vs ρ1 ρ2) else .bad
  | _ => .bad := rfl
theorem lc2_filter (xs : List ι) (enc : ι → PyData) (enc1 : κ → PyData) (ys : ι → List κ) (t : ι → κ → Bool) (g : ι → κ → PyData) (hi : fi ρ = .ok (xs.map enc) ρ1) (hl : (xs.flatMap fun x => ((ys x).filter (t x)).map (g x)).length ≤ 1000000) (hu : unwipeR vs ρ1 (wipeR vs ρ1) = ρ1)
    (hs : ∀ x ∈ xs, Step2 b fi1 b1 ft1 fe vs vs1 (wipeR vs ρ1) (enc x) enc1 (ys x) (t x) (g x)) : eLc2 fi b eYes fi1 b1 ft1 fe vs vs1 ρ = .ok (xs.flatMap fun x => ((ys x).filter (t x)).map (g x)) ρ1 := by
  rw [run_eLc2, hi, run_ok, lc2_typed enc enc1 ys t g xs hs]
  simp only
  rw [if_pos hl, hu]
theorem lc2_map (xs : List ι) (enc : ι → PyData) (enc1 : κ → PyData) (ys : ι → List κ) (g : ι → κ → PyData) (hi : fi ρ = .ok (xs.map enc) ρ1) (hl : (xs.flatMap fun x => (ys x).map (g x)).length ≤ 1000000) (hu : unwipeR vs ρ1 (wipeR vs ρ1) = ρ1)
    (hs : ∀ x ∈ xs, Step2 b fi1 b1 eYes fe vs vs1 (wipeR vs ρ1) (enc x) enc1 (ys x) (fun _ => true) (g x)) : eLc2 fi b eYes fi1 b1 eYes fe vs vs1 ρ = .ok (xs.flatMap fun x => (ys x).map (g x)) ρ1 := by
  have e : (xs.flatMap fun x => ((ys x).filter fun _ => true).map (g x)) = xs.flatMap fun x => (ys x).map (g x) := by
    congr 1
    funext x
    rw [List.filter_eq_self.mpr (fun _ _ => rfl)]
  have := lc2_filter (fi := fi) (b := b) (fi1 := fi1) (b1 := b1) (ft1 := eYes) (fe := fe) (vs := vs) (vs1 := vs1) (ρ := ρ) (ρ1 := ρ1) xs enc enc1 ys (fun _ _ => true) g hi (by rw [e]; exact hl) hu hs
  rw [this, e]
end
theorem bind_some {α β : Type} {a : α} {f : α → Option β} : (some a).bind f = f a := rfl

mutual
theorem eqv_refl : ∀ d : PyData, (∀ kvs, d ≠ .dict kvs) → PySem.W.alike d d = true → PyData.eqv d d = true
  | .none, _, _ => by simp [PyData.eqv]
  | .bool b, _, _ => by simp [PyData.eqv]
  | .int i, _, _ => by simp [PyData.eqv]
  | .str x, _, _ => by simp [PyData.eqv]
  | .list xs, _, h => by
    simp only [PyData.eqv]
    exact eqvAll_refl xs (by simpa [PySem.W.alike] using h)
  | .tuple xs, _, h => by
    simp only [PyData.eqv]
    exact eqvAll_refl xs (by simpa [PySem.W.alike] using h)
  | .dict kvs, h, _ => absurd rfl (h kvs)
theorem eqvAll_refl : ∀ xs : List PyData, PySem.W.alikeAll xs xs = true → PyData.eqvAll xs xs = true
  | [], _ => by simp [PyData.eqvAll]
  | x :: xs, h => by
    have h : (PySem.W.alike x x && PySem.W.alikeAll xs xs) = true := by simpa [PySem.W.alikeAll] using h
    rw [Bool.and_eq_true] at h
    simp only [PyData.eqvAll]
    rw [eqv_refl x (fun kvs e => by rw [e] at h; simp [PySem.W.alike] at h) h.1, eqvAll_refl xs h.2]
    rfl
end
end Dl

set_option Elab.async false
set_option linter.all false
set_option maxRecDepth 100000
set_option maxHeartbeats 4000000
namespace Atl
open PySem L2 Dl
noncomputable def B_is_within : Rho → Rs Fl := (sRet (eAndV (eIsi PyData.isInt (eV 0)) (eAndV (eNotV (eIsi PyData.isBool (eV 0))) (eChain pLe pLe (eV 1) (eV 0) (eV 2)))))
noncomputable def F_is_within : List PyData → Rs PyData := fnP 3 B_is_within
noncomputable def B_is_page : Rho → Rs Fl := (sSeq (sIf (eOr (eNot (eT (eIsi PyData.isTuple (eV 0)))) (eOr (eT (eBin pNe (eCall pLen (eCons (eV 0) eNil)) (eC (.int 5)))) (eOr (eNot (eT (eIsi PyData.isTuple (eBin pIx (eV 0) (eC (.int 4)))))) (eT (eBin pNe (eCall pLen (eCons (eBin pIx (eV 0) (eC (.int 4))) eNil)) (eC (.int 4))))))) (sRet (eC (.bool false))) sNil) (sSeq (sAsg (eV 0) (bTup (bCons (bName 4) (bCons (bName 5) (bCons (bName 6) (bCons (bName 7) (bCons (bName 8) bNil))))))) (sSeq (sIf (eOr (eNot (eT (eFn F_is_within (eCons (eV 4) (eCons (eC (.int 0)) (eCons (eBin pSub (eV 1) (eC (.int 1))) eNil)))))) (eNot (eT (eFn F_is_within (eCons (eV 5) (eCons (eC (.int 0)) (eCons (eBin pSub (eV 2) (eC (.int 1))) eNil))))))) (sRet (eC (.bool false))) sNil) (sSeq (sIf (eOr (eNot (eT (eFn F_is_within (eCons (eV 6) (eCons (eC (.int 1)) (eCons (eBin pSub (eV 1) (eV 4)) eNil)))))) (eNot (eT (eFn F_is_within (eCons (eV 7) (eCons (eC (.int 1)) (eCons (eBin pSub (eV 2) (eV 5)) eNil))))))) (sRet (eC (.bool false))) sNil) (sRet (eCall pAll (eCons (eLst (eLc (iSeq (eV 8)) (bName 9) eYes (eOrV (eBin pIs (eV 9) (eC .none)) (eFn F_is_within (eCons (eV 9) (eCons (eC (.int 0)) (eCons (eBin pSub (eV 3) (eC (.int 1))) eNil))))) [9])) eNil)))))))
noncomputable def F_is_page : List PyData → Rs PyData := fnP 10 B_is_page
noncomputable def B_holds : Rho → Rs Fl := (sRet (eAndV (eChain pLe pLt (eBin pIx (eV 0) (eC (.int 0))) (eBin pIx (eV 1) (eC (.int 0))) (eBin pAdd (eBin pIx (eV 0) (eC (.int 0))) (eBin pIx (eV 0) (eC (.int 2))))) (eChain pLe pLt (eBin pIx (eV 0) (eC (.int 1))) (eBin pIx (eV 1) (eC (.int 1))) (eBin pAdd (eBin pIx (eV 0) (eC (.int 1))) (eBin pIx (eV 0) (eC (.int 3)))))))
noncomputable def F_holds : List PyData → Rs PyData := fnP 2 B_holds
noncomputable def B_cells_of : Rho → Rs Fl := (sRet (eLst (eLc2 (iRng1 (eBin pIx (eV 0) (eC (.int 1)))) (bName 1) eYes (iRng1 (eBin pIx (eV 0) (eC (.int 0)))) (bName 2) eYes (eTup (eCons (eV 2) (eCons (eV 1) eNil))) [1, 2] [2])))
noncomputable def F_cells_of : List PyData → Rs PyData := fnP 3 B_cells_of
noncomputable def B_pages_of : Rho → Rs Fl := (sRet (eLst (eLc (iEnu (eBin pIx (eV 0) (eC (.int 2)))) (bTup (bCons (bName 2) (bCons (bName 3) bNil))) (eT (eFn F_holds (eCons (eV 3) (eCons (eV 1) eNil)))) (eV 2) [2, 3])))
noncomputable def F_pages_of : List PyData → Rs PyData := fnP 4 B_pages_of
noncomputable def B_is_atlas_value : Rho → Rs Fl := (sSeq (sIf (eOr (eNot (eT (eIsi PyData.isTuple (eV 0)))) (eOr (eT (eBin pNe (eCall pLen (eCons (eV 0) eNil)) (eC (.int 3)))) (eNot (eT (eIsi PyData.isTuple (eBin pIx (eV 0) (eC (.int 2)))))))) (sRet (eC (.bool false))) sNil) (sSeq (sIf (eOr (eNot (eT (eFn F_is_within (eCons (eBin pIx (eV 0) (eC (.int 0))) (eCons (eC (.int 1)) (eCons (eC (.int 8)) eNil)))))) (eNot (eT (eFn F_is_within (eCons (eBin pIx (eV 0) (eC (.int 1))) (eCons (eC (.int 1)) (eCons (eC (.int 8)) eNil))))))) (sRet (eC (.bool false))) sNil) (sSeq (sIf (eNot (eT (eChain pLe pLe (eC (.int 1)) (eCall pLen (eCons (eBin pIx (eV 0) (eC (.int 2))) eNil)) (eC (.int 6))))) (sRet (eC (.bool false))) sNil) (sSeq (sIf (eNot (eT (eCall pAll (eCons (eLst (eLc (iSeq (eBin pIx (eV 0) (eC (.int 2)))) (bName 2) eYes (eFn F_is_page (eCons (eV 2) (eCons (eBin pIx (eV 0) (eC (.int 0))) (eCons (eBin pIx (eV 0) (eC (.int 1))) (eCons (eCall pLen (eCons (eBin pIx (eV 0) (eC (.int 2))) eNil)) eNil))))) [2])) eNil)))) (sRet (eC (.bool false))) sNil) (sRet (eCall pAll (eCons (eLst (eLc (iSeq (eFn F_cells_of (eCons (eV 0) eNil))) (bName 1) eYes (eBin pNe (eFn F_pages_of (eCons (eV 0) (eCons (eV 1) eNil))) (eLst eNil)) [1])) eNil)))))))
noncomputable def F_is_atlas_value : List PyData → Rs PyData := fnP 3 B_is_atlas_value
noncomputable def B_is_cell : Rho → Rs Fl := (sRet (eAndV (eFn F_is_within (eCons (eV 1) (eCons (eC (.int 0)) (eCons (eBin pSub (eBin pIx (eV 0) (eC (.int 0))) (eC (.int 1))) eNil)))) (eFn F_is_within (eCons (eV 2) (eCons (eC (.int 0)) (eCons (eBin pSub (eBin pIx (eV 0) (eC (.int 1))) (eC (.int 1))) eNil))))))
noncomputable def F_is_cell : List PyData → Rs PyData := fnP 3 B_is_cell
noncomputable def B_moved : Rho → Rs Fl := (sRet (eTup (eCons (eBin pAdd (eBin pIx (eV 0) (eC (.int 0))) (eBin pIx (eUn (pDic (([("n", [(.int 0), (.int (-1))]), ("e", [(.int 1), (.int 0)]), ("s", [(.int 0), (.int 1)]), ("w", [(.int (-1)), (.int 0)])] : List (Str × List PyData)).map fun q => (q.1, PyData.tuple q.2))) (eV 1)) (eC (.int 0)))) (eCons (eBin pAdd (eBin pIx (eV 0) (eC (.int 1))) (eBin pIx (eUn (pDic (([("n", [(.int 0), (.int (-1))]), ("e", [(.int 1), (.int 0)]), ("s", [(.int 0), (.int 1)]), ("w", [(.int (-1)), (.int 0)])] : List (Str × List PyData)).map fun q => (q.1, PyData.tuple q.2))) (eV 1)) (eC (.int 1)))) eNil))))
noncomputable def F_moved : List PyData → Rs PyData := fnP 2 B_moved
noncomputable def B_walked : Rho → Rs Fl := (sSeq (sSet 2 (eLst (eCons (eV 0) eNil))) (sSeq (sFor (iSeq (eV 1)) (bName 3) (sSet 2 (eBin pAdd (eV 2) (eLst (eCons (eFn F_moved (eCons (eBin pIx (eV 2) (eUn pNeg (eC (.int 1)))) (eCons (eV 3) eNil))) eNil))))) (sRet (eV 2))))
noncomputable def F_walked : List PyData → Rs PyData := fnP 4 B_walked
noncomputable def B_is_walk_from : Rho → Rs Fl := (sSeq (sIf (eOr (eNot (eT (eIsi PyData.isStr (eV 2)))) (eOr (eT (eBin pGt (eCall pLen (eCons (eV 2) eNil)) (eC (.int 60)))) (eNot (eT (eCall pAll (eCons (eLst (eLc (iSeq (eV 2)) (bName 4) eYes (eBin pIn (eV 4) (eC (.str "nesw"))) [4])) eNil)))))) (sRet (eC (.bool false))) sNil) (sRet (eCall pAll (eCons (eLst (eLc (iSeq (eFn F_walked (eCons (eV 1) (eCons (eV 2) eNil)))) (bName 3) eYes (eFn F_is_cell (eCons (eV 0) (eCons (eBin pIx (eV 3) (eC (.int 0))) (eCons (eBin pIx (eV 3) (eC (.int 1))) eNil)))) [3])) eNil))))
noncomputable def F_is_walk_from : List PyData → Rs PyData := fnP 5 B_is_walk_from
noncomputable def B_need_atlas : Rho → Rs Fl := (sIf (eNot (eT (eFn F_is_atlas_value (eCons (eV 0) eNil)))) (sRaise "InvalidAtlas") sNil)
noncomputable def F_need_atlas : List PyData → Rs PyData := fnP 1 B_need_atlas
noncomputable def B_need_cell : Rho → Rs Fl := (sIf (eNot (eT (eFn F_is_cell (eCons (eV 0) (eCons (eV 1) (eCons (eV 2) eNil)))))) (sRaise "InvalidCell") sNil)
noncomputable def F_need_cell : List PyData → Rs PyData := fnP 3 B_need_cell
noncomputable def B_need_walk : Rho → Rs Fl := (sIf (eNot (eT (eFn F_is_walk_from (eCons (eV 0) (eCons (eV 1) (eCons (eV 2) eNil)))))) (sRaise "InvalidWalk") sNil)
noncomputable def F_need_walk : List PyData → Rs PyData := fnP 3 B_need_walk
noncomputable def B_is_atlas : Rho → Rs Fl := (sRet (eFn F_is_atlas_value (eCons (eV 0) eNil)))
noncomputable def F_is_atlas : List PyData → Rs PyData := fnP 1 B_is_atlas
noncomputable def B_pages_at : Rho → Rs Fl := (sSeq (sExpr (eFn F_need_atlas (eCons (eV 0) eNil))) (sSeq (sExpr (eFn F_need_cell (eCons (eV 0) (eCons (eV 1) (eCons (eV 2) eNil))))) (sRet (eFn F_pages_of (eCons (eV 0) (eCons (eTup (eCons (eV 1) (eCons (eV 2) eNil))) eNil))))))
noncomputable def F_pages_at : List PyData → Rs PyData := fnP 3 B_pages_at
noncomputable def B_cells_along : Rho → Rs Fl := (sSeq (sExpr (eFn F_need_atlas (eCons (eV 0) eNil))) (sSeq (sExpr (eFn F_need_cell (eCons (eV 0) (eCons (eV 1) (eCons (eV 2) eNil))))) (sSeq (sExpr (eFn F_need_walk (eCons (eV 0) (eCons (eTup (eCons (eV 1) (eCons (eV 2) eNil))) (eCons (eV 3) eNil))))) (sRet (eFn F_walked (eCons (eTup (eCons (eV 1) (eCons (eV 2) eNil))) (eCons (eV 3) eNil)))))))
noncomputable def F_cells_along : List PyData → Rs PyData := fnP 4 B_cells_along
noncomputable def B__law_deck : Rho → Rs Fl := (sSeq (sIf (eT (eBin pGe (eV 0) (eBin pPow (eC (.int 10)) (eC (.int 18))))) (sRetO (eCons (eBin pSub (eV 0) (eBin pPow (eC (.int 10)) (eC (.int 18)))) (eCons (eBin pMod (eV 0) (eC (.int 2147483579))) (eCons (eV 1) eNil)))) sNil) (sRetO (eCons (eC (.int 0)) (eCons (eBin pMod (eV 0) (eC (.int 2147483579))) (eCons (eV 1) eNil)))))
noncomputable def F__law_deck : List PyData → Rs (List PyData) := fnO 2 B__law_deck
noncomputable def B__law_pick : Rho → Rs Fl := (sSeq (sIf (eT (eBin pGt (eOIx 0 (eC (.int 0))) (eC (.int 1)))) (sSeq (sSet 3 (eBin pMod (eCall pInt (eCons (eOIx 0 (eC (.int 0))) eNil)) (eV 1))) (sSeq (sStore 0 (eC (.int 0)) (eBin pFdiv (eOIx 0 (eC (.int 0))) (eV 1))) (sRet (eV 3)))) sNil) (sSeq (sStore 0 (eC (.int 2)) (eBin pAdd (eOIx 0 (eC (.int 2))) (eC (.int 1)))) (sSeq (sSet 2 (eBin pMod (eBin pPow (eBin pAdd (eOIx 0 (eC (.int 1))) (eBin pMul (eC (.int 15485867)) (eOIx 0 (eC (.int 2))))) (eC (.int 5))) (eC (.int 2147483647)))) (sSeq (sSet 3 (eBin pFdiv (eBin pMod (eBin pPow (eBin pAdd (eV 2) (eBin pMul (eC (.int 7919)) (eOIx 0 (eC (.int 2))))) (eC (.int 3))) (eC (.int 2147483629))) (eC (.int 32)))) (sRet (eBin pMod (eCall pInt (eCons (eV 3) eNil)) (eV 1)))))))
noncomputable def F__law_pick : List PyData → List PyData → Rs (PyData × List PyData) := fnB 4 B__law_pick
noncomputable def B__law_whole : Rho → Rs Fl := (sRet (eAndV (eIsi PyData.isInt (eV 0)) (eNotV (eIsi PyData.isBool (eV 0)))))
noncomputable def F__law_whole : List PyData → Rs PyData := fnP 1 B__law_whole
noncomputable def B__law_one : Rho → Rs Fl := (sRet (eBin pIx (eV 1) (eFnO 0 F__law_pick (eCons (eCall pLen (eCons (eV 1) eNil)) eNil))))
noncomputable def F__law_one : List PyData → List PyData → Rs (PyData × List PyData) := fnB 2 B__law_one
noncomputable def B__law_sort : Rho → Rs Fl := (sSeq (sIf (eT (eIsi PyData.isBool (eV 0))) (sRet (eC (.int 1))) sNil) (sSeq (sIf (eT (eIsi PyData.isInt (eV 0))) (sRet (eC (.int 2))) sNil) (sSeq (sIf (eT (eIsi PyData.isStr (eV 0))) (sRet (eC (.int 3))) sNil) (sSeq (sIf (eT (eIsi PyData.isList (eV 0))) (sRet (eC (.int 4))) sNil) (sRet (eIf (eT (eIsi PyData.isTuple (eV 0))) (eC (.int 5)) (eC (.int 6))))))))
noncomputable def F__law_sort : List PyData → Rs PyData := fnP 1 B__law_sort
noncomputable def B__law_same (G : List PyData → Rs PyData) : Rho → Rs Fl := (sSeq (sIf (eT (eBin pNe (eFn F__law_sort (eCons (eV 0) eNil)) (eFn F__law_sort (eCons (eV 1) eNil)))) (sRet (eC (.bool false))) sNil) (sSeq (sIf (eAnd (eT (eBin pGt (eFn F__law_sort (eCons (eV 0) eNil)) (eC (.int 3)))) (eT (eBin pLt (eFn F__law_sort (eCons (eV 0) eNil)) (eC (.int 6))))) (sSeq (sIf (eT (eBin pNe (eCall pLen (eCons (eV 0) eNil)) (eCall pLen (eCons (eV 1) eNil)))) (sRet (eC (.bool false))) sNil) (sRet (eBin pEq (eLst (eLc (iEnu (eV 0)) (bTup (bCons (bName 2) (bCons (bName 3) bNil))) (eNot (eT (eFn G (eCons (eV 3) (eCons (eBin pIx (eV 1) (eV 2)) eNil))))) (eV 2) [2, 3])) (eLst eNil)))) sNil) (sRet (eBin pEq (eV 0) (eV 1)))))
noncomputable def F__law_same : Nat → List PyData → Rs PyData
  | 0 => fun _ => .bad
  | n + 1 => fnP 4 (B__law_same (F__law_same n))
noncomputable def B__law_bands : Rho → Rs Fl := (sSeq (sPar [4, 6] (mOw (eCons (eC (.int 0)) (eCons (eV 1) eNil)) (mOw eNil mNil))) (sSeq (sFor (iRng1 (eFnO 0 F__law_pick (eCons (eV 2) eNil))) (bName 3) (sApp 4 (eFnO 0 F__law_pick (eCons (eBin pAdd (eV 1) (eC (.int 1))) eNil)))) (sSeq (sSetO 4 (eSS (eV 4))) (sSeq (sFor (iRng1 (eBin pSub (eLook (eCall pLen (eCons (eV 4) eNil))) (eC (.int 1)))) (bName 5) (sSeq (sSet 7 (eCall pMax2 (eCons (eC (.int 0)) (eCons (eBin pSub (eOIx 4 (eV 5)) (eFnO 0 F__law_one (eCons (eLst (eCons (eC (.int 0)) (eCons (eC (.int 1)) (eCons (eC (.int 1)) (eCons (eC (.int 2)) eNil))))) eNil))) eNil)))) (sSeq (sSet 8 (eCall pMin2 (eCons (eV 1) (eCons (eBin pAdd (eOIx 4 (eBin pAdd (eV 5) (eC (.int 1)))) (eFnO 0 F__law_one (eCons (eLst (eCons (eC (.int 0)) (eCons (eC (.int 0)) (eCons (eC (.int 1)) (eCons (eC (.int 2)) eNil))))) eNil))) eNil)))) (sApp 6 (eTup (eCons (eV 7) (eCons (eBin pSub (eV 8) (eV 7)) eNil))))))) (sRet (eV 6))))))
noncomputable def F__law_bands : List PyData → List PyData → Rs (PyData × List PyData) := fnB 9 B__law_bands
noncomputable def B__law_mixed : Rho → Rs Fl := (sSeq (sPar [2, 3] (mOw (eCallO pList (eCons (eV 1) eNil)) (mOw eNil mNil))) (sSeq (sWhile (eLookT (eT (eBin pNe (eV 2) (eLst eNil)))) (sApp 3 (ePopAt 2 (eFnO 0 F__law_pick (eCons (eLook (eCall pLen (eCons (eV 2) eNil))) eNil))))) (sRet (eV 3))))
noncomputable def F__law_mixed : List PyData → List PyData → Rs (PyData × List PyData) := fnB 4 B__law_mixed
noncomputable def B__law_any_page : Rho → Rs Fl := (sSeq (sPar [3, 4] (mSh (eFnO 0 F__law_pick (eCons (eV 1) eNil)) (mSh (eFnO 0 F__law_pick (eCons (eV 2) eNil)) mNil))) (sRet (eTup (eCons (eV 3) (eCons (eV 4) (eCons (eBin pAdd (eC (.int 1)) (eFnO 0 F__law_pick (eCons (eBin pSub (eV 1) (eV 3)) eNil))) (eCons (eBin pAdd (eC (.int 1)) (eFnO 0 F__law_pick (eCons (eBin pSub (eV 2) (eV 4)) eNil))) eNil)))))))
noncomputable def F__law_any_page : List PyData → List PyData → Rs (PyData × List PyData) := fnB 5 B__law_any_page
noncomputable def B__law_drawn : Rho → Rs Fl := (sSeq (sAsg (eTup (eCons (eBin pAdd (eC (.int 1)) (eFnO 0 F__law_pick (eCons (eV 1) eNil))) (eCons (eBin pAdd (eC (.int 1)) (eFnO 0 F__law_pick (eCons (eV 2) eNil))) eNil))) (bTup (bCons (bName 6) (bCons (bName 7) bNil)))) (sSeq (sPar [8, 9] (mSh (eFnO 0 F__law_bands (eCons (eV 6) (eCons (eC (.int 3)) eNil))) (mSh (eFnO 0 F__law_bands (eCons (eV 7) (eCons (eC (.int 2)) eNil))) mNil))) (sSeq (sSet 4 (eLst eNil)) (sSeq (sFor (iSeq (eSl (eV 8) eNoP (eP (eC (.int 3))))) (bTup (bCons (bName 10) (bCons (bName 11) bNil))) (sSet 4 (eBin pAdd (eV 4) (eLst (eLc (iSeq (eSl (eV 9) eNoP (eP (eC (.int 2))))) (bTup (bCons (bName 15) (bCons (bName 16) bNil))) eYes (eTup (eCons (eV 10) (eCons (eV 15) (eCons (eV 11) (eCons (eV 16) eNil))))) [15, 16]))))) (sSeq (sIf (eT (eBin pGt (eCall pLen (eCons (eV 4) eNil)) (eC (.int 4)))) (sSet 4 (eLst (eLc (iSeq (eV 9)) (bTup (bCons (bName 15) (bCons (bName 16) bNil))) eYes (eTup (eCons (eC (.int 0)) (eCons (eV 15) (eCons (eV 6) (eCons (eV 16) eNil))))) [15, 16]))) sNil) (sSeq (sSet 4 (eBin pAdd (eV 4) (eLst (eLc (iRng1 (eFnO 0 F__law_pick (eCons (eBin pAdd (eV 3) (eC (.int 1))) eNil))) (bName 14) eYes (eFnO 0 F__law_any_page (eCons (eV 6) (eCons (eV 7) eNil))) [14])))) (sSeq (sAsg (eTup (eCons (eFnO 0 F__law_mixed (eCons (eV 4) eNil)) (eCons (eTup eNil) eNil))) (bTup (bCons (bName 4) (bCons (bName 12) bNil)))) (sSeq (sFor (iSeq (eV 4)) (bName 5) (sSeq (sSet 13 (eCall pTuple (eCons (eLst (eLc (iRng1 (eC (.int 4))) (bName 17) eYes (eFnO 0 F__law_one (eCons (eLst (eCons (eC .none) (eCons (eFnO 0 F__law_pick (eCons (eCall pLen (eCons (eV 4) eNil)) eNil)) eNil))) eNil)) [17])) eNil))) (sSet 12 (eBin pAdd (eV 12) (eTup (eCons (eBin pAdd (eV 5) (eTup (eCons (eV 13) eNil))) eNil)))))) (sRet (eTup (eCons (eV 6) (eCons (eV 7) (eCons (eV 12) eNil)))))))))))))
noncomputable def F__law_drawn : List PyData → List PyData → Rs (PyData × List PyData) := fnB 18 B__law_drawn
noncomputable def B__law_holds : Rho → Rs Fl := (sSeq (sAsg (eV 1) (bTup (bCons (bName 2) (bCons (bName 3) bNil)))) (sRet (eAndV (eBin pLe (eBin pIx (eV 0) (eC (.int 0))) (eV 2)) (eAndV (eBin pLt (eV 2) (eBin pAdd (eBin pIx (eV 0) (eC (.int 0))) (eBin pIx (eV 0) (eC (.int 2))))) (eAndV (eBin pLe (eBin pIx (eV 0) (eC (.int 1))) (eV 3)) (eBin pLt (eV 3) (eBin pAdd (eBin pIx (eV 0) (eC (.int 1))) (eBin pIx (eV 0) (eC (.int 3))))))))))
noncomputable def F__law_holds : List PyData → Rs PyData := fnP 4 B__law_holds
noncomputable def B__law_all_cells : Rho → Rs Fl := (sSeq (sSet 1 (eLst eNil)) (sSeq (sFor (iRng1 (eBin pIx (eV 0) (eC (.int 1)))) (bName 2) (sSet 1 (eBin pAdd (eV 1) (eLst (eLc (iRng1 (eBin pIx (eV 0) (eC (.int 0)))) (bName 3) eYes (eTup (eCons (eV 3) (eCons (eV 2) eNil))) [3]))))) (sRet (eV 1))))
noncomputable def F__law_all_cells : List PyData → Rs PyData := fnP 4 B__law_all_cells
noncomputable def B__law_held_by : Rho → Rs Fl := (sRet (eLst (eLc (iRng1 (eCall pLen (eCons (eBin pIx (eV 0) (eC (.int 2))) eNil))) (bName 2) (eT (eFn F__law_holds (eCons (eBin pIx (eBin pIx (eV 0) (eC (.int 2))) (eV 2)) (eCons (eV 1) eNil)))) (eV 2) [2])))
noncomputable def F__law_held_by : List PyData → Rs PyData := fnP 3 B__law_held_by
noncomputable def B__law_behind : Rho → Rs Fl := (sSeq (sAsg (eV 0) (bTup (bCons (bName 2) (bCons (bName 3) bNil)))) (sSeq (sSet 2 (eBin pSub (eBin pAdd (eV 2) (eCall pInt (eCons (eBin pEq (eV 1) (eC (.str "e"))) eNil))) (eCall pInt (eCons (eBin pEq (eV 1) (eC (.str "w"))) eNil)))) (sRet (eTup (eCons (eV 2) (eCons (eBin pSub (eBin pAdd (eV 3) (eCall pInt (eCons (eBin pEq (eV 1) (eC (.str "s"))) eNil))) (eCall pInt (eCons (eBin pEq (eV 1) (eC (.str "n"))) eNil))) eNil))))))
noncomputable def F__law_behind : List PyData → Rs PyData := fnP 4 B__law_behind
noncomputable def B__law_is_cell : Rho → Rs Fl := (sRet (eAndV (eChain pLe pLt (eC (.int 0)) (eBin pIx (eV 1) (eC (.int 0))) (eBin pIx (eV 0) (eC (.int 0)))) (eChain pLe pLt (eC (.int 0)) (eBin pIx (eV 1) (eC (.int 1))) (eBin pIx (eV 0) (eC (.int 1))))))
noncomputable def F__law_is_cell : List PyData → Rs PyData := fnP 2 B__law_is_cell
noncomputable def B__law_ways : Rho → Rs Fl := (sSeq (sSet 2 (eLst (eLc (iSeq (eC (.str "nesw"))) (bName 3) eYes (eTup (eCons (eV 3) (eCons (eFn F__law_behind (eCons (eV 1) (eCons (eV 3) eNil))) eNil))) [3]))) (sRet (eLst (eLc (iSeq (eV 2)) (bName 4) (eT (eFn F__law_is_cell (eCons (eV 0) (eCons (eBin pIx (eV 4) (eC (.int 1))) eNil)))) (eV 4) [4]))))
noncomputable def F__law_ways : List PyData → Rs PyData := fnP 5 B__law_ways
noncomputable def B__law_some_walk : Rho → Rs Fl := (sSeq (sAsg (eTup (eCons (eC (.str "")) (eCons (eC (.str "")) eNil))) (bTup (bCons (bName 5) (bCons (bName 6) bNil)))) (sSeq (sFor (iRng1 (eFnO 0 F__law_pick (eCons (eBin pAdd (eV 3) (eC (.int 1))) eNil))) (bName 4) (sSeq (sSet 7 (eLst (eLc (iSeq (eFn F__law_ways (eCons (eV 1) (eCons (eV 2) eNil)))) (bTup (bCons (bName 8) (bCons (bName 9) bNil))) eYes (eV 8) [8, 9]))) (sIf (eT (eBin pNe (eV 7) (eLst eNil))) (sSeq (sSet 8 (eIf (eAnd (eT (eBin pIn (eV 6) (eV 7))) (eAnd (eT (eBin pNe (eV 6) (eC (.str "")))) (eT (eBin pGt (eFnO 0 F__law_pick (eCons (eC (.int 3)) eNil)) (eC (.int 0)))))) (eV 6) (eFnO 0 F__law_one (eCons (eV 7) eNil)))) (sPar [6, 2, 5] (mSh (eV 8) (mSh (eFn F__law_behind (eCons (eV 2) (eCons (eV 8) eNil))) (mSh (eBin pAdd (eV 5) (eV 8)) mNil))))) sNil))) (sRet (eV 5))))
noncomputable def F__law_some_walk : List PyData → List PyData → Rs (PyData × List PyData) := fnB 10 B__law_some_walk
noncomputable def B__law_spoilt (G : List PyData → List PyData → Rs (PyData × List PyData)) : Rho → Rs Fl := (sSeq (sIf (eAnd (eT (eIsi (fun d => d.isTuple || d.isList) (eV 1))) (eAnd (eT (eBin pGt (eCall pLen (eCons (eV 1) eNil)) (eC (.int 0)))) (eT (eBin pGt (eFnO 0 F__law_pick (eCons (eC (.int 6)) eNil)) (eC (.int 0)))))) (sSeq (sSetO 2 (eCallO pList (eCons (eV 1) eNil))) (sSeq (sSet 3 (eFnO 0 F__law_pick (eCons (eLook (eCall pLen (eCons (eV 2) eNil))) eNil))) (sSeq (sStore 2 (eV 3) (eFnO 0 G (eCons (eOIx 2 (eV 3)) eNil))) (sRet (eIf (eT (eIsi PyData.isTuple (eV 1))) (eCall pTuple (eCons (eV 2) eNil)) (eV 2)))))) sNil) (sSeq (sIf (eT (eIsi (fun d => d.isTuple || d.isList) (eV 1))) (sSeq (sSet 4 (eIf (eT (eIsi PyData.isTuple (eV 1))) (eLst (eCallO pList (eCons (eV 1) eNil))) (eCall pTuple (eCons (eV 1) eNil)))) (sRet (eBin pIx (eLst (eCons (eV 4) (eCons (eBin pAdd (eV 1) (eSl (eV 1) eNoP (eP (eC (.int 1))))) (eCons (eSl (eV 1) (eP (eC (.int 1))) eNoP) (eCons (eBack (eV 1) (eUn pNeg (eC (.int 1)))) (eCons (eC .none) eNil)))))) (eFnO 0 F__law_pick (eCons (eC (.int 5)) eNil))))) sNil) (sSeq (sIf (eT (eFn F__law_whole (eCons (eV 1) eNil))) (sRet (eBin pIx (eLst (eCons (eBin pAdd (eV 1) (eC (.int 1))) (eCons (eBin pSub (eV 1) (eC (.int 1))) (eCons (eC (.bool true)) (eCons (eC .none) (eCons (eC (.int 0)) (eCons (eC (.int 9)) (eCons (eC (.str "1")) eNil)))))))) (eFnO 0 F__law_pick (eCons (eC (.int 7)) eNil)))) sNil) (sRet (eBin pIx (eLst (eCons (eC .none) (eCons (eC (.int 0)) (eCons (eC (.int 1)) (eCons (eC (.int 5)) (eCons (eC (.str "x")) (eCons (eC (.str "")) (eCons (eTup eNil) (eCons (eLst eNil) (eCons (eC (.bool true)) eNil)))))))))) (eFnO 0 F__law_pick (eCons (eC (.int 9)) eNil)))))))
noncomputable def F__law_spoilt : Nat → List PyData → List PyData → Rs (PyData × List PyData)
  | 0 => fun _ _ => .bad
  | n + 1 => fnB 5 (B__law_spoilt (F__law_spoilt n))
noncomputable def B__law_in : Rho → Rs Fl := (sRet (eAndV (eFn F__law_whole (eCons (eV 0) eNil)) (eChain pLe pLe (eV 1) (eV 0) (eV 2))))
noncomputable def F__law_in : List PyData → Rs PyData := fnP 3 B__law_in
noncomputable def B__law_is_page : Rho → Rs Fl := (sSeq (sIf (eOr (eNot (eT (eIsi PyData.isTuple (eV 0)))) (eT (eBin pNe (eCall pLen (eCons (eV 0) eNil)) (eC (.int 5))))) (sRet (eC (.bool false))) sNil) (sSeq (sIf (eOr (eNot (eT (eIsi PyData.isTuple (eBin pIx (eV 0) (eC (.int 4)))))) (eT (eBin pNe (eCall pLen (eCons (eBin pIx (eV 0) (eC (.int 4))) eNil)) (eC (.int 4))))) (sRet (eC (.bool false))) sNil) (sSeq (sFor (iSeq (eBin pIx (eV 0) (eC (.int 4)))) (bName 4) (sIf (eAnd (eT (eBin pIsNot (eV 4) (eC .none))) (eNot (eT (eFn F__law_in (eCons (eV 4) (eCons (eC (.int 0)) (eCons (eBin pSub (eV 3) (eC (.int 1))) eNil))))))) (sRet (eC (.bool false))) sNil)) (sSeq (sIf (eOr (eNot (eT (eFn F__law_in (eCons (eBin pIx (eV 0) (eC (.int 0))) (eCons (eC (.int 0)) (eCons (eBin pSub (eV 1) (eC (.int 1))) eNil)))))) (eNot (eT (eFn F__law_in (eCons (eBin pIx (eV 0) (eC (.int 1))) (eCons (eC (.int 0)) (eCons (eBin pSub (eV 2) (eC (.int 1))) eNil))))))) (sRet (eC (.bool false))) sNil) (sRet (eAndV (eFn F__law_in (eCons (eBin pIx (eV 0) (eC (.int 2))) (eCons (eC (.int 1)) (eCons (eBin pSub (eV 1) (eBin pIx (eV 0) (eC (.int 0)))) eNil)))) (eFn F__law_in (eCons (eBin pIx (eV 0) (eC (.int 3))) (eCons (eC (.int 1)) (eCons (eBin pSub (eV 2) (eBin pIx (eV 0) (eC (.int 1)))) eNil))))))))))
noncomputable def F__law_is_page : List PyData → Rs PyData := fnP 5 B__law_is_page
noncomputable def B__law_is_atlas : Rho → Rs Fl := (sSeq (sIf (eOr (eNot (eT (eIsi PyData.isTuple (eV 0)))) (eOr (eT (eBin pNe (eCall pLen (eCons (eV 0) eNil)) (eC (.int 3)))) (eNot (eT (eIsi PyData.isTuple (eBin pIx (eV 0) (eC (.int 2)))))))) (sRet (eC (.bool false))) sNil) (sSeq (sIf (eOr (eNot (eT (eFn F__law_in (eCons (eBin pIx (eV 0) (eC (.int 0))) (eCons (eC (.int 1)) (eCons (eC (.int 8)) eNil)))))) (eOr (eNot (eT (eFn F__law_in (eCons (eBin pIx (eV 0) (eC (.int 1))) (eCons (eC (.int 1)) (eCons (eC (.int 8)) eNil)))))) (eNot (eT (eChain pLe pLe (eC (.int 1)) (eCall pLen (eCons (eBin pIx (eV 0) (eC (.int 2))) eNil)) (eC (.int 6))))))) (sRet (eC (.bool false))) sNil) (sSeq (sIf (eT (eBin pNe (eLst (eLc (iSeq (eBin pIx (eV 0) (eC (.int 2)))) (bName 1) (eNot (eT (eFn F__law_is_page (eCons (eV 1) (eCons (eBin pIx (eV 0) (eC (.int 0))) (eCons (eBin pIx (eV 0) (eC (.int 1))) (eCons (eCall pLen (eCons (eBin pIx (eV 0) (eC (.int 2))) eNil)) eNil))))))) (eV 1) [1])) (eLst eNil))) (sRet (eC (.bool false))) sNil) (sRet (eBin pEq (eLst (eLc (iSeq (eFn F__law_all_cells (eCons (eV 0) eNil))) (bName 2) (eT (eBin pEq (eFn F__law_held_by (eCons (eV 0) (eCons (eV 2) eNil))) (eLst eNil))) (eV 2) [2])) (eLst eNil))))))
noncomputable def F__law_is_atlas : List PyData → Rs PyData := fnP 3 B__law_is_atlas
noncomputable def B__law_edges_of_bounds : Rho → Rs Fl := (sSeq (sPar [4, 2] (mSh (eBin pMul (eTup (eCons (eC .none) eNil)) (eC (.int 4))) (mOw eNil mNil))) (sSeq (sFor (iSeq (eTup (eCons (eC (.int 0)) (eCons (eC (.int 1)) (eCons (eC (.int 8)) (eCons (eC (.int 9)) (eCons (eC (.bool true)) eNil))))))) (bName 0) (sSetO 2 (eCatO (eV 2) (eLst (eCons (eTup (eCons (eV 0) (eCons (eC (.int 1)) (eCons (eTup (eCons (eTup (eCons (eC (.int 0)) (eCons (eC (.int 0)) (eCons (eV 0) (eCons (eC (.int 1)) (eCons (eV 4) eNil)))))) eNil)) eNil)))) (eCons (eTup (eCons (eC (.int 1)) (eCons (eV 0) (eCons (eTup (eCons (eTup (eCons (eC (.int 0)) (eCons (eC (.int 0)) (eCons (eC (.int 1)) (eCons (eV 0) (eCons (eV 4) eNil)))))) eNil)) eNil)))) eNil)))))) (sSeq (sSet 1 (eTup (eCons (eC (.int 0)) (eCons (eC (.int 0)) (eCons (eC (.int 2)) (eCons (eC (.int 2)) (eCons (eV 4) eNil))))))) (sSeq (sSetO 2 (eCatO (eV 2) (eLst (eCons (eTup (eCons (eC (.int 2)) (eCons (eC (.int 2)) (eCons (eBin pMul (eTup (eCons (eV 1) eNil)) (eC (.int 6))) eNil)))) (eCons (eTup (eCons (eC (.int 2)) (eCons (eC (.int 2)) (eCons (eBin pMul (eTup (eCons (eV 1) eNil)) (eC (.int 7))) eNil)))) (eCons (eTup (eCons (eC (.int 2)) (eCons (eC (.int 2)) (eCons (eTup eNil) eNil)))) (eCons (eTup (eCons (eC (.int 3)) (eCons (eC (.int 2)) (eCons (eTup (eCons (eV 1) eNil)) eNil)))) (eCons (eTup (eCons (eC (.int 2)) (eCons (eC (.int 2)) (eCons (eLst (eCons (eV 1) eNil)) eNil)))) eNil)))))))) (sSeq (sFor (iSeq (eLst (eCons (eTup (eCons (eC (.int 1)) (eCons (eC .none) (eCons (eC .none) (eCons (eC .none) eNil))))) (eCons (eTup (eCons (eC (.int 0)) (eCons (eC (.int 0)) (eCons (eC (.int 0)) (eCons (eC (.int 0)) eNil))))) (eCons (eBin pMul (eTup (eCons (eUn pNeg (eC (.int 1))) eNil)) (eC (.int 4))) (eCons (eBin pMul (eTup (eCons (eC (.bool true)) eNil)) (eC (.int 4))) (eCons (eBin pMul (eTup (eCons (eC .none) eNil)) (eC (.int 3))) (eCons (eBin pMul (eLst (eCons (eC .none) eNil)) (eC (.int 4))) eNil)))))))) (bName 3) (sApp 2 (eTup (eCons (eC (.int 2)) (eCons (eC (.int 2)) (eCons (eTup (eCons (eBin pAdd (eSl (eV 1) eNoP (eP (eC (.int 4)))) (eTup (eCons (eV 3) eNil))) eNil)) eNil)))))) (sRet (eBin pAdd (eV 2) (eLst (eCons (eTup (eCons (eC (.int 2)) (eCons (eC (.int 2)) (eCons (eTup (eCons (eTup (eCons (eC (.int 0)) (eCons (eC (.int 0)) (eCons (eC (.int 1)) (eCons (eC (.int 2)) (eCons (eV 4) eNil)))))) (eCons (eTup (eCons (eC (.int 1)) (eCons (eC (.int 0)) (eCons (eC (.int 1)) (eCons (eC (.int 2)) (eCons (eTup (eCons (eC (.int 1)) (eCons (eC (.int 0)) (eCons (eC (.int 1)) (eCons (eC (.int 0)) eNil))))) eNil)))))) eNil))) eNil)))) (eCons (eTup (eCons (eC (.int 2)) (eCons (eC (.int 2)) (eCons (eTup (eCons (eTup (eCons (eC (.int 0)) (eCons (eC (.int 0)) (eCons (eC (.int 1)) (eCons (eC (.int 2)) (eCons (eV 4) eNil)))))) eNil)) eNil)))) eNil))))))))))
noncomputable def F__law_edges_of_bounds : List PyData → Rs PyData := fnP 5 B__law_edges_of_bounds
noncomputable def B_need_page : Rho → Rs Fl := (sIf (eOr (eNot (eT (eFn F_is_within (eCons (eV 2) (eCons (eC (.int 0)) (eCons (eBin pSub (eCall pLen (eCons (eBin pIx (eV 0) (eC (.int 2))) eNil)) (eC (.int 1))) eNil)))))) (eNot (eT (eFn F_holds (eCons (eBin pIx (eBin pIx (eV 0) (eC (.int 2))) (eV 2)) (eCons (eV 1) eNil)))))) (sRaise "InvalidPage") sNil)
noncomputable def F_need_page : List PyData → Rs PyData := fnP 3 B_need_page
noncomputable def B_need_rule : Rho → Rs Fl := (sIf (eOr (eNot (eT (eIsi PyData.isStr (eV 0)))) (eT (eBin pNotIn (eV 0) (eC (.tuple [(.str "arrow"), (.str "index"), (.str "middle")]))))) (sRaise "InvalidRule") sNil)
noncomputable def F_need_rule : List PyData → Rs PyData := fnP 1 B_need_rule
noncomputable def B_distance : Rho → Rs Fl := (sSeq (sAsg (eV 0) (bTup (bCons (bName 2) (bCons (bName 3) (bCons (bName 4) (bCons (bName 5) (bCons (bName 6) bNil))))))) (sRet (eBin pAdd (eCall pAbs (eCons (eBin pSub (eBin pAdd (eBin pMul (eC (.int 2)) (eBin pIx (eV 1) (eC (.int 0)))) (eC (.int 1))) (eBin pAdd (eBin pMul (eC (.int 2)) (eV 2)) (eV 4))) eNil)) (eCall pAbs (eCons (eBin pSub (eBin pAdd (eBin pMul (eC (.int 2)) (eBin pIx (eV 1) (eC (.int 1)))) (eC (.int 1))) (eBin pAdd (eBin pMul (eC (.int 2)) (eV 3)) (eV 5))) eNil)))))
noncomputable def F_distance : List PyData → Rs PyData := fnP 7 B_distance
noncomputable def B_nearest : Rho → Rs Fl := (sRet (eBin pIx (eCall pMin1 (eCons (eLst (eLc (iSeq (eFn F_pages_of (eCons (eV 0) (eCons (eV 1) eNil)))) (bName 2) eYes (eTup (eCons (eFn F_distance (eCons (eBin pIx (eBin pIx (eV 0) (eC (.int 2))) (eV 2)) (eCons (eV 1) eNil))) (eCons (eV 2) eNil))) [2])) eNil)) (eC (.int 1))))
noncomputable def F_nearest : List PyData → Rs PyData := fnP 3 B_nearest
noncomputable def B_next_page : Rho → Rs Fl := (sSeq (sIf (eT (eFn F_holds (eCons (eBin pIx (eBin pIx (eV 0) (eC (.int 2))) (eV 2)) (eCons (eV 4) eNil)))) (sRet (eV 2)) sNil) (sSeq (sSet 5 (eBin pIx (eBin pIx (eBin pIx (eBin pIx (eV 0) (eC (.int 2))) (eV 2)) (eC (.int 4))) (eStrM pIndexS (eC (.str "nesw")) (eV 3)))) (sSeq (sIf (eAnd (eT (eBin pEq (eV 1) (eC (.str "arrow")))) (eAnd (eT (eBin pIsNot (eV 5) (eC .none))) (eT (eFn F_holds (eCons (eBin pIx (eBin pIx (eV 0) (eC (.int 2))) (eV 5)) (eCons (eV 4) eNil)))))) (sRet (eV 5)) sNil) (sRet (eIf (eT (eBin pEq (eV 1) (eC (.str "middle")))) (eFn F_nearest (eCons (eV 0) (eCons (eV 4) eNil))) (eBin pIx (eFn F_pages_of (eCons (eV 0) (eCons (eV 4) eNil))) (eC (.int 0))))))))
noncomputable def F_next_page : List PyData → Rs PyData := fnP 6 B_next_page
noncomputable def B_pages_open : Rho → Rs Fl := (sSeq (sSet 5 (eLst eNil)) (sSeq (sFor (iSeq (eV 4)) (bName 6) (sSeq (sSet 2 (eFn F_moved (eCons (eV 2) (eCons (eV 6) eNil)))) (sSeq (sSet 3 (eFn F_next_page (eCons (eV 0) (eCons (eV 1) (eCons (eV 3) (eCons (eV 6) (eCons (eV 2) eNil))))))) (sSet 5 (eBin pAdd (eV 5) (eLst (eCons (eV 3) eNil))))))) (sRet (eV 5))))
noncomputable def F_pages_open : List PyData → Rs PyData := fnP 7 B_pages_open
noncomputable def B_count_turns : Rho → Rs Fl := (sRet (eCall pLen (eCons (eLst (eLc (iZip (eV 0) (eSl (eV 0) (eP (eC (.int 1))) eNoP)) (bTup (bCons (bName 1) (bCons (bName 2) bNil))) (eT (eBin pNe (eV 1) (eV 2))) (eC (.int 1)) [1, 2])) eNil)))
noncomputable def F_count_turns : List PyData → Rs PyData := fnP 3 B_count_turns
noncomputable def B_need_reading : Rho → Rs Fl := (sSeq (sExpr (eFn F_need_atlas (eCons (eV 0) eNil))) (sSeq (sExpr (eFn F_need_rule (eCons (eV 1) eNil))) (sSeq (sExpr (eFn F_need_cell (eCons (eV 0) (eCons (eV 2) (eCons (eV 3) eNil))))) (sSeq (sExpr (eFn F_need_page (eCons (eV 0) (eCons (eTup (eCons (eV 2) (eCons (eV 3) eNil))) (eCons (eV 4) eNil))))) (sExpr (eFn F_need_walk (eCons (eV 0) (eCons (eTup (eCons (eV 2) (eCons (eV 3) eNil))) (eCons (eV 5) eNil)))))))))
noncomputable def F_need_reading : List PyData → Rs PyData := fnP 6 B_need_reading
noncomputable def B_opened : Rho → Rs Fl := (sSeq (sExpr (eFn F_need_reading (eCons (eV 0) (eCons (eV 1) (eCons (eV 2) (eCons (eV 3) (eCons (eV 4) (eCons (eV 5) eNil)))))))) (sRet (eFn F_pages_open (eCons (eV 0) (eCons (eV 1) (eCons (eTup (eCons (eV 2) (eCons (eV 3) eNil))) (eCons (eV 4) (eCons (eV 5) eNil))))))))
noncomputable def F_opened : List PyData → Rs PyData := fnP 6 B_opened
noncomputable def B_turns : Rho → Rs Fl := (sSeq (sExpr (eFn F_need_reading (eCons (eV 0) (eCons (eV 1) (eCons (eV 2) (eCons (eV 3) (eCons (eV 4) (eCons (eV 5) eNil)))))))) (sRet (eFn F_count_turns (eCons (eBin pAdd (eLst (eCons (eV 4) eNil)) (eFn F_pages_open (eCons (eV 0) (eCons (eV 1) (eCons (eTup (eCons (eV 2) (eCons (eV 3) eNil))) (eCons (eV 4) (eCons (eV 5) eNil))))))) eNil))))
noncomputable def F_turns : List PyData → Rs PyData := fnP 6 B_turns
noncomputable def B__law_far : Rho → Rs Fl := (sSeq (sSet 2 (eBin pSub (eBin pSub (eBin pAdd (eBin pMul (eC (.int 2)) (eBin pIx (eV 0) (eC (.int 0)))) (eBin pIx (eV 0) (eC (.int 2)))) (eBin pMul (eC (.int 2)) (eBin pIx (eV 1) (eC (.int 0))))) (eC (.int 1)))) (sSeq (sSet 3 (eBin pSub (eBin pSub (eBin pAdd (eBin pMul (eC (.int 2)) (eBin pIx (eV 0) (eC (.int 1)))) (eBin pIx (eV 0) (eC (.int 3)))) (eBin pMul (eC (.int 2)) (eBin pIx (eV 1) (eC (.int 1))))) (eC (.int 1)))) (sRet (eBin pAdd (eCall pMax2 (eCons (eV 2) (eCons (eUn pNeg (eV 2)) eNil))) (eCall pMax2 (eCons (eV 3) (eCons (eUn pNeg (eV 3)) eNil)))))))
noncomputable def F__law_far : List PyData → Rs PyData := fnP 4 B__law_far
noncomputable def B__law_next : Rho → Rs Fl := (sSeq (sSet 5 (eFn F__law_held_by (eCons (eV 0) (eCons (eV 4) eNil)))) (sSeq (sIf (eT (eBin pIn (eV 2) (eV 5))) (sRet (eV 2)) sNil) (sSeq (sIf (eT (eBin pEq (eV 1) (eC (.str "arrow")))) (sSeq (sSet 8 (eBin pIx (eBin pIx (eBin pIx (eBin pIx (eV 0) (eC (.int 2))) (eV 2)) (eC (.int 4))) (eStrM pIndexS (eC (.str "nesw")) (eV 3)))) (sIf (eT (eBin pIn (eV 8) (eV 5))) (sRet (eV 8)) sNil)) sNil) (sSeq (sIf (eT (eBin pNe (eV 1) (eC (.str "middle")))) (sRet (eBin pIx (eV 5) (eC (.int 0)))) sNil) (sSeq (sSet 6 (eBin pIx (eV 5) (eC (.int 0)))) (sSeq (sFor (iSeq (eV 5)) (bName 7) (sIf (eT (eBin pLt (eFn F__law_far (eCons (eBin pIx (eBin pIx (eV 0) (eC (.int 2))) (eV 7)) (eCons (eV 4) eNil))) (eFn F__law_far (eCons (eBin pIx (eBin pIx (eV 0) (eC (.int 2))) (eV 6)) (eCons (eV 4) eNil))))) (sSet 6 (eV 7)) sNil)) (sRet (eV 6))))))))
noncomputable def F__law_next : List PyData → Rs PyData := fnP 9 B__law_next
noncomputable def B__law_read : Rho → Rs Fl := (sSeq (sSetO 5 eNil) (sSeq (sFor (iSeq (eV 4)) (bName 6) (sSeq (sSet 2 (eFn F__law_behind (eCons (eV 2) (eCons (eV 6) eNil)))) (sSeq (sSet 3 (eFn F__law_next (eCons (eV 0) (eCons (eV 1) (eCons (eV 3) (eCons (eV 6) (eCons (eV 2) eNil))))))) (sApp 5 (eV 3))))) (sRet (eV 5))))
noncomputable def F__law_read : List PyData → Rs PyData := fnP 7 B__law_read
noncomputable def B__law_changes : Rho → Rs Fl := (sRet (eCall pLen (eCons (eLst (eLc (iRng2 (eC (.int 1)) (eCall pLen (eCons (eV 0) eNil))) (bName 1) (eT (eBin pNe (eBin pIx (eV 0) (eV 1)) (eBin pIx (eV 0) (eBin pSub (eV 1) (eC (.int 1)))))) (eV 1) [1])) eNil)))
noncomputable def F__law_changes : List PyData → Rs PyData := fnP 2 B__law_changes
noncomputable def B__law_known : Rho → Rs Fl := (sSeq (sSet 0 (eTup (eCons (eC .none) (eCons (eC .none) (eCons (eC .none) (eCons (eC .none) eNil)))))) (sSeq (sSet 1 (eTup (eCons (eC (.int 4)) (eCons (eC (.int 1)) (eCons (eTup (eCons (eTup (eCons (eC (.int 0)) (eCons (eC (.int 0)) (eCons (eC (.int 2)) (eCons (eC (.int 1)) (eCons (eTup (eCons (eC .none) (eCons (eC (.int 1)) (eCons (eC .none) (eCons (eC .none) eNil))))) eNil)))))) (eCons (eTup (eCons (eC (.int 2)) (eCons (eC (.int 0)) (eCons (eC (.int 2)) (eCons (eC (.int 1)) (eCons (eTup (eCons (eC .none) (eCons (eC .none) (eCons (eC .none) (eCons (eC (.int 0)) eNil))))) eNil)))))) eNil))) eNil))))) (sSeq (sSet 2 (eTup (eCons (eTup (eCons (eC (.int 1)) (eCons (eC (.int 0)) (eCons (eC (.int 1)) (eCons (eC (.int 1)) (eCons (eV 0) eNil)))))) (eCons (eTup (eCons (eC (.int 0)) (eCons (eC (.int 0)) (eCons (eC (.int 3)) (eCons (eC (.int 1)) (eCons (eTup (eCons (eC .none) (eCons (eC (.int 2)) (eCons (eC .none) (eCons (eC .none) eNil))))) eNil)))))) (eCons (eTup (eCons (eC (.int 2)) (eCons (eC (.int 0)) (eCons (eC (.int 3)) (eCons (eC (.int 1)) (eCons (eTup (eCons (eC .none) (eCons (eC .none) (eCons (eC .none) (eCons (eC (.int 1)) eNil))))) eNil)))))) eNil))))) (sRet (eLst (eCons (eV 1) (eCons (eTup (eCons (eC (.int 5)) (eCons (eC (.int 1)) (eCons (eV 2) eNil)))) eNil)))))))
noncomputable def F__law_known : List PyData → Rs PyData := fnP 3 B__law_known
noncomputable def B__law_long_land : Rho → Rs Fl := (sRet (eFnO 0 F__law_drawn (eCons (eC (.int 8)) (eCons (eC (.int 1)) (eCons (eC (.int 2)) eNil)))))
noncomputable def F__law_long_land : List PyData → List PyData → Rs (PyData × List PyData) := fnB 1 B__law_long_land
noncomputable def B_wider : Rho → Rs Fl := (sSeq (sPar [4, 5] (mSh (eCall pMax2 (eCons (eC (.int 0)) (eCons (eBin pSub (eBin pIx (eV 0) (eC (.int 0))) (eV 3)) eNil))) (mSh (eCall pMax2 (eCons (eC (.int 0)) (eCons (eBin pSub (eBin pIx (eV 0) (eC (.int 1))) (eV 3)) eNil))) mNil))) (sSeq (sPar [6, 7] (mSh (eCall pMin2 (eCons (eV 1) (eCons (eBin pAdd (eBin pAdd (eBin pIx (eV 0) (eC (.int 0))) (eBin pIx (eV 0) (eC (.int 2)))) (eV 3)) eNil))) (mSh (eCall pMin2 (eCons (eV 2) (eCons (eBin pAdd (eBin pAdd (eBin pIx (eV 0) (eC (.int 1))) (eBin pIx (eV 0) (eC (.int 3)))) (eV 3)) eNil))) mNil))) (sRet (eTup (eCons (eV 4) (eCons (eV 5) (eCons (eBin pSub (eV 6) (eV 4)) (eCons (eBin pSub (eV 7) (eV 5)) (eCons (eBin pIx (eV 0) (eC (.int 4))) eNil)))))))))
noncomputable def F_wider : List PyData → Rs PyData := fnP 8 B_wider
noncomputable def B_with_margin : Rho → Rs Fl := (sRet (eBin pAdd (eSl (eV 0) eNoP (eP (eC (.int 2)))) (eTup (eCons (eCall pTuple (eCons (eLst (eLc (iSeq (eBin pIx (eV 0) (eC (.int 2)))) (bName 2) eYes (eFn F_wider (eCons (eV 2) (eCons (eBin pIx (eV 0) (eC (.int 0))) (eCons (eBin pIx (eV 0) (eC (.int 1))) (eCons (eV 1) eNil))))) [2])) eNil)) eNil))))
noncomputable def F_with_margin : List PyData → Rs PyData := fnP 3 B_with_margin
noncomputable def B_need_margin : Rho → Rs Fl := (sIf (eNot (eT (eFn F_is_within (eCons (eV 0) (eCons (eC (.int 0)) (eCons (eC (.int 8)) eNil)))))) (sRaise "InvalidNumber") sNil)
noncomputable def F_need_margin : List PyData → Rs PyData := fnP 1 B_need_margin
noncomputable def B_widened : Rho → Rs Fl := (sSeq (sExpr (eFn F_need_atlas (eCons (eV 0) eNil))) (sSeq (sExpr (eFn F_need_margin (eCons (eV 1) eNil))) (sRet (eFn F_with_margin (eCons (eV 0) (eCons (eV 1) eNil))))))
noncomputable def F_widened : List PyData → Rs PyData := fnP 2 B_widened
noncomputable def B_is_on_one : Rho → Rs Fl := (sSeq (sSet 5 (eTup (eCons (eTup (eCons (eV 1) (eCons (eV 2) eNil))) (eCons (eTup (eCons (eBin pSub (eBin pAdd (eV 1) (eV 3)) (eC (.int 1))) (eCons (eBin pSub (eBin pAdd (eV 2) (eV 4)) (eC (.int 1))) eNil))) eNil)))) (sRet (eCall pAny (eCons (eLst (eLc (iSeq (eBin pIx (eV 0) (eC (.int 2)))) (bName 6) eYes (eAndV (eFn F_holds (eCons (eV 6) (eCons (eBin pIx (eV 5) (eC (.int 0))) eNil))) (eFn F_holds (eCons (eV 6) (eCons (eBin pIx (eV 5) (eC (.int 1))) eNil)))) [6])) eNil))))
noncomputable def F_is_on_one : List PyData → Rs PyData := fnP 7 B_is_on_one
noncomputable def B_always_fits : Rho → Rs Fl := (sSeq (sAsg (eTup (eCons (eLst (iRng1 (eBin pAdd (eBin pSub (eBin pIx (eV 0) (eC (.int 0))) (eV 1)) (eC (.int 1))))) (eCons (eLst (iRng1 (eBin pAdd (eBin pSub (eBin pIx (eV 0) (eC (.int 1))) (eV 2)) (eC (.int 1))))) eNil))) (bTup (bCons (bName 3) (bCons (bName 4) bNil)))) (sRet (eCall pAll (eCons (eLst (eLc2 (iSeq (eV 3)) (bName 5) eYes (iSeq (eV 4)) (bName 6) eYes (eFn F_is_on_one (eCons (eV 0) (eCons (eV 5) (eCons (eV 6) (eCons (eV 1) (eCons (eV 2) eNil)))))) [5, 6] [6])) eNil))))
noncomputable def F_always_fits : List PyData → Rs PyData := fnP 7 B_always_fits
noncomputable def B_fits_window : Rho → Rs Fl := (sSeq (sExpr (eFn F_need_atlas (eCons (eV 0) eNil))) (sSeq (sIf (eOr (eNot (eT (eFn F_is_within (eCons (eV 1) (eCons (eC (.int 1)) (eCons (eBin pIx (eV 0) (eC (.int 0))) eNil)))))) (eNot (eT (eFn F_is_within (eCons (eV 2) (eCons (eC (.int 1)) (eCons (eBin pIx (eV 0) (eC (.int 1))) eNil))))))) (sRaise "InvalidNumber") sNil) (sRet (eFn F_always_fits (eCons (eV 0) (eCons (eV 1) (eCons (eV 2) eNil)))))))
noncomputable def F_fits_window : List PyData → Rs PyData := fnP 3 B_fits_window
noncomputable def B_windows : Rho → Rs Fl := (sSeq (sExpr (eFn F_need_atlas (eCons (eV 0) eNil))) (sSeq (sSet 1 (eLst (eLc2 (iRng2 (eC (.int 1)) (eBin pAdd (eBin pIx (eV 0) (eC (.int 0))) (eC (.int 1)))) (bName 5) eYes (iRng2 (eC (.int 1)) (eBin pAdd (eBin pIx (eV 0) (eC (.int 1))) (eC (.int 1)))) (bName 6) eYes (eTup (eCons (eV 5) (eCons (eV 6) eNil))) [5, 6] [6]))) (sSeq (sSet 2 (eLst (eLc (iSeq (eV 1)) (bName 4) (eT (eFn F_always_fits (eCons (eV 0) (eCons (eBin pIx (eV 4) (eC (.int 0))) (eCons (eBin pIx (eV 4) (eC (.int 1))) eNil))))) (eV 4) [4]))) (sSeq (sSetO 3 eNil) (sSeq (sFor (iSeq (eV 2)) (bName 4) (sIf (eNot (eT (eCall pAny (eCons (eLst (eLc (iSeq (eV 2)) (bName 7) eYes (eAndV (eBin pNe (eV 7) (eV 4)) (eAndV (eBin pGe (eBin pIx (eV 7) (eC (.int 0))) (eBin pIx (eV 4) (eC (.int 0)))) (eBin pGe (eBin pIx (eV 7) (eC (.int 1))) (eBin pIx (eV 4) (eC (.int 1)))))) [7])) eNil)))) (sApp 3 (eV 4)) sNil)) (sRet (eV 3)))))))
noncomputable def F_windows : List PyData → Rs PyData := fnP 8 B_windows
noncomputable def B__law_fits : Rho → Rs Fl := (sSeq (sFor (iRng1 (eBin pAdd (eBin pSub (eBin pIx (eV 0) (eC (.int 0))) (eV 1)) (eC (.int 1)))) (bName 3) (sFor (iRng1 (eBin pAdd (eBin pSub (eBin pIx (eV 0) (eC (.int 1))) (eV 2)) (eC (.int 1)))) (bName 4) (sSeq (sSet 5 (eLst eNil)) (sSeq (sFor (iRng2 (eV 4) (eBin pAdd (eV 4) (eV 2))) (bName 6) (sSet 5 (eBin pAdd (eV 5) (eLst (eLc (iRng2 (eV 3) (eBin pAdd (eV 3) (eV 1))) (bName 10) eYes (eTup (eCons (eV 10) (eCons (eV 6) eNil))) [10]))))) (sSeq (sSet 7 (eLst (eLc (iSeq (eBin pIx (eV 0) (eC (.int 2)))) (bName 8) eYes (eLst (eLc (iSeq (eV 5)) (bName 9) (eNot (eT (eFn F__law_holds (eCons (eV 8) (eCons (eV 9) eNil))))) (eV 9) [9])) [8]))) (sIf (eT (eBin pNotIn (eLst eNil) (eV 7))) (sRet (eC (.bool false))) sNil)))))) (sRet (eC (.bool true))))
noncomputable def F__law_fits : List PyData → Rs PyData := fnP 11 B__law_fits
noncomputable def B_covers : Rho → Rs Fl := (sRet (eCall pAll (eCons (eLst (eLc (iSeq (eFn F_cells_of (eCons (eV 0) eNil))) (bName 2) eYes (eCall pAny (eCons (eLst (eLc (iSeq (eFn F_pages_of (eCons (eV 0) (eCons (eV 2) eNil)))) (bName 3) eYes (eBin pIn (eV 3) (eV 1)) [3])) eNil)) [2])) eNil)))
noncomputable def F_covers : List PyData → Rs PyData := fnP 4 B_covers
noncomputable def B_lots_by_size : Rho → Rs Fl := (sSeq (sSet 1 (eLst (eCons (eTup eNil) eNil))) (sSeq (sFor (iRng1 (eV 0)) (bName 2) (sSet 1 (eBin pAdd (eV 1) (eLst (eLc (iSeq (eV 1)) (bName 4) eYes (eBin pAdd (eV 4) (eTup (eCons (eV 2) eNil))) [4]))))) (sRet (eLst (eLc (iSeq (eLst (eCallO pSorted (eCons (eLst (eLc (iSeq (eV 1)) (bName 4) eYes (eTup (eCons (eCall pLen (eCons (eV 4) eNil)) (eCons (eV 4) eNil))) [4])) eNil)))) (bTup (bCons (bName 3) (bCons (bName 4) bNil))) eYes (eV 4) [3, 4])))))
noncomputable def F_lots_by_size : List PyData → Rs PyData := fnP 5 B_lots_by_size
noncomputable def B_fewest_pages : Rho → Rs Fl := (sSeq (sExpr (eFn F_need_atlas (eCons (eV 0) eNil))) (sRet (eBin pIx (eLst (eLc (iSeq (eFn F_lots_by_size (eCons (eCall pLen (eCons (eBin pIx (eV 0) (eC (.int 2))) eNil)) eNil))) (bName 1) (eT (eFn F_covers (eCons (eV 0) (eCons (eV 1) eNil)))) (eV 1) [1])) (eC (.int 0)))))
noncomputable def F_fewest_pages : List PyData → Rs PyData := fnP 2 B_fewest_pages
noncomputable def B_needless : Rho → Rs Fl := (sSeq (sExpr (eFn F_need_atlas (eCons (eV 0) eNil))) (sSeq (sSet 1 (eLst (iRng1 (eCall pLen (eCons (eBin pIx (eV 0) (eC (.int 2))) eNil))))) (sRet (eLst (eLc (iSeq (eV 1)) (bName 2) (eT (eFn F_covers (eCons (eV 0) (eCons (eCall pTuple (eCons (eLst (eLc (iSeq (eV 1)) (bName 3) (eT (eBin pNe (eV 3) (eV 2))) (eV 3) [3])) eNil)) eNil)))) (eV 2) [2])))))
noncomputable def F_needless : List PyData → Rs PyData := fnP 4 B_needless
noncomputable def B__law_lots : Rho → Rs Fl := (sSeq (sSet 1 (eLst (eCons (eTup eNil) eNil))) (sSeq (sFor (iRng1 (eV 0)) (bName 2) (sSet 1 (eBin pAdd (eV 1) (eLst (eLc (iSeq (eV 1)) (bName 3) eYes (eBin pAdd (eV 3) (eTup (eCons (eV 2) eNil))) [3]))))) (sRet (eV 1))))
noncomputable def F__law_lots : List PyData → Rs PyData := fnP 4 B__law_lots
noncomputable def B__law_covered : Rho → Rs Fl := (sSeq (sSet 2 (eLst (eLc (iSeq (eFn F__law_all_cells (eCons (eV 0) eNil))) (bName 3) (eT (eBin pEq (eLst (eLc (iSeq (eFn F__law_held_by (eCons (eV 0) (eCons (eV 3) eNil)))) (bName 4) (eT (eBin pIn (eV 4) (eV 1))) (eV 4) [4])) (eLst eNil))) (eV 3) [3]))) (sRet (eBin pEq (eV 2) (eLst eNil))))
noncomputable def F__law_covered : List PyData → Rs PyData := fnP 5 B__law_covered
noncomputable def B_page_line : Rho → Rs Fl := (sSeq (sSet 1 (eLst (eLc (iSeq (eSl (eV 0) eNoP (eP (eC (.int 4))))) (bName 3) eYes (eCall pStr (eCons (eV 3) eNil)) [3]))) (sSeq (sSet 2 (eLst (eLc (iSeq (eBin pIx (eV 0) (eC (.int 4)))) (bName 4) eYes (eIf (eT (eBin pIs (eV 4) (eC .none))) (eC (.str "-")) (eCall pStr (eCons (eV 4) eNil))) [4]))) (sRet (eStrM pJoin (eC (.str " ")) (eBin pAdd (eBin pAdd (eLst (eCons (eC (.str "page")) eNil)) (eV 1)) (eV 2))))))
noncomputable def F_page_line : List PyData → Rs PyData := fnP 5 B_page_line
noncomputable def B_number_of : Rho → Rs Fl := (sRet (eIf (eAnd (eT (eBin pEq (eCall pLen (eCons (eV 0) eNil)) (eC (.int 1)))) (eT (eBin pIn (eV 0) (eC (.str "0123456789"))))) (eStrM pIndexS (eC (.str "0123456789")) (eV 0)) (eC .none)))
noncomputable def F_number_of : List PyData → Rs PyData := fnP 1 B_number_of
noncomputable def B_land_of : Rho → Rs Fl := (sSeq (sSet 1 (eLst (eStrMO pSplit (eV 0) (eC (.str " "))))) (sSeq (sIf (eOr (eT (eBin pNe (eCall pLen (eCons (eV 1) eNil)) (eC (.int 3)))) (eT (eBin pNe (eBin pIx (eV 1) (eC (.int 0))) (eC (.str "land"))))) (sRet (eC .none)) sNil) (sSeq (sSet 2 (eTup (eCons (eFn F_number_of (eCons (eBin pIx (eV 1) (eC (.int 1))) eNil)) (eCons (eFn F_number_of (eCons (eBin pIx (eV 1) (eC (.int 2))) eNil)) eNil)))) (sRet (eIf (eT (eCall pAll (eCons (eLst (eLc (iSeq (eV 2)) (bName 3) eYes (eFn F_is_within (eCons (eV 3) (eCons (eC (.int 1)) (eCons (eC (.int 8)) eNil)))) [3])) eNil))) (eV 2) (eC .none))))))
noncomputable def F_land_of : List PyData → Rs PyData := fnP 4 B_land_of
noncomputable def B_page_of : Rho → Rs Fl := (sSeq (sSet 1 (eLst (eStrMO pSplit (eV 0) (eC (.str " "))))) (sSeq (sIf (eOr (eT (eBin pNe (eCall pLen (eCons (eV 1) eNil)) (eC (.int 9)))) (eT (eBin pNe (eBin pIx (eV 1) (eC (.int 0))) (eC (.str "page"))))) (sRet (eC .none)) sNil) (sSeq (sSet 2 (eCall pTuple (eCons (eLst (eLc (iSeq (eSl (eV 1) (eP (eC (.int 5))) eNoP)) (bName 4) eYes (eIf (eT (eBin pEq (eV 4) (eC (.str "-")))) (eC .none) (eFn F_number_of (eCons (eV 4) eNil))) [4])) eNil))) (sSeq (sIf (eNot (eT (eCall pAll (eCons (eLst (eLc (iSeq (eSl (eV 1) (eP (eC (.int 5))) eNoP)) (bName 4) eYes (eOrV (eBin pEq (eV 4) (eC (.str "-"))) (eBin pIsNot (eFn F_number_of (eCons (eV 4) eNil)) (eC .none))) [4])) eNil)))) (sRet (eC .none)) sNil) (sSeq (sSet 3 (eBin pAdd (eCall pTuple (eCons (eLst (eLc (iSeq (eSl (eV 1) (eP (eC (.int 1))) (eP (eC (.int 5))))) (bName 4) eYes (eFn F_number_of (eCons (eV 4) eNil)) [4])) eNil)) (eTup (eCons (eV 2) eNil)))) (sRet (eIf (eT (eFn F_is_page (eCons (eV 3) (eCons (eC (.int 8)) (eCons (eC (.int 8)) (eCons (eC (.int 6)) eNil)))))) (eV 3) (eC .none))))))))
noncomputable def F_page_of : List PyData → Rs PyData := fnP 5 B_page_of
noncomputable def B_atlas_text : Rho → Rs Fl := (sSeq (sExpr (eFn F_need_atlas (eCons (eV 0) eNil))) (sRet (eStrM pJoin (eC (.str "\n")) (eBin pAdd (eLst (eCons (eJ (jCons (eC (.str "land ")) (jCons (eUn pFmt (eBin pIx (eV 0) (eC (.int 0)))) (jCons (eC (.str " ")) (jCons (eUn pFmt (eBin pIx (eV 0) (eC (.int 1)))) jNil))))) eNil)) (eLst (eLc (iSeq (eBin pIx (eV 0) (eC (.int 2)))) (bName 1) eYes (eFn F_page_line (eCons (eV 1) eNil)) [1]))))))
noncomputable def F_atlas_text : List PyData → Rs PyData := fnP 2 B_atlas_text
noncomputable def B_read_atlas : Rho → Rs Fl := (sSeq (sIf (eNot (eT (eIsi PyData.isStr (eV 0)))) (fun _ => .bad) sNil) (sSeq (sSet 1 (eLst (eStrMO pSplit (eV 0) (eC (.str "\n"))))) (sSeq (sPar [3, 4] (mSh (eFn F_land_of (eCons (eBin pIx (eV 1) (eC (.int 0))) eNil)) (mSh (eLst (eLc (iSeq (eSl (eV 1) (eP (eC (.int 1))) eNoP)) (bName 7) eYes (eFn F_page_of (eCons (eV 7) eNil)) [7])) mNil))) (sSeq (sIf (eT (eBin pIs (eV 3) (eC .none))) (fun _ => .bad) sNil) (sSeq (sFor (iEnu (eV 4)) (bTup (bCons (bName 5) (bCons (bName 6) bNil))) (sIf (eT (eBin pIs (eV 6) (eC .none))) (fun _ => .bad) sNil)) (sSeq (sSet 2 (eBin pAdd (eV 3) (eTup (eCons (eCall pTuple (eCons (eV 4) eNil)) eNil)))) (sSeq (sIf (eNot (eT (eFn F_is_atlas_value (eCons (eV 2) eNil)))) (fun _ => .bad) sNil) (sRet (eV 2)))))))))
noncomputable def F_read_atlas : List PyData → Rs PyData := fnP 8 B_read_atlas
end Atl

set_option Elab.async false
set_option linter.all false
set_option maxRecDepth 100000
set_option maxHeartbeats 4000000
namespace Atl
open PySem L2 Dl
noncomputable def B_law_1 : Rho → Rs Fl := (sSeq (sSet 10 (eFn F__law_is_atlas (eCons (eV 6) eNil))) (sSeq (sIf (eNot (eT (eFn (F__law_same 8) (eCons (eFn F_is_atlas (eCons (eV 6) eNil)) (eCons (eV 10) eNil))))) (sRet (eC (.bool false))) sNil) (sIf (eAnd (eNot (eT (eV 10))) (eT (eBin pNe (eTry (eFn F_pages_at (eCons (eV 6) (eCons (eC (.int 0)) (eCons (eC (.int 0)) eNil))))) (eC (.str "atlas +"))))) (sRet (eC (.bool false))) sNil)))
noncomputable def B_law_2 : Rho → Rs Fl := (sIf (eNot (eT (eFn (F__law_same 8) (eCons (eFn F_pages_at (eCons (eV 3) (eCons (eBin pIx (eV 7) (eC (.int 0))) (eCons (eBin pIx (eV 7) (eC (.int 1))) eNil)))) (eCons (eFn F__law_held_by (eCons (eV 3) (eCons (eV 7) eNil))) eNil))))) (sRet (eC (.bool false))) sNil)
noncomputable def B_law_3 : Rho → Rs Fl := (sApp 12 (eFn F__law_behind (eCons (eOIx 12 (eUn pNeg (eC (.int 1)))) (eCons (eV 8) eNil))))
noncomputable def B_law_4 : Rho → Rs Fl := (sIf (eT (eBin pNe (eTry (eFn F_cells_along (eCons (eV 3) (eCons (eBin pIx (eV 7) (eC (.int 0))) (eCons (eBin pIx (eV 7) (eC (.int 1))) (eCons (eV 9) eNil)))))) (eC (.str "walk +")))) (sRet (eC (.bool false))) sNil)
noncomputable def B_law_5 : Rho → Rs Fl := (sIf (eT (eBin pNe (eTry (eFn F_pages_at (eCons (eV 3) (eCons (eV 9) (eCons (eC (.int 0)) eNil))))) (eC (.str "cell +")))) (sRet (eC (.bool false))) sNil)
noncomputable def B_law_6 : Rho → Rs Fl := (sSeq (sSetO 2 (eFnN F__law_deck (eCons (eV 1) (eCons (eC (.int 1)) eNil)))) (sSeq (sSet 3 (eFnO 2 F__law_drawn (eCons (eC (.int 8)) (eCons (eC (.int 8)) (eCons (eC (.int 2)) eNil))))) (sSeq (sSet 4 (eFnO 2 (F__law_spoilt 8) (eCons (eV 3) eNil))) (sSeq (sSet 5 (eLst (eCons (eV 3) (eCons (eV 4) (eCons (eFnO 2 (F__law_spoilt 8) (eCons (eV 4) eNil)) (eCons (eBin pIx (eV 3) (eC (.int 2))) (eCons (eBack (eV 3) (eUn pNeg (eC (.int 1)))) (eCons (eC .none) (eCons (eC (.int 7)) (eCons (eC (.str "")) (eCons (eLst eNil) eNil))))))))))) (sSeq (sSet 5 (eBin pAdd (eBin pAdd (eV 5) (eLst (eLc (iRng1 (eC (.int 20))) (bName 13) eYes (eFnO 2 (F__law_spoilt 8) (eCons (eV 3) eNil)) [13]))) (eFn F__law_edges_of_bounds eNil))) (sSeq (sFor (iSeq (eV 5)) (bName 6) B_law_1) (sSeq (sFor (iSeq (eFn F__law_all_cells (eCons (eV 3) eNil))) (bName 7) B_law_2) (sSeq (sSet 7 (eFnO 2 F__law_one (eCons (eFn F__law_all_cells (eCons (eV 3) eNil)) eNil))) (sSeq (sPar [11, 12] (mSh (eFnO 2 F__law_some_walk (eCons (eV 3) (eCons (eV 7) (eCons (eC (.int 60)) eNil)))) (mOw (eCons (eV 7) eNil) mNil))) (sSeq (sFor (iSeq (eV 11)) (bName 8) B_law_3) (sSeq (sIf (eNot (eT (eFn (F__law_same 8) (eCons (eFn F_cells_along (eCons (eV 3) (eCons (eBin pIx (eV 7) (eC (.int 0))) (eCons (eBin pIx (eV 7) (eC (.int 1))) (eCons (eV 11) eNil))))) (eCons (eV 12) eNil))))) (sRet (eC (.bool false))) sNil) (sSeq (sFor (iSeq (eLst (eCons (eC .none) (eCons (eC (.int 7)) (eCons (eC (.str "x")) (eCons (eBin pAdd (eV 11) (eBin pMulS (eC (.str "e")) (eC (.int 9)))) (eCons (eBin pAdd (eV 11) (eBin pMulS (eC (.str "w")) (eC (.int 9)))) (eCons (eC (.str "N")) (eCons (eLst (eCons (eC (.str "n")) eNil)) (eCons (eBin pMulS (eC (.str "n")) (eC (.int 61))) eNil)))))))))) (bName 9) B_law_4) (sFor (iSeq (eLst (eCons (eC .none) (eCons (eUn pNeg (eC (.int 1))) (eCons (eBin pIx (eV 3) (eC (.int 0))) (eCons (eC (.bool true)) (eCons (eC (.str "0")) eNil))))))) (bName 9) B_law_5)))))))))))))
noncomputable def B_law : Rho → Rs Fl := (sSeq (sFor (iSeq (eSl (eBin pAdd (eLst (eCons (eC (.int 0)) eNil)) (eV 0)) eNoP (eP (eC (.int 10))))) (bName 1) B_law_6) (sRet (eC (.bool true))))
noncomputable def F_law : List PyData → Rs PyData := fnP 14 B_law
end Atl

set_option Elab.async false
set_option linter.all false
set_option maxRecDepth 100000
set_option maxHeartbeats 4000000
namespace Atl
open PySem Dl
open L2 (atI ixN)
/-! ### the deck -/
def Dk (c : Int) (d : List PyData) : Prop := ∃ a b k : Int, d = [.int a, .int b, .int k] ∧ (0 ≤ b ∧ b < 2147483648) ∧ 0 ≤ k ∧ k ≤ c
theorem Dk.mono {c c' : Int} {d : List PyData} (h : Dk c d) (hc : c ≤ c') : Dk c' d := by
  obtain ⟨a, b, k, h1, h2, h3, h4⟩ := h
  exact ⟨a, b, k, h1, h2, h3, by omega⟩
theorem pick_spec (a b c size : Int) (hb : 0 ≤ b ∧ b < 2147483648) (hc : 0 ≤ c ∧ c < 1000000) (hs : 0 < size ∧ size < 1000000) :
    ∃ r a' c', F__law_pick [.int a, .int b, .int c] [.int size] = .ok (.int r, [.int a', .int b, .int c']) [] ∧ (0 ≤ r ∧ r < size) ∧ c ≤ c' ∧ c' ≤ c + 1 := by
  by_cases h : a > 1
  · refine ⟨a % size, a / size, c, ?_, ⟨Int.emod_nonneg _ (by omega), Int.emod_lt_of_pos _ hs.1⟩, by omega, by omega⟩
    simp [F__law_pick, fnB, B__law_pick, run_eOIx, run_sStore, run_ownAt', run_eV, h, op_mod hs.1, op_fdiv (show 0 < size ∧ size < 1073741824 by omega), L2.ixN, outB]
  · generalize hm : (b + 15485867 * (c + 1)) ^ 5 % 2147483647 = m
    have hm0 : 0 ≤ m ∧ m < 2147483647 := by
      rw [← hm]
      exact ⟨Int.emod_nonneg _ (by omega), Int.emod_lt_of_pos _ (by omega)⟩
    generalize hf : (m + 7919 * (c + 1)) ^ 3 % 2147483629 / 32 = f
    refine ⟨f % size, a, c + 1, ?_, ⟨Int.emod_nonneg _ (by omega), Int.emod_lt_of_pos _ hs.1⟩, by omega, by omega⟩
    have p1 := op_pow (i := b + 15485867 * (c + 1)) (j := 5) (by omega)
    have p2 := op_pow (i := m + 7919 * (c + 1)) (j := 3) (by omega)
    have p3 := fun i : Int => op_mod (i := i) (j := 2147483647) (by omega)
    have p4 := fun i : Int => op_mod (i := i) (j := 2147483629) (by omega)
    have p5 := fun i : Int => op_fdiv (i := i) (j := 32) (by omega)
    have p6 := op_mod (i := f) hs.1
    have q1 := fun j : Int => op_mul (i := 15485867) (j := j) (.inl (by decide))
    have q2 := fun j : Int => op_mul (i := 7919) (j := j) (.inl (by decide))
    simp [F__law_pick, fnB, B__law_pick, run_eOIx, run_sStore, run_ownAt', run_eV, h, p1, p2, p3, p4, p5, p6, q1, q2, hm, hf, L2.ixN, outB]
theorem pick_ok {c : Int} {d : List PyData} {size : Int} (h : Dk c d) (hc : c < 1000000) (hs : 0 < size ∧ size < 1000000) : ∃ r d', F__law_pick d [.int size] = .ok (.int r, d') [] ∧ (0 ≤ r ∧ r < size) ∧ Dk (c + 1) d' := by
  obtain ⟨a, b, k, rfl, h2, h3, h4⟩ := h
  obtain ⟨r, a', c', e1, e2, e3, e4⟩ := pick_spec a b k size h2 ⟨h3, by omega⟩ hs
  exact ⟨r, _, e1, e2, a', b, c', rfl, h2, by omega, by omega⟩
theorem deck_ok (cell : Int) {turn : Int} (ht : 0 ≤ turn) : ∃ d, F__law_deck [.int cell, .int turn] = .ok d [] ∧ Dk turn d := by
  have hb : 0 ≤ cell % 2147483579 ∧ cell % 2147483579 < 2147483648 := ⟨Int.emod_nonneg _ (by omega), Int.lt_trans (Int.emod_lt_of_pos _ (by omega)) (by omega)⟩
  have p1 := op_pow (i := 10) (j := 18) (by omega)
  have p2 := op_mod (i := cell) (j := 2147483579) (by omega)
  by_cases h : (1000000000000000000 : Int) ≤ cell
  · refine ⟨[.int (cell - 10 ^ 18), .int (cell % 2147483579), .int turn], ?_, _, _, _, rfl, hb, ht, Int.le_refl _⟩
    simp [F__law_deck, fnO, B__law_deck, run_eV, p1, p2, h]
  · refine ⟨[.int 0, .int (cell % 2147483579), .int turn], ?_, _, _, _, rfl, hb, ht, Int.le_refl _⟩
    simp [F__law_deck, fnO, B__law_deck, run_eV, p1, p2, h]
theorem one_list {c : Int} {d : List PyData} {xs : List PyData} (h : Dk c d) (hc : c < 1000000) (hx : xs ≠ []) (hl : xs.length < 1000000) : ∃ x d', F__law_one d [.list xs] = .ok (x, d') [] ∧ x ∈ xs ∧ Dk (c + 1) d' := by
  have hp : 0 < xs.length := List.length_pos_iff.mpr hx
  obtain ⟨r, d', e1, e2, e3⟩ := pick_ok h hc (size := xs.length) ⟨by omega, by omega⟩
  have hr : r.toNat < xs.length := by omega
  refine ⟨xs[r.toNat], d', ?_, List.getElem_mem hr, e3⟩
  have ea : atI xs r = some xs[r.toNat] := by rw [atI_of e2.1, List.getElem?_eq_getElem hr]
  simp [F__law_one, fnB, B__law_one, run_eV, run_eFnO', run_afterO', e1, ea, outB]
theorem one_tuple {c : Int} {d : List PyData} {xs : List PyData} (h : Dk c d) (hc : c < 1000000) (hx : xs ≠ []) (hl : xs.length < 1000000) : ∃ x d', F__law_one d [.tuple xs] = .ok (x, d') [] ∧ x ∈ xs ∧ Dk (c + 1) d' := by
  have hp : 0 < xs.length := List.length_pos_iff.mpr hx
  obtain ⟨r, d', e1, e2, e3⟩ := pick_ok h hc (size := xs.length) ⟨by omega, by omega⟩
  have hr : r.toNat < xs.length := by omega
  refine ⟨xs[r.toNat], d', ?_, List.getElem_mem hr, e3⟩
  have ea : atI xs r = some xs[r.toNat] := by rw [atI_of e2.1, List.getElem?_eq_getElem hr]
  simp [F__law_one, fnB, B__law_one, run_eV, run_eFnO', run_afterO', e1, ea, outB]
/-! ### bands -/
theorem length_insS (k : Int) : ∀ r : List Int, (insS k r).length ≤ r.length + 1
  | [] => Nat.le_refl _
  | x :: r => by
    unfold insS
    split
    · exact Nat.le_refl _
    · split
      · have := length_insS k r
        simp only [List.length_cons]
        omega
      · simp only [List.length_cons]
        omega
theorem length_sset : ∀ ns : List Int, (sset ns).length ≤ ns.length
  | [] => Nat.le_refl _
  | n :: ns => Nat.le_trans (length_insS n (sset ns)) (Nat.succ_le_succ (length_sset ns))
theorem between (x : Int) : ∀ (l : List Int), l.Pairwise (· < ·) → (∃ a ∈ l, a ≤ x) → (∃ b ∈ l, x < b) → ∃ (k : Nat) (a b : Int), l[k]? = some a ∧ l[k + 1]? = some b ∧ a ≤ x ∧ x < b
  | [], _, ⟨_, h, _⟩, _ => by cases h
  | [c], _, ⟨a, h, h1⟩, ⟨b, h', h2⟩ => by
    have e1 := List.mem_singleton.mp h
    have e2 := List.mem_singleton.mp h'
    omega
  | c :: e :: r, hs, ⟨a, h, h1⟩, ⟨b, h', h2⟩ => by
    obtain ⟨s1, s2⟩ := List.pairwise_cons.mp hs
    have hc : c ≤ x := by
      rcases List.mem_cons.mp h with q | q
      · omega
      · have := s1 a q
        omega
    by_cases he : x < e
    · exact ⟨0, c, e, rfl, rfl, hc, he⟩
    · obtain ⟨k, a', b', k1, k2, k3, k4⟩ := between x (e :: r) s2 ⟨e, List.mem_cons_self, by omega⟩ ⟨b, by
        rcases List.mem_cons.mp h' with q | q
        · omega
        · exact q, h2⟩
      exact ⟨k + 1, a', b', k1, k2, k3, k4⟩
abbrev encB (b : Int × Int) : PyData := .tuple [.int b.1, .int b.2]
structure Bands (size : Int) (n : Nat) (bs : List (Int × Int)) : Prop where
  len : bs.length ≤ n
  ok : ∀ b ∈ bs, 0 ≤ b.1 ∧ 1 ≤ b.2 ∧ b.1 + b.2 ≤ size
  cov : ∀ x, 0 ≤ x → x < size → ∃ b ∈ bs, b.1 ≤ x ∧ x < b.1 + b.2
theorem bands_ok {c : Int} {d : List PyData} {size : Int} {many : Nat} (h : Dk c d) (hc : c < 900000) (hs : 1 ≤ size ∧ size ≤ 100) (hm : 1 ≤ many ∧ many ≤ 8) :
    ∃ bs d', F__law_bands d [.int size, .int many] = .ok (.list (bs.map encB), d') [] ∧ Bands size many bs ∧ Dk (c + 30) d' := by
  obtain ⟨p, d1, e1, e2, e3⟩ := pick_ok h (by omega) (size := many) ⟨by omega, by omega⟩
  -- the cuts
  obtain ⟨ρ1, l1, dA, cuts, t, rfl, hA, hcl, hc0, hcs, hcm⟩ := forL_all (b := bName 3) (body := sApp 4 (eFnO 0 F__law_pick (eCons (eBin pAdd (eV 1) (eC (.int 1))) eNil)))
    (fun i ρ => ∃ (dA : List PyData) (cuts : List Int) (t : Slot), ρ = [.own true dA, .sh (.int size), .sh (.int many), t, .own false (cuts.map .int), .non, .own false [], .non, .non] ∧ Dk (c + 1 + i) dA ∧ cuts.length = 2 + i ∧ 0 ∈ cuts ∧ size ∈ cuts ∧ ∀ x ∈ cuts, 0 ≤ x ∧ x ≤ size)
    (rngL 0 p.toNat) [.own true d1, .sh (.int size), .sh (.int many), .non, .own false [.int 0, .int size], .non, .own false [], .non, .non]
    ⟨d1, [0, size], .non, rfl, e3.mono (by omega), rfl, by simp, by simp, by simp; omega⟩ (by
      rintro i x ρ hi ⟨dA, cuts, t, rfl, hA, hcl, hc0, hcs, hcm⟩
      have hlt : i < p.toNat := by
        have := (List.getElem?_eq_some_iff.mp hi).1
        rwa [rngL_len] at this
      obtain ⟨q, dB, f1, f2, f3⟩ := pick_ok hA (by omega) (size := size + 1) ⟨by omega, by omega⟩
      refine ⟨_, [.own true dB, .sh (.int size), .sh (.int many), .sh x, .own false ((cuts ++ [q]).map .int), .non, .own false [], .non, .non], rfl, ?_, dB, cuts ++ [q], .sh x, rfl, f3.mono (by omega), by simp [hcl]; omega, by simp [hc0], by simp [hcs], ?_⟩
      · simp [run_sApp, run_ownAt', run_eFnO', run_afterO', run_eV, f1, hcl]
        omega
      · intro y hy
        rcases List.mem_append.mp hy with hy | hy
        · exact hcm y hy
        · have := List.mem_singleton.mp hy
          omega)
  rw [rngL_len] at hA hcl
  -- sorted
  generalize hcc : sset cuts = cc
  have cs : cc.Pairwise (· < ·) := hcc ▸ sset_sorted cuts
  have cm : ∀ x, x ∈ cc ↔ x ∈ cuts := fun x => by rw [← hcc]; exact mem_sset x cuts
  have cl : cc.length ≤ many + 1 := by
    have := length_sset cuts
    rw [hcc] at this
    omega
  have c2 : 1 ≤ cc.length := by
    have := (cm 0).mpr hc0
    exact List.length_pos_iff.mpr (List.ne_nil_of_mem this)
  have eSSr : pSortSet (.list (cuts.map .int)) = some (cc.map .int) := by
    show (intsOf (cuts.map .int)).bind _ = _
    rw [intsOf_map]
    simp only [Option.bind_some]
    rw [if_pos (by omega), hcc]
  -- the bands
  obtain ⟨ρ2, l2, dB, bs, s5, s7, s8, rfl, hB, hbl, hbo, hbc⟩ := forL_all (b := bName 5) (body := sSeq (sSet 7 (eCall pMax2 (eCons (eC (.int 0)) (eCons (eBin pSub (eOIx 4 (eV 5)) (eFnO 0 F__law_one (eCons (eLst (eCons (eC (.int 0)) (eCons (eC (.int 1)) (eCons (eC (.int 1)) (eCons (eC (.int 2)) eNil))))) eNil))) eNil)))) (sSeq (sSet 8 (eCall pMin2 (eCons (eV 1) (eCons (eBin pAdd (eOIx 4 (eBin pAdd (eV 5) (eC (.int 1)))) (eFnO 0 F__law_one (eCons (eLst (eCons (eC (.int 0)) (eCons (eC (.int 0)) (eCons (eC (.int 1)) (eCons (eC (.int 2)) eNil))))) eNil))) eNil)))) (sApp 6 (eTup (eCons (eV 7) (eCons (eBin pSub (eV 8) (eV 7)) eNil))))))
    (fun i ρ => ∃ (dB : List PyData) (bs : List (Int × Int)) (s5 s7 s8 : Slot), ρ = [.own true dB, .sh (.int size), .sh (.int many), t, .own false (cc.map .int), s5, .own false (bs.map encB), s7, s8] ∧ Dk (c + 9 + 2 * i) dB ∧ bs.length = i ∧ (∀ b ∈ bs, 0 ≤ b.1 ∧ 1 ≤ b.2 ∧ b.1 + b.2 ≤ size) ∧
      ∀ (k : Nat) (x y : Int), k < i → cc[k]? = some x → cc[k + 1]? = some y → ∃ b ∈ bs, b.1 ≤ x ∧ y ≤ b.1 + b.2)
    (rngL 0 (cc.length - 1)) [.own true dA, .sh (.int size), .sh (.int many), t, .own false (cc.map .int), .non, .own false [], .non, .non]
    ⟨dA, [], .non, .non, .non, rfl, hA.mono (by omega), rfl, by simp, by intro k x y hk; omega⟩ (by
      rintro i x ρ hi ⟨dB, bs, s5, s7, s8, rfl, hB, hbl, hbo, hbc⟩
      have hlt : i < cc.length - 1 := by
        have := (List.getElem?_eq_some_iff.mp hi).1
        rwa [rngL_len] at this
      have hx : x = .int i := by
        unfold rngL at hi
        rw [List.getElem?_map, List.getElem?_range hlt] at hi
        simpa using hi.symm
      subst hx
      have h0 : i < cc.length := by omega
      have h1 : i + 1 < cc.length := by omega
      have a0 : atI (cc.map PyData.int) (i : Int) = some (PyData.int cc[i]) := by rw [atI_nat, List.getElem?_map, List.getElem?_eq_getElem h0]; rfl
      have a1 : atI (cc.map PyData.int) ((i : Int) + 1) = some (PyData.int cc[i + 1]) := by rw [show (i : Int) + 1 = ((i + 1 : Nat) : Int) by omega, atI_nat, List.getElem?_map, List.getElem?_eq_getElem h1]; rfl
      have hlt2 : cc[i] < cc[i + 1] := List.pairwise_iff_getElem.mp cs i (i + 1) h0 h1 (by omega)
      have m0 := hcm _ ((cm _).mp (List.getElem_mem h0))
      have m1 := hcm _ ((cm _).mp (List.getElem_mem h1))
      obtain ⟨u, dC, f1, f2, f3⟩ := one_list hB (by omega) (xs := [.int 0, .int 1, .int 1, .int 2]) (by simp) (by simp)
      obtain ⟨v, dD, g1, g2, g3⟩ := one_list f3 (by omega) (xs := [.int 0, .int 0, .int 1, .int 2]) (by simp) (by simp)
      obtain ⟨u', rfl, hu⟩ : ∃ u' : Int, u = .int u' ∧ 0 ≤ u' := by
        simp at f2
        rcases f2 with e | e | e <;> exact ⟨_, e, by omega⟩
      obtain ⟨v', rfl, hv⟩ : ∃ v' : Int, v = .int v' ∧ 0 ≤ v' := by
        simp at g2
        rcases g2 with e | e | e <;> exact ⟨_, e, by omega⟩
      generalize hlo : (if cc[i] - u' > 0 then cc[i] - u' else 0) = lo
      generalize hhi : (if cc[i + 1] + v' < size then cc[i + 1] + v' else size) = hi'
      have l1 : 0 ≤ lo ∧ lo ≤ cc[i] := by
        rw [← hlo]
        split <;> omega
      have l2 : hi' ≤ size ∧ cc[i + 1] ≤ hi' := by
        rw [← hhi]
        split <;> omega
      refine ⟨_, [.own true dD, .sh (.int size), .sh (.int many), t, .own false (cc.map .int), .sh (.int i), .own false ((bs ++ [(lo, hi' - lo)]).map encB), .sh (.int lo), .sh (.int hi')], rfl, ?_, dD, bs ++ [(lo, hi' - lo)], _, _, _, rfl, g3.mono (by omega), by simp [hbl], ?_, ?_⟩
      · simp [run_sApp, run_ownAt', run_eFnO', run_afterO', run_eV, run_eOIx, f1, g1, a0, a1, hbl]
        simp only [gt_iff_lt] at hlo
        simp [hlo, hhi, Int.sub_pos] at *
        simp [hlo, hhi]
        omega
      · intro b hb
        rcases List.mem_append.mp hb with hb | hb
        · exact hbo b hb
        · have := List.mem_singleton.mp hb
          subst this
          simp only
          omega
      · intro k x y hk hkx hky
        by_cases e : k < i
        · obtain ⟨b, q1, q2⟩ := hbc k x y e hkx hky
          exact ⟨b, List.mem_append_left _ q1, q2⟩
        · have : k = i := by omega
          subst this
          rw [List.getElem?_eq_getElem h0] at hkx
          rw [List.getElem?_eq_getElem h1] at hky
          cases hkx
          cases hky
          exact ⟨_, List.mem_append_right _ (List.mem_singleton.mpr rfl), l1.2, by simp only; omega⟩)
  rw [rngL_len] at hB hbl hbc
  refine ⟨bs, dB, ?_, ⟨by omega, hbo, fun x hx0 hx1 => ?_⟩, hB.mono (by omega)⟩
  · have q0 : (-1000000 ≤ p ∧ p ≤ 1000000) := by omega
    have q1 : (-1000000 ≤ ((cc.length : Int) - 1) ∧ ((cc.length : Int) - 1) ≤ 1000000) := by omega
    have q2 : ((cc.length : Int) - 1).toNat = cc.length - 1 := by omega
    simp only [F__law_bands, fnB, B__law_bands]
    simp [run_ownAt', run_eFnO', run_afterO', run_eV, e1, q0, l1, eSSr, run_eLook, Slot.see, atom, q1, q2, l2, outB]
  · obtain ⟨k, a, b, k1, k2, k3, k4⟩ := between x cc cs ⟨0, (cm 0).mpr hc0, hx0⟩ ⟨size, (cm size).mpr hcs, hx1⟩
    have hk : k < cc.length - 1 := by
      have := (List.getElem?_eq_some_iff.mp k2).1
      omega
    obtain ⟨z, z1, z2, z3⟩ := hbc k a b hk k1 k2
    exact ⟨z, z1, by omega, by omega⟩
end Atl

set_option Elab.async false
set_option linter.all false
set_option maxRecDepth 100000
set_option maxHeartbeats 4000000
namespace Atl
open PySem Dl
open L2 (atI ixN)
theorem perm_erase {α : Type} : ∀ (l : List α) (i : Nat) (h : i < l.length), (l[i] :: l.eraseIdx i).Perm l
  | a :: l, 0, _ => List.Perm.refl _
  | a :: l, i + 1, h => by
    have h' : i < l.length := by simpa using h
    have ih := perm_erase l i h'
    exact (List.Perm.swap a (l[i]'h') (l.eraseIdx i)).trans (List.Perm.cons a ih)
theorem mixed_loop {n : Nat} : ∀ {c : Int} {d : List PyData} {left found : List PyData} {s1 : Slot}, left.length = n → found.length + left.length ≤ 1000 → Dk c d → c + n < 900000 →
    ∃ ys d', whileN (eLookT (eT (eBin pNe (eV 2) (eLst eNil)))) (sApp 3 (ePopAt 2 (eFnO 0 F__law_pick (eCons (eLook (eCall pLen (eCons (eV 2) eNil))) eNil)))) (n + 1) [.own true d, s1, .own false left, .own false found] = .ok .nx [.own true d', s1, .own false [], .own false (found ++ ys)] ∧ ys.Perm left ∧ Dk (c + n) d' := by
  induction n with
  | zero =>
    intro c d left found s1 hl hf hd hc
    have e := List.eq_nil_of_length_eq_zero hl
    subst e
    refine ⟨[], d, ?_, List.Perm.refl _, hd.mono (by omega)⟩
    rw [whileN_succ]
    simp [run_eLookT, run_eV, Slot.see, op_nel]
  | succ n ih =>
    intro c d left found s1 hl hf hd hc
    obtain ⟨r, d1, e1, e2, e3⟩ := pick_ok hd (by omega) (size := left.length) ⟨by omega, by omega⟩
    have hr : r.toNat < left.length := by omega
    have hne : left.isEmpty = false := by
      cases left with
      | nil => simp at hl
      | cons a b => rfl
    have hz : left.length ≤ 1000000 := by omega
    have hz2 : found.length < 1000000 := by omega
    obtain ⟨ys, d', f1, f2, f3⟩ := ih (c := c + 1) (d := d1) (left := left.eraseIdx r.toNat) (found := found ++ [left[r.toNat]]) (s1 := s1) (by rw [List.length_eraseIdx]; rw [if_pos hr]; omega) (by rw [List.length_eraseIdx, if_pos hr, List.length_append, List.length_singleton]; omega) e3 (by omega)
    refine ⟨left[r.toNat] :: ys, d', ?_, ?_, f3.mono (by omega)⟩
    · rw [whileN_succ]
      simp [run_eLookT, run_eLook, run_eV, Slot.see, op_nel, hne, atom, run_eFnO', run_afterO', e1, run_ePopAt, run_ownAt', ixN_of e2.1 e2.2, hz, List.getElem?_eq_getElem hr, run_sApp, hz2]
      rw [List.append_assoc] at f1
      exact f1
    · exact (List.Perm.cons _ f2).trans (perm_erase left _ hr)
theorem mixed_ok {c : Int} {d : List PyData} {xs : List PyData} (h : Dk c d) (hc : c < 800000) (hl : xs.length ≤ 1000) : ∃ ys d', F__law_mixed d [.list xs] = .ok (.list ys, d') [] ∧ ys.Perm xs ∧ Dk (c + xs.length) d' := by
  obtain ⟨ys, d', e1, e2, e3⟩ := mixed_loop (n := xs.length) (left := xs) (found := []) (s1 := .sh (.list xs)) rfl (by simpa using hl) h (by omega)
  refine ⟨ys, d', ?_, e2, e3⟩
  have e4 := sWhile_of e1 (by simp)
  simp [F__law_mixed, fnB, B__law_mixed, run_eV, e4, outB]
theorem anyPage_ok {c : Int} {d : List PyData} {W H : Int} (h : Dk c d) (hc : c < 800000) (hW : 1 ≤ W ∧ W ≤ 1000) (hH : 1 ≤ H ∧ H ≤ 1000) :
    ∃ l t w v d', F__law_any_page d [.int W, .int H] = .ok (.tuple [.int l, .int t, .int w, .int v], d') [] ∧ (0 ≤ l ∧ 0 ≤ t ∧ 1 ≤ w ∧ 1 ≤ v ∧ l + w ≤ W ∧ t + v ≤ H) ∧ Dk (c + 4) d' := by
  obtain ⟨l, d1, a1, a2, a3⟩ := pick_ok h (by omega) (size := W) ⟨by omega, by omega⟩
  obtain ⟨t, d2, b1, b2, b3⟩ := pick_ok a3 (by omega) (size := H) ⟨by omega, by omega⟩
  obtain ⟨w, d3, c1, c2, c3⟩ := pick_ok b3 (by omega) (size := W - l) ⟨by omega, by omega⟩
  obtain ⟨v, d4, g1, g2, g3⟩ := pick_ok c3 (by omega) (size := H - t) ⟨by omega, by omega⟩
  refine ⟨l, t, 1 + w, 1 + v, d4, ?_, by omega, g3.mono (by omega)⟩
  simp [F__law_any_page, fnB, B__law_any_page, run_eV, run_eFnO', run_afterO', a1, b1, c1, g1, outB]
/-! ### atlases -/
def hold (p : PyData) (x y : Int) : Bool := match p with
  | .tuple (.int l :: .int t :: .int w :: .int h :: _) => decide (l ≤ x ∧ x < l + w ∧ t ≤ y ∧ y < t + h)
  | _ => false
def ArrOk (n : Nat) (a : PyData) : Prop := a = .none ∨ ∃ k : Int, a = .int k ∧ 0 ≤ k ∧ k < n
structure Spot where
  l : Int
  t : Int
  w : Int
  h : Int
abbrev encS (s : Spot) : PyData := .tuple [.int s.l, .int s.t, .int s.w, .int s.h]
structure SpotOk (W H : Int) (s : Spot) : Prop where
  l : 0 ≤ s.l
  t : 0 ≤ s.t
  w : 1 ≤ s.w
  h : 1 ≤ s.h
  r : s.l + s.w ≤ W
  b : s.t + s.h ≤ H
def PageOk (W H : Int) (n : Nat) (p : PyData) : Prop := ∃ (s : Spot) (a0 a1 a2 a3 : PyData), p = .tuple [.int s.l, .int s.t, .int s.w, .int s.h, .tuple [a0, a1, a2, a3]] ∧ SpotOk W H s ∧ ArrOk n a0 ∧ ArrOk n a1 ∧ ArrOk n a2 ∧ ArrOk n a3
structure AtlasOk (W H : Int) (ps : List PyData) : Prop where
  w1 : 1 ≤ W
  w8 : W ≤ 8
  h1 : 1 ≤ H
  h8 : H ≤ 8
  n1 : 1 ≤ ps.length
  n6 : ps.length ≤ 6
  pg : ∀ p ∈ ps, PageOk W H ps.length p
  cov : ∀ x y : Int, 0 ≤ x → x < W → 0 ≤ y → y < H → ∃ p ∈ ps, hold p x y = true
abbrev encA (W H : Int) (ps : List PyData) : PyData := .tuple [.int W, .int H, .tuple ps]
end Atl

set_option Elab.async false
set_option linter.all false
set_option maxRecDepth 100000
set_option maxHeartbeats 4000000
namespace Atl
open PySem Dl
open L2 (atI ixN)
def spotsL (as bs : List (Int × Int)) : List Spot := as.flatMap fun a => bs.map fun b => ⟨a.1, b.1, a.2, b.2⟩
theorem spotsL_len (as bs : List (Int × Int)) : (spotsL as bs).length = as.length * bs.length := by
  unfold spotsL
  induction as with
  | nil => simp
  | cons a as ih => rw [List.flatMap_cons, List.length_append, ih, List.length_map, List.length_cons, Nat.add_mul, Nat.one_mul, Nat.add_comm]
theorem spotsL_take {as bs : List (Int × Int)} {i : Nat} (h : i < as.length) : spotsL (as.take (i + 1)) bs = spotsL (as.take i) bs ++ bs.map fun b => ⟨as[i].1, b.1, as[i].2, b.2⟩ := by
  unfold spotsL
  rw [List.take_succ_eq_append_getElem h, List.flatMap_append, List.flatMap_cons, List.flatMap_nil, List.append_nil]
section
variable {wide high extra : Slot} {W H : Int} {as bs : List (Int × Int)} {d : List PyData}
/-- the spots by bands -/
theorem spots_loop (ha : as.length ≤ 3) (hb : bs.length ≤ 2) : ∃ s10 s11, forL (bTup (bCons (bName 10) (bCons (bName 11) bNil))) (sSet 4 (eBin pAdd (eV 4) (eLst (eLc (iSeq (eSl (eV 9) eNoP (eP (eC (.int 2))))) (bTup (bCons (bName 15) (bCons (bName 16) bNil))) eYes (eTup (eCons (eV 10) (eCons (eV 15) (eCons (eV 11) (eCons (eV 16) eNil))))) [15, 16]))))
    (as.map encB) [.own true d, wide, high, extra, .sh (.list []), .non, .sh (.int W), .sh (.int H), .sh (.list (as.map encB)), .sh (.list (bs.map encB)), .non, .non, .non, .non, .non, .non, .non, .non]
    = .ok .nx [.own true d, wide, high, extra, .sh (.list ((spotsL as bs).map encS)), .non, .sh (.int W), .sh (.int H), .sh (.list (as.map encB)), .sh (.list (bs.map encB)), s10, s11, .non, .non, .non, .non, .non, .non] := by
  obtain ⟨ρ', e, s10, s11, rfl⟩ := forL_all (b := bTup (bCons (bName 10) (bCons (bName 11) bNil))) (body := sSet 4 (eBin pAdd (eV 4) (eLst (eLc (iSeq (eSl (eV 9) eNoP (eP (eC (.int 2))))) (bTup (bCons (bName 15) (bCons (bName 16) bNil))) eYes (eTup (eCons (eV 10) (eCons (eV 15) (eCons (eV 11) (eCons (eV 16) eNil))))) [15, 16]))))
    (fun i ρ => ∃ s10 s11, ρ = [.own true d, wide, high, extra, .sh (.list ((spotsL (as.take i) bs).map encS)), .non, .sh (.int W), .sh (.int H), .sh (.list (as.map encB)), .sh (.list (bs.map encB)), s10, s11, .non, .non, .non, .non, .non, .non])
    (as.map encB) [.own true d, wide, high, extra, .sh (.list []), .non, .sh (.int W), .sh (.int H), .sh (.list (as.map encB)), .sh (.list (bs.map encB)), .non, .non, .non, .non, .non, .non, .non, .non]
    ⟨.non, .non, rfl⟩ (by
      rintro i x ρ hi ⟨s10, s11, rfl⟩
      rw [List.getElem?_map] at hi
      obtain ⟨a, ha', rfl⟩ := Option.map_eq_some_iff.mp hi
      obtain ⟨hlt, hai⟩ := List.getElem?_eq_some_iff.mp ha'
      have hl := spotsL_len (as.take i) bs
      have hl2 : (spotsL (as.take i) bs).length ≤ 6 := by
        rw [hl, List.length_take]
        exact Nat.le_trans (Nat.mul_le_mul (show min i as.length ≤ 3 by omega) hb) (by decide)
      have hcut : cutD (bs.map encB) none (some 2) = bs.map encB := by
        rw [show (2 : Int) = ((2 : Nat) : Int) from rfl, cut_take, List.take_of_length_le (by simpa using hb)]
      refine ⟨_, _, rfl, ?_, .sh (.int a.1), .sh (.int a.2), rfl⟩
      have e1 := lc_map (fi := iSeq (eSl (eV 9) eNoP (eP (eC (.int 2))))) (b := bTup (bCons (bName 15) (bCons (bName 16) bNil))) (fe := eTup (eCons (eV 10) (eCons (eV 15) (eCons (eV 11) (eCons (eV 16) eNil))))) (vs := [15, 16])
        (ρ := [.own true d, wide, high, extra, .sh (.list ((spotsL (as.take i) bs).map encS)), .non, .sh (.int W), .sh (.int H), .sh (.list (as.map encB)), .sh (.list (bs.map encB)), .sh (.int a.1), .sh (.int a.2), .non, .non, .non, .non, .non, .non])
        (ρ1 := [.own true d, wide, high, extra, .sh (.list ((spotsL (as.take i) bs).map encS)), .non, .sh (.int W), .sh (.int H), .sh (.list (as.map encB)), .sh (.list (bs.map encB)), .sh (.int a.1), .sh (.int a.2), .non, .non, .non, .non, .non, .non])
        bs encB (fun b => encS ⟨a.1, b.1, a.2, b.2⟩) (by simp [run_eV, pSl, hcut]) (by omega) (by simp [wipeR, unwipeR]) (fun x _ => by simp [StepM, wipeR, run_eV])
      have hz : (spotsL (as.take i) bs).length + bs.length ≤ 1000000 := by omega
      rw [spotsL_take hlt, hai]
      simp [run_eV, e1, op_catl, hz])
  rw [List.length_map, List.take_of_length_le (Nat.le_refl _)] at e
  exact ⟨s10, s11, e⟩
end
end Atl

set_option Elab.async false
set_option linter.all false
set_option maxRecDepth 100000
set_option maxHeartbeats 4000000
namespace Atl
open PySem Dl
open L2 (atI ixN)
section
variable {s1 s2 s3 s5 s6 s7 s8 s9 s10 s11 s12 s13 s14 s15 s16 : Slot} {c : Int} {d ys : List PyData}
theorem arrows_ok (h : Dk c d) (hc : c < 800000) (hy : 1 ≤ ys.length ∧ ys.length ≤ 1000) :
    ∃ (a0 a1 a2 a3 : PyData) (d' : List PyData), eLc (iRng1 (eC (.int 4))) (bName 17) eYes (eFnO 0 F__law_one (eCons (eLst (eCons (eC .none) (eCons (eFnO 0 F__law_pick (eCons (eCall pLen (eCons (eV 4) eNil)) eNil)) eNil))) eNil)) [17]
      [.own true d, s1, s2, s3, .sh (.list ys), s5, s6, s7, s8, s9, s10, s11, s12, s13, s14, s15, s16, .non]
      = .ok [a0, a1, a2, a3] [.own true d', s1, s2, s3, .sh (.list ys), s5, s6, s7, s8, s9, s10, s11, s12, s13, s14, s15, s16, .non] ∧ ArrOk ys.length a0 ∧ ArrOk ys.length a1 ∧ ArrOk ys.length a2 ∧ ArrOk ys.length a3 ∧ Dk (c + 8) d' := by
  obtain ⟨as, ρ', e, d', rfl, hd, hl, ha⟩ := lcL_all (b := bName 17) (ft := eYes) (fe := eFnO 0 F__law_one (eCons (eLst (eCons (eC .none) (eCons (eFnO 0 F__law_pick (eCons (eCall pLen (eCons (eV 4) eNil)) eNil)) eNil))) eNil)) (vs := [17])
    (fun i acc ρ => ∃ d', ρ = [.own true d', s1, s2, s3, .sh (.list ys), s5, s6, s7, s8, s9, s10, s11, s12, s13, s14, s15, s16, .non] ∧ Dk (c + 2 * i) d' ∧ acc.length = i ∧ ∀ a ∈ acc, ArrOk ys.length a)
    (rngL 0 4) [.own true d, s1, s2, s3, .sh (.list ys), s5, s6, s7, s8, s9, s10, s11, s12, s13, s14, s15, s16, .non] ⟨d, rfl, h.mono (by omega), rfl, by simp⟩ (by
      rintro i x acc ρ hi ⟨d', rfl, hd, hl, ha⟩
      have hlt : i < 4 := by
        have := (List.getElem?_eq_some_iff.mp hi).1
        rwa [rngL_len] at this
      obtain ⟨r, d1, e1, e2, e3⟩ := pick_ok hd (by omega) (size := ys.length) ⟨by omega, by omega⟩
      obtain ⟨a, d2, f1, f2, f3⟩ := one_list e3 (by omega) (xs := [.none, .int r]) (by simp) (by simp)
      refine ⟨_, rfl, .inr ⟨_, a, [.own true d2, s1, s2, s3, .sh (.list ys), s5, s6, s7, s8, s9, s10, s11, s12, s13, s14, s15, s16, .sh x], rfl, ?_, d2, by simp [wipeR], f3.mono (by omega), by simp [hl], ?_⟩⟩
      · simp [run_eFnO', run_afterO', run_eV, e1, f1]
      · intro z hz
        rcases List.mem_append.mp hz with hz | hz
        · exact ha z hz
        · have := List.mem_singleton.mp hz
          subst this
          simp at f2
          rcases f2 with rfl | rfl
          · exact .inl rfl
          · exact .inr ⟨r, rfl, e2⟩)
  rw [rngL_len] at hd hl
  match as, hl with
  | [a0, a1, a2, a3], _ =>
    refine ⟨a0, a1, a2, a3, d', ?_, ha _ (by simp), ha _ (by simp), ha _ (by simp), ha _ (by simp), hd.mono (by omega)⟩
    rw [run_eLc]
    simp [wipeR, unwipeR, e]
def PageOf (n : Nat) (y p : PyData) : Prop := ∃ (l t w h : Int) (a0 a1 a2 a3 : PyData), y = .tuple [.int l, .int t, .int w, .int h] ∧ p = .tuple [.int l, .int t, .int w, .int h, .tuple [a0, a1, a2, a3]] ∧ ArrOk n a0 ∧ ArrOk n a1 ∧ ArrOk n a2 ∧ ArrOk n a3
theorem pages_loop (h : Dk c d) (hc : c < 700000) (hy : 1 ≤ ys.length ∧ ys.length ≤ 6) (hq : ∀ y ∈ ys, ∃ l t w h : Int, y = .tuple [.int l, .int t, .int w, .int h]) :
    ∃ (ps d' : List PyData) (s5' s13' : Slot), forL (bName 5) (sSeq (sSet 13 (eCall pTuple (eCons (eLst (eLc (iRng1 (eC (.int 4))) (bName 17) eYes (eFnO 0 F__law_one (eCons (eLst (eCons (eC .none) (eCons (eFnO 0 F__law_pick (eCons (eCall pLen (eCons (eV 4) eNil)) eNil)) eNil))) eNil)) [17])) eNil))) (sSet 12 (eBin pAdd (eV 12) (eTup (eCons (eBin pAdd (eV 5) (eTup (eCons (eV 13) eNil))) eNil)))))
      ys [.own true d, s1, s2, s3, .sh (.list ys), s5, s6, s7, s8, s9, s10, s11, .sh (.tuple []), s13, s14, s15, s16, .non]
      = .ok .nx [.own true d', s1, s2, s3, .sh (.list ys), s5', s6, s7, s8, s9, s10, s11, .sh (.tuple ps), s13', s14, s15, s16, .non] ∧ ps.length = ys.length ∧ (∀ (k : Nat) (p : PyData), ps[k]? = some p → ∃ y, ys[k]? = some y ∧ PageOf ys.length y p) ∧ Dk (c + 48) d' := by
  obtain ⟨ρ', e, ps, d', s5', s13', rfl, hd, hl, hp⟩ := forL_all (b := bName 5) (body := sSeq (sSet 13 (eCall pTuple (eCons (eLst (eLc (iRng1 (eC (.int 4))) (bName 17) eYes (eFnO 0 F__law_one (eCons (eLst (eCons (eC .none) (eCons (eFnO 0 F__law_pick (eCons (eCall pLen (eCons (eV 4) eNil)) eNil)) eNil))) eNil)) [17])) eNil))) (sSet 12 (eBin pAdd (eV 12) (eTup (eCons (eBin pAdd (eV 5) (eTup (eCons (eV 13) eNil))) eNil)))))
    (fun i ρ => ∃ (ps d' : List PyData) (s5' s13' : Slot), ρ = [.own true d', s1, s2, s3, .sh (.list ys), s5', s6, s7, s8, s9, s10, s11, .sh (.tuple ps), s13', s14, s15, s16, .non] ∧ Dk (c + 8 * i) d' ∧ ps.length = i ∧ ∀ (k : Nat) (p : PyData), ps[k]? = some p → ∃ y, ys[k]? = some y ∧ PageOf ys.length y p)
    ys [.own true d, s1, s2, s3, .sh (.list ys), s5, s6, s7, s8, s9, s10, s11, .sh (.tuple []), s13, s14, s15, s16, .non] ⟨[], d, s5, s13, rfl, h.mono (by omega), rfl, by simp⟩ (by
      rintro i x ρ hi ⟨ps, d', s5', s13', rfl, hd, hl, hp⟩
      have hlt := (List.getElem?_eq_some_iff.mp hi).1
      obtain ⟨l, t, w, v, rfl⟩ := hq x (List.mem_of_getElem? hi)
      obtain ⟨a0, a1, a2, a3, d2, f1, g0, g1, g2, g3, f3⟩ := arrows_ok (s1 := s1) (s2 := s2) (s3 := s3) (s5 := .sh (.tuple [.int l, .int t, .int w, .int v])) (s6 := s6) (s7 := s7) (s8 := s8) (s9 := s9) (s10 := s10) (s11 := s11) (s12 := .sh (.tuple ps)) (s13 := s13') (s14 := s14) (s15 := s15) (s16 := s16) hd (by omega) (ys := ys) (by omega)
      have hz : ps.length + 1 ≤ 1000000 := by omega
      have o1 := op_catt (xs := [.int l, .int t, .int w, .int v]) (ys := [.tuple [a0, a1, a2, a3]]) (by simp)
      have o2 := op_catt (xs := ps) (ys := [.tuple ([.int l, .int t, .int w, .int v] ++ [.tuple [a0, a1, a2, a3]])]) (by simpa using hz)
      refine ⟨_, [.own true d2, s1, s2, s3, .sh (.list ys), .sh (.tuple [.int l, .int t, .int w, .int v]), s6, s7, s8, s9, s10, s11, .sh (.tuple (ps ++ [.tuple [.int l, .int t, .int w, .int v, .tuple [a0, a1, a2, a3]]])), .sh (.tuple [a0, a1, a2, a3]), s14, s15, s16, .non], rfl, ?_, ps ++ [.tuple [.int l, .int t, .int w, .int v, .tuple [a0, a1, a2, a3]]], d2, _, _, rfl, f3.mono (by omega), by simp [hl], ?_⟩
      · simp at o1 o2
        simp [run_eV, f1, o1, o2]
      · intro k p hk
        by_cases hki : k < ps.length
        · rw [List.getElem?_append_left hki] at hk
          exact hp k p hk
        · rw [List.getElem?_append_right (by omega)] at hk
          have hk0 : k - ps.length = 0 := by
            have := (List.getElem?_eq_some_iff.mp hk).1
            simpa using this
          rw [hk0] at hk
          have hk1 : k = i := by omega
          subst hk1
          have hk2 := Option.some.inj hk
          subst hk2
          exact ⟨_, hi, l, t, w, v, a0, a1, a2, a3, rfl, rfl, g0, g1, g2, g3⟩)
  exact ⟨ps, d', s5', s13', e, hl, hp, hd.mono (by omega)⟩
end
end Atl

set_option Elab.async false
set_option linter.all false
set_option maxRecDepth 100000
set_option maxHeartbeats 4000000
namespace Atl
open PySem Dl
open L2 (atI ixN)
section
variable {s1 s2 s3 s5 s8 s9 s10 s11 s15 s16 : Slot} {c : Int} {d : List PyData} {W H : Int} {bs : List (Int × Int)} {sp : List PyData}
/-- the spots by rows alone -/
theorem rows_ok (hb : bs.length ≤ 100) : eLc (iSeq (eV 9)) (bTup (bCons (bName 15) (bCons (bName 16) bNil))) eYes (eTup (eCons (eC (.int 0)) (eCons (eV 15) (eCons (eV 6) (eCons (eV 16) eNil))))) [15, 16]
    [.own true d, s1, s2, s3, .sh (.list sp), s5, .sh (.int W), .sh (.int H), s8, .sh (.list (bs.map encB)), s10, s11, .non, .non, .non, .non, .non, .non]
    = .ok (bs.map fun b => encS ⟨0, b.1, W, b.2⟩) [.own true d, s1, s2, s3, .sh (.list sp), s5, .sh (.int W), .sh (.int H), s8, .sh (.list (bs.map encB)), s10, s11, .non, .non, .non, .non, .non, .non] :=
  lc_map (ρ1 := [.own true d, s1, s2, s3, .sh (.list sp), s5, .sh (.int W), .sh (.int H), s8, .sh (.list (bs.map encB)), s10, s11, .non, .non, .non, .non, .non, .non]) bs encB _ (by simp [run_eV]) (by omega) (by simp [wipeR, unwipeR]) (fun x _ => by simp [StepM, wipeR, run_eV])
/-- pages at any place -/
theorem more_ok {extra : Int} (h : Dk c d) (hc : c < 700000) (hx : 0 ≤ extra ∧ extra ≤ 2) (hW : 1 ≤ W ∧ W ≤ 1000) (hH : 1 ≤ H ∧ H ≤ 1000) :
    ∃ (ms d' : List PyData), eLc (iRng1 (eFnO 0 F__law_pick (eCons (eBin pAdd (eV 3) (eC (.int 1))) eNil))) (bName 14) eYes (eFnO 0 F__law_any_page (eCons (eV 6) (eCons (eV 7) eNil))) [14]
    [.own true d, s1, s2, .sh (.int extra), .sh (.list sp), s5, .sh (.int W), .sh (.int H), s8, s9, s10, s11, .non, .non, .non, .non, .non, .non]
    = .ok ms [.own true d', s1, s2, .sh (.int extra), .sh (.list sp), s5, .sh (.int W), .sh (.int H), s8, s9, s10, s11, .non, .non, .non, .non, .non, .non] ∧ ms.length ≤ extra ∧ (∀ m ∈ ms, ∃ s : Spot, m = encS s ∧ SpotOk W H s) ∧ Dk (c + 9) d' := by
  obtain ⟨r, d1, e1, e2, e3⟩ := pick_ok h (by omega) (size := extra + 1) ⟨by omega, by omega⟩
  obtain ⟨ms, ρ', e, d', rfl, hd, hl, hm⟩ := lcL_all (b := bName 14) (ft := eYes) (fe := eFnO 0 F__law_any_page (eCons (eV 6) (eCons (eV 7) eNil))) (vs := [14])
    (fun i acc ρ => ∃ d', ρ = [.own true d', s1, s2, .sh (.int extra), .sh (.list sp), s5, .sh (.int W), .sh (.int H), s8, s9, s10, s11, .non, .non, .non, .non, .non, .non] ∧ Dk (c + 1 + 4 * i) d' ∧ acc.length = i ∧ ∀ m ∈ acc, ∃ s : Spot, m = encS s ∧ SpotOk W H s)
    (rngL 0 r.toNat) [.own true d1, s1, s2, .sh (.int extra), .sh (.list sp), s5, .sh (.int W), .sh (.int H), s8, s9, s10, s11, .non, .non, .non, .non, .non, .non] ⟨d1, rfl, e3.mono (by omega), rfl, by simp⟩ (by
      rintro i x acc ρ hi ⟨d', rfl, hd, hl, hm⟩
      have hlt : i < r.toNat := by
        have := (List.getElem?_eq_some_iff.mp hi).1
        rwa [rngL_len] at this
      obtain ⟨l, t, w, v, d2, f1, f2, f3⟩ := anyPage_ok hd (by omega) hW hH
      refine ⟨_, rfl, .inr ⟨_, .tuple [.int l, .int t, .int w, .int v], [.own true d2, s1, s2, .sh (.int extra), .sh (.list sp), s5, .sh (.int W), .sh (.int H), s8, s9, s10, s11, .non, .non, .sh x, .non, .non, .non], rfl, ?_, d2, by simp [wipeR], f3.mono (by omega), by rw [List.length_append, hl]; rfl, ?_⟩⟩
      · simp [run_eFnO', run_afterO', run_eV, f1]
      · intro z hz
        rcases List.mem_append.mp hz with hz | hz
        · exact hm z hz
        · have := List.mem_singleton.mp hz
          subst this
          exact ⟨⟨l, t, w, v⟩, rfl, f2.1, f2.2.1, f2.2.2.1, f2.2.2.2.1, f2.2.2.2.2.1, f2.2.2.2.2.2⟩)
  rw [rngL_len] at hd hl
  refine ⟨ms, d', ?_, by omega, hm, hd.mono (by omega)⟩
  have hz : -1000000 ≤ r ∧ r ≤ 1000000 := by omega
  have hz2 : ms.length ≤ 1000000 := by omega
  rw [run_eLc]
  simp [run_eFnO', run_afterO', run_eV, e1, hz, wipeR, unwipeR, e, hz2]
end
theorem hold_enc {s : Spot} {x y : Int} : hold (encS s) x y = decide (s.l ≤ x ∧ x < s.l + s.w ∧ s.t ≤ y ∧ y < s.t + s.h) := rfl
theorem drawn_ok {c : Int} {d : List PyData} {wide high extra : Int} (h : Dk c d) (hc : c < 500000) (hw : 1 ≤ wide ∧ wide ≤ 8) (hh : 1 ≤ high ∧ high ≤ 8) (hx : 0 ≤ extra ∧ extra ≤ 2) :
    ∃ (W H : Int) (ps d' : List PyData), F__law_drawn d [.int wide, .int high, .int extra] = .ok (encA W H ps, d') [] ∧ AtlasOk W H ps ∧ W ≤ wide ∧ H ≤ high ∧ Dk (c + 200) d' := by
  obtain ⟨w0, d1, a1, a2, a3⟩ := pick_ok h (by omega) (size := wide) ⟨by omega, by omega⟩
  obtain ⟨h0, d2, b1, b2, b3⟩ := pick_ok a3 (by omega) (size := high) ⟨by omega, by omega⟩
  generalize hW : 1 + w0 = W
  generalize hH : 1 + h0 = H
  obtain ⟨as, d3, c1, c2, c3⟩ := bands_ok b3 (by omega) (size := W) (many := 3) ⟨by omega, by omega⟩ (by omega)
  obtain ⟨bs, d4, g1, g2, g3⟩ := bands_ok c3 (by omega) (size := H) (many := 2) ⟨by omega, by omega⟩ (by omega)
  have hal := c2.len
  have hbl := g2.len
  obtain ⟨s10, s11, f1⟩ := spots_loop (wide := .sh (.int wide)) (high := .sh (.int high)) (extra := .sh (.int extra)) (W := W) (H := H) (d := d4) hal hbl
  have hcut : cutD (as.map encB) none (some 3) = as.map encB := by
    rw [show (3 : Int) = ((3 : Nat) : Int) from rfl, cut_take, List.take_of_length_le (by simpa using hal)]
  -- the spots
  obtain ⟨S, hS, hSl, hSo, hSc⟩ : ∃ S : List Spot, S = (if (4 : Int) < (spotsL as bs).length then bs.map (fun b => (⟨0, b.1, W, b.2⟩ : Spot)) else spotsL as bs) ∧ S.length ≤ 4 ∧ (∀ s ∈ S, SpotOk W H s) ∧ ∀ x y : Int, 0 ≤ x → x < W → 0 ≤ y → y < H → ∃ s ∈ S, hold (encS s) x y = true := by
    refine ⟨_, rfl, ?_, ?_, ?_⟩
    · split
      · rw [List.length_map]; omega
      · omega
    · split
      · intro s hs
        obtain ⟨b, hb, rfl⟩ := List.mem_map.mp hs
        have := g2.ok b hb
        exact ⟨by simp, by simp only; omega, by simp only; omega, by simp only; omega, by simp only; omega, by simp only; omega⟩
      · intro s hs
        obtain ⟨a, ha, hs⟩ := List.mem_flatMap.mp hs
        obtain ⟨b, hb, rfl⟩ := List.mem_map.mp hs
        have q1 := c2.ok a ha
        have q2 := g2.ok b hb
        exact ⟨by simp only; omega, by simp only; omega, by simp only; omega, by simp only; omega, by simp only; omega, by simp only; omega⟩
    · intro x y x0 x1 y0 y1
      obtain ⟨b, hb, hb1, hb2⟩ := g2.cov y y0 y1
      split
      · refine ⟨_, List.mem_map.mpr ⟨b, hb, rfl⟩, ?_⟩
        rw [hold_enc]
        simp only [decide_eq_true_eq]
        omega
      · obtain ⟨a, ha, ha1, ha2⟩ := c2.cov x x0 x1
        refine ⟨_, List.mem_flatMap.mpr ⟨a, ha, List.mem_map.mpr ⟨b, hb, rfl⟩⟩, ?_⟩
        rw [hold_enc]
        simp only [decide_eq_true_eq]
        omega
  obtain ⟨ms, d5, k1, k2, k3, k4⟩ := more_ok (s1 := .sh (.int wide)) (s2 := .sh (.int high)) (s5 := .non) (s8 := .sh (.list (as.map encB))) (s9 := .sh (.list (bs.map encB))) (s10 := s10) (s11 := s11) (sp := S.map encS) (W := W) (H := H) g3 (by omega) hx (by omega) (by omega)
  have hlen : (S.map encS ++ ms).length = S.length + ms.length := by rw [List.length_append, List.length_map]
  obtain ⟨ys, d6, m1, m2, m3⟩ := mixed_ok k4 (by omega) (xs := S.map encS ++ ms) (by omega)
  have hS1 : 1 ≤ S.length := by
    obtain ⟨s, hs, _⟩ := hSc 0 0 (by omega) (by omega) (by omega) (by omega)
    exact List.length_pos_iff.mpr (List.ne_nil_of_mem hs)
  have hyl : ys.length = S.length + ms.length := m2.length_eq.trans hlen
  have hyo : ∀ y ∈ ys, ∃ s : Spot, y = encS s ∧ SpotOk W H s := fun y hy => by
    rcases List.mem_append.mp (m2.mem_iff.mp hy) with q | q
    · obtain ⟨s, hs, rfl⟩ := List.mem_map.mp q
      exact ⟨s, rfl, hSo s hs⟩
    · exact k3 y q
  obtain ⟨ps, d7, s5', s13', n1, n2, n3, n4⟩ := pages_loop (s1 := .sh (.int wide)) (s2 := .sh (.int high)) (s3 := .sh (.int extra)) (s5 := .non) (s6 := .sh (.int W)) (s7 := .sh (.int H)) (s8 := .sh (.list (as.map encB))) (s9 := .sh (.list (bs.map encB))) (s10 := s10) (s11 := s11) (s13 := .non) (s14 := .non) (s15 := .non) (s16 := .non) m3 (by omega) (ys := ys) (by omega) (fun y hy => by
    obtain ⟨s, rfl, _⟩ := hyo y hy
    exact ⟨s.l, s.t, s.w, s.h, rfl⟩)
  refine ⟨W, H, ps, d7, ?_, ⟨by omega, by omega, by omega, by omega, by omega, by omega, fun p hp => ?_, fun x y x0 x1 y0 y1 => ?_⟩, by omega, by omega, n4.mono (by omega)⟩
  · have hz : S.length + ms.length ≤ 1000000 := by omega
    have hr := fun s8 => rows_ok (s1 := .sh (.int wide)) (s2 := .sh (.int high)) (s3 := .sh (.int extra)) (s5 := .non) (s8 := s8) (s10 := s10) (s11 := s11) (d := d4) (W := W) (H := H) (bs := bs) (sp := (spotsL as bs).map encS) (by omega)
    have l3 : ((3 : Nat) : Int) = 3 := rfl
    have l2 : ((2 : Nat) : Int) = 2 := rfl
    rw [l3] at c1
    rw [l2] at g1
    have st5 : sIf (eT (eBin pGt (eCall pLen (eCons (eV 4) eNil)) (eC (.int 4)))) (sSet 4 (eLst (eLc (iSeq (eV 9)) (bTup (bCons (bName 15) (bCons (bName 16) bNil))) eYes (eTup (eCons (eC (.int 0)) (eCons (eV 15) (eCons (eV 6) (eCons (eV 16) eNil))))) [15, 16]))) sNil [.own true d4, .sh (.int wide), .sh (.int high), .sh (.int extra), .sh (.list ((spotsL as bs).map encS)), .non, .sh (.int W), .sh (.int H), .sh (.list (as.map encB)), .sh (.list (bs.map encB)), s10, s11, .non, .non, .non, .non, .non, .non]
        = .ok .nx [.own true d4, .sh (.int wide), .sh (.int high), .sh (.int extra), .sh (.list (S.map encS)), .non, .sh (.int W), .sh (.int H), .sh (.list (as.map encB)), .sh (.list (bs.map encB)), s10, s11, .non, .non, .non, .non, .non, .non] := by
      rw [hS]
      by_cases h4 : (4 : Int) < (spotsL as bs).length
      · rw [if_pos h4, run_sIf]
        have e4 : eT (eBin pGt (eCall pLen (eCons (eV 4) eNil)) (eC (.int 4))) [.own true d4, .sh (.int wide), .sh (.int high), .sh (.int extra), .sh (.list ((spotsL as bs).map encS)), .non, .sh (.int W), .sh (.int H), .sh (.list (as.map encB)), .sh (.list (bs.map encB)), s10, s11, .non, .non, .non, .non, .non, .non] = .ok true [.own true d4, .sh (.int wide), .sh (.int high), .sh (.int extra), .sh (.list ((spotsL as bs).map encS)), .non, .sh (.int W), .sh (.int H), .sh (.list (as.map encB)), .sh (.list (bs.map encB)), s10, s11, .non, .non, .non, .non, .non, .non] := by
          simp [run_eV, h4]
        rw [e4, run_ok, if_pos rfl, run_sSet, run_eLst, hr, run_ok, run_ok, List.map_map]
        rfl
      · rw [if_neg h4, run_sIf]
        simp [run_eV, h4]
    have st6 : sSet 4 (eBin pAdd (eV 4) (eLst (eLc (iRng1 (eFnO 0 F__law_pick (eCons (eBin pAdd (eV 3) (eC (.int 1))) eNil))) (bName 14) eYes (eFnO 0 F__law_any_page (eCons (eV 6) (eCons (eV 7) eNil))) [14]))) [.own true d4, .sh (.int wide), .sh (.int high), .sh (.int extra), .sh (.list (S.map encS)), .non, .sh (.int W), .sh (.int H), .sh (.list (as.map encB)), .sh (.list (bs.map encB)), s10, s11, .non, .non, .non, .non, .non, .non]
        = .ok .nx [.own true d5, .sh (.int wide), .sh (.int high), .sh (.int extra), .sh (.list (S.map encS ++ ms)), .non, .sh (.int W), .sh (.int H), .sh (.list (as.map encB)), .sh (.list (bs.map encB)), s10, s11, .non, .non, .non, .non, .non, .non] := by
      rw [run_sSet, run_eBin, run_eV_sh (d := .list (S.map encS)) rfl, run_ok, run_eLst, k1, run_ok, run_ok, op_catl (by rw [List.length_map]; exact hz)]
      rfl
    have st7 : sAsg (eTup (eCons (eFnO 0 F__law_mixed (eCons (eV 4) eNil)) (eCons (eTup eNil) eNil))) (bTup (bCons (bName 4) (bCons (bName 12) bNil))) [.own true d5, .sh (.int wide), .sh (.int high), .sh (.int extra), .sh (.list (S.map encS ++ ms)), .non, .sh (.int W), .sh (.int H), .sh (.list (as.map encB)), .sh (.list (bs.map encB)), s10, s11, .non, .non, .non, .non, .non, .non]
        = .ok .nx [.own true d6, .sh (.int wide), .sh (.int high), .sh (.int extra), .sh (.list ys), .non, .sh (.int W), .sh (.int H), .sh (.list (as.map encB)), .sh (.list (bs.map encB)), s10, s11, .sh (.tuple []), .non, .non, .non, .non, .non] := by
      generalize S.map encS ++ ms = L at m1
      simp [run_eFnO', run_afterO', run_eV, m1]
    have st8 : ∀ g, sSeq (sFor (iSeq (eV 4)) (bName 5) (sSeq (sSet 13 (eCall pTuple (eCons (eLst (eLc (iRng1 (eC (.int 4))) (bName 17) eYes (eFnO 0 F__law_one (eCons (eLst (eCons (eC .none) (eCons (eFnO 0 F__law_pick (eCons (eCall pLen (eCons (eV 4) eNil)) eNil)) eNil))) eNil)) [17])) eNil))) (sSet 12 (eBin pAdd (eV 12) (eTup (eCons (eBin pAdd (eV 5) (eTup (eCons (eV 13) eNil))) eNil)))))) g [.own true d6, .sh (.int wide), .sh (.int high), .sh (.int extra), .sh (.list ys), .non, .sh (.int W), .sh (.int H), .sh (.list (as.map encB)), .sh (.list (bs.map encB)), s10, s11, .sh (.tuple []), .non, .non, .non, .non, .non] = g [.own true d7, .sh (.int wide), .sh (.int high), .sh (.int extra), .sh (.list ys), s5', .sh (.int W), .sh (.int H), .sh (.list (as.map encB)), .sh (.list (bs.map encB)), s10, s11, .sh (.tuple ps), s13', .non, .non, .non, .non] := fun g => by
      refine seq_nx ?_
      rw [run_sFor, run_iSeq, run_eV_sh (d := .list ys) rfl, run_ok, items_l, run_some, run_ok, n1]
    have st1 : sAsg (eTup (eCons (eBin pAdd (eC (.int 1)) (eFnO 0 F__law_pick (eCons (eV 1) eNil))) (eCons (eBin pAdd (eC (.int 1)) (eFnO 0 F__law_pick (eCons (eV 2) eNil))) eNil))) (bTup (bCons (bName 6) (bCons (bName 7) bNil))) [.own true d, .sh (.int wide), .sh (.int high), .sh (.int extra), .non, .non, .non, .non, .non, .non, .non, .non, .non, .non, .non, .non, .non, .non] = .ok .nx [.own true d2, .sh (.int wide), .sh (.int high), .sh (.int extra), .non, .non, .sh (.int W), .sh (.int H), .non, .non, .non, .non, .non, .non, .non, .non, .non, .non] := by
      simp [run_eFnO', run_afterO', run_eV, a1, b1, hW, hH]
    have st2 : sPar [8, 9] (mSh (eFnO 0 F__law_bands (eCons (eV 6) (eCons (eC (.int 3)) eNil))) (mSh (eFnO 0 F__law_bands (eCons (eV 7) (eCons (eC (.int 2)) eNil))) mNil)) [.own true d2, .sh (.int wide), .sh (.int high), .sh (.int extra), .non, .non, .sh (.int W), .sh (.int H), .non, .non, .non, .non, .non, .non, .non, .non, .non, .non] = .ok .nx [.own true d4, .sh (.int wide), .sh (.int high), .sh (.int extra), .non, .non, .sh (.int W), .sh (.int H), .sh (.list (as.map encB)), .sh (.list (bs.map encB)), .non, .non, .non, .non, .non, .non, .non, .non] := by
      simp [run_eFnO', run_afterO', run_eV, c1, g1]
    have st4 : ∀ g, sSeq (sFor (iSeq (eSl (eV 8) eNoP (eP (eC (.int 3))))) (bTup (bCons (bName 10) (bCons (bName 11) bNil))) (sSet 4 (eBin pAdd (eV 4) (eLst (eLc (iSeq (eSl (eV 9) eNoP (eP (eC (.int 2))))) (bTup (bCons (bName 15) (bCons (bName 16) bNil))) eYes (eTup (eCons (eV 10) (eCons (eV 15) (eCons (eV 11) (eCons (eV 16) eNil))))) [15, 16]))))) g [.own true d4, .sh (.int wide), .sh (.int high), .sh (.int extra), .sh (.list []), .non, .sh (.int W), .sh (.int H), .sh (.list (as.map encB)), .sh (.list (bs.map encB)), .non, .non, .non, .non, .non, .non, .non, .non] = g [.own true d4, .sh (.int wide), .sh (.int high), .sh (.int extra), .sh (.list ((spotsL as bs).map encS)), .non, .sh (.int W), .sh (.int H), .sh (.list (as.map encB)), .sh (.list (bs.map encB)), s10, s11, .non, .non, .non, .non, .non, .non] := fun g => by
      refine seq_nx ?_
      have sl : eSl (eV 8) eNoP (eP (eC (.int 3))) [.own true d4, .sh (.int wide), .sh (.int high), .sh (.int extra), .sh (.list []), .non, .sh (.int W), .sh (.int H), .sh (.list (as.map encB)), .sh (.list (bs.map encB)), .non, .non, .non, .non, .non, .non, .non, .non] = .ok (.list (as.map encB)) [.own true d4, .sh (.int wide), .sh (.int high), .sh (.int extra), .sh (.list []), .non, .sh (.int W), .sh (.int H), .sh (.list (as.map encB)), .sh (.list (bs.map encB)), .non, .non, .non, .non, .non, .non, .non, .non] := by
        simp [run_eV, pSl, hcut]
      rw [run_sFor, run_iSeq, sl, run_ok, items_l, run_some, run_ok, f1]
    have st3 : sSet 4 (eLst eNil) [.own true d4, .sh (.int wide), .sh (.int high), .sh (.int extra), .non, .non, .sh (.int W), .sh (.int H), .sh (.list (as.map encB)), .sh (.list (bs.map encB)), .non, .non, .non, .non, .non, .non, .non, .non] = .ok .nx [.own true d4, .sh (.int wide), .sh (.int high), .sh (.int extra), .sh (.list []), .non, .sh (.int W), .sh (.int H), .sh (.list (as.map encB)), .sh (.list (bs.map encB)), .non, .non, .non, .non, .non, .non, .non, .non] := rfl
    show (match B__law_drawn [.own true d, .sh (.int wide), .sh (.int high), .sh (.int extra), .non, .non, .non, .non, .non, .non, .non, .non, .non, .non, .non, .non, .non, .non] with
      | .ok (.rt d) ρ => outB d ρ
      | .ok .nx ρ => outB .none ρ
      | _ => .bad) = _
    rw [show B__law_drawn [.own true d, .sh (.int wide), .sh (.int high), .sh (.int extra), .non, .non, .non, .non, .non, .non, .non, .non, .non, .non, .non, .non, .non, .non] = .ok (.rt (encA W H ps)) [.own true d7, .sh (.int wide), .sh (.int high), .sh (.int extra), .sh (.list ys), s5', .sh (.int W), .sh (.int H), .sh (.list (as.map encB)), .sh (.list (bs.map encB)), s10, s11, .sh (.tuple ps), s13', .non, .non, .non, .non] by
      unfold B__law_drawn
      rw [seq_nx st1, seq_nx st2, seq_nx st3, st4, seq_nx st5, seq_nx st6, seq_nx st7, st8]
      rfl]
    rfl
  · obtain ⟨k, hk⟩ := List.mem_iff_getElem?.mp hp
    obtain ⟨y, hy, l, t, w, v, a0, a1', a2', a3', rfl, rfl, o0, o1, o2, o3⟩ := n3 k p hk
    obtain ⟨s, e, so⟩ := hyo _ (List.mem_of_getElem? hy)
    simp at e
    obtain ⟨rfl, rfl, rfl, rfl⟩ := e
    rw [n2]
    exact ⟨s, a0, a1', a2', a3', rfl, so, o0, o1, o2, o3⟩
  · obtain ⟨s, hs, hs2⟩ := hSc x y x0 x1 y0 y1
    have hm : encS s ∈ ys := m2.mem_iff.mpr (List.mem_append_left _ (List.mem_map_of_mem hs))
    obtain ⟨k, hk⟩ := List.mem_iff_getElem?.mp hm
    have hkl : k < ps.length := by
      have := (List.getElem?_eq_some_iff.mp hk).1
      omega
    obtain ⟨y', hy', l, t, w, v, a0, a1', a2', a3', e1, e2, _⟩ := n3 k ps[k] (List.getElem?_eq_getElem hkl)
    rw [hk] at hy'
    cases hy'
    simp at e1
    obtain ⟨rfl, rfl, rfl, rfl⟩ := e1
    refine ⟨ps[k], List.getElem_mem hkl, ?_⟩
    rw [e2]
    exact hs2
end Atl

set_option Elab.async false
set_option linter.all false
set_option maxRecDepth 100000
set_option maxHeartbeats 4000000
namespace Atl
open PySem Dl
open L2 (atI ixN)
abbrev encI (i : Nat) : PyData := .int (i : Int)
abbrev encC (c : Nat × Nat) : PyData := .tuple [.int (c.1 : Int), .int (c.2 : Int)]
/-- all cells, row by row -/
def cellsL (W H : Int) : List (Nat × Nat) := (List.range H.toNat).flatMap fun y => (List.range W.toNat).map fun x => (x, y)
theorem mem_cells {W H : Int} {c : Nat × Nat} : c ∈ cellsL W H ↔ (c.1 : Int) < W ∧ (c.2 : Int) < H := by
  unfold cellsL
  rw [List.mem_flatMap]
  constructor
  · rintro ⟨y, hy, h⟩
    obtain ⟨x, hx, rfl⟩ := List.mem_map.mp h
    have := List.mem_range.mp hy
    have := List.mem_range.mp hx
    simp only
    omega
  · rintro ⟨h1, h2⟩
    exact ⟨c.2, List.mem_range.mpr (by omega), List.mem_map.mpr ⟨c.1, List.mem_range.mpr (by omega), rfl⟩⟩
theorem cells_len {W H : Int} : (cellsL W H).length = H.toNat * W.toNat := by
  unfold cellsL
  generalize H.toNat = h
  induction h with
  | zero => simp
  | succ h ih => rw [List.range_succ, List.flatMap_append, List.length_append, ih, List.flatMap_cons, List.flatMap_nil, List.append_nil, List.length_map, List.length_range, Nat.add_mul, Nat.one_mul]
section
variable {W H : Int} {ps : List PyData} {x y : Int} {n : Nat} {p : PyData}
theorem within_int (i lo hi : Int) : F_is_within [.int i, .int lo, .int hi] = .ok (.bool (decide (lo ≤ i ∧ i ≤ hi))) [] := by
  simp [F_is_within, fnP, B_is_within, run_eV, PyData.isInt, PyData.isBool]
  by_cases h : lo ≤ i <;> by_cases h2 : i ≤ hi <;> simp [h, h2]
theorem holds_ok (hp : PageOk W H n p) : F_holds [p, .tuple [.int x, .int y]] = .ok (.bool (hold p x y)) [] := by
  obtain ⟨s, a0, a1, a2, a3, rfl, hs, _⟩ := hp
  simp only [hold]
  by_cases h1 : s.l ≤ x <;> by_cases h2 : x < s.l + s.w <;> by_cases h3 : s.t ≤ y <;> by_cases h4 : y < s.t + s.h <;> simp [F_holds, fnP, B_holds, run_eV, h1, h2, h3, h4]
theorem lawHolds_ok (hp : PageOk W H n p) : F__law_holds [p, .tuple [.int x, .int y]] = .ok (.bool (hold p x y)) [] := by
  obtain ⟨s, a0, a1, a2, a3, rfl, hs, _⟩ := hp
  simp only [hold]
  by_cases h1 : s.l ≤ x <;> by_cases h2 : x < s.l + s.w <;> by_cases h3 : s.t ≤ y <;> by_cases h4 : y < s.t + s.h <;> simp [F__law_holds, fnP, B__law_holds, run_eV, h1, h2, h3, h4]
theorem rng_small {k : Int} (h0 : 0 ≤ k) (h1 : k ≤ 1000) : -1000000 ≤ k ∧ k ≤ 1000000 := by omega
theorem cellsOf_any (h1 : 1 ≤ W) (h2 : W ≤ 8) (h3 : 1 ≤ H) (h4 : H ≤ 8) : F_cells_of [encA W H ps] = .ok (.list ((cellsL W H).map encC)) [] := by
  have r1 := rng_small (k := H) (by omega) (by omega)
  have r2 := rng_small (k := W) (by omega) (by omega)
  have e := lc2_map (fi := iRng1 (eBin pIx (eV 0) (eC (.int 1)))) (b := bName 1) (fi1 := iRng1 (eBin pIx (eV 0) (eC (.int 0)))) (b1 := bName 2) (fe := eTup (eCons (eV 2) (eCons (eV 1) eNil))) (vs := [1, 2]) (vs1 := [2])
    (ρ := [.sh (encA W H ps), .non, .non]) (ρ1 := [.sh (encA W H ps), .non, .non]) (List.range H.toNat) encI encI (fun _ => List.range W.toNat) (fun y x => encC (x, y))
    (by simp [run_eV, r1, rngL_map]) (by
      have e0 : (List.range H.toNat).flatMap (fun y => (List.range W.toNat).map fun x => encC (x, y)) = (cellsL W H).map encC := by
        unfold cellsL
        rw [List.map_flatMap]
        simp only [List.map_map]
        rfl
      rw [e0, List.length_map, cells_len]
      exact Nat.le_trans (Nat.mul_le_mul (show H.toNat ≤ 8 by omega) (show W.toNat ≤ 8 by omega)) (by decide)) (by simp [wipeR, unwipeR])
    (fun y _ => by simp [Step2, StepF, wipeR, run_eV, r2, rngL_map])
  have e0 : (List.range H.toNat).flatMap (fun y => (List.range W.toNat).map fun x => encC (x, y)) = (cellsL W H).map encC := by
    unfold cellsL
    rw [List.map_flatMap]
    simp only [List.map_map]
    rfl
  rw [e0] at e
  simp [F_cells_of, fnP, B_cells_of, e]
theorem cellsOf_ok (h : AtlasOk W H ps) : F_cells_of [encA W H ps] = .ok (.list ((cellsL W H).map encC)) [] := cellsOf_any h.w1 h.w8 h.h1 h.h8
/-- the numbers of the pages that hold a cell -/
def heldL (ps : List PyData) (x y : Int) : List Nat := (List.range ps.length).filter fun k => hold (ps.getD k .none) x y
theorem mem_held {k : Nat} : k ∈ heldL ps x y ↔ k < ps.length ∧ hold (ps.getD k .none) x y = true := by
  unfold heldL
  rw [List.mem_filter, List.mem_range]
theorem enumD_eq (ps : List PyData) : enumD ps = (List.range ps.length).map fun k => .tuple [.int (k : Int), ps.getD k .none] := by
  refine List.ext_getElem? fun i => ?_
  unfold enumD
  rw [List.getElem?_mapIdx, List.getElem?_map]
  by_cases h : i < ps.length
  · rw [List.getElem?_range h, List.getElem?_eq_getElem h]
    simp [h]
  · rw [List.getElem?_eq_none (by omega), List.getElem?_eq_none (by simpa using h)]
    rfl
theorem pg_at (hp : ∀ p ∈ ps, PageOk W H n p) {k : Nat} (hk : k < ps.length) : PageOk W H n (ps.getD k .none) := by
  rw [List.getD_eq_getElem?_getD, List.getElem?_eq_getElem hk]
  exact hp _ (List.getElem_mem hk)
theorem pagesOf_ok (hp : ∀ p ∈ ps, PageOk W H n p) (hl : ps.length ≤ 1000) : F_pages_of [encA W H ps, .tuple [.int x, .int y]] = .ok (.list ((heldL ps x y).map encI)) [] := by
  have e := lc_filter (fi := iEnu (eBin pIx (eV 0) (eC (.int 2)))) (b := bTup (bCons (bName 2) (bCons (bName 3) bNil))) (ft := eT (eFn F_holds (eCons (eV 3) (eCons (eV 1) eNil)))) (fe := eV 2) (vs := [2, 3])
    (ρ := [.sh (encA W H ps), .sh (.tuple [.int x, .int y]), .non, .non]) (ρ1 := [.sh (encA W H ps), .sh (.tuple [.int x, .int y]), .non, .non]) (List.range ps.length) (fun k => .tuple [.int (k : Int), ps.getD k .none]) (fun k => hold (ps.getD k .none) x y) encI
    (by simp [run_eV, enumD_eq]) (by rw [List.length_range]; omega) (by simp [wipeR, unwipeR])
    (fun k hk => by
      have e1 := holds_ok (x := x) (y := y) (pg_at hp (List.mem_range.mp hk))
      simp [StepF, wipeR, run_eV, e1, -List.getD_eq_getElem?_getD])
  simp [F_pages_of, fnP, B_pages_of, e]
  rfl
theorem lawHeldBy_ok (hp : ∀ p ∈ ps, PageOk W H n p) (hl : ps.length ≤ 1000) : F__law_held_by [encA W H ps, .tuple [.int x, .int y]] = .ok (.list ((heldL ps x y).map encI)) [] := by
  have r1 := rng_small (k := ps.length) (by omega) (by omega)
  have e := lc_filter (fi := iRng1 (eCall pLen (eCons (eBin pIx (eV 0) (eC (.int 2))) eNil))) (b := bName 2) (ft := eT (eFn F__law_holds (eCons (eBin pIx (eBin pIx (eV 0) (eC (.int 2))) (eV 2)) (eCons (eV 1) eNil)))) (fe := eV 2) (vs := [2])
    (ρ := [.sh (encA W H ps), .sh (.tuple [.int x, .int y]), .non]) (ρ1 := [.sh (encA W H ps), .sh (.tuple [.int x, .int y]), .non]) (List.range ps.length) encI (fun k => hold (ps.getD k .none) x y) encI
    (by simp [run_eV, r1, rngL_map]) (by rw [List.length_range]; omega) (by simp [wipeR, unwipeR])
    (fun k hk => by
      have hk' := List.mem_range.mp hk
      have e1 := lawHolds_ok (x := x) (y := y) (pg_at hp hk')
      have e2 : atI ps (k : Int) = some (ps.getD k .none) := by rw [atI_nat, List.getElem?_eq_getElem hk', List.getD_eq_getElem?_getD, List.getElem?_eq_getElem hk']; rfl
      simp [StepF, wipeR, run_eV, e1, e2, -List.getD_eq_getElem?_getD])
  simp [F__law_held_by, fnP, B__law_held_by, e]
  rfl
end
end Atl

set_option Elab.async false
set_option linter.all false
set_option maxRecDepth 100000
set_option maxHeartbeats 4000000
namespace Atl
open PySem Dl
open L2 (atI ixN)
@[simp] theorem isTuple_t (xs : List PyData) : PyData.isTuple (.tuple xs) = true := rfl
@[simp] theorem isBool_i (i : Int) : PyData.isBool (.int i) = false := rfl
section
variable {W H : Int} {ps : List PyData} {x y : Int} {n : Nat} {p : PyData}
theorem arr_within {a : PyData} (h : ArrOk n a) (s1 s2 s3 s4 s5 s6 s7 s8 s0 : Slot) : eOrV (eBin pIs (eV 9) (eC .none)) (eFn F_is_within (eCons (eV 9) (eCons (eC (.int 0)) (eCons (eBin pSub (eV 3) (eC (.int 1))) eNil)))) [s0, s1, s2, .sh (.int n), s4, s5, s6, s7, s8, .sh a] = .ok (.bool true) [s0, s1, s2, .sh (.int n), s4, s5, s6, s7, s8, .sh a] := by
  rcases h with rfl | ⟨k, rfl, h0, h1⟩
  · simp [run_eV]
  · simp [run_eV, within_int]
    omega
theorem isPage_ok (hp : PageOk W H n p) : F_is_page [p, .int W, .int H, .int n] = .ok (.bool true) [] := by
  obtain ⟨s, a0, a1, a2, a3, rfl, hs, h0, h1, h2, h3⟩ := hp
  obtain ⟨hl, ht, hw, hh, hr, hb⟩ := hs
  have e := lc_map (fi := iSeq (eV 8)) (b := bName 9) (fe := eOrV (eBin pIs (eV 9) (eC .none)) (eFn F_is_within (eCons (eV 9) (eCons (eC (.int 0)) (eCons (eBin pSub (eV 3) (eC (.int 1))) eNil))))) (vs := [9])
    (ρ := [.sh (.tuple [.int s.l, .int s.t, .int s.w, .int s.h, .tuple [a0, a1, a2, a3]]), .sh (.int W), .sh (.int H), .sh (.int n), .sh (.int s.l), .sh (.int s.t), .sh (.int s.w), .sh (.int s.h), .sh (.tuple [a0, a1, a2, a3]), .non])
    (ρ1 := [.sh (.tuple [.int s.l, .int s.t, .int s.w, .int s.h, .tuple [a0, a1, a2, a3]]), .sh (.int W), .sh (.int H), .sh (.int n), .sh (.int s.l), .sh (.int s.t), .sh (.int s.w), .sh (.int s.h), .sh (.tuple [a0, a1, a2, a3]), .non])
    [a0, a1, a2, a3] id (fun _ => .bool true) (by simp [run_eV]) (by simp) (by simp [wipeR, unwipeR]) (fun a ha => by
      have ha' : ArrOk n a := by
        simp at ha
        rcases ha with rfl | rfl | rfl | rfl <;> assumption
      have e1 := arr_within ha' (.sh (.int W)) (.sh (.int H)) .non (.sh (.int s.l)) (.sh (.int s.t)) (.sh (.int s.w)) (.sh (.int s.h)) (.sh (.tuple [a0, a1, a2, a3])) (.sh (.tuple [.int s.l, .int s.t, .int s.w, .int s.h, .tuple [a0, a1, a2, a3]]))
      simp only [StepM, id, run_bName]
      simp [wipeR] at e1 ⊢
      simp [e1])
  have c1 : 0 ≤ s.l ∧ s.l ≤ W - 1 := by omega
  have c2 : 0 ≤ s.t ∧ s.t ≤ H - 1 := by omega
  have c3 : 1 ≤ s.w ∧ s.w ≤ W - s.l := by omega
  have c4 : 1 ≤ s.h ∧ s.h ≤ H - s.t := by omega
  have ha : pAll [.list [.bool true, .bool true, .bool true, .bool true]] = some (.bool true) := rfl
  simp at e
  simp [F_is_page, fnP, B_is_page, run_eV, within_int, c1, c2, c3, c4, e, ha]
theorem pAll_true {ι : Type} {xs : List ι} : pAll [.list (xs.map fun _ => .bool true)] = some (.bool true) := by
  have := all_bools (ds := xs.map fun _ => PyData.none) (f := fun _ => true)
  rw [List.map_map] at this
  rw [show (xs.map fun _ => PyData.bool true) = xs.map ((fun d => PyData.bool true) ∘ fun _ => PyData.none) from rfl, this]
  simp
theorem pAll_map {ι : Type} {xs : List ι} {f : ι → Bool} : pAll [.list (xs.map fun x => .bool (f x))] = some (.bool (xs.all f)) := by
  unfold pAll
  have e : boolsOf (xs.map fun x => PyData.bool (f x)) = some (xs.map f) := by
    rw [show (xs.map fun x => PyData.bool (f x)) = (xs.map f).map .bool by rw [List.map_map]; rfl]
    exact boolsOf_map _
  simp only [e, Option.map_some, List.all_map]
  rfl
theorem pAny_map {ι : Type} {xs : List ι} {f : ι → Bool} : pAny [.list (xs.map fun x => .bool (f x))] = some (.bool (xs.any f)) := by
  unfold pAny
  have e : boolsOf (xs.map fun x => PyData.bool (f x)) = some (xs.map f) := by
    rw [show (xs.map fun x => PyData.bool (f x)) = (xs.map f).map .bool by rw [List.map_map]; rfl]
    exact boolsOf_map _
  simp only [e, Option.map_some, List.any_map]
  rfl
theorem held_some (h : AtlasOk W H ps) {c : Nat × Nat} (hc : c ∈ cellsL W H) : (heldL ps c.1 c.2).isEmpty = false := by
  obtain ⟨h1, h2⟩ := mem_cells.mp hc
  obtain ⟨p, hp, hh⟩ := h.cov c.1 c.2 (by omega) h1 (by omega) h2
  obtain ⟨k, hk⟩ := List.mem_iff_getElem?.mp hp
  obtain ⟨hl, he⟩ := List.getElem?_eq_some_iff.mp hk
  have : k ∈ heldL ps c.1 c.2 := mem_held.mpr ⟨hl, by rw [List.getD_eq_getElem?_getD, hk]; exact hh⟩
  cases hq : heldL ps c.1 c.2 with
  | nil => rw [hq] at this; cases this
  | cons a b => rfl
theorem isEmpty_map {α β : Type} {f : α → β} {l : List α} : (l.map f).isEmpty = l.isEmpty := by cases l <;> rfl
theorem isAtlas_ok (h : AtlasOk W H ps) : F_is_atlas_value [encA W H ps] = .ok (.bool true) [] := by
  have h1 := h.w1
  have h2 := h.w8
  have h3 := h.h1
  have h4 := h.h8
  have h5 := h.n1
  have h6 := h.n6
  have e1 := lc_map (fi := iSeq (eBin pIx (eV 0) (eC (.int 2)))) (b := bName 2) (fe := eFn F_is_page (eCons (eV 2) (eCons (eBin pIx (eV 0) (eC (.int 0))) (eCons (eBin pIx (eV 0) (eC (.int 1))) (eCons (eCall pLen (eCons (eBin pIx (eV 0) (eC (.int 2))) eNil)) eNil))))) (vs := [2])
    (ρ := [.sh (encA W H ps), .non, .non]) (ρ1 := [.sh (encA W H ps), .non, .non]) ps id (fun _ => .bool true) (by simp [run_eV]) (by omega) (by simp [wipeR, unwipeR]) (fun p hp => by
      have e := isPage_ok (h.pg p hp)
      simp [StepM, wipeR, run_eV, e])
  have e2 := lc_map (fi := iSeq (eFn F_cells_of (eCons (eV 0) eNil))) (b := bName 1) (fe := eBin pNe (eFn F_pages_of (eCons (eV 0) (eCons (eV 1) eNil))) (eLst eNil)) (vs := [1])
    (ρ := [.sh (encA W H ps), .non, .non]) (ρ1 := [.sh (encA W H ps), .non, .non]) (cellsL W H) encC (fun _ => .bool true) (by simp [run_eV, cellsOf_ok h]) (by
      rw [cells_len]
      exact Nat.le_trans (Nat.mul_le_mul (show H.toNat ≤ 8 by omega) (show W.toNat ≤ 8 by omega)) (by decide)) (by simp [wipeR, unwipeR]) (fun c hc => by
      have e := pagesOf_ok (x := c.1) (y := c.2) h.pg (by omega)
      have e' := held_some h hc
      simp [StepM, wipeR, run_eV, e, op_nel, e'])
  have c1 : (1 : Int) ≤ ps.length := by omega
  have c2 : (ps.length : Int) ≤ 6 := by omega
  simp [F_is_atlas_value, fnP, B_is_atlas_value, run_eV, within_int, h1, h2, h3, h4, c1, c2, e1, e2, pAll_true]
theorem need_ok (h : AtlasOk W H ps) : F_need_atlas [encA W H ps] = .ok .none [] := by
  simp [F_need_atlas, fnP, B_need_atlas, run_eV, isAtlas_ok h]
/-! ### lots that cover -/
def cov (ps : List PyData) (W H : Int) (L : List Nat) : Bool := (cellsL W H).all fun c => (heldL ps c.1 c.2).any fun k => decide (k ∈ L)
theorem in_nats {L : List Nat} {k : Nat} : (L.map encI).any (fun z => PyData.eqv z (encI k)) = decide (k ∈ L) := by
  induction L with
  | nil => simp
  | cons a L ih =>
    rw [List.map_cons, List.any_cons, ih]
    have : PyData.eqv (encI a) (encI k) = decide (a = k) := by
      simp [PyData.eqv]
      by_cases h : a = k
      · simp [h]
      · have : ¬ (a : Int) = k := by omega
        simp [h]
        omega
    rw [this]
    by_cases h : a = k
    · simp [h]
    · have h' : ¬ k = a := fun e => h e.symm
      simp [h, h']
theorem pIn_tup {L : List Nat} {k : Nat} : pIn (encI k) (.tuple (L.map encI)) = some (.bool (decide (k ∈ L))) := by
  show (if (encI k).depth ≤ 60 then some (PyData.bool ((L.map encI).any fun z => PyData.eqv z (encI k))) else none) = _
  rw [if_pos (by simp [PyData.depth]), in_nats]
theorem pIn_lst {L : List Nat} {k : Nat} : pIn (encI k) (.list (L.map encI)) = some (.bool (decide (k ∈ L))) := by
  show (if (encI k).depth ≤ 60 then some (PyData.bool ((L.map encI).any fun z => PyData.eqv z (encI k))) else none) = _
  rw [if_pos (by simp [PyData.depth]), in_nats]
theorem held_len : (heldL ps x y).length ≤ ps.length := by
  unfold heldL
  exact Nat.le_trans (List.length_filter_le _ _) (by rw [List.length_range]; exact Nat.le_refl _)
theorem cells_small (h : AtlasOk W H ps) : (cellsL W H).length ≤ 64 := by
  have h1 := h.w8
  have h2 := h.h8
  rw [cells_len]
  exact Nat.le_trans (Nat.mul_le_mul (show H.toNat ≤ 8 by omega) (show W.toNat ≤ 8 by omega)) (by decide)
theorem covers_ok (h : AtlasOk W H ps) (L : List Nat) : F_covers [encA W H ps, .tuple (L.map encI)] = .ok (.bool (cov ps W H L)) [] := by
  have h6 := h.n6
  have e := lc_map (fi := iSeq (eFn F_cells_of (eCons (eV 0) eNil))) (b := bName 2) (fe := eCall pAny (eCons (eLst (eLc (iSeq (eFn F_pages_of (eCons (eV 0) (eCons (eV 2) eNil)))) (bName 3) eYes (eBin pIn (eV 3) (eV 1)) [3])) eNil)) (vs := [2])
    (ρ := [.sh (encA W H ps), .sh (.tuple (L.map encI)), .non, .non]) (ρ1 := [.sh (encA W H ps), .sh (.tuple (L.map encI)), .non, .non]) (cellsL W H) encC (fun c => .bool ((heldL ps c.1 c.2).any fun k => decide (k ∈ L))) (by simp [run_eV, cellsOf_ok h]) (Nat.le_trans (cells_small h) (by decide)) (by simp [wipeR, unwipeR]) (fun c hc => by
      have e0 := pagesOf_ok (x := c.1) (y := c.2) h.pg (by omega)
      have hl := held_len (ps := ps) (x := c.1) (y := c.2)
      have e1 := lc_map (fi := iSeq (eFn F_pages_of (eCons (eV 0) (eCons (eV 2) eNil)))) (b := bName 3) (fe := eBin pIn (eV 3) (eV 1)) (vs := [3])
        (ρ := [.sh (encA W H ps), .sh (.tuple (L.map encI)), .sh (encC c), .non]) (ρ1 := [.sh (encA W H ps), .sh (.tuple (L.map encI)), .sh (encC c), .non]) (heldL ps c.1 c.2) encI (fun k => .bool (decide (k ∈ L))) (by simp [run_eV, e0]) (by omega) (by simp [wipeR, unwipeR]) (fun k hk => by
          simp [StepM, wipeR, run_eV, pIn_tup])
      simp [StepM, wipeR, e1, pAny_map])
  simp [F_covers, fnP, B_covers, e, pAll_map]
  rfl
end
end Atl

set_option Elab.async false
set_option linter.all false
set_option maxRecDepth 100000
set_option maxHeartbeats 4000000
namespace Atl
open PySem Dl
open L2 (atI ixN)
/-! ### the order of lots -/
abbrev encL (l : List Nat) : PyData := .tuple (l.map encI)
abbrev encP (l : List Nat) : PyData := .tuple [.int (l.length : Int), encL l]
theorem encI_map (l : List Nat) : l.map encI = (l.map fun (k : Nat) => (k : Int)).map .int := by rw [List.map_map]; rfl
theorem alike_nats (l m : List Nat) : PySem.W.alikeAll (l.map encI) (m.map encI) = true := by
  rw [encI_map, encI_map]
  exact PySem.W.alike_ints _ _
theorem alike_P (l m : List Nat) : PySem.W.alike (encP l) (encP m) = true := by
  simp [PySem.W.alike, PySem.W.alikeAll, alike_nats]
theorem nats_inj {l m : List Nat} (h : (l.map fun (k : Nat) => (k : Int)) = m.map fun (k : Nat) => (k : Int)) : l = m := by
  induction l generalizing m with
  | nil => cases m with
    | nil => rfl
    | cons a b => simp at h
  | cons a l ih => cases m with
    | nil => simp at h
    | cons b m =>
      simp at h
      have h1 : a = b := by omega
      rw [h1, ih h.2]
theorem eqv_nats (l m : List Nat) : PyData.eqvAll (l.map encI) (m.map encI) = decide (l = m) := by
  induction l generalizing m with
  | nil => cases m <;> simp [PyData.eqvAll]
  | cons a l ih => cases m with
    | nil => simp [PyData.eqvAll]
    | cons b m =>
      simp only [List.map_cons, PyData.eqvAll]
      rw [ih]
      have : PyData.eqv (encI a) (encI b) = decide (a = b) := by
        simp [PyData.eqv]
        by_cases h : a = b
        · simp [h]
        · simp [h]
          omega
      rw [this]
      by_cases h : a = b <;> by_cases h2 : l = m <;> simp [h, h2]
def leP (a b : List Nat) : Bool := PySem.W.dataLe false encP a b
theorem leP_total : PySem.W.TotalLe leP := by
  show PySem.W.TotalLe (PySem.W.dataLe false encP)
  unfold PySem.W.dataLe
  exact PySem.W.sortLe_total _ _ _
theorem leP_eq (a b : List Nat) : leP a b = !PySem.W.dataLt (encP b) (encP a) := rfl
theorem leP_anti {a b : List Nat} (h1 : leP a b = true) (h2 : leP b a = true) : a = b := by
  rw [leP_eq, PySem.W.dataLt_pair (by simp [PySem.W.alike]) (by simp [PySem.W.alike, alike_nats])] at h1 h2
  have e1 : ∀ i j : Int, PyData.eqv (.int i) (.int j) = decide (i = j) := fun i j => by simp [PyData.eqv]; rfl
  have e2 : ∀ l m : List Nat, PyData.eqv (encL l) (encL m) = decide (l = m) := fun l m => by
    simp only [PyData.eqv]
    exact eqv_nats l m
  rw [e1, e2, PySem.W.dataLt_int, PySem.W.dataLt_tuple] at h1 h2
  by_cases hab : a = b
  · exact hab
  · have hba : ¬ b = a := fun e => hab e.symm
    by_cases hl : (b.length : Int) = a.length
    · have hl' : (a.length : Int) = b.length := hl.symm
      rw [if_pos (by simpa using hl), if_neg (by simpa using hba)] at h1
      rw [if_pos (by simpa using hl'), if_neg (by simpa using hab)] at h2
      rw [encI_map, encI_map] at h1 h2
      have d1 := PySem.W.dataLt_ints (b.map fun (k : Nat) => (k : Int)) (a.map fun (k : Nat) => (k : Int))
      have d2 := PySem.W.dataLt_ints (a.map fun (k : Nat) => (k : Int)) (b.map fun (k : Nat) => (k : Int))
      unfold PySem.W.rowLt at d1 d2
      rw [d1] at h1
      rw [d2] at h2
      simp at h1 h2
      exact nats_inj (List.le_antisymm h1 h2)
    · rw [if_neg (by simpa using hl)] at h1
      rw [if_neg (by simpa using fun e : (a.length : Int) = b.length => hl e.symm)] at h2
      simp at h1 h2
      omega
/-- the least of a list by folding -/
theorem fold_least {α : Type} {le : α → α → Bool} (T : PySem.W.TotalLe le) (lt : α → α → Bool) (hlt : ∀ a b, lt a b = !le b a) : ∀ (xs : List α) (x : α), (xs.foldl (fun a y => if lt y a = true then y else a) x ∈ x :: xs) ∧ ∀ w ∈ x :: xs, le (xs.foldl (fun a y => if lt y a = true then y else a) x) w = true
  | [], x => ⟨List.mem_cons_self, fun w hw => by
    rw [List.mem_singleton.mp hw]
    exact T.refl x⟩
  | y :: xs, x => by
    obtain ⟨h1, h2⟩ := fold_least T lt hlt xs (if lt y x = true then y else x)
    refine ⟨?_, fun w hw => ?_⟩
    · rcases List.mem_cons.mp h1 with h | h
      · show xs.foldl _ (if lt y x = true then y else x) ∈ _
        rw [h]
        split
        · simp
        · simp
      · exact List.mem_cons_of_mem _ (List.mem_cons_of_mem _ h)
    · show le (xs.foldl _ (if lt y x = true then y else x)) w = true
      have hb := h2 _ List.mem_cons_self
      have hx : le (if lt y x = true then y else x) x = true ∧ le (if lt y x = true then y else x) y = true := by
        rw [hlt]
        cases q : le x y with
        | true => simp [q, T.refl]
        | false =>
          have := (T.total x y).resolve_left (by rw [q]; simp)
          simp [this, T.refl]
      rcases List.mem_cons.mp hw with h | h
      · rw [h]
        exact T.trans _ _ _ hb hx.1
      · rcases List.mem_cons.mp h with h | h
        · rw [h]
          exact T.trans _ _ _ hb hx.2
        · exact h2 w (List.mem_cons_of_mem _ h)
theorem minD_P (x : List Nat) (xs : List (List Nat)) : PySem.W.minD (encP x) (xs.map encP) = encP (xs.foldl (fun a y => if PySem.W.dataLt (encP y) (encP a) = true then y else a) x) := by
  unfold PySem.W.minD
  induction xs generalizing x with
  | nil => rfl
  | cons y xs ih =>
    rw [List.map_cons, List.foldl_cons, List.foldl_cons]
    by_cases h : PySem.W.dataLt (encP y) (encP x) = true
    · rw [if_pos h, if_pos h, ih]
    · rw [if_neg h, if_neg h, ih]
/-- the first of the sorted ones that keep c is the least of those that keep c -/
theorem first_least (l : List (List Nat)) (c : List Nat → Bool) (m : List Nat) (r : List (List Nat)) (h : (l.mergeSort leP).filter c = m :: r) : ∃ x xs, l.filter c = x :: xs ∧ PySem.W.minD (encP x) (xs.map encP) = encP m := by
  have hp := (List.mergeSort_perm l leP).filter c
  rw [h] at hp
  have hs : (m :: r).Pairwise (fun a b => leP a b = true) := by
    rw [← h]
    exact (PySem.W.sort_pairwise leP_total l).filter c
  cases hq : l.filter c with
  | nil =>
    rw [hq] at hp
    exact absurd hp.length_eq (by simp)
  | cons x xs =>
    refine ⟨x, xs, rfl, ?_⟩
    rw [minD_P]
    obtain ⟨f1, f2⟩ := fold_least leP_total (fun a b => PySem.W.dataLt (encP a) (encP b)) (fun a b => by rw [leP_eq, Bool.not_not]) xs x
    rw [hq] at hp
    have m1 : m ∈ x :: xs := hp.mem_iff.mp List.mem_cons_self
    have z1 := hp.mem_iff.mpr f1
    have e : m = xs.foldl (fun a y => if PySem.W.dataLt (encP y) (encP a) = true then y else a) x := by
      refine leP_anti ?_ (f2 m m1)
      rcases List.mem_cons.mp z1 with q | q
      · rw [← q]
        exact leP_total.refl _
      · exact (List.pairwise_cons.mp hs).1 _ q
    rw [← e]
end Atl

set_option Elab.async false
set_option linter.all false
set_option maxRecDepth 100000
set_option maxHeartbeats 4000000
namespace Atl
open PySem Dl
open L2 (atI ixN)
/-! ### the same, by looking -/
def sortOf : PyData → Int
  | .bool _ => 1
  | .int _ => 2
  | .str _ => 3
  | .list _ => 4
  | .tuple _ => 5
  | _ => 6
theorem sort_ok (d : PyData) : F__law_sort [d] = .ok (.int (sortOf d)) [] := by
  cases d <;> simp [F__law_sort, fnP, B__law_sort, run_eV, PyData.isBool, PyData.isInt, PyData.isStr, PyData.isList, PyData.isTuple, sortOf]
theorem alike_mem {xs : List PyData} (h : PySem.W.alikeAll xs xs = true) : ∀ d ∈ xs, PySem.W.alike d d = true := by
  induction xs with
  | nil => intro d hd; cases hd
  | cons x xs ih =>
    have h : (PySem.W.alike x x && PySem.W.alikeAll xs xs) = true := by simpa [PySem.W.alikeAll] using h
    rw [Bool.and_eq_true] at h
    intro d hd
    rcases List.mem_cons.mp hd with e | e
    · rw [e]; exact h.1
    · exact ih h.2 d e
theorem pEq_self {d : PyData} (h : PySem.W.alike d d = true) (hd : d.depth ≤ 60) : pEq d d = some (.bool true) := by
  unfold pEq
  rw [if_pos (by rw [Nat.min_self]; omega), eqv_refl d (fun kvs e => by rw [e] at h; simp [PySem.W.alike] at h) h]
theorem same_seq {n : Nat} {xs : List PyData} {d : PyData} (hn : xs.length ≤ 1000000) (hs : seqOf d = some xs) (hix : ∀ k : Nat, pIx d (.int k) = xs[k]?) (ih : ∀ x ∈ xs, F__law_same n [x, x] = .ok (.bool true) []) :
    eLc (iEnu (eV 0)) (bTup (bCons (bName 2) (bCons (bName 3) bNil))) (eNot (eT (eFn (F__law_same n) (eCons (eV 3) (eCons (eBin pIx (eV 1) (eV 2)) eNil))))) (eV 2) [2, 3] [.sh d, .sh d, .non, .non] = .ok [] [.sh d, .sh d, .non, .non] := by
  have e := lc_filter (fi := iEnu (eV 0)) (b := bTup (bCons (bName 2) (bCons (bName 3) bNil))) (ft := eNot (eT (eFn (F__law_same n) (eCons (eV 3) (eCons (eBin pIx (eV 1) (eV 2)) eNil))))) (fe := eV 2) (vs := [2, 3])
    (ρ := [.sh d, .sh d, .non, .non]) (ρ1 := [.sh d, .sh d, .non, .non]) (List.range xs.length) (fun k => .tuple [.int (k : Int), xs.getD k .none]) (fun _ => false) encI
    (by simp [run_eV, hs, enumD_eq]) (by rw [List.length_range]; exact hn) (by simp [wipeR, unwipeR])
    (fun k hk => by
      have hk' := List.mem_range.mp hk
      have e0 : xs.getD k .none = xs[k] := by rw [List.getD_eq_getElem?_getD, List.getElem?_eq_getElem hk']; rfl
      have e1 := ih xs[k] (List.getElem_mem hk')
      have e2 := hix k
      rw [List.getElem?_eq_getElem hk'] at e2
      rw [e0]
      simp [StepF, wipeR, run_eV, e1, e2])
  rw [e]
  simp
theorem same_refl : ∀ (n : Nat) (d : PyData), d.depth < n → n ≤ 50 → PySem.W.alike d d = true → (∀ xs, d = .list xs ∨ d = .tuple xs → xs.length ≤ 1000000) → (∀ xs, d = .list xs ∨ d = .tuple xs → ∀ x ∈ xs, F__law_same (n - 1) [x, x] = .ok (.bool true) []) → F__law_same n [d, d] = .ok (.bool true) []
  | 0, d, h, _, _, _, _ => absurd h (Nat.not_lt_zero _)
  | n + 1, d, h, hn, ha, hl, ih => by
    have hq := pEq_self ha (by omega)
    cases d with
    | dict kvs => simp [PySem.W.alike] at ha
    | none => simp [F__law_same, fnP, B__law_same, run_eV, sort_ok, sortOf, hq]
    | bool b => simp [F__law_same, fnP, B__law_same, run_eV, sort_ok, sortOf, hq]
    | int i => simp [F__law_same, fnP, B__law_same, run_eV, sort_ok, sortOf]
    | str x => simp [F__law_same, fnP, B__law_same, run_eV, sort_ok, sortOf, hq]
    | list xs =>
      have e := same_seq (n := n) (xs := xs) (d := .list xs) (hl xs (.inl rfl)) rfl (fun k => by simp [atI_nat]) (ih xs (.inl rfl))
      simp [F__law_same, fnP, B__law_same, run_eV, sort_ok, sortOf, e, op_eql]
    | tuple xs =>
      have e := same_seq (n := n) (xs := xs) (d := .tuple xs) (hl xs (.inr rfl)) rfl (fun k => by simp [atI_nat]) (ih xs (.inr rfl))
      simp [F__law_same, fnP, B__law_same, run_eV, sort_ok, sortOf, e, op_eql]
theorem same_int (n : Nat) (i : Int) (h : 0 < n) (h2 : n ≤ 50) : F__law_same n [.int i, .int i] = .ok (.bool true) [] :=
  same_refl n _ (by simpa [PyData.depth] using h) h2 (by simp [PySem.W.alike]) (by simp) (by simp)
theorem depth_nats (L : List Nat) : PyData.depthAll (L.map encI) = 0 := by
  induction L with
  | nil => rfl
  | cons a L ih => simp [PyData.depthAll, PyData.depth, ih]
theorem same_tuple {L : List Nat} (h : L.length ≤ 1000000) : F__law_same 8 [encL L, encL L] = .ok (.bool true) [] :=
  same_refl 8 _ (by simp [PyData.depth, depth_nats]) (by decide) (by simp [PySem.W.alike, alike_nats]) (by
    intro xs hx
    rcases hx with e | e
    · cases e
    · cases e
      rw [List.length_map]
      exact h) (by
    intro xs hx x hm
    rcases hx with e | e
    · cases e
    · cases e
      obtain ⟨k, _, rfl⟩ := List.mem_map.mp hm
      exact same_int _ _ (by decide) (by decide))
theorem same_list {L : List Nat} (h : L.length ≤ 1000000) : F__law_same 8 [.list (L.map encI), .list (L.map encI)] = .ok (.bool true) [] :=
  same_refl 8 _ (by simp [PyData.depth, depth_nats]) (by decide) (by simp [PySem.W.alike, alike_nats]) (by
    intro xs hx
    rcases hx with e | e
    · cases e
      rw [List.length_map]
      exact h
    · cases e) (by
    intro xs hx x hm
    rcases hx with e | e
    · cases e
      obtain ⟨k, _, rfl⟩ := List.mem_map.mp hm
      exact same_int _ _ (by decide) (by decide)
    · cases e)
/-! ### lots -/
def lotsN : Nat → List (List Nat)
  | 0 => [[]]
  | n + 1 => lotsN n ++ (lotsN n).map (· ++ [n])
theorem lots_len : ∀ n, (lotsN n).length = 2 ^ n
  | 0 => rfl
  | n + 1 => by
    show (lotsN n ++ (lotsN n).map (· ++ [n])).length = _
    rw [List.length_append, List.length_map, lots_len n, Nat.pow_succ]
    omega
theorem lots_short : ∀ n, ∀ l ∈ lotsN n, l.length ≤ n
  | 0, l, h => by
    have := List.mem_singleton.mp h
    subst this
    exact Nat.le_refl _
  | n + 1, l, h => by
    rcases List.mem_append.mp h with h | h
    · exact Nat.le_succ_of_le (lots_short n l h)
    · obtain ⟨m, hm, rfl⟩ := List.mem_map.mp h
      rw [List.length_append]
      exact Nat.succ_le_succ (lots_short n m hm)
theorem lots_full : ∀ n, List.range n ∈ lotsN n
  | 0 => List.mem_singleton.mpr rfl
  | n + 1 => by
    rw [List.range_succ]
    exact List.mem_append_right _ (List.mem_map.mpr ⟨_, lots_full n, rfl⟩)
theorem pow6 {i : Nat} (h : i ≤ 6) : 2 ^ i ≤ 64 := Nat.le_trans (Nat.pow_le_pow_right (by decide) h) (by decide)
theorem encL_snoc (l : List Nat) (n : Nat) (h : l.length ≤ 1000) : pAdd (encL l) (.tuple [.int (n : Int)]) = some (encL (l ++ [n])) := by
  rw [op_catt (by rw [List.length_map]; simp; omega)]
  simp
theorem lawLots_ok {n : Nat} (hn : n ≤ 6) : F__law_lots [.int (n : Int)] = .ok (.list ((lotsN n).map encL)) [] := by
  obtain ⟨ρ', e, s2, rfl⟩ := forL_all (b := bName 2) (body := sSet 1 (eBin pAdd (eV 1) (eLst (eLc (iSeq (eV 1)) (bName 3) eYes (eBin pAdd (eV 3) (eTup (eCons (eV 2) eNil))) [3]))))
    (fun i ρ => ∃ s2, ρ = [.sh (.int (n : Int)), .sh (.list ((lotsN i).map encL)), s2, .non]) (rngL 0 n) [.sh (.int (n : Int)), .sh (.list [.tuple []]), .non, .non] ⟨.non, rfl⟩ (by
      rintro i x ρ hi ⟨s2, rfl⟩
      have hlt : i < n := by
        have := (List.getElem?_eq_some_iff.mp hi).1
        rwa [rngL_len] at this
      have hx : x = .int i := by
        rw [rngL_map, List.getElem?_map, List.getElem?_range hlt] at hi
        simpa using hi.symm
      subst hx
      have hz := lots_len i
      have hp := pow6 (i := i) (by omega)
      have e := lc_map (fi := iSeq (eV 1)) (b := bName 3) (fe := eBin pAdd (eV 3) (eTup (eCons (eV 2) eNil))) (vs := [3])
        (ρ := [.sh (.int (n : Int)), .sh (.list ((lotsN i).map encL)), .sh (.int (i : Int)), .non]) (ρ1 := [.sh (.int (n : Int)), .sh (.list ((lotsN i).map encL)), .sh (.int (i : Int)), .non]) (lotsN i) encL (fun l => encL (l ++ [i])) (by simp [run_eV]) (by omega) (by simp [wipeR, unwipeR]) (fun l hl => by
          have e1 := encL_snoc l i (by have := lots_short i l hl; omega)
          simp [StepM, wipeR, run_eV] at e1 ⊢
          simp [e1])
      have hz2 : (lotsN i).length + (lotsN i).length ≤ 1000000 := by omega
      refine ⟨_, [.sh (.int (n : Int)), .sh (.list ((lotsN (i + 1)).map encL)), .sh (.int (i : Int)), .non], rfl, ?_, _, rfl⟩
      simp [run_eV, e, op_catl, hz2, lotsN])
  rw [rngL_len] at e
  have r1 := rng_small (k := n) (by omega) (by omega)
  simp [F__law_lots, fnP, B__law_lots, run_eV, r1, e]
theorem sorted_lots {n : Nat} (hn : n ≤ 6) : pSorted [.list ((lotsN n).map encP)] = some (((lotsN n).mergeSort leP).map encP) := by
  have hz := lots_len n
  have hp := pow6 (i := n) (by omega)
  have hd : ∀ l : List Nat, (encP l).depth = 2 := fun l => by simp [PyData.depth, PyData.depthAll, depth_nats]
  unfold pSorted
  simp only
  rw [if_pos ⟨PySem.W.AllAlike.of alike_P, PySem.W.Sortable.tuples fun b => ⟨_, _, rfl⟩, fun d hd' => by
    obtain ⟨l, _, rfl⟩ := List.mem_map.mp hd'
    rw [hd]
    decide, by rw [List.length_map]; omega⟩]
  rw [PySem.W.sort_maps (r := leP) (s := PySem.W.dataLe false id) encP (fun a _ b _ => rfl)]
theorem lotsBySize_ok {n : Nat} (hn : n ≤ 6) : F_lots_by_size [.int (n : Int)] = .ok (.list (((lotsN n).mergeSort leP).map encL)) [] := by
  obtain ⟨ρ', e, s2, rfl⟩ := forL_all (b := bName 2) (body := sSet 1 (eBin pAdd (eV 1) (eLst (eLc (iSeq (eV 1)) (bName 4) eYes (eBin pAdd (eV 4) (eTup (eCons (eV 2) eNil))) [4]))))
    (fun i ρ => ∃ s2, ρ = [.sh (.int (n : Int)), .sh (.list ((lotsN i).map encL)), s2, .non, .non]) (rngL 0 n) [.sh (.int (n : Int)), .sh (.list [.tuple []]), .non, .non, .non] ⟨.non, rfl⟩ (by
      rintro i x ρ hi ⟨s2, rfl⟩
      have hlt : i < n := by
        have := (List.getElem?_eq_some_iff.mp hi).1
        rwa [rngL_len] at this
      have hx : x = .int i := by
        rw [rngL_map, List.getElem?_map, List.getElem?_range hlt] at hi
        simpa using hi.symm
      subst hx
      have hz := lots_len i
      have hp := pow6 (i := i) (by omega)
      have e := lc_map (fi := iSeq (eV 1)) (b := bName 4) (fe := eBin pAdd (eV 4) (eTup (eCons (eV 2) eNil))) (vs := [4])
        (ρ := [.sh (.int (n : Int)), .sh (.list ((lotsN i).map encL)), .sh (.int (i : Int)), .non, .non]) (ρ1 := [.sh (.int (n : Int)), .sh (.list ((lotsN i).map encL)), .sh (.int (i : Int)), .non, .non]) (lotsN i) encL (fun l => encL (l ++ [i])) (by simp [run_eV]) (by omega) (by simp [wipeR, unwipeR]) (fun l hl => by
          have e1 := encL_snoc l i (by have := lots_short i l hl; omega)
          simp [StepM, wipeR, run_eV] at e1 ⊢
          simp [e1])
      have hz2 : (lotsN i).length + (lotsN i).length ≤ 1000000 := by omega
      refine ⟨_, [.sh (.int (n : Int)), .sh (.list ((lotsN (i + 1)).map encL)), .sh (.int (i : Int)), .non, .non], rfl, ?_, _, rfl⟩
      simp [run_eV, e, op_catl, hz2, lotsN])
  rw [rngL_len] at e
  have r1 := rng_small (k := n) (by omega) (by omega)
  have hz := lots_len n
  have hp := pow6 (i := n) (by omega)
  have e2 := fun s2 => lc_map (fi := iSeq (eV 1)) (b := bName 4) (fe := eTup (eCons (eCall pLen (eCons (eV 4) eNil)) (eCons (eV 4) eNil))) (vs := [4])
    (ρ := [.sh (.int (n : Int)), .sh (.list ((lotsN n).map encL)), s2, .non, .non]) (ρ1 := [.sh (.int (n : Int)), .sh (.list ((lotsN n).map encL)), s2, .non, .non]) (lotsN n) encL encP (by simp [run_eV]) (by omega) (by simp [wipeR, unwipeR]) (fun l hl => by simp [StepM, wipeR, run_eV])
  have hsl : ((lotsN n).mergeSort leP).length ≤ 1000000 := by rw [List.length_mergeSort]; omega
  have hs := sorted_lots hn
  have e3 := fun s2 => lc_map (fi := iSeq (eLst (eCallO pSorted (eCons (eLst (eLc (iSeq (eV 1)) (bName 4) eYes (eTup (eCons (eCall pLen (eCons (eV 4) eNil)) (eCons (eV 4) eNil))) [4])) eNil)))) (b := bTup (bCons (bName 3) (bCons (bName 4) bNil))) (fe := eV 4) (vs := [3, 4])
    (ρ := [.sh (.int (n : Int)), .sh (.list ((lotsN n).map encL)), s2, .non, .non]) (ρ1 := [.sh (.int (n : Int)), .sh (.list ((lotsN n).map encL)), s2, .non, .non]) ((lotsN n).mergeSort leP) encP encL (by
      have := e2 s2
      simp at this hs ⊢
      simp [this, hs]) hsl (by simp [wipeR, unwipeR]) (fun l hl => by simp [StepM, wipeR, run_eV])
  have e4 := e3 s2
  simp [F_lots_by_size, fnP, B_lots_by_size, run_eV, r1, e, e4]
end Atl

set_option Elab.async false
set_option linter.all false
set_option maxRecDepth 100000
set_option maxHeartbeats 4000000
namespace Atl
open PySem Dl
open L2 (atI ixN)
section
variable {W H : Int} {ps : List PyData} {x y : Int} {n : Nat} {p : PyData}
theorem cells_step {W : Int} {i : Nat} : (List.range (i + 1)).flatMap (fun y => (List.range W.toNat).map fun x => (x, y)) = (List.range i).flatMap (fun y => (List.range W.toNat).map fun x => (x, y)) ++ (List.range W.toNat).map fun x => (x, i) := by
  rw [List.range_succ, List.flatMap_append, List.flatMap_cons, List.flatMap_nil, List.append_nil]
theorem cellsP_len {W : Int} {i : Nat} : ((List.range i).flatMap fun y => (List.range W.toNat).map fun x => (x, y)).length = i * W.toNat := by
  induction i with
  | zero => simp
  | succ h ih => rw [cells_step, List.length_append, ih, List.length_map, List.length_range, Nat.add_mul, Nat.one_mul]
theorem lawCells_any (h1 : 1 ≤ W) (h2 : W ≤ 8) (h3 : 1 ≤ H) (h4 : H ≤ 8) : F__law_all_cells [encA W H ps] = .ok (.list ((cellsL W H).map encC)) [] := by
  have r1 := rng_small (k := H) (by omega) (by omega)
  have r2 := rng_small (k := W) (by omega) (by omega)
  obtain ⟨ρ', e, s2, rfl⟩ := forL_all (b := bName 2) (body := sSet 1 (eBin pAdd (eV 1) (eLst (eLc (iRng1 (eBin pIx (eV 0) (eC (.int 0)))) (bName 3) eYes (eTup (eCons (eV 3) (eCons (eV 2) eNil))) [3]))))
    (fun i ρ => ∃ s2, ρ = [.sh (encA W H ps), .sh (.list (((List.range i).flatMap fun y => (List.range W.toNat).map fun x => (x, y)).map encC)), s2, .non]) (rngL 0 H.toNat) [.sh (encA W H ps), .sh (.list []), .non, .non] ⟨.non, rfl⟩ (by
      rintro i x ρ hi ⟨s2, rfl⟩
      have hlt : i < H.toNat := by
        have := (List.getElem?_eq_some_iff.mp hi).1
        rwa [rngL_len] at this
      have hx : x = .int i := by
        rw [rngL_map, List.getElem?_map, List.getElem?_range hlt] at hi
        simpa using hi.symm
      subst hx
      have e := fun Z => lc_map (fi := iRng1 (eBin pIx (eV 0) (eC (.int 0)))) (b := bName 3) (fe := eTup (eCons (eV 3) (eCons (eV 2) eNil))) (vs := [3])
        (ρ := [.sh (encA W H ps), .sh (.list Z), .sh (.int (i : Int)), .non]) (ρ1 := [.sh (encA W H ps), .sh (.list Z), .sh (.int (i : Int)), .non]) (List.range W.toNat) encI (fun x => encC (x, i)) (by simp [run_eV, r2, rngL_map]) (by rw [List.length_range]; omega) (by simp [wipeR, unwipeR]) (fun x _ => by simp [StepM, wipeR, run_eV])
      have hz := cellsP_len (W := W) (i := i)
      have hz2 : i * W.toNat ≤ 64 := Nat.le_trans (Nat.mul_le_mul (show i ≤ 8 by omega) (show W.toNat ≤ 8 by omega)) (by decide)
      generalize hZ : ((List.range i).flatMap fun y => (List.range W.toNat).map fun x => (x, y)) = Z at hz
      refine ⟨_, [.sh (encA W H ps), .sh (.list ((Z ++ (List.range W.toNat).map fun x => (x, i)).map encC)), .sh (.int (i : Int)), .non], rfl, ?_, _, by rw [cells_step, hZ]⟩
      have hz3 : Z.length + W.toNat ≤ 1000000 := by omega
      simp [run_eV, e, op_catl, hz3])
  rw [rngL_len] at e
  simp [F__law_all_cells, fnP, B__law_all_cells, run_eV, r1, e]
  rfl
theorem lawCells_ok (h : AtlasOk W H ps) : F__law_all_cells [encA W H ps] = .ok (.list ((cellsL W H).map encC)) [] := lawCells_any h.w1 h.w8 h.h1 h.h8
theorem bare_cov {ps : List PyData} {W H : Int} {L : List Nat} : ((cellsL W H).filter fun c => ((heldL ps c.1 c.2).filter fun k => decide (k ∈ L)).isEmpty).isEmpty = cov ps W H L := by
  unfold cov
  generalize cellsL W H = cs
  induction cs with
  | nil => rfl
  | cons c cs ih =>
    rw [List.all_cons, ← ih]
    have e : ((heldL ps c.1 c.2).filter fun k => decide (k ∈ L)).isEmpty = !(heldL ps c.1 c.2).any fun k => decide (k ∈ L) := by
      generalize heldL ps c.1 c.2 = h
      induction h with
      | nil => rfl
      | cons a h ih => by_cases q : a ∈ L <;> simp [q, ih]
    cases q : (heldL ps c.1 c.2).any fun k => decide (k ∈ L) with
    | true =>
      rw [q] at e
      rw [List.filter_cons_of_neg (by simp [e])]
      rfl
    | false =>
      rw [q] at e
      rw [List.filter_cons_of_pos (by simp [e])]
      rfl
theorem covered_of (h : AtlasOk W H ps) (L : List Nat) (D : PyData) (hD : ∀ k : Nat, pIn (encI k) D = some (.bool (decide (k ∈ L)))) : F__law_covered [encA W H ps, D] = .ok (.bool (cov ps W H L)) [] := by
  have h6 := h.n6
  have e := lc_filter (fi := iSeq (eFn F__law_all_cells (eCons (eV 0) eNil))) (b := bName 3) (ft := eT (eBin pEq (eLst (eLc (iSeq (eFn F__law_held_by (eCons (eV 0) (eCons (eV 3) eNil)))) (bName 4) (eT (eBin pIn (eV 4) (eV 1))) (eV 4) [4])) (eLst eNil))) (fe := eV 3) (vs := [3])
    (ρ := [.sh (encA W H ps), .sh D, .non, .non, .non]) (ρ1 := [.sh (encA W H ps), .sh D, .non, .non, .non]) (cellsL W H) encC (fun c => ((heldL ps c.1 c.2).filter fun k => decide (k ∈ L)).isEmpty) encC (by simp [run_eV, lawCells_ok h]) (Nat.le_trans (cells_small h) (by decide)) (by simp [wipeR, unwipeR]) (fun c hc => by
      have e0 := lawHeldBy_ok (x := c.1) (y := c.2) h.pg (by omega)
      have hl := held_len (ps := ps) (x := c.1) (y := c.2)
      have e1 := lc_filter (fi := iSeq (eFn F__law_held_by (eCons (eV 0) (eCons (eV 3) eNil)))) (b := bName 4) (ft := eT (eBin pIn (eV 4) (eV 1))) (fe := eV 4) (vs := [4])
        (ρ := [.sh (encA W H ps), .sh D, .non, .sh (encC c), .non]) (ρ1 := [.sh (encA W H ps), .sh D, .non, .sh (encC c), .non]) (heldL ps c.1 c.2) encI (fun k => decide (k ∈ L)) encI (by simp [run_eV, e0]) (by omega) (by simp [wipeR, unwipeR]) (fun k hk => by
          simp [StepF, wipeR, run_eV, hD])
      simp [StepF, wipeR, run_eV, e1, op_eql])
  have e2 := bare_cov (ps := ps) (W := W) (H := H) (L := L)
  simp [F__law_covered, fnP, B__law_covered, run_eV, e, op_eql]
  rw [← e2]
theorem cov_full (h : AtlasOk W H ps) : cov ps W H (List.range ps.length) = true := by
  unfold cov
  rw [List.all_eq_true]
  intro c hc
  have e := held_some h hc
  cases q : heldL ps c.1 c.2 with
  | nil => rw [q] at e; cases e
  | cons k r =>
    have : k ∈ heldL ps c.1 c.2 := by rw [q]; exact List.mem_cons_self
    have hk := (mem_held.mp this).1
    rw [List.any_cons, Bool.or_eq_true]
    exact .inl (by simpa using hk)
theorem fewest_ok (h : AtlasOk W H ps) : ∃ m r, ((lotsN ps.length).mergeSort leP).filter (cov ps W H) = m :: r ∧ F_fewest_pages [encA W H ps] = .ok (encL m) [] := by
  have h6 := h.n6
  have e0 := lotsBySize_ok h6
  have hz := lots_len ps.length
  have hp := pow6 (i := ps.length) h6
  have hsl : ((lotsN ps.length).mergeSort leP).length ≤ 1000000 := by rw [List.length_mergeSort]; omega
  have e := lc_filter (fi := iSeq (eFn F_lots_by_size (eCons (eCall pLen (eCons (eBin pIx (eV 0) (eC (.int 2))) eNil)) eNil))) (b := bName 1) (ft := eT (eFn F_covers (eCons (eV 0) (eCons (eV 1) eNil)))) (fe := eV 1) (vs := [1])
    (ρ := [.sh (encA W H ps), .non]) (ρ1 := [.sh (encA W H ps), .non]) ((lotsN ps.length).mergeSort leP) encL (cov ps W H) encL (by simp [run_eV, e0]) hsl (by simp [wipeR, unwipeR]) (fun l hl => by
      simp [StepF, wipeR, run_eV, covers_ok h])
  cases hq : ((lotsN ps.length).mergeSort leP).filter (cov ps W H) with
  | nil =>
    have : List.range ps.length ∈ ((lotsN ps.length).mergeSort leP).filter (cov ps W H) := List.mem_filter.mpr ⟨List.mem_mergeSort.mpr (lots_full _), cov_full h⟩
    rw [hq] at this
    cases this
  | cons m r =>
    rw [hq] at e
    refine ⟨m, r, rfl, ?_⟩
    simp [F_fewest_pages, fnP, B_fewest_pages, run_eV, need_ok h, e]
def restL (n p : Nat) : List Nat := (List.range n).filter fun o => !decide (o = p)
theorem ne_nats {a b : Nat} : pNe (encI a) (encI b) = some (.bool (!decide (a = b))) := by
  rw [op_nei]
  by_cases h : a = b
  · simp [h]
  · have : ¬ (a : Int) = b := by omega
    simp [h, this]
theorem needless_ok (h : AtlasOk W H ps) : F_needless [encA W H ps] = .ok (.list (((List.range ps.length).filter fun p => cov ps W H (restL ps.length p)).map encI)) [] := by
  have h6 := h.n6
  have r1 := rng_small (k := ps.length) (by omega) (by omega)
  have e := lc_filter (fi := iSeq (eV 1)) (b := bName 2) (ft := eT (eFn F_covers (eCons (eV 0) (eCons (eCall pTuple (eCons (eLst (eLc (iSeq (eV 1)) (bName 3) (eT (eBin pNe (eV 3) (eV 2))) (eV 3) [3])) eNil)) eNil)))) (fe := eV 2) (vs := [2])
    (ρ := [.sh (encA W H ps), .sh (.list ((List.range ps.length).map encI)), .non, .non]) (ρ1 := [.sh (encA W H ps), .sh (.list ((List.range ps.length).map encI)), .non, .non]) (List.range ps.length) encI (fun p => cov ps W H (restL ps.length p)) encI (by simp [run_eV]) (by rw [List.length_range]; omega) (by simp [wipeR, unwipeR]) (fun p hp => by
      have e1 := lc_filter (fi := iSeq (eV 1)) (b := bName 3) (ft := eT (eBin pNe (eV 3) (eV 2))) (fe := eV 3) (vs := [3])
        (ρ := [.sh (encA W H ps), .sh (.list ((List.range ps.length).map encI)), .sh (encI p), .non]) (ρ1 := [.sh (encA W H ps), .sh (.list ((List.range ps.length).map encI)), .sh (encI p), .non]) (List.range ps.length) encI (fun o => !decide (o = p)) encI (by simp [run_eV]) (by rw [List.length_range]; omega) (by simp [wipeR, unwipeR]) (fun o ho => by
          have := ne_nats (a := o) (b := p)
          simp only [StepF, run_bName, List.set, wipeR]
          simp [run_eV, this, -op_nei])
      have e2 := covers_ok h (restL ps.length p)
      unfold restL at e2 ⊢
      simp [StepF, wipeR, run_eV, e1, e2])
  simp [F_needless, fnP, B_needless, run_eV, need_ok h, r1, rngL_map, e]
end
end Atl

set_option Elab.async false
set_option linter.all false
set_option maxRecDepth 100000
set_option maxHeartbeats 4000000
namespace Atl
open PySem Dl
open L2 (atI ixN)
/-! ### ways and walks -/
inductive Wy where
  | n | e | s | w
def Wy.code : Wy → Nat
  | .n => 110
  | .e => 101
  | .s => 115
  | .w => 119
def Wy.chr (a : Wy) : Str := ⟨#[a.code]⟩
def encW (ws : List Wy) : Str := ⟨(ws.map Wy.code).toArray⟩
theorem signs_W (ws : List Wy) : signs (encW ws) = ws.map fun a => .str a.chr := by
  simp [signs, encW, Wy.chr]
theorem encW_len (ws : List Wy) : (encW ws).length = ws.length := by
  show (encW ws).cps.size = _
  simp [encW]
theorem encW_snoc (ws : List Wy) (a : Wy) : encW ws ++ a.chr = encW (ws ++ [a]) := by
  show (⟨(encW ws).cps ++ a.chr.cps⟩ : Str) = _
  simp [encW, Wy.chr]
abbrev Cell : Type := Int × Int
abbrev encZ (c : Cell) : PyData := .tuple [.int c.1, .int c.2]
def stepW : Wy → Cell → Cell
  | .n, c => (c.1, c.2 - 1)
  | .e, c => (c.1 + 1, c.2)
  | .s, c => (c.1, c.2 + 1)
  | .w, c => (c.1 - 1, c.2)
theorem moved_ok (a : Wy) (c : Cell) : F_moved [encZ c, .str a.chr] = .ok (encZ (stepW a c)) [] := by
  have d : ∀ a : Wy, pDic (([("n", [(.int 0), (.int (-1))]), ("e", [(.int 1), (.int 0)]), ("s", [(.int 0), (.int 1)]), ("w", [(.int (-1)), (.int 0)])] : List (Str × List PyData)).map fun q => (q.1, PyData.tuple q.2)) (.str a.chr) = some (.tuple [.int (stepW a (0, 0)).1, .int (stepW a (0, 0)).2]) := by
    intro a
    cases a <;> rfl
  have e := d a
  simp only [F_moved, fnP, B_moved]
  simp only [List.map_cons, List.map_nil] at e ⊢
  cases a <;> simp [run_eV, e, stepW] <;> omega
theorem eqS (a : Wy) : pEq (.str a.chr) (.str "e") = some (.bool (match a with | .e => true | _ => false)) ∧ pEq (.str a.chr) (.str "w") = some (.bool (match a with | .w => true | _ => false)) ∧ pEq (.str a.chr) (.str "s") = some (.bool (match a with | .s => true | _ => false)) ∧ pEq (.str a.chr) (.str "n") = some (.bool (match a with | .n => true | _ => false)) := by
  cases a <;> exact ⟨rfl, rfl, rfl, rfl⟩
theorem behind_ok (a : Wy) (c : Cell) : F__law_behind [encZ c, .str a.chr] = .ok (encZ (stepW a c)) [] := by
  obtain ⟨e1, e2, e3, e4⟩ := eqS a
  simp only [F__law_behind, fnP, B__law_behind]
  cases a <;> simp [run_eV, e1, e2, e3, e4, stepW] <;> omega
def endC : Cell → List Wy → Cell
  | c, [] => c
  | c, a :: ws => endC (stepW a c) ws
def path : Cell → List Wy → List Cell
  | c, [] => [c]
  | c, a :: ws => c :: path (stepW a c) ws
theorem endC_snoc (a : Wy) : ∀ (ws : List Wy) (c : Cell), endC c (ws ++ [a]) = stepW a (endC c ws)
  | [], _ => rfl
  | b :: ws, c => endC_snoc a ws (stepW b c)
theorem path_snoc (a : Wy) : ∀ (ws : List Wy) (c : Cell), path c (ws ++ [a]) = path c ws ++ [stepW a (endC c ws)]
  | [], _ => rfl
  | b :: ws, c => by
    show c :: path (stepW b c) (ws ++ [a]) = _
    rw [path_snoc a ws]
    rfl
theorem path_len : ∀ (ws : List Wy) (c : Cell), (path c ws).length = ws.length + 1
  | [], _ => rfl
  | b :: ws, c => by
    show (path (stepW b c) ws).length + 1 = _
    rw [path_len ws]
    rfl
theorem path_last : ∀ (ws : List Wy) (c : Cell), (path c ws)[ws.length]? = some (endC c ws)
  | [], _ => rfl
  | b :: ws, c => path_last ws (stepW b c)
theorem atI_last {α : Type} {l : List α} {n : Nat} (h : l.length = n + 1) : atI l (-1) = l[n]? := by
  unfold L2.atI L2.ixN
  rw [if_neg (by omega), if_pos (by omega)]
  show l[(-1 + (l.length : Int)).toNat]? = _
  congr 1
  omega
theorem walked_ok (c : Cell) (ws : List Wy) (hl : ws.length ≤ 1000) : F_walked [encZ c, .str (encW ws)] = .ok (.list ((path c ws).map encZ)) [] := by
  obtain ⟨ρ', e, s3, rfl⟩ := forL_all (b := bName 3) (body := sSet 2 (eBin pAdd (eV 2) (eLst (eCons (eFn F_moved (eCons (eBin pIx (eV 2) (eUn pNeg (eC (.int 1)))) (eCons (eV 3) eNil))) eNil))))
    (fun i ρ => ∃ s3, ρ = [.sh (encZ c), .sh (.str (encW ws)), .sh (.list ((path c (ws.take i)).map encZ)), s3]) (ws.map fun a => .str a.chr) [.sh (encZ c), .sh (.str (encW ws)), .sh (.list [encZ c]), .non] ⟨.non, rfl⟩ (by
      rintro i x ρ hi ⟨s3, rfl⟩
      rw [List.getElem?_map] at hi
      obtain ⟨a, ha, rfl⟩ := Option.map_eq_some_iff.mp hi
      obtain ⟨hlt, hai⟩ := List.getElem?_eq_some_iff.mp ha
      have hp := path_len (ws.take i) c
      have ht : (ws.take i).length = i := by rw [List.length_take]; omega
      have e1 : atI ((path c (ws.take i)).map encZ) (-1) = some (encZ (endC c (ws.take i))) := by
        rw [atI_last (n := i) (by rw [List.length_map, hp, ht]), List.getElem?_map]
        have := path_last (ws.take i) c
        rw [ht] at this
        rw [this]
        rfl
      have e2 := moved_ok a (endC c (ws.take i))
      have hz : (path c (ws.take i)).length + 1 ≤ 1000000 := by omega
      refine ⟨_, _, rfl, ?_, .sh (.str a.chr), rfl⟩
      rw [List.take_succ_eq_append_getElem hlt, hai, path_snoc]
      simp [run_eV, e1, e2, op_catl, hz])
  rw [List.length_map, List.take_length] at e
  simp [F_walked, fnP, B_walked, run_eV, itemsOf, signs_W, e]
end Atl

set_option Elab.async false
set_option linter.all false
set_option maxRecDepth 100000
set_option maxHeartbeats 600000
namespace Atl
open PySem Dl
open L2 (atI ixN)
theorem fnP_rt {k : Nat} {body : Rho → Rs Fl} {ds : List PyData} {ρ0 ρ' : Rho} {d : PyData} (h0 : ds.map Slot.sh ++ List.replicate (k - ds.length) .non = ρ0) (h : body ρ0 = .ok (.rt d) ρ') : fnP k body ds = .ok d [] := by
  unfold fnP
  rw [h0, h]
theorem fnB_rt {k : Nat} {body : Rho → Rs Fl} {cs ds cs' : List PyData} {ρ0 ρ' : Rho} {d : PyData} (h0 : Slot.own true cs :: ds.map .sh ++ List.replicate (k - (ds.length + 1)) .non = ρ0) (h : body ρ0 = .ok (.rt d) ρ') (h1 : ρ'[0]? = some (.own true cs')) : fnB k body cs ds = .ok (d, cs') [] := by
  unfold fnB
  rw [h0, h]
  simp only [outB, h1]
structure InL (W H : Int) (c : Cell) : Prop where
  x0 : 0 ≤ c.1
  x1 : c.1 < W
  y0 : 0 ≤ c.2
  y1 : c.2 < H
structure WalkOk (W H : Int) (c : Cell) (ws : List Wy) : Prop where
  len : ws.length ≤ 60
  inl : ∀ p ∈ path c ws, InL W H p
abbrev encT (a : Wy) : PyData := .str a.chr
inductive Rl where
  | arrow | index | middle
def Rl.str : Rl → Str
  | .arrow => "arrow"
  | .index => "index"
  | .middle => "middle"
abbrev encR (r : Rl) : PyData := .str r.str
section
variable {W H : Int} {ps : List PyData} {c : Cell} {ws : List Wy}
theorem isCell_ok (h : InL W H c) : F_is_cell [encA W H ps, .int c.1, .int c.2] = .ok (.bool true) [] := by
  obtain ⟨a1, a2, a3, a4⟩ := h
  have b1 : c.1 ≤ W - 1 := by omega
  have b2 : c.2 ≤ H - 1 := by omega
  simp [F_is_cell, fnP, B_is_cell, run_eV, within_int, a1, a3, b1, b2]
theorem in_nesw (a : Wy) : pIn (encT a) (.str "nesw") = some (.bool true) := by
  have e : (Builtin.Str.occurrences "nesw" a.chr 0 ("nesw" : Str).length 1).isEmpty = false := by cases a <;> decide +kernel
  show some (PyData.bool (!(Builtin.Str.occurrences "nesw" a.chr 0 ("nesw" : Str).length 1).isEmpty)) = _
  rw [e]
  rfl
theorem isWalk_ok (h : WalkOk W H c ws) : F_is_walk_from [encA W H ps, encZ c, .str (encW ws)] = .ok (.bool true) [] := by
  have hl := h.len
  have l1 : pLen [.str (encW ws)] = some (.int (ws.length : Int)) := by
    show (if (encW ws).length ≤ 1000000 then some (PyData.int (encW ws).length) else none) = _
    rw [encW_len, if_pos (by omega)]
  have e1 := lc_map (fi := iSeq (eV 2)) (b := bName 4) (fe := eBin pIn (eV 4) (eC (.str "nesw"))) (vs := [4])
    (ρ := [.sh (encA W H ps), .sh (encZ c), .sh (.str (encW ws)), .non, .non]) (ρ1 := [.sh (encA W H ps), .sh (encZ c), .sh (.str (encW ws)), .non, .non]) ws encT (fun _ => .bool true) (by simp [run_eV, itemsOf, signs_W]) (by omega) (by simp [wipeR, unwipeR]) (fun a _ => by simp [StepM, wipeR, run_eV, in_nesw])
  have e2 := lc_map (fi := iSeq (eFn F_walked (eCons (eV 1) (eCons (eV 2) eNil)))) (b := bName 3) (fe := eFn F_is_cell (eCons (eV 0) (eCons (eBin pIx (eV 3) (eC (.int 0))) (eCons (eBin pIx (eV 3) (eC (.int 1))) eNil)))) (vs := [3])
    (ρ := [.sh (encA W H ps), .sh (encZ c), .sh (.str (encW ws)), .non, .non]) (ρ1 := [.sh (encA W H ps), .sh (encZ c), .sh (.str (encW ws)), .non, .non]) (path c ws) encZ (fun _ => .bool true) (by simp [run_eV, walked_ok c ws (by omega)]) (by rw [path_len]; omega) (by simp [wipeR, unwipeR]) (fun p hp => by simp [StepM, wipeR, run_eV, isCell_ok (h.inl p hp)])
  have h60 : ¬ (60 : Int) < ws.length := by omega
  have hs : PyData.isStr (.str (encW ws)) = true := rfl
  simp [F_is_walk_from, fnP, B_is_walk_from, run_eV, hs, l1, h60, e1, e2, pAll_true]
theorem needCell_ok (h : InL W H c) : F_need_cell [encA W H ps, .int c.1, .int c.2] = .ok .none [] := by
  simp [F_need_cell, fnP, B_need_cell, run_eV, isCell_ok h]
theorem needWalk_ok (h : WalkOk W H c ws) : F_need_walk [encA W H ps, encZ c, .str (encW ws)] = .ok .none [] := by
  simp [F_need_walk, fnP, B_need_walk, run_eV, isWalk_ok h]
theorem needRule_ok (r : Rl) : F_need_rule [encR r] = .ok .none [] := by
  have e : pNotIn (encR r) (.tuple [(.str "arrow"), (.str "index"), (.str "middle")]) = some (.bool false) := by cases r <;> rfl
  have hs : PyData.isStr (encR r) = true := rfl
  simp [F_need_rule, fnP, B_need_rule, run_eV, e, hs]
theorem atI_getD {l : List PyData} {k : Nat} (h : k < l.length) : atI l (k : Int) = some (l.getD k .none) := by
  rw [atI_nat, List.getElem?_eq_getElem h, List.getD_eq_getElem?_getD, List.getElem?_eq_getElem h]
  rfl
theorem needPage_ok (h : AtlasOk W H ps) {k : Nat} (hk : k ∈ heldL ps c.1 c.2) : F_need_page [encA W H ps, encZ c, encI k] = .ok .none [] := by
  obtain ⟨h1, h2⟩ := mem_held.mp hk
  have e1 := holds_ok (x := c.1) (y := c.2) (pg_at h.pg h1)
  have e2 := atI_getD h1
  have b1 : (0 : Int) ≤ k := by omega
  have b2 : (k : Int) ≤ ps.length - 1 := by omega
  rw [h2] at e1
  simp [F_need_page, fnP, B_need_page, run_eV, within_int, b1, b2, e2, e1, -List.getD_eq_getElem?_getD]
theorem needReading_ok (h : AtlasOk W H ps) (r : Rl) (hc : InL W H c) {k : Nat} (hk : k ∈ heldL ps c.1 c.2) (hw : WalkOk W H c ws) : F_need_reading [encA W H ps, encR r, .int c.1, .int c.2, encI k, .str (encW ws)] = .ok .none [] := by
  simp [F_need_reading, fnP, B_need_reading, run_eV, need_ok h, needRule_ok r, needCell_ok hc, needPage_ok h hk, needWalk_ok hw]
/-! ### drawn walks -/
def inLb (W H : Int) (c : Cell) : Bool := decide (0 ≤ c.1 ∧ c.1 < W ∧ 0 ≤ c.2 ∧ c.2 < H)
theorem inLb_iff {c : Cell} : inLb W H c = true ↔ InL W H c := by
  unfold inLb
  rw [decide_eq_true_eq]
  exact ⟨fun ⟨a, b, c, d⟩ => ⟨a, b, c, d⟩, fun ⟨a, b, c, d⟩ => ⟨a, b, c, d⟩⟩
def waysL (W H : Int) (c : Cell) : List Wy := [.n, .e, .s, .w].filter fun a => inLb W H (stepW a c)
abbrev encY (c : Cell) (a : Wy) : PyData := .tuple [encT a, encZ (stepW a c)]
theorem lawIsCell_ok (c : Cell) : F__law_is_cell [encA W H ps, encZ c] = .ok (.bool (inLb W H c)) [] := by
  unfold inLb
  by_cases h1 : 0 ≤ c.1 <;> by_cases h2 : c.1 < W <;> by_cases h3 : 0 ≤ c.2 <;> by_cases h4 : c.2 < H <;> simp [F__law_is_cell, fnP, B__law_is_cell, run_eV, h1, h2, h3, h4]
theorem ways_ok (c : Cell) : F__law_ways [encA W H ps, encZ c] = .ok (.list ((waysL W H c).map (encY c))) [] := by
  have hs : signs "nesw" = [Wy.n, .e, .s, .w].map encT := rfl
  have e1 := lc_map (fi := iSeq (eC (.str "nesw"))) (b := bName 3) (fe := eTup (eCons (eV 3) (eCons (eFn F__law_behind (eCons (eV 1) (eCons (eV 3) eNil))) eNil))) (vs := [3])
    (ρ := [.sh (encA W H ps), .sh (encZ c), .non, .non, .non]) (ρ1 := [.sh (encA W H ps), .sh (encZ c), .non, .non, .non]) [Wy.n, .e, .s, .w] encT (encY c) (by simp only [run_iSeq, run_eC, run_ok, itemsOf, run_some, hs]) (by simp) (by simp [wipeR, unwipeR]) (fun a _ => by simp [StepM, wipeR, run_eV, behind_ok])
  have e2 := fun Z => lc_filter (fi := iSeq (eV 2)) (b := bName 4) (ft := eT (eFn F__law_is_cell (eCons (eV 0) (eCons (eBin pIx (eV 4) (eC (.int 1))) eNil)))) (fe := eV 4) (vs := [4])
    (ρ := [.sh (encA W H ps), .sh (encZ c), .sh (.list ([Wy.n, .e, .s, .w].map (encY c))), Z, .non]) (ρ1 := [.sh (encA W H ps), .sh (encZ c), .sh (.list ([Wy.n, .e, .s, .w].map (encY c))), Z, .non]) [Wy.n, .e, .s, .w] (encY c) (fun a => inLb W H (stepW a c)) (encY c) (by simp [run_eV]) (by simp) (by simp [wipeR, unwipeR]) (fun a _ => by simp [StepF, wipeR, run_eV, lawIsCell_ok])
  have run : B__law_ways [.sh (encA W H ps), .sh (encZ c), .non, .non, .non] = .ok (.rt (.list ((waysL W H c).map (encY c)))) [.sh (encA W H ps), .sh (encZ c), .sh (.list ([Wy.n, .e, .s, .w].map (encY c))), .non, .non] := by
    unfold B__law_ways
    rw [seq_nx (ρ' := [.sh (encA W H ps), .sh (encZ c), .sh (.list ([Wy.n, .e, .s, .w].map (encY c))), .non, .non])]
    · rw [run_sRet, run_eLst, e2, run_ok, run_ok]
      rfl
    · rw [run_sSet, run_eLst, e1, run_ok, run_ok]
      rfl
  exact fnP_rt (ρ0 := [.sh (encA W H ps), .sh (encZ c), .non, .non, .non]) rfl run
theorem names_ok (c : Cell) (s0 s3 s4 s5 s6 s7 s8 : Slot) (h8 : ∀ b ds, s8 ≠ .own b ds) : eLc (iSeq (eFn F__law_ways (eCons (eV 1) (eCons (eV 2) eNil)))) (bTup (bCons (bName 8) (bCons (bName 9) bNil))) eYes (eV 8) [8, 9]
    [s0, .sh (encA W H ps), .sh (encZ c), s3, s4, s5, s6, s7, s8, .non] = .ok ((waysL W H c).map encT) [s0, .sh (encA W H ps), .sh (encZ c), s3, s4, s5, s6, s7, s8, .non] := by
  have hu : unwipeR [8, 9] [s0, .sh (encA W H ps), .sh (encZ c), s3, s4, s5, s6, s7, s8, .non] (wipeR [8, 9] [s0, .sh (encA W H ps), .sh (encZ c), s3, s4, s5, s6, s7, s8, .non]) = [s0, .sh (encA W H ps), .sh (encZ c), s3, s4, s5, s6, s7, s8, .non] := by
    cases s8 with
    | own b ds => exact absurd rfl (h8 b ds)
    | _ => simp [wipeR, unwipeR]
  exact lc_map (ρ1 := [s0, .sh (encA W H ps), .sh (encZ c), s3, s4, s5, s6, s7, s8, .non]) (waysL W H c) (encY c) encT (by simp [run_eV, ways_ok]) (by
    unfold waysL
    exact Nat.le_trans (List.length_filter_le _ _) (by decide)) hu (fun a _ => by simp [StepM, wipeR, run_eV])
theorem pIn_strs {z : Str} {L : List Wy} : pIn (.str z) (.list (L.map encT)) = some (.bool (L.any fun a => a.chr == z)) := by
  show (if (PyData.str z).depth ≤ 60 then some (PyData.bool ((L.map encT).any fun w => PyData.eqv w (.str z))) else none) = _
  rw [if_pos (by simp [PyData.depth]), List.any_map]
  congr 3
end
end Atl

set_option Elab.async false
set_option linter.all false
set_option maxRecDepth 100000
set_option maxHeartbeats 1000000
namespace Atl
open PySem Dl
open L2 (atI ixN)
theorem ne_empty (a : Wy) : pNe (encT a) (.str "") = some (.bool true) := by cases a <;> rfl
section
variable {W H : Int} {ps : List PyData}
noncomputable abbrev walkBody : Rho → Rs Fl := sSeq (sSet 7 (eLst (eLc (iSeq (eFn F__law_ways (eCons (eV 1) (eCons (eV 2) eNil)))) (bTup (bCons (bName 8) (bCons (bName 9) bNil))) eYes (eV 8) [8, 9]))) (sIf (eT (eBin pNe (eV 7) (eLst eNil))) (sSeq (sSet 8 (eIf (eAnd (eT (eBin pIn (eV 6) (eV 7))) (eAnd (eT (eBin pNe (eV 6) (eC (.str "")))) (eT (eBin pGt (eFnO 0 F__law_pick (eCons (eC (.int 3)) eNil)) (eC (.int 0)))))) (eV 6) (eFnO 0 F__law_one (eCons (eV 7) eNil)))) (sPar [6, 2, 5] (mSh (eV 8) (mSh (eFn F__law_behind (eCons (eV 2) (eCons (eV 8) eNil))) (mSh (eBin pAdd (eV 5) (eV 8)) mNil))))) sNil)
theorem choose_ok {c : Int} {d : List PyData} {C : Cell} {ln : Str} (hd : Dk c d) (hc : c < 900000) (L : List Wy) (hL : L ≠ []) (hl : L.length ≤ 4) (hln : ln = "" ∨ ∃ a : Wy, ln = a.chr) (s3 s4 s5 s8 : Slot) :
    ∃ (a : Wy) (d' : List PyData), a ∈ L ∧ Dk (c + 2) d' ∧ sSet 8 (eIf (eAnd (eT (eBin pIn (eV 6) (eV 7))) (eAnd (eT (eBin pNe (eV 6) (eC (.str "")))) (eT (eBin pGt (eFnO 0 F__law_pick (eCons (eC (.int 3)) eNil)) (eC (.int 0)))))) (eV 6) (eFnO 0 F__law_one (eCons (eV 7) eNil)))
      [.own true d, .sh (encA W H ps), .sh (encZ C), s3, s4, s5, .sh (.str ln), .sh (.list (L.map encT)), s8, .non] = .ok .nx [.own true d', .sh (encA W H ps), .sh (encZ C), s3, s4, s5, .sh (.str ln), .sh (.list (L.map encT)), .sh (encT a), .non] := by
  have oneOk : ∀ {c' : Int} {d1 : List PyData}, Dk c' d1 → c' < 1000000 → ∃ (a : Wy) (d' : List PyData), a ∈ L ∧ Dk (c' + 1) d' ∧ F__law_one d1 [.list (L.map encT)] = .ok (encT a, d') [] := fun h1 h2 => by
    obtain ⟨x, d', e1, e2, e3⟩ := one_list h1 h2 (xs := L.map encT) (by simpa using hL) (by rw [List.length_map]; omega)
    obtain ⟨a, ha, rfl⟩ := List.mem_map.mp e2
    exact ⟨a, d', ha, e3, e1⟩
  have e0 := pIn_strs (z := ln) (L := L)
  cases hb : L.any fun a => a.chr == ln with
  | false =>
    rw [hb] at e0
    obtain ⟨a, d', h1, h2, h3⟩ := oneOk hd (by omega)
    refine ⟨a, d', h1, h2.mono (by omega), ?_⟩
    simp [run_eV, e0, run_eFnO', run_afterO', h3]
  | true =>
    rw [hb] at e0
    obtain ⟨a, ha, hal⟩ := List.any_eq_true.mp hb
    have hal : a.chr = ln := by simpa using hal
    subst hal
    have e1 := ne_empty a
    obtain ⟨r, d1, f1, f2, f3⟩ := pick_ok hd (by omega) (size := 3) (by omega)
    by_cases hr : 0 < r
    · refine ⟨a, d1, ha, f3.mono (by omega), ?_⟩
      simp [run_eV, e0, e1, run_eFnO', run_afterO', f1, hr]
    · obtain ⟨b, d', h1, h2, h3⟩ := oneOk f3 (by omega)
      refine ⟨b, d', h1, h2.mono (by omega), ?_⟩
      simp [run_eV, e0, e1, run_eFnO', run_afterO', f1, hr, h3]
theorem someWalk_ok {c : Int} {d : List PyData} {C : Cell} {most : Int} (hd : Dk c d) (hc : c < 800000) (hC : InL W H C) (hm : 0 ≤ most ∧ most ≤ 60) :
    ∃ (ws : List Wy) (d' : List PyData), F__law_some_walk d [encA W H ps, encZ C, .int most] = .ok (.str (encW ws), d') [] ∧ (ws.length : Int) ≤ most ∧ (∀ p ∈ path C ws, InL W H p) ∧ Dk (c + 121) d' := by
  obtain ⟨r, d1, e1, e2, e3⟩ := pick_ok hd (by omega) (size := most + 1) ⟨by omega, by omega⟩
  obtain ⟨ρ', e, d', ws, ln, s4, s7, s8, rfl, hD, hl, hp, hln, h8⟩ := forL_all (b := bName 4) (body := walkBody)
    (fun i ρ => ∃ (d' : List PyData) (ws : List Wy) (ln : Str) (s4 s7 s8 : Slot), ρ = [.own true d', .sh (encA W H ps), .sh (encZ (endC C ws)), .sh (.int most), s4, .sh (.str (encW ws)), .sh (.str ln), s7, s8, .non] ∧ Dk (c + 1 + 2 * i) d' ∧ ws.length ≤ i ∧ (∀ p ∈ path C ws, InL W H p) ∧ (ln = "" ∨ ∃ a : Wy, ln = a.chr) ∧ ∀ b ds, s8 ≠ .own b ds)
    (rngL 0 r.toNat) [.own true d1, .sh (encA W H ps), .sh (encZ C), .sh (.int most), .non, .sh (.str ""), .sh (.str ""), .non, .non, .non]
    ⟨d1, [], "", .non, .non, .non, rfl, e3.mono (by omega), Nat.le_refl _, fun p hp => by rw [List.mem_singleton.mp hp]; exact hC, .inl rfl, fun _ _ z => nomatch z⟩ (by
      rintro i x ρ hi ⟨d', ws, ln, s4, s7, s8, rfl, hD, hl, hp, hln, h8⟩
      have hlt : i < r.toNat := by
        have := (List.getElem?_eq_some_iff.mp hi).1
        rwa [rngL_len] at this
      have n1 := names_ok (W := W) (H := H) (ps := ps) (endC C ws) (.own true d') (.sh (.int most)) (.sh x) (.sh (.str (encW ws))) (.sh (.str ln)) s7 s8 h8
      have st1 : sSet 7 (eLst (eLc (iSeq (eFn F__law_ways (eCons (eV 1) (eCons (eV 2) eNil)))) (bTup (bCons (bName 8) (bCons (bName 9) bNil))) eYes (eV 8) [8, 9])) [.own true d', .sh (encA W H ps), .sh (encZ (endC C ws)), .sh (.int most), .sh x, .sh (.str (encW ws)), .sh (.str ln), s7, s8, .non]
          = .ok .nx [.own true d', .sh (encA W H ps), .sh (encZ (endC C ws)), .sh (.int most), .sh x, .sh (.str (encW ws)), .sh (.str ln), .sh (.list ((waysL W H (endC C ws)).map encT)), s8, .non] := by
        rw [run_sSet, run_eLst, n1]
        rfl
      by_cases hw : waysL W H (endC C ws) = []
      · refine ⟨_, [.own true d', .sh (encA W H ps), .sh (encZ (endC C ws)), .sh (.int most), .sh x, .sh (.str (encW ws)), .sh (.str ln), .sh (.list ((waysL W H (endC C ws)).map encT)), s8, .non], rfl, ?_, d', ws, ln, _, _, _, rfl, hD.mono (by omega), by omega, hp, hln, h8⟩
        show walkBody [.own true d', .sh (encA W H ps), .sh (encZ (endC C ws)), .sh (.int most), .sh x, .sh (.str (encW ws)), .sh (.str ln), s7, s8, .non] = _
        unfold walkBody
        rw [seq_nx st1, hw]
        simp [run_eV, op_nel]
      · have hwl : (waysL W H (endC C ws)).length ≤ 4 := by
          unfold waysL
          exact Nat.le_trans (List.length_filter_le _ _) (by decide)
        obtain ⟨a, d2, ha, hD2, st2⟩ := choose_ok (W := W) (H := H) (ps := ps) (C := endC C ws) (ln := ln) hD (by omega) (waysL W H (endC C ws)) hw hwl hln (.sh (.int most)) (.sh x) (.sh (.str (encW ws))) s8
        have hin : InL W H (stepW a (endC C ws)) := inLb_iff.mp (by
          unfold waysL at ha
          exact (List.mem_filter.mp ha).2)
        have hne : ((waysL W H (endC C ws)).map encT).isEmpty = false := by
          rw [isEmpty_map]
          cases q : waysL W H (endC C ws) with
          | nil => exact absurd q hw
          | cons _ _ => rfl
        refine ⟨_, [.own true d2, .sh (encA W H ps), .sh (encZ (endC C (ws ++ [a]))), .sh (.int most), .sh x, .sh (.str (encW (ws ++ [a]))), .sh (encT a), .sh (.list ((waysL W H (endC C ws)).map encT)), .sh (encT a), .non], rfl, ?_, d2, ws ++ [a], a.chr, _, _, _, rfl, hD2.mono (by omega), by rw [List.length_append]; exact Nat.succ_le_succ hl, fun p hp' => ?_, .inr ⟨a, rfl⟩, fun _ _ z => nomatch z⟩
        · show walkBody [.own true d', .sh (encA W H ps), .sh (encZ (endC C ws)), .sh (.int most), .sh x, .sh (.str (encW ws)), .sh (.str ln), s7, s8, .non] = _
          unfold walkBody
          rw [seq_nx st1]
          generalize hZ : (waysL W H (endC C ws)).map encT = Z at st2 hne
          have b1 := behind_ok a (endC C ws)
          have b2 : pAdd (.str (encW ws)) (.str a.chr) = some (.str (encW (ws ++ [a]))) := by
            show (if (encW ws).length + a.chr.length ≤ 1000000 then some (PyData.str (encW ws ++ a.chr)) else none) = _
            rw [encW_snoc, encW_len, if_pos (by
              have : a.chr.length = 1 := rfl
              omega)]
          rw [run_sIf, show eT (eBin pNe (eV 7) (eLst eNil)) [.own true d', .sh (encA W H ps), .sh (encZ (endC C ws)), .sh (.int most), .sh x, .sh (.str (encW ws)), .sh (.str ln), .sh (.list Z), s8, .non] = .ok true [.own true d', .sh (encA W H ps), .sh (encZ (endC C ws)), .sh (.int most), .sh x, .sh (.str (encW ws)), .sh (.str ln), .sh (.list Z), s8, .non] by simp [run_eV, op_nel, hne], run_ok, if_pos rfl, seq_nx st2]
          simp [run_eV, b1, b2, endC_snoc]
        · rw [path_snoc] at hp'
          rcases List.mem_append.mp hp' with q | q
          · exact hp p q
          · rw [List.mem_singleton.mp q]
            exact hin)
  rw [rngL_len] at hD hl
  refine ⟨ws, d', ?_, by omega, hp, hD.mono (by omega)⟩
  have r1 := rng_small (k := r) (by omega) (by omega)
  have st0 : sAsg (eTup (eCons (eC (.str "")) (eCons (eC (.str "")) eNil))) (bTup (bCons (bName 5) (bCons (bName 6) bNil))) [.own true d, .sh (encA W H ps), .sh (encZ C), .sh (.int most), .non, .non, .non, .non, .non, .non] = .ok .nx [.own true d, .sh (encA W H ps), .sh (encZ C), .sh (.int most), .non, .sh (.str ""), .sh (.str ""), .non, .non, .non] := rfl
  have st1 : sFor (iRng1 (eFnO 0 F__law_pick (eCons (eBin pAdd (eV 3) (eC (.int 1))) eNil))) (bName 4) walkBody [.own true d, .sh (encA W H ps), .sh (encZ C), .sh (.int most), .non, .sh (.str ""), .sh (.str ""), .non, .non, .non] = .ok .nx [.own true d', .sh (encA W H ps), .sh (encZ (endC C ws)), .sh (.int most), s4, .sh (.str (encW ws)), .sh (.str ln), s7, s8, .non] := by
    rw [run_sFor, show iRng1 (eFnO 0 F__law_pick (eCons (eBin pAdd (eV 3) (eC (.int 1))) eNil)) [.own true d, .sh (encA W H ps), .sh (encZ C), .sh (.int most), .non, .sh (.str ""), .sh (.str ""), .non, .non, .non] = .ok (rngL 0 r.toNat) [.own true d1, .sh (encA W H ps), .sh (encZ C), .sh (.int most), .non, .sh (.str ""), .sh (.str ""), .non, .non, .non] by simp [run_eV, run_eFnO', run_afterO', e1, r1], run_ok, e]
  have run : B__law_some_walk [.own true d, .sh (encA W H ps), .sh (encZ C), .sh (.int most), .non, .non, .non, .non, .non, .non] = .ok (.rt (.str (encW ws))) [.own true d', .sh (encA W H ps), .sh (encZ (endC C ws)), .sh (.int most), s4, .sh (.str (encW ws)), .sh (.str ln), s7, s8, .non] := by
    show sSeq _ (sSeq (sFor _ _ walkBody) _) _ = _
    rw [seq_nx st0, seq_nx st1]
    rfl
  exact fnB_rt (ρ0 := [.own true d, .sh (encA W H ps), .sh (encZ C), .sh (.int most), .non, .non, .non, .non, .non, .non]) rfl run rfl
end
end Atl

set_option Elab.async false
set_option linter.all false
set_option maxRecDepth 100000
set_option maxHeartbeats 1000000
namespace Atl
open PySem Dl
open L2 (atI ixN)
@[simp] theorem run_eStrM {ρ : Rho} (p : PyData → PyData → Option PyData) (fo fe : Rho → Rs PyData) : eStrM p fo fe ρ = (fo ρ).andThen fun a ρ => match a with
  | .str z => (fe ρ).andThen fun b ρ => opt (p (.str z) b) ρ
  | _ => .bad := rfl
@[simp] theorem run_iZip {ρ : Rho} (fa fb : Rho → Rs PyData) : iZip fa fb ρ = (fa ρ).andThen fun a ρ => (fb ρ).andThen fun b ρ => match a, b with
  | .list xs, .list ys => .ok ((xs.zip ys).map fun p => .tuple [p.1, p.2]) ρ
  | _, _ => .bad := rfl
/-! ### the next page -/
def absI (i : Int) : Int := if i < 0 then -i else i
def farD (p : PyData) (c : Cell) : Int := match p with
  | .tuple (.int l :: .int t :: .int w :: .int h :: _) => absI (2 * l + w - 2 * c.1 - 1) + absI (2 * t + h - 2 * c.2 - 1)
  | _ => 0
def arrowOf (p : PyData) (a : Wy) : PyData := match p with
  | .tuple [_, _, _, _, .tuple [a0, a1, a2, a3]] => (match a with
    | .n => a0
    | .e => a1
    | .s => a2
    | .w => a3)
  | _ => .none
def Wy.ix : Wy → Nat
  | .n => 0
  | .e => 1
  | .s => 2
  | .w => 3
theorem index_ok (a : Wy) : pIndexS (.str "nesw") (encT a) = some (encI a.ix) := by
  have e : Txt.index0 "nesw" a.chr = some a.ix := by cases a <;> decide +kernel
  show (Txt.index0 "nesw" a.chr).map (fun k => PyData.int (k : Nat)) = _
  rw [e]
  rfl
def bestL (f : Nat → Int) : Nat → List Nat → Nat
  | b, [] => b
  | b, k :: ks => bestL f (if f k < f b then k else b) ks
theorem bestL_mem (f : Nat → Int) : ∀ (ks : List Nat) (b : Nat), bestL f b ks ∈ b :: ks
  | [], b => List.mem_cons_self
  | k :: ks, b => by
    have := bestL_mem f ks (if f k < f b then k else b)
    show bestL f (if f k < f b then k else b) ks ∈ _
    rcases List.mem_cons.mp this with e | e
    · rw [e]
      split
      · simp
      · simp
    · exact List.mem_cons_of_mem _ (List.mem_cons_of_mem _ e)
def firstP (ps : List PyData) (c : Cell) : Nat := (heldL ps c.1 c.2).headD 0
def farN (ps : List PyData) (c : Cell) (k : Nat) : Int := farD (ps.getD k .none) c
def nextP (ps : List PyData) (r : Rl) (page : Nat) (a : Wy) (c : Cell) : Nat :=
  if page ∈ heldL ps c.1 c.2 then page else match r with
  | .arrow => (match arrowOf (ps.getD page .none) a with
    | .int k => if k.toNat ∈ heldL ps c.1 c.2 then k.toNat else firstP ps c
    | _ => firstP ps c)
  | .index => firstP ps c
  | .middle => bestL (farN ps c) (firstP ps c) (heldL ps c.1 c.2)
section
variable {W H : Int} {ps : List PyData} {c : Cell} {n : Nat} {p : PyData}
theorem lawFar_ok (hp : PageOk W H n p) : F__law_far [p, encZ c] = .ok (.int (farD p c)) [] := by
  obtain ⟨s, a0, a1, a2, a3, rfl, hs, _⟩ := hp
  have m := fun j : Int => op_mul (i := 2) (j := j) (.inl (by decide))
  have key : ∀ x : Int, (if x < -x then -x else x) = absI x := fun x => by
    unfold absI
    split <;> split <;> omega
  simp only [F__law_far, fnP, B__law_far]
  simp [run_eV, m, farD, key]
theorem distance_ok (hp : PageOk W H n p) : F_distance [p, encZ c] = .ok (.int (farD p c)) [] := by
  obtain ⟨s, a0, a1, a2, a3, rfl, hs, _⟩ := hp
  have m := fun j : Int => op_mul (i := 2) (j := j) (.inl (by decide))
  have ab : ∀ i : Int, pAbs [.int i] = some (.int (absI i)) := fun i => rfl
  simp only [F_distance, fnP, B_distance]
  have k2 : ∀ x y : Int, x = -y → absI x = absI y := fun x y h => by
    unfold absI
    split <;> split <;> omega
  simp [run_eV, m, ab, farD]
  rw [k2 (2 * c.1 + 1 - (2 * s.l + s.w)) (2 * s.l + s.w - 2 * c.1 - 1) (by omega), k2 (2 * c.2 + 1 - (2 * s.t + s.h)) (2 * s.t + s.h - 2 * c.2 - 1) (by omega)]
theorem held_ne (h : AtlasOk W H ps) (hc : InL W H c) : heldL ps c.1 c.2 ≠ [] := by
  obtain ⟨h1, h2, h3, h4⟩ := hc
  have := held_some h (c := (c.1.toNat, c.2.toNat)) (mem_cells.mpr ⟨by simp only; omega, by simp only; omega⟩)
  have e1 : ((c.1.toNat : Nat) : Int) = c.1 := by omega
  have e2 : ((c.2.toNat : Nat) : Int) = c.2 := by omega
  rw [e1, e2] at this
  intro e
  rw [e] at this
  cases this
theorem first_mem (h : AtlasOk W H ps) (hc : InL W H c) : firstP ps c ∈ heldL ps c.1 c.2 := by
  have := held_ne h hc
  unfold firstP
  cases q : heldL ps c.1 c.2 with
  | nil => exact absurd q this
  | cons k ks => exact List.mem_cons_self
theorem next_mem (h : AtlasOk W H ps) (hc : InL W H c) (r : Rl) (page : Nat) (a : Wy) : nextP ps r page a c ∈ heldL ps c.1 c.2 := by
  have hf := first_mem h hc
  by_cases hm : page ∈ heldL ps c.1 c.2
  · unfold nextP
    rw [if_pos hm]
    exact hm
  · cases r with
    | arrow =>
      unfold nextP
      rw [if_neg hm]
      cases arrowOf (ps.getD page .none) a with
      | int k =>
        by_cases hk : k.toNat ∈ heldL ps c.1 c.2
        · simp only [if_pos hk]; exact hk
        · simp only [if_neg hk]; exact hf
      | _ => exact hf
    | index =>
      unfold nextP
      rw [if_neg hm]
      exact hf
    | middle =>
      unfold nextP
      rw [if_neg hm]
      rcases List.mem_cons.mp (bestL_mem (farN ps c) (heldL ps c.1 c.2) (firstP ps c)) with e | e
      · simp only [e]; exact hf
      · exact e
theorem eqR (r : Rl) : pEq (encR r) (.str "arrow") = some (.bool (match r with | .arrow => true | _ => false)) ∧ pEq (encR r) (.str "middle") = some (.bool (match r with | .middle => true | _ => false)) ∧ pNe (encR r) (.str "middle") = some (.bool (match r with | .middle => false | _ => true)) := by
  cases r <;> exact ⟨rfl, rfl, rfl⟩
theorem arrow_at (h : AtlasOk W H ps) {page : Nat} (hp : page < ps.length) (a : Wy) : ∃ (x1 x2 x3 x4 : PyData) (ar : List PyData), ps.getD page .none = .tuple [x1, x2, x3, x4, .tuple ar] ∧ ar[a.ix]? = some (arrowOf (ps.getD page .none) a) ∧ ArrOk ps.length (arrowOf (ps.getD page .none) a) := by
  obtain ⟨s, a0, a1, a2, a3, e, hs, h0, h1, h2, h3⟩ := pg_at h.pg hp
  rw [e]
  cases a with
  | n => exact ⟨_, _, _, _, _, rfl, rfl, h0⟩
  | e => exact ⟨_, _, _, _, _, rfl, rfl, h1⟩
  | s => exact ⟨_, _, _, _, _, rfl, rfl, h2⟩
  | w => exact ⟨_, _, _, _, _, rfl, rfl, h3⟩
theorem in_none {L : List Nat} : pIn .none (.list (L.map encI)) = some (.bool false) := by
  show (if PyData.none.depth ≤ 60 then some (PyData.bool ((L.map encI).any fun w => PyData.eqv w .none)) else none) = _
  rw [if_pos (by simp [PyData.depth]), List.any_map]
  congr 2
  rw [List.any_eq_false]
  intro k _
  simp [PyData.eqv]
theorem best_loop (h : AtlasOk W H ps) (L : List Nat) (hL : ∀ k ∈ L, k < ps.length) : ∀ (b : Nat) (s1 s2 s3 s5 s7 s8 : Slot), b < ps.length → ∃ s7', forL (bName 7) (sIf (eT (eBin pLt (eFn F__law_far (eCons (eBin pIx (eBin pIx (eV 0) (eC (.int 2))) (eV 7)) (eCons (eV 4) eNil))) (eFn F__law_far (eCons (eBin pIx (eBin pIx (eV 0) (eC (.int 2))) (eV 6)) (eCons (eV 4) eNil))))) (sSet 6 (eV 7)) sNil)
    (L.map encI) [.sh (encA W H ps), s1, s2, s3, .sh (encZ c), s5, .sh (encI b), s7, s8] = .ok .nx [.sh (encA W H ps), s1, s2, s3, .sh (encZ c), s5, .sh (encI (bestL (farN ps c) b L)), s7', s8] := by
  induction L with
  | nil => exact fun b s1 s2 s3 s5 s7 s8 _ => ⟨s7, rfl⟩
  | cons k L ih =>
    intro b s1 s2 s3 s5 s7 s8 hb
    have hk := hL k List.mem_cons_self
    obtain ⟨s7', e⟩ := ih (fun j hj => hL j (List.mem_cons_of_mem _ hj)) (if farN ps c k < farN ps c b then k else b) s1 s2 s3 s5 (.sh (encI k)) s8 (by split <;> assumption)
    refine ⟨s7', ?_⟩
    have f1 := lawFar_ok (c := c) (pg_at h.pg hk)
    have f2 := lawFar_ok (c := c) (pg_at h.pg hb)
    have i1 := atI_getD hk
    have i2 := atI_getD hb
    show (match bName 7 (encI k) [.sh (encA W H ps), s1, s2, s3, .sh (encZ c), s5, .sh (encI b), s7, s8] with | some ρ1 => (sIf _ _ _ ρ1).andThen (loopS (forL _ _ (L.map encI))) | none => Rs.bad) = _
    rw [run_bName]
    show (sIf _ _ _ [.sh (encA W H ps), s1, s2, s3, .sh (encZ c), s5, .sh (encI b), .sh (encI k), s8]).andThen (loopS (forL _ _ (L.map encI))) = _
    have hlt : (decide (farD (ps.getD k .none) c < farD (ps.getD b .none) c)) = decide (farN ps c k < farN ps c b) := rfl
    rw [show sIf (eT (eBin pLt (eFn F__law_far (eCons (eBin pIx (eBin pIx (eV 0) (eC (.int 2))) (eV 7)) (eCons (eV 4) eNil))) (eFn F__law_far (eCons (eBin pIx (eBin pIx (eV 0) (eC (.int 2))) (eV 6)) (eCons (eV 4) eNil))))) (sSet 6 (eV 7)) sNil [.sh (encA W H ps), s1, s2, s3, .sh (encZ c), s5, .sh (encI b), .sh (encI k), s8] = .ok .nx [.sh (encA W H ps), s1, s2, s3, .sh (encZ c), s5, .sh (encI (if farN ps c k < farN ps c b then k else b)), .sh (encI k), s8] by
      generalize hgk : ps.getD k .none = pk at *
      generalize hgb : ps.getD b .none = pb at *
      by_cases hq : farN ps c k < farN ps c b
      · have hq' : farD pk c < farD pb c := by unfold farN at hq; rw [hgk, hgb] at hq; exact hq
        simp [run_eV, i1, i2, f1, f2, hq, hq']
      · have hq' : ¬ farD pk c < farD pb c := by unfold farN at hq; rw [hgk, hgb] at hq; exact hq
        simp [run_eV, i1, i2, f1, f2, hq, hq']]
    exact e
theorem lawNext_ok (h : AtlasOk W H ps) (hc : InL W H c) (r : Rl) {page : Nat} (hp : page < ps.length) (a : Wy) : F__law_next [encA W H ps, encR r, encI page, encT a, encZ c] = .ok (encI (nextP ps r page a c)) [] := by
  have h6 := h.n6
  have e1 := lawHeldBy_ok (x := c.1) (y := c.2) h.pg (by omega)
  have e2 := pIn_lst (L := heldL ps c.1 c.2) (k := page)
  obtain ⟨q1, q2, q3⟩ := eqR r
  obtain ⟨x1, x2, x3, x4, ar, g1, g2, g3⟩ := arrow_at h hp a
  have i1 := atI_getD hp
  have i2 := index_ok a
  have i3 : atI ar ((a.ix : Nat) : Int) = some (arrowOf (ps.getD page .none) a) := by rw [atI_nat]; exact g2
  have f0 : atI ((heldL ps c.1 c.2).map encI) 0 = some (encI (firstP ps c)) := by
    have := held_ne h hc
    unfold firstP
    cases q : heldL ps c.1 c.2 with
    | nil => exact absurd q this
    | cons k ks => simp
  by_cases hm : page ∈ heldL ps c.1 c.2
  · have en : nextP ps r page a c = page := by unfold nextP; rw [if_pos hm]
    rw [en]
    simp [F__law_next, fnP, B__law_next, run_eV, e1, e2, hm]
  · rw [g1] at i1
    cases r with
    | arrow =>
      unfold nextP
      rw [if_neg hm]
      generalize hav : arrowOf (ps.getD page .none) a = av at *
      rcases g3 with rfl | ⟨k, rfl, k0, k1⟩
      · simp [F__law_next, fnP, B__law_next, run_eV, e1, e2, hm, q1, q3, i1, i2, i3, in_none, f0]
      · obtain ⟨k', rfl⟩ : ∃ k' : Nat, k = (k' : Int) := ⟨k.toNat, by omega⟩
        have e3 := pIn_lst (L := heldL ps c.1 c.2) (k := k')
        by_cases hk : k' ∈ heldL ps c.1 c.2
        · simp [F__law_next, fnP, B__law_next, run_eV, e1, e2, hm, q1, q3, i1, i2, i3, e3, f0, hk]
        · simp [F__law_next, fnP, B__law_next, run_eV, e1, e2, hm, q1, q3, i1, i2, i3, e3, f0, hk]
    | index =>
      unfold nextP
      rw [if_neg hm]
      simp [F__law_next, fnP, B__law_next, run_eV, e1, e2, hm, q1, q3, f0]
    | middle =>
      unfold nextP
      rw [if_neg hm]
      obtain ⟨s7', bl⟩ := best_loop (c := c) h (heldL ps c.1 c.2) (fun k hk => (mem_held.mp hk).1) (firstP ps c) (.sh (encR .middle)) (.sh (encI page)) (.sh (encT a)) (.sh (.list ((heldL ps c.1 c.2).map encI))) .non .non (mem_held.mp (first_mem h hc)).1
      simp [F__law_next, fnP, B__law_next, run_eV, e1, e2, hm, q1, q3, f0, bl]
end
end Atl

set_option Elab.async false
set_option linter.all false
set_option maxRecDepth 100000
set_option maxHeartbeats 1000000
namespace Atl
open PySem Dl
open L2 (atI ixN)
section
variable {W H : Int} {ps : List PyData} {c : Cell}
theorem held_sorted {x y : Int} : (heldL ps x y).Pairwise (· < ·) := by
  unfold heldL
  exact List.Pairwise.filter _ List.pairwise_lt_range
abbrev encN (f : Nat → Int) (k : Nat) : PyData := .tuple [.int (f k), encI k]
theorem minD_best (f : Nat → Int) : ∀ (ks : List Nat) (b : Nat), (∀ k ∈ ks, b < k) → ks.Pairwise (· < ·) → PySem.W.minD (encN f b) (ks.map (encN f)) = encN f (bestL f b ks)
  | [], _, _, _ => rfl
  | k :: ks, b, hb, hs => by
    obtain ⟨s1, s2⟩ := List.pairwise_cons.mp hs
    have hk := hb k List.mem_cons_self
    have e : PySem.W.minD (encN f b) ((k :: ks).map (encN f)) = PySem.W.minD (encN f (if f k < f b then k else b)) (ks.map (encN f)) := by
      show (ks.map (encN f)).foldl _ (if PySem.W.dataLt (encN f k) (encN f b) = true then encN f k else encN f b) = _
      rw [PySem.W.dataLt_ii]
      unfold PySem.W.minD
      congr 1
      by_cases h : f k < f b
      · simp [h]
      · have : ¬ (k < b) := by omega
        simp [h, this]
    rw [e, minD_best f ks _ (fun j hj => by
      have h1 := s1 j hj
      have h2 := hb j (List.mem_cons_of_mem _ hj)
      split <;> assumption) s2]
    rfl
theorem nearest_ok (h : AtlasOk W H ps) (hc : InL W H c) : F_nearest [encA W H ps, encZ c] = .ok (encI (bestL (farN ps c) (firstP ps c) (heldL ps c.1 c.2))) [] := by
  have h6 := h.n6
  have hl := held_len (ps := ps) (x := c.1) (y := c.2)
  have e0 := pagesOf_ok (x := c.1) (y := c.2) h.pg (by omega)
  have e1 := lc_map (fi := iSeq (eFn F_pages_of (eCons (eV 0) (eCons (eV 1) eNil)))) (b := bName 2) (fe := eTup (eCons (eFn F_distance (eCons (eBin pIx (eBin pIx (eV 0) (eC (.int 2))) (eV 2)) (eCons (eV 1) eNil))) (eCons (eV 2) eNil))) (vs := [2])
    (ρ := [.sh (encA W H ps), .sh (encZ c), .non]) (ρ1 := [.sh (encA W H ps), .sh (encZ c), .non]) (heldL ps c.1 c.2) encI (encN (farN ps c)) (by simp [run_eV, e0]) (by omega) (by simp [wipeR, unwipeR]) (fun k hk => by
      have hk' := (mem_held.mp hk).1
      have e2 := atI_getD hk'
      have e3 := distance_ok (c := c) (pg_at h.pg hk')
      simp [StepM, wipeR, run_eV, e2, e3, -List.getD_eq_getElem?_getD]
      rfl)
  have e4 : pMin1 [.list ((heldL ps c.1 c.2).map (encN (farN ps c)))] = some (encN (farN ps c) (bestL (farN ps c) (firstP ps c) (heldL ps c.1 c.2))) := by
    have hs := held_sorted (ps := ps) (x := c.1) (y := c.2)
    unfold firstP
    cases q : heldL ps c.1 c.2 with
    | nil => exact absurd q (held_ne h hc)
    | cons k ks =>
      rw [q] at hs
      obtain ⟨s1, s2⟩ := List.pairwise_cons.mp hs
      have hd : ∀ l : List Nat, PyData.depthAll (l.map (encN (farN ps c))) ≤ 1 := by
        intro l
        induction l with
        | nil => simp [PyData.depthAll]
        | cons a l ih =>
          rw [List.map_cons]
          simp only [PyData.depthAll]
          have : (encN (farN ps c) a).depth = 1 := by simp [PyData.depth, PyData.depthAll]
          omega
      have hcond : PySem.W.AlikeAll (encN (farN ps c) k :: ks.map (encN (farN ps c))) ∧ PyData.depthAll (encN (farN ps c) k :: ks.map (encN (farN ps c))) ≤ 60 := by
        rw [← List.map_cons]
        refine ⟨⟨fun a ha b hb => ?_, fun a ha => ?_⟩, by have := hd (k :: ks); omega⟩
        · obtain ⟨p, _, rfl⟩ := List.mem_map.mp ha
          obtain ⟨q, _, rfl⟩ := List.mem_map.mp hb
          simp [PySem.W.alike, PySem.W.alikeAll]
        · obtain ⟨p, _, rfl⟩ := List.mem_map.mp ha
          exact fun z => nomatch z
      rw [List.map_cons]
      unfold pMin1
      simp only
      rw [if_pos hcond, minD_best _ _ _ s1 s2]
      show some (encN (farN ps c) (bestL (farN ps c) k ks)) = some (encN (farN ps c) (bestL (farN ps c) k (k :: ks)))
      show _ = some (encN (farN ps c) (bestL (farN ps c) (if farN ps c k < farN ps c k then k else k) ks))
      rw [if_neg (by omega)]
  simp [F_nearest, fnP, B_nearest, e1, e4]
theorem nextPage_ok (h : AtlasOk W H ps) (hc : InL W H c) (r : Rl) {page : Nat} (hp : page < ps.length) (a : Wy) : F_next_page [encA W H ps, encR r, encI page, encT a, encZ c] = .ok (encI (nextP ps r page a c)) [] := by
  have h6 := h.n6
  have e0 := pagesOf_ok (x := c.1) (y := c.2) h.pg (by omega)
  have hh : ∀ k, k < ps.length → F_holds [ps.getD k .none, encZ c] = .ok (.bool (decide (k ∈ heldL ps c.1 c.2))) [] := fun k hk => by
    rw [holds_ok (x := c.1) (y := c.2) (pg_at h.pg hk)]
    congr 2
    rw [Bool.eq_iff_iff, decide_eq_true_eq, mem_held]
    exact ⟨fun z => ⟨hk, z⟩, fun z => z.2⟩
  have e2 := hh page hp
  obtain ⟨q1, q2, q3⟩ := eqR r
  obtain ⟨x1, x2, x3, x4, ar, g1, g2, g3⟩ := arrow_at h hp a
  have i1 := atI_getD hp
  have i2 := index_ok a
  have i3 : atI ar ((a.ix : Nat) : Int) = some (arrowOf (ps.getD page .none) a) := by rw [atI_nat]; exact g2
  have f0 : atI ((heldL ps c.1 c.2).map encI) 0 = some (encI (firstP ps c)) := by
    have := held_ne h hc
    unfold firstP
    cases q : heldL ps c.1 c.2 with
    | nil => exact absurd q this
    | cons k ks => simp
  rw [g1] at e2
  by_cases hm : page ∈ heldL ps c.1 c.2
  · have en : nextP ps r page a c = page := by unfold nextP; rw [if_pos hm]
    rw [en]
    rw [g1] at i1
    simp [F_next_page, fnP, B_next_page, run_eV, i1, e2, hm]
  · rw [g1] at i1
    have nr := nearest_ok h hc
    cases r with
    | arrow =>
      unfold nextP
      rw [if_neg hm]
      generalize hav : arrowOf (ps.getD page .none) a = av at *
      rcases g3 with rfl | ⟨k, rfl, k0, k1⟩
      · simp [F_next_page, fnP, B_next_page, run_eV, e0, e2, hm, q1, q2, i1, i2, i3, f0]
      · obtain ⟨k', rfl⟩ : ∃ k' : Nat, k = (k' : Int) := ⟨k.toNat, by omega⟩
        have hk' : k' < ps.length := by omega
        have e3 := hh k' hk'
        have i4 := atI_getD hk'
        generalize ps.getD k' .none = pk at e3 i4
        by_cases hk : k' ∈ heldL ps c.1 c.2
        · simp [F_next_page, fnP, B_next_page, run_eV, e0, e2, hm, q1, q2, i1, i2, i3, i4, e3, f0, hk]
        · simp [F_next_page, fnP, B_next_page, run_eV, e0, e2, hm, q1, q2, i1, i2, i3, i4, e3, f0, hk]
    | index =>
      unfold nextP
      rw [if_neg hm]
      simp [F_next_page, fnP, B_next_page, run_eV, e0, e2, hm, q1, q2, i1, i2, i3, f0]
    | middle =>
      unfold nextP
      rw [if_neg hm]
      simp [F_next_page, fnP, B_next_page, run_eV, e0, e2, hm, q1, q2, i1, i2, i3, f0, nr]
end
end Atl

set_option Elab.async false
set_option linter.all false
set_option maxRecDepth 100000
set_option maxHeartbeats 1000000
namespace Atl
open PySem Dl
open L2 (atI ixN)
def readP (ps : List PyData) (r : Rl) : Nat → Cell → List Wy → List Nat
  | _, _, [] => []
  | p, c, a :: ws => nextP ps r p a (stepW a c) :: readP ps r (nextP ps r p a (stepW a c)) (stepW a c) ws
theorem readP_len (ps : List PyData) (r : Rl) : ∀ (ws : List Wy) (p : Nat) (c : Cell), (readP ps r p c ws).length = ws.length
  | [], _, _ => rfl
  | a :: ws, p, c => by
    show (readP ps r _ _ ws).length + 1 = _
    rw [readP_len ps r ws]
    rfl
theorem path_head : ∀ (ws : List Wy) (c : Cell), c ∈ path c ws
  | [], _ => List.mem_cons_self
  | _ :: _, _ => List.mem_cons_self
section
variable {W H : Int} {ps : List PyData} {r : Rl}
theorem lawRead_loop (h : AtlasOk W H ps) (s4 : Slot) : ∀ (ws : List Wy) (p : Nat) (c : Cell) (acc : List Nat) (s6 : Slot), (∀ q ∈ path c ws, InL W H q) → p < ps.length → acc.length + ws.length ≤ 1000 →
    ∃ (s6' : Slot) (p' : Nat) (c' : Cell), forL (bName 6) (sSeq (sSet 2 (eFn F__law_behind (eCons (eV 2) (eCons (eV 6) eNil)))) (sSeq (sSet 3 (eFn F__law_next (eCons (eV 0) (eCons (eV 1) (eCons (eV 3) (eCons (eV 6) (eCons (eV 2) eNil))))))) (sApp 5 (eV 3))))
      (ws.map encT) [.sh (encA W H ps), .sh (encR r), .sh (encZ c), .sh (encI p), s4, .own false (acc.map encI), s6] = .ok .nx [.sh (encA W H ps), .sh (encR r), .sh (encZ c'), .sh (encI p'), s4, .own false ((acc ++ readP ps r p c ws).map encI), s6']
  | [], p, c, acc, s6, _, _, _ => ⟨s6, p, c, by rw [show readP ps r p c [] = [] from rfl, List.append_nil]; rfl⟩
  | a :: ws, p, c, acc, s6, hp, hlt, hl => by
    have hin : InL W H (stepW a c) := hp _ (List.mem_cons_of_mem _ (path_head ws _))
    have hn := (mem_held.mp (next_mem h hin r p a)).1
    rw [List.length_cons] at hl
    obtain ⟨s6', p', c', e⟩ := lawRead_loop h s4 ws (nextP ps r p a (stepW a c)) (stepW a c) (acc ++ [nextP ps r p a (stepW a c)]) (.sh (encT a)) (fun q hq => hp q (List.mem_cons_of_mem _ hq)) hn (by rw [List.length_append]; simp; omega)
    refine ⟨s6', p', c', ?_⟩
    have b1 := behind_ok a c
    have b2 := lawNext_ok h hin r hlt a
    have hz : acc.length < 1000000 := by omega
    show (sSeq _ _ [.sh (encA W H ps), .sh (encR r), .sh (encZ c), .sh (encI p), s4, .own false (acc.map encI), .sh (encT a)]).andThen (loopS (forL _ _ (ws.map encT))) = _
    rw [show sSeq (sSet 2 (eFn F__law_behind (eCons (eV 2) (eCons (eV 6) eNil)))) (sSeq (sSet 3 (eFn F__law_next (eCons (eV 0) (eCons (eV 1) (eCons (eV 3) (eCons (eV 6) (eCons (eV 2) eNil))))))) (sApp 5 (eV 3))) [.sh (encA W H ps), .sh (encR r), .sh (encZ c), .sh (encI p), s4, .own false (acc.map encI), .sh (encT a)] = .ok .nx [.sh (encA W H ps), .sh (encR r), .sh (encZ (stepW a c)), .sh (encI (nextP ps r p a (stepW a c))), s4, .own false ((acc ++ [nextP ps r p a (stepW a c)]).map encI), .sh (encT a)] by
      simp [run_eV, b1, b2, run_sApp, run_ownAt', hz]]
    rw [run_ok]
    show forL _ _ (ws.map encT) _ = _
    rw [e, List.append_assoc]
    rfl
theorem open_loop (h : AtlasOk W H ps) (s4 : Slot) : ∀ (ws : List Wy) (p : Nat) (c : Cell) (acc : List Nat) (s6 : Slot), (∀ q ∈ path c ws, InL W H q) → p < ps.length → acc.length + ws.length ≤ 1000 →
    ∃ (s6' : Slot) (p' : Nat) (c' : Cell), forL (bName 6) (sSeq (sSet 2 (eFn F_moved (eCons (eV 2) (eCons (eV 6) eNil)))) (sSeq (sSet 3 (eFn F_next_page (eCons (eV 0) (eCons (eV 1) (eCons (eV 3) (eCons (eV 6) (eCons (eV 2) eNil))))))) (sSet 5 (eBin pAdd (eV 5) (eLst (eCons (eV 3) eNil))))))
      (ws.map encT) [.sh (encA W H ps), .sh (encR r), .sh (encZ c), .sh (encI p), s4, .sh (.list (acc.map encI)), s6] = .ok .nx [.sh (encA W H ps), .sh (encR r), .sh (encZ c'), .sh (encI p'), s4, .sh (.list ((acc ++ readP ps r p c ws).map encI)), s6']
  | [], p, c, acc, s6, _, _, _ => ⟨s6, p, c, by rw [show readP ps r p c [] = [] from rfl, List.append_nil]; rfl⟩
  | a :: ws, p, c, acc, s6, hp, hlt, hl => by
    have hin : InL W H (stepW a c) := hp _ (List.mem_cons_of_mem _ (path_head ws _))
    have hn := (mem_held.mp (next_mem h hin r p a)).1
    rw [List.length_cons] at hl
    obtain ⟨s6', p', c', e⟩ := open_loop h s4 ws (nextP ps r p a (stepW a c)) (stepW a c) (acc ++ [nextP ps r p a (stepW a c)]) (.sh (encT a)) (fun q hq => hp q (List.mem_cons_of_mem _ hq)) hn (by rw [List.length_append]; simp; omega)
    refine ⟨s6', p', c', ?_⟩
    have b1 := moved_ok a c
    have b2 := nextPage_ok h hin r hlt a
    have hz : acc.length + 1 ≤ 1000000 := by omega
    show (sSeq _ _ [.sh (encA W H ps), .sh (encR r), .sh (encZ c), .sh (encI p), s4, .sh (.list (acc.map encI)), .sh (encT a)]).andThen (loopS (forL _ _ (ws.map encT))) = _
    rw [show sSeq (sSet 2 (eFn F_moved (eCons (eV 2) (eCons (eV 6) eNil)))) (sSeq (sSet 3 (eFn F_next_page (eCons (eV 0) (eCons (eV 1) (eCons (eV 3) (eCons (eV 6) (eCons (eV 2) eNil))))))) (sSet 5 (eBin pAdd (eV 5) (eLst (eCons (eV 3) eNil))))) [.sh (encA W H ps), .sh (encR r), .sh (encZ c), .sh (encI p), s4, .sh (.list (acc.map encI)), .sh (encT a)] = .ok .nx [.sh (encA W H ps), .sh (encR r), .sh (encZ (stepW a c)), .sh (encI (nextP ps r p a (stepW a c))), s4, .sh (.list ((acc ++ [nextP ps r p a (stepW a c)]).map encI)), .sh (encT a)] by
      simp [run_eV, b1, b2, op_catl, hz]]
    rw [run_ok]
    show forL _ _ (ws.map encT) _ = _
    rw [e, List.append_assoc]
    rfl
theorem lawRead_ok (h : AtlasOk W H ps) {c : Cell} {ws : List Wy} {p : Nat} (hw : WalkOk W H c ws) (hp : p < ps.length) : F__law_read [encA W H ps, encR r, encZ c, encI p, .str (encW ws)] = .ok (.list ((readP ps r p c ws).map encI)) [] := by
  have hl := hw.len
  obtain ⟨s6', p', c', e⟩ := lawRead_loop (r := r) h (.sh (.str (encW ws))) ws p c [] .non hw.inl hp (by simp; omega)
  rw [List.nil_append] at e
  simp only [List.map_nil] at e
  simp [F__law_read, fnP, B__law_read, run_eV, itemsOf, signs_W, e]
theorem open_ok (h : AtlasOk W H ps) {c : Cell} {ws : List Wy} {p : Nat} (hw : WalkOk W H c ws) (hp : p < ps.length) : F_pages_open [encA W H ps, encR r, encZ c, encI p, .str (encW ws)] = .ok (.list ((readP ps r p c ws).map encI)) [] := by
  have hl := hw.len
  obtain ⟨s6', p', c', e⟩ := open_loop (r := r) h (.sh (.str (encW ws))) ws p c [] .non hw.inl hp (by simp; omega)
  rw [List.nil_append] at e
  simp only [List.map_nil] at e
  simp [F_pages_open, fnP, B_pages_open, run_eV, itemsOf, signs_W, e]
theorem opened_ok (h : AtlasOk W H ps) {c : Cell} {ws : List Wy} {p : Nat} (hw : WalkOk W H c ws) (hp : p ∈ heldL ps c.1 c.2) : F_opened [encA W H ps, encR r, .int c.1, .int c.2, encI p, .str (encW ws)] = .ok (.list ((readP ps r p c ws).map encI)) [] := by
  have hc : InL W H c := hw.inl _ (path_head ws c)
  have e1 := needReading_ok h r hc hp hw
  have e2 := open_ok (r := r) h hw (mem_held.mp hp).1
  simp [F_opened, fnP, B_opened, run_eV, e1, e2]
/-! ### turns -/
def chg (L : List Nat) : Nat := ((List.range (L.length - 1)).filter fun k => !decide (L.getD k 0 = L.getD (k + 1) 0)).length
theorem cut_drop (xs : List PyData) (k : Nat) : cutD xs (some (k : Int)) none = xs.drop k := by
  unfold cutD
  rw [HT.sIx_nat]
  show (xs.drop (min k xs.length)).take (xs.length - min k xs.length) = _
  by_cases h : k ≤ xs.length
  · rw [Nat.min_eq_left h]
    exact List.take_of_length_le (by rw [List.length_drop]; exact Nat.le_refl _)
  · rw [Nat.min_eq_right (by omega), List.drop_of_length_le (by omega), List.drop_of_length_le (by omega)]
    simp
theorem at_nats (L : List Nat) {j : Nat} (h : j < L.length) : (L.map encI)[j]? = some (encI (L.getD j 0)) := by
  rw [List.getElem?_map, List.getElem?_eq_getElem h, List.getD_eq_getElem?_getD, List.getElem?_eq_getElem h]
  rfl
theorem zip_pairs (L : List Nat) : (((L.map encI).zip ((L.map encI).drop 1)).map fun p => PyData.tuple [p.1, p.2]) = (List.range (L.length - 1)).map fun k => .tuple [encI (L.getD k 0), encI (L.getD (k + 1) 0)] := by
  refine List.ext_getElem? fun i => ?_
  rw [List.getElem?_map, List.getElem?_map]
  by_cases h : i < L.length - 1
  · have z : ((L.map encI).zip ((L.map encI).drop 1))[i]? = some (encI (L.getD i 0), encI (L.getD (i + 1) 0)) := List.getElem?_zip_eq_some.mpr ⟨at_nats L (by omega), by
      rw [List.getElem?_drop, Nat.add_comm 1 i]
      exact at_nats L (by omega)⟩
    rw [List.getElem?_range h, z]
    rfl
  · rw [List.getElem?_eq_none (by rw [List.length_zip, List.length_drop, List.length_map]; omega), List.getElem?_eq_none (by rw [List.length_range]; omega)]
    rfl
theorem countTurns_ok (L : List Nat) (hl : L.length ≤ 1000) : F_count_turns [.list (L.map encI)] = .ok (.int (chg L : Nat)) [] := by
  have hc : cutD (L.map encI) (some 1) none = (L.map encI).drop 1 := cut_drop _ 1
  have hz := zip_pairs L
  have e := lc_filter (fi := iZip (eV 0) (eSl (eV 0) (eP (eC (.int 1))) eNoP)) (b := bTup (bCons (bName 1) (bCons (bName 2) bNil))) (ft := eT (eBin pNe (eV 1) (eV 2))) (fe := eC (.int 1)) (vs := [1, 2])
    (ρ := [.sh (.list (L.map encI)), .non, .non]) (ρ1 := [.sh (.list (L.map encI)), .non, .non]) (List.range (L.length - 1)) (fun k => .tuple [encI (L.getD k 0), encI (L.getD (k + 1) 0)]) (fun k => !decide (L.getD k 0 = L.getD (k + 1) 0)) (fun _ => .int 1)
    (by
      simp only [run_iZip, run_eSl, run_eV_sh (ρ := [.sh (.list (L.map encI)), .non, .non]) (i := 0) (d := .list (L.map encI)) rfl, run_ok, run_eP, run_eC, run_eNoP]
      show (opt (pSl (.list (L.map encI)) (some 1) none) _).andThen _ = _
      rw [show pSl (.list (L.map encI)) (some 1) none = some (.list (cutD (L.map encI) (some 1) none)) from rfl, hc, run_some, run_ok]
      show Rs.ok (((L.map encI).zip ((L.map encI).drop 1)).map fun p => PyData.tuple [p.1, p.2]) _ = _
      rw [hz]) (by rw [List.length_range]; omega) (by simp [wipeR, unwipeR])
    (fun k hk => by
      have := ne_nats (a := L.getD k 0) (b := L.getD (k + 1) 0)
      generalize L.getD k 0 = u at *
      generalize L.getD (k + 1) 0 = v at *
      simp [StepF, wipeR, run_eV, this, -op_nei])
  simp [F_count_turns, fnP, B_count_turns, e, chg, -List.getD_eq_getElem?_getD]
theorem changes_ok (L : List Nat) (hl : L.length ≤ 1000) : F__law_changes [.list (L.map encI)] = .ok (.int (chg L : Nat)) [] := by
  have r1 : (-1000000 ≤ (L.length : Int) ∧ (L.length : Int) ≤ 1000000) := by omega
  have hr : rngL 1 (L.length - 1) = (List.range (L.length - 1)).map fun k => encI (k + 1) := by
    unfold rngL
    refine List.map_congr_left fun k _ => ?_
    show PyData.int _ = PyData.int _
    congr 1
    omega
  have e := lc_filter (fi := iRng2 (eC (.int 1)) (eCall pLen (eCons (eV 0) eNil))) (b := bName 1) (ft := eT (eBin pNe (eBin pIx (eV 0) (eV 1)) (eBin pIx (eV 0) (eBin pSub (eV 1) (eC (.int 1)))))) (fe := eV 1) (vs := [1])
    (ρ := [.sh (.list (L.map encI)), .non]) (ρ1 := [.sh (.list (L.map encI)), .non]) (List.range (L.length - 1)) (fun k => encI (k + 1)) (fun k => !decide (L.getD k 0 = L.getD (k + 1) 0)) (fun k => encI (k + 1))
    (by simp [run_eV, r1, hr]) (by rw [List.length_range]; omega) (by simp [wipeR, unwipeR])
    (fun k hk => by
      have hk' := List.mem_range.mp hk
      have a1 : atI (L.map encI) ((k : Int) + 1) = some (encI (L.getD (k + 1) 0)) := by
        rw [show (k : Int) + 1 = ((k + 1 : Nat) : Int) by omega, atI_nat, List.getElem?_map, List.getElem?_eq_getElem (by omega), List.getD_eq_getElem?_getD, List.getElem?_eq_getElem (by omega)]
        rfl
      have a2 : atI (L.map encI) (k : Int) = some (encI (L.getD k 0)) := by
        rw [atI_nat, List.getElem?_map, List.getElem?_eq_getElem (by omega), List.getD_eq_getElem?_getD, List.getElem?_eq_getElem (by omega)]
        rfl
      have := ne_nats (a := L.getD (k + 1) 0) (b := L.getD k 0)
      have hs : (k : Int) + 1 - 1 = k := by omega
      generalize L.getD k 0 = u at *
      generalize L.getD (k + 1) 0 = v at *
      have hd : (!decide (v = u)) = !decide (u = v) := by
        by_cases q : u = v
        · simp [q]
        · have : ¬ v = u := fun z => q z.symm
          simp [q, this]
      rw [hd] at this
      simp [StepF, wipeR, run_eV, a1, a2, hs, this, -op_nei])
  simp [F__law_changes, fnP, B__law_changes, e, chg, -List.getD_eq_getElem?_getD]
theorem turns_ok (h : AtlasOk W H ps) {c : Cell} {ws : List Wy} {p : Nat} (hw : WalkOk W H c ws) (hp : p ∈ heldL ps c.1 c.2) : F_turns [encA W H ps, encR r, .int c.1, .int c.2, encI p, .str (encW ws)] = .ok (.int (chg (p :: readP ps r p c ws) : Nat)) [] := by
  have hc : InL W H c := hw.inl _ (path_head ws c)
  have e1 := needReading_ok h r hc hp hw
  have e2 := open_ok (r := r) h hw (mem_held.mp hp).1
  have hl := readP_len ps r ws p c
  have hwl := hw.len
  have e3 := countTurns_ok (p :: readP ps r p c ws) (by rw [List.length_cons]; omega)
  have o := op_catl (xs := [encI p]) (ys := (readP ps r p c ws).map encI) (by rw [List.length_map]; simp; omega)
  rw [List.map_cons] at e3
  simp at o
  simp [F_turns, fnP, B_turns, run_eV, e1, e2, o, e3]
end
end Atl

set_option Elab.async false
set_option linter.all false
set_option maxRecDepth 100000
set_option maxHeartbeats 1000000
namespace Atl
open PySem Dl
open L2 (atI ixN)
/-! ### texts: cutting what was joined -/
theorem cut_uniq {α : Type} {c : α} : ∀ {a b r s : List α}, c ∉ a → c ∉ b → a ++ c :: r = b ++ c :: s → a = b ∧ r = s
  | [], [], r, s, _, _, h => ⟨rfl, by simpa using h⟩
  | [], y :: b, r, s, _, hb, h => by
    rw [List.nil_append, List.cons_append, List.cons.injEq] at h
    exact absurd (h.1 ▸ List.mem_cons_self) hb
  | x :: a, [], r, s, ha, _, h => by
    rw [List.nil_append, List.cons_append, List.cons.injEq] at h
    exact absurd (h.1 ▸ List.mem_cons_self) ha
  | x :: a, y :: b, r, s, ha, hb, h => by
    rw [List.cons_append, List.cons_append, List.cons.injEq] at h
    obtain ⟨e1, e2⟩ := cut_uniq (fun q => ha (List.mem_cons_of_mem _ q)) (fun q => hb (List.mem_cons_of_mem _ q)) h.2
    exact ⟨by rw [h.1, e1], e2⟩
theorem cps_cat (a b : Str) : (a ++ b).cps.toList = a.cps.toList ++ b.cps.toList := by
  rw [Str.cps_append, Array.toList_append]
theorem str_ext {a b : Str} (h : a.cps.toList = b.cps.toList) : a = b := Str.ext' (Array.toList_inj.mp h)
theorem join_uniq (c : Nat) : ∀ (ws us : List Str), ws ≠ [] → us ≠ [] → (∀ w ∈ ws, c ∉ w.cps.toList) → (∀ w ∈ us, c ∉ w.cps.toList) → Str.join ⟨#[c]⟩ ws = Str.join ⟨#[c]⟩ us → ws = us
  | [], _, h, _, _, _, _ => absurd rfl h
  | _, [], _, h, _, _, _ => absurd rfl h
  | [w], [u], _, _, _, _, e => by
    have e : w = u := e
    rw [e]
  | [w], u :: u2 :: us, _, _, hw, _, e => by
    have e : w = u ++ ⟨#[c]⟩ ++ Str.join ⟨#[c]⟩ (u2 :: us) := e
    refine absurd ?_ (hw w List.mem_cons_self)
    rw [e, cps_cat, cps_cat]
    simp
  | w :: w2 :: ws, [u], _, _, _, hu, e => by
    have e : w ++ ⟨#[c]⟩ ++ Str.join ⟨#[c]⟩ (w2 :: ws) = u := e
    refine absurd ?_ (hu u List.mem_cons_self)
    rw [← e, cps_cat, cps_cat]
    simp
  | w :: w2 :: ws, u :: u2 :: us, _, _, hw, hu, e => by
    have e : w ++ ⟨#[c]⟩ ++ Str.join ⟨#[c]⟩ (w2 :: ws) = u ++ ⟨#[c]⟩ ++ Str.join ⟨#[c]⟩ (u2 :: us) := e
    have e' := congrArg (fun z : Str => z.cps.toList) e
    simp only [cps_cat, List.append_assoc] at e'
    obtain ⟨e1, e2⟩ := cut_uniq (hw w List.mem_cons_self) (hu u List.mem_cons_self) e'
    have ih := join_uniq c (w2 :: ws) (u2 :: us) (by simp) (by simp) (fun x h => hw x (List.mem_cons_of_mem _ h)) (fun x h => hu x (List.mem_cons_of_mem _ h)) (str_ext e2)
    rw [str_ext e1, ih]
theorem split_ne (x y : Str) : Txt.split x y ≠ [] := fun e => by
  have := PyProof.Rows.split_pos x y
  rw [e] at this
  simp at this
theorem split_join (c : Nat) {ws : List Str} (hn : ws ≠ []) (hw : ∀ w ∈ ws, c ∉ w.cps.toList) : Txt.split (Str.join ⟨#[c]⟩ ws) ⟨#[c]⟩ = ws :=
  join_uniq c _ _ (split_ne _ _) hn (StrLaws.split_free _ c) hw (StrLaws.join_split _ _)
theorem txt_join (x : Str) (ws : List Str) : Txt.join x ws = Str.join x ws := by
  show PySem.Builtin.Str.glued x ws = _
  rw [StrLaws.glued_eq_join]
theorem blank_eq : ((" " : String) : Str) = ⟨#[32]⟩ := by decide +kernel
theorem feed_eq : (("\n" : String) : Str) = ⟨#[10]⟩ := by decide +kernel
end Atl

set_option Elab.async false
set_option linter.all false
set_option maxRecDepth 100000
set_option maxHeartbeats 1000000
namespace Atl
open PySem Dl
open L2 (atI ixN)
/-! ### data of which _law_same says that it is itself -/
def fineB : Nat → PyData → Bool
  | 0, _ => false
  | n + 1, .list xs => decide (xs.length ≤ 1000000) && xs.all (fineB n)
  | n + 1, .tuple xs => decide (xs.length ≤ 1000000) && xs.all (fineB n)
  | _ + 1, .dict _ => false
  | _ + 1, _ => true
theorem fine_list {n : Nat} {xs : List PyData} : fineB (n + 1) (.list xs) = true ↔ xs.length ≤ 1000000 ∧ ∀ x ∈ xs, fineB n x = true := by
  show (decide (xs.length ≤ 1000000) && xs.all (fineB n)) = true ↔ _
  rw [Bool.and_eq_true, decide_eq_true_eq, List.all_eq_true]
theorem fine_tuple {n : Nat} {xs : List PyData} : fineB (n + 1) (.tuple xs) = true ↔ xs.length ≤ 1000000 ∧ ∀ x ∈ xs, fineB n x = true := by
  show (decide (xs.length ≤ 1000000) && xs.all (fineB n)) = true ↔ _
  rw [Bool.and_eq_true, decide_eq_true_eq, List.all_eq_true]
theorem all_fine {n : Nat} (ih : ∀ d, fineB n d = true → PyData.eqv d d = true ∧ d.depth ≤ n) : ∀ xs : List PyData, (∀ x ∈ xs, fineB n x = true) → PyData.eqvAll xs xs = true ∧ PyData.depthAll xs ≤ n
  | [], _ => ⟨by simp [PyData.eqvAll], by simp [PyData.depthAll]⟩
  | x :: xs, h => by
    obtain ⟨h1, h2⟩ := ih x (h x List.mem_cons_self)
    obtain ⟨h3, h4⟩ := all_fine ih xs fun y hy => h y (List.mem_cons_of_mem _ hy)
    refine ⟨by simp [PyData.eqvAll, h1, h3], ?_⟩
    simp only [PyData.depthAll]
    omega
theorem eqv_fine : ∀ (n : Nat) (d : PyData), fineB n d = true → PyData.eqv d d = true ∧ d.depth ≤ n
  | 0, _, h => by cases h
  | n + 1, .list xs, h => by
    obtain ⟨h1, h2⟩ := all_fine (eqv_fine n) xs (fine_list.mp h).2
    refine ⟨by simpa [PyData.eqv] using h1, ?_⟩
    simp only [PyData.depth]
    omega
  | n + 1, .tuple xs, h => by
    obtain ⟨h1, h2⟩ := all_fine (eqv_fine n) xs (fine_tuple.mp h).2
    refine ⟨by simpa [PyData.eqv] using h1, ?_⟩
    simp only [PyData.depth]
    omega
  | n + 1, .dict _, h => by cases h
  | n + 1, .none, _ => ⟨by simp [PyData.eqv], by simp [PyData.depth]⟩
  | n + 1, .bool _, _ => ⟨by simp [PyData.eqv], by simp [PyData.depth]⟩
  | n + 1, .int _, _ => ⟨by simp [PyData.eqv], by simp [PyData.depth]⟩
  | n + 1, .str _, _ => ⟨by simp [PyData.eqv], by simp [PyData.depth]⟩
theorem pEq_fine {n : Nat} {d : PyData} (h : fineB n d = true) (hn : n ≤ 60) : pEq d d = some (.bool true) := by
  obtain ⟨h1, h2⟩ := eqv_fine n d h
  unfold pEq
  rw [if_pos (by omega), h1]
theorem same_fine : ∀ (n : Nat) (d : PyData), fineB n d = true → n ≤ 50 → F__law_same n [d, d] = .ok (.bool true) []
  | 0, _, h, _ => by cases h
  | n + 1, d, h, hn => by
    have hq := pEq_fine h (by omega)
    have ih := same_fine n
    cases d with
    | dict kvs => cases h
    | none => simp [F__law_same, fnP, B__law_same, run_eV, sort_ok, sortOf, hq]
    | bool b => simp [F__law_same, fnP, B__law_same, run_eV, sort_ok, sortOf, hq]
    | int i => simp [F__law_same, fnP, B__law_same, run_eV, sort_ok, sortOf]
    | str x => simp [F__law_same, fnP, B__law_same, run_eV, sort_ok, sortOf, hq]
    | list xs =>
      obtain ⟨h1, h2⟩ := fine_list.mp h
      have e := same_seq (n := n) (xs := xs) (d := .list xs) h1 rfl (fun k => by simp [atI_nat]) fun x hx => ih x (h2 x hx) (by omega)
      simp [F__law_same, fnP, B__law_same, run_eV, sort_ok, sortOf, e, op_eql]
    | tuple xs =>
      obtain ⟨h1, h2⟩ := fine_tuple.mp h
      have e := same_seq (n := n) (xs := xs) (d := .tuple xs) h1 rfl (fun k => by simp [atI_nat]) fun x hx => ih x (h2 x hx) (by omega)
      simp [F__law_same, fnP, B__law_same, run_eV, sort_ok, sortOf, e, op_eql]
theorem fine_arr {n m : Nat} {a : PyData} (h : ArrOk n a) : fineB (m + 1) a = true := by
  rcases h with rfl | ⟨k, rfl, _⟩ <;> rfl
theorem fine_page {W H : Int} {n m : Nat} {p : PyData} (h : PageOk W H n p) : fineB (m + 3) p = true := by
  obtain ⟨s, a0, a1, a2, a3, rfl, _, h0, h1, h2, h3⟩ := h
  refine fine_tuple.mpr ⟨by simp, fun x hx => ?_⟩
  simp only [List.mem_cons, List.not_mem_nil, or_false] at hx
  rcases hx with rfl | rfl | rfl | rfl | rfl
  · rfl
  · rfl
  · rfl
  · rfl
  · refine fine_tuple.mpr ⟨by simp, fun x hx => ?_⟩
    simp only [List.mem_cons, List.not_mem_nil, or_false] at hx
    rcases hx with rfl | rfl | rfl | rfl
    · exact fine_arr h0
    · exact fine_arr h1
    · exact fine_arr h2
    · exact fine_arr h3
theorem fine_A {W H : Int} {ps : List PyData} {m : Nat} (h : AtlasOk W H ps) : fineB (m + 5) (encA W H ps) = true := by
  refine fine_tuple.mpr ⟨by simp, fun x hx => ?_⟩
  simp only [List.mem_cons, List.not_mem_nil, or_false] at hx
  rcases hx with rfl | rfl | rfl
  · rfl
  · rfl
  · have := h.n6
    exact fine_tuple.mpr ⟨by omega, fun p hp => fine_page (h.pg p hp)⟩
end Atl

set_option Elab.async false
set_option linter.all false
set_option maxRecDepth 100000
set_option maxHeartbeats 1000000
namespace Atl
open PySem Dl
open L2 (atI ixN)
/-! ### the text of an atlas -/
def dig (i : Int) : Str := ⟨#[48 + i.toNat]⟩
def arrS : PyData → Str
  | .int k => dig k
  | _ => ⟨#[45]⟩
abbrev bl : Str := ⟨#[32]⟩
abbrev lf : Str := ⟨#[10]⟩
def wordsP : PyData → List Str
  | .tuple [.int l, .int t, .int w, .int h, .tuple [a0, a1, a2, a3]] => ["page", dig l, dig t, dig w, dig h, arrS a0, arrS a1, arrS a2, arrS a3]
  | _ => ["page"]
def lineP (p : PyData) : Str := Str.join bl (wordsP p)
def lineL (W H : Int) : Str := Str.join bl ["land", dig W, dig H]
def textA (W H : Int) (ps : List PyData) : Str := Str.join lf (lineL W H :: ps.map lineP)
theorem str_dig {i : Int} (h : 0 ≤ i ∧ i ≤ 9) : Str.ofString (toString i) = dig i := by
  have : i = 0 ∨ i = 1 ∨ i = 2 ∨ i = 3 ∨ i = 4 ∨ i = 5 ∨ i = 6 ∨ i = 7 ∨ i = 8 ∨ i = 9 := by omega
  rcases this with rfl | rfl | rfl | rfl | rfl | rfl | rfl | rfl | rfl | rfl <;> decide +kernel
theorem pStr_dig {i : Int} (h : 0 ≤ i ∧ i ≤ 9) : pStr [.int i] = some (.str (dig i)) := by
  show (if i.natAbs < 18446744073709551616 then some (PyData.str (Str.ofString (toString i))) else none) = _
  rw [if_pos (by omega), str_dig h]
theorem pFmt_dig {i : Int} (h : 0 ≤ i ∧ i ≤ 9) : pFmt (.int i) = some (.str (dig i)) := by
  show (if i.natAbs < 18446744073709551616 then some (PyData.str (Str.ofString (toString i))) else none) = _
  rw [if_pos (by omega), str_dig h]
theorem digits {i : Int} (h : 0 ≤ i ∧ i ≤ 9) : pLen [.str (dig i)] = some (.int 1) ∧ pIn (.str (dig i)) (.str "0123456789") = some (.bool true) ∧ pIndexS (.str "0123456789") (.str (dig i)) = some (.int i) ∧ pEq (.str (dig i)) (.str "-") = some (.bool false) := by
  have e : Txt.index0 "0123456789" (dig i) = some i.toNat ∧ (Builtin.Str.occurrences "0123456789" (dig i) 0 ("0123456789" : Str).length 1).isEmpty = false ∧ pEq (.str (dig i)) (.str "-") = some (.bool false) := by
    have : i = 0 ∨ i = 1 ∨ i = 2 ∨ i = 3 ∨ i = 4 ∨ i = 5 ∨ i = 6 ∨ i = 7 ∨ i = 8 ∨ i = 9 := by omega
    rcases this with rfl | rfl | rfl | rfl | rfl | rfl | rfl | rfl | rfl | rfl <;> exact ⟨by decide +kernel, by decide +kernel, rfl⟩
  refine ⟨rfl, ?_, ?_, e.2.2⟩
  · show some (PyData.bool (!(Builtin.Str.occurrences "0123456789" (dig i) 0 ("0123456789" : Str).length 1).isEmpty)) = _
    rw [e.2.1]
    rfl
  show (Txt.index0 "0123456789" (dig i)).map (fun k => PyData.int (k : Nat)) = _
  rw [e.1]
  show some (PyData.int (i.toNat : Int)) = _
  rw [Int.toNat_of_nonneg h.1]
theorem numberOf_ok {i : Int} (h : 0 ≤ i ∧ i ≤ 9) : F_number_of [.str (dig i)] = .ok (.int i) [] := by
  obtain ⟨h1, h2, h3, _⟩ := digits h
  simp [F_number_of, fnP, B_number_of, run_eV, h1, h2, run_eStrM, h3]
theorem pJoin_ok {x : Str} {ws : List Str} (h : (ws.map (·.length)).sum + ws.length * x.length ≤ 16777216) : pJoin (.str x) (.list (ws.map .str)) = some (.str (Str.join x ws)) := by
  show (strsOf (ws.map .str)).bind _ = _
  rw [strsOf_map]
  show (if (ws.map (·.length)).sum + ws.length * x.length ≤ 16777216 then some (PyData.str (Txt.join x ws)) else none) = _
  rw [if_pos h, txt_join]
theorem pSplit_join {c : Nat} {ws : List Str} (hn : ws ≠ []) (hw : ∀ w ∈ ws, c ∉ w.cps.toList) (hl : (Str.join ⟨#[c]⟩ ws).length ≤ 1000000) : pSplit (.str (Str.join ⟨#[c]⟩ ws)) (.str ⟨#[c]⟩) = some (ws.map .str) := by
  show (if ((⟨#[c]⟩ : Str).length == 0) = false ∧ (Str.join ⟨#[c]⟩ ws).length ≤ 1000000 then some ((Txt.split (Str.join ⟨#[c]⟩ ws) ⟨#[c]⟩).map PyData.str) else none) = _
  rw [if_pos ⟨rfl, hl⟩, split_join c hn hw]
theorem join_free {c : Nat} {x : Str} (hx : c ∉ x.cps.toList) : ∀ ws : List Str, (∀ w ∈ ws, c ∉ w.cps.toList) → c ∉ (Str.join x ws).cps.toList
  | [], _ => by simp [Str.join, Str.empty]
  | [w], h => h w List.mem_cons_self
  | w :: u :: ws, h => by
    have ih := join_free hx (u :: ws) fun y hy => h y (List.mem_cons_of_mem _ hy)
    have h1 := h w List.mem_cons_self
    show c ∉ (w ++ x ++ Str.join x (u :: ws)).cps.toList
    rw [cps_cat, cps_cat]
    simp only [List.mem_append, not_or]
    exact ⟨⟨h1, hx⟩, ih⟩
theorem dig_free {c : Nat} {i : Int} (h : c < 48) : c ∉ (dig i).cps.toList := by
  show c ∉ [48 + i.toNat]
  simp
  omega
theorem arr_free {c : Nat} {a : PyData} (h : c < 45) : c ∉ (arrS a).cps.toList := by
  unfold arrS
  split
  · exact dig_free (by omega)
  · show c ∉ [45]
    simp
    omega
theorem page_cps : ("page" : Str).cps.toList = [112, 97, 103, 101] := by decide +kernel
theorem land_cps : ("land" : Str).cps.toList = [108, 97, 110, 100] := by decide +kernel
theorem len_dig {i : Int} : (dig i).length = 1 := rfl
theorem len_arr {a : PyData} : (arrS a).length = 1 := by
  unfold arrS
  split <;> rfl
theorem len_page : ("page" : Str).length = 4 := by decide +kernel
theorem len_land : ("land" : Str).length = 4 := by decide +kernel
theorem words_ne (p : PyData) : wordsP p ≠ [] := by
  unfold wordsP
  split <;> simp
theorem words_free {c : Nat} (h : c < 45) (p : PyData) : ∀ w ∈ wordsP p, c ∉ w.cps.toList := by
  have hp : c ∉ ("page" : Str).cps.toList := by
    rw [page_cps]
    simp
    omega
  intro w hw
  unfold wordsP at hw
  split at hw
  · simp only [List.mem_cons, List.not_mem_nil, or_false] at hw
    rcases hw with rfl | rfl | rfl | rfl | rfl | rfl | rfl | rfl | rfl
    · exact hp
    · exact dig_free (by omega)
    · exact dig_free (by omega)
    · exact dig_free (by omega)
    · exact dig_free (by omega)
    · exact arr_free h
    · exact arr_free h
    · exact arr_free h
    · exact arr_free h
  · rw [List.mem_singleton.mp hw]
    exact hp
theorem words_sum (p : PyData) : ((wordsP p).map (·.length)).sum ≤ 12 ∧ (wordsP p).length ≤ 9 := by
  unfold wordsP
  split
  · simp [len_dig, len_arr, len_page]
  · simp [len_page]
theorem lineP_len (p : PyData) : (lineP p).length ≤ 20 := by
  obtain ⟨h1, h2⟩ := words_sum p
  unfold lineP
  cases h : wordsP p with
  | nil => exact absurd h (words_ne p)
  | cons a l =>
    rw [h] at h1 h2
    rw [PyProof.Rows.len_join_cons]
    rw [List.length_cons] at h2
    show _ + l.length * 1 ≤ 20
    omega
theorem lineL_len (W H : Int) : (lineL W H).length = 8 := by
  unfold lineL
  rw [PyProof.Rows.len_join_cons]
  simp [len_dig, len_land]
  rfl
theorem lineP_free (p : PyData) : 10 ∉ (lineP p).cps.toList := join_free (by decide) _ (words_free (by decide) p)
theorem land_free {c : Nat} {W H : Int} (h : c < 45) : ∀ w ∈ (["land", dig W, dig H] : List Str), c ∉ w.cps.toList := by
  intro w hw
  simp only [List.mem_cons, List.not_mem_nil, or_false] at hw
  rcases hw with rfl | rfl | rfl
  · rw [land_cps]
    simp
    omega
  · exact dig_free (by omega)
  · exact dig_free (by omega)
theorem lineL_free (W H : Int) : 10 ∉ (lineL W H).cps.toList := join_free (by decide) _ (land_free (by decide))
theorem lines_sum : ∀ ps : List PyData, ((ps.map lineP).map (·.length)).sum ≤ 20 * ps.length
  | [] => by simp
  | p :: ps => by
    have h1 := lineP_len p
    have h2 := lines_sum ps
    rw [List.map_cons, List.map_cons, List.sum_cons, List.length_cons]
    omega
theorem text_sum {W H : Int} {ps : List PyData} (h : ps.length ≤ 6) : (((lineL W H :: ps.map lineP)).map (·.length)).sum + (lineL W H :: ps.map lineP).length * lf.length ≤ 1000 := by
  have h1 := lines_sum ps
  have h2 := lineL_len W H
  rw [List.map_cons, List.sum_cons, h2, List.length_cons, List.length_map]
  show 8 + _ + (ps.length + 1) * 1 ≤ 1000
  omega
theorem text_len {W H : Int} {ps : List PyData} (h : ps.length ≤ 6) : (textA W H ps).length ≤ 1000 := by
  have h1 := text_sum (W := W) (H := H) h
  unfold textA
  rw [PyProof.Rows.len_join_cons]
  rw [List.length_cons] at h1
  have h3 : (ps.map lineP).length * lf.length ≤ ((ps.map lineP).length + 1) * lf.length := Nat.mul_le_mul_right _ (Nat.le_succ _)
  omega
theorem text_split {W H : Int} {ps : List PyData} (h : ps.length ≤ 6) : pSplit (.str (textA W H ps)) (.str lf) = some ((lineL W H :: ps.map lineP).map .str) :=
  pSplit_join (by simp) (fun w hw => by
    rcases List.mem_cons.mp hw with rfl | hw
    · exact lineL_free W H
    · obtain ⟨p, _, rfl⟩ := List.mem_map.mp hw
      exact lineP_free p) (Nat.le_trans (text_len h) (by decide))
end Atl

set_option Elab.async false
set_option linter.all false
set_option maxRecDepth 100000
set_option maxHeartbeats 1000000
namespace Atl
open PySem Dl
open L2 (atI ixN)
section
variable {W H : Int} {n : Nat} {p : PyData} {ps : List PyData}
theorem op_adds {x y : Str} (h : x.length + y.length ≤ 1000000) : pAdd (.str x) (.str y) = some (.str (x ++ y)) := if_pos h
@[simp] theorem run_eCatO {ρ : Rho} (fa fb : Rho → Rs PyData) : eCatO fa fb ρ = (fa ρ).andThen fun a ρ => (fb ρ).andThen fun b ρ => match a, b with
  | .list xs, .list ys => if xs.length + ys.length ≤ 1000000 then .ok (xs ++ ys) ρ else .bad
  | _, _ => .bad := rfl
theorem str_blank : (.str " " : PyData) = .str bl := congrArg PyData.str blank_eq
theorem str_feed : (.str "\n" : PyData) = .str lf := congrArg PyData.str feed_eq
theorem SpotOk.digs {s : Spot} (h : SpotOk W H s) (hW : W ≤ 8) (hH : H ≤ 8) : (0 ≤ s.l ∧ s.l ≤ 9) ∧ (0 ≤ s.t ∧ s.t ≤ 9) ∧ (0 ≤ s.w ∧ s.w ≤ 9) ∧ (0 ≤ s.h ∧ s.h ≤ 9) := by
  have := h.l; have := h.t; have := h.w; have := h.h; have := h.r; have := h.b
  omega
theorem arr_str {n : Nat} {a : PyData} (h : ArrOk n a) (hn : n ≤ 6) (ρ : Rho) (i : Nat) (hi : ρ[i]? = some (.sh a)) : eIf (eT (eBin pIs (eV i) (eC .none))) (eC (.str "-")) (eCall pStr (eCons (eV i) eNil)) ρ = .ok (.str (arrS a)) ρ := by
  have e0 : (.str "-" : PyData) = .str ⟨#[45]⟩ := congrArg PyData.str (by decide +kernel)
  rcases h with rfl | ⟨k, rfl, h1, h2⟩
  · simp [run_eV_sh hi, e0, arrS]
  · simp [run_eV_sh hi, arrS, pStr_dig (i := k) (by omega)]
theorem pageLine_ok (hp : PageOk W H n p) (hW : W ≤ 8) (hH : H ≤ 8) (hn : n ≤ 6) : F_page_line [p] = .ok (.str (lineP p)) [] := by
  obtain ⟨s, a0, a1, a2, a3, rfl, hs, h0, h1, h2, h3⟩ := hp
  obtain ⟨d1, d2, d3, d4⟩ := hs.digs hW hH
  have c4 : cutD [.int s.l, .int s.t, .int s.w, .int s.h, .tuple [a0, a1, a2, a3]] none (some 4) = [.int s.l, .int s.t, .int s.w, .int s.h] := cut_take [.int s.l, .int s.t, .int s.w, .int s.h, .tuple [a0, a1, a2, a3]] 4
  have e1 := lc_map (fi := iSeq (eSl (eV 0) eNoP (eP (eC (.int 4))))) (b := bName 3) (fe := eCall pStr (eCons (eV 3) eNil)) (vs := [3])
    (ρ := [.sh (.tuple [.int s.l, .int s.t, .int s.w, .int s.h, .tuple [a0, a1, a2, a3]]), .non, .non, .non, .non]) (ρ1 := [.sh (.tuple [.int s.l, .int s.t, .int s.w, .int s.h, .tuple [a0, a1, a2, a3]]), .non, .non, .non, .non]) [s.l, s.t, s.w, s.h] PyData.int (fun i => .str (dig i))
    (by simp [run_eV, pSl, c4]) (by simp) (by simp [wipeR, unwipeR]) (fun i hi => by
      have hd : 0 ≤ i ∧ i ≤ 9 := by
        simp only [List.mem_cons, List.not_mem_nil, or_false] at hi
        rcases hi with rfl | rfl | rfl | rfl <;> assumption
      simp [StepM, wipeR, run_eV, pStr_dig hd])
  have e2 := fun Z => lc_map (fi := iSeq (eBin pIx (eV 0) (eC (.int 4)))) (b := bName 4) (fe := eIf (eT (eBin pIs (eV 4) (eC .none))) (eC (.str "-")) (eCall pStr (eCons (eV 4) eNil))) (vs := [4])
    (ρ := [.sh (.tuple [.int s.l, .int s.t, .int s.w, .int s.h, .tuple [a0, a1, a2, a3]]), .sh Z, .non, .non, .non]) (ρ1 := [.sh (.tuple [.int s.l, .int s.t, .int s.w, .int s.h, .tuple [a0, a1, a2, a3]]), .sh Z, .non, .non, .non]) [a0, a1, a2, a3] id (fun a => .str (arrS a))
    (by simp [run_eV, L2.atI, L2.ixN]) (by simp) (by simp [wipeR, unwipeR]) (fun a ha => by
      have hd : ArrOk n a := by
        simp only [List.mem_cons, List.not_mem_nil, or_false] at ha
        rcases ha with rfl | rfl | rfl | rfl <;> assumption
      have em : ("-" : Str) = ⟨#[45]⟩ := by decide +kernel
      rcases hd with rfl | ⟨k, rfl, h1, h2⟩
      · simp [StepM, wipeR, run_eV, arrS, em]
      · simp [StepM, wipeR, run_eV, arrS, pStr_dig (i := k) (by omega)])
  have e3 := pJoin_ok (x := bl) (ws := wordsP (.tuple [.int s.l, .int s.t, .int s.w, .int s.h, .tuple [a0, a1, a2, a3]])) (by
    obtain ⟨q1, q2⟩ := words_sum (.tuple [.int s.l, .int s.t, .int s.w, .int s.h, .tuple [a0, a1, a2, a3]])
    show _ + _ * 1 ≤ _
    omega)
  simp only [wordsP, List.map_cons, List.map_nil] at e3
  simp [F_page_line, fnP, B_page_line, run_eV, e1, e2, op_catl, str_blank, e3, lineP, wordsP]
theorem textLine_ok (h : AtlasOk W H ps) : eJ (jCons (eC (.str "land ")) (jCons (eUn pFmt (eBin pIx (eV 0) (eC (.int 0)))) (jCons (eC (.str " ")) (jCons (eUn pFmt (eBin pIx (eV 0) (eC (.int 1)))) jNil)))) [.sh (encA W H ps), .non] = .ok (.str (lineL W H)) [.sh (encA W H ps), .non] := by
  have w1 := h.w1; have w8 := h.w8; have h1 := h.h1; have h8 := h.h8
  have f1 := pFmt_dig (i := W) (by omega)
  have f2 := pFmt_dig (i := H) (by omega)
  have l1 : (Str.empty ++ ("land " : Str)).length ≤ 1000000 := by decide +kernel
  have l2 : (Str.empty ++ ("land " : Str) ++ dig W).length ≤ 1000000 := by
    rw [Str.length_append, len_dig, show (Str.empty ++ ("land " : Str)).length = 5 by decide +kernel]
    decide
  have l3 : (Str.empty ++ ("land " : Str) ++ dig W ++ (" " : Str)).length ≤ 1000000 := by
    rw [Str.length_append, Str.length_append, len_dig, show (Str.empty ++ ("land " : Str)).length = 5 by decide +kernel, show (" " : Str).length = 1 by decide +kernel]
    decide
  have l4 : (Str.empty ++ ("land " : Str) ++ dig W ++ (" " : Str) ++ dig H).length ≤ 1000000 := by
    rw [Str.length_append, Str.length_append, Str.length_append, len_dig, len_dig, show (Str.empty ++ ("land " : Str)).length = 5 by decide +kernel, show (" " : Str).length = 1 by decide +kernel]
    decide
  have e : Str.empty ++ ("land " : Str) ++ dig W ++ (" " : Str) ++ dig H = lineL W H := by
    show _ = ("land" : Str) ++ bl ++ (dig W ++ bl ++ dig H)
    refine str_ext ?_
    rw [blank_eq]
    simp only [cps_cat, land_cps]
    have : ("land " : Str).cps.toList = [108, 97, 110, 100, 32] := by decide +kernel
    rw [this]
    simp [Str.empty]
  have l5 : (lineL W H).length ≤ 1000000 := by rw [lineL_len]; decide
  simp [eJ, jCons, jNil, run_eV, f1, f2, l1, l2, l3, e, l5]
theorem atlasText_ok (h : AtlasOk W H ps) : F_atlas_text [encA W H ps] = .ok (.str (textA W H ps)) [] := by
  have h6 := h.n6
  have e0 := textLine_ok h
  have e1 := lc_map (fi := iSeq (eBin pIx (eV 0) (eC (.int 2)))) (b := bName 1) (fe := eFn F_page_line (eCons (eV 1) eNil)) (vs := [1])
    (ρ := [.sh (encA W H ps), .non]) (ρ1 := [.sh (encA W H ps), .non]) ps id (fun p => .str (lineP p)) (by simp [run_eV]) (by omega) (by simp [wipeR, unwipeR]) (fun p hp => by
      have := pageLine_ok (h.pg p hp) h.w8 h.h8 h6
      simp [StepM, wipeR, run_eV, this])
  have e3 := pJoin_ok (x := lf) (ws := lineL W H :: ps.map lineP) (Nat.le_trans (text_sum h6) (by decide))
  have o : pAdd (.list [.str (lineL W H)]) (.list (ps.map fun p => .str (lineP p))) = some (.list ((lineL W H :: ps.map lineP).map .str)) := by
    rw [op_catl (by rw [List.length_map]; simp; omega), List.map_cons, List.map_map]
    rfl
  refine fnP_rt (ρ0 := [.sh (encA W H ps), .non]) rfl (ρ' := [.sh (encA W H ps), .non]) ?_
  unfold B_atlas_text
  rw [seq_nx (ρ' := [.sh (encA W H ps), .non]) (by simp [run_eV, need_ok h])]
  unfold textA
  generalize lineL W H :: ps.map lineP = Z at *
  simp [run_eV, e0, e1, o, str_feed, e3]
end
end Atl

set_option Elab.async false
set_option linter.all false
set_option maxRecDepth 100000
set_option maxHeartbeats 1000000
namespace Atl
open PySem Dl
open L2 (atI ixN)
@[simp] theorem run_eStrMO {ρ : Rho} (p : PyData → PyData → Option (List PyData)) (fo fe : Rho → Rs PyData) : eStrMO p fo fe ρ = (fo ρ).andThen fun a ρ => match a with
  | .str z => (fe ρ).andThen fun b ρ => opt (p (.str z) b) ρ
  | _ => .bad := rfl
theorem cut_mid (xs : List PyData) (a b : Nat) : cutD xs (some (a : Int)) (some (b : Int)) = (xs.drop a).take (b - a) := by
  unfold cutD
  rw [HT.sIx_nat, HT.sIx_nat]
  show (xs.drop (min a xs.length)).take (min b xs.length - min a xs.length) = _
  by_cases ha : a ≤ xs.length
  · rw [Nat.min_eq_left ha]
    by_cases hb : b ≤ xs.length
    · rw [Nat.min_eq_left hb]
    · rw [Nat.min_eq_right (by omega), List.take_of_length_le (by rw [List.length_drop]; omega), List.take_of_length_le (by rw [List.length_drop]; omega)]
  · rw [Nat.min_eq_right (by omega : xs.length ≤ a), List.drop_of_length_le (by omega), List.drop_of_length_le (by omega)]
    simp
/-! ### the atlases that are known -/
abbrev nonA4 : PyData := .tuple [.none, .none, .none, .none]
abbrev kA : List PyData := [.tuple [.int 0, .int 0, .int 2, .int 1, .tuple [.none, .int 1, .none, .none]], .tuple [.int 2, .int 0, .int 2, .int 1, .tuple [.none, .none, .none, .int 0]]]
abbrev kD : List PyData := [.tuple [.int 1, .int 0, .int 1, .int 1, nonA4], .tuple [.int 0, .int 0, .int 3, .int 1, .tuple [.none, .int 2, .none, .none]], .tuple [.int 2, .int 0, .int 3, .int 1, .tuple [.none, .none, .none, .int 1]]]
theorem kA_ok : AtlasOk 4 1 kA := by
  refine ⟨by decide, by decide, by decide, by decide, by decide, by decide, fun p hp => ?_, fun x y h1 h2 h3 h4 => ?_⟩
  · simp only [List.mem_cons, List.not_mem_nil, or_false] at hp
    rcases hp with rfl | rfl
    · exact ⟨⟨0, 0, 2, 1⟩, _, _, _, _, rfl, ⟨by decide, by decide, by decide, by decide, by decide, by decide⟩, .inl rfl, .inr ⟨1, rfl, by decide, by decide⟩, .inl rfl, .inl rfl⟩
    · exact ⟨⟨2, 0, 2, 1⟩, _, _, _, _, rfl, ⟨by decide, by decide, by decide, by decide, by decide, by decide⟩, .inl rfl, .inl rfl, .inl rfl, .inr ⟨0, rfl, by decide, by decide⟩⟩
  · by_cases hx : x < 2
    · refine ⟨_, List.mem_cons_self, ?_⟩
      simp only [hold, decide_eq_true_eq]
      omega
    · refine ⟨_, List.mem_cons_of_mem _ List.mem_cons_self, ?_⟩
      simp only [hold, decide_eq_true_eq]
      omega
theorem kD_ok : AtlasOk 5 1 kD := by
  refine ⟨by decide, by decide, by decide, by decide, by decide, by decide, fun p hp => ?_, fun x y h1 h2 h3 h4 => ?_⟩
  · simp only [List.mem_cons, List.not_mem_nil, or_false] at hp
    rcases hp with rfl | rfl | rfl
    · exact ⟨⟨1, 0, 1, 1⟩, _, _, _, _, rfl, ⟨by decide, by decide, by decide, by decide, by decide, by decide⟩, .inl rfl, .inl rfl, .inl rfl, .inl rfl⟩
    · exact ⟨⟨0, 0, 3, 1⟩, _, _, _, _, rfl, ⟨by decide, by decide, by decide, by decide, by decide, by decide⟩, .inl rfl, .inr ⟨2, rfl, by decide, by decide⟩, .inl rfl, .inl rfl⟩
    · exact ⟨⟨2, 0, 3, 1⟩, _, _, _, _, rfl, ⟨by decide, by decide, by decide, by decide, by decide, by decide⟩, .inl rfl, .inl rfl, .inl rfl, .inr ⟨1, rfl, by decide, by decide⟩⟩
  · by_cases hx : x < 3
    · refine ⟨_, List.mem_cons_of_mem _ List.mem_cons_self, ?_⟩
      simp only [hold, decide_eq_true_eq]
      omega
    · refine ⟨_, List.mem_cons_of_mem _ (List.mem_cons_of_mem _ List.mem_cons_self), ?_⟩
      simp only [hold, decide_eq_true_eq]
      omega
theorem lawKnown_ok : F__law_known [] = .ok (.list [encA 4 1 kA, encA 5 1 kD]) [] := by
  simp [F__law_known, fnP, B__law_known, run_eV]
theorem longLand_ok {c : Int} {d : List PyData} (h : Dk c d) (hc : c < 500000) :
    ∃ (W H : Int) (ps d' : List PyData), F__law_long_land d [] = .ok (encA W H ps, d') [] ∧ AtlasOk W H ps ∧ W ≤ 8 ∧ H ≤ 1 ∧ Dk (c + 200) d' := by
  obtain ⟨W, H, ps, d', e1, e2, e3, e4, e5⟩ := drawn_ok h hc (wide := 8) (high := 1) (extra := 2) (by decide) (by decide) (by decide)
  refine ⟨W, H, ps, d', fnB_rt (ρ0 := [.own true d]) rfl (ρ' := [.own true d']) ?_ rfl, e2, e3, e4, e5⟩
  simp [B__law_long_land, run_eFnO', run_afterO', e1]
/-! ### a text read -/
section
variable {W H : Int} {n : Nat} {p : PyData} {ps : List PyData}
theorem wide_page (hp : PageOk W H n p) (hW : W ≤ 8) (hH : H ≤ 8) (hn : n ≤ 6) : PageOk 8 8 6 p := by
  obtain ⟨s, a0, a1, a2, a3, rfl, hs, h0, h1, h2, h3⟩ := hp
  have f : ∀ a, ArrOk n a → ArrOk 6 a := fun a h => by
    rcases h with h | ⟨k, h1, h2, h3⟩
    · exact .inl h
    · exact .inr ⟨k, h1, h2, by omega⟩
  have := hs.r
  have := hs.b
  exact ⟨s, a0, a1, a2, a3, rfl, ⟨hs.l, hs.t, hs.w, hs.h, by omega, by omega⟩, f _ h0, f _ h1, f _ h2, f _ h3⟩
theorem landOf_ok (h : AtlasOk W H ps) : F_land_of [.str (lineL W H)] = .ok (.tuple [.int W, .int H]) [] := by
  have w1 := h.w1; have w8 := h.w8; have h1 := h.h1; have h8 := h.h8
  have n1 := numberOf_ok (i := W) (by omega)
  have n2 := numberOf_ok (i := H) (by omega)
  have sp : pSplit (.str (lineL W H)) (.str bl) = some [.str "land", .str (dig W), .str (dig H)] := pSplit_join (c := 32) (ws := ["land", dig W, dig H]) (by simp) (land_free (by decide)) (by
    have := lineL_len W H
    unfold lineL at this
    rw [this]
    decide)
  have hn : pNe (.str "land") (.str "land") = some (.bool false) := rfl
  have e := lc_map (fi := iSeq (eV 2)) (b := bName 3) (fe := eFn F_is_within (eCons (eV 3) (eCons (eC (.int 1)) (eCons (eC (.int 8)) eNil)))) (vs := [3])
    (ρ := [.sh (.str (lineL W H)), .sh (.list [.str "land", .str (dig W), .str (dig H)]), .sh (.tuple [.int W, .int H]), .non]) (ρ1 := [.sh (.str (lineL W H)), .sh (.list [.str "land", .str (dig W), .str (dig H)]), .sh (.tuple [.int W, .int H]), .non]) [W, H] PyData.int (fun _ => .bool true)
    (by simp [run_eV]) (by simp) (by simp [wipeR, unwipeR]) (fun i hi => by
      have hd : 1 ≤ i ∧ i ≤ 8 := by
        simp only [List.mem_cons, List.not_mem_nil, or_false] at hi
        rcases hi with rfl | rfl <;> omega
      simp [StepM, wipeR, run_eV, within_int, hd])
  have pa : pAll [.list [.bool true, .bool true]] = some (.bool true) := rfl
  simp only [F_land_of, fnP, B_land_of]
  simp [run_eV, str_blank, sp, hn, n1, n2, L2.atI, L2.ixN, e, pa]
theorem pageOf_ok (hp : PageOk W H n p) (hW : W ≤ 8) (hH : H ≤ 8) (hn : n ≤ 6) : F_page_of [.str (lineP p)] = .ok p [] := by
  have ip : F_is_page [p, .int 8, .int 8, .int 6] = .ok (.bool true) [] := isPage_ok (wide_page hp hW hH hn)
  have sp : pSplit (.str (lineP p)) (.str bl) = some ((wordsP p).map .str) := pSplit_join (c := 32) (words_ne p) (words_free (by decide) p) (by
    have := lineP_len p
    unfold lineP at this
    exact Nat.le_trans this (by decide))
  obtain ⟨s, a0, a1, a2, a3, rfl, hs, h0, h1, h2, h3⟩ := hp
  obtain ⟨d1, d2, d3, d4⟩ := hs.digs hW hH
  have n1 := numberOf_ok d1
  have n2 := numberOf_ok d2
  have n3 := numberOf_ok d3
  have n4 := numberOf_ok d4
  generalize hl : lineP (.tuple [.int s.l, .int s.t, .int s.w, .int s.h, .tuple [a0, a1, a2, a3]]) = ln at *
  generalize hP : PyData.tuple [.int s.l, .int s.t, .int s.w, .int s.h, .tuple [a0, a1, a2, a3]] = P at *
  have sp' : pSplit (.str ln) (.str bl) = some [.str "page", .str (dig s.l), .str (dig s.t), .str (dig s.w), .str (dig s.h), .str (arrS a0), .str (arrS a1), .str (arrS a2), .str (arrS a3)] := by
    rw [sp, ← hP]
    rfl
  have hq : pNe (.str "page") (.str "page") = some (.bool false) := rfl
  have c5 : cutD [.str "page", .str (dig s.l), .str (dig s.t), .str (dig s.w), .str (dig s.h), .str (arrS a0), .str (arrS a1), .str (arrS a2), .str (arrS a3)] (some 5) none = [.str (arrS a0), .str (arrS a1), .str (arrS a2), .str (arrS a3)] := cut_drop _ 5
  have c15 : cutD [.str "page", .str (dig s.l), .str (dig s.t), .str (dig s.w), .str (dig s.h), .str (arrS a0), .str (arrS a1), .str (arrS a2), .str (arrS a3)] (some 1) (some 5) = [.str (dig s.l), .str (dig s.t), .str (dig s.w), .str (dig s.h)] := cut_mid _ 1 5
  have ar : ∀ a ∈ [a0, a1, a2, a3], ArrOk n a := fun a ha => by
    simp only [List.mem_cons, List.not_mem_nil, or_false] at ha
    rcases ha with rfl | rfl | rfl | rfl <;> assumption
  have em : ("-" : Str) = ⟨#[45]⟩ := by decide +kernel
  have q0 : pEq (.str (⟨#[45]⟩ : Str)) (.str ⟨#[45]⟩) = some (.bool true) := rfl
  generalize hws : [PyData.str "page", .str (dig s.l), .str (dig s.t), .str (dig s.w), .str (dig s.h), .str (arrS a0), .str (arrS a1), .str (arrS a2), .str (arrS a3)] = ws at *
  have e1 := lc_map (fi := iSeq (eSl (eV 1) (eP (eC (.int 5))) eNoP)) (b := bName 4) (fe := eIf (eT (eBin pEq (eV 4) (eC (.str "-")))) (eC .none) (eFn F_number_of (eCons (eV 4) eNil))) (vs := [4])
    (ρ := [.sh (.str ln), .sh (.list ws), .non, .non, .non]) (ρ1 := [.sh (.str ln), .sh (.list ws), .non, .non, .non]) [a0, a1, a2, a3] (fun a => .str (arrS a)) id
    (by simp [run_eV, pSl, c5]) (by simp) (by simp [wipeR, unwipeR]) (fun a ha => by
      rcases ar a ha with rfl | ⟨k, rfl, k1, k2⟩
      · simp [StepM, wipeR, run_eV, arrS, em, q0]
      · obtain ⟨_, _, _, q⟩ := digits (i := k) (by omega)
        rw [em] at q
        simp [StepM, wipeR, run_eV, arrS, em, q, numberOf_ok (i := k) (by omega)])
  have e2 := fun Z => lc_map (fi := iSeq (eSl (eV 1) (eP (eC (.int 5))) eNoP)) (b := bName 4) (fe := eOrV (eBin pEq (eV 4) (eC (.str "-"))) (eBin pIsNot (eFn F_number_of (eCons (eV 4) eNil)) (eC .none))) (vs := [4])
    (ρ := [.sh (.str ln), .sh (.list ws), .sh Z, .non, .non]) (ρ1 := [.sh (.str ln), .sh (.list ws), .sh Z, .non, .non]) [a0, a1, a2, a3] (fun a => .str (arrS a)) (fun _ => .bool true)
    (by simp [run_eV, pSl, c5]) (by simp) (by simp [wipeR, unwipeR]) (fun a ha => by
      rcases ar a ha with rfl | ⟨k, rfl, k1, k2⟩
      · simp [StepM, wipeR, run_eV, arrS, em, q0]
      · obtain ⟨_, _, _, q⟩ := digits (i := k) (by omega)
        rw [em] at q
        simp [StepM, wipeR, run_eV, arrS, em, q, numberOf_ok (i := k) (by omega)])
  have e3 := fun Z => lc_map (fi := iSeq (eSl (eV 1) (eP (eC (.int 1))) (eP (eC (.int 5))))) (b := bName 4) (fe := eFn F_number_of (eCons (eV 4) eNil)) (vs := [4])
    (ρ := [.sh (.str ln), .sh (.list ws), .sh Z, .non, .non]) (ρ1 := [.sh (.str ln), .sh (.list ws), .sh Z, .non, .non]) [s.l, s.t, s.w, s.h] (fun i => .str (dig i)) .int
    (by simp [run_eV, pSl, c15]) (by simp) (by simp [wipeR, unwipeR]) (fun i hi => by
      have hd : 0 ≤ i ∧ i ≤ 9 := by
        simp only [List.mem_cons, List.not_mem_nil, or_false] at hi
        rcases hi with rfl | rfl | rfl | rfl <;> assumption
      simp [StepM, wipeR, run_eV, numberOf_ok hd])
  have pa : pAll [.list [.bool true, .bool true, .bool true, .bool true]] = some (.bool true) := rfl
  have l9 : pLen [.list ws] = some (.int 9) := by rw [← hws]; rfl
  have x0 : pIx (.list ws) (.int 0) = some (.str "page") := by rw [← hws]; rfl
  have o : pAdd (.tuple [.int s.l, .int s.t, .int s.w, .int s.h]) (.tuple [.tuple [a0, a1, a2, a3]]) = some P := by rw [← hP]; rfl
  refine fnP_rt (ρ0 := [.sh (.str ln), .non, .non, .non, .non]) rfl (ρ' := [.sh (.str ln), .sh (.list ws), .sh (.tuple [a0, a1, a2, a3]), .sh P, .non]) ?_
  unfold B_page_of
  rw [seq_nx (ρ' := [.sh (.str ln), .sh (.list ws), .non, .non, .non]) (by simp [run_eV, str_blank, sp']),
    seq_nx (ρ' := [.sh (.str ln), .sh (.list ws), .non, .non, .non]) (by simp [run_eV, l9, x0, hq, -op_ixl, -op_lenl]),
    seq_nx (ρ' := [.sh (.str ln), .sh (.list ws), .sh (.tuple [a0, a1, a2, a3]), .non, .non]) (by simp [e1]),
    seq_nx (ρ' := [.sh (.str ln), .sh (.list ws), .sh (.tuple [a0, a1, a2, a3]), .non, .non]) (by simp [e2, pa]),
    seq_nx (ρ' := [.sh (.str ln), .sh (.list ws), .sh (.tuple [a0, a1, a2, a3]), .sh P, .non]) (by simp [e3, run_eV, o])]
  simp [run_eV, ip]
theorem mem_enum {ps : List PyData} {x : PyData} (h : x ∈ enumD ps) : ∃ (i : Nat) (p : PyData), x = .tuple [.int (i : Nat), p] ∧ p ∈ ps := by
  unfold enumD at h
  obtain ⟨i, hi, rfl⟩ := List.mem_mapIdx.mp h
  exact ⟨i, ps[i], rfl, List.getElem_mem _⟩
theorem readAtlas_ok (h : AtlasOk W H ps) : F_read_atlas [.str (textA W H ps)] = .ok (encA W H ps) [] := by
  have h6 := h.n6
  have sp := text_split (W := W) (H := H) h6
  have la := landOf_ok h
  have ia := isAtlas_ok h
  rw [List.map_cons, List.map_map] at sp
  generalize textA W H ps = tx at *
  have c1 : cutD (.str (lineL W H) :: ps.map fun p => .str (lineP p)) (some 1) none = ps.map fun p => .str (lineP p) := cut_drop _ 1
  have x0 : pIx (.list (.str (lineL W H) :: ps.map fun p => .str (lineP p))) (.int 0) = some (.str (lineL W H)) := by
    rw [op_ixl]
    exact atI_nat (k := 0)
  have hpg := h.pg
  have sp' : pSplit (.str tx) (.str lf) = some (.str (lineL W H) :: ps.map fun p => .str (lineP p)) := sp
  generalize hZ : (PyData.str (lineL W H) :: ps.map fun p => .str (lineP p)) = Z at *
  have e := lc_map (fi := iSeq (eSl (eV 1) (eP (eC (.int 1))) eNoP)) (b := bName 7) (fe := eFn F_page_of (eCons (eV 7) eNil)) (vs := [7])
    (ρ := [.sh (.str tx), .sh (.list Z), .non, .non, .non, .non, .non, .non]) (ρ1 := [.sh (.str tx), .sh (.list Z), .non, .non, .non, .non, .non, .non]) ps (fun p => .str (lineP p)) id
    (by simp [run_eV, pSl, c1]) (by omega) (by simp [wipeR, unwipeR]) (fun p hp => by
      have := pageOf_ok (hpg p hp) h.w8 h.h8 h6
      simp [StepM, wipeR, run_eV, this])
  rw [List.map_id] at e
  obtain ⟨ρ', l1, t5, t6, rfl⟩ := forL_all (b := bTup (bCons (bName 5) (bCons (bName 6) bNil))) (body := sIf (eT (eBin pIs (eV 6) (eC .none))) (fun _ => .bad) sNil) (fun _ ρ => ∃ t5 t6, ρ = [.sh (.str tx), .sh (.list Z), .non, .sh (.tuple [.int W, .int H]), .sh (.list ps), t5, t6, .non]) (enumD ps)
    [.sh (.str tx), .sh (.list Z), .non, .sh (.tuple [.int W, .int H]), .sh (.list ps), .non, .non, .non] ⟨_, _, rfl⟩ (by
      rintro i x ρ hi ⟨t5, t6, rfl⟩
      obtain ⟨k, p, rfl, hp⟩ := mem_enum (List.mem_of_getElem? hi)
      have hnn : isN p = false := by
        obtain ⟨s, a0, a1, a2, a3, rfl, _⟩ := hpg p hp
        rfl
      exact ⟨_, [.sh (.str tx), .sh (.list Z), .non, .sh (.tuple [.int W, .int H]), .sh (.list ps), .sh (.int k), .sh p, .non], rfl, by simp [run_eV, hnn], _, _, rfl⟩)
  refine fnP_rt (ρ0 := [.sh (.str tx), .non, .non, .non, .non, .non, .non, .non]) rfl (ρ' := [.sh (.str tx), .sh (.list Z), .sh (encA W H ps), .sh (.tuple [.int W, .int H]), .sh (.list ps), t5, t6, .non]) ?_
  unfold B_read_atlas
  rw [seq_nx (ρ' := [.sh (.str tx), .non, .non, .non, .non, .non, .non, .non]) (by simp [run_eV, PyData.isStr]),
    seq_nx (ρ' := [.sh (.str tx), .sh (.list Z), .non, .non, .non, .non, .non, .non]) (by simp [run_eV, str_feed, sp']),
    seq_nx (ρ' := [.sh (.str tx), .sh (.list Z), .non, .sh (.tuple [.int W, .int H]), .sh (.list ps), .non, .non, .non]) (by simp [run_eV, x0, la, e, -op_ixl]),
    seq_nx (ρ' := [.sh (.str tx), .sh (.list Z), .non, .sh (.tuple [.int W, .int H]), .sh (.list ps), .non, .non, .non]) (by simp [run_eV]),
    seq_nx (ρ' := [.sh (.str tx), .sh (.list Z), .non, .sh (.tuple [.int W, .int H]), .sh (.list ps), t5, t6, .non]) (by
      rw [run_sFor, run_iEnu, run_eV_sh (d := .list ps) rfl, run_ok]
      exact l1),
    seq_nx (ρ' := [.sh (.str tx), .sh (.list Z), .sh (encA W H ps), .sh (.tuple [.int W, .int H]), .sh (.list ps), t5, t6, .non]) (by simp [run_eV, op_catt]),
    seq_nx (ρ' := [.sh (.str tx), .sh (.list Z), .sh (encA W H ps), .sh (.tuple [.int W, .int H]), .sh (.list ps), t5, t6, .non]) (by simp [run_eV, ia])]
  simp [run_eV]
end
end Atl

set_option Elab.async false
set_option linter.all false
set_option maxRecDepth 100000
set_option maxHeartbeats 4000000
namespace Atl
open PySem Dl
open L2 (atI ixN)
/-! windows: rectangles that lie on one page -/
theorem pAll_bools (bs : List Bool) : pAll [.list (bs.map .bool)] = some (.bool (bs.all id)) := by
  unfold pAll
  simp only [boolsOf_map, Option.map_some]
theorem pAny_bools (bs : List Bool) : pAny [.list (bs.map .bool)] = some (.bool (bs.any id)) := by
  unfold pAny
  simp only [boolsOf_map, Option.map_some]
def oneB (ps : List PyData) (l t w h : Int) : Bool := ps.any fun p => hold p l t && hold p (l + w - 1) (t + h - 1)
def fitB (W H : Int) (ps : List PyData) (w h : Int) : Bool := (List.range (W - w + 1).toNat).all fun l => (List.range (H - h + 1).toNat).all fun t => oneB ps l t w h
section
variable {W H : Int} {ps : List PyData}
theorem onOne_ok (h : AtlasOk W H ps) (l t w v : Int) : F_is_on_one [encA W H ps, .int l, .int t, .int w, .int v] = .ok (.bool (oneB ps l t w v)) [] := by
  have h6 := h.n6
  have e := lc_map (fi := iSeq (eBin pIx (eV 0) (eC (.int 2)))) (b := bName 6) (fe := eAndV (eFn F_holds (eCons (eV 6) (eCons (eBin pIx (eV 5) (eC (.int 0))) eNil))) (eFn F_holds (eCons (eV 6) (eCons (eBin pIx (eV 5) (eC (.int 1))) eNil)))) (vs := [6])
    (ρ := [.sh (encA W H ps), .sh (.int l), .sh (.int t), .sh (.int w), .sh (.int v), .sh (.tuple [.tuple [.int l, .int t], .tuple [.int (l + w - 1), .int (t + v - 1)]]), .non])
    (ρ1 := [.sh (encA W H ps), .sh (.int l), .sh (.int t), .sh (.int w), .sh (.int v), .sh (.tuple [.tuple [.int l, .int t], .tuple [.int (l + w - 1), .int (t + v - 1)]]), .non])
    ps (fun p => p) (fun p => .bool (hold p l t && hold p (l + w - 1) (t + v - 1))) (by simp [run_eV]) (by omega) (by simp [wipeR, unwipeR]) (fun p hp => by
      have q1 := holds_ok (x := l) (y := t) (h.pg p hp)
      have q2 := holds_ok (x := l + w - 1) (y := t + v - 1) (h.pg p hp)
      cases z : hold p l t <;> simp [StepM, wipeR, run_eV, q1, q2, z])
  have e2 := any_bools (ds := ps) (f := fun p => hold p l t && hold p (l + w - 1) (t + v - 1))
  simp [F_is_on_one, fnP, B_is_on_one, run_eV, e, e2]
  rfl
theorem flat_bools {α β : Type} (xs : List α) (ys : List β) (f : α → β → Bool) : (xs.flatMap fun x => ys.map fun y => (.bool (f x y) : PyData)) = (xs.flatMap fun x => ys.map (f x)).map .bool := by
  rw [List.map_flatMap]
  congr 1
  funext x
  rw [List.map_map]
  rfl
theorem flat_all {α β : Type} (xs : List α) (ys : List β) (f : α → β → Bool) : (xs.flatMap fun x => ys.map (f x)).all id = xs.all fun x => ys.all (f x) := by
  rw [List.all_flatMap]
  congr 1
  funext x
  rw [List.all_map]
  rfl
theorem flat_len {α β γ : Type} (xs : List α) (ys : List β) (f : α → β → γ) : (xs.flatMap fun x => ys.map (f x)).length = xs.length * ys.length := by
  induction xs with
  | nil => simp
  | cons x xs ih => rw [List.flatMap_cons, List.length_append, ih, List.length_map, List.length_cons, Nat.add_mul, Nat.one_mul, Nat.add_comm]
theorem alwaysFits_ok (h : AtlasOk W H ps) {w v : Int} (hw : 1 ≤ w ∧ w ≤ W) (hv : 1 ≤ v ∧ v ≤ H) : F_always_fits [encA W H ps, .int w, .int v] = .ok (.bool (fitB W H ps w v)) [] := by
  have h2 := h.w8
  have h4 := h.h8
  have l1 : (List.range (W - w + 1).toNat).length ≤ 8 := by rw [List.length_range]; omega
  have l2 : (List.range (H - v + 1).toNat).length ≤ 8 := by rw [List.length_range]; omega
  have e := lc2_map (fi := iSeq (eV 3)) (b := bName 5) (fi1 := iSeq (eV 4)) (b1 := bName 6) (fe := eFn F_is_on_one (eCons (eV 0) (eCons (eV 5) (eCons (eV 6) (eCons (eV 1) (eCons (eV 2) eNil)))))) (vs := [5, 6]) (vs1 := [6])
    (ρ := [.sh (encA W H ps), .sh (.int w), .sh (.int v), .sh (.list (rngL 0 (W - w + 1).toNat)), .sh (.list (rngL 0 (H - v + 1).toNat)), .non, .non])
    (ρ1 := [.sh (encA W H ps), .sh (.int w), .sh (.int v), .sh (.list (rngL 0 (W - w + 1).toNat)), .sh (.list (rngL 0 (H - v + 1).toNat)), .non, .non])
    (List.range (W - w + 1).toNat) (fun l => .int (l : Nat)) (fun t => .int (t : Nat)) (fun _ => List.range (H - v + 1).toNat) (fun l t => .bool (oneB ps (l : Nat) (t : Nat) w v)) (by simp [run_eV, rngL_map])
    (by rw [flat_len]; exact Nat.le_trans (Nat.mul_le_mul l1 l2) (by decide)) (by simp [wipeR, unwipeR]) (fun l _ => by
      simp only [Step2, run_bName]
      simp [run_eV, rngL_map, wipeR]
      intro t ht
      simp [StepF, run_eV, wipeR, onOne_ok h])
  have e2 := pAll_bools ((List.range (W - w + 1).toNat).flatMap fun l => (List.range (H - v + 1).toNat).map fun t => oneB ps (l : Nat) (t : Nat) w v)
  rw [flat_all] at e2
  have k1 : -1000000 ≤ W - w + 1 ∧ W - w + 1 ≤ 1000000 := by omega
  have k2 : -1000000 ≤ H - v + 1 ∧ H - v + 1 ≤ 1000000 := by omega
  rw [flat_bools] at e
  simp [F_always_fits, fnP, B_always_fits, run_eV, k1, k2, e, e2]
  rfl
theorem fitsWindow_ok (h : AtlasOk W H ps) {w v : Int} (hw : 1 ≤ w ∧ w ≤ W) (hv : 1 ≤ v ∧ v ≤ H) : F_fits_window [encA W H ps, .int w, .int v] = .ok (.bool (fitB W H ps w v)) [] := by
  have e1 := need_ok h
  have e2 := alwaysFits_ok h hw hv
  have e3 := within_int w 1 W
  have e4 := within_int v 1 H
  rw [decide_eq_true hw] at e3
  rw [decide_eq_true hv] at e4
  simp [F_fits_window, fnP, B_fits_window, run_eV, e1, e2, e3, e4]
/-- what is no size -/
theorem fitsOdd (h : AtlasOk W H ps) {d : PyData} {v : Int} (hd : F_is_within [d, .int 1, .int W] = .ok (.bool false) []) : F_fits_window [encA W H ps, d, .int v] = .ex ⟨"InvalidNumber", none⟩ := by
  have e1 := need_ok h
  simp [F_fits_window, fnP, B_fits_window, run_eV, e1, hd]
theorem odd_none (W : Int) : F_is_within [.none, .int 1, .int W] = .ok (.bool false) [] := by simp [F_is_within, fnP, B_is_within, run_eV, PyData.isInt, PyData.isBool]
theorem odd_true (W : Int) : F_is_within [.bool true, .int 1, .int W] = .ok (.bool false) [] := by simp [F_is_within, fnP, B_is_within, run_eV, PyData.isInt, PyData.isBool]
theorem odd_str (W : Int) (x : Str) : F_is_within [.str x, .int 1, .int W] = .ok (.bool false) [] := by simp [F_is_within, fnP, B_is_within, run_eV, PyData.isInt, PyData.isBool]
end
end Atl

set_option Elab.async false
set_option linter.all false
set_option maxRecDepth 100000
set_option maxHeartbeats 4000000
namespace Atl
open PySem Dl
open L2 (atI ixN)
/-- a loop that goes on, or hands d0 back -/
theorem forL_srch {b : PyData → Rho → Option Rho} {body : Rho → Rs Fl} (I : Nat → Rho → Prop) (ok : Nat → Bool) (d0 : PyData) : ∀ (items : List PyData) (ρ : Rho) (k : Nat), I k ρ →
    (∀ i d ρ, items[i]? = some d → I (k + i) ρ → ∃ ρ1 ρ2, b d ρ = some ρ1 ∧ body ρ1 = .ok (if ok (k + i) = true then .nx else .rt d0) ρ2 ∧ I (k + i + 1) ρ2) →
    ∃ (a : Bool) (j : Nat) (ρ' : Rho), (a = true ↔ ∀ i, i < items.length → ok (k + i) = true) ∧ forL b body items ρ = .ok (if a = true then .nx else .rt d0) ρ' ∧ I j ρ'
  | [], ρ, k, h, _ => ⟨true, k, ρ, by simp, rfl, h⟩
  | d :: ds, ρ, k, h, hs => by
    obtain ⟨ρ1, ρ2, e1, f2, f3⟩ := hs 0 d ρ rfl h
    have un : forL b body (d :: ds) ρ = (body ρ1).andThen (loopS (forL b body ds)) := by
      show (match b d ρ with | some ρ1 => (body ρ1).andThen (loopS (forL b body ds)) | none => Rs.bad) = _
      rw [e1]
    rw [Nat.add_zero] at f2 f3
    cases f1 : ok k with
    | true =>
      rw [f1, if_pos rfl] at f2
      obtain ⟨a, j, ρ', r1, r2, r3⟩ := forL_srch I ok d0 ds ρ2 (k + 1) f3 (fun i d' ρ hi hI => by
        have := hs (i + 1) d' ρ hi (by rw [show k + (i + 1) = k + 1 + i by omega]; exact hI)
        rw [show k + (i + 1) = k + 1 + i by omega] at this
        exact this)
      refine ⟨a, j, ρ', r1.trans ⟨fun z i hi => ?_, fun z i hi => ?_⟩, ?_, r3⟩
      · cases i with
        | zero => exact f1
        | succ i =>
          have := z i (by rw [List.length_cons] at hi; omega)
          rwa [show k + (i + 1) = k + 1 + i by omega]
      · have := z (i + 1) (by rw [List.length_cons]; omega)
        rwa [show k + (i + 1) = k + 1 + i by omega] at this
      · rw [un, f2]
        exact r2
    | false =>
      rw [f1] at f2
      refine ⟨false, k + 1, ρ2, ⟨fun z => Bool.noConfusion z, fun z => ?_⟩, ?_, f3⟩
      · have := z 0 (by rw [List.length_cons]; omega)
        rw [Nat.add_zero, f1] at this
        exact this
      · rw [un, f2]
        rfl
theorem forL_find {b : PyData → Rho → Option Rho} {body : Rho → Rs Fl} (I : Nat → Rho → Prop) (ok : Nat → Bool) (d0 : PyData) (n : Nat) (items : List PyData) (hn : items.length = n) (ρ : Rho) (h : I 0 ρ)
    (hs : ∀ i d ρ, items[i]? = some d → I i ρ → ∃ ρ1 ρ2, b d ρ = some ρ1 ∧ body ρ1 = .ok (if ok i = true then .nx else .rt d0) ρ2 ∧ I (i + 1) ρ2) :
    ∃ j ρ', forL b body items ρ = .ok (if (List.range n).all ok = true then .nx else .rt d0) ρ' ∧ I j ρ' := by
  subst hn
  obtain ⟨a, j, ρ', r1, r2, r3⟩ := forL_srch I ok d0 items ρ 0 h (fun i d ρ hi hI => by
    rw [Nat.zero_add] at hI ⊢
    exact hs i d ρ hi hI)
  simp only [Nat.zero_add] at r1
  refine ⟨j, ρ', ?_, r3⟩
  have e : (List.range items.length).all ok = a := by
    rw [Bool.eq_iff_iff, r1, List.all_eq_true]
    exact ⟨fun z i hi => z i (List.mem_range.mpr hi), fun z i hi => z i (List.mem_range.mp hi)⟩
  rw [r2, e]
/-! the law's own windows -/
def rectL (l t : Int) (w v : Nat) : List Cell := (List.range v).flatMap fun j => (List.range w).map fun i => (l + (i : Nat), t + (j : Nat))
theorem rectL_len (l t : Int) (w v : Nat) : (rectL l t w v).length = v * w := by
  unfold rectL
  rw [flat_len (List.range v) (List.range w) (fun j i => (l + (i : Nat), t + (j : Nat))), List.length_range, List.length_range]
theorem rectL_succ (l t : Int) (w v : Nat) : rectL l t w (v + 1) = rectL l t w v ++ (List.range w).map fun i => (l + (i : Nat), t + (v : Nat)) := by
  unfold rectL
  rw [List.range_succ, List.flatMap_append, List.flatMap_cons, List.flatMap_nil, List.append_nil]
theorem rect_held {W H : Int} {n : Nat} {p : PyData} (hp : PageOk W H n p) {l t : Int} {w v : Nat} (hw : 1 ≤ w) (hv : 1 ≤ v) : ((rectL l t w v).filter fun c => !hold p c.1 c.2).isEmpty = (hold p l t && hold p (l + w - 1) (t + v - 1)) := by
  obtain ⟨s, a0, a1, a2, a3, rfl, hs, _⟩ := hp
  rw [Bool.eq_iff_iff, List.isEmpty_iff, List.filter_eq_nil_iff, Bool.and_eq_true]
  have mem : ∀ x y, (x, y) ∈ rectL l t w v ↔ (l ≤ x ∧ x < l + w ∧ t ≤ y ∧ y < t + v) := fun x y => by
    unfold rectL
    simp only [List.mem_flatMap, List.mem_map, List.mem_range, Prod.mk.injEq]
    constructor
    · rintro ⟨j, hj, i, hi, rfl, rfl⟩
      omega
    · intro h
      exact ⟨(y - t).toNat, by omega, (x - l).toNat, by omega, by omega, by omega⟩
  simp only [hold, decide_eq_true_eq, Bool.not_eq_true, Bool.not_eq_false']
  constructor
  · intro h
    have q1 := h (l, t) ((mem _ _).mpr (by omega))
    have q2 := h (l + w - 1, t + v - 1) ((mem _ _).mpr (by omega))
    simp only [Bool.not_eq_eq_eq_not, Bool.not_false, decide_eq_true_eq] at q1 q2
    exact ⟨q1, q2⟩
  · rintro ⟨q1, q2⟩ ⟨x, y⟩ hc
    have := (mem x y).mp hc
    simp only [Bool.not_eq_eq_eq_not, Bool.not_false, decide_eq_true_eq]
    omega
section
variable {W H : Int} {ps : List PyData}
theorem notIn_nil (L : List (List PyData)) : pNotIn (.list []) (.list (L.map .list)) = some (.bool (!L.any fun z => z.isEmpty)) := by
  unfold pNotIn
  simp only
  rw [if_pos (by simp [PyData.depth, PyData.depthAll]), List.any_map]
  congr 3
  congr 1
  funext z
  exact eqv_nil z
/-- the rectangle's cells -/
theorem rect_loop {A : Slot} {l t : Int} {w v : Nat} (hw : w ≤ 8) (hv : v ≤ 8) (hl : 0 ≤ l ∧ l ≤ 8) (s1 s2 s4 s7 s8 s9 s10 : Slot) (s6 : Slot) : ∃ s6', forL (bName 6) (sSet 5 (eBin pAdd (eV 5) (eLst (eLc (iRng2 (eV 3) (eBin pAdd (eV 3) (eV 1))) (bName 10) eYes (eTup (eCons (eV 10) (eCons (eV 6) eNil))) [10]))))
    (rngL t v) [A, .sh (.int w), s2, .sh (.int l), s4, .sh (.list []), s6, s7, s8, s9, .non] = .ok .nx [A, .sh (.int w), s2, .sh (.int l), s4, .sh (.list ((rectL l t w v).map encZ)), s6', s7, s8, s9, .non] := by
  obtain ⟨ρ', e, s6', rfl⟩ := forL_all (b := bName 6) (body := sSet 5 (eBin pAdd (eV 5) (eLst (eLc (iRng2 (eV 3) (eBin pAdd (eV 3) (eV 1))) (bName 10) eYes (eTup (eCons (eV 10) (eCons (eV 6) eNil))) [10]))))
    (fun i ρ => ∃ s6', ρ = [A, .sh (.int w), s2, .sh (.int l), s4, .sh (.list ((rectL l t w i).map encZ)), s6', s7, s8, s9, .non]) (rngL t v) [A, .sh (.int w), s2, .sh (.int l), s4, .sh (.list []), s6, s7, s8, s9, .non] ⟨s6, rfl⟩ (by
      rintro i x ρ hi ⟨s6', rfl⟩
      have hiv : i < v := by
        have := (List.getElem?_eq_some_iff.mp hi).1
        rwa [rngL_len] at this
      unfold rngL at hi
      rw [List.getElem?_map, List.getElem?_range hiv] at hi
      cases hi
      have e1 := lc_map (fi := iRng2 (eV 3) (eBin pAdd (eV 3) (eV 1))) (b := bName 10) (fe := eTup (eCons (eV 10) (eCons (eV 6) eNil))) (vs := [10])
        (ρ := [A, .sh (.int w), s2, .sh (.int l), s4, .sh (.list ((rectL l t w i).map encZ)), .sh (.int (t + (i : Nat))), s7, s8, s9, .non])
        (ρ1 := [A, .sh (.int w), s2, .sh (.int l), s4, .sh (.list ((rectL l t w i).map encZ)), .sh (.int (t + (i : Nat))), s7, s8, s9, .non])
        (List.range w) (fun k => .int (l + (k : Nat))) (fun k => encZ (l + (k : Nat), t + (i : Nat))) (by
          have k1 : (-1000000 ≤ l ∧ l ≤ 1000000) ∧ -1000000 ≤ l + (w : Int) ∧ l + (w : Int) ≤ 1000000 := by omega
          have k2 : (l + (w : Int) - l).toNat = w := by omega
          simp [run_eV, k1, k2, rngL]) (by rw [List.length_range]; omega) (by simp [wipeR, unwipeR]) (fun k _ => by simp [StepM, wipeR, run_eV])
      have hz : ((rectL l t w i).map encZ).length + ((List.range w).map fun k => encZ (l + (k : Nat), t + (i : Nat))).length ≤ 1000000 := by
        rw [List.length_map, rectL_len, List.length_map, List.length_range]
        have := Nat.mul_le_mul (show i ≤ 8 by omega) hw
        omega
      refine ⟨_, _, rfl, ?_, .sh (.int (t + (i : Nat))), rfl⟩
      rw [rectL_succ, List.map_append, List.map_map]
      have oc := op_catl hz
      rw [run_sSet, run_eBin, run_eV_sh (d := .list ((rectL l t w i).map encZ)) rfl, run_ok, run_eLst]
      rw [show ([A, Slot.sh (.int w), s2, .sh (.int l), s4, .sh (.list ((rectL l t w i).map encZ)), s6', s7, s8, s9, .non] : Rho).set 6 (.sh (.int (t + (i : Nat)))) = [A, .sh (.int w), s2, .sh (.int l), s4, .sh (.list ((rectL l t w i).map encZ)), .sh (.int (t + (i : Nat))), s7, s8, s9, .non] from rfl, e1, run_ok, run_ok, oc]
      rfl)
  rw [rngL_len] at e
  exact ⟨s6', e⟩
end
end Atl

set_option Elab.async false
set_option linter.all false
set_option maxRecDepth 100000
set_option maxHeartbeats 4000000
namespace Atl
open PySem Dl
open L2 (atI ixN)
section
variable {W H : Int} {ps : List PyData}
/-- the cells that a page leaves out -/
theorem out_ok (h : AtlasOk W H ps) {p : PyData} (hp : p ∈ ps) (R : List Cell) (hR : R.length ≤ 1000) (s1 s2 s3 s4 s6 s7 : Slot) :
    eLc (iSeq (eV 5)) (bName 9) (eNot (eT (eFn F__law_holds (eCons (eV 8) (eCons (eV 9) eNil))))) (eV 9) [9] [.sh (encA W H ps), s1, s2, s3, s4, .sh (.list (R.map encZ)), s6, s7, .sh p, .non, .non]
    = .ok ((R.filter fun c => !hold p c.1 c.2).map encZ) [.sh (encA W H ps), s1, s2, s3, s4, .sh (.list (R.map encZ)), s6, s7, .sh p, .non, .non] :=
  lc_filter (ρ1 := [.sh (encA W H ps), s1, s2, s3, s4, .sh (.list (R.map encZ)), s6, s7, .sh p, .non, .non]) R encZ (fun c => !hold p c.1 c.2) encZ (by simp [run_eV]) (by omega) (by simp [wipeR, unwipeR]) (fun c _ => by
    have q := lawHolds_ok (x := c.1) (y := c.2) (h.pg p hp)
    simp [StepF, wipeR, run_eV, q])
theorem lots_ok (h : AtlasOk W H ps) (R : List Cell) (hR : R.length ≤ 1000) (s1 s2 s3 s4 s6 s7 : Slot) :
    eLc (iSeq (eBin pIx (eV 0) (eC (.int 2)))) (bName 8) eYes (eLst (eLc (iSeq (eV 5)) (bName 9) (eNot (eT (eFn F__law_holds (eCons (eV 8) (eCons (eV 9) eNil))))) (eV 9) [9])) [8] [.sh (encA W H ps), s1, s2, s3, s4, .sh (.list (R.map encZ)), s6, s7, .non, .non, .non]
    = .ok (ps.map fun p => .list ((R.filter fun c => !hold p c.1 c.2).map encZ)) [.sh (encA W H ps), s1, s2, s3, s4, .sh (.list (R.map encZ)), s6, s7, .non, .non, .non] :=
  lc_map (ρ1 := [.sh (encA W H ps), s1, s2, s3, s4, .sh (.list (R.map encZ)), s6, s7, .non, .non, .non]) ps (fun p => p) (fun p => .list ((R.filter fun c => !hold p c.1 c.2).map encZ)) (by simp [run_eV]) (by have := h.n6; omega) (by simp [wipeR, unwipeR]) (fun p hp => by
    have q := out_ok h hp R hR s1 s2 s3 s4 s6 s7
    generalize hZ : (R.filter fun c => !hold p c.1 c.2).map encZ = Z at q
    generalize R.map encZ = Y at q ⊢
    simp only [StepM, wipeR]
    simp [run_eV, q])
/-- one place -/
theorem place_ok (h : AtlasOk W H ps) {l t : Int} {w v : Nat} (hw : 1 ≤ w ∧ w ≤ 8) (hv : 1 ≤ v ∧ v ≤ 8) (hl : 0 ≤ l ∧ l ≤ 8) (ht : 0 ≤ t ∧ t ≤ 8) (s5 s6 s7 : Slot) :
    ∃ s5' s6' s7', sSeq (sSet 5 (eLst eNil)) (sSeq (sFor (iRng2 (eV 4) (eBin pAdd (eV 4) (eV 2))) (bName 6) (sSet 5 (eBin pAdd (eV 5) (eLst (eLc (iRng2 (eV 3) (eBin pAdd (eV 3) (eV 1))) (bName 10) eYes (eTup (eCons (eV 10) (eCons (eV 6) eNil))) [10]))))) (sSeq (sSet 7 (eLst (eLc (iSeq (eBin pIx (eV 0) (eC (.int 2)))) (bName 8) eYes (eLst (eLc (iSeq (eV 5)) (bName 9) (eNot (eT (eFn F__law_holds (eCons (eV 8) (eCons (eV 9) eNil))))) (eV 9) [9])) [8]))) (sIf (eT (eBin pNotIn (eLst eNil) (eV 7))) (sRet (eC (.bool false))) sNil)))
      [.sh (encA W H ps), .sh (.int w), .sh (.int v), .sh (.int l), .sh (.int t), s5, s6, s7, .non, .non, .non]
      = .ok (if oneB ps l t w v = true then .nx else .rt (.bool false)) [.sh (encA W H ps), .sh (.int w), .sh (.int v), .sh (.int l), .sh (.int t), s5', s6', s7', .non, .non, .non] := by
  obtain ⟨s6', e1⟩ := rect_loop (A := .sh (encA W H ps)) (l := l) (t := t) hw.2 hv.2 hl .non (.sh (.int v)) (.sh (.int t)) s7 .non .non .non s6
  have hR : (rectL l t w v).length ≤ 1000 := by
    rw [rectL_len]
    exact Nat.le_trans (Nat.mul_le_mul hv.2 hw.2) (by decide)
  have e2 := lots_ok h (rectL l t w v) hR (.sh (.int w)) (.sh (.int v)) (.sh (.int l)) (.sh (.int t)) s6' s7
  have e3 := notIn_nil (ps.map fun p => ((rectL l t w v).filter fun c => !hold p c.1 c.2).map encZ)
  have e4 : ((ps.map fun p => ((rectL l t w v).filter fun c => !hold p c.1 c.2).map encZ).any fun z => z.isEmpty) = oneB ps l t w v := by
    rw [List.any_map]
    unfold oneB
    rw [Bool.eq_iff_iff, List.any_eq_true, List.any_eq_true]
    have key : ∀ p ∈ ps, (((rectL l t w v).filter fun c => !hold p c.1 c.2).map encZ).isEmpty = (hold p l t && hold p (l + w - 1) (t + v - 1)) := fun p hp => by
      rw [List.isEmpty_map]
      exact rect_held (h.pg p hp) hw.1 hv.1
    constructor
    · rintro ⟨p, hp, z⟩
      exact ⟨p, hp, by rw [← key p hp]; exact z⟩
    · rintro ⟨p, hp, z⟩
      exact ⟨p, hp, by rw [← key p hp] at z; exact z⟩
  rw [e4, List.map_map] at e3
  refine ⟨.sh (.list ((rectL l t w v).map encZ)), s6', .sh (.list (ps.map fun p => .list (((rectL l t w v).filter fun c => !hold p c.1 c.2).map encZ))), ?_⟩
  have k1 : (-1000000 ≤ t ∧ t ≤ 1000000) ∧ -1000000 ≤ t + (v : Int) ∧ t + (v : Int) ≤ 1000000 := by omega
  have k2 : (t + (v : Int) - t).toNat = v := by omega
  rw [seq_nx (ρ' := [.sh (encA W H ps), .sh (.int w), .sh (.int v), .sh (.int l), .sh (.int t), .sh (.list []), s6, s7, .non, .non, .non]) (by rfl),
    seq_nx (ρ' := [.sh (encA W H ps), .sh (.int w), .sh (.int v), .sh (.int l), .sh (.int t), .sh (.list ((rectL l t w v).map encZ)), s6', s7, .non, .non, .non]) (by
      rw [run_sFor]
      rw [show iRng2 (eV 4) (eBin pAdd (eV 4) (eV 2)) [.sh (encA W H ps), .sh (.int w), .sh (.int v), .sh (.int l), .sh (.int t), .sh (.list []), s6, s7, .non, .non, .non] = .ok (rngL t v) [.sh (encA W H ps), .sh (.int w), .sh (.int v), .sh (.int l), .sh (.int t), .sh (.list []), s6, s7, .non, .non, .non] by simp [run_eV, k1, k2], run_ok]
      exact e1),
    seq_nx (ρ' := [.sh (encA W H ps), .sh (.int w), .sh (.int v), .sh (.int l), .sh (.int t), .sh (.list ((rectL l t w v).map encZ)), s6', .sh (.list (ps.map fun p => .list (((rectL l t w v).filter fun c => !hold p c.1 c.2).map encZ))), .non, .non, .non]) (by
      rw [run_sSet, run_eLst, e2, run_ok, run_ok]
      rfl)]
  have e3 : pNotIn (.list []) (.list (ps.map fun p => .list (((rectL l t w v).filter fun c => !hold p c.1 c.2).map encZ))) = some (.bool (!oneB ps l t w v)) := e3
  generalize (ps.map fun p => (.list (((rectL l t w v).filter fun c => !hold p c.1 c.2).map encZ) : PyData)) = Z at *
  cases hq : oneB ps l t w v with
  | true =>
    rw [hq] at e3
    simp [run_eV, e3]
  | false =>
    rw [hq] at e3
    simp [run_eV, e3]
theorem lawFits_ok (h : AtlasOk W H ps) {w v : Nat} (hw : 1 ≤ w ∧ (w : Int) ≤ W) (hv : 1 ≤ v ∧ (v : Int) ≤ H) : F__law_fits [encA W H ps, .int w, .int v] = .ok (.bool (fitB W H ps w v)) [] := by
  have h2 := h.w8
  have h4 := h.h8
  have k1 : -1000000 ≤ W - (w : Int) + 1 ∧ W - (w : Int) + 1 ≤ 1000000 := by omega
  have k2 : -1000000 ≤ H - (v : Int) + 1 ∧ H - (v : Int) + 1 ≤ 1000000 := by omega
  obtain ⟨bd, hbd⟩ : ∃ bd, bd = sSeq (sSet 5 (eLst eNil)) (sSeq (sFor (iRng2 (eV 4) (eBin pAdd (eV 4) (eV 2))) (bName 6) (sSet 5 (eBin pAdd (eV 5) (eLst (eLc (iRng2 (eV 3) (eBin pAdd (eV 3) (eV 1))) (bName 10) eYes (eTup (eCons (eV 10) (eCons (eV 6) eNil))) [10]))))) (sSeq (sSet 7 (eLst (eLc (iSeq (eBin pIx (eV 0) (eC (.int 2)))) (bName 8) eYes (eLst (eLc (iSeq (eV 5)) (bName 9) (eNot (eT (eFn F__law_holds (eCons (eV 8) (eCons (eV 9) eNil))))) (eV 9) [9])) [8]))) (sIf (eT (eBin pNotIn (eLst eNil) (eV 7))) (sRet (eC (.bool false))) sNil))) := ⟨_, rfl⟩
  have bdo : ∀ {l t : Int}, 0 ≤ l ∧ l ≤ 8 → 0 ≤ t ∧ t ≤ 8 → ∀ s5 s6 s7, ∃ s5' s6' s7', bd [.sh (encA W H ps), .sh (.int w), .sh (.int v), .sh (.int l), .sh (.int t), s5, s6, s7, .non, .non, .non] = .ok (if oneB ps l t w v = true then .nx else .rt (.bool false)) [.sh (encA W H ps), .sh (.int w), .sh (.int v), .sh (.int l), .sh (.int t), s5', s6', s7', .non, .non, .non] := fun hl ht s5 s6 s7 => by
    rw [hbd]
    exact place_ok h ⟨hw.1, by omega⟩ ⟨hv.1, by omega⟩ hl ht s5 s6 s7
  have inner : ∀ (l : Nat), l < (W - (w : Int) + 1).toNat → ∀ s4 s5 s6 s7, ∃ s4' s5' s6' s7', sFor (iRng1 (eBin pAdd (eBin pSub (eBin pIx (eV 0) (eC (.int 1))) (eV 2)) (eC (.int 1)))) (bName 4) bd [.sh (encA W H ps), .sh (.int w), .sh (.int v), .sh (.int (l : Nat)), s4, s5, s6, s7, .non, .non, .non]
      = .ok (if ((List.range (H - v + 1).toNat).all fun t => oneB ps l t w v) = true then .nx else .rt (.bool false)) [.sh (encA W H ps), .sh (.int w), .sh (.int v), .sh (.int (l : Nat)), s4', s5', s6', s7', .non, .non, .non] := fun l hl s4 s5 s6 s7 => by
    rw [run_sFor]
    rw [show iRng1 (eBin pAdd (eBin pSub (eBin pIx (eV 0) (eC (.int 1))) (eV 2)) (eC (.int 1))) [.sh (encA W H ps), .sh (.int w), .sh (.int v), .sh (.int (l : Nat)), s4, s5, s6, s7, .non, .non, .non] = .ok (rngL 0 (H - (v : Int) + 1).toNat) [.sh (encA W H ps), .sh (.int w), .sh (.int v), .sh (.int (l : Nat)), s4, s5, s6, s7, .non, .non, .non] by simp [run_eV, k2], run_ok]
    obtain ⟨j, ρ', e, s4', s5', s6', s7', rfl⟩ := forL_find (b := bName 4) (body := bd) (fun _ ρ => ∃ s4' s5' s6' s7', ρ = [.sh (encA W H ps), .sh (.int w), .sh (.int v), .sh (.int (l : Nat)), s4', s5', s6', s7', .non, .non, .non]) (fun t => oneB ps l t w v) (.bool false) (H - (v : Int) + 1).toNat (rngL 0 (H - (v : Int) + 1).toNat) (rngL_len _ _)
      [.sh (encA W H ps), .sh (.int w), .sh (.int v), .sh (.int (l : Nat)), s4, s5, s6, s7, .non, .non, .non] ⟨_, _, _, _, rfl⟩ (by
        rintro t d ρ hi ⟨s4', s5', s6', s7', rfl⟩
        have ht : t < (H - (v : Int) + 1).toNat := by
          have := (List.getElem?_eq_some_iff.mp hi).1
          rwa [rngL_len] at this
        rw [rngL_map, List.getElem?_map, List.getElem?_range ht] at hi
        cases hi
        obtain ⟨u5, u6, u7, f⟩ := bdo (l := (l : Nat)) (t := (t : Nat)) (by omega) (by omega) s5' s6' s7'
        exact ⟨_, _, rfl, f, _, _, _, _, rfl⟩)
    exact ⟨s4', s5', s6', s7', e⟩
  obtain ⟨ib, hib⟩ : ∃ ib, ib = sFor (iRng1 (eBin pAdd (eBin pSub (eBin pIx (eV 0) (eC (.int 1))) (eV 2)) (eC (.int 1)))) (bName 4) bd := ⟨_, rfl⟩
  rw [← hib] at inner
  obtain ⟨j, ρ', e, s3', s4', s5', s6', s7', rfl⟩ := forL_find (b := bName 3) (body := ib) (fun _ ρ => ∃ s3' s4' s5' s6' s7', ρ = [.sh (encA W H ps), .sh (.int w), .sh (.int v), s3', s4', s5', s6', s7', .non, .non, .non]) (fun l => (List.range (H - v + 1).toNat).all fun t => oneB ps l t w v) (.bool false) (W - (w : Int) + 1).toNat (rngL 0 (W - (w : Int) + 1).toNat) (rngL_len _ _)
    [.sh (encA W H ps), .sh (.int w), .sh (.int v), .non, .non, .non, .non, .non, .non, .non, .non] ⟨_, _, _, _, _, rfl⟩ (by
      rintro l d ρ hi ⟨s3', s4', s5', s6', s7', rfl⟩
      have hl : l < (W - (w : Int) + 1).toNat := by
        have := (List.getElem?_eq_some_iff.mp hi).1
        rwa [rngL_len] at this
      rw [rngL_map, List.getElem?_map, List.getElem?_range hl] at hi
      cases hi
      obtain ⟨u4, u5, u6, u7, f⟩ := inner l hl s4' s5' s6' s7'
      exact ⟨_, _, rfl, f, _, _, _, _, _, rfl⟩)
  have fo : sFor (iRng1 (eBin pAdd (eBin pSub (eBin pIx (eV 0) (eC (.int 0))) (eV 1)) (eC (.int 1)))) (bName 3) ib [.sh (encA W H ps), .sh (.int w), .sh (.int v), .non, .non, .non, .non, .non, .non, .non, .non]
      = .ok (if fitB W H ps w v = true then .nx else .rt (.bool false)) [.sh (encA W H ps), .sh (.int w), .sh (.int v), s3', s4', s5', s6', s7', .non, .non, .non] := by
    rw [run_sFor]
    rw [show iRng1 (eBin pAdd (eBin pSub (eBin pIx (eV 0) (eC (.int 0))) (eV 1)) (eC (.int 1))) [.sh (encA W H ps), .sh (.int w), .sh (.int v), .non, .non, .non, .non, .non, .non, .non, .non] = .ok (rngL 0 (W - (w : Int) + 1).toNat) [.sh (encA W H ps), .sh (.int w), .sh (.int v), .non, .non, .non, .non, .non, .non, .non, .non] by simp [run_eV, k1], run_ok]
    exact e
  refine fnP_rt (ρ0 := [.sh (encA W H ps), .sh (.int w), .sh (.int v), .non, .non, .non, .non, .non, .non, .non, .non]) rfl (ρ' := [.sh (encA W H ps), .sh (.int w), .sh (.int v), s3', s4', s5', s6', s7', .non, .non, .non]) ?_
  unfold B__law_fits
  rw [← hbd, ← hib, run_sSeq, fo, run_ok]
  cases fitB W H ps w v <;> rfl
end
end Atl

set_option Elab.async false
set_option linter.all false
set_option maxRecDepth 100000
set_option maxHeartbeats 4000000
namespace Atl
open PySem Dl
open L2 (atI ixN)
theorem depth_z (c : Cell) : (encZ c).depth = 1 := by simp [PyData.depth, PyData.depthAll]
theorem eqv_z (a b : Cell) : PyData.eqv (encZ a) (encZ b) = decide (a = b) := by
  rw [Bool.eq_iff_iff, decide_eq_true_eq, Prod.ext_iff]
  simp [PyData.eqv, PyData.eqvAll]
theorem op_eqz (a b : Cell) : pEq (encZ a) (encZ b) = some (.bool (decide (a = b))) := by
  unfold pEq
  rw [if_pos (by have := depth_z a; have := depth_z b; omega), eqv_z]
theorem op_nez (a b : Cell) : pNe (encZ a) (encZ b) = some (.bool (!decide (a = b))) := by
  unfold pNe
  rw [if_pos (by have := depth_z a; have := depth_z b; omega), eqv_z]
theorem op_rep1 (x : PyData) (b : Bool) : pMul (.list [x]) (.int (if b = true then 1 else 0)) = some (.list (if b = true then [x] else [])) := by
  cases b <;> rfl
/-! pairs in order -/
def leZ (a b : Cell) : Prop := a.1 < b.1 ∨ (a.1 = b.1 ∧ a.2 ≤ b.2)
theorem dataLe_z (a b : Cell) (h : leZ a b) : PySem.W.dataLe false id (encZ a) (encZ b) = true := by
  show (!PyProof.Rows.lexLt PyProof.Rows.itemOrd (PySem.W.keyToks (encZ b)) (PySem.W.keyToks (encZ a))) = true
  simp only [PySem.W.keyToks, PySem.W.keyToksAll, List.cons_append, List.nil_append]
  unfold leZ at h
  by_cases h1 : b.1 < a.1 <;> by_cases h2 : a.1 < b.1 <;> by_cases h3 : b.2 < a.2 <;> by_cases h4 : a.2 < b.2 <;> simp [PyProof.Rows.lexLt, PyProof.Rows.lex_cons, PyProof.Rows.itemLt, h1, h2, h3, h4] <;> omega
theorem sorted_z {L : List Cell} (h : L.Pairwise leZ) (hl : L.length ≤ 1000000) : pSorted [.list (L.map encZ)] = some (L.map encZ) := by
  unfold pSorted
  simp only
  have hc : PySem.W.AllAlike (L.map encZ) ∧ PySem.W.Sortable (L.map encZ) ∧ (∀ d ∈ L.map encZ, d.depth ≤ 60) ∧ (L.map encZ).length ≤ 1000000 := by
    refine ⟨fun a ha b hb => ?_, .inl fun a ha => ?_, fun d hd => ?_, by rw [List.length_map]; exact hl⟩
    · obtain ⟨p, _, rfl⟩ := List.mem_map.mp ha
      obtain ⟨q, _, rfl⟩ := List.mem_map.mp hb
      simp [PySem.W.alike, PySem.W.alikeAll]
    · obtain ⟨p, _, rfl⟩ := List.mem_map.mp ha
      exact ⟨_, _, rfl⟩
    · obtain ⟨p, _, rfl⟩ := List.mem_map.mp hd
      rw [depth_z]
      decide
  rw [if_pos hc, List.mergeSort_of_pairwise]
  rw [List.pairwise_map]
  exact h.imp fun h => dataLe_z _ _ h
/-! the sizes -/
def sizesL (W H : Int) : List Cell := (List.range W.toNat).flatMap fun a => (List.range H.toNat).map fun b => (1 + (a : Nat), 1 + (b : Nat))
def gtB (z o : Cell) : Bool := !decide (o = z) && (decide (z.1 ≤ o.1) && decide (z.2 ≤ o.2))
def goodL (W H : Int) (ps : List PyData) : List Cell := (sizesL W H).filter fun z => fitB W H ps z.1 z.2
def dueL (G : List Cell) : List Cell := G.filter fun z => !G.any (gtB z)
theorem sizes_len (W H : Int) : (sizesL W H).length = W.toNat * H.toNat := by
  unfold sizesL
  rw [flat_len (List.range W.toNat) (List.range H.toNat) (fun a b => ((1 + (a : Nat), 1 + (b : Nat)) : Cell)), List.length_range, List.length_range]
theorem mem_sizes {W H : Int} {z : Cell} : z ∈ sizesL W H ↔ (1 ≤ z.1 ∧ z.1 ≤ W) ∧ 1 ≤ z.2 ∧ z.2 ≤ H := by
  obtain ⟨x, y⟩ := z
  unfold sizesL
  simp only [List.mem_flatMap, List.mem_map, List.mem_range, Prod.mk.injEq]
  constructor
  · rintro ⟨j, hj, i, hi, rfl, rfl⟩
    omega
  · intro h
    exact ⟨(x - 1).toNat, by omega, (y - 1).toNat, by omega, by omega, by omega⟩
theorem sizes_sorted (W H : Int) : (sizesL W H).Pairwise leZ := by
  unfold sizesL
  generalize W.toNat = n
  induction n with
  | zero => exact .nil
  | succ n ih =>
    rw [List.range_succ, List.flatMap_append, List.flatMap_cons, List.flatMap_nil, List.append_nil, List.pairwise_append]
    refine ⟨ih, ?_, fun a ha b hb => ?_⟩
    · rw [List.pairwise_map]
      exact List.Pairwise.imp (fun {a b} h => .inr ⟨rfl, by show (1 + (a : Int)) ≤ 1 + (b : Int); omega⟩) List.pairwise_lt_range
    · obtain ⟨i, hi, ha⟩ := List.mem_flatMap.mp ha
      obtain ⟨j, _, rfl⟩ := List.mem_map.mp ha
      obtain ⟨k, _, rfl⟩ := List.mem_map.mp hb
      have := List.mem_range.mp hi
      exact .inl (by show (1 + (i : Int)) < 1 + (n : Int); omega)
theorem good_len {W H : Int} {ps : List PyData} (hW : W ≤ 8) (hH : H ≤ 8) : (goodL W H ps).length ≤ 64 := by
  refine Nat.le_trans (List.length_filter_le _ _) ?_
  rw [sizes_len]
  exact Nat.le_trans (Nat.mul_le_mul (show W.toNat ≤ 8 by omega) (show H.toNat ≤ 8 by omega)) (by decide)
theorem due_len (G : List Cell) : (dueL G).length ≤ G.length := List.length_filter_le _ _
theorem due_sorted {W H : Int} {ps : List PyData} : (dueL (goodL W H ps)).Pairwise leZ := ((sizes_sorted W H).filter _).filter _
section
variable {W H : Int} {ps : List PyData}
theorem greater_run (z o : Cell) (ρ : Rho) (i j : Nat) (hi : ρ[i]? = some (.sh (encZ o))) (hj : ρ[j]? = some (.sh (encZ z))) : eAndV (eBin pNe (eV i) (eV j)) (eAndV (eBin pGe (eBin pIx (eV i) (eC (.int 0))) (eBin pIx (eV j) (eC (.int 0)))) (eBin pGe (eBin pIx (eV i) (eC (.int 1))) (eBin pIx (eV j) (eC (.int 1))))) ρ = .ok (.bool (gtB z o)) ρ := by
  have n := op_nez o z
  unfold gtB
  generalize decide (o = z) = b at n ⊢
  cases b <;> by_cases h2 : z.1 ≤ o.1 <;> simp [run_eV, hi, hj, n, h2]
theorem windows_ok (h : AtlasOk W H ps) : F_windows [encA W H ps] = .ok (.list ((dueL (goodL W H ps)).map encZ)) [] := by
  have w1 := h.w1
  have w8 := h.w8
  have h1 := h.h1
  have h8 := h.h8
  have e1 := need_ok h
  have gl := good_len (ps := ps) w8 h8
  have k1 : (-1000000 ≤ W + 1 ∧ W + 1 ≤ 1000000) := by omega
  have k2 : (-1000000 ≤ H + 1 ∧ H + 1 ≤ 1000000) := by omega
  have n1 : (W + 1 - 1).toNat = W.toNat := by omega
  have n2 : (H + 1 - 1).toNat = H.toNat := by omega
  have e2 := lc2_map (fi := iRng2 (eC (.int 1)) (eBin pAdd (eBin pIx (eV 0) (eC (.int 0))) (eC (.int 1)))) (b := bName 5) (fi1 := iRng2 (eC (.int 1)) (eBin pAdd (eBin pIx (eV 0) (eC (.int 1))) (eC (.int 1)))) (b1 := bName 6) (fe := eTup (eCons (eV 5) (eCons (eV 6) eNil))) (vs := [5, 6]) (vs1 := [6])
    (ρ := [.sh (encA W H ps), .non, .non, .non, .non, .non, .non, .non]) (ρ1 := [.sh (encA W H ps), .non, .non, .non, .non, .non, .non, .non])
    (List.range W.toNat) (fun a => .int (1 + (a : Nat))) (fun b => .int (1 + (b : Nat))) (fun _ => List.range H.toNat) (fun a b => encZ (1 + (a : Nat), 1 + (b : Nat))) (by simp [run_eV, k1, n1, rngL])
    (by rw [flat_len, List.length_range, List.length_range]; exact Nat.le_trans (Nat.mul_le_mul (show W.toNat ≤ 8 by omega) (show H.toNat ≤ 8 by omega)) (by decide)) (by simp [wipeR, unwipeR]) (fun a _ => by
      simp only [Step2, run_bName]
      simp [run_eV, wipeR, k2, n2, rngL]
      intro b hb
      simp [StepF, run_eV, wipeR])
  have e2' : ((List.range W.toNat).flatMap fun a => (List.range H.toNat).map fun b => encZ (1 + (a : Nat), 1 + (b : Nat))) = (sizesL W H).map encZ := by
    unfold sizesL
    rw [List.map_flatMap]
    congr 1
    funext a
    rw [List.map_map]
    rfl
  rw [e2'] at e2
  have e3 := lc_filter (fi := iSeq (eV 1)) (b := bName 4) (ft := eT (eFn F_always_fits (eCons (eV 0) (eCons (eBin pIx (eV 4) (eC (.int 0))) (eCons (eBin pIx (eV 4) (eC (.int 1))) eNil))))) (fe := eV 4) (vs := [4])
    (ρ := [.sh (encA W H ps), .sh (.list ((sizesL W H).map encZ)), .non, .non, .non, .non, .non, .non]) (ρ1 := [.sh (encA W H ps), .sh (.list ((sizesL W H).map encZ)), .non, .non, .non, .non, .non, .non])
    (sizesL W H) encZ (fun z => fitB W H ps z.1 z.2) encZ (by simp [run_eV]) (by rw [sizes_len]; exact Nat.le_trans (Nat.mul_le_mul (show W.toNat ≤ 8 by omega) (show H.toNat ≤ 8 by omega)) (by decide)) (by simp [wipeR, unwipeR]) (fun z hz => by
      have hz := mem_sizes.mp hz
      have q := alwaysFits_ok h hz.1 hz.2
      generalize (sizesL W H).map encZ = Y
      simp [StepF, wipeR, run_eV, q])
  generalize hG : goodL W H ps = G at *
  have e3' : (sizesL W H).filter (fun z => fitB W H ps z.1 z.2) = G := hG
  rw [e3'] at e3
  have body : ∀ (z : Cell) (acc : List Cell), acc.length ≤ 64 → ∀ s4, sIf (eNot (eT (eCall pAny (eCons (eLst (eLc (iSeq (eV 2)) (bName 7) eYes (eAndV (eBin pNe (eV 7) (eV 4)) (eAndV (eBin pGe (eBin pIx (eV 7) (eC (.int 0))) (eBin pIx (eV 4) (eC (.int 0)))) (eBin pGe (eBin pIx (eV 7) (eC (.int 1))) (eBin pIx (eV 4) (eC (.int 1)))))) [7])) eNil)))) (sApp 3 (eV 4)) sNil
      (([.sh (encA W H ps), .sh (.list ((sizesL W H).map encZ)), .sh (.list (G.map encZ)), .own false (acc.map encZ), s4, .non, .non, .non] : Rho).set 4 (.sh (encZ z)))
      = .ok .nx [.sh (encA W H ps), .sh (.list ((sizesL W H).map encZ)), .sh (.list (G.map encZ)), .own false ((acc ++ if G.any (gtB z) = true then [] else [z]).map encZ), .sh (encZ z), .non, .non, .non] := fun z acc ha s4 => by
    have e4 := lc_map (fi := iSeq (eV 2)) (b := bName 7) (fe := eAndV (eBin pNe (eV 7) (eV 4)) (eAndV (eBin pGe (eBin pIx (eV 7) (eC (.int 0))) (eBin pIx (eV 4) (eC (.int 0)))) (eBin pGe (eBin pIx (eV 7) (eC (.int 1))) (eBin pIx (eV 4) (eC (.int 1)))))) (vs := [7])
      (ρ := [.sh (encA W H ps), .sh (.list ((sizesL W H).map encZ)), .sh (.list (G.map encZ)), .own false (acc.map encZ), .sh (encZ z), .non, .non, .non]) (ρ1 := [.sh (encA W H ps), .sh (.list ((sizesL W H).map encZ)), .sh (.list (G.map encZ)), .own false (acc.map encZ), .sh (encZ z), .non, .non, .non])
      G encZ (fun o => .bool (gtB z o)) (by simp [run_eV]) (by omega) (by simp [wipeR, unwipeR]) (fun o _ => by
        generalize (sizesL W H).map encZ = Y
        generalize G.map encZ = Z
        simp only [StepM, wipeR, run_bName, List.mapIdx_cons, List.mapIdx_nil, List.set_cons_succ, List.set_cons_zero]
        rw [greater_run z o _ 7 4 rfl rfl]
        simp)
    have e5 := pAny_bools (G.map (gtB z))
    rw [List.map_map, List.any_map] at e5
    have e5 : pAny [.list (G.map fun o => .bool (gtB z o))] = some (.bool (G.any (gtB z))) := e5
    generalize (G.map fun o => (.bool (gtB z o) : PyData)) = Z5 at *
    have l3 : (acc.map encZ).length < 1000000 := by rw [List.length_map]; omega
    generalize (sizesL W H).map encZ = Y at *
    generalize G.map encZ = Z at *
    rw [List.map_append]
    generalize acc.map encZ = AC at *
    cases hq : G.any (gtB z) with
    | true =>
      rw [hq] at e5
      simp [run_eV, e4, e5]
    | false =>
      rw [hq] at e5
      simp [run_eV, e4, e5, run_sApp, run_ownAt', l3]
  generalize hB : sIf (eNot (eT (eCall pAny (eCons (eLst (eLc (iSeq (eV 2)) (bName 7) eYes (eAndV (eBin pNe (eV 7) (eV 4)) (eAndV (eBin pGe (eBin pIx (eV 7) (eC (.int 0))) (eBin pIx (eV 4) (eC (.int 0)))) (eBin pGe (eBin pIx (eV 7) (eC (.int 1))) (eBin pIx (eV 4) (eC (.int 1)))))) [7])) eNil)))) (sApp 3 (eV 4)) sNil = bd at body
  obtain ⟨ρ', e6, s4', rfl⟩ := forL_all (b := bName 4) (body := bd) (fun i ρ => ∃ s4, ρ = [.sh (encA W H ps), .sh (.list ((sizesL W H).map encZ)), .sh (.list (G.map encZ)), .own false (((G.take i).filter fun z => !G.any (gtB z)).map encZ), s4, .non, .non, .non]) (G.map encZ)
    [.sh (encA W H ps), .sh (.list ((sizesL W H).map encZ)), .sh (.list (G.map encZ)), .own false [], .non, .non, .non, .non] ⟨.non, rfl⟩ (by
      rintro i x ρ hi ⟨s4, rfl⟩
      rw [List.getElem?_map] at hi
      obtain ⟨z, hz, rfl⟩ := Option.map_eq_some_iff.mp hi
      obtain ⟨hlt, hzi⟩ := List.getElem?_eq_some_iff.mp hz
      have l := List.length_filter_le (fun z => !G.any (gtB z)) (G.take i)
      rw [List.length_take] at l
      refine ⟨_, _, rfl, body z _ (by omega) s4, .sh (encZ z), ?_⟩
      rw [List.take_succ_eq_append_getElem hlt, hzi, List.filter_append, List.filter_cons, List.filter_nil]
      cases G.any (gtB z) <;> rfl)
  rw [List.length_map, List.take_length] at e6
  refine fnP_rt (ρ0 := [.sh (encA W H ps), .non, .non, .non, .non, .non, .non, .non]) rfl (ρ' := [.sh (encA W H ps), .sh (.list ((sizesL W H).map encZ)), .sh (.list (G.map encZ)), .sh (.list ((dueL G).map encZ)), s4', .non, .non, .non]) ?_
  unfold B_windows
  rw [hB]
  rw [seq_nx (ρ' := [.sh (encA W H ps), .non, .non, .non, .non, .non, .non, .non]) (by simp [run_eV, e1]),
    seq_nx (ρ' := [.sh (encA W H ps), .sh (.list ((sizesL W H).map encZ)), .non, .non, .non, .non, .non, .non]) (by rw [run_sSet, run_eLst, e2]; rfl),
    seq_nx (ρ' := [.sh (encA W H ps), .sh (.list ((sizesL W H).map encZ)), .sh (.list (G.map encZ)), .non, .non, .non, .non, .non]) (by rw [run_sSet, run_eLst, e3]; rfl),
    seq_nx (ρ' := [.sh (encA W H ps), .sh (.list ((sizesL W H).map encZ)), .sh (.list (G.map encZ)), .own false [], .non, .non, .non, .non]) (by rfl),
    seq_nx (by rw [run_sFor, run_iSeq, run_eV_sh (d := .list (G.map encZ)) rfl, run_ok, items_l, run_some, run_ok]; exact e6)]
  rfl
end
end Atl

set_option Elab.async false
set_option linter.all false
set_option maxRecDepth 100000
set_option maxHeartbeats 4000000
namespace Atl
open PySem Dl
open L2 (atI ixN)
def wideP (W H c : Int) : PyData → PyData
  | .tuple [.int l, .int t, .int w, .int h, ar] => .tuple [.int (if l - c > 0 then l - c else 0), .int (if t - c > 0 then t - c else 0), .int ((if l + w + c < W then l + w + c else W) - (if l - c > 0 then l - c else 0)), .int ((if t + h + c < H then t + h + c else H) - (if t - c > 0 then t - c else 0)), ar]
  | d => d
theorem if_max (z : Int) : (if z > 0 then z else 0) = max z 0 := by split <;> omega
theorem if_min (r W : Int) : (if r < W then r else W) = min r W := by split <;> omega
section
variable {W H : Int} {ps : List PyData} {n : Nat} {p : PyData} {c : Int}
theorem wider_ok (hp : PageOk W H n p) : F_wider [p, .int W, .int H, .int c] = .ok (wideP W H c p) [] := by
  obtain ⟨s, a0, a1, a2, a3, rfl, _⟩ := hp
  simp [F_wider, fnP, B_wider, run_eV, wideP]
theorem wide_pageOk (hc : 0 ≤ c) (hp : PageOk W H n p) : PageOk W H n (wideP W H c p) := by
  obtain ⟨s, a0, a1, a2, a3, rfl, ⟨q1, q2, q3, q4, q5, q6⟩, ha⟩ := hp
  refine ⟨⟨max (s.l - c) 0, max (s.t - c) 0, min (s.l + s.w + c) W - max (s.l - c) 0, min (s.t + s.h + c) H - max (s.t - c) 0⟩, a0, a1, a2, a3, ?_, ⟨?_, ?_, ?_, ?_, ?_, ?_⟩, ha⟩
  · simp only [wideP, if_max, if_min]
  all_goals (simp only; omega)
theorem wide_hold (hc : 0 ≤ c) (hp : PageOk W H n p) {x y : Int} (hx : 0 ≤ x ∧ x < W) (hy : 0 ≤ y ∧ y < H) (h : hold p x y = true) : hold (wideP W H c p) x y = true := by
  obtain ⟨s, a0, a1, a2, a3, rfl, ⟨q1, q2, q3, q4, q5, q6⟩, ha⟩ := hp
  simp only [hold, decide_eq_true_eq] at h
  simp only [wideP, hold, decide_eq_true_eq, if_max, if_min]
  omega
theorem wide_atlas (hc : 0 ≤ c) (h : AtlasOk W H ps) : AtlasOk W H (ps.map (wideP W H c)) := by
  refine ⟨h.w1, h.w8, h.h1, h.h8, by rw [List.length_map]; exact h.n1, by rw [List.length_map]; exact h.n6, fun p hp => ?_, fun x y h1 h2 h3 h4 => ?_⟩
  · obtain ⟨q, hq, rfl⟩ := List.mem_map.mp hp
    rw [List.length_map]
    exact wide_pageOk hc (h.pg q hq)
  · obtain ⟨q, hq, e⟩ := h.cov x y h1 h2 h3 h4
    exact ⟨_, List.mem_map_of_mem hq, wide_hold hc (h.pg q hq) ⟨h1, h2⟩ ⟨h3, h4⟩ e⟩
theorem withMargin_ok (h : AtlasOk W H ps) : F_with_margin [encA W H ps, .int c] = .ok (encA W H (ps.map (wideP W H c))) [] := by
  have e := lc_map (fi := iSeq (eBin pIx (eV 0) (eC (.int 2)))) (b := bName 2) (fe := eFn F_wider (eCons (eV 2) (eCons (eBin pIx (eV 0) (eC (.int 0))) (eCons (eBin pIx (eV 0) (eC (.int 1))) (eCons (eV 1) eNil))))) (vs := [2])
    (ρ := [.sh (encA W H ps), .sh (.int c), .non]) (ρ1 := [.sh (encA W H ps), .sh (.int c), .non]) ps (fun p => p) (wideP W H c) (by simp [run_eV]) (by have := h.n6; omega) (by simp [wipeR, unwipeR]) (fun p hp => by
      have q := wider_ok (c := c) (h.pg p hp)
      simp [StepM, wipeR, run_eV, q])
  have cc : cutD [.int W, .int H, .tuple ps] none (some 2) = [.int W, .int H] := cut_take _ 2
  have n6 := h.n6
  simp [F_with_margin, fnP, B_with_margin, run_eV, e, pSl, cc]
  rfl
theorem needMargin_ok (hc : 0 ≤ c ∧ c ≤ 8) : F_need_margin [.int c] = .ok .none [] := by
  have q := within_int c 0 8
  rw [decide_eq_true hc] at q
  simp [F_need_margin, fnP, B_need_margin, run_eV, q]
theorem widened_ok (h : AtlasOk W H ps) (hc : 0 ≤ c ∧ c ≤ 8) : F_widened [encA W H ps, .int c] = .ok (encA W H (ps.map (wideP W H c))) [] := by
  have e1 := need_ok h
  have e2 := needMargin_ok hc
  have e3 := withMargin_ok (c := c) h
  simp [F_widened, fnP, B_widened, run_eV, e1, e2, e3]
end
theorem op_nes (a b : Str) : pNe (.str a) (.str b) = some (.bool (!decide (a = b))) := by
  unfold pNe
  rw [if_pos (by simp [PyData.depth])]
  have e : PyData.eqv (.str a) (.str b) = decide (a = b) := by
    rw [Bool.eq_iff_iff, decide_eq_true_eq]
    simp [PyData.eqv]
  rw [e]
theorem kinD_none {x : Str} (h : x ∈ excNames ∧ x ≠ "TooMany" ∧ x ≠ "InvalidText") : kinD ⟨x, none⟩ = some (.str (kinS x)) := if_pos h
theorem kin_number : kinD ⟨"InvalidNumber", none⟩ = some (.str "number +") := by
  rw [kinD_none (by decide +kernel), show kinS "InvalidNumber" = "number +" by decide +kernel]
end Atl

set_option Elab.async false
set_option linter.all false
set_option maxRecDepth 100000
set_option maxHeartbeats 4000000
namespace Atl
open PySem Dl
open L2 (atI ixN)
/-! what an atlas is, of any data -/
def inR (d : PyData) (lo hi : Int) : Bool := match d with
  | .int i => decide (lo ≤ i ∧ i ≤ hi)
  | _ => false
theorem inR_int {d : PyData} {lo hi : Int} (h : inR d lo hi = true) : ∃ i, d = .int i ∧ lo ≤ i ∧ i ≤ hi := by
  cases d with
  | int i => exact ⟨i, rfl, of_decide_eq_true h⟩
  | _ => cases h
theorem within_all (d : PyData) (lo hi : Int) : F_is_within [d, .int lo, .int hi] = .ok (.bool (inR d lo hi)) [] := by
  cases d with
  | int i => exact within_int i lo hi
  | _ => simp [F_is_within, fnP, B_is_within, run_eV, PyData.isInt, PyData.isBool, inR]
theorem whole_all (d : PyData) : F__law_whole [d] = .ok (.bool (match d with | .int _ => true | _ => false)) [] := by
  cases d <;> simp [F__law_whole, fnP, B__law_whole, run_eV, PyData.isInt, PyData.isBool]
theorem lawIn_all (d : PyData) (lo hi : Int) : F__law_in [d, .int lo, .int hi] = .ok (.bool (inR d lo hi)) [] := by
  have e := whole_all d
  cases d with
  | int i =>
    simp only at e
    by_cases h1 : lo ≤ i <;> by_cases h2 : i ≤ hi <;> simp [F__law_in, fnP, B__law_in, run_eV, e, inR, h1, h2]
  | _ =>
    simp only at e
    simp [F__law_in, fnP, B__law_in, run_eV, e, inR]
def arrB (n : Nat) (a : PyData) : Bool := match a with
  | .none => true
  | a => inR a 0 ((n : Int) - 1)
@[simp] theorem isN_dict {kvs : List (PyData × PyData)} : isN (.dict kvs) = false := rfl
theorem arrB_iff {n : Nat} {a : PyData} : arrB n a = true ↔ ArrOk n a := by
  unfold ArrOk
  cases a with
  | none => simp [arrB]
  | int k =>
    simp only [arrB, inR, decide_eq_true_eq]
    constructor
    · intro h
      exact .inr ⟨k, rfl, h.1, by omega⟩
    · rintro (h | ⟨j, h, h1, h2⟩)
      · cases h
      · cases h
        omega
  | _ => simp [arrB, inR]
def pageB (W H : Int) (n : Nat) : PyData → Bool
  | .tuple [.int l, .int t, .int w, .int h, .tuple [a0, a1, a2, a3]] => decide (0 ≤ l ∧ l ≤ W - 1) && (decide (0 ≤ t ∧ t ≤ H - 1) && (decide (1 ≤ w ∧ w ≤ W - l) && (decide (1 ≤ h ∧ h ≤ H - t) && [a0, a1, a2, a3].all (arrB n))))
  | _ => false
theorem pageB_iff {W H : Int} {n : Nat} {p : PyData} : pageB W H n p = true ↔ PageOk W H n p := by
  constructor
  · intro h
    unfold pageB at h
    split at h
    · rename_i l t w v a0 a1 a2 a3
      simp only [Bool.and_eq_true, decide_eq_true_eq, List.all_cons, List.all_nil, and_true, arrB_iff] at h
      obtain ⟨h1, h2, h3, h4, h5, h6, h7, h8⟩ := h
      exact ⟨⟨l, t, w, v⟩, a0, a1, a2, a3, rfl, ⟨h1.1, h2.1, h3.1, h4.1, by simp only; omega, by simp only; omega⟩, h5, h6, h7, h8⟩
    · cases h
  · rintro ⟨s, a0, a1, a2, a3, rfl, ⟨q1, q2, q3, q4, q5, q6⟩, h5, h6, h7, h8⟩
    simp only [pageB, Bool.and_eq_true, decide_eq_true_eq, List.all_cons, List.all_nil, and_true, arrB_iff]
    exact ⟨by omega, by omega, by omega, by omega, h5, h6, h7, h8⟩
/-- five items, the last one a tuple of four -/
inductive Shape : PyData → Prop where
  | no {d : PyData} (h : d.isTuple = false) : Shape d
  | len {xs : List PyData} (h : xs.length ≠ 5) : Shape (.tuple xs)
  | in_ {x0 x1 x2 x3 x4 : PyData} (h : x4.isTuple = false) : Shape (.tuple [x0, x1, x2, x3, x4])
  | in4 {x0 x1 x2 x3 : PyData} {as : List PyData} (h : as.length ≠ 4) : Shape (.tuple [x0, x1, x2, x3, .tuple as])
  | ok {x0 x1 x2 x3 a0 a1 a2 a3 : PyData} : Shape (.tuple [x0, x1, x2, x3, .tuple [a0, a1, a2, a3]])
theorem shape_of (d : PyData) : Shape d := by
  cases d with
  | tuple xs =>
    by_cases h : xs.length = 5
    · match xs, h with
      | [x0, x1, x2, x3, x4], _ =>
        cases x4 with
        | tuple as =>
          by_cases h4 : as.length = 4
          · match as, h4 with
            | [a0, a1, a2, a3], _ => exact .ok
          · exact .in4 h4
        | _ => exact .in_ rfl
    · exact .len h
  | _ => exact .no rfl
theorem pageB_no {W H : Int} {n : Nat} {d : PyData} (h : d.isTuple = false) : pageB W H n d = false := by
  cases d with
  | tuple xs => cases h
  | _ => rfl
theorem pageB_len {W H : Int} {n : Nat} {xs : List PyData} (h : xs.length ≠ 5) : pageB W H n (.tuple xs) = false := by
  unfold pageB
  split
  · rename_i e
    cases e
    exact absurd rfl h
  · rfl
theorem pageB_in {W H : Int} {n : Nat} {x0 x1 x2 x3 x4 : PyData} (h : x4.isTuple = false) : pageB W H n (.tuple [x0, x1, x2, x3, x4]) = false := by
  unfold pageB
  split
  · rename_i e
    cases e
    cases h
  · rfl
theorem pageB_in4 {W H : Int} {n : Nat} {x0 x1 x2 x3 : PyData} {as : List PyData} (h : as.length ≠ 4) : pageB W H n (.tuple [x0, x1, x2, x3, .tuple as]) = false := by
  unfold pageB
  split
  · rename_i e
    cases e
    exact absurd rfl h
  · rfl
/-- the numbers of a page -/
def numsB (W H : Int) (x0 x1 x2 x3 : PyData) : Bool := match x0, x1 with
  | .int l, .int t => inR x0 0 (W - 1) && (inR x1 0 (H - 1) && (inR x2 1 (W - l) && inR x3 1 (H - t)))
  | _, _ => false
theorem pageB_ok {W H : Int} {n : Nat} {x0 x1 x2 x3 a0 a1 a2 a3 : PyData} : pageB W H n (.tuple [x0, x1, x2, x3, .tuple [a0, a1, a2, a3]]) = (numsB W H x0 x1 x2 x3 && [a0, a1, a2, a3].all (arrB n)) := by
  cases x0 with
  | int l =>
    cases x1 with
    | int t =>
      cases x2 with
      | int w =>
        cases x3 with
        | int v => simp only [pageB, numsB, inR, Bool.and_assoc]
        | _ => simp [pageB, numsB, inR]
      | _ => simp [pageB, numsB, inR]
    | _ => simp [pageB, numsB]
  | _ => simp [pageB, numsB]
section
variable {W H : Int} {n : Nat}
theorem arrows_all (s0 s1 s2 s4 s5 s6 s7 : Slot) (as : List PyData) (hl : as.length ≤ 1000) : eLc (iSeq (eV 8)) (bName 9) eYes (eOrV (eBin pIs (eV 9) (eC .none)) (eFn F_is_within (eCons (eV 9) (eCons (eC (.int 0)) (eCons (eBin pSub (eV 3) (eC (.int 1))) eNil))))) [9] [s0, s1, s2, .sh (.int n), s4, s5, s6, s7, .sh (.tuple as), .non]
    = .ok (as.map fun a => .bool (arrB n a)) [s0, s1, s2, .sh (.int n), s4, s5, s6, s7, .sh (.tuple as), .non] :=
  lc_map (ρ1 := [s0, s1, s2, .sh (.int n), s4, s5, s6, s7, .sh (.tuple as), .non]) as (fun a => a) (fun a => .bool (arrB n a)) (by simp [run_eV]) (by omega) (by simp [wipeR, unwipeR]) (fun a _ => by
    have q := within_all a 0 ((n : Int) - 1)
    cases a <;> simp [StepM, wipeR, run_eV, q, arrB])
theorem isPage_all (p : PyData) : F_is_page [p, .int W, .int H, .int n] = .ok (.bool (pageB W H n p)) [] := by
  cases shape_of p with
  | no h =>
    rw [pageB_no h]
    simp [F_is_page, fnP, B_is_page, run_eV, h]
  | @len xs h =>
    rw [pageB_len h]
    have h2 : ¬ (xs.length : Int) = 5 := by omega
    simp [F_is_page, fnP, B_is_page, run_eV, PyData.isTuple, h2]
  | in_ h =>
    rw [pageB_in h]
    simp [F_is_page, fnP, B_is_page, run_eV, PyData.isTuple] at h ⊢
    simp [h]
  | @in4 x0 x1 x2 x3 as h =>
    rw [pageB_in4 h]
    have h2 : ¬ (as.length : Int) = 4 := by omega
    simp [F_is_page, fnP, B_is_page, run_eV, PyData.isTuple, h2]
  | @ok x0 x1 x2 x3 a0 a1 a2 a3 =>
    rw [pageB_ok]
    have e0 := within_all x0 0 (W - 1)
    have e1 := within_all x1 0 (H - 1)
    have ea := fun s0 s1 s2 s4 s5 s6 s7 => arrows_all (n := n) s0 s1 s2 s4 s5 s6 s7 [a0, a1, a2, a3] (show 4 ≤ 1000 by decide)
    have pa := pAll_map (xs := [a0, a1, a2, a3]) (f := arrB n)
    generalize [a0, a1, a2, a3].all (arrB n) = ab at pa ⊢
    generalize ([a0, a1, a2, a3].map fun a => (.bool (arrB n a) : PyData)) = am at ea pa
    by_cases h0 : inR x0 0 (W - 1) = true
    · by_cases h1 : inR x1 0 (H - 1) = true
      · obtain ⟨l, rfl, -, -⟩ := inR_int h0
        obtain ⟨t, rfl, -, -⟩ := inR_int h1
        have e2 := within_all x2 1 (W - l)
        have e3 := within_all x3 1 (H - t)
        have nb : numsB W H (.int l) (.int t) x2 x3 = (inR x2 1 (W - l) && inR x3 1 (H - t)) := by
          show (inR (.int l) 0 (W - 1) && (inR (.int t) 0 (H - 1) && (inR x2 1 (W - l) && inR x3 1 (H - t)))) = _
          rw [h0, h1]
          rfl
        rw [nb]
        rw [h0] at e0
        rw [h1] at e1
        generalize inR x2 1 (W - l) = b2 at e2 ⊢
        generalize inR x3 1 (H - t) = b3 at e3 ⊢
        cases b2 <;> cases b3 <;> simp [F_is_page, fnP, B_is_page, run_eV, PyData.isTuple, e0, e1, e2, e3, ea, pa]
      · have nb : numsB W H x0 x1 x2 x3 = false := by
          unfold numsB
          split
          · rw [Bool.not_eq_true] at h1
            rw [h1, Bool.false_and, Bool.and_false]
          · rfl
        rw [nb]
        rw [h0] at e0
        rw [Bool.not_eq_true] at h1
        rw [h1] at e1
        simp [F_is_page, fnP, B_is_page, run_eV, PyData.isTuple, e0, e1]
    · have nb : numsB W H x0 x1 x2 x3 = false := by
        unfold numsB
        split
        · rw [Bool.not_eq_true] at h0
          rw [h0, Bool.false_and]
        · rfl
      rw [nb]
      rw [Bool.not_eq_true] at h0
      rw [h0] at e0
      simp [F_is_page, fnP, B_is_page, run_eV, PyData.isTuple, e0]
/-- the law's own page -/
theorem lawArrows (s0 s1 s2 : Slot) (as : List PyData) (s4 : Slot) : ∃ s4', forL (bName 4) (sIf (eAnd (eT (eBin pIsNot (eV 4) (eC .none))) (eNot (eT (eFn F__law_in (eCons (eV 4) (eCons (eC (.int 0)) (eCons (eBin pSub (eV 3) (eC (.int 1))) eNil))))))) (sRet (eC (.bool false))) sNil) as [s0, s1, s2, .sh (.int n), s4]
    = .ok (if as.all (arrB n) = true then .nx else .rt (.bool false)) [s0, s1, s2, .sh (.int n), s4'] := by
  obtain ⟨j, ρ', e, s4', rfl⟩ := forL_find (b := bName 4) (body := sIf (eAnd (eT (eBin pIsNot (eV 4) (eC .none))) (eNot (eT (eFn F__law_in (eCons (eV 4) (eCons (eC (.int 0)) (eCons (eBin pSub (eV 3) (eC (.int 1))) eNil))))))) (sRet (eC (.bool false))) sNil)
    (fun _ ρ => ∃ s4, ρ = [s0, s1, s2, .sh (.int n), s4]) (fun i => arrB n (as.getD i .none)) (.bool false) as.length as rfl [s0, s1, s2, .sh (.int n), s4] ⟨s4, rfl⟩ (by
      rintro i d ρ hi ⟨s4, rfl⟩
      have hd : as.getD i .none = d := by rw [List.getD_eq_getElem?_getD, hi]; rfl
      refine ⟨_, [s0, s1, s2, .sh (.int n), .sh d], rfl, ?_, .sh d, rfl⟩
      rw [hd]
      have q := lawIn_all d 0 ((n : Int) - 1)
      by_cases hn : d = .none
      · subst hn
        simp [run_eV, arrB]
      · have ea : arrB n d = inR d 0 ((n : Int) - 1) := by cases d <;> first | rfl | exact absurd rfl hn
        have en : isN d = false := by cases d <;> first | rfl | exact absurd rfl hn
        rw [ea]
        generalize inR d 0 ((n : Int) - 1) = b at q ⊢
        cases b <;> simp [run_eV, q, en])
  refine ⟨s4', ?_⟩
  rw [e]
  have gd : ∀ {i : Nat} (h : i < as.length), as.getD i .none = as[i] := fun {i} h => by rw [List.getD_eq_getElem?_getD, List.getElem?_eq_getElem h]; rfl
  have : (List.range as.length).all (fun i => arrB n (as.getD i .none)) = as.all (arrB n) := by
    rw [Bool.eq_iff_iff, List.all_eq_true, List.all_eq_true]
    constructor
    · intro z x hx
      obtain ⟨i, hi, rfl⟩ := List.getElem_of_mem hx
      have := z i (List.mem_range.mpr hi)
      rwa [gd hi] at this
    · intro z i hi
      rw [gd (List.mem_range.mp hi)]
      exact z _ (List.getElem_mem _)
  rw [this]
theorem lawIsPage_all (p : PyData) : F__law_is_page [p, .int W, .int H, .int n] = .ok (.bool (pageB W H n p)) [] := by
  cases shape_of p with
  | no h =>
    rw [pageB_no h]
    simp [F__law_is_page, fnP, B__law_is_page, run_eV, h]
  | @len xs h =>
    rw [pageB_len h]
    have h2 : ¬ (xs.length : Int) = 5 := by omega
    simp [F__law_is_page, fnP, B__law_is_page, run_eV, PyData.isTuple, h2]
  | in_ h =>
    rw [pageB_in h]
    simp [F__law_is_page, fnP, B__law_is_page, run_eV, PyData.isTuple] at h ⊢
    simp [h]
  | @in4 x0 x1 x2 x3 as h =>
    rw [pageB_in4 h]
    have h2 : ¬ (as.length : Int) = 4 := by omega
    simp [F__law_is_page, fnP, B__law_is_page, run_eV, PyData.isTuple, h2]
  | @ok x0 x1 x2 x3 a0 a1 a2 a3 =>
    rw [pageB_ok]
    have e0 := lawIn_all x0 0 (W - 1)
    have e1 := lawIn_all x1 0 (H - 1)
    obtain ⟨s4', ea⟩ := lawArrows (n := n) (.sh (.tuple [x0, x1, x2, x3, .tuple [a0, a1, a2, a3]])) (.sh (.int W)) (.sh (.int H)) [a0, a1, a2, a3] .non
    generalize hfor : sIf (eAnd (eT (eBin pIsNot (eV 4) (eC .none))) (eNot (eT (eFn F__law_in (eCons (eV 4) (eCons (eC (.int 0)) (eCons (eBin pSub (eV 3) (eC (.int 1))) eNil))))))) (sRet (eC (.bool false))) sNil = bd at ea
    generalize hab : [a0, a1, a2, a3].all (arrB n) = ab at ea ⊢
    have fo : sFor (iSeq (eBin pIx (eV 0) (eC (.int 4)))) (bName 4) bd [.sh (.tuple [x0, x1, x2, x3, .tuple [a0, a1, a2, a3]]), .sh (.int W), .sh (.int H), .sh (.int n), .non] = .ok (if ab = true then .nx else .rt (.bool false)) [.sh (.tuple [x0, x1, x2, x3, .tuple [a0, a1, a2, a3]]), .sh (.int W), .sh (.int H), .sh (.int n), s4'] := by
      rw [run_sFor]
      rw [show iSeq (eBin pIx (eV 0) (eC (.int 4))) [.sh (.tuple [x0, x1, x2, x3, .tuple [a0, a1, a2, a3]]), .sh (.int W), .sh (.int H), .sh (.int n), .non] = .ok [a0, a1, a2, a3] [.sh (.tuple [x0, x1, x2, x3, .tuple [a0, a1, a2, a3]]), .sh (.int W), .sh (.int H), .sh (.int n), .non] by simp [run_eV], run_ok]
      exact ea
    have body : B__law_is_page [.sh (.tuple [x0, x1, x2, x3, .tuple [a0, a1, a2, a3]]), .sh (.int W), .sh (.int H), .sh (.int n), .non] = .ok (.rt (.bool (numsB W H x0 x1 x2 x3 && ab))) [.sh (.tuple [x0, x1, x2, x3, .tuple [a0, a1, a2, a3]]), .sh (.int W), .sh (.int H), .sh (.int n), s4'] := by
      unfold B__law_is_page
      rw [hfor]
      rw [seq_nx (ρ' := [.sh (.tuple [x0, x1, x2, x3, .tuple [a0, a1, a2, a3]]), .sh (.int W), .sh (.int H), .sh (.int n), .non]) (by simp [run_eV, PyData.isTuple]),
        seq_nx (ρ' := [.sh (.tuple [x0, x1, x2, x3, .tuple [a0, a1, a2, a3]]), .sh (.int W), .sh (.int H), .sh (.int n), .non]) (by simp [run_eV, PyData.isTuple]), run_sSeq, fo, run_ok]
      cases ab with
      | false => simp
      | true =>
        rw [if_pos rfl, run_thenNx, Bool.and_true]
        by_cases h0 : inR x0 0 (W - 1) = true
        · by_cases h1 : inR x1 0 (H - 1) = true
          · obtain ⟨l, rfl, -, -⟩ := inR_int h0
            obtain ⟨t, rfl, -, -⟩ := inR_int h1
            have e2 := lawIn_all x2 1 (W - l)
            have e3 := lawIn_all x3 1 (H - t)
            have nb : numsB W H (.int l) (.int t) x2 x3 = (inR x2 1 (W - l) && inR x3 1 (H - t)) := by
              show (inR (.int l) 0 (W - 1) && (inR (.int t) 0 (H - 1) && (inR x2 1 (W - l) && inR x3 1 (H - t)))) = _
              rw [h0, h1]
              rfl
            rw [nb]
            rw [h0] at e0
            rw [h1] at e1
            generalize inR x2 1 (W - l) = b2 at e2 ⊢
            generalize inR x3 1 (H - t) = b3 at e3 ⊢
            cases b2 <;> cases b3 <;> simp [run_eV, e0, e1, e2, e3]
          · have nb : numsB W H x0 x1 x2 x3 = false := by
              unfold numsB
              split
              · rw [Bool.not_eq_true] at h1
                rw [h1, Bool.false_and, Bool.and_false]
              · rfl
            rw [nb]
            rw [h0] at e0
            rw [Bool.not_eq_true] at h1
            rw [h1] at e1
            simp [run_eV, e0, e1]
        · have nb : numsB W H x0 x1 x2 x3 = false := by
            unfold numsB
            split
            · rw [Bool.not_eq_true] at h0
              rw [h0, Bool.false_and]
            · rfl
          rw [nb]
          rw [Bool.not_eq_true] at h0
          rw [h0] at e0
          simp [run_eV, e0]
    exact fnP_rt (ρ0 := [.sh (.tuple [x0, x1, x2, x3, .tuple [a0, a1, a2, a3]]), .sh (.int W), .sh (.int H), .sh (.int n), .non]) rfl body
end
end Atl

set_option Elab.async false
set_option linter.all false
set_option maxRecDepth 100000
set_option maxHeartbeats 4000000
namespace Atl
open PySem Dl
open L2 (atI ixN)
def covB (W H : Int) (ps : List PyData) : Bool := (cellsL W H).all fun c => !(heldL ps c.1 c.2).isEmpty
def isA : PyData → Bool
  | .tuple [.int W, .int H, .tuple ps] => decide (1 ≤ W ∧ W ≤ 8) && (decide (1 ≤ H ∧ H ≤ 8) && (decide (1 ≤ ps.length ∧ ps.length ≤ 6) && (ps.all (pageB W H ps.length) && covB W H ps)))
  | _ => false
theorem isA_iff {d : PyData} : isA d = true ↔ ∃ W H ps, d = encA W H ps ∧ AtlasOk W H ps := by
  constructor
  · intro h
    unfold isA at h
    split at h
    · rename_i W H ps
      simp only [Bool.and_eq_true, decide_eq_true_eq] at h
      obtain ⟨h1, h2, h3, h4, h5⟩ := h
      refine ⟨W, H, ps, rfl, h1.1, h1.2, h2.1, h2.2, h3.1, h3.2, fun p hp => pageB_iff.mp (List.all_eq_true.mp h4 p hp), fun x y q1 q2 q3 q4 => ?_⟩
      have z := List.all_eq_true.mp h5 (x.toNat, y.toNat) (mem_cells.mpr ⟨by simp only; omega, by simp only; omega⟩)
      simp only [Bool.not_eq_true', Int.toNat_of_nonneg q1, Int.toNat_of_nonneg q3] at z
      have ne : heldL ps x y ≠ [] := fun e => by rw [e] at z; cases z
      obtain ⟨k, hk⟩ := List.exists_mem_of_ne_nil _ ne
      obtain ⟨k1, k2⟩ := mem_held.mp hk
      exact ⟨_, by rw [List.getD_eq_getElem?_getD, List.getElem?_eq_getElem k1]; exact List.getElem_mem k1, k2⟩
    · cases h
  · rintro ⟨W, H, ps, rfl, h⟩
    simp only [isA, Bool.and_eq_true, decide_eq_true_eq]
    refine ⟨⟨h.w1, h.w8⟩, ⟨h.h1, h.h8⟩, ⟨h.n1, h.n6⟩, List.all_eq_true.mpr fun p hp => pageB_iff.mpr (h.pg p hp), List.all_eq_true.mpr fun c hc => ?_⟩
    rw [held_some h hc]
    rfl
inductive Shap3 : PyData → Prop where
  | no {d : PyData} (h : d.isTuple = false) : Shap3 d
  | len {xs : List PyData} (h : xs.length ≠ 3) : Shap3 (.tuple xs)
  | in_ {x0 x1 x2 : PyData} (h : x2.isTuple = false) : Shap3 (.tuple [x0, x1, x2])
  | ok {x0 x1 : PyData} {ps : List PyData} : Shap3 (.tuple [x0, x1, .tuple ps])
theorem shap3_of (d : PyData) : Shap3 d := by
  cases d with
  | tuple xs =>
    by_cases h : xs.length = 3
    · match xs, h with
      | [x0, x1, x2], _ =>
        cases x2 with
        | tuple ps => exact .ok
        | _ => exact .in_ rfl
    · exact .len h
  | _ => exact .no rfl
theorem isA_no {d : PyData} (h : d.isTuple = false) : isA d = false := by
  cases d with
  | tuple xs => cases h
  | _ => rfl
theorem isA_len {xs : List PyData} (h : xs.length ≠ 3) : isA (.tuple xs) = false := by
  unfold isA
  split
  · rename_i e
    cases e
    exact absurd rfl h
  · rfl
theorem isA_in {x0 x1 x2 : PyData} (h : x2.isTuple = false) : isA (.tuple [x0, x1, x2]) = false := by
  unfold isA
  split
  · rename_i e
    cases e
    cases h
  · rfl
theorem isA_bad {x0 x1 : PyData} {ps : List PyData} (h : (inR x0 1 8 && inR x1 1 8) = false) : isA (.tuple [x0, x1, .tuple ps]) = false := by
  unfold isA
  split
  · rename_i W H qs e
    cases e
    simp only [inR] at h
    rw [← Bool.and_assoc, h, Bool.false_and]
  · rfl
section
variable {W H : Int} {ps : List PyData}
theorem pages_all (hl : ps.length ≤ 6) : eLc (iSeq (eBin pIx (eV 0) (eC (.int 2)))) (bName 2) eYes (eFn F_is_page (eCons (eV 2) (eCons (eBin pIx (eV 0) (eC (.int 0))) (eCons (eBin pIx (eV 0) (eC (.int 1))) (eCons (eCall pLen (eCons (eBin pIx (eV 0) (eC (.int 2))) eNil)) eNil))))) [2] [.sh (encA W H ps), .non, .non]
    = .ok (ps.map fun p => .bool (pageB W H ps.length p)) [.sh (encA W H ps), .non, .non] :=
  lc_map (ρ1 := [.sh (encA W H ps), .non, .non]) ps (fun p => p) (fun p => .bool (pageB W H ps.length p)) (by simp [run_eV]) (by omega) (by simp [wipeR, unwipeR]) (fun p _ => by
    have q := isPage_all (W := W) (H := H) (n := ps.length) p
    simp [StepM, wipeR, run_eV, q])
theorem cells_all (h1 : 1 ≤ W) (h2 : W ≤ 8) (h3 : 1 ≤ H) (h4 : H ≤ 8) (hl : ps.length ≤ 6) (hp : ∀ p ∈ ps, PageOk W H ps.length p) : eLc (iSeq (eFn F_cells_of (eCons (eV 0) eNil))) (bName 1) eYes (eBin pNe (eFn F_pages_of (eCons (eV 0) (eCons (eV 1) eNil))) (eLst eNil)) [1] [.sh (encA W H ps), .non, .non]
    = .ok ((cellsL W H).map fun c => .bool (!(heldL ps c.1 c.2).isEmpty)) [.sh (encA W H ps), .non, .non] :=
  lc_map (ρ1 := [.sh (encA W H ps), .non, .non]) (cellsL W H) encC (fun c => .bool (!(heldL ps c.1 c.2).isEmpty)) (by simp [run_eV, cellsOf_any h1 h2 h3 h4]) (by
    rw [cells_len]
    exact Nat.le_trans (Nat.mul_le_mul (show H.toNat ≤ 8 by omega) (show W.toNat ≤ 8 by omega)) (by decide)) (by simp [wipeR, unwipeR]) (fun c _ => by
    have e := pagesOf_ok (x := c.1) (y := c.2) hp (by omega)
    simp [StepM, wipeR, run_eV, e, op_nel])
theorem isAtlas_all (d : PyData) : F_is_atlas_value [d] = .ok (.bool (isA d)) [] := by
  cases shap3_of d with
  | no h =>
    rw [isA_no h]
    simp [F_is_atlas_value, fnP, B_is_atlas_value, run_eV, h]
  | @len xs h =>
    rw [isA_len h]
    have h2 : ¬ (xs.length : Int) = 3 := by omega
    simp [F_is_atlas_value, fnP, B_is_atlas_value, run_eV, PyData.isTuple, h2]
  | in_ h =>
    rw [isA_in h]
    simp [F_is_atlas_value, fnP, B_is_atlas_value, run_eV, PyData.isTuple] at h ⊢
    simp [h]
  | @ok x0 x1 ps =>
    have e0 := within_all x0 1 8
    have e1 := within_all x1 1 8
    by_cases hb : (inR x0 1 8 && inR x1 1 8) = true
    · rw [Bool.and_eq_true] at hb
      obtain ⟨W, rfl, w1, w8⟩ := inR_int hb.1
      obtain ⟨H, rfl, h1, h8⟩ := inR_int hb.2
      rw [hb.1] at e0
      rw [hb.2] at e1
      by_cases hn : 1 ≤ ps.length ∧ ps.length ≤ 6
      · have c1 : (1 : Int) ≤ ps.length := by omega
        have c2 : (ps.length : Int) ≤ 6 := by omega
        have q1 := pages_all (W := W) (H := H) hn.2
        have q2 := pAll_map (xs := ps) (f := pageB W H ps.length)
        by_cases hp : ps.all (pageB W H ps.length) = true
        · have q3 := cells_all w1 w8 h1 h8 hn.2 (fun p hp' => pageB_iff.mp (List.all_eq_true.mp hp p hp'))
          have q4 := pAll_map (xs := cellsL W H) (f := fun c => !(heldL ps c.1 c.2).isEmpty)
          have ev : isA (encA W H ps) = (cellsL W H).all fun c => !(heldL ps c.1 c.2).isEmpty := by
            simp only [isA, covB, hp, decide_eq_true (And.intro w1 w8), decide_eq_true (And.intro h1 h8), decide_eq_true hn, Bool.true_and]
          show F_is_atlas_value [encA W H ps] = .ok (.bool (isA (encA W H ps))) []
          rw [ev]
          rw [hp] at q2
          simp [F_is_atlas_value, fnP, B_is_atlas_value, run_eV, PyData.isTuple, e0, e1, c1, c2, q1, q2, q3, q4]
        · rw [Bool.not_eq_true] at hp
          have ev : isA (encA W H ps) = false := by simp only [isA, hp, Bool.false_and, Bool.and_false]
          show F_is_atlas_value [encA W H ps] = .ok (.bool (isA (encA W H ps))) []
          rw [ev]
          rw [hp] at q2
          simp [F_is_atlas_value, fnP, B_is_atlas_value, run_eV, PyData.isTuple, e0, e1, c1, c2, q1, q2]
      · have ev : isA (encA W H ps) = false := by simp only [isA, decide_eq_false hn, Bool.false_and, Bool.and_false]
        show F_is_atlas_value [encA W H ps] = .ok (.bool (isA (encA W H ps))) []
        rw [ev]
        by_cases c1 : (1 : Int) ≤ ps.length
        · have c2 : ¬ (ps.length : Int) ≤ 6 := by omega
          simp [F_is_atlas_value, fnP, B_is_atlas_value, run_eV, PyData.isTuple, e0, e1, c1, c2]
        · simp [F_is_atlas_value, fnP, B_is_atlas_value, run_eV, PyData.isTuple, e0, e1, c1]
    · rw [Bool.not_eq_true] at hb
      rw [isA_bad hb]
      generalize inR x0 1 8 = b0 at *
      generalize inR x1 1 8 = b1 at *
      cases b0 <;> cases b1 <;> simp at hb <;> simp [F_is_atlas_value, fnP, B_is_atlas_value, run_eV, PyData.isTuple, e0, e1]
end
end Atl

set_option Elab.async false
set_option linter.all false
set_option maxRecDepth 100000
set_option maxHeartbeats 4000000
namespace Atl
open PySem Dl
open L2 (atI ixN)
theorem filter_none {α : Type} (xs : List α) (f : α → Bool) : (xs.filter fun x => !f x).isEmpty = xs.all f := by
  rw [Bool.eq_iff_iff, List.isEmpty_iff, List.filter_eq_nil_iff, List.all_eq_true]
  constructor
  · intro h x hx
    have := h x hx
    simpa using this
  · intro h x hx
    simp [h x hx]
section
variable {W H : Int} {ps : List PyData}
theorem lawPages_all (hl : ps.length ≤ 6) : eLc (iSeq (eBin pIx (eV 0) (eC (.int 2)))) (bName 1) (eNot (eT (eFn F__law_is_page (eCons (eV 1) (eCons (eBin pIx (eV 0) (eC (.int 0))) (eCons (eBin pIx (eV 0) (eC (.int 1))) (eCons (eCall pLen (eCons (eBin pIx (eV 0) (eC (.int 2))) eNil)) eNil))))))) (eV 1) [1] [.sh (encA W H ps), .non, .non]
    = .ok (ps.filter fun p => !pageB W H ps.length p) [.sh (encA W H ps), .non, .non] := by
  have e := lc_filter (fi := iSeq (eBin pIx (eV 0) (eC (.int 2)))) (b := bName 1) (ft := eNot (eT (eFn F__law_is_page (eCons (eV 1) (eCons (eBin pIx (eV 0) (eC (.int 0))) (eCons (eBin pIx (eV 0) (eC (.int 1))) (eCons (eCall pLen (eCons (eBin pIx (eV 0) (eC (.int 2))) eNil)) eNil))))))) (fe := eV 1) (vs := [1])
    (ρ := [.sh (encA W H ps), .non, .non]) (ρ1 := [.sh (encA W H ps), .non, .non]) ps (fun p => p) (fun p => !pageB W H ps.length p) (fun p => p) (by simp [run_eV]) (by omega) (by simp [wipeR, unwipeR]) (fun p _ => by
    have q := lawIsPage_all (W := W) (H := H) (n := ps.length) p
    simp [StepF, wipeR, run_eV, q])
  rwa [List.map_id'] at e
theorem lawCover_all (h1 : 1 ≤ W) (h2 : W ≤ 8) (h3 : 1 ≤ H) (h4 : H ≤ 8) (hl : ps.length ≤ 6) (hp : ∀ p ∈ ps, PageOk W H ps.length p) : eLc (iSeq (eFn F__law_all_cells (eCons (eV 0) eNil))) (bName 2) (eT (eBin pEq (eFn F__law_held_by (eCons (eV 0) (eCons (eV 2) eNil))) (eLst eNil))) (eV 2) [2] [.sh (encA W H ps), .non, .non]
    = .ok (((cellsL W H).filter fun c => (heldL ps c.1 c.2).isEmpty).map encC) [.sh (encA W H ps), .non, .non] :=
  lc_filter (ρ1 := [.sh (encA W H ps), .non, .non]) (cellsL W H) encC (fun c => (heldL ps c.1 c.2).isEmpty) encC (by simp [run_eV, lawCells_any h1 h2 h3 h4]) (by
    rw [cells_len]
    exact Nat.le_trans (Nat.mul_le_mul (show H.toNat ≤ 8 by omega) (show W.toNat ≤ 8 by omega)) (by decide)) (by simp [wipeR, unwipeR]) (fun c _ => by
    have e := lawHeldBy_ok (x := c.1) (y := c.2) hp (by omega)
    simp [StepF, wipeR, run_eV, e, op_eql])
theorem lawIsAtlas_all (d : PyData) : F__law_is_atlas [d] = .ok (.bool (isA d)) [] := by
  cases shap3_of d with
  | no h =>
    rw [isA_no h]
    simp [F__law_is_atlas, fnP, B__law_is_atlas, run_eV, h]
  | @len xs h =>
    rw [isA_len h]
    have h2 : ¬ (xs.length : Int) = 3 := by omega
    simp [F__law_is_atlas, fnP, B__law_is_atlas, run_eV, PyData.isTuple, h2]
  | in_ h =>
    rw [isA_in h]
    simp [F__law_is_atlas, fnP, B__law_is_atlas, run_eV, PyData.isTuple] at h ⊢
    simp [h]
  | @ok x0 x1 ps =>
    have e0 := lawIn_all x0 1 8
    have e1 := lawIn_all x1 1 8
    by_cases hb : (inR x0 1 8 && inR x1 1 8) = true
    · rw [Bool.and_eq_true] at hb
      obtain ⟨W, rfl, w1, w8⟩ := inR_int hb.1
      obtain ⟨H, rfl, h1, h8⟩ := inR_int hb.2
      rw [hb.1] at e0
      rw [hb.2] at e1
      by_cases hn : 1 ≤ ps.length ∧ ps.length ≤ 6
      · have c1 : (1 : Int) ≤ ps.length := by omega
        have c2 : (ps.length : Int) ≤ 6 := by omega
        have q1 := lawPages_all (W := W) (H := H) hn.2
        have q2 := op_nel (ps.filter fun p => !pageB W H ps.length p)
        rw [filter_none] at q2
        by_cases hp : ps.all (pageB W H ps.length) = true
        · have q3 := lawCover_all w1 w8 h1 h8 hn.2 (fun p hp' => pageB_iff.mp (List.all_eq_true.mp hp p hp'))
          have q4 := op_eql (((cellsL W H).filter fun c => (heldL ps c.1 c.2).isEmpty).map encC)
          have q5 : (((cellsL W H).filter fun c => (heldL ps c.1 c.2).isEmpty).map encC).isEmpty = covB W H ps := by
            rw [List.isEmpty_map]
            have := filter_none (cellsL W H) (fun c => !(heldL ps c.1 c.2).isEmpty)
            simp only [Bool.not_not] at this
            exact this
          rw [q5] at q4
          have ev : isA (encA W H ps) = covB W H ps := by
            simp only [isA, hp, decide_eq_true (And.intro w1 w8), decide_eq_true (And.intro h1 h8), decide_eq_true hn, Bool.true_and]
          show F__law_is_atlas [encA W H ps] = .ok (.bool (isA (encA W H ps))) []
          rw [ev]
          rw [hp] at q2
          generalize (ps.filter fun p => !pageB W H ps.length p) = Y at *
          generalize (((cellsL W H).filter fun c => (heldL ps c.1 c.2).isEmpty).map encC) = Z at *
          simp [F__law_is_atlas, fnP, B__law_is_atlas, run_eV, PyData.isTuple, e0, e1, c1, c2, q1, q2, q3, q4]
        · rw [Bool.not_eq_true] at hp
          have ev : isA (encA W H ps) = false := by simp only [isA, hp, Bool.false_and, Bool.and_false]
          show F__law_is_atlas [encA W H ps] = .ok (.bool (isA (encA W H ps))) []
          rw [ev]
          rw [hp] at q2
          generalize (ps.filter fun p => !pageB W H ps.length p) = Y at *
          simp [F__law_is_atlas, fnP, B__law_is_atlas, run_eV, PyData.isTuple, e0, e1, c1, c2, q1, q2]
      · have ev : isA (encA W H ps) = false := by simp only [isA, decide_eq_false hn, Bool.false_and, Bool.and_false]
        show F__law_is_atlas [encA W H ps] = .ok (.bool (isA (encA W H ps))) []
        rw [ev]
        by_cases c1 : (1 : Int) ≤ ps.length
        · have c2 : ¬ (ps.length : Int) ≤ 6 := by omega
          simp [F__law_is_atlas, fnP, B__law_is_atlas, run_eV, PyData.isTuple, e0, e1, c1, c2]
        · simp [F__law_is_atlas, fnP, B__law_is_atlas, run_eV, PyData.isTuple, e0, e1, c1]
    · rw [Bool.not_eq_true] at hb
      rw [isA_bad hb]
      generalize inR x0 1 8 = b0 at *
      generalize inR x1 1 8 = b1 at *
      cases b0 <;> cases b1 <;> simp at hb <;> simp [F__law_is_atlas, fnP, B__law_is_atlas, run_eV, PyData.isTuple, e0, e1]
/-- what is no atlas is refused -/
theorem needNo (d : PyData) (h : isA d = false) : F_need_atlas [d] = .ex ⟨"InvalidAtlas", none⟩ := by
  have e := isAtlas_all d
  rw [h] at e
  simp [F_need_atlas, fnP, B_need_atlas, run_eV, e]
end
end Atl

set_option Elab.async false
set_option linter.all false
set_option maxRecDepth 100000
set_option maxHeartbeats 4000000
namespace Atl
open PySem Dl
open L2 (atI ixN)
/-! data that is spoilt stays small -/
def leafB : PyData → Bool
  | .none => true
  | .bool _ => true
  | .int _ => true
  | .str _ => true
  | _ => false
inductive Tame (m : Nat) : Nat → PyData → Prop where
  | leaf {n : Nat} {d : PyData} (h : leafB d = true) : Tame m n d
  | lst {n : Nat} {xs : List PyData} (hl : xs.length ≤ m) (h : ∀ x ∈ xs, Tame m n x) : Tame m (n + 1) (.list xs)
  | tup {n : Nat} {xs : List PyData} (hl : xs.length ≤ m) (h : ∀ x ∈ xs, Tame m n x) : Tame m (n + 1) (.tuple xs)
theorem Tame.mono {m n : Nat} {d : PyData} (t : Tame m n d) : ∀ {m' n' : Nat}, m ≤ m' → n ≤ n' → Tame m' n' d := by
  induction t with
  | leaf h => exact fun _ _ => .leaf h
  | lst hl h ih =>
    intro m' n' h1 h2
    cases n' with
    | zero => omega
    | succ n' => exact .lst (by omega) fun x hx => ih x hx h1 (by omega)
  | tup hl h ih =>
    intro m' n' h1 h2
    cases n' with
    | zero => omega
    | succ n' => exact .tup (by omega) fun x hx => ih x hx h1 (by omega)
theorem atI_mem {L : List PyData} {r : Int} (h0 : 0 ≤ r) (h1 : r < L.length) : ∃ y ∈ L, atI L r = some y := by
  have hr : r.toNat < L.length := by omega
  exact ⟨L[r.toNat], List.getElem_mem hr, by rw [atI_of h0, List.getElem?_eq_getElem hr]⟩
/-- a list or a tuple -/
def seqD (tp : Bool) (xs : List PyData) : PyData := if tp = true then .tuple xs else .list xs
theorem Tame.seq {m n : Nat} {tp : Bool} {xs : List PyData} (hl : xs.length ≤ m) (h : ∀ x ∈ xs, Tame m n x) : Tame m (n + 1) (seqD tp xs) := by
  cases tp with
  | true => exact .tup hl h
  | false => exact .lst hl h
section
variable {c : Int} {d : List PyData} {m n f : Nat}
/-- one place further in -/
theorem rows_run (G : List PyData → List PyData → Rs (PyData × List PyData)) {P : PyData → List PyData → Prop} (h : Dk c d) (hc : c < 900000) (tp : Bool) {xs : List PyData} (hx : xs ≠ []) (hl : xs.length ≤ 1000)
    (hG : ∀ x ∈ xs, ∀ d', Dk (c + 1) d' → ∃ (r : PyData) (d2 : List PyData), G d' [x] = .ok (r, d2) [] ∧ P r d2) :
    ∃ (j : Nat) (r : PyData) (d2 : List PyData) (ρ' : Rho), j < xs.length ∧ P r d2 ∧ sSeq (sSetO 2 (eCallO pList (eCons (eV 1) eNil))) (sSeq (sSet 3 (eFnO 0 F__law_pick (eCons (eLook (eCall pLen (eCons (eV 2) eNil))) eNil))) (sSeq (sStore 2 (eV 3) (eFnO 0 G (eCons (eOIx 2 (eV 3)) eNil))) (sRet (eIf (eT (eIsi PyData.isTuple (eV 1))) (eCall pTuple (eCons (eV 2) eNil)) (eV 2)))))
      [.own true d, .sh (seqD tp xs), .non, .non, .non] = .ok (.rt (seqD tp (xs.set j r))) ρ' ∧ ρ'[0]? = some (.own true d2) := by
  have hp : 0 < xs.length := List.length_pos_iff.mpr hx
  obtain ⟨k, d1, a1, a2, a3⟩ := pick_ok h (by omega) (size := xs.length) ⟨by omega, by omega⟩
  have hk : k.toNat < xs.length := by omega
  obtain ⟨r, d2, b1, b2⟩ := hG _ (List.getElem_mem hk) d1 a3
  have e1 : pList [seqD tp xs] = some xs := by cases tp <;> rfl
  have e2 : atI xs k = some xs[k.toNat] := by rw [atI_of a2.1, List.getElem?_eq_getElem hk]
  have e3 : ixN xs.length k = some k.toNat := ixN_of a2.1 a2.2
  have e4 : (seqD tp xs).isTuple = tp := by cases tp <;> rfl
  have s1 : sSetO 2 (eCallO pList (eCons (eV 1) eNil)) [.own true d, .sh (seqD tp xs), .non, .non, .non] = .ok .nx [.own true d, .sh (seqD tp xs), .own false xs, .non, .non] := by simp [run_eV, e1]
  have s2 : sSet 3 (eFnO 0 F__law_pick (eCons (eLook (eCall pLen (eCons (eV 2) eNil))) eNil)) [.own true d, .sh (seqD tp xs), .own false xs, .non, .non] = .ok .nx [.own true d1, .sh (seqD tp xs), .own false xs, .sh (.int k), .non] := by
    simp [run_eFnO', run_afterO', run_eLook, Slot.see, run_eV, atom, a1]
  have s3 : sStore 2 (eV 3) (eFnO 0 G (eCons (eOIx 2 (eV 3)) eNil)) [.own true d1, .sh (seqD tp xs), .own false xs, .sh (.int k), .non] = .ok .nx [.own true d2, .sh (seqD tp xs), .own false (xs.set k.toNat r), .sh (.int k), .non] := by
    simp [run_sStore, run_eFnO', run_afterO', run_eOIx, run_ownAt', run_eV, e2, b1, e3]
  cases tp with
  | true =>
    refine ⟨k.toNat, r, d2, [.own true d2, .sh (seqD true xs), .sh (.list (xs.set k.toNat r)), .sh (.int k), .non], hk, b2, ?_, rfl⟩
    rw [seq_nx s1, seq_nx s2, seq_nx s3]
    simp [run_eV, e4]
    rfl
  | false =>
    refine ⟨k.toNat, r, d2, [.own true d2, .sh (seqD false xs), .sh (.list (xs.set k.toNat r)), .sh (.int k), .non], hk, b2, ?_, rfl⟩
    rw [seq_nx s1, seq_nx s2, seq_nx s3]
    simp [run_eV, e4]
    rfl
/-- the whole list, the whole tuple -/
theorem whole_run (h : Dk c d) (hc : c < 900000) (tp : Bool) {xs : List PyData} (hl : xs.length ≤ 1000) (hx : ∀ x ∈ xs, Tame m n x) (hm : xs.length ≤ m) :
    ∃ (r : PyData) (d2 : List PyData) (ρ' : Rho), Tame (m + 1) (n + 1) r ∧ Dk (c + 1) d2 ∧ sSeq (sSet 4 (eIf (eT (eIsi PyData.isTuple (eV 1))) (eLst (eCallO pList (eCons (eV 1) eNil))) (eCall pTuple (eCons (eV 1) eNil)))) (sRet (eBin pIx (eLst (eCons (eV 4) (eCons (eBin pAdd (eV 1) (eSl (eV 1) eNoP (eP (eC (.int 1))))) (eCons (eSl (eV 1) (eP (eC (.int 1))) eNoP) (eCons (eBack (eV 1) (eUn pNeg (eC (.int 1)))) (eCons (eC .none) eNil)))))) (eFnO 0 F__law_pick (eCons (eC (.int 5)) eNil))))
      [.own true d, .sh (seqD tp xs), .non, .non, .non] = .ok (.rt r) ρ' ∧ ρ'[0]? = some (.own true d2) := by
  obtain ⟨k, d1, a1, a2, a3⟩ := pick_ok h (by omega) (size := 5) ⟨by decide, by decide⟩
  have c1 : cutD xs none (some 1) = xs.take 1 := cut_take xs 1
  have c2 : cutD xs (some 1) none = xs.drop 1 := cut_drop xs 1
  have hz : xs.length + (xs.take 1).length ≤ 1000000 := by rw [List.length_take]; omega
  have mem : ∀ y ∈ [seqD (!tp) xs, seqD tp (xs ++ xs.take 1), seqD tp (xs.drop 1), seqD tp xs.reverse, .none], Tame (m + 1) (n + 1) y := fun y hy => by
    simp only [List.mem_cons, List.not_mem_nil, or_false] at hy
    rcases hy with rfl | rfl | rfl | rfl | rfl
    · exact .seq (by omega) fun x hx' => (hx x hx').mono (by omega) (Nat.le_refl _)
    · refine .seq (by rw [List.length_append, List.length_take]; omega) fun x hx' => ?_
      rcases List.mem_append.mp hx' with q | q
      · exact (hx x q).mono (by omega) (Nat.le_refl _)
      · exact (hx x (List.mem_of_mem_take q)).mono (by omega) (Nat.le_refl _)
    · exact .seq (by rw [List.length_drop]; omega) fun x hx' => (hx x (List.mem_of_mem_drop hx')).mono (by omega) (Nat.le_refl _)
    · exact .seq (by rw [List.length_reverse]; omega) fun x hx' => (hx x (List.mem_reverse.mp hx')).mono (by omega) (Nat.le_refl _)
    · exact .leaf rfl
  obtain ⟨r, hr, e⟩ := atI_mem (L := [seqD (!tp) xs, seqD tp (xs ++ xs.take 1), seqD tp (xs.drop 1), seqD tp xs.reverse, .none]) a2.1 a2.2
  have oc : pAdd (seqD tp xs) (seqD tp (xs.take 1)) = some (seqD tp (xs ++ xs.take 1)) := by
    cases tp with
    | true => exact op_catt hz
    | false => exact op_catl hz
  have s1 : pSl (seqD tp xs) none (some 1) = some (seqD tp (xs.take 1)) := by cases tp <;> simp [seqD, pSl, c1]
  have s2 : pSl (seqD tp xs) (some 1) none = some (seqD tp (xs.drop 1)) := by cases tp <;> simp [seqD, pSl, c2]
  have s3 : pBack (seqD tp xs) = some (seqD tp xs.reverse) := by cases tp <;> rfl
  have s4 : eIf (eT (eIsi PyData.isTuple (eV 1))) (eLst (eCallO pList (eCons (eV 1) eNil))) (eCall pTuple (eCons (eV 1) eNil)) [.own true d, .sh (seqD tp xs), .non, .non, .non] = .ok (seqD (!tp) xs) [.own true d, .sh (seqD tp xs), .non, .non, .non] := by
    cases tp <;> simp [run_eV, seqD, PyData.isTuple]
  have back : ∀ ρ : Rho, eV 1 ρ = .ok (seqD tp xs) ρ → eBack (eV 1) (eUn pNeg (eC (.int 1))) ρ = .ok (seqD tp xs.reverse) ρ := fun ρ q => by
    unfold eBack
    rw [q]
    simp [s3]
  refine ⟨r, d1, [.own true d1, .sh (seqD tp xs), .non, .non, .sh (seqD (!tp) xs)], mem r hr, a3, ?_, rfl⟩
  rw [seq_nx (ρ' := [.own true d, .sh (seqD tp xs), .non, .non, .sh (seqD (!tp) xs)]) (by rw [run_sSet, s4]; rfl)]
  have bk := back [.own true d, .sh (seqD tp xs), .non, .non, .sh (seqD (!tp) xs)] rfl
  generalize seqD (!tp) xs = y0 at *
  generalize seqD tp (xs ++ xs.take 1) = y1 at *
  generalize seqD tp (xs.drop 1) = y2 at *
  generalize seqD tp xs.reverse = y3 at *
  generalize seqD tp (xs.take 1) = y4 at *
  generalize seqD tp xs = y5 at *
  simp [run_eV, run_eFnO', run_afterO', s1, s2, oc, bk, a1, e]
theorem spoilt_ok : ∀ (f n : Nat) (x : PyData) (c : Int) (d : List PyData), Tame m n x → n < f → m ≤ 1000 → Dk c d → c + 3 * n < 800000 → ∃ (r : PyData) (d' : List PyData), F__law_spoilt f d [x] = .ok (r, d') [] ∧ Tame (m + 1) (n + 1) r ∧ Dk (c + 3 * n + 3) d'
  | 0, n, x, c, d, _, hf, _, _, _ => absurd hf (Nat.not_lt_zero _)
  | f + 1, n, x, c, d, t, hf, hm, hd, hc => by
    show ∃ (r : PyData) (d' : List PyData), fnB 5 (B__law_spoilt (F__law_spoilt f)) d [x] = .ok (r, d') [] ∧ _
    have seqs : ∀ (tp : Bool) (n' : Nat) (xs : List PyData), n = n' + 1 → x = seqD tp xs → xs.length ≤ m → (∀ y ∈ xs, Tame m n' y) → ∃ (r : PyData) (d' : List PyData), fnB 5 (B__law_spoilt (F__law_spoilt f)) d [x] = .ok (r, d') [] ∧ Tame (m + 1) (n + 1) r ∧ Dk (c + 3 * n + 3) d' := fun tp n' xs en ex hl ht => by
      subst en ex
      have e1 : ((seqD tp xs).isTuple || (seqD tp xs).isList) = true := by cases tp <;> rfl
      have e2 : pLen [seqD tp xs] = some (.int xs.length) := by cases tp <;> rfl
      have wr := fun (c : Int) (d : List PyData) (h : Dk c d) (hc : c < 900000) => whole_run (m := m) (n := n') h hc tp (xs := xs) (by omega) ht hl
      by_cases h0 : xs = []
      · obtain ⟨r, d2, ρ', q1, q2, q3, q4⟩ := wr c d hd (by omega)
        refine ⟨r, d2, ?_, q1.mono (Nat.le_refl _) (by omega), q2.mono (by omega)⟩
        refine fnB_rt (ρ0 := [.own true d, .sh (seqD tp xs), .non, .non, .non]) rfl (ρ' := ρ') ?_ q4
        unfold B__law_spoilt
        have z : (xs.length : Int) = 0 := by rw [h0]; rfl
        rw [z] at e2
        rw [seq_nx (ρ' := [.own true d, .sh (seqD tp xs), .non, .non, .non]) (by simp [run_eV, e1, e2]), run_sSeq, run_sIf]
        rw [show eT (eIsi (fun d => d.isTuple || d.isList) (eV 1)) [.own true d, .sh (seqD tp xs), .non, .non, .non] = .ok true [.own true d, .sh (seqD tp xs), .non, .non, .non] by simp [run_eV, e1], run_ok, if_pos rfl, q3]
        rfl
      · have hp : 0 < xs.length := List.length_pos_iff.mpr h0
        have hp2 : (0 : Int) < xs.length := by omega
        obtain ⟨k, d1, a1, a2, a3⟩ := pick_ok hd (by omega) (size := 6) ⟨by decide, by decide⟩
        have tst : eAnd (eT (eIsi (fun d => d.isTuple || d.isList) (eV 1))) (eAnd (eT (eBin pGt (eCall pLen (eCons (eV 1) eNil)) (eC (.int 0)))) (eT (eBin pGt (eFnO 0 F__law_pick (eCons (eC (.int 6)) eNil)) (eC (.int 0))))) [.own true d, .sh (seqD tp xs), .non, .non, .non] = .ok (decide (0 < k)) [.own true d1, .sh (seqD tp xs), .non, .non, .non] := by
          simp [run_eV, run_eFnO', run_afterO', e1, e2, h0, a1]
        by_cases hk : 0 < k
        · obtain ⟨j, r, d2, ρ', q0, q1, q2, q3⟩ := rows_run (F__law_spoilt f) (P := fun r d2 => Tame (m + 1) (n' + 1) r ∧ Dk (c + 3 * n' + 5) d2) a3 (by omega) tp h0 (by omega) (fun y hy d' hd' => by
            obtain ⟨r, d2, z1, z2, z3⟩ := spoilt_ok f n' y (c + 1 + 1) d' (ht y hy) (by omega) hm hd' (by omega)
            exact ⟨r, d2, z1, z2, z3.mono (by omega)⟩)
          refine ⟨seqD tp (xs.set j r), d2, ?_, ?_, q1.2.mono (by omega)⟩
          · refine fnB_rt (ρ0 := [.own true d, .sh (seqD tp xs), .non, .non, .non]) rfl (ρ' := ρ') ?_ q3
            unfold B__law_spoilt
            rw [run_sSeq, run_sIf, tst, run_ok, decide_eq_true hk, if_pos rfl, q2]
            rfl
          · refine .seq (by rw [List.length_set]; omega) fun y hy => ?_
            rcases List.mem_or_eq_of_mem_set hy with q | q
            · exact (ht y q).mono (by omega) (by omega)
            · rw [q]; exact q1.1
        · obtain ⟨r, d2, ρ', q1, q2, q3, q4⟩ := wr (c + 1) d1 a3 (by omega)
          refine ⟨r, d2, ?_, q1.mono (Nat.le_refl _) (by omega), q2.mono (by omega)⟩
          refine fnB_rt (ρ0 := [.own true d, .sh (seqD tp xs), .non, .non, .non]) rfl (ρ' := ρ') ?_ q4
          unfold B__law_spoilt
          rw [seq_nx (ρ' := [.own true d1, .sh (seqD tp xs), .non, .non, .non]) (by rw [run_sIf, tst, run_ok, decide_eq_false hk]; rfl), run_sSeq, run_sIf]
          rw [show eT (eIsi (fun d => d.isTuple || d.isList) (eV 1)) [.own true d1, .sh (seqD tp xs), .non, .non, .non] = .ok true [.own true d1, .sh (seqD tp xs), .non, .non, .non] by simp [run_eV, e1], run_ok, if_pos rfl, q3]
          rfl
    cases t with
    | lst hl h => exact seqs false _ _ rfl rfl hl h
    | tup hl h => exact seqs true _ _ rfl rfl hl h
    | leaf h =>
      have e1 : (x.isTuple || x.isList) = false := by cases x <;> first | rfl | cases h
      have w := whole_all x
      by_cases hi : ∃ i, x = .int i
      · obtain ⟨i, rfl⟩ := hi
        obtain ⟨k, d1, a1, a2, a3⟩ := pick_ok hd (by omega) (size := 7) ⟨by decide, by decide⟩
        obtain ⟨r, hr, e⟩ := atI_mem (L := [.int (i + 1), .int (i - 1), .bool true, .none, .int 0, .int 9, .str "1"]) a2.1 a2.2
        refine ⟨r, d1, ?_, ?_, a3.mono (by omega)⟩
        · refine fnB_rt (ρ0 := [.own true d, .sh (.int i), .non, .non, .non]) rfl (ρ' := [.own true d1, .sh (.int i), .non, .non, .non]) ?_ rfl
          unfold B__law_spoilt
          simp [run_eV, run_eFnO', run_afterO', PyData.isTuple, PyData.isList, w, a1, e]
        · simp only [List.mem_cons, List.not_mem_nil, or_false] at hr
          rcases hr with rfl | rfl | rfl | rfl | rfl | rfl | rfl <;> exact .leaf rfl
      · have w2 : F__law_whole [x] = .ok (.bool false) [] := by
          rw [w]
          cases x <;> first | rfl | exact absurd ⟨_, rfl⟩ hi
        obtain ⟨k, d1, a1, a2, a3⟩ := pick_ok hd (by omega) (size := 9) ⟨by decide, by decide⟩
        obtain ⟨r, hr, e⟩ := atI_mem (L := [.none, .int 0, .int 1, .int 5, .str "x", .str "", .tuple [], .list [], .bool true]) a2.1 a2.2
        refine ⟨r, d1, ?_, ?_, a3.mono (by omega)⟩
        · refine fnB_rt (ρ0 := [.own true d, .sh x, .non, .non, .non]) rfl (ρ' := [.own true d1, .sh x, .non, .non, .non]) ?_ rfl
          unfold B__law_spoilt
          simp [run_eV, run_eFnO', run_afterO', e1, w2, a1, e]
        · simp only [List.mem_cons, List.not_mem_nil, or_false] at hr
          rcases hr with rfl | rfl | rfl | rfl | rfl | rfl | rfl | rfl | rfl
          all_goals first | exact .leaf rfl | exact .tup (Nat.zero_le _) (by simp) | exact .lst (Nat.zero_le _) (by simp)
end
end Atl

set_option Elab.async false
set_option linter.all false
set_option maxRecDepth 100000
set_option maxHeartbeats 4000000
namespace Atl
open PySem Dl
open L2 (atI ixN)
section
variable {W H : Int} {ps : List PyData} {c : Cell} {ws : List Wy}
theorem isCell_all (c : Cell) : F_is_cell [encA W H ps, .int c.1, .int c.2] = .ok (.bool (inLb W H c)) [] := by
  by_cases h1 : 0 ≤ c.1 <;> by_cases h2 : c.1 < W <;> by_cases h3 : 0 ≤ c.2 <;> by_cases h4 : c.2 < H <;>
    simp [F_is_cell, fnP, B_is_cell, run_eV, within_int, inLb, Int.le_sub_one_iff, h1, h2, h3, h4]
theorem oddCell {d : PyData} {y : Int} (hd : inR d 0 (W - 1) = false) : F_is_cell [encA W H ps, d, .int y] = .ok (.bool false) [] := by
  have e := within_all d 0 (W - 1)
  rw [hd] at e
  simp [F_is_cell, fnP, B_is_cell, run_eV, e]
theorem pagesAt_ok (h : AtlasOk W H ps) (hc : InL W H c) : F_pages_at [encA W H ps, .int c.1, .int c.2] = .ok (.list ((heldL ps c.1 c.2).map encI)) [] := by
  have e1 := need_ok h
  have e2 := needCell_ok (ps := ps) hc
  have e3 := pagesOf_ok (x := c.1) (y := c.2) h.pg (by have := h.n6; omega)
  simp [F_pages_at, fnP, B_pages_at, run_eV, e1, e2, e3]
theorem pagesAt_no {d x y : PyData} (h : isA d = false) : F_pages_at [d, x, y] = .ex ⟨"InvalidAtlas", none⟩ := by
  have e := needNo d h
  simp [F_pages_at, fnP, B_pages_at, run_eV, e]
theorem pagesAt_odd (h : AtlasOk W H ps) {d : PyData} (hd : inR d 0 (W - 1) = false) : F_pages_at [encA W H ps, d, .int 0] = .ex ⟨"InvalidCell", none⟩ := by
  have e1 := need_ok h
  have e2 := oddCell (H := H) (ps := ps) (y := 0) hd
  have e3 : F_need_cell [encA W H ps, d, .int 0] = .ex ⟨"InvalidCell", none⟩ := by simp [F_need_cell, fnP, B_need_cell, run_eV, e2]
  simp [F_pages_at, fnP, B_pages_at, run_eV, e1, e3]
theorem cellsAlong_ok (h : AtlasOk W H ps) (hc : InL W H c) (hw : WalkOk W H c ws) : F_cells_along [encA W H ps, .int c.1, .int c.2, .str (encW ws)] = .ok (.list ((path c ws).map encZ)) [] := by
  have e1 := need_ok h
  have e2 := needCell_ok (ps := ps) hc
  have e3 := needWalk_ok (ps := ps) hw
  have e4 := walked_ok c ws (by have := hw.len; omega)
  simp [F_cells_along, fnP, B_cells_along, run_eV, e1, e2, e3, e4]
theorem cellsAlong_no (h : AtlasOk W H ps) (hc : InL W H c) {d : PyData} (hd : F_is_walk_from [encA W H ps, encZ c, d] = .ok (.bool false) []) : F_cells_along [encA W H ps, .int c.1, .int c.2, d] = .ex ⟨"InvalidWalk", none⟩ := by
  have e1 := need_ok h
  have e2 := needCell_ok (ps := ps) hc
  have e3 : F_need_walk [encA W H ps, encZ c, d] = .ex ⟨"InvalidWalk", none⟩ := by simp [F_need_walk, fnP, B_need_walk, run_eV, hd]
  simp [F_cells_along, fnP, B_cells_along, run_eV, e1, e2, e3]
theorem walk_other {d : PyData} (hd : d.isStr = false) : F_is_walk_from [encA W H ps, encZ c, d] = .ok (.bool false) [] := by
  simp [F_is_walk_from, fnP, B_is_walk_from, run_eV, hd]
theorem walk_long {z : Str} (hz : 60 < z.length) (hz2 : z.length ≤ 1000000) : F_is_walk_from [encA W H ps, encZ c, .str z] = .ok (.bool false) [] := by
  have l1 : pLen [.str z] = some (.int (z.length : Int)) := if_pos hz2
  have h60 : (60 : Int) < z.length := by omega
  have hs : PyData.isStr (.str z) = true := rfl
  simp [F_is_walk_from, fnP, B_is_walk_from, run_eV, hs, l1, h60]
/-- a walk by ways -/
theorem walk_all (hl : ws.length ≤ 60) : F_is_walk_from [encA W H ps, encZ c, .str (encW ws)] = .ok (.bool ((path c ws).all (inLb W H))) [] := by
  have l1 : pLen [.str (encW ws)] = some (.int (ws.length : Int)) := by
    show (if (encW ws).length ≤ 1000000 then some (PyData.int (encW ws).length) else none) = _
    rw [encW_len, if_pos (by omega)]
  have e1 := lc_map (fi := iSeq (eV 2)) (b := bName 4) (fe := eBin pIn (eV 4) (eC (.str "nesw"))) (vs := [4])
    (ρ := [.sh (encA W H ps), .sh (encZ c), .sh (.str (encW ws)), .non, .non]) (ρ1 := [.sh (encA W H ps), .sh (encZ c), .sh (.str (encW ws)), .non, .non]) ws encT (fun _ => .bool true) (by simp [run_eV, itemsOf, signs_W]) (by omega) (by simp [wipeR, unwipeR]) (fun a _ => by simp [StepM, wipeR, run_eV, in_nesw])
  have e2 := lc_map (fi := iSeq (eFn F_walked (eCons (eV 1) (eCons (eV 2) eNil)))) (b := bName 3) (fe := eFn F_is_cell (eCons (eV 0) (eCons (eBin pIx (eV 3) (eC (.int 0))) (eCons (eBin pIx (eV 3) (eC (.int 1))) eNil)))) (vs := [3])
    (ρ := [.sh (encA W H ps), .sh (encZ c), .sh (.str (encW ws)), .non, .non]) (ρ1 := [.sh (encA W H ps), .sh (encZ c), .sh (.str (encW ws)), .non, .non]) (path c ws) encZ (fun q => .bool (inLb W H q)) (by simp [run_eV, walked_ok c ws (by omega)]) (by rw [path_len]; omega) (by simp [wipeR, unwipeR]) (fun q _ => by
      have e := isCell_all (W := W) (H := H) (ps := ps) q
      simp [StepM, wipeR, run_eV, e])
  have e3 := pAll_map (xs := path c ws) (f := inLb W H)
  have h60 : ¬ (60 : Int) < ws.length := by omega
  have hs : PyData.isStr (.str (encW ws)) = true := rfl
  simp [F_is_walk_from, fnP, B_is_walk_from, run_eV, hs, l1, h60, e1, e2, pAll_true, e3]
theorem walk_sign {z : Str} (hz : signs z = [.str z]) (hl : z.length = 1) (hn : (Builtin.Str.occurrences "nesw" z 0 ("nesw" : Str).length 1).isEmpty = true) : F_is_walk_from [encA W H ps, encZ c, .str z] = .ok (.bool false) [] := by
  have l1 : pLen [.str z] = some (.int 1) := by
    show (if z.length ≤ 1000000 then some (PyData.int z.length) else none) = _
    rw [hl]
    rfl
  have e0 : pIn (.str z) (.str "nesw") = some (.bool false) := by
    show some (PyData.bool (!(Builtin.Str.occurrences "nesw" z 0 ("nesw" : Str).length 1).isEmpty)) = _
    rw [hn]
    rfl
  have e1 := lc_map (fi := iSeq (eV 2)) (b := bName 4) (fe := eBin pIn (eV 4) (eC (.str "nesw"))) (vs := [4])
    (ρ := [.sh (encA W H ps), .sh (encZ c), .sh (.str z), .non, .non]) (ρ1 := [.sh (encA W H ps), .sh (encZ c), .sh (.str z), .non, .non]) [z] (fun q => .str q) (fun _ => .bool false) (by simp [run_eV, itemsOf, hz]) (by simp) (by simp [wipeR, unwipeR]) (fun a ha => by
      rw [List.mem_singleton.mp ha]
      simp [StepM, wipeR, run_eV, e0])
  have e3 := pAll_bools [false]
  have hs : PyData.isStr (.str z) = true := rfl
  simp [F_is_walk_from, fnP, B_is_walk_from, run_eV, hs, l1, e1]
  simp at e3
  simp [e3]
theorem endC_app : ∀ (as bs : List Wy) (c : Cell), endC c (as ++ bs) = endC (endC c as) bs
  | [], _, _ => rfl
  | a :: as, bs, c => endC_app as bs (stepW a c)
theorem endC_e : ∀ (k : Nat) (c : Cell), endC c (List.replicate k .e) = (c.1 + (k : Nat), c.2)
  | 0, c => by simp [endC]
  | k + 1, c => by
    rw [List.replicate_succ]
    show endC (stepW .e c) (List.replicate k .e) = _
    rw [endC_e k]
    simp only [stepW, Prod.mk.injEq, and_true]
    omega
theorem endC_w : ∀ (k : Nat) (c : Cell), endC c (List.replicate k .w) = (c.1 - (k : Nat), c.2)
  | 0, c => by simp [endC]
  | k + 1, c => by
    rw [List.replicate_succ]
    show endC (stepW .w c) (List.replicate k .w) = _
    rw [endC_w k]
    simp only [stepW, Prod.mk.injEq, and_true]
    omega
theorem encW_app (as bs : List Wy) : encW as ++ encW bs = encW (as ++ bs) := by
  show (⟨(encW as).cps ++ (encW bs).cps⟩ : Str) = _
  simp [encW]
/-- nine steps more lead out -/
theorem walk_out (hw : WalkOk W H c ws) (hW : W ≤ 8) (b : Bool) : F_is_walk_from [encA W H ps, encZ c, .str (encW (ws ++ List.replicate 9 (if b = true then .e else .w)))] = .ok (.bool false) [] := by
  have hl := hw.len
  have hle : (ws ++ List.replicate 9 (if b = true then Wy.e else .w)).length = ws.length + 9 := by rw [List.length_append, List.length_replicate]
  by_cases h60 : ws.length + 9 ≤ 60
  · rw [walk_all (by rw [hle]; exact h60)]
    have pl := path_last (ws ++ List.replicate 9 (if b = true then Wy.e else .w)) c
    have mem := List.mem_of_getElem? pl
    have me := List.mem_of_getElem? (path_last ws c)
    obtain ⟨q1, q2, q3, q4⟩ := hw.inl _ me
    have out : inLb W H (endC c (ws ++ List.replicate 9 (if b = true then Wy.e else .w))) = false := by
      rw [Bool.eq_false_iff]
      intro z
      obtain ⟨z1, z2, z3, z4⟩ := inLb_iff.mp z
      rw [endC_app] at z1 z2
      cases b with
      | true =>
        rw [if_pos rfl, endC_e] at z2
        simp only at z2
        omega
      | false =>
        have z1 : 0 ≤ (endC (endC c ws) (List.replicate 9 .w)).1 := z1
        rw [endC_w] at z1
        simp only at z1
        omega
    have : (path c (ws ++ List.replicate 9 (if b = true then Wy.e else .w))).all (inLb W H) = false := by
      rw [Bool.eq_false_iff]
      intro z
      have := List.all_eq_true.mp z _ mem
      rw [out] at this
      cases this
    rw [this]
  · exact walk_long (by rw [encW_len, hle]; omega) (by rw [encW_len, hle]; omega)
end
end Atl

set_option Elab.async false
set_option linter.all false
set_option maxRecDepth 100000
set_option maxHeartbeats 4000000
namespace Atl
open PySem Dl
open L2 (atI ixN)
theorem edges_ok : ∃ L, F__law_edges_of_bounds [] = .ok (.list L) [] ∧ L.length ≤ 100 := by
  have e : (match F__law_edges_of_bounds [] with
    | .ok (.list L) [] => decide (L.length ≤ 100)
    | _ => false) = true := by rfl
  split at e
  · rename_i L q
    exact ⟨L, q, of_decide_eq_true e⟩
  · cases e
theorem kin_atlas : kinD ⟨"InvalidAtlas", none⟩ = some (.str "atlas +") := by
  rw [kinD_none (by decide +kernel), show kinS "InvalidAtlas" = "atlas +" by decide +kernel]
theorem kin_cell : kinD ⟨"InvalidCell", none⟩ = some (.str "cell +") := by
  rw [kinD_none (by decide +kernel), show kinS "InvalidCell" = "cell +" by decide +kernel]
theorem kin_walk : kinD ⟨"InvalidWalk", none⟩ = some (.str "walk +") := by
  rw [kinD_none (by decide +kernel), show kinS "InvalidWalk" = "walk +" by decide +kernel]
theorem try_ex {f : Rho → Rs PyData} {ρ : Rho} {x k : Str} (h : f (ρ.map Slot.hide) = .ex ⟨x, none⟩) (hk : kinD ⟨x, none⟩ = some (.str k)) : eTry f ρ = .ok (.str k) ρ := by
  unfold eTry
  rw [h]
  show opt (kinD ⟨x, none⟩) ρ = _
  rw [hk]
  rfl
section
variable {W H : Int} {ps : List PyData} {S s1 D s3 s4 s5 : Slot}
/-- one thing -/
theorem thing_ok (d : PyData) (s7 s8 s9 s10 s11 s12 : Slot) : ∃ t10, B_law_1 [S, s1, D, s3, s4, s5, .sh d, s7, s8, s9, s10, s11, s12, .non] = .ok .nx [S, s1, D, s3, s4, s5, .sh d, s7, s8, s9, t10, s11, s12, .non] := by
  have e1 := lawIsAtlas_all d
  have e2 : F_is_atlas [d] = .ok (.bool (isA d)) [] := by simp [F_is_atlas, fnP, B_is_atlas, run_eV, isAtlas_all d]
  have e3 := same_fine 8 (.bool (isA d)) rfl (by decide)
  refine ⟨.sh (.bool (isA d)), ?_⟩
  unfold B_law_1
  rw [seq_nx (ρ' := [S, s1, D, s3, s4, s5, .sh d, s7, s8, s9, .sh (.bool (isA d)), s11, s12, .non]) (by simp [run_eV, e1])]
  rw [seq_nx (ρ' := [S, s1, D, s3, s4, s5, .sh d, s7, s8, s9, .sh (.bool (isA d)), s11, s12, .non]) (by simp [run_eV, e2, e3])]
  cases hA : isA d with
  | true => simp [run_eV]
  | false =>
    have e4 := pagesAt_no (x := .int 0) (y := .int 0) hA
    have t := try_ex (f := eFn F_pages_at (eCons (eV 6) (eCons (eC (.int 0)) (eCons (eC (.int 0)) eNil)))) (ρ := [S, s1, D, s3, s4, s5, .sh d, s7, s8, s9, .sh (.bool false), s11, s12, .non]) (by simp [run_eV, Slot.hide, e4]) kin_atlas
    have q : pNe (.str "atlas +") (.str "atlas +") = some (.bool false) := by rw [op_nes]; rfl
    simp [run_eV, t, q]
theorem things_ok (L : List PyData) (s6 s7 s8 s9 s10 s11 s12 : Slot) : ∃ t6 t10, forL (bName 6) B_law_1 L [S, s1, D, s3, s4, s5, s6, s7, s8, s9, s10, s11, s12, .non] = .ok .nx [S, s1, D, s3, s4, s5, t6, s7, s8, s9, t10, s11, s12, .non] := by
  obtain ⟨ρ', e, t6, t10, rfl⟩ := forL_all (b := bName 6) (body := B_law_1) (fun _ ρ => ∃ t6 t10, ρ = [S, s1, D, s3, s4, s5, t6, s7, s8, s9, t10, s11, s12, .non]) L [S, s1, D, s3, s4, s5, s6, s7, s8, s9, s10, s11, s12, .non] ⟨_, _, rfl⟩ (by
    rintro i x ρ _ ⟨t6, t10, rfl⟩
    obtain ⟨u10, f⟩ := thing_ok (S := S) (s1 := s1) (D := D) (s3 := s3) (s4 := s4) (s5 := s5) x s7 s8 s9 t10 s11 s12
    exact ⟨_, _, rfl, f, _, _, rfl⟩)
  exact ⟨t6, t10, e⟩
theorem in_cells {c : Nat × Nat} (hc : c ∈ cellsL W H) : InL W H ((c.1 : Int), (c.2 : Int)) := by
  obtain ⟨m1, m2⟩ := mem_cells.mp hc
  exact ⟨by simp only; omega, m1, by simp only; omega, m2⟩
/-- the cells -/
theorem cells_loop (h : AtlasOk W H ps) (s6 s7 s8 s9 s10 s11 s12 : Slot) : ∃ t7, forL (bName 7) B_law_2 ((cellsL W H).map encC) [S, s1, D, .sh (encA W H ps), s4, s5, s6, s7, s8, s9, s10, s11, s12, .non] = .ok .nx [S, s1, D, .sh (encA W H ps), s4, s5, s6, t7, s8, s9, s10, s11, s12, .non] := by
  obtain ⟨ρ', e, t7, rfl⟩ := forL_all (b := bName 7) (body := B_law_2) (fun _ ρ => ∃ t7, ρ = [S, s1, D, .sh (encA W H ps), s4, s5, s6, t7, s8, s9, s10, s11, s12, .non]) ((cellsL W H).map encC) [S, s1, D, .sh (encA W H ps), s4, s5, s6, s7, s8, s9, s10, s11, s12, .non] ⟨_, rfl⟩ (by
    rintro i x ρ hi ⟨t7, rfl⟩
    obtain ⟨c, hc, rfl⟩ := List.mem_map.mp (List.mem_of_getElem? hi)
    have e1 := pagesAt_ok h (in_cells hc)
    have e2 := lawHeldBy_ok (x := (c.1 : Int)) (y := (c.2 : Int)) h.pg (by have := h.n6; omega)
    have e3 := same_list (L := heldL ps (c.1 : Int) (c.2 : Int)) (by have := held_len (ps := ps) (x := (c.1 : Int)) (y := (c.2 : Int)); have := h.n6; omega)
    refine ⟨_, _, rfl, ?_, .sh (encC c), rfl⟩
    unfold B_law_2
    simp only at e1
    generalize (heldL ps (c.1 : Int) (c.2 : Int)).map encI = Y at *
    simp [run_eV, e1, e2, e3])
  exact ⟨t7, e⟩
/-- the cells of a walk, by hand -/
theorem due_walk (c : Cell) (ws : List Wy) (hl : ws.length ≤ 60) (s6 s7 s8 s9 s10 : Slot) : ∃ t8, forL (bName 8) B_law_3 (ws.map fun a => .str a.chr) [S, s1, D, s3, s4, s5, s6, s7, s8, s9, s10, .sh (.str (encW ws)), .own false [encZ c], .non]
    = .ok .nx [S, s1, D, s3, s4, s5, s6, s7, t8, s9, s10, .sh (.str (encW ws)), .own false ((path c ws).map encZ), .non] := by
  obtain ⟨ρ', e, t8, rfl⟩ := forL_all (b := bName 8) (body := B_law_3) (fun i ρ => ∃ t8, ρ = [S, s1, D, s3, s4, s5, s6, s7, t8, s9, s10, .sh (.str (encW ws)), .own false ((path c (ws.take i)).map encZ), .non]) (ws.map fun a => .str a.chr)
    [S, s1, D, s3, s4, s5, s6, s7, s8, s9, s10, .sh (.str (encW ws)), .own false [encZ c], .non] ⟨_, rfl⟩ (by
      rintro i x ρ hi ⟨t8, rfl⟩
      rw [List.getElem?_map] at hi
      obtain ⟨a, ha, rfl⟩ := Option.map_eq_some_iff.mp hi
      obtain ⟨hlt, hai⟩ := List.getElem?_eq_some_iff.mp ha
      have hp := path_len (ws.take i) c
      have ht : (ws.take i).length = i := by rw [List.length_take]; omega
      have e1 : atI ((path c (ws.take i)).map encZ) (-1) = some (encZ (endC c (ws.take i))) := by
        rw [atI_last (n := i) (by rw [List.length_map, hp, ht]), List.getElem?_map]
        have := path_last (ws.take i) c
        rw [ht] at this
        rw [this]
        rfl
      have e2 := behind_ok a (endC c (ws.take i))
      have hz : ((path c (ws.take i)).map encZ).length < 1000000 := by rw [List.length_map]; omega
      refine ⟨_, _, rfl, ?_, .sh (.str a.chr), rfl⟩
      rw [List.take_succ_eq_append_getElem hlt, hai, path_snoc, List.map_append]
      unfold B_law_3
      generalize (path c (ws.take i)).map encZ = Y at *
      simp [run_sApp, run_eOIx, run_ownAt', run_eV, e1, e2, hz])
  rw [List.length_map, List.take_length] at e
  exact ⟨t8, e⟩
theorem walk_body (h : AtlasOk W H ps) {c : Cell} (hc : InL W H c) {d : PyData} (hd : F_is_walk_from [encA W H ps, encZ c, d] = .ok (.bool false) []) (s6 s8 s10 s11 s12 : Slot) :
    B_law_4 [S, s1, D, .sh (encA W H ps), s4, s5, s6, .sh (encZ c), s8, .sh d, s10, s11, s12, .non] = .ok .nx [S, s1, D, .sh (encA W H ps), s4, s5, s6, .sh (encZ c), s8, .sh d, s10, s11, s12, .non] := by
  have e4 := cellsAlong_no h hc hd
  have t := try_ex (f := eFn F_cells_along (eCons (eV 3) (eCons (eBin pIx (eV 7) (eC (.int 0))) (eCons (eBin pIx (eV 7) (eC (.int 1))) (eCons (eV 9) eNil))))) (ρ := [S, s1, D, .sh (encA W H ps), s4, s5, s6, .sh (encZ c), s8, .sh d, s10, s11, s12, .non]) (by simp [run_eV, Slot.hide, e4]) kin_walk
  have q : pNe (.str "walk +") (.str "walk +") = some (.bool false) := by rw [op_nes]; rfl
  unfold B_law_4
  simp [t, q]
theorem cell_body (h : AtlasOk W H ps) {d : PyData} (hd : inR d 0 (W - 1) = false) (s6 s7 s8 s10 s11 s12 : Slot) :
    B_law_5 [S, s1, D, .sh (encA W H ps), s4, s5, s6, s7, s8, .sh d, s10, s11, s12, .non] = .ok .nx [S, s1, D, .sh (encA W H ps), s4, s5, s6, s7, s8, .sh d, s10, s11, s12, .non] := by
  have e4 := pagesAt_odd h hd
  have t := try_ex (f := eFn F_pages_at (eCons (eV 3) (eCons (eV 9) (eCons (eC (.int 0)) eNil)))) (ρ := [S, s1, D, .sh (encA W H ps), s4, s5, s6, s7, s8, .sh d, s10, s11, s12, .non]) (by simp [run_eV, Slot.hide, e4]) kin_cell
  have q : pNe (.str "cell +") (.str "cell +") = some (.bool false) := by rw [op_nes]; rfl
  unfold B_law_5
  simp [t, q]
theorem walks_odd (h : AtlasOk W H ps) {c : Cell} (hc : InL W H c) (L : List PyData) (hL : ∀ d ∈ L, F_is_walk_from [encA W H ps, encZ c, d] = .ok (.bool false) []) (s6 s8 s9 s10 s11 s12 : Slot) :
    ∃ t9, forL (bName 9) B_law_4 L [S, s1, D, .sh (encA W H ps), s4, s5, s6, .sh (encZ c), s8, s9, s10, s11, s12, .non] = .ok .nx [S, s1, D, .sh (encA W H ps), s4, s5, s6, .sh (encZ c), s8, t9, s10, s11, s12, .non] := by
  obtain ⟨ρ', e, t9, rfl⟩ := forL_all (b := bName 9) (body := B_law_4) (fun _ ρ => ∃ t9, ρ = [S, s1, D, .sh (encA W H ps), s4, s5, s6, .sh (encZ c), s8, t9, s10, s11, s12, .non]) L [S, s1, D, .sh (encA W H ps), s4, s5, s6, .sh (encZ c), s8, s9, s10, s11, s12, .non] ⟨_, rfl⟩ (by
    rintro i x ρ hi ⟨t9, rfl⟩
    exact ⟨_, _, rfl, walk_body h hc (hL x (List.mem_of_getElem? hi)) s6 s8 s10 s11 s12, _, rfl⟩)
  exact ⟨t9, e⟩
theorem cells_odd (h : AtlasOk W H ps) (L : List PyData) (hL : ∀ d ∈ L, inR d 0 (W - 1) = false) (s6 s7 s8 s9 s10 s11 s12 : Slot) :
    ∃ t9, forL (bName 9) B_law_5 L [S, s1, D, .sh (encA W H ps), s4, s5, s6, s7, s8, s9, s10, s11, s12, .non] = .ok .nx [S, s1, D, .sh (encA W H ps), s4, s5, s6, s7, s8, t9, s10, s11, s12, .non] := by
  obtain ⟨ρ', e, t9, rfl⟩ := forL_all (b := bName 9) (body := B_law_5) (fun _ ρ => ∃ t9, ρ = [S, s1, D, .sh (encA W H ps), s4, s5, s6, s7, s8, t9, s10, s11, s12, .non]) L [S, s1, D, .sh (encA W H ps), s4, s5, s6, s7, s8, s9, s10, s11, s12, .non] ⟨_, rfl⟩ (by
    rintro i x ρ hi ⟨t9, rfl⟩
    exact ⟨_, _, rfl, cell_body h (hL x (List.mem_of_getElem? hi)) s6 s7 s8 s10 s11 s12, _, rfl⟩)
  exact ⟨t9, e⟩
theorem tame_A (h : AtlasOk W H ps) : Tame 6 4 (encA W H ps) := by
  refine .tup (show 3 ≤ 6 by decide) fun x hx => ?_
  simp only [List.mem_cons, List.not_mem_nil, or_false] at hx
  rcases hx with rfl | rfl | rfl
  · exact .leaf rfl
  · exact .leaf rfl
  · refine .tup h.n6 fun p hp => ?_
    obtain ⟨s, a0, a1, a2, a3, rfl, _, h0, h1, h2, h3⟩ := h.pg p hp
    have arr : ∀ {a : PyData}, ArrOk ps.length a → Tame 6 0 a := fun {a} q => by
      rcases q with rfl | ⟨k, rfl, _⟩
      · exact .leaf rfl
      · exact .leaf rfl
    refine .tup (show 5 ≤ 6 by decide) fun x hx => ?_
    simp only [List.mem_cons, List.not_mem_nil, or_false] at hx
    rcases hx with rfl | rfl | rfl | rfl | rfl
    · exact .leaf rfl
    · exact .leaf rfl
    · exact .leaf rfl
    · exact .leaf rfl
    · refine .tup (show 4 ≤ 6 by decide) fun x hx => ?_
      simp only [List.mem_cons, List.not_mem_nil, or_false] at hx
      rcases hx with rfl | rfl | rfl | rfl
      · exact arr h0
      · exact arr h1
      · exact arr h2
      · exact arr h3
/-- spoilt ones, twenty -/
theorem twenty {k : Int} {d : List PyData} (hd : Dk k d) (hk : k < 300000) {a : PyData} (ha : Tame 6 4 a) (s4 s5 : Slot) (s6 s7 s8 s9 s10 s11 s12 : Slot) :
    ∃ (L d' : List PyData), eLc (iRng1 (eC (.int 20))) (bName 13) eYes (eFnO 2 (F__law_spoilt 8) (eCons (eV 3) eNil)) [13] [S, s1, .own false d, .sh a, s4, s5, s6, s7, s8, s9, s10, s11, s12, .non] = .ok L [S, s1, .own false d', .sh a, s4, s5, s6, s7, s8, s9, s10, s11, s12, .non] ∧ L.length = 20 ∧ Dk (k + 300) d' := by
  obtain ⟨ms, ρ', e, d', rfl, hd', hl⟩ := lcL_all (b := bName 13) (ft := eYes) (fe := eFnO 2 (F__law_spoilt 8) (eCons (eV 3) eNil)) (vs := [13])
    (fun i acc ρ => ∃ d', ρ = [S, s1, .own false d', .sh a, s4, s5, s6, s7, s8, s9, s10, s11, s12, .non] ∧ Dk (k + 15 * i) d' ∧ acc.length = i) (rngL 0 20) [S, s1, .own false d, .sh a, s4, s5, s6, s7, s8, s9, s10, s11, s12, .non] ⟨d, rfl, hd.mono (by omega), rfl⟩ (by
      rintro i x acc ρ hi ⟨d', rfl, hd', hl⟩
      have hlt : i < 20 := by
        have := (List.getElem?_eq_some_iff.mp hi).1
        rwa [rngL_len] at this
      obtain ⟨r, d2, f1, _, f3⟩ := spoilt_ok 8 4 a (k + 15 * i) d' ha (by decide) (by decide) hd' (by omega)
      refine ⟨_, rfl, .inr ⟨_, r, [S, s1, .own false d2, .sh a, s4, s5, s6, s7, s8, s9, s10, s11, s12, .sh x], rfl, ?_, d2, ?_, f3.mono (by omega), by rw [List.length_append, hl]; rfl⟩⟩
      · simp [run_eFnO', run_afterO', run_eV, f1]
      · simp [wipeR])
  rw [rngL_len] at hd' hl
  refine ⟨ms, d', ?_, hl, hd'.mono (by omega)⟩
  have hz2 : ms.length ≤ 1000000 := by omega
  rw [run_eLc]
  have rr : iRng1 (eC (.int 20)) [S, s1, .own false d, .sh a, s4, s5, s6, s7, s8, s9, s10, s11, s12, .non] = .ok (rngL 0 20) [S, s1, .own false d, .sh a, s4, s5, s6, s7, s8, s9, s10, s11, s12, .non] := rfl
  rw [rr, run_ok]
  simp [wipeR, unwipeR, e, hz2]
end
theorem mul_e : pMulS (.str "e") (.int 9) = some (.str (encW (List.replicate 9 .e))) := by
  show (if ((2 : Int) ≤ 9 ∧ (9 : Int) ≤ 1000) ∧ 1 ≤ ("e" : Str).length ∧ ("e" : Str).length ≤ 1000 then some (PyData.str (repS "e" 9)) else none) = _
  rw [if_pos (by decide +kernel), show repS "e" 9 = encW (List.replicate 9 .e) by decide +kernel]
theorem mul_w : pMulS (.str "w") (.int 9) = some (.str (encW (List.replicate 9 .w))) := by
  show (if ((2 : Int) ≤ 9 ∧ (9 : Int) ≤ 1000) ∧ 1 ≤ ("w" : Str).length ∧ ("w" : Str).length ≤ 1000 then some (PyData.str (repS "w" 9)) else none) = _
  rw [if_pos (by decide +kernel), show repS "w" 9 = encW (List.replicate 9 .w) by decide +kernel]
theorem mul_n : pMulS (.str "n") (.int 61) = some (.str (repS "n" 61)) := by
  show (if ((2 : Int) ≤ 61 ∧ (61 : Int) ≤ 1000) ∧ 1 ≤ ("n" : Str).length ∧ ("n" : Str).length ≤ 1000 then some (PyData.str (repS "n" 61)) else none) = _
  rw [if_pos (by decide +kernel)]
theorem cell_ok (S : List PyData) (c : Int) (s2 s3 s4 s5 s6 s7 s8 s9 s10 s11 s12 : Slot) : ∃ (t2 t3 t4 t5 t6 t7 t8 t9 t10 t11 t12 : Slot), B_law_6 [.sh (.list S), .sh (.int c), s2, s3, s4, s5, s6, s7, s8, s9, s10, s11, s12, .non] = .ok .nx [.sh (.list S), .sh (.int c), t2, t3, t4, t5, t6, t7, t8, t9, t10, t11, t12, .non] := by
  obtain ⟨d0, a1, a2⟩ := deck_ok c (turn := 1) (by decide)
  obtain ⟨W, H, ps, d1, b1, h, _, _, b5⟩ := drawn_ok a2 (by decide) (wide := 8) (high := 8) (extra := 2) (by decide) (by decide) (by decide)
  obtain ⟨bent, d2, c1, c2, c3⟩ := spoilt_ok 8 4 _ _ _ (tame_A h) (by decide) (by decide) b5 (by decide)
  obtain ⟨more, d3, e1, e2, e3⟩ := spoilt_ok 8 5 _ _ _ c2 (by decide) (by decide) c3 (by decide)
  obtain ⟨L, d4, f1, f2, f3⟩ := twenty (S := .sh (.list S)) (s1 := .sh (.int c)) e3 (by decide) (tame_A h) (.sh bent) (.sh (.list [encA W H ps, bent, more, .tuple ps, .tuple [.tuple ps, .int H, .int W], .none, .int 7, .str "", .list []])) s6 s7 s8 s9 s10 s11 s12
  obtain ⟨M, g1, g2⟩ := edges_ok
  obtain ⟨u6, u10, i1⟩ := things_ok (S := .sh (.list S)) (s1 := .sh (.int c)) (D := .own false d4) (s3 := .sh (encA W H ps)) (s4 := .sh bent) (s5 := .sh (.list ([encA W H ps, bent, more, .tuple ps, .tuple [.tuple ps, .int H, .int W], .none, .int 7, .str "", .list []] ++ L ++ M))) ([encA W H ps, bent, more, .tuple ps, .tuple [.tuple ps, .int H, .int W], .none, .int 7, .str "", .list []] ++ L ++ M) s6 s7 s8 s9 s10 s11 s12
  obtain ⟨u7, i2⟩ := cells_loop (S := .sh (.list S)) (s1 := .sh (.int c)) (D := .own false d4) (s4 := .sh bent) (s5 := .sh (.list ([encA W H ps, bent, more, .tuple ps, .tuple [.tuple ps, .int H, .int W], .none, .int 7, .str "", .list []] ++ L ++ M))) h u6 s7 s8 s9 u10 s11 s12
  have lc := lawCells_ok h
  have hcs := cells_small h
  have hne : cellsL W H ≠ [] := fun e => by
    have hc0 : (0, 0) ∈ cellsL W H := mem_cells.mpr ⟨by have := h.w1; simp only; omega, by have := h.h1; simp only; omega⟩
    rw [e] at hc0
    cases hc0
  obtain ⟨x, d5, j1, j2, j3⟩ := one_list f3 (by decide) (xs := (cellsL W H).map encC) (by simpa using hne) (by rw [List.length_map]; omega)
  obtain ⟨cc, hcc, rfl⟩ := List.mem_map.mp j2
  have hin := in_cells hcc
  obtain ⟨ws, d6, k1, k2, k3, k4⟩ := someWalk_ok (ps := ps) j3 (by decide) hin (most := 60) (by decide)
  have hl : ws.length ≤ 60 := by omega
  have hw : WalkOk W H ((cc.1 : Int), (cc.2 : Int)) ws := ⟨hl, k3⟩
  obtain ⟨u8, i3⟩ := due_walk (S := .sh (.list S)) (s1 := .sh (.int c)) (D := .own false d6) (s3 := .sh (encA W H ps)) (s4 := .sh bent) (s5 := .sh (.list ([encA W H ps, bent, more, .tuple ps, .tuple [.tuple ps, .int H, .int W], .none, .int 7, .str "", .list []] ++ L ++ M))) ((cc.1 : Int), (cc.2 : Int)) ws hl u6 (.sh (encC cc)) s8 s9 u10
  have l1 := cellsAlong_ok h hin hw
  have l2 := same_fine 8 (.list ((path ((cc.1 : Int), (cc.2 : Int)) ws).map encZ)) (fine_list.mpr ⟨by rw [List.length_map, path_len]; omega, fun x hx => by
    obtain ⟨z, _, rfl⟩ := List.mem_map.mp hx
    rfl⟩) (by decide)
  have ae : pAdd (.str (encW ws)) (.str (encW (List.replicate 9 .e))) = some (.str (encW (ws ++ List.replicate 9 .e))) := by
    rw [op_adds (by rw [encW_len, encW_len, List.length_replicate]; omega), encW_app]
  have aw : pAdd (.str (encW ws)) (.str (encW (List.replicate 9 .w))) = some (.str (encW (ws ++ List.replicate 9 .w))) := by
    rw [op_adds (by rw [encW_len, encW_len, List.length_replicate]; omega), encW_app]
  obtain ⟨u9, i4⟩ := walks_odd (S := .sh (.list S)) (s1 := .sh (.int c)) (D := .own false d6) (s4 := .sh bent) (s5 := .sh (.list ([encA W H ps, bent, more, .tuple ps, .tuple [.tuple ps, .int H, .int W], .none, .int 7, .str "", .list []] ++ L ++ M))) h hin
    [.none, .int 7, .str "x", .str (encW (ws ++ List.replicate 9 .e)), .str (encW (ws ++ List.replicate 9 .w)), .str "N", .list [.str "n"], .str (repS "n" 61)] (fun d hd => by
      simp only [List.mem_cons, List.not_mem_nil, or_false] at hd
      rcases hd with rfl | rfl | rfl | rfl | rfl | rfl | rfl | rfl
      · exact walk_other rfl
      · exact walk_other rfl
      · exact walk_sign rfl rfl (by decide +kernel)
      · exact walk_out hw h.w8 true
      · exact walk_out hw h.w8 false
      · exact walk_sign rfl rfl (by decide +kernel)
      · exact walk_other rfl
      · exact walk_long (by rw [repS_len]; decide) (by rw [repS_len]; decide)) u6 u8 s9 u10 (.sh (.str (encW ws))) (.sh (.list ((path ((cc.1 : Int), (cc.2 : Int)) ws).map encZ)))
  obtain ⟨v9, i5⟩ := cells_odd (S := .sh (.list S)) (s1 := .sh (.int c)) (D := .own false d6) (s4 := .sh bent) (s5 := .sh (.list ([encA W H ps, bent, more, .tuple ps, .tuple [.tuple ps, .int H, .int W], .none, .int 7, .str "", .list []] ++ L ++ M))) h
    [.none, .int (-1), .int W, .bool true, .str "0"] (fun d hd => by
      simp only [List.mem_cons, List.not_mem_nil, or_false] at hd
      rcases hd with rfl | rfl | rfl | rfl | rfl
      · rfl
      · show decide (0 ≤ (-1 : Int) ∧ (-1 : Int) ≤ W - 1) = false
        exact decide_eq_false (by omega)
      · show decide (0 ≤ W ∧ W ≤ W - 1) = false
        exact decide_eq_false (by omega)
      · rfl
      · rfl) u6 (.sh (encC cc)) u8 u9 u10 (.sh (.str (encW ws))) (.sh (.list ((path ((cc.1 : Int), (cc.2 : Int)) ws).map encZ)))
  generalize hZ : [encA W H ps, bent, more, .tuple ps, .tuple [.tuple ps, .int H, .int W], .none, .int 7, .str "", .list []] = Z at *
  have zl : Z.length = 9 := by rw [← hZ]; rfl
  have o1 := op_catl (xs := Z) (ys := L) (by omega)
  have o2 := op_catl (xs := Z ++ L) (ys := M) (by rw [List.length_append]; omega)
  refine ⟨.own false d6, .sh (encA W H ps), .sh bent, .sh (.list (Z ++ L ++ M)), u6, .sh (encC cc), u8, v9, u10, .sh (.str (encW ws)), .sh (.list ((path ((cc.1 : Int), (cc.2 : Int)) ws).map encZ)), ?_⟩
  generalize hP : (path ((cc.1 : Int), (cc.2 : Int)) ws).map encZ = P at *
  unfold B_law_6
  have st4 : sSet 5 (eLst (eCons (eV 3) (eCons (eV 4) (eCons (eFnO 2 (F__law_spoilt 8) (eCons (eV 4) eNil)) (eCons (eBin pIx (eV 3) (eC (.int 2))) (eCons (eBack (eV 3) (eUn pNeg (eC (.int 1)))) (eCons (eC .none) (eCons (eC (.int 7)) (eCons (eC (.str "")) (eCons (eLst eNil) eNil)))))))))) [.sh (.list S), .sh (.int c), .own false d2, .sh (encA W H ps), .sh bent, s5, s6, s7, s8, s9, s10, s11, s12, .non]
      = .ok .nx [.sh (.list S), .sh (.int c), .own false d3, .sh (encA W H ps), .sh bent, .sh (.list Z), s6, s7, s8, s9, s10, s11, s12, .non] := by
    have bk : ∀ ρ : Rho, eV 3 ρ = .ok (encA W H ps) ρ → eBack (eV 3) (eUn pNeg (eC (.int 1))) ρ = .ok (.tuple [.tuple ps, .int H, .int W]) ρ := fun ρ q => by
      unfold eBack
      rw [q]
      simp
      rfl
    have bk1 := bk [.sh (.list S), .sh (.int c), .own false d3, .sh (encA W H ps), .sh bent, s5, s6, s7, s8, s9, s10, s11, s12, .non] rfl
    rw [← hZ]
    simp [run_eV, run_eFnO', run_afterO', e1, bk1]
  have st5 : sSet 5 (eBin pAdd (eBin pAdd (eV 5) (eLst (eLc (iRng1 (eC (.int 20))) (bName 13) eYes (eFnO 2 (F__law_spoilt 8) (eCons (eV 3) eNil)) [13]))) (eFn F__law_edges_of_bounds eNil)) [.sh (.list S), .sh (.int c), .own false d3, .sh (encA W H ps), .sh bent, .sh (.list Z), s6, s7, s8, s9, s10, s11, s12, .non]
      = .ok .nx [.sh (.list S), .sh (.int c), .own false d4, .sh (encA W H ps), .sh bent, .sh (.list (Z ++ L ++ M)), s6, s7, s8, s9, s10, s11, s12, .non] := by
    rw [run_sSet, run_eBin, run_eBin, run_eV_sh (d := .list Z) rfl, run_ok, run_eLst, f1, run_ok, run_ok, o1, run_some, run_ok, run_eFn, run_eNil, run_ok, g1]
    simp only [run_ok]
    rw [o2]
    rfl
  have st11 : sIf (eNot (eT (eFn (F__law_same 8) (eCons (eFn F_cells_along (eCons (eV 3) (eCons (eBin pIx (eV 7) (eC (.int 0))) (eCons (eBin pIx (eV 7) (eC (.int 1))) (eCons (eV 11) eNil))))) (eCons (eV 12) eNil))))) (sRet (eC (.bool false))) sNil [.sh (.list S), .sh (.int c), .own false d6, .sh (encA W H ps), .sh bent, .sh (.list (Z ++ L ++ M)), u6, .sh (encC cc), u8, s9, u10, .sh (.str (encW ws)), .own false P, .non]
      = .ok .nx [.sh (.list S), .sh (.int c), .own false d6, .sh (encA W H ps), .sh bent, .sh (.list (Z ++ L ++ M)), u6, .sh (encC cc), u8, s9, u10, .sh (.str (encW ws)), .sh (.list P), .non] := by
    simp only at l1
    generalize Z ++ L ++ M = Y at *
    simp [run_eV, l1, l2]
  have st12 : iSeq (eLst (eCons (eC .none) (eCons (eC (.int 7)) (eCons (eC (.str "x")) (eCons (eBin pAdd (eV 11) (eBin pMulS (eC (.str "e")) (eC (.int 9)))) (eCons (eBin pAdd (eV 11) (eBin pMulS (eC (.str "w")) (eC (.int 9)))) (eCons (eC (.str "N")) (eCons (eLst (eCons (eC (.str "n")) eNil)) (eCons (eBin pMulS (eC (.str "n")) (eC (.int 61))) eNil))))))))) [.sh (.list S), .sh (.int c), .own false d6, .sh (encA W H ps), .sh bent, .sh (.list (Z ++ L ++ M)), u6, .sh (encC cc), u8, s9, u10, .sh (.str (encW ws)), .sh (.list P), .non]
      = .ok [.none, .int 7, .str "x", .str (encW (ws ++ List.replicate 9 .e)), .str (encW (ws ++ List.replicate 9 .w)), .str "N", .list [.str "n"], .str (repS "n" 61)] [.sh (.list S), .sh (.int c), .own false d6, .sh (encA W H ps), .sh bent, .sh (.list (Z ++ L ++ M)), u6, .sh (encC cc), u8, s9, u10, .sh (.str (encW ws)), .sh (.list P), .non] := by
    have me := mul_e
    have mw := mul_w
    have mn := mul_n
    generalize encW (List.replicate 9 .e) = we at *
    generalize encW (List.replicate 9 .w) = ww at *
    generalize repS "n" 61 = wn at *
    generalize Z ++ L ++ M = Y at *
    simp [run_eV, me, mw, mn, ae, aw]
  rw [seq_nx (ρ' := [.sh (.list S), .sh (.int c), .own false d0, s3, s4, s5, s6, s7, s8, s9, s10, s11, s12, .non]) (by simp [run_eV, a1]),
    seq_nx (ρ' := [.sh (.list S), .sh (.int c), .own false d1, .sh (encA W H ps), s4, s5, s6, s7, s8, s9, s10, s11, s12, .non]) (by simp [run_eFnO', run_afterO', run_eV, b1]),
    seq_nx (ρ' := [.sh (.list S), .sh (.int c), .own false d2, .sh (encA W H ps), .sh bent, s5, s6, s7, s8, s9, s10, s11, s12, .non]) (by simp [run_eFnO', run_afterO', run_eV, c1]),
    seq_nx st4, seq_nx st5,
    seq_nx (ρ' := [.sh (.list S), .sh (.int c), .own false d4, .sh (encA W H ps), .sh bent, .sh (.list (Z ++ L ++ M)), u6, s7, s8, s9, u10, s11, s12, .non]) (by rw [run_sFor, run_iSeq, run_eV_sh (d := .list (Z ++ L ++ M)) rfl, run_ok, items_l, run_some, run_ok]; exact i1),
    seq_nx (ρ' := [.sh (.list S), .sh (.int c), .own false d4, .sh (encA W H ps), .sh bent, .sh (.list (Z ++ L ++ M)), u6, u7, s8, s9, u10, s11, s12, .non]) (by
      rw [run_sFor]
      rw [show iSeq (eFn F__law_all_cells (eCons (eV 3) eNil)) [.sh (.list S), .sh (.int c), .own false d4, .sh (encA W H ps), .sh bent, .sh (.list (Z ++ L ++ M)), u6, s7, s8, s9, u10, s11, s12, .non] = .ok ((cellsL W H).map encC) [.sh (.list S), .sh (.int c), .own false d4, .sh (encA W H ps), .sh bent, .sh (.list (Z ++ L ++ M)), u6, s7, s8, s9, u10, s11, s12, .non] by
        generalize Z ++ L ++ M = Y at *
        simp [run_eV, lc], run_ok]
      exact i2),
    seq_nx (ρ' := [.sh (.list S), .sh (.int c), .own false d5, .sh (encA W H ps), .sh bent, .sh (.list (Z ++ L ++ M)), u6, .sh (encC cc), s8, s9, u10, s11, s12, .non]) (by
      generalize Z ++ L ++ M = Y at *
      generalize (cellsL W H).map encC = CC at *
      simp [run_eFnO', run_afterO', run_eV, lc, j1]),
    seq_nx (ρ' := [.sh (.list S), .sh (.int c), .own false d6, .sh (encA W H ps), .sh bent, .sh (.list (Z ++ L ++ M)), u6, .sh (encC cc), s8, s9, u10, .sh (.str (encW ws)), .own false [encC cc], .non]) (by
      generalize Z ++ L ++ M = Y at *
      simp [run_eFnO', run_afterO', run_eV, k1]),
    seq_nx (ρ' := [.sh (.list S), .sh (.int c), .own false d6, .sh (encA W H ps), .sh bent, .sh (.list (Z ++ L ++ M)), u6, .sh (encC cc), u8, s9, u10, .sh (.str (encW ws)), .own false P, .non]) (by
      rw [run_sFor, run_iSeq, run_eV_sh (d := .str (encW ws)) rfl, run_ok]
      rw [show itemsOf (.str (encW ws)) = some (ws.map fun a => .str a.chr) by rw [← signs_W]; rfl, run_some, run_ok]
      exact i3),
    seq_nx st11,
    seq_nx (ρ' := [.sh (.list S), .sh (.int c), .own false d6, .sh (encA W H ps), .sh bent, .sh (.list (Z ++ L ++ M)), u6, .sh (encC cc), u8, u9, u10, .sh (.str (encW ws)), .sh (.list P), .non]) (by rw [run_sFor, st12, run_ok]; exact i4)]
  rw [run_sFor]
  rw [show iSeq (eLst (eCons (eC .none) (eCons (eUn pNeg (eC (.int 1))) (eCons (eBin pIx (eV 3) (eC (.int 0))) (eCons (eC (.bool true)) (eCons (eC (.str "0")) eNil)))))) [.sh (.list S), .sh (.int c), .own false d6, .sh (encA W H ps), .sh bent, .sh (.list (Z ++ L ++ M)), u6, .sh (encC cc), u8, u9, u10, .sh (.str (encW ws)), .sh (.list P), .non]
      = .ok [.none, .int (-1), .int W, .bool true, .str "0"] [.sh (.list S), .sh (.int c), .own false d6, .sh (encA W H ps), .sh bent, .sh (.list (Z ++ L ++ M)), u6, .sh (encC cc), u8, u9, u10, .sh (.str (encW ws)), .sh (.list P), .non] by
    generalize Z ++ L ++ M = Y at *
    simp [run_eV], run_ok]
  exact i5
theorem law_true (ns : List Int) (hl : ns.length ≤ 63) : F_law [.list (ns.map .int)] = .ok (.bool true) [] := by
  generalize hS : ns.map PyData.int = S
  have hSl : S.length ≤ 63 := by rw [← hS, List.length_map]; exact hl
  have hin : ∀ d ∈ (PyData.int 0 :: S).take 10, ∃ c, d = .int c := fun d hd => by
    rcases List.mem_cons.mp (List.mem_of_mem_take hd) with e | e
    · exact ⟨0, e⟩
    · rw [← hS] at e
      obtain ⟨n, _, rfl⟩ := List.mem_map.mp e
      exact ⟨n, rfl⟩
  obtain ⟨ρ', e, t1, t2, t3, t4, t5, t6, t7, t8, t9, t10, t11, t12, rfl⟩ := forL_all (b := bName 1) (body := B_law_6) (fun i ρ => ∃ t1 t2 t3 t4 t5 t6 t7 t8 t9 t10 t11 t12, ρ = [.sh (.list S), t1, t2, t3, t4, t5, t6, t7, t8, t9, t10, t11, t12, .non]) ((PyData.int 0 :: S).take 10)
    [.sh (.list S), .non, .non, .non, .non, .non, .non, .non, .non, .non, .non, .non, .non, .non] ⟨_, _, _, _, _, _, _, _, _, _, _, _, rfl⟩ (by
      rintro i x ρ hi ⟨t1, t2, t3, t4, t5, t6, t7, t8, t9, t10, t11, t12, rfl⟩
      obtain ⟨c, rfl⟩ := hin x (List.mem_of_getElem? hi)
      obtain ⟨u2, u3, u4, u5, u6, u7, u8, u9, u10, u11, u12, f⟩ := cell_ok S c t2 t3 t4 t5 t6 t7 t8 t9 t10 t11 t12
      exact ⟨_, _, rfl, f, _, _, _, _, _, _, _, _, _, _, _, _, rfl⟩)
  have cutE : eSl (eBin pAdd (eLst (eCons (eC (.int 0)) eNil)) (eV 0)) eNoP (eP (eC (.int 10))) [.sh (.list S), .non, .non, .non, .non, .non, .non, .non, .non, .non, .non, .non, .non, .non] = .ok (.list ((PyData.int 0 :: S).take 10)) [.sh (.list S), .non, .non, .non, .non, .non, .non, .non, .non, .non, .non, .non, .non, .non] := by
    have o := op_catl (xs := [.int 0]) (ys := S) (by simp; omega)
    have cc' : cutD (PyData.int 0 :: S) none (some 10) = (PyData.int 0 :: S).take 10 := cut_take (PyData.int 0 :: S) 10
    simp [run_eV, o, pSl, cc']
  refine fnP_rt (ρ0 := [.sh (.list S), .non, .non, .non, .non, .non, .non, .non, .non, .non, .non, .non, .non, .non]) rfl (ρ' := [.sh (.list S), t1, t2, t3, t4, t5, t6, t7, t8, t9, t10, t11, t12, .non]) ?_
  unfold B_law
  rw [seq_nx (ρ' := [.sh (.list S), t1, t2, t3, t4, t5, t6, t7, t8, t9, t10, t11, t12, .non]) (by rw [run_sFor, run_iSeq, cutE, run_ok, items_l, run_some, run_ok, e])]
  rfl
end Atl

set_option Elab.async false
set_option linter.all false
set_option maxRecDepth 100000
set_option maxHeartbeats 4000000
namespace Atl
open PySem L2 Dl Dt
def top (i : Nat) : Stmt := PySem.Challenge.pw_atlasturns_k01_atlases_recognized.main.body.getD i (.Pass ⟨0, 0, 0, 0⟩)
abbrev s_is_within : Stmt := top 21
abbrev s_is_page : Stmt := top 22
abbrev s_holds : Stmt := top 23
abbrev s_cells_of : Stmt := top 24
abbrev s_pages_of : Stmt := top 25
abbrev s_is_atlas_value : Stmt := top 26
abbrev s_is_cell : Stmt := top 27
abbrev s_moved : Stmt := top 28
abbrev s_walked : Stmt := top 29
abbrev s_is_walk_from : Stmt := top 30
abbrev s_need_atlas : Stmt := top 31
abbrev s_need_cell : Stmt := top 32
abbrev s_need_walk : Stmt := top 33
abbrev s_is_atlas : Stmt := top 34
abbrev s_pages_at : Stmt := top 35
abbrev s_cells_along : Stmt := top 36
abbrev s__law_deck : Stmt := top 38
abbrev s__law_pick : Stmt := top 39
abbrev s__law_whole : Stmt := top 40
abbrev s__law_one : Stmt := top 41
abbrev s__law_sort : Stmt := top 42
abbrev s__law_same : Stmt := top 43
abbrev s__law_kin : Stmt := top 44
abbrev s__law_try : Stmt := top 45
abbrev s__law_bands : Stmt := top 46
abbrev s__law_mixed : Stmt := top 47
abbrev s__law_any_page : Stmt := top 48
abbrev s__law_drawn : Stmt := top 49
abbrev s__law_holds : Stmt := top 50
abbrev s__law_all_cells : Stmt := top 51
abbrev s__law_held_by : Stmt := top 52
abbrev s__law_behind : Stmt := top 53
abbrev s__law_is_cell : Stmt := top 54
abbrev s__law_ways : Stmt := top 55
abbrev s__law_some_walk : Stmt := top 56
abbrev s__law_spoilt : Stmt := top 57
abbrev s__law_in : Stmt := top 58
abbrev s__law_is_page : Stmt := top 59
abbrev s__law_is_atlas : Stmt := top 60
abbrev s__law_edges_of_bounds : Stmt := top 61
abbrev s_law : Stmt := top 62
section
variable {P : Program} {w : World} {K : PySem.W.Frag} {mg : Str → Option Value} {base : Heap}
theorem sc_is_within : FnScope ["value", "low", "high"] ["value", "low", "high"] (defScope s_is_within) := ⟨rfl, rfl, rfl, by decide +kernel, rfl, by decide +kernel, by decide +kernel⟩
theorem ok_is_within {f : Addr} {fd : FuncData} (F : FunD K "is_within" "is_within" (defArgs s_is_within) (defBody s_is_within) (defScope s_is_within) [] [] f fd) (gf : mg "is_within" = some (.ref f)) (n_bool : mg "bool" = none) (n_int : mg "int" = none) (n_isinstance : mg "isinstance" = none) : Callee P w K mg base "is_within" 1 (spP K mg 3 F_is_within) := ⟨⟨f, fd, _, ok_pure F sc_is_within (by decide) (fun cdv A outer s H E hr => by
      have nd := sc_is_within.nd
      have hu := hr.units
      unfold B_is_within
      exact (pds_one (pds_ret (pd_and (pd_isi isi_int (by rfl) n_isinstance (by rfl) n_int (by decide +kernel) (pd_v 0)) (pd_and (pd_not (pd_isi isi_bool (by rfl) n_isinstance (by rfl) n_bool (by decide +kernel) (pd_v 0))) (pd_and1 (pd_chain (p2_le hu) (p2_le hu) (pd_v 1) (pd_v 0) (pd_v 2)))))))), gf, F.kp, (F.bindsN fun _ _ _ _ _ _ us hl => match us, hl with | [_, _, _], _ => rfl)⟩⟩
theorem sc_is_page : FnScope ["value", "width", "height", "many", "left", "top", "wide", "high", "arrows", "arrow"] ["value", "width", "height", "many"] (defScope s_is_page) := ⟨rfl, rfl, rfl, by decide +kernel, rfl, by decide +kernel, by decide +kernel⟩
theorem ok_is_page {f : Addr} {fd : FuncData} (F : FunD K "is_page" "is_page" (defArgs s_is_page) (defBody s_is_page) (defScope s_is_page) [] [] f fd) (gf : mg "is_page" = some (.ref f)) (c_is_within : Callee P w K mg base "is_within" 1 (spP K mg 3 F_is_within)) (n_all : mg "all" = none) (n_isinstance : mg "isinstance" = none) (n_len : mg "len" = none) (n_tuple : mg "tuple" = none) : Callee P w K mg base "is_page" 2 (spP K mg 4 F_is_page) := ⟨⟨f, fd, _, ok_pure F sc_is_page (by decide) (fun cdv A outer s H E hr => by
      have nd := sc_is_page.nd
      have hu := hr.units
      unfold B_is_page
      exact (pds_cons (pds_if (pdt_w (pdw_or (pdt_not (pdt_v (pd_isi isi_tuple (by rfl) n_isinstance (by rfl) n_tuple (by decide +kernel) (pd_v 0)))) (pdw_or (pdt_cmp (p2_ne hu) (pd_callB pl_len (by rfl) n_len (by decide +kernel) (pda_cons (pd_v 0) pda_nil)) pd_int) (pdw_or (pdt_not (pdt_v (pd_isi isi_tuple (by rfl) n_isinstance (by rfl) n_tuple (by decide +kernel) (pd_ix (pd_v 0) pd_int)))) (pdw_or1 (pdt_cmp (p2_ne hu) (pd_callB pl_len (by rfl) n_len (by decide +kernel) (pda_cons (pd_ix (pd_v 0) pd_int) pda_nil)) pd_int)))))) (pds_one (pds_ret pd_bl)) pds_nil) (pds_cons (pds_asg (pd_v 0) (pdg_tup rfl (pdgs_cons (pdg_name 4 nd) (pdgs_cons (pdg_name 5 nd) (pdgs_cons (pdg_name 6 nd) (pdgs_cons (pdg_name 7 nd) (pdgs_cons (pdg_name 8 nd) pdgs_nil))))))) (pds_cons (pds_if (pdt_w (pdw_or (pdt_not (pdt_v (pd_call c_is_within (hr.mono (by omega)) passX (pda_cons (pd_v 4) (pda_cons pd_int (pda_cons (pd_bin p2_sub (pd_v 1) pd_int) pda_nil)))))) (pdw_or1 (pdt_not (pdt_v (pd_call c_is_within (hr.mono (by omega)) passX (pda_cons (pd_v 5) (pda_cons pd_int (pda_cons (pd_bin p2_sub (pd_v 2) pd_int) pda_nil))))))))) (pds_one (pds_ret pd_bl)) pds_nil) (pds_cons (pds_if (pdt_w (pdw_or (pdt_not (pdt_v (pd_call c_is_within (hr.mono (by omega)) passX (pda_cons (pd_v 6) (pda_cons pd_int (pda_cons (pd_bin p2_sub (pd_v 1) (pd_v 4)) pda_nil)))))) (pdw_or1 (pdt_not (pdt_v (pd_call c_is_within (hr.mono (by omega)) passX (pda_cons (pd_v 7) (pda_cons pd_int (pda_cons (pd_bin p2_sub (pd_v 2) (pd_v 5)) pda_nil))))))))) (pds_one (pds_ret pd_bl)) pds_nil) (pds_one (pds_ret (pd_callB (pl_all rfl) (by rfl) n_all (by decide +kernel) (pda_cons (pd_o (pdo_lc rfl nd (pdi_seq (pd_v 8)) (blkOk_by (own := [("arrow", 9)]) (by kernel_rfl)) (fun _ _ _ _ _ => (pdg_name 9 nd)) (by decide) (fun _ _ _ _ _ => pdts_nil) (fun _ _ _ _ _ => (pd_or (pd_cmp p2_is (pd_v 9) pd_non) (pd_and1 (pd_call c_is_within (hr.mono (by omega)) passN (pda_cons (pd_v 9) (pda_cons pd_int (pda_cons (pd_bin p2_sub (pd_v 3) pd_int) pda_nil))))))))) pda_nil))))))))), gf, F.kp, (F.bindsN fun _ _ _ _ _ _ us hl => match us, hl with | [_, _, _, _], _ => rfl)⟩⟩
theorem sc_holds : FnScope ["page", "cell"] ["page", "cell"] (defScope s_holds) := ⟨rfl, rfl, rfl, by decide +kernel, rfl, by decide +kernel, by decide +kernel⟩
theorem ok_holds {f : Addr} {fd : FuncData} (F : FunD K "holds" "holds" (defArgs s_holds) (defBody s_holds) (defScope s_holds) [] [] f fd) (gf : mg "holds" = some (.ref f))  : Callee P w K mg base "holds" 1 (spP K mg 2 F_holds) := ⟨⟨f, fd, _, ok_pure F sc_holds (by decide) (fun cdv A outer s H E hr => by
      have nd := sc_holds.nd
      have hu := hr.units
      unfold B_holds
      exact (pds_one (pds_ret (pd_and (pd_chain (p2_le hu) (p2_lt hu) (pd_ix (pd_v 0) pd_int) (pd_ix (pd_v 1) pd_int) (pd_bin p2_add (pd_ix (pd_v 0) pd_int) (pd_ix (pd_v 0) pd_int))) (pd_and1 (pd_chain (p2_le hu) (p2_lt hu) (pd_ix (pd_v 0) pd_int) (pd_ix (pd_v 1) pd_int) (pd_bin p2_add (pd_ix (pd_v 0) pd_int) (pd_ix (pd_v 0) pd_int)))))))), gf, F.kp, (F.bindsN fun _ _ _ _ _ _ us hl => match us, hl with | [_, _], _ => rfl)⟩⟩
theorem sc_cells_of : FnScope ["atlas", "y", "x"] ["atlas"] (defScope s_cells_of) := ⟨rfl, rfl, rfl, by decide +kernel, rfl, by decide +kernel, by decide +kernel⟩
theorem ok_cells_of {f : Addr} {fd : FuncData} (F : FunD K "cells_of" "cells_of" (defArgs s_cells_of) (defBody s_cells_of) (defScope s_cells_of) [] [] f fd) (gf : mg "cells_of" = some (.ref f)) (n_range : mg "range" = none) : Callee P w K mg base "cells_of" 1 (spP K mg 1 F_cells_of) := ⟨⟨f, fd, _, ok_pure F sc_cells_of (by decide) (fun cdv A outer s H E hr => by
      have nd := sc_cells_of.nd
      have hu := hr.units
      unfold B_cells_of
      exact (pds_one (pds_ret (pd_o (pdo_lc2 (vs1 := [2]) rfl nd (pdi_rng1 (pd_ix (pd_v 0) pd_int) (by rfl) n_range) (blkOk_by (own := [("y", 1), ("x", 2)]) (by kernel_rfl)) (by decide) (fun _ _ _ _ _ => (pdg_name 1 nd)) (by decide) (fun _ _ _ _ _ => pdts_nil) (fun _ _ _ _ _ => (pdi_rng1 (pd_ix (pd_v 0) pd_int) (by rfl) n_range)) (fun _ _ _ _ _ => (pdg_name 2 nd)) (by decide) (fun _ _ _ _ _ => pdts_nil) (fun _ _ _ _ _ => (pd_tup (pda_cons (pd_v 2) (pda_cons (pd_v 1) pda_nil))))))))), gf, F.kp, (F.bindsN fun _ _ _ _ _ _ us hl => match us, hl with | [_], _ => rfl)⟩⟩
theorem sc_pages_of : FnScope ["atlas", "cell", "number", "page"] ["atlas", "cell"] (defScope s_pages_of) := ⟨rfl, rfl, rfl, by decide +kernel, rfl, by decide +kernel, by decide +kernel⟩
theorem ok_pages_of {f : Addr} {fd : FuncData} (F : FunD K "pages_of" "pages_of" (defArgs s_pages_of) (defBody s_pages_of) (defScope s_pages_of) [] [] f fd) (gf : mg "pages_of" = some (.ref f)) (c_holds : Callee P w K mg base "holds" 1 (spP K mg 2 F_holds)) (n_enumerate : mg "enumerate" = none) : Callee P w K mg base "pages_of" 2 (spP K mg 2 F_pages_of) := ⟨⟨f, fd, _, ok_pure F sc_pages_of (by decide) (fun cdv A outer s H E hr => by
      have nd := sc_pages_of.nd
      have hu := hr.units
      unfold B_pages_of
      exact (pds_one (pds_ret (pd_o (pdo_lc rfl nd (pdi_enum (pd_ix (pd_v 0) pd_int) n_enumerate) (blkOk_by (own := [("number", 2), ("page", 3)]) (by kernel_rfl)) (fun _ _ _ _ _ => (pdg_tup rfl (pdgs_cons (pdg_name 2 nd) (pdgs_cons (pdg_name 3 nd) pdgs_nil)))) (by decide) (fun _ _ _ _ _ => (pdts_one (pdt_v (pd_call c_holds (hr.mono (by omega)) passN (pda_cons (pd_v 3) (pda_cons (pd_v 1) pda_nil)))))) (fun _ _ _ _ _ => (pd_v 2))))))), gf, F.kp, (F.bindsN fun _ _ _ _ _ _ us hl => match us, hl with | [_, _], _ => rfl)⟩⟩
theorem sc_is_atlas_value : FnScope ["value", "cell", "page"] ["value"] (defScope s_is_atlas_value) := ⟨rfl, rfl, rfl, by decide +kernel, rfl, by decide +kernel, by decide +kernel⟩
theorem ok_is_atlas_value {f : Addr} {fd : FuncData} (F : FunD K "is_atlas_value" "is_atlas_value" (defArgs s_is_atlas_value) (defBody s_is_atlas_value) (defScope s_is_atlas_value) [] [] f fd) (gf : mg "is_atlas_value" = some (.ref f)) (c_cells_of : Callee P w K mg base "cells_of" 1 (spP K mg 1 F_cells_of)) (c_is_page : Callee P w K mg base "is_page" 2 (spP K mg 4 F_is_page)) (c_is_within : Callee P w K mg base "is_within" 1 (spP K mg 3 F_is_within)) (c_pages_of : Callee P w K mg base "pages_of" 2 (spP K mg 2 F_pages_of)) (g_MOST_PAGES : ∃ t, mg "MOST_PAGES" = some (.int 6 t)) (g_MOST_WIDE : ∃ t, mg "MOST_WIDE" = some (.int 8 t)) (n_all : mg "all" = none) (n_isinstance : mg "isinstance" = none) (n_len : mg "len" = none) (n_tuple : mg "tuple" = none) : Callee P w K mg base "is_atlas_value" 3 (spP K mg 1 F_is_atlas_value) := ⟨⟨f, fd, _, ok_pure F sc_is_atlas_value (by decide) (fun cdv A outer s H E hr => by
      have nd := sc_is_atlas_value.nd
      have hu := hr.units
      unfold B_is_atlas_value
      exact (pds_cons (pds_if (pdt_w (pdw_or (pdt_not (pdt_v (pd_isi isi_tuple (by rfl) n_isinstance (by rfl) n_tuple (by decide +kernel) (pd_v 0)))) (pdw_or (pdt_cmp (p2_ne hu) (pd_callB pl_len (by rfl) n_len (by decide +kernel) (pda_cons (pd_v 0) pda_nil)) pd_int) (pdw_or1 (pdt_not (pdt_v (pd_isi isi_tuple (by rfl) n_isinstance (by rfl) n_tuple (by decide +kernel) (pd_ix (pd_v 0) pd_int)))))))) (pds_one (pds_ret pd_bl)) pds_nil) (pds_cons (pds_if (pdt_w (pdw_or (pdt_not (pdt_v (pd_call c_is_within (hr.mono (by omega)) passX (pda_cons (pd_ix (pd_v 0) pd_int) (pda_cons pd_int (pda_cons (pd_gint (by rfl) g_MOST_WIDE) pda_nil)))))) (pdw_or1 (pdt_not (pdt_v (pd_call c_is_within (hr.mono (by omega)) passX (pda_cons (pd_ix (pd_v 0) pd_int) (pda_cons pd_int (pda_cons (pd_gint (by rfl) g_MOST_WIDE) pda_nil))))))))) (pds_one (pds_ret pd_bl)) pds_nil) (pds_cons (pds_if (pdt_not (pdt_chain (p2_le hu) (p2_le hu) pd_int (pd_callB pl_len (by rfl) n_len (by decide +kernel) (pda_cons (pd_ix (pd_v 0) pd_int) pda_nil)) (pd_gint (by rfl) g_MOST_PAGES))) (pds_one (pds_ret pd_bl)) pds_nil) (pds_cons (pds_if (pdt_not (pdt_v (pd_callB (pl_all rfl) (by rfl) n_all (by decide +kernel) (pda_cons (pd_o (pdo_lc rfl nd (pdi_seq (pd_ix (pd_v 0) pd_int)) (blkOk_by (own := [("page", 2)]) (by kernel_rfl)) (fun _ _ _ _ _ => (pdg_name 2 nd)) (by decide) (fun _ _ _ _ _ => pdts_nil) (fun _ _ _ _ _ => (pd_call c_is_page (hr.mono (by omega)) passN (pda_cons (pd_v 2) (pda_cons (pd_ix (pd_v 0) pd_int) (pda_cons (pd_ix (pd_v 0) pd_int) (pda_cons (pd_callB pl_len (by rfl) n_len (by decide +kernel) (pda_cons (pd_ix (pd_v 0) pd_int) pda_nil)) pda_nil)))))))) pda_nil)))) (pds_one (pds_ret pd_bl)) pds_nil) (pds_one (pds_ret (pd_callB (pl_all rfl) (by rfl) n_all (by decide +kernel) (pda_cons (pd_o (pdo_lc rfl nd (pdi_seq (pd_call c_cells_of (hr.mono (by omega)) passX (pda_cons (pd_v 0) pda_nil))) (blkOk_by (own := [("cell", 1)]) (by kernel_rfl)) (fun _ _ _ _ _ => (pdg_name 1 nd)) (by decide) (fun _ _ _ _ _ => pdts_nil) (fun _ _ _ _ _ => (pd_cmp (p2_ne hu) (pd_call c_pages_of (hr.mono (by omega)) passN (pda_cons (pd_v 0) (pda_cons (pd_v 1) pda_nil))) (pd_o (pdo_lst pda_nil)))))) pda_nil))))))))), gf, F.kp, (F.bindsN fun _ _ _ _ _ _ us hl => match us, hl with | [_], _ => rfl)⟩⟩
theorem sc_is_cell : FnScope ["atlas", "x", "y"] ["atlas", "x", "y"] (defScope s_is_cell) := ⟨rfl, rfl, rfl, by decide +kernel, rfl, by decide +kernel, by decide +kernel⟩
theorem ok_is_cell {f : Addr} {fd : FuncData} (F : FunD K "is_cell" "is_cell" (defArgs s_is_cell) (defBody s_is_cell) (defScope s_is_cell) [] [] f fd) (gf : mg "is_cell" = some (.ref f)) (c_is_within : Callee P w K mg base "is_within" 1 (spP K mg 3 F_is_within)) : Callee P w K mg base "is_cell" 2 (spP K mg 3 F_is_cell) := ⟨⟨f, fd, _, ok_pure F sc_is_cell (by decide) (fun cdv A outer s H E hr => by
      have nd := sc_is_cell.nd
      have hu := hr.units
      unfold B_is_cell
      exact (pds_one (pds_ret (pd_and (pd_call c_is_within (hr.mono (by omega)) passX (pda_cons (pd_v 1) (pda_cons pd_int (pda_cons (pd_bin p2_sub (pd_ix (pd_v 0) pd_int) pd_int) pda_nil)))) (pd_and1 (pd_call c_is_within (hr.mono (by omega)) passX (pda_cons (pd_v 2) (pda_cons pd_int (pda_cons (pd_bin p2_sub (pd_ix (pd_v 0) pd_int) pd_int) pda_nil))))))))), gf, F.kp, (F.bindsN fun _ _ _ _ _ _ us hl => match us, hl with | [_, _, _], _ => rfl)⟩⟩
theorem sc_moved : FnScope ["cell", "way"] ["cell", "way"] (defScope s_moved) := ⟨rfl, rfl, rfl, by decide +kernel, rfl, by decide +kernel, by decide +kernel⟩
theorem ok_moved {f : Addr} {fd : FuncData} (F : FunD K "moved" "moved" (defArgs s_moved) (defBody s_moved) (defScope s_moved) [] [] f fd) (gf : mg "moved" = some (.ref f)) (m_MOVES : GDic K w mg "MOVES" (([("n", [(.int 0), (.int (-1))]), ("e", [(.int 1), (.int 0)]), ("s", [(.int 0), (.int 1)]), ("w", [(.int (-1)), (.int 0)])] : List (Str × List PyData)).map fun q => (q.1, PyData.tuple q.2))) : Callee P w K mg base "moved" 1 (spP K mg 2 F_moved) := ⟨⟨f, fd, _, ok_pure F sc_moved (by decide) (fun cdv A outer s H E hr => by
      have nd := sc_moved.nd
      have hu := hr.units
      unfold B_moved
      exact (pds_one (pds_ret (pd_tup (pda_cons (pd_bin p2_add (pd_ix (pd_v 0) pd_int) (pd_ix (pd_gdic m_MOVES (pd_v 1)) pd_int)) (pda_cons (pd_bin p2_add (pd_ix (pd_v 0) pd_int) (pd_ix (pd_gdic m_MOVES (pd_v 1)) pd_int)) pda_nil)))))), gf, F.kp, (F.bindsN fun _ _ _ _ _ _ us hl => match us, hl with | [_, _], _ => rfl)⟩⟩
theorem sc_walked : FnScope ["cell", "walk", "found", "way"] ["cell", "walk"] (defScope s_walked) := ⟨rfl, rfl, rfl, by decide +kernel, rfl, by decide +kernel, by decide +kernel⟩
theorem ok_walked {f : Addr} {fd : FuncData} (F : FunD K "walked" "walked" (defArgs s_walked) (defBody s_walked) (defScope s_walked) [] [] f fd) (gf : mg "walked" = some (.ref f)) (c_moved : Callee P w K mg base "moved" 1 (spP K mg 2 F_moved)) : Callee P w K mg base "walked" 2 (spP K mg 2 F_walked) := ⟨⟨f, fd, _, ok_pure F sc_walked (by decide) (fun cdv A outer s H E hr => by
      have nd := sc_walked.nd
      have hu := hr.units
      unfold B_walked
      exact (pds_cons (pds_set 2 (pd_o (pdo_lst (pda_cons (pd_v 0) pda_nil))) nd) (pds_cons (pds_for ownX rfl (pdi_seq (pd_v 1)) (pdg_name 3 nd) (pds_one (pds_set 2 (pd_bin p2_add (pd_v 2) (pd_o (pdo_lst (pda_cons (pd_call c_moved (hr.mono (by omega)) passX (pda_cons (pd_ix (pd_v 2) (pd_un p1_neg pd_int)) (pda_cons (pd_v 3) pda_nil))) pda_nil)))) nd))) (pds_one (pds_ret (pd_v 2)))))), gf, F.kp, (F.bindsN fun _ _ _ _ _ _ us hl => match us, hl with | [_, _], _ => rfl)⟩⟩
theorem sc_is_walk_from : FnScope ["atlas", "cell", "walk", "here", "way"] ["atlas", "cell", "walk"] (defScope s_is_walk_from) := ⟨rfl, rfl, rfl, by decide +kernel, rfl, by decide +kernel, by decide +kernel⟩
theorem ok_is_walk_from {f : Addr} {fd : FuncData} (F : FunD K "is_walk_from" "is_walk_from" (defArgs s_is_walk_from) (defBody s_is_walk_from) (defScope s_is_walk_from) [] [] f fd) (gf : mg "is_walk_from" = some (.ref f)) (c_is_cell : Callee P w K mg base "is_cell" 2 (spP K mg 3 F_is_cell)) (c_walked : Callee P w K mg base "walked" 2 (spP K mg 2 F_walked)) (g_MOST_STEPS : ∃ t, mg "MOST_STEPS" = some (.int 60 t)) (g_WAYS : ∃ t, mg "WAYS" = some (.str "nesw" t)) (n_all : mg "all" = none) (n_isinstance : mg "isinstance" = none) (n_len : mg "len" = none) (n_str : mg "str" = none) : Callee P w K mg base "is_walk_from" 3 (spP K mg 3 F_is_walk_from) := ⟨⟨f, fd, _, ok_pure F sc_is_walk_from (by decide) (fun cdv A outer s H E hr => by
      have nd := sc_is_walk_from.nd
      have hu := hr.units
      unfold B_is_walk_from
      exact (pds_cons (pds_if (pdt_w (pdw_or (pdt_not (pdt_v (pd_isi isi_str (by rfl) n_isinstance (by rfl) n_str (by decide +kernel) (pd_v 2)))) (pdw_or (pdt_cmp (p2_gt hu) (pd_callB pl_len (by rfl) n_len (by decide +kernel) (pda_cons (pd_v 2) pda_nil)) (pd_gint (by rfl) g_MOST_STEPS)) (pdw_or1 (pdt_not (pdt_v (pd_callB (pl_all rfl) (by rfl) n_all (by decide +kernel) (pda_cons (pd_o (pdo_lc rfl nd (pdi_seq (pd_v 2)) (blkOk_by (own := [("way", 4)]) (by kernel_rfl)) (fun _ _ _ _ _ => (pdg_name 4 nd)) (by decide) (fun _ _ _ _ _ => pdts_nil) (fun _ _ _ _ _ => (pd_cmp (p2_in hu) (pd_v 4) (pd_gstr (by rfl) g_WAYS))))) pda_nil)))))))) (pds_one (pds_ret pd_bl)) pds_nil) (pds_one (pds_ret (pd_callB (pl_all rfl) (by rfl) n_all (by decide +kernel) (pda_cons (pd_o (pdo_lc rfl nd (pdi_seq (pd_call c_walked (hr.mono (by omega)) passX (pda_cons (pd_v 1) (pda_cons (pd_v 2) pda_nil)))) (blkOk_by (own := [("here", 3)]) (by kernel_rfl)) (fun _ _ _ _ _ => (pdg_name 3 nd)) (by decide) (fun _ _ _ _ _ => pdts_nil) (fun _ _ _ _ _ => (pd_call c_is_cell (hr.mono (by omega)) passN (pda_cons (pd_v 0) (pda_cons (pd_ix (pd_v 3) pd_int) (pda_cons (pd_ix (pd_v 3) pd_int) pda_nil))))))) pda_nil)))))), gf, F.kp, (F.bindsN fun _ _ _ _ _ _ us hl => match us, hl with | [_, _, _], _ => rfl)⟩⟩
theorem sc_need_atlas : FnScope ["value"] ["value"] (defScope s_need_atlas) := ⟨rfl, rfl, rfl, by decide +kernel, rfl, by decide +kernel, by decide +kernel⟩
theorem ok_need_atlas {f : Addr} {fd : FuncData} (F : FunD K "need_atlas" "need_atlas" (defArgs s_need_atlas) (defBody s_need_atlas) (defScope s_need_atlas) [] [] f fd) (gf : mg "need_atlas" = some (.ref f)) (c_is_atlas_value : Callee P w K mg base "is_atlas_value" 3 (spP K mg 1 F_is_atlas_value)) (x_InvalidAtlas : ExcC K mg "InvalidAtlas") : Callee P w K mg base "need_atlas" 4 (spP K mg 1 F_need_atlas) := ⟨⟨f, fd, _, ok_pure F sc_need_atlas (by decide) (fun cdv A outer s H E hr => by
      have nd := sc_need_atlas.nd
      have hu := hr.units
      unfold B_need_atlas
      exact (pds_one (pds_if (pdt_not (pdt_v (pd_call c_is_atlas_value (hr.mono (by omega)) passX (pda_cons (pd_v 0) pda_nil)))) (pds_one (pds_raise x_InvalidAtlas rfl takesX)) pds_nil))), gf, F.kp, (F.bindsN fun _ _ _ _ _ _ us hl => match us, hl with | [_], _ => rfl)⟩⟩
theorem sc_need_cell : FnScope ["atlas", "x", "y"] ["atlas", "x", "y"] (defScope s_need_cell) := ⟨rfl, rfl, rfl, by decide +kernel, rfl, by decide +kernel, by decide +kernel⟩
theorem ok_need_cell {f : Addr} {fd : FuncData} (F : FunD K "need_cell" "need_cell" (defArgs s_need_cell) (defBody s_need_cell) (defScope s_need_cell) [] [] f fd) (gf : mg "need_cell" = some (.ref f)) (c_is_cell : Callee P w K mg base "is_cell" 2 (spP K mg 3 F_is_cell)) (x_InvalidCell : ExcC K mg "InvalidCell") : Callee P w K mg base "need_cell" 3 (spP K mg 3 F_need_cell) := ⟨⟨f, fd, _, ok_pure F sc_need_cell (by decide) (fun cdv A outer s H E hr => by
      have nd := sc_need_cell.nd
      have hu := hr.units
      unfold B_need_cell
      exact (pds_one (pds_if (pdt_not (pdt_v (pd_call c_is_cell (hr.mono (by omega)) passX (pda_cons (pd_v 0) (pda_cons (pd_v 1) (pda_cons (pd_v 2) pda_nil)))))) (pds_one (pds_raise x_InvalidCell rfl takesX)) pds_nil))), gf, F.kp, (F.bindsN fun _ _ _ _ _ _ us hl => match us, hl with | [_, _, _], _ => rfl)⟩⟩
theorem sc_need_walk : FnScope ["atlas", "cell", "walk"] ["atlas", "cell", "walk"] (defScope s_need_walk) := ⟨rfl, rfl, rfl, by decide +kernel, rfl, by decide +kernel, by decide +kernel⟩
theorem ok_need_walk {f : Addr} {fd : FuncData} (F : FunD K "need_walk" "need_walk" (defArgs s_need_walk) (defBody s_need_walk) (defScope s_need_walk) [] [] f fd) (gf : mg "need_walk" = some (.ref f)) (c_is_walk_from : Callee P w K mg base "is_walk_from" 3 (spP K mg 3 F_is_walk_from)) (x_InvalidWalk : ExcC K mg "InvalidWalk") : Callee P w K mg base "need_walk" 4 (spP K mg 3 F_need_walk) := ⟨⟨f, fd, _, ok_pure F sc_need_walk (by decide) (fun cdv A outer s H E hr => by
      have nd := sc_need_walk.nd
      have hu := hr.units
      unfold B_need_walk
      exact (pds_one (pds_if (pdt_not (pdt_v (pd_call c_is_walk_from (hr.mono (by omega)) passX (pda_cons (pd_v 0) (pda_cons (pd_v 1) (pda_cons (pd_v 2) pda_nil)))))) (pds_one (pds_raise x_InvalidWalk rfl takesX)) pds_nil))), gf, F.kp, (F.bindsN fun _ _ _ _ _ _ us hl => match us, hl with | [_, _, _], _ => rfl)⟩⟩
theorem sc_is_atlas : FnScope ["value"] ["value"] (defScope s_is_atlas) := ⟨rfl, rfl, rfl, by decide +kernel, rfl, by decide +kernel, by decide +kernel⟩
theorem ok_is_atlas {f : Addr} {fd : FuncData} (F : FunD K "is_atlas" "is_atlas" (defArgs s_is_atlas) (defBody s_is_atlas) (defScope s_is_atlas) [] [] f fd) (gf : mg "is_atlas" = some (.ref f)) (c_is_atlas_value : Callee P w K mg base "is_atlas_value" 3 (spP K mg 1 F_is_atlas_value)) : Callee P w K mg base "is_atlas" 4 (spP K mg 1 F_is_atlas) := ⟨⟨f, fd, _, ok_pure F sc_is_atlas (by decide) (fun cdv A outer s H E hr => by
      have nd := sc_is_atlas.nd
      have hu := hr.units
      unfold B_is_atlas
      exact (pds_one (pds_ret (pd_call c_is_atlas_value (hr.mono (by omega)) passX (pda_cons (pd_v 0) pda_nil))))), gf, F.kp, (F.bindsN fun _ _ _ _ _ _ us hl => match us, hl with | [_], _ => rfl)⟩⟩
theorem sc_pages_at : FnScope ["atlas", "x", "y"] ["atlas", "x", "y"] (defScope s_pages_at) := ⟨rfl, rfl, rfl, by decide +kernel, rfl, by decide +kernel, by decide +kernel⟩
theorem ok_pages_at {f : Addr} {fd : FuncData} (F : FunD K "pages_at" "pages_at" (defArgs s_pages_at) (defBody s_pages_at) (defScope s_pages_at) [] [] f fd) (gf : mg "pages_at" = some (.ref f)) (c_need_atlas : Callee P w K mg base "need_atlas" 4 (spP K mg 1 F_need_atlas)) (c_need_cell : Callee P w K mg base "need_cell" 3 (spP K mg 3 F_need_cell)) (c_pages_of : Callee P w K mg base "pages_of" 2 (spP K mg 2 F_pages_of)) : Callee P w K mg base "pages_at" 5 (spP K mg 3 F_pages_at) := ⟨⟨f, fd, _, ok_pure F sc_pages_at (by decide) (fun cdv A outer s H E hr => by
      have nd := sc_pages_at.nd
      have hu := hr.units
      unfold B_pages_at
      exact (pds_cons (pds_expr (pd_call c_need_atlas (hr.mono (by omega)) passX (pda_cons (pd_v 0) pda_nil))) (pds_cons (pds_expr (pd_call c_need_cell (hr.mono (by omega)) passX (pda_cons (pd_v 0) (pda_cons (pd_v 1) (pda_cons (pd_v 2) pda_nil))))) (pds_one (pds_ret (pd_call c_pages_of (hr.mono (by omega)) passX (pda_cons (pd_v 0) (pda_cons (pd_tup (pda_cons (pd_v 1) (pda_cons (pd_v 2) pda_nil))) pda_nil)))))))), gf, F.kp, (F.bindsN fun _ _ _ _ _ _ us hl => match us, hl with | [_, _, _], _ => rfl)⟩⟩
theorem sc_cells_along : FnScope ["atlas", "x", "y", "walk"] ["atlas", "x", "y", "walk"] (defScope s_cells_along) := ⟨rfl, rfl, rfl, by decide +kernel, rfl, by decide +kernel, by decide +kernel⟩
theorem ok_cells_along {f : Addr} {fd : FuncData} (F : FunD K "cells_along" "cells_along" (defArgs s_cells_along) (defBody s_cells_along) (defScope s_cells_along) [] [] f fd) (gf : mg "cells_along" = some (.ref f)) (c_need_atlas : Callee P w K mg base "need_atlas" 4 (spP K mg 1 F_need_atlas)) (c_need_cell : Callee P w K mg base "need_cell" 3 (spP K mg 3 F_need_cell)) (c_need_walk : Callee P w K mg base "need_walk" 4 (spP K mg 3 F_need_walk)) (c_walked : Callee P w K mg base "walked" 2 (spP K mg 2 F_walked)) : Callee P w K mg base "cells_along" 5 (spP K mg 4 F_cells_along) := ⟨⟨f, fd, _, ok_pure F sc_cells_along (by decide) (fun cdv A outer s H E hr => by
      have nd := sc_cells_along.nd
      have hu := hr.units
      unfold B_cells_along
      exact (pds_cons (pds_expr (pd_call c_need_atlas (hr.mono (by omega)) passX (pda_cons (pd_v 0) pda_nil))) (pds_cons (pds_expr (pd_call c_need_cell (hr.mono (by omega)) passX (pda_cons (pd_v 0) (pda_cons (pd_v 1) (pda_cons (pd_v 2) pda_nil))))) (pds_cons (pds_expr (pd_call c_need_walk (hr.mono (by omega)) passX (pda_cons (pd_v 0) (pda_cons (pd_tup (pda_cons (pd_v 1) (pda_cons (pd_v 2) pda_nil))) (pda_cons (pd_v 3) pda_nil))))) (pds_one (pds_ret (pd_call c_walked (hr.mono (by omega)) passX (pda_cons (pd_tup (pda_cons (pd_v 1) (pda_cons (pd_v 2) pda_nil))) (pda_cons (pd_v 3) pda_nil))))))))), gf, F.kp, (F.bindsN fun _ _ _ _ _ _ us hl => match us, hl with | [_, _, _, _], _ => rfl)⟩⟩
theorem sc__law_deck : FnScope ["cell", "turn"] ["cell", "turn"] (defScope s__law_deck) := ⟨rfl, rfl, rfl, by decide +kernel, rfl, by decide +kernel, by decide +kernel⟩
theorem ok__law_deck {f : Addr} {fd : FuncData} (F : FunD K "_law_deck" "_law_deck" (defArgs s__law_deck) (defBody s__law_deck) (defScope s__law_deck) [] [] f fd) (gf : mg "_law_deck" = some (.ref f))  : Callee P w K mg base "_law_deck" 1 (spO K mg 2 F__law_deck) := ⟨⟨f, fd, _, ok_own F sc__law_deck (by decide) (fun cdv A outer s H E hr => by
      have nd := sc__law_deck.nd
      have hu := hr.units
      unfold B__law_deck
      exact (pds_cons (pds_if (pdt_cmp (p2_ge hu) (pd_v 0) (pd_bin p2_pow pd_int pd_int)) (pds_one (pds_retO (pdo_lst (pda_cons (pd_bin p2_sub (pd_v 0) (pd_bin p2_pow pd_int pd_int)) (pda_cons (pd_bin p2_mod (pd_v 0) pd_int) (pda_cons (pd_v 1) pda_nil)))))) pds_nil) (pds_one (pds_retO (pdo_lst (pda_cons pd_int (pda_cons (pd_bin p2_mod (pd_v 0) pd_int) (pda_cons (pd_v 1) pda_nil)))))))), gf, F.kp, (F.bindsN fun _ _ _ _ _ _ us hl => match us, hl with | [_, _], _ => rfl)⟩⟩
theorem sc__law_pick : FnScope ["deck", "size", "number", "found"] ["deck", "size"] (defScope s__law_pick) := ⟨rfl, rfl, rfl, by decide +kernel, rfl, by decide +kernel, by decide +kernel⟩
theorem ok__law_pick {f : Addr} {fd : FuncData} (F : FunD K "_law_pick" "_law_pick" (defArgs s__law_pick) (defBody s__law_pick) (defScope s__law_pick) [] [] f fd) (gf : mg "_law_pick" = some (.ref f)) (n_int : mg "int" = none) : Callee P w K mg base "_law_pick" 1 (spB K 1 F__law_pick) := ⟨⟨f, fd, _, ok_bor F sc__law_pick (by decide) 1 rfl (fun cdv A outer s H E hr => by
      have nd := sc__law_pick.nd
      have hu := hr.units
      unfold B__law_pick
      exact (pds_cons (pds_if (pdt_cmp (p2_gt hu) (pd_oix 0 pd_int) pd_int) (pds_cons (pds_set 3 (pd_bin p2_mod (pd_callTy pl_int (by rfl) n_int (by decide +kernel) (pda_cons (pd_oix 0 pd_int) pda_nil)) (pd_v 1)) nd) (pds_cons (pds_store 0 (pd_bin p2_fdiv (pd_oix 0 pd_int) (pd_v 1)) pd_int) (pds_one (pds_ret (pd_v 3))))) pds_nil) (pds_cons (pds_store 0 (pd_bin p2_add (pd_oix 0 pd_int) pd_int) pd_int) (pds_cons (pds_set 2 (pd_bin p2_mod (pd_bin p2_pow (pd_bin p2_add (pd_oix 0 pd_int) (pd_bin p2_mul pd_int (pd_oix 0 pd_int))) pd_int) pd_int) nd) (pds_cons (pds_set 3 (pd_bin p2_fdiv (pd_bin p2_mod (pd_bin p2_pow (pd_bin p2_add (pd_v 2) (pd_bin p2_mul pd_int (pd_oix 0 pd_int))) pd_int) pd_int) pd_int) nd) (pds_one (pds_ret (pd_bin p2_mod (pd_callTy pl_int (by rfl) n_int (by decide +kernel) (pda_cons (pd_v 3) pda_nil)) (pd_v 1))))))))), gf, F.kp, (F.bindsN fun _ _ _ _ _ _ us hl => match us, hl with | [_, _], _ => rfl)⟩⟩
theorem sc__law_whole : FnScope ["thing"] ["thing"] (defScope s__law_whole) := ⟨rfl, rfl, rfl, by decide +kernel, rfl, by decide +kernel, by decide +kernel⟩
theorem ok__law_whole {f : Addr} {fd : FuncData} (F : FunD K "_law_whole" "_law_whole" (defArgs s__law_whole) (defBody s__law_whole) (defScope s__law_whole) [] [] f fd) (gf : mg "_law_whole" = some (.ref f)) (n_bool : mg "bool" = none) (n_int : mg "int" = none) (n_isinstance : mg "isinstance" = none) : Callee P w K mg base "_law_whole" 1 (spP K mg 1 F__law_whole) := ⟨⟨f, fd, _, ok_pure F sc__law_whole (by decide) (fun cdv A outer s H E hr => by
      have nd := sc__law_whole.nd
      have hu := hr.units
      unfold B__law_whole
      exact (pds_one (pds_ret (pd_and (pd_isi isi_int (by rfl) n_isinstance (by rfl) n_int (by decide +kernel) (pd_v 0)) (pd_and1 (pd_not (pd_isi isi_bool (by rfl) n_isinstance (by rfl) n_bool (by decide +kernel) (pd_v 0)))))))), gf, F.kp, (F.bindsN fun _ _ _ _ _ _ us hl => match us, hl with | [_], _ => rfl)⟩⟩
theorem sc__law_one : FnScope ["deck", "some"] ["deck", "some"] (defScope s__law_one) := ⟨rfl, rfl, rfl, by decide +kernel, rfl, by decide +kernel, by decide +kernel⟩
theorem ok__law_one {f : Addr} {fd : FuncData} (F : FunD K "_law_one" "_law_one" (defArgs s__law_one) (defBody s__law_one) (defScope s__law_one) [] [] f fd) (gf : mg "_law_one" = some (.ref f)) (c__law_pick : Callee P w K mg base "_law_pick" 1 (spB K 1 F__law_pick)) (n_len : mg "len" = none) : Callee P w K mg base "_law_one" 2 (spB K 1 F__law_one) := ⟨⟨f, fd, _, ok_bor F sc__law_one (by decide) 1 rfl (fun cdv A outer s H E hr => by
      have nd := sc__law_one.nd
      have hu := hr.units
      unfold B__law_one
      exact (pds_one (pds_ret (pd_ix (pd_v 1) (pd_callO 0 c__law_pick (hr.mono (by omega)) passX (pda_cons (pd_callB pl_len (by rfl) n_len (by decide +kernel) (pda_cons (pd_v 1) pda_nil)) pda_nil)))))), gf, F.kp, (F.bindsN fun _ _ _ _ _ _ us hl => match us, hl with | [_, _], _ => rfl)⟩⟩
theorem sc__law_sort : FnScope ["thing"] ["thing"] (defScope s__law_sort) := ⟨rfl, rfl, rfl, by decide +kernel, rfl, by decide +kernel, by decide +kernel⟩
theorem ok__law_sort {f : Addr} {fd : FuncData} (F : FunD K "_law_sort" "_law_sort" (defArgs s__law_sort) (defBody s__law_sort) (defScope s__law_sort) [] [] f fd) (gf : mg "_law_sort" = some (.ref f)) (n_bool : mg "bool" = none) (n_int : mg "int" = none) (n_isinstance : mg "isinstance" = none) (n_list : mg "list" = none) (n_str : mg "str" = none) (n_tuple : mg "tuple" = none) : Callee P w K mg base "_law_sort" 1 (spP K mg 1 F__law_sort) := ⟨⟨f, fd, _, ok_pure F sc__law_sort (by decide) (fun cdv A outer s H E hr => by
      have nd := sc__law_sort.nd
      have hu := hr.units
      unfold B__law_sort
      exact (pds_cons (pds_if (pdt_v (pd_isi isi_bool (by rfl) n_isinstance (by rfl) n_bool (by decide +kernel) (pd_v 0))) (pds_one (pds_ret pd_int)) pds_nil) (pds_cons (pds_if (pdt_v (pd_isi isi_int (by rfl) n_isinstance (by rfl) n_int (by decide +kernel) (pd_v 0))) (pds_one (pds_ret pd_int)) pds_nil) (pds_cons (pds_if (pdt_v (pd_isi isi_str (by rfl) n_isinstance (by rfl) n_str (by decide +kernel) (pd_v 0))) (pds_one (pds_ret pd_int)) pds_nil) (pds_cons (pds_if (pdt_v (pd_isi isi_list (by rfl) n_isinstance (by rfl) n_list (by decide +kernel) (pd_v 0))) (pds_one (pds_ret pd_int)) pds_nil) (pds_one (pds_ret (pd_if (pdt_v (pd_isi isi_tuple (by rfl) n_isinstance (by rfl) n_tuple (by decide +kernel) (pd_v 0))) pd_int pd_int)))))))), gf, F.kp, (F.bindsN fun _ _ _ _ _ _ us hl => match us, hl with | [_], _ => rfl)⟩⟩
theorem sc__law_same : FnScope ["told", "due", "k", "part"] ["told", "due"] (defScope s__law_same) := ⟨rfl, rfl, rfl, by decide +kernel, rfl, by decide +kernel, by decide +kernel⟩
theorem ok__law_same {f : Addr} {fd : FuncData} (F : FunD K "_law_same" "_law_same" (defArgs s__law_same) (defBody s__law_same) (defScope s__law_same) [] [] f fd) (gf : mg "_law_same" = some (.ref f)) (c__law_sort : Callee P w K mg base "_law_sort" 1 (spP K mg 1 F__law_sort)) (n_enumerate : mg "enumerate" = none) (n_len : mg "len" = none) : ∀ n : Nat, Callee P w K mg base "_law_same" (2 + n) (spP K mg 2 (F__law_same n))
  | 0 => ⟨⟨f, fd, _, ok_bad F sc__law_same 2 rfl, gf, F.kp, (F.bindsN fun _ _ _ _ _ _ us hl => match us, hl with | [_, _], _ => rfl)⟩⟩
  | n + 1 => ⟨⟨f, fd, _, ok_pure (k := 2 + n) (fb := B__law_same (F__law_same n)) F sc__law_same (by decide) (fun cdv A outer s H E hr => by
      have nd := sc__law_same.nd
      have hu := hr.units
      have IH := ok__law_same F gf c__law_sort n_enumerate n_len n
      unfold B__law_same
      exact (pds_cons (pds_if (pdt_cmp (p2_ne hu) (pd_call c__law_sort (hr.mono (by omega)) passX (pda_cons (pd_v 0) pda_nil)) (pd_call c__law_sort (hr.mono (by omega)) passX (pda_cons (pd_v 1) pda_nil))) (pds_one (pds_ret pd_bl)) pds_nil) (pds_cons (pds_if (pdt_w (pdw_and (pdt_cmp (p2_gt hu) (pd_call c__law_sort (hr.mono (by omega)) passX (pda_cons (pd_v 0) pda_nil)) pd_int) (pdw_and1 (pdt_cmp (p2_lt hu) (pd_call c__law_sort (hr.mono (by omega)) passX (pda_cons (pd_v 0) pda_nil)) pd_int)))) (pds_cons (pds_if (pdt_cmp (p2_ne hu) (pd_callB pl_len (by rfl) n_len (by decide +kernel) (pda_cons (pd_v 0) pda_nil)) (pd_callB pl_len (by rfl) n_len (by decide +kernel) (pda_cons (pd_v 1) pda_nil))) (pds_one (pds_ret pd_bl)) pds_nil) (pds_one (pds_ret (pd_cmp (p2_eq hu) (pd_o (pdo_lc rfl nd (pdi_enum (pd_v 0) n_enumerate) (blkOk_by (own := [("k", 2), ("part", 3)]) (by kernel_rfl)) (fun _ _ _ _ _ => (pdg_tup rfl (pdgs_cons (pdg_name 2 nd) (pdgs_cons (pdg_name 3 nd) pdgs_nil)))) (by decide) (fun _ _ _ _ _ => (pdts_one (pdt_not (pdt_v (pd_call IH hr passN (pda_cons (pd_v 3) (pda_cons (pd_ix (pd_v 1) (pd_v 2)) pda_nil))))))) (fun _ _ _ _ _ => (pd_v 2)))) (pd_o (pdo_lst pda_nil)))))) pds_nil) (pds_one (pds_ret (pd_cmp (p2_eq hu) (pd_v 0) (pd_v 1))))))), gf, F.kp, (F.bindsN fun _ _ _ _ _ _ us hl => match us, hl with | [_, _], _ => rfl)⟩⟩
theorem sc__law_kin : FnScope ["e", "kinds_met", "names", "name", "good"] ["e"] (defScope s__law_kin) := ⟨rfl, rfl, rfl, by decide +kernel, rfl, by decide +kernel, by decide +kernel⟩
abbrev kinX (P : Program) (w : World) (K : PySem.W.Frag) (mg : Str → Option Value) (base : Heap) (f : Addr) (cdv : Value) (A : Around) (outer : List Env) (s : Shared) (H : Hp) (a : Addr) : Cx := hotCx P w K mg base ["e", "kinds_met", "names", "name", "good"] "_law_kin" (defScope s__law_kin) f cdv A outer s H a
theorem ok__law_kin {f : Addr} {fd : FuncData} (D : FunD K "_law_kin" "_law_kin" (defArgs s__law_kin) (defBody s__law_kin) (defScope s__law_kin) [] [] f fd) (gf : mg "_law_kin" = some (.ref f)) (hi : mg "isinstance" = none) (hz : mg "zip" = none) (hv : mg "ValueError" = none) (hc : ∀ x ∈ excNames, ∃ c, mg x = some (.ref c)) : KinOk P w K mg base "_law_kin" (kinC K mg) := by
  refine ⟨⟨f, fd, "e", gf, D.kp, D.bindsN fun _ _ _ _ _ _ us hl => (match us, hl with | [_], _ => rfl), fun A outer s H args us a C bs d Q kc hr ha ke e0 hb r q => ?_⟩⟩
  obtain ⟨b0, b1, b2, b3, b4, b5, b6, b7, b8, b9, b10, b11, b12, b13, rfl, k0, k1, k2, k3, k4, k5, k6, k7, k8, k9, k10, k11, k12, k13⟩ := kc
  obtain ⟨c0, m0⟩ := hc "InvalidAtlas" (by decide +kernel)
  obtain ⟨c1, m1⟩ := hc "InvalidCell" (by decide +kernel)
  obtain ⟨c2, m2⟩ := hc "InvalidWalk" (by decide +kernel)
  obtain ⟨c3, m3⟩ := hc "InvalidRule" (by decide +kernel)
  obtain ⟨c4, m4⟩ := hc "InvalidPage" (by decide +kernel)
  obtain ⟨c5, m5⟩ := hc "InvalidNumber" (by decide +kernel)
  obtain ⟨c6, m6⟩ := hc "InvalidShare" (by decide +kernel)
  obtain ⟨c7, m7⟩ := hc "InvalidTable" (by decide +kernel)
  obtain ⟨c8, m8⟩ := hc "InvalidHeard" (by decide +kernel)
  obtain ⟨c9, m9⟩ := hc "Unlike" (by decide +kernel)
  obtain ⟨c10, m10⟩ := hc "NothingToUndo" (by decide +kernel)
  obtain ⟨c11, m11⟩ := hc "TooMany" (by decide +kernel)
  obtain ⟨c12, m12⟩ := hc "InvalidText" (by decide +kernel)
  have nd := sc__law_kin.nd
  refine run_hot D sc__law_kin hr ha e0 hb r rfl fun cdv => ?_
  have is (x : Str) (c : Addr) (p1 p2 p3 p4 : Pos) (hx : Gl (kinX P w K mg base f cdv A outer s H a) x) (hd : (x == ("__debug__" : Str)) = false) (mx : mg x = some (.ref c)) : PE (kinX P w K mg base f cdv A outer s H a) (.Call (.Name "isinstance" p1) [.Name "e" p2, .Name x p3] [] p4) (tIsX K (.ref c)) :=
    pe_isC rfl (by first | exact Or.inl rfl | exact Or.inr (Or.inl rfl)) (by rfl) hi hx mx hd (by decide) (by decide)
  refine ⟨_, kin_run (X := kinX P w K mg base f cdv A outer s H a) (a := a) (C := C) (d := d)
    (ks_one nd rfl (by first | exact Or.inl rfl | exact Or.inr rfl) (kl3 (is _ c0 _ _ _ _ (by rfl) (by decide) m0) (is _ c1 _ _ _ _ (by rfl) (by decide) m1) (is _ c2 _ _ _ _ (by rfl) (by decide) m2) (k0 _ m0) (k1 _ m1) (k2 _ m2)))
    (ks_more nd rfl (by first | exact Or.inl rfl | exact Or.inr rfl) (kl3 (is _ c3 _ _ _ _ (by rfl) (by decide) m3) (is _ c4 _ _ _ _ (by rfl) (by decide) m4) (is _ c5 _ _ _ _ (by rfl) (by decide) m5) (k3 _ m3) (k4 _ m4) (k5 _ m5)) (by first | exact Or.inl rfl | exact Or.inr (Or.inl rfl)) (by decide) (by decide))
    (ks_more nd rfl (by first | exact Or.inl rfl | exact Or.inr rfl) (kl3 (is _ c6 _ _ _ _ (by rfl) (by decide) m6) (is _ c7 _ _ _ _ (by rfl) (by decide) m7) (is _ c8 _ _ _ _ (by rfl) (by decide) m8) (k6 _ m6) (k7 _ m7) (k8 _ m8)) (by first | exact Or.inl rfl | exact Or.inr (Or.inl rfl)) (by decide) (by decide))
    (ks_more nd rfl (by first | exact Or.inl rfl | exact Or.inr rfl) (kl3 (is _ c9 _ _ _ _ (by rfl) (by decide) m9) (is _ c10 _ _ _ _ (by rfl) (by decide) m10) (is _ c11 _ _ _ _ (by rfl) (by decide) m11) (k9 _ m9) (k10 _ m10) (k11 _ m11)) (by first | exact Or.inl rfl | exact Or.inr (Or.inl rfl)) (by decide) (by decide))
    (ks_more nd rfl (by first | exact Or.inl rfl | exact Or.inr rfl) (kl2 (is _ c12 _ _ _ _ (by rfl) (by decide) m12) (pe_isB rfl (by first | exact Or.inl rfl | exact Or.inr (Or.inl rfl)) (by rfl) hi (by rfl) hv (by decide +kernel) (by decide) (by decide) (by decide) (by decide)) (k12 _ m12) k13) (by first | exact Or.inl rfl | exact Or.inr (Or.inl rfl)) (by decide) (by decide))
    rfl
    (ps_set (i := 2) nd (by rfl) (by first | exact Or.inl rfl | exact Or.inr rfl) pe_str)
    (ps_ret (pe_join pe_str (pick_of (pek_lc nd (pik_zip (by rfl) hz (pa_cons (pe_split (pv 2) pe_str) (pa_cons (pv 1) pa_nil))) (blkOk_by (own := [("name", 3), ("good", 4)]) (by kernel_rfl)) (fun _ _ _ _ _ => pgk_tup (pgs_cons (pg_name (i := 3) nd (by rfl) (by first | exact Or.inl rfl | exact Or.inr rfl)) (pgs_cons (pg_name (i := 4) nd (by rfl) (by first | exact Or.inl rfl | exact Or.inr rfl)) pgs_nil))) (fun _ _ _ _ _ => pts_one (pt_val (pv 4))) (fun _ _ _ _ _ => pv 3))))), ?_⟩
  exact ⟨⟨rfl, rfl, ke, rfl⟩, fun H' s => q H' s⟩
theorem sc__law_try : FnScope ["door", "found", "e"] ["door"] (defScope s__law_try) := ⟨rfl, rfl, rfl, by decide +kernel, rfl, by decide +kernel, by decide +kernel⟩
theorem ok__law_try {f CT CI CA : Addr} {fd : FuncData} (D : FunD K "_law_try" "_law_try" (defArgs s__law_try) (defBody s__law_try) (defScope s__law_try) [] [] f fd) (gf : mg "_law_try" = some (.ref f)) (kin : KinOk P w K mg base "_law_kin" (kinC K mg)) (kf : KinF K mg (kinC K mg) CT CI CA) (hT : mg "TooMany" = some (.ref CT)) (hI : mg "InvalidText" = some (.ref CI)) (hA : mg "AtlasError" = some (.ref CA)) : TryOk P w K mg base "_law_try" := by
  have b : Binds K fd ["door"] [] := D.bindsN fun _ _ _ _ _ _ us hl => match us, hl with | [_], _ => rfl
  obtain ⟨oc, od, dV, kV, doc, pm, an, cdv, ct, osl, rfl, lk, hcd, _, _⟩ := D.ex
  refine ⟨⟨_, CT, CI, CA, f, _, _, _, dV, kV, doc, pm, cdv, ct, oc, an, od, osl, ["door", "found", "e"], kf, gf, D.kp, lk, hcd, b, sc__law_try, rfl, (by first | exact Or.inl rfl | exact Or.inr (Or.inl rfl)), fun X q e1 e2 e3 e4 e5 hr => ?_⟩⟩
  subst e1 e2 e3 e4 e5
  exact try_def (kn := "_law_kin") (cT := "TooMany") (cX := "InvalidText") (cA := "AtlasError")
    (fun s H => ⟨sc__law_try.nd, rfl, rfl, rfl, (by first | exact Or.inl rfl | exact Or.inr rfl), (by first | exact Or.inl rfl | exact Or.inr (Or.inl rfl)), (by first | exact Or.inl rfl | exact Or.inr (Or.inl rfl)), rfl, (by first | exact .inl rfl | exact .inr rfl), rfl, ⟨rfl, by decide, .inl hT⟩, ⟨rfl, by decide, .inl hI⟩, ⟨rfl, by decide, .inl hA⟩, by decide⟩) kin
    (fun s => have r := hr.deeper (PyProof.Rows.envOfC "_law_try" (defScope s__law_try) s.heap.objs.size f cdv); ⟨r.dp, r.un⟩) rfl
theorem sc__law_bands : FnScope ["deck", "size", "many", "turn", "cuts", "k", "found", "low", "high"] ["deck", "size", "many"] (defScope s__law_bands) := ⟨rfl, rfl, rfl, by decide +kernel, rfl, by decide +kernel, by decide +kernel⟩
theorem ok__law_bands {f : Addr} {fd : FuncData} (F : FunD K "_law_bands" "_law_bands" (defArgs s__law_bands) (defBody s__law_bands) (defScope s__law_bands) [] [] f fd) (gf : mg "_law_bands" = some (.ref f)) (c__law_one : Callee P w K mg base "_law_one" 2 (spB K 1 F__law_one)) (c__law_pick : Callee P w K mg base "_law_pick" 1 (spB K 1 F__law_pick)) (n_len : mg "len" = none) (n_max : mg "max" = none) (n_min : mg "min" = none) (n_range : mg "range" = none) (n_set : mg "set" = none) (n_sorted : mg "sorted" = none) : Callee P w K mg base "_law_bands" 3 (spB K 2 F__law_bands) := ⟨⟨f, fd, _, ok_bor F sc__law_bands (by decide) 2 rfl (fun cdv A outer s H E hr => by
      have nd := sc__law_bands.nd
      have hu := hr.units
      unfold B__law_bands
      exact (pds_cons (pds_par2 4 6 (pdm_ow (pdo_lst (pda_cons pd_int (pda_cons (pd_v 1) pda_nil))) (pdm_ow (pdo_lst pda_nil) pdm_nil)) rfl nd) (pds_cons (pds_for ownX rfl (pdi_rng1 (pd_callO 0 c__law_pick (hr.mono (by omega)) passX (pda_cons (pd_v 2) pda_nil)) (by rfl) n_range) (pdg_name 3 nd) (pds_one (pds_app 4 (pd_callO 0 c__law_pick (hr.mono (by omega)) passX (pda_cons (pd_bin p2_add (pd_v 1) pd_int) pda_nil))))) (pds_cons (pds_setO 4 (pdo_sortSet (pd_v 4) rfl n_sorted n_set) nd) (pds_cons (pds_for ownX rfl (pdi_rng1 (pd_bin p2_sub (pd_look (pd_callB pl_len (by rfl) n_len (by decide +kernel) (pda_cons (pd_v 4) pda_nil))) pd_int) (by rfl) n_range) (pdg_name 5 nd) (pds_cons (pds_set 7 (pd_callB (pl_max2 rfl) (by rfl) n_max (by decide +kernel) (pda_cons pd_int (pda_cons (pd_bin p2_sub (pd_oix 4 (pd_v 5)) (pd_callO 0 c__law_one (hr.mono (by omega)) passX (pda_cons (pd_o (pdo_lst (pda_cons pd_int (pda_cons pd_int (pda_cons pd_int (pda_cons pd_int pda_nil)))))) pda_nil))) pda_nil))) nd) (pds_cons (pds_set 8 (pd_callB (pl_min2 rfl) (by rfl) n_min (by decide +kernel) (pda_cons (pd_v 1) (pda_cons (pd_bin p2_add (pd_oix 4 (pd_bin p2_add (pd_v 5) pd_int)) (pd_callO 0 c__law_one (hr.mono (by omega)) passX (pda_cons (pd_o (pdo_lst (pda_cons pd_int (pda_cons pd_int (pda_cons pd_int (pda_cons pd_int pda_nil)))))) pda_nil))) pda_nil))) nd) (pds_one (pds_app 6 (pd_tup (pda_cons (pd_v 7) (pda_cons (pd_bin p2_sub (pd_v 8) (pd_v 7)) pda_nil)))))))) (pds_one (pds_ret (pd_v 6)))))))), gf, F.kp, (F.bindsN fun _ _ _ _ _ _ us hl => match us, hl with | [_, _, _], _ => rfl)⟩⟩
theorem sc__law_mixed : FnScope ["deck", "some", "left", "found"] ["deck", "some"] (defScope s__law_mixed) := ⟨rfl, rfl, rfl, by decide +kernel, rfl, by decide +kernel, by decide +kernel⟩
theorem ok__law_mixed {f : Addr} {fd : FuncData} (F : FunD K "_law_mixed" "_law_mixed" (defArgs s__law_mixed) (defBody s__law_mixed) (defScope s__law_mixed) [] [] f fd) (gf : mg "_law_mixed" = some (.ref f)) (c__law_pick : Callee P w K mg base "_law_pick" 1 (spB K 1 F__law_pick)) (n_len : mg "len" = none) (n_list : mg "list" = none) : Callee P w K mg base "_law_mixed" 2 (spB K 1 F__law_mixed) := ⟨⟨f, fd, _, ok_bor F sc__law_mixed (by decide) 1 rfl (fun cdv A outer s H E hr => by
      have nd := sc__law_mixed.nd
      have hu := hr.units
      unfold B__law_mixed
      exact (pds_cons (pds_par2 2 3 (pdm_ow (pdo_callTy po_list (by rfl) n_list (by decide +kernel) (pda_cons (pd_v 1) pda_nil)) (pdm_ow (pdo_lst pda_nil) pdm_nil)) rfl nd) (pds_cons (pds_while ownX (pdt_look (pdt_cmp (p2_ne hu) (pd_v 2) (pd_o (pdo_lst pda_nil)))) (pds_one (pds_app 3 (pd_popAt 2 (pd_callO 0 c__law_pick (hr.mono (by omega)) passX (pda_cons (pd_look (pd_callB pl_len (by rfl) n_len (by decide +kernel) (pda_cons (pd_v 2) pda_nil))) pda_nil)))))) (pds_one (pds_ret (pd_v 3)))))), gf, F.kp, (F.bindsN fun _ _ _ _ _ _ us hl => match us, hl with | [_, _], _ => rfl)⟩⟩
theorem sc__law_any_page : FnScope ["deck", "width", "height", "left", "top"] ["deck", "width", "height"] (defScope s__law_any_page) := ⟨rfl, rfl, rfl, by decide +kernel, rfl, by decide +kernel, by decide +kernel⟩
theorem ok__law_any_page {f : Addr} {fd : FuncData} (F : FunD K "_law_any_page" "_law_any_page" (defArgs s__law_any_page) (defBody s__law_any_page) (defScope s__law_any_page) [] [] f fd) (gf : mg "_law_any_page" = some (.ref f)) (c__law_pick : Callee P w K mg base "_law_pick" 1 (spB K 1 F__law_pick)) : Callee P w K mg base "_law_any_page" 2 (spB K 2 F__law_any_page) := ⟨⟨f, fd, _, ok_bor F sc__law_any_page (by decide) 2 rfl (fun cdv A outer s H E hr => by
      have nd := sc__law_any_page.nd
      have hu := hr.units
      unfold B__law_any_page
      exact (pds_cons (pds_par2 3 4 (pdm_sh (pd_callO 0 c__law_pick (hr.mono (by omega)) passX (pda_cons (pd_v 1) pda_nil)) (pdm_sh (pd_callO 0 c__law_pick (hr.mono (by omega)) passX (pda_cons (pd_v 2) pda_nil)) pdm_nil)) rfl nd) (pds_one (pds_ret (pd_tup (pda_cons (pd_v 3) (pda_cons (pd_v 4) (pda_cons (pd_bin p2_add pd_int (pd_callO 0 c__law_pick (hr.mono (by omega)) passX (pda_cons (pd_bin p2_sub (pd_v 1) (pd_v 3)) pda_nil))) (pda_cons (pd_bin p2_add pd_int (pd_callO 0 c__law_pick (hr.mono (by omega)) passX (pda_cons (pd_bin p2_sub (pd_v 2) (pd_v 4)) pda_nil))) pda_nil))))))))), gf, F.kp, (F.bindsN fun _ _ _ _ _ _ us hl => match us, hl with | [_, _, _], _ => rfl)⟩⟩
theorem sc__law_drawn : FnScope ["deck", "wide", "high", "extra", "spots", "spot", "width", "height", "across", "down", "left", "much", "pages", "arrows", "turn", "top", "tall", "side"] ["deck", "wide", "high", "extra"] (defScope s__law_drawn) := ⟨rfl, rfl, rfl, by decide +kernel, rfl, by decide +kernel, by decide +kernel⟩
theorem ok__law_drawn {f : Addr} {fd : FuncData} (F : FunD K "_law_drawn" "_law_drawn" (defArgs s__law_drawn) (defBody s__law_drawn) (defScope s__law_drawn) [] [] f fd) (gf : mg "_law_drawn" = some (.ref f)) (c__law_any_page : Callee P w K mg base "_law_any_page" 2 (spB K 2 F__law_any_page)) (c__law_bands : Callee P w K mg base "_law_bands" 3 (spB K 2 F__law_bands)) (c__law_mixed : Callee P w K mg base "_law_mixed" 2 (spB K 1 F__law_mixed)) (c__law_one : Callee P w K mg base "_law_one" 2 (spB K 1 F__law_one)) (c__law_pick : Callee P w K mg base "_law_pick" 1 (spB K 1 F__law_pick)) (n_len : mg "len" = none) (n_range : mg "range" = none) (n_tuple : mg "tuple" = none) : Callee P w K mg base "_law_drawn" 4 (spB K 3 F__law_drawn) := ⟨⟨f, fd, _, ok_bor F sc__law_drawn (by decide) 3 rfl (fun cdv A outer s H E hr => by
      have nd := sc__law_drawn.nd
      have hu := hr.units
      unfold B__law_drawn
      exact (pds_cons (pds_asg (pd_tup (pda_cons (pd_bin p2_add pd_int (pd_callO 0 c__law_pick (hr.mono (by omega)) passX (pda_cons (pd_v 1) pda_nil))) (pda_cons (pd_bin p2_add pd_int (pd_callO 0 c__law_pick (hr.mono (by omega)) passX (pda_cons (pd_v 2) pda_nil))) pda_nil))) (pdg_tup rfl (pdgs_cons (pdg_name 6 nd) (pdgs_cons (pdg_name 7 nd) pdgs_nil)))) (pds_cons (pds_par2 8 9 (pdm_sh (pd_callO 0 c__law_bands (hr.mono (by omega)) passX (pda_cons (pd_v 6) (pda_cons pd_int pda_nil))) (pdm_sh (pd_callO 0 c__law_bands (hr.mono (by omega)) passX (pda_cons (pd_v 7) (pda_cons pd_int pda_nil))) pdm_nil)) rfl nd) (pds_cons (pds_set 4 (pd_o (pdo_lst pda_nil)) nd) (pds_cons (pds_for ownX rfl (pdi_seq (pd_slice (pd_v 8) pdp_none (pdp_some pd_int))) (pdg_tup rfl (pdgs_cons (pdg_name 10 nd) (pdgs_cons (pdg_name 11 nd) pdgs_nil))) (pds_one (pds_set 4 (pd_bin p2_add (pd_v 4) (pd_o (pdo_lc rfl nd (pdi_seq (pd_slice (pd_v 9) pdp_none (pdp_some pd_int))) (blkOk_by (own := [("top", 15), ("tall", 16)]) (by kernel_rfl)) (fun _ _ _ _ _ => (pdg_tup rfl (pdgs_cons (pdg_name 15 nd) (pdgs_cons (pdg_name 16 nd) pdgs_nil)))) (by decide) (fun _ _ _ _ _ => pdts_nil) (fun _ _ _ _ _ => (pd_tup (pda_cons (pd_v 10) (pda_cons (pd_v 15) (pda_cons (pd_v 11) (pda_cons (pd_v 16) pda_nil))))))))) nd))) (pds_cons (pds_if (pdt_cmp (p2_gt hu) (pd_callB pl_len (by rfl) n_len (by decide +kernel) (pda_cons (pd_v 4) pda_nil)) pd_int) (pds_one (pds_set 4 (pd_o (pdo_lc rfl nd (pdi_seq (pd_v 9)) (blkOk_by (own := [("top", 15), ("tall", 16)]) (by kernel_rfl)) (fun _ _ _ _ _ => (pdg_tup rfl (pdgs_cons (pdg_name 15 nd) (pdgs_cons (pdg_name 16 nd) pdgs_nil)))) (by decide) (fun _ _ _ _ _ => pdts_nil) (fun _ _ _ _ _ => (pd_tup (pda_cons pd_int (pda_cons (pd_v 15) (pda_cons (pd_v 6) (pda_cons (pd_v 16) pda_nil)))))))) nd)) pds_nil) (pds_cons (pds_set 4 (pd_bin p2_add (pd_v 4) (pd_o (pdo_lc rfl nd (pdi_rng1 (pd_callO 0 c__law_pick (hr.mono (by omega)) passX (pda_cons (pd_bin p2_add (pd_v 3) pd_int) pda_nil)) (by rfl) n_range) (blkOk_by (own := [("turn", 14)]) (by kernel_rfl)) (fun _ _ _ _ _ => (pdg_name 14 nd)) (by decide) (fun _ _ _ _ _ => pdts_nil) (fun _ _ _ _ _ => (pd_callO 0 c__law_any_page (hr.mono (by omega)) passN (pda_cons (pd_v 6) (pda_cons (pd_v 7) pda_nil))))))) nd) (pds_cons (pds_asg (pd_tup (pda_cons (pd_callO 0 c__law_mixed (hr.mono (by omega)) passX (pda_cons (pd_v 4) pda_nil)) (pda_cons (pd_tup pda_nil) pda_nil))) (pdg_tup rfl (pdgs_cons (pdg_name 4 nd) (pdgs_cons (pdg_name 12 nd) pdgs_nil)))) (pds_cons (pds_for ownX rfl (pdi_seq (pd_v 4)) (pdg_name 5 nd) (pds_cons (pds_set 13 (pd_callTy pl_tuple (by rfl) n_tuple (by decide +kernel) (pda_cons (pd_o (pdo_lc rfl nd (pdi_rng1 pd_int (by rfl) n_range) (blkOk_by (own := [("side", 17)]) (by kernel_rfl)) (fun _ _ _ _ _ => (pdg_name 17 nd)) (by decide) (fun _ _ _ _ _ => pdts_nil) (fun _ _ _ _ _ => (pd_callO 0 c__law_one (hr.mono (by omega)) passN (pda_cons (pd_o (pdo_lst (pda_cons pd_non (pda_cons (pd_callO 0 c__law_pick (hr.mono (by omega)) passN (pda_cons (pd_callB pl_len (by rfl) n_len (by decide +kernel) (pda_cons (pd_v 4) pda_nil)) pda_nil)) pda_nil)))) pda_nil))))) pda_nil)) nd) (pds_one (pds_set 12 (pd_bin p2_add (pd_v 12) (pd_tup (pda_cons (pd_bin p2_add (pd_v 5) (pd_tup (pda_cons (pd_v 13) pda_nil))) pda_nil))) nd)))) (pds_one (pds_ret (pd_tup (pda_cons (pd_v 6) (pda_cons (pd_v 7) (pda_cons (pd_v 12) pda_nil))))))))))))))), gf, F.kp, (F.bindsN fun _ _ _ _ _ _ us hl => match us, hl with | [_, _, _, _], _ => rfl)⟩⟩
theorem sc__law_holds : FnScope ["page", "cell", "x", "y"] ["page", "cell"] (defScope s__law_holds) := ⟨rfl, rfl, rfl, by decide +kernel, rfl, by decide +kernel, by decide +kernel⟩
theorem ok__law_holds {f : Addr} {fd : FuncData} (F : FunD K "_law_holds" "_law_holds" (defArgs s__law_holds) (defBody s__law_holds) (defScope s__law_holds) [] [] f fd) (gf : mg "_law_holds" = some (.ref f))  : Callee P w K mg base "_law_holds" 1 (spP K mg 2 F__law_holds) := ⟨⟨f, fd, _, ok_pure F sc__law_holds (by decide) (fun cdv A outer s H E hr => by
      have nd := sc__law_holds.nd
      have hu := hr.units
      unfold B__law_holds
      exact (pds_cons (pds_asg (pd_v 1) (pdg_tup rfl (pdgs_cons (pdg_name 2 nd) (pdgs_cons (pdg_name 3 nd) pdgs_nil)))) (pds_one (pds_ret (pd_and (pd_cmp (p2_le hu) (pd_ix (pd_v 0) pd_int) (pd_v 2)) (pd_and (pd_cmp (p2_lt hu) (pd_v 2) (pd_bin p2_add (pd_ix (pd_v 0) pd_int) (pd_ix (pd_v 0) pd_int))) (pd_and (pd_cmp (p2_le hu) (pd_ix (pd_v 0) pd_int) (pd_v 3)) (pd_and1 (pd_cmp (p2_lt hu) (pd_v 3) (pd_bin p2_add (pd_ix (pd_v 0) pd_int) (pd_ix (pd_v 0) pd_int))))))))))), gf, F.kp, (F.bindsN fun _ _ _ _ _ _ us hl => match us, hl with | [_, _], _ => rfl)⟩⟩
theorem sc__law_all_cells : FnScope ["atlas", "found", "y", "x"] ["atlas"] (defScope s__law_all_cells) := ⟨rfl, rfl, rfl, by decide +kernel, rfl, by decide +kernel, by decide +kernel⟩
theorem ok__law_all_cells {f : Addr} {fd : FuncData} (F : FunD K "_law_all_cells" "_law_all_cells" (defArgs s__law_all_cells) (defBody s__law_all_cells) (defScope s__law_all_cells) [] [] f fd) (gf : mg "_law_all_cells" = some (.ref f)) (n_range : mg "range" = none) : Callee P w K mg base "_law_all_cells" 1 (spP K mg 1 F__law_all_cells) := ⟨⟨f, fd, _, ok_pure F sc__law_all_cells (by decide) (fun cdv A outer s H E hr => by
      have nd := sc__law_all_cells.nd
      have hu := hr.units
      unfold B__law_all_cells
      exact (pds_cons (pds_set 1 (pd_o (pdo_lst pda_nil)) nd) (pds_cons (pds_for ownX rfl (pdi_rng1 (pd_ix (pd_v 0) pd_int) (by rfl) n_range) (pdg_name 2 nd) (pds_one (pds_set 1 (pd_bin p2_add (pd_v 1) (pd_o (pdo_lc rfl nd (pdi_rng1 (pd_ix (pd_v 0) pd_int) (by rfl) n_range) (blkOk_by (own := [("x", 3)]) (by kernel_rfl)) (fun _ _ _ _ _ => (pdg_name 3 nd)) (by decide) (fun _ _ _ _ _ => pdts_nil) (fun _ _ _ _ _ => (pd_tup (pda_cons (pd_v 3) (pda_cons (pd_v 2) pda_nil))))))) nd))) (pds_one (pds_ret (pd_v 1)))))), gf, F.kp, (F.bindsN fun _ _ _ _ _ _ us hl => match us, hl with | [_], _ => rfl)⟩⟩
theorem sc__law_held_by : FnScope ["atlas", "cell", "k"] ["atlas", "cell"] (defScope s__law_held_by) := ⟨rfl, rfl, rfl, by decide +kernel, rfl, by decide +kernel, by decide +kernel⟩
theorem ok__law_held_by {f : Addr} {fd : FuncData} (F : FunD K "_law_held_by" "_law_held_by" (defArgs s__law_held_by) (defBody s__law_held_by) (defScope s__law_held_by) [] [] f fd) (gf : mg "_law_held_by" = some (.ref f)) (c__law_holds : Callee P w K mg base "_law_holds" 1 (spP K mg 2 F__law_holds)) (n_len : mg "len" = none) (n_range : mg "range" = none) : Callee P w K mg base "_law_held_by" 2 (spP K mg 2 F__law_held_by) := ⟨⟨f, fd, _, ok_pure F sc__law_held_by (by decide) (fun cdv A outer s H E hr => by
      have nd := sc__law_held_by.nd
      have hu := hr.units
      unfold B__law_held_by
      exact (pds_one (pds_ret (pd_o (pdo_lc rfl nd (pdi_rng1 (pd_callB pl_len (by rfl) n_len (by decide +kernel) (pda_cons (pd_ix (pd_v 0) pd_int) pda_nil)) (by rfl) n_range) (blkOk_by (own := [("k", 2)]) (by kernel_rfl)) (fun _ _ _ _ _ => (pdg_name 2 nd)) (by decide) (fun _ _ _ _ _ => (pdts_one (pdt_v (pd_call c__law_holds (hr.mono (by omega)) passN (pda_cons (pd_ix (pd_ix (pd_v 0) pd_int) (pd_v 2)) (pda_cons (pd_v 1) pda_nil)))))) (fun _ _ _ _ _ => (pd_v 2))))))), gf, F.kp, (F.bindsN fun _ _ _ _ _ _ us hl => match us, hl with | [_, _], _ => rfl)⟩⟩
theorem sc__law_behind : FnScope ["cell", "way", "x", "y"] ["cell", "way"] (defScope s__law_behind) := ⟨rfl, rfl, rfl, by decide +kernel, rfl, by decide +kernel, by decide +kernel⟩
theorem ok__law_behind {f : Addr} {fd : FuncData} (F : FunD K "_law_behind" "_law_behind" (defArgs s__law_behind) (defBody s__law_behind) (defScope s__law_behind) [] [] f fd) (gf : mg "_law_behind" = some (.ref f)) (n_int : mg "int" = none) : Callee P w K mg base "_law_behind" 1 (spP K mg 2 F__law_behind) := ⟨⟨f, fd, _, ok_pure F sc__law_behind (by decide) (fun cdv A outer s H E hr => by
      have nd := sc__law_behind.nd
      have hu := hr.units
      unfold B__law_behind
      exact (pds_cons (pds_asg (pd_v 0) (pdg_tup rfl (pdgs_cons (pdg_name 2 nd) (pdgs_cons (pdg_name 3 nd) pdgs_nil)))) (pds_cons (pds_set 2 (pd_bin p2_sub (pd_bin p2_add (pd_v 2) (pd_callTy pl_int (by rfl) n_int (by decide +kernel) (pda_cons (pd_cmp (p2_eq hu) (pd_v 1) pd_str) pda_nil))) (pd_callTy pl_int (by rfl) n_int (by decide +kernel) (pda_cons (pd_cmp (p2_eq hu) (pd_v 1) pd_str) pda_nil))) nd) (pds_one (pds_ret (pd_tup (pda_cons (pd_v 2) (pda_cons (pd_bin p2_sub (pd_bin p2_add (pd_v 3) (pd_callTy pl_int (by rfl) n_int (by decide +kernel) (pda_cons (pd_cmp (p2_eq hu) (pd_v 1) pd_str) pda_nil))) (pd_callTy pl_int (by rfl) n_int (by decide +kernel) (pda_cons (pd_cmp (p2_eq hu) (pd_v 1) pd_str) pda_nil))) pda_nil)))))))), gf, F.kp, (F.bindsN fun _ _ _ _ _ _ us hl => match us, hl with | [_, _], _ => rfl)⟩⟩
theorem sc__law_is_cell : FnScope ["atlas", "cell"] ["atlas", "cell"] (defScope s__law_is_cell) := ⟨rfl, rfl, rfl, by decide +kernel, rfl, by decide +kernel, by decide +kernel⟩
theorem ok__law_is_cell {f : Addr} {fd : FuncData} (F : FunD K "_law_is_cell" "_law_is_cell" (defArgs s__law_is_cell) (defBody s__law_is_cell) (defScope s__law_is_cell) [] [] f fd) (gf : mg "_law_is_cell" = some (.ref f))  : Callee P w K mg base "_law_is_cell" 1 (spP K mg 2 F__law_is_cell) := ⟨⟨f, fd, _, ok_pure F sc__law_is_cell (by decide) (fun cdv A outer s H E hr => by
      have nd := sc__law_is_cell.nd
      have hu := hr.units
      unfold B__law_is_cell
      exact (pds_one (pds_ret (pd_and (pd_chain (p2_le hu) (p2_lt hu) pd_int (pd_ix (pd_v 1) pd_int) (pd_ix (pd_v 0) pd_int)) (pd_and1 (pd_chain (p2_le hu) (p2_lt hu) pd_int (pd_ix (pd_v 1) pd_int) (pd_ix (pd_v 0) pd_int))))))), gf, F.kp, (F.bindsN fun _ _ _ _ _ _ us hl => match us, hl with | [_, _], _ => rfl)⟩⟩
theorem sc__law_ways : FnScope ["atlas", "cell", "found", "way", "pair"] ["atlas", "cell"] (defScope s__law_ways) := ⟨rfl, rfl, rfl, by decide +kernel, rfl, by decide +kernel, by decide +kernel⟩
theorem ok__law_ways {f : Addr} {fd : FuncData} (F : FunD K "_law_ways" "_law_ways" (defArgs s__law_ways) (defBody s__law_ways) (defScope s__law_ways) [] [] f fd) (gf : mg "_law_ways" = some (.ref f)) (c__law_behind : Callee P w K mg base "_law_behind" 1 (spP K mg 2 F__law_behind)) (c__law_is_cell : Callee P w K mg base "_law_is_cell" 1 (spP K mg 2 F__law_is_cell)) : Callee P w K mg base "_law_ways" 2 (spP K mg 2 F__law_ways) := ⟨⟨f, fd, _, ok_pure F sc__law_ways (by decide) (fun cdv A outer s H E hr => by
      have nd := sc__law_ways.nd
      have hu := hr.units
      unfold B__law_ways
      exact (pds_cons (pds_setLc 2 rfl nd (pdi_seq pd_str) (blkOk_by (own := [("way", 3)]) (by kernel_rfl)) (fun _ _ _ _ _ => (pdg_name 3 nd)) (by decide) (fun _ _ _ _ _ => pdts_nil) (fun _ _ _ _ _ => (pd_tup (pda_cons (pd_v 3) (pda_cons (pd_call c__law_behind (hr.mono (by omega)) passN (pda_cons (pd_v 1) (pda_cons (pd_v 3) pda_nil))) pda_nil))))) (pds_one (pds_ret (pd_o (pdo_lc rfl nd (pdi_seq (pd_v 2)) (blkOk_by (own := [("pair", 4)]) (by kernel_rfl)) (fun _ _ _ _ _ => (pdg_name 4 nd)) (by decide) (fun _ _ _ _ _ => (pdts_one (pdt_v (pd_call c__law_is_cell (hr.mono (by omega)) passN (pda_cons (pd_v 0) (pda_cons (pd_ix (pd_v 4) pd_int) pda_nil)))))) (fun _ _ _ _ _ => (pd_v 4)))))))), gf, F.kp, (F.bindsN fun _ _ _ _ _ _ us hl => match us, hl with | [_, _], _ => rfl)⟩⟩
theorem sc__law_some_walk : FnScope ["deck", "atlas", "cell", "most", "turn", "found", "line", "some", "way", "there"] ["deck", "atlas", "cell", "most"] (defScope s__law_some_walk) := ⟨rfl, rfl, rfl, by decide +kernel, rfl, by decide +kernel, by decide +kernel⟩
theorem ok__law_some_walk {f : Addr} {fd : FuncData} (F : FunD K "_law_some_walk" "_law_some_walk" (defArgs s__law_some_walk) (defBody s__law_some_walk) (defScope s__law_some_walk) [] [] f fd) (gf : mg "_law_some_walk" = some (.ref f)) (c__law_behind : Callee P w K mg base "_law_behind" 1 (spP K mg 2 F__law_behind)) (c__law_one : Callee P w K mg base "_law_one" 2 (spB K 1 F__law_one)) (c__law_pick : Callee P w K mg base "_law_pick" 1 (spB K 1 F__law_pick)) (c__law_ways : Callee P w K mg base "_law_ways" 2 (spP K mg 2 F__law_ways)) (n_range : mg "range" = none) : Callee P w K mg base "_law_some_walk" 3 (spB K 3 F__law_some_walk) := ⟨⟨f, fd, _, ok_bor F sc__law_some_walk (by decide) 3 rfl (fun cdv A outer s H E hr => by
      have nd := sc__law_some_walk.nd
      have hu := hr.units
      unfold B__law_some_walk
      exact (pds_cons (pds_asg (pd_tup (pda_cons pd_str (pda_cons pd_str pda_nil))) (pdg_tup rfl (pdgs_cons (pdg_name 5 nd) (pdgs_cons (pdg_name 6 nd) pdgs_nil)))) (pds_cons (pds_for ownX rfl (pdi_rng1 (pd_callO 0 c__law_pick (hr.mono (by omega)) passX (pda_cons (pd_bin p2_add (pd_v 3) pd_int) pda_nil)) (by rfl) n_range) (pdg_name 4 nd) (pds_cons (pds_setLc 7 rfl nd (pdi_seq (pd_call c__law_ways (hr.mono (by omega)) passX (pda_cons (pd_v 1) (pda_cons (pd_v 2) pda_nil)))) (blkOk_by (own := [("way", 8), ("there", 9)]) (by kernel_rfl)) (fun _ _ _ _ _ => (pdg_tup rfl (pdgs_cons (pdg_name 8 nd) (pdgs_cons (pdg_name 9 nd) pdgs_nil)))) (by decide) (fun _ _ _ _ _ => pdts_nil) (fun _ _ _ _ _ => (pd_v 8))) (pds_one (pds_if (pdt_cmp (p2_ne hu) (pd_v 7) (pd_o (pdo_lst pda_nil))) (pds_cons (pds_set 8 (pd_if (pdt_w (pdw_and (pdt_cmp (p2_in hu) (pd_v 6) (pd_v 7)) (pdw_and (pdt_cmp (p2_ne hu) (pd_v 6) pd_str) (pdw_and1 (pdt_cmp (p2_gt hu) (pd_callO 0 c__law_pick (hr.mono (by omega)) passX (pda_cons pd_int pda_nil)) pd_int))))) (pd_v 6) (pd_callO 0 c__law_one (hr.mono (by omega)) passX (pda_cons (pd_v 7) pda_nil))) nd) (pds_one (pds_par3 6 2 5 (pdm_sh (pd_v 8) (pdm_sh (pd_call c__law_behind (hr.mono (by omega)) passX (pda_cons (pd_v 2) (pda_cons (pd_v 8) pda_nil))) (pdm_sh (pd_bin p2_add (pd_v 5) (pd_v 8)) pdm_nil))) rfl nd))) pds_nil)))) (pds_one (pds_ret (pd_v 5)))))), gf, F.kp, (F.bindsN fun _ _ _ _ _ _ us hl => match us, hl with | [_, _, _, _], _ => rfl)⟩⟩
theorem sc__law_spoilt : FnScope ["deck", "thing", "rows", "at", "other"] ["deck", "thing"] (defScope s__law_spoilt) := ⟨rfl, rfl, rfl, by decide +kernel, rfl, by decide +kernel, by decide +kernel⟩
theorem ok__law_spoilt {f : Addr} {fd : FuncData} (F : FunD K "_law_spoilt" "_law_spoilt" (defArgs s__law_spoilt) (defBody s__law_spoilt) (defScope s__law_spoilt) [] [] f fd) (gf : mg "_law_spoilt" = some (.ref f)) (c__law_pick : Callee P w K mg base "_law_pick" 1 (spB K 1 F__law_pick)) (c__law_whole : Callee P w K mg base "_law_whole" 1 (spP K mg 1 F__law_whole)) (n_isinstance : mg "isinstance" = none) (n_len : mg "len" = none) (n_list : mg "list" = none) (n_tuple : mg "tuple" = none) : ∀ n : Nat, Callee P w K mg base "_law_spoilt" (2 + n) (spB K 1 (F__law_spoilt n))
  | 0 => ⟨⟨f, fd, _, ok_badB F sc__law_spoilt 1 rfl, gf, F.kp, (F.bindsN fun _ _ _ _ _ _ us hl => match us, hl with | [_, _], _ => rfl)⟩⟩
  | n + 1 => ⟨⟨f, fd, _, ok_bor (k := 2 + n) (fb := B__law_spoilt (F__law_spoilt n)) F sc__law_spoilt (by decide) 1 rfl (fun cdv A outer s H E hr => by
      have nd := sc__law_spoilt.nd
      have hu := hr.units
      have IH := ok__law_spoilt F gf c__law_pick c__law_whole n_isinstance n_len n_list n_tuple n
      unfold B__law_spoilt
      exact (pds_cons (pds_if (pdt_w (pdw_and (pdt_v (pd_isiTL (by rfl) n_isinstance (by rfl) n_tuple (by rfl) n_list (pd_v 1))) (pdw_and (pdt_cmp (p2_gt hu) (pd_callB pl_len (by rfl) n_len (by decide +kernel) (pda_cons (pd_v 1) pda_nil)) pd_int) (pdw_and1 (pdt_cmp (p2_gt hu) (pd_callO 0 c__law_pick (hr.mono (by omega)) passX (pda_cons pd_int pda_nil)) pd_int))))) (pds_cons (pds_setO 2 (pdo_callTy po_list (by rfl) n_list (by decide +kernel) (pda_cons (pd_v 1) pda_nil)) nd) (pds_cons (pds_set 3 (pd_callO 0 c__law_pick (hr.mono (by omega)) passX (pda_cons (pd_look (pd_callB pl_len (by rfl) n_len (by decide +kernel) (pda_cons (pd_v 2) pda_nil))) pda_nil)) nd) (pds_cons (pds_store 2 (pd_callO 0 IH hr passX (pda_cons (pd_oix 2 (pd_v 3)) pda_nil)) (pd_v 3)) (pds_one (pds_ret (pd_if (pdt_v (pd_isi isi_tuple (by rfl) n_isinstance (by rfl) n_tuple (by decide +kernel) (pd_v 1))) (pd_callTy pl_tuple (by rfl) n_tuple (by decide +kernel) (pda_cons (pd_v 2) pda_nil)) (pd_v 2))))))) pds_nil) (pds_cons (pds_if (pdt_v (pd_isiTL (by rfl) n_isinstance (by rfl) n_tuple (by rfl) n_list (pd_v 1))) (pds_cons (pds_set 4 (pd_if (pdt_v (pd_isi isi_tuple (by rfl) n_isinstance (by rfl) n_tuple (by decide +kernel) (pd_v 1))) (pd_o (pdo_callTy po_list (by rfl) n_list (by decide +kernel) (pda_cons (pd_v 1) pda_nil))) (pd_callTy pl_tuple (by rfl) n_tuple (by decide +kernel) (pda_cons (pd_v 1) pda_nil))) nd) (pds_one (pds_ret (pd_ix (pd_o (pdo_lst (pda_cons (pd_v 4) (pda_cons (pd_bin p2_add (pd_v 1) (pd_slice (pd_v 1) pdp_none (pdp_some pd_int))) (pda_cons (pd_slice (pd_v 1) (pdp_some pd_int) pdp_none) (pda_cons (pd_back (pd_v 1) (pd_un p1_neg pd_int)) (pda_cons pd_non pda_nil))))))) (pd_callO 0 c__law_pick (hr.mono (by omega)) passX (pda_cons pd_int pda_nil)))))) pds_nil) (pds_cons (pds_if (pdt_v (pd_call c__law_whole (hr.mono (by omega)) passX (pda_cons (pd_v 1) pda_nil))) (pds_one (pds_ret (pd_ix (pd_o (pdo_lst (pda_cons (pd_bin p2_add (pd_v 1) pd_int) (pda_cons (pd_bin p2_sub (pd_v 1) pd_int) (pda_cons pd_bl (pda_cons pd_non (pda_cons pd_int (pda_cons pd_int (pda_cons pd_str pda_nil))))))))) (pd_callO 0 c__law_pick (hr.mono (by omega)) passX (pda_cons pd_int pda_nil))))) pds_nil) (pds_one (pds_ret (pd_ix (pd_o (pdo_lst (pda_cons pd_non (pda_cons pd_int (pda_cons pd_int (pda_cons pd_int (pda_cons pd_str (pda_cons pd_str (pda_cons (pd_tup pda_nil) (pda_cons (pd_o (pdo_lst pda_nil)) (pda_cons pd_bl pda_nil))))))))))) (pd_callO 0 c__law_pick (hr.mono (by omega)) passX (pda_cons pd_int pda_nil))))))))), gf, F.kp, (F.bindsN fun _ _ _ _ _ _ us hl => match us, hl with | [_, _], _ => rfl)⟩⟩
theorem sc__law_in : FnScope ["thing", "low", "high"] ["thing", "low", "high"] (defScope s__law_in) := ⟨rfl, rfl, rfl, by decide +kernel, rfl, by decide +kernel, by decide +kernel⟩
theorem ok__law_in {f : Addr} {fd : FuncData} (F : FunD K "_law_in" "_law_in" (defArgs s__law_in) (defBody s__law_in) (defScope s__law_in) [] [] f fd) (gf : mg "_law_in" = some (.ref f)) (c__law_whole : Callee P w K mg base "_law_whole" 1 (spP K mg 1 F__law_whole)) : Callee P w K mg base "_law_in" 2 (spP K mg 3 F__law_in) := ⟨⟨f, fd, _, ok_pure F sc__law_in (by decide) (fun cdv A outer s H E hr => by
      have nd := sc__law_in.nd
      have hu := hr.units
      unfold B__law_in
      exact (pds_one (pds_ret (pd_and (pd_call c__law_whole (hr.mono (by omega)) passX (pda_cons (pd_v 0) pda_nil)) (pd_and1 (pd_chain (p2_le hu) (p2_le hu) (pd_v 1) (pd_v 0) (pd_v 2))))))), gf, F.kp, (F.bindsN fun _ _ _ _ _ _ us hl => match us, hl with | [_, _, _], _ => rfl)⟩⟩
theorem sc__law_is_page : FnScope ["thing", "width", "height", "many", "arrow"] ["thing", "width", "height", "many"] (defScope s__law_is_page) := ⟨rfl, rfl, rfl, by decide +kernel, rfl, by decide +kernel, by decide +kernel⟩
theorem ok__law_is_page {f : Addr} {fd : FuncData} (F : FunD K "_law_is_page" "_law_is_page" (defArgs s__law_is_page) (defBody s__law_is_page) (defScope s__law_is_page) [] [] f fd) (gf : mg "_law_is_page" = some (.ref f)) (c__law_in : Callee P w K mg base "_law_in" 2 (spP K mg 3 F__law_in)) (n_isinstance : mg "isinstance" = none) (n_len : mg "len" = none) (n_tuple : mg "tuple" = none) : Callee P w K mg base "_law_is_page" 3 (spP K mg 4 F__law_is_page) := ⟨⟨f, fd, _, ok_pure F sc__law_is_page (by decide) (fun cdv A outer s H E hr => by
      have nd := sc__law_is_page.nd
      have hu := hr.units
      unfold B__law_is_page
      exact (pds_cons (pds_if (pdt_w (pdw_or (pdt_not (pdt_v (pd_isi isi_tuple (by rfl) n_isinstance (by rfl) n_tuple (by decide +kernel) (pd_v 0)))) (pdw_or1 (pdt_cmp (p2_ne hu) (pd_callB pl_len (by rfl) n_len (by decide +kernel) (pda_cons (pd_v 0) pda_nil)) pd_int)))) (pds_one (pds_ret pd_bl)) pds_nil) (pds_cons (pds_if (pdt_w (pdw_or (pdt_not (pdt_v (pd_isi isi_tuple (by rfl) n_isinstance (by rfl) n_tuple (by decide +kernel) (pd_ix (pd_v 0) pd_int)))) (pdw_or1 (pdt_cmp (p2_ne hu) (pd_callB pl_len (by rfl) n_len (by decide +kernel) (pda_cons (pd_ix (pd_v 0) pd_int) pda_nil)) pd_int)))) (pds_one (pds_ret pd_bl)) pds_nil) (pds_cons (pds_for ownX rfl (pdi_seq (pd_ix (pd_v 0) pd_int)) (pdg_name 4 nd) (pds_one (pds_if (pdt_w (pdw_and (pdt_cmp p2_isNot (pd_v 4) pd_non) (pdw_and1 (pdt_not (pdt_v (pd_call c__law_in (hr.mono (by omega)) passX (pda_cons (pd_v 4) (pda_cons pd_int (pda_cons (pd_bin p2_sub (pd_v 3) pd_int) pda_nil))))))))) (pds_one (pds_ret pd_bl)) pds_nil))) (pds_cons (pds_if (pdt_w (pdw_or (pdt_not (pdt_v (pd_call c__law_in (hr.mono (by omega)) passX (pda_cons (pd_ix (pd_v 0) pd_int) (pda_cons pd_int (pda_cons (pd_bin p2_sub (pd_v 1) pd_int) pda_nil)))))) (pdw_or1 (pdt_not (pdt_v (pd_call c__law_in (hr.mono (by omega)) passX (pda_cons (pd_ix (pd_v 0) pd_int) (pda_cons pd_int (pda_cons (pd_bin p2_sub (pd_v 2) pd_int) pda_nil))))))))) (pds_one (pds_ret pd_bl)) pds_nil) (pds_one (pds_ret (pd_and (pd_call c__law_in (hr.mono (by omega)) passX (pda_cons (pd_ix (pd_v 0) pd_int) (pda_cons pd_int (pda_cons (pd_bin p2_sub (pd_v 1) (pd_ix (pd_v 0) pd_int)) pda_nil)))) (pd_and1 (pd_call c__law_in (hr.mono (by omega)) passX (pda_cons (pd_ix (pd_v 0) pd_int) (pda_cons pd_int (pda_cons (pd_bin p2_sub (pd_v 2) (pd_ix (pd_v 0) pd_int)) pda_nil))))))))))))), gf, F.kp, (F.bindsN fun _ _ _ _ _ _ us hl => match us, hl with | [_, _, _, _], _ => rfl)⟩⟩
theorem sc__law_is_atlas : FnScope ["thing", "page", "cell"] ["thing"] (defScope s__law_is_atlas) := ⟨rfl, rfl, rfl, by decide +kernel, rfl, by decide +kernel, by decide +kernel⟩
theorem ok__law_is_atlas {f : Addr} {fd : FuncData} (F : FunD K "_law_is_atlas" "_law_is_atlas" (defArgs s__law_is_atlas) (defBody s__law_is_atlas) (defScope s__law_is_atlas) [] [] f fd) (gf : mg "_law_is_atlas" = some (.ref f)) (c__law_all_cells : Callee P w K mg base "_law_all_cells" 1 (spP K mg 1 F__law_all_cells)) (c__law_held_by : Callee P w K mg base "_law_held_by" 2 (spP K mg 2 F__law_held_by)) (c__law_in : Callee P w K mg base "_law_in" 2 (spP K mg 3 F__law_in)) (c__law_is_page : Callee P w K mg base "_law_is_page" 3 (spP K mg 4 F__law_is_page)) (n_isinstance : mg "isinstance" = none) (n_len : mg "len" = none) (n_tuple : mg "tuple" = none) : Callee P w K mg base "_law_is_atlas" 4 (spP K mg 1 F__law_is_atlas) := ⟨⟨f, fd, _, ok_pure F sc__law_is_atlas (by decide) (fun cdv A outer s H E hr => by
      have nd := sc__law_is_atlas.nd
      have hu := hr.units
      unfold B__law_is_atlas
      exact (pds_cons (pds_if (pdt_w (pdw_or (pdt_not (pdt_v (pd_isi isi_tuple (by rfl) n_isinstance (by rfl) n_tuple (by decide +kernel) (pd_v 0)))) (pdw_or (pdt_cmp (p2_ne hu) (pd_callB pl_len (by rfl) n_len (by decide +kernel) (pda_cons (pd_v 0) pda_nil)) pd_int) (pdw_or1 (pdt_not (pdt_v (pd_isi isi_tuple (by rfl) n_isinstance (by rfl) n_tuple (by decide +kernel) (pd_ix (pd_v 0) pd_int)))))))) (pds_one (pds_ret pd_bl)) pds_nil) (pds_cons (pds_if (pdt_w (pdw_or (pdt_not (pdt_v (pd_call c__law_in (hr.mono (by omega)) passX (pda_cons (pd_ix (pd_v 0) pd_int) (pda_cons pd_int (pda_cons pd_int pda_nil)))))) (pdw_or (pdt_not (pdt_v (pd_call c__law_in (hr.mono (by omega)) passX (pda_cons (pd_ix (pd_v 0) pd_int) (pda_cons pd_int (pda_cons pd_int pda_nil)))))) (pdw_or1 (pdt_not (pdt_chain (p2_le hu) (p2_le hu) pd_int (pd_callB pl_len (by rfl) n_len (by decide +kernel) (pda_cons (pd_ix (pd_v 0) pd_int) pda_nil)) pd_int)))))) (pds_one (pds_ret pd_bl)) pds_nil) (pds_cons (pds_if (pdt_cmp (p2_ne hu) (pd_o (pdo_lc rfl nd (pdi_seq (pd_ix (pd_v 0) pd_int)) (blkOk_by (own := [("page", 1)]) (by kernel_rfl)) (fun _ _ _ _ _ => (pdg_name 1 nd)) (by decide) (fun _ _ _ _ _ => (pdts_one (pdt_not (pdt_v (pd_call c__law_is_page (hr.mono (by omega)) passN (pda_cons (pd_v 1) (pda_cons (pd_ix (pd_v 0) pd_int) (pda_cons (pd_ix (pd_v 0) pd_int) (pda_cons (pd_callB pl_len (by rfl) n_len (by decide +kernel) (pda_cons (pd_ix (pd_v 0) pd_int) pda_nil)) pda_nil))))))))) (fun _ _ _ _ _ => (pd_v 1)))) (pd_o (pdo_lst pda_nil))) (pds_one (pds_ret pd_bl)) pds_nil) (pds_one (pds_ret (pd_cmp (p2_eq hu) (pd_o (pdo_lc rfl nd (pdi_seq (pd_call c__law_all_cells (hr.mono (by omega)) passX (pda_cons (pd_v 0) pda_nil))) (blkOk_by (own := [("cell", 2)]) (by kernel_rfl)) (fun _ _ _ _ _ => (pdg_name 2 nd)) (by decide) (fun _ _ _ _ _ => (pdts_one (pdt_cmp (p2_eq hu) (pd_call c__law_held_by (hr.mono (by omega)) passN (pda_cons (pd_v 0) (pda_cons (pd_v 2) pda_nil))) (pd_o (pdo_lst pda_nil))))) (fun _ _ _ _ _ => (pd_v 2)))) (pd_o (pdo_lst pda_nil))))))))), gf, F.kp, (F.bindsN fun _ _ _ _ _ _ us hl => match us, hl with | [_], _ => rfl)⟩⟩
theorem sc__law_edges_of_bounds : FnScope ["size", "page", "found", "arrows", "none"] [] (defScope s__law_edges_of_bounds) := ⟨rfl, rfl, rfl, by decide +kernel, rfl, by decide +kernel, by decide +kernel⟩
theorem ok__law_edges_of_bounds {f : Addr} {fd : FuncData} (F : FunD K "_law_edges_of_bounds" "_law_edges_of_bounds" (defArgs s__law_edges_of_bounds) (defBody s__law_edges_of_bounds) (defScope s__law_edges_of_bounds) [] [] f fd) (gf : mg "_law_edges_of_bounds" = some (.ref f))  : Callee P w K mg base "_law_edges_of_bounds" 1 (spP K mg 0 F__law_edges_of_bounds) := ⟨⟨f, fd, _, ok_pure F sc__law_edges_of_bounds (by decide) (fun cdv A outer s H E hr => by
      have nd := sc__law_edges_of_bounds.nd
      have hu := hr.units
      unfold B__law_edges_of_bounds
      exact (pds_cons (pds_par2 4 2 (pdm_sh (pd_bin p2_mul (pd_tup (pda_cons pd_non pda_nil)) pd_int) (pdm_ow (pdo_lst pda_nil) pdm_nil)) rfl nd) (pds_cons (pds_for ownX rfl (pdi_seq (pd_tup (pda_cons pd_int (pda_cons pd_int (pda_cons pd_int (pda_cons pd_int (pda_cons pd_bl pda_nil))))))) (pdg_name 0 nd) (pds_one (pds_setO 2 (pdo_cat (pd_v 2) (pd_o (pdo_lst (pda_cons (pd_tup (pda_cons (pd_v 0) (pda_cons pd_int (pda_cons (pd_tup (pda_cons (pd_tup (pda_cons pd_int (pda_cons pd_int (pda_cons (pd_v 0) (pda_cons pd_int (pda_cons (pd_v 4) pda_nil)))))) pda_nil)) pda_nil)))) (pda_cons (pd_tup (pda_cons pd_int (pda_cons (pd_v 0) (pda_cons (pd_tup (pda_cons (pd_tup (pda_cons pd_int (pda_cons pd_int (pda_cons pd_int (pda_cons (pd_v 0) (pda_cons (pd_v 4) pda_nil)))))) pda_nil)) pda_nil)))) pda_nil))))) nd))) (pds_cons (pds_set 1 (pd_tup (pda_cons pd_int (pda_cons pd_int (pda_cons pd_int (pda_cons pd_int (pda_cons (pd_v 4) pda_nil)))))) nd) (pds_cons (pds_setO 2 (pdo_cat (pd_v 2) (pd_o (pdo_lst (pda_cons (pd_tup (pda_cons pd_int (pda_cons pd_int (pda_cons (pd_bin p2_mul (pd_tup (pda_cons (pd_v 1) pda_nil)) pd_int) pda_nil)))) (pda_cons (pd_tup (pda_cons pd_int (pda_cons pd_int (pda_cons (pd_bin p2_mul (pd_tup (pda_cons (pd_v 1) pda_nil)) pd_int) pda_nil)))) (pda_cons (pd_tup (pda_cons pd_int (pda_cons pd_int (pda_cons (pd_tup pda_nil) pda_nil)))) (pda_cons (pd_tup (pda_cons pd_int (pda_cons pd_int (pda_cons (pd_tup (pda_cons (pd_v 1) pda_nil)) pda_nil)))) (pda_cons (pd_tup (pda_cons pd_int (pda_cons pd_int (pda_cons (pd_o (pdo_lst (pda_cons (pd_v 1) pda_nil))) pda_nil)))) pda_nil)))))))) nd) (pds_cons (pds_for ownX rfl (pdi_seq (pd_o (pdo_lst (pda_cons (pd_tup (pda_cons pd_int (pda_cons pd_non (pda_cons pd_non (pda_cons pd_non pda_nil))))) (pda_cons (pd_tup (pda_cons pd_int (pda_cons pd_int (pda_cons pd_int (pda_cons pd_int pda_nil))))) (pda_cons (pd_bin p2_mul (pd_tup (pda_cons (pd_un p1_neg pd_int) pda_nil)) pd_int) (pda_cons (pd_bin p2_mul (pd_tup (pda_cons pd_bl pda_nil)) pd_int) (pda_cons (pd_bin p2_mul (pd_tup (pda_cons pd_non pda_nil)) pd_int) (pda_cons (pd_bin p2_mul (pd_o (pdo_lst (pda_cons pd_non pda_nil))) pd_int) pda_nil))))))))) (pdg_name 3 nd) (pds_one (pds_app 2 (pd_tup (pda_cons pd_int (pda_cons pd_int (pda_cons (pd_tup (pda_cons (pd_bin p2_add (pd_slice (pd_v 1) pdp_none (pdp_some pd_int)) (pd_tup (pda_cons (pd_v 3) pda_nil))) pda_nil)) pda_nil))))))) (pds_one (pds_ret (pd_bin p2_add (pd_v 2) (pd_o (pdo_lst (pda_cons (pd_tup (pda_cons pd_int (pda_cons pd_int (pda_cons (pd_tup (pda_cons (pd_tup (pda_cons pd_int (pda_cons pd_int (pda_cons pd_int (pda_cons pd_int (pda_cons (pd_v 4) pda_nil)))))) (pda_cons (pd_tup (pda_cons pd_int (pda_cons pd_int (pda_cons pd_int (pda_cons pd_int (pda_cons (pd_tup (pda_cons pd_int (pda_cons pd_int (pda_cons pd_int (pda_cons pd_int pda_nil))))) pda_nil)))))) pda_nil))) pda_nil)))) (pda_cons (pd_tup (pda_cons pd_int (pda_cons pd_int (pda_cons (pd_tup (pda_cons (pd_tup (pda_cons pd_int (pda_cons pd_int (pda_cons pd_int (pda_cons pd_int (pda_cons (pd_v 4) pda_nil)))))) pda_nil)) pda_nil)))) pda_nil))))))))))))), gf, F.kp, (F.bindsN fun _ _ _ _ _ _ us hl => match us, hl with | [], _ => rfl)⟩⟩
theorem sc_law : FnScope ["script", "cell", "deck", "atlas", "bent", "some", "thing", "here", "way", "odd", "good", "walk", "due", "k"] ["script"] (defScope s_law) := ⟨rfl, rfl, rfl, by decide +kernel, rfl, by decide +kernel, by decide +kernel⟩
theorem ok_law {f : Addr} {fd : FuncData} (F : FunD K "law" "law" (defArgs s_law) (defBody s_law) (defScope s_law) [] [] f fd) (gf : mg "law" = some (.ref f)) {cc PT : Addr} (c__law_all_cells : Callee P w K mg base "_law_all_cells" 1 (spP K mg 1 F__law_all_cells)) (c__law_behind : Callee P w K mg base "_law_behind" 1 (spP K mg 2 F__law_behind)) (c__law_deck : Callee P w K mg base "_law_deck" 1 (spO K mg 2 F__law_deck)) (c__law_drawn : Callee P w K mg base "_law_drawn" 4 (spB K 3 F__law_drawn)) (c__law_edges_of_bounds : Callee P w K mg base "_law_edges_of_bounds" 1 (spP K mg 0 F__law_edges_of_bounds)) (c__law_held_by : Callee P w K mg base "_law_held_by" 2 (spP K mg 2 F__law_held_by)) (c__law_is_atlas : Callee P w K mg base "_law_is_atlas" 4 (spP K mg 1 F__law_is_atlas)) (c__law_one : Callee P w K mg base "_law_one" 2 (spB K 1 F__law_one)) (c__law_same : Callee P w K mg base "_law_same" 10 (spP K mg 2 (F__law_same 8))) (c__law_some_walk : Callee P w K mg base "_law_some_walk" 3 (spB K 3 F__law_some_walk)) (c__law_spoilt : Callee P w K mg base "_law_spoilt" 10 (spB K 1 (F__law_spoilt 8))) (c_cells_along : Callee P w K mg base "cells_along" 5 (spP K mg 4 F_cells_along)) (c_is_atlas : Callee P w K mg base "is_atlas" 4 (spP K mg 1 F_is_atlas)) (c_pages_at : Callee P w K mg base "pages_at" 5 (spP K mg 3 F_pages_at)) (n_range : mg "range" = none) (q__law_try : TryOk P w K mg base "_law_try") (hcod : codB K f cc = true) (TB : LamX.TabB base mg cc PT) : FnOk P w K mg base (L2N.CX P w) 13 f fd ["script"] (spL K [(PT, lamLaw)] 1 F_law) := ok_lawL F sc_law (by decide) hcod (fun A outer s H E hr => by
      have nd := sc_law.nd
      have hu := hr.units
      unfold B_law B_law_6 B_law_5 B_law_4 B_law_3 B_law_2 B_law_1
      exact (pdsl_cons (pdsl_for ownX rfl (pdi_seq (pd_slice (pd_bin p2_add (pd_o (pdo_lst (pda_cons pd_int pda_nil))) (pd_v 0)) pdp_none (pdp_some pd_int))) (pdg_name 1 nd) (pdsl_cons (PDS.l (pds_setO 2 (pdo_call c__law_deck (hr.mono (by omega)) passX (pda_cons (pd_v 1) (pda_cons pd_int pda_nil))) nd)) (pdsl_cons (PDS.l (pds_set 3 (pd_callO 2 c__law_drawn (hr.mono (by omega)) passX (pda_cons pd_int (pda_cons pd_int (pda_cons pd_int pda_nil)))) nd)) (pdsl_cons (PDS.l (pds_set 4 (pd_callO 2 c__law_spoilt (hr.mono (by omega)) passX (pda_cons (pd_v 3) pda_nil)) nd)) (pdsl_cons (PDS.l (pds_set 5 (pd_o (pdo_lst (pda_cons (pd_v 3) (pda_cons (pd_v 4) (pda_cons (pd_callO 2 c__law_spoilt (hr.mono (by omega)) passX (pda_cons (pd_v 4) pda_nil)) (pda_cons (pd_ix (pd_v 3) pd_int) (pda_cons (pd_back (pd_v 3) (pd_un p1_neg pd_int)) (pda_cons pd_non (pda_cons pd_int (pda_cons pd_str (pda_cons (pd_o (pdo_lst pda_nil)) pda_nil))))))))))) nd)) (pdsl_cons (PDS.l (pds_set 5 (pd_bin p2_add (pd_bin p2_add (pd_v 5) (pd_o (pdo_lc rfl nd (pdi_rng1 pd_int (by rfl) n_range) (blkOk_by (own := [("k", 13)]) (by kernel_rfl)) (fun _ _ _ _ _ => (pdg_name 13 nd)) (by decide) (fun _ _ _ _ _ => pdts_nil) (fun _ _ _ _ _ => (pd_callO 2 c__law_spoilt (hr.mono (by omega)) passN (pda_cons (pd_v 3) pda_nil)))))) (pd_call0 c__law_edges_of_bounds (hr.mono (by omega)) passX)) nd)) (pdsl_cons (pdsl_for ownX rfl (pdi_seq (pd_v 5)) (pdg_name 6 nd) (pdsl_cons (PDS.l (pds_set 10 (pd_call c__law_is_atlas (hr.mono (by omega)) passX (pda_cons (pd_v 6) pda_nil)) nd)) (pdsl_cons (PDS.l (pds_if (pdt_not (pdt_v (pd_call c__law_same (hr.mono (by omega)) passX (pda_cons (pd_call c_is_atlas (hr.mono (by omega)) passX (pda_cons (pd_v 6) pda_nil)) (pda_cons (pd_v 10) pda_nil))))) (pds_one (pds_ret pd_bl)) pds_nil)) (pdsl_one (pdsl_if (pdtl_w (pdwl_and (PDT.l (pdt_not (pdt_v (pd_v 10)))) (pdwl_one (pdtl_cmp (p2_ne hu) (pdl_tryK (k := 10) q__law_try (hr.mono (by omega)) TB one_mem one_hu (fun A outer s H E f c1 hr px => have hu := hr.units; (pd_call c_pages_at (hr.mono (by omega)) px (pda_cons (pd_v 6) (pda_cons pd_int (pda_cons pd_int pda_nil)))))) pd_str)))) (pdsl_one (PDS.l (pds_ret pd_bl))) pdsl_nil))))) (pdsl_cons (PDS.l (pds_for ownX rfl (pdi_seq (pd_call c__law_all_cells (hr.mono (by omega)) passX (pda_cons (pd_v 3) pda_nil))) (pdg_name 7 nd) (pds_one (pds_if (pdt_not (pdt_v (pd_call c__law_same (hr.mono (by omega)) passX (pda_cons (pd_call c_pages_at (hr.mono (by omega)) passX (pda_cons (pd_v 3) (pda_cons (pd_ix (pd_v 7) pd_int) (pda_cons (pd_ix (pd_v 7) pd_int) pda_nil)))) (pda_cons (pd_call c__law_held_by (hr.mono (by omega)) passX (pda_cons (pd_v 3) (pda_cons (pd_v 7) pda_nil))) pda_nil))))) (pds_one (pds_ret pd_bl)) pds_nil)))) (pdsl_cons (PDS.l (pds_set 7 (pd_callO 2 c__law_one (hr.mono (by omega)) passX (pda_cons (pd_call c__law_all_cells (hr.mono (by omega)) passX (pda_cons (pd_v 3) pda_nil)) pda_nil)) nd)) (pdsl_cons (PDS.l (pds_par2 11 12 (pdm_sh (pd_callO 2 c__law_some_walk (hr.mono (by omega)) passX (pda_cons (pd_v 3) (pda_cons (pd_v 7) (pda_cons pd_int pda_nil)))) (pdm_ow (pdo_lst (pda_cons (pd_v 7) pda_nil)) pdm_nil)) rfl nd)) (pdsl_cons (PDS.l (pds_for ownX rfl (pdi_seq (pd_v 11)) (pdg_name 8 nd) (pds_one (pds_app 12 (pd_call c__law_behind (hr.mono (by omega)) passX (pda_cons (pd_oix 12 (pd_un p1_neg pd_int)) (pda_cons (pd_v 8) pda_nil))))))) (pdsl_cons (PDS.l (pds_if (pdt_not (pdt_v (pd_call c__law_same (hr.mono (by omega)) passX (pda_cons (pd_call c_cells_along (hr.mono (by omega)) passX (pda_cons (pd_v 3) (pda_cons (pd_ix (pd_v 7) pd_int) (pda_cons (pd_ix (pd_v 7) pd_int) (pda_cons (pd_v 11) pda_nil))))) (pda_cons (pd_v 12) pda_nil))))) (pds_one (pds_ret pd_bl)) pds_nil)) (pdsl_cons (pdsl_for ownX rfl (pdi_seq (pd_o (pdo_lst (pda_cons pd_non (pda_cons pd_int (pda_cons pd_str (pda_cons (pd_bin p2_add (pd_v 11) (pd_bin p2_mulS pd_str pd_int)) (pda_cons (pd_bin p2_add (pd_v 11) (pd_bin p2_mulS pd_str pd_int)) (pda_cons pd_str (pda_cons (pd_o (pdo_lst (pda_cons pd_str pda_nil))) (pda_cons (pd_bin p2_mulS pd_str pd_int) pda_nil))))))))))) (pdg_name 9 nd) (pdsl_one (pdsl_if (pdtl_cmp (p2_ne hu) (pdl_tryK (k := 10) q__law_try (hr.mono (by omega)) TB one_mem one_hu (fun A outer s H E f c1 hr px => have hu := hr.units; (pd_call c_cells_along (hr.mono (by omega)) px (pda_cons (pd_v 3) (pda_cons (pd_ix (pd_v 7) pd_int) (pda_cons (pd_ix (pd_v 7) pd_int) (pda_cons (pd_v 9) pda_nil))))))) pd_str) (pdsl_one (PDS.l (pds_ret pd_bl))) pdsl_nil))) (pdsl_one (pdsl_for ownX rfl (pdi_seq (pd_o (pdo_lst (pda_cons pd_non (pda_cons (pd_un p1_neg pd_int) (pda_cons (pd_ix (pd_v 3) pd_int) (pda_cons pd_bl (pda_cons pd_str pda_nil)))))))) (pdg_name 9 nd) (pdsl_one (pdsl_if (pdtl_cmp (p2_ne hu) (pdl_tryK (k := 10) q__law_try (hr.mono (by omega)) TB one_mem one_hu (fun A outer s H E f c1 hr px => have hu := hr.units; (pd_call c_pages_at (hr.mono (by omega)) px (pda_cons (pd_v 3) (pda_cons (pd_v 9) (pda_cons pd_int pda_nil)))))) pd_str) (pdsl_one (PDS.l (pds_ret pd_bl))) pdsl_nil))))))))))))))))) (pdsl_one (PDS.l (pds_ret pd_bl)))))
end
end Atl

set_option Elab.async false
set_option linter.all false
set_option maxRecDepth 100000
set_option maxHeartbeats 0
namespace Atl
open PySem PySem.Spec PyProof.Rows L2 Dl Dt
def d_is_within : He.DefD := ⟨("is_within", none), "is_within", "is_within", defArgs s_is_within, defBody s_is_within, defScope s_is_within, [], []⟩
def d_is_page : He.DefD := ⟨("is_page", none), "is_page", "is_page", defArgs s_is_page, defBody s_is_page, defScope s_is_page, [], []⟩
def d_holds : He.DefD := ⟨("holds", none), "holds", "holds", defArgs s_holds, defBody s_holds, defScope s_holds, [], []⟩
def d_cells_of : He.DefD := ⟨("cells_of", none), "cells_of", "cells_of", defArgs s_cells_of, defBody s_cells_of, defScope s_cells_of, [], []⟩
def d_pages_of : He.DefD := ⟨("pages_of", none), "pages_of", "pages_of", defArgs s_pages_of, defBody s_pages_of, defScope s_pages_of, [], []⟩
def d_is_atlas_value : He.DefD := ⟨("is_atlas_value", none), "is_atlas_value", "is_atlas_value", defArgs s_is_atlas_value, defBody s_is_atlas_value, defScope s_is_atlas_value, [], []⟩
def d_is_cell : He.DefD := ⟨("is_cell", none), "is_cell", "is_cell", defArgs s_is_cell, defBody s_is_cell, defScope s_is_cell, [], []⟩
def d_moved : He.DefD := ⟨("moved", none), "moved", "moved", defArgs s_moved, defBody s_moved, defScope s_moved, [], []⟩
def d_walked : He.DefD := ⟨("walked", none), "walked", "walked", defArgs s_walked, defBody s_walked, defScope s_walked, [], []⟩
def d_is_walk_from : He.DefD := ⟨("is_walk_from", none), "is_walk_from", "is_walk_from", defArgs s_is_walk_from, defBody s_is_walk_from, defScope s_is_walk_from, [], []⟩
def d_need_atlas : He.DefD := ⟨("need_atlas", none), "need_atlas", "need_atlas", defArgs s_need_atlas, defBody s_need_atlas, defScope s_need_atlas, [], []⟩
def d_need_cell : He.DefD := ⟨("need_cell", none), "need_cell", "need_cell", defArgs s_need_cell, defBody s_need_cell, defScope s_need_cell, [], []⟩
def d_need_walk : He.DefD := ⟨("need_walk", none), "need_walk", "need_walk", defArgs s_need_walk, defBody s_need_walk, defScope s_need_walk, [], []⟩
def d_is_atlas : He.DefD := ⟨("is_atlas", none), "is_atlas", "is_atlas", defArgs s_is_atlas, defBody s_is_atlas, defScope s_is_atlas, [], []⟩
def d_pages_at : He.DefD := ⟨("pages_at", none), "pages_at", "pages_at", defArgs s_pages_at, defBody s_pages_at, defScope s_pages_at, [], []⟩
def d_cells_along : He.DefD := ⟨("cells_along", none), "cells_along", "cells_along", defArgs s_cells_along, defBody s_cells_along, defScope s_cells_along, [], []⟩
def d__law_deck : He.DefD := ⟨("_law_deck", none), "_law_deck", "_law_deck", defArgs s__law_deck, defBody s__law_deck, defScope s__law_deck, [], []⟩
def d__law_pick : He.DefD := ⟨("_law_pick", none), "_law_pick", "_law_pick", defArgs s__law_pick, defBody s__law_pick, defScope s__law_pick, [], []⟩
def d__law_whole : He.DefD := ⟨("_law_whole", none), "_law_whole", "_law_whole", defArgs s__law_whole, defBody s__law_whole, defScope s__law_whole, [], []⟩
def d__law_one : He.DefD := ⟨("_law_one", none), "_law_one", "_law_one", defArgs s__law_one, defBody s__law_one, defScope s__law_one, [], []⟩
def d__law_sort : He.DefD := ⟨("_law_sort", none), "_law_sort", "_law_sort", defArgs s__law_sort, defBody s__law_sort, defScope s__law_sort, [], []⟩
def d__law_same : He.DefD := ⟨("_law_same", none), "_law_same", "_law_same", defArgs s__law_same, defBody s__law_same, defScope s__law_same, [], []⟩
def d__law_kin : He.DefD := ⟨("_law_kin", none), "_law_kin", "_law_kin", defArgs s__law_kin, defBody s__law_kin, defScope s__law_kin, [], []⟩
def d__law_try : He.DefD := ⟨("_law_try", none), "_law_try", "_law_try", defArgs s__law_try, defBody s__law_try, defScope s__law_try, [], []⟩
def d__law_bands : He.DefD := ⟨("_law_bands", none), "_law_bands", "_law_bands", defArgs s__law_bands, defBody s__law_bands, defScope s__law_bands, [], []⟩
def d__law_mixed : He.DefD := ⟨("_law_mixed", none), "_law_mixed", "_law_mixed", defArgs s__law_mixed, defBody s__law_mixed, defScope s__law_mixed, [], []⟩
def d__law_any_page : He.DefD := ⟨("_law_any_page", none), "_law_any_page", "_law_any_page", defArgs s__law_any_page, defBody s__law_any_page, defScope s__law_any_page, [], []⟩
def d__law_drawn : He.DefD := ⟨("_law_drawn", none), "_law_drawn", "_law_drawn", defArgs s__law_drawn, defBody s__law_drawn, defScope s__law_drawn, [], []⟩
def d__law_holds : He.DefD := ⟨("_law_holds", none), "_law_holds", "_law_holds", defArgs s__law_holds, defBody s__law_holds, defScope s__law_holds, [], []⟩
def d__law_all_cells : He.DefD := ⟨("_law_all_cells", none), "_law_all_cells", "_law_all_cells", defArgs s__law_all_cells, defBody s__law_all_cells, defScope s__law_all_cells, [], []⟩
def d__law_held_by : He.DefD := ⟨("_law_held_by", none), "_law_held_by", "_law_held_by", defArgs s__law_held_by, defBody s__law_held_by, defScope s__law_held_by, [], []⟩
def d__law_behind : He.DefD := ⟨("_law_behind", none), "_law_behind", "_law_behind", defArgs s__law_behind, defBody s__law_behind, defScope s__law_behind, [], []⟩
def d__law_is_cell : He.DefD := ⟨("_law_is_cell", none), "_law_is_cell", "_law_is_cell", defArgs s__law_is_cell, defBody s__law_is_cell, defScope s__law_is_cell, [], []⟩
def d__law_ways : He.DefD := ⟨("_law_ways", none), "_law_ways", "_law_ways", defArgs s__law_ways, defBody s__law_ways, defScope s__law_ways, [], []⟩
def d__law_some_walk : He.DefD := ⟨("_law_some_walk", none), "_law_some_walk", "_law_some_walk", defArgs s__law_some_walk, defBody s__law_some_walk, defScope s__law_some_walk, [], []⟩
def d__law_spoilt : He.DefD := ⟨("_law_spoilt", none), "_law_spoilt", "_law_spoilt", defArgs s__law_spoilt, defBody s__law_spoilt, defScope s__law_spoilt, [], []⟩
def d__law_in : He.DefD := ⟨("_law_in", none), "_law_in", "_law_in", defArgs s__law_in, defBody s__law_in, defScope s__law_in, [], []⟩
def d__law_is_page : He.DefD := ⟨("_law_is_page", none), "_law_is_page", "_law_is_page", defArgs s__law_is_page, defBody s__law_is_page, defScope s__law_is_page, [], []⟩
def d__law_is_atlas : He.DefD := ⟨("_law_is_atlas", none), "_law_is_atlas", "_law_is_atlas", defArgs s__law_is_atlas, defBody s__law_is_atlas, defScope s__law_is_atlas, [], []⟩
def d__law_edges_of_bounds : He.DefD := ⟨("_law_edges_of_bounds", none), "_law_edges_of_bounds", "_law_edges_of_bounds", defArgs s__law_edges_of_bounds, defBody s__law_edges_of_bounds, defScope s__law_edges_of_bounds, [], []⟩
def d_law : He.DefD := ⟨("law", none), "law", "law", defArgs s_law, defBody s_law, defScope s_law, [], []⟩
def fn : List He.DefD := [d_is_within, d_is_page, d_holds, d_cells_of, d_pages_of, d_is_atlas_value, d_is_cell, d_moved, d_walked, d_is_walk_from, d_need_atlas, d_need_cell, d_need_walk, d_is_atlas, d_pages_at, d_cells_along, d__law_deck, d__law_pick, d__law_whole, d__law_one, d__law_sort, d__law_same, d__law_kin, d__law_try, d__law_bands, d__law_mixed, d__law_any_page, d__law_drawn, d__law_holds, d__law_all_cells, d__law_held_by, d__law_behind, d__law_is_cell, d__law_ways, d__law_some_walk, d__law_spoilt, d__law_in, d__law_is_page, d__law_is_atlas, d__law_edges_of_bounds, d_law]
def fa : List He.Fa := [.glo "is_within", .glo "is_page", .glo "holds", .glo "cells_of", .glo "pages_of", .glo "is_atlas_value", .glo "is_cell", .glo "moved", .glo "walked", .glo "is_walk_from", .glo "need_atlas", .glo "need_cell", .glo "need_walk", .glo "is_atlas", .glo "pages_at", .glo "cells_along", .glo "_law_deck", .glo "_law_pick", .glo "_law_whole", .glo "_law_one", .glo "_law_sort", .glo "_law_same", .glo "_law_kin", .glo "_law_try", .glo "_law_bands", .glo "_law_mixed", .glo "_law_any_page", .glo "_law_drawn", .glo "_law_holds", .glo "_law_all_cells", .glo "_law_held_by", .glo "_law_behind", .glo "_law_is_cell", .glo "_law_ways", .glo "_law_some_walk", .glo "_law_spoilt", .glo "_law_in", .glo "_law_is_page", .glo "_law_is_atlas", .glo "_law_edges_of_bounds", .glo "law", .glo "MOVES", .glo "InvalidAtlas", .glo "InvalidCell", .glo "InvalidWalk", .glo "InvalidRule", .glo "InvalidPage", .glo "InvalidNumber", .glo "InvalidShare", .glo "InvalidTable", .glo "InvalidHeard", .glo "Unlike", .glo "NothingToUndo", .glo "TooMany", .glo "InvalidText", .glo "AtlasError", .int "MOST_PAGES" 6, .int "MOST_STEPS" 60, .int "MOST_WIDE" 8, .str "WAYS" "nesw", .free "ValueError", .free "all", .free "bool", .free "enumerate", .free "int", .free "isinstance", .free "len", .free "list", .free "max", .free "min", .free "range", .free "set", .free "sorted", .free "str", .free "tuple", .free "zip", .exc "InvalidAtlas", .exc "InvalidCell", .exc "InvalidWalk"]
def loose : List PySem.Str := (["AtlasError", "InvalidAtlas", "InvalidCell", "InvalidWalk", "InvalidRule", "InvalidPage", "InvalidNumber", "InvalidShare", "InvalidTable", "InvalidHeard", "Unlike", "NothingToUndo", "TooMany", "InvalidText", "MOST_WIDE", "MOST_PAGES", "MOST_STEPS", "WAYS", "MOVES", "is_within"] : List PySem.Str) ++ (["is_page", "holds", "cells_of", "pages_of", "is_atlas_value", "is_cell", "moved", "walked", "is_walk_from", "need_atlas", "need_cell", "need_walk", "is_atlas", "pages_at", "cells_along", "_law_deck", "_law_pick", "_law_whole", "_law_one", "_law_sort"] : List PySem.Str) ++ (["_law_same", "_law_kin", "_law_try", "_law_bands", "_law_mixed", "_law_any_page", "_law_drawn", "_law_holds", "_law_all_cells", "_law_held_by", "_law_behind", "_law_is_cell", "_law_ways", "_law_some_walk", "_law_spoilt", "_law_in", "_law_is_page", "_law_is_atlas", "_law_edges_of_bounds"] : List PySem.Str)
def ts : List He.Tab := [(fun K => He.ga K "MOVES", ["n", "e", "s", "w"])]
def ex (K : PySem.W.Frag) : Bool := Dl.dicB K (He.ga K "MOVES") [("n", [(.int 0), (.int (-1))]), ("e", [(.int 1), (.int 0)]), ("s", [(.int 0), (.int 1)]), ("w", [(.int (-1)), (.int 0)])] && (Dl.kinFB K && (Dl.codB K (He.ga K "law") (He.cT K ("law", none)).1 && true))
abbrev R : PySem.W.OpenRow := PySem.W.OpenLaw.row PySem.Challenge.rw_atlasturns_k01_atlases_recognized
abbrev hk : PySem.W.Hook := He.hookX 4 fa fn ts [("law", none)] ex
def ob (s : PySem.W.SharedT) : He.AlX := He.obsX 4 fa fn ts [("law", none)] ex (HandSHeadRun.getT s)
theorem ob_eq (s : PySem.W.SharedT) : ob s = hk.obs s.abs := He.obsX_eq (HandSHeadRun.getT_eq s)
theorem runT (w : World) : HandSHeadRun.RunEq R (PySem.W.view R.prog [62]) hk ob 9000 loose (withRow w true) := by
  intro os
  kernel_rfl
theorem runF (w : World) : HandSHeadRun.RunEq R (PySem.W.view R.prog [62]) hk ob 9000 loose (withRow w false) := by
  intro os
  kernel_rfl
theorem run (w : World) : HandSHeadRun.RunEq R (PySem.W.view R.prog [62]) hk ob 9000 loose w := by_row w (runT w) (runF w)
theorem facts {P : Program} {w : World} {K : PySem.W.Frag} {h : Heap} {mg : Str → Option Value} {f : Addr} (X : K.In h) (G : h.Ns mainGlobals mg) (hfa : mg ("law" : Str) = some (.ref f)) (c : He.SaysX fa fn ts [("law", none)] ex w h K) :
    ∃ fd : FuncData, (∀ (s : Shared) (v : Value), BindsTo s fd ⟨[v], []⟩ [("script", v)]) ∧ ∀ base : Heap, K.In base → base.Ns mainGlobals mg → (∀ p ∈ [He.cT K ("law", none)], LamX.TabB base mg p.1 p.2) → FnOk P w K mg base (L2N.CX P w) 13 f fd ["script"] (spL K [((He.cT K ("law", none)).2, lamLaw)] 1 F_law) := by
  have cd := c.t.d
  obtain ⟨fd_is_within, D_is_within⟩ := cd.def_ 0 (d := d_is_within) rfl
  have G_is_within := He.glo_ok X G (cd.fact 0 (f := .glo "is_within") rfl)
  obtain ⟨fd_is_page, D_is_page⟩ := cd.def_ 1 (d := d_is_page) rfl
  have G_is_page := He.glo_ok X G (cd.fact 1 (f := .glo "is_page") rfl)
  obtain ⟨fd_holds, D_holds⟩ := cd.def_ 2 (d := d_holds) rfl
  have G_holds := He.glo_ok X G (cd.fact 2 (f := .glo "holds") rfl)
  obtain ⟨fd_cells_of, D_cells_of⟩ := cd.def_ 3 (d := d_cells_of) rfl
  have G_cells_of := He.glo_ok X G (cd.fact 3 (f := .glo "cells_of") rfl)
  obtain ⟨fd_pages_of, D_pages_of⟩ := cd.def_ 4 (d := d_pages_of) rfl
  have G_pages_of := He.glo_ok X G (cd.fact 4 (f := .glo "pages_of") rfl)
  obtain ⟨fd_is_atlas_value, D_is_atlas_value⟩ := cd.def_ 5 (d := d_is_atlas_value) rfl
  have G_is_atlas_value := He.glo_ok X G (cd.fact 5 (f := .glo "is_atlas_value") rfl)
  obtain ⟨fd_is_cell, D_is_cell⟩ := cd.def_ 6 (d := d_is_cell) rfl
  have G_is_cell := He.glo_ok X G (cd.fact 6 (f := .glo "is_cell") rfl)
  obtain ⟨fd_moved, D_moved⟩ := cd.def_ 7 (d := d_moved) rfl
  have G_moved := He.glo_ok X G (cd.fact 7 (f := .glo "moved") rfl)
  obtain ⟨fd_walked, D_walked⟩ := cd.def_ 8 (d := d_walked) rfl
  have G_walked := He.glo_ok X G (cd.fact 8 (f := .glo "walked") rfl)
  obtain ⟨fd_is_walk_from, D_is_walk_from⟩ := cd.def_ 9 (d := d_is_walk_from) rfl
  have G_is_walk_from := He.glo_ok X G (cd.fact 9 (f := .glo "is_walk_from") rfl)
  obtain ⟨fd_need_atlas, D_need_atlas⟩ := cd.def_ 10 (d := d_need_atlas) rfl
  have G_need_atlas := He.glo_ok X G (cd.fact 10 (f := .glo "need_atlas") rfl)
  obtain ⟨fd_need_cell, D_need_cell⟩ := cd.def_ 11 (d := d_need_cell) rfl
  have G_need_cell := He.glo_ok X G (cd.fact 11 (f := .glo "need_cell") rfl)
  obtain ⟨fd_need_walk, D_need_walk⟩ := cd.def_ 12 (d := d_need_walk) rfl
  have G_need_walk := He.glo_ok X G (cd.fact 12 (f := .glo "need_walk") rfl)
  obtain ⟨fd_is_atlas, D_is_atlas⟩ := cd.def_ 13 (d := d_is_atlas) rfl
  have G_is_atlas := He.glo_ok X G (cd.fact 13 (f := .glo "is_atlas") rfl)
  obtain ⟨fd_pages_at, D_pages_at⟩ := cd.def_ 14 (d := d_pages_at) rfl
  have G_pages_at := He.glo_ok X G (cd.fact 14 (f := .glo "pages_at") rfl)
  obtain ⟨fd_cells_along, D_cells_along⟩ := cd.def_ 15 (d := d_cells_along) rfl
  have G_cells_along := He.glo_ok X G (cd.fact 15 (f := .glo "cells_along") rfl)
  obtain ⟨fd__law_deck, D__law_deck⟩ := cd.def_ 16 (d := d__law_deck) rfl
  have G__law_deck := He.glo_ok X G (cd.fact 16 (f := .glo "_law_deck") rfl)
  obtain ⟨fd__law_pick, D__law_pick⟩ := cd.def_ 17 (d := d__law_pick) rfl
  have G__law_pick := He.glo_ok X G (cd.fact 17 (f := .glo "_law_pick") rfl)
  obtain ⟨fd__law_whole, D__law_whole⟩ := cd.def_ 18 (d := d__law_whole) rfl
  have G__law_whole := He.glo_ok X G (cd.fact 18 (f := .glo "_law_whole") rfl)
  obtain ⟨fd__law_one, D__law_one⟩ := cd.def_ 19 (d := d__law_one) rfl
  have G__law_one := He.glo_ok X G (cd.fact 19 (f := .glo "_law_one") rfl)
  obtain ⟨fd__law_sort, D__law_sort⟩ := cd.def_ 20 (d := d__law_sort) rfl
  have G__law_sort := He.glo_ok X G (cd.fact 20 (f := .glo "_law_sort") rfl)
  obtain ⟨fd__law_same, D__law_same⟩ := cd.def_ 21 (d := d__law_same) rfl
  have G__law_same := He.glo_ok X G (cd.fact 21 (f := .glo "_law_same") rfl)
  obtain ⟨fd__law_kin, D__law_kin⟩ := cd.def_ 22 (d := d__law_kin) rfl
  have G__law_kin := He.glo_ok X G (cd.fact 22 (f := .glo "_law_kin") rfl)
  obtain ⟨fd__law_try, D__law_try⟩ := cd.def_ 23 (d := d__law_try) rfl
  have G__law_try := He.glo_ok X G (cd.fact 23 (f := .glo "_law_try") rfl)
  obtain ⟨fd__law_bands, D__law_bands⟩ := cd.def_ 24 (d := d__law_bands) rfl
  have G__law_bands := He.glo_ok X G (cd.fact 24 (f := .glo "_law_bands") rfl)
  obtain ⟨fd__law_mixed, D__law_mixed⟩ := cd.def_ 25 (d := d__law_mixed) rfl
  have G__law_mixed := He.glo_ok X G (cd.fact 25 (f := .glo "_law_mixed") rfl)
  obtain ⟨fd__law_any_page, D__law_any_page⟩ := cd.def_ 26 (d := d__law_any_page) rfl
  have G__law_any_page := He.glo_ok X G (cd.fact 26 (f := .glo "_law_any_page") rfl)
  obtain ⟨fd__law_drawn, D__law_drawn⟩ := cd.def_ 27 (d := d__law_drawn) rfl
  have G__law_drawn := He.glo_ok X G (cd.fact 27 (f := .glo "_law_drawn") rfl)
  obtain ⟨fd__law_holds, D__law_holds⟩ := cd.def_ 28 (d := d__law_holds) rfl
  have G__law_holds := He.glo_ok X G (cd.fact 28 (f := .glo "_law_holds") rfl)
  obtain ⟨fd__law_all_cells, D__law_all_cells⟩ := cd.def_ 29 (d := d__law_all_cells) rfl
  have G__law_all_cells := He.glo_ok X G (cd.fact 29 (f := .glo "_law_all_cells") rfl)
  obtain ⟨fd__law_held_by, D__law_held_by⟩ := cd.def_ 30 (d := d__law_held_by) rfl
  have G__law_held_by := He.glo_ok X G (cd.fact 30 (f := .glo "_law_held_by") rfl)
  obtain ⟨fd__law_behind, D__law_behind⟩ := cd.def_ 31 (d := d__law_behind) rfl
  have G__law_behind := He.glo_ok X G (cd.fact 31 (f := .glo "_law_behind") rfl)
  obtain ⟨fd__law_is_cell, D__law_is_cell⟩ := cd.def_ 32 (d := d__law_is_cell) rfl
  have G__law_is_cell := He.glo_ok X G (cd.fact 32 (f := .glo "_law_is_cell") rfl)
  obtain ⟨fd__law_ways, D__law_ways⟩ := cd.def_ 33 (d := d__law_ways) rfl
  have G__law_ways := He.glo_ok X G (cd.fact 33 (f := .glo "_law_ways") rfl)
  obtain ⟨fd__law_some_walk, D__law_some_walk⟩ := cd.def_ 34 (d := d__law_some_walk) rfl
  have G__law_some_walk := He.glo_ok X G (cd.fact 34 (f := .glo "_law_some_walk") rfl)
  obtain ⟨fd__law_spoilt, D__law_spoilt⟩ := cd.def_ 35 (d := d__law_spoilt) rfl
  have G__law_spoilt := He.glo_ok X G (cd.fact 35 (f := .glo "_law_spoilt") rfl)
  obtain ⟨fd__law_in, D__law_in⟩ := cd.def_ 36 (d := d__law_in) rfl
  have G__law_in := He.glo_ok X G (cd.fact 36 (f := .glo "_law_in") rfl)
  obtain ⟨fd__law_is_page, D__law_is_page⟩ := cd.def_ 37 (d := d__law_is_page) rfl
  have G__law_is_page := He.glo_ok X G (cd.fact 37 (f := .glo "_law_is_page") rfl)
  obtain ⟨fd__law_is_atlas, D__law_is_atlas⟩ := cd.def_ 38 (d := d__law_is_atlas) rfl
  have G__law_is_atlas := He.glo_ok X G (cd.fact 38 (f := .glo "_law_is_atlas") rfl)
  obtain ⟨fd__law_edges_of_bounds, D__law_edges_of_bounds⟩ := cd.def_ 39 (d := d__law_edges_of_bounds) rfl
  have G__law_edges_of_bounds := He.glo_ok X G (cd.fact 39 (f := .glo "_law_edges_of_bounds") rfl)
  obtain ⟨fd_law, D_law⟩ := cd.def_ 40 (d := d_law) rfl
  have G_law := He.glo_ok X G (cd.fact 40 (f := .glo "law") rfl)
  have hx : ex K = true := c.more
  unfold ex at hx
  obtain ⟨x_0_, hx⟩ := He.ba hx
  have m_MOVES : GDic K w mg "MOVES" (([("n", [(.int 0), (.int (-1))]), ("e", [(.int 1), (.int 0)]), ("s", [(.int 0), (.int 1)]), ("w", [(.int (-1)), (.int 0)])] : List (Str × List PyData)).map fun q => (q.1, PyData.tuple q.2)) := gdic_of (He.glo_ok X G (cd.fact 41 (f := .glo "MOVES") rfl)) (c.t.tab 0) x_0_
  obtain ⟨x_1_, hx⟩ := He.ba hx
  obtain ⟨x_2_, hx⟩ := He.ba hx
  have gx_InvalidAtlas := He.glo_ok X G (cd.fact 42 (f := .glo "InvalidAtlas") rfl)
  have gx_InvalidCell := He.glo_ok X G (cd.fact 43 (f := .glo "InvalidCell") rfl)
  have gx_InvalidWalk := He.glo_ok X G (cd.fact 44 (f := .glo "InvalidWalk") rfl)
  have gx_InvalidRule := He.glo_ok X G (cd.fact 45 (f := .glo "InvalidRule") rfl)
  have gx_InvalidPage := He.glo_ok X G (cd.fact 46 (f := .glo "InvalidPage") rfl)
  have gx_InvalidNumber := He.glo_ok X G (cd.fact 47 (f := .glo "InvalidNumber") rfl)
  have gx_InvalidShare := He.glo_ok X G (cd.fact 48 (f := .glo "InvalidShare") rfl)
  have gx_InvalidTable := He.glo_ok X G (cd.fact 49 (f := .glo "InvalidTable") rfl)
  have gx_InvalidHeard := He.glo_ok X G (cd.fact 50 (f := .glo "InvalidHeard") rfl)
  have gx_Unlike := He.glo_ok X G (cd.fact 51 (f := .glo "Unlike") rfl)
  have gx_NothingToUndo := He.glo_ok X G (cd.fact 52 (f := .glo "NothingToUndo") rfl)
  have gx_TooMany := He.glo_ok X G (cd.fact 53 (f := .glo "TooMany") rfl)
  have gx_InvalidText := He.glo_ok X G (cd.fact 54 (f := .glo "InvalidText") rfl)
  have gx_AtlasError := He.glo_ok X G (cd.fact 55 (f := .glo "AtlasError") rfl)
  have hgx : ∀ x ∈ excNames, mg x = some (.ref (He.ga K x)) := (List.forall_mem_cons.mpr ⟨gx_InvalidAtlas, (List.forall_mem_cons.mpr ⟨gx_InvalidCell, (List.forall_mem_cons.mpr ⟨gx_InvalidWalk, (List.forall_mem_cons.mpr ⟨gx_InvalidRule, (List.forall_mem_cons.mpr ⟨gx_InvalidPage, (List.forall_mem_cons.mpr ⟨gx_InvalidNumber, (List.forall_mem_cons.mpr ⟨gx_InvalidShare, (List.forall_mem_cons.mpr ⟨gx_InvalidTable, (List.forall_mem_cons.mpr ⟨gx_InvalidHeard, (List.forall_mem_cons.mpr ⟨gx_Unlike, (List.forall_mem_cons.mpr ⟨gx_NothingToUndo, (List.forall_mem_cons.mpr ⟨gx_TooMany, (List.forall_mem_cons.mpr ⟨gx_InvalidText, (fun _ h => nomatch h)⟩)⟩)⟩)⟩)⟩)⟩)⟩)⟩)⟩)⟩)⟩)⟩)⟩)
  have kf := kinF_of x_1_ hgx
  have g_MOST_PAGES := He.int_ok X G (cd.fact 56 (f := .int "MOST_PAGES" 6) rfl)
  have g_MOST_STEPS := He.int_ok X G (cd.fact 57 (f := .int "MOST_STEPS" 60) rfl)
  have g_MOST_WIDE := He.int_ok X G (cd.fact 58 (f := .int "MOST_WIDE" 8) rfl)
  have g_WAYS := He.str_ok X G (cd.fact 59 (f := .str "WAYS" "nesw") rfl)
  have n_ValueError := He.free_ok X G (cd.fact 60 (f := .free "ValueError") rfl)
  have n_all := He.free_ok X G (cd.fact 61 (f := .free "all") rfl)
  have n_bool := He.free_ok X G (cd.fact 62 (f := .free "bool") rfl)
  have n_enumerate := He.free_ok X G (cd.fact 63 (f := .free "enumerate") rfl)
  have n_int := He.free_ok X G (cd.fact 64 (f := .free "int") rfl)
  have n_isinstance := He.free_ok X G (cd.fact 65 (f := .free "isinstance") rfl)
  have n_len := He.free_ok X G (cd.fact 66 (f := .free "len") rfl)
  have n_list := He.free_ok X G (cd.fact 67 (f := .free "list") rfl)
  have n_max := He.free_ok X G (cd.fact 68 (f := .free "max") rfl)
  have n_min := He.free_ok X G (cd.fact 69 (f := .free "min") rfl)
  have n_range := He.free_ok X G (cd.fact 70 (f := .free "range") rfl)
  have n_set := He.free_ok X G (cd.fact 71 (f := .free "set") rfl)
  have n_sorted := He.free_ok X G (cd.fact 72 (f := .free "sorted") rfl)
  have n_str := He.free_ok X G (cd.fact 73 (f := .free "str") rfl)
  have n_tuple := He.free_ok X G (cd.fact 74 (f := .free "tuple") rfl)
  have n_zip := He.free_ok X G (cd.fact 75 (f := .free "zip") rfl)
  have x_InvalidAtlas : ExcC K mg "InvalidAtlas" := ⟨⟨_, He.glo_ok X G (cd.fact 42 (f := .glo "InvalidAtlas") rfl), (He.exc_ok (cd.fact 76 (f := .exc "InvalidAtlas") rfl)).1, (He.exc_ok (cd.fact 76 (f := .exc "InvalidAtlas") rfl)).2.1, (He.exc_ok (cd.fact 76 (f := .exc "InvalidAtlas") rfl)).2.2.1, (He.exc_ok (cd.fact 76 (f := .exc "InvalidAtlas") rfl)).2.2.2⟩⟩
  have x_InvalidCell : ExcC K mg "InvalidCell" := ⟨⟨_, He.glo_ok X G (cd.fact 43 (f := .glo "InvalidCell") rfl), (He.exc_ok (cd.fact 77 (f := .exc "InvalidCell") rfl)).1, (He.exc_ok (cd.fact 77 (f := .exc "InvalidCell") rfl)).2.1, (He.exc_ok (cd.fact 77 (f := .exc "InvalidCell") rfl)).2.2.1, (He.exc_ok (cd.fact 77 (f := .exc "InvalidCell") rfl)).2.2.2⟩⟩
  have x_InvalidWalk : ExcC K mg "InvalidWalk" := ⟨⟨_, He.glo_ok X G (cd.fact 44 (f := .glo "InvalidWalk") rfl), (He.exc_ok (cd.fact 78 (f := .exc "InvalidWalk") rfl)).1, (He.exc_ok (cd.fact 78 (f := .exc "InvalidWalk") rfl)).2.1, (He.exc_ok (cd.fact 78 (f := .exc "InvalidWalk") rfl)).2.2.1, (He.exc_ok (cd.fact 78 (f := .exc "InvalidWalk") rfl)).2.2.2⟩⟩
  have c_is_within : ∀ base, Callee P w K mg base "is_within" 1 (spP K mg 3 F_is_within) := fun base => ok_is_within D_is_within G_is_within n_bool n_int n_isinstance
  have c_is_page : ∀ base, Callee P w K mg base "is_page" 2 (spP K mg 4 F_is_page) := fun base => ok_is_page D_is_page G_is_page (c_is_within base) n_all n_isinstance n_len n_tuple
  have c_holds : ∀ base, Callee P w K mg base "holds" 1 (spP K mg 2 F_holds) := fun base => ok_holds D_holds G_holds 
  have c_cells_of : ∀ base, Callee P w K mg base "cells_of" 1 (spP K mg 1 F_cells_of) := fun base => ok_cells_of D_cells_of G_cells_of n_range
  have c_pages_of : ∀ base, Callee P w K mg base "pages_of" 2 (spP K mg 2 F_pages_of) := fun base => ok_pages_of D_pages_of G_pages_of (c_holds base) n_enumerate
  have c_is_atlas_value : ∀ base, Callee P w K mg base "is_atlas_value" 3 (spP K mg 1 F_is_atlas_value) := fun base => ok_is_atlas_value D_is_atlas_value G_is_atlas_value (c_cells_of base) (c_is_page base) (c_is_within base) (c_pages_of base) g_MOST_PAGES g_MOST_WIDE n_all n_isinstance n_len n_tuple
  have c_is_cell : ∀ base, Callee P w K mg base "is_cell" 2 (spP K mg 3 F_is_cell) := fun base => ok_is_cell D_is_cell G_is_cell (c_is_within base)
  have c_moved : ∀ base, Callee P w K mg base "moved" 1 (spP K mg 2 F_moved) := fun base => ok_moved D_moved G_moved m_MOVES
  have c_walked : ∀ base, Callee P w K mg base "walked" 2 (spP K mg 2 F_walked) := fun base => ok_walked D_walked G_walked (c_moved base)
  have c_is_walk_from : ∀ base, Callee P w K mg base "is_walk_from" 3 (spP K mg 3 F_is_walk_from) := fun base => ok_is_walk_from D_is_walk_from G_is_walk_from (c_is_cell base) (c_walked base) g_MOST_STEPS g_WAYS n_all n_isinstance n_len n_str
  have c_need_atlas : ∀ base, Callee P w K mg base "need_atlas" 4 (spP K mg 1 F_need_atlas) := fun base => ok_need_atlas D_need_atlas G_need_atlas (c_is_atlas_value base) x_InvalidAtlas
  have c_need_cell : ∀ base, Callee P w K mg base "need_cell" 3 (spP K mg 3 F_need_cell) := fun base => ok_need_cell D_need_cell G_need_cell (c_is_cell base) x_InvalidCell
  have c_need_walk : ∀ base, Callee P w K mg base "need_walk" 4 (spP K mg 3 F_need_walk) := fun base => ok_need_walk D_need_walk G_need_walk (c_is_walk_from base) x_InvalidWalk
  have c_is_atlas : ∀ base, Callee P w K mg base "is_atlas" 4 (spP K mg 1 F_is_atlas) := fun base => ok_is_atlas D_is_atlas G_is_atlas (c_is_atlas_value base)
  have c_pages_at : ∀ base, Callee P w K mg base "pages_at" 5 (spP K mg 3 F_pages_at) := fun base => ok_pages_at D_pages_at G_pages_at (c_need_atlas base) (c_need_cell base) (c_pages_of base)
  have c_cells_along : ∀ base, Callee P w K mg base "cells_along" 5 (spP K mg 4 F_cells_along) := fun base => ok_cells_along D_cells_along G_cells_along (c_need_atlas base) (c_need_cell base) (c_need_walk base) (c_walked base)
  have c__law_deck : ∀ base, Callee P w K mg base "_law_deck" 1 (spO K mg 2 F__law_deck) := fun base => ok__law_deck D__law_deck G__law_deck 
  have c__law_pick : ∀ base, Callee P w K mg base "_law_pick" 1 (spB K 1 F__law_pick) := fun base => ok__law_pick D__law_pick G__law_pick n_int
  have c__law_whole : ∀ base, Callee P w K mg base "_law_whole" 1 (spP K mg 1 F__law_whole) := fun base => ok__law_whole D__law_whole G__law_whole n_bool n_int n_isinstance
  have c__law_one : ∀ base, Callee P w K mg base "_law_one" 2 (spB K 1 F__law_one) := fun base => ok__law_one D__law_one G__law_one (c__law_pick base) n_len
  have c__law_sort : ∀ base, Callee P w K mg base "_law_sort" 1 (spP K mg 1 F__law_sort) := fun base => ok__law_sort D__law_sort G__law_sort n_bool n_int n_isinstance n_list n_str n_tuple
  have c__law_same : ∀ base, Callee P w K mg base "_law_same" 10 (spP K mg 2 (F__law_same 8)) := fun base => ok__law_same D__law_same G__law_same (c__law_sort base) n_enumerate n_len 8
  have kin : ∀ base, KinOk P w K mg base "_law_kin" (kinC K mg) := fun base => ok__law_kin D__law_kin G__law_kin n_isinstance n_zip n_ValueError fun x hx => ⟨_, hgx x hx⟩
  have q__law_try : ∀ base, TryOk P w K mg base "_law_try" := fun base => ok__law_try D__law_try G__law_try (kin base) kf gx_TooMany gx_InvalidText gx_AtlasError
  have c__law_bands : ∀ base, Callee P w K mg base "_law_bands" 3 (spB K 2 F__law_bands) := fun base => ok__law_bands D__law_bands G__law_bands (c__law_one base) (c__law_pick base) n_len n_max n_min n_range n_set n_sorted
  have c__law_mixed : ∀ base, Callee P w K mg base "_law_mixed" 2 (spB K 1 F__law_mixed) := fun base => ok__law_mixed D__law_mixed G__law_mixed (c__law_pick base) n_len n_list
  have c__law_any_page : ∀ base, Callee P w K mg base "_law_any_page" 2 (spB K 2 F__law_any_page) := fun base => ok__law_any_page D__law_any_page G__law_any_page (c__law_pick base)
  have c__law_drawn : ∀ base, Callee P w K mg base "_law_drawn" 4 (spB K 3 F__law_drawn) := fun base => ok__law_drawn D__law_drawn G__law_drawn (c__law_any_page base) (c__law_bands base) (c__law_mixed base) (c__law_one base) (c__law_pick base) n_len n_range n_tuple
  have c__law_holds : ∀ base, Callee P w K mg base "_law_holds" 1 (spP K mg 2 F__law_holds) := fun base => ok__law_holds D__law_holds G__law_holds 
  have c__law_all_cells : ∀ base, Callee P w K mg base "_law_all_cells" 1 (spP K mg 1 F__law_all_cells) := fun base => ok__law_all_cells D__law_all_cells G__law_all_cells n_range
  have c__law_held_by : ∀ base, Callee P w K mg base "_law_held_by" 2 (spP K mg 2 F__law_held_by) := fun base => ok__law_held_by D__law_held_by G__law_held_by (c__law_holds base) n_len n_range
  have c__law_behind : ∀ base, Callee P w K mg base "_law_behind" 1 (spP K mg 2 F__law_behind) := fun base => ok__law_behind D__law_behind G__law_behind n_int
  have c__law_is_cell : ∀ base, Callee P w K mg base "_law_is_cell" 1 (spP K mg 2 F__law_is_cell) := fun base => ok__law_is_cell D__law_is_cell G__law_is_cell 
  have c__law_ways : ∀ base, Callee P w K mg base "_law_ways" 2 (spP K mg 2 F__law_ways) := fun base => ok__law_ways D__law_ways G__law_ways (c__law_behind base) (c__law_is_cell base)
  have c__law_some_walk : ∀ base, Callee P w K mg base "_law_some_walk" 3 (spB K 3 F__law_some_walk) := fun base => ok__law_some_walk D__law_some_walk G__law_some_walk (c__law_behind base) (c__law_one base) (c__law_pick base) (c__law_ways base) n_range
  have c__law_spoilt : ∀ base, Callee P w K mg base "_law_spoilt" 10 (spB K 1 (F__law_spoilt 8)) := fun base => ok__law_spoilt D__law_spoilt G__law_spoilt (c__law_pick base) (c__law_whole base) n_isinstance n_len n_list n_tuple 8
  have c__law_in : ∀ base, Callee P w K mg base "_law_in" 2 (spP K mg 3 F__law_in) := fun base => ok__law_in D__law_in G__law_in (c__law_whole base)
  have c__law_is_page : ∀ base, Callee P w K mg base "_law_is_page" 3 (spP K mg 4 F__law_is_page) := fun base => ok__law_is_page D__law_is_page G__law_is_page (c__law_in base) n_isinstance n_len n_tuple
  have c__law_is_atlas : ∀ base, Callee P w K mg base "_law_is_atlas" 4 (spP K mg 1 F__law_is_atlas) := fun base => ok__law_is_atlas D__law_is_atlas G__law_is_atlas (c__law_all_cells base) (c__law_held_by base) (c__law_in base) (c__law_is_page base) n_isinstance n_len n_tuple
  have c__law_edges_of_bounds : ∀ base, Callee P w K mg base "_law_edges_of_bounds" 1 (spP K mg 0 F__law_edges_of_bounds) := fun base => ok__law_edges_of_bounds D__law_edges_of_bounds G__law_edges_of_bounds 
  have e := hfa.symm.trans G_law
  cases e
  have b := FunD.bindsA (ps := ["script"]) D_law fun _ _ _ _ _ _ us hl => match us, hl with | [_], _ => rfl
  exact ⟨fd_law, fun s v => b s [v] rfl, fun base _ _ tb => ok_law D_law G_law (c__law_all_cells base) (c__law_behind base) (c__law_deck base) (c__law_drawn base) (c__law_edges_of_bounds base) (c__law_held_by base) (c__law_is_atlas base) (c__law_one base) (c__law_same base) (c__law_some_walk base) (c__law_spoilt base) (c_cells_along base) (c_is_atlas base) (c_pages_at base) n_range (q__law_try base) x_2_ (tb _ (List.Mem.head _))⟩
theorem sp_law {K : PySem.W.Frag} {H : Hp} {a : Addr} {ns : List Int} (hl : ns.length ≤ 63) (hP : H (He.cT K ("law", none)).2 = some (.tbl #[])) (hS : SqL K H a (ns.map V.int)) : spL K [((He.cT K ("law", none)).2, lamLaw)] 1 F_law [.ref a] H (fun v _ => v = .bl true) (fun _ _ _ => False) :=
  spL_ints hP hS ⟨_, law_true ns hl⟩
end Atl
open PySem PySem.W PySem.Calls PyProof.Rows
theorem PySem.Challenge.cw_atlasturns_k01_atlases_recognized_holds : PySem.Challenge.rw_atlasturns_k01_atlases_recognized.Holds := by
  w_on; o_law
  refine HandSHeadRun.head_any (r := OpenLaw.row PySem.Challenge.rw_atlasturns_k01_atlases_recognized) (q := view (OpenLaw.row PySem.Challenge.rw_atlasturns_k01_atlases_recognized).prog [62]) (H := Atl.hk) (ob := Atl.ob) (M := 9000) (loose := Atl.loose) (d := HandSHeadRun.topDef (OpenLaw.row PySem.Challenge.rw_atlasturns_k01_atlases_recognized).prog 62) (kwd := []) Atl.ob_eq
    (by kernel_rfl) (fun s => by kernel_rfl) Atl.run (by kernel_rfl) (by kernel_rfl) (by kernel_rfl) (by rfl) (by first | assumption | decide +kernel) (by decide +kernel) ⟨rfl, rfl, rfl, rfl, rfl, by decide +kernel⟩ ?hw ?hc
  case hw => w_witness2
  case hc =>
    refine Dl.walk_ownT (l := PySem.Challenge.rw_atlasturns_k01_atlases_recognized) (n := 63) (k := 13) (x := "script") rfl (by decide) (by kernel_rfl) ⟨rfl, by decide, by decide⟩ ?F
    intro w mg fa h Y G hmg0
    obtain ⟨K, KX, c⟩ := Y
    have hmg : mg ("law" : PySem.Str) = some (.ref fa) := by
      have e : (HandSHeadRun.topDef (OpenLaw.row PySem.Challenge.rw_atlasturns_k01_atlases_recognized).prog 62).name = ("law" : PySem.Str) := by kernel_rfl
      rw [← e]
      exact hmg0
    obtain ⟨fd, hb, hF⟩ := Atl.facts (P := (PySem.Challenge.rw_atlasturns_k01_atlases_recognized).prog) (w := w) KX G hmg c
    have one : ∀ {Z : Addr × Addr → Prop}, Z (He.cT K ("law", none)) → ∀ p ∈ [He.cT K ("law", none)], Z p := fun z p hp => by
      cases hp with
      | head => exact z
      | tail _ h => cases h
    exact ⟨K, fd, [He.cT K ("law", none)], Dl.spL K [((He.cT K ("law", none)).2, Dl.lamLaw)] 1 Atl.F_law, KX, one (c.empty _ (List.Mem.head _)), one (c.out _ (List.Mem.head _)), one (PySem.W.codeHd_of_K KX (c.hd _ (List.Mem.head _))), hb, fun H a ns hl hP hS => Atl.sp_law hl (hP _ (List.Mem.head _)) hS, hF⟩

