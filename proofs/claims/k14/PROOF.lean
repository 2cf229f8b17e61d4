import PyProof.Rows.All
import HandS.EndBits
import Wide.All
import OpenK.AllK
import Wide.FinOn
import HandS.ForMost
import HandS.ForExc
import HandS.IsInst
import HandS.ExcIs
import HandS.Wide
import HandS.WideBits
import HandS.Defaults
import HandS.Evl
import HandS.Flow
import HandS.FStr
import HandS.TryMany
import KE.Datum
import HandS.SortInts
import HandS.SortRule
import KE.DataFind
import KE.SortData
import HandS.HotCalls
import HandS.Style
import HandS.Steps
import HandS.Replace
import KE.DatumMore
import HandS.ForSpec
import HandS.Lambda
import HandS.EndTab
import HandS.SortKw
import KE.SortKeyHeap
import KE.KNestM
import HandS.More
import PyProof.NeKinds
import HandS.Zip
import HandS.TupMul
import HandS.SetKeys
import HandS.WordsDict
import KE.KDictSum
import KE.KDictCopyH
import HandS.Rev
import HandS.TupLen
import HandS.TryElse
import PyProof.AutoSeq1
import PyProof.ReprRoads
import HandS.ListItems
import HandS.TupLe
import HandS.TupSets
import PySem.Challenge.RW_findhall_k14_spans_and_holds
set_option Elab.async false
set_option linter.all false
set_option maxRecDepth 100000
set_option maxHeartbeats 2000000
namespace Fh
open PySem PySem.Spec PyProof.Rows L2 Evl
open PySem.W (Datum)

/-! ### the heap that stays: F within H -/
structure Gr (F H F' H' : Hp) : Prop where
  ff : Ex F F'
  hh : Ex H H'
  fh : Ex F' H'
  nw : ∀ a, H a ≠ none → F a = none → F' a = none
theorem Gr.refl {F H : Hp} (h : Ex F H) : Gr F H F H := ⟨Ex.refl _, Ex.refl _, h, fun _ _ h => h⟩
theorem Gr.of {F H H' : Hp} (h : Ex F H) (h' : Ex H H') : Gr F H F H' := ⟨Ex.refl _, h', h.trans h', fun _ _ h => h⟩
theorem Gr.trans {F H F1 H1 F2 H2 : Hp} (a : Gr F H F1 H1) (b : Gr F1 H1 F2 H2) : Gr F H F2 H2 := ⟨a.ff.trans b.ff, a.hh.trans b.hh, b.fh, fun x h1 h2 => by
  refine b.nw x ?_ (a.nw x h1 h2)
  cases e : H x with
  | none => exact absurd e h1
  | some o =>
    rw [a.hh x o e]
    exact fun z => nomatch z⟩
theorem Gr.newI {F H : Hp} {p : Addr} {o : HO} (h : Ex F H) (hp : H p = none) : Gr F H (upd F p o) (upd H p o) := by
  have fp : F p = none := fresh_back h hp
  refine ⟨Ex.new fp, Ex.new hp, fun a u e => ?_, fun a h1 h2 => ?_⟩
  · by_cases q : a = p
    · rw [q, upd_same] at e ⊢
      exact e
    · rw [upd_ne q] at e ⊢
      exact h a u e
  · have q : a ≠ p := fun q => h1 (q ▸ hp)
    rw [upd_ne q]
    exact h2
theorem Gr.newM {F H : Hp} {p : Addr} {o : HO} (h : Ex F H) (hp : H p = none) : Gr F H F (upd H p o) := Gr.of h (Ex.new hp)
/-- an object made behind the entry changes -/
theorem Gr.mut {F H F' H' : Hp} {p : Addr} {o : HO} (g : Gr F H F' H') (hp : H p = none) (fp : F' p = none) : Gr F H F' (upd H' p o) := ⟨g.ff, Ex.mut g.hh hp, Ex.mut g.fh fp, g.nw⟩
/-- from now on it stays as it is -/
theorem Gr.frz {F H F' H' : Hp} {p : Addr} {o : HO} (g : Gr F H F' H') (hp : H p = none) (h : H' p = some o) : Gr F H (upd F' p o) H' := by
  have e1 : Ex F' (upd F' p o) := fun a u e => by
    by_cases q : a = p
    · subst q
      have z := g.fh a u e
      rw [h] at z
      cases z
      exact upd_same
    · rw [upd_ne q]
      exact e
  refine ⟨g.ff.trans e1, g.hh, fun a u e => ?_, fun a h1 h2 => ?_⟩
  · by_cases q : a = p
    · rw [q, upd_same] at e
      cases e
      rw [q]
      exact h
    · rw [upd_ne q] at e
      exact g.fh a u e
  · have q : a ≠ p := fun q => h1 (q ▸ hp)
    rw [upd_ne q]
    exact g.nw a h1 h2

/-! ### data: as the kit's own, and an empty dict -/
mutual
inductive Dp (K : PySem.W.Frag) (H : Hp) : V → PyData → Prop
  | non : Dp K H .non .none
  | bl (b : Bool) : Dp K H (.bl b) (.bool b)
  | int (i : Int) : Dp K H (.int i) (.int i)
  | str (x : Str) : Dp K H (.str x) (.str x)
  | lst {a : Addr} {xs : List V} {ds : List PyData} (hs : SqL K H a xs) (ha : DpAll K H xs ds) : Dp K H (.ref a) (.list ds)
  | tup {a : Addr} {xs : List V} {ds : List PyData} (hs : SqT K H a xs) (ha : DpAll K H xs ds) : Dp K H (.ref a) (.tuple ds)
  | dct {a : Addr} (e : H a = some (.dK [])) : Dp K H (.ref a) (.dict [])
inductive DpAll (K : PySem.W.Frag) (H : Hp) : List V → List PyData → Prop
  | nil : DpAll K H [] []
  | cons {v : V} {vs : List V} {d : PyData} {ds : List PyData} (h1 : Dp K H v d) (h2 : DpAll K H vs ds) : DpAll K H (v :: vs) (d :: ds)
end
mutual
theorem Dp.kit {K : PySem.W.Frag} {H : Hp} : ∀ (d : PyData) (v : V), d.plain = true → Dp K H v d → L2.Dp K H v d
  | .none, _, _, h => by cases h; exact .non
  | .bool b, _, _, h => by cases h; exact .bl b
  | .int i, _, _, h => by cases h; exact .int i
  | .str x, _, _, h => by cases h; exact .str x
  | .list ds, _, p, h => by
    cases h with
    | lst hs ha => exact .lst hs (DpAll.kit ds _ (by simpa only [PyData.plain] using p) ha)
  | .tuple ds, _, p, h => by
    cases h with
    | tup hs ha => exact .tup hs (DpAll.kit ds _ (by simpa only [PyData.plain] using p) ha)
  | .dict _, _, p, h => nomatch p
theorem DpAll.kit {K : PySem.W.Frag} {H : Hp} : ∀ (ds : List PyData) (vs : List V), PyData.plainAll ds = true → DpAll K H vs ds → L2.DpAll K H vs ds
  | [], _, _, h => by cases h; exact .nil
  | d :: ds, _, p, h => by
    simp only [PyData.plainAll, Bool.and_eq_true] at p
    cases h with
    | cons h1 h2 => exact .cons (Dp.kit d _ p.1 h1) (DpAll.kit ds _ p.2 h2)
end
mutual
theorem dp_ex {K : PySem.W.Frag} {H H' : Hp} (e : Ex H H') : ∀ (d : PyData) (v : V), Dp K H v d → Dp K H' v d
  | .none, _, h => by cases h; exact .non
  | .bool b, _, h => by cases h; exact .bl b
  | .int i, _, h => by cases h; exact .int i
  | .str x, _, h => by cases h; exact .str x
  | .list ds, _, h => by
    cases h with
    | lst hs ha => exact .lst (ex_l e hs) (dpAll_ex e ds _ ha)
  | .tuple ds, _, h => by
    cases h with
    | tup hs ha => exact .tup (ex_t e hs) (dpAll_ex e ds _ ha)
  | .dict _, _, h => by
    cases h with
    | dct x => exact .dct (e _ _ x)
theorem dpAll_ex {K : PySem.W.Frag} {H H' : Hp} (e : Ex H H') : ∀ (ds : List PyData) (vs : List V), DpAll K H vs ds → DpAll K H' vs ds
  | [], _, h => by cases h; exact .nil
  | d :: ds, _, h => by
    cases h with
    | cons h1 h2 => exact .cons (dp_ex e d _ h1) (dpAll_ex e ds _ h2)
end
abbrev Rep (K : PySem.W.Frag) (H : Hp) (v : V) {α : Type} [DecidableEq α] [Datum α] (x : α) : Prop := Dp K H v (Datum.toD x)
abbrev RepL (K : PySem.W.Frag) (H : Hp) (vs : List V) {α : Type} [DecidableEq α] [Datum α] (xs : List α) : Prop := DpAll K H vs (xs.map Datum.toD)
section
variable {K : PySem.W.Frag} {H H' F : Hp} {v : V} {vs : List V} {α β : Type} [DecidableEq α] [Datum α] [DecidableEq β] [Datum β]
theorem Rep.ex {x : α} (h : Rep K H v x) (e : Ex H H') : Rep K H' v x := dp_ex e _ _ h
theorem RepL.ex {xs : List α} (h : RepL K H vs xs) (e : Ex H H') : RepL K H' vs xs := dpAll_ex e _ _ h
end
end Fh
set_option Elab.async false
set_option linter.all false
set_option maxRecDepth 100000
set_option maxHeartbeats 2000000
namespace Fh
open PySem PySem.Spec PyProof.Rows L2 Evl
open PySem.W (Datum)

/-! ### growth: F stays, M may change -/
structure GrM (M : Addr → Prop) (F H F' H' : Hp) : Prop where
  ff : Ex F F'
  hh : ∀ a o, ¬ M a → H a = some o → H' a = some o
  fh : Ex F' H'
  nw : ∀ a, H a ≠ none → F a = none → F' a = none
  al : ∀ a, H a ≠ none → H' a ≠ none
theorem none_or {H : Hp} {a : Addr} (h : ¬ H a ≠ none) : H a = none := Classical.byContradiction h
theorem Gr.toM {M : Addr → Prop} {F H F' H' : Hp} (g : Gr F H F' H') : GrM M F H F' H' := ⟨g.ff, fun a o _ h => g.hh a o h, g.fh, g.nw, fun a h => by
  cases e : H a with
  | none => exact absurd e h
  | some o =>
    rw [g.hh a o e]
    exact fun z => nomatch z⟩
theorem GrM.trans {M : Addr → Prop} {F H F1 H1 F2 H2 : Hp} (a : GrM M F H F1 H1) (b : GrM M F1 H1 F2 H2) : GrM M F H F2 H2 :=
  ⟨a.ff.trans b.ff, fun x o n h => b.hh x o n (a.hh x o n h), b.fh, fun x h1 h2 => b.nw x (a.al x h1) (a.nw x h1 h2), fun x h => b.al x (a.al x h)⟩
theorem GrM.toGr {F H F' H' : Hp} (g : GrM (fun _ => False) F H F' H') : Gr F H F' H' := ⟨g.ff, fun a o h => g.hh a o (fun z => z) h, g.fh, g.nw⟩

/-! ### what a slot holds -/
inductive Sl where
  | no
  | dt (d : PyData)
  | ls (ds : List PyData)
  | al (j : Nat)
  | fx (φ : Hp → V → Prop)
  | mu (ψ : Hp → V → List (Addr × HO) → Prop)
def SlOk (K : PySem.W.Frag) (F : Hp) (σ : L2.St) (i : Nat) (L : List (Addr × HO)) : Sl → Prop
  | .no => L = []
  | .dt d => L = [] ∧ ∃ v, σ[i]? = some (some v) ∧ Dp K F v d
  | .ls ds => ∃ p vs, σ[i]? = some (some (.ref p)) ∧ L = [(p, .lst vs)] ∧ DpAll K F vs ds
  | .al j => L = [] ∧ j < i ∧ ∃ v, σ[i]? = some (some v) ∧ σ[j]? = some (some v)
  | .fx φ => L = [] ∧ ∃ v, σ[i]? = some (some v) ∧ ∀ F', Ex F F' → φ F' v
  | .mu ψ => ∃ v, σ[i]? = some (some v) ∧ ∀ F', Ex F F' → ψ F' v L
theorem SlOk.ex {K : PySem.W.Frag} {F F' : Hp} {σ : L2.St} {i : Nat} {L : List (Addr × HO)} {s : Sl} (e : Ex F F') (h : SlOk K F σ i L s) : SlOk K F' σ i L s := by
  cases s with
  | no => exact h
  | dt d =>
    obtain ⟨a, v, b, c⟩ := h
    exact ⟨a, v, b, dp_ex e d v c⟩
  | ls ds =>
    obtain ⟨p, vs, a, b, c⟩ := h
    exact ⟨p, vs, a, b, dpAll_ex e ds vs c⟩
  | al j => exact h
  | fx φ =>
    obtain ⟨a, v, b, c⟩ := h
    exact ⟨a, v, b, fun F2 e2 => c F2 (e.trans e2)⟩
  | mu ψ =>
    obtain ⟨v, b, c⟩ := h
    exact ⟨v, b, fun F2 e2 => c F2 (e.trans e2)⟩
/-- the slot's word leans on the slots up to i alone -/
theorem SlOk.cong {K : PySem.W.Frag} {F : Hp} {σ σ' : L2.St} {i : Nat} {L : List (Addr × HO)} {s : Sl} (e : ∀ j, j ≤ i → σ'[j]? = σ[j]?) (h : SlOk K F σ i L s) : SlOk K F σ' i L s := by
  cases s with
  | no => exact h
  | dt d =>
    obtain ⟨a, v, b, c⟩ := h
    exact ⟨a, v, (e i (Nat.le_refl _)).trans b, c⟩
  | ls ds =>
    obtain ⟨p, vs, a, b, c⟩ := h
    exact ⟨p, vs, (e i (Nat.le_refl _)).trans a, b, c⟩
  | al j =>
    obtain ⟨a, l, v, b, c⟩ := h
    exact ⟨a, l, v, (e i (Nat.le_refl _)).trans b, (e j (Nat.le_of_lt l)).trans c⟩
  | fx φ =>
    obtain ⟨a, v, b, c⟩ := h
    exact ⟨a, v, (e i (Nat.le_refl _)).trans b, c⟩
  | mu ψ =>
    obtain ⟨v, b, c⟩ := h
    exact ⟨v, (e i (Nat.le_refl _)).trans b, c⟩
def isMu : Sl → Bool
  | .mu _ => true
  | _ => false
structure Owns (K : PySem.W.Frag) (M : Addr → Prop) (H0 F H : Hp) (σ : L2.St) (ss : List Sl) (L : Nat → List (Addr × HO)) : Prop where
  ok : ∀ i s, ss[i]? = some s → SlOk K F σ i (L i) s
  at_ : ∀ i s p o, ss[i]? = some s → (p, o) ∈ L i → H p = some o ∧ F p = none ∧ (H0 p = none ∨ (M p ∧ isMu s = true))
  nd : ∀ i, i < ss.length → ((L i).map (·.1)).Nodup
  ap : ∀ i j p, i < ss.length → j < ss.length → p ∈ (L i).map (·.1) → p ∈ (L j).map (·.1) → i = j
structure Sts (K : PySem.W.Frag) (M : Addr → Prop) (F0 H0 F H : Hp) (σ : L2.St) (ss : List Sl) : Prop where
  gr : GrM M F0 H0 F H
  len : σ.length = ss.length
  own : ∃ L, Owns K M H0 F H σ ss L

section
variable {K : PySem.W.Frag} {M : Addr → Prop} {F0 H0 F H F' H' : Hp} {σ xs : L2.St} {ss ts : List Sl}
theorem Sts.fh (S : Sts K M F0 H0 F H σ ss) : Ex F H := S.gr.fh
/-- growth around it -/
theorem Sts.grow (S : Sts K M F0 H0 F H σ ss) (g : Gr F H F' H') : Sts K M F0 H0 F' H' σ ss := by
  obtain ⟨g0, l, L, O⟩ := S
  refine ⟨g0.trans g.toM, l, L, fun i s h => (O.ok i s h).ex g.ff, fun i s p o hi hp => ?_, O.nd, O.ap⟩
  obtain ⟨a, b, c⟩ := O.at_ i s p o hi hp
  exact ⟨g.hh p o a, g.nw p (by rw [a]; exact fun z => nomatch z) b, c⟩
/-- the last ones are dropped -/
theorem Sts.drop (S : Sts K M F0 H0 F H (σ ++ xs) (ss ++ ts)) (l : σ.length = ss.length) : Sts K M F0 H0 F H σ ss := by
  obtain ⟨g0, _, L, O⟩ := S
  have lt : ∀ {i}, i < ss.length → i < (ss ++ ts).length := fun {i} h => by
    rw [List.length_append]
    omega
  refine ⟨g0, l, L, fun i s h => ?_, fun i s p o hi hp => O.at_ i s p o (by rw [List.getElem?_append_left (List.getElem?_eq_some_iff.mp hi).1]; exact hi) hp, fun i hi => O.nd i (lt hi), fun i j p hi hj => O.ap i j p (lt hi) (lt hj)⟩
  have hi : i < ss.length := (List.getElem?_eq_some_iff.mp h).1
  refine (O.ok i s (by rw [List.getElem?_append_left hi]; exact h)).cong fun j hj => ?_
  rw [List.getElem?_append_left (by omega)]
/-- a slot more: with new objects L1, or with none -/
theorem Sts.push (S : Sts K M F0 H0 F H σ ss) {v : V} {r : Sl} {L1 : List (Addr × HO)} {H1 : Hp} (e : Ex H H1) (hr : SlOk K F (σ ++ [some v]) σ.length L1 r) (ha : ∀ p o, (p, o) ∈ L1 → H1 p = some o ∧ H p = none) (hn : (L1.map (·.1)).Nodup) :
    Sts K M F0 H0 F H1 (σ ++ [some v]) (ss ++ [r]) := by
  obtain ⟨g0, l, L, O⟩ := S
  have hlen : (ss ++ [r]).length = ss.length + 1 := by rw [List.length_append]; rfl
  have cut : ∀ {i}, i < (ss ++ [r]).length → i < ss.length ∨ i = ss.length := fun {i} h => by rw [hlen] at h; omega
  have oth : ∀ {i p}, i < ss.length → p ∈ L1.map (·.1) → p ∈ (L i).map (·.1) → False := fun {i p} hi h1 h2 => by
    obtain ⟨⟨q, o⟩, h3, rfl⟩ := List.mem_map.mp h1
    obtain ⟨⟨q', u⟩, h4, e4⟩ := List.mem_map.mp h2
    have e4' : q' = q := e4
    subst e4'
    have a := (O.at_ i _ q' u (List.getElem?_eq_getElem hi) h4).1
    rw [(ha q' o h3).2] at a
    cases a
  refine ⟨g0.trans (Gr.of g0.fh e).toM, by rw [List.length_append, List.length_append, l]; rfl, fun i => if i = ss.length then L1 else L i, fun i s h => ?_, fun i s p o hs hp => ?_, fun i hi => ?_, fun i j p hi hj hp hq => ?_⟩
  · have hi := (List.getElem?_eq_some_iff.mp h).1
    rcases cut hi with hi | rfl
    · rw [List.getElem?_append_left hi] at h
      rw [if_neg (by omega)]
      refine (O.ok i s h).cong fun j hj => ?_
      rw [List.getElem?_append_left (by omega)]
    · rw [List.getElem?_append_right (Nat.le_refl _), Nat.sub_self] at h
      cases h
      rw [if_pos rfl, ← l]
      exact hr
  · have hi := (List.getElem?_eq_some_iff.mp hs).1
    rcases cut hi with hi | rfl
    · rw [if_neg (by omega)] at hp
      rw [List.getElem?_append_left hi] at hs
      obtain ⟨a, b, c⟩ := O.at_ i s p o hs hp
      exact ⟨e p o a, b, c⟩
    · rw [if_pos rfl] at hp
      refine ⟨(ha p o hp).1, fresh_back g0.fh (ha p o hp).2, .inl (none_or fun h => g0.al p h (ha p o hp).2)⟩
  · rcases cut hi with hi | rfl
    · simp only [if_neg (show ¬ i = ss.length by omega)]
      exact O.nd i hi
    · simp only [if_pos]
      exact hn
  · rcases cut hi with hi | rfl
    · rw [if_neg (by omega)] at hp
      rcases cut hj with hj | rfl
      · rw [if_neg (by omega)] at hq
        exact O.ap i j p hi hj hp hq
      · rw [if_pos rfl] at hq
        exact (oth hi hq hp).elim
    · rw [if_pos rfl] at hp
      rcases cut hj with hj | rfl
      · rw [if_neg (by omega)] at hq
        exact (oth hj hp hq).elim
      · rfl
theorem last_at {σ : L2.St} {v : V} : (σ ++ [some v])[σ.length]? = some (some v) := by
  rw [List.getElem?_append_right (Nat.le_refl _), Nat.sub_self]
  rfl
theorem Sts.push_dt (S : Sts K M F0 H0 F H σ ss) {v : V} {d : PyData} (h : Dp K F v d) : Sts K M F0 H0 F H (σ ++ [some v]) (ss ++ [.dt d]) :=
  S.push (L1 := []) (Ex.refl H) ⟨rfl, v, last_at, h⟩ (fun p o z => nomatch z) .nil
theorem Sts.push_fx (S : Sts K M F0 H0 F H σ ss) {v : V} {φ : Hp → V → Prop} (h : ∀ F', Ex F F' → φ F' v) : Sts K M F0 H0 F H (σ ++ [some v]) (ss ++ [.fx φ]) :=
  S.push (L1 := []) (Ex.refl H) ⟨rfl, v, last_at, h⟩ (fun p o z => nomatch z) .nil
theorem Sts.push_al (S : Sts K M F0 H0 F H σ ss) {j : Nat} {v : V} (h : σ[j]? = some (some v)) : Sts K M F0 H0 F H (σ ++ [some v]) (ss ++ [.al j]) := by
  have hj := (List.getElem?_eq_some_iff.mp h).1
  exact S.push (L1 := []) (Ex.refl H) ⟨rfl, hj, v, last_at, by rw [List.getElem?_append_left hj]; exact h⟩ (fun p o z => nomatch z) .nil
theorem Sts.push_ls (S : Sts K M F0 H0 F H σ ss) {p : Addr} {vs : List V} {ds : List PyData} {H1 : Hp} (e : Ex H H1) (hp : H p = none) (h1 : H1 p = some (.lst vs)) (h : DpAll K F vs ds) : Sts K M F0 H0 F H1 (σ ++ [some (.ref p)]) (ss ++ [.ls ds]) :=
  S.push (L1 := [(p, .lst vs)]) e ⟨p, vs, last_at, rfl, h⟩ (fun q o hq => by
    cases List.mem_singleton.mp hq
    exact ⟨h1, hp⟩) (by simp)
/-! ### reading slots -/
theorem Sts.get_dt (S : Sts K M F0 H0 F H σ ss) {i : Nat} {d : PyData} (h : ss[i]? = some (.dt d)) : ∃ v, σ[i]? = some (some v) ∧ Dp K F v d := by
  obtain ⟨g0, l, L, O⟩ := S
  exact (O.ok i _ h).2
theorem Sts.get_fx (S : Sts K M F0 H0 F H σ ss) {i : Nat} {φ : Hp → V → Prop} (h : ss[i]? = some (.fx φ)) : ∃ v, σ[i]? = some (some v) ∧ ∀ F', Ex F F' → φ F' v := by
  obtain ⟨g0, l, L, O⟩ := S
  exact (O.ok i _ h).2
theorem Sts.get_al (S : Sts K M F0 H0 F H σ ss) {i j : Nat} (h : ss[i]? = some (.al j)) : ∃ v, σ[i]? = some (some v) ∧ σ[j]? = some (some v) := by
  obtain ⟨g0, l, L, O⟩ := S
  exact (O.ok i _ h).2.2
theorem Sts.get_ls (S : Sts K M F0 H0 F H σ ss) {i : Nat} {ds : List PyData} (h : ss[i]? = some (.ls ds)) : ∃ p vs, σ[i]? = some (some (.ref p)) ∧ DpAll K F vs ds ∧ H p = some (.lst vs) ∧ F p = none ∧ H0 p = none := by
  obtain ⟨g0, l, L, O⟩ := S
  obtain ⟨p, vs, a, b, c⟩ := O.ok i _ h
  obtain ⟨x, y, z⟩ := O.at_ i _ p _ h (by rw [b]; exact List.mem_singleton.mpr rfl)
  exact ⟨p, vs, a, c, x, y, z.resolve_right fun w => nomatch w.2⟩
/-- what a slot's thing reads as, now -/
def vw (ss : List Sl) : Sl → Option PyData
  | .dt d => some d
  | .ls ds => some (.list ds)
  | .al j => match ss[j]? with
    | some (.ls ds) => some (.list ds)
    | some (.dt d) => some d
    | _ => none
  | _ => none
/-- v is a list or tuple that reads as ds, its items stay -/
def RdL (K : PySem.W.Frag) (F H : Hp) (v : V) (ds : List PyData) : Prop := ∃ p vs, v = .ref p ∧ SqL K H p vs ∧ DpAll K F vs ds
def RdT (K : PySem.W.Frag) (F H : Hp) (v : V) (ds : List PyData) : Prop := ∃ p vs, v = .ref p ∧ SqT K H p vs ∧ DpAll K F vs ds
theorem rdL_of {v : V} {ds : List PyData} (h : Dp K F v (.list ds)) (e : Ex F H) : RdL K F H v ds := by
  cases h with
  | lst a b => exact ⟨_, _, rfl, ex_l e a, b⟩
theorem rdT_of {v : V} {ds : List PyData} (h : Dp K F v (.tuple ds)) (e : Ex F H) : RdT K F H v ds := by
  cases h with
  | tup a b => exact ⟨_, _, rfl, ex_t e a, b⟩
theorem RdL.dp {v : V} {ds : List PyData} (h : RdL K F H v ds) (e : Ex F H) : Dp K H v (.list ds) := by
  obtain ⟨p, vs, rfl, a, b⟩ := h
  exact .lst a (dpAll_ex e ds vs b)
theorem Sts.view (S : Sts K M F0 H0 F H σ ss) {i : Nat} {r : Sl} {d : PyData} (h : ss[i]? = some r) (hv : vw ss r = some d) : ∃ v, σ[i]? = some (some v) ∧ (Dp K F v d ∨ ∃ ds, d = .list ds ∧ RdL K F H v ds) := by
  have hl : ∀ {j : Nat} {ds : List PyData}, ss[j]? = some (Sl.ls ds) → ∃ v, σ[j]? = some (some v) ∧ RdL K F H v ds := fun {j ds} h => by
    obtain ⟨p, vs, a, b, c, _⟩ := S.get_ls h
    exact ⟨_, a, p, vs, rfl, SqL.of c, b⟩
  cases r with
  | no => cases hv
  | fx φ => cases hv
  | mu ψ => cases hv
  | dt d' =>
    cases hv
    obtain ⟨v, a, b⟩ := S.get_dt h
    exact ⟨v, a, .inl b⟩
  | ls ds =>
    cases hv
    obtain ⟨v, a, b⟩ := hl h
    exact ⟨v, a, .inr ⟨ds, rfl, b⟩⟩
  | al j =>
    obtain ⟨v, a, b⟩ := S.get_al h
    unfold vw at hv
    simp only at hv
    cases e : ss[j]? with
    | none => rw [e] at hv; cases hv
    | some s =>
      rw [e] at hv
      cases s with
      | no => cases hv
      | fx φ => cases hv
      | mu ψ => cases hv
      | al j => cases hv
      | dt d' =>
        cases hv
        obtain ⟨v', a', b'⟩ := S.get_dt e
        rw [b] at a'
        cases a'
        exact ⟨v, a, .inl b'⟩
      | ls ds =>
        cases hv
        obtain ⟨v', a', b'⟩ := hl e
        rw [b] at a'
        cases a'
        exact ⟨v, a, .inr ⟨ds, rfl, b'⟩⟩
/-! ### writing slots -/
def notAl : Sl → Bool
  | .al _ => false
  | _ => true
/-- slot i takes what a state with one slot more has at its end -/
theorem Sts.put {v : V} {r : Sl} {i : Nat} (S : Sts K M F0 H0 F H (σ ++ [some v]) (ss ++ [r])) (l : σ.length = ss.length) (hi : i < ss.length) (na : ss.all notAl = true) (nr : notAl r = true) : Sts K M F0 H0 F H (σ.set i (some v)) (ss.set i r) := by
  obtain ⟨g0, l1, L, O⟩ := S
  have hlen : (ss ++ [r]).length = ss.length + 1 := by rw [List.length_append]; rfl
  have hn : ∀ j s, (ss.set i r)[j]? = some s → notAl s = true := fun j s h => by
    by_cases e : j = i
    · subst e
      rw [List.getElem?_set_self hi] at h
      cases h
      exact nr
    · rw [List.getElem?_set_ne (Ne.symm e)] at h
      exact List.all_eq_true.mp na s (List.mem_of_getElem? h)
  -- a slot's word without al leans on its own slot alone
  have move : ∀ {σ' : L2.St} {i j : Nat} {L : List (Addr × HO)} {s : Sl} {σ : L2.St}, notAl s = true → σ'[j]? = σ[i]? → SlOk K F σ i L s → SlOk K F σ' j L s := fun {σ' i j L s σ} h e o => by
    cases s with
    | no => exact o
    | al j => cases h
    | dt d =>
      obtain ⟨a, v, b, c⟩ := o
      exact ⟨a, v, e.trans b, c⟩
    | ls ds =>
      obtain ⟨p, vs, a, b, c⟩ := o
      exact ⟨p, vs, e.trans a, b, c⟩
    | fx φ =>
      obtain ⟨a, v, b, c⟩ := o
      exact ⟨a, v, e.trans b, c⟩
    | mu ψ =>
      obtain ⟨v, b, c⟩ := o
      exact ⟨v, e.trans b, c⟩
  let g : Nat → Nat := fun j => if j = i then ss.length else j
  have gl : ∀ {j}, j < ss.length → g j < (ss ++ [r]).length := fun {j} hj => by
    show (if j = i then ss.length else j) < _
    rw [hlen]
    split <;> omega
  have gi : ∀ {j k}, j < ss.length → k < ss.length → g j = g k → j = k := fun {j k} hj hk e => by
    have e' : (if j = i then ss.length else j) = (if k = i then ss.length else k) := e
    split at e' <;> split at e' <;> omega
  have pick : ∀ {j : Nat} {s : Sl}, (ss.set i r)[j]? = some s → (ss ++ [r])[g j]? = some s ∧ (σ.set i (some v))[j]? = (σ ++ [some v])[g j]? := fun {j s} h => by
    have hj : j < ss.length := by
      have := (List.getElem?_eq_some_iff.mp h).1
      rwa [List.length_set] at this
    by_cases e : j = i
    · have eg : g j = ss.length := if_pos e
      rw [eg]
      subst e
      rw [List.getElem?_set_self hi] at h
      rw [List.getElem?_append_right (Nat.le_refl _), Nat.sub_self, List.getElem?_set_self (by omega), ← l, List.getElem?_append_right (Nat.le_refl _), Nat.sub_self]
      exact ⟨h, rfl⟩
    · have eg : g j = j := if_neg e
      rw [eg]
      rw [List.getElem?_set_ne (Ne.symm e)] at h
      rw [List.getElem?_append_left hj, List.getElem?_set_ne (Ne.symm e), List.getElem?_append_left (by omega)]
      exact ⟨h, rfl⟩
  refine ⟨g0, by rw [List.length_set, List.length_set, l], fun j => L (g j), fun j s h => move (hn j s h) (pick h).2 (O.ok (g j) s (pick h).1), fun j s p o h hp => O.at_ (g j) s p o (pick h).1 hp, fun j hj => ?_, fun j k p hj hk hp hq => ?_⟩
  · rw [List.length_set] at hj
    exact O.nd (g j) (gl hj)
  · rw [List.length_set] at hj hk
    exact gi hj hk (O.ap (g j) (g k) p (gl hj) (gl hk) hp hq)
/-- a slot is forgotten -/
theorem Sts.wipe1 {i : Nat} {ov : Option V} (S : Sts K M F0 H0 F H σ ss) (na : ss.all notAl = true) : Sts K M F0 H0 F H (σ.set i ov) (ss.set i .no) := by
  obtain ⟨g0, l1, L, O⟩ := S
  have hl : ∀ {j}, j < (ss.set i .no).length → j < ss.length := fun {j} h => by rwa [List.length_set] at h
  refine ⟨g0, by rw [List.length_set, List.length_set, l1], fun j => if j = i then [] else L j, fun j s h => ?_, fun j s p o hs hp => ?_, fun j hj => ?_, fun j k p hj hk hp hq => ?_⟩
  · by_cases e : j = i
    · subst e
      have hj := hl (List.getElem?_eq_some_iff.mp h).1
      rw [List.getElem?_set_self hj] at h
      cases h
      rw [if_pos rfl]
      rfl
    · rw [if_neg e]
      rw [List.getElem?_set_ne (Ne.symm e)] at h
      have o := O.ok j s h
      have nn := List.all_eq_true.mp na s (List.mem_of_getElem? h)
      have eσ : (σ.set i ov)[j]? = σ[j]? := List.getElem?_set_ne (Ne.symm e)
      cases s with
      | no => exact o
      | al j => cases nn
      | dt d =>
        obtain ⟨a, v, b, c⟩ := o
        exact ⟨a, v, eσ.trans b, c⟩
      | ls ds =>
        obtain ⟨p, vs, a, b, c⟩ := o
        exact ⟨p, vs, eσ.trans a, b, c⟩
      | fx φ =>
        obtain ⟨a, v, b, c⟩ := o
        exact ⟨a, v, eσ.trans b, c⟩
      | mu ψ =>
        obtain ⟨v, b, c⟩ := o
        exact ⟨v, eσ.trans b, c⟩
  · by_cases e : j = i
    · rw [if_pos e] at hp
      cases hp
    · rw [if_neg e] at hp
      rw [List.getElem?_set_ne (Ne.symm e)] at hs
      exact O.at_ j s p o hs hp
  · by_cases e : j = i
    · simp only [if_pos e]
      exact .nil
    · simp only [if_neg e]
      exact O.nd j (hl hj)
  · by_cases e : j = i
    · rw [if_pos e] at hp
      cases hp
    · by_cases e2 : k = i
      · rw [if_pos e2] at hq
        cases hq
      · rw [if_neg e] at hp
        rw [if_neg e2] at hq
        exact O.ap j k p (hl hj) (hl hk) hp hq
/-- the content of an owned list changes -/
theorem Sts.write {i : Nat} {ds : List PyData} (S : Sts K M F0 H0 F H σ ss) (h : ss[i]? = some (.ls ds)) : ∃ p vs, σ[i]? = some (some (.ref p)) ∧ H p = some (.lst vs) ∧ DpAll K F vs ds ∧ F p = none ∧
    ∀ vs' ds', DpAll K F vs' ds' → Sts K M F0 H0 F (upd H p (.lst vs')) σ (ss.set i (.ls ds')) := by
  obtain ⟨g0, l, L, O⟩ := S
  obtain ⟨p, vs, a, b, c⟩ := O.ok i _ h
  have hi := (List.getElem?_eq_some_iff.mp h).1
  have pin : (p, HO.lst vs) ∈ L i := by rw [b]; exact List.mem_singleton.mpr rfl
  obtain ⟨hp, fp, h0'⟩ := O.at_ i _ p _ h pin
  have h0 : H0 p = none := h0'.resolve_right fun w => nomatch w.2
  refine ⟨p, vs, a, hp, c, fp, fun vs' ds' r => ?_⟩
  have hl : ∀ {j}, j < (ss.set i (.ls ds')).length → j < ss.length := fun {j} h => by rwa [List.length_set] at h
  refine ⟨⟨g0.ff, fun x o nM hx => ?_, Ex.mut g0.fh fp, g0.nw, fun x hx => ?_⟩, by rw [List.length_set, l], fun j => if j = i then [(p, .lst vs')] else L j, fun j s hs => ?_, fun j s q o hs hq => ?_, fun j hj => ?_, fun j k q hj hk hp1 hq1 => ?_⟩
  · have ne : x ≠ p := fun e => by
      subst e
      rw [h0] at hx
      cases hx
    rw [upd_ne ne]
    exact g0.hh x o nM hx
  · by_cases e : x = p
    · rw [e, upd_same]
      exact fun z => nomatch z
    · rw [upd_ne e]
      exact g0.al x hx
  · by_cases e : j = i
    · subst e
      rw [List.getElem?_set_self hi] at hs
      cases hs
      rw [if_pos rfl]
      exact ⟨p, vs', a, rfl, r⟩
    · rw [if_neg e]
      rw [List.getElem?_set_ne (Ne.symm e)] at hs
      exact O.ok j s hs
  · by_cases e : j = i
    · rw [if_pos e] at hq
      cases List.mem_singleton.mp hq
      exact ⟨upd_same, fp, .inl h0⟩
    · rw [if_neg e] at hq
      rw [List.getElem?_set_ne (Ne.symm e)] at hs
      obtain ⟨x, y, z⟩ := O.at_ j s q o hs hq
      have ne : q ≠ p := fun e2 => by
        subst e2
        exact e (O.ap j i q (List.getElem?_eq_some_iff.mp hs).1 hi (List.mem_map.mpr ⟨_, hq, rfl⟩) (List.mem_map.mpr ⟨_, pin, rfl⟩))
      rw [upd_ne ne]
      exact ⟨x, y, z⟩
  · by_cases e : j = i
    · simp only [if_pos e]
      simp
    · simp only [if_neg e]
      exact O.nd j (hl hj)
  · have mv : ∀ {j : Nat} {q : Addr}, q ∈ ((if j = i then [(p, HO.lst vs')] else L j).map (·.1)) → q ∈ (L j).map (·.1) := fun {j q} h => by
      by_cases e : j = i
      · rw [if_pos e] at h
        rw [e]
        have eq : q = p := by simpa using h
        rw [eq]
        exact List.mem_map.mpr ⟨_, pin, rfl⟩
      · rwa [if_neg e] at h
    exact O.ap j k q (hl hj) (hl hk) (mv hp1) (mv hq1)
/-- from now on the list stays as it is -/
theorem Sts.freeze {i : Nat} {ds : List PyData} (S : Sts K M F0 H0 F H σ ss) (h : ss[i]? = some (.ls ds)) : ∃ F', Ex F F' ∧ (∀ a, (∀ q, σ[i]? = some (some (.ref q)) → a ≠ q) → F a = none → F' a = none) ∧ Sts K M F0 H0 F' H σ (ss.set i (.dt (.list ds))) := by
  obtain ⟨g0, l, L, O⟩ := S
  obtain ⟨p, vs, a, b, c⟩ := O.ok i _ h
  have hi := (List.getElem?_eq_some_iff.mp h).1
  have pin : (p, HO.lst vs) ∈ L i := by rw [b]; exact List.mem_singleton.mpr rfl
  obtain ⟨hp, fp, h0'⟩ := O.at_ i _ p _ h pin
  have h0 : H0 p = none := h0'.resolve_right fun w => nomatch w.2
  have e1 : Ex F (upd F p (.lst vs)) := Ex.new fp
  have hl : ∀ {j}, j < (ss.set i (.dt (.list ds))).length → j < ss.length := fun {j} h => by rwa [List.length_set] at h
  refine ⟨upd F p (.lst vs), e1, fun x hx fx => by rw [upd_ne (hx p a)]; exact fx, ⟨g0.ff.trans e1, g0.hh, fun x u e => ?_, fun x h1 h2 => ?_, g0.al⟩, by rw [List.length_set, l], fun j => if j = i then [] else L j, fun j s hs => ?_, fun j s q o hs hq => ?_, fun j hj => ?_, fun j k q hj hk hp1 hq1 => ?_⟩
  · by_cases q : x = p
    · rw [q, upd_same] at e
      cases e
      rw [q]
      exact hp
    · rw [upd_ne q] at e
      exact g0.fh x u e
  · have q : x ≠ p := fun q => h1 (q ▸ h0)
    rw [upd_ne q]
    exact g0.nw x h1 h2
  · by_cases e : j = i
    · subst e
      rw [List.getElem?_set_self hi] at hs
      cases hs
      rw [if_pos rfl]
      exact ⟨rfl, _, a, .lst (SqL.of upd_same) (dpAll_ex e1 ds vs c)⟩
    · rw [if_neg e]
      rw [List.getElem?_set_ne (Ne.symm e)] at hs
      exact (O.ok j s hs).ex e1
  · by_cases e : j = i
    · rw [if_pos e] at hq
      cases hq
    · rw [if_neg e] at hq
      rw [List.getElem?_set_ne (Ne.symm e)] at hs
      obtain ⟨x, y, z⟩ := O.at_ j s q o hs hq
      have ne : q ≠ p := fun e2 => by
        subst e2
        exact e (O.ap j i q (List.getElem?_eq_some_iff.mp hs).1 hi (List.mem_map.mpr ⟨_, hq, rfl⟩) (List.mem_map.mpr ⟨_, pin, rfl⟩))
      rw [upd_ne ne]
      exact ⟨x, y, z⟩
  · by_cases e : j = i
    · simp only [if_pos e]
      exact .nil
    · simp only [if_neg e]
      exact O.nd j (hl hj)
  · have mv : ∀ {j : Nat} {q : Addr}, q ∈ ((if j = i then [] else L j).map (·.1)) → q ∈ (L j).map (·.1) := fun {j q} h => by
      by_cases e : j = i
      · rw [if_pos e] at h
        cases h
      · rwa [if_neg e] at h
    exact O.ap j k q (hl hj) (hl hk) (mv hp1) (mv hq1)
end
end Fh
set_option Elab.async false
set_option linter.all false
set_option maxRecDepth 100000
set_option maxHeartbeats 2000000
namespace Fh
open PySem PySem.Spec PyProof.Rows L2 Evl
open PySem.W (Datum)

/-! ### expressions over the slots: what they give is a slot more -/
/-- a list that is told as such is new -/
def NewR (H : Hp) (v : V) : Sl → Prop
  | .ls _ => ∃ p, v = .ref p ∧ H p = none
  | _ => True
theorem NewR.back {H H' : Hp} {v : V} (e : Ex H H') : ∀ {r : Sl}, NewR H' v r → NewR H v r
  | .ls _, ⟨p, a, b⟩ => ⟨p, a, fresh_back e b⟩
  | .no, h => h
  | .dt _, h => h
  | .al _, h => h
  | .fx _, h => h
  | .mu _, h => h
def EvR (K : PySem.W.Frag) (te : TE) (ss : List Sl) (r : Sl) : Prop := ∀ (M : Addr → Prop) (F0 H0 F H : Hp) (σ xs : L2.St) (ts : List Sl), σ.length = ss.length → Sts K M F0 H0 F H (σ ++ xs) (ss ++ ts) →
  ∀ Q : VK, (∀ v F' H', Gr F H F' H' → NewR H v r → Sts K M F0 H0 F' H' (σ ++ (xs ++ [some v])) (ss ++ (ts ++ [r])) → Q v H') → te σ H Q
def TvR (K : PySem.W.Frag) (tt : TT) (ss : List Sl) (b : Bool) : Prop := ∀ (M : Addr → Prop) (F0 H0 F H : Hp) (σ xs : L2.St) (ts : List Sl), σ.length = ss.length → Sts K M F0 H0 F H (σ ++ xs) (ss ++ ts) →
  ∀ Q : Bool → Hp → Prop, (∀ F' H', Gr F H F' H' → Sts K M F0 H0 F' H' (σ ++ xs) (ss ++ ts) → Q b H') → tt σ H Q
def AvR (K : PySem.W.Frag) (ta : TA) (ss rs : List Sl) : Prop := ∀ (M : Addr → Prop) (F0 H0 F H : Hp) (σ xs : L2.St) (ts : List Sl), σ.length = ss.length → Sts K M F0 H0 F H (σ ++ xs) (ss ++ ts) →
  ∀ Q : List V → Hp → Prop, (∀ vs F' H', vs.length = rs.length → Gr F H F' H' → Sts K M F0 H0 F' H' (σ ++ (xs ++ vs.map some)) (ss ++ (ts ++ rs)) → Q vs H') → ta σ H Q
/-- v may be handed to whoever stands at F, H as a thing told by r -/
def RetR (K : PySem.W.Frag) (F H : Hp) (r : Sl) (Q : VK) : Prop := ∀ v F' H', (∀ (M : Addr → Prop) (F0 H0 : Hp) (σ : L2.St) (ss : List Sl), Sts K M F0 H0 F H σ ss → Sts K M F0 H0 F' H' (σ ++ [some v]) (ss ++ [r])) → Q v H'
/-- what v reads as, now -/
def VwD (K : PySem.W.Frag) (F H : Hp) (v : V) (d : PyData) : Prop := Dp K F v d ∨ ∃ ds, d = .list ds ∧ RdL K F H v ds

section
variable {K : PySem.W.Frag} {M : Addr → Prop} {F0 H0 F H F' H' : Hp} {σ xs : L2.St} {ss ts : List Sl} {ta tb te tc : TE} {t u : TT} {r ra rb : Sl} {d da db : PyData} {ds : List PyData} {Q : VK} {v x y : V}
theorem RetR.dt (k : RetR K F H (.dt d) Q) (h : Dp K F v d) : Q v H := k v F H fun _ _ _ _ _ S => S.push_dt h
theorem RetR.dtE (k : RetR K F H (.dt d) Q) (e : Ex H H') (h : Dp K F v d) : Q v H' := k v F H' fun _ _ _ _ _ S => (S.grow (Gr.of S.fh e)).push_dt h
theorem RetR.int {i : Int} (k : RetR K F H (.dt (.int i)) Q) : Q (.int i) H := k.dt (.int i)
theorem RetR.bl {b : Bool} (k : RetR K F H (.dt (.bool b)) Q) : Q (.bl b) H := k.dt (.bl b)
theorem RetR.str {b : Str} (k : RetR K F H (.dt (.str b)) Q) : Q (.str b) H := k.dt (.str b)
theorem RetR.non (k : RetR K F H (.dt .none) Q) : Q .non H := k.dt .non
/-- a new tuple of what reads so -/
theorem RetR.tup (k : RetR K F H (.dt (.tuple ds)) Q) {vs : List V} (h : DpAll K F vs ds) {p : Addr} (hp : H p = none) : Q (.ref p) (upd H p (.tup vs)) :=
  k _ (upd F p (.tup vs)) _ fun _ _ _ _ _ S => by
    have e := fresh_back S.fh hp
    exact (S.grow (Gr.newI S.fh hp)).push_dt (.tup (SqT.of upd_same) (dpAll_ex (Ex.new e) ds vs h))
/-- a new list -/
theorem RetR.lst (k : RetR K F H (.ls ds) Q) {vs : List V} (h : DpAll K F vs ds) {p : Addr} (hp : H p = none) : Q (.ref p) (upd H p (.lst vs)) :=
  k _ F _ fun _ _ _ _ _ S => S.push_ls (Ex.new hp) hp upd_same h
theorem vw_app (h : vw ss r = some d) : vw (ss ++ ts) r = some d := by
  cases r with
  | al j =>
    unfold vw at h ⊢
    simp only at h ⊢
    cases e : ss[j]? with
    | none => rw [e] at h; cases h
    | some s =>
      rw [List.getElem?_append_left (List.getElem?_eq_some_iff.mp e).1, e]
      rw [e] at h
      exact h
  | _ => exact h
/-- the state's last slot, seen -/
theorem Sts.lastV (S : Sts K M F0 H0 F H (σ ++ (xs ++ [some v])) (ss ++ (ts ++ [r]))) (l : (σ ++ xs).length = (ss ++ ts).length) (h : vw ss r = some d) : VwD K F H v d := by
  rw [← List.append_assoc, ← List.append_assoc] at S
  obtain ⟨w, a, b⟩ := S.view (i := (ss ++ ts).length) (by rw [List.getElem?_append_right (Nat.le_refl _), Nat.sub_self]; rfl) (vw_app (vw_app (ts := ts) h))
  rw [← l, List.getElem?_append_right (Nat.le_refl _), Nat.sub_self] at a
  cases a
  exact b
theorem Sts.len2 (S : Sts K M F0 H0 F H (σ ++ xs) (ss ++ ts)) : (σ ++ xs).length = (ss ++ ts).length := S.len
theorem Sts.back (S : Sts K M F0 H0 F H (σ ++ (xs ++ [some v])) (ss ++ (ts ++ [r]))) (l : (σ ++ xs).length = (ss ++ ts).length) : Sts K M F0 H0 F H (σ ++ xs) (ss ++ ts) := by
  rw [← List.append_assoc, ← List.append_assoc] at S
  exact S.drop l
theorem VwD.dp (h : VwD K F H v d) (e : Ex F H) : Dp K H v d := by
  rcases h with h | ⟨ds, rfl, h⟩
  · exact dp_ex e d v h
  · exact h.dp e
theorem VwD.lst (h : VwD K F H v (.list ds)) (e : Ex F H) : RdL K F H v ds := by
  rcases h with h | ⟨ds', q, h⟩
  · exact rdL_of h e
  · cases q
    exact h
theorem VwD.tup (h : VwD K F H v (.tuple ds)) (e : Ex F H) : RdT K F H v ds := by
  rcases h with h | ⟨ds', q, h⟩
  · exact rdT_of h e
  · cases q
theorem VwD.int {i : Int} (h : VwD K F H v (.int i)) : v = .int i := by
  rcases h with h | ⟨ds', q, h⟩
  · cases h; rfl
  · cases q
theorem VwD.bl {i : Bool} (h : VwD K F H v (.bool i)) : v = .bl i := by
  rcases h with h | ⟨ds', q, h⟩
  · cases h; rfl
  · cases q
theorem VwD.str {i : Str} (h : VwD K F H v (.str i)) : v = .str i := by
  rcases h with h | ⟨ds', q, h⟩
  · cases h; rfl
  · cases q
theorem VwD.non (h : VwD K F H v .none) : v = .non := by
  rcases h with h | ⟨ds', q, h⟩
  · cases h; rfl
  · cases q
theorem Dp.grow {v : V} (e : Ex F F') (h : Dp K F v d) : Dp K F' v d := dp_ex e d v h
theorem RdL.grow {v : V} (e : Ex F F') (e2 : Ex H H') (h : RdL K F H v ds) : RdL K F' H' v ds := by
  obtain ⟨p, vs, a, b, c⟩ := h
  exact ⟨p, vs, a, ex_l e2 b, dpAll_ex e ds vs c⟩
theorem VwD.grow {v : V} (e : Ex F F') (e2 : Ex H H') (h : VwD K F H v d) : VwD K F' H' v d := by
  rcases h with h | ⟨ds, a, b⟩
  · exact .inl (dp_ex e d v h)
  · exact .inr ⟨ds, a, b.grow e e2⟩
/-- the contract, for a state with slots -/
theorem RetR.mk {F1 H1 : Hp} (g : Gr F1 H1 F H) (S : Sts K M F0 H0 F H (σ ++ xs) (ss ++ ts)) (q : ∀ v F' H', Gr F1 H1 F' H' → NewR H1 v r → Sts K M F0 H0 F' H' (σ ++ (xs ++ [some v])) (ss ++ (ts ++ [r])) → Q v H') : RetR K F H r Q := fun v F' H' k => by
  have S' := k M F0 H0 _ _ S
  rw [List.append_assoc, List.append_assoc] at S'
  have S0 : Sts K (fun _ => False) F H F H [] [] := ⟨(Gr.refl S.fh).toM, rfl, fun _ => [], by intro i s h; simp at h, by intro i s p o h; simp at h, fun i h => by simp at h, fun i j p h => by simp at h⟩
  have S1 := k _ _ _ _ _ S0
  refine q v F' H' (g.trans S1.gr.toGr) ?_ S'
  cases r with
  | ls ds =>
    obtain ⟨p, vs, a, _, _, _, hp⟩ := S1.get_ls (i := 0) rfl
    cases a
    exact NewR.back g.hh ⟨p, rfl, hp⟩
  | _ => exact trivial
theorem RetR.mk0 (S : Sts K M F0 H0 F H (σ ++ xs) (ss ++ ts)) (q : ∀ v F' H', Gr F H F' H' → NewR H v r → Sts K M F0 H0 F' H' (σ ++ (xs ++ [some v])) (ss ++ (ts ++ [r])) → Q v H') : RetR K F H r Q := RetR.mk (Gr.refl S.fh) S q

theorem ev_c {v : V} (h : ∀ F, Dp K F v d) : EvR K (tC v) ss (.dt d) := fun M F0 H0 F H σ xs ts l S Q q => (RetR.mk0 S q).dt (h F)
theorem ev_int {i : Int} : EvR K (tC (.int i)) ss (.dt (.int i)) := ev_c fun _ => .int i
theorem ev_bl {i : Bool} : EvR K (tC (.bl i)) ss (.dt (.bool i)) := ev_c fun _ => .bl i
theorem ev_str {i : Str} : EvR K (tC (.str i)) ss (.dt (.str i)) := ev_c fun _ => .str i
theorem ev_non : EvR K (tC .non) ss (.dt .none) := ev_c fun _ => .non
theorem ev_var {i : Nat} (h : ss[i]? = some (.dt d)) : EvR K (tVar i) ss (.dt d) := fun M F0 H0 F H σ xs ts l S Q q => by
  have hi := (List.getElem?_eq_some_iff.mp h).1
  obtain ⟨v, a, b⟩ := S.get_dt (i := i) (by rw [List.getElem?_append_left hi]; exact h)
  rw [List.getElem?_append_left (by omega)] at a
  exact ⟨v, a, (RetR.mk0 S q).dt b⟩
theorem ev_varA {i : Nat} (h : ss[i]? = some (.ls ds)) : EvR K (tVar i) ss (.al i) := fun M F0 H0 F H σ xs ts l S Q q => by
  have hi := (List.getElem?_eq_some_iff.mp h).1
  obtain ⟨p, vs, a, _⟩ := S.get_ls (i := i) (by rw [List.getElem?_append_left hi]; exact h)
  have a' := a
  rw [List.getElem?_append_left (by omega)] at a
  refine ⟨_, a, q _ F H (Gr.refl S.fh) trivial ?_⟩
  have S2 := S.push_al a'
  rw [List.append_assoc, List.append_assoc] at S2
  exact S2
theorem ev_varX {i : Nat} {φ : Hp → V → Prop} (h : ss[i]? = some (.fx φ)) : EvR K (tVar i) ss (.fx φ) := fun M F0 H0 F H σ xs ts l S Q q => by
  have hi := (List.getElem?_eq_some_iff.mp h).1
  obtain ⟨v, a, b⟩ := S.get_fx (i := i) (by rw [List.getElem?_append_left hi]; exact h)
  rw [List.getElem?_append_left (by omega)] at a
  refine ⟨v, a, q _ F H (Gr.refl S.fh) trivial ?_⟩
  have S2 := S.push_fx b
  rw [List.append_assoc, List.append_assoc] at S2
  exact S2
/-- a new list, told as data from now on -/
theorem EvR.frz (h : EvR K te ss (.ls ds)) : EvR K te ss (.dt (.list ds)) := fun M F0 H0 F H σ xs ts l S Q q => by
  refine h M F0 H0 F H σ xs ts l S Q fun v F' H' g n S' => ?_
  have l2 := S.len2
  rw [← List.append_assoc, ← List.append_assoc] at S'
  obtain ⟨p, rfl, hp⟩ := n
  obtain ⟨F2, e2, f2, S2⟩ := S'.freeze (i := (ss ++ ts).length) (ds := ds) (by rw [List.getElem?_append_right (Nat.le_refl _), Nat.sub_self]; rfl)
  rw [List.set_append_right _ _ (Nat.le_refl _), Nat.sub_self, List.append_assoc, List.append_assoc] at S2
  refine q _ F2 H' ⟨g.ff.trans e2, g.hh, S2.fh, fun a h1 h2 => f2 a (fun q ea => ?_) (g.nw a h1 h2)⟩ trivial S2
  rw [← l2, List.getElem?_append_right (Nat.le_refl _), Nat.sub_self] at ea
  cases ea
  exact fun e => h1 (e ▸ hp)
/-- two operands, by what they read as -/
theorem ev_op {o : R2} (ha : EvR K ta ss ra) (hb : EvR K tb ss rb) (va : vw ss ra = some da) (vb : vw ss rb = some db)
    (hr : ∀ F H x y Q, Ex F H → VwD K F H x da → VwD K F H y db → RetR K F H r Q → o x y H Q) : EvR K (tOp o ta tb) ss r := fun M F0 H0 F H σ xs ts l S Q q => by
  refine ha M F0 H0 F H σ xs ts l S _ fun x F1 H1 g1 n1 S1 => ?_
  refine hb M F0 H0 F1 H1 σ (xs ++ [some x]) (ts ++ [ra]) l S1 _ fun y F2 H2 g2 n2 S2 => ?_
  have l1 := S.len2
  have l2 := S1.len2
  have hy := S2.lastV l2 vb
  have S3 := S2.back l2
  have hx := S3.lastV l1 va
  exact hr F2 H2 x y Q S3.fh hx hy (RetR.mk (g1.trans g2) (S3.back l1) q)
theorem ev_un {o : V → Hp → VK → Prop} (ha : EvR K ta ss ra) (va : vw ss ra = some da) (hr : ∀ F H x Q, Ex F H → VwD K F H x da → RetR K F H r Q → o x H Q) : EvR K (tUn o ta) ss r := fun M F0 H0 F H σ xs ts l S Q q => by
  refine ha M F0 H0 F H σ xs ts l S _ fun x F1 H1 g1 n1 S1 => ?_
  have l1 := S.len2
  have hx := S1.lastV l1 va
  exact hr F1 H1 x Q S1.fh hx (RetR.mk g1 (S1.back l1) q)
end
end Fh
set_option Elab.async false
set_option linter.all false
set_option maxRecDepth 100000
set_option maxHeartbeats 2000000
namespace Fh
open PySem PySem.Spec PyProof.Rows L2 Evl
open PySem.W (Datum)

section
variable {K : PySem.W.Frag} {M : Addr → Prop} {F0 H0 F H F' H' : Hp} {σ xs : L2.St} {ss ts rs : List Sl} {ta tb te tc : TE} {tr : TA} {t u : TT} {r ra rb : Sl} {d da db : PyData} {ds : List PyData} {Q : VK} {v x y : V}
/-! ### argument lists -/
theorem av_nil : AvR K tNil ss [] := fun M F0 H0 F H σ xs ts l S Q q => q [] F H rfl (Gr.refl S.fh) (by simpa using S)
theorem av_cons (h : EvR K te ss r) (hr : AvR K tr ss rs) : AvR K (tCons te tr) ss (r :: rs) := fun M F0 H0 F H σ xs ts l S Q q => by
  refine h M F0 H0 F H σ xs ts l S _ fun v F1 H1 g1 n1 S1 => ?_
  refine hr M F0 H0 F1 H1 σ (xs ++ [some v]) (ts ++ [r]) l S1 _ fun vs F2 H2 hl g2 S2 => ?_
  refine q (v :: vs) F2 H2 (by rw [List.length_cons, List.length_cons, hl]) (g1.trans g2) ?_
  rw [List.append_assoc, List.append_assoc] at S2
  exact S2
/-- what the arguments read as -/
def vws (ss : List Sl) : List Sl → Option (List PyData)
  | [] => some []
  | r :: rs => match vw ss r with
    | some d => match vws ss rs with
      | some ds => some (d :: ds)
      | none => none
    | none => none
def dts : List Sl → Option (List PyData)
  | [] => some []
  | .dt d :: rs => match dts rs with
    | some ds => some (d :: ds)
    | none => none
  | _ :: _ => none
inductive VwA (K : PySem.W.Frag) (F H : Hp) : List V → List PyData → Prop where
  | nil : VwA K F H [] []
  | cons {v : V} {vs : List V} {d : PyData} {ds : List PyData} : VwD K F H v d → VwA K F H vs ds → VwA K F H (v :: vs) (d :: ds)
theorem Sts.argsV : ∀ {rs : List Sl} {vs : List V} {ds : List PyData} {xs : L2.St} {ts : List Sl}, Sts K M F0 H0 F H (σ ++ (xs ++ vs.map some)) (ss ++ (ts ++ rs)) → (σ ++ xs).length = (ss ++ ts).length → vs.length = rs.length → vws ss rs = some ds → VwA K F H vs ds
  | [], [], ds, _, _, _, _, _, h => by
    cases h
    exact .nil
  | [], _ :: _, _, _, _, _, _, hl, _ => by simp at hl
  | _ :: _, [], _, _, _, _, _, hl, _ => by simp at hl
  | r :: rs, v :: vs, ds, xs, ts, S, l, hl, h => by
    unfold vws at h
    cases e : vw ss r with
    | none => rw [e] at h; cases h
    | some d =>
      rw [e] at h
      simp only at h
      cases e2 : vws ss rs with
      | none => rw [e2] at h; cases h
      | some ds' =>
        rw [e2] at h
        cases h
        have S2 : Sts K M F0 H0 F H (σ ++ ((xs ++ [some v]) ++ vs.map some)) (ss ++ ((ts ++ [r]) ++ rs)) := by
          rw [List.append_assoc, List.append_assoc]
          exact S
        have l2 : (σ ++ (xs ++ [some v])).length = (ss ++ (ts ++ [r])).length := by
          simp only [List.length_append, List.length_cons, List.length_nil] at l ⊢
          omega
        have S3 : Sts K M F0 H0 F H (σ ++ (xs ++ [some v])) (ss ++ (ts ++ [r])) := by
          rw [← List.append_assoc σ, ← List.append_assoc ss] at S2
          exact S2.drop l2
        exact .cons (S3.lastV l e) (Sts.argsV S2 l2 (by simpa using hl) e2)
theorem Sts.backA {vs : List V} (S : Sts K M F0 H0 F H (σ ++ (xs ++ vs.map some)) (ss ++ (ts ++ rs))) (l : (σ ++ xs).length = (ss ++ ts).length) : Sts K M F0 H0 F H (σ ++ xs) (ss ++ ts) := by
  rw [← List.append_assoc, ← List.append_assoc] at S
  exact S.drop l
theorem Sts.argsD : ∀ {rs : List Sl} {vs : List V} {ds : List PyData} {xs : L2.St} {ts : List Sl}, Sts K M F0 H0 F H (σ ++ (xs ++ vs.map some)) (ss ++ (ts ++ rs)) → (σ ++ xs).length = (ss ++ ts).length → vs.length = rs.length → dts rs = some ds → DpAll K F vs ds
  | [], [], ds, _, _, _, _, _, h => by
    cases h
    exact .nil
  | [], _ :: _, _, _, _, _, _, hl, _ => by simp at hl
  | _ :: _, [], _, _, _, _, _, hl, _ => by simp at hl
  | .no :: _, _ :: _, _, _, _, _, _, _, h => by cases h
  | .ls _ :: _, _ :: _, _, _, _, _, _, _, h => by cases h
  | .al _ :: _, _ :: _, _, _, _, _, _, _, h => by cases h
  | .fx _ :: _, _ :: _, _, _, _, _, _, _, h => by cases h
  | .mu _ :: _, _ :: _, _, _, _, _, _, _, h => by cases h
  | .dt d :: rs, v :: vs, ds, xs, ts, S, l, hl, h => by
    unfold dts at h
    cases e : dts rs with
    | none => rw [e] at h; cases h
    | some ds' =>
      rw [e] at h
      cases h
      have S2 : Sts K M F0 H0 F H (σ ++ ((xs ++ [some v]) ++ vs.map some)) (ss ++ ((ts ++ [.dt d]) ++ rs)) := by
        rw [List.append_assoc, List.append_assoc]
        exact S
      have l2 : (σ ++ (xs ++ [some v])).length = (ss ++ (ts ++ [Sl.dt d])).length := by
        simp only [List.length_append, List.length_cons, List.length_nil] at l ⊢
        omega
      have S3 : Sts K M F0 H0 F H (σ ++ (xs ++ [some v])) (ss ++ (ts ++ [.dt d])) := by
        rw [← List.append_assoc σ, ← List.append_assoc ss] at S2
        exact S2.drop l2
      refine .cons ?_ (Sts.argsD S2 l2 (by simpa using hl) e)
      rw [← List.append_assoc, ← List.append_assoc] at S3
      obtain ⟨w, a, b⟩ := S3.get_dt (i := (ss ++ ts).length) (by rw [List.getElem?_append_right (Nat.le_refl _), Nat.sub_self]; rfl)
      rw [← l, List.getElem?_append_right (Nat.le_refl _), Nat.sub_self] at a
      cases a
      exact b
/-- a built-in's call, by what its arguments read as -/
theorem ev_cb {o : List V → Hp → VK → Prop} (ha : AvR K tr ss rs) (va : vws ss rs = some ds) (hr : ∀ F H vs Q, Ex F H → VwA K F H vs ds → RetR K F H r Q → o vs H Q) : EvR K (tCB o tr) ss r := fun M F0 H0 F H σ xs ts l S Q q => by
  refine ha M F0 H0 F H σ xs ts l S _ fun vs F1 H1 hl g1 S1 => ?_
  have l1 := S.len2
  exact hr F1 H1 vs Q S1.fh (S1.argsV l1 hl va) (RetR.mk g1 (S1.backA l1) q)
/-! ### a def's promise over data -/
/-- what a def is worth: R what it hands back, X what it raises -/
def spF (K : PySem.W.Frag) (R : List PyData → Sl → Prop) (X : List PyData → Addr → Prop) : Sp := fun vs H Q E => ∃ F ds, Ex F H ∧ DpAll K F vs ds ∧
  ((∃ r, R ds r ∧ RetR K F H r Q) ∨ (∃ C, X ds C ∧ ∀ H', Ex H H' → E (.ref C) none H'))
abbrev noX : List PyData → Addr → Prop := fun _ _ => False
theorem dpAll_app : ∀ {vs ws : List V} {ds es : List PyData}, DpAll K F vs ds → DpAll K F ws es → DpAll K F (vs ++ ws) (ds ++ es)
  | _, _, _, _, .nil, h => h
  | _, _, _, _, .cons a b, h => .cons a (dpAll_app b h)
theorem dpAll_len : ∀ {vs : List V} {ds : List PyData}, DpAll K F vs ds → vs.length = ds.length
  | _, _, .nil => rfl
  | _, _, .cons a b => by rw [List.length_cons, List.length_cons, dpAll_len b]
/-- a call of such a def; all arguments data -/
theorem ev_call {R : List PyData → Sl → Prop} {X : List PyData → Addr → Prop} {dvs : List V} {es : List PyData} {E : XK} (ha : AvR K tr ss rs) (va : dts rs = some ds) (hd : ∀ F, DpAll K F dvs es) (h : R (ds ++ es) r) : EvR K (tCall (spF K R X) dvs E tr) ss r := fun M F0 H0 F H σ xs ts l S Q q => by
  refine ha M F0 H0 F H σ xs ts l S _ fun vs F1 H1 hl g1 S1 => ?_
  have l1 := S.len2
  exact ⟨F1, _, S1.fh, dpAll_app (S1.argsD l1 hl va) (hd F1), .inl ⟨r, h, RetR.mk g1 (S1.backA l1) q⟩⟩
theorem ev_call0 {R : List PyData → Sl → Prop} {X : List PyData → Addr → Prop} {E : XK} (ha : AvR K tr ss rs) (va : dts rs = some ds) (h : R ds r) : EvR K (tCall (spF K R X) [] E tr) ss r := by
  refine ev_call (es := []) ha va (fun F => .nil) ?_
  rw [List.append_nil]
  exact h
/-- flat data: nothing of the heap -/
def flatD : PyData → Bool
  | .none | .bool _ | .int _ | .str _ => true
  | _ => false
theorem dp_flat : ∀ {d : PyData} {v : V}, flatD d = true → Dp K F v d → ∀ {F' : Hp}, Dp K F' v d
  | .none, _, _, h, _ => by cases h; exact .non
  | .bool _, _, _, h, _ => by cases h; exact .bl _
  | .int _, _, _, h, _ => by cases h; exact .int _
  | .str _, _, _, h, _ => by cases h; exact .str _
  | .list _, _, h, _, _ => by cases h
  | .tuple _, _, h, _, _ => by cases h
  | .dict _, _, h, _, _ => by cases h
theorem dpAll_flat : ∀ {ds : List PyData} {vs : List V}, ds.all flatD = true → DpAll K F vs ds → ∀ {F' : Hp}, DpAll K F' vs ds
  | [], _, _, h, _ => by cases h; exact .nil
  | d :: ds, _, h, h', _ => by
    cases h' with
    | cons a b =>
      rw [List.all_cons, Bool.and_eq_true] at h
      exact .cons (dp_flat h.1 a) (dpAll_flat h.2 b)
def flatR : Sl → Bool
  | .dt d => flatD d
  | .ls ds => ds.all flatD
  | _ => false
/-- a flat answer leans on nothing that was handed in -/
theorem RetR.flat {Fc : Hp} (k : RetR K F H r Q) (fr : flatR r = true) (e : Ex F H) (ec : Ex Fc H) : RetR K Fc H r Q := fun v F' H' g => by
  have S0 : Sts K (fun _ => False) Fc H Fc H [] [] := ⟨(Gr.refl ec).toM, rfl, fun _ => [], by intro i s h; simp at h, by intro i s p o h; simp at h, fun i h => by simp at h, fun i j p h => by simp at h⟩
  have S1 := g _ _ _ _ _ S0
  have hh : Ex H H' := S1.gr.toGr.hh
  cases r with
  | no => cases fr
  | al j => cases fr
  | fx φ => cases fr
  | mu ψ => cases fr
  | dt d =>
    obtain ⟨w, a, b⟩ := S1.get_dt (i := 0) rfl
    cases a
    exact k.dtE hh (dp_flat fr b)
  | ls ds =>
    obtain ⟨p, vs, a, b, c, _, hp⟩ := S1.get_ls (i := 0) rfl
    cases a
    exact k _ F H' fun _ _ _ _ _ S => S.push_ls hh hp c (dpAll_flat fr b)
theorem vwA_dp : ∀ {vs : List V} {ds : List PyData}, VwA K F H vs ds → Ex F H → DpAll K H vs ds
  | _, _, .nil, _ => .nil
  | _, _, .cons a b, e => .cons (a.dp e) (vwA_dp b e)
/-- a call of such a def: whatever the arguments are, the answer flat -/
theorem ev_callF {R : List PyData → Sl → Prop} {X : List PyData → Addr → Prop} {dvs : List V} {es : List PyData} {E : XK} (ha : AvR K tr ss rs) (va : vws ss rs = some ds) (hd : ∀ F, DpAll K F dvs es) (h : R (ds ++ es) r) (fr : flatR r = true) : EvR K (tCall (spF K R X) dvs E tr) ss r := fun M F0 H0 F H σ xs ts l S Q q => by
  refine ha M F0 H0 F H σ xs ts l S _ fun vs F1 H1 hl g1 S1 => ?_
  have l1 := S.len2
  exact ⟨H1, _, Ex.refl H1, dpAll_app (vwA_dp (S1.argsV l1 hl va) S1.fh) (hd H1), .inl ⟨r, h, (RetR.mk g1 (S1.backA l1) q).flat fr S1.fh (Ex.refl H1)⟩⟩
theorem ev_callF0 {R : List PyData → Sl → Prop} {X : List PyData → Addr → Prop} {E : XK} (ha : AvR K tr ss rs) (va : vws ss rs = some ds) (h : R ds r) (fr : flatR r = true) : EvR K (tCall (spF K R X) [] E tr) ss r := by
  refine ev_callF (es := []) ha va (fun F => .nil) ?_ fr
  rw [List.append_nil]
  exact h

/-! ### numbers -/
theorem ev_ii {f : Int → Int → Int} {i j : Int} (ha : EvR K ta ss (.dt (.int i))) (hb : EvR K tb ss (.dt (.int j))) : EvR K (tOp (rI0 fun i j => .int (f i j)) ta tb) ss (.dt (.int (f i j))) :=
  ev_op ha hb rfl rfl fun F H x y Q e hx hy k => ⟨i, j, hx.int, hy.int, k.int⟩
theorem ev_ib {f : Int → Int → Bool} {i j : Int} (ha : EvR K ta ss (.dt (.int i))) (hb : EvR K tb ss (.dt (.int j))) : EvR K (tOp (rI0 fun i j => .bl (f i j)) ta tb) ss (.dt (.bool (f i j))) :=
  ev_op ha hb rfl rfl fun F H x y Q e hx hy k => ⟨i, j, hx.int, hy.int, k.bl⟩
theorem ev_iC {C : Int → Int → Prop} {f : Int → Int → Int} {i j : Int} (ha : EvR K ta ss (.dt (.int i))) (hb : EvR K tb ss (.dt (.int j))) (hc : C i j) : EvR K (tOp (rI C fun i j => .int (f i j)) ta tb) ss (.dt (.int (f i j))) :=
  ev_op ha hb rfl rfl fun F H x y Q e hx hy k => ⟨i, j, hx.int, hy.int, hc, k.int⟩
theorem ev_u {f : Int → Int} {i : Int} (ha : EvR K ta ss (.dt (.int i))) : EvR K (tUn (rU fun i => .int (f i)) ta) ss (.dt (.int (f i))) :=
  ev_un ha rfl fun F H x Q e hx k => ⟨i, hx.int, k.int⟩
/-! ### ==, != of data -/
def rEqP (K : PySem.W.Frag) : R2 := fun x y H Q => ∃ d e, Dp K H x d ∧ Dp K H y e ∧ d.plain = true ∧ e.plain = true ∧ d.depth ≤ 60 ∧ Q (.bl (PyData.eqv d e)) H
def rNeP (K : PySem.W.Frag) : R2 := fun x y H Q => ∃ d e, Dp K H x d ∧ Dp K H y e ∧ d.plain = true ∧ e.plain = true ∧ d.depth ≤ 60 ∧ Q (.bl (!PyData.eqv d e)) H
theorem op_eqP {X : Cx} (hu : X.A.units + 64 < cLine) : OpR X (compareOp .Eq) (rEqP X.K) := by
  intro pins s σ H x y v u Q I rx ry h
  obtain ⟨d, e, hd, he, sd, se, dd, q⟩ := h
  obtain ⟨as, r1⟩ := L2.Dp.reads I d x v (Dp.kit d x sd hd) rx
  obtain ⟨bs, r2⟩ := L2.Dp.reads I e y u (Dp.kit e y se he) ry
  exact PySem.SeqAt.eq_plain r1 r2 sd se (PySem.W.room_datum (k := 60) dd (by omega)) ⟨.bl _, H, I, rfl, q⟩
theorem op_neP {X : Cx} (hu : X.A.units + 64 < cLine) : OpR X (compareOp .NotEq) (rNeP X.K) := by
  intro pins s σ H x y v u Q I rx ry h
  obtain ⟨d, e, hd, he, sd, se, dd, q⟩ := h
  obtain ⟨as, r1⟩ := L2.Dp.reads I d x v (Dp.kit d x sd hd) rx
  obtain ⟨bs, r2⟩ := L2.Dp.reads I e y u (Dp.kit e y se he) ry
  exact PySem.SeqAt.ne_plain r1 r2 sd se (PySem.W.room_datum (k := 60) dd (by omega)) ⟨.bl _, H, I, rfl, q⟩
theorem ev_eqP (ha : EvR K ta ss ra) (hb : EvR K tb ss rb) (va : vw ss ra = some da) (vb : vw ss rb = some db) (h1 : da.plain = true) (h2 : db.plain = true) (h3 : da.depth ≤ 60) : EvR K (tOp (rEqP K) ta tb) ss (.dt (.bool (PyData.eqv da db))) :=
  ev_op ha hb va vb fun F H x y Q e hx hy k => ⟨da, db, hx.dp e, hy.dp e, h1, h2, h3, k.bl⟩
theorem ev_neP (ha : EvR K ta ss ra) (hb : EvR K tb ss rb) (va : vw ss ra = some da) (vb : vw ss rb = some db) (h1 : da.plain = true) (h2 : db.plain = true) (h3 : da.depth ≤ 60) : EvR K (tOp (rNeP K) ta tb) ss (.dt (.bool (!PyData.eqv da db))) :=
  ev_op ha hb va vb fun F H x y Q e hx hy k => ⟨da, db, hx.dp e, hy.dp e, h1, h2, h3, k.bl⟩
/-- .. of things of one Lean type -/
theorem ev_eqT {α : Type} [DecidableEq α] [Datum α] {a b : α} (ha : EvR K ta ss ra) (hb : EvR K tb ss rb) (va : vw ss ra = some (Datum.toD a)) (vb : vw ss rb = some (Datum.toD b)) (hd : Datum.depth α ≤ 60 := by decide) : EvR K (tOp (rEqP K) ta tb) ss (.dt (.bool (decide (a = b)))) := by
  rw [← Datum.eqv a b]
  exact ev_eqP ha hb va vb (Datum.plain a) (Datum.plain b) (Nat.le_trans (Datum.depth_le a) hd)
theorem ev_neT {α : Type} [DecidableEq α] [Datum α] {a b : α} (ha : EvR K ta ss ra) (hb : EvR K tb ss rb) (va : vw ss ra = some (Datum.toD a)) (vb : vw ss rb = some (Datum.toD b)) (hd : Datum.depth α ≤ 60 := by decide) : EvR K (tOp (rNeP K) ta tb) ss (.dt (.bool (!decide (a = b)))) := by
  rw [← Datum.eqv a b]
  exact ev_neP ha hb va vb (Datum.plain a) (Datum.plain b) (Nat.le_trans (Datum.depth_le a) hd)
/-! ### items -/
theorem dpAll_get : ∀ {vs : List V} {ds : List PyData} {j : Nat} {d : PyData}, DpAll K F vs ds → ds[j]? = some d → ∃ v, vs[j]? = some v ∧ Dp K F v d
  | _, [], _, _, _, h => by simp at h
  | _, e :: ds, 0, d, h, h2 => by
    cases h with
    | cons a b =>
      cases Option.some.inj h2
      exact ⟨_, rfl, a⟩
  | _, e :: ds, j + 1, d, h, h2 => by
    cases h with
    | cons a b =>
      obtain ⟨v, x, y⟩ := dpAll_get (j := j) b (by simpa using h2)
      exact ⟨v, by simpa using x, y⟩
theorem dpAll_get' : ∀ {vs : List V} {ds : List PyData} {j : Nat} {v : V}, DpAll K F vs ds → vs[j]? = some v → ∃ d, ds[j]? = some d ∧ Dp K F v d
  | _, _, _, _, .nil, h => by simp at h
  | _, _, 0, v, .cons a b, h => by
    cases Option.some.inj h
    exact ⟨_, rfl, a⟩
  | _, _, j + 1, v, .cons a b, h => by
    obtain ⟨d, x, y⟩ := dpAll_get' (j := j) b (by simpa using h)
    exact ⟨d, by simpa using x, y⟩
theorem dpAll_at {vs : List V} {i : Int} (h : DpAll K F vs ds) (ha : atI ds i = some d) : ∃ v, atI vs i = some v ∧ Dp K F v d := by
  unfold atI at ha ⊢
  rw [dpAll_len h]
  cases e : ixN ds.length i with
  | none => rw [e] at ha; cases ha
  | some j =>
    rw [e] at ha
    exact dpAll_get h ha
theorem ev_ixL {i : Int} (ha : EvR K ta ss ra) (hb : EvR K tb ss (.dt (.int i))) (va : vw ss ra = some (.list ds)) (h : atI ds i = some d) : EvR K (tOp (rIxL K) ta tb) ss (.dt d) :=
  ev_op ha hb va rfl fun F H x y Q e hx hy k => by
    obtain ⟨p, vs, rfl, a, b⟩ := hx.lst e
    obtain ⟨v, c, g⟩ := dpAll_at b h
    exact ⟨p, vs, i, v, rfl, hy.int, a, c, k.dt g⟩
theorem ev_ixT {i : Int} (ha : EvR K ta ss ra) (hb : EvR K tb ss (.dt (.int i))) (va : vw ss ra = some (.tuple ds)) (h : atI ds i = some d) : EvR K (tOp (rIxT K) ta tb) ss (.dt d) :=
  ev_op ha hb va rfl fun F H x y Q e hx hy k => by
    obtain ⟨p, vs, rfl, a, b⟩ := hx.tup e
    obtain ⟨v, c, g⟩ := dpAll_at b h
    exact ⟨p, vs, i, v, rfl, hy.int, a, c, k.dt g⟩
theorem ev_ixS {i : Int} {z : Str} {c : Nat} (ha : EvR K ta ss (.dt (.str z))) (hb : EvR K tb ss (.dt (.int i))) (hz : z.length ≤ sizeLine) (h : atI z.cps.toList i = some c) : EvR K (tOp rIxS ta tb) ss (.dt (.str ⟨#[c]⟩)) :=
  ev_op ha hb rfl rfl fun F H x y Q e hx hy k => ⟨z, i, c, hx.str, hy.int, hz, h, k.str⟩
/-! ### displays -/
theorem ev_tup (ha : AvR K tr ss rs) (va : dts rs = some ds) (hl : rs.length ≤ 1000) : EvR K (tTup tr) ss (.dt (.tuple ds)) := fun M F0 H0 F H σ xs ts l S Q q => by
  refine ha M F0 H0 F H σ xs ts l S _ fun vs F1 H1 hl1 g1 S1 => ?_
  have l1 := S.len2
  exact ⟨Nat.le_of_lt (small1000 (by omega)), fun p hp => (RetR.mk g1 (S1.backA l1) q).tup (S1.argsD l1 hl1 va) hp⟩
theorem ev_lst (ha : AvR K tr ss rs) (va : dts rs = some ds) (hl : rs.length ≤ 1000) : EvR K (tLst tr) ss (.ls ds) := fun M F0 H0 F H σ xs ts l S Q q => by
  refine ha M F0 H0 F H σ xs ts l S _ fun vs F1 H1 hl1 g1 S1 => ?_
  have l1 := S.len2
  exact ⟨Nat.le_of_lt (small1000 (by omega)), fun p hp => (RetR.mk g1 (S1.backA l1) q).lst (S1.argsD l1 hl1 va) hp⟩
/-! ### tests -/
theorem tv_test {b : Bool} (h : EvR K te ss (.dt (.bool b))) : TvR K (tTest te) ss b := fun M F0 H0 F H σ xs ts l S Q q => by
  refine h M F0 H0 F H σ xs ts l S _ fun v F1 H1 g1 n1 S1 => ?_
  have l1 := S.len2
  exact ⟨b, (S1.lastV l1 (d := .bool b) rfl).bl, q F1 H1 g1 (S1.back l1)⟩
theorem tv_B {b : Bool} (h : EvR K te ss (.dt (.bool b))) : TvR K (tB te) ss b := fun M F0 H0 F H σ xs ts l S Q q => by
  refine h M F0 H0 F H σ xs ts l S _ fun v F1 H1 g1 n1 S1 => ?_
  have l1 := S.len2
  exact ⟨b, (S1.lastV l1 (d := .bool b) rfl).bl, q F1 H1 g1 (S1.back l1)⟩
theorem tv_and {a b : Bool} (h1 : TvR K t ss a) (h2 : a = true → TvR K u ss b) : TvR K (tAnd t u) ss (a && b) := fun M F0 H0 F H σ xs ts l S Q q => by
  refine h1 M F0 H0 F H σ xs ts l S _ fun F1 H1 g1 S1 => ?_
  cases a with
  | true => exact h2 rfl M F0 H0 F1 H1 σ xs ts l S1 Q fun F2 H2 g2 S2 => q F2 H2 (g1.trans g2) S2
  | false => exact q F1 H1 g1 S1
theorem tv_or {a b : Bool} (h1 : TvR K t ss a) (h2 : a = false → TvR K u ss b) : TvR K (tOr t u) ss (a || b) := fun M F0 H0 F H σ xs ts l S Q q => by
  refine h1 M F0 H0 F H σ xs ts l S _ fun F1 H1 g1 S1 => ?_
  cases a with
  | true => exact q F1 H1 g1 S1
  | false => exact h2 rfl M F0 H0 F1 H1 σ xs ts l S1 Q fun F2 H2 g2 S2 => q F2 H2 (g1.trans g2) S2
theorem tv_not {a : Bool} (h1 : TvR K t ss a) : TvR K (tNot t) ss (!a) := fun M F0 H0 F H σ xs ts l S Q q => h1 M F0 H0 F H σ xs ts l S _ q
theorem TvR.to {a b : Bool} (h : TvR K t ss a) (e : a = b) : TvR K t ss b := e ▸ h
theorem EvR.to {a b : Sl} (h : EvR K te ss a) (e : a = b) : EvR K te ss b := e ▸ h
theorem EvR.toD {a b : PyData} (h : EvR K te ss (.dt a)) (e : a = b) : EvR K te ss (.dt b) := e ▸ h
/-- as values -/
theorem ev_and {a b : Bool} (h1 : EvR K ta ss (.dt (.bool a))) (h2 : a = true → EvR K tb ss (.dt (.bool b))) : EvR K (tAndV ta tb) ss (.dt (.bool (a && b))) := fun M F0 H0 F H σ xs ts l S Q q => by
  refine h1 M F0 H0 F H σ xs ts l S _ fun v F1 H1 g1 n1 S1 => ?_
  have l1 := S.len2
  refine ⟨a, (S1.lastV l1 (d := .bool a) rfl).bl, ?_⟩
  cases a with
  | true => exact h2 rfl M F0 H0 F1 H1 σ xs ts l (S1.back l1) Q fun v F2 H2 g2 n2 S2 => q v F2 H2 (g1.trans g2) trivial S2
  | false => exact (RetR.mk g1 (S1.back l1) q).bl
theorem ev_or {a b : Bool} (h1 : EvR K ta ss (.dt (.bool a))) (h2 : a = false → EvR K tb ss (.dt (.bool b))) : EvR K (tOrV ta tb) ss (.dt (.bool (a || b))) := fun M F0 H0 F H σ xs ts l S Q q => by
  refine h1 M F0 H0 F H σ xs ts l S _ fun v F1 H1 g1 n1 S1 => ?_
  have l1 := S.len2
  refine ⟨a, (S1.lastV l1 (d := .bool a) rfl).bl, ?_⟩
  cases a with
  | true => exact (RetR.mk g1 (S1.back l1) q).bl
  | false => exact h2 rfl M F0 H0 F1 H1 σ xs ts l (S1.back l1) Q fun v F2 H2 g2 n2 S2 => q v F2 H2 (g1.trans g2) trivial S2
theorem ev_not {a : Bool} (h1 : EvR K ta ss (.dt (.bool a))) : EvR K (tNotV ta) ss (.dt (.bool (!a))) := fun M F0 H0 F H σ xs ts l S Q q => by
  refine h1 M F0 H0 F H σ xs ts l S _ fun v F1 H1 g1 n1 S1 => ?_
  have l1 := S.len2
  exact ⟨a, (S1.lastV l1 (d := .bool a) rfl).bl, (RetR.mk g1 (S1.back l1) q).bl⟩
theorem ev_if {b : Bool} (h : TvR K t ss b) (h1 : b = true → EvR K ta ss r) (h2 : b = false → EvR K tb ss r) : EvR K (tIf t ta tb) ss r := fun M F0 H0 F H σ xs ts l S Q q => by
  refine h M F0 H0 F H σ xs ts l S _ fun F1 H1 g1 S1 => ?_
  cases b with
  | true => exact h1 rfl M F0 H0 F1 H1 σ xs ts l S1 Q fun v F2 H2 g2 n2 S2 => q v F2 H2 (g1.trans g2) (n2.back g1.hh) S2
  | false => exact h2 rfl M F0 H0 F1 H1 σ xs ts l S1 Q fun v F2 H2 g2 n2 S2 => q v F2 H2 (g1.trans g2) (n2.back g1.hh) S2
end
end Fh
set_option Elab.async false
set_option linter.all false
set_option maxRecDepth 100000
set_option maxHeartbeats 2000000
namespace Fh
open PySem PySem.Spec PyProof.Rows L2 Evl
open PySem.W (Datum)

section
variable {K : PySem.W.Frag} {M : Addr → Prop} {F0 H0 F H F' H' : Hp} {σ xs gs : L2.St} {ss ts rs gt : List Sl} {ta tb te tc : TE} {tr : TA} {t u : TT} {r ra rb : Sl} {d da db : PyData} {ds : List PyData} {Q : VK} {v x y : V}
/-! ### statements: σ the def's slots, gs things remembered beside them -/
theorem st_seq {t u : TS} {D : Ends} (h : t { D with nx := u D } σ H) : tSeq t u D σ H := h
theorem st_asg {D : Ends} {i : Nat} (S : Sts K M F0 H0 F H (σ ++ gs) (ss ++ gt)) (l : σ.length = ss.length) (h : EvR K te ss r) (na : (ss ++ gt).all notAl = true) (nr : notAl r = true) (hi : i < ss.length)
    (k : ∀ σ' F' H', Sts K M F0 H0 F' H' (σ' ++ gs) (ss.set i r ++ gt) → σ'.length = (ss.set i r).length → D.nx σ' H') : tAsg te (gName i) D σ H := by
  refine h M F0 H0 F H σ gs gt l S _ fun v F1 H1 g1 n1 S1 => ?_
  have l2 := S.len2
  rw [← List.append_assoc, ← List.append_assoc] at S1
  have S2 := S1.put (i := i) l2 (by rw [List.length_append]; omega) na nr
  rw [List.set_append_left _ _ (by omega), List.set_append_left _ _ hi] at S2
  exact k _ F1 H1 S2 (by rw [List.length_set, List.length_set, l])
theorem st_drop {D : Ends} (S : Sts K M F0 H0 F H (σ ++ gs) (ss ++ gt)) (l : σ.length = ss.length) (h : EvR K te ss r)
    (k : ∀ F' H', Sts K M F0 H0 F' H' (σ ++ gs) (ss ++ gt) → D.nx σ H') : tDrop te D σ H :=
  h M F0 H0 F H σ gs gt l S _ fun v F1 H1 g1 n1 S1 => k F1 H1 (S1.back S.len2)
theorem st_if {D : Ends} {tu tw : TS} {b : Bool} (S : Sts K M F0 H0 F H (σ ++ gs) (ss ++ gt)) (l : σ.length = ss.length) (h : TvR K t ss b)
    (h1 : b = true → ∀ F' H', Sts K M F0 H0 F' H' (σ ++ gs) (ss ++ gt) → tu D σ H') (h2 : b = false → ∀ F' H', Sts K M F0 H0 F' H' (σ ++ gs) (ss ++ gt) → tw D σ H') : tIfS t tu tw D σ H :=
  h M F0 H0 F H σ gs gt l S _ fun F1 H1 g1 S1 => by
    cases b with
    | true =>
      show tu D σ H1
      exact h1 rfl F1 H1 S1
    | false =>
      show tw D σ H1
      exact h2 rfl F1 H1 S1
/-- a slot more, of things made behind the state's heap -/
theorem Sts.push_at {v : V} {L1 : List (Addr × HO)} (S : Sts K M F0 H0 F H σ ss) (g : Gr F H F' H') (hr : SlOk K F' (σ ++ [some v]) σ.length L1 r) (ha : ∀ p o, (p, o) ∈ L1 → H' p = some o ∧ F' p = none ∧ H p = none) (hn : (L1.map (·.1)).Nodup) :
    Sts K M F0 H0 F' H' (σ ++ [some v]) (ss ++ [r]) := by
  obtain ⟨g', l', L', O'⟩ := S
  have cut : ∀ {i}, i < (ss ++ [r]).length → i < ss.length ∨ i = ss.length := fun {i} h => by
    rw [List.length_append] at h
    have : [r].length = 1 := rfl
    omega
  have oth : ∀ {i p}, i < ss.length → p ∈ L1.map (·.1) → p ∈ (L' i).map (·.1) → False := fun {i p} hi h1 h2 => by
    obtain ⟨⟨q, o⟩, h3, rfl⟩ := List.mem_map.mp h1
    obtain ⟨⟨q', u⟩, h4, e4⟩ := List.mem_map.mp h2
    have e4' : q' = q := e4
    subst e4'
    have a := (O'.at_ i _ q' u (List.getElem?_eq_getElem hi) h4).1
    rw [(ha q' o h3).2.2] at a
    cases a
  refine ⟨g'.trans g.toM, by rw [List.length_append, List.length_append, l']; rfl, fun i => if i = ss.length then L1 else L' i, fun i s h => ?_, fun i s p o hs hp => ?_, fun i hi => ?_, fun i j p hi hj hp hq => ?_⟩
  · rcases cut (List.getElem?_eq_some_iff.mp h).1 with hi | rfl
    · rw [List.getElem?_append_left hi] at h
      rw [if_neg (by omega)]
      refine ((O'.ok i s h).ex g.ff).cong fun j hj => ?_
      rw [List.getElem?_append_left (by omega)]
    · rw [List.getElem?_append_right (Nat.le_refl _), Nat.sub_self] at h
      cases h
      rw [if_pos rfl, ← l']
      exact hr
  · rcases cut (List.getElem?_eq_some_iff.mp hs).1 with hi | rfl
    · rw [if_neg (by omega)] at hp
      rw [List.getElem?_append_left hi] at hs
      obtain ⟨a, b, c⟩ := O'.at_ i s p o hs hp
      exact ⟨g.hh p o a, g.nw p (by rw [a]; exact fun z => nomatch z) b, c⟩
    · rw [if_pos rfl] at hp
      obtain ⟨a, b, c⟩ := ha p o hp
      exact ⟨a, b, .inl (none_or fun h => g'.al p h c)⟩
  · rcases cut hi with hi | rfl
    · simp only [if_neg (show ¬ i = ss.length by omega)]
      exact O'.nd i hi
    · simp only [if_pos]
      exact hn
  · rcases cut hi with hi | rfl
    · rw [if_neg (by omega)] at hp
      rcases cut hj with hj | rfl
      · rw [if_neg (by omega)] at hq
        exact O'.ap i j p hi hj hp hq
      · rw [if_pos rfl] at hq
        exact (oth hi hq hp).elim
    · rw [if_pos rfl] at hp
      rcases cut hj with hj | rfl
      · rw [if_neg (by omega)] at hq
        exact (oth hj hp hq).elim
      · rfl
/-- what the def hands back -/
theorem ret_of {v : V} {Q : VK} (k : RetR K F0 H0 r Q) (S : Sts K (fun _ => False) F0 H0 F H (σ ++ [some v]) (ss ++ [r])) (l : σ.length = ss.length) (nr : notAl r = true) : Q v H := by
  refine k v F H fun M' F0' H0' σ' ss' S' => ?_
  have g : Gr F0 H0 F H := S.gr.toGr
  obtain ⟨_, _, L, O⟩ := S
  have ha : (ss ++ [r])[ss.length]? = some r := by rw [List.getElem?_append_right (Nat.le_refl _), Nat.sub_self]; rfl
  have o := O.ok ss.length r ha
  have at' := O.at_ ss.length r
  have nd := O.nd ss.length (by rw [List.length_append]; exact Nat.lt_succ_self _)
  have ev : (σ ++ [some v])[ss.length]? = some (some v) := by rw [← l]; exact last_at
  refine S'.push_at g (L1 := L ss.length) ?_ (fun p o h => ⟨(at' p o ha h).1, (at' p o ha h).2.1, (at' p o ha h).2.2.resolve_right fun z => z.1.elim⟩) nd
  cases r with
  | al j => cases nr
  | no => exact o
  | dt d =>
    obtain ⟨a, w, b, c⟩ := o
    rw [ev] at b
    cases b
    exact ⟨a, v, last_at, c⟩
  | ls ds =>
    obtain ⟨p, vs, a, b, c⟩ := o
    rw [ev] at a
    cases a
    exact ⟨p, vs, last_at, b, c⟩
  | fx φ =>
    obtain ⟨a, w, b, c⟩ := o
    rw [ev] at b
    cases b
    exact ⟨a, v, last_at, c⟩
  | mu ψ =>
    obtain ⟨w, b, c⟩ := o
    rw [ev] at b
    cases b
    exact ⟨v, last_at, c⟩
theorem st_ret {D : Ends} (S : Sts K (fun _ => False) F0 H0 F H (σ ++ gs) (ss ++ gt)) (l : σ.length = ss.length) (h : EvR K te ss r) (nr : notAl r = true) (k : RetR K F0 H0 r D.rt) : tRet te D σ H := by
  refine h _ F0 H0 F H σ gs gt l S _ fun v F1 H1 g1 n1 S1 => ?_
  have l2 := S.len2
  rw [← List.append_assoc, ← List.append_assoc] at S1
  exact ret_of k S1 l2 nr
/-- a slot that holds a new list is handed back -/
theorem st_retA {D : Ends} {i : Nat} (S : Sts K (fun _ => False) F0 H0 F H (σ ++ gs) (ss ++ gt)) (l : σ.length = ss.length) (h : ss[i]? = some (.ls ds)) (k : RetR K F0 H0 (.ls ds) D.rt) : tRet (tVar i) D σ H := by
  have hi := (List.getElem?_eq_some_iff.mp h).1
  have h' : (ss ++ gt)[i]? = some (.ls ds) := by rw [List.getElem?_append_left hi]; exact h
  obtain ⟨p, vs, a, b, c, f, z⟩ := S.get_ls h'
  have a' := a
  rw [List.getElem?_append_left (by omega)] at a
  refine ⟨_, a, k _ F H fun M' F0' H0' σ' ss' S' => ?_⟩
  exact S'.push_at S.gr.toGr (L1 := [(p, .lst vs)]) ⟨p, vs, last_at, rfl, b⟩ (fun q o h => by
    cases List.mem_singleton.mp h
    exact ⟨c, f, z⟩) (by simp)
end
end Fh
set_option Elab.async false
set_option linter.all false
set_option maxRecDepth 100000
set_option maxHeartbeats 2000000
namespace Fh
open PySem PySem.Spec PyProof.Rows L2 Evl
open PySem.W (Datum)

section
variable {K : PySem.W.Frag} {M : Addr → Prop} {F0 H0 F H F' H' : Hp} {σ xs gs : L2.St} {ss ts rs gt : List Sl} {ta tb te tc : TE} {tr : TA} {t u : TT} {r ra rb : Sl} {d da db : PyData} {ds : List PyData} {Q : VK} {v x y : V}
/-! ### slots forgotten, or told in other words -/
inductive Wk : List Sl → List Sl → Prop where
  | nil : Wk [] []
  | same {a b : Sl} {l m : List Sl} (e : a = b) (h : Wk l m) : Wk (a :: l) (b :: m)
  | no {a : Sl} {l m : List Sl} (h : Wk l m) : Wk (a :: l) (.no :: m)
theorem Wk.refl : ∀ l : List Sl, Wk l l
  | [] => .nil
  | _ :: l => .same rfl (Wk.refl l)
theorem Wk.app : ∀ {a b c d : List Sl}, Wk a b → Wk c d → Wk (a ++ c) (b ++ d)
  | _, _, _, _, .nil, h => h
  | _, _, _, _, .same e h1, h => .same e (Wk.app h1 h)
  | _, _, _, _, .no h1, h => .no (Wk.app h1 h)
theorem Wk.len : ∀ {a b : List Sl}, Wk a b → a.length = b.length
  | _, _, .nil => rfl
  | _, _, .same _ h => by rw [List.length_cons, List.length_cons, Wk.len h]
  | _, _, .no h => by rw [List.length_cons, List.length_cons, Wk.len h]
theorem Wk.get : ∀ {a b : List Sl} {i : Nat} {s : Sl}, Wk a b → b[i]? = some s → a[i]? = some s ∨ s = .no
  | _, _, _, _, .nil, h => by simp at h
  | _, _, 0, _, .same e h1, h => by
    cases Option.some.inj h
    exact .inl (by rw [e]; rfl)
  | _, _, i + 1, s, .same e h1, h => by
    have := Wk.get (i := i) (s := s) h1 (by simpa using h)
    simpa using this
  | _, _, 0, _, .no h1, h => by
    cases Option.some.inj h
    exact .inr rfl
  | _, _, i + 1, s, .no h1, h => by
    have := Wk.get (i := i) (s := s) h1 (by simpa using h)
    simpa using this
theorem Sts.weak {ss' : List Sl} (S : Sts K M F0 H0 F H σ ss) (w : Wk ss ss') : Sts K M F0 H0 F H σ ss' := by
  obtain ⟨g, l, L, O⟩ := S
  have e := w.len
  classical
  refine ⟨g, l.trans e, fun i => if ss'[i]? = some .no then [] else L i, fun i s h => ?_, fun i s p o hs hp => ?_, fun i hi => ?_, fun i j p hi hj hp hq => ?_⟩
  · rcases w.get h with h1 | rfl
    · by_cases hn : s = .no
      · subst hn
        rw [if_pos h]
        rfl
      · rw [if_neg (by rw [h]; exact fun z => hn (Option.some.inj z))]
        exact O.ok i s h1
    · rw [if_pos h]
      rfl
  · by_cases hn : s = .no
    · subst hn
      rw [if_pos hs] at hp
      cases hp
    · rw [if_neg (by rw [hs]; exact fun z => hn (Option.some.inj z))] at hp
      exact O.at_ i s p o ((w.get hs).resolve_right hn) hp
  · split
    · exact .nil
    · exact O.nd i (by omega)
  · split at hp
    · cases hp
    · split at hq
      · cases hq
      · exact O.ap i j p (by omega) (by omega) hp hq
/-! ### lists that change -/
/-- xs.append(e) -/
theorem st_app {D : Ends} {i : Nat} (S : Sts K M F0 H0 F H (σ ++ gs) (ss ++ gt)) (l : σ.length = ss.length) (h : ss[i]? = some (.ls ds)) (he : EvR K te ss (.dt d)) (hl : ds.length < 1000000)
    (k : ∀ F' H', Sts K M F0 H0 F' H' (σ ++ gs) (ss.set i (.ls (ds ++ [d])) ++ gt) → σ.length = (ss.set i (.ls (ds ++ [d]))).length → D.nx σ H') : tDrop (tBM K "list" rAppend (tVar i) (tCons te tNil)) D σ H := by
  have hi := (List.getElem?_eq_some_iff.mp h).1
  have h' : (ss ++ gt)[i]? = some (.ls ds) := by rw [List.getElem?_append_left hi]; exact h
  obtain ⟨p, vs, a, b, c, f, z⟩ := S.get_ls h'
  have a2 := a
  rw [List.getElem?_append_left (by omega)] at a2
  refine ⟨.ref p, a2, .inl ⟨rfl, _, SqL.of c⟩, ?_⟩
  refine he M F0 H0 F H σ gs gt l S _ fun v F1 H1 g1 n1 S1 => ?_
  have l2 := S.len2
  have S2 := S1.back l2
  obtain ⟨q, ws, a1, b1, c1, d1, k1⟩ := S2.write h'
  rw [a] at a1
  cases a1
  rw [← List.append_assoc, ← List.append_assoc] at S1
  obtain ⟨w, e1, e2⟩ := S1.get_dt (i := (ss ++ gt).length) (by rw [List.getElem?_append_right (Nat.le_refl _), Nat.sub_self]; rfl)
  rw [← l2, last_at] at e1
  cases e1
  refine ⟨p, ws, v, rfl, rfl, b1, ?_, ?_⟩
  · rw [dpAll_len c1, sizeLine_eq]
    omega
  · have S3 := k1 (ws ++ [v]) (ds ++ [d]) (dpAll_app c1 (.cons e2 .nil))
    rw [List.set_append_left _ _ hi] at S3
    exact k F1 _ S3 (by rw [List.length_set, l])
/-- target i = a slot more at the end -/
theorem Sts.setv {i : Nat} {v : V} (S : Sts K M F0 H0 F H (σ ++ gs) (ss ++ gt)) (l : σ.length = ss.length) (hi : i < ss.length) (h : Dp K F v d) (na : (ss ++ gt).all notAl = true) : Sts K M F0 H0 F H (σ.set i (some v) ++ gs) (ss.set i (.dt d) ++ gt) := by
  have S3 := (S.push_dt h).put (i := i) S.len2 (by rw [List.length_append]; omega) na rfl
  rw [List.set_append_left _ _ (by omega), List.set_append_left _ _ hi] at S3
  exact S3
/-! ### loops -/
/-- what stands behind a turn: the word W -/
def Nxt (K : PySem.W.Frag) (M : Addr → Prop) (F0 H0 : Hp) (gs : L2.St) (gt W : List Sl) (σ : L2.St) (H : Hp) : Prop := ∃ F, Sts K M F0 H0 F H (σ ++ gs) (W ++ gt) ∧ σ.length = W.length
/-- for x in range(n) -/
theorem st_forR1 {D : Ends} {tb : TS} {i : Nat} {n : Int} {m : Nat} (S : Sts K M F0 H0 F H (σ ++ gs) (ss ++ gt)) (l : σ.length = ss.length) (h : AvR K tr ss [.dt (.int n)]) (hn : n = (m : Int)) (hm : m < 2 ^ 60) (W : Nat → List Sl) (w0 : Wk ss (W 0)) (na : ∀ k, ((W k) ++ gt).all notAl = true) (hi : i < ss.length)
    (hs : ∀ k, k < m → ∀ σ' F' H', Sts K M F0 H0 F' H' (σ' ++ gs) ((W k).set i (.dt (.int (k : Int))) ++ gt) → σ'.length = ((W k).set i (.dt (.int (k : Int)))).length → tb { D with nx := Nxt K M F0 H0 gs gt (W (k + 1)), ct := Nxt K M F0 H0 gs gt (W (k + 1)), bk := D.nx } σ' H')
    (hd : ∀ σ' F' H', Sts K M F0 H0 F' H' (σ' ++ gs) (W m ++ gt) → σ'.length = (W m).length → D.nx σ' H') (hw : ∀ k, (W k).length = ss.length := by intro _; rfl) : tFor (iRng1 tr) (gName i) tb D σ H := by
  refine h M F0 H0 F H σ gs gt l S _ fun vs F1 H1 hl g1 S1 => ?_
  have ha := S1.argsV (ds := [.int n]) S.len2 hl rfl
  have hv : vs = [.int n] := by
    cases ha with
    | cons a b =>
      cases b
      rw [a.int]
  have S2 := S1.backA S.len2
  refine ⟨n, hv, by omega, by omega, ?_⟩
  have e : n.toNat = m := by omega
  rw [e]
  refine for_range (lo := 0) (n := m) (fun k σ H => Nxt K M F0 H0 gs gt (W k) σ H) ⟨F1, S2.weak (w0.app (Wk.refl _)), by rw [hw, l]⟩ (fun k σ' H' hk p => ?_) fun σ' H' p => ?_
  · obtain ⟨F2, S3, l3⟩ := p
    have e0 : (0 : Int) + (k : Int) = (k : Int) := Int.zero_add _
    rw [e0]
    exact hs k hk _ F2 H' (S3.setv l3 (by rw [hw]; exact hi) (.int _) (na k)) (by rw [List.length_set, List.length_set, l3])
  · obtain ⟨F2, S3, l3⟩ := p
    exact hd σ' F2 H' S3 l3
/-- for x in a list that reads as ds (remembered while the loop runs) -/
theorem st_forL {D : Ends} {tb : TS} {g : TG} (S : Sts K M F0 H0 F H (σ ++ gs) (ss ++ gt)) (l : σ.length = ss.length) (h : EvR K te ss (.dt (.list ds))) (W : Nat → List Sl) (w0 : Wk ss (W 0))
    (hs : ∀ k d p, ds[k]? = some d → ∀ x σ' F' H', Dp K F' x d → Sts K M F0 H0 F' H' (σ' ++ (gs ++ [some p])) (W k ++ (gt ++ [.dt (.list ds)])) → σ'.length = (W k).length →
      g x σ' H' fun σ2 H2 => tb { D with nx := Nxt K M F0 H0 (gs ++ [some p]) (gt ++ [.dt (.list ds)]) (W (k + 1)), ct := Nxt K M F0 H0 (gs ++ [some p]) (gt ++ [.dt (.list ds)]) (W (k + 1)), bk := D.nx } σ2 H2)
    (hd : ∀ σ' F' H', Sts K M F0 H0 F' H' (σ' ++ gs) (W ds.length ++ gt) → σ'.length = (W ds.length).length → D.nx σ' H') (hw : ∀ k, (W k).length = ss.length := by intro _; rfl) : tFor (iList K te) g tb D σ H := by
  refine h M F0 H0 F H σ gs gt l S _ fun v F1 H1 g1 n1 S1 => ?_
  have hv := (S1.lastV S.len2 (d := .list ds) rfl).lst S1.fh
  obtain ⟨a, vs, rfl, sq, da⟩ := hv
  have hlen := dpAll_len da
  refine ⟨a, rfl, ⟨vs, sq⟩, ?_⟩
  -- the list at a, read off the remembered slot
  have look : ∀ {k : Nat} {σ' : L2.St} {F' H' : Hp}, Sts K M F0 H0 F' H' (σ' ++ (gs ++ [some (.ref a)])) (W k ++ (gt ++ [.dt (.list ds)])) → σ'.length = (W k).length → ∃ ws, SqL K H' a ws ∧ DpAll K F' ws ds := fun {k σ' F' H'} S3 l3 => by
    have hg := S.len
    have l4 : (σ' ++ gs).length = (W k ++ gt).length := by
      rw [List.length_append] at hg ⊢
      rw [List.length_append] at hg ⊢
      omega
    obtain ⟨p, ws, e, x, y⟩ := (S3.lastV l4 (d := .list ds) rfl).lst S3.fh
    cases e
    exact ⟨ws, x, y⟩
  refine ⟨fun k m σ' H' => m = ds.length - k ∧ k ≤ ds.length ∧ Nxt K M F0 H0 (gs ++ [some (.ref a)]) (gt ++ [.dt (.list ds)]) (W k) σ' H', ⟨ds.length, by simp, Nat.zero_le _, F1, S1.weak (w0.app (Wk.refl _)), by rw [hw, l]⟩, ?_⟩
  rintro k m σ' H' ⟨rfl, hk, F2, S3, l3⟩
  obtain ⟨ws, sq', da'⟩ := look S3 l3
  by_cases hlt : k < ds.length
  · have hlw : k < ws.length := by rw [dpAll_len da']; exact hlt
    refine .inr ⟨⟨ws, ws[k], sq', by simp [hlw]⟩, Nxt K M F0 H0 (gs ++ [some (.ref a)]) (gt ++ [.dt (.list ds)]) (W (k + 1)), fun σ2 H2 p => ⟨ds.length - (k + 1), by omega, rfl, hlt, p⟩, fun x H2 y => ?_⟩
    obtain ⟨e, y⟩ := y
    subst e
    obtain ⟨d, e1, e2⟩ := dpAll_get' da' (y ws sq')
    exact hs k d _ e1 x σ' F2 _ e2 S3 l3
  · have e : k = ds.length := by omega
    subst e
    have hg := S.len
    have l4 : (σ' ++ gs).length = (W ds.length ++ gt).length := by
      rw [List.length_append] at hg ⊢
      rw [List.length_append] at hg ⊢
      have := hw ds.length
      omega
    exact .inl ⟨⟨ws, sq', by rw [dpAll_len da']; exact Nat.le_refl _⟩, hd σ' F2 _ (S3.back l4) l3⟩
/-- a loop's target that is a name -/
theorem g_name {i : Nat} {x : V} {k : L2.St → Hp → Prop} (S : Sts K M F0 H0 F H (σ ++ gs) (ss ++ gt)) (l : σ.length = ss.length) (hi : i < ss.length) (h : Dp K F x d) (na : (ss ++ gt).all notAl = true)
    (hk : ∀ σ' F' H', Sts K M F0 H0 F' H' (σ' ++ gs) (ss.set i (.dt d) ++ gt) → σ'.length = (ss.set i (.dt d)).length → k σ' H') : gName i x σ H k :=
  hk _ F H (S.setv l hi h na) (by rw [List.length_set, List.length_set, l])
/-! ### the same, something behind -/
variable {tz : TS}
theorem q_asg {D : Ends} {i : Nat} (S : Sts K M F0 H0 F H (σ ++ gs) (ss ++ gt)) (l : σ.length = ss.length) (h : EvR K te ss r) (na : (ss ++ gt).all notAl = true) (nr : notAl r = true) (hi : i < ss.length)
    (k : ∀ σ' F' H', Sts K M F0 H0 F' H' (σ' ++ gs) (ss.set i r ++ gt) → σ'.length = (ss.set i r).length → tz D σ' H') : tSeq (tAsg te (gName i)) tz D σ H := st_asg (D := { D with nx := tz D }) S l h na nr hi k
theorem q_drop {D : Ends} (S : Sts K M F0 H0 F H (σ ++ gs) (ss ++ gt)) (l : σ.length = ss.length) (h : EvR K te ss r)
    (k : ∀ F' H', Sts K M F0 H0 F' H' (σ ++ gs) (ss ++ gt) → tz D σ H') : tSeq (tDrop te) tz D σ H := st_drop (D := { D with nx := tz D }) S l h k
/-- an if without else -/
theorem q_when {D : Ends} {tu : TS} {b : Bool} (S : Sts K M F0 H0 F H (σ ++ gs) (ss ++ gt)) (l : σ.length = ss.length) (h : TvR K t ss b)
    (h1 : b = true → ∀ F' H', Sts K M F0 H0 F' H' (σ ++ gs) (ss ++ gt) → tu { D with nx := tz D } σ H') (h2 : b = false → ∀ F' H', Sts K M F0 H0 F' H' (σ ++ gs) (ss ++ gt) → tz D σ H') : tSeq (tIfS t tu tNext) tz D σ H := st_if (D := { D with nx := tz D }) S l h h1 h2
theorem st_when {D : Ends} {tu : TS} {b : Bool} (S : Sts K M F0 H0 F H (σ ++ gs) (ss ++ gt)) (l : σ.length = ss.length) (h : TvR K t ss b)
    (h1 : b = true → ∀ F' H', Sts K M F0 H0 F' H' (σ ++ gs) (ss ++ gt) → tu D σ H') (h2 : b = false → ∀ F' H', Sts K M F0 H0 F' H' (σ ++ gs) (ss ++ gt) → D.nx σ H') : tIfS t tu tNext D σ H := st_if S l h h1 h2
theorem q_app {D : Ends} {i : Nat} (S : Sts K M F0 H0 F H (σ ++ gs) (ss ++ gt)) (l : σ.length = ss.length) (h : ss[i]? = some (.ls ds)) (he : EvR K te ss (.dt d)) (hl : ds.length < 1000000)
    (k : ∀ F' H', Sts K M F0 H0 F' H' (σ ++ gs) (ss.set i (.ls (ds ++ [d])) ++ gt) → σ.length = (ss.set i (.ls (ds ++ [d]))).length → tz D σ H') : tSeq (tDrop (tBM K "list" rAppend (tVar i) (tCons te tNil))) tz D σ H := st_app (D := { D with nx := tz D }) S l h he hl k
theorem q_forR1 {D : Ends} {tb : TS} {i : Nat} {n : Int} {m : Nat} (S : Sts K M F0 H0 F H (σ ++ gs) (ss ++ gt)) (l : σ.length = ss.length) (h : AvR K tr ss [.dt (.int n)]) (hn : n = (m : Int)) (hm : m < 2 ^ 60) (W : Nat → List Sl) (w0 : Wk ss (W 0)) (na : ∀ k, ((W k) ++ gt).all notAl = true) (hi : i < ss.length)
    (hs : ∀ k, k < m → ∀ σ' F' H', Sts K M F0 H0 F' H' (σ' ++ gs) ((W k).set i (.dt (.int (k : Int))) ++ gt) → σ'.length = ((W k).set i (.dt (.int (k : Int)))).length → tb { D with nx := Nxt K M F0 H0 gs gt (W (k + 1)), ct := Nxt K M F0 H0 gs gt (W (k + 1)), bk := tz D } σ' H')
    (hd : ∀ σ' F' H', Sts K M F0 H0 F' H' (σ' ++ gs) (W m ++ gt) → σ'.length = (W m).length → tz D σ' H') (hw : ∀ k, (W k).length = ss.length := by intro _; rfl) : tSeq (tFor (iRng1 tr) (gName i) tb) tz D σ H := st_forR1 (D := { D with nx := tz D }) S l h hn hm W w0 na hi hs hd hw
theorem q_forL {D : Ends} {tb : TS} {g : TG} (S : Sts K M F0 H0 F H (σ ++ gs) (ss ++ gt)) (l : σ.length = ss.length) (h : EvR K te ss (.dt (.list ds))) (W : Nat → List Sl) (w0 : Wk ss (W 0))
    (hs : ∀ k d p, ds[k]? = some d → ∀ x σ' F' H', Dp K F' x d → Sts K M F0 H0 F' H' (σ' ++ (gs ++ [some p])) (W k ++ (gt ++ [.dt (.list ds)])) → σ'.length = (W k).length →
      g x σ' H' fun σ2 H2 => tb { D with nx := Nxt K M F0 H0 (gs ++ [some p]) (gt ++ [.dt (.list ds)]) (W (k + 1)), ct := Nxt K M F0 H0 (gs ++ [some p]) (gt ++ [.dt (.list ds)]) (W (k + 1)), bk := tz D } σ2 H2)
    (hd : ∀ σ' F' H', Sts K M F0 H0 F' H' (σ' ++ gs) (W ds.length ++ gt) → σ'.length = (W ds.length).length → tz D σ' H') (hw : ∀ k, (W k).length = ss.length := by intro _; rfl) : tSeq (tFor (iList K te) g tb) tz D σ H := st_forL (D := { D with nx := tz D }) S l h W w0 hs hd hw
/-- a, b = e, f: both of data -/
theorem q_par {D : Ends} {i j : Nat} {d1 d2 : PyData} (S : Sts K M F0 H0 F H (σ ++ gs) (ss ++ gt)) (l : σ.length = ss.length) (h1 : EvR K ta ss (.dt d1)) (h2 : EvR K tb ss (.dt d2)) (na : (ss ++ gt).all notAl = true) (hi : i < ss.length) (hj : j < ss.length)
    (k : ∀ σ' F' H', Sts K M F0 H0 F' H' (σ' ++ gs) ((ss.set i (.dt d1)).set j (.dt d2) ++ gt) → σ'.length = ((ss.set i (.dt d1)).set j (.dt d2)).length → tz D σ' H') : tSeq (tPar i j (tCons ta (tCons tb tNil))) tz D σ H := by
  refine h1 M F0 H0 F H σ gs gt l S _ fun v F1 H1 g1 n1 S1 => ?_
  refine h2 M F0 H0 F1 H1 σ _ _ l S1 _ fun w F2 H2 g2 n2 S2 => ?_
  refine ⟨v, w, rfl, ?_⟩
  have S3 := S2
  rw [← List.append_assoc σ, ← List.append_assoc ss] at S3
  obtain ⟨w', e1, e2⟩ := S3.get_dt (i := (ss ++ (gt ++ [Sl.dt d1])).length) (by rw [List.getElem?_append_right (Nat.le_refl _), Nat.sub_self]; rfl)
  rw [← S1.len2, last_at] at e1
  cases e1
  have S4 := S2.back S1.len2
  have S5 := S4
  rw [← List.append_assoc, ← List.append_assoc] at S5
  obtain ⟨v', f1, f2⟩ := S5.get_dt (i := (ss ++ gt).length) (by rw [List.getElem?_append_right (Nat.le_refl _), Nat.sub_self]; rfl)
  rw [← S.len2, last_at] at f1
  cases f1
  have S6 := (S4.back S.len2).setv l hi f2 na
  have na2 : ((ss.set i (.dt d1)) ++ gt).all notAl = true := by
    rw [List.all_append, Bool.and_eq_true] at na ⊢
    refine ⟨List.all_eq_true.mpr fun s hs => ?_, na.2⟩
    rcases List.mem_or_eq_of_mem_set hs with h | h
    · exact List.all_eq_true.mp na.1 s h
    · rw [h]
      rfl
  have S7 := S6.setv (by rw [List.length_set, List.length_set, l]) (by rw [List.length_set]; exact hj) e2 na2
  exact k _ F2 H2 S7 (by simp only [List.length_set, l])
end
end Fh
set_option Elab.async false
set_option linter.all false
set_option maxRecDepth 100000
set_option maxHeartbeats 2000000
namespace Fh
open PySem PySem.Spec PyProof.Rows L2 Evl
open PySem.W (Datum)

section
variable {K : PySem.W.Frag} {M : Addr → Prop} {F0 H0 F H F' H' : Hp} {σ xs gs : L2.St} {ss ts rs gt ss2 : List Sl} {ta tb te tc tl : TE} {tr : TA} {t u tt : TT} {r ra rb : Sl} {d da db e : PyData} {ds : List PyData} {Q : VK} {v x y : V}
/-! ### comprehensions -/
def wipeS (ss : List Sl) : List Nat → List Sl
  | [] => ss
  | v :: vs => (wipeS ss vs).set v .no
theorem wipeS_len (ss : List Sl) : ∀ vs : List Nat, (wipeS ss vs).length = ss.length
  | [] => rfl
  | v :: vs => by
    show ((wipeS ss vs).set v .no).length = _
    rw [List.length_set, wipeS_len ss vs]
def unAl (s : Sl) : Sl := if notAl s then s else .no
theorem wk_unAl : ∀ l : List Sl, Wk l (l.map unAl)
  | [] => .nil
  | s :: l => by
    rw [List.map_cons]
    by_cases h : notAl s = true
    · have e : unAl s = s := if_pos h
      rw [e]
      exact .same rfl (wk_unAl l)
    · have e : unAl s = .no := if_neg h
      rw [e]
      exact .no (wk_unAl l)
theorem all_unAl : ∀ l : List Sl, (l.map unAl).all notAl = true
  | [] => rfl
  | s :: l => by
    rw [List.map_cons, List.all_cons, all_unAl l, Bool.and_true]
    by_cases h : notAl s = true
    · have e : unAl s = s := if_pos h
      rw [e]
      exact h
    · have e : unAl s = .no := if_neg h
      rw [e]
      rfl
theorem set_app1 {α : Type} {l m : List α} {i : Nat} {a : α} (h : i < l.length) : (l ++ m).set i a = l.set i a ++ m := List.set_append_left _ _ h
theorem Sts.wipes (vs : List Nat) : ∀ {σ : L2.St} {ss : List Sl}, Sts K M F0 H0 F H (σ ++ gs) (ss ++ gt) → σ.length = ss.length → (∀ i ∈ vs, i < ss.length) → ss.all notAl = true → gt.all notAl = true →
    Sts K M F0 H0 F H (wipe σ vs ++ gs) (wipeS ss vs ++ gt) ∧ (wipeS ss vs).all notAl = true := by
  induction vs with
  | nil => intro σ ss S l hv na nb; exact ⟨S, na⟩
  | cons v vs ih =>
    intro σ ss S l hv na nb
    obtain ⟨S1, n1⟩ := ih S l (fun i hi => hv i (List.mem_cons_of_mem _ hi)) na nb
    have hv1 : v < ss.length := hv v List.mem_cons_self
    have S2 := S1.wipe1 (i := v) (ov := none) (by rw [List.all_append, n1, nb]; rfl)
    rw [set_app1 (by rw [wipe_length]; omega), set_app1 (by rw [wipeS_len]; exact hv1)] at S2
    refine ⟨S2, List.all_eq_true.mpr fun s hs => ?_⟩
    rcases List.mem_or_eq_of_mem_set hs with h | h
    · exact List.all_eq_true.mp n1 s h
    · rw [h]
      rfl
/-- what a comprehension's target does with an item d -/
def GTarget (K : PySem.W.Frag) (g : TG) (vs : List Nat) (ss : List Sl) (d : PyData) (ss2 : List Sl) : Prop := ∀ (M : Addr → Prop) (F0 H0 F H : Hp) (σ gs : L2.St) (gt : List Sl) (x : V) (k : L2.St → Hp → Prop),
  Sts K M F0 H0 F H (wipe σ vs ++ gs) (wipeS ss vs ++ gt) → σ.length = ss.length → Dp K F x d → (wipeS ss vs ++ gt).all notAl = true →
    (∀ σ2, Sts K M F0 H0 F H (σ2 ++ gs) (ss2 ++ gt) → σ2.length = ss2.length → wipe σ2 vs = wipe σ vs → k σ2 H) → g x (wipe σ vs) H k
theorem wipe_out_set {σ : L2.St} {j : Nat} {x : Option V} : ∀ {vs : List Nat}, j ∉ vs → wipe (σ.set j x) vs = (wipe σ vs).set j x
  | [], _ => rfl
  | v :: vs, h => by
    show (wipe (σ.set j x) vs).set v none = ((wipe σ vs).set v none).set j x
    rw [wipe_out_set (fun q => h (List.mem_cons_of_mem _ q)), List.set_comm _ _ (fun e => h (by rw [e]; exact List.mem_cons_self))]
theorem wipe_set {σ : L2.St} {j : Nat} {x : Option V} : ∀ {vs : List Nat}, j ∈ vs → wipe (σ.set j x) vs = wipe σ vs
  | v :: vs, h => by
    show (wipe (σ.set j x) vs).set v none = (wipe σ vs).set v none
    by_cases q : j ∈ vs
    · rw [wipe_set q]
    · rw [wipe_out_set q]
      have e : j = v := by
        rcases List.mem_cons.mp h with e | e
        · exact e
        · exact absurd e q
      rw [e, List.set_set]
theorem wipe_sub {σ : L2.St} {vs : List Nat} : ∀ {ws : List Nat}, (∀ w ∈ ws, w ∈ vs) → wipe (wipe σ ws) vs = wipe σ vs
  | [], _ => rfl
  | w :: ws, h => by
    show wipe ((wipe σ ws).set w none) vs = wipe σ vs
    rw [wipe_set (h w List.mem_cons_self), wipe_sub fun u hu => h u (List.mem_cons_of_mem _ hu)]
theorem wipe_wipe {σ : L2.St} {vs : List Nat} : wipe (wipe σ vs) vs = wipe σ vs := wipe_sub fun _ h => h
theorem gt_name {i : Nat} (hi : i < ss.length) : GTarget K (gName i) [i] ss d ((wipeS ss [i]).set i (.dt d)) := fun M F0 H0 F H σ gs gt x k S l h na hk => by
  refine hk _ (S.setv (by rw [wipe_length, wipeS_len, l]) (by rw [wipeS_len]; exact hi) h na) (by rw [List.length_set, List.length_set, wipe_length, wipeS_len, l]) ?_
  rw [wipe_set (List.mem_singleton.mpr rfl), wipe_wipe]
theorem gt_pair {i j : Nat} {d1 d2 : PyData} (hi : i < ss.length) (hj : j < ss.length) (hij : i ≠ j) : GTarget K (gTup K 2 (gCons (gName i) (gCons (gName j) gNil))) [i, j] ss (.tuple [d1, d2]) (((wipeS ss [i, j]).set i (.dt d1)).set j (.dt d2)) := fun M F0 H0 F H σ gs gt x k S l h na hk => by
  obtain ⟨p, vs, rfl, sq, da⟩ := rdT_of h S.fh
  cases da with
  | cons a b =>
    cases b with
    | cons b c =>
      cases c
      refine ⟨p, _, rfl, sq, rfl, _, _, rfl, _, _, rfl, rfl, ?_⟩
      have S1 := S.setv (i := i) (by rw [wipe_length, wipeS_len, l]) (by rw [wipeS_len]; exact hi) a na
      have na2 : (((wipeS ss [i, j]).set i (.dt d1)) ++ gt).all notAl = true := by
        rw [List.all_append, Bool.and_eq_true] at na ⊢
        refine ⟨List.all_eq_true.mpr fun s hs => ?_, na.2⟩
        rcases List.mem_or_eq_of_mem_set hs with h | h
        · exact List.all_eq_true.mp na.1 s h
        · rw [h]
          rfl
      have S2 := S1.setv (i := j) (by rw [List.length_set, List.length_set, wipe_length, wipeS_len, l]) (by rw [List.length_set, wipeS_len]; exact hj) b na2
      refine hk _ S2 (by simp only [List.length_set, wipe_length, wipeS_len, l]) ?_
      rw [wipe_set (by simp), wipe_set (by simp), wipe_wipe]
/-- between two turns: the new list at D holds what reads as out -/
def LcP (K : PySem.W.Frag) (M : Addr → Prop) (F0 H0 F1 H1 : Hp) (σ xs : L2.St) (ss ts : List Sl) (D : Addr) (out : List PyData) (H' : Hp) : Prop :=
  ∃ F', Gr F1 H1 F' H' ∧ F' D = none ∧ H1 D = none ∧ Sts K M F0 H0 F' H' (σ ++ (xs ++ [some (.ref D)])) (ss ++ (ts ++ [.ls out]))
theorem lc_turn {g : TG} {vs : List Nat} {F1 H1 : Hp} {D : Addr} {out : List PyData} {b : Bool} (p : LcP K M F0 H0 F1 H1 σ xs ss ts D out H') (l : σ.length = ss.length) (hv : ∀ i ∈ vs, i < ss.length) (na : ss.all notAl = true) (hx : Dp K F1 x d) (hg : GTarget K g vs ss d ss2)
    (ht : TvR K tt ss2 b) (he : b = true → EvR K te ss2 (.dt e)) (hz : out.length < 1000000) :
    g x (wipe σ vs) H' fun σ2 H2 => wipe σ2 vs = wipe σ vs ∧ tt σ2 H2 fun b' H3 => if b' = true then te σ2 H3 fun y H4 => ∃ acc, H4 D = some (.lst acc) ∧ acc.length < sizeLine ∧ LcP K M F0 H0 F1 H1 σ xs ss ts D (if b then out ++ [e] else out) (upd H4 D (.lst (acc ++ [y]))) else LcP K M F0 H0 F1 H1 σ xs ss ts D (if b then out ++ [e] else out) H3 := by
  obtain ⟨F', g1, fD, hD, S⟩ := p
  have Sb := S.weak (ss' := ss ++ ((ts ++ [Sl.ls out]).map unAl)) ((Wk.refl ss).app (wk_unAl _))
  obtain ⟨Sw, nw⟩ := Sb.wipes vs l hv na (all_unAl _)
  refine hg M F0 H0 F' H' σ _ _ x _ Sw l (dp_ex g1.ff d x hx) (by rw [List.all_append, nw, all_unAl]; rfl) fun σ2 S2 l2 hw => ⟨hw, ?_⟩
  refine ht M F0 H0 F' H' σ2 _ _ l2 S2 _ fun F3 H3 g3 S3 => ?_
  have dix : (ss ++ (ts ++ [Sl.ls out]))[ss.length + ts.length]? = some (.ls out) := by
    rw [← List.append_assoc, List.getElem?_append_right (by rw [List.length_append]; exact Nat.le_refl _), List.length_append, Nat.sub_self]
    rfl
  have six : (σ ++ (xs ++ [some (.ref D)]))[ss.length + ts.length]? = some (some (.ref D)) := by
    have hlen := S.len
    simp only [List.length_append, List.length_cons, List.length_nil] at hlen
    rw [← List.append_assoc, List.getElem?_append_right (by rw [List.length_append]; omega), List.length_append]
    have e0 : ss.length + ts.length - (σ.length + xs.length) = 0 := by omega
    rw [e0]
    rfl
  cases b with
  | false =>
    show LcP K M F0 H0 F1 H1 σ xs ss ts D out H3
    refine ⟨F3, g1.trans g3, g3.nw D ?_ fD, hD, S.grow g3⟩
    obtain ⟨q, ws, a1, b1, c1, d1, k1⟩ := S.write dix
    rw [six] at a1
    cases a1
    rw [b1]
    exact fun z => nomatch z
  | true =>
    refine he rfl M F0 H0 F3 H3 σ2 _ _ l2 S3 _ fun w F4 H4 g4 n4 S4 => ?_
    have S5 := S.grow (g3.trans g4)
    obtain ⟨q, ws, a1, b1, c1, d1, k1⟩ := S5.write dix
    rw [six] at a1
    cases a1
    have hl : (σ2 ++ (xs ++ [some (V.ref D)])).length = (ss2 ++ ((ts ++ [Sl.ls out]).map unAl)).length := S3.len
    have S6 := S4
    rw [← List.append_assoc σ2, ← List.append_assoc ss2] at S6
    obtain ⟨w', e1, e2⟩ := S6.get_dt (i := (ss2 ++ ((ts ++ [Sl.ls out]).map unAl)).length) (by rw [List.getElem?_append_right (Nat.le_refl _), Nat.sub_self]; rfl)
    rw [← hl, last_at] at e1
    cases e1
    refine ⟨ws, b1, by rw [dpAll_len c1, sizeLine_eq]; omega, F4, ((g1.trans (g3.trans g4)).mut hD d1), d1, hD, ?_⟩
    have S7 := k1 (ws ++ [w]) (out ++ [e]) (dpAll_app c1 (.cons e2 .nil))
    have e3 : (ss ++ (ts ++ [Sl.ls out])).set (ss.length + ts.length) (.ls (out ++ [e])) = ss ++ (ts ++ [.ls (out ++ [e])]) := by
      rw [← List.append_assoc, List.set_append_right _ _ (by rw [List.length_append]; exact Nat.le_refl _), List.length_append, Nat.sub_self, List.append_assoc]
      rfl
    rw [e3] at S7
    exact S7
/-- what comes of the first n turns -/
def got (f : Nat → Option PyData) (n : Nat) : List PyData := (List.range n).filterMap f
theorem got_succ (f : Nat → Option PyData) (n : Nat) : got f (n + 1) = (if (f n).isSome then got f n ++ [(f n).getD .none] else got f n) := by
  unfold got
  rw [List.range_succ, List.filterMap_append]
  cases e : f n with
  | none => simp [e]
  | some a => simp [e]
theorem got_len (f : Nat → Option PyData) (n : Nat) : (got f n).length ≤ n := by
  unfold got
  have h := List.length_filterMap_le f (List.range n)
  rwa [List.length_range] at h
theorem ev_lcL {g : TG} {vs : List Nat} (f : Nat → Option PyData) (h : EvR K tl ss (.dt (.list ds))) (na : ss.all notAl = true) (hv : ∀ i ∈ vs, i < ss.length) (hz : ds.length ≤ 1000000)
    (hs : ∀ k d, ds[k]? = some d → ∃ ss2, GTarget K g vs ss d ss2 ∧ TvR K tt ss2 (f k).isSome ∧ ((f k).isSome = true → EvR K te ss2 (.dt ((f k).getD .none)))) : EvR K (tLc (iList K tl) g tt te vs) ss (.ls (got f ds.length)) := fun M F0 H0 F H σ xs ts l S Q q => by
  refine h M F0 H0 F H σ xs ts l S _ fun v F1 H1 g1 n1 S1 => ?_
  have hv' := (S1.lastV S.len2 (d := .list ds) rfl).lst S1.fh
  have dv : Dp K F1 v (.list ds) := by
    have S2 := S1
    rw [← List.append_assoc, ← List.append_assoc] at S2
    obtain ⟨w, e1, e2⟩ := S2.get_dt (i := (ss ++ ts).length) (by rw [List.getElem?_append_right (Nat.le_refl _), Nat.sub_self]; rfl)
    rw [← S.len2, last_at] at e1
    cases e1
    exact e2
  obtain ⟨a, vv, rfl, sq, da⟩ := rdL_of dv (Ex.refl F1)
  have S2 := S1.back S.len2
  refine ⟨a, rfl, ⟨vv, ex_l S1.fh sq⟩, fun D hD => ?_⟩
  have fD := fresh_back S1.fh hD
  refine lc_list (xs := vv) (fun k H' => LcP K M F0 H0 F1 H1 σ xs ss ts D (got f k) H') ⟨F1, Gr.newM S1.fh hD, fD, hD, ?_⟩ (fun i H' _ p => ?_) (fun k x H' hk p => ?_) fun H' p => ?_
  · have := S2.push_ls (ds := []) (vs := []) (Ex.new hD) hD upd_same .nil
    rw [List.append_assoc, List.append_assoc] at this
    exact this
  · obtain ⟨F', g', _, _, _⟩ := p
    exact ex_l (g'.ff.trans g'.fh) sq
  · obtain ⟨d, e1, e2⟩ := dpAll_get' da hk
    obtain ⟨ss2, t1, t2, t3⟩ := hs k d e1
    have := lc_turn (g := g) (tt := tt) (te := te) (b := (f k).isSome) (e := (f k).getD .none) p l hv na e2 t1 t2 t3 (by have := got_len f k; have := (List.getElem?_eq_some_iff.mp e1).1; omega)
    rw [got_succ]
    exact this
  · obtain ⟨F', g', f', _, S'⟩ := p
    rw [dpAll_len da] at S'
    exact q _ F' H' (g1.trans g') ⟨D, rfl, fresh_back g1.hh hD⟩ S'
theorem ev_lcT {g : TG} {vs : List Nat} (f : Nat → Option PyData) (h : EvR K tl ss (.dt (.tuple ds))) (na : ss.all notAl = true) (hv : ∀ i ∈ vs, i < ss.length) (hz : ds.length ≤ 1000000)
    (hs : ∀ k d, ds[k]? = some d → ∃ ss2, GTarget K g vs ss d ss2 ∧ TvR K tt ss2 (f k).isSome ∧ ((f k).isSome = true → EvR K te ss2 (.dt ((f k).getD .none)))) : EvR K (tLc (iTup K tl) g tt te vs) ss (.ls (got f ds.length)) := fun M F0 H0 F H σ xs ts l S Q q => by
  refine h M F0 H0 F H σ xs ts l S _ fun v F1 H1 g1 n1 S1 => ?_
  have dv : Dp K F1 v (.tuple ds) := by
    have S2 := S1
    rw [← List.append_assoc, ← List.append_assoc] at S2
    obtain ⟨w, e1, e2⟩ := S2.get_dt (i := (ss ++ ts).length) (by rw [List.getElem?_append_right (Nat.le_refl _), Nat.sub_self]; rfl)
    rw [← S.len2, last_at] at e1
    cases e1
    exact e2
  obtain ⟨a, vv, rfl, sq, da⟩ := rdT_of dv (Ex.refl F1)
  have S2 := S1.back S.len2
  refine ⟨a, rfl, ⟨vv, ex_t S1.fh sq⟩, fun D hD => ?_⟩
  have fD := fresh_back S1.fh hD
  refine lc_tup (xs := vv) (fun k H' => LcP K M F0 H0 F1 H1 σ xs ss ts D (got f k) H') ⟨F1, Gr.newM S1.fh hD, fD, hD, ?_⟩ (fun i H' _ p => ?_) (fun k x H' hk p => ?_) fun H' p => ?_
  · have := S2.push_ls (ds := []) (vs := []) (Ex.new hD) hD upd_same .nil
    rw [List.append_assoc, List.append_assoc] at this
    exact this
  · obtain ⟨F', g', _, _, _⟩ := p
    exact ex_t (g'.ff.trans g'.fh) sq
  · obtain ⟨d, e1, e2⟩ := dpAll_get' da hk
    obtain ⟨ss2, t1, t2, t3⟩ := hs k d e1
    have := lc_turn (g := g) (tt := tt) (te := te) (b := (f k).isSome) (e := (f k).getD .none) p l hv na e2 t1 t2 t3 (by have := got_len f k; have := (List.getElem?_eq_some_iff.mp e1).1; omega)
    rw [got_succ]
    exact this
  · obtain ⟨F', g', f', _, S'⟩ := p
    rw [dpAll_len da] at S'
    exact q _ F' H' (g1.trans g') ⟨D, rfl, fresh_back g1.hh hD⟩ S'
/-- over a range: lo, lo + 1, .. (n of them) -/
theorem ev_lcR1 {i : Nat} {n : Int} {m : Nat} (f : Nat → Option PyData) (h : AvR K tr ss [.dt (.int n)]) (hn : n.toNat = m) (na : ss.all notAl = true) (hi : i < ss.length) (hz : -(2 ^ 60) < n ∧ n ≤ 1000000)
    (hs : ∀ k : Nat, k < m → ∃ ss2, GTarget K (gName i) [i] ss (.int (k : Int)) ss2 ∧ TvR K tt ss2 (f k).isSome ∧ ((f k).isSome = true → EvR K te ss2 (.dt ((f k).getD .none)))) : EvR K (tLc (iRng1 tr) (gName i) tt te [i]) ss (.ls (got f m)) := fun M F0 H0 F H σ xs ts l S Q q => by
  refine h M F0 H0 F H σ xs ts l S _ fun vv F1 H1 hl g1 S1 => ?_
  have ha := S1.argsV (ds := [.int n]) S.len2 hl rfl
  have hv : vv = [.int n] := by
    cases ha with
    | cons a b =>
      cases b
      rw [a.int]
  have S2 := S1.backA S.len2
  refine ⟨n, hv, by omega, by omega, fun D hD => ?_⟩
  have fD := fresh_back S2.fh hD
  rw [hn]
  refine lc_range (lo := 0) (n := m) (fun k H' => LcP K M F0 H0 F1 H1 σ xs ss ts D (got f k) H') ⟨F1, Gr.newM S2.fh hD, fD, hD, ?_⟩ (fun k H' hk p => ?_) fun H' p => ?_
  · have := S2.push_ls (ds := []) (vs := []) (Ex.new hD) hD upd_same .nil
    rw [List.append_assoc, List.append_assoc] at this
    exact this
  · obtain ⟨ss2, t1, t2, t3⟩ := hs k hk
    have e0 : (0 : Int) + (k : Int) = (k : Int) := Int.zero_add _
    rw [e0]
    have := lc_turn (g := gName i) (tt := tt) (te := te) (b := (f k).isSome) (e := (f k).getD .none) p l (by intro j hj; rw [List.mem_singleton.mp hj]; exact hi) na (x := .int (k : Int)) (.int _) t1 t2 t3 (by have := got_len f k; omega)
    rw [got_succ]
    exact this
  · obtain ⟨F', g', f', _, S'⟩ := p
    exact q _ F' H' (g1.trans g') ⟨D, rfl, fresh_back g1.hh hD⟩ S'
theorem in1 {i n : Nat} (h : i < n) : ∀ j ∈ [i], j < n := by
  intro j hj
  rcases List.mem_cons.mp hj with rfl | hj
  · exact h
  · cases hj
theorem in2 {i k n : Nat} (h : i < n) (h' : k < n) : ∀ j ∈ [i, k], j < n := by
  intro j hj
  rcases List.mem_cons.mp hj with rfl | hj
  · exact h
  · exact in1 h' j hj
theorem tv_yes : TvR K tYes ss true := fun M F0 H0 F H σ xs ts l S Q q => q F H (Gr.refl S.fh) S
end
end Fh
set_option Elab.async false
set_option linter.all false
set_option maxRecDepth 100000
set_option maxHeartbeats 2000000
namespace Fh
open PySem PySem.Spec PyProof.Rows L2 Evl
open PySem.W (Datum)

section
variable {K : PySem.W.Frag} {M : Addr → Prop} {F0 H0 F H F' H' : Hp} {σ xs gs : L2.St} {ss ts rs gt ss2 : List Sl} {ta tb te tc tl : TE} {tr : TA} {t u tt : TT} {r ra rb : Sl} {d da db e : PyData} {ds es : List PyData} {Q : VK} {v x y : V}
/-! ### a def's start -/
def ssOf (n : Nat) (ds : List PyData) : List Sl := ds.map .dt ++ List.replicate (n - ds.length) .no
theorem dp_init : ∀ {vs : List V} {ds : List PyData}, DpAll K F vs ds → ∀ {σ0 : L2.St} {ss0 : List Sl}, Sts K (fun _ => False) F H F H σ0 ss0 → Sts K (fun _ => False) F H F H (σ0 ++ vs.map some) (ss0 ++ ds.map .dt)
  | _, _, .nil, _, _, S => by simpa using S
  | _, _, .cons (v := v) (vs := vs) (d := d) (ds := ds) a b, σ0, ss0, S => by
    have := dp_init b (S.push_dt a)
    simpa [List.append_assoc] using this
theorem Sts.pad (S : Sts K M F0 H0 F H σ ss) : ∀ n : Nat, Sts K M F0 H0 F H (σ ++ List.replicate n none) (ss ++ List.replicate n .no)
  | 0 => by simpa using S
  | n + 1 => by
    obtain ⟨g, l, L, O⟩ := S.pad n
    have e1 : σ ++ List.replicate (n + 1) (none : Option V) = (σ ++ List.replicate n none) ++ [none] := by rw [List.replicate_succ', List.append_assoc]
    have e2 : ss ++ List.replicate (n + 1) Sl.no = (ss ++ List.replicate n .no) ++ [.no] := by rw [List.replicate_succ', List.append_assoc]
    rw [e1, e2]
    generalize σ ++ List.replicate n none = σ1 at l O
    generalize ss ++ List.replicate n Sl.no = ss1 at l O
    have cut : ∀ {i}, i < (ss1 ++ [Sl.no]).length → i < ss1.length ∨ i = ss1.length := fun {i} h => by
      rw [List.length_append] at h
      have : [Sl.no].length = 1 := rfl
      omega
    refine ⟨g, by rw [List.length_append, List.length_append, l]; rfl, fun i => if i < ss1.length then L i else [], fun i s h => ?_, fun i s p o hs hp => ?_, fun i hi => ?_, fun i j p hi hj hp hq => ?_⟩
    · rcases cut (List.getElem?_eq_some_iff.mp h).1 with hi | rfl
      · rw [List.getElem?_append_left hi] at h
        rw [if_pos hi]
        refine (O.ok i s h).cong fun j hj => ?_
        rw [List.getElem?_append_left (by omega)]
      · rw [List.getElem?_append_right (Nat.le_refl _), Nat.sub_self] at h
        cases h
        rw [if_neg (Nat.lt_irrefl _)]
        rfl
    · rcases cut (List.getElem?_eq_some_iff.mp hs).1 with hi | rfl
      · rw [if_pos hi] at hp
        rw [List.getElem?_append_left hi] at hs
        exact O.at_ i s p o hs hp
      · rw [if_neg (Nat.lt_irrefl _)] at hp
        cases hp
    · rcases cut hi with hi | rfl
      · simp only [if_pos hi]
        exact O.nd i hi
      · simp only [if_neg (Nat.lt_irrefl _)]
        exact .nil
    · rcases cut hi with hi | rfl
      · rcases cut hj with hj | rfl
        · rw [if_pos hi] at hp
          rw [if_pos hj] at hq
          exact O.ap i j p hi hj hp hq
        · rw [if_neg (Nat.lt_irrefl _)] at hq
          cases hq
      · rw [if_neg (Nat.lt_irrefl _)] at hp
        cases hp
theorem Sts.init {N : List Str} {vs : List V} (e : Ex F H) (h : DpAll K F vs ds) : Sts K (fun _ => False) F H F H (L2.start N vs ++ []) (ssOf N.length ds ++ []) := by
  have S0 : Sts K (fun _ => False) F H F H [] [] := ⟨(Gr.refl e).toM, rfl, fun _ => [], by intro i s h; simp at h, by intro i s p o h; simp at h, fun i h => by simp at h, fun i j p h => by simp at h⟩
  have S1 := (dp_init h S0).pad (N.length - vs.length)
  rw [List.append_nil, List.append_nil]
  unfold L2.start ssOf
  rw [← dpAll_len h]
  simpa using S1
theorem init_len {N : List Str} {vs : List V} (h : DpAll K F vs ds) (hl : ds.length ≤ N.length) : (L2.start N vs).length = (ssOf N.length ds).length := by
  unfold L2.start ssOf
  rw [List.length_append, List.length_append, List.length_map, List.length_map, List.length_replicate, List.length_replicate, dpAll_len h]
theorem spF_len {R : List PyData → Sl → Prop} {X : List PyData → Addr → Prop} {n : Nat} (hR : ∀ ds r, R ds r → ds.length = n) (hX : ∀ ds C, X ds C → ds.length = n) : ∀ vs H Q E, spF K R X vs H Q E → vs.length = n := fun vs H Q E h => by
  obtain ⟨F, ds, _, hv, ⟨r, h, _⟩ | ⟨C, h, _⟩⟩ := h
  · rw [dpAll_len hv, hR ds r h]
  · rw [dpAll_len hv, hX ds C h]
/-! ### built-in functions -/
def lenD : PyData → Option Nat
  | .list ds => some ds.length
  | .tuple ds => some ds.length
  | .str z => if z.length ≤ sizeLine then some z.length else none
  | _ => none
def rLenR (K : PySem.W.Frag) : List V → Hp → VK → Prop := fun xs H Q => ∃ x n, xs = [x] ∧ LenV K x H n ∧ Q (.int (n : Nat)) H
theorem call_lenR {X : Cx} : CallR X (.builtin "len") (rLenR X.K) := call_len
theorem ev_len {n : Nat} (ha : EvR K ta ss ra) (va : vw ss ra = some d) (hn : lenD d = some n) : EvR K (tCB (rLenR K) (tCons ta tNil)) ss (.dt (.int (n : Int))) := by
  refine ev_cb (ds := [d]) (av_cons ha av_nil) (by unfold vws; rw [va]; rfl) fun F H vs Q e h k => ?_
  cases h with
  | cons a b =>
    cases b
    rename_i x
    refine ⟨x, n, rfl, ?_, k.int⟩
    cases d with
    | list ds =>
      obtain ⟨p, ws, rfl, c, f⟩ := a.lst e
      cases hn
      exact .inl ⟨ws, c, (dpAll_len f).symm⟩
    | tuple ds =>
      obtain ⟨p, ws, rfl, c, f⟩ := a.tup e
      cases hn
      exact .inr ⟨ws, c, (dpAll_len f).symm⟩
    | str z =>
      rw [a.str]
      have hn' : (if z.length ≤ sizeLine then some z.length else none) = some n := hn
      by_cases hz : z.length ≤ sizeLine
      · rw [if_pos hz] at hn'
        cases hn'
        exact ⟨hz, rfl⟩
      · rw [if_neg hz] at hn'
        cases hn'
    | none => cases hn
    | bool _ => cases hn
    | int _ => cases hn
    | dict _ => cases hn
/-- the class of a thing that is data -/
def tyN : PyData → String
  | .none => "NoneType"
  | .bool _ => "bool"
  | .int _ => "int"
  | .str _ => "str"
  | .list _ => "list"
  | .tuple _ => "tuple"
  | .dict _ => "dict"
theorem tyx_of (h : Dp K H v d) : TyX K H v (.type (tyN d)) := by
  cases h with
  | non => exact .base .non
  | bl b => exact .base (.bl b)
  | int i => exact .base (.int i)
  | str x => exact .base (.str x)
  | lst a b =>
    rcases a with (a | ⟨o, a⟩) | ⟨o, its, n, a, b, _⟩
    · exact .base (.lst a)
    · exact .base (.frz a)
    · exact .kList a b
  | tup a b =>
    rcases a with (a | ⟨o, a⟩) | ⟨o, its, n, a, b, _⟩
    · exact .base (.tup a)
    · exact .fTuple a
    · exact .kTuple a b
  | dct e => exact .base (.dK e)
theorem ev_isi {n : String} {b : Bool} (ha : EvR K ta ss ra) (va : vw ss ra = some d) (h : kitB (tyN d) n = some b) : EvR K (tCB (rIsi K) (tCons ta (tCons (tC (.ty n)) tNil))) ss (.dt (.bool b)) := fun M F0 H0 F H σ xs ts l S Q q => by
  refine ha M F0 H0 F H σ xs ts l S _ fun v F1 H1 g1 n1 S1 => ?_
  have hv := S1.lastV S.len2 va
  exact ⟨v, .ty n, .type (tyN d), .type n, b, rfl, .ty n, tyx_of (hv.dp S1.fh), kit_ty h, (RetR.mk g1 (S1.back S.len2) q).bl⟩
def isIntB : PyData → Bool
  | .int _ => true
  | .bool _ => true
  | _ => false
def isBoolB : PyData → Bool
  | .bool _ => true
  | _ => false
def isStrB : PyData → Bool
  | .str _ => true
  | _ => false
def isListB : PyData → Bool
  | .list _ => true
  | _ => false
def isTupleB : PyData → Bool
  | .tuple _ => true
  | _ => false
theorem kit_int (d : PyData) : kitB (tyN d) "int" = some (isIntB d) := by
  cases d with
  | none => exact (show kitB "NoneType" "int" = some false by decide +kernel)
  | bool _ => exact (show kitB "bool" "int" = some true by decide +kernel)
  | int _ => exact (show kitB "int" "int" = some true by decide +kernel)
  | str _ => exact (show kitB "str" "int" = some false by decide +kernel)
  | list _ => exact (show kitB "list" "int" = some false by decide +kernel)
  | tuple _ => exact (show kitB "tuple" "int" = some false by decide +kernel)
  | dict _ => exact (show kitB "dict" "int" = some false by decide +kernel)
theorem kit_bool (d : PyData) : kitB (tyN d) "bool" = some (isBoolB d) := by
  cases d with
  | none => exact (show kitB "NoneType" "bool" = some false by decide +kernel)
  | bool _ => exact (show kitB "bool" "bool" = some true by decide +kernel)
  | int _ => exact (show kitB "int" "bool" = some false by decide +kernel)
  | str _ => exact (show kitB "str" "bool" = some false by decide +kernel)
  | list _ => exact (show kitB "list" "bool" = some false by decide +kernel)
  | tuple _ => exact (show kitB "tuple" "bool" = some false by decide +kernel)
  | dict _ => exact (show kitB "dict" "bool" = some false by decide +kernel)
theorem kit_str (d : PyData) : kitB (tyN d) "str" = some (isStrB d) := by
  cases d with
  | none => exact (show kitB "NoneType" "str" = some false by decide +kernel)
  | bool _ => exact (show kitB "bool" "str" = some false by decide +kernel)
  | int _ => exact (show kitB "int" "str" = some false by decide +kernel)
  | str _ => exact (show kitB "str" "str" = some true by decide +kernel)
  | list _ => exact (show kitB "list" "str" = some false by decide +kernel)
  | tuple _ => exact (show kitB "tuple" "str" = some false by decide +kernel)
  | dict _ => exact (show kitB "dict" "str" = some false by decide +kernel)
theorem kit_list (d : PyData) : kitB (tyN d) "list" = some (isListB d) := by
  cases d with
  | none => exact (show kitB "NoneType" "list" = some false by decide +kernel)
  | bool _ => exact (show kitB "bool" "list" = some false by decide +kernel)
  | int _ => exact (show kitB "int" "list" = some false by decide +kernel)
  | str _ => exact (show kitB "str" "list" = some false by decide +kernel)
  | list _ => exact (show kitB "list" "list" = some true by decide +kernel)
  | tuple _ => exact (show kitB "tuple" "list" = some false by decide +kernel)
  | dict _ => exact (show kitB "dict" "list" = some false by decide +kernel)
theorem kit_tuple (d : PyData) : kitB (tyN d) "tuple" = some (isTupleB d) := by
  cases d with
  | none => exact (show kitB "NoneType" "tuple" = some false by decide +kernel)
  | bool _ => exact (show kitB "bool" "tuple" = some false by decide +kernel)
  | int _ => exact (show kitB "int" "tuple" = some false by decide +kernel)
  | str _ => exact (show kitB "str" "tuple" = some false by decide +kernel)
  | list _ => exact (show kitB "list" "tuple" = some false by decide +kernel)
  | tuple _ => exact (show kitB "tuple" "tuple" = some true by decide +kernel)
  | dict _ => exact (show kitB "dict" "tuple" = some false by decide +kernel)
def rAbs : List V → Hp → VK → Prop := fun xs H Q => ∃ i, xs = [.int i] ∧ Q (.int (if i < 0 then -i else i)) H
theorem vw1 {F H : Hp} {vs : List V} {d : PyData} (h : VwA K F H vs [d]) : ∃ v, vs = [v] ∧ VwD K F H v d := by
  cases h with
  | cons a b =>
    cases b
    exact ⟨_, rfl, a⟩
theorem vw2 {F H : Hp} {vs : List V} {d e : PyData} (h : VwA K F H vs [d, e]) : ∃ v w, vs = [v, w] ∧ VwD K F H v d ∧ VwD K F H w e := by
  cases h with
  | cons a b =>
    cases b with
    | cons b c =>
      cases c
      exact ⟨_, _, rfl, a, b⟩
theorem ev_abs {i : Int} (ha : EvR K ta ss (.dt (.int i))) : EvR K (tCB rAbs (tCons ta tNil)) ss (.dt (.int (i.natAbs : Int))) := by
  refine ev_cb (ds := [.int i]) (av_cons ha av_nil) rfl fun F H vs Q e h k => ?_
  obtain ⟨v, rfl, a⟩ := vw1 h
  refine ⟨i, by rw [a.int], ?_⟩
  have e2 : (if i < 0 then -i else i) = (i.natAbs : Int) := by split <;> omega
  rw [e2]
  exact k.int
def rMin : List V → Hp → VK → Prop := fun xs H Q => ∃ i j, xs = [.int i, .int j] ∧ Q (.int (if j < i then j else i)) H
def rMax : List V → Hp → VK → Prop := fun xs H Q => ∃ i j, xs = [.int i, .int j] ∧ Q (.int (if j > i then j else i)) H
theorem call_minR {X : Cx} (hc : X.calm = true) : CallR X (.builtin "min") rMin := call_min2 hc
theorem call_maxR {X : Cx} (hc : X.calm = true) : CallR X (.builtin "max") rMax := call_max2 hc
theorem ev_min {i j : Int} (ha : EvR K ta ss (.dt (.int i))) (hb : EvR K tb ss (.dt (.int j))) : EvR K (tCB rMin (tCons ta (tCons tb tNil))) ss (.dt (.int (min i j))) := by
  refine ev_cb (ds := [.int i, .int j]) (av_cons ha (av_cons hb av_nil)) rfl fun F H vs Q e h k => ?_
  obtain ⟨v, w, rfl, a, b⟩ := vw2 h
  refine ⟨i, j, by rw [a.int, b.int], ?_⟩
  have e2 : (if j < i then j else i) = min i j := by rw [Int.min_def]; split <;> split <;> omega
  rw [e2]
  exact k.int
theorem ev_max {i j : Int} (ha : EvR K ta ss (.dt (.int i))) (hb : EvR K tb ss (.dt (.int j))) : EvR K (tCB rMax (tCons ta (tCons tb tNil))) ss (.dt (.int (max i j))) := by
  refine ev_cb (ds := [.int i, .int j]) (av_cons ha (av_cons hb av_nil)) rfl fun F H vs Q e h k => ?_
  obtain ⟨v, w, rfl, a, b⟩ := vw2 h
  refine ⟨i, j, by rw [a.int, b.int], ?_⟩
  have e2 : (if j > i then j else i) = max i j := by rw [Int.max_def]; split <;> split <;> omega
  rw [e2]
  exact k.int
def rIntB : List V → Hp → VK → Prop := fun xs H Q => (∃ i, xs = [.int i] ∧ Q (.int i) H) ∨ ∃ k, xs = [.bl k] ∧ Q (.int (if k then 1 else 0)) H
theorem call_intR {X : Cx} : CallR X (.type "int") rIntB := call_int1
theorem ev_intB {b : Bool} (ha : EvR K ta ss (.dt (.bool b))) : EvR K (tCB rIntB (tCons ta tNil)) ss (.dt (.int (if b then 1 else 0))) := by
  refine ev_cb (ds := [.bool b]) (av_cons ha av_nil) rfl fun F H vs Q e h k => ?_
  obtain ⟨v, rfl, a⟩ := vw1 h
  exact .inr ⟨b, by rw [a.bl], k.int⟩
/-- all(..), any(..) of a list of truths -/
theorem dpAll_bls : ∀ {bs : List Bool} {vs : List V}, DpAll K F vs (bs.map PyData.bool) → vs = bs.map V.bl
  | [], _, h => by cases h; rfl
  | b :: bs, _, h => by
    cases h with
    | cons a c =>
      cases a
      rw [dpAll_bls c]
      rfl
theorem dpAll_ints : ∀ {bs : List Int} {vs : List V}, DpAll K F vs (bs.map PyData.int) → vs = bs.map V.int
  | [], _, h => by cases h; rfl
  | b :: bs, _, h => by
    cases h with
    | cons a c =>
      cases a
      rw [dpAll_ints c]
      rfl
theorem dpAll_strs : ∀ {bs : List Str} {vs : List V}, DpAll K F vs (bs.map PyData.str) → vs = bs.map V.str
  | [], _, h => by cases h; rfl
  | b :: bs, _, h => by
    cases h with
    | cons a c =>
      cases a
      rw [dpAll_strs c]
      rfl
theorem ints_dp : ∀ {bs : List Int}, DpAll K F (bs.map V.int) (bs.map PyData.int)
  | [] => .nil
  | b :: bs => .cons (.int b) ints_dp
theorem ev_all {bs : List Bool} (ha : EvR K ta ss ra) (va : vw ss ra = some (.list (bs.map .bool))) : EvR K (tCB (rAll K) (tCons ta tNil)) ss (.dt (.bool (bs.all id))) := by
  refine ev_cb (ds := [.list (bs.map .bool)]) (av_cons ha av_nil) (by unfold vws; rw [va]; rfl) fun F H vs Q e h k => ?_
  obtain ⟨v, rfl, a⟩ := vw1 h
  obtain ⟨p, ws, rfl, c, f⟩ := a.lst e
  rw [dpAll_bls f] at c
  exact ⟨p, bs, rfl, c, k.bl⟩
theorem ev_sum {ns : List Int} (ha : EvR K ta ss ra) (va : vw ss ra = some (.list (ns.map .int))) : EvR K (tCB (rSum K) (tCons ta tNil)) ss (.dt (.int ns.sum)) := by
  refine ev_cb (ds := [.list (ns.map .int)]) (av_cons ha av_nil) (by unfold vws; rw [va]; rfl) fun F H vs Q e h k => ?_
  obtain ⟨v, rfl, a⟩ := vw1 h
  obtain ⟨p, ws, rfl, c, f⟩ := a.lst e
  rw [dpAll_ints f] at c
  exact ⟨p, ns, rfl, c, k.int⟩
/-- list(xs), of a list or a tuple -/
def rListR (K : PySem.W.Frag) : List V → Hp → VK → Prop := fun xs H Q => ∃ p ys, xs = [.ref p] ∧ (SqL K H p ys ∨ SqT K H p ys) ∧ ∀ l, H l = none → Q (.ref l) (upd H l (.lst ys))
theorem call_listR {X : Cx} : CallR X (.type "list") (rListR X.K) := call_list_of
theorem ev_list (ha : EvR K ta ss ra) (va : vw ss ra = some (.list ds)) : EvR K (tCB (rListR K) (tCons ta tNil)) ss (.ls ds) := by
  refine ev_cb (ds := [.list ds]) (av_cons ha av_nil) (by unfold vws; rw [va]; rfl) fun F H vs Q e h k => ?_
  obtain ⟨v, rfl, a⟩ := vw1 h
  obtain ⟨p, ws, rfl, c, f⟩ := a.lst e
  exact ⟨p, ws, rfl, .inl c, fun l hl => k.lst f hl⟩
theorem ev_listT (ha : EvR K ta ss ra) (va : vw ss ra = some (.tuple ds)) : EvR K (tCB (rListR K) (tCons ta tNil)) ss (.ls ds) := by
  refine ev_cb (ds := [.tuple ds]) (av_cons ha av_nil) (by unfold vws; rw [va]; rfl) fun F H vs Q e h k => ?_
  obtain ⟨v, rfl, a⟩ := vw1 h
  obtain ⟨p, ws, rfl, c, f⟩ := a.tup e
  exact ⟨p, ws, rfl, .inr c, fun l hl => k.lst f hl⟩
/-! ### texts -/
def rCatS : R2 := fun x y H Q => ∃ i j, x = .str i ∧ y = .str j ∧ i.length + j.length ≤ sizeLine ∧ Q (.str (i ++ j)) H
theorem op_catS {X : Cx} : OpR X (binaryOp .Add) rCatS := op_add_str
theorem ev_catS {a b : Str} (ha : EvR K ta ss (.dt (.str a))) (hb : EvR K tb ss (.dt (.str b))) (h : a.length + b.length ≤ sizeLine) : EvR K (tOp rCatS ta tb) ss (.dt (.str (a ++ b))) :=
  ev_op ha hb rfl rfl fun F H x y Q e hx hy k => ⟨a, b, hx.str, hy.str, h, k.str⟩
/-! ### slices of lists -/
def cutD (xs : List PyData) (lo hi : Option Int) : List PyData := (xs.drop (HT.sIx xs.length 0 lo)).take (HT.sIx xs.length xs.length hi - HT.sIx xs.length 0 lo)
theorem dpAll_take : ∀ {vs : List V} {ds : List PyData} (n : Nat), DpAll K F vs ds → DpAll K F (vs.take n) (ds.take n)
  | _, _, 0, _ => by rw [List.take_zero, List.take_zero]; exact .nil
  | _, _, n + 1, .nil => .nil
  | _, _, n + 1, .cons a b => .cons a (dpAll_take n b)
theorem dpAll_drop : ∀ {vs : List V} {ds : List PyData} (n : Nat), DpAll K F vs ds → DpAll K F (vs.drop n) (ds.drop n)
  | _, _, 0, h => h
  | _, _, n + 1, .nil => .nil
  | _, _, n + 1, .cons a b => dpAll_drop n b
theorem dpAll_cut {vs : List V} {lo hi : Option Int} (h : DpAll K F vs ds) : DpAll K F (cutV vs lo hi) (cutD ds lo hi) := by
  unfold cutV cutD
  rw [dpAll_len h]
  exact dpAll_take _ (dpAll_drop _ h)
def OvR (K : PySem.W.Frag) (to : TO) (ss : List Sl) (o : Option Int) : Prop := ∀ (M : Addr → Prop) (F0 H0 F H : Hp) (σ xs : L2.St) (ts : List Sl), σ.length = ss.length → Sts K M F0 H0 F H (σ ++ xs) (ss ++ ts) →
  ∀ Q : Option Int → Hp → Prop, (∀ F' H', Gr F H F' H' → Sts K M F0 H0 F' H' (σ ++ xs) (ss ++ ts) → Q o H') → to σ H Q
theorem ov_none : OvR K tNoPart ss none := fun M F0 H0 F H σ xs ts l S Q q => q F H (Gr.refl S.fh) S
theorem ov_some {i : Int} (h : EvR K te ss (.dt (.int i))) : OvR K (tPart te) ss (some i) := fun M F0 H0 F H σ xs ts l S Q q => by
  refine h M F0 H0 F H σ xs ts l S _ fun v F1 H1 g1 n1 S1 => ?_
  exact ⟨i, (S1.lastV S.len2 (d := .int i) rfl).int, q F1 H1 g1 (S1.back S.len2)⟩
theorem ev_slL {to tp : TO} {lo hi : Option Int} (ha : EvR K ta ss ra) (va : vw ss ra = some (.list ds)) (h1 : OvR K to ss lo) (h2 : OvR K tp ss hi) : EvR K (tSl (rSlL K) ta to tp) ss (.ls (cutD ds lo hi)) := fun M F0 H0 F H σ xs ts l S Q q => by
  refine ha M F0 H0 F H σ xs ts l S _ fun v F1 H1 g1 n1 S1 => ?_
  refine h1 M F0 H0 F1 H1 σ _ _ l S1 _ fun F2 H2 g2 S2 => ?_
  refine h2 M F0 H0 F2 H2 σ _ _ l S2 _ fun F3 H3 g3 S3 => ?_
  obtain ⟨p, ws, rfl, c, f⟩ := (S3.lastV S.len2 va).lst S3.fh
  exact ⟨p, ws, rfl, c, fun q' hq => (RetR.mk ((g1.trans g2).trans g3) (S3.back S.len2) q).lst (dpAll_cut f) hq⟩
theorem ev_slS {to tp : TO} {lo hi : Option Int} {z : Str} (ha : EvR K ta ss (.dt (.str z))) (hz : z.length ≤ sizeLine) (h1 : OvR K to ss lo) (h2 : OvR K tp ss hi) : EvR K (tSl rSlS ta to tp) ss (.dt (.str (cutS z lo hi))) := fun M F0 H0 F H σ xs ts l S Q q => by
  refine ha M F0 H0 F H σ xs ts l S _ fun v F1 H1 g1 n1 S1 => ?_
  refine h1 M F0 H0 F1 H1 σ _ _ l S1 _ fun F2 H2 g2 S2 => ?_
  refine h2 M F0 H0 F2 H2 σ _ _ l S2 _ fun F3 H3 g3 S3 => ?_
  have hv := (S3.lastV S.len2 (d := .str z) rfl).str
  exact ⟨z, hv, hz, (RetR.mk ((g1.trans g2).trans g3) (S3.back S.len2) q).str⟩
end
end Fh
set_option Elab.async false
set_option linter.all false
set_option maxRecDepth 100000
set_option maxHeartbeats 2000000
namespace Fh
open PySem PySem.Spec PyProof.Rows L2 Evl
open PySem.W (Datum)

/-! ### a def that stands: its promise, its name, its defaults -/
structure DefOk (P : Program) (w : World) (K : PySem.W.Frag) (mg : Str → Option Value) (base : Heap) (k : Nat) (x : Str) (ps : List Str) (sp : Sp) (dvs : List V) : Prop where
  ex : ∃ f fd ds, FnOk P w K mg base (L2.CX P w) k f fd ps sp ∧ mg x = some (.ref f) ∧ PySem.W.keepIn K (.ref f) = true ∧ Binds K fd ps ds ∧ Vals dvs ds
section
variable {X : Cx} {k : Nat} {x : Str} {ps : List Str} {sp : Sp} {dvs : List V} {E : XK} {p pos : Pos} {e : Expr} {es : List Expr} {t : TA}
theorem pe_own (D : DefOk X.prog X.w X.K X.mg X.base k x ps sp dvs) (hr : Room k X.A) (hg : Gl X x) (hx : Passes (L2.CX X.prog X.w) X E) (ha : PA X (e :: es) t) (hdb : (x == ("__debug__" : Str)) = false := by decide)
    (he : starEach (e :: es) X.env = (false, eval e X.env) :: starEach es X.env := by rfl) (hpl : (backTo pos (starEach es X.env)).any (·.1) = false := by rfl) : PE X (.Call (.Name x p) (e :: es) [] pos) (tCall sp dvs E t) := by
  obtain ⟨f, fd, ds, F, m, kp, b, v⟩ := D.ex
  exact pe_call F hr hg m kp b v hx ha hdb he hpl
end
section
variable {K : PySem.W.Frag} {M : Addr → Prop} {F0 H0 F H F' H' : Hp} {σ xs gs : L2.St} {ss ts rs gt ss2 : List Sl} {ta tb te tc tl : TE} {tr : TA} {t u tt : TT} {r ra rb : Sl} {d da db e : PyData} {ds es : List PyData} {Q : VK} {v x y : V}
theorem Sts.hh (S : Sts K (fun _ => False) F0 H0 F H σ ss) : Ex H0 H := S.gr.toGr.hh
/-! ### numbers of any size that we meet -/
def bigN : Nat := 10000000
def CMulY (i j : Int) : Prop := i.natAbs < 2 ^ bigN ∧ j.natAbs < 2 ^ bigN
theorem CMulY.ok {i j : Int} (h : CMulY i j) : CMulX i j := mulx_ok h.1 h.2 (by decide)
theorem op_mulY {X : Cx} : OpR X (binaryOp .Mult) (rI CMulY fun i j => .int (i * j)) := fun pins s σ H x y v u Q I rx ry ⟨i, j, a, b, c, q⟩ => op_mulX pins s σ H x y v u Q I rx ry ⟨i, j, a, b, c.ok, q⟩
theorem two64 : (2 : Nat) ^ 64 ≤ 2 ^ bigN := Nat.pow_le_pow_right (by decide) (by decide)
theorem big_s {i : Int} (h : -(2 ^ 64) < i ∧ i < 2 ^ 64) : i.natAbs < 2 ^ bigN := Nat.lt_of_lt_of_le (show i.natAbs < 2 ^ 64 by omega) two64
theorem CMulY.s {i j : Int} (h1 : -(2 ^ 64) < i ∧ i < 2 ^ 64) (h2 : -(2 ^ 64) < j ∧ j < 2 ^ 64) : CMulY i j := ⟨big_s h1, big_s h2⟩
/-- // by what lies between 1 and 2 ^ 9000 -/
def CDivY (_ j : Int) : Prop := 0 < j ∧ j.natAbs < 2 ^ 9000
theorem op_divY {X : Cx} : OpR X (binaryOp .FloorDiv) (rI CDivY fun i j => .int (i / j)) := fun pins s σ H x y v u Q I rx ry ⟨i, j, a, b, c, q⟩ => op_fdivW pins s σ H x y v u Q I rx ry ⟨i, j, a, b, wide_div c.1 c.2 (by decide) (by decide), q⟩
theorem two64' : (2 : Nat) ^ 64 ≤ 2 ^ 9000 := Nat.pow_le_pow_right (by decide) (by decide)
theorem CDivY.s {i j : Int} (h1 : 0 < j) (h2 : j < 2 ^ 64) : CDivY i j := ⟨h1, Nat.lt_of_lt_of_le (show j.natAbs < 2 ^ 64 by omega) two64'⟩
/-! ### is None -/
def rIsNR : R2 := fun x y H Q => y = .non ∧ Q (.bl (decide (x = .non))) H
def rNotNR : R2 := fun x y H Q => y = .non ∧ Q (.bl (!decide (x = .non))) H
theorem op_notNR {X : Cx} : OpR X (compareOp .IsNot) rNotNR := op_notN
def isNo : PyData → Bool
  | .none => true
  | _ => false
theorem isNo_of (h : Dp K F v d) : decide (v = .non) = isNo d := by
  cases h <;> rfl
theorem ev_isN (ha : EvR K ta ss ra) (va : vw ss ra = some d) : EvR K (tOp rIsNR ta (tC .non)) ss (.dt (.bool (isNo d))) :=
  ev_op ha ev_non va rfl fun F H x y Q e hx hy k => ⟨hy.non, by rw [isNo_of (hx.dp e)]; exact k.bl⟩
theorem ev_notN (ha : EvR K ta ss ra) (va : vw ss ra = some d) : EvR K (tOp rNotNR ta (tC .non)) ss (.dt (.bool (!isNo d))) :=
  ev_op ha ev_non va rfl fun F H x y Q e hx hy k => ⟨hy.non, by rw [isNo_of (hx.dp e)]; exact k.bl⟩
/-! ### f-strings -/
/-- the parts of an f-string -/
inductive JvR (K : PySem.W.Frag) (ss : List Sl) : List TE → List Str → Prop where
  | nil : JvR K ss [] []
  | cons {te : TE} {ts : List TE} {z : Str} {zs : List Str} (h : EvR K te ss (.dt (.str z))) (r : JvR K ss ts zs) : JvR K ss (te :: ts) (z :: zs)
end

/-! ### isinstance of a caught error -/
section
variable {K : PySem.W.Frag} {M : Addr → Prop} {F0 H0 F H F' H' : Hp} {σ xs gs : L2.St} {ss ts rs gt ss2 : List Sl} {ta tb te tc tl : TE} {tr : TA} {t u tt : TT} {r ra rb : Sl} {d da db e : PyData} {ds es : List PyData} {Q : VK} {v x y : V}
/-- a slot that holds just this value -/
abbrev isV (v : V) : Sl := .fx fun _ w => w = v
end
end Fh
set_option Elab.async false
set_option linter.all false
set_option maxRecDepth 100000
set_option maxHeartbeats 2000000
namespace Fh
open PySem PySem.Spec PyProof.Rows L2 Evl
open PySem.W (Datum)

/-! ### list + list -/
def rCatL (K : PySem.W.Frag) : R2 := fun x y H Q => ∃ a b xs ys, x = .ref a ∧ y = .ref b ∧ SqL K H a xs ∧ SqL K H b ys ∧ xs.length + ys.length ≤ sizeLine ∧ ∀ p, H p = none → Q (.ref p) (upd H p (.lst (xs ++ ys)))
theorem op_catL {X : Cx} : OpR X (binaryOp .Add) (rCatL X.K) := by
  intro pins s σ H x y v u Q I rx ry h
  obtain ⟨a, b, xs, ys, rfl, rfl, ha, hb, hz, q⟩ := h
  cases rx
  cases ry
  obtain ⟨its, r, ⟨⟨cls, dd, data, sl⟩, n, e, c1, c2, c3⟩, _⟩ := I.list ha
  obtain ⟨its2, r2, ⟨⟨cls2, dd2, data2, sl2⟩, n2, e2, d1, d2, d3⟩, _⟩ := I.list hb
  simp only at c1 c2 c3 d1 d2 d3
  subst c1 c2 c3 d1 d2 d3
  have l1 := r.length
  have l2 := r2.length
  have ea : its.toArray ++ its2.toArray = (its ++ its2).toArray := by simp
  refine concat_meets ⟨_, e, rfl⟩ ⟨_, e2, rfl⟩ noFill_list_add seq_list_add PySem.F.slot_list_add PySem.F.entry_list_add (PySem.F.args_list_add_2 _ _) (list_addW a b its.toArray its2.toArray n n2 none none sl sl2 (by rw [List.size_toArray, List.size_toArray]; omega)) ⟨e, e2, ?_⟩
  rw [ea]
  exact ⟨.ref _, _, I.lnew (t' := s.toks) (r.append r2) (by rw [List.length_append]; omega), rfl, q _ I.fresh⟩
section
variable {K : PySem.W.Frag} {M : Addr → Prop} {F0 H0 F H F' H' : Hp} {σ xs gs : L2.St} {ss ts rs gt ss2 : List Sl} {ta tb te tc tl : TE} {tr : TA} {t u tt : TT} {tz : TS} {r ra rb : Sl} {d da db e : PyData} {ds es : List PyData} {Q : VK} {v x y : V}
theorem ev_catL (ha : EvR K ta ss ra) (hb : EvR K tb ss rb) (va : vw ss ra = some (.list ds)) (vb : vw ss rb = some (.list es)) (h : ds.length + es.length ≤ 1000000) : EvR K (tOp (rCatL K) ta tb) ss (.ls (ds ++ es)) :=
  ev_op ha hb va vb fun F H x y Q e hx hy k => by
    obtain ⟨p, ws, rfl, c, f⟩ := hx.lst e
    obtain ⟨p2, ws2, rfl, c2, f2⟩ := hy.lst e
    have z := sizeLine_eq
    exact ⟨p, p2, ws, ws2, rfl, rfl, c, c2, by rw [dpAll_len f, dpAll_len f2]; omega, fun l hl => k.lst (dpAll_app f f2) hl⟩
/-- the law's own end -/
theorem law_ret {b : Bool} (e : Ex F H) : RetR K F H (.dt (.bool b)) (fun v _ => v = .bl b) := fun v F' H' k => by
  have S0 : Sts K (fun _ => False) F H F H [] [] := ⟨(Gr.refl e).toM, rfl, fun _ => [], by intro i s h; simp at h, by intro i s p o h; simp at h, fun i h => by simp at h, fun i j p h => by simp at h⟩
  obtain ⟨w, a, c⟩ := (k _ _ _ _ _ S0).get_dt (i := 0) rfl
  cases a
  cases c
  rfl
end
theorem cx_none {P : Program} {w : World} {H : Hp} {s : Shared} {e : Value} {s' : Shared} : L2.CX P w [] H s (fun _ _ _ => False) e s' → False := fun ⟨_, _, _, _, _, _, _, _, _, _, _, _, h⟩ => h
/-! ### what the top wrote of classes -/
end Fh
set_option Elab.async false
set_option linter.all false
set_option maxRecDepth 100000
set_option maxHeartbeats 2000000
namespace Fh
open PySem PySem.Spec PyProof.Rows L2 Evl
open PySem.W (Datum)
section
variable {K : PySem.W.Frag} {M : Addr → Prop} {F0 H0 F H F' H' : Hp} {σ xs gs : L2.St} {ss ts rs gt ss2 : List Sl} {ta tb te tc tl : TE} {tr : TA} {t u tt : TT} {tz : TS} {r ra rb : Sl} {d da db e : PyData} {ds es : List PyData} {Q : VK} {v x y : V}
theorem Sts.wk2 {W : List Sl} (S : Sts K M F0 H0 F H (σ ++ gs) (ss ++ gt)) (w : Wk ss W) : Sts K M F0 H0 F H (σ ++ gs) (W ++ gt) := S.weak (w.app (Wk.refl _))
/-- an if without else whose both ways end alike -/
theorem q_whenJ {D : Ends} {tu : TS} {b : Bool} (W : List Sl) (S : Sts K M F0 H0 F H (σ ++ gs) (ss ++ gt)) (l : σ.length = ss.length) (h : TvR K t ss b)
    (h1 : b = true → ∀ nx : L2.St → Hp → Prop, (∀ σ' F' H', Sts K M F0 H0 F' H' (σ' ++ gs) (W ++ gt) → σ'.length = W.length → nx σ' H') → ∀ F' H', Sts K M F0 H0 F' H' (σ ++ gs) (ss ++ gt) → tu { D with nx := nx } σ H')
    (h2 : b = false → Wk ss W)
    (k : ∀ σ' F' H', Sts K M F0 H0 F' H' (σ' ++ gs) (W ++ gt) → σ'.length = W.length → tz D σ' H') : tSeq (tIfS t tu tNext) tz D σ H :=
  q_when S l h (fun e F' H' S' => h1 e _ k F' H' S') (fun e F' H' S' => k σ F' H' (S'.wk2 (h2 e)) (by rw [l, (h2 e).len]))
/-! ### sorted numbers -/
end
end Fh
namespace Fh
open PySem PySem.Spec PyProof.Rows L2 Evl
theorem got_some {f : Nat → Option PyData} {g : Nat → PyData} : ∀ {n : Nat}, (∀ k, k < n → f k = some (g k)) → got f n = (List.range n).map g
  | 0, _ => rfl
  | n + 1, h => by
    have e := got_some (n := n) fun k hk => h k (Nat.lt_succ_of_lt hk)
    rw [got_succ, h n (Nat.lt_succ_self _), e, List.range_succ, List.map_append]
    rfl
theorem range_get {α β : Type} (φ : α → β) (d : α) : ∀ L : List α, (List.range L.length).map (fun k => φ (L.getD k d)) = L.map φ := fun L => by
  refine List.ext_getElem (by simp) fun i h1 h2 => ?_
  have h3 : i < L.length := by simpa using h2
  simp [List.getD, h3]
theorem got_map {α : Type} (L : List α) (d : α) (φ : α → PyData) : got (fun k => some (φ (L.getD k d))) L.length = L.map φ := by
  rw [got_some (g := fun k => φ (L.getD k d)) fun _ _ => rfl, range_get]
theorem getD_of {α : Type} {L : List α} {k : Nat} {d : α} (h : k < L.length) : L[k]? = some (L.getD k d) := by
  simp [List.getD, h]
theorem map_at {α β : Type} {L : List α} {φ : α → β} {k : Nat} {x : β} (d : α) (h : (L.map φ)[k]? = some x) : k < L.length ∧ x = φ (L.getD k d) := by
  have hl := (List.getElem?_eq_some_iff.mp h).1
  rw [List.length_map] at hl
  rw [List.getElem?_map, getD_of (d := d) hl] at h
  exact ⟨hl, (Option.some.inj h).symm⟩
theorem getD_mem {α : Type} {L : List α} {k : Nat} {d : α} (h : k < L.length) : L.getD k d ∈ L := by
  have := getD_of (d := d) h
  exact List.mem_of_getElem? this
end Fh
namespace Fh
open PySem PySem.Spec PyProof.Rows L2 Evl
/-! ### slices -/
theorem sIx_n {n d a : Nat} (h : a ≤ n) : HT.sIx n d (some (a : Int)) = a := by
  simp only [HT.sIx]
  rw [if_neg (by omega)]
  omega
theorem cutD_mid {xs : List PyData} {a b : Nat} (h : a ≤ xs.length) (h2 : b ≤ xs.length) : Fh.cutD xs (some (a : Int)) (some (b : Int)) = (xs.drop a).take (b - a) := by
  unfold Fh.cutD
  rw [sIx_n h, sIx_n h2]
end Fh
set_option Elab.async false
set_option linter.all false
set_option maxRecDepth 100000
set_option maxHeartbeats 2000000
namespace Fh
open PySem PySem.Spec PyProof.Rows L2 Evl
open PySem.W (Datum)
/-! ### in, count over data -/
section
variable {K : PySem.W.Frag} {M : Addr → Prop} {F0 H0 F H F' H' : Hp} {σ xs gs : L2.St} {ss ts rs gt ss2 : List Sl} {ta tb te tc tl : TE} {tr : TA} {t u tt : TT} {tz : TS} {r ra rb : Sl} {d da db e : PyData} {ds es : List PyData} {Q : VK} {v x y : V}
/-! ### a < b < c of numbers -/
theorem ev_chain {f g : Int → Int → Bool} {i j k : Int} (ha : EvR K ta ss (.dt (.int i))) (hb : EvR K tb ss (.dt (.int j))) (hc : f i j = true → EvR K tc ss (.dt (.int k))) : EvR K (tChain (rI0 fun i j => .bl (f i j)) (rI0 fun i j => .bl (g i j)) ta tb tc) ss (.dt (.bool (f i j && g j k))) := fun M F0 H0 F H σ xs ts l S Q q => by
  refine ha M F0 H0 F H σ xs ts l S _ fun x F1 H1 g1 n1 S1 => ?_
  refine hb M F0 H0 F1 H1 σ (xs ++ [some x]) (ts ++ [_]) l S1 _ fun y F2 H2 g2 n2 S2 => ?_
  have l1 := S.len2
  have l2 := S1.len2
  have hy : y = .int j := (S2.lastV l2 (d := .int j) rfl).int
  have S3 := S2.back l2
  have hx : x = .int i := (S3.lastV l1 (d := .int i) rfl).int
  have S4 := S3.back l1
  refine ⟨i, j, hx, hy, f i j, rfl, ?_⟩
  cases ef : f i j with
  | false =>
    rw [if_neg (by decide)]
    rw [ef, Bool.false_and] at q
    exact (RetR.mk (g1.trans g2) S4 q).bl
  | true =>
    rw [if_pos rfl]
    rw [ef, Bool.true_and] at q
    refine hc ef M F0 H0 F2 H2 σ xs ts l S4 _ fun w F3 H3 g3 n3 S5 => ?_
    have hw : w = .int k := (S5.lastV l1 (d := .int k) rfl).int
    exact ⟨j, k, hy, hw, (RetR.mk ((g1.trans g2).trans g3) (S5.back l1) q).bl⟩
/-! ### tuples of lists -/
def rTupR (K : PySem.W.Frag) : List V → Hp → VK → Prop := fun xs H Q => ∃ p ys, xs = [.ref p] ∧ ((SqL K H p ys ∧ ∀ l, H l = none → Q (.ref l) (upd H l (.tup ys))) ∨ (SqT K H p ys ∧ Q (.ref p) H))
theorem call_tupleR {X : Cx} : CallR X (.type "tuple") (rTupR X.K) := call_tuple_of
theorem ev_tupleL (ha : EvR K ta ss ra) (va : vw ss ra = some (.list ds)) : EvR K (tCB (rTupR K) (tCons ta tNil)) ss (.dt (.tuple ds)) := by
  refine ev_cb (ds := [.list ds]) (av_cons ha av_nil) (by unfold vws; rw [va]; rfl) fun F H vs Q e h k => ?_
  obtain ⟨v, rfl, a⟩ := vw1 h
  obtain ⟨p, ws, rfl, c, f⟩ := a.lst e
  exact ⟨p, ws, rfl, .inl ⟨c, fun l hl => k.tup f hl⟩⟩
/-! ### one out of a display -/
theorem Sts.pick {vs : List V} {i : Nat} {v : V} (S : Sts K M F0 H0 F H (σ ++ vs.map some) (ss ++ rs)) (l : σ.length = ss.length) (hv : vs[i]? = some v) (hr : rs[i]? = some (.dt d)) : Dp K F v d := by
  obtain ⟨w, a, b⟩ := S.get_dt (i := ss.length + i) (by rw [List.getElem?_append_right (by omega)]; simpa using hr)
  rw [← l, List.getElem?_append_right (by omega), Nat.add_sub_cancel_left, List.getElem?_map, hv] at a
  cases a
  exact b
/-! ### a, b = xs.pop() -/
end
end Fh
set_option Elab.async false
set_option linter.all false
set_option maxRecDepth 100000
set_option maxHeartbeats 2000000
namespace Fh
open PySem PySem.Spec PyProof.Rows L2 Evl
open PySem.W (Datum EachIs AllAlike Sortable dataLe)
/-! ### sorted of data -/
section
variable {K : PySem.W.Frag} {M : Addr → Prop} {F0 H0 F H F' H' : Hp} {σ xs gs : L2.St} {ss ts rs gt ss2 : List Sl} {ta tb te tc tl : TE} {tr : TA} {t u tt : TT} {tz : TS} {r ra rb : Sl} {d da db e : PyData} {ds es : List PyData} {Q : VK} {v x y : V}
end
/-! pairs of numbers -/
abbrev iiD (p : Int × Int) : PyData := .tuple [.int p.1, .int p.2]
theorem ii_alike (L : List (Int × Int)) : AllAlike (L.map iiD) := .of fun b b' => by simp [PySem.W.alike, PySem.W.alikeAll]
theorem ii_sortable (L : List (Int × Int)) : Sortable (L.map iiD) := .tuples fun b => ⟨_, _, rfl⟩
theorem ii_depth (p : Int × Int) : (iiD p).depth ≤ 50 := by simp [PyData.depth, PyData.depthAll]
def iiLe (p q : Int × Int) : Bool := decide (p.1 < q.1 ∨ (p.1 = q.1 ∧ p.2 ≤ q.2))
theorem ii_le : dataLe false iiD = iiLe := PySem.W.dataLe_ii (fun p : Int × Int => p.1) (fun p => p.2)
end Fh
set_option Elab.async false
set_option linter.all false
set_option maxRecDepth 100000
set_option maxHeartbeats 2000000
namespace Fh
open PySem PySem.Spec PyProof.Rows L2 Evl
open PySem.W (Datum)
section
variable {K : PySem.W.Frag} {M : Addr → Prop} {F0 H0 F H F' H' : Hp} {σ xs gs : L2.St} {ss ts rs gt : List Sl} {r : Sl} {Q : VK}
end
end Fh
set_option Elab.async false
set_option linter.all false
set_option maxRecDepth 100000
set_option maxHeartbeats 2000000
namespace Fh
open PySem PySem.Spec PyProof.Rows L2 Evl
open PySem.W (Datum)
/-! ### all but tuples held still for a look -/
def notTup : Option HO → Bool
  | some (.tup _) => false
  | some (.frz _ (.tup _)) => false
  | _ => true
def fplus (F H : Hp) : Hp := fun a => if notTup (H a) = true then H a else F a
theorem fplus_l {F H : Hp} (e : Ex F H) : Ex F (fplus F H) := fun a o h => by
  unfold fplus
  rw [e a o h]
  split
  · rfl
  · exact h
theorem fplus_r {F H : Hp} (e : Ex F H) : Ex (fplus F H) H := fun a o h => by
  unfold fplus at h
  split at h
  · exact h
  · exact e a o h
theorem fplus_at {F H : Hp} {a : Addr} {o : HO} (h : H a = some o) (n : notTup (some o) = true) : fplus F H a = some o := by
  unfold fplus
  rw [h, if_pos n]
mutual
/-- no list, no dict within -/
def noL : PyData → Bool
  | .tuple ds => noLAll ds
  | .list _ => false
  | .dict _ => false
  | _ => true
def noLAll : List PyData → Bool
  | [] => true
  | d :: ds => noL d && noLAll ds
end
def tupR : Sl → Bool
  | .dt d => noL d
  | .ls ds => noLAll ds
  | _ => false
mutual
theorem dp_noL {K : PySem.W.Frag} {F' F2 : Hp} (hT : ∀ a xs, SqT K F' a xs → SqT K F2 a xs) : ∀ (d : PyData) (v : V), noL d = true → Dp K F' v d → Dp K F2 v d
  | .none, _, _, h => by cases h; exact .non
  | .bool b, _, _, h => by cases h; exact .bl b
  | .int i, _, _, h => by cases h; exact .int i
  | .str x, _, _, h => by cases h; exact .str x
  | .list ds, _, p, h => nomatch p
  | .tuple ds, _, p, h => by
    cases h with
    | tup hs ha => exact .tup (hT _ _ hs) (dpAll_noL hT ds _ (by simpa only [noL] using p) ha)
  | .dict _, _, p, h => nomatch p
theorem dpAll_noL {K : PySem.W.Frag} {F' F2 : Hp} (hT : ∀ a xs, SqT K F' a xs → SqT K F2 a xs) : ∀ (ds : List PyData) (vs : List V), noLAll ds = true → DpAll K F' vs ds → DpAll K F2 vs ds
  | [], _, _, h => by cases h; exact .nil
  | d :: ds, _, p, h => by
    simp only [noLAll, Bool.and_eq_true] at p
    cases h with
    | cons h1 h2 => exact .cons (dp_noL hT d _ p.1 h1) (dpAll_noL hT ds _ p.2 h2)
end
/-- what was there but not still is let go again -/
noncomputable def thawH (F H F' : Hp) : Hp := fun a => match H a with
  | none => F' a
  | some _ => F a
theorem thaw_gr {F H F' H' : Hp} (e : Ex F H) (g : Gr (fplus F H) H F' H') : Gr F H (thawH F H F') H' := by
  refine ⟨fun a o h => ?_, g.hh, fun a o h => ?_, fun a h1 h2 => ?_⟩
  · unfold thawH
    rw [e a o h]
    exact h
  · unfold thawH at h
    cases eh : H a with
    | none =>
      rw [eh] at h
      exact g.fh a o h
    | some o' =>
      rw [eh] at h
      exact g.hh a o (e a o h)
  · unfold thawH
    cases eh : H a with
    | none => exact absurd eh h1
    | some o' => exact h2
theorem thaw_tup {K : PySem.W.Frag} {F H F' H' : Hp} (e : Ex F H) (g : Gr (fplus F H) H F' H') : ∀ a xs, SqT K F' a xs → SqT K (thawH F H F') a xs := by
  have key : ∀ a o, F' a = some o → notTup (some o) = false → thawH F H F' a = some o := fun a o h n => by
    unfold thawH
    cases eh : H a with
    | none => exact h
    | some o' =>
      show F a = some o
      have h1 : fplus F H a ≠ none := fun z => by
        have := g.nw a (by rw [eh]; exact fun z => nomatch z) z
        rw [h] at this
        cases this
      cases ep : fplus F H a with
      | none => exact absurd ep h1
      | some o2 =>
        have h2 := g.ff a o2 ep
        rw [h] at h2
        cases h2
        unfold fplus at ep
        split at ep
        · rename_i hn
          rw [ep, n] at hn
          cases hn
        · exact ep
  intro a xs h
  rcases h with (h | ⟨o, h⟩) | h
  · exact .inl (.inl (key a _ h rfl))
  · exact .inl (.inr ⟨o, key a _ h rfl⟩)
  · exact .inr h
theorem sts_nil {K : PySem.W.Frag} {F H : Hp} (e : Ex F H) : Sts K (fun _ => False) F H F H [] [] := ⟨(Gr.refl e).toM, rfl, fun _ => [], by intro i s h; simp at h, by intro i s p o h; simp at h, fun i h => by simp at h, fun i j p h => by simp at h⟩
/-- what slot r's thing is, out of a look at all held still -/
theorem push_thaw {K : PySem.W.Frag} {M : Addr → Prop} {F0 H0 F H F' H' : Hp} {σ τ : L2.St} {ss tt : List Sl} {v : V} {r : Sl} (S : Sts K M F0 H0 F H σ ss) (fr : tupR r = true) (S1 : Sts K (fun _ => False) (fplus F H) H F' H' (τ ++ [some v]) (tt ++ [r])) (l : τ.length = tt.length) :
    ∃ F2, Gr F H F2 H' ∧ NewR H v r ∧ Sts K M F0 H0 F2 H' (σ ++ [some v]) (ss ++ [r]) := by
  have g := S1.gr.toGr
  have gt := thaw_gr S.fh g
  have hT := thaw_tup (K := K) S.fh g
  have hlast : ∀ {x : V}, (τ ++ [some v])[tt.length]? = some (some x) → x = v := fun {x} h => by
    rw [← l, last_at] at h
    cases h
    rfl
  cases r with
  | no => cases fr
  | al j => cases fr
  | fx φ => cases fr
  | mu ψ => cases fr
  | dt d =>
    obtain ⟨w, a, b⟩ := S1.get_dt (i := tt.length) (by rw [List.getElem?_append_right (Nat.le_refl _), Nat.sub_self]; rfl)
    have := hlast a
    subst this
    exact ⟨_, gt, trivial, (S.grow gt).push_dt (dp_noL hT d _ fr b)⟩
  | ls ds =>
    obtain ⟨p, vs, a, b, c, fp, hp⟩ := S1.get_ls (i := tt.length) (by rw [List.getElem?_append_right (Nat.le_refl _), Nat.sub_self]; rfl)
    have := hlast a
    subst this
    refine ⟨_, gt, ⟨p, rfl, hp⟩, ?_⟩
    refine S.push_at (L1 := [(p, .lst vs)]) gt ⟨p, vs, last_at, rfl, dpAll_noL hT ds _ fr b⟩ (fun q o hq => ?_) (by simp)
    cases List.mem_singleton.mp hq
    refine ⟨c, ?_, hp⟩
    unfold thawH
    rw [hp]
    exact fp
section
variable {K : PySem.W.Frag} {M : Addr → Prop} {F0 H0 F H F' H' : Hp} {σ xs gs : L2.St} {ss ts rs gt ss2 : List Sl} {ta tb te tc tl : TE} {tr : TA} {t u tt : TT} {tz : TS} {r ra rb : Sl} {d da db e : PyData} {ds es : List PyData} {Q : VK} {v x y : V}
theorem rd_plus {p : Addr} {vs : List V} (h : SqL K H p vs) : SqL K (fplus F H) p vs := by
  rcases h with (h | ⟨o, h⟩) | h
  · exact .inl (.inl (fplus_at h rfl))
  · exact .inl (.inr ⟨o, fplus_at h rfl⟩)
  · exact .inr h
/-! ### a look at slots held still -/
inductive Fz (K : PySem.W.Frag) : Sl → Sl → Prop where
  | dt {d : PyData} : Fz K (.dt d) (.dt d)
  | no {s : Sl} : Fz K s .no
  | fx {φ : Hp → V → Prop} : Fz K (.fx φ) (.fx φ)
  | ls {ds : List PyData} : Fz K (.ls ds) (.dt (.list ds))
  | mu {ψ : Hp → V → List (Addr × HO) → Prop} {d : PyData} (h1 : ∀ F v L F', ψ F v L → Ex F F' → (∀ p o, (p, o) ∈ L → F' p = some o) → Dp K F' v d) (h2 : ∀ F v L, ψ F v L → ∀ p o, (p, o) ∈ L → notTup (some o) = true) : Fz K (.mu ψ) (.dt d)
inductive FzA (K : PySem.W.Frag) : List Sl → List Sl → Prop where
  | nil : FzA K [] []
  | cons {s z : Sl} {ss zs : List Sl} (h : Fz K s z) (r : FzA K ss zs) : FzA K (s :: ss) (z :: zs)
theorem FzA.len {zs : List Sl} : ∀ {ss : List Sl}, FzA K ss zs → ss.length = zs.length := fun {ss} h => by
  induction h with
  | nil => rfl
  | cons _ _ ih => rw [List.length_cons, List.length_cons, ih]
theorem FzA.get {zs : List Sl} : ∀ {ss : List Sl} {i : Nat} {z : Sl}, FzA K ss zs → zs[i]? = some z → ∃ s, ss[i]? = some s ∧ Fz K s z := fun {ss i z} h => by
  induction h generalizing i with
  | nil => intro e; simp at e
  | cons hh r ih =>
    intro e
    cases i with
    | zero => exact ⟨_, rfl, by cases e; exact hh⟩
    | succ i => exact ih (by simpa using e)
theorem Sts.still {zs : List Sl} (S : Sts K M F0 H0 F H σ ss) (h : FzA K ss zs) : Sts K (fun _ => False) (fplus F H) H (fplus F H) H σ zs := by
  obtain ⟨g0, l, L, O⟩ := S
  have e := g0.fh
  refine ⟨(Gr.refl (fplus_r e)).toM, l.trans h.len, fun _ => [], fun i z hz => ?_, fun i s p o hs hp => (by cases hp), fun i hi => .nil, fun i j p hi hj hp => (by cases hp)⟩
  obtain ⟨s, hs, f⟩ := h.get hz
  have ok := O.ok i s hs
  cases f with
  | no => rfl
  | dt =>
    obtain ⟨_, v, b, c⟩ := ok
    exact ⟨rfl, v, b, dp_ex (fplus_l e) _ _ c⟩
  | fx =>
    obtain ⟨_, v, b, c⟩ := ok
    exact ⟨rfl, v, b, fun F' e' => c F' ((fplus_l e).trans e')⟩
  | ls =>
    obtain ⟨p, vs, a, b, c⟩ := ok
    have hp := (O.at_ i _ p (.lst vs) hs (by rw [b]; exact List.mem_singleton.mpr rfl)).1
    exact ⟨rfl, _, a, .lst (rd_plus (SqL.of hp)) (dpAll_ex (fplus_l e) _ _ c)⟩
  | mu h1 h2 =>
    obtain ⟨v, b, c⟩ := ok
    refine ⟨rfl, v, b, h1 F v (L i) _ (c F (Ex.refl F)) (fplus_l e) fun p o hp => fplus_at (O.at_ i _ p o hs hp).1 (h2 F v (L i) (c F (Ex.refl F)) p o hp)⟩
theorem TvR.still {b : Bool} (zs : List Sl) (h : TvR K t zs b) (f : FzA K ss zs) : TvR K t ss b := fun M F0 H0 F H σ xs ts l S Q q => by
  have S1 := (S.drop l).still f
  have S2 : Sts K (fun _ => False) (fplus F H) H (fplus F H) H (σ ++ []) (zs ++ []) := by
    rw [List.append_nil, List.append_nil]
    exact S1
  refine h _ _ _ _ _ σ [] [] (l.trans f.len) S2 Q fun F' H' g S3 => ?_
  have gt := thaw_gr S.fh g
  exact q _ H' gt (S.grow gt)
theorem EvR.still (zs : List Sl) (h : EvR K te zs r) (f : FzA K ss zs) (fr : tupR r = true) : EvR K te ss r := fun M F0 H0 F H σ xs ts l S Q q => by
  have S1 := (S.drop l).still f
  have S2 : Sts K (fun _ => False) (fplus F H) H (fplus F H) H (σ ++ []) (zs ++ []) := by
    rw [List.append_nil, List.append_nil]
    exact S1
  refine h _ _ _ _ _ σ [] [] (l.trans f.len) S2 _ fun v F' H' g n S3 => ?_
  obtain ⟨F2, g2, n2, S4⟩ := push_thaw (τ := σ) (tt := zs) S fr S3 (l.trans f.len)
  rw [List.append_assoc, List.append_assoc] at S4
  exact q v F2 H' g2 n2 S4
end
end Fh
set_option Elab.async false
set_option linter.all false
set_option maxRecDepth 100000
set_option maxHeartbeats 2000000
namespace Fh
open PySem PySem.Spec PyProof.Rows L2 Evl
open PySem.W (Datum)
/-! ### a <= b <= c < d -/
section
variable {X : Cx} {a b c d : Expr} {ta tb tc td : TE} {pos : Pos}
end
section
variable {K : PySem.W.Frag} {M : Addr → Prop} {F0 H0 F H F' H' : Hp} {σ xs gs : L2.St} {ss ts rs gt ss2 : List Sl} {ta tb te tc td tl : TE} {tr : TA} {t u tt : TT} {tz : TS} {r ra rb : Sl} {d da db e : PyData} {ds es : List PyData} {Q : VK} {v x y : V}
end
end Fh
set_option Elab.async false
set_option linter.all false
set_option maxRecDepth 100000
set_option maxHeartbeats 2000000
namespace Fh
open PySem PySem.Spec PyProof.Rows L2 Evl
open PySem.W (Datum)
/-! ### a list of our own that is walked -/
def lsAt (K : PySem.W.Frag) (p : Addr) (ds : List PyData) : Hp → V → List (Addr × HO) → Prop := fun F v L => v = .ref p ∧ ∃ vs, L = [(p, .lst vs)] ∧ DpAll K F vs ds
section
variable {K : PySem.W.Frag} {M : Addr → Prop} {F0 H0 F H F' H' : Hp} {σ xs gs : L2.St} {ss ts rs gt ss2 : List Sl} {ta tb te tc td tl : TE} {tr : TA} {t u tt : TT} {tz tbd : TS} {r ra rb : Sl} {d da db e : PyData} {ds es : List PyData} {Q : VK} {v x y : V}
/-- a slot told in other words -/
theorem Sts.redesc {i : Nat} {s s' : Sl} (S : Sts K M F0 H0 F H σ ss) (h : ss[i]? = some s) (ok : ∀ L, SlOk K F σ i L s → SlOk K F σ i L s') (mu : isMu s = true → isMu s' = true ∨ ∀ a, ¬ M a) : Sts K M F0 H0 F H σ (ss.set i s') := by
  obtain ⟨g0, l, L, O⟩ := S
  have hi := (List.getElem?_eq_some_iff.mp h).1
  have hl : ∀ {j}, j < (ss.set i s').length → j < ss.length := fun {j} h => by rwa [List.length_set] at h
  refine ⟨g0, by rw [List.length_set, l], L, fun j z hz => ?_, fun j z p o hz hp => ?_, fun j hj => O.nd j (hl hj), fun j k p hj hk => O.ap j k p (hl hj) (hl hk)⟩
  · by_cases e : j = i
    · subst e
      rw [List.getElem?_set_self hi] at hz
      cases hz
      exact ok _ (O.ok j s h)
    · rw [List.getElem?_set_ne (Ne.symm e)] at hz
      exact O.ok j z hz
  · by_cases e : j = i
    · subst e
      rw [List.getElem?_set_self hi] at hz
      cases hz
      obtain ⟨a, b, c⟩ := O.at_ j s p o h hp
      refine ⟨a, b, ?_⟩
      rcases c with c | ⟨c1, c2⟩
      · exact .inl c
      · rcases mu c2 with m | m
        · exact .inr ⟨c1, m⟩
        · exact absurd c1 (m p)
    · rw [List.getElem?_set_ne (Ne.symm e)] at hz
      exact O.at_ j z p o hz hp
theorem Sts.fixA {i : Nat} (S : Sts K M F0 H0 F H σ ss) (h : ss[i]? = some (.ls ds)) : ∃ p, σ[i]? = some (some (.ref p)) ∧ Sts K M F0 H0 F H σ (ss.set i (.mu (lsAt K p ds))) := by
  obtain ⟨p, vs, a, b, c, d, z⟩ := S.get_ls h
  refine ⟨p, a, S.redesc h (fun L hL => ?_) fun z => nomatch z⟩
  obtain ⟨p', vs', a', b', c'⟩ := hL
  rw [a] at a'
  cases a'
  exact ⟨.ref p, a, fun F' e => ⟨rfl, vs', b', dpAll_ex e ds vs' c'⟩⟩
theorem Sts.unfixA {i : Nat} {p : Addr} (S : Sts K M F0 H0 F H σ ss) (h : ss[i]? = some (.mu (lsAt K p ds))) (hM : ∀ a, ¬ M a) : Sts K M F0 H0 F H σ (ss.set i (.ls ds)) :=
  S.redesc h (fun L hL => by
    obtain ⟨v, a, b⟩ := hL
    obtain ⟨rfl, vs, b', c'⟩ := b F (Ex.refl F)
    exact ⟨p, vs, a, b', c'⟩) fun _ => .inr hM
theorem Sts.get_at {i : Nat} {p : Addr} (S : Sts K M F0 H0 F H σ ss) (h : ss[i]? = some (.mu (lsAt K p ds))) : σ[i]? = some (some (.ref p)) ∧ ∃ vs, H p = some (.lst vs) ∧ DpAll K F vs ds := by
  obtain ⟨g0, l, L, O⟩ := S
  obtain ⟨v, a, b⟩ := O.ok i _ h
  obtain ⟨rfl, vs, b', c'⟩ := b F (Ex.refl F)
  exact ⟨a, vs, (O.at_ i _ p _ h (by rw [b']; exact List.mem_singleton.mpr rfl)).1, c'⟩
/-- for x in such a list, which the body lets be -/
theorem st_forA {D : Ends} {g : TG} {i : Nat} (hM : ∀ a, ¬ M a) (S : Sts K M F0 H0 F H (σ ++ gs) (ss ++ gt)) (l : σ.length = ss.length) (hi : ss[i]? = some (.ls ds)) (W : Nat → List Sl) (w0 : Wk ss (W 0)) (hW : ∀ k, (W k)[i]? = some (.ls ds))
    (hs : ∀ (p : Addr) k d, ds[k]? = some d → ∀ x σ' F' H', Dp K F' x d → Sts K M F0 H0 F' H' (σ' ++ gs) ((W k).set i (.mu (lsAt K p ds)) ++ gt) → σ'.length = ((W k).set i (.mu (lsAt K p ds))).length →
      g x σ' H' fun σ2 H2 => tbd { D with nx := Nxt K M F0 H0 gs gt ((W (k + 1)).set i (.mu (lsAt K p ds))), ct := Nxt K M F0 H0 gs gt ((W (k + 1)).set i (.mu (lsAt K p ds))), bk := D.nx } σ2 H2)
    (hd : ∀ σ' F' H', Sts K M F0 H0 F' H' (σ' ++ gs) (W ds.length ++ gt) → σ'.length = (W ds.length).length → D.nx σ' H') (hw : ∀ k, (W k).length = ss.length := by intro _; rfl) : tFor (iList K (tVar i)) g tbd D σ H := by
  have hil := (List.getElem?_eq_some_iff.mp hi).1
  have S0 := S.weak (w0.app (Wk.refl gt))
  have hWl : ∀ k, i < (W k).length := fun k => by rw [hw]; exact hil
  obtain ⟨p, a, S1⟩ := S0.fixA (i := i) (ds := ds) (by rw [List.getElem?_append_left (hWl 0)]; exact hW 0)
  rw [List.set_append_left _ _ (hWl 0)] at S1
  have a2 := a
  rw [List.getElem?_append_left (by omega)] at a2
  have look : ∀ {k : Nat} {σ' : L2.St} {F' H' : Hp}, Sts K M F0 H0 F' H' (σ' ++ gs) ((W k).set i (.mu (lsAt K p ds)) ++ gt) → ∃ ws, SqL K H' p ws ∧ DpAll K F' ws ds := fun {k σ' F' H'} S3 => by
    obtain ⟨_, vs, x, y⟩ := S3.get_at (i := i) (p := p) (ds := ds) (by rw [List.getElem?_append_left (by rw [List.length_set]; exact hWl k), List.getElem?_set_self (hWl k)])
    exact ⟨vs, SqL.of x, y⟩
  obtain ⟨vs, sq, da⟩ := look S1
  refine ⟨.ref p, a2, p, rfl, ⟨vs, sq⟩, ?_⟩
  refine ⟨fun k m σ' H' => m = ds.length - k ∧ k ≤ ds.length ∧ Nxt K M F0 H0 gs gt ((W k).set i (.mu (lsAt K p ds))) σ' H', ⟨ds.length, by simp, Nat.zero_le _, F, S1, by rw [List.length_set, hw, l]⟩, ?_⟩
  rintro k m σ' H' ⟨rfl, hk, F2, S3, l3⟩
  obtain ⟨ws, sq', da'⟩ := look S3
  by_cases hlt : k < ds.length
  · have hlw : k < ws.length := by rw [dpAll_len da']; exact hlt
    refine .inr ⟨⟨ws, ws[k], sq', by simp [hlw]⟩, Nxt K M F0 H0 gs gt ((W (k + 1)).set i (.mu (lsAt K p ds))), fun σ2 H2 q => ⟨ds.length - (k + 1), by omega, rfl, hlt, q⟩, fun x H2 y => ?_⟩
    obtain ⟨e, y⟩ := y
    subst e
    obtain ⟨d, e1, e2⟩ := dpAll_get' da' (y ws sq')
    exact hs p k d e1 x σ' F2 _ e2 S3 l3
  · have e : k = ds.length := by omega
    subst e
    refine .inl ⟨⟨ws, sq', by rw [dpAll_len da']; exact Nat.le_refl _⟩, ?_⟩
    have S4 := S3.unfixA (i := i) (p := p) (ds := ds) (by rw [List.getElem?_append_left (by rw [List.length_set]; exact hWl _), List.getElem?_set_self (hWl _)]) hM
    rw [List.set_append_left _ _ (by rw [List.length_set]; exact hWl _), List.set_set] at S4
    have eW : (W ds.length).set i (.ls ds) = W ds.length := by
      have h1 := hW ds.length
      obtain ⟨h2, h3⟩ := List.getElem?_eq_some_iff.mp h1
      rw [← h3, List.set_getElem_self]
    rw [eW] at S4
    exact hd σ' F2 _ S4 (by rw [l3, List.length_set])
theorem q_forA {D : Ends} {g : TG} {i : Nat} (hM : ∀ a, ¬ M a) (S : Sts K M F0 H0 F H (σ ++ gs) (ss ++ gt)) (l : σ.length = ss.length) (hi : ss[i]? = some (.ls ds)) (W : Nat → List Sl) (w0 : Wk ss (W 0)) (hW : ∀ k, (W k)[i]? = some (.ls ds))
    (hs : ∀ (p : Addr) k d, ds[k]? = some d → ∀ x σ' F' H', Dp K F' x d → Sts K M F0 H0 F' H' (σ' ++ gs) ((W k).set i (.mu (lsAt K p ds)) ++ gt) → σ'.length = ((W k).set i (.mu (lsAt K p ds))).length →
      g x σ' H' fun σ2 H2 => tbd { D with nx := Nxt K M F0 H0 gs gt ((W (k + 1)).set i (.mu (lsAt K p ds))), ct := Nxt K M F0 H0 gs gt ((W (k + 1)).set i (.mu (lsAt K p ds))), bk := tz D } σ2 H2)
    (hd : ∀ σ' F' H', Sts K M F0 H0 F' H' (σ' ++ gs) (W ds.length ++ gt) → σ'.length = (W ds.length).length → tz D σ' H') (hw : ∀ k, (W k).length = ss.length := by intro _; rfl) : tSeq (tFor (iList K (tVar i)) g tbd) tz D σ H := st_forA (D := { D with nx := tz D }) hM S l hi W w0 hW hs hd hw
/-! ### one out of a display, by its place -/
end
section
variable {K : PySem.W.Frag} {ss : List Sl} {ta tb : TE} {ra : Sl}
end
end Fh
set_option Elab.async false
set_option linter.all false
set_option maxRecDepth 100000
set_option maxHeartbeats 2000000
namespace Fh
open PySem PySem.Spec PyProof.Rows L2 Evl
open L2H (RoomH PinOk cxH inv_startH roomH_of)
/-! ### a def that a suite calls with the error it holds -/
structure FnS (P : Program) (w : World) (K : PySem.W.Frag) (mg : Str → Option Value) (base : Heap) (k : Nat) (f : Addr) (fd : FuncData) (ps : List Str) (sp : Addr × Obj → Sp) : Prop where
  len : ∀ p vs H Q E, sp p vs H Q E → vs.length = ps.length
  run : ∀ (A : Around) (outer : List Env) (s : Shared) (H : Hp) (args : Args) (us : List Value) (vs : List V) (Q : VK) (E : XK) (p : Addr × Obj), RoomH k A → PinOk outer H s p → Env0 P w K mg base A outer s H → BindsTo s fd args (ps.zip us) → Vals vs us → sp p vs H Q E →
    codeAny (model P w) A (.call (.ref f) args) (CR (L2.CX P w) outer P w H s Q E) s
/-- such a def stands -/
structure DefS (P : Program) (w : World) (K : PySem.W.Frag) (mg : Str → Option Value) (base : Heap) (k : Nat) (x : Str) (ps : List Str) (sp : Addr × Obj → Sp) : Prop where
  ex : ∃ f fd, FnS P w K mg base k f fd ps sp ∧ mg x = some (.ref f) ∧ PySem.W.keepIn K (.ref f) = true ∧ Binds K fd ps []
section
variable {X : Cx} {k : Nat} {x : Str} {ps : List Str} {R : Addr → Sl → Prop} {E : XK} {q pos : Pos} {e : Expr} {es : List Expr} {t : TA}
end
end Fh
set_option Elab.async false
set_option linter.all false
set_option maxRecDepth 100000
set_option maxHeartbeats 2000000
namespace Fh
open PySem PySem.Spec PyProof.Rows L2 Evl
open PySem.W (Datum)
/-! ### a module's number -/
theorem pe_globI {X : Cx} {x : Str} {i : Int} {pos : Pos} (hg : Gl X x) (hm : ∃ t, X.mg x = some (.int i t)) (hd : (x == ("__debug__" : Str)) = false := by decide) : PE X (.Name x pos) (tC (.int i)) := by
  obtain ⟨t, h⟩ := hm
  exact pe_glob hg h ⟨t, rfl⟩ hd
theorem pe_globS {X : Cx} {x : Str} {i : Str} {pos : Pos} (hg : Gl X x) (hm : ∃ t, X.mg x = some (.str i t)) (hd : (x == ("__debug__" : Str)) = false := by decide) : PE X (.Name x pos) (tC (.str i)) := by
  obtain ⟨t, h⟩ := hm
  exact pe_glob hg h ⟨t, rfl⟩ hd
/-! ### lists that are held beside copies -/
/-- v is a tuple of the list at p and of a copy of what is in it -/
def hpF (K : PySem.W.Frag) (p : Addr) (ds : List PyData) : Hp → V → Prop := fun F v => ∃ t w, v = .ref t ∧ F t = some (.tup [.ref p, w]) ∧ Dp K F w (.list ds)
/-- v is a list of such -/
inductive HpA (K : PySem.W.Frag) (F : Hp) : List V → List (Addr × List PyData) → Prop where
  | nil : HpA K F [] []
  | cons {v : V} {vs : List V} {p : Addr} {ds : List PyData} {r : List (Addr × List PyData)} (h : hpF K p ds F v) (t : HpA K F vs r) : HpA K F (v :: vs) ((p, ds) :: r)
def hlF (K : PySem.W.Frag) (ps : List (Addr × List PyData)) : Hp → V → Prop := fun F v => ∃ h vs, v = .ref h ∧ F h = some (.lst vs) ∧ HpA K F vs ps
theorem hpF.ex {K : PySem.W.Frag} {F F' : Hp} {p : Addr} {ds : List PyData} {v : V} (e : Ex F F') (h : hpF K p ds F v) : hpF K p ds F' v := by
  obtain ⟨t, w, a, b, c⟩ := h
  exact ⟨t, w, a, e _ _ b, dp_ex e _ _ c⟩
theorem HpA.ex {K : PySem.W.Frag} {F F' : Hp} (e : Ex F F') : ∀ {vs : List V} {ps : List (Addr × List PyData)}, HpA K F vs ps → HpA K F' vs ps
  | _, _, .nil => .nil
  | _, _, .cons a b => .cons (a.ex e) (HpA.ex e b)
section
variable {K : PySem.W.Frag} {M : Addr → Prop} {F0 H0 F H F' H' : Hp} {σ xs gs : L2.St} {ss ts rs gt ss2 zs : List Sl} {ta tb te tc td tl : TE} {tr : TA} {t u tt : TT} {tz tbd : TS} {r ra rb : Sl} {d da db e : PyData} {ds es ds1 ds2 : List PyData} {Q : VK} {v x y : V} {p q : Addr}
def heldD (ps : List (Addr × List PyData)) : PyData := .list (ps.map fun z : Addr × List PyData => PyData.tuple [.list z.2, .list z.2])
theorem hpA_dp : ∀ {vs : List V} {ps : List (Addr × List PyData)}, HpA K F vs ps → (∀ z ∈ ps, Dp K F (.ref z.1) (.list z.2)) → DpAll K F vs (ps.map fun z : Addr × List PyData => PyData.tuple [.list z.2, .list z.2])
  | _, _, .nil, _ => .nil
  | _, _, .cons a b, h => by
    obtain ⟨t, w, rfl, e1, e2⟩ := a
    exact .cons (.tup (SqT.of e1) (.cons (h _ List.mem_cons_self) (.cons e2 .nil))) (hpA_dp b fun z hz => h z (List.mem_cons_of_mem _ hz))
/-- what is held reads as data where all stands still; each list that is held stands in a slot -/
theorem Sts.held {m : Nat} {ps : List (Addr × List PyData)} (S : Sts K M F0 H0 F H σ ss) (f : FzA K ss zs) (hm : zs[m]? = some (.fx (hlF K ps))) (hs : ∀ z ∈ ps, ∃ i : Nat, ss[i]? = some (Sl.mu (lsAt K z.1 z.2))) :
    Sts K (fun _ => False) (fplus F H) H (fplus F H) H σ (zs.set m (.dt (heldD ps))) := by
  have S1 := S.still f
  refine S1.redesc hm (fun L hL => ?_) fun z => nomatch z
  obtain ⟨hn, v, a, b⟩ := hL
  obtain ⟨h, vs, rfl, e1, e2⟩ := b _ (Ex.refl _)
  refine ⟨hn, _, a, .lst (SqL.of e1) (hpA_dp e2 fun z hz => ?_)⟩
  obtain ⟨i, hi⟩ := hs z hz
  obtain ⟨_, ws, c1, c2⟩ := S.get_at hi
  exact .lst (rd_plus (SqL.of c1)) (dpAll_ex (fplus_l S.fh) _ _ c2)
theorem TvR.held {m : Nat} {ps : List (Addr × List PyData)} {b : Bool} (zs : List Sl) (f : FzA K ss zs) (hm : zs[m]? = some (.fx (hlF K ps))) (hs : ∀ z ∈ ps, ∃ i : Nat, ss[i]? = some (Sl.mu (lsAt K z.1 z.2))) (h : TvR K t (zs.set m (.dt (heldD ps))) b) : TvR K t ss b := fun M F0 H0 F H σ xs ts l S Q q => by
  have S1 := (S.drop l).held f hm hs
  have S2 : Sts K (fun _ => False) (fplus F H) H (fplus F H) H (σ ++ []) (zs.set m (.dt (heldD ps)) ++ []) := by
    rw [List.append_nil, List.append_nil]
    exact S1
  refine h _ _ _ _ _ σ [] [] (by rw [List.length_set, l, f.len]) S2 Q fun F' H' g S3 => ?_
  have gt := thaw_gr S.fh g
  exact q _ H' gt (S.grow gt)
theorem Sts.absurd {i : Nat} (S : Sts K M F0 H0 F H σ ss) (h : ss[i]? = some (.fx fun _ _ => False)) : False := by
  obtain ⟨v, _, b⟩ := S.get_fx h
  exact b F (Ex.refl F)
end
end Fh
set_option Elab.async false
set_option linter.all false
set_option maxRecDepth 100000
set_option maxHeartbeats 2000000
namespace Fh
open PySem PySem.Spec PyProof.Rows L2 Evl
open PySem.W (Datum)
section
variable {K : PySem.W.Frag} {M : Addr → Prop} {F0 H0 F H F' H' : Hp} {σ xs gs : L2.St} {ss ts rs gt ss2 zs : List Sl} {ta tb te tc td tl : TE} {tr : TA} {t u tt : TT} {tz tbd : TS} {r ra rb : Sl} {d da db e : PyData} {ds es ds1 ds2 : List PyData} {Q : VK} {v x y : V} {p q : Addr}
theorem Sts.fixQ (i : Nat) (S : Sts K M F0 H0 F H (σ ++ gs) (ss ++ gt)) (l : σ.length = ss.length) (h : ss[i]? = some (.ls ds)) : ∃ p, Sts K M F0 H0 F H (σ ++ gs) (ss.set i (.mu (lsAt K p ds)) ++ gt) ∧ σ.length = (ss.set i (.mu (lsAt K p ds))).length := by
  have hi := (List.getElem?_eq_some_iff.mp h).1
  obtain ⟨p, _, S1⟩ := S.fixA (i := i) (ds := ds) (by rw [List.getElem?_append_left hi]; exact h)
  rw [List.set_append_left _ _ hi] at S1
  exact ⟨p, S1, by rw [List.length_set, l]⟩
theorem Sts.unfixQ (i : Nat) (S : Sts K M F0 H0 F H (σ ++ gs) (ss ++ gt)) (l : σ.length = ss.length) (h : ss[i]? = some (.mu (lsAt K p ds))) (hM : ∀ a, ¬ M a) : Sts K M F0 H0 F H (σ ++ gs) (ss.set i (.ls ds) ++ gt) ∧ σ.length = (ss.set i (.ls ds)).length := by
  have hi := (List.getElem?_eq_some_iff.mp h).1
  have S1 := S.unfixA (i := i) (p := p) (ds := ds) (by rw [List.getElem?_append_left hi]; exact h) hM
  rw [List.set_append_left _ _ hi] at S1
  exact ⟨S1, by rw [List.length_set, l]⟩
theorem Fz.at {p : Addr} : Fz K (.mu (lsAt K p ds)) (.dt (.list ds)) := .mu (fun F v L F' h e a => by
  obtain ⟨rfl, vs, rfl, dv⟩ := h
  exact .lst (SqL.of (a p _ (List.mem_singleton.mpr rfl))) (dpAll_ex e _ _ dv)) fun F v L h p' o hp => by
  obtain ⟨rfl, vs, rfl, dv⟩ := h
  cases List.mem_singleton.mp hp
  rfl
end
end Fh
set_option Elab.async false
set_option linter.all false
set_option maxRecDepth 100000
set_option maxHeartbeats 2000000
namespace Fh
open PySem PySem.Spec PyProof.Rows L2 Evl
open PySem.W (Datum)
/-! ### a walk of what is a list or a tuple -/
section
variable {K : PySem.W.Frag} {M : Addr → Prop} {F0 H0 F H F' H' : Hp} {σ xs gs : L2.St} {ss ts rs gt ss2 zs : List Sl} {ta tb te tc td tl : TE} {tr : TA} {t u tt : TT} {tz tbd : TS} {r ra rb : Sl} {d da db e : PyData} {ds es ds1 ds2 : List PyData} {Q : VK} {v x y : V} {p q : Addr}
end
end Fh
set_option Elab.async false
set_option linter.all false
set_option maxRecDepth 100000
set_option maxHeartbeats 2000000
namespace Fh
open PySem PySem.Spec PyProof.Rows L2 Evl
open PySem.W (Datum)
/-- what stands behind a turn: some state of the turn's -/
def NxX (K : PySem.W.Frag) (M : Addr → Prop) (F0 H0 : Hp) (gs : L2.St) (gt : List Sl) {α : Type} (W : α → List Sl) (P : α → Prop) (σ : L2.St) (H : Hp) : Prop := ∃ a, P a ∧ Nxt K M F0 H0 gs gt (W a) σ H
section
variable {K : PySem.W.Frag} {M : Addr → Prop} {F0 H0 F H F' H' : Hp} {σ xs gs : L2.St} {ss ts rs gt ss2 zs : List Sl} {ta tb te tc td tl : TE} {tr : TA} {t u tt : TT} {tz tbd : TS} {r ra rb : Sl} {d da db e : PyData} {ds es ds1 ds2 : List PyData} {Q : VK} {v x y : V} {p q : Addr} {α : Type}
theorem st_forR1X {D : Ends} {i : Nat} {n : Int} {m : Nat} (W : α → List Sl) (P : Nat → α → Prop) (a0 : α) (S : Sts K M F0 H0 F H (σ ++ gs) (ss ++ gt)) (l : σ.length = ss.length) (h : AvR K tr ss [.dt (.int n)]) (hn : n = (m : Int)) (hm : m < 2 ^ 60) (w0 : Wk ss (W a0)) (p0 : P 0 a0) (na : ∀ a, (W a ++ gt).all notAl = true) (hi : i < ss.length)
    (hs : ∀ a k, P k a → k < m → ∀ σ' F' H', Sts K M F0 H0 F' H' (σ' ++ gs) ((W a).set i (.dt (.int (k : Int))) ++ gt) → σ'.length = ((W a).set i (.dt (.int (k : Int)))).length → tbd { D with nx := NxX K M F0 H0 gs gt W (P (k + 1)), ct := NxX K M F0 H0 gs gt W (P (k + 1)), bk := D.nx } σ' H')
    (hd : ∀ a, P m a → ∀ σ' F' H', Sts K M F0 H0 F' H' (σ' ++ gs) (W a ++ gt) → σ'.length = (W a).length → D.nx σ' H') (hw : ∀ a, (W a).length = ss.length := by intro _; rfl) : tFor (iRng1 tr) (gName i) tbd D σ H := by
  refine h M F0 H0 F H σ gs gt l S _ fun vs F1 H1 hl g1 S1 => ?_
  have ha := S1.argsV (ds := [.int n]) S.len2 hl rfl
  have hv : vs = [.int n] := by
    cases ha with
    | cons a b =>
      cases b
      rw [a.int]
  have S2 := S1.backA S.len2
  refine ⟨n, hv, by omega, by omega, ?_⟩
  have e : n.toNat = m := by omega
  rw [e]
  refine for_range (lo := 0) (n := m) (fun k σ H => NxX K M F0 H0 gs gt W (P k) σ H) ⟨a0, p0, F1, S2.weak (w0.app (Wk.refl gt)), by rw [hw, l]⟩ (fun k σ' H' hk p => ?_) fun σ' H' p => ?_
  · obtain ⟨a, pa, F2, S3, l3⟩ := p
    have e0 : (0 : Int) + (k : Int) = (k : Int) := Int.zero_add _
    rw [e0]
    exact hs a k pa hk _ F2 H' (S3.setv l3 (by rw [hw]; exact hi) (.int _) (na a)) (by rw [List.length_set, List.length_set, l3])
  · obtain ⟨a, pa, F2, S3, l3⟩ := p
    exact hd a pa σ' F2 H' S3 l3
theorem q_forR1X {D : Ends} {i : Nat} {n : Int} {m : Nat} (W : α → List Sl) (P : Nat → α → Prop) (a0 : α) (S : Sts K M F0 H0 F H (σ ++ gs) (ss ++ gt)) (l : σ.length = ss.length) (h : AvR K tr ss [.dt (.int n)]) (hn : n = (m : Int)) (hm : m < 2 ^ 60) (w0 : Wk ss (W a0)) (p0 : P 0 a0) (na : ∀ a, (W a ++ gt).all notAl = true) (hi : i < ss.length)
    (hs : ∀ a k, P k a → k < m → ∀ σ' F' H', Sts K M F0 H0 F' H' (σ' ++ gs) ((W a).set i (.dt (.int (k : Int))) ++ gt) → σ'.length = ((W a).set i (.dt (.int (k : Int)))).length → tbd { D with nx := NxX K M F0 H0 gs gt W (P (k + 1)), ct := NxX K M F0 H0 gs gt W (P (k + 1)), bk := tz D } σ' H')
    (hd : ∀ a, P m a → ∀ σ' F' H', Sts K M F0 H0 F' H' (σ' ++ gs) (W a ++ gt) → σ'.length = (W a).length → tz D σ' H') (hw : ∀ a, (W a).length = ss.length := by intro _; rfl) : tSeq (tFor (iRng1 tr) (gName i) tbd) tz D σ H := st_forR1X (D := { D with nx := tz D }) W P a0 S l h hn hm w0 p0 na hi hs hd hw
end
end Fh
set_option Elab.async false
set_option linter.all false
set_option maxRecDepth 100000
set_option maxHeartbeats 2000000
namespace Fh
open PySem PySem.Spec PyProof.Rows L2 Evl
open PySem.W (Datum)
section
variable {K : PySem.W.Frag} {M : Addr → Prop} {F0 H0 F H F' H' : Hp} {σ xs gs : L2.St} {ss ts rs gt ss2 zs : List Sl} {ta tb te tc td tl : TE} {tr : TA} {t u tt : TT} {tz tbd : TS} {r ra rb : Sl} {d da db e : PyData} {ds es ds1 ds2 : List PyData} {Q : VK} {v x y : V} {p q : Addr}
/-- what a slot of our own owns, one thing of it written -/
theorem Sts.muWrite {i : Nat} {ψ ψ' : Hp → V → List (Addr × HO) → Prop} (S : Sts K M F0 H0 F H σ ss) (h : ss[i]? = some (.mu ψ)) : ∃ v L, σ[i]? = some (some v) ∧ ψ F v L ∧ (∀ p o, (p, o) ∈ L → H p = some o ∧ F p = none) ∧ (L.map (·.1)).Nodup ∧
    ∀ p o' L', p ∈ L.map (·.1) → L'.map (·.1) = L.map (·.1) → (∀ q o, (q, o) ∈ L' → q ≠ p → (q, o) ∈ L) → (∀ o, (p, o) ∈ L' → o = o') → (∀ F', Ex F F' → ψ' F' v L') → Sts K M F0 H0 F (upd H p o') σ (ss.set i (.mu ψ')) := by
  obtain ⟨g0, l, L, O⟩ := S
  obtain ⟨v, a, b⟩ := O.ok i _ h
  have hi := (List.getElem?_eq_some_iff.mp h).1
  refine ⟨v, L i, a, b F (Ex.refl F), fun p o hp => ⟨(O.at_ i _ p o h hp).1, (O.at_ i _ p o h hp).2.1⟩, O.nd i hi, fun p o' L' hp hL h1 h2 h3 => ?_⟩
  obtain ⟨⟨p', o⟩, pin, rfl⟩ := List.mem_map.mp hp
  obtain ⟨hpo, fp, h0'⟩ := O.at_ i _ p' o h pin
  have hl : ∀ {j}, j < (ss.set i (.mu ψ')).length → j < ss.length := fun {j} h => by rwa [List.length_set] at h
  dsimp only at *
  refine ⟨⟨g0.ff, fun x o nM hx => ?_, Ex.mut g0.fh fp, g0.nw, fun x hx => ?_⟩, by rw [List.length_set, l], fun j => if j = i then L' else L j, fun j s hs => ?_, fun j s q o hs hq => ?_, fun j hj => ?_, fun j k q hj hk hp1 hq1 => ?_⟩
  · have ne : x ≠ p' := fun e => by
      subst e
      rcases h0' with h0 | ⟨m, _⟩
      · rw [h0] at hx
        cases hx
      · exact nM m
    rw [upd_ne ne]
    exact g0.hh x o nM hx
  · by_cases e : x = p'
    · rw [e, upd_same]
      exact fun z => nomatch z
    · rw [upd_ne e]
      exact g0.al x hx
  · by_cases e : j = i
    · subst e
      rw [List.getElem?_set_self hi] at hs
      cases hs
      rw [if_pos rfl]
      exact ⟨v, a, h3⟩
    · rw [if_neg e]
      rw [List.getElem?_set_ne (Ne.symm e)] at hs
      exact O.ok j s hs
  · by_cases e : j = i
    · subst e
      rw [if_pos rfl] at hq
      rw [List.getElem?_set_self hi] at hs
      cases hs
      by_cases eq : q = p'
      · subst eq
        rw [h2 o hq]
        refine ⟨upd_same, fp, ?_⟩
        rcases h0' with h0 | ⟨m, _⟩
        · exact .inl h0
        · exact .inr ⟨m, rfl⟩
      · obtain ⟨x, y, z⟩ := O.at_ j _ q o h (h1 q o hq eq)
        rw [upd_ne eq]
        refine ⟨x, y, ?_⟩
        rcases z with z | ⟨m, _⟩
        · exact .inl z
        · exact .inr ⟨m, rfl⟩
    · rw [if_neg e] at hq
      rw [List.getElem?_set_ne (Ne.symm e)] at hs
      obtain ⟨x, y, z⟩ := O.at_ j s q o hs hq
      have ne : q ≠ p' := fun e2 => by
        subst e2
        exact e (O.ap j i q (List.getElem?_eq_some_iff.mp hs).1 hi (List.mem_map.mpr ⟨_, hq, rfl⟩) (List.mem_map.mpr ⟨_, pin, rfl⟩))
      rw [upd_ne ne]
      exact ⟨x, y, z⟩
  · by_cases e : j = i
    · subst e
      show ((if j = j then L' else L j).map (·.1)).Nodup
      rw [if_pos rfl, hL]
      exact O.nd j hi
    · simp only [if_neg e]
      exact O.nd j (hl hj)
  · have mv : ∀ {j : Nat} {q : Addr}, q ∈ ((if j = i then L' else L j).map (·.1)) → q ∈ (L j).map (·.1) := fun {j q} h => by
      by_cases e : j = i
      · rw [if_pos e, hL] at h
        rw [e]
        exact h
      · rwa [if_neg e] at h
    exact O.ap j k q (hl hj) (hl hk) (mv hp1) (mv hq1)
/-! ### a list of two lists, all our own -/
end
end Fh
set_option Elab.async false
set_option linter.all false
set_option maxRecDepth 100000
set_option maxHeartbeats 2000000
namespace Fh
open PySem PySem.Spec PyProof.Rows L2 Evl
open PySem.W (Datum)
section
variable {K : PySem.W.Frag} {M : Addr → Prop} {F0 H0 F H F' H' : Hp} {σ xs gs : L2.St} {ss ts rs gt ss2 zs : List Sl} {ta tb te tc td tl tj tk : TE} {tr : TA} {t u tt : TT} {tz tbd : TS} {r ra rb : Sl} {d da db e : PyData} {ds es ds1 ds2 : List PyData} {Q : VK} {v x y : V} {p q : Addr}
/-- the last of a suite -/
theorem st_par {D : Ends} {i j : Nat} {d1 d2 : PyData} (S : Sts K M F0 H0 F H (σ ++ gs) (ss ++ gt)) (l : σ.length = ss.length) (h1 : EvR K ta ss (.dt d1)) (h2 : EvR K tb ss (.dt d2)) (na : (ss ++ gt).all notAl = true) (hi : i < ss.length) (hj : j < ss.length)
    (k : ∀ σ' F' H', Sts K M F0 H0 F' H' (σ' ++ gs) ((ss.set i (.dt d1)).set j (.dt d2) ++ gt) → σ'.length = ((ss.set i (.dt d1)).set j (.dt d2)).length → D.nx σ' H') : tPar i j (tCons ta (tCons tb tNil)) D σ H := q_par (D := D) (tz := fun _ => D.nx) S l h1 h2 na hi hj k
end
end Fh
set_option Elab.async false
set_option linter.all false
set_option maxRecDepth 100000
set_option maxHeartbeats 2000000
namespace Fh
open PySem PySem.Spec PyProof.Rows L2 Evl
open PySem.W (Datum)
/-! ### what raises within what is told -/
section
variable {K : PySem.W.Frag} {M : Addr → Prop} {F0 H0 F H F' H' : Hp} {σ xs gs : L2.St} {ss ts rs gt ss2 zs : List Sl} {ta tb te tc td tl tj tk : TE} {tr : TA} {t u tt : TT} {tz tbd : TS} {r ra rb : Sl} {d da db e : PyData} {ds es ds1 ds2 : List PyData} {Q : VK} {v x y : V} {p q C : Addr} {E E' : XK}
theorem Sts.freezeQ (i : Nat) (S : Sts K M F0 H0 F H (σ ++ gs) (ss ++ gt)) (l : σ.length = ss.length) (h : ss[i]? = some (.ls ds)) : ∃ F', Sts K M F0 H0 F' H (σ ++ gs) (ss.set i (.dt (.list ds)) ++ gt) ∧ σ.length = (ss.set i (.dt (.list ds))).length := by
  have hi := (List.getElem?_eq_some_iff.mp h).1
  obtain ⟨F', _, _, S1⟩ := S.freeze (i := i) (ds := ds) (by rw [List.getElem?_append_left hi]; exact h)
  rw [List.set_append_left _ _ hi] at S1
  exact ⟨F', S1, by rw [List.length_set, l]⟩
end
end Fh
set_option Elab.async false
set_option linter.all false
set_option maxRecDepth 100000
set_option maxHeartbeats 2000000
namespace Fh
open PySem PySem.Spec PyProof.Rows L2 Evl
open PySem.W (Datum)
section
variable {K : PySem.W.Frag} {M : Addr → Prop} {F0 H0 F H F' H' : Hp} {σ xs gs : L2.St} {ss ts rs gt ss2 : List Sl} {ta tb te tc td tl tj tk : TE} {tr : TA} {t u tt : TT} {tz tbd : TS} {r ra rb : Sl} {d da db e : PyData} {ds es ds1 ds2 : List PyData} {Q : VK} {v x y : V} {p q C : Addr} {E E' : XK}
end
end Fh
set_option Elab.async false
set_option linter.all false
set_option maxRecDepth 100000
set_option maxHeartbeats 2000000
namespace Fh
open PySem PySem.Spec PyProof.Rows L2 Evl
open PySem.W (Datum)
/-! ### texts by their signs -/
def tx (cs : List Nat) : Str := ⟨cs.toArray⟩
theorem tx_len (cs : List Nat) : (tx cs).length = cs.length := by simp [tx, Str.length]
theorem tx_cps (cs : List Nat) : (tx cs).cps.toList = cs := by simp [tx]
theorem tx_app (a b : List Nat) : tx a ++ tx b = tx (a ++ b) := by
  show Str.mk (a.toArray ++ b.toArray) = Str.mk (a ++ b).toArray
  simp
theorem tx_cut (cs : List Nat) (lo hi : Option Int) : L2.cutS (tx cs) lo hi = tx ((cs.drop (HT.sIx cs.length 0 lo)).take (HT.sIx cs.length cs.length hi - HT.sIx cs.length 0 lo)) := by
  unfold L2.cutS
  rw [tx_len, tx_cps]
  rfl
def rJoin (K : PySem.W.Frag) : V → List V → Hp → VK → Prop := fun x xs H Q => ∃ a p, ∃ ys : List Str, x = .str a ∧ xs = [.ref p] ∧ (SqL K H p (ys.map V.str) ∨ SqT K H p (ys.map V.str)) ∧ (ys.map (·.length)).sum + ys.length * a.length ≤ 16777216 ∧ Q (.str (Txt.join a ys)) H
section
variable {X : Cx} {o e : Expr} {to te : TE} {apos pos : Pos}
theorem pe_joinF (ho : PE X o to) (he : PE X e te) (hs : starEach [e] X.env = [(false, eval e X.env)] := by rfl) (hbase : attributeBase o "join" X.env (eval o X.env) = eval o X.env := by rfl) (hline : (apos.endLine == pos.line) = true := by rfl) : PE X (.Call (.Attribute o "join" apos) [e] [] pos) (tM1 (rJoin X.K) to te) := pe_m1 F.slot_str_join F.type_str_join mt_join ho he hs hbase hline
end
section
variable {K : PySem.W.Frag} {M : Addr → Prop} {F0 H0 F H F' H' : Hp} {σ xs gs : L2.St} {ss ts rs gt ss2 : List Sl} {ta tb te tc td tl tj tk : TE} {tr : TA} {t u tt : TT} {tz tbd : TS} {r ra rb : Sl} {d da db e : PyData} {ds es ds1 ds2 : List PyData} {Q : VK} {v x y : V} {p q C : Addr} {E E' : XK} {z : Str}
theorem ev_join {ys : List Str} (ha : EvR K ta ss (.dt (.str z))) (hb : EvR K tb ss rb) (vb : vw ss rb = some (.list (ys.map .str))) (h : (ys.map (·.length)).sum + ys.length * z.length ≤ 16777216) : EvR K (tM1 (rJoin K) ta tb) ss (.dt (.str (Txt.join z ys))) := fun M F0 H0 F H σ xs ts l S Q q => by
  refine ha M F0 H0 F H σ xs ts l S _ fun v F1 H1 g1 n1 S1 => ?_
  refine ⟨⟨z, (S1.lastV S.len2 (d := .str z) rfl).str⟩, ?_⟩
  have hv := (S1.lastV S.len2 (d := .str z) rfl).str
  refine hb M F0 H0 F1 H1 σ _ _ l S1 _ fun w F2 H2 g2 n2 S2 => ?_
  obtain ⟨p, vs, rfl, sq, da⟩ := (S2.lastV S1.len2 vb).lst S2.fh
  have e := dpAll_strs da
  subst hv e
  exact ⟨z, p, ys, rfl, rfl, .inl sq, h, (RetR.mk (g1.trans g2) ((S2.back S1.len2).back S.len2) q).str⟩
theorem ev_inS {c : Nat} (ha : EvR K ta ss (.dt (.str ⟨#[c]⟩))) (hb : EvR K tb ss (.dt (.str z))) : EvR K (tOp rInS ta tb) ss (.dt (.bool (decide (c ∈ z.cps.toList)))) :=
  ev_op ha hb rfl rfl fun F H x y Q e hx hy k => ⟨c, z, hx.str, hy.str, k.bl⟩
theorem lc_str {g : TG} {tt : TT} {te : TE} {vs : List Nat} {σ : L2.St} {H1 : Hp} {D : Addr} {Qd : Hp → Prop} (Pv : Nat → Hp → Prop) (h0 : Pv 0 (upd H1 D (.lst [])))
    (hs : ∀ i c H, z.cps[i]? = some c → Pv i H → g (.str ⟨#[c]⟩) (wipe σ vs) H fun σ2 H2 => wipe σ2 vs = wipe σ vs ∧ tt σ2 H2 fun b H3 =>
      if b = true then te σ2 H3 fun y H4 => ∃ acc, H4 D = some (.lst acc) ∧ acc.length < sizeLine ∧ Pv (i + 1) (upd H4 D (.lst (acc ++ [y]))) else Pv (i + 1) H3) (hd : ∀ H, Pv z.cps.size H → Qd H) :
    ∃ W : Nat → Nat → Hp → Prop, (∃ m, W 0 m (upd H1 D (.lst []))) ∧ ∀ i m H, W i m H →
      ((Its z).stop i H ∧ Qd H) ∨ ((Its z).go i H ∧ ∃ Nx : Hp → Prop, (∀ H', Nx H' → ∃ m', m' < m ∧ W (i + 1) m' H') ∧ ∀ x H', (Its z).yld i H x H' → g x (wipe σ vs) H' fun σ2 H2 => wipe σ2 vs = wipe σ vs ∧ tt σ2 H2 fun b H3 =>
        if b = true then te σ2 H3 fun y H4 => ∃ acc, H4 D = some (.lst acc) ∧ acc.length < sizeLine ∧ Nx (upd H4 D (.lst (acc ++ [y]))) else Nx H3) := by
  refine ⟨fun i m H => m = z.cps.size - i ∧ i ≤ z.cps.size ∧ Pv i H, ⟨z.cps.size, by simp, Nat.zero_le _, h0⟩, ?_⟩
  rintro i m H ⟨rfl, hi, p⟩
  by_cases hlt : i < z.cps.size
  · refine .inr ⟨hlt, Pv (i + 1), fun H' p' => ⟨z.cps.size - (i + 1), by omega, rfl, hlt, p'⟩, fun x H' y => ?_⟩
    obtain ⟨e, c, hc, y⟩ := y
    subst e y
    exact hs i c _ hc p
  · have e : i = z.cps.size := by omega
    subst e
    exact .inl ⟨Nat.le_refl _, hd H p⟩
/-- [.. for c in text if ..] -/
theorem ev_lcS {g : TG} {vs : List Nat} (f : Nat → Option PyData) (h : EvR K tl ss (.dt (.str z))) (na : ss.all notAl = true) (hv : ∀ i ∈ vs, i < ss.length) (hz : z.length ≤ 1000000)
    (hs : ∀ k c, z.cps[k]? = some c → ∃ ss2, GTarget K g vs ss (.str ⟨#[c]⟩) ss2 ∧ TvR K tt ss2 (f k).isSome ∧ ((f k).isSome = true → EvR K te ss2 (.dt ((f k).getD .none)))) : EvR K (tLc (iStr tl) g tt te vs) ss (.ls (got f z.length)) := fun M F0 H0 F H σ xs ts l S Q q => by
  refine h M F0 H0 F H σ xs ts l S _ fun v F1 H1 g1 n1 S1 => ?_
  have hvz := (S1.lastV S.len2 (d := .str z) rfl).str
  subst hvz
  have S2 := S1.back S.len2
  refine ⟨z, rfl, fun D hD => ?_⟩
  have fD := fresh_back S1.fh hD
  refine lc_str (fun k H' => LcP K M F0 H0 F1 H1 σ xs ss ts D (got f k) H') ⟨F1, Gr.newM S1.fh hD, fD, hD, ?_⟩ (fun k c H' hk p => ?_) fun H' p => ?_
  · have := S2.push_ls (ds := []) (vs := []) (Ex.new hD) hD upd_same .nil
    rw [List.append_assoc, List.append_assoc] at this
    exact this
  · obtain ⟨ss2, t1, t2, t3⟩ := hs k c hk
    have := lc_turn (g := g) (tt := tt) (te := te) (b := (f k).isSome) (e := (f k).getD .none) p l hv na (.str _) t1 t2 t3 (by have := got_len f k; have := (Array.getElem?_eq_some_iff.mp hk).1; have e : z.length = z.cps.size := rfl; omega)
    rw [got_succ]
    exact this
  · obtain ⟨F', g', f', _, S'⟩ := p
    exact q _ F' H' (g1.trans g') ⟨D, rfl, fresh_back g1.hh hD⟩ S'
end
/-! ### isinstance of an error by a tuple of classes -/
end Fh
set_option Elab.async false
set_option linter.all false
set_option maxRecDepth 100000
set_option maxHeartbeats 2000000
namespace Fh
open PySem PySem.Spec PyProof.Rows L2 Evl
open PySem.W (Datum)
section
variable {K : PySem.W.Frag} {M : Addr → Prop} {F0 H0 F H F' H' : Hp} {σ xs gs : L2.St} {ss ts rs gt ss2 : List Sl} {ta tb te tc td tl tj tk : TE} {tr : TA} {t u tt : TT} {tz tbd : TS} {r ra rb : Sl} {d da db e : PyData} {ds es ds1 ds2 : List PyData} {Q : VK} {v x y : V} {p q C : Addr} {E E' : XK} {z : Str}
end
end Fh
set_option Elab.async false
set_option linter.all false
set_option maxRecDepth 100000
set_option maxHeartbeats 2000000
namespace Fh
open PySem PySem.Spec PyProof.Rows L2 Evl
open PySem.W (Datum)
/-! ### joined and stripped texts by their signs -/
def jn (s : List Nat) : List (List Nat) → List Nat
  | [] => []
  | [x] => x
  | x :: y :: r => x ++ s ++ jn s (y :: r)
theorem tx_jn (s : List Nat) : ∀ L : List (List Nat), PySem.Str.join (tx s) (L.map tx) = tx (jn s L)
  | [] => rfl
  | [x] => rfl
  | x :: y :: r => by
    show tx x ++ tx s ++ PySem.Str.join (tx s) ((y :: r).map tx) = _
    rw [tx_jn s (y :: r), tx_app, tx_app]
    rfl
theorem tx_join (s : List Nat) (L : List (List Nat)) : Txt.join (tx s) (L.map tx) = tx (jn s L) := by
  show Builtin.Str.glued (tx s) _ = _
  rw [StrLaws.glued_eq_join, tx_jn]
theorem jn_nil : ∀ L : List (List Nat), jn [] L = L.flatten
  | [] => rfl
  | [x] => by simp [jn]
  | x :: y :: r => by
    show x ++ [] ++ jn [] (y :: r) = _
    rw [jn_nil (y :: r), List.append_nil]
    rfl
theorem flat_ones : ∀ L : List Nat, (L.map fun c => [c]).flatten = L
  | [] => rfl
  | c :: L => by
    rw [List.map_cons, List.flatten_cons, flat_ones L]
    rfl
theorem join_signs (L : List Nat) : Txt.join (tx []) ((L.map fun c => [c]).map tx) = tx L := by
  rw [tx_join, jn_nil, flat_ones]
section
variable {K : PySem.W.Frag} {M : Addr → Prop} {F0 H0 F H F' H' : Hp} {σ xs gs : L2.St} {ss ts rs gt ss2 : List Sl} {ta tb te tc td tl tj tk : TE} {tr : TA} {t u tt : TT} {tz tbd : TS} {r ra rb : Sl} {d da db e : PyData} {ds es ds1 ds2 : List PyData} {Q : VK} {v x y : V} {p q C : Addr} {E E' : XK} {z : Str}
end
end Fh
set_option Elab.async false
set_option linter.all false
set_option maxRecDepth 100000
set_option maxHeartbeats 2000000
namespace Fh
open PySem PySem.Spec PyProof.Rows L2 Evl
open PySem.W (Datum)
/-! ### objects: attributes that are data, and lists of their own -/
inductive Fv where
  | dt (d : PyData)
  | ls (ds : List PyData)
def Fv.pd : Fv → PyData
  | .dt d => d
  | .ls ds => .list ds
inductive FldA (K : PySem.W.Frag) (F : Hp) : List (Str × V) → List (Str × Fv) → List (Addr × HO) → Prop where
  | nil : FldA K F [] [] []
  | dt {f : Str} {v : V} {d : PyData} {fs : List (Str × V)} {fds : List (Str × Fv)} {L : List (Addr × HO)} (h : Dp K F v d) (t : FldA K F fs fds L) : FldA K F ((f, v) :: fs) ((f, .dt d) :: fds) L
  | ls {f : Str} {q : Addr} {vs : List V} {ds : List PyData} {fs : List (Str × V)} {fds : List (Str × Fv)} {L : List (Addr × HO)} (h : DpAll K F vs ds) (t : FldA K F fs fds L) : FldA K F ((f, .ref q) :: fs) ((f, .ls ds) :: fds) ((q, .lst vs) :: L)
def putD (f : Str) (d : Fv) : List (Str × Fv) → List (Str × Fv)
  | [] => [(f, d)]
  | (g, x) :: r => if g = f then (g, d) :: r else (g, x) :: putD f d r
def insAt (K : PySem.W.Frag) (C p : Addr) (fds : List (Str × Fv)) : Hp → V → List (Addr × HO) → Prop := fun F v L => v = .ref p ∧ ∃ dx fs L0, L = (p, .ins C dx fs) :: L0 ∧ FldA K F fs fds L0
section
variable {K : PySem.W.Frag} {M : Addr → Prop} {F0 H0 F H F' H' : Hp} {σ xs gs : L2.St} {ss ts rs gt ss2 : List Sl} {ta tb te tc td tl tj tk tv : TE} {tr : TA} {t u tt : TT} {tz tbd : TS} {r ra rb : Sl} {d da db e : PyData} {ds es ds1 ds2 : List PyData} {Q : VK} {v x y : V} {p q C : Addr} {E E' : XK} {z f : Str} {fs : List (Str × V)} {fds fds' : List (Str × Fv)} {L L0 : List (Addr × HO)} {a : Fv}
theorem FldA.ex (h : FldA K F fs fds L) (e : Ex F F') : FldA K F' fs fds L := by
  induction h with
  | nil => exact .nil
  | dt h t ih => exact .dt (dp_ex e _ _ h) ih
  | ls h t ih => exact .ls (dpAll_ex e _ _ h) ih
theorem FldA.len (h : FldA K F fs fds L) : fs.length = fds.length := by
  induction h with
  | nil => rfl
  | dt h t ih => rw [List.length_cons, List.length_cons, ih]
  | ls h t ih => rw [List.length_cons, List.length_cons, ih]
theorem FldA.get (h : FldA K F fs fds L) (hl : ∀ z ∈ L, H z.1 = some z.2) (e : fds.lookup f = some a) : ∃ v, fs.lookup f = some v ∧ VwD K F H v a.pd ∧ ∀ d, a = .dt d → Dp K F v d := by
  induction h with
  | nil => cases e
  | @dt g v d' fs fds L h t ih =>
    unfold List.lookup at e ⊢
    cases hb : (f == g) with
    | true =>
      rw [hb] at e
      cases e
      exact ⟨v, rfl, .inl h, fun d e => by cases e; exact h⟩
    | false =>
      rw [hb] at e
      exact ih hl e
  | @ls g q vs ds fs fds L h t ih =>
    unfold List.lookup at e ⊢
    cases hb : (f == g) with
    | true =>
      rw [hb] at e
      cases e
      exact ⟨_, rfl, .inr ⟨ds, rfl, q, vs, rfl, SqL.of (hl _ List.mem_cons_self), h⟩, fun d e => nomatch e⟩
    | false =>
      rw [hb] at e
      exact ih (fun z hz => hl z (List.mem_cons_of_mem _ hz)) e
/-- an attribute that is data, or new, takes data -/
theorem FldA.put (h : FldA K F fs fds L) (e : Dp K F v d) (ok : ∀ ds, fds.lookup f ≠ some (.ls ds)) : FldA K F (putF f v fs) (putD f (.dt d) fds) L := by
  induction h with
  | nil => exact .dt e .nil
  | @dt g w d' fs fds L h t ih =>
    unfold putF putD
    split
    · exact .dt e t
    · rename_i hg
      refine .dt h (ih fun ds hds => ok ds ?_)
      unfold List.lookup
      rw [beq_eq_false_iff_ne.mpr (Ne.symm hg)]
      exact hds
  | @ls g q vs ds' fs fds L h t ih =>
    unfold putF putD
    split
    · rename_i hg
      refine absurd ?_ (ok ds')
      unfold List.lookup
      rw [hg, beq_self_eq_true]
    · rename_i hg
      refine .ls h (ih fun ds hds => ok ds ?_)
      unfold List.lookup
      rw [beq_eq_false_iff_ne.mpr (Ne.symm hg)]
      exact hds
theorem insAt.ex (h : insAt K C p fds F v L) (e : Ex F F') : insAt K C p fds F' v L := by
  obtain ⟨a, dx, fs, L0, b, c⟩ := h
  exact ⟨a, dx, fs, L0, b, c.ex e⟩
theorem Sts.ins (S : Sts K M F0 H0 F H σ ss) {i : Nat} (h : ss[i]? = some (.mu (insAt K C p fds))) : σ[i]? = some (some (.ref p)) ∧ F p = none ∧ ∃ dx fs L0, H p = some (.ins C dx fs) ∧ FldA K F fs fds L0 ∧ (∀ z ∈ L0, H z.1 = some z.2) := by
  obtain ⟨v, L, a, ⟨rfl, dx, fs, L0, rfl, c⟩, at_, _⟩ := S.muWrite (ψ' := insAt K C p fds) h
  have := at_ p _ List.mem_cons_self
  exact ⟨a, this.2, dx, fs, L0, this.1, c, fun z hz => (at_ z.1 z.2 (List.mem_cons_of_mem _ hz)).1⟩
theorem VwD.gr (h : VwD K F H v d) (g : Gr F H F' H') : VwD K F' H' v d := by
  rcases h with h | ⟨ds, rfl, p, vs, rfl, a, b⟩
  · exact .inl (dp_ex g.ff _ _ h)
  · exact .inr ⟨ds, rfl, p, vs, rfl, ex_l g.hh a, dpAll_ex g.ff _ _ b⟩
end
end Fh
set_option Elab.async false
set_option linter.all false
set_option maxRecDepth 100000
set_option maxHeartbeats 2000000
namespace Fh
open PySem PySem.Spec PyProof.Rows L2 Evl
open PySem.W (Datum)
abbrev Fds := List (Str × Fv)
abbrev RO := Fds → List PyData → Sl → Fds → Prop
abbrev XO := Fds → List PyData → Addr → Prop
def MO (L : List (Addr × HO)) : Addr → Prop := fun a => a ∈ L.map (·.1)
def notMu : Sl → Bool
  | .al _ => false
  | .mu _ => false
  | _ => true
section
variable {K : PySem.W.Frag} {M : Addr → Prop} {F0 H0 F H F' H' : Hp} {σ xs gs : L2.St} {ss ts rs gt ss2 ss3 : List Sl} {ta tb te tc td tl tj tk tv : TE} {tr : TA} {t u tt : TT} {tz tbd tu tw : TS} {r ra rb : Sl} {d da db e : PyData} {ds es ds1 ds2 : List PyData} {Q : VK} {v x y : V} {p q C : Addr} {E E' : XK} {z f : Str} {fs : List (Str × V)} {fds fds' : Fds} {L L0 : List (Addr × HO)} {R : RO} {X : XO} {i : Nat} {b : Bool}
theorem SlOk.move {σ' σ : L2.St} {i j : Nat} {L : List (Addr × HO)} {s : Sl} (h : notAl s = true) (e : σ'[j]? = σ[i]?) (o : SlOk K F σ i L s) : SlOk K F σ' j L s := by
  cases s with
  | no => exact o
  | al j => cases h
  | dt d =>
    obtain ⟨a, v, b, c⟩ := o
    exact ⟨a, v, e.trans b, c⟩
  | ls ds =>
    obtain ⟨p, vs, a, b, c⟩ := o
    exact ⟨p, vs, e.trans a, b, c⟩
  | fx φ =>
    obtain ⟨a, v, b, c⟩ := o
    exact ⟨a, v, e.trans b, c⟩
  | mu ψ =>
    obtain ⟨v, b, c⟩ := o
    exact ⟨v, e.trans b, c⟩
/-! ### such a def is called -/
end
end Fh
set_option Elab.async false
set_option linter.all false
set_option maxRecDepth 100000
set_option maxHeartbeats 2000000
namespace Fh
open PySem PySem.Spec PyProof.Rows L2 Evl
open PySem.W (Datum)
/-! ### a method that stands; a class that is made -/
structure DefM (P : Program) (w : World) (K : PySem.W.Frag) (mg : Str → Option Value) (base : Heap) (k : Nat) (C : Addr) (m : Str) (ps : List Str) (sp : Sp) (dvs : List V) : Prop where
  ex : ∃ f fd ds, FnOk P w K mg base (L2.CX P w) k f fd ps sp ∧ Meth K C m f ∧ Binds K fd ps ds ∧ Vals dvs ds
structure DefC (P : Program) (w : World) (K : PySem.W.Frag) (mg : Str → Option Value) (base : Heap) (k : Nat) (C : Addr) (x : Str) (ps : List Str) (sp : Sp) (dvs : List V) : Prop where
  ex : ∃ f fd ds, FnOk P w K mg base (L2.CX P w) k f fd ps sp ∧ Mk K C f ∧ mg x = some (.ref C) ∧ Binds K fd ps ds ∧ Vals dvs ds
section
variable {X : Cx} {k : Nat} {x m : Str} {C : Addr} {ps : List Str} {sp : Sp} {dvs : List V} {E : XK} {p pos apos : Pos} {e o : Expr} {es : List Expr} {t : TA} {ta : TE} {W : WX}
theorem pe_methO {pl : Sem Bool} (D : DefM X.prog X.w X.K X.mg X.base k C m ps sp dvs) (he : PE X o ta) (c : Cls X.K C) (hr : Room k X.A) (hx : Passes (L2.CX X.prog X.w) X E) (ha : PA X (e :: es) t)
    (hst : starEach (e :: es) X.env = (false, eval e X.env) :: starEach es X.env := by rfl) (hpl : (backTo pos (starEach es X.env)).any (·.1) = false := by rfl)
    (ht : eval (.Call (.Attribute o m apos) (e :: es) [] pos) X.env = (do
      let ov ← eval o X.env
      standAt apos.atName
      let (f, first) ← holding [ov] (getMethod ov m pl)
      callWith pos f first (backTo pos (starEach (e :: es) X.env)) (backToKw pos (keywordEach [] X.env))) := by rfl) : PE X (.Call (.Attribute o m apos) (e :: es) [] pos) (tMeth C m sp dvs E ta t) := by
  obtain ⟨f, fd, ds, F, hm, b, v⟩ := D.ex
  exact pe_meth (pl := pl) he c hm F hr b v hx ha hst hpl ht
theorem pe_methO0 {pl : Sem Bool} (D : DefM X.prog X.w X.K X.mg X.base k C m ps sp dvs) (he : PE X o ta) (c : Cls X.K C) (hr : Room k X.A) (hx : Passes (L2.CX X.prog X.w) X E)
    (ht : eval (.Call (.Attribute o m apos) [] [] pos) X.env = (do
      let ov ← eval o X.env
      standAt apos.atName
      let (f, first) ← holding [ov] (getMethod ov m pl)
      callWith pos f first (backTo pos (starEach [] X.env)) (backToKw pos (keywordEach [] X.env))) := by rfl) : PE X (.Call (.Attribute o m apos) [] [] pos) (tMeth C m sp dvs E ta tNil) := by
  obtain ⟨f, fd, ds, F, hm, b, v⟩ := D.ex
  exact pe_meth0 (pl := pl) he c hm F hr b v hx ht
theorem pe_makeO (D : DefC X.prog X.w X.K X.mg X.base k C x ps sp dvs) (hr : Room (k + 1) X.A) (hg : Gl X x) (hx : Passes (L2.CX X.prog X.w) X E) (ha : PA X (e :: es) t) (hdb : (x == ("__debug__" : Str)) = false := by decide)
    (he : starEach (e :: es) X.env = (false, eval e X.env) :: starEach es X.env := by rfl) (hpl : (backTo pos (starEach es X.env)).any (·.1) = false := by rfl) : PE X (.Call (.Name x p) (e :: es) [] pos) (tMake C sp dvs E t) := by
  obtain ⟨f, fd, ds, F, M, hm, b, v⟩ := D.ex
  exact pe_make M F hr hg hm b v hx ha hdb he hpl
end
/-! ### expressions that change what a slot owns -/
def EvM (K : PySem.W.Frag) (te : TE) (ss ss2 : List Sl) (r : Sl) : Prop := ∀ (M : Addr → Prop) (F0 H0 F H : Hp) (σ xs : L2.St) (ts : List Sl), σ.length = ss.length → Sts K M F0 H0 F H (σ ++ xs) (ss ++ ts) →
  ∀ Q : VK, (∀ v F' H', Sts K M F0 H0 F' H' (σ ++ (xs ++ [some v])) (ss2 ++ (ts ++ [r])) → Q v H') → te σ H Q
def TvM (K : PySem.W.Frag) (tt : TT) (ss ss2 : List Sl) (b : Bool) : Prop := ∀ (M : Addr → Prop) (F0 H0 F H : Hp) (σ xs : L2.St) (ts : List Sl), σ.length = ss.length → Sts K M F0 H0 F H (σ ++ xs) (ss ++ ts) →
  ∀ Q : Bool → Hp → Prop, (∀ F' H', Sts K M F0 H0 F' H' (σ ++ xs) (ss2 ++ ts) → Q b H') → tt σ H Q
/-- an object within what a slot owns -/
structure Foc (K : PySem.W.Frag) (C : Addr) (ψ : Hp → V → List (Addr × HO) → Prop) (fds : Fds) (ψ' : Fds → Hp → V → List (Addr × HO) → Prop) (at_ : Hp → V → Addr → Prop) : Prop where
  mono : ∀ {H H' v p}, at_ H v p → Ex H H' → at_ H' v p
  get : ∀ {F H v L p}, ψ F v L → (∀ z ∈ L, H z.1 = some z.2) → (L.map (·.1)).Nodup → at_ H v p → ∃ L1, insAt K C p fds F (.ref p) L1 ∧ (∀ z ∈ L1, z ∈ L) ∧ (L1.map (·.1)).Nodup ∧
    ∀ {F' : Hp} {fds' : Fds} {L1' : List (Addr × HO)}, Ex F F' → insAt K C p fds' F' (.ref p) L1' → (L1'.map (·.1)).Nodup → (∀ q, q ∈ L1'.map (·.1) → q ∈ L1.map (·.1) ∨ H q = none) →
      ∃ L', (∀ z ∈ L', z ∈ L1' ∨ (z ∈ L ∧ z.1 ∉ L1.map (·.1))) ∧ (L'.map (·.1)).Nodup ∧ ∀ F'', Ex F' F'' → ψ' fds' F'' v L'
section
variable {K : PySem.W.Frag} {M : Addr → Prop} {F0 H0 F H F' H' : Hp} {σ xs gs : L2.St} {ss ts rs gt ss2 ss3 : List Sl} {ta tb te tc td tl tj tk tv : TE} {tr : TA} {t u tt : TT} {tz tbd tu tw : TS} {r ra rb : Sl} {d da db e : PyData} {ds es ds1 ds2 : List PyData} {Q : VK} {v x y : V} {p q C C' : Addr} {E E' : XK} {z f m : Str} {fs : List (Str × V)} {fds fds' : Fds} {L L0 : List (Addr × HO)} {R : RO} {X : XO} {i : Nat} {b c : Bool} {ψ : Hp → V → List (Addr × HO) → Prop} {ψ' : Fds → Hp → V → List (Addr × HO) → Prop} {at_ : Hp → V → Addr → Prop} {dvs : List V} {W : WX}
theorem TvM.to (h : TvM K tt ss ss2 b) (e : b = c) : TvM K tt ss ss2 c := e ▸ h
theorem EvM.toD (h : EvM K te ss ss2 (.dt da)) (e : da = db) : EvM K te ss ss2 (.dt db) := e ▸ h
theorem EvM.toS (h : EvM K te ss ss2 r) (e : ss2 = ss3) : EvM K te ss ss3 r := e ▸ h
theorem st_asgM {D : Ends} {j : Nat} (S : Sts K M F0 H0 F H (σ ++ gs) (ss ++ gt)) (l : σ.length = ss.length) (h : EvM K te ss ss2 r) (hl2 : ss2.length = ss.length) (na : (ss2 ++ gt).all notAl = true) (nr : notAl r = true) (hi : j < ss2.length)
    (k : ∀ σ' F' H', Sts K M F0 H0 F' H' (σ' ++ gs) (ss2.set j r ++ gt) → σ'.length = (ss2.set j r).length → D.nx σ' H') : tAsg te (gName j) D σ H := by
  refine h M F0 H0 F H σ gs gt l S _ fun v F1 H1 S1 => ?_
  have l2 : (σ ++ gs).length = (ss2 ++ gt).length := by
    have := S.len2
    rw [List.length_append, List.length_append] at this ⊢
    omega
  rw [← List.append_assoc, ← List.append_assoc] at S1
  have S2 := S1.put (i := j) l2 (by rw [List.length_append]; omega) na nr
  rw [List.set_append_left _ _ (by omega), List.set_append_left _ _ hi] at S2
  exact k _ F1 H1 S2 (by rw [List.length_set, List.length_set, l, hl2])
end
end Fh
set_option Elab.async false
set_option linter.all false
set_option maxRecDepth 100000
set_option maxHeartbeats 2000000
namespace Fh
open PySem PySem.Spec PyProof.Rows L2 Evl
open PySem.W (Datum)
def fvN (x : Str × Fv) : Bool := match x.2 with
  | .dt d => noL d
  | .ls ds => noLAll ds
section
variable {K : PySem.W.Frag} {M : Addr → Prop} {F0 H0 F H F' H' : Hp} {σ xs gs : L2.St} {ss ts rs gt ss2 ss3 : List Sl} {ta tb te tc td tl tj tk tv : TE} {tr : TA} {t u tt : TT} {tz tbd tu tw : TS} {r ra rb : Sl} {d da db e : PyData} {ds es ds1 ds2 : List PyData} {Q : VK} {v x y v1 v2 : V} {p q C C' : Addr} {E E' : XK} {z f m : Str} {fs : List (Str × V)} {fds fds' f0 f1 : Fds} {L L0 : List (Addr × HO)} {R : RO} {X : XO} {i : Nat} {b c : Bool} {ψ ψ1 ψ2 : Hp → V → List (Addr × HO) → Prop} {dvs : List V} {W : WX} {o : HO}
theorem FldA.noL {F2 : Hp} (h : FldA K F' fs fds L) (hT : ∀ a xs, SqT K F' a xs → SqT K F2 a xs) (n : fds.all fvN = true) : FldA K F2 fs fds L := by
  induction h with
  | nil => exact .nil
  | dt h t ih =>
    rw [List.all_cons, Bool.and_eq_true] at n
    exact .dt (dp_noL hT _ _ n.1 h) (ih n.2)
  | ls h t ih =>
    rw [List.all_cons, Bool.and_eq_true] at n
    exact .ls (dpAll_noL hT _ _ n.1 h) (ih n.2)
/-! ### more of such expressions -/
/-! ### comprehensions over enumerate -/
theorem lc_turnE {g : TG} {vs : List Nat} {F1 H1 Hx : Hp} {D T : Addr} {out : List PyData} {vv : List V} (p : LcP K M F0 H0 F1 H1 σ xs ss ts D out Hx) (hT : Hx T = none) (l : σ.length = ss.length) (hv : ∀ i ∈ vs, i < ss.length) (na : ss.all notAl = true) (hx : DpAll K F1 vv ds) (hg : GTarget K g vs ss (.tuple ds) ss2)
    (ht : TvR K tt ss2 b) (he : b = true → EvR K te ss2 (.dt e)) (hz : out.length < 1000000) :
    g (.ref T) (wipe σ vs) (upd Hx T (.tup vv)) fun σ2 H2 => wipe σ2 vs = wipe σ vs ∧ tt σ2 H2 fun b' H3 => if b' = true then te σ2 H3 fun y H4 => ∃ acc, H4 D = some (.lst acc) ∧ acc.length < sizeLine ∧ LcP K M F0 H0 F1 H1 σ xs ss ts D (if b then out ++ [e] else out) (upd H4 D (.lst (acc ++ [y]))) else LcP K M F0 H0 F1 H1 σ xs ss ts D (if b then out ++ [e] else out) H3 := by
  obtain ⟨F', g1, fD, hD, S⟩ := p
  have gT := Gr.newI (o := .tup vv) S.fh hT
  have fT := fresh_back S.fh hT
  have hDx : Hx D ≠ none := by
    have dix : (ss ++ (ts ++ [Sl.ls out]))[ss.length + ts.length]? = some (.ls out) := by
      rw [← List.append_assoc, List.getElem?_append_right (by rw [List.length_append]; exact Nat.le_refl _), List.length_append, Nat.sub_self]
      rfl
    have six : (σ ++ (xs ++ [some (.ref D)]))[ss.length + ts.length]? = some (some (.ref D)) := by
      have hlen := S.len
      simp only [List.length_append, List.length_cons, List.length_nil] at hlen
      rw [← List.append_assoc, List.getElem?_append_right (by rw [List.length_append]; omega), List.length_append]
      have e0 : ss.length + ts.length - (σ.length + xs.length) = 0 := by omega
      rw [e0]
      rfl
    obtain ⟨q, ws, a1, b1, c1, d1, k1⟩ := S.get_ls dix
    rw [six] at a1
    cases a1
    rw [c1]
    exact fun z => nomatch z
  have nDT : D ≠ T := fun e => hDx (e ▸ hT)
  -- as a turn from the grown place on
  have p2 : LcP K M F0 H0 (upd F' T (.tup vv)) (upd Hx T (.tup vv)) σ xs ss ts D out (upd Hx T (.tup vv)) → False ∨ True := fun _ => .inr trivial
  have S' := S.grow gT
  have core : ∀ (b' : Bool), b' = b → True := fun _ _ => trivial
  have fD' : upd F' T (.tup vv) D = none := by rw [upd_ne nDT]; exact fD
  have dT : Dp K (upd F' T (.tup vv)) (.ref T) (.tuple ds) := .tup (SqT.of upd_same) (dpAll_ex (g1.ff.trans (Ex.new fT)) _ _ hx)
  have Sb := S'.weak (ss' := ss ++ ((ts ++ [Sl.ls out]).map unAl)) ((Wk.refl ss).app (wk_unAl _))
  obtain ⟨Sw, nw⟩ := Sb.wipes vs l hv na (all_unAl _)
  refine hg M F0 H0 _ _ σ _ _ (.ref T) _ Sw l dT (by rw [List.all_append, nw, all_unAl]; rfl) fun σ2 S2 l2 hw => ⟨hw, ?_⟩
  refine ht M F0 H0 _ _ σ2 _ _ l2 S2 _ fun F3 H3 g3 S3 => ?_
  have dix : (ss ++ (ts ++ [Sl.ls out]))[ss.length + ts.length]? = some (.ls out) := by
    rw [← List.append_assoc, List.getElem?_append_right (by rw [List.length_append]; exact Nat.le_refl _), List.length_append, Nat.sub_self]
    rfl
  have six : (σ ++ (xs ++ [some (.ref D)]))[ss.length + ts.length]? = some (some (.ref D)) := by
    have hlen := S.len
    simp only [List.length_append, List.length_cons, List.length_nil] at hlen
    rw [← List.append_assoc, List.getElem?_append_right (by rw [List.length_append]; omega), List.length_append]
    have e0 : ss.length + ts.length - (σ.length + xs.length) = 0 := by omega
    rw [e0]
    rfl
  have gg := g1.trans gT
  cases b with
  | false =>
    show LcP K M F0 H0 F1 H1 σ xs ss ts D out H3
    refine ⟨F3, gg.trans g3, g3.nw D (by rw [upd_ne nDT]; exact hDx) fD', hD, S'.grow g3⟩
  | true =>
    refine he rfl M F0 H0 F3 H3 σ2 _ _ l2 S3 _ fun w F4 H4 g4 n4 S4 => ?_
    have S5 := S'.grow (g3.trans g4)
    obtain ⟨q, ws, a1, b1, c1, d1, k1⟩ := S5.write dix
    rw [six] at a1
    cases a1
    have hl : (σ2 ++ (xs ++ [some (V.ref D)])).length = (ss2 ++ ((ts ++ [Sl.ls out]).map unAl)).length := S3.len
    have S6 := S4
    rw [← List.append_assoc σ2, ← List.append_assoc ss2] at S6
    obtain ⟨w', e1, e2⟩ := S6.get_dt (i := (ss2 ++ ((ts ++ [Sl.ls out]).map unAl)).length) (by rw [List.getElem?_append_right (Nat.le_refl _), Nat.sub_self]; rfl)
    rw [← hl, last_at] at e1
    cases e1
    refine ⟨ws, b1, by rw [dpAll_len c1, sizeLine_eq]; omega, F4, ((gg.trans (g3.trans g4)).mut hD d1), d1, hD, ?_⟩
    have S7 := k1 (ws ++ [w]) (out ++ [e]) (dpAll_app c1 (.cons e2 .nil))
    have e3 : (ss ++ (ts ++ [Sl.ls out])).set (ss.length + ts.length) (.ls (out ++ [e])) = ss ++ (ts ++ [.ls (out ++ [e])]) := by
      rw [← List.append_assoc, List.set_append_right _ _ (by rw [List.length_append]; exact Nat.le_refl _), List.length_append, Nat.sub_self, List.append_assoc]
      rfl
    rw [e3] at S7
    exact S7
theorem lc_enum {a : Addr} {vv : List V} {g : TG} {vs : List Nat} {H1 : Hp} {D : Addr} {Qd : Hp → Prop} (Pv : Nat → Hp → Prop) (h0 : Pv 0 (upd H1 D (.lst []))) (hl : ∀ i H, Pv i H → SqL K H a vv)
    (hs : ∀ i x H T, vv[i]? = some x → Pv i H → H T = none → g (.ref T) (wipe σ vs) (upd H T (.tup [.int (i : Nat), x])) fun σ2 H2 => wipe σ2 vs = wipe σ vs ∧ tt σ2 H2 fun b H3 =>
      if b = true then te σ2 H3 fun y H4 => ∃ acc, H4 D = some (.lst acc) ∧ acc.length < sizeLine ∧ Pv (i + 1) (upd H4 D (.lst (acc ++ [y]))) else Pv (i + 1) H3) (hd : ∀ H, Pv vv.length H → Qd H) :
    ∃ W : Nat → Nat → Hp → Prop, (∃ m, W 0 m (upd H1 D (.lst []))) ∧ ∀ i m H, W i m H →
      ((Ite K a).stop i H ∧ Qd H) ∨ ((Ite K a).go i H ∧ ∃ Nx : Hp → Prop, (∀ H', Nx H' → ∃ m', m' < m ∧ W (i + 1) m' H') ∧ ∀ x H', (Ite K a).yld i H x H' → g x (wipe σ vs) H' fun σ2 H2 => wipe σ2 vs = wipe σ vs ∧ tt σ2 H2 fun b H3 =>
        if b = true then te σ2 H3 fun y H4 => ∃ acc, H4 D = some (.lst acc) ∧ acc.length < sizeLine ∧ Nx (upd H4 D (.lst (acc ++ [y]))) else Nx H3) := by
  refine ⟨fun i m H => m = vv.length - i ∧ i ≤ vv.length ∧ Pv i H, ⟨vv.length, by simp, Nat.zero_le _, h0⟩, ?_⟩
  rintro i m H ⟨rfl, hi, p⟩
  by_cases hlt : i < vv.length
  · refine .inr ⟨⟨vv, vv[i], hl i H p, by simp [hlt]⟩, Pv (i + 1), fun H' p' => ⟨vv.length - (i + 1), by omega, rfl, hlt, p'⟩, fun x H' y => ?_⟩
    obtain ⟨T, w, rfl, hT, rfl, hw⟩ := y
    exact hs i w H T (hw vv (hl i H p)) p hT
  · have e : i = vv.length := by omega
    subst e
    exact .inl ⟨⟨vv, hl _ H p, Nat.le_refl _⟩, hd H p⟩
/-- [.. for k, d in enumerate(list) if ..] -/
theorem ev_lcE {g : TG} {vs : List Nat} (f : Nat → Option PyData) (h : AvR K tr ss [.dt (.list ds)]) (na : ss.all notAl = true) (hv : ∀ i ∈ vs, i < ss.length) (hz : ds.length ≤ 1000000)
    (hs : ∀ (k : Nat) (d : PyData), ds[k]? = some d → ∃ ss2, GTarget K g vs ss (.tuple [.int (k : Int), d]) ss2 ∧ TvR K tt ss2 (f k).isSome ∧ ((f k).isSome = true → EvR K te ss2 (.dt ((f k).getD .none)))) : EvR K (tLc (iEnum K tr) g tt te vs) ss (.ls (got f ds.length)) := fun M F0 H0 F H σ xs ts l S Q q => by
  refine h M F0 H0 F H σ xs ts l S _ fun ws F1 H1 hl1 g1 S1 => ?_
  have ha := S1.argsD (ds := [.list ds]) S.len2 hl1 rfl
  obtain ⟨v, rfl, dv⟩ : ∃ v, ws = [v] ∧ Dp K F1 v (.list ds) := by
    cases ha with
    | cons a b =>
      cases b
      exact ⟨_, rfl, a⟩
  obtain ⟨a, vv, rfl, sq, da⟩ := rdL_of dv (Ex.refl F1)
  have S2 := S1.backA S.len2
  refine ⟨a, vv, rfl, ex_l S1.fh sq, fun D hD => ?_⟩
  have fD := fresh_back S1.fh hD
  refine lc_enum (vv := vv) (fun k H' => LcP K M F0 H0 F1 H1 σ xs ss ts D (got f k) H') ⟨F1, Gr.newM S1.fh hD, fD, hD, ?_⟩ (fun i H' p => ?_) (fun k x H' T hk p hT => ?_) fun H' p => ?_
  · have := S2.push_ls (ds := []) (vs := []) (Ex.new hD) hD upd_same .nil
    rw [List.append_assoc, List.append_assoc] at this
    exact this
  · obtain ⟨F', g', _, _, _⟩ := p
    exact ex_l (g'.ff.trans g'.fh) sq
  · obtain ⟨d, e1, e2⟩ := dpAll_get' da hk
    obtain ⟨ss2, t1, t2, t3⟩ := hs k d e1
    have := lc_turnE (g := g) (tt := tt) (te := te) (b := (f k).isSome) (e := (f k).getD .none) p hT l hv na (.cons (.int (k : Int)) (.cons e2 .nil)) t1 t2 t3 (by have := got_len f k; have := (List.getElem?_eq_some_iff.mp e1).1; omega)
    rw [got_succ]
    exact this
  · obtain ⟨F', g', f', _, S'⟩ := p
    rw [dpAll_len da] at S'
    exact q _ F' H' (g1.trans g') ⟨D, rfl, fresh_back g1.hh hD⟩ S'
/-! ### a list whose last thing is put in before it stays -/
end
end Fh
set_option Elab.async false
set_option linter.all false
set_option maxRecDepth 100000
set_option maxHeartbeats 2000000
namespace Fh
open PySem PySem.Spec PyProof.Rows L2 Evl
open PySem.W (Datum)
section
variable {K : PySem.W.Frag} {M : Addr → Prop} {F0 H0 F H F' H' : Hp} {σ xs gs : L2.St} {ss ts rs gt ss2 ss3 : List Sl} {ta tb te tc td tl tj tk tv : TE} {tr : TA} {t u tt : TT} {tz tbd tu tw : TS} {r ra rb : Sl} {d da db e : PyData} {ds es ds1 ds2 : List PyData} {Q : VK} {v x y v1 v2 : V} {p q C C' : Addr} {i : Nat} {b c : Bool}
theorem q_asgM {D : Ends} {j : Nat} (S : Sts K M F0 H0 F H (σ ++ gs) (ss ++ gt)) (l : σ.length = ss.length) (h : EvM K te ss ss2 r) (hl2 : ss2.length = ss.length) (na : (ss2 ++ gt).all notAl = true) (nr : notAl r = true) (hi : j < ss2.length)
    (k : ∀ σ' F' H', Sts K M F0 H0 F' H' (σ' ++ gs) (ss2.set j r ++ gt) → σ'.length = (ss2.set j r).length → tz D σ' H') : tSeq (tAsg te (gName j)) tz D σ H := st_asgM (D := { D with nx := tz D }) S l h hl2 na nr hi k
end
end Fh
set_option Elab.async false
set_option linter.all false
set_option maxRecDepth 100000
set_option maxHeartbeats 2000000
namespace Fh
open PySem PySem.Spec PyProof.Rows L2 Evl
open PySem.W (Datum)
section
variable {K : PySem.W.Frag} {M : Addr → Prop} {F0 H0 F H F' H' : Hp} {σ xs gs : L2.St} {ss ts rs gt ss2 ss3 : List Sl} {ta tb te tc td tl tj tk tv : TE} {tr t0 : TA} {t u tt : TT} {tz tbd tu tw : TS} {r ra rb : Sl} {d da db e : PyData} {ds es ds1 ds2 es2 : List PyData} {Q : VK} {v x y v1 v2 : V} {p q C C' : Addr} {E E' E2 : XK} {z f m : Str} {fs : List (Str × V)} {fds fds' f0 f1 f2 : Fds} {L L0 : List (Addr × HO)} {R R2 : RO} {X X2 : XO} {i : Nat} {b c : Bool} {dvs dvs2 : List V} {W : WX} {sp : Sp}
/-! ### what raises within an expression, in a try -/
end
end Fh
set_option Elab.async false
set_option linter.all false
set_option maxRecDepth 100000
set_option maxHeartbeats 2000000
namespace Fh
open PySem PySem.Spec PyProof.Rows L2 Evl
open PySem.W (Datum)
/-! ### a list of our own whose tuples hold lists of our own -/
abbrev Pc := (Int × Int) × List (Int × Int)
def pcD (p : Pc) : PyData := .tuple [.int p.1.1, .int p.1.2, .list (p.2.map iiD)]
inductive PcA (K : PySem.W.Frag) (F : Hp) : List V → List Pc → List (Addr × HO) → Prop
  | nil : PcA K F [] [] []
  | cons {t m : Addr} {us vs : List V} {a b : Int} {ms : List (Int × Int)} {P : List Pc} {L : List (Addr × HO)} (h1 : F t = some (.tup [.int a, .int b, .ref m])) (h2 : DpAll K F us (ms.map iiD)) (r : PcA K F vs P L) : PcA K F (.ref t :: vs) (((a, b), ms) :: P) ((m, .lst us) :: L)
section
variable {K : PySem.W.Frag} {M : Addr → Prop} {F0 H0 F H F' H' : Hp} {σ xs gs : L2.St} {ss ts rs gt ss2 zs : List Sl} {ta tb te tc td tl : TE} {tr : TA} {t u tt : TT} {tz tbd : TS} {r ra rb : Sl} {d da db e : PyData} {ds es ds1 ds2 : List PyData} {Q : VK} {v x y : V} {p q : Addr} {P P' : List Pc} {vs ws us : List V} {L L0 : List (Addr × HO)} {tls : List PyData}
theorem PcA.ex (e : Ex F F') (h : PcA K F vs P L) : PcA K F' vs P L := by
  induction h with
  | nil => exact .nil
  | cons h1 h2 _ ih => exact .cons (e _ _ h1) (dpAll_ex e _ _ h2) ih
theorem PcA.len (h : PcA K F vs P L) : vs.length = P.length := by
  induction h with
  | nil => rfl
  | cons _ _ _ ih => rw [List.length_cons, List.length_cons, ih]
theorem PcA.dp (h : PcA K F vs P L) (e : Ex F F') (at_ : ∀ p o, (p, o) ∈ L → F' p = some o) : DpAll K F' vs (P.map pcD) := by
  induction h with
  | nil => exact .nil
  | cons h1 h2 _ ih => exact .cons (.tup (SqT.of (e _ _ h1)) (.cons (.int _) (.cons (.int _) (.cons (.lst (SqL.of (at_ _ _ List.mem_cons_self)) (dpAll_ex e _ _ h2)) .nil)))) (ih fun p o hp => at_ p o (List.mem_cons_of_mem _ hp))
theorem PcA.lists (h : PcA K F vs P L) : ∀ p o, (p, o) ∈ L → notTup (some o) = true := by
  induction h with
  | nil => intro p o hp; cases hp
  | cons h1 h2 _ ih =>
    intro p o hp
    rcases List.mem_cons.mp hp with hp | hp
    · cases hp
      rfl
    · exact ih p o hp
theorem PcA.at {k : Nat} (h : PcA K F vs P L) (hv : vs[k]? = some v) : ∃ t m us a b ms A B, v = .ref t ∧ F t = some (.tup [.int a, .int b, .ref m]) ∧ P[k]? = some ((a, b), ms) ∧ L = A ++ (m, .lst us) :: B ∧ DpAll K F us (ms.map iiD) ∧
    ∀ us' ms' F', Ex F F' → DpAll K F' us' (ms'.map iiD) → PcA K F' vs (P.set k ((a, b), ms')) (A ++ (m, .lst us') :: B) := by
  induction h generalizing k with
  | nil => simp at hv
  | @cons t m us vs a b ms P L h1 h2 r ih =>
    cases k with
    | zero =>
      cases Option.some.inj hv
      exact ⟨t, m, us, a, b, ms, [], L, rfl, h1, rfl, rfl, h2, fun us' ms' F' e d => .cons (e _ _ h1) d (r.ex e)⟩
    | succ k =>
      obtain ⟨t', m', us', a', b', ms', A, B, e1, e2, e3, e4, e5, w⟩ := ih (k := k) (by simpa using hv)
      exact ⟨t', m', us', a', b', ms', (m, .lst us) :: A, B, e1, e2, by simpa using e3, by rw [e4]; rfl, e5, fun us2 ms2 F' e d => .cons (e _ _ h1) (dpAll_ex e _ _ h2) (w us2 ms2 F' e d)⟩
end
end Fh
set_option Elab.async false
set_option linter.all false
set_option maxRecDepth 100000
set_option maxHeartbeats 2000000
/-! sorted(rows, key=lambda row: ..), the lambda with a captured whole number -/
namespace Fh
open PySem PySem.Spec PyProof.Rows L2 Evl LamX PySem.Calls
/-! ### what an expression gives over all heaps that keep h -/
def Kp (h h' : Heap) : Prop := ∀ b o, h.get? b = some o → h'.get? b = some o
theorem Kp.trans {a b c : Heap} (x : Kp a b) (y : Kp b c) : Kp a c := fun p o e => y p o (x p o e)
def LE (prog : Program) (w : World) (A : Around) (env : Env) (h : Heap) (e : Expr) (Φ : Value → Heap → Prop) : Prop :=
  ∀ (s : Shared) (E Q : Value → Shared → Prop), Kp h s.heap → (∀ v h' tk, Kp s.heap h' → Φ v h' → Q v { s with heap := h', toks := tk }) → wpAny (model prog w) A (eval e env) Q E s
section
variable {prog : Program} {w : World} {A : Around} {env : Env} {h : Heap} {e a b : Expr} {i j r : Int} {pos cpos p1 : Pos}
end
section
variable {prog : Program} {w : World} {A : Around} {env : Env} {h : Heap} {x : Str} {pos : Pos}
theorem LE.mono {e : Expr} {Φ Ψ : Value → Heap → Prop} (a : LE prog w A env h e Φ) (g : ∀ v h', Φ v h' → Ψ v h') : LE prog w A env h e Ψ := fun s E Q kp q => a s E Q kp fun v h' tk k p => q v h' tk k (g v h' p)
end
/-! ### the order of (whole number, text) -/
/-! ### sorted(rows, key=lambda row: (0 - row[1][0] * (below // row[1][1]), row[0])) -/
structure LamS1 (sc scope : Scope) (x : Str) : Prop where
  kind : scope.kind = .function
  co : scope.isCoroutine = false
  gen : scope.isGenerator = false
  own : ∀ y ∈ scope.names, y.2 ≠ .cell
  loc : scope.names.lookup x = some .local
  free : ∀ y ∈ scope.names, y.2 = .free → sc.names.lookup y.1 = some .cell ∨ sc.names.lookup y.1 = some .free
theorem LamS1.has {X : Cx} {scope : Scope} {x : Str} (L : LamS1 X.env.scope scope x) (ok : X.Ok) : ∀ y ∈ scope.names, y.2 = .free → ∃ c, X.env.cells.lookup y.1 = some c := fun y hy e => by
  rcases L.free y hy e with k | k
  · exact ok.has _ (.inl k)
  · exact ok.has _ (.inr k)
/-! ### the lambda is made -/
end Fh
set_option Elab.async false
set_option linter.all false
set_option maxRecDepth 100000
set_option maxHeartbeats 2000000
/-! a table of code objects as a thing beside the slots; calls that grow it -/
namespace Fh
open PySem PySem.Spec PyProof.Rows L2 Evl LamX
open PySem.W (EachIs)
/-- the table holds code objects of the name q alone -/
def Codes (q : Str) (F : Hp) (ps : Array Value) : Prop := TriplesOk ps.toList ∧ ∀ pos cv, codeAmong pos ps.toList = some cv → ∃ c, cv = .ref c ∧ F c = some (CodeO c q)
theorem Codes.ex {q : Str} {F F' : Hp} {ps : Array Value} (h : Codes q F ps) (e : Ex F F') : Codes q F' ps := ⟨h.1, fun pos cv hc => by
  obtain ⟨c, e1, e2⟩ := h.2 pos cv hc
  exact ⟨c, e1, e _ _ e2⟩⟩
def tabAt (P : Addr) (q : Str) : Hp → V → List (Addr × HO) → Prop := fun F v L => v = .ref P ∧ ∃ ps : Array Value, L = [(P, .tbl ps)] ∧ Codes q F ps
theorem tabAt.ex {P : Addr} {q : Str} {F F' : Hp} {v : V} {L : List (Addr × HO)} (h : tabAt P q F v L) (e : Ex F F') : tabAt P q F' v L := by
  obtain ⟨a, ps, b, c⟩ := h
  exact ⟨a, ps, b, c.ex e⟩
section
variable {K : PySem.W.Frag} {M : Addr → Prop} {F0 H0 F H F' H' : Hp} {σ xs gs : L2.St} {ss ts rs gt ss2 : List Sl} {ta tb te tc tl : TE} {tr : TA} {t u tt : TT} {tz : TS} {r ra rb : Sl} {d da db e : PyData} {ds es : List PyData} {Q : VK} {v x y : V} {P : Addr} {q : Str} {E : XK}
/-! ### the judgements -/
def EvT (K : PySem.W.Frag) (P : Addr) (q : Str) (te : TE) (ss : List Sl) (r : Sl) : Prop := ∀ (M : Addr → Prop) (F0 H0 F H : Hp) (σ xs : L2.St) (ts : List Sl) (g : Nat), σ.length = ss.length → ts[g]? = some (.mu (tabAt P q)) → Sts K M F0 H0 F H (σ ++ xs) (ss ++ ts) →
  ∀ Q : VK, (∀ v F' H', Sts K M F0 H0 F' H' (σ ++ (xs ++ [some v])) (ss ++ (ts ++ [r])) → Q v H') → te σ H Q
def TvT (K : PySem.W.Frag) (P : Addr) (q : Str) (tt : TT) (ss : List Sl) (b : Bool) : Prop := ∀ (M : Addr → Prop) (F0 H0 F H : Hp) (σ xs : L2.St) (ts : List Sl) (g : Nat), σ.length = ss.length → ts[g]? = some (.mu (tabAt P q)) → Sts K M F0 H0 F H (σ ++ xs) (ss ++ ts) →
  ∀ Q : Bool → Hp → Prop, (∀ F' H', Sts K M F0 H0 F' H' (σ ++ xs) (ss ++ ts) → Q b H') → tt σ H Q
theorem TvT.to {a b : Bool} (h : TvT K P q t ss a) (e : a = b) : TvT K P q t ss b := e ▸ h
theorem EvT.to {a b : Sl} (h : EvT K P q te ss a) (e : a = b) : EvT K P q te ss b := e ▸ h
theorem Sts.pick2g {k : Nat} {ψ : Hp → V → List (Addr × HO) → Prop} (S : Sts K M F0 H0 F H (σ ++ [some x]) (ss ++ [r])) (l : σ.length = ss.length) (h : ss[k]? = some (.mu ψ)) (hv : σ[k]? = some (some v)) (nr : notAl r = true) : Sts K M F0 H0 F H [some v, some x] [.mu ψ, r] := by
  obtain ⟨g0, _, L, O⟩ := S
  have h0 := (List.getElem?_eq_some_iff.mp h).1
  have hl : (ss ++ [r]).length = ss.length + 1 := by rw [List.length_append]; rfl
  have a0 : (ss ++ [r])[k]? = some (.mu ψ) := by rw [List.getElem?_append_left h0]; exact h
  have al : (ss ++ [r])[ss.length]? = some r := by rw [List.getElem?_append_right (Nat.le_refl _), Nat.sub_self]; rfl
  have v0 : (σ ++ [some x])[k]? = some (some v) := by rw [List.getElem?_append_left (by omega)]; exact hv
  have vl : (σ ++ [some x])[ss.length]? = some (some x) := by rw [← l]; exact last_at
  let g : Nat → Nat := fun j => if j = 0 then k else ss.length
  have gs : ∀ {j s}, ([Sl.mu ψ, r] : List Sl)[j]? = some s → (ss ++ [r])[g j]? = some s ∧ ([some v, some x] : L2.St)[j]? = (σ ++ [some x])[g j]? ∧ notAl s = true := fun {j s} hs => by
    match j, hs with
    | 0, hs =>
      cases hs
      exact ⟨a0, v0.symm, rfl⟩
    | 1, hs =>
      cases hs
      exact ⟨al, vl.symm, nr⟩
    | j + 2, hs => simp at hs
  have gl : ∀ {j}, g j < (ss ++ [r]).length := fun {j} => by
    show (if j = 0 then k else ss.length) < _
    split <;> omega
  refine ⟨g0, rfl, fun j => L (g j), fun j s hs => ?_, fun j s q o hs hq => ?_, fun j hj => O.nd _ gl, fun i j q hi hj h1 h2 => ?_⟩
  · obtain ⟨b1, b2, b3⟩ := gs hs
    exact (O.ok _ s b1).move b3 b2
  · obtain ⟨b1, b2, b3⟩ := gs hs
    exact O.at_ _ s q o b1 hq
  · have e := O.ap (g i) (g j) q gl gl h1 h2
    have hi' : i < 2 := hi
    have hj' : j < 2 := hj
    show i = j
    have e' : (if i = 0 then k else ss.length) = (if j = 0 then k else ss.length) := e
    by_cases ei : i = 0
    · by_cases ej : j = 0
      · rw [ei, ej]
      · rw [if_pos ei, if_neg ej] at e'
        omega
    · by_cases ej : j = 0
      · rw [if_neg ei, if_pos ej] at e'
        omega
      · omega
/-! ### put in order -/
theorem sqT_ex {H H' : Hp} {a : Addr} {vs : List V} (e : Ex H H') (h : SqT K H a vs) : SqT K H' a vs := by
  rcases h with (h | ⟨o, h⟩) | h
  · exact .inl (.inl (e _ _ h))
  · exact .inl (.inr ⟨o, e _ _ h⟩)
  · exact .inr h
end
end Fh
set_option Elab.async false
set_option linter.all false
set_option maxRecDepth 100000
set_option maxHeartbeats 2000000
/-! insert, < of texts, a def whose code object is told -/
namespace Fh
open PySem PySem.Spec PyProof.Rows L2 Evl LamX
def rIns : V → List V → Hp → VK → Prop := fun x vs H Q => ∃ (l : Addr) (xs : List V) (i : Int) (y : V), x = .ref l ∧ vs = [.int i, y] ∧ H l = some (.lst xs) ∧ xs.length < sizeLine ∧ 0 ≤ i ∧ i < 2 ^ 63 ∧ Q .non (upd H l (.lst (xs.take i.toNat ++ [y] ++ xs.drop i.toNat)))
theorem mt_insertR {X : Cx} : MtR X "list.insert" rIns := mt_insert
section
variable {P : Program} {w : World} {K : PySem.W.Frag} {mg : Str → Option Value} {base : Heap} {M : Addr → Prop} {F0 H0 F H F' H' : Hp} {σ xs gs : L2.St} {ss ts rs gt ss2 : List Sl} {ta tb te tc tl : TE} {tr : TA} {t u tt : TT} {tz : TS} {r ra rb : Sl} {d da db e : PyData} {ds es : List PyData} {Q : VK} {v x y : V} {E : XK} {a b : Str}
/-- xs.insert(i, d) -/
theorem st_ins {D : Ends} {i : Nat} {z : Int} (S : Sts K M F0 H0 F H (σ ++ gs) (ss ++ gt)) (l : σ.length = ss.length) (h : ss[i]? = some (.ls ds)) (hz : EvR K tb ss (.dt (.int z))) (he : EvR K te ss (.dt d)) (hl : ds.length < 1000000) (h0 : 0 ≤ z) (h1 : z < 2 ^ 60)
    (k : ∀ F' H', Sts K M F0 H0 F' H' (σ ++ gs) (ss.set i (.ls (ds.take z.toNat ++ [d] ++ ds.drop z.toNat)) ++ gt) → σ.length = (ss.set i (.ls (ds.take z.toNat ++ [d] ++ ds.drop z.toNat))).length → D.nx σ H') : tDrop (tBM K "list" rIns (tVar i) (tCons tb (tCons te tNil))) D σ H := by
  have hi := (List.getElem?_eq_some_iff.mp h).1
  have h' : (ss ++ gt)[i]? = some (.ls ds) := by rw [List.getElem?_append_left hi]; exact h
  obtain ⟨p, vs, a, b, c, f, zz⟩ := S.get_ls h'
  have a2 := a
  rw [List.getElem?_append_left (by omega)] at a2
  refine ⟨.ref p, a2, .inl ⟨rfl, _, SqL.of c⟩, ?_⟩
  refine hz M F0 H0 F H σ gs gt l S _ fun vz Fz Hz gz nz Sz => ?_
  have l2 := S.len2
  have ez : vz = .int z := (Sz.lastV l2 (d := .int z) rfl).int
  subst ez
  have S0 := Sz.back l2
  refine he M F0 H0 Fz Hz σ gs gt l S0 _ fun v F1 H1 g1 n1 S1 => ?_
  have S2 := S1.back l2
  obtain ⟨q, ws, a1, b1, c1, d1, k1⟩ := S2.write h'
  rw [a] at a1
  cases a1
  rw [← List.append_assoc, ← List.append_assoc] at S1
  obtain ⟨w, e1, e2⟩ := S1.get_dt (i := (ss ++ gt).length) (by rw [List.getElem?_append_right (Nat.le_refl _), Nat.sub_self]; rfl)
  rw [← l2, last_at] at e1
  cases e1
  refine ⟨p, ws, z, v, rfl, rfl, b1, ?_, h0, by omega, ?_⟩
  · rw [dpAll_len c1, sizeLine_eq]
    omega
  · have S3 := k1 (ws.take z.toNat ++ [v] ++ ws.drop z.toNat) (ds.take z.toNat ++ [d] ++ ds.drop z.toNat) (dpAll_app (dpAll_app (dpAll_take _ c1) (.cons e2 .nil)) (dpAll_drop _ c1))
    rw [List.set_append_left _ _ hi] at S3
    exact k F1 _ S3 (by rw [List.length_set, l])
end
end Fh
set_option Elab.async false
set_option linter.all false
set_option maxRecDepth 100000
set_option maxHeartbeats 2000000
/-! slots put in another order; a def that owns two things of its caller -/
namespace Fh
open PySem PySem.Spec PyProof.Rows L2 Evl LamX
open PySem.W (Datum)
section
variable {K : PySem.W.Frag} {M : Addr → Prop} {F0 H0 F H F' H' : Hp} {σ xs gs : L2.St} {ss ts rs gt ss2 ss3 : List Sl} {ta tb te tc td tl tj tk tv : TE} {tr : TA} {t u tt : TT} {tz tbd tu tw : TS} {r ra rb : Sl} {d da db e : PyData} {ds es ds1 ds2 : List PyData} {Q : VK} {v x y : V} {p q C : Addr} {E E' : XK}
/-! ### another order -/
def rrL (L : Nat → List (Addr × HO)) (g : Nat → Nat) (ss' : List Sl) (j : Nat) : List (Addr × HO) := match ss'[j]? with
  | some .no => []
  | some _ => L (g j)
  | none => []
theorem rrL_no {L : Nat → List (Addr × HO)} {g : Nat → Nat} {ss' : List Sl} {j : Nat} (h : ss'[j]? = some .no) : rrL L g ss' j = [] := by
  unfold rrL
  rw [h]
theorem rrL_of {L : Nat → List (Addr × HO)} {g : Nat → Nat} {ss' : List Sl} {j : Nat} {s : Sl} (h : ss'[j]? = some s) (n : s ≠ .no) : rrL L g ss' j = L (g j) := by
  unfold rrL
  rw [h]
  cases s <;> first | rfl | exact _root_.absurd rfl n
theorem Sts.rearr (S : Sts K M F0 H0 F H σ ss) (σ' : L2.St) (ss' : List Sl) (g : Nat → Nat) (l : σ'.length = ss'.length) (h : ∀ j s, ss'[j]? = some s → s = .no ∨ (notAl s = true ∧ ss[g j]? = some s ∧ σ'[j]? = σ[g j]?))
    (inj : ∀ i j s t, ss'[i]? = some s → ss'[j]? = some t → s ≠ .no → t ≠ .no → g i = g j → i = j) : Sts K M F0 H0 F H σ' ss' := by
  obtain ⟨g0, l0, L, O⟩ := S
  have isno : ∀ s : Sl, s = .no ∨ s ≠ .no := fun s => Classical.em _
  refine ⟨g0, l, rrL L g ss', fun j s hs => ?_, fun j s a o hs ha => ?_, fun j hj => ?_, fun i j a hi hj h1 h2 => ?_⟩
  · rcases isno s with rfl | n
    · exact rrL_no hs
    · rcases h j s hs with e | ⟨na, e1, e2⟩
      · exact _root_.absurd e n
      · rw [rrL_of hs n]
        exact (O.ok _ s e1).move na e2
  · rcases isno s with rfl | n
    · rw [rrL_no hs] at ha
      cases ha
    · rcases h j s hs with e | ⟨na, e1, e2⟩
      · exact _root_.absurd e n
      · rw [rrL_of hs n] at ha
        exact O.at_ _ s a o e1 ha
  · have hs := List.getElem?_eq_getElem hj
    rcases isno ss'[j] with e | n
    · rw [e] at hs
      rw [rrL_no hs]
      exact List.Pairwise.nil
    · rcases h j _ hs with e | ⟨na, e1, e2⟩
      · exact _root_.absurd e n
      · rw [rrL_of hs n]
        exact O.nd _ (List.getElem?_eq_some_iff.mp e1).1
  · have hs := List.getElem?_eq_getElem hi
    have ht := List.getElem?_eq_getElem hj
    rcases isno ss'[i] with e | n1
    · rw [e] at hs
      rw [rrL_no hs] at h1
      cases h1
    · rcases isno ss'[j] with e | n2
      · rw [e] at ht
        rw [rrL_no ht] at h2
        cases h2
      · rw [rrL_of hs n1] at h1
        rw [rrL_of ht n2] at h2
        rcases h i _ hs with e | ⟨_, e1, _⟩
        · exact _root_.absurd e n1
        · rcases h j _ ht with e | ⟨_, e2, _⟩
          · exact _root_.absurd e n2
          · exact inj i j _ _ hs ht n1 n2 (O.ap _ _ a (List.getElem?_eq_some_iff.mp e1).1 (List.getElem?_eq_some_iff.mp e2).1 h1 h2)
/-! ### two things in one -/
/-! ### the call, by any view -/
theorem Sts.callV {ψ : Hp → V → List (Addr × HO) → Prop} {i : Nat} (S : Sts K M F0 H0 F H σ ss) (h : ss[i]? = some (.mu ψ)) : ∃ v L, σ[i]? = some (some v) ∧ (∀ F', Ex F F' → ψ F' v L) ∧ (∀ z ∈ L, H z.1 = some z.2 ∧ F z.1 = none) ∧ (L.map (·.1)).Nodup ∧
    ∀ (L1 : List (Addr × HO)) (v0 : V) (ψc ψ' : Hp → V → List (Addr × HO) → Prop) (r : Sl) (x : V) (F' H' : Hp), (∀ z ∈ L1, z ∈ L) → notMu r = true → Sts K (MO L1) F H F' H' [some v0, some x] [.mu ψc, r] →
      (∀ L1', (∀ F'', Ex F' F'' → ψc F'' v0 L1') → (L1'.map (·.1)).Nodup → (∀ q, q ∈ L1'.map (·.1) → q ∈ L1.map (·.1) ∨ H q = none) →
        ∃ L', (∀ z ∈ L', z ∈ L1' ∨ (z ∈ L ∧ z.1 ∉ L1.map (·.1))) ∧ (L'.map (·.1)).Nodup ∧ ∀ F'', Ex F' F'' → ψ' F'' v L') → Sts K M F0 H0 F' H' (σ ++ [some x]) (ss.set i (.mu ψ') ++ [r]) := by
  obtain ⟨g0, l, L, O⟩ := S
  obtain ⟨v, a, b⟩ := O.ok i _ h
  have hi := (List.getElem?_eq_some_iff.mp h).1
  refine ⟨v, L i, a, b, fun z hz => ⟨(O.at_ i _ z.1 z.2 h hz).1, (O.at_ i _ z.1 z.2 h hz).2.1⟩, O.nd i hi, fun L1 v0 ψc ψ' r x F' H' hsub nr Sc hψ => ?_⟩
  have nra : notAl r = true := by cases r <;> first | rfl | cases nr
  have nrm : isMu r = false := by cases r <;> first | rfl | cases nr
  obtain ⟨gc, _, Lc, Oc⟩ := Sc
  have subK : ∀ {q}, q ∈ L1.map (·.1) → q ∈ (L i).map (·.1) := fun {q} hq => by
    obtain ⟨w, hw, rfl⟩ := List.mem_map.mp hq
    exact List.mem_map.mpr ⟨w, hsub w hw, rfl⟩
  obtain ⟨w, c1, c2⟩ := Oc.ok 0 _ rfl
  have ew : w = v0 := by cases c1; rfl
  subst ew
  have at0 : ∀ {q u}, (q, u) ∈ Lc 0 → H' q = some u ∧ F' q = none ∧ (q ∈ L1.map (·.1) ∨ H q = none) := fun {q u} hq => by
    obtain ⟨x1, x2, x3⟩ := Oc.at_ 0 _ q u rfl hq
    exact ⟨x1, x2, x3.symm.imp_left fun z => z.1⟩
  have key0 : ∀ {q}, q ∈ (Lc 0).map (·.1) → q ∈ L1.map (·.1) ∨ H q = none := fun {q} hq => by
    obtain ⟨⟨q', u⟩, hz, rfl⟩ := List.mem_map.mp hq
    exact (at0 hz).2.2
  obtain ⟨Ln, m1, m2, m3⟩ := hψ (Lc 0) c2 (Oc.nd 0 (by show 0 < 2; decide)) fun q hq => key0 hq
  have atr : ∀ {q u}, (q, u) ∈ Lc 1 → H' q = some u ∧ F' q = none ∧ H q = none := fun {q u} hq => by
    obtain ⟨x1, x2, x3⟩ := Oc.at_ 1 _ q u rfl hq
    exact ⟨x1, x2, x3.resolve_right fun z => by rw [nrm] at z; cases z.2⟩
  have okr := Oc.ok 1 _ rfl
  have hlen : (ss.set i (Sl.mu ψ') ++ [r]).length = ss.length + 1 := by rw [List.length_append, List.length_set]; rfl
  have kp : ∀ {j s q u}, ss[j]? = some s → (q, u) ∈ L j → q ∉ L1.map (·.1) → H' q = some u ∧ F' q = none := fun {j s q u} hs hq ne => by
    obtain ⟨x1, x2, _⟩ := O.at_ j s q u hs hq
    exact ⟨gc.hh q u ne x1, gc.nw q (by rw [x1]; exact fun z => nomatch z) x2⟩
  have cases3 : ∀ {j}, j < (ss.set i (Sl.mu ψ') ++ [r]).length → j = i ∨ (j ≠ i ∧ j < ss.length) ∨ j = ss.length := fun {j} hj => by
    rw [hlen] at hj
    omega
  have get3 : ∀ {j s}, (ss.set i (Sl.mu ψ') ++ [r])[j]? = some s → (j = i ∧ s = .mu ψ') ∨ (j ≠ i ∧ j < ss.length ∧ ss[j]? = some s) ∨ (j = ss.length ∧ s = r) := fun {j s} hs => by
    have hj := (List.getElem?_eq_some_iff.mp hs).1
    rcases cases3 hj with rfl | ⟨ne, hj⟩ | rfl
    · rw [List.getElem?_append_left (by rw [List.length_set]; exact hi), List.getElem?_set_self hi] at hs
      exact .inl ⟨rfl, (Option.some.inj hs).symm⟩
    · rw [List.getElem?_append_left (by rw [List.length_set]; exact hj), List.getElem?_set_ne (Ne.symm ne)] at hs
      exact .inr (.inl ⟨ne, hj, hs⟩)
    · rw [List.getElem?_append_right (by rw [List.length_set]; exact Nat.le_refl _), List.length_set, Nat.sub_self] at hs
      exact .inr (.inr ⟨rfl, (Option.some.inj hs).symm⟩)
  have ne_i : ss.length ≠ i := by omega
  let L' : Nat → List (Addr × HO) := fun j => if j = i then Ln else if j = ss.length then Lc 1 else L j
  have Li : L' i = Ln := if_pos rfl
  have Ll : L' ss.length = Lc 1 := by
    show (if ss.length = i then _ else if ss.length = ss.length then Lc 1 else _) = _
    rw [if_neg ne_i, if_pos rfl]
  have Lj : ∀ {j}, j ≠ i → j < ss.length → L' j = L j := fun {j} ne hj => by
    show (if j = i then _ else if j = ss.length then Lc 1 else L j) = _
    rw [if_neg ne, if_neg (by omega)]
  have inH : ∀ {j q}, j < ss.length → q ∈ (L j).map (·.1) → H q ≠ none := fun {j q} hj hq => by
    obtain ⟨⟨q', u⟩, hz, rfl⟩ := List.mem_map.mp hq
    rw [(O.at_ j _ q' u (List.getElem?_eq_getElem hj) hz).1]
    exact fun z => nomatch z
  -- where a key of the new list of slot i comes from
  have keyn : ∀ {q}, q ∈ Ln.map (·.1) → (q ∈ (Lc 0).map (·.1) ∧ H q = none) ∨ q ∈ (L i).map (·.1) := fun {q} hq => by
    obtain ⟨⟨q', u⟩, hz, rfl⟩ := List.mem_map.mp hq
    rcases m1 _ hz with h1 | ⟨h1, _⟩
    · rcases (at0 h1).2.2 with h2 | h2
      · exact .inr (subK h2)
      · exact .inl ⟨List.mem_map.mpr ⟨_, h1, rfl⟩, h2⟩
    · exact .inr (List.mem_map.mpr ⟨_, h1, rfl⟩)
  have keyr : ∀ {q}, q ∈ (Lc 1).map (·.1) → H q = none ∧ q ∉ (Lc 0).map (·.1) := fun {q} hq => by
    obtain ⟨⟨q', u⟩, hz, rfl⟩ := List.mem_map.mp hq
    refine ⟨(atr hz).2.2, fun h0 => ?_⟩
    have := Oc.ap 0 1 q' (by show 0 < 2; decide) (by show 1 < 2; decide) h0 hq
    cases this
  refine ⟨⟨g0.ff.trans gc.ff, fun a o nM ha => ?_, gc.fh, fun a h1 h2 => gc.nw a (g0.al a h1) (g0.nw a h1 h2), fun a h1 => gc.al a (g0.al a h1)⟩, by rw [List.length_append, hlen, l]; rfl, L', fun j s hs => ?_, fun j s q u hs hq => ?_, fun j hj => ?_, fun j k q hj hk h1 h2 => ?_⟩
  · refine gc.hh a o (fun e => ?_) (g0.hh a o nM ha)
    obtain ⟨⟨a', u⟩, hz, rfl⟩ := List.mem_map.mp (subK e)
    rcases (O.at_ i _ a' u h hz).2.2 with z | ⟨z, _⟩
    · rw [z] at ha
      cases ha
    · exact nM z
  · rcases get3 hs with ⟨rfl, rfl⟩ | ⟨ne, hj, hs⟩ | ⟨rfl, rfl⟩
    · rw [Li]
      exact ⟨v, by rw [List.getElem?_append_left (by omega)]; exact a, m3⟩
    · rw [Lj ne hj]
      refine ((O.ok j s hs).ex gc.ff).cong fun k hk => ?_
      rw [List.getElem?_append_left (by omega)]
    · rw [Ll]
      refine okr.move nra ?_
      rw [← l]
      exact last_at
  · rcases get3 hs with ⟨rfl, rfl⟩ | ⟨ne, hj, hs⟩ | ⟨rfl, rfl⟩
    · rw [Li] at hq
      have fr : ∀ {q}, q ∈ (L j).map (·.1) → H0 q = none ∨ (M q ∧ isMu (Sl.mu ψ') = true) := fun {q} hq => by
        obtain ⟨⟨q', u⟩, hz, rfl⟩ := List.mem_map.mp hq
        exact (O.at_ j _ q' u h hz).2.2.imp_right fun z => ⟨z.1, rfl⟩
      rcases m1 _ hq with h1 | ⟨h1, h2⟩
      · obtain ⟨x1, x2, x3⟩ := at0 h1
        refine ⟨x1, x2, ?_⟩
        rcases x3 with x3 | x3
        · exact fr (subK x3)
        · exact .inl (none_or fun z => g0.al q z x3)
      · obtain ⟨x1, x2⟩ := kp h h1 h2
        exact ⟨x1, x2, fr (List.mem_map.mpr ⟨_, h1, rfl⟩)⟩
    · rw [Lj ne hj] at hq
      have nq : q ∉ L1.map (·.1) := fun e => ne (O.ap j i q hj hi (List.mem_map.mpr ⟨_, hq, rfl⟩) (subK e))
      obtain ⟨x1, x2⟩ := kp hs hq nq
      exact ⟨x1, x2, (O.at_ j s q u hs hq).2.2⟩
    · rw [Ll] at hq
      obtain ⟨x1, x2, x3⟩ := atr hq
      exact ⟨x1, x2, .inl (none_or fun z => g0.al q z x3)⟩
  · rcases cases3 hj with rfl | ⟨ne, hj⟩ | rfl
    · rw [Li]
      exact m2
    · rw [Lj ne hj]
      exact O.nd j hj
    · rw [Ll]
      exact Oc.nd 1 (by show 1 < 2; decide)
  · have one : ∀ {j}, j < (ss.set i (Sl.mu ψ') ++ [r]).length → q ∈ (L' j).map (·.1) → (j < ss.length ∧ q ∈ (L j).map (·.1)) ∨ (j = i ∧ q ∈ (Lc 0).map (·.1) ∧ H q = none) ∨ (j = ss.length ∧ H q = none ∧ q ∉ (Lc 0).map (·.1)) := fun {j} hj hq => by
      rcases cases3 hj with rfl | ⟨ne, hj⟩ | rfl
      · rw [Li] at hq
        rcases keyn hq with ⟨a, b⟩ | a
        · exact .inr (.inl ⟨rfl, a, b⟩)
        · exact .inl ⟨hi, a⟩
      · rw [Lj ne hj] at hq
        exact .inl ⟨hj, hq⟩
      · rw [Ll] at hq
        exact .inr (.inr ⟨rfl, keyr hq⟩)
    rcases one hj h1 with ⟨a1, a2⟩ | ⟨a1, a2, a3⟩ | ⟨a1, a2, a3⟩
    · rcases one hk h2 with ⟨b1, b2⟩ | ⟨b1, b2, b3⟩ | ⟨b1, b2, b3⟩
      · exact O.ap j k q a1 b1 a2 b2
      · exact (inH a1 a2 b3).elim
      · exact (inH a1 a2 b2).elim
    · rcases one hk h2 with ⟨b1, b2⟩ | ⟨b1, b2, b3⟩ | ⟨b1, b2, b3⟩
      · exact (inH b1 b2 a3).elim
      · rw [a1, b1]
      · exact (b3 a2).elim
    · rcases one hk h2 with ⟨b1, b2⟩ | ⟨b1, b2, b3⟩ | ⟨b1, b2, b3⟩
      · exact (inH b1 b2 a2).elim
      · exact (a3 b2).elim
      · rw [a1, b1]

end
end Fh
set_option Elab.async false
set_option linter.all false
set_option maxRecDepth 100000
set_option maxHeartbeats 2000000
/-! a def that owns an object and one thing more of its caller -/
namespace Fh
open PySem PySem.Spec PyProof.Rows L2 Evl LamX
open PySem.W (Datum)
abbrev Vw := Hp → V → List (Addr × HO) → Prop
inductive AW (K : PySem.W.Frag) (F : Hp) : List V → List Sl → Prop where
  | nil : AW K F [] []
  | dt {v : V} {d : PyData} {vs : List V} {as : List Sl} (h : Dp K F v d) (t : AW K F vs as) : AW K F (v :: vs) (.dt d :: as)
  | fx {v : V} {φ : Hp → V → Prop} {vs : List V} {as : List Sl} (h : ∀ F', Ex F F' → φ F' v) (t : AW K F vs as) : AW K F (v :: vs) (.fx φ :: as)
abbrev VR := Vw → Vw → V → V → List Sl → Vw → Vw → Sl → Prop
section
variable {K : PySem.W.Frag} {M : Addr → Prop} {F0 H0 F H F' H' : Hp} {σ xs gs : L2.St} {ss ts rs gt ss2 ss3 as : List Sl} {ta tb te tc td tl tj tk tv : TE} {tr : TA} {t u tt : TT} {tz tbd tu tw : TS} {r ra rb : Sl} {d da db e : PyData} {ds es ds1 ds2 : List PyData} {Q : VK} {v x y v0 v2 vd : V} {p q C P : Addr} {E E' : XK} {ψ ψ1 ψ2 ψ1' ψ2' ρ ρ1 ρ1' ρ' : Vw} {LA LB : List (Addr × HO)} {R : VR} {fds fds' : Fds} {ψf : Fds → Vw} {at_ : Hp → V → Addr → Prop} {i : Nat} {m : Str}
theorem AW.len {ws : List V} (h : AW K F ws as) : ws.length = as.length := by
  induction h with
  | nil => rfl
  | dt _ _ ih => rw [List.length_cons, List.length_cons, ih]
  | fx _ _ ih => rw [List.length_cons, List.length_cons, ih]
theorem AW.ex {ws : List V} (e : Ex F F') (h : AW K F ws as) : AW K F' ws as := by
  induction h with
  | nil => exact .nil
  | dt h _ ih => exact .dt (dp_ex e _ _ h) ih
  | fx h _ ih => exact .fx (fun F2 e2 => h F2 (e.trans e2)) ih
theorem AW.push {ws : List V} (h : AW K F ws as) : ∀ {σ0 : L2.St} {ss0 : List Sl}, Sts K M F H F H σ0 ss0 → Sts K M F H F H (σ0 ++ ws.map some) (ss0 ++ as) := by
  induction h with
  | nil => intro σ0 ss0 S; simpa using S
  | @dt v d vs as h _ ih =>
    intro σ0 ss0 S
    have := ih (S.push_dt h)
    simpa [List.append_assoc] using this
  | @fx v φ vs as h _ ih =>
    intro σ0 ss0 S
    have := ih (S.push_fx (φ := φ) h)
    simpa [List.append_assoc] using this
end
end Fh
set_option Elab.async false
set_option linter.all false
set_option maxRecDepth 100000
set_option maxHeartbeats 2000000
/-! such a def is called, out of a slot that owns more -/
namespace Fh
open PySem PySem.Spec PyProof.Rows L2 Evl LamX
open PySem.W (Datum)
/-- one thing within what ρ owns -/
structure FocR (ρ : Vw) (vd : V) (ρ1 ρ1' : Vw) (v2 : V) (ρ' : Vw) : Prop where
  get : ∀ {F : Hp} {B : List (Addr × HO)}, ρ F vd B → (B.map (·.1)).Nodup → ∃ a o, (a, o) ∈ B ∧ ρ1 F v2 [(a, o)] ∧ ∀ {F' : Hp} {o' : HO}, Ex F F' → ρ1' F' v2 [(a, o')] → ∃ B', (∀ z ∈ B', z = (a, o') ∨ (z ∈ B ∧ z.1 ≠ a)) ∧ (B'.map (·.1)).Nodup ∧ ρ' F' vd B'
  key : ∀ {F F' : Hp} {B B' : List (Addr × HO)}, ρ1 F v2 B → ρ1' F' v2 B' → ∃ a o o', B = [(a, o)] ∧ B' = [(a, o')]
  mono1 : ∀ {F F' : Hp} {B : List (Addr × HO)}, Ex F F' → ρ1 F v2 B → ρ1 F' v2 B
  mono' : ∀ {F F' : Hp} {B : List (Addr × HO)}, Ex F F' → ρ' F vd B → ρ' F' vd B
section
variable {K : PySem.W.Frag} {M : Addr → Prop} {F0 H0 F H F' H' : Hp} {σ xs gs : L2.St} {ss ts rs gt ss2 ss3 as : List Sl} {ta tb te tc td tl tj tk tv : TE} {tr : TA} {t u tt : TT} {tz tbd tu tw : TS} {r ra rb : Sl} {d da db e : PyData} {ds es ds1 ds2 : List PyData} {Q : VK} {v x y v0 v2 vd : V} {p q C P : Addr} {E E' : XK} {ψ ψ1 ψ2 ψ1' ψ2' ρ ρ1 ρ1' ρ' : Vw} {R : VR} {fds fds' : Fds} {ψf : Fds → Vw} {at_ : Hp → V → Addr → Prop} {i : Nat} {m : Str}
def plainSl : Sl → Bool
  | .dt _ => true
  | .fx _ => true
  | _ => false
/-- the arguments, as they were told -/
theorem Sts.argsW : ∀ {rs : List Sl} {vs : List V} {xs : L2.St} {ts : List Sl}, Sts K M F0 H0 F H (σ ++ (xs ++ vs.map some)) (ss ++ (ts ++ rs)) → (σ ++ xs).length = (ss ++ ts).length → vs.length = rs.length → rs.all plainSl = true → AW K F vs rs
  | [], [], _, _, _, _, _, _ => .nil
  | [], _ :: _, _, _, _, _, h, _ => by simp at h
  | _ :: _, [], _, _, _, _, h, _ => by simp at h
  | s :: rs, v :: vs, xs, ts, S, l, hl, hp => by
    rw [List.all_cons, Bool.and_eq_true] at hp
    have S2 : Sts K M F0 H0 F H (σ ++ ((xs ++ [some v]) ++ vs.map some)) (ss ++ ((ts ++ [s]) ++ rs)) := by simpa [List.append_assoc] using S
    have l2 : (σ ++ (xs ++ [some v])).length = (ss ++ (ts ++ [s])).length := by simp at l ⊢; omega
    have rest := Sts.argsW S2 l2 (by simpa using hl) hp.2
    have at1 : (ss ++ (ts ++ s :: rs))[(ss ++ ts).length]? = some s := by
      rw [← List.append_assoc, List.getElem?_append_right (Nat.le_refl _), Nat.sub_self]
      rfl
    have at2 : (σ ++ (xs ++ (v :: vs).map some))[(ss ++ ts).length]? = some (some v) := by
      rw [← List.append_assoc, ← l, List.getElem?_append_right (Nat.le_refl _), Nat.sub_self]
      rfl
    cases s with
    | dt d =>
      obtain ⟨w, e1, e2⟩ := S.get_dt at1
      rw [at2] at e1
      cases e1
      exact .dt e2 rest
    | fx φ =>
      obtain ⟨w, e1, e2⟩ := S.get_fx at1
      rw [at2] at e1
      cases e1
      exact .fx e2 rest
    | _ => cases hp.1
/-! ### what else a law owns beside its objects: the table and a list -/
end
end Fh
set_option Elab.async false
set_option linter.all false
set_option maxRecDepth 100000
set_option maxHeartbeats 2000000
/-! more of the table; a list of the caller's; comprehensions that change a slot -/
namespace Fh
open PySem PySem.Spec PyProof.Rows L2 Evl LamX
open PySem.W (Datum)
section
variable {K : PySem.W.Frag} {M : Addr → Prop} {F0 H0 F H F' H' : Hp} {σ xs gs : L2.St} {ss ts rs gt ss2 ss3 as : List Sl} {ta tb te tc td tl tj tk tv : TE} {tr : TA} {t u tt : TT} {tz tbd tu tw : TS} {r ra rb : Sl} {d da db e : PyData} {ds es ds1 ds2 : List PyData} {Q : VK} {v x y v0 v2 vd : V} {p q C P : Addr} {E E' : XK} {R : RO} {X : XO} {fds fds' : Fds} {i : Nat} {m f : Str} {qn : Str} {dvs : List V}
theorem EvT.frz (h : EvT K P qn te ss (.ls ds)) : EvT K P qn te ss (.dt (.list ds)) := fun M F0 H0 F H σ xs ts g l hg S Q k => by
  refine h M F0 H0 F H σ xs ts g l hg S _ fun v F1 H1 S1 => ?_
  have l2 := S.len2
  rw [← List.append_assoc, ← List.append_assoc] at S1
  obtain ⟨F2, e2, f2, S2⟩ := S1.freeze (i := (ss ++ ts).length) (ds := ds) (by rw [List.getElem?_append_right (Nat.le_refl _), Nat.sub_self]; rfl)
  rw [List.set_append_right _ _ (Nat.le_refl _), Nat.sub_self, List.append_assoc, List.append_assoc] at S2
  exact k v F2 H1 S2
end
end Fh
set_option Elab.async false
set_option linter.all false
set_option maxRecDepth 100000
set_option maxHeartbeats 2000000
/-! lists of objects: made, appended to, one of them exchanged -/
namespace Fh
open PySem PySem.Spec PyProof.Rows L2 Evl LamX
open PySem.W (Datum)
inductive ObjA (K : PySem.W.Frag) (C : Addr) (F : Hp) : List V → List Fds → List (Addr × HO) → Prop where
  | nil : ObjA K C F [] [] []
  | cons {p : Addr} {f : Fds} {A : List (Addr × HO)} {vs : List V} {fs : List Fds} {L : List (Addr × HO)} (h : insAt K C p f F (.ref p) A) (t : ObjA K C F vs fs L) : ObjA K C F (.ref p :: vs) (f :: fs) (A ++ L)
def objsAt (K : PySem.W.Frag) (C : Addr) (fs : List Fds) : Vw := fun F v L => ∃ q vs L0, v = .ref q ∧ L = (q, .lst vs) :: L0 ∧ ObjA K C F vs fs L0
section
variable {K : PySem.W.Frag} {M : Addr → Prop} {F0 H0 F H F' H' : Hp} {σ xs gs : L2.St} {ss ts rs gt ss2 ss3 as : List Sl} {ta tb te tc td tl tj tk tv : TE} {tr : TA} {t u tt : TT} {tz tbd tu tw : TS} {r ra rb : Sl} {d da db e : PyData} {ds es ds1 ds2 : List PyData} {Q : VK} {v x y v0 v2 vd : V} {p q C P : Addr} {E E' : XK} {R : RO} {X : XO} {fds fds' f0 f1 : Fds} {fs : List Fds} {i : Nat} {m : Str} {qn : Str} {dvs : List V}
theorem ObjA.ex {vs : List V} {L : List (Addr × HO)} (h : ObjA K C F vs fs L) (e : Ex F F') : ObjA K C F' vs fs L := by
  induction h with
  | nil => exact .nil
  | cons h t ih => exact .cons (h.ex e) ih
theorem ObjA.len {vs : List V} {L : List (Addr × HO)} (h : ObjA K C F vs fs L) : vs.length = fs.length := by
  induction h with
  | nil => rfl
  | cons h t ih => rw [List.length_cons, List.length_cons, ih]
theorem ObjA.set {vs : List V} {L B : List (Addr × HO)} (h : ObjA K C F vs fs L) (h2 : insAt K C p fds F (.ref p) B) (nB : (B.map (·.1)).Nodup) (nL : (L.map (·.1)).Nodup) (dis : ∀ a, a ∈ B.map (·.1) → a ∉ L.map (·.1)) : ∀ k, k < vs.length → ∃ L', ObjA K C F (vs.set k (.ref p)) (fs.set k fds) L' ∧ (∀ z ∈ L', z ∈ B ∨ z ∈ L) ∧ (L'.map (·.1)).Nodup := by
  induction h with
  | nil => intro k hk; exact _root_.absurd hk (Nat.not_lt_zero _)
  | @cons p0 f A vs fs L h t ih =>
    rw [List.map_append] at nL
    obtain ⟨n1, n2, n3⟩ := List.nodup_append.mp nL
    intro k hk
    cases k with
    | zero =>
      refine ⟨B ++ L, .cons h2 t, fun z hz => ?_, ?_⟩
      · rcases List.mem_append.mp hz with hz | hz
        · exact .inl hz
        · exact .inr (List.mem_append_right _ hz)
      · rw [List.map_append]
        exact List.nodup_append.mpr ⟨nB, n2, fun a h1 b h3 e => dis a h1 (by rw [List.map_append, e]; exact List.mem_append_right _ h3)⟩
    | succ k =>
      obtain ⟨L', g1, g2, g3⟩ := ih n2 (fun a h1 h3 => dis a h1 (by rw [List.map_append]; exact List.mem_append_right _ h3)) k (by simpa using hk)
      refine ⟨A ++ L', .cons h g1, fun z hz => ?_, ?_⟩
      · rcases List.mem_append.mp hz with hz | hz
        · exact .inr (List.mem_append_left _ hz)
        · exact (g2 z hz).imp_right fun h => List.mem_append_right _ h
      · rw [List.map_append]
        refine List.nodup_append.mpr ⟨n1, g3, fun a h1 b h3 e => ?_⟩
        subst e
        obtain ⟨z, hz, rfl⟩ := List.mem_map.mp h3
        rcases g2 z hz with hz | hz
        · exact dis z.1 (List.mem_map.mpr ⟨z, hz, rfl⟩) (by rw [List.map_append]; exact List.mem_append_left _ h1)
        · exact n3 z.1 h1 z.1 (List.mem_map.mpr ⟨z, hz, rfl⟩) rfl
theorem objsAt.ex {L : List (Addr × HO)} (h : objsAt K C fs F v L) (e : Ex F F') : objsAt K C fs F' v L := by
  obtain ⟨q, vs, L0, a, b, c⟩ := h
  exact ⟨q, vs, L0, a, b, c.ex e⟩
end
end Fh
set_option Elab.async false
set_option linter.all false
set_option maxRecDepth 100000
set_option maxHeartbeats 2000000
/-! all([f(..) for x in xs]), where f changes what the slots own; things of three slots in one *and back* -/
namespace Fh
open PySem PySem.Spec PyProof.Rows L2 Evl LamX
open PySem.W (Datum)
section
variable {K : PySem.W.Frag} {M : Addr → Prop} {F0 H0 F H F' H' : Hp} {σ xs gs : L2.St} {ss ts rs gt ss2 ss3 as : List Sl} {ta tb te tc td tl tj tk tv : TE} {tr : TA} {t u tt : TT} {tz tbd tu tw : TS} {r ra rb : Sl} {d da db e : PyData} {ds es ds1 ds2 : List PyData} {Q : VK} {v x y v0 v2 vd : V} {p q C P : Addr} {E E' : XK} {R : RO} {X : XO} {fds fds' f0 f1 : Fds} {fs : List Fds} {i : Nat} {m : Str} {qn : Str} {dvs : List V}
end
end Fh
set_option Elab.async false
set_option linter.all false
set_option maxRecDepth 100000
set_option maxHeartbeats 2000000
/-! three slots' things in one of them, and back -/
namespace Fh
open PySem PySem.Spec PyProof.Rows L2 Evl LamX
open PySem.W (Datum)
section
variable {K : PySem.W.Frag} {M : Addr → Prop} {F0 H0 F H F' H' : Hp} {σ xs gs : L2.St} {ss ts rs gt : List Sl} {hd : List PyData} {C P : Addr} {f0 f1 : Fds} {qn : Str}
end
end Fh
set_option Elab.async false
set_option linter.all false
set_option maxRecDepth 100000
set_option maxHeartbeats 2000000
/-! a loop over enumerate; a pair of new lists; ends of defs that own two things -/
namespace Fh
open PySem PySem.Spec PyProof.Rows L2 Evl LamX
open PySem.W (Datum)
section
variable {X : Cx} {k : Nat} {x m : Str} {C : Addr} {ps : List Str} {sp : Sp} {dvs : List V} {E : XK} {p pos apos : Pos} {e o : Expr} {es : List Expr} {t : TA} {ta : TE} {W : WX}
end
section
variable {α : Type} {K : PySem.W.Frag} {M : Addr → Prop} {F0 H0 F H F' H' : Hp} {σ xs gs : L2.St} {ss ts rs gt ss2 ss3 as : List Sl} {ta tb te tc td tl tj tk tv : TE} {tr : TA} {t u tt : TT} {tz tbd tu tw : TS} {r ra rb : Sl} {d da db e : PyData} {ds es ds1 ds2 : List PyData} {Q : VK} {v x y v0 v2 vd : V} {p q C P : Addr} {E E' : XK} {ψ1 ψ2 : Vw} {i j : Nat}
end
end Fh
set_option Elab.async false
set_option linter.all false
set_option maxRecDepth 100000
set_option maxHeartbeats 2000000
/-! in a tuple; all(..) at a suite's end; an object that is refused; receivers in what owns more -/
namespace Fh
open PySem PySem.Spec PyProof.Rows L2 Evl LamX
open PySem.W (Datum)
def rInT (K : PySem.W.Frag) : R2 := fun x y H Q => ∃ d ds, Fh.Dp K H x d ∧ Fh.Dp K H y (.tuple ds) ∧ PyData.plainAll ds = true ∧ d.plain = true ∧ d.depth ≤ 60 ∧ Q (.bl (ds.any fun z => PyData.eqv z d)) H
theorem plain_tuple {ds : List PyData} (h : PyData.plainAll ds = true) : (PyData.tuple ds).plain = true := by simpa only [PyData.plain] using h
theorem op_inT {X : Cx} (hu : X.A.units + 64 < cLine) : OpR X (compareOp .In) (rInT X.K) := by
  intro pins s σ H x y v u Q I rx ry h
  obtain ⟨d, ds, hd, hy, hp, pd, dd, q⟩ := h
  obtain ⟨as, r1⟩ := L2.Dp.reads I d x v (Fh.Dp.kit d x pd hd) rx
  obtain ⟨bs, r2⟩ := L2.Dp.reads I _ y u (Fh.Dp.kit _ y (plain_tuple hp) hy) ry
  exact PySem.SeqAt.in_tuple_data r2 r1 hp pd (by omega) ⟨.bl _, H, I, rfl, q⟩
section
variable {K : PySem.W.Frag} {M : Addr → Prop} {F0 H0 F H F' H' : Hp} {σ xs gs : L2.St} {ss ts rs gt ss2 ss3 as : List Sl} {ta tb te tc td tl tj tk tv : TE} {tr : TA} {t u tt : TT} {tz tbd tu tw : TS} {r ra rb : Sl} {d da db e : PyData} {ds es ds1 ds2 : List PyData} {Q : VK} {v x y v0 v2 vd : V} {p q C P : Addr} {E E' : XK} {f0 f1 : Fds} {i j : Nat} {W : WX} {ρ : Vw}
theorem ev_inT (ha : EvR K ta ss ra) (hb : EvR K tb ss rb) (va : vw ss ra = some d) (vb : vw ss rb = some (.tuple ds)) (h1 : PyData.plainAll ds = true) (h2 : d.plain = true) (h3 : d.depth ≤ 60) : EvR K (tOp (rInT K) ta tb) ss (.dt (.bool (ds.any fun z => PyData.eqv z d))) :=
  ev_op ha hb va vb fun F H x y Q e hx hy k => ⟨d, ds, hx.dp e, hy.dp e, h1, h2, h3, k.bl⟩
/-! what raises within what is told, the slots as they stand -/
def NsR (K : PySem.W.Frag) (te : TE) (ss : List Sl) (E : XK) (C : Addr) : Prop := ∀ (M : Addr → Prop) (F0 H0 F H : Hp) (σ xs : L2.St) (ts : List Sl), σ.length = ss.length → Sts K M F0 H0 F H (σ ++ xs) (ss ++ ts) → (∀ F' H', Gr F H F' H' → Sts K M F0 H0 F' H' (σ ++ xs) (ss ++ ts) → E (.ref C) none H') → ∀ Q : VK, te σ H Q
def NsA (K : PySem.W.Frag) (ta : TA) (ss : List Sl) (E : XK) (C : Addr) : Prop := ∀ (M : Addr → Prop) (F0 H0 F H : Hp) (σ xs : L2.St) (ts : List Sl), σ.length = ss.length → Sts K M F0 H0 F H (σ ++ xs) (ss ++ ts) → (∀ F' H', Gr F H F' H' → Sts K M F0 H0 F' H' (σ ++ xs) (ss ++ ts) → E (.ref C) none H') → ∀ Q : List V → Hp → Prop, ta σ H Q
theorem ns_call {R : List PyData → Sl → Prop} {X : List PyData → Addr → Prop} {dvs : List V} {es : List PyData} (ha : AvR K tr ss rs) (va : vws ss rs = some ds) (hd : ∀ F, Fh.DpAll K F dvs es) (h : X (ds ++ es) C) : NsR K (tCall (spF K R X) dvs E tr) ss E C := fun M F0 H0 F H σ xs ts l S k Q => by
  refine ha M F0 H0 F H σ xs ts l S _ fun vs F1 H1 hl g1 S1 => ?_
  have l1 := S.len2
  have S1' := S1
  refine ⟨H1, _, Ex.refl H1, dpAll_app (vwA_dp (S1.argsV l1 hl va) S1.fh) (hd H1), .inr ⟨C, h, fun H' e => ?_⟩⟩
  exact k F1 H' (g1.trans (Gr.of S1.fh e)) ((S1.backA l1).grow (Gr.of S1.fh e))
theorem nsa_here (h : NsR K te ss E C) : NsA K (tCons te tr) ss E C := fun M F0 H0 F H σ xs ts l S k Q => h M F0 H0 F H σ xs ts l S k _
theorem st_asgS {D : Ends} {g : TG} (S : Sts K M F0 H0 F H (σ ++ gs) (ss ++ gt)) (l : σ.length = ss.length) (h : NsR K te ss E C) (k : ∀ F' H', Sts K M F0 H0 F' H' (σ ++ gs) (ss ++ gt) → E (.ref C) none H') : tAsg te g D σ H := h M F0 H0 F H σ gs gt l S (fun F' H' _ S' => k F' H' S') _
theorem st_dropS {D : Ends} (S : Sts K M F0 H0 F H (σ ++ gs) (ss ++ gt)) (l : σ.length = ss.length) (h : NsR K te ss E C) (k : ∀ F' H', Sts K M F0 H0 F' H' (σ ++ gs) (ss ++ gt) → E (.ref C) none H') : tDrop te D σ H := h M F0 H0 F H σ gs gt l S (fun F' H' _ S' => k F' H' S') _
theorem st_retS {D : Ends} (S : Sts K M F0 H0 F H (σ ++ gs) (ss ++ gt)) (l : σ.length = ss.length) (h : NsR K te ss E C) (k : ∀ F' H', Sts K M F0 H0 F' H' (σ ++ gs) (ss ++ gt) → E (.ref C) none H') : tRet te D σ H := h M F0 H0 F H σ gs gt l S (fun F' H' _ S' => k F' H' S') _
end
end Fh
set_option Elab.async false
set_option linter.all false
set_option maxRecDepth 100000
set_option maxHeartbeats 2000000
/-! defs of frozen things (predicates over the heap that stays) as well as data; readings that are one of several *by a choice* -/
namespace Fh
open PySem PySem.Spec PyProof.Rows L2 Evl LamX
open PySem.W (Datum)
abbrev RG := List Sl → Sl → Prop
abbrev XG := List Sl → Addr → Prop
def spG (K : PySem.W.Frag) (R : RG) (X : XG) : Sp := fun vs H Q E => ∃ F as, Ex F H ∧ AW K F vs as ∧ ((∃ r, R as r ∧ RetR K F H r Q) ∨ (∃ C, X as C ∧ ∀ H', Ex H H' → E (.ref C) none H'))
abbrev noXG : XG := fun _ _ => False
def ssG (n : Nat) (as : List Sl) : List Sl := as ++ List.replicate (n - as.length) .no
/-- one of several readings -/
def tAny {ι : Type} (t : ι → TE) : TE := fun σ H Q => ∃ i, t i σ H Q
theorem pe_any {X : Cx} {e : Expr} {ι : Type} {t : ι → TE} (h : ∀ i, PE X e (t i)) : PE X e (tAny t) := ⟨fun pins s σ H Q I ⟨i, q⟩ => (h i).run pins s σ H Q I q⟩
section
variable {K : PySem.W.Frag} {M : Addr → Prop} {F0 H0 F H F' H' : Hp} {σ xs gs : L2.St} {ss ts rs gt ss2 ss3 as bs : List Sl} {ta tb te tc td tl tj tk tv : TE} {tr : TA} {t u tt : TT} {tz tbd tu tw : TS} {r ra rb : Sl} {d da db e : PyData} {ds es ds1 ds2 : List PyData} {Q : VK} {v x y v0 v2 vd : V} {p q C P : Addr} {E E' : XK} {i j : Nat} {W : WX} {ρ : Vw} {R : RG} {X : XG} {m f : Str} {φ : Hp → V → Prop} {dvs : List V}
theorem ev_which {ι : Type} {t : ι → TE} (i : ι) (h : EvR K (t i) ss r) : EvR K (tAny t) ss r := fun M F0 H0 F H σ xs ts l S Q q => ⟨i, h M F0 H0 F H σ xs ts l S Q q⟩
theorem spG_len {n : Nat} (hR : ∀ as r, R as r → as.length = n) (hX : ∀ as C, X as C → as.length = n) : ∀ vs H Q E, spG K R X vs H Q E → vs.length = n := fun vs H Q E h => by
  obtain ⟨F, as, e, a, ⟨r, h, _⟩ | ⟨C, h, _⟩⟩ := h
  · rw [a.len]
    exact hR _ _ h
  · rw [a.len]
    exact hX _ _ h
theorem Sts.initG {N : List Str} {vs : List V} (e : Ex F H) (h : AW K F vs as) : Sts K (fun _ => False) F H F H (L2.start N vs ++ []) (ssG N.length as ++ []) := by
  have S1 := (h.push (sts_nil (K := K) e)).pad (N.length - vs.length)
  rw [List.append_nil, List.append_nil]
  unfold L2.start ssG
  rw [← h.len]
  simpa using S1
theorem init_lenG {N : List Str} {vs : List V} (h : AW K F vs as) (hl : as.length ≤ N.length) : (L2.start N vs).length = (ssG N.length as).length := by
  unfold L2.start ssG
  rw [List.length_append, List.length_append, List.length_map, List.length_replicate, List.length_replicate, h.len]
theorem AW.app {ws us : List V} (h : AW K F ws as) (h2 : AW K F us bs) : AW K F (ws ++ us) (as ++ bs) := by
  induction h with
  | nil => exact h2
  | dt h _ ih => exact .dt h ih
  | fx h _ ih => exact .fx h ih
theorem AW.ofD {ws : List V} : ∀ {ds : List PyData}, Fh.DpAll K F ws ds → AW K F ws (ds.map .dt) := fun {ds} h => by
  induction ds generalizing ws with
  | nil => cases h; exact .nil
  | cons d ds ih =>
    cases h with
    | cons a b => exact .dt a (ih b)
/-- a call of such a def -/
theorem ev_callG (ha : AvR K tr ss rs) (va : rs.all plainSl = true) (h : R rs r) : EvR K (tCall (spG K R X) [] E tr) ss r := fun M F0 H0 F H σ xs ts l S Q q => by
  refine ha M F0 H0 F H σ xs ts l S _ fun vs F1 H1 hl g1 S1 => ?_
  have l1 := S.len2
  refine ⟨F1, _, S1.fh, ?_, .inl ⟨r, h, RetR.mk g1 (S1.backA l1) q⟩⟩
  rw [List.append_nil]
  exact S1.argsW l1 hl va
/-- the last slot, a frozen thing -/
theorem Sts.lastF (S : Sts K M F0 H0 F H (σ ++ (xs ++ [some v])) (ss ++ (ts ++ [.fx φ]))) (l : (σ ++ xs).length = (ss ++ ts).length) : ∀ F', Ex F F' → φ F' v := by
  rw [← List.append_assoc, ← List.append_assoc] at S
  obtain ⟨w, a, b⟩ := S.get_fx (i := (ss ++ ts).length) (φ := φ) (by rw [List.getElem?_append_right (Nat.le_refl _), Nat.sub_self]; rfl)
  rw [← l, last_at] at a
  cases a
  exact b
/-- o.f of a frozen object -/
theorem ev_fldG (ha : EvR K ta ss (.fx φ)) (hφ : ∀ F v, φ F v → ∃ p dx fs w, v = .ref p ∧ F p = some (.ins C dx fs) ∧ fs.lookup f = some w ∧ Fh.Dp K F w d) (c : Cls K C) (n : NoAttr K C f) : EvR K (tFld K ta f) ss (.dt d) := fun M F0 H0 F H σ xs ts l S Q q => by
  refine ha M F0 H0 F H σ xs ts l S _ fun v F1 H1 g1 n1 S1 => ?_
  have l1 := S.len2
  obtain ⟨p, dx, fs, w, rfl, hp, hf, hw⟩ := hφ F1 v (S1.lastF l1 F1 (Ex.refl F1))
  exact ⟨p, C, dx, fs, w, rfl, S1.fh _ _ hp, c, n, hf, (RetR.mk g1 (S1.back l1) q).dt hw⟩
theorem RetR.fx (k : RetR K F H (.fx φ) Q) (h : ∀ F', Ex F F' → φ F' v) : Q v H := k v F H fun M F0 H0 σ ss S => S.push_fx h
theorem ev_fldGx {φ' : Hp → V → Prop} (ha : EvR K ta ss (.fx φ)) (hφ : ∀ F v, φ F v → ∃ p dx fs w, v = .ref p ∧ F p = some (.ins C dx fs) ∧ fs.lookup f = some w ∧ ∀ F', Ex F F' → φ' F' w) (c : Cls K C) (n : NoAttr K C f) : EvR K (tFld K ta f) ss (.fx φ') := fun M F0 H0 F H σ xs ts l S Q q => by
  refine ha M F0 H0 F H σ xs ts l S _ fun v F1 H1 g1 n1 S1 => ?_
  have l1 := S.len2
  obtain ⟨p, dx, fs, w, rfl, hp, hf, hw⟩ := hφ F1 v (S1.lastF l1 F1 (Ex.refl F1))
  exact ⟨p, C, dx, fs, w, rfl, S1.fh _ _ hp, c, n, hf, (RetR.mk g1 (S1.back l1) q).fx hw⟩
/-- o.m(..) of a frozen object -/
theorem ev_methG (ha : EvR K ta ss (.fx φ)) (hφ : ∀ F v, φ F v → ∃ p dx fs, v = .ref p ∧ F p = some (.ins C dx fs) ∧ fs.lookup m = none) (hb : AvR K tr ss rs) (va : rs.all plainSl = true) (h : R (.fx φ :: rs) r) : EvR K (tMeth C m (spG K R X) [] E ta tr) ss r := fun M F0 H0 F H σ xs ts l S Q q => by
  refine ha M F0 H0 F H σ xs ts l S _ fun v F1 H1 g1 n1 S1 => ?_
  have l1 := S.len2
  have hv := S1.lastF l1
  obtain ⟨p, dx, fs, rfl, hp, hf⟩ := hφ F1 v (hv F1 (Ex.refl F1))
  refine ⟨p, dx, fs, rfl, S1.fh _ _ hp, hf, ?_⟩
  refine hb M F0 H0 F1 H1 σ xs ts l (S1.back l1) _ fun vs F2 H2 hl g2 S2 => ?_
  have l2 := (S1.back l1).len2
  refine ⟨F2, .fx φ :: rs, S2.fh, ?_, .inl ⟨r, h, RetR.mk (g1.trans g2) (S2.backA l2) q⟩⟩
  rw [List.append_nil]
  exact .fx (fun F' e => hv F' (g2.ff.trans e)) (S2.argsW l2 hl va)
/-! ### what is made once and stays -/
/-- C(..) whose __init__ lays its arguments in fields -/
def spI (C : Addr) (N : List Str) : Sp := fun vs H Q _ => ∃ p dx ws, vs = .ref p :: ws ∧ ws.length = N.length ∧ H p = some (.ins C dx []) ∧ Q .non (upd H p (.ins C dx (N.zip ws)))
theorem spI_len {N : List Str} {n : Nat} (h : N.length + 1 = n) : ∀ vs H Q E, spI C N vs H Q E → vs.length = n := fun vs H Q E ⟨p, dx, ws, e, l, _⟩ => by
  rw [e, List.length_cons, l, h]
/-- an object with these fields, all frozen -/
def obF (K : PySem.W.Frag) (C : Addr) (N : List Str) (as : List Sl) : Hp → V → Prop := fun F v => ∃ p dx ws, v = .ref p ∧ F p = some (.ins C dx (N.zip ws)) ∧ AW K F ws as
theorem ev_makeI {N : List Str} (ha : AvR K tr ss rs) (va : rs.all plainSl = true) (hl : rs.length = N.length) : EvR K (tMake C (spI C N) [] E tr) ss (.fx (obF K C N rs)) := fun M F0 H0 F H σ xs ts l S Q q => by
  refine ha M F0 H0 F H σ xs ts l S _ fun vs F1 H1 hlv g1 S1 => ?_
  have l1 := S.len2
  intro x dx nx ndx ne
  have aw := S1.argsW l1 hlv va
  refine ⟨x, dx, vs, by rw [List.append_nil], by rw [hlv, hl], upd_same, rfl, ?_⟩
  have fx1 : F1 x = none := fresh_back S1.fh nx
  have ex1 : Ex H1 (upd (upd (upd H1 dx (.own x)) x (.ins C dx [])) x (.ins C dx (N.zip vs))) := fun a o h => by
    have n1 : a ≠ x := fun e => by rw [e, nx] at h; cases h
    have n2 : a ≠ dx := fun e => by rw [e, ndx] at h; cases h
    rw [upd_ne n1, upd_ne n1, upd_ne n2]
    exact h
  have exF : Ex F1 (upd F1 x (.ins C dx (N.zip vs))) := Ex.new fx1
  refine (RetR.mk g1 (S1.backA l1) q : RetR K F1 H1 _ Q) (.ref x) (upd F1 x (.ins C dx (N.zip vs))) _ fun M F0 H0 σ ss S => ?_
  have g : Gr F1 H1 (upd F1 x (.ins C dx (N.zip vs))) (upd (upd (upd H1 dx (.own x)) x (.ins C dx [])) x (.ins C dx (N.zip vs))) := ⟨exF, ex1, fun a o h => ?_, fun a h1 h2 => ?_⟩
  · refine (S.grow g).push_fx fun F' e => ⟨x, dx, vs, rfl, e _ _ upd_same, aw.ex (exF.trans e)⟩
  · by_cases e : a = x
    · rw [e, upd_same] at h ⊢
      exact h
    · rw [upd_ne e] at h
      exact ex1 _ _ (S1.fh a o h)
  · have e : a ≠ x := fun e => h1 (e ▸ nx)
    rw [upd_ne e]
    exact h2
end
end Fh
set_option Elab.async false
set_option linter.all false
set_option maxRecDepth 100000
set_option maxHeartbeats 2000000
/-! lists of frozen things: our own, and frozen *too* -/
namespace Fh
open PySem PySem.Spec PyProof.Rows L2 Evl LamX
open PySem.W (Datum)
/-- an item, told by a plain word -/
def ItR (K : PySem.W.Frag) (F : Hp) (v : V) : Sl → Prop
  | .dt d => Fh.Dp K F v d
  | .fx φ => ∀ F', Ex F F' → φ F' v
  | _ => False
def glAt (K : PySem.W.Frag) (p : Addr) (as : List Sl) : Vw := fun F v L => v = .ref p ∧ ∃ vs, L = [(p, .lst vs)] ∧ AW K F vs as
def glE (K : PySem.W.Frag) (as : List Sl) : Vw := fun F v L => ∃ p, glAt K p as F v L
def flF (K : PySem.W.Frag) (as : List Sl) : Hp → V → Prop := fun F v => ∃ p vs, v = .ref p ∧ F p = some (.lst vs) ∧ AW K F vs as
section
variable {K : PySem.W.Frag} {M : Addr → Prop} {F0 H0 F H F' H' : Hp} {σ xs gs : L2.St} {ss ts rs gt ss2 ss3 as bs : List Sl} {ta tb te tc td tl tj tk tv : TE} {tr : TA} {t u tt : TT} {tz tbd tu tw : TS} {r ra rb a b : Sl} {d da db e : PyData} {ds es ds1 ds2 : List PyData} {Q : VK} {v x y v0 v2 vd w : V} {vs ws : List V} {p q C P : Addr} {E E' : XK} {i j k : Nat} {W : WX} {ρ : Vw} {φ : Hp → V → Prop}
theorem ItR.ex (e : Ex F F') (h : ItR K F v a) : ItR K F' v a := by
  cases a with
  | dt d => exact dp_ex e _ _ h
  | fx φ => exact fun F2 e2 => h F2 (e.trans e2)
  | _ => exact h
theorem AW.get (h : AW K F vs as) : ∀ {k : Nat}, as[k]? = some a → ∃ w, vs[k]? = some w ∧ ItR K F w a := by
  induction h with
  | nil => intro k e; simp at e
  | dt h _ ih =>
    intro k e
    cases k with
    | zero => cases e; exact ⟨_, rfl, h⟩
    | succ k => exact ih e
  | fx h _ ih =>
    intro k e
    cases k with
    | zero => cases e; exact ⟨_, rfl, h⟩
    | succ k => exact ih e
theorem AW.get' (h : AW K F vs as) : ∀ {k : Nat}, vs[k]? = some w → ∃ a, as[k]? = some a ∧ ItR K F w a := by
  induction h with
  | nil => intro k e; simp at e
  | dt h _ ih =>
    intro k e
    cases k with
    | zero => cases e; exact ⟨_, rfl, h⟩
    | succ k => exact ih e
  | fx h _ ih =>
    intro k e
    cases k with
    | zero => cases e; exact ⟨_, rfl, h⟩
    | succ k => exact ih e
theorem ItR.notAl (h : ItR K F v a) : notAl a = true := by
  cases a with
  | al j => cases h
  | _ => rfl
theorem AW.one (h : ItR K F v a) : AW K F [v] [a] := by
  cases a with
  | dt d => exact .dt h .nil
  | fx φ => exact .fx h .nil
  | _ => cases h
theorem Sts.pushI (S : Sts K M F0 H0 F H σ ss) (h : ItR K F v a) : Sts K M F0 H0 F H (σ ++ [some v]) (ss ++ [a]) := by
  cases a with
  | dt d => exact S.push_dt h
  | fx φ => exact S.push_fx h
  | _ => cases h
theorem Sts.setI (S : Sts K M F0 H0 F H (σ ++ gs) (ss ++ gt)) (l : σ.length = ss.length) (hi : i < ss.length) (h : ItR K F v a) (na : (ss ++ gt).all Fh.notAl = true) : Sts K M F0 H0 F H (σ.set i (some v) ++ gs) (ss.set i a ++ gt) := by
  have S3 := (S.pushI h).put (i := i) S.len2 (by rw [List.length_append]; omega) na h.notAl
  rw [List.set_append_left _ _ (by omega), List.set_append_left _ _ hi] at S3
  exact S3
theorem g_nameI {k : L2.St → Hp → Prop} (S : Sts K M F0 H0 F H (σ ++ gs) (ss ++ gt)) (l : σ.length = ss.length) (hi : i < ss.length) (h : ItR K F x a) (na : (ss ++ gt).all Fh.notAl = true)
    (hk : ∀ σ' F' H', Sts K M F0 H0 F' H' (σ' ++ gs) (ss.set i a ++ gt) → σ'.length = (ss.set i a).length → k σ' H') : gName i x σ H k :=
  hk _ F H (S.setI l hi h na) (by rw [List.length_set, List.length_set, l])
/-- the last slot, a plain thing -/
theorem Sts.lastI (S : Sts K M F0 H0 F H (σ ++ (xs ++ [some v])) (ss ++ (ts ++ [a]))) (l : (σ ++ xs).length = (ss ++ ts).length) (pl : plainSl a = true) : ItR K F v a := by
  rw [← List.append_assoc, ← List.append_assoc] at S
  have at1 : ((ss ++ ts) ++ [a])[(ss ++ ts).length]? = some a := by rw [List.getElem?_append_right (Nat.le_refl _), Nat.sub_self]; rfl
  cases a with
  | dt d =>
    obtain ⟨w, e1, e2⟩ := S.get_dt at1
    rw [← l, last_at] at e1
    cases e1
    exact e2
  | fx φ =>
    obtain ⟨w, e1, e2⟩ := S.get_fx at1
    rw [← l, last_at] at e1
    cases e1
    exact e2
  | _ => cases pl
theorem ev_varM {ψ : Vw} (h : ss[i]? = some (.mu ψ)) : EvR K (tVar i) ss (.al i) := fun M F0 H0 F H σ xs ts l S Q q => by
  have hi := (List.getElem?_eq_some_iff.mp h).1
  obtain ⟨v, L, a, _⟩ := S.callV (i := i) (by rw [List.getElem?_append_left hi]; exact h)
  have a' := a
  rw [List.getElem?_append_left (by omega)] at a
  refine ⟨_, a, q _ F H (Gr.refl S.fh) trivial ?_⟩
  have S2 := S.push_al a'
  rw [List.append_assoc, List.append_assoc] at S2
  exact S2
/-! ### made -/
theorem RetR.glE (k : RetR K F H (.mu (glE K as)) Q) (h : AW K F vs as) {p : Addr} (hp : H p = none) : Q (.ref p) (upd H p (.lst vs)) := by
  refine k (.ref p) F _ fun M F0 H0 σ ss S => ?_
  exact S.push (L1 := [(p, .lst vs)]) (Ex.new hp) ⟨.ref p, last_at, fun F' e => ⟨p, rfl, vs, rfl, h.ex e⟩⟩ (fun q o hq => by cases List.mem_singleton.mp hq; exact ⟨upd_same, hp⟩) (by simp)
theorem RetR.flF (k : RetR K F H (.fx (flF K as)) Q) (h : AW K F vs as) {p : Addr} (hp : H p = none) : Q (.ref p) (upd H p (.lst vs)) := by
  refine k (.ref p) (upd F p (.lst vs)) _ fun M F0 H0 σ ss S => ?_
  have fp : F p = none := fresh_back S.fh hp
  exact (S.grow (Gr.newI S.fh hp)).push_fx fun F' e => ⟨p, vs, rfl, e _ _ upd_same, h.ex ((Ex.new fp).trans e)⟩
theorem ev_lstG (ha : AvR K tr ss rs) (va : rs.all plainSl = true) (hl : rs.length ≤ 1000) : EvR K (tLst tr) ss (.mu (glE K rs)) := fun M F0 H0 F H σ xs ts l S Q q => by
  refine ha M F0 H0 F H σ xs ts l S _ fun vs F1 H1 hl1 g1 S1 => ?_
  have l1 := S.len2
  exact ⟨Nat.le_of_lt (small1000 (by omega)), fun p hp => (RetR.mk g1 (S1.backA l1) q).glE (S1.argsW l1 hl1 va) hp⟩
theorem ev_lstF (ha : AvR K tr ss rs) (va : rs.all plainSl = true) (hl : rs.length ≤ 1000) : EvR K (tLst tr) ss (.fx (flF K rs)) := fun M F0 H0 F H σ xs ts l S Q q => by
  refine ha M F0 H0 F H σ xs ts l S _ fun vs F1 H1 hl1 g1 S1 => ?_
  have l1 := S.len2
  exact ⟨Nat.le_of_lt (small1000 (by omega)), fun p hp => (RetR.mk g1 (S1.backA l1) q).flF (S1.argsW l1 hl1 va) hp⟩
/-! ### what a slot owns stays from now on -/
theorem glE.frz {L : List (Addr × HO)} (h : glE K as F v L) {F2 : Hp} (e : Ex F F2) (hl : ∀ z ∈ L, F2 z.1 = some z.2) : flF K as F2 v := by
  obtain ⟨p, rfl, vs, rfl, a⟩ := h
  exact ⟨p, vs, rfl, hl _ List.mem_cons_self, a.ex e⟩
/-! ### our own list of such grows -/
/-! ### walked -/
theorem st_forF {D : Ends} {g : TG} (S : Sts K M F0 H0 F H (σ ++ gs) (ss ++ gt)) (l : σ.length = ss.length) (h : EvR K te ss (.fx (flF K as))) (W : Nat → List Sl) (w0 : Wk ss (W 0))
    (hs : ∀ k a p, as[k]? = some a → ∀ x σ' F' H', ItR K F' x a → Sts K M F0 H0 F' H' (σ' ++ (gs ++ [some p])) (W k ++ (gt ++ [.fx (flF K as)])) → σ'.length = (W k).length →
      g x σ' H' fun σ2 H2 => tbd { D with nx := Nxt K M F0 H0 (gs ++ [some p]) (gt ++ [.fx (flF K as)]) (W (k + 1)), ct := Nxt K M F0 H0 (gs ++ [some p]) (gt ++ [.fx (flF K as)]) (W (k + 1)), bk := D.nx } σ2 H2)
    (hd : ∀ σ' F' H', Sts K M F0 H0 F' H' (σ' ++ gs) (W as.length ++ gt) → σ'.length = (W as.length).length → D.nx σ' H') (hw : ∀ k, (W k).length = ss.length := by intro _; rfl) : tFor (iList K te) g tbd D σ H := by
  refine h M F0 H0 F H σ gs gt l S _ fun v F1 H1 g1 n1 S1 => ?_
  obtain ⟨b, vs, rfl, hb, aw⟩ := S1.lastF S.len2 F1 (Ex.refl F1)
  refine ⟨b, rfl, ⟨vs, SqL.of (S1.fh _ _ hb)⟩, ?_⟩
  have hg := S.len
  have l4 : ∀ {k : Nat} {σ' : L2.St}, σ'.length = (W k).length → (σ' ++ gs).length = (W k ++ gt).length := fun {k σ'} l3 => by
    rw [List.length_append] at hg ⊢
    rw [List.length_append] at hg ⊢
    have := hw k
    omega
  have look : ∀ {k : Nat} {σ' : L2.St} {F' H' : Hp}, Sts K M F0 H0 F' H' (σ' ++ (gs ++ [some (.ref b)])) (W k ++ (gt ++ [.fx (flF K as)])) → σ'.length = (W k).length → ∃ ws, SqL K H' b ws ∧ AW K F' ws as := fun {k σ' F' H'} S3 l3 => by
    obtain ⟨q, ws, e, x, y⟩ := S3.lastF (l4 l3) F' (Ex.refl F')
    cases e
    exact ⟨ws, SqL.of (S3.fh _ _ x), y⟩
  refine ⟨fun k m σ' H' => m = as.length - k ∧ k ≤ as.length ∧ Nxt K M F0 H0 (gs ++ [some (.ref b)]) (gt ++ [.fx (flF K as)]) (W k) σ' H', ⟨as.length, by simp, Nat.zero_le _, F1, S1.weak (w0.app (Wk.refl _)), by rw [hw, l]⟩, ?_⟩
  rintro k m σ' H' ⟨rfl, hk, F2, S3, l3⟩
  obtain ⟨ws, sq', da'⟩ := look S3 l3
  have hwl := da'.len
  by_cases hlt : k < as.length
  · have hlw : k < ws.length := by rw [hwl]; exact hlt
    refine .inr ⟨⟨ws, ws[k], sq', by simp [hlw]⟩, Nxt K M F0 H0 (gs ++ [some (.ref b)]) (gt ++ [.fx (flF K as)]) (W (k + 1)), fun σ2 H2 p => ⟨as.length - (k + 1), by omega, rfl, hlt, p⟩, fun x H2 y => ?_⟩
    obtain ⟨e, y⟩ := y
    subst e
    obtain ⟨a, e1, e2⟩ := da'.get' (y ws sq')
    exact hs k a _ e1 x σ' F2 _ e2 S3 l3
  · have e : k = as.length := by omega
    subst e
    exact .inl ⟨⟨ws, sq', by rw [hwl]; exact Nat.le_refl _⟩, hd σ' F2 _ (S3.back (l4 l3)) l3⟩
theorem q_forF {D : Ends} {g : TG} (S : Sts K M F0 H0 F H (σ ++ gs) (ss ++ gt)) (l : σ.length = ss.length) (h : EvR K te ss (.fx (flF K as))) (W : Nat → List Sl) (w0 : Wk ss (W 0))
    (hs : ∀ k a p, as[k]? = some a → ∀ x σ' F' H', ItR K F' x a → Sts K M F0 H0 F' H' (σ' ++ (gs ++ [some p])) (W k ++ (gt ++ [.fx (flF K as)])) → σ'.length = (W k).length →
      g x σ' H' fun σ2 H2 => tbd { D with nx := Nxt K M F0 H0 (gs ++ [some p]) (gt ++ [.fx (flF K as)]) (W (k + 1)), ct := Nxt K M F0 H0 (gs ++ [some p]) (gt ++ [.fx (flF K as)]) (W (k + 1)), bk := tz D } σ2 H2)
    (hd : ∀ σ' F' H', Sts K M F0 H0 F' H' (σ' ++ gs) (W as.length ++ gt) → σ'.length = (W as.length).length → tz D σ' H') (hw : ∀ k, (W k).length = ss.length := by intro _; rfl) : tSeq (tFor (iList K te) g tbd) tz D σ H :=
  st_forF (D := { D with nx := tz D }) S l h W w0 hs hd hw
/-! ### a comprehension over such -/
theorem lc_turnF {i : Nat} {F1 H1 : Hp} {D : Addr} {out : List PyData} {b : Bool} (p : LcP K M F0 H0 F1 H1 σ xs ss ts D out H') (l : σ.length = ss.length) (hi : i < ss.length) (na : ss.all Fh.notAl = true) (hx : ItR K F1 x a)
    (ht : TvR K tt ((wipeS ss [i]).set i a) b) (he : b = true → EvR K te ((wipeS ss [i]).set i a) (.dt e)) (hz : out.length < 1000000) :
    gName i x (wipe σ [i]) H' fun σ2 H2 => wipe σ2 [i] = wipe σ [i] ∧ tt σ2 H2 fun b' H3 => if b' = true then te σ2 H3 fun y H4 => ∃ acc, H4 D = some (.lst acc) ∧ acc.length < sizeLine ∧ LcP K M F0 H0 F1 H1 σ xs ss ts D (if b then out ++ [e] else out) (upd H4 D (.lst (acc ++ [y]))) else LcP K M F0 H0 F1 H1 σ xs ss ts D (if b then out ++ [e] else out) H3 := by
  obtain ⟨F', g1, fD, hD, S⟩ := p
  have Sb := S.weak (ss' := ss ++ ((ts ++ [Sl.ls out]).map unAl)) ((Wk.refl ss).app (wk_unAl _))
  obtain ⟨Sw, nw⟩ := Sb.wipes [i] l (in1 hi) na (all_unAl _)
  have S2 := Sw.setI (i := i) (by rw [wipe_length, wipeS_len, l]) (by rw [wipeS_len]; exact hi) (hx.ex g1.ff) (by rw [List.all_append, nw, all_unAl]; rfl)
  have l2 : ((wipe σ [i]).set i (some x)).length = ((wipeS ss [i]).set i a).length := by rw [List.length_set, List.length_set, wipe_length, wipeS_len, l]
  refine ⟨by rw [wipe_set (List.mem_singleton.mpr rfl), wipe_wipe], ?_⟩
  generalize (wipe σ [i]).set i (some x) = σ2 at *
  generalize (wipeS ss [i]).set i a = ss2 at *
  refine ht M F0 H0 F' H' σ2 _ _ l2 S2 _ fun F3 H3 g3 S3 => ?_
  have dix : (ss ++ (ts ++ [Sl.ls out]))[ss.length + ts.length]? = some (.ls out) := by
    rw [← List.append_assoc, List.getElem?_append_right (by rw [List.length_append]; exact Nat.le_refl _), List.length_append, Nat.sub_self]
    rfl
  have six : (σ ++ (xs ++ [some (.ref D)]))[ss.length + ts.length]? = some (some (.ref D)) := by
    have hlen := S.len
    simp only [List.length_append, List.length_cons, List.length_nil] at hlen
    rw [← List.append_assoc, List.getElem?_append_right (by rw [List.length_append]; omega), List.length_append]
    have e0 : ss.length + ts.length - (σ.length + xs.length) = 0 := by omega
    rw [e0]
    rfl
  cases b with
  | false =>
    show LcP K M F0 H0 F1 H1 σ xs ss ts D out H3
    refine ⟨F3, g1.trans g3, g3.nw D ?_ fD, hD, S.grow g3⟩
    obtain ⟨q, ws, a1, b1, c1, d1, k1⟩ := S.write dix
    rw [six] at a1
    cases a1
    rw [b1]
    exact fun z => nomatch z
  | true =>
    refine he rfl M F0 H0 F3 H3 σ2 _ _ l2 S3 _ fun w F4 H4 g4 n4 S4 => ?_
    have S5 := S.grow (g3.trans g4)
    obtain ⟨q, ws, a1, b1, c1, d1, k1⟩ := S5.write dix
    rw [six] at a1
    cases a1
    have hl : (σ2 ++ (xs ++ [some (V.ref D)])).length = (ss2 ++ ((ts ++ [Sl.ls out]).map unAl)).length := S3.len
    have S6 := S4
    rw [← List.append_assoc σ2, ← List.append_assoc ss2] at S6
    obtain ⟨w', e1, e2⟩ := S6.get_dt (i := (ss2 ++ ((ts ++ [Sl.ls out]).map unAl)).length) (by rw [List.getElem?_append_right (Nat.le_refl _), Nat.sub_self]; rfl)
    rw [← hl, last_at] at e1
    cases e1
    refine ⟨ws, b1, by rw [dpAll_len c1, sizeLine_eq]; omega, F4, ((g1.trans (g3.trans g4)).mut hD d1), d1, hD, ?_⟩
    have S7 := k1 (ws ++ [w]) (out ++ [e]) (dpAll_app c1 (.cons e2 .nil))
    have e3 : (ss ++ (ts ++ [Sl.ls out])).set (ss.length + ts.length) (.ls (out ++ [e])) = ss ++ (ts ++ [.ls (out ++ [e])]) := by
      rw [← List.append_assoc, List.set_append_right _ _ (by rw [List.length_append]; exact Nat.le_refl _), List.length_append, Nat.sub_self, List.append_assoc]
      rfl
    rw [e3] at S7
    exact S7
theorem ev_lcF {i : Nat} (f : Nat → Option PyData) (h : EvR K tl ss (.fx (flF K as))) (na : ss.all Fh.notAl = true) (hi : i < ss.length) (hz : as.length ≤ 1000000)
    (hs : ∀ k a, as[k]? = some a → TvR K tt ((wipeS ss [i]).set i a) (f k).isSome ∧ ((f k).isSome = true → EvR K te ((wipeS ss [i]).set i a) (.dt ((f k).getD .none)))) : EvR K (tLc (iList K tl) (gName i) tt te [i]) ss (.ls (got f as.length)) := fun M F0 H0 F H σ xs ts l S Q q => by
  refine h M F0 H0 F H σ xs ts l S _ fun v F1 H1 g1 n1 S1 => ?_
  obtain ⟨b, vv, rfl, hb, aw⟩ := S1.lastF S.len2 F1 (Ex.refl F1)
  have S2 := S1.back S.len2
  refine ⟨b, rfl, ⟨vv, SqL.of (S1.fh _ _ hb)⟩, fun D hD => ?_⟩
  have fD := fresh_back S1.fh hD
  refine lc_list (xs := vv) (fun k H' => LcP K M F0 H0 F1 H1 σ xs ss ts D (got f k) H') ⟨F1, Gr.newM S1.fh hD, fD, hD, ?_⟩ (fun i H' _ p => ?_) (fun k x H' hk p => ?_) fun H' p => ?_
  · have := S2.push_ls (ds := []) (vs := []) (Ex.new hD) hD upd_same .nil
    rw [List.append_assoc, List.append_assoc] at this
    exact this
  · obtain ⟨F', g', _, _, _⟩ := p
    exact SqL.of ((g'.ff.trans g'.fh) _ _ hb)
  · obtain ⟨a, e1, e2⟩ := aw.get' hk
    obtain ⟨t2, t3⟩ := hs k a e1
    have := lc_turnF (tt := tt) (te := te) (b := (f k).isSome) (e := (f k).getD .none) p l hi na e2 t2 t3 (by have := got_len f k; have := (List.getElem?_eq_some_iff.mp e1).1; omega)
    rw [got_succ]
    exact this
  · obtain ⟨F', g', f', _, S'⟩ := p
    rw [aw.len] at S'
    exact q _ F' H' (g1.trans g') ⟨D, rfl, fresh_back g1.hh hD⟩ S'
/-- what a slot owns, told as a frozen thing for a look -/
theorem Sts.tell {i : Nat} (S : Sts K M F0 H0 F H σ ss) (h : ss[i]? = some .no) (hv : σ[i]? = some (some v)) (hφ : ∀ F', Ex F F' → φ F' v) : Sts K M F0 H0 F H σ (ss.set i (.fx φ)) :=
  S.redesc h (fun L e => ⟨e, v, hv, hφ⟩) fun z => nomatch z
theorem glE.tell {L : List (Addr × HO)} (h : glE K as F v L) (e : Ex F (fplus F H)) (hl : ∀ z ∈ L, H z.1 = some z.2) : flF K as (fplus F H) v := by
  obtain ⟨p, rfl, vs, rfl, a⟩ := h
  exact ⟨p, vs, rfl, fplus_at (hl _ List.mem_cons_self) rfl, a.ex e⟩
theorem flF.ex (h : flF K as F v) (e : Ex F F') : flF K as F' v := by
  obtain ⟨p, vs, rfl, a, b⟩ := h
  exact ⟨p, vs, rfl, e _ _ a, b.ex e⟩
theorem EvR.look {i : Nat} (zs : List Sl) (hi : ss[i]? = some (.mu (glE K as))) (hz : zs[i]? = some .no) (h : EvR K te (zs.set i (.fx (flF K as))) r) (f : FzA K ss zs) (fr : tupR r = true) : EvR K te ss r := fun M F0 H0 F H σ xs ts l S Q q => by
  have S0 := S.drop l
  obtain ⟨v, L, a, b, hL, _⟩ := S0.callV hi
  have S1 := (S0.still f).tell hz a fun F' e => (glE.tell (b F (Ex.refl F)) (fplus_l S.fh) fun z hz => (hL z hz).1).ex e
  have S2 : Sts K (fun _ => False) (fplus F H) H (fplus F H) H (σ ++ []) (zs.set i (.fx (flF K as)) ++ []) := by
    rw [List.append_nil, List.append_nil]
    exact S1
  refine h _ _ _ _ _ σ [] [] (by rw [List.length_set, l, f.len]) S2 Q fun v F' H' g n S3 => ?_
  obtain ⟨F2, g2, n2, S4⟩ := push_thaw S fr S3 (by rw [List.length_set, l, f.len])
  exact q v F2 H' g2 n2 (by rw [List.append_assoc, List.append_assoc] at S4; exact S4)
end
end Fh
set_option Elab.async false
set_option linter.all false
set_option maxRecDepth 100000
set_option maxHeartbeats 2000000
/-! a tree of objects that stay: questions *of the seven classes* -/
namespace Fh
open PySem PySem.Spec PyProof.Rows L2 Evl LamX
open PySem.W (Datum)
inductive Kd where
  | word | start | row | near | both | either | no
  deriving DecidableEq
inductive Qt where
  | word (w : Str)
  | start (w : Str)
  | row (ws : List Str)
  | near (a b : Qt) (n : Int)
  | both (a b : Qt)
  | either (a b : Qt)
  | no (a : Qt)
def Qt.kd : Qt → Kd
  | .word _ => .word
  | .start _ => .start
  | .row _ => .row
  | .near _ _ _ => .near
  | .both _ _ => .both
  | .either _ _ => .either
  | .no _ => .no
def Qt.dep : Qt → Nat
  | .near a b _ => 1 + max a.dep b.dep
  | .both a b => 1 + max a.dep b.dep
  | .either a b => 1 + max a.dep b.dep
  | .no a => 1 + a.dep
  | _ => 1
def Qt.cnt : Qt → Nat
  | .near a b _ => 1 + (a.cnt + b.cnt)
  | .both a b => 1 + (a.cnt + b.cnt)
  | .either a b => 1 + (a.cnt + b.cnt)
  | .no a => 1 + a.cnt
  | _ => 1
def Qt.kids : Qt → List Qt
  | .near a b _ => [a, b]
  | .both a b => [a, b]
  | .either a b => [a, b]
  | .no a => [a]
  | _ => []
def Qt.leaves : Qt → List Qt
  | .both a b => a.leaves ++ b.leaves
  | .either a b => a.leaves ++ b.leaves
  | .no _ => []
  | q => [q]
def Qt.toldD : Qt → PyData
  | .word w => .tuple [.str "word", .str w]
  | .start w => .tuple [.str "start", .str w]
  | .row ws => .tuple [.str "row", .tuple (ws.map .str)]
  | .near a b n => .tuple [.str "near", a.toldD, b.toldD, .int n]
  | .both a b => .tuple [.str "both", a.toldD, b.toldD]
  | .either a b => .tuple [.str "either", a.toldD, b.toldD]
  | .no a => .tuple [.str "not", a.toldD]
theorem Qt.dep_pos (q : Qt) : 1 ≤ q.dep := by cases q <;> simp only [Qt.dep] <;> omega
theorem Qt.kid_dep {q a : Qt} (h : a ∈ q.kids) : a.dep + 1 ≤ q.dep := by
  cases q with
  | near x y n =>
    simp only [Qt.kids, List.mem_cons, List.not_mem_nil, or_false] at h
    simp only [Qt.dep]
    rcases h with rfl | rfl <;> omega
  | both x y =>
    simp only [Qt.kids, List.mem_cons, List.not_mem_nil, or_false] at h
    simp only [Qt.dep]
    rcases h with rfl | rfl <;> omega
  | either x y =>
    simp only [Qt.kids, List.mem_cons, List.not_mem_nil, or_false] at h
    simp only [Qt.dep]
    rcases h with rfl | rfl <;> omega
  | no x =>
    simp only [Qt.kids, List.mem_cons, List.not_mem_nil, or_false] at h
    simp only [Qt.dep]
    subst h
    omega
  | _ => cases h
def AskAt (K : PySem.W.Frag) (A : Kd → Addr) : Qt → Hp → V → Prop
  | .word w, F, v => ∃ p dx, v = .ref p ∧ F p = some (.ins (A .word) dx [("word", .str w)])
  | .start w, F, v => ∃ p dx, v = .ref p ∧ F p = some (.ins (A .start) dx [("word", .str w)])
  | .row ws, F, v => ∃ p dx t, v = .ref p ∧ F p = some (.ins (A .row) dx [("side_by_side", t)]) ∧ Fh.Dp K F t (.tuple (ws.map .str))
  | .near a b n, F, v => ∃ p dx x y, v = .ref p ∧ F p = some (.ins (A .near) dx [("one", x), ("other", y), ("far", .int n)]) ∧ AskAt K A a F x ∧ AskAt K A b F y
  | .both a b, F, v => ∃ p dx x y, v = .ref p ∧ F p = some (.ins (A .both) dx [("one", x), ("other", y)]) ∧ AskAt K A a F x ∧ AskAt K A b F y
  | .either a b, F, v => ∃ p dx x y, v = .ref p ∧ F p = some (.ins (A .either) dx [("one", x), ("other", y)]) ∧ AskAt K A a F x ∧ AskAt K A b F y
  | .no a, F, v => ∃ p dx x, v = .ref p ∧ F p = some (.ins (A .no) dx [("one", x)]) ∧ AskAt K A a F x
def askField (m : Str) : Bool := (m == "word") || (m == "side_by_side") || (m == "one") || (m == "other") || (m == "far")
theorem lkv_eq {f : Str} {a : V} {r : List (Str × V)} : List.lookup f ((f, a) :: r) = some a := by
  unfold List.lookup
  rw [beq_self_eq_true]
theorem lkv_ne {f g : Str} {a : V} {r : List (Str × V)} (h : (f == g) = false) : List.lookup f ((g, a) :: r) = List.lookup f r := by
  unfold List.lookup
  rw [h]
  cases r <;> rfl
theorem askField_no {m : Str} (h : askField m = false) : (m == "word") = false ∧ (m == "side_by_side") = false ∧ (m == "one") = false ∧ (m == "other") = false ∧ (m == "far") = false := by
  unfold askField at h
  simp only [Bool.or_eq_false_iff] at h
  exact ⟨h.1.1.1.1, h.1.1.1.2, h.1.1.2, h.1.2, h.2⟩
section
variable {K : PySem.W.Frag} {A : Kd → Addr} {M : Addr → Prop} {F0 H0 F H F' H' : Hp} {σ xs gs : L2.St} {ss ts rs gt ss2 ss3 as bs : List Sl} {ta tb te tc td tl tj tk tv : TE} {tr : TA} {t u tt : TT} {tz tbd tu tw : TS} {r ra rb a b : Sl} {d da db e : PyData} {ds es ds1 ds2 : List PyData} {Q : VK} {v x y v0 v2 vd w : V} {vs ws : List V} {p q C P : Addr} {E E' : XK} {i j k n : Nat} {φ : Hp → V → Prop} {m : Str}
theorem AskAt.ex : ∀ {q : Qt} {v : V}, AskAt K A q F v → Ex F F' → AskAt K A q F' v
  | .word _, _, ⟨p, dx, a, b⟩, e => ⟨p, dx, a, e _ _ b⟩
  | .start _, _, ⟨p, dx, a, b⟩, e => ⟨p, dx, a, e _ _ b⟩
  | .row _, _, ⟨p, dx, t, a, b, c⟩, e => ⟨p, dx, t, a, e _ _ b, dp_ex e _ _ c⟩
  | .near _ _ _, _, ⟨p, dx, x, y, a, b, c, d⟩, e => ⟨p, dx, x, y, a, e _ _ b, c.ex e, d.ex e⟩
  | .both _ _, _, ⟨p, dx, x, y, a, b, c, d⟩, e => ⟨p, dx, x, y, a, e _ _ b, c.ex e, d.ex e⟩
  | .either _ _, _, ⟨p, dx, x, y, a, b, c, d⟩, e => ⟨p, dx, x, y, a, e _ _ b, c.ex e, d.ex e⟩
  | .no _, _, ⟨p, dx, x, a, b, c⟩, e => ⟨p, dx, x, a, e _ _ b, c.ex e⟩
theorem AskAt.ins : ∀ {q : Qt} {F : Hp} {v : V}, AskAt K A q F v → ∃ p dx fs, v = .ref p ∧ F p = some (.ins (A q.kd) dx fs) ∧ ∀ m, askField m = false → fs.lookup m = none
  | .word _, _, _, ⟨p, dx, a, b⟩ => ⟨p, dx, _, a, b, fun m h => by obtain ⟨h1, h2, h3, h4, h5⟩ := askField_no h; rw [lkv_ne h1]; rfl⟩
  | .start _, _, _, ⟨p, dx, a, b⟩ => ⟨p, dx, _, a, b, fun m h => by obtain ⟨h1, h2, h3, h4, h5⟩ := askField_no h; rw [lkv_ne h1]; rfl⟩
  | .row _, _, _, ⟨p, dx, t, a, b, c⟩ => ⟨p, dx, _, a, b, fun m h => by obtain ⟨h1, h2, h3, h4, h5⟩ := askField_no h; rw [lkv_ne h2]; rfl⟩
  | .near _ _ _, _, _, ⟨p, dx, x, y, a, b, c, d⟩ => ⟨p, dx, _, a, b, fun m h => by obtain ⟨h1, h2, h3, h4, h5⟩ := askField_no h; rw [lkv_ne h3, lkv_ne h4, lkv_ne h5]; rfl⟩
  | .both _ _, _, _, ⟨p, dx, x, y, a, b, c, d⟩ => ⟨p, dx, _, a, b, fun m h => by obtain ⟨h1, h2, h3, h4, h5⟩ := askField_no h; rw [lkv_ne h3, lkv_ne h4]; rfl⟩
  | .either _ _, _, _, ⟨p, dx, x, y, a, b, c, d⟩ => ⟨p, dx, _, a, b, fun m h => by obtain ⟨h1, h2, h3, h4, h5⟩ := askField_no h; rw [lkv_ne h3, lkv_ne h4]; rfl⟩
  | .no _, _, _, ⟨p, dx, x, a, b, c⟩ => ⟨p, dx, _, a, b, fun m h => by obtain ⟨h1, h2, h3, h4, h5⟩ := askField_no h; rw [lkv_ne h3]; rfl⟩
abbrev askS (K : PySem.W.Frag) (A : Kd → Addr) (q : Qt) : Sl := .fx (AskAt K A q)
/-- a method of whatever class it is -/
theorem ev_askM {q : Qt} {RR : Kd → RG} {X : Kd → XG} (ha : EvR K ta ss (askS K A q)) (hm : askField m = false) (hb : AvR K tr ss rs) (va : rs.all plainSl = true) (h : RR q.kd (askS K A q :: rs) r) : EvR K (tAny fun k : Kd => tMeth (A k) m (spG K (RR k) (X k)) [] E ta tr) ss r :=
  ev_which q.kd (ev_methG ha (fun F v h => by
    obtain ⟨p, dx, fs, a, b, c⟩ := AskAt.ins h
    exact ⟨p, dx, fs, a, b, c m hm⟩) hb va h)
def askL (K : PySem.W.Frag) (A : Kd → Addr) (l : List Qt) : List Sl := l.map (askS K A)
def R_kids (K : PySem.W.Frag) (A : Kd → Addr) (k : Kd) : RG := fun as r => ∃ q : Qt, as = [askS K A q] ∧ q.kd = k ∧ (r = .mu (glE K (askL K A q.kids)) ∨ r = .fx (flF K (askL K A q.kids)))
def R_many (K : PySem.W.Frag) (A : Kd → Addr) (n : Nat) : RG := fun as r => ∃ q : Qt, as = [askS K A q] ∧ q.dep ≤ n ∧ r = .dt (.int (q.cnt : Int))
theorem ev_kidsF {q : Qt} (ha : EvR K ta ss (askS K A q)) : EvR K (tAny fun k : Kd => tMeth (A k) "kids" (spG K (R_kids K A k) noXG) [] E ta tNil) ss (.fx (flF K (askL K A q.kids))) :=
  ev_askM (RR := R_kids K A) (X := fun _ => noXG) ha (by decide +kernel) av_nil rfl ⟨q, rfl, rfl, .inr rfl⟩
/-! ### made -/
theorem aw2 {vs : List V} (h : AW K F vs [a, b]) : ∃ v w, vs = [v, w] ∧ ItR K F v a ∧ ItR K F w b := by
  obtain ⟨v, e1, h1⟩ := h.get (k := 0) rfl
  obtain ⟨w, e2, h2⟩ := h.get (k := 1) rfl
  have l := h.len
  match vs, l, e1, e2 with
  | [v', w'], _, e1, e2 =>
    cases e1
    cases e2
    exact ⟨_, _, rfl, h1, h2⟩
theorem aw1 {vs : List V} (h : AW K F vs [a]) : ∃ v, vs = [v] ∧ ItR K F v a := by
  obtain ⟨v, e1, h1⟩ := h.get (k := 0) rfl
  have l := h.len
  match vs, l, e1 with
  | [v'], _, e1 =>
    cases e1
    exact ⟨_, rfl, h1⟩
theorem aw3 {c : Sl} {vs : List V} (h : AW K F vs [a, b, c]) : ∃ v w u, vs = [v, w, u] ∧ ItR K F v a ∧ ItR K F w b ∧ ItR K F u c := by
  obtain ⟨v, e1, h1⟩ := h.get (k := 0) rfl
  obtain ⟨w, e2, h2⟩ := h.get (k := 1) rfl
  obtain ⟨u, e3, h3⟩ := h.get (k := 2) rfl
  have l := h.len
  match vs, l, e1, e2, e3 with
  | [v', w', u'], _, e1, e2, e3 =>
    cases e1
    cases e2
    cases e3
    exact ⟨_, _, _, rfl, h1, h2, h3⟩
/-- told in other words -/
theorem EvR.asX {φ' : Hp → V → Prop} (h : EvR K te ss (.fx φ)) (g : ∀ F v, φ F v → φ' F v) : EvR K te ss (.fx φ') := fun M F0 H0 F H σ xs ts l S Q q => by
  refine h M F0 H0 F H σ xs ts l S Q fun v F' H' gr n S' => ?_
  have l2 := S.len2
  refine q v F' H' gr trivial ?_
  have hv := S'.lastF l2
  have := (S'.back l2).push_fx (v := v) (φ := φ') fun F2 e2 => g _ _ (hv F2 e2)
  rw [List.append_assoc, List.append_assoc] at this
  exact this
theorem ev_mkWord {w : Str} (ha : AvR K tr ss [.dt (.str w)]) : EvR K (tMake (A .word) (spI (A .word) ["word"]) [] E tr) ss (askS K A (.word w)) := by
  refine (ev_makeI (N := ["word"]) ha rfl rfl).asX fun F v ⟨p, dx, ws, h1, h2, h3⟩ => ?_
  obtain ⟨w', rfl, h⟩ := aw1 h3
  have h' : Fh.Dp K F w' (.str w) := h
  cases h'
  exact ⟨p, dx, h1, h2⟩
theorem ev_mkStart {w : Str} (ha : AvR K tr ss [.dt (.str w)]) : EvR K (tMake (A .start) (spI (A .start) ["word"]) [] E tr) ss (askS K A (.start w)) := by
  refine (ev_makeI (N := ["word"]) ha rfl rfl).asX fun F v ⟨p, dx, ws, h1, h2, h3⟩ => ?_
  obtain ⟨w', rfl, h⟩ := aw1 h3
  have h' : Fh.Dp K F w' (.str w) := h
  cases h'
  exact ⟨p, dx, h1, h2⟩
theorem ev_mkNear {x y : Qt} {z : Int} (ha : AvR K tr ss [askS K A x, askS K A y, .dt (.int z)]) : EvR K (tMake (A .near) (spI (A .near) ["one", "other", "far"]) [] E tr) ss (askS K A (.near x y z)) := by
  refine (ev_makeI (N := ["one", "other", "far"]) ha rfl rfl).asX fun F v ⟨p, dx, ws, h1, h2, h3⟩ => ?_
  obtain ⟨v1, v2, v3, rfl, g1, g2, g3⟩ := aw3 h3
  have g3' : Fh.Dp K F v3 (.int z) := g3
  cases g3'
  exact ⟨p, dx, v1, v2, h1, h2, g1 F (Ex.refl F), g2 F (Ex.refl F)⟩
theorem ev_mkBoth {x y : Qt} (ha : AvR K tr ss [askS K A x, askS K A y]) : EvR K (tMake (A .both) (spI (A .both) ["one", "other"]) [] E tr) ss (askS K A (.both x y)) := by
  refine (ev_makeI (N := ["one", "other"]) ha rfl rfl).asX fun F v ⟨p, dx, ws, h1, h2, h3⟩ => ?_
  obtain ⟨v1, v2, rfl, g1, g2⟩ := aw2 h3
  exact ⟨p, dx, v1, v2, h1, h2, g1 F (Ex.refl F), g2 F (Ex.refl F)⟩
theorem ev_mkEither {x y : Qt} (ha : AvR K tr ss [askS K A x, askS K A y]) : EvR K (tMake (A .either) (spI (A .either) ["one", "other"]) [] E tr) ss (askS K A (.either x y)) := by
  refine (ev_makeI (N := ["one", "other"]) ha rfl rfl).asX fun F v ⟨p, dx, ws, h1, h2, h3⟩ => ?_
  obtain ⟨v1, v2, rfl, g1, g2⟩ := aw2 h3
  exact ⟨p, dx, v1, v2, h1, h2, g1 F (Ex.refl F), g2 F (Ex.refl F)⟩
theorem ev_mkNot {x : Qt} (ha : AvR K tr ss [askS K A x]) : EvR K (tMake (A .no) (spI (A .no) ["one"]) [] E tr) ss (askS K A (.no x)) := by
  refine (ev_makeI (N := ["one"]) ha rfl rfl).asX fun F v ⟨p, dx, ws, h1, h2, h3⟩ => ?_
  obtain ⟨v1, rfl, g1⟩ := aw1 h3
  exact ⟨p, dx, v1, h1, h2, g1 F (Ex.refl F)⟩
/-- Row(words) of a tuple: its __init__ lays the tuple itself -/
def spRow (K : PySem.W.Frag) (C : Addr) : Sp := fun vs H Q _ => ∃ p dx t xs, vs = [.ref p, .ref t] ∧ H p = some (.ins C dx []) ∧ SqT K H t xs ∧ Q .non (upd H p (.ins C dx [("side_by_side", .ref t)]))
theorem ev_mkRow {ws : List Str} (ha : AvR K tr ss [.dt (.tuple (ws.map .str))]) : EvR K (tMake (A .row) (spRow K (A .row)) [] E tr) ss (askS K A (.row ws)) := fun M F0 H0 F H σ xs ts l S Q q => by
  refine ha M F0 H0 F H σ xs ts l S _ fun vs F1 H1 hlv g1 S1 => ?_
  have l1 := S.len2
  intro x dx nx ndx ne
  obtain ⟨v1, rfl, d1⟩ := aw1 (S1.argsW l1 hlv rfl)
  have d1' : Fh.Dp K F1 v1 (.tuple (ws.map .str)) := d1
  have d1c := d1'
  obtain ⟨t, us, rfl, sq, da⟩ := rdT_of d1' S1.fh
  have ex0 : Ex H1 (upd (upd H1 dx (.own x)) x (.ins (A .row) dx [])) := fun a o h => by
    have n1 : a ≠ x := fun e => by rw [e, nx] at h; cases h
    have n2 : a ≠ dx := fun e => by rw [e, ndx] at h; cases h
    rw [upd_ne n1, upd_ne n2]
    exact h
  refine ⟨x, dx, t, us, rfl, upd_same, ex_t ex0 sq, rfl, ?_⟩
  have fx1 : F1 x = none := fresh_back S1.fh nx
  have ex1 : Ex H1 (upd (upd (upd H1 dx (.own x)) x (.ins (A .row) dx [])) x (.ins (A .row) dx [("side_by_side", .ref t)])) := fun a o h => by
    have n1 : a ≠ x := fun e => by rw [e, nx] at h; cases h
    rw [upd_ne n1]
    exact ex0 a o h
  have exF : Ex F1 (upd F1 x (.ins (A .row) dx [("side_by_side", .ref t)])) := Ex.new fx1
  refine (RetR.mk g1 (S1.backA l1) q : RetR K F1 H1 _ Q) (.ref x) (upd F1 x (.ins (A .row) dx [("side_by_side", .ref t)])) _ fun M F0 H0 σ ss S => ?_
  have g : Gr F1 H1 (upd F1 x (.ins (A .row) dx [("side_by_side", .ref t)])) (upd (upd (upd H1 dx (.own x)) x (.ins (A .row) dx [])) x (.ins (A .row) dx [("side_by_side", .ref t)])) := ⟨exF, ex1, fun a o h => ?_, fun a h1 h2 => ?_⟩
  · exact (S.grow g).push_fx fun F' e => ⟨x, dx, .ref t, rfl, e _ _ upd_same, dp_ex (exF.trans e) _ _ d1c⟩
  · by_cases e : a = x
    · rw [e, upd_same] at h ⊢
      exact h
    · rw [upd_ne e] at h
      exact ex1 _ _ (S1.fh a o h)
  · have e : a ≠ x := fun e => h1 (e ▸ nx)
    rw [upd_ne e]
    exact h2
end
end Fh
set_option Elab.async false
set_option linter.all false
set_option maxRecDepth 100000
set_option maxHeartbeats 2000000
/-! what raises among arguments; promises of nothing; a slot that a def takes over *from its caller* -/
namespace Fh
open PySem PySem.Spec PyProof.Rows L2 Evl LamX
open PySem.W (Datum)
section
variable {K : PySem.W.Frag} {A : Kd → Addr} {M : Addr → Prop} {F0 H0 F H F' H' : Hp} {σ xs gs : L2.St} {ss ts rs gt ss2 ss3 as bs : List Sl} {ta tb te tc td tl tj tk tv : TE} {tr : TA} {t u tt : TT} {tz tbd tu tw : TS} {r ra rb a b : Sl} {d da db e : PyData} {ds es ds1 ds2 : List PyData} {Q : VK} {v x y v0 v2 vd w : V} {vs ws : List V} {p q C C' P : Addr} {E E' : XK} {i j k n : Nat} {φ : Hp → V → Prop} {m : Str} {sp : Sp} {dvs : List V}
theorem nsa_next (ha : EvR K te ss r) (h : NsA K tr ss E C) : NsA K (tCons te tr) ss E C := fun M F0 H0 F H σ xs ts l S k Q => by
  refine ha M F0 H0 F H σ xs ts l S _ fun v F1 H1 g1 n1 S1 => ?_
  have l1 := S.len2
  exact h M F0 H0 F1 H1 σ _ _ l S1 (fun F2 H2 g2 S2 => k F2 H2 (g1.trans g2) (S2.back l1)) _
theorem ns_make (h : NsA K tr ss E C) : NsR K (tMake C' sp dvs E' tr) ss E C := fun M F0 H0 F H σ xs ts l S k Q => h M F0 H0 F H σ xs ts l S k _
theorem FnOk.none {P : Program} {w : World} {K : PySem.W.Frag} {mg : Str → Option Value} {base : Heap} {k : Nat} {f : Addr} {fd : FuncData} {ps : List Str} {sp : Sp} (h : ∀ vs H Q E, ¬ sp vs H Q E) : L2.FnOk P w K mg base (L2.CX P w) k f fd ps sp :=
  ⟨fun vs H Q E s => (h vs H Q E s).elim, fun A outer s H args us vs Q E hr he hb hv hs => (h vs H Q E hs).elim⟩
end
end Fh
set_option Elab.async false
set_option linter.all false
set_option maxRecDepth 100000
set_option maxHeartbeats 2000000
/-! a def that takes over one list of its caller -/
namespace Fh
open PySem PySem.Spec PyProof.Rows L2 Evl LamX
open PySem.W (Datum)
abbrev RL := List Sl → List Sl → List Sl → List Sl → Sl → Prop
def spL (K : PySem.W.Frag) (R : RL) : Sp := fun vs H Q E => ∃ (F : Hp) (ws1 ws2 : List V) (p : Addr) (us : List V) (as1 as2 hs hs' : List Sl) (r : Sl), vs = ws1 ++ V.ref p :: ws2 ∧ Ex F H ∧ AW K F ws1 as1 ∧ AW K F ws2 as2 ∧ H p = some (.lst us) ∧ F p = none ∧ AW K F us hs ∧ R as1 as2 hs hs' r ∧
  ∀ x F' H', Sts K (fun a => a = p) F H F' H' [some (.ref p), some x] [.mu (glAt K p hs'), r] → Q x H'
def GlV (K : PySem.W.Frag) (G : List Sl → Vw) : Prop := ∀ hs F v L, G hs F v L → ∃ p, glAt K p hs F v L ∧ ∀ hs' F' v' L', glAt K p hs' F' v' L' → G hs' F' v' L'
section
variable {K : PySem.W.Frag} {M : Addr → Prop} {F0 H0 F H F' H' : Hp} {σ xs gs ys : L2.St} {ss ts rs gt ss2 ss3 as bs as1 as2 hs hs' rs1 rs2 us' : List Sl} {ta tb te tc td tl tj tk tv : TE} {tr : TA} {t u tt : TT} {tz tbd tu tw : TS} {r ra rb a b : Sl} {d da db e : PyData} {ds es ds1 ds2 : List PyData} {Q : VK} {v x y v0 v2 vd w : V} {vs ws ws1 ws2 us : List V} {p q C P : Addr} {E E' : XK} {i j k n : Nat} {W : WX} {R : RL} {G : List Sl → Vw} {φ : Hp → V → Prop}
theorem glV_E : GlV K (glE K) := fun hs F v L ⟨p, h⟩ => ⟨p, h, fun _ _ _ _ h' => ⟨p, h'⟩⟩
theorem glV_at : GlV K (glAt K p) := fun hs F v L h => ⟨p, h, fun _ _ _ _ h' => h'⟩
theorem spL_len {n : Nat} (hR : ∀ a b c d r, R a b c d r → a.length + 1 + b.length = n) : ∀ vs H Q E, spL K R vs H Q E → vs.length = n := fun vs H Q E h => by
  obtain ⟨F, ws1, ws2, p, us, as1, as2, hs, hs', r, rfl, _, h1, h2, _, _, _, hr, _⟩ := h
  have := hR _ _ _ _ _ hr
  rw [List.length_append, List.length_cons, h1.len, h2.len]
  omega
theorem Sts.pushOld (S : Sts K (fun a => a = p) F H F H σ ss) (l : ss.all plainSl = true) (hp : H p = some (.lst us)) (fp : F p = none) (h : AW K F us hs) : Sts K (fun a => a = p) F H F H (σ ++ [some (.ref p)]) (ss ++ [.mu (glAt K p hs)]) := by
  obtain ⟨g0, len, L, O⟩ := S
  have none_ : ∀ {i}, i < ss.length → L i = [] := fun {i} hi => by
    have e := List.getElem?_eq_getElem hi
    have pl := List.all_eq_true.mp l _ (List.getElem_mem hi)
    have ok := O.ok i _ e
    generalize ss[i] = s at pl ok
    cases s with
    | dt d => exact ok.1
    | fx φ => exact ok.1
    | _ => cases pl
  have hl : (ss ++ [Sl.mu (glAt K p hs)]).length = ss.length + 1 := by rw [List.length_append]; rfl
  have get : ∀ {j s}, (ss ++ [Sl.mu (glAt K p hs)])[j]? = some s → (j < ss.length ∧ ss[j]? = some s) ∨ (j = ss.length ∧ s = .mu (glAt K p hs)) := fun {j s} e => by
    have hj := (List.getElem?_eq_some_iff.mp e).1
    by_cases h : j < ss.length
    · rw [List.getElem?_append_left h] at e
      exact .inl ⟨h, e⟩
    · have : j = ss.length := by omega
      subst this
      rw [List.getElem?_append_right (Nat.le_refl _), Nat.sub_self] at e
      cases e
      exact .inr ⟨rfl, rfl⟩
  refine ⟨g0, by rw [List.length_append, hl, len]; rfl, fun i => if i = ss.length then [(p, .lst us)] else L i, fun j s e => ?_, fun j s q o e hq => ?_, fun j hj => ?_, fun i j q hi hj h1 h2 => ?_⟩
  · rcases get e with ⟨h, e⟩ | ⟨rfl, rfl⟩
    · rw [if_neg (by omega)]
      refine (O.ok j s e).cong fun k hk => ?_
      rw [List.getElem?_append_left (by omega)]
    · rw [if_pos rfl]
      exact ⟨.ref p, by rw [← len]; exact last_at, fun F' e => ⟨rfl, us, rfl, h.ex e⟩⟩
  · rcases get e with ⟨h, e⟩ | ⟨rfl, rfl⟩
    · rw [if_neg (by omega), none_ h] at hq
      cases hq
    · rw [if_pos rfl] at hq
      cases List.mem_singleton.mp hq
      exact ⟨hp, fp, .inr ⟨rfl, rfl⟩⟩
  · by_cases h : j = ss.length
    · simp only [if_pos h]
      simp
    · simp only [if_neg h]
      exact O.nd j (by omega)
  · rw [hl] at hi hj
    by_cases h : i = ss.length
    · by_cases h' : j = ss.length
      · omega
      · rw [if_neg h', none_ (by omega)] at h2
        cases h2
    · rw [if_neg h, none_ (by omega)] at h1
      cases h1
theorem AW.pl : ∀ {vs : List V} {as : List Sl}, AW K F vs as → as.all plainSl = true
  | _, _, .nil => rfl
  | _, _, .dt _ t => t.pl
  | _, _, .fx _ t => t.pl
theorem Sts.initL {N : List Str} (e : Ex F H) (h1 : AW K F ws1 as1) (h2 : AW K F ws2 as2) (hp : H p = some (.lst us)) (fp : F p = none) (h : AW K F us hs) : Sts K (fun a => a = p) F H F H (L2.start N (ws1 ++ V.ref p :: ws2) ++ []) (ssG N.length (as1 ++ .mu (glAt K p hs) :: as2) ++ []) := by
  have S0 : Sts K (fun a => a = p) F H F H [] [] := ⟨(Gr.refl e).toM, rfl, fun _ => [], by intro i s h; simp at h, by intro i s p o h; simp at h, fun i h => by simp at h, fun i j p h => by simp at h⟩
  have S1 := h1.push S0
  rw [List.nil_append, List.nil_append] at S1
  have S2 := h2.push (S1.pushOld h1.pl hp fp h)
  have S3 := S2.pad (N.length - (ws1 ++ V.ref p :: ws2).length)
  rw [List.append_nil, List.append_nil]
  unfold L2.start ssG
  rw [show (as1 ++ Sl.mu (glAt K p hs) :: as2).length = (ws1 ++ V.ref p :: ws2).length by rw [List.length_append, List.length_append, List.length_cons, List.length_cons, h1.len, h2.len]]
  simpa [List.append_assoc] using S3
theorem init_lenL {N : List Str} (h1 : AW K F ws1 as1) (h2 : AW K F ws2 as2) : (L2.start N (ws1 ++ V.ref p :: ws2)).length = (ssG N.length (as1 ++ .mu (glAt K p hs) :: as2)).length := by
  unfold L2.start ssG
  simp only [List.length_append, List.length_map, List.length_cons, List.length_replicate, h1.len, h2.len]
/-- handed back -/
theorem stL_ret {D : Ends} (S : Sts K M F0 H0 F H (σ ++ gs) (ss ++ gt)) (l : σ.length = ss.length) (h : ss[i]? = some (.mu (glAt K p hs))) (he : EvR K te ss r) (nr : notAl r = true)
    (k : ∀ x F' H', Sts K M F0 H0 F' H' [some (.ref p), some x] [.mu (glAt K p hs), r] → D.rt x H') : tRet te D σ H := by
  refine he M F0 H0 F H σ gs gt l S _ fun v F1 H1 g1 n1 S1 => ?_
  have hi := (List.getElem?_eq_some_iff.mp h).1
  have l2 := S.len2
  rw [← List.append_assoc, ← List.append_assoc] at S1
  have h' : (ss ++ gt)[i]? = some (.mu (glAt K p hs)) := by rw [List.getElem?_append_left hi]; exact h
  obtain ⟨w, L, a, b, _⟩ := (S1.drop l2).callV h'
  have ew : w = .ref p := (b F1 (Ex.refl F1)).1
  subst ew
  exact k v F1 H1 (S1.pick2g l2 h' a nr)
theorem stL_retM {D : Ends} (S : Sts K M F0 H0 F H (σ ++ gs) (ss ++ gt)) (l : σ.length = ss.length) (he : EvM K te ss ss2 r) (hl2 : ss2.length = ss.length) (h : ss2[i]? = some (.mu (glAt K p hs))) (nr : notAl r = true)
    (k : ∀ x F' H', Sts K M F0 H0 F' H' [some (.ref p), some x] [.mu (glAt K p hs), r] → D.rt x H') : tRet te D σ H := by
  refine he M F0 H0 F H σ gs gt l S _ fun v F1 H1 S1 => ?_
  have hi := (List.getElem?_eq_some_iff.mp h).1
  have l2 : (σ ++ gs).length = (ss2 ++ gt).length := by
    have := S.len
    rw [List.length_append] at this ⊢
    rw [List.length_append] at this ⊢
    omega
  rw [← List.append_assoc, ← List.append_assoc] at S1
  have h' : (ss2 ++ gt)[i]? = some (.mu (glAt K p hs)) := by rw [List.getElem?_append_left hi]; exact h
  obtain ⟨w, L, a, b, _⟩ := (S1.drop l2).callV h'
  have ew : w = .ref p := (b F1 (Ex.refl F1)).1
  subst ew
  exact k v F1 H1 (S1.pick2g l2 h' a nr)
/-! ### called -/
theorem args_split {rs1 rs2 : List Sl} {s : Sl} {vs : List V} (hl : vs.length = (rs1 ++ s :: rs2).length) : ∃ ws1 v ws2, vs = ws1 ++ v :: ws2 ∧ ws1.length = rs1.length ∧ ws2.length = rs2.length := by
  rw [List.length_append, List.length_cons] at hl
  refine ⟨vs.take rs1.length, vs[rs1.length]'(by omega), vs.drop (rs1.length + 1), ?_, by rw [List.length_take]; omega, by rw [List.length_drop]; omega⟩
  rw [List.getElem_cons_drop, List.take_append_drop]
theorem Sts.args3 {s : Sl} (S : Sts K M F0 H0 F H (σ ++ (xs ++ (ws1 ++ v :: ws2).map some)) (ss ++ (ts ++ (rs1 ++ s :: rs2)))) (l : (σ ++ xs).length = (ss ++ ts).length) (l1 : ws1.length = rs1.length) (l2 : ws2.length = rs2.length) (p1 : rs1.all plainSl = true) (p2 : rs2.all plainSl = true) :
    AW K F ws1 rs1 ∧ AW K F ws2 rs2 ∧ Sts K M F0 H0 F H (σ ++ ((xs ++ ws1.map some) ++ [some v])) (ss ++ ((ts ++ rs1) ++ [s])) := by
  have l3 : (σ ++ ((xs ++ ws1.map some) ++ [some v])).length = (ss ++ ((ts ++ rs1) ++ [s])).length := by
    simp only [List.length_append, List.length_map, List.length_cons, List.length_nil] at l ⊢
    omega
  have S2 : Sts K M F0 H0 F H (σ ++ (((xs ++ ws1.map some) ++ [some v]) ++ ws2.map some)) (ss ++ (((ts ++ rs1) ++ [s]) ++ rs2)) := by simpa [List.append_assoc] using S
  have S3 := S2.backA l3
  have S4 : Sts K M F0 H0 F H (σ ++ (xs ++ ws1.map some)) (ss ++ (ts ++ rs1)) := S3.back (by
    simp only [List.length_append, List.length_map, List.length_cons, List.length_nil] at l ⊢
    omega)
  exact ⟨S4.argsW l l1 p1, S2.argsW l3 l2 p2, S3⟩
theorem moP : (fun a => a = p) = MO [(p, HO.lst us)] := by
  funext a
  apply propext
  unfold MO
  simp
theorem evM_callL (g : GlV K G) (hi : ss[i]? = some (.mu (G hs))) (ha : AvR K tr ss (rs1 ++ .al i :: rs2)) (p1 : rs1.all plainSl = true) (p2 : rs2.all plainSl = true) (h : R rs1 rs2 hs hs' r) (nr : notMu r = true) : EvM K (tCall (spL K R) [] E tr) ss (ss.set i (.mu (G hs'))) r := fun M F0 H0 F H σ xs ts l S Q k => by
  refine ha M F0 H0 F H σ xs ts l S _ fun vs F1 H1 hl g1 S1 => ?_
  have li := (List.getElem?_eq_some_iff.mp hi).1
  have l1 := S.len2
  obtain ⟨ws1, v, ws2, rfl, e1, e2⟩ := args_split hl
  obtain ⟨a1, a2, S2⟩ := S1.args3 l1 e1 e2 p1 p2
  have S3 := S1.backA l1
  obtain ⟨v', L, b1, b2, b3, b4, run⟩ := S3.callV (i := i) (by rw [List.getElem?_append_left li]; exact hi)
  obtain ⟨p, ⟨rfl, us, eL, hus⟩, back⟩ := g _ _ _ _ (b2 F1 (Ex.refl F1))
  have ev : v = .ref p := by
    have S5 := S2
    rw [← List.append_assoc, ← List.append_assoc ss] at S5
    obtain ⟨w, c1, c2⟩ := S5.get_al (i := (ss ++ (ts ++ rs1)).length) (j := i) (by rw [List.getElem?_append_right (Nat.le_refl _), Nat.sub_self]; rfl)
    have le : (ss ++ (ts ++ rs1)).length = (σ ++ (xs ++ ws1.map some)).length := by
      simp only [List.length_append, List.length_map] at l1 ⊢
      omega
    rw [le, last_at] at c1
    cases c1
    rw [List.append_assoc, List.getElem?_append_left (by omega)] at c2
    rw [List.getElem?_append_left (by omega), c2] at b1
    cases b1
    rfl
  subst ev
  obtain ⟨hp, fp⟩ := b3 (p, .lst us) (by rw [eL]; exact List.mem_cons_self)
  show spL K R ((ws1 ++ V.ref p :: ws2) ++ []) H1 Q E
  rw [List.append_nil]
  refine ⟨F1, ws1, ws2, p, us, rs1, rs2, hs, hs', r, rfl, S1.fh, a1, a2, hp, fp, hus, h, fun x F' H' S4 => ?_⟩
  rw [moP (us := us)] at S4
  have S6 := run [(p, .lst us)] (.ref p) (glAt K p hs') (G hs') r x F' H' (fun z hz => by rw [eL]; exact hz) nr S4 fun L1' h1 n1 _ => ⟨L1', fun z hz => .inl hz, n1, fun F'' e => back _ _ _ _ (h1 F'' e)⟩
  rw [List.set_append_left _ _ li, List.append_assoc, List.append_assoc] at S6
  exact k x F' H' S6
theorem Sts.skip (S : Sts K M F0 H0 F H ((σ ++ ys) ++ [some x]) ((ss ++ ts) ++ [r])) (l : σ.length = ss.length) (ly : ys.length = ts.length) (nr : notAl r = true) : Sts K M F0 H0 F H (σ ++ [some x]) (ss ++ [r]) := by
  obtain ⟨g0, len, L, O⟩ := S
  have hl : (ss ++ [r]).length = ss.length + 1 := by rw [List.length_append]; rfl
  have hl2 : ((ss ++ ts) ++ [r]).length = ss.length + ts.length + 1 := by rw [List.length_append, List.length_append]; rfl
  let g : Nat → Nat := fun i => if i < ss.length then i else ss.length + ts.length
  have glt : ∀ i, g i < ((ss ++ ts) ++ [r]).length := fun i => by
    rw [hl2]
    show (if i < ss.length then i else _) < _
    split <;> omega
  have get : ∀ {j s}, (ss ++ [r])[j]? = some s → (j < ss.length ∧ ss[j]? = some s ∧ g j = j ∧ ((ss ++ ts) ++ [r])[g j]? = some s) ∨ (j = ss.length ∧ s = r ∧ g j = ss.length + ts.length ∧ ((ss ++ ts) ++ [r])[g j]? = some s) := fun {j s} e => by
    have hj := (List.getElem?_eq_some_iff.mp e).1
    by_cases h : j < ss.length
    · rw [List.getElem?_append_left h] at e
      have eg : g j = j := if_pos h
      exact .inl ⟨h, e, eg, by rw [eg, List.append_assoc, List.getElem?_append_left h]; exact e⟩
    · have : j = ss.length := by omega
      subst this
      rw [List.getElem?_append_right (Nat.le_refl _), Nat.sub_self] at e
      cases e
      have eg : g ss.length = ss.length + ts.length := if_neg h
      exact .inr ⟨rfl, rfl, eg, by rw [eg, ← List.length_append, List.getElem?_append_right (Nat.le_refl _), Nat.sub_self]; rfl⟩
  refine ⟨g0, by rw [List.length_append, hl, l]; rfl, fun i => L (g i), fun j s e => ?_, fun j s q o e hq => ?_, fun j hj => O.nd _ (glt j), fun i j q hi hj h1 h2 => ?_⟩
  · rcases get e with ⟨h, e1, e2, e3⟩ | ⟨rfl, rfl, e2, e3⟩
    · rw [e2] at e3 ⊢
      refine (O.ok j s e3).cong fun k hk => ?_
      rw [List.getElem?_append_left (by omega), List.append_assoc, List.getElem?_append_left (by omega)]
    · refine (O.ok _ s e3).move nr ?_
      rw [e2, ← l, last_at, l, ← ly, ← l, ← List.length_append, last_at]
  · rcases get e with ⟨h, e1, e2, e3⟩ | ⟨rfl, rfl, e2, e3⟩
    · exact O.at_ _ s q o e3 hq
    · exact O.at_ _ s q o e3 hq
  · have e := O.ap _ _ q (glt i) (glt j) h1 h2
    rw [hl] at hi hj
    have e' : (if i < ss.length then i else ss.length + ts.length) = (if j < ss.length then j else ss.length + ts.length) := e
    split at e' <;> split at e' <;> omega
/-- .. of a list made for the call alone -/
theorem evM_callLt (g : GlV K G) (ha : AvR K tr ss (rs1 ++ .mu (G hs) :: rs2)) (p1 : rs1.all plainSl = true) (p2 : rs2.all plainSl = true) (h : R rs1 rs2 hs hs' r) (nr : notMu r = true) : EvM K (tCall (spL K R) [] E tr) ss ss r := fun M F0 H0 F H σ xs ts l S Q k => by
  refine ha M F0 H0 F H σ xs ts l S _ fun vs F1 H1 hl g1 S1 => ?_
  have l1 := S.len2
  obtain ⟨ws1, v, ws2, rfl, e1, e2⟩ := args_split hl
  obtain ⟨a1, a2, S2⟩ := S1.args3 l1 e1 e2 p1 p2
  have le : (ss ++ (ts ++ rs1)).length = (σ ++ (xs ++ ws1.map some)).length := by
    simp only [List.length_append, List.length_map] at l1 ⊢
    omega
  have at1 : (ss ++ (ts ++ (rs1 ++ Sl.mu (G hs) :: rs2)))[(ss ++ (ts ++ rs1)).length]? = some (.mu (G hs)) := by
    rw [show ss ++ (ts ++ (rs1 ++ Sl.mu (G hs) :: rs2)) = (ss ++ (ts ++ rs1)) ++ (Sl.mu (G hs) :: rs2) by simp, List.getElem?_append_right (Nat.le_refl _), Nat.sub_self]
    rfl
  have at2 : (σ ++ (xs ++ (ws1 ++ v :: ws2).map some))[(ss ++ (ts ++ rs1)).length]? = some (some v) := by
    rw [le, show σ ++ (xs ++ (ws1 ++ v :: ws2).map some) = (σ ++ (xs ++ ws1.map some)) ++ (some v :: ws2.map some) by simp, List.getElem?_append_right (Nat.le_refl _), Nat.sub_self]
    rfl
  obtain ⟨v', L, b1, b2, b3, b4, run⟩ := S1.callV at1
  rw [at2] at b1
  cases b1
  obtain ⟨p, ⟨rfl, us, eL, hus⟩, back⟩ := g _ _ _ _ (b2 F1 (Ex.refl F1))
  obtain ⟨hp, fp⟩ := b3 (p, .lst us) (by rw [eL]; exact List.mem_cons_self)
  show spL K R ((ws1 ++ V.ref p :: ws2) ++ []) H1 Q E
  rw [List.append_nil]
  refine ⟨F1, ws1, ws2, p, us, rs1, rs2, hs, hs', r, rfl, S1.fh, a1, a2, hp, fp, hus, h, fun x F' H' S4 => ?_⟩
  rw [moP (us := us)] at S4
  have S6 := run [(p, .lst us)] (.ref p) (glAt K p hs') (G hs') r x F' H' (fun z hz => by rw [eL]; exact hz) nr S4 fun L1' h1 n1 _ => ⟨L1', fun z hz => .inl hz, n1, fun F'' e => back _ _ _ _ (h1 F'' e)⟩
  rw [show ss ++ (ts ++ (rs1 ++ Sl.mu (G hs) :: rs2)) = (ss ++ ts) ++ (rs1 ++ Sl.mu (G hs) :: rs2) by simp, List.set_append_right _ _ (by simp only [List.length_append]; omega), show σ ++ (xs ++ (ws1 ++ V.ref p :: ws2).map some) = (σ ++ xs) ++ (ws1 ++ V.ref p :: ws2).map some by simp] at S6
  have S7 := S6.skip l1 (by rw [List.length_map, List.length_set]; exact hl) (by cases r <;> first | rfl | cases nr)
  rw [List.append_assoc, List.append_assoc] at S7
  exact k x F' H' S7
/-! ### its items -/
theorem ev_ixH (g : GlV K G) (hi : ss[i]? = some (.mu (G hs))) (hb : EvR K tb ss (.dt (.int (k : Int)))) (hk : hs[k]? = some (.dt d)) : EvR K (tOp (rIxL K) (tVar i) tb) ss (.dt d) := fun M F0 H0 F H σ xs ts l S Q q => by
  have li := (List.getElem?_eq_some_iff.mp hi).1
  obtain ⟨v, L, a, b, b3, _⟩ := S.callV (i := i) (by rw [List.getElem?_append_left li]; exact hi)
  obtain ⟨p, ⟨rfl, us, eL, hus⟩, _⟩ := g _ _ _ _ (b F (Ex.refl F))
  rw [List.getElem?_append_left (by omega)] at a
  refine ⟨.ref p, a, ?_⟩
  refine hb M F0 H0 F H σ xs ts l S _ fun y F1 H1 g1 n1 S1 => ?_
  have l1 := S.len2
  have hy := (S1.lastV l1 (d := .int (k : Int)) rfl).int
  subst hy
  obtain ⟨hp, fp⟩ := b3 (p, .lst us) (by rw [eL]; exact List.mem_cons_self)
  obtain ⟨w, e1, e2⟩ := hus.get hk
  have e2' : Fh.Dp K F w d := e2
  refine ⟨p, us, k, w, rfl, rfl, SqL.of (g1.hh _ _ hp), ?_, (RetR.mk g1 (S1.back l1) q).dt (dp_ex g1.ff _ _ e2')⟩
  exact atI_nat e1
end
end Fh
set_option Elab.async false
set_option linter.all false
set_option maxRecDepth 100000
set_option maxHeartbeats 2000000
/-! what is looked at, written and held of such lists; isinstance of questions -/
namespace Fh
open PySem PySem.Spec PyProof.Rows L2 Evl LamX
open PySem.W (Datum)
structure AskIs (K : PySem.W.Frag) (A : Kd → Addr) (CA : Addr) : Prop where
  cls : ∀ k, Cls K (A k)
  ha : ∀ k, PySem.W.findIn K (.ref (A k)) "__class__" = some (some (.builtin "object.__class__"))
  hn : PySem.W.specialIn K (.builtin "object.__class__") "__get__" = some (some (.builtin "getset_descriptor.__get__"))
  htk : PySem.W.takesIn K (.builtin "object.__class__") = some true
  hm : ∀ k, PySem.W.mroIn K (A k) (.type "object") = some true
  kk : ∀ k j, PySem.W.kitOne K (.ref (A k)) (.ref (A j)) = some (decide (k = j))
  ka : ∀ k, PySem.W.kitOne K (.ref (A k)) (.ref CA) = some true
section
variable {K : PySem.W.Frag} {A : Kd → Addr} {CA : Addr} {M : Addr → Prop} {F0 H0 F H F' H' : Hp} {σ xs gs ys : L2.St} {ss ts rs gt ss2 ss3 as bs as1 as2 hs hs' : List Sl} {ta tb te tc td tl tj tk tv : TE} {tr : TA} {t u tt : TT} {tz tbd tu tw : TS} {r ra rb a b : Sl} {d da db e : PyData} {ds es ds1 ds2 : List PyData} {Q : VK} {v x y v0 v2 vd w : V} {vs ws ws1 ws2 us : List V} {p q C P : Addr} {E E' : XK} {i j k n : Nat} {W : WX} {G : List Sl → Vw} {φ : Hp → V → Prop}
theorem AW.set1 {vs : List V} (h : AW K F vs as) : ∀ {j : Nat} {v : V} {a : Sl}, ItR K F v a → AW K F (vs.set j v) (as.set j a) := by
  induction h with
  | nil => intro j v a _; exact .nil
  | dt h t ih =>
    intro j v a hv
    cases j with
    | zero =>
      cases a with
      | dt d => exact .dt hv t
      | fx φ => exact .fx hv t
      | _ => cases hv
    | succ j => exact .dt h (ih hv)
  | fx h t ih =>
    intro j v a hv
    cases j with
    | zero =>
      cases a with
      | dt d => exact .dt hv t
      | fx φ => exact .fx hv t
      | _ => cases hv
    | succ j => exact .fx h (ih hv)
theorem gw_write (g : GlV K G) (S : Sts K M F0 H0 F H σ ss) (h : ss[i]? = some (.mu (G as))) : ∃ p us, σ[i]? = some (some (.ref p)) ∧ H p = some (.lst us) ∧ AW K F us as ∧ ∀ us' as', AW K F us' as' → Sts K M F0 H0 F (upd H p (.lst us')) σ (ss.set i (.mu (G as'))) := by
  obtain ⟨v, L, a, b, at_, _⟩ := S.muWrite (ψ' := G as) h
  obtain ⟨p, ⟨rfl, vs, rfl, aw⟩, back⟩ := g _ _ _ _ b
  refine ⟨p, vs, a, (at_ p _ List.mem_cons_self).1, aw, fun us' as' aw' => ?_⟩
  obtain ⟨v2, L2, a2, b2, _, _, wr⟩ := S.muWrite (ψ' := G as') h
  rw [a] at a2
  cases a2
  obtain ⟨p2, ⟨e2, vs2, rfl, _⟩, back2⟩ := g _ _ _ _ b2
  cases e2
  exact wr p (.lst us') [(p, .lst us')] List.mem_cons_self rfl (fun q o hq ne => by
    cases List.mem_singleton.mp hq
    exact absurd rfl ne) (fun o hq => by
    cases List.mem_singleton.mp hq
    rfl) (fun F' e => back2 _ _ _ _ ⟨rfl, us', rfl, aw'.ex e⟩)
theorem st_setH {D : Ends} {z : Int} {j : Nat} (g : GlV K G) (S : Sts K M F0 H0 F H (σ ++ gs) (ss ++ gt)) (l : σ.length = ss.length) (h : ss[i]? = some (.mu (G as))) (he : EvR K te ss a) (pl : plainSl a = true) (hb : EvR K tb ss (.dt (.int z))) (hj : ixN as.length z = some j)
    (k : ∀ F' H', Sts K M F0 H0 F' H' (σ ++ gs) (ss.set i (.mu (G (as.set j a))) ++ gt) → σ.length = (ss.set i (.mu (G (as.set j a)))).length → D.nx σ H') : tAsg te (gSub (tVar i) tb rSetL) D σ H := by
  have hi := (List.getElem?_eq_some_iff.mp h).1
  have h' : (ss ++ gt)[i]? = some (.mu (G as)) := by rw [List.getElem?_append_left hi]; exact h
  obtain ⟨p, us, a1, b1, c1, _⟩ := gw_write g S h'
  have a2 := a1
  rw [List.getElem?_append_left (by omega)] at a2
  refine he M F0 H0 F H σ gs gt l S _ fun v F1 H1 g1 n1 S1 => ?_
  have l2 := S.len2
  refine ⟨.ref p, a2, ?_⟩
  refine hb M F0 H0 F1 H1 σ (gs ++ [some v]) (gt ++ [a]) l S1 _ fun iv F2 H2 g2 n2 S2 => ?_
  have l3 := S1.len2
  have hz : iv = .int z := (S2.lastV l3 (d := .int z) rfl).int
  have S3 := S2.back l3
  have iv := S3.lastI l2 pl
  obtain ⟨p2, us2, a3, b3, c3, wr⟩ := gw_write g (S3.back l2) h'
  rw [a1] at a3
  cases a3
  refine ⟨p, us2, z, j, rfl, hz, b3, by rw [c3.len]; exact hj, ?_⟩
  have S4 := wr (us2.set j v) (as.set j a) (c3.set1 iv)
  rw [List.set_append_left _ _ hi] at S4
  exact k F2 _ S4 (by rw [List.length_set, l])
/-! ### held -/
/-- a loop over frozen things and data beside them -/
theorem st_forZF {D : Ends} {g : TG} (S : Sts K M F0 H0 F H (σ ++ gs) (ss ++ gt)) (l : σ.length = ss.length) (h : AvR K tr ss [.fx (flF K as), .dt (.list es)]) (he : es.length = as.length) (W : Nat → List Sl) (w0 : Wk ss (W 0))
    (hs : ∀ k a e ps, as[k]? = some a → es[k]? = some e → ∀ T v w σ' F' H', ItR K F' v a → Fh.Dp K F' w e → F' T = some (.tup [v, w]) → Sts K M F0 H0 F' H' (σ' ++ (gs ++ ps)) (W k ++ (gt ++ [.fx (flF K as), .dt (.list es)])) → σ'.length = (W k).length →
      g (.ref T) σ' H' fun σ2 H2 => tbd { D with nx := Nxt K M F0 H0 (gs ++ ps) (gt ++ [.fx (flF K as), .dt (.list es)]) (W (k + 1)), ct := Nxt K M F0 H0 (gs ++ ps) (gt ++ [.fx (flF K as), .dt (.list es)]) (W (k + 1)), bk := D.nx } σ2 H2)
    (hd : ∀ σ' F' H', Sts K M F0 H0 F' H' (σ' ++ gs) (W as.length ++ gt) → σ'.length = (W as.length).length → D.nx σ' H') (hw : ∀ k, (W k).length = ss.length := by intro _; rfl) : tFor (iZip K tr) g tbd D σ H := by
  refine h M F0 H0 F H σ gs gt l S _ fun vs F1 H1 hl g1 S1 => ?_
  have look : ∀ {k : Nat} {σ' : L2.St} {F' H' : Hp}, Sts K M F0 H0 F' H' (σ' ++ (gs ++ vs.map some)) (W k ++ (gt ++ [.fx (flF K as), .dt (.list es)])) → (σ' ++ gs).length = (W k ++ gt).length → ∃ a b ws us, vs = [.ref a, .ref b] ∧ SqL K H' a ws ∧ AW K F' ws as ∧ SqL K H' b us ∧ DpAll K F' us es := fun {k σ' F' H'} S3 l3 => by
    have ha := S3.argsW l3 hl rfl
    cases ha with
    | fx h1 t =>
      cases t with
      | dt h2 t =>
        cases t
        obtain ⟨a, ws, rfl, x1, y1⟩ := h1 F' (Ex.refl F')
        have h2' : VwD K F' H' _ (.list es) := .inl h2
        obtain ⟨b, us, rfl, x2, y2⟩ := h2'.lst S3.fh
        exact ⟨a, b, ws, us, rfl, SqL.of (S3.fh _ _ x1), y1, x2, y2⟩
  have S1' := S1.weak (w0.app (Wk.refl (gt ++ [.fx (flF K as), .dt (.list es)])))
  have hlen : ∀ {k : Nat} {σ' : L2.St}, σ'.length = (W k).length → (σ' ++ gs).length = (W k ++ gt).length := fun {k σ'} l3 => by
    have hg := S.len
    rw [List.length_append] at hg ⊢
    rw [List.length_append] at hg ⊢
    have := hw k
    omega
  obtain ⟨a, b, ws, us, rfl, x1, y1, x2, y2⟩ := look (k := 0) S1' (hlen (by rw [hw, l]))
  refine ⟨a, b, ws, us, rfl, x1, x2, ?_⟩
  refine ⟨fun k m σ' H' => m = as.length - k ∧ k ≤ as.length ∧ Nxt K M F0 H0 (gs ++ [V.ref a, V.ref b].map some) (gt ++ [.fx (flF K as), .dt (.list es)]) (W k) σ' H', ⟨as.length, by simp, Nat.zero_le _, F1, S1', by rw [hw, l]⟩, ?_⟩
  rintro k m σ' H' ⟨rfl, hk, F2, S3, l3⟩
  obtain ⟨a', b', ws, us, ev, x1, y1, x2, y2⟩ := look S3 (hlen l3)
  cases ev
  by_cases hlt : k < as.length
  · have hlw : k < ws.length := by rw [y1.len]; exact hlt
    have hlu : k < us.length := by rw [dpAll_len y2]; omega
    refine .inr ⟨⟨ws, us, ws[k], us[k], x1, x2, by simp [hlw], by simp [hlu]⟩, Nxt K M F0 H0 (gs ++ [V.ref a, V.ref b].map some) (gt ++ [.fx (flF K as), .dt (.list es)]) (W (k + 1)), fun σ2 H2 p => ⟨as.length - (k + 1), by omega, rfl, hlt, p⟩, fun x H2 y => ?_⟩
    obtain ⟨T, v1, v2, rfl, hT, rfl, z1, z2⟩ := y
    obtain ⟨d, e1, e2⟩ := y1.get' (z1 ws x1)
    obtain ⟨e, e3, e4⟩ := dpAll_get' y2 (z2 us x2)
    have g2 := Gr.newI (o := .tup [v1, v2]) S3.fh hT
    have fT := fresh_back S3.fh hT
    exact hs k d e _ e1 e3 T v1 v2 σ' _ _ (e2.ex (Ex.new fT)) (dp_ex (Ex.new fT) _ _ e4) upd_same (S3.grow g2) l3
  · have e : k = as.length := by omega
    subst e
    exact .inl ⟨⟨ws, us, x1, x2, .inl (by rw [y1.len]; exact Nat.le_refl _)⟩, hd σ' F2 _ (S3.backA (rs := [.fx (flF K as), .dt (.list es)]) (hlen l3)) l3⟩
/-- its pair goes to two places -/
theorem g_pairI {kk : L2.St → Hp → Prop} {T : Addr} (S : Sts K M F0 H0 F H (σ ++ gs) (ss ++ gt)) (l : σ.length = ss.length) (hT : F T = some (.tup [v, w])) (hi : i < ss.length) (hj : j < ss.length) (hij : i ≠ j) (h1 : ItR K F v a) (h2 : ItR K F w b) (na : (ss ++ gt).all Fh.notAl = true)
    (hk : ∀ σ' F' H', Sts K M F0 H0 F' H' (σ' ++ gs) ((ss.set i a).set j b ++ gt) → σ'.length = ((ss.set i a).set j b).length → kk σ' H') : gTup K 2 (gCons (gName i) (gCons (gName j) gNil)) (.ref T) σ H kk := by
  refine ⟨T, [v, w], rfl, SqT.of (S.fh _ _ hT), rfl, _, _, rfl, _, _, rfl, rfl, ?_⟩
  have S2 := S.setI l hi h1 na
  have na2 : ((ss.set i a) ++ gt).all Fh.notAl = true := by
    rw [List.all_append, Bool.and_eq_true] at na ⊢
    refine ⟨List.all_eq_true.mpr fun s hs => ?_, na.2⟩
    rcases List.mem_or_eq_of_mem_set hs with h | h
    · exact List.all_eq_true.mp na.1 s h
    · rw [h]
      exact h1.notAl
  have S3 := S2.setI (i := j) (by rw [List.length_set, List.length_set, l]) (by rw [List.length_set]; exact hj) h2 na2
  exact hk _ F H S3 (by simp only [List.length_set, l])
end
end Fh
set_option Elab.async false
set_option linter.all false
set_option maxRecDepth 100000
set_option maxHeartbeats 2000000
/-! a comprehension over zip of two tuples; a tuple many times -/
namespace Fh
open PySem PySem.Spec PyProof.Rows L2 Evl LamX RZ
open PySem.W (Datum)
section
variable {K : PySem.W.Frag} {M : Addr → Prop} {F0 H0 F H F' H' : Hp} {σ xs gs ys : L2.St} {ss ts rs gt ss2 ss3 as bs : List Sl} {ta tb te tc td tl tj tk tv : TE} {tr : TA} {t u tt : TT} {tz tbd tu tw : TS} {r ra rb a b : Sl} {d da db e : PyData} {ds es ds1 ds2 : List PyData} {Q : VK} {v x y v0 v2 vd w : V} {vs ws : List V} {p q C P : Addr} {E E' : XK} {i j k n : Nat} {W : WX} {φ : Hp → V → Prop}
end
end Fh
set_option Elab.async false
set_option linter.all false
set_option maxRecDepth 100000
set_option maxHeartbeats 2000000
/-! tuples whose last item changes what a slot owns -/
namespace Fh
open PySem PySem.Spec PyProof.Rows L2 Evl LamX
open PySem.W (Datum)
section
variable {K : PySem.W.Frag} {M : Addr → Prop} {F0 H0 F H F' H' : Hp} {σ xs gs ys : L2.St} {ss ts rs gt ss2 ss3 as bs : List Sl} {ta tb te tc td tl tj tk tv : TE} {tr : TA} {t u tt : TT} {tz tbd tu tw : TS} {r ra rb a : Sl} {d da db e : PyData} {ds es ds1 ds2 : List PyData} {Q : VK} {v x y v0 v2 vd w : V} {vs ws : List V} {p q C P : Addr} {E E' : XK} {i j k n : Nat} {W : WX} {φ : Hp → V → Prop} {b c : Bool}
def AvM (K : PySem.W.Frag) (ta : TA) (ss ss2 rs : List Sl) : Prop := ∀ (M : Addr → Prop) (F0 H0 F H : Hp) (σ xs : L2.St) (ts : List Sl), σ.length = ss.length → Sts K M F0 H0 F H (σ ++ xs) (ss ++ ts) →
  ∀ Q : List V → Hp → Prop, (∀ vs F' H', vs.length = rs.length → Sts K M F0 H0 F' H' (σ ++ (xs ++ vs.map some)) (ss2 ++ (ts ++ rs)) → Q vs H') → ta σ H Q
theorem avM_last (h : EvM K te ss ss2 r) : AvM K (tCons te tNil) ss ss2 [r] := fun M F0 H0 F H σ xs ts l S Q q => by
  refine h M F0 H0 F H σ xs ts l S _ fun v F1 H1 S1 => ?_
  exact q [v] F1 H1 rfl S1
theorem avM_cons (h : EvR K te ss r) (hr : AvM K tr ss ss2 rs) : AvM K (tCons te tr) ss ss2 (r :: rs) := fun M F0 H0 F H σ xs ts l S Q q => by
  refine h M F0 H0 F H σ xs ts l S _ fun v F1 H1 g1 n1 S1 => ?_
  refine hr M F0 H0 F1 H1 σ (xs ++ [some v]) (ts ++ [r]) l S1 _ fun vs F2 H2 hl S2 => ?_
  refine q (v :: vs) F2 H2 (by rw [List.length_cons, List.length_cons, hl]) ?_
  rw [List.append_assoc, List.append_assoc] at S2
  exact S2
theorem evM_tup (ha : AvM K tr ss ss2 rs) (va : dts rs = some ds) (hl2 : ss2.length = ss.length) (hl : rs.length ≤ 1000) : EvM K (tTup tr) ss ss2 (.dt (.tuple ds)) := fun M F0 H0 F H σ xs ts l S Q q => by
  refine ha M F0 H0 F H σ xs ts l S _ fun vs F1 H1 hl1 S1 => ?_
  have l1 : (σ ++ xs).length = (ss2 ++ ts).length := by
    have := S.len
    rw [List.length_append] at this ⊢
    rw [List.length_append] at this ⊢
    omega
  refine ⟨Nat.le_of_lt (small1000 (by omega)), fun p hp => ?_⟩
  have da := S1.argsD l1 hl1 va
  have g := Gr.newI (o := .tup vs) S1.fh hp
  have fp := fresh_back S1.fh hp
  have S3 := ((S1.backA l1).grow g).push_dt (v := .ref p) (d := .tuple ds) (.tup (SqT.of upd_same) (dpAll_ex (Ex.new fp) _ _ da))
  rw [List.append_assoc, List.append_assoc] at S3
  exact q _ _ _ S3
end
end Fh
set_option Elab.async false
set_option linter.all false
set_option maxRecDepth 100000
set_option maxHeartbeats 2000000
/-! tuples of frozen things and data -/
namespace Fh
open PySem PySem.Spec PyProof.Rows L2 Evl LamX
open PySem.W (Datum)
def tpF (K : PySem.W.Frag) (as : List Sl) : Hp → V → Prop := fun F v => ∃ p vs, v = .ref p ∧ F p = some (.tup vs) ∧ AW K F vs as
section
variable {K : PySem.W.Frag} {M : Addr → Prop} {F0 H0 F H F' H' : Hp} {σ xs gs ys : L2.St} {ss ts rs gt ss2 ss3 as bs : List Sl} {ta tb te : TE} {tr : TA} {r ra rb a b c : Sl} {d : PyData} {Q : VK} {v x y w u : V} {vs ws : List V} {p q : Addr} {i j k n m : Nat} {φ : Hp → V → Prop}
theorem tpF.ex (h : tpF K as F v) (e : Ex F F') : tpF K as F' v := by
  obtain ⟨p, vs, rfl, a, b⟩ := h
  exact ⟨p, vs, rfl, e _ _ a, b.ex e⟩
theorem RetR.tpF (k : RetR K F H (.fx (tpF K as)) Q) (h : AW K F vs as) {p : Addr} (hp : H p = none) : Q (.ref p) (upd H p (.tup vs)) := by
  refine k (.ref p) (upd F p (.tup vs)) _ fun M F0 H0 σ ss S => ?_
  have fp : F p = none := fresh_back S.fh hp
  exact (S.grow (Gr.newI S.fh hp)).push_fx fun F' e => ⟨p, vs, rfl, e _ _ upd_same, h.ex ((Ex.new fp).trans e)⟩
end
end Fh
set_option Elab.async false
set_option linter.all false
set_option maxRecDepth 100000
set_option maxHeartbeats 2000000
/-! what a slot owns, written at will; dicts whose values are data; dicts of lists of our own -/
namespace Fh
open PySem PySem.Spec PyProof.Rows L2 Evl LamX
open PySem.W (Datum)
section
variable {K : PySem.W.Frag} {M : Addr → Prop} {F0 H0 F H F' H' : Hp} {σ xs gs : L2.St} {ss ts rs gt ss2 : List Sl} {v x y : V} {i : Nat}
/-- slot i's own things and what stands still change at once -/
theorem Sts.muGen {ψ : Vw} (S : Sts K M F0 H0 F H σ ss) (h : ss[i]? = some (.mu ψ)) : ∃ v L, σ[i]? = some (some v) ∧ (∀ F', Ex F F' → ψ F' v L) ∧ (∀ z ∈ L, H z.1 = some z.2 ∧ F z.1 = none) ∧ (L.map (·.1)).Nodup ∧
    ∀ (F' H' : Hp) (L' : List (Addr × HO)) (s' : Sl), Ex F F' → Ex F' H' → (∀ a o, a ∉ L.map (·.1) → H a = some o → H' a = some o) → (∀ a, H a ≠ none → H' a ≠ none) →
      (∀ a, H a ≠ none → F a = none → F' a ≠ none → a ∈ L.map (·.1) ∧ (M a → False)) → (∀ z ∈ L', H' z.1 = some z.2 ∧ F' z.1 = none ∧ (z.1 ∈ L.map (·.1) ∨ H z.1 = none)) → (L'.map (·.1)).Nodup →
      SlOk K F' σ i L' s' → (isMu s' = true ∨ L' = []) → Sts K M F0 H0 F' H' σ (ss.set i s') := by
  obtain ⟨g0, l, L, O⟩ := S
  obtain ⟨v, a, b⟩ := O.ok i _ h
  have hi := (List.getElem?_eq_some_iff.mp h).1
  refine ⟨v, L i, a, b, fun z hz => ⟨(O.at_ i _ z.1 z.2 h hz).1, (O.at_ i _ z.1 z.2 h hz).2.1⟩, O.nd i hi, fun F' H' L' s' eF eH kp al fz at' nd' ok' mu' => ?_⟩
  have own0 : ∀ {q}, q ∈ (L i).map (·.1) → H q ≠ none ∧ (H0 q = none ∨ M q) := fun {q} hq => by
    obtain ⟨⟨q', u⟩, hz, rfl⟩ := List.mem_map.mp hq
    obtain ⟨x1, _, x3⟩ := O.at_ i _ q' u h hz
    exact ⟨(by rw [x1]; exact fun z => nomatch z), x3.imp_right fun z => z.1⟩
  have hl : ∀ {j}, j < (ss.set i s').length → j < ss.length := fun {j} h => by rwa [List.length_set] at h
  have inH : ∀ {j q}, j < ss.length → q ∈ (L j).map (·.1) → H q ≠ none := fun {j q} hj hq => by
    obtain ⟨⟨q', u⟩, hz, rfl⟩ := List.mem_map.mp hq
    rw [(O.at_ j _ q' u (List.getElem?_eq_getElem hj) hz).1]
    exact fun z => nomatch z
  have key' : ∀ {q}, q ∈ L'.map (·.1) → q ∈ (L i).map (·.1) ∨ H q = none := fun {q} hq => by
    obtain ⟨⟨q', u⟩, hz, rfl⟩ := List.mem_map.mp hq
    exact (at' _ hz).2.2
  refine ⟨⟨g0.ff.trans eF, fun x o nM hx => ?_, eH, fun x h1 h2 => ?_, fun x hx => al x (g0.al x hx)⟩, by rw [List.length_set, l], fun j => if j = i then L' else L j, fun j s hs => ?_, fun j s q o hs hq => ?_, fun j hj => ?_, fun j k q hj hk h1 h2 => ?_⟩
  · refine kp x o (fun e => ?_) (g0.hh x o nM hx)
    rcases (own0 e).2 with z | z
    · rw [z] at hx
      cases hx
    · exact nM z
  · have f1 := g0.nw x h1 h2
    cases e : F' x with
    | none => rfl
    | some u =>
      obtain ⟨z1, z2⟩ := fz x (g0.al x h1) f1 (by rw [e]; exact fun z => nomatch z)
      rcases (own0 z1).2 with z | z
      · exact _root_.absurd z h1
      · exact (z2 z).elim
  · by_cases e : j = i
    · subst e
      rw [List.getElem?_set_self hi] at hs
      cases hs
      rw [if_pos rfl]
      exact ok'
    · rw [if_neg e]
      rw [List.getElem?_set_ne (Ne.symm e)] at hs
      exact (O.ok j s hs).ex eF
  · by_cases e : j = i
    · subst e
      rw [if_pos rfl] at hq
      rw [List.getElem?_set_self hi] at hs
      cases hs
      obtain ⟨x1, x2, x3⟩ := at' _ hq
      refine ⟨x1, x2, ?_⟩
      rcases mu' with mu' | mu'
      · rcases x3 with x3 | x3
        · exact (own0 x3).2.imp_right fun z => ⟨z, mu'⟩
        · refine .inl ?_
          cases e : H0 q with
          | none => rfl
          | some u => exact _root_.absurd x3 (g0.al q (by rw [e]; exact fun z => nomatch z))
      · rw [mu'] at hq
        cases hq
    · rw [if_neg e] at hq
      rw [List.getElem?_set_ne (Ne.symm e)] at hs
      obtain ⟨x1, x2, x3⟩ := O.at_ j s q o hs hq
      have ne : q ∉ (L i).map (·.1) := fun e2 => e (O.ap j i q (List.getElem?_eq_some_iff.mp hs).1 hi (List.mem_map.mpr ⟨_, hq, rfl⟩) e2)
      refine ⟨kp q o ne x1, ?_, x3⟩
      cases e3 : F' q with
      | none => rfl
      | some u => exact _root_.absurd (fz q (by rw [x1]; exact fun z => nomatch z) x2 (by rw [e3]; exact fun z => nomatch z)).1 ne
  · by_cases e : j = i
    · simp only [if_pos e]
      exact nd'
    · simp only [if_neg e]
      exact O.nd j (hl hj)
  · have hj := hl hj
    have hk := hl hk
    by_cases e1 : j = i
    · by_cases e2 : k = i
      · rw [e1, e2]
      · rw [if_pos e1] at h1
        rw [if_neg e2] at h2
        rcases key' h1 with z | z
        · exact e1.trans (O.ap i k q hi hk z h2)
        · exact _root_.absurd z (inH hk h2)
    · by_cases e2 : k = i
      · rw [if_neg e1] at h1
        rw [if_pos e2] at h2
        rcases key' h2 with z | z
        · exact (O.ap j i q hj hi h1 z).trans e2.symm
        · exact _root_.absurd z (inH hj h1)
      · rw [if_neg e1] at h1
        rw [if_neg e2] at h2
        exact O.ap j k q hj hk h1 h2
/-- .. what stands still stays -/
theorem Sts.muNew {ψ : Vw} (S : Sts K M F0 H0 F H σ ss) (h : ss[i]? = some (.mu ψ)) : ∃ v L, σ[i]? = some (some v) ∧ (∀ F', Ex F F' → ψ F' v L) ∧ (∀ z ∈ L, H z.1 = some z.2 ∧ F z.1 = none) ∧ (L.map (·.1)).Nodup ∧
    ∀ (H' : Hp) (L' : List (Addr × HO)) (ψ' : Vw), (∀ a o, a ∉ L.map (·.1) → H a = some o → H' a = some o) → (∀ a, H a ≠ none → H' a ≠ none) →
      (∀ z ∈ L', H' z.1 = some z.2 ∧ (z.1 ∈ L.map (·.1) ∨ H z.1 = none)) → (L'.map (·.1)).Nodup → (∀ F', Ex F F' → ψ' F' v L') → Sts K M F0 H0 F H' σ (ss.set i (.mu ψ')) := by
  obtain ⟨v, L, a, b, at_, nd, k⟩ := S.muGen h
  refine ⟨v, L, a, b, at_, nd, fun H' L' ψ' kp al at' nd' ok' => ?_⟩
  have fL : ∀ q, q ∈ L.map (·.1) → F q = none := fun q hq => by
    obtain ⟨z, hz, rfl⟩ := List.mem_map.mp hq
    exact (at_ z hz).2
  refine k F H' L' (.mu ψ') (Ex.refl F) (fun q o e => kp q o (fun hq => by rw [fL q hq] at e; cases e) (S.fh q o e)) kp al (fun q _ h1 h2 => _root_.absurd h1 h2) (fun z hz => ⟨(at' z hz).1, ?_, (at' z hz).2⟩) nd' ⟨v, a, ok'⟩ (.inl rfl)
  rcases (at' z hz).2 with z1 | z1
  · exact fL _ z1
  · exact fresh_back S.fh z1
end
end Fh
set_option Elab.async false
set_option linter.all false
set_option maxRecDepth 100000
set_option maxHeartbeats 2000000
/-! dicts with keys that are numbers or texts: their looks *as data*; sorted of one *by its keys* -/
namespace Fh
open PySem PySem.Spec PyProof.Rows L2 Evl LamX
open PySem.W (Datum EachIs AllAlike Sortable dataLe)
/-! ### pairs of a key and a thing -/
inductive KvR {A : Type} (R : V → A → Prop) : List (L2.Key × V) → List (L2.Key × A) → Prop where
  | nil : KvR R [] []
  | cons {k : L2.Key} {v : V} {a : A} {kv : List (L2.Key × V)} {ks : List (L2.Key × A)} (h : R v a) (t : KvR R kv ks) : KvR R ((k, v) :: kv) ((k, a) :: ks)
section
variable {A B : Type} {R R' : V → A → Prop} {kv : List (L2.Key × V)} {ks : List (L2.Key × A)} {k : L2.Key} {v : V} {a : A}
def lookA (ks : List (L2.Key × A)) (k : L2.Key) : Option A := (ks.find? fun e => decide (e.1 = k)).map (·.2)
def putA (ks : List (L2.Key × A)) (k : L2.Key) (a : A) : List (L2.Key × A) := if (ks.any fun e => decide (e.1 = k)) = true then ks.map (fun e => if e.1 = k then (e.1, a) else e) else ks ++ [(k, a)]
theorem KvR.mono (h : KvR R kv ks) (m : ∀ v a, R v a → R' v a) : KvR R' kv ks := by
  induction h with
  | nil => exact .nil
  | cons h _ ih => exact .cons (m _ _ h) ih
theorem KvR.len (h : KvR R kv ks) : kv.length = ks.length := by
  induction h with
  | nil => rfl
  | cons _ _ ih => rw [List.length_cons, List.length_cons, ih]
theorem KvR.keys (h : KvR R kv ks) : kv.map (·.1) = ks.map (·.1) := by
  induction h with
  | nil => rfl
  | cons _ _ ih => rw [List.map_cons, List.map_cons, ih]
theorem KvR.look (h : KvR R kv ks) : (∀ a, lookA ks k = some a → ∃ v, valV kv k = some v ∧ R v a) ∧ (lookA ks k = none → valV kv k = none) := by
  induction h with
  | nil => exact ⟨fun a e => (nomatch e), fun _ => rfl⟩
  | @cons k' v a kv ks h _ ih =>
    by_cases e : k' = k
    · have e1 : lookA ((k', a) :: ks) k = some a := by
        unfold lookA
        rw [List.find?_cons_of_pos (by simpa using e)]
        rfl
      rw [e1, valV_pos (p := (k', v)) e]
      exact ⟨fun b hb => by cases hb; exact ⟨v, rfl, h⟩, fun z => nomatch z⟩
    · have e1 : lookA ((k', a) :: ks) k = lookA ks k := by
        unfold lookA
        rw [List.find?_cons_of_neg (by simpa using e)]
      rw [e1, valV_neg (p := (k', v)) e]
      exact ih
theorem KvR.isSome (h : KvR R kv ks) : (valV kv k).isSome = (lookA ks k).isSome := by
  obtain ⟨h1, h2⟩ := h.look (k := k)
  cases e : lookA ks k with
  | none => rw [h2 e]; rfl
  | some a =>
    obtain ⟨v, e1, _⟩ := h1 a e
    rw [e1]
    rfl
theorem KvR.any (h : KvR R kv ks) : (kv.any fun e => decide (e.1 = k)) = ks.any fun e => decide (e.1 = k) := by
  induction h with
  | nil => rfl
  | cons _ _ ih => rw [List.any_cons, List.any_cons, ih]
theorem KvR.app {kv' : List (L2.Key × V)} {ks' : List (L2.Key × A)} (h : KvR R kv ks) (h' : KvR R kv' ks') : KvR R (kv ++ kv') (ks ++ ks') := by
  induction h with
  | nil => exact h'
  | cons a _ ih => exact .cons a ih
theorem KvR.put (h : KvR R kv ks) (hv : R v a) : KvR R (putK kv k v) (putA ks k a) := by
  unfold putK putA
  rw [h.any]
  split
  · rename_i hh
    clear hh
    induction h with
    | nil => exact .nil
    | @cons k' v' a' kv ks h _ ih =>
      rw [List.map_cons, List.map_cons]
      by_cases e : k' = k
      · rw [if_pos e, if_pos e]
        exact .cons hv ih
      · rw [if_neg e, if_neg e]
        exact .cons h ih
  · exact h.app (.cons hv .nil)
theorem KvR.get (h : KvR R kv ks) : ∀ {i : Nat} {k : L2.Key} {v : V}, kv[i]? = some (k, v) → ∃ a, ks[i]? = some (k, a) ∧ R v a := by
  induction h with
  | nil => intro i k v e; simp at e
  | cons h _ ih =>
    intro i k v e
    cases i with
    | zero => cases e; exact ⟨_, rfl, h⟩
    | succ i => exact ih e
end
abbrev KvD (K : PySem.W.Frag) (F : Hp) : List (L2.Key × V) → List (L2.Key × PyData) → Prop := KvR fun v d => Fh.Dp K F v d
def dkAt (K : PySem.W.Frag) (p : Addr) (ks : List (L2.Key × PyData)) : Vw := fun F v L => v = .ref p ∧ ∃ kv, L = [(p, .dK kv)] ∧ KvD K F kv ks
def dkM (K : PySem.W.Frag) (ks : List (L2.Key × PyData)) : Vw := fun F v L => ∃ p, dkAt K p ks F v L
def dkF (K : PySem.W.Frag) (ks : List (L2.Key × PyData)) : Hp → V → Prop := fun F v => ∃ p kv, v = .ref p ∧ F p = some (.dK kv) ∧ KvD K F kv ks
/-- v is a dict that reads as ks -/
def DkV (K : PySem.W.Frag) (F H : Hp) (v : V) (ks : List (L2.Key × PyData)) : Prop := ∃ a kv, v = .ref a ∧ Rd H a (.dK kv) ∧ KvD K F kv ks
section
variable {K : PySem.W.Frag} {M : Addr → Prop} {F0 H0 F H F' H' : Hp} {σ xs gs : L2.St} {ss ts rs gt ss2 : List Sl} {ta tb te tc td tl tj tk tv tx ty : TE} {tr : TA} {t u tt : TT} {tz tbd tu tw : TS} {r ra rb a b : Sl} {d da db e kd : PyData} {ds es : List PyData} {Q : VK} {v x y : V} {i : Nat} {ks : List (L2.Key × PyData)} {kv : List (L2.Key × V)} {k : L2.Key} {φ : Hp → V → Prop} {p : Addr}
theorem KvD.ex (h : KvD K F kv ks) (e : Ex F F') : KvD K F' kv ks := h.mono fun v d x => dp_ex e d v x
theorem rd_ex {a : Addr} {o : HO} (h : Rd H a o) (e : Ex H H') : Rd H' a o := by
  rcases h with h | ⟨od, h⟩
  · exact .inl (e _ _ h)
  · exact .inr ⟨od, e _ _ h⟩
theorem DkV.gr (h : DkV K F H v ks) (g : Gr F H F' H') : DkV K F' H' v ks := by
  obtain ⟨a, kv, rfl, h, c⟩ := h
  exact ⟨a, kv, rfl, rd_ex h g.hh, c.ex g.ff⟩
theorem dkF.ex (h : dkF K ks F v) (e : Ex F F') : dkF K ks F' v := by
  obtain ⟨p, kv, rfl, a, c⟩ := h
  exact ⟨p, kv, rfl, e _ _ a, c.ex e⟩
/-! ### what reads as a dict -/
/-! ### its looks -/
end
/-! ### sorted of a dict -/
end Fh
set_option Elab.async false
set_option linter.all false
set_option maxRecDepth 100000
set_option maxHeartbeats 2000000
/-! dicts of our own: made, written, walked *item by item*; dicts of lists of our own -/
namespace Fh
open PySem PySem.Spec PyProof.Rows L2 Evl LamX
open PySem.W (Datum EachIs AllAlike Sortable dataLe)
/-- a list of pairs by keys: one thing more in k's list -/
def appA {A : Type} : List (L2.Key × List A) → L2.Key → A → List (L2.Key × List A)
  | [], k, d => [(k, [d])]
  | e :: r, k, d => if e.1 = k then (e.1, e.2 ++ [d]) :: r else e :: appA r k d
inductive DlL (K : PySem.W.Frag) (F : Hp) : List (L2.Key × V) → List (L2.Key × List PyData) → List (Addr × HO) → Prop where
  | nil : DlL K F [] [] []
  | cons {k : L2.Key} {q : Addr} {vs : List V} {ds : List PyData} {kv : List (L2.Key × V)} {ks : List (L2.Key × List PyData)} {L : List (Addr × HO)} (h : Fh.DpAll K F vs ds) (t : DlL K F kv ks L) : DlL K F ((k, .ref q) :: kv) ((k, ds) :: ks) ((q, .lst vs) :: L)
def frzA (ks : List (L2.Key × List PyData)) : List (L2.Key × PyData) := ks.map fun e => (e.1, .list e.2)
section
variable {K : PySem.W.Frag} {M : Addr → Prop} {F0 H0 F H F' H' : Hp} {σ xs gs : L2.St} {ss ts rs gt ss2 : List Sl} {ta tb te tc td tl tj tk tv tx ty : TE} {tr : TA} {t u tt : TT} {tz tbd tu tw : TS} {r ra rb a b : Sl} {d da db e kd : PyData} {ds es : List PyData} {Q : VK} {v x y : V} {i : Nat} {ks : List (L2.Key × PyData)} {kv : List (L2.Key × V)} {k : L2.Key} {φ : Hp → V → Prop} {p q : Addr} {kl : List (L2.Key × List PyData)} {L0 : List (Addr × HO)} {α : Type}
theorem DlL.ex (h : DlL K F kv kl L0) (e : Ex F F') : DlL K F' kv kl L0 := by
  induction h with
  | nil => exact .nil
  | cons h _ ih => exact .cons (dpAll_ex e _ _ h) ih
theorem DlL.len (h : DlL K F kv kl L0) : kv.length = kl.length := by
  induction h with
  | nil => rfl
  | cons h _ ih => rw [List.length_cons, List.length_cons, ih]
/-- one thing more in the list at q, k's -/
theorem DlL.app (h : DlL K F kv kl L0) (hv : valV kv k = some (.ref q)) (nd : (L0.map (·.1)).Nodup) : ∃ vs ds, (q, HO.lst vs) ∈ L0 ∧ (k, ds) ∈ kl ∧ Fh.DpAll K F vs ds ∧ ∀ w, ∃ L1, L1.map (·.1) = L0.map (·.1) ∧ (∀ z ∈ L1, z.1 ≠ q → z ∈ L0) ∧ (∀ o, (q, o) ∈ L1 → o = .lst (vs ++ [w])) ∧
    ∀ F' d, Ex F F' → Fh.Dp K F' w d → DlL K F' kv (appA kl k d) L1 := by
  induction h with
  | nil => cases hv
  | @cons k' q' vs ds kv ks L h t ih =>
    by_cases e : k' = k
    · rw [valV_pos (p := (k', V.ref q')) e] at hv
      cases hv
      have n1 := List.nodup_cons.mp nd
      refine ⟨vs, ds, List.mem_cons_self, by rw [e]; exact List.mem_cons_self, h, fun w => ⟨(q, .lst (vs ++ [w])) :: L, rfl, fun z hz ne => ?_, fun o ho => ?_, fun F' d eF hw => ?_⟩⟩
      · rcases List.mem_cons.mp hz with rfl | hz
        · exact absurd rfl ne
        · exact List.mem_cons_of_mem _ hz
      · rcases List.mem_cons.mp ho with ho | ho
        · cases ho
          rfl
        · exact absurd (List.mem_map.mpr ⟨_, ho, rfl⟩) n1.1
      · unfold appA
        rw [if_pos e]
        exact .cons (dpAll_app (dpAll_ex eF _ _ h) (.cons hw .nil)) (t.ex eF)
    · rw [valV_neg (p := (k', V.ref q')) e] at hv
      have n1 := List.nodup_cons.mp nd
      obtain ⟨us, es, m1, m2, m3, go⟩ := ih hv n1.2
      have nq : q ≠ q' := fun z => n1.1 (z ▸ List.mem_map.mpr ⟨_, m1, rfl⟩)
      refine ⟨us, es, List.mem_cons_of_mem _ m1, List.mem_cons_of_mem _ m2, m3, fun w => ?_⟩
      obtain ⟨L1, a2, a3, a4, a1⟩ := go w
      refine ⟨(q', .lst vs) :: L1, ?_, fun z hz ne => ?_, fun o ho => ?_, fun F' d eF hw => ?_⟩
      · rw [List.map_cons, List.map_cons, a2]
      · rcases List.mem_cons.mp hz with rfl | hz
        · exact List.mem_cons_self
        · exact List.mem_cons_of_mem _ (a3 z hz ne)
      · rcases List.mem_cons.mp ho with ho | ho
        · cases ho
          exact absurd rfl nq
        · exact a4 o ho
      · unfold appA
        rw [if_neg e]
        exact .cons (dpAll_ex eF _ _ h) (a1 F' d eF hw)
theorem DlL.frz (h : DlL K F kv kl L0) (e : Ex F F') (hl : ∀ z ∈ L0, F' z.1 = some z.2) : KvD K F' kv (frzA kl) := by
  induction h with
  | nil => exact .nil
  | cons h _ ih => exact .cons (.lst (SqL.of (hl _ List.mem_cons_self)) (dpAll_ex e _ _ h)) (ih fun z hz => hl z (List.mem_cons_of_mem _ hz))
/-! ### new ones -/
/-! ### d[k] = e -/
end
end Fh
set_option Elab.async false
set_option linter.all false
set_option maxRecDepth 100000
set_option maxHeartbeats 2000000
/-! d.setdefault(k, []).append(x); what is so made stays; for k, v in d.items() -/
namespace Fh
open PySem PySem.Spec PyProof.Rows L2 Evl LamX
open PySem.W (Datum EachIs AllAlike Sortable dataLe)
section
variable {K : PySem.W.Frag} {M : Addr → Prop} {F0 H0 F H F' H' : Hp} {σ xs gs : L2.St} {ss ts rs gt ss2 : List Sl} {ta tb te tc td tl tj tk tv tx ty : TE} {tr : TA} {t u tt : TT} {tz tbd tu tw : TS} {r ra rb a b : Sl} {d da db e kd : PyData} {ds es : List PyData} {Q : VK} {v x y : V} {i : Nat} {ks : List (L2.Key × PyData)} {kv : List (L2.Key × V)} {k : L2.Key} {φ : Hp → V → Prop} {p q : Addr} {kl : List (L2.Key × List PyData)} {L0 : List (Addr × HO)} {α : Type}
theorem Wk.set {a b : List Sl} (h : Wk a b) (s : Sl) : ∀ i : Nat, Wk (a.set i s) (b.set i s) := by
  induction h with
  | nil => intro i; exact .nil
  | same e h ih =>
    intro i
    cases i with
    | zero => exact .same rfl h
    | succ i => exact .same e (ih i)
  | no h ih =>
    intro i
    cases i with
    | zero => exact .same rfl h
    | succ i => exact .no (ih i)
/-! ### for k, v in d.items() -/
end
end Fh
set_option Elab.async false
set_option linter.all false
set_option maxRecDepth 100000
set_option maxHeartbeats 2000000
/-! objects whose fields may own anything; what a class makes once and never changes -/
namespace Fh
open PySem PySem.Spec PyProof.Rows L2 Evl LamX
open PySem.W (Datum EachIs AllAlike Sortable dataLe)
inductive Fw where
  | dt (d : PyData)
  | fx (φ : Hp → V → Prop)
  | ow (ψ : Vw)
inductive FlB (K : PySem.W.Frag) (F : Hp) : List (Str × V) → List (Str × Fw) → List (Addr × HO) → Prop where
  | nil : FlB K F [] [] []
  | dt {f : Str} {v : V} {d : PyData} {fs : List (Str × V)} {fw : List (Str × Fw)} {L : List (Addr × HO)} (h : Fh.Dp K F v d) (t : FlB K F fs fw L) : FlB K F ((f, v) :: fs) ((f, .dt d) :: fw) L
  | fx {f : Str} {v : V} {φ : Hp → V → Prop} {fs : List (Str × V)} {fw : List (Str × Fw)} {L : List (Addr × HO)} (h : ∀ F', Ex F F' → φ F' v) (t : FlB K F fs fw L) : FlB K F ((f, v) :: fs) ((f, .fx φ) :: fw) L
  | ow {f : Str} {v : V} {ψ : Vw} {fs : List (Str × V)} {fw : List (Str × Fw)} {A L : List (Addr × HO)} (h : ∀ F', Ex F F' → ψ F' v A) (t : FlB K F fs fw L) : FlB K F ((f, v) :: fs) ((f, .ow ψ) :: fw) (A ++ L)
/-- a field that stays -/
def swI : Sl → Fw
  | .dt d => .dt d
  | .fx φ => .fx φ
  | _ => .dt .none
def putW (f : Str) (d : Fw) : List (Str × Fw) → List (Str × Fw)
  | [] => [(f, d)]
  | (g, x) :: r => if g = f then (g, d) :: r else (g, x) :: putW f d r
def obAt (K : PySem.W.Frag) (C p : Addr) (fw : List (Str × Fw)) : Vw := fun F v L => v = .ref p ∧ ∃ dx fs L0, L = (p, .ins C dx fs) :: L0 ∧ FlB K F fs fw L0
def lsV (K : PySem.W.Frag) (ds : List PyData) : Vw := fun F v L => ∃ p vs, v = .ref p ∧ L = [(p, .lst vs)] ∧ Fh.DpAll K F vs ds
section
variable {K : PySem.W.Frag} {M : Addr → Prop} {F0 H0 F H F' H' : Hp} {σ xs gs : L2.St} {ss ts rs gt ss2 as : List Sl} {ta tb te tc td tl tj tk tv tx ty : TE} {tr : TA} {t u tt : TT} {tz tbd tu tw : TS} {r ra rb a b : Sl} {d da db e kd : PyData} {ds es : List PyData} {Q : VK} {v w x y : V} {i : Nat} {ks : List (L2.Key × PyData)} {kv : List (L2.Key × V)} {k : L2.Key} {φ : Hp → V → Prop} {p q C : Addr} {kl : List (L2.Key × List PyData)} {L L0 A : List (Addr × HO)} {α : Type} {f : Str} {fs : List (Str × V)} {fw : List (Str × Fw)} {ψ ψ' ψ1 ψ2 : Vw}
/-- a new list, as a thing of our own like any -/
theorem EvR.own (h : EvR K te ss (.ls ds)) : EvR K te ss (.mu (lsV K ds)) := fun M F0 H0 F H σ xs ts l S Q q => by
  refine h M F0 H0 F H σ xs ts l S _ fun v F1 H1 g1 n1 S1 => ?_
  have S2 := S1
  rw [← List.append_assoc, ← List.append_assoc] at S2
  have hn : ((ss ++ ts) ++ [Sl.ls ds])[(ss ++ ts).length]? = some (.ls ds) := by rw [List.getElem?_append_right (Nat.le_refl _), Nat.sub_self]; rfl
  have S3 := S2.redesc (s' := .mu (lsV K ds)) hn (fun L ⟨p, vs, e1, e2, e3⟩ => ⟨.ref p, e1, fun F' e => ⟨p, vs, rfl, e2, dpAll_ex e _ _ e3⟩⟩) (fun z => nomatch z)
  rw [List.set_append_right _ _ (Nat.le_refl _), Nat.sub_self, List.append_assoc, List.append_assoc] at S3
  exact q v F1 H1 g1 trivial S3
theorem FlB.ex (h : FlB K F fs fw L) (e : Ex F F') : FlB K F' fs fw L := by
  induction h with
  | nil => exact .nil
  | dt h _ ih => exact .dt (dp_ex e _ _ h) ih
  | fx h _ ih => exact .fx (fun F2 e2 => h F2 (e.trans e2)) ih
  | ow h _ ih => exact .ow (fun F2 e2 => h F2 (e.trans e2)) ih
theorem FlB.len (h : FlB K F fs fw L) : fs.length = fw.length := by
  induction h with
  | nil => rfl
  | _ h _ ih => rw [List.length_cons, List.length_cons, ih]
theorem FlB.no (h : FlB K F fs fw L) (e : fw.lookup f = none) : fs.lookup f = none := by
  induction h with
  | nil => rfl
  | @dt g _ _ _ _ _ h _ ih =>
    unfold List.lookup at e ⊢
    cases hb : (f == g) with
    | true => rw [hb] at e; cases e
    | false => rw [hb] at e; exact ih e
  | @fx g _ _ _ _ _ h _ ih =>
    unfold List.lookup at e ⊢
    cases hb : (f == g) with
    | true => rw [hb] at e; cases e
    | false => rw [hb] at e; exact ih e
  | @ow g _ _ _ _ _ _ h _ ih =>
    unfold List.lookup at e ⊢
    cases hb : (f == g) with
    | true => rw [hb] at e; cases e
    | false => rw [hb] at e; exact ih e
theorem FlB.getD (h : FlB K F fs fw L) (e : fw.lookup f = some (.dt d)) : ∃ v, fs.lookup f = some v ∧ Fh.Dp K F v d := by
  induction h with
  | nil => cases e
  | @dt g v _ _ _ _ h _ ih =>
    unfold List.lookup at e ⊢
    cases hb : (f == g) with
    | true => rw [hb] at e; cases e; exact ⟨v, rfl, h⟩
    | false => rw [hb] at e; exact ih e
  | @fx g _ _ _ _ _ h _ ih =>
    unfold List.lookup at e ⊢
    cases hb : (f == g) with
    | true => rw [hb] at e; cases e
    | false => rw [hb] at e; exact ih e
  | @ow g _ _ _ _ _ _ h _ ih =>
    unfold List.lookup at e ⊢
    cases hb : (f == g) with
    | true => rw [hb] at e; cases e
    | false => rw [hb] at e; exact ih e
/-- a new field -/
theorem FlB.new (h : FlB K F fs fw L) (e : fw.lookup f = none) (hs : ∀ F', Ex F F' → ψ F' v A) : FlB K F (putF f v fs) (putW f (.ow ψ) fw) (L ++ A) := by
  induction h with
  | nil =>
    have := FlB.ow (f := f) hs (.nil (K := K) (F := F))
    rw [List.append_nil] at this
    exact this
  | @dt g _ _ _ _ _ h _ ih =>
    unfold List.lookup at e
    cases hb : (f == g) with
    | true => rw [hb] at e; cases e
    | false =>
      rw [hb] at e
      unfold putF putW
      have ne : ¬ g = f := fun z => by rw [z, beq_self_eq_true] at hb; cases hb
      rw [if_neg ne, if_neg ne]
      exact .dt h (ih e)
  | @fx g _ _ _ _ _ h _ ih =>
    unfold List.lookup at e
    cases hb : (f == g) with
    | true => rw [hb] at e; cases e
    | false =>
      rw [hb] at e
      unfold putF putW
      have ne : ¬ g = f := fun z => by rw [z, beq_self_eq_true] at hb; cases hb
      rw [if_neg ne, if_neg ne]
      exact .fx h (ih e)
  | @ow g _ _ _ _ _ _ h _ ih =>
    unfold List.lookup at e
    cases hb : (f == g) with
    | true => rw [hb] at e; cases e
    | false =>
      rw [hb] at e
      unfold putF putW
      have ne : ¬ g = f := fun z => by rw [z, beq_self_eq_true] at hb; cases hb
      rw [if_neg ne, if_neg ne, List.append_assoc]
      exact .ow h (ih e)
/-- a field that owns nothing, or a new one, takes what stays -/
theorem FlB.put (h : FlB K F fs fw L) (ok : ∀ ψ, fw.lookup f ≠ some (.ow ψ)) (hs : ItR K F v a) : FlB K F (putF f v fs) (putW f (swI a) fw) L := by
  have one : ∀ {g : Str} {fs : List (Str × V)} {fw : List (Str × Fw)} {L : List (Addr × HO)}, FlB K F fs fw L → FlB K F ((g, v) :: fs) ((g, swI a) :: fw) L := fun {g fs fw L} t => by
    cases a with
    | dt d => exact .dt hs t
    | fx φ => exact .fx hs t
    | no => cases hs
    | ls ds => cases hs
    | al j => cases hs
    | mu ψ => cases hs
  induction h with
  | nil => exact one .nil
  | @dt g _ _ _ _ _ h t ih =>
    unfold putF putW
    by_cases ne : g = f
    · rw [if_pos ne, if_pos ne]
      exact one t
    · rw [if_neg ne, if_neg ne]
      refine .dt h (ih fun ψ z => ok ψ ?_)
      unfold List.lookup
      rw [beq_eq_false_iff_ne.mpr (Ne.symm ne)]
      exact z
  | @fx g _ _ _ _ _ h t ih =>
    unfold putF putW
    by_cases ne : g = f
    · rw [if_pos ne, if_pos ne]
      exact one t
    · rw [if_neg ne, if_neg ne]
      refine .fx h (ih fun ψ z => ok ψ ?_)
      unfold List.lookup
      rw [beq_eq_false_iff_ne.mpr (Ne.symm ne)]
      exact z
  | @ow g _ ψ0 _ _ _ _ h t ih =>
    unfold putF putW
    by_cases ne : g = f
    · refine absurd ?_ (ok ψ0)
      unfold List.lookup
      rw [ne, beq_self_eq_true]
    · rw [if_neg ne, if_neg ne]
      refine .ow h (ih fun ψ z => ok ψ ?_)
      unfold List.lookup
      rw [beq_eq_false_iff_ne.mpr (Ne.symm ne)]
      exact z
theorem obAt.ex (h : obAt K C p fw F v L) (e : Ex F F') : obAt K C p fw F' v L := by
  obtain ⟨a, dx, fs, L0, b, c⟩ := h
  exact ⟨a, dx, fs, L0, b, c.ex e⟩
end
end Fh
set_option Elab.async false
set_option linter.all false
set_option maxRecDepth 100000
set_option maxHeartbeats 2000000
/-! the fields of such objects: read, written, made to stay -/
namespace Fh
open PySem PySem.Spec PyProof.Rows L2 Evl LamX
open PySem.W (Datum EachIs AllAlike Sortable dataLe)
section
variable {K : PySem.W.Frag} {M : Addr → Prop} {F0 H0 F H F' H' : Hp} {σ xs gs : L2.St} {ss ts rs gt ss2 as : List Sl} {ta tb te tc td tl tj tk tv tx ty : TE} {tr : TA} {t u tt : TT} {tz tbd tu tw : TS} {r ra rb a b : Sl} {d da db e kd : PyData} {ds es : List PyData} {Q : VK} {v w x y : V} {i : Nat} {ks : List (L2.Key × PyData)} {kv : List (L2.Key × V)} {k : L2.Key} {φ : Hp → V → Prop} {p q C : Addr} {kl : List (L2.Key × List PyData)} {L L0 A : List (Addr × HO)} {α : Type} {f : Str} {fs : List (Str × V)} {fw : List (Str × Fw)} {ψ ψ' ψ1 ψ2 : Vw} {sw : Fw}
/-! ### o.f -/
/-! ### o.f = e -/
/-! ### o.f.append(e), o.f[k] = e -/
end
end Fh
set_option Elab.async false
set_option linter.all false
set_option maxRecDepth 100000
set_option maxHeartbeats 2000000
/-! a class whose objects stay as they were made: its __init__, its making, its methods' refusals -/
namespace Fh
open PySem PySem.Spec PyProof.Rows L2 Evl LamX
open PySem.W (Datum EachIs AllAlike Sortable dataLe)
structure GrN (p : Addr) (F H F' H' : Hp) : Prop where
  ff : Ex F F'
  hh : ∀ a o, a ≠ p → H a = some o → H' a = some o
  fh : Ex F' H'
  nw : ∀ a, a ≠ p → H a ≠ none → F a = none → F' a = none
abbrev RN := List Sl → (Hp → V → Prop) → Prop
/-- fields that may stay, as frozen things -/
inductive FzW (K : PySem.W.Frag) : List (Str × Fw) → List Str → List Sl → Prop where
  | nil : FzW K [] [] []
  | dt {f : Str} {d : PyData} {fw : List (Str × Fw)} {N : List Str} {as : List Sl} (t : FzW K fw N as) : FzW K ((f, .dt d) :: fw) (f :: N) (.dt d :: as)
  | fx {f : Str} {φ : Hp → V → Prop} {fw : List (Str × Fw)} {N : List Str} {as : List Sl} (t : FzW K fw N as) : FzW K ((f, .fx φ) :: fw) (f :: N) (.fx φ :: as)
  | ls {f : Str} {ds : List PyData} {fw : List (Str × Fw)} {N : List Str} {as : List Sl} (t : FzW K fw N as) : FzW K ((f, .ow (lsV K ds)) :: fw) (f :: N) (.dt (.list ds) :: as)
  | dk {f : Str} {ks : List (L2.Key × PyData)} {fw : List (Str × Fw)} {N : List Str} {as : List Sl} (t : FzW K fw N as) : FzW K ((f, .ow (dkM K ks)) :: fw) (f :: N) (.fx (dkF K ks) :: as)
section
variable {K : PySem.W.Frag} {M : Addr → Prop} {F0 H0 F H F' H' F2 : Hp} {σ xs gs : L2.St} {ss ts rs gt ss2 as : List Sl} {ta tb te tc td tl tj tk tv tx ty : TE} {tr : TA} {t u tt : TT} {tz tbd tu tw : TS} {r ra rb a b : Sl} {d da db e kd : PyData} {ds es : List PyData} {Q : VK} {v w x y : V} {vs ws dvs : List V} {i : Nat} {ks : List (L2.Key × PyData)} {φ φ' : Hp → V → Prop} {p q C C' : Addr} {L L0 A : List (Addr × HO)} {f m : Str} {fs : List (Str × V)} {fw : List (Str × Fw)} {ψ ψ' ψ1 ψ2 : Vw} {R : RN} {X : XG} {RG' : RG} {E E' : XK} {W : WX} {N : List Str}
theorem obF.ex (h : obF K C N as F v) (e : Ex F F') : obF K C N as F' v := by
  obtain ⟨p, dx, ws, rfl, a, b⟩ := h
  exact ⟨p, dx, ws, rfl, e _ _ a, b.ex e⟩
/-! ### such an object is made -/
/-! ### its fields and methods -/
end
end Fh
namespace Fh
open PySem PySem.Spec PyProof.Rows L2 Evl LamX
theorem hu1 {n : Nat} (h : n + 64 < cLine) : n + 1 < cLine := by omega
end Fh
namespace Fh
open PySem PySem.Spec PyProof.Rows L2 Evl LamX
def rSw : V → List V → Hp → VK → Prop := fun x xs H Q => ∃ a b, x = .str a ∧ xs = [.str b] ∧ Q (.bl (Txt.startswith a b)) H
theorem mt_sw {X : Cx} : MtR X "str.startswith" rSw := mt_startswith
theorem pe_swF {X : Cx} {o e : Expr} {to te : TE} {apos pos : Pos} (ho : PE X o to) (he : PE X e te) (hs : starEach [e] X.env = [(false, eval e X.env)] := by rfl) (hbase : attributeBase o "startswith" X.env (eval o X.env) = eval o X.env := by rfl) (hline : (apos.endLine == pos.line) = true := by rfl) : PE X (.Call (.Attribute o "startswith" apos) [e] [] pos) (tM1 rSw to te) := pe_m1 PySem.F.slot_str_startswith PySem.F.type_str_startswith mt_sw ho he hs hbase hline
theorem ev_sw {K : PySem.W.Frag} {ta tb : TE} {ss : List Sl} {a b : Str} (ha : EvR K ta ss (.dt (.str a))) (hb : EvR K tb ss (.dt (.str b))) : EvR K (tM1 rSw ta tb) ss (.dt (.bool (Txt.startswith a b))) := fun M F0 H0 F H σ xs ts l S Q q => by
  refine ha M F0 H0 F H σ xs ts l S _ fun x F1 H1 g1 n1 S1 => ?_
  have l1 := S.len2
  have hx := (S1.lastV l1 (d := .str a) rfl).str
  subst hx
  refine ⟨⟨a, rfl⟩, ?_⟩
  refine hb M F0 H0 F1 H1 σ _ _ l S1 _ fun y F2 H2 g2 n2 S2 => ?_
  have hy := (S2.lastV S1.len2 (d := .str b) rfl).str
  subst hy
  exact ⟨a, b, rfl, rfl, (RetR.mk (g1.trans g2) ((S2.back S1.len2).back l1) q).bl⟩
end Fh
set_option Elab.async false
set_option linter.all false
set_option maxRecDepth 100000
set_option maxHeartbeats 2000000
/-! row = d.setdefault(k, []), looked into and grown *by that name*; looks at lists without a slot; reversed -/
namespace Fh
open PySem PySem.Spec PyProof.Rows L2 Evl LamX
open PySem.W (Datum EachIs AllAlike Sortable dataLe)
def isA (q : Addr) : Sl := .fx fun _ v => v = .ref q
section
variable {K : PySem.W.Frag} {M : Addr → Prop} {F0 H0 F H F' H' : Hp} {σ xs gs : L2.St} {ss ts rs gt ss2 : List Sl} {ta tb te tc td tl tj tk tv tx ty : TE} {tr : TA} {t u tt : TT} {tz tbd tu tw : TS} {r ra rb a b : Sl} {d da db e kd : PyData} {ds es : List PyData} {Q : VK} {v x y : V} {i j : Nat} {k : L2.Key} {p q : Addr} {kl : List (L2.Key × List PyData)} {kv : List (L2.Key × V)} {L0 : List (Addr × HO)}
/-! ### ==, != of what has no slot -/
end
end Fh
set_option Elab.async false
set_option linter.all false
set_option maxRecDepth 100000
set_option maxHeartbeats 2000000
/-! what a call tells, made to stay at once; a loop over lists just told -/
namespace Fh
open PySem PySem.Spec PyProof.Rows L2 Evl LamX
open PySem.W (Datum EachIs AllAlike Sortable dataLe)
/-- what te gives stands by itself -/
def EvX (K : PySem.W.Frag) (te : TE) (ss : List Sl) (r : Sl) : Prop := ∀ (M : Addr → Prop) (F0 H0 F H : Hp) (σ xs : L2.St) (ts : List Sl), σ.length = ss.length → Sts K M F0 H0 F H (σ ++ xs) (ss ++ ts) →
  ∀ Q : VK, (∀ v F1 H1 F' H', Gr F H F1 H1 → Sts K M F0 H0 F1 H1 (σ ++ xs) (ss ++ ts) → (∀ M' F0' H0' σ' ss', Sts K M' F0' H0' F1 H1 σ' ss' → Sts K M' F0' H0' F' H' (σ' ++ [some v]) (ss' ++ [r])) → Q v H') → te σ H Q
section
variable {K : PySem.W.Frag} {M : Addr → Prop} {F0 H0 F H F' H' : Hp} {σ xs gs : L2.St} {ss ts rs gt ss2 as : List Sl} {ta tb te tc td tl tj tk tv tx ty : TE} {tr : TA} {t u tt : TT} {tz tbd tu tw : TS} {r ra rb a b : Sl} {d da db e kd : PyData} {ds es : List PyData} {Q : VK} {v x y : V} {i j : Nat} {p q C : Addr} {φ φ' : Hp → V → Prop} {ψ : Vw} {m : Str} {R : RG} {X : XG} {E : XK} {W : WX} {dvs : List V}
/-- a new thing of our own, told as one that stays -/
theorem EvX.frz (h : EvX K te ss (.mu ψ)) (hψ : ∀ F v L, ψ F v L → ∀ F2, Ex F F2 → (∀ z ∈ L, F2 z.1 = some z.2) → φ F2 v) : EvR K te ss (.fx φ) := fun M F0 H0 F H σ xs ts l S Q q => by
  classical
  refine h M F0 H0 F H σ xs ts l S _ fun v F1 H1 F' H' g1 S1 frm => ?_
  have S0 := frm _ _ _ _ _ (sts_nil S1.fh)
  obtain ⟨g0, _, L, O⟩ := S0
  obtain ⟨w, a, b⟩ := O.ok 0 _ rfl
  have ew : w = v := by cases a; rfl
  subst ew
  have at_ : ∀ z ∈ L 0, H' z.1 = some z.2 ∧ F' z.1 = none ∧ H1 z.1 = none := fun z hz => by
    obtain ⟨x1, x2, x3⟩ := O.at_ 0 _ z.1 z.2 rfl hz
    exact ⟨x1, x2, x3.resolve_right fun w => w.1.elim⟩
  let F2 : Hp := fun a => if a ∈ (L 0).map (·.1) then H' a else F' a
  have f2 : ∀ z ∈ L 0, F2 z.1 = some z.2 := fun z hz => by
    show (if _ then _ else _) = _
    rw [if_pos (List.mem_map.mpr ⟨z, hz, rfl⟩)]
    exact (at_ z hz).1
  have e1 : Ex F' F2 := fun a u e => by
    show (if _ then _ else _) = _
    split
    · rename_i hm
      obtain ⟨z, hz, rfl⟩ := List.mem_map.mp hm
      rw [(at_ z hz).2.1] at e
      cases e
    · exact e
  have gT := g0.toGr
  have g : Gr F1 H1 F2 H' := ⟨gT.ff.trans e1, gT.hh, fun a u e => by
    have e' : (if a ∈ (L 0).map (·.1) then H' a else F' a) = some u := e
    split at e'
    · exact e'
    · exact gT.fh a u e', fun a h1 h2 => by
    show (if _ then _ else _) = _
    split
    · rename_i hm
      obtain ⟨z, hz, rfl⟩ := List.mem_map.mp hm
      exact _root_.absurd (at_ z hz).2.2 h1
    · exact gT.nw a h1 h2⟩
  have S2 := (S1.grow g).push_fx (v := w) (φ := φ) fun F3 e3 => hψ F3 w _ (b F3 (e1.trans e3)) F3 (Ex.refl _) fun z hz => e3 _ _ (f2 z hz)
  rw [List.append_assoc, List.append_assoc] at S2
  exact q w F2 H' (g1.trans g) trivial S2
/-! ### for x in [l1, l2, ..], lists just told -/
/-! ### [.. for x in reversed(list)] -/
end
end Fh
set_option Elab.async false
set_option linter.all false
set_option maxRecDepth 100000
set_option maxHeartbeats 2000000
/-! an object made from a list of the caller's own, which stays the caller's -/
namespace Fh
open PySem PySem.Spec PyProof.Rows L2 Evl LamX
open PySem.W (Datum EachIs AllAlike Sortable dataLe)
abbrev RU := List PyData → List Sl → (Hp → V → Prop) → Prop
section
variable {K : PySem.W.Frag} {M : Addr → Prop} {F0 H0 F H F' H' F2 : Hp} {σ xs gs : L2.St} {ss ts rs gt ss2 as : List Sl} {ta tb te tc td tl tj tk tv tx ty : TE} {tr : TA} {t u tt : TT} {tz tbd tu tw : TS} {r ra rb a b : Sl} {d da db e kd : PyData} {ds es : List PyData} {Q : VK} {v w x y : V} {vs ws us dvs : List V} {i j : Nat} {φ φ' : Hp → V → Prop} {p q C C' : Addr} {E E' : XK} {N : List Str} {fw : List (Str × Fw)} {R : RU}
theorem AW.push2 {ws : List V} (h : AW K F ws as) : ∀ {σ0 : L2.St} {ss0 : List Sl}, Sts K M F0 H0 F H σ0 ss0 → Sts K M F0 H0 F H (σ0 ++ ws.map some) (ss0 ++ as) := by
  induction h with
  | nil => intro σ0 ss0 S; simpa using S
  | @dt v d vs as h _ ih =>
    intro σ0 ss0 S
    have := ih (S.push_dt h)
    simpa [List.append_assoc] using this
  | @fx v φ vs as h _ ih =>
    intro σ0 ss0 S
    have := ih (S.push_fx (φ := φ) h)
    simpa [List.append_assoc] using this
end
end Fh
set_option Elab.async false
set_option linter.all false
set_option maxRecDepth 100000
set_option maxHeartbeats 2000000
/-! dict(d); dicts by pairs of numbers; for k, x in enumerate(things) -/
namespace Fh
open PySem PySem.Spec PyProof.Rows L2 Evl LamX
open PySem.W (Datum EachIs AllAlike Sortable dataLe)
/-- a dict by pairs of numbers, of numbers -/
def pk (p : Int × Int) : List L2.Key := [.inl p.1, .inl p.2]
section
variable {K : PySem.W.Frag} {M : Addr → Prop} {F0 H0 F H F' H' F2 : Hp} {σ xs gs : L2.St} {ss ts rs gt ss2 as : List Sl} {ta tb te tc td tl tj tk tv tx ty : TE} {tr : TA} {t u tt : TT} {tz tbd tu tw : TS} {r ra rb a b : Sl} {d da db e kd : PyData} {ds es : List PyData} {Q : VK} {v w x y : V} {vs ws us dvs : List V} {i j : Nat} {φ φ' : Hp → V → Prop} {p q C C' : Addr} {E E' : XK} {ks : List (L2.Key × PyData)} {kv : List (L2.Key × V)} {kt : List ((Int × Int) × Int)} {m n z : Int} {α : Type}
theorem RetR.dkF (k : RetR K F H (.fx (dkF K ks)) Q) (h : KvD K F kv ks) {p : Addr} (hp : H p = none) : Q (.ref p) (upd H p (.dK kv)) := by
  refine k (.ref p) (upd F p (.dK kv)) _ fun M F0 H0 σ ss S => ?_
  have fp : F p = none := fresh_back S.fh hp
  exact (S.grow (Gr.newI S.fh hp)).push_fx fun F' e => ⟨p, kv, rfl, e _ _ upd_same, h.ex ((Ex.new fp).trans e)⟩
/-! ### by pairs -/
/-! ### [.. for a, b in dict] -/
/-! ### for k, x in enumerate(things) -/
end
end Fh
set_option Elab.async false
set_option linter.all false
set_option maxRecDepth 100000
set_option maxHeartbeats 2000000
/-! one of a list of things; a thing is not None; a comprehension over a locked dict, put to a name -/
namespace Fh
open PySem PySem.Spec PyProof.Rows L2 Evl LamX
open PySem.W (Datum EachIs AllAlike Sortable dataLe)
section
variable {K : PySem.W.Frag} {M : Addr → Prop} {F0 H0 F H F' H' F2 : Hp} {σ xs gs : L2.St} {ss ts rs gt ss2 as : List Sl} {ta tb te tc td tl tj tk tv tx ty : TE} {tr : TA} {t u tt : TT} {tz tbd tu tw : TS} {r ra rb a b : Sl} {d da db e kd : PyData} {ds es : List PyData} {Q : VK} {v w x y : V} {vs ws us dvs : List V} {i j k : Nat} {φ φ' : Hp → V → Prop} {p q C C' : Addr} {E E' : XK}
end
/-- two promises of one def, told as one -/
theorem FnOk.or {P : Program} {w : World} {K : PySem.W.Frag} {mg : Str → Option Value} {base : Heap} {CX : CXT} {k : Nat} {f : Addr} {fd : FuncData} {ps : List Str} {sp sp1 sp2 : Sp} (F1 : FnOk P w K mg base CX k f fd ps sp1) (F2 : FnOk P w K mg base CX k f fd ps sp2)
    (h : ∀ vs H Q E, sp vs H Q E → sp1 vs H Q E ∨ sp2 vs H Q E) : FnOk P w K mg base CX k f fd ps sp :=
  ⟨fun vs H Q E q => (h _ _ _ _ q).elim (F1.len vs H Q E) (F2.len vs H Q E), fun A outer s H args us vs Q E hr he hb hv hs => (h _ _ _ _ hs).elim (F1.run A outer s H args us vs Q E hr he hb hv) (F2.run A outer s H args us vs Q E hr he hb hv)⟩
end Fh
set_option Elab.async false
set_option linter.all false
set_option maxRecDepth 100000
set_option maxHeartbeats 2000000
/-! a thing told by less *than is known of it* -/
namespace Fh
open PySem PySem.Spec PyProof.Rows L2 Evl LamX
section
variable {K : PySem.W.Frag} {M : Addr → Prop} {F0 H0 F H F' H' F2 : Hp} {σ xs gs : L2.St} {ss ts rs gt ss2 as : List Sl} {te : TE} {Q : VK} {i : Nat} {φ φ' : Hp → V → Prop} {α : Type} {p : α → Prop} {ψ : α → Hp → V → Prop}
theorem EvR.less (h : EvR K te ss (.fx φ)) (m : ∀ F v, φ F v → φ' F v) : EvR K te ss (.fx φ') := fun M F0 H0 F H σ xs ts l S Q q => by
  refine h M F0 H0 F H σ xs ts l S _ fun v F1 H1 g1 n1 S1 => ?_
  have l1 := S.len2
  have hv := S1.lastF l1
  have S2 := (S1.back l1).push_fx (v := v) (φ := φ') fun F' e => m _ _ (hv F' e)
  rw [List.append_assoc, List.append_assoc] at S2
  exact q v F1 H1 g1 trivial S2
theorem wk_no1 : ∀ (l : List Sl) (i : Nat), Wk l (l.set i .no)
  | [], _ => .nil
  | a :: l, 0 => .no (Wk.refl l)
  | a :: l, i + 1 => .same rfl (wk_no1 l i)
/-- what stays is one of them, and stays so -/
theorem Sts.some (S : Sts K M F0 H0 F H (σ ++ gs) (ss ++ gt)) (l : σ.length = ss.length) (i : Nat) (h : ss[i]? = some (.fx fun F v => ∃ a, p a ∧ ψ a F v)) (ex : ∀ a F F' v, ψ a F v → Ex F F' → ψ a F' v) : ∃ a, p a ∧ Sts K M F0 H0 F H (σ ++ gs) (ss.set i (.fx (ψ a)) ++ gt) ∧ σ.length = (ss.set i (.fx (ψ a))).length := by
  have hil := (List.getElem?_eq_some_iff.mp h).1
  have h' : (ss ++ gt)[i]? = Option.some (.fx fun F v => ∃ a, p a ∧ ψ a F v) := by rw [List.getElem?_append_left hil]; exact h
  obtain ⟨v, e1, e2⟩ := S.get_fx h'
  obtain ⟨a, pa, x⟩ := e2 F (Ex.refl F)
  refine ⟨a, pa, ?_, by rw [List.length_set, l]⟩
  have S1 := S.weak (ss' := (ss ++ gt).set i .no) (wk_no1 _ i)
  have S2 := S1.tell (i := i) (φ := ψ a) (List.getElem?_set_self (by rw [List.length_append]; omega)) e1 fun F' e => ex a F F' v x e
  rw [List.set_set, List.set_append_left _ _ hil] at S2
  exact S2
end
end Fh
set_option Elab.async false
set_option linter.all false
set_option maxRecDepth 100000
set_option maxHeartbeats 2000000
/-! lists of lists, all our own; a slot's things handed to another name; a list turned about *in its place* -/
namespace Fh
open PySem PySem.Spec PyProof.Rows L2 Evl LamX
open PySem.W (Datum)
inductive NlL (K : PySem.W.Frag) (F : Hp) : List V → List (List PyData) → List (Addr × HO) → Prop where
  | nil : NlL K F [] [] []
  | cons {q : Addr} {vs us : List V} {ds : List PyData} {gs : List (List PyData)} {L : List (Addr × HO)} (h : Fh.DpAll K F vs ds) (t : NlL K F us gs L) : NlL K F (.ref q :: us) (ds :: gs) ((q, .lst vs) :: L)
def nlAt (K : PySem.W.Frag) (p : Addr) (gs : List (List PyData)) : Vw := fun F v L => v = .ref p ∧ ∃ us L0, L = (p, .lst us) :: L0 ∧ NlL K F us gs L0
def nlM (K : PySem.W.Frag) (gs : List (List PyData)) : Vw := fun F v L => ∃ p, nlAt K p gs F v L
section
variable {K : PySem.W.Frag} {M : Addr → Prop} {F0 H0 F H F' H' F2 : Hp} {σ xs gs : L2.St} {ss ts rs gt ss2 as : List Sl} {ta tb te tc td tl tj tk tv tx ty : TE} {tr : TA} {t u tt : TT} {tz tbd tu tw : TS} {r ra rb a b : Sl} {d da db e kd : PyData} {ds es : List PyData} {Q : VK} {v w x y : V} {vs ws us : List V} {i j k n : Nat} {φ φ' : Hp → V → Prop} {p q C C' : Addr} {E E' : XK} {ls : List (List PyData)} {L0 L : List (Addr × HO)} {ψ ψ' : Vw}
theorem NlL.ex (h : NlL K F us ls L0) (e : Ex F F') : NlL K F' us ls L0 := by
  induction h with
  | nil => exact .nil
  | cons h _ ih => exact .cons (dpAll_ex e _ _ h) ih
theorem NlL.len (h : NlL K F us ls L0) : us.length = ls.length := by
  induction h with
  | nil => rfl
  | cons h _ ih => rw [List.length_cons, List.length_cons, ih]
theorem NlL.frz (h : NlL K F us ls L0) (e : Ex F F') (hl : ∀ z ∈ L0, F' z.1 = some z.2) : Fh.DpAll K F' us (ls.map .list) := by
  induction h with
  | nil => exact .nil
  | cons h _ ih => exact .cons (.lst (SqL.of (hl _ List.mem_cons_self)) (dpAll_ex e _ _ h)) (ih fun z hz => hl z (List.mem_cons_of_mem _ hz))
theorem NlL.lst (h : NlL K F us ls L0) : ∀ z ∈ L0, notTup (some z.2) = true := by
  induction h with
  | nil => intro z hz; cases hz
  | cons h _ ih =>
    intro z hz
    rcases List.mem_cons.mp hz with rfl | hz
    · rfl
    · exact ih z hz
theorem NlL.at_ (h : NlL K F us ls L0) : ∀ {k : Nat}, ls[k]? = some ds → ∃ q vs, us[k]? = some (.ref q) ∧ (q, HO.lst vs) ∈ L0 ∧ Fh.DpAll K F vs ds := by
  induction h with
  | nil => intro k e; simp at e
  | @cons q0 vs0 us0 ds0 gs0 L h _ ih =>
    intro k e
    cases k with
    | zero => cases e; exact ⟨q0, vs0, rfl, List.mem_cons_self, h⟩
    | succ k =>
      obtain ⟨q, vs, a, b, c⟩ := ih (k := k) (by simpa using e)
      exact ⟨q, vs, by simpa using a, List.mem_cons_of_mem _ b, c⟩
/-- one of the lists, another one there -/
theorem NlL.put (h : NlL K F us ls L0) : ∀ {k : Nat}, ls[k]? = some ds → (L0.map (·.1)).Nodup → ∃ q vs, us[k]? = some (.ref q) ∧ (q, HO.lst vs) ∈ L0 ∧ Fh.DpAll K F vs ds ∧
    ∀ vs', ∃ L1, L1.map (·.1) = L0.map (·.1) ∧ (∀ z ∈ L1, z.1 ≠ q → z ∈ L0) ∧ (∀ o, (q, o) ∈ L1 → o = .lst vs') ∧ ∀ F' ds', Ex F F' → Fh.DpAll K F' vs' ds' → NlL K F' us (ls.set k ds') L1 := by
  induction h with
  | nil => intro k e; simp at e
  | @cons q0 vs0 us0 ds0 gs0 L h t ih =>
    intro k e nd
    have n1 := List.nodup_cons.mp nd
    cases k with
    | zero =>
      cases e
      refine ⟨q0, vs0, rfl, List.mem_cons_self, h, fun vs' => ⟨(q0, .lst vs') :: L, rfl, fun z hz ne => ?_, fun o ho => ?_, fun F' ds' eF hw => .cons hw (t.ex eF)⟩⟩
      · rcases List.mem_cons.mp hz with rfl | hz
        · exact absurd rfl ne
        · exact List.mem_cons_of_mem _ hz
      · rcases List.mem_cons.mp ho with ho | ho
        · cases ho
          rfl
        · exact absurd (List.mem_map.mpr ⟨_, ho, rfl⟩) n1.1
    | succ k =>
      obtain ⟨q, vs, a, b, c, go⟩ := ih (k := k) (by simpa using e) n1.2
      have nq : q ≠ q0 := fun z => n1.1 (z ▸ List.mem_map.mpr ⟨_, b, rfl⟩)
      refine ⟨q, vs, by simpa using a, List.mem_cons_of_mem _ b, c, fun vs' => ?_⟩
      obtain ⟨L1, a2, a3, a4, a1⟩ := go vs'
      refine ⟨(q0, .lst vs0) :: L1, ?_, fun z hz ne => ?_, fun o ho => ?_, fun F' ds' eF hw => ?_⟩
      · rw [List.map_cons, List.map_cons, a2]
      · rcases List.mem_cons.mp hz with rfl | hz
        · exact List.mem_cons_self
        · exact List.mem_cons_of_mem _ (a3 z hz ne)
      · rcases List.mem_cons.mp ho with ho | ho
        · cases ho
          exact absurd rfl nq
        · exact a4 o ho
      · rw [List.set_cons_succ]
        exact .cons (dpAll_ex eF _ _ h) (a1 F' ds' eF hw)
/-- all of them stay -/
theorem nlM_frz : ∀ F v L, nlM K ls F v L → ∀ F2, Ex F F2 → (∀ z ∈ L, F2 z.1 = some z.2) → Fh.Dp K F2 v (.list (ls.map .list)) := fun F v L h F2 e hl => by
  obtain ⟨p, rfl, us, L0, rfl, hn⟩ := h
  exact .lst (SqL.of (hl _ List.mem_cons_self)) (hn.frz e fun z hz => hl z (List.mem_cons_of_mem _ hz))
theorem Fz.nl : Fz K (.mu (nlM K ls)) (.dt (.list (ls.map .list))) := .mu (fun F v L F' h e at_ => nlM_frz F v L h F' e fun z hz => at_ z.1 z.2 hz) fun F v L h p' o hp => by
  obtain ⟨p, rfl, us, L0, rfl, hn⟩ := h
  rcases List.mem_cons.mp hp with hp | hp
  · cases hp
    rfl
  · exact hn.lst _ hp
theorem Fz.nlAt : Fz K (.mu (nlAt K p ls)) (.dt (.list (ls.map .list))) := .mu (fun F v L F' h e at_ => nlM_frz F v L ⟨p, h⟩ F' e fun z hz => at_ z.1 z.2 hz) fun F v L h p' o hp => by
  obtain ⟨rfl, us, L0, rfl, hn⟩ := h
  rcases List.mem_cons.mp hp with hp | hp
  · cases hp
    rfl
  · exact hn.lst _ hp
/-! ### xs.reverse() -/
/-! ### a slot's things go to another name -/
end
end Fh
set_option Elab.async false
set_option linter.all false
set_option maxRecDepth 100000
set_option maxHeartbeats 2000000
/-! looks at things of our own held still; lists of things: copied, cut, put together, *made by a comprehension* -/
namespace Fh
open PySem PySem.Spec PyProof.Rows L2 Evl LamX
open PySem.W (Datum)
inductive Fy (K : PySem.W.Frag) : Sl → Sl → Prop where
  | z {s t : Sl} (h : Fz K s t) : Fy K s t
  | mf {ψ : Vw} {φ : Hp → V → Prop} (h1 : ∀ F v L F', ψ F v L → Ex F F' → (∀ z ∈ L, F' z.1 = some z.2) → φ F' v) (h2 : ∀ F v L, ψ F v L → ∀ z ∈ L, notTup (some z.2) = true) : Fy K (.mu ψ) (.fx φ)
inductive FyA (K : PySem.W.Frag) : List Sl → List Sl → Prop where
  | nil : FyA K [] []
  | cons {s z : Sl} {ss zs : List Sl} (h : Fy K s z) (r : FyA K ss zs) : FyA K (s :: ss) (z :: zs)
/-- a list of things and a list of data, in a list: all our own -/
def hdM (K : PySem.W.Frag) (as : List Sl) (ds : List PyData) : Vw := fun F v L => ∃ p a b vs us, v = .ref p ∧ L = [(p, .lst [.ref a, .ref b]), (a, .lst vs), (b, .lst us)] ∧ AW K F vs as ∧ DpAll K F us ds
def hdF (K : PySem.W.Frag) (as : List Sl) (ds : List PyData) : Hp → V → Prop := flF K [.fx (flF K as), .dt (.list ds)]
section
variable {K : PySem.W.Frag} {M : Addr → Prop} {F0 H0 F H F' H' F2 : Hp} {σ xs gs τ : L2.St} {ss ts rs gt ss2 as bs zs tt' : List Sl} {ta tb te tc td tl tj tk tv tx ty : TE} {tr : TA} {t u tt : TT} {tz tbd tu tw : TS} {r ra rb a b : Sl} {d da db e kd : PyData} {ds es : List PyData} {Q : VK} {v w x y : V} {vs ws us : List V} {i j k n : Nat} {φ φ' : Hp → V → Prop} {p q C C' : Addr} {E E' : XK} {ψ ψ' : Vw}
theorem FyA.len : ∀ {ss : List Sl}, FyA K ss zs → ss.length = zs.length := fun {ss} h => by
  induction h with
  | nil => rfl
  | cons _ _ ih => rw [List.length_cons, List.length_cons, ih]
theorem FyA.get {z : Sl} : ∀ {ss : List Sl} {i : Nat}, FyA K ss zs → zs[i]? = some z → ∃ s, ss[i]? = some s ∧ Fy K s z := fun {ss i} h => by
  induction h generalizing i with
  | nil => intro e; simp at e
  | cons hh r ih =>
    intro e
    cases i with
    | zero => exact ⟨_, rfl, by cases e; exact hh⟩
    | succ i => exact ih (by simpa using e)
theorem Fy.gl : Fy K (.mu (glAt K p as)) (.fx (flF K as)) := .mf (fun F v L F' h e hl => by
  obtain ⟨rfl, vs, rfl, aw⟩ := h
  exact ⟨p, vs, rfl, hl _ List.mem_cons_self, aw.ex e⟩) fun F v L h z hz => by
  obtain ⟨rfl, vs, rfl, aw⟩ := h
  rw [List.mem_singleton.mp hz]
  rfl
theorem Fy.hd : Fy K (.mu (hdM K as ds)) (.fx (hdF K as ds)) := .mf (fun F v L F' h e hl => by
  obtain ⟨p, a, b, vs, us, rfl, rfl, aw, da⟩ := h
  refine ⟨p, _, rfl, hl _ List.mem_cons_self, .fx (fun F2 e2 => ⟨a, vs, rfl, e2 _ _ (hl (a, .lst vs) (by simp)), aw.ex (e.trans e2)⟩) (.dt (.lst (SqL.of (hl (b, .lst us) (by simp))) (dpAll_ex e _ _ da)) .nil)⟩) fun F v L h z hz => by
  obtain ⟨p, a, b, vs, us, rfl, rfl, aw, da⟩ := h
  simp only [List.mem_cons, List.not_mem_nil, or_false] at hz
  rcases hz with rfl | rfl | rfl <;> rfl
theorem Fy.same : plainSl r = true → Fy K r r := fun h => by
  cases r with
  | dt d => exact .z .dt
  | fx φ => exact .z .fx
  | _ => cases h
/-! ### lists of things -/
theorem AW.take (h : AW K F vs as) : ∀ n : Nat, AW K F (vs.take n) (as.take n) := by
  induction h with
  | nil => intro n; rw [List.take_nil, List.take_nil]; exact .nil
  | dt h _ ih =>
    intro n
    cases n with
    | zero => exact .nil
    | succ n => exact .dt h (ih n)
  | fx h _ ih =>
    intro n
    cases n with
    | zero => exact .nil
    | succ n => exact .fx h (ih n)
theorem AW.drop (h : AW K F vs as) : ∀ n : Nat, AW K F (vs.drop n) (as.drop n) := by
  induction h with
  | nil => intro n; rw [List.drop_nil, List.drop_nil]; exact .nil
  | dt h t ih =>
    intro n
    cases n with
    | zero => exact .dt h t
    | succ n => exact ih n
  | fx h t ih =>
    intro n
    cases n with
    | zero => exact .fx h t
    | succ n => exact ih n
def cutA (as : List Sl) (lo hi : Option Int) : List Sl := (as.drop (HT.sIx as.length 0 lo)).take (HT.sIx as.length as.length hi - HT.sIx as.length 0 lo)
theorem AW.cut {lo hi : Option Int} (h : AW K F vs as) : AW K F (cutV vs lo hi) (cutA as lo hi) := by
  unfold cutV cutA
  rw [h.len]
  exact (h.drop _).take _
theorem sIx2 {lo m : Nat} {c : Int} (h : c = (m : Int)) : HT.sIx n lo (some c) = min m n := by
  subst h
  by_cases hm : m ≤ n
  · rw [sIx_n hm, Nat.min_eq_left hm]
  · unfold HT.sIx
    simp
    omega
theorem cutD_take2 {m : Nat} : cutD ds none (some (m : Int)) = ds.take m := by
  unfold cutD
  rw [sIx2 rfl]
  show (ds.drop 0).take (min m ds.length - 0) = _
  rw [List.drop_zero, Nat.sub_zero]
  by_cases h : m ≤ ds.length
  · rw [Nat.min_eq_left h]
  · rw [Nat.min_eq_right (by omega), List.take_length, List.take_of_length_le (by omega)]
/-! ### things made one by one -/
end
end Fh
set_option Elab.async false
set_option linter.all false
set_option maxRecDepth 100000
set_option maxHeartbeats 2000000
/-! defs that are handed lists of their caller's own: looked at and left as they are, or *changed for good* -/
namespace Fh
open PySem PySem.Spec PyProof.Rows L2 Evl LamX
open PySem.W (Datum)
def offL (H : Hp) (X : List Addr) : Hp := fun a => if a ∈ X then none else H a
abbrev RQ := List Sl → PyData → (Hp → V → Prop) → Prop
structure GrX (X : Addr → Prop) (F H F' H' : Hp) : Prop where
  ff : Ex F F'
  hh : ∀ a o, ¬ X a → H a = some o → H' a = some o
  fh : Ex F' H'
  nw : ∀ a, ¬ X a → H a ≠ none → F a = none → F' a = none
abbrev RD := PyData → List (List PyData) → List PyData → List (List PyData) → List PyData → Prop
/-- a list of lists and a list, the caller's own, changed; the first is told, and both stay from now on -/
def spD (K : PySem.W.Frag) (R : RD) : Sp := fun vs H Q E => ∃ F w0 p us q ug ls L0 d0 g ls' g', vs = [w0, .ref p, .ref q] ∧ Ex F H ∧ Fh.Dp K F w0 d0 ∧ H p = some (.lst us) ∧ F p = none ∧ NlL K F us ls L0 ∧ (∀ z ∈ L0, H z.1 = some z.2 ∧ F z.1 = none) ∧ H q = some (.lst ug) ∧ F q = none ∧ Fh.DpAll K F ug g ∧ (p :: (L0.map (·.1) ++ [q])).Nodup ∧
  R d0 ls g ls' g' ∧ ∀ F' H', GrX (fun a => a ∈ p :: (L0.map (·.1) ++ [q])) F H F' H' → Fh.Dp K F' (.ref p) (.list (ls'.map .list)) → Fh.Dp K F' (.ref q) (.list g') → Q (.ref p) H'
section
variable {K : PySem.W.Frag} {M : Addr → Prop} {F0 H0 F H F' H' F2 : Hp} {σ xs gs τ : L2.St} {ss ts rs gt ss2 as bs zs tt' : List Sl} {ta tb te tc td tl tj tk tv tx ty : TE} {tr : TA} {t u tt : TT} {tz tbd tu tw : TS} {r ra rb a b : Sl} {d da db e kd : PyData} {ds es : List PyData} {Q : VK} {v w x y : V} {vs ws us ug : List V} {i j k n : Nat} {φ φ' : Hp → V → Prop} {p q C C' : Addr} {E E' : XK} {ψ ψ' : Vw} {X : List Addr} {ls ls' : List (List PyData)} {R : RQ}
theorem off_in {a : Addr} (h : a ∈ X) : offL H X a = none := if_pos h
theorem off_out {a : Addr} (h : ¬ a ∈ X) : offL H X a = H a := if_neg h
/-! ### such defs are called -/
end
end Fh
set_option Elab.async false
set_option linter.all false
set_option maxRecDepth 100000
set_option maxHeartbeats 2000000
/-! a def that changes a list of lists and a list of its caller *for good* -/
namespace Fh
open PySem PySem.Spec PyProof.Rows L2 Evl LamX
open PySem.W (Datum)
section
variable {K : PySem.W.Frag} {M : Addr → Prop} {F0 H0 F H F' H' F2 : Hp} {σ xs gs τ : L2.St} {ss ts rs gt ss2 as bs zs tt' : List Sl} {ta tb te tc td tl tj tk tv tx ty : TE} {tr : TA} {t u tt : TT} {tz tbd tu tw : TS} {r ra rb a b : Sl} {d da db e kd d0 : PyData} {ds es g g' : List PyData} {Q : VK} {v w x y w0 : V} {vs ws us ug : List V} {i j k n : Nat} {φ φ' : Hp → V → Prop} {p q C C' : Addr} {E E' : XK} {ψ ψ' : Vw} {X : List Addr} {ls ls' : List (List PyData)} {R : RD} {L0 : List (Addr × HO)}
theorem spD_len : ∀ vs H Q E, spD K R vs H Q E → vs.length = 3 := fun vs H Q E h => by
  obtain ⟨F, w0, p, us, q, ug, ls, L0, d0, g, ls', g', rfl, _⟩ := h
  rfl
end
end Fh
set_option Elab.async false
set_option linter.all false
set_option maxRecDepth 100000
set_option maxHeartbeats 2000000
/-! a name for what is handed in, or for *what stands for it* -/
namespace Fh
open PySem PySem.Spec PyProof.Rows L2 Evl LamX
open PySem.W (Datum)
section
variable {K : PySem.W.Frag} {M : Addr → Prop} {F0 H0 F H F' H' F2 : Hp} {σ xs gs τ : L2.St} {ss ts rs gt ss2 as bs zs tt' : List Sl} {ta tb te tc td tl tj tk tv tx ty : TE} {tr : TA} {t u tt : TT} {tz tbd tu tw : TS} {r ra rb a b : Sl} {d da db e kd d0 : PyData} {ds es g g' : List PyData} {Q : VK} {v w x y w0 : V} {vs ws us ug : List V} {i j k n : Nat} {φ φ' : Hp → V → Prop} {p q C C' : Addr} {E E' : XK} {ψ ψ' : Vw} {X : List Addr} {ls ls' : List (List PyData)} {R : RQ}
end
end Fh
set_option Elab.async false
set_option linter.all false
set_option maxRecDepth 100000
set_option maxHeartbeats 2000000
/-! an object with a list of objects, each with a thing that stays and a dict of numbers of *its own* -/
namespace Fh
open PySem PySem.Spec PyProof.Rows L2 Evl LamX
open PySem.W (Datum)
abbrev Stk := (Hp → V → Prop) × List Nat
def gnV (g : List Nat) : List (L2.Key × V) := g.map fun n : Nat => ((Sum.inl (n : Int), V.bl true) : L2.Key × V)
def gnD (g : List Nat) : List (L2.Key × PyData) := g.map fun n : Nat => ((Sum.inl (n : Int), PyData.bool true) : L2.Key × PyData)
inductive StA (K : PySem.W.Frag) (CS : Addr) (F : Hp) : List Addr → List Stk → List (Addr × HO) → Prop where
  | nil : StA K CS F [] [] []
  | cons {s dx g : Addr} {b : V} {φ : Hp → V → Prop} {gn : List Nat} {ss : List Addr} {sts : List Stk} {L : List (Addr × HO)} (hb : ∀ F', Ex F F' → φ F' b) (t : StA K CS F ss sts L) :
      StA K CS F (s :: ss) ((φ, gn) :: sts) ((s, .ins CS dx [("book", b), ("gone", .ref g)]) :: (g, .dK (gnV gn)) :: L)
def hsU (K : PySem.W.Frag) (CHo CS p q : Addr) (ss : List Addr) (sts : List Stk) : Vw := fun F v L => v = .ref p ∧ ∃ dx L0, L = (p, .ins CHo dx [("stacks", .ref q)]) :: (q, .lst (ss.map V.ref)) :: L0 ∧ StA K CS F ss sts L0
def stF (K : PySem.W.Frag) (CS : Addr) (s : Stk) : Hp → V → Prop := obF K CS ["book", "gone"] [.fx s.1, .fx (dkF K (gnD s.2))]
def hsI (K : PySem.W.Frag) (CS : Addr) (sts : List Stk) : List Sl := sts.map fun s => .fx (stF K CS s)
def hsF (K : PySem.W.Frag) (CHo CS : Addr) (sts : List Stk) : Hp → V → Prop := obF K CHo ["stacks"] [.fx (flF K (hsI K CS sts))]
abbrev RH := List Stk → List Sl → List Stk → PyData → Prop
section
variable {K : PySem.W.Frag} {M : Addr → Prop} {F0 H0 F H F' H' F2 : Hp} {σ xs gs τ : L2.St} {ss ts rs gt ss2 as bs zs tt' : List Sl} {ta tb te tc td tl tj tk tv tx ty : TE} {tr : TA} {t u tt : TT} {tz tbd tu tw : TS} {r ra rb a b : Sl} {d da db e kd d0 : PyData} {ds es g g' : List PyData} {Q : VK} {v w x y w0 : V} {vs ws us ug : List V} {i j k n : Nat} {φ φ' : Hp → V → Prop} {p q C C' CS CHo : Addr} {E E' : XK} {ψ ψ' : Vw} {X : List Addr} {L0 L : List (Addr × HO)} {sl sl' : List Addr} {sts sts' : List Stk} {gn : List Nat} {m : Str} {R : RH}
theorem gn_kv : ∀ gn : List Nat, KvD K F (gnV gn) (gnD gn)
  | [] => .nil
  | n :: gn => .cons (.bl true) (gn_kv gn)
theorem StA.ex (h : StA K CS F sl sts L) (e : Ex F F') : StA K CS F' sl sts L := by
  induction h with
  | nil => exact .nil
  | cons hb _ ih => exact .cons (fun F2 e2 => hb F2 (e.trans e2)) ih
theorem StA.len (h : StA K CS F sl sts L) : sl.length = sts.length := by
  induction h with
  | nil => rfl
  | cons _ _ ih => rw [List.length_cons, List.length_cons, ih]
theorem StA.app (h : StA K CS F sl sts L) (h2 : StA K CS F sl' sts' L0) : StA K CS F (sl ++ sl') (sts ++ sts') (L ++ L0) := by
  induction h with
  | nil => exact h2
  | cons hb _ ih => exact .cons hb ih
theorem StA.notTup (h : StA K CS F sl sts L) : ∀ z ∈ L, notTup (some z.2) = true := by
  induction h with
  | nil => intro z hz; cases hz
  | cons hb _ ih =>
    intro z hz
    rcases List.mem_cons.mp hz with rfl | hz
    · rfl
    · rcases List.mem_cons.mp hz with rfl | hz
      · rfl
      · exact ih z hz
theorem StA.frz (h : StA K CS F sl sts L) (e : Ex F F') (hl : ∀ z ∈ L, F' z.1 = some z.2) : AW K F' (sl.map V.ref) (hsI K CS sts) := by
  induction h with
  | nil => exact .nil
  | @cons s dx g b φ gn ss sts L hb _ ih =>
    refine .fx (fun F2 e2 => ⟨s, dx, [b, .ref g], rfl, e2 _ _ (hl (s, _) List.mem_cons_self), .fx (fun F3 e3 => hb F3 ((e.trans e2).trans e3)) (.fx (fun F3 e3 => ⟨g, _, rfl, e3 _ _ (e2 _ _ (hl (g, _) (List.mem_cons_of_mem _ List.mem_cons_self))), gn_kv gn⟩) .nil)⟩) (ih fun z hz => hl z (List.mem_cons_of_mem _ (List.mem_cons_of_mem _ hz)))
theorem hsU.ex (h : hsU K CHo CS p q sl sts F v L) (e : Ex F F') : hsU K CHo CS p q sl sts F' v L := by
  obtain ⟨rfl, dx, L0, rfl, hs⟩ := h
  exact ⟨rfl, dx, L0, rfl, hs.ex e⟩
theorem hsU_frz (h : hsU K CHo CS p q sl sts F v L) (e : Ex F F') (hl : ∀ z ∈ L, F' z.1 = some z.2) : hsF K CHo CS sts F' v := by
  obtain ⟨rfl, dx, L0, rfl, hs⟩ := h
  refine ⟨p, dx, [.ref q], rfl, hl (p, _) List.mem_cons_self, .fx (fun F2 e2 => ⟨q, _, rfl, e2 _ _ (hl (q, _) (List.mem_cons_of_mem _ List.mem_cons_self)), (hs.frz e fun z hz => hl z (List.mem_cons_of_mem _ (List.mem_cons_of_mem _ hz))).ex e2⟩) .nil⟩
theorem hsU_notTup (h : hsU K CHo CS p q sl sts F v L) : ∀ z ∈ L, notTup (some z.2) = true := fun z hz => by
  obtain ⟨rfl, dx, L0, rfl, hs⟩ := h
  rcases List.mem_cons.mp hz with rfl | hz
  · rfl
  · rcases List.mem_cons.mp hz with rfl | hz
    · rfl
    · exact hs.notTup z hz
theorem Fy.hsU : Fy K (.mu (hsU K CHo CS p q sl sts)) (.fx (hsF K CHo CS sts)) := .mf (fun F v L F' h e hl => hsU_frz h e hl) fun F v L h => hsU_notTup h
/-! ### such a def's beginning and end -/
/-! ### called -/
end
end Fh
set_option Elab.async false
set_option linter.all false
set_option maxRecDepth 100000
set_option maxHeartbeats 2000000
/-! a class whose new objects stay our own; houses *grow and are poured* -/
namespace Fh
open PySem PySem.Spec PyProof.Rows L2 Evl LamX
open PySem.W (Datum)
abbrev RM := List Sl → Vw → Prop
def skM (K : PySem.W.Frag) (CS : Addr) (s : Stk) : Vw := fun F v L => ∃ a dx g b, v = .ref a ∧ L = [(a, .ins CS dx [("book", b), ("gone", .ref g)]), (g, .dK (gnV s.2))] ∧ ∀ F', Ex F F' → s.1 F' b
/-- a def that is handed a list of such objects, and tells a new one -/
abbrev RPk := List Stk → Stk → Prop
def rfA (a : Addr) : Sl := .fx fun _ v => v = .ref a
section
variable {K : PySem.W.Frag} {M : Addr → Prop} {F0 H0 F H F' H' F2 : Hp} {σ xs gs τ : L2.St} {ss ts rs gt ss2 as bs zs tt' : List Sl} {ta tb te tc td tl tj tk tv tx ty : TE} {tr : TA} {t u tt : TT} {tz tbd tu tw : TS} {r ra rb a b : Sl} {d da db e kd d0 : PyData} {ds es g g' : List PyData} {Q : VK} {v w x y w0 : V} {vs ws us ug : List V} {i j k n : Nat} {φ φ' : Hp → V → Prop} {p q C C' CS CHo : Addr} {E E' : XK} {ψ ψ' : Vw} {X : List Addr} {L0 L : List (Addr × HO)} {sl sl' : List Addr} {sts sts' : List Stk} {gn : List Nat} {m : Str} {R : RM} {fw : List (Str × Fw)} {f : Str}
theorem skM.one {s : Stk} (h : skM K CS s F v L) : ∃ a, v = .ref a ∧ StA K CS F [a] [s] L := by
  obtain ⟨a, dx, g, b, rfl, rfl, hb⟩ := h
  exact ⟨a, rfl, .cons hb .nil⟩
end
end Fh
set_option Elab.async false
set_option linter.all false
set_option maxRecDepth 100000
set_option maxHeartbeats 2000000
/-! a house's list of objects, *set anew* -/
namespace Fh
open PySem PySem.Spec PyProof.Rows L2 Evl LamX
open PySem.W (Datum)
section
variable {K : PySem.W.Frag} {M : Addr → Prop} {F0 H0 F H F' H' F2 : Hp} {σ xs gs τ : L2.St} {ss ts rs gt ss2 as bs zs tt' : List Sl} {ta tb te tc td tl tj tk tv tx ty tneg : TE} {tr : TA} {t u tt : TT} {tz tbd tu tw : TS} {r ra rb a b : Sl} {d da db e kd d0 : PyData} {ds es g g' : List PyData} {Q : VK} {v w x y w0 : V} {vs ws us ug : List V} {i j k n : Nat} {φ φ' : Hp → V → Prop} {p q C C' CS CHo : Addr} {E E' : XK} {ψ ψ' : Vw} {X : List Addr} {L0 L : List (Addr × HO)} {sl sl' : List Addr} {sts sts' : List Stk} {gn : List Nat} {m : Str} {R : RPk}
theorem StA.split (h : StA K CS F sl (sts ++ sts') L) : ∃ s1 s2 L1 L2, sl = s1 ++ s2 ∧ L = L1 ++ L2 ∧ StA K CS F s1 sts L1 ∧ StA K CS F s2 sts' L2 := by
  induction sts generalizing sl L with
  | nil => exact ⟨[], sl, [], L, rfl, rfl, .nil, h⟩
  | cons s sts ih =>
    cases h with
    | cons hb t =>
      obtain ⟨s1, s2, L1, L2, rfl, rfl, a, b⟩ := ih t
      exact ⟨_ :: s1, s2, _ :: _ :: L1, L2, rfl, rfl, .cons hb a, b⟩
end
end Fh
set_option Elab.async false
set_option linter.all false
set_option maxRecDepth 100000
set_option maxHeartbeats 2000000
/-! a def that is handed a list of such objects: its looks, its end *and its making of a new one* -/
namespace Fh
open PySem PySem.Spec PyProof.Rows L2 Evl LamX
open PySem.W (Datum)
section
variable {K : PySem.W.Frag} {M : Addr → Prop} {F0 H0 F H F' H' F2 : Hp} {σ xs gs τ : L2.St} {ss ts rs gt ss2 as bs zs tt' : List Sl} {ta tb te tc td tl tj tk tv tx ty tneg : TE} {tr : TA} {t u tt : TT} {tz tbd tu tw : TS} {r ra rb a b : Sl} {d da db e kd d0 : PyData} {ds es g g' : List PyData} {Q : VK} {v w x y w0 : V} {vs ws us ug : List V} {i j k n : Nat} {φ φ' : Hp → V → Prop} {p q C C' CS CHo : Addr} {E E' : XK} {ψ ψ' : Vw} {X : List Addr} {L0 L : List (Addr × HO)} {sl sl' : List Addr} {sts sts' : List Stk} {gn : List Nat} {m : Str} {R : RPk}
theorem StA.at_ (h : StA K CS F sl sts L0) : ∀ {k : Nat} {s : Stk}, sts[k]? = some s → ∃ a dx g b, sl[k]? = some a ∧ (a, HO.ins CS dx [("book", b), ("gone", .ref g)]) ∈ L0 ∧ (g, HO.dK (gnV s.2)) ∈ L0 ∧ ∀ F', Ex F F' → s.1 F' b := by
  induction h with
  | nil => intro k s e; simp at e
  | @cons s0 dx0 g0 b0 φ gn ss sts L hb _ ih =>
    intro k s e
    cases k with
    | zero =>
      cases e
      exact ⟨s0, dx0, g0, b0, rfl, List.mem_cons_self, List.mem_cons_of_mem _ List.mem_cons_self, hb⟩
    | succ k =>
      obtain ⟨a, dx, g, b, h1, h2, h3, h4⟩ := ih (k := k) (by simpa using e)
      exact ⟨a, dx, g, b, by simpa using h1, List.mem_cons_of_mem _ (List.mem_cons_of_mem _ h2), List.mem_cons_of_mem _ (List.mem_cons_of_mem _ h3), h4⟩
end
end Fh
set_option Elab.async false
set_option linter.all false
set_option maxRecDepth 100000
set_option maxHeartbeats 2000000
/-! looks that tell tuples of things, or lists of lists; a list of things by a number from behind; a comprehension *that makes lists* -/
namespace Fh
open PySem PySem.Spec PyProof.Rows L2 Evl LamX
open PySem.W (Datum)
section
variable {K : PySem.W.Frag} {M : Addr → Prop} {F0 H0 F H F' H' F2 : Hp} {σ xs gs τ : L2.St} {ss ts rs gt ss2 as bs zs tt' : List Sl} {ta tb te tc td tl tj tk tv tx ty tneg : TE} {tr : TA} {t u tt : TT} {tz tbd tu tw : TS} {r ra rb a b : Sl} {d da db e kd d0 : PyData} {ds es g g' : List PyData} {Q : VK} {v w x y w0 : V} {vs ws us ug : List V} {i j k n : Nat} {φ φ' : Hp → V → Prop} {p q C C' CS CHo : Addr} {E E' : XK} {ψ ψ' : Vw} {X : List Addr} {L0 L : List (Addr × HO)} {sl sl' : List Addr} {sts sts' : List Stk} {gn : List Nat} {m : Str}
end
end Fh
set_option Elab.async false
set_option linter.all false
set_option maxRecDepth 100000
set_option maxHeartbeats 2000000
/-! a house looked at by its own addresses; one text taken out of it; its list of objects *sieved* -/
namespace Fh
open PySem PySem.Spec PyProof.Rows L2 Evl LamX
open PySem.W (Datum)
section
variable {K : PySem.W.Frag} {M : Addr → Prop} {F0 H0 F H F' H' F2 : Hp} {σ xs gs τ : L2.St} {ss ts rs gt ss2 as bs zs tt' : List Sl} {ta tb te tc td tl tj tk tv tx ty tneg : TE} {tr : TA} {t u tt : TT} {tz tbd tu tw : TS} {r ra rb a b : Sl} {d da db e kd d0 : PyData} {ds es g g' : List PyData} {Q : VK} {v w x y w0 : V} {vs ws us ug : List V} {i j k n : Nat} {φ φ' : Hp → V → Prop} {p q C C' CS CHo sa : Addr} {E E' : XK} {ψ ψ' : Vw} {X : List Addr} {L0 L : List (Addr × HO)} {sl sl' : List Addr} {sts sts' : List Stk} {gn : List Nat} {m : Str} {s : Stk}
/-! ### stack.gone[number] = True -/
/-- one of the objects, its dict another one -/
theorem StA.put (h : StA K CS F sl sts L) : ∀ {k : Nat}, sl[k]? = some sa → (L.map (·.1)).Nodup → ∃ dx g b φ gn, sts[k]? = some (φ, gn) ∧ (sa, HO.ins CS dx [("book", b), ("gone", .ref g)]) ∈ L ∧ (g, HO.dK (gnV gn)) ∈ L ∧ (∀ F', Ex F F' → φ F' b) ∧
    ∀ gn', ∃ L1, L1.map (·.1) = L.map (·.1) ∧ (∀ z ∈ L1, z.1 ≠ g → z ∈ L) ∧ (∀ o, (g, o) ∈ L1 → o = .dK (gnV gn')) ∧ StA K CS F sl (sts.set k (φ, gn')) L1 := by
  induction h with
  | nil => intro k e; simp at e
  | @cons s0 dx0 g0 b0 φ0 gn0 ss sts L hb t ih =>
    intro k e nd
    have n1 := List.nodup_cons.mp nd
    have n2 := List.nodup_cons.mp n1.2
    cases k with
    | zero =>
      cases e
      refine ⟨dx0, g0, b0, φ0, gn0, rfl, List.mem_cons_self, List.mem_cons_of_mem _ List.mem_cons_self, hb, fun gn' => ⟨(sa, _) :: (g0, .dK (gnV gn')) :: L, rfl, fun z hz ne => ?_, fun o ho => ?_, .cons hb t⟩⟩
      · rcases List.mem_cons.mp hz with rfl | hz
        · exact List.mem_cons_self
        · rcases List.mem_cons.mp hz with rfl | hz
          · exact absurd rfl ne
          · exact List.mem_cons_of_mem _ (List.mem_cons_of_mem _ hz)
      · rcases List.mem_cons.mp ho with ho | ho
        · cases ho
          exact absurd List.mem_cons_self n1.1
        · rcases List.mem_cons.mp ho with ho | ho
          · cases ho
            rfl
          · exact absurd (List.mem_map.mpr ⟨_, ho, rfl⟩) n2.1
    | succ k =>
      obtain ⟨dx, g, b, φ, gn, a1, a2, a3, a4, go⟩ := ih (k := k) (by simpa using e) n2.2
      have ng1 : g ≠ s0 := fun z => n1.1 (List.mem_cons_of_mem _ (List.mem_map.mpr ⟨_, a3, z⟩))
      have ng2 : g ≠ g0 := fun z => n2.1 (List.mem_map.mpr ⟨_, a3, z⟩)
      refine ⟨dx, g, b, φ, gn, by simpa using a1, List.mem_cons_of_mem _ (List.mem_cons_of_mem _ a2), List.mem_cons_of_mem _ (List.mem_cons_of_mem _ a3), a4, fun gn' => ?_⟩
      obtain ⟨L1, b1, b2, b3, b4⟩ := go gn'
      refine ⟨(s0, .ins CS dx0 [("book", b0), ("gone", .ref g0)]) :: (g0, .dK (gnV gn0)) :: L1, by rw [List.map_cons, List.map_cons, b1]; rfl, fun z hz ne => ?_, fun o ho => ?_, .cons hb b4⟩
      · rcases List.mem_cons.mp hz with rfl | hz
        · exact List.mem_cons_self
        · rcases List.mem_cons.mp hz with rfl | hz
          · exact List.mem_cons_of_mem _ List.mem_cons_self
          · exact List.mem_cons_of_mem _ (List.mem_cons_of_mem _ (b2 z hz ne))
      · rcases List.mem_cons.mp ho with ho | ho
        · cases ho
          exact absurd rfl ng1
        · rcases List.mem_cons.mp ho with ho | ho
          · cases ho
            exact absurd rfl ng2
          · exact b3 o ho
end
end Fh
set_option Elab.async false
set_option linter.all false
set_option maxRecDepth 100000
set_option maxHeartbeats 2000000
/-! a house's list of objects sieved; what is told of an object no longer its own; *houses by any address* -/
namespace Fh
open PySem PySem.Spec PyProof.Rows L2 Evl LamX
open PySem.W (Datum)
section
variable {K : PySem.W.Frag} {M : Addr → Prop} {F0 H0 F H F' H' F2 : Hp} {σ xs gs τ : L2.St} {ss ts rs gt ss2 as bs zs tt' : List Sl} {ta tb te tc td tl tj tk tv tx ty tneg : TE} {tr : TA} {t u tt : TT} {tz tbd tu tw : TS} {r ra rb a b a' : Sl} {d da db e kd d0 : PyData} {ds es g g' : List PyData} {Q : VK} {v w x y w0 : V} {vs ws us ug : List V} {i j k n : Nat} {φ φ' : Hp → V → Prop} {p q C C' CS CHo sa : Addr} {E E' : XK} {ψ ψ' : Vw} {X : List Addr} {L0 L : List (Addr × HO)} {sl sl' : List Addr} {sts sts' : List Stk} {gn : List Nat} {m : Str} {s : Stk}
/-- those of which a row of truths holds -/
def kept {α : Type} : List Bool → List α → List α
  | b :: bl, x :: xs => if b then x :: kept bl xs else kept bl xs
  | _, _ => []
theorem StA.kept (h : StA K CS F sl sts L) : ∀ bl : List Bool, bl.length = sts.length → ∃ L', L'.Sublist L ∧ StA K CS F (kept bl sl) (kept bl sts) L' := by
  induction h with
  | nil =>
    intro bl e
    cases bl with
    | nil => exact ⟨[], .slnil, .nil⟩
    | cons => cases e
  | @cons s0 dx0 g0 b0 φ0 gn0 ss sts L hb t ih =>
    intro bl e
    cases bl with
    | nil => cases e
    | cons c bl =>
      obtain ⟨L', h1, h2⟩ := ih bl (by simpa using e)
      cases c with
      | true => exact ⟨_ :: _ :: L', .cons₂ _ (.cons₂ _ h1), .cons hb h2⟩
      | false => exact ⟨L', .cons _ (.cons _ h1), h2⟩
end
end Fh
set_option Elab.async false
set_option linter.all false
set_option maxRecDepth 100000
set_option maxHeartbeats 2000000
/-! lists of lists held by their addresses: loops over them, appending to each, copying one; a house *filled anew* -/
namespace Fh
open PySem PySem.Spec PyProof.Rows L2 Evl LamX
open PySem.W (Datum)
section
variable {K : PySem.W.Frag} {M : Addr → Prop} {F0 H0 F H F' H' F2 : Hp} {σ xs gs τ : L2.St} {ss ts rs gt ss2 as bs zs tt' : List Sl} {ta tb te tc td tl tj tk tv tx ty tneg : TE} {tr : TA} {t u tt : TT} {tz tbd tu tw : TS} {r ra rb a b a' : Sl} {d da db e kd d0 : PyData} {ds es g g' : List PyData} {Q : VK} {v w x y w0 : V} {vs ws us ug : List V} {i j k n : Nat} {φ φ' : Hp → V → Prop} {p q C C' CS CHo sa : Addr} {E E' : XK} {ψ ψ' : Vw} {X : List Addr} {L0 L : List (Addr × HO)} {sl sl' : List Addr} {sts sts' : List Stk} {gn : List Nat} {m : Str} {s : Stk} {ls : List (List PyData)} {R : RM}
/-- one of them, by its address -/
theorem NlL.ref (h : NlL K F us ls L0) {k : Nat} (hk : us[k]? = some (.ref p)) : ∃ ds vs, ls[k]? = some ds ∧ (p, HO.lst vs) ∈ L0 ∧ Fh.DpAll K F vs ds := by
  induction h generalizing k with
  | nil => simp at hk
  | @cons q0 vs0 us0 ds0 gs0 L h _ ih =>
    cases k with
    | zero => cases hk; exact ⟨ds0, vs0, rfl, List.mem_cons_self, h⟩
    | succ k =>
      obtain ⟨ds, vs, a, b, c⟩ := ih (k := k) (by simpa using hk)
      exact ⟨ds, vs, by simpa using a, List.mem_cons_of_mem _ b, c⟩
end
end Fh
set_option Elab.async false
set_option linter.all false
set_option maxRecDepth 100000
set_option maxHeartbeats 2000000
/-! a def that is handed a caller's own list of lists and tells a new house; *a house filled anew* -/
namespace Fh
open PySem PySem.Spec PyProof.Rows L2 Evl LamX
open PySem.W (Datum)
abbrev RHo := List (List PyData) → List Stk → Prop
section
variable {K : PySem.W.Frag} {M : Addr → Prop} {F0 H0 F H F' H' F2 : Hp} {σ xs gs τ : L2.St} {ss ts rs gt ss2 as bs zs tt' : List Sl} {ta tb te tc td tl tj tk tv tx ty tneg : TE} {tr : TA} {t u tt : TT} {tz tbd tu tw : TS} {r ra rb a b a' : Sl} {d da db e kd d0 : PyData} {ds es g g' : List PyData} {Q : VK} {v w x y w0 : V} {vs ws us ug : List V} {i j k n : Nat} {φ φ' : Hp → V → Prop} {p q C C' CS CHo sa : Addr} {E E' : XK} {ψ ψ' : Vw} {X : List Addr} {L0 L : List (Addr × HO)} {sl sl' : List Addr} {sts sts' : List Stk} {gn : List Nat} {m : Str} {s : Stk} {ls : List (List PyData)} {R : RHo} {sp2 : Sp} {fw : List (Str × Fw)}
/-! ### called -/
end
end Fh
set_option Elab.async false
set_option linter.all false
set_option maxRecDepth 100000
set_option maxHeartbeats 2000000
/-! a field read in a comprehension; what a name was to be set to is *refused* -/
namespace Fh
open PySem PySem.Spec PyProof.Rows L2 Evl LamX
open PySem.W (Datum)
theorem pe_fldK {X : Cx} {e : Expr} {f : Str} {pos : Pos} {ta : TE} {K : PySem.W.Frag} (hK : X.K = K) (he : PE X e ta) (hb : attributeBase e f X.env (eval e X.env) = eval e X.env) : PE X (.Attribute e f pos) (tFld K ta f) := by
  subst hK
  exact pe_fld he hb
end Fh
set_option Elab.async false
set_option linter.all false
set_option maxRecDepth 100000
set_option maxHeartbeats 2000000
/-! a house's objects, walked by their addresses; a pair of an object and *its number* -/
namespace Fh
open PySem PySem.Spec PyProof.Rows L2 Evl LamX
open PySem.W (Datum)
section
variable {K : PySem.W.Frag} {M : Addr → Prop} {F0 H0 F H F' H' F2 : Hp} {σ xs gs τ : L2.St} {ss ts rs gt ss2 as bs zs tt' : List Sl} {ta tb te tc td tl tj tk tv tx ty tneg : TE} {tr : TA} {t u tt : TT} {tz tbd tu tw : TS} {r ra rb a b a' : Sl} {d da db e kd d0 : PyData} {ds es g g' : List PyData} {Q : VK} {v w x y w0 : V} {vs ws us ug : List V} {i j k n : Nat} {φ φ' : Hp → V → Prop} {p q C C' CS CHo sa : Addr} {E E' : XK} {ψ ψ' : Vw} {X : List Addr} {L0 L : List (Addr × HO)} {sl sl' : List Addr} {sts sts' : List Stk} {gn : List Nat} {m : Str} {s : Stk} {ls : List (List PyData)}
end
end Fh
set_option Elab.async false
set_option linter.all false
set_option maxRecDepth 100000
set_option maxHeartbeats 2000000
/-! the end of a def that changes a house, what it tells known; numbers from behind; *houses handed on* -/
namespace Fh
open PySem PySem.Spec PyProof.Rows L2 Evl LamX
open PySem.W (Datum)
section
variable {K : PySem.W.Frag} {M : Addr → Prop} {F0 H0 F H F' H' F2 : Hp} {σ xs gs τ : L2.St} {ss ts rs gt ss2 as bs zs tt' : List Sl} {ta tb te tc td tl tj tk tv tx ty tneg : TE} {tr : TA} {t u tt : TT} {tz tbd tu tw : TS} {r ra rb a b a' : Sl} {d da db e kd d0 : PyData} {ds es g g' : List PyData} {Q : VK} {v w x y w0 : V} {vs ws us ug : List V} {i j k n : Nat} {φ φ' : Hp → V → Prop} {p q C C' CS CHo sa : Addr} {E E' : XK} {ψ ψ' : Vw} {X : List Addr} {L0 L : List (Addr × HO)} {sl sl' : List Addr} {sts sts' : List Stk} {gn : List Nat} {m : Str} {s : Stk} {ls : List (List PyData)} {R : RH}
end
end Fh
set_option Elab.async false
set_option linter.all false
set_option maxRecDepth 100000
set_option maxHeartbeats 2000000
/-! extend by a list that may be a constant *or stay* -/
namespace PySem.AutoSeq1
open PySem PySem.Spec
end PySem.AutoSeq1
namespace Fh
open PySem PySem.Spec PyProof.Rows L2 Evl LamX
open PySem.W (Datum)
section
variable {K : PySem.W.Frag} {M : Addr → Prop} {F0 H0 F H F' H' : Hp} {σ xs gs : L2.St} {ss ts rs gt ss2 zs : List Sl} {ta tb te tc td tl : TE} {tr : TA} {t u tt : TT} {tz tbd : TS} {r ra rb : Sl} {d da db e : PyData} {ds es ds1 ds2 : List PyData} {Q : VK} {v x y : V} {p q : Addr}
end
end Fh
set_option Elab.async false
set_option linter.all false
set_option maxRecDepth 100000
set_option maxHeartbeats 2000000
/-! three names from a tuple; a house held by its address, *called through another view* -/
namespace Fh
open PySem PySem.Spec PyProof.Rows L2 Evl LamX
open PySem.W (Datum)
section
variable {K : PySem.W.Frag} {M : Addr → Prop} {F0 H0 F H F' H' : Hp} {σ xs gs : L2.St} {ss ts rs gt ss2 zs : List Sl} {ta tb te tc td tl : TE} {tr : TA} {t u tt : TT} {tz tbd : TS} {r ra rb : Sl} {d da db e d1 d2 d3 : PyData} {ds es : List PyData} {Q : VK} {v x y : V} {p q CHo CS : Addr} {i j m : Nat} {sl : List Addr} {sts sts' : List Stk} {R : RH} {E : XK} {mn : Str}
end
end Fh
set_option Elab.async false
set_option linter.all false
set_option maxRecDepth 100000
set_option maxHeartbeats 2000000
/-! lists of lists just told, as *data* -/
namespace Fh
open PySem PySem.Spec PyProof.Rows L2 Evl LamX
open PySem.W (Datum)
section
variable {K : PySem.W.Frag} {M : Addr → Prop} {F0 H0 F H F' H' : Hp} {σ xs gs : L2.St} {ss ts rs gt ss2 zs : List Sl} {te : TE} {d : PyData} {ls : List (List PyData)} {R : RG} {Xg : XG} {sp2 : Sp} {E : XK} {W : WX} {tr : TA} {rs' : List Sl} {C : Addr}
end
end Fh
set_option Elab.async false
set_option linter.all false
set_option maxRecDepth 100000
set_option maxHeartbeats 2000000
/-! a list's method in a suite of *except* -/
namespace Fh
open PySem PySem.Spec PyProof.Rows L2 Evl LamX
open PySem.W (Datum)
end Fh
set_option Elab.async false
set_option linter.all false
set_option maxRecDepth 100000
set_option maxHeartbeats 2000000
/-! two lists just told, in a list: all our own; the first one made longer; *all let go* -/
namespace Fh
open PySem PySem.Spec PyProof.Rows L2 Evl LamX
open PySem.W (Datum)
section
variable {K : PySem.W.Frag} {M : Addr → Prop} {F0 H0 F H F' H' F2 : Hp} {σ xs gs τ : L2.St} {ss ts rs gt : List Sl} {ta tb te : TE} {tz : TS} {d : PyData} {ds es : List PyData} {Q : VK} {v w x y : V} {vs ws us : List V} {i j k n : Nat} {p q : Addr} {ls : List (List PyData)} {L0 : List (Addr × HO)}
end
end Fh
set_option Elab.async false
set_option linter.all false
set_option maxRecDepth 100000
set_option maxHeartbeats 2000000
/-! an if whose ways end alike, with a thing *chosen* -/
namespace Fh
open PySem PySem.Spec PyProof.Rows L2 Evl LamX
open PySem.W (Datum)
section
variable {K : PySem.W.Frag} {M : Addr → Prop} {F0 H0 F H F' H' : Hp} {σ gs : L2.St} {ss gt : List Sl} {t : TT} {tz tu : TS} {b : Bool} {α : Type}
end
end Fh
set_option Elab.async false
set_option linter.all false
set_option maxRecDepth 100000
set_option maxHeartbeats 2000000
namespace Fh
open PySem PySem.Spec PyProof.Rows L2 Evl
open PySem.W (Datum)
/-! defs that are handed things of their caller's own, any number of them, *changed or not* -/
abbrev RA := List Sl → List Vw → List Vw → Sl → Prop
abbrev XA := List Sl → List Vw → List Vw → Addr → Prop
abbrev noXA : XA := fun _ _ _ _ => False
/-- ws: the values of what is handed over, os its views; as what the arguments are told by -/
def spA (K : PySem.W.Frag) (R : RA) (X : XA) : Sp := fun vs H Q E => ∃ (F : Hp) (as : List Sl) (os : List Vw) (ws : List V) (Z : List Addr), AW K F vs as ∧ Sts K (fun _ => False) F (offL H Z) F H (ws.map some) (os.map Sl.mu) ∧ (∀ a ∈ Z, H a ≠ none ∧ F a = none) ∧
  ((∃ os' r, R as os os' r ∧ ∀ x F' H', Sts K (fun _ => False) F (offL H Z) F' H' (ws.map some ++ [some x]) (os'.map Sl.mu ++ [r]) → Q x H') ∨
   (∃ os' C, X as os os' C ∧ ∀ F' H', Sts K (fun _ => False) F (offL H Z) F' H' (ws.map some) (os'.map Sl.mu) → E (.ref C) none H'))
theorem spA_len {K : PySem.W.Frag} {R : RA} {X : XA} {n : Nat} (hR : ∀ a b c d, R a b c d → a.length = n) (hX : ∀ a b c d, X a b c d → a.length = n) : ∀ vs H Q E, spA K R X vs H Q E → vs.length = n := by
  rintro vs H Q E ⟨F, as, os, ws, Z, aw, _, _, ⟨_, _, h, _⟩ | ⟨_, _, h, _⟩⟩
  · rw [aw.len]; exact hR _ _ _ _ h
  · rw [aw.len]; exact hX _ _ _ _ h
/-- several slots take new views -/
def putAll (W : List Sl) : List Nat → List Vw → List Sl
  | j :: js, ψ :: ψs => (putAll W js ψs).set j (.mu ψ)
  | _, _ => W
theorem putAll_len (W : List Sl) : ∀ (js : List Nat) (ψs : List Vw), (putAll W js ψs).length = W.length
  | [], _ => by unfold putAll; rfl
  | _ :: _, [] => by unfold putAll; rfl
  | j :: js, ψ :: ψs => by unfold putAll; rw [List.length_set, putAll_len W js ψs]
theorem putAll_ne (W : List Sl) {j : Nat} : ∀ (js : List Nat) (ψs : List Vw), j ∉ js → (putAll W js ψs)[j]? = W[j]?
  | [], _, _ => by unfold putAll; rfl
  | _ :: _, [], _ => by unfold putAll; rfl
  | i :: js, ψ :: ψs, h => by
    unfold putAll
    rw [List.getElem?_set_ne (fun e : i = j => h (by rw [← e]; exact List.mem_cons_self)), putAll_ne W js ψs fun hm => h (List.mem_cons_of_mem _ hm)]
theorem putAll_at (W : List Sl) : ∀ (js : List Nat) (ψs : List Vw) {k j : Nat} {ψ : Vw}, js.Nodup → js[k]? = some j → ψs[k]? = some ψ → j < W.length → (putAll W js ψs)[j]? = some (.mu ψ)
  | [], _, _, _, _, _, h, _, _ => by simp at h
  | _ :: _, [], _, _, _, _, _, h, _ => by simp at h
  | i :: js, φ :: ψs, 0, j, ψ, nd, h1, h2, hj => by
    cases h1
    cases h2
    unfold putAll
    rw [List.getElem?_set_self (by rw [putAll_len]; exact hj)]
  | i :: js, φ :: ψs, k + 1, j, ψ, nd, h1, h2, hj => by
    have h1' : js[k]? = some j := by simpa using h1
    have h2' : ψs[k]? = some ψ := by simpa using h2
    have nd' := List.nodup_cons.mp nd
    unfold putAll
    rw [List.getElem?_set_ne (fun e : i = j => nd'.1 (by rw [e]; exact List.mem_of_getElem? h1'))]
    exact putAll_at W js ψs nd'.2 h1' h2' hj
section
variable {K : PySem.W.Frag} {M : Addr → Prop} {F0 H0 F H F' H' : Hp} {σ xs gs τ : L2.St} {ss ts rs gt ss2 zs W as : List Sl} {r : Sl} {ψ : Vw} {os os' : List Vw} {ws vs us : List V} {js : List Nat} {Z : List Addr} {v w x : V} {p q : Addr}
/-- slots' things lent to a call, and what comes back -/
theorem sts_lend (S : Sts K M F0 H0 F H σ W) (hM : ∀ a, ¬ M a) (nd : js.Nodup) (hl : os.length = js.length) (hos : ∀ (k j : Nat) (ψ : Vw), js[k]? = some j → os[k]? = some ψ → W[j]? = some (Sl.mu ψ)) :
    ∃ (ws : List V) (Z : List Addr), ws.length = js.length ∧ (∀ (k j : Nat), js[k]? = some j → ∃ w, ws[k]? = some w ∧ σ[j]? = some (some w)) ∧ Sts K (fun _ => False) F (offL H Z) F H (ws.map some) (os.map Sl.mu) ∧ (∀ a ∈ Z, H a ≠ none ∧ F a = none) ∧
    ∀ (F' H' : Hp) (os' : List Vw) (us : L2.St) (ts : List Sl), os'.length = os.length → us.length = ts.length → ts.all notAl = true → Sts K (fun _ => False) F (offL H Z) F' H' (ws.map some ++ us) (os'.map Sl.mu ++ ts) → W.all notAl = true → Sts K M F0 H0 F' H' (σ ++ us) (putAll W js os' ++ ts) := by
  obtain ⟨g0, l, L, O⟩ := S
  have inW : ∀ {k j : Nat}, js[k]? = some j → ∃ ψ, os[k]? = some ψ ∧ W[j]? = some (Sl.mu ψ) := fun {k j} h => by
    have hk := (List.getElem?_eq_some_iff.mp h).1
    exact ⟨os[k]'(by omega), List.getElem?_eq_getElem _, hos k j _ h (List.getElem?_eq_getElem _)⟩
  have val : ∀ {k j : Nat}, js[k]? = some j → ∃ w, σ[j]? = some (some w) := fun {k j} h => by
    obtain ⟨ψ, _, e⟩ := inW h
    obtain ⟨v, a, _⟩ := O.ok j _ e
    exact ⟨v, a⟩
  let ws : List V := js.map fun j => ((σ[j]?).getD none).getD .non
  have hws : ∀ {k j : Nat}, js[k]? = some j → ∃ w, ws[k]? = some w ∧ σ[j]? = some (some w) := fun {k j} h => by
    obtain ⟨w, e⟩ := val h
    refine ⟨w, ?_, e⟩
    show (js.map _)[k]? = _
    rw [List.getElem?_map, h]
    show some (((σ[j]?).getD none).getD .non) = _
    rw [e]
    rfl
  have hwl : ws.length = js.length := List.length_map _
  let Z : List Addr := js.flatMap fun j => (L j).map (·.1)
  have inZ : ∀ {a j}, j ∈ js → a ∈ (L j).map (·.1) → a ∈ Z := fun {a j} h1 h2 => List.mem_flatMap.mpr ⟨j, h1, h2⟩
  have ofZ : ∀ {a}, a ∈ Z → ∃ k j, js[k]? = some j ∧ a ∈ (L j).map (·.1) := fun {a} h => by
    obtain ⟨j, h1, h2⟩ := List.mem_flatMap.mp h
    obtain ⟨k, hk⟩ := List.mem_iff_getElem?.mp h1
    exact ⟨k, j, hk, h2⟩
  have atZ : ∀ {a}, a ∈ Z → H a ≠ none ∧ F a = none ∧ H0 a = none := fun {a} h => by
    obtain ⟨k, j, h1, h2⟩ := ofZ h
    obtain ⟨ψ, _, e⟩ := inW h1
    obtain ⟨⟨q, o⟩, hz, rfl⟩ := List.mem_map.mp h2
    obtain ⟨x1, x2, x3⟩ := O.at_ j _ q o e hz
    exact ⟨by rw [x1]; exact (fun z => nomatch z), x2, x3.resolve_right fun z => hM _ z.1⟩
  have offE : ∀ {a o}, offL H Z a = some o → H a = some o := fun {a o} h => by
    by_cases e : a ∈ Z
    · rw [off_in e] at h; cases h
    · rwa [off_out e] at h
  have offN : ∀ {a}, offL H Z a ≠ none → a ∉ Z ∧ H a ≠ none := fun {a} h => by
    by_cases e : a ∈ Z
    · exact absurd (off_in e) h
    · rw [off_out e] at h; exact ⟨e, h⟩
  have getM : ∀ {k s}, (os.map Sl.mu)[k]? = some s → ∃ j ψ, js[k]? = some j ∧ os[k]? = some ψ ∧ s = Sl.mu ψ ∧ W[j]? = some (Sl.mu ψ) := fun {k s} h => by
    rw [List.getElem?_map] at h
    cases e : os[k]? with
    | none => rw [e] at h; cases h
    | some ψ =>
      rw [e] at h
      have hk := (List.getElem?_eq_some_iff.mp e).1
      exact ⟨js[k]'(by omega), ψ, List.getElem?_eq_getElem _, e, (Option.some.inj h).symm, hos k _ ψ (List.getElem?_eq_getElem _) e⟩
  refine ⟨ws, Z, hwl, fun k j h => hws h, ?_, fun a ha => ⟨(atZ ha).1, (atZ ha).2.1⟩, ?_⟩
  · refine ⟨⟨Ex.refl F, fun a o _ ha => offE ha, g0.fh, fun a _ h => h, fun a ha => (offN ha).2⟩, (List.length_map _).trans (hwl.trans (hl.symm.trans (List.length_map _).symm)), fun k => L (js.getD k 0), fun k s hs => ?_, fun k s a o hs ha => ?_, fun k hk => ?_, fun i k a hi hk h1 h2 => ?_⟩
    · obtain ⟨j, ψ, e1, e2, rfl, e3⟩ := getM hs
      have ej : js.getD k 0 = j := by simp [List.getD, e1]
      obtain ⟨v, a, b⟩ := O.ok j _ e3
      obtain ⟨w, c1, c2⟩ := hws e1
      rw [a] at c2
      cases c2
      show ∃ _, _
      rw [ej]
      exact ⟨v, by rw [List.getElem?_map, c1]; rfl, b⟩
    · obtain ⟨j, ψ, e1, e2, rfl, e3⟩ := getM hs
      have ej : js.getD k 0 = j := by simp [List.getD, e1]
      rw [ej] at ha
      obtain ⟨x1, x2, x3⟩ := O.at_ j _ a o e3 ha
      exact ⟨x1, x2, .inl (off_in (inZ (List.mem_of_getElem? e1) (List.mem_map.mpr ⟨_, ha, rfl⟩)))⟩
    · rw [List.length_map, hl] at hk
      have e1 : js[k]? = some js[k] := List.getElem?_eq_getElem hk
      have ej : js.getD k 0 = js[k] := by simp [List.getD, hk]
      obtain ⟨ψ, _, e3⟩ := inW e1
      show ((L (js.getD k 0)).map (·.1)).Nodup
      rw [ej]
      exact O.nd _ (List.getElem?_eq_some_iff.mp e3).1
    · rw [List.length_map, hl] at hi hk
      have e1 : js[i]? = some js[i] := List.getElem?_eq_getElem hi
      have e2 : js[k]? = some js[k] := List.getElem?_eq_getElem hk
      have f1 : js.getD i 0 = js[i] := by simp [List.getD, hi]
      have f2 : js.getD k 0 = js[k] := by simp [List.getD, hk]
      obtain ⟨_, _, e3⟩ := inW e1
      obtain ⟨_, _, e4⟩ := inW e2
      have h1' : a ∈ (L js[i]).map (·.1) := by rw [← f1]; exact h1
      have h2' : a ∈ (L js[k]).map (·.1) := by rw [← f2]; exact h2
      have e5 := O.ap _ _ a (List.getElem?_eq_some_iff.mp e3).1 (List.getElem?_eq_some_iff.mp e4).1 h1' h2'
      exact (List.getElem?_inj hi nd).mp (by rw [e1, e2, e5])
  · intro F' H' os' us ts hl' hul hta S1 hWa
    obtain ⟨gc, lc, Lc, Oc⟩ := S1
    have hn : (os'.map Sl.mu).length = js.length := by rw [List.length_map, hl', hl]
    have hwn : (ws.map some).length = js.length := by rw [List.length_map, hwl]
    have hWl : (putAll W js os').length = W.length := putAll_len _ _ _
    have isA : ∀ s ∈ W, notAl s = true := fun s hs => List.all_eq_true.mp hWa s hs
    -- where slot j stands in the callee's end
    let f : Nat → Nat := fun j => if j < W.length then js.idxOf j else js.length + (j - W.length)
    have idx : ∀ {k j : Nat}, js[k]? = some j → js.idxOf j = k := fun {k j} h => by
      have hk := (List.getElem?_eq_some_iff.mp h).1
      have e : js[k] = j := (List.getElem?_eq_some_iff.mp h).2
      rw [← e]
      exact nd.idxOf_getElem k hk
    have tri : ∀ {j}, j < (putAll W js os' ++ ts).length → (∃ k, js[k]? = some j) ∨ (j < W.length ∧ j ∉ js) ∨ W.length ≤ j := fun {j} h => by
      by_cases h1 : j < W.length
      · by_cases h2 : j ∈ js
        · exact .inl (List.mem_iff_getElem?.mp h2)
        · exact .inr (.inl ⟨h1, h2⟩)
      · exact .inr (.inr (by omega))
    let L2' : Nat → List (Addr × HO) := fun j => if j < W.length then (if j ∈ js then Lc (js.idxOf j) else L j) else Lc (js.length + (j - W.length))
    have L_in : ∀ {k j : Nat}, js[k]? = some j → L2' j = Lc k := fun {k j} h => by
      obtain ⟨_, _, e⟩ := inW h
      show (if j < W.length then (if j ∈ js then Lc (js.idxOf j) else L j) else _) = _
      rw [if_pos (List.getElem?_eq_some_iff.mp e).1, if_pos (List.mem_of_getElem? h), idx h]
    have L_out : ∀ {j}, j < W.length → j ∉ js → L2' j = L j := fun {j} h1 h2 => by
      show (if j < W.length then (if j ∈ js then Lc (js.idxOf j) else L j) else _) = _
      rw [if_pos h1, if_neg h2]
    have L_ts : ∀ {j}, W.length ≤ j → L2' j = Lc (js.length + (j - W.length)) := fun {j} h1 => by
      show (if j < W.length then (if j ∈ js then Lc (js.idxOf j) else L j) else _) = _
      rw [if_neg (by omega)]
    have get_in : ∀ {k j s}, js[k]? = some j → (putAll W js os' ++ ts)[j]? = some s → ∃ ψ, os'[k]? = some ψ ∧ s = Sl.mu ψ ∧ (os'.map Sl.mu ++ ts)[k]? = some (Sl.mu ψ) := fun {k j s} h hs => by
      obtain ⟨_, _, e⟩ := inW h
      have hj := (List.getElem?_eq_some_iff.mp e).1
      have hk := (List.getElem?_eq_some_iff.mp h).1
      have e1 : os'[k]? = some (os'[k]'(by omega)) := List.getElem?_eq_getElem _
      rw [List.getElem?_append_left (by omega), putAll_at W js os' nd h e1 hj] at hs
      exact ⟨_, e1, (Option.some.inj hs).symm, by rw [List.getElem?_append_left (by omega), List.getElem?_map, e1]; rfl⟩
    have get_out : ∀ {j s}, j < W.length → j ∉ js → (putAll W js os' ++ ts)[j]? = some s → W[j]? = some s := fun {j s} h1 h2 hs => by
      rw [List.getElem?_append_left (by omega), putAll_ne W js os' h2] at hs
      exact hs
    have get_ts : ∀ {j s}, W.length ≤ j → (putAll W js os' ++ ts)[j]? = some s → ts[j - W.length]? = some s ∧ (os'.map Sl.mu ++ ts)[js.length + (j - W.length)]? = some s := fun {j s} h1 hs => by
      rw [List.getElem?_append_right (by omega), hWl] at hs
      refine ⟨hs, ?_⟩
      rw [List.getElem?_append_right (by omega), hn, show js.length + (j - W.length) - js.length = j - W.length by omega]
      exact hs
    have atc : ∀ {k s a o}, (os'.map Sl.mu ++ ts)[k]? = some s → (a, o) ∈ Lc k → H' a = some o ∧ F' a = none ∧ (a ∈ Z ∨ H a = none) := fun {k s a o} hs ha => by
      obtain ⟨x1, x2, x3⟩ := Oc.at_ k s a o hs ha
      have x3 := x3.resolve_right fun z => z.1
      refine ⟨x1, x2, ?_⟩
      by_cases e : a ∈ Z
      · exact .inl e
      · rw [off_out e] at x3
        exact .inr x3
    have h0c : ∀ {a}, a ∈ Z ∨ H a = none → H0 a = none := fun {a} h => by
      rcases h with h | h
      · exact (atZ h).2.2
      · exact none_or fun z => g0.al a z h
    have outZ : ∀ {j a}, j < W.length → j ∉ js → a ∈ (L j).map (·.1) → a ∉ Z ∧ H a ≠ none := fun {j a} h1 h2 h3 => by
      refine ⟨fun hz => ?_, ?_⟩
      · obtain ⟨k, i, e1, e2⟩ := ofZ hz
        obtain ⟨_, _, e3⟩ := inW e1
        exact h2 ((O.ap j i a h1 (List.getElem?_eq_some_iff.mp e3).1 h3 e2) ▸ List.mem_of_getElem? e1)
      · obtain ⟨⟨q, o⟩, hz, rfl⟩ := List.mem_map.mp h3
        rw [(O.at_ j _ q o (List.getElem?_eq_getElem h1) hz).1]
        exact fun z => nomatch z
    have klen : ∀ {k j : Nat}, js[k]? = some j → k < (os'.map Sl.mu ++ ts).length := fun {k j} h => by
      have := (List.getElem?_eq_some_iff.mp h).1
      rw [List.length_append, hn]
      omega
    have tlen : ∀ {j}, W.length ≤ j → j < (putAll W js os' ++ ts).length → js.length + (j - W.length) < (os'.map Sl.mu ++ ts).length := fun {j} h h2 => by
      rw [List.length_append, hWl] at h2
      rw [List.length_append, hn]
      omega
    refine ⟨⟨g0.ff.trans gc.ff, fun a o nM ha => ?_, gc.fh, fun a h1 h2 => ?_, fun a h1 => ?_⟩, by rw [List.length_append, List.length_append, hWl, l, hul], L2', fun j s hs => ?_, fun j s a o hs ha => ?_, fun j hj => ?_, fun i j a hi hj h1 h2 => ?_⟩
    · have hz : a ∉ Z := fun hz => by rw [(atZ hz).2.2] at ha; cases ha
      exact gc.hh a o (fun z => z) (by rw [off_out hz]; exact g0.hh a o nM ha)
    · have hz : a ∉ Z := fun hz => h1 (atZ hz).2.2
      exact gc.nw a (by rw [off_out hz]; exact g0.al a h1) (g0.nw a h1 h2)
    · have hz : a ∉ Z := fun hz => h1 (atZ hz).2.2
      exact gc.al a (by rw [off_out hz]; exact g0.al a h1)
    · rcases tri (List.getElem?_eq_some_iff.mp hs).1 with ⟨k, hk⟩ | ⟨h1, h2⟩ | h1
      · obtain ⟨ψ, e1, rfl, e2⟩ := get_in hk hs
        rw [L_in hk]
        obtain ⟨v, c1, c2⟩ := Oc.ok k _ e2
        obtain ⟨w, d1, d2⟩ := hws hk
        have hkl := (List.getElem?_eq_some_iff.mp hk).1
        rw [List.getElem?_append_left (by omega), List.getElem?_map, d1] at c1
        have ew : w = v := Option.some.inj (Option.some.inj c1)
        subst ew
        have hjl := (List.getElem?_eq_some_iff.mp d2).1
        exact ⟨w, by rw [List.getElem?_append_left hjl]; exact d2, c2⟩
      · have e := get_out h1 h2 hs
        rw [L_out h1 h2]
        exact SlOk.move (isA s (List.mem_of_getElem? e)) (by rw [List.getElem?_append_left (by omega)]) ((O.ok j s e).ex gc.ff)
      · obtain ⟨e1, e2⟩ := get_ts h1 hs
        rw [L_ts h1]
        refine SlOk.move (List.all_eq_true.mp hta s (List.mem_of_getElem? e1)) ?_ (Oc.ok _ s e2)
        rw [List.getElem?_append_right (by omega), List.getElem?_append_right (by omega), hwn, l]
        congr 1
        omega
    · rcases tri (List.getElem?_eq_some_iff.mp hs).1 with ⟨k, hk⟩ | ⟨h1, h2⟩ | h1
      · obtain ⟨ψ, e1, rfl, e2⟩ := get_in hk hs
        rw [L_in hk] at ha
        obtain ⟨x1, x2, x3⟩ := atc e2 ha
        exact ⟨x1, x2, .inl (h0c x3)⟩
      · have e := get_out h1 h2 hs
        rw [L_out h1 h2] at ha
        obtain ⟨x1, x2, x3⟩ := O.at_ j s a o e ha
        have hz := (outZ h1 h2 (List.mem_map.mpr ⟨_, ha, rfl⟩)).1
        exact ⟨gc.hh a o (fun z => z) (by rw [off_out hz]; exact x1), gc.nw a (by rw [off_out hz, x1]; exact fun z => nomatch z) x2, x3⟩
      · obtain ⟨e1, e2⟩ := get_ts h1 hs
        rw [L_ts h1] at ha
        obtain ⟨x1, x2, x3⟩ := atc e2 ha
        exact ⟨x1, x2, .inl (h0c x3)⟩
    · rcases tri hj with ⟨k, hk⟩ | ⟨h1, h2⟩ | h1
      · show ((L2' j).map (·.1)).Nodup
        rw [L_in hk]
        exact Oc.nd k (klen hk)
      · show ((L2' j).map (·.1)).Nodup
        rw [L_out h1 h2]
        exact O.nd j h1
      · show ((L2' j).map (·.1)).Nodup
        rw [L_ts h1]
        exact Oc.nd _ (tlen h1 hj)
    · -- keys of a callee's slot are not those of a slot that was not lent
      have apart : ∀ {k j a}, k < (os'.map Sl.mu ++ ts).length → j < W.length → j ∉ js → a ∈ (Lc k).map (·.1) → a ∈ (L j).map (·.1) → False := fun {k j a} hk h1 h2 h3 h4 => by
        obtain ⟨⟨q, o⟩, hz, rfl⟩ := List.mem_map.mp h3
        obtain ⟨_, _, x3⟩ := atc (List.getElem?_eq_getElem hk) hz
        obtain ⟨y1, y2⟩ := outZ h1 h2 h4
        rcases x3 with x3 | x3
        · exact y1 x3
        · exact y2 x3
      rcases tri hi with ⟨k, hk⟩ | ⟨i1, i2⟩ | i1
      · rw [L_in hk] at h1
        rcases tri hj with ⟨m, hm⟩ | ⟨j1, j2⟩ | j1
        · rw [L_in hm] at h2
          have e := Oc.ap k m a (klen hk) (klen hm) h1 h2
          subst e
          exact Option.some.inj (hk.symm.trans hm)
        · rw [L_out j1 j2] at h2
          exact (apart (klen hk) j1 j2 h1 h2).elim
        · rw [L_ts j1] at h2
          have e := Oc.ap k _ a (klen hk) (tlen j1 hj) h1 h2
          have := (List.getElem?_eq_some_iff.mp hk).1
          omega
      · rw [L_out i1 i2] at h1
        rcases tri hj with ⟨m, hm⟩ | ⟨j1, j2⟩ | j1
        · rw [L_in hm] at h2
          exact (apart (klen hm) i1 i2 h2 h1).elim
        · rw [L_out j1 j2] at h2
          exact O.ap i j a i1 j1 h1 h2
        · rw [L_ts j1] at h2
          exact (apart (tlen j1 hj) i1 i2 h2 h1).elim
      · rw [L_ts i1] at h1
        rcases tri hj with ⟨m, hm⟩ | ⟨j1, j2⟩ | j1
        · rw [L_in hm] at h2
          have e := Oc.ap _ m a (tlen i1 hi) (klen hm) h1 h2
          have := (List.getElem?_eq_some_iff.mp hm).1
          omega
        · rw [L_out j1 j2] at h2
          exact (apart (tlen i1 hi) j1 j2 h1 h2).elim
        · rw [L_ts j1] at h2
          have e := Oc.ap _ _ a (tlen i1 hi) (tlen j1 hj) h1 h2
          omega
end
end Fh
set_option Elab.async false
set_option linter.all false
set_option maxRecDepth 100000
set_option maxHeartbeats 2000000
namespace Fh
open PySem PySem.Spec PyProof.Rows L2 Evl
open PySem.W (Datum)
/-! expressions that change what the slots and the things beside them own: n slots, W all views -/
def EvZ (K : PySem.W.Frag) (te : TE) (n : Nat) (W W' : List Sl) (r : Sl) : Prop := ∀ (F0 H0 F H : Hp) (σ gs xs : L2.St) (ts : List Sl), σ.length = n → (σ ++ gs).length = W.length → Sts K (fun _ => False) F0 H0 F H ((σ ++ gs) ++ xs) (W ++ ts) → ts.all notAl = true →
  ∀ Q : VK, (∀ v F' H', Sts K (fun _ => False) F0 H0 F' H' ((σ ++ gs) ++ (xs ++ [some v])) (W' ++ (ts ++ [r])) → Q v H') → te σ H Q
def TvZ (K : PySem.W.Frag) (tt : TT) (n : Nat) (W W' : List Sl) (b : Bool) : Prop := ∀ (F0 H0 F H : Hp) (σ gs xs : L2.St) (ts : List Sl), σ.length = n → (σ ++ gs).length = W.length → Sts K (fun _ => False) F0 H0 F H ((σ ++ gs) ++ xs) (W ++ ts) → ts.all notAl = true →
  ∀ Q : Bool → Hp → Prop, (∀ F' H', Sts K (fun _ => False) F0 H0 F' H' ((σ ++ gs) ++ xs) (W' ++ ts) → Q b H') → tt σ H Q
/-- arguments that stay, told by what they are -/
def AvP (K : PySem.W.Frag) (ta : TA) (n : Nat) (W rs : List Sl) : Prop := ∀ (F0 H0 F H : Hp) (σ gs xs : L2.St) (ts : List Sl), σ.length = n → (σ ++ gs).length = W.length → Sts K (fun _ => False) F0 H0 F H ((σ ++ gs) ++ xs) (W ++ ts) →
  ∀ Q : List V → Hp → Prop, (∀ vs F' H', Gr F H F' H' → AW K F' vs rs → Sts K (fun _ => False) F0 H0 F' H' ((σ ++ gs) ++ xs) (W ++ ts) → Q vs H') → ta σ H Q
inductive PkA (W : List Sl) : List Nat → List Vw → Prop where
  | nil : PkA W [] []
  | cons {j : Nat} {ψ : Vw} {js : List Nat} {ψs : List Vw} (h : W[j]? = some (.mu ψ)) (t : PkA W js ψs) : PkA W (j :: js) (ψ :: ψs)
/-- views that tell where their things stand -/
inductive FixA : List Vw → List V → Prop where
  | nil : FixA [] []
  | cons {ψ : Vw} {w : V} {ψs : List Vw} {ws : List V} (h : ∀ F v L, ψ F v L → v = w) (t : FixA ψs ws) : FixA (ψ :: ψs) (w :: ws)
theorem PkA.len {W : List Sl} {js : List Nat} {os : List Vw} (h : PkA W js os) : os.length = js.length := by
  induction h with
  | nil => rfl
  | cons _ _ ih => rw [List.length_cons, List.length_cons, ih]
theorem PkA.at_ {W : List Sl} {js : List Nat} {os : List Vw} (h : PkA W js os) : ∀ (k j : Nat) (ψ : Vw), js[k]? = some j → os[k]? = some ψ → W[j]? = some (Sl.mu ψ) := by
  induction h with
  | nil => intro k j ψ h; simp at h
  | @cons j0 ψ0 js ψs h0 t ih =>
    intro k j ψ h1 h2
    cases k with
    | zero => cases h1; cases h2; exact h0
    | succ k => exact ih k j ψ (by simpa using h1) (by simpa using h2)
theorem PkA.lt {W : List Sl} {js : List Nat} {os : List Vw} (h : PkA W js os) : ∀ j ∈ js, j < W.length := by
  induction h with
  | nil => intro j h; cases h
  | cons h0 t ih =>
    intro j hj
    rcases List.mem_cons.mp hj with rfl | hj
    · exact (List.getElem?_eq_some_iff.mp h0).1
    · exact ih j hj
theorem PkA.app {W ts : List Sl} {js : List Nat} {os : List Vw} (h : PkA W js os) : PkA (W ++ ts) js os := by
  induction h with
  | nil => exact .nil
  | cons h0 t ih => exact .cons (by rw [List.getElem?_append_left (List.getElem?_eq_some_iff.mp h0).1]; exact h0) ih
theorem putAll_app (W ts : List Sl) : ∀ (js : List Nat) (ψs : List Vw), (∀ j ∈ js, j < W.length) → putAll (W ++ ts) js ψs = putAll W js ψs ++ ts
  | [], _, _ => by unfold putAll; rfl
  | _ :: _, [], _ => by unfold putAll; rfl
  | j :: js, ψ :: ψs, h => by
    unfold putAll
    rw [putAll_app W ts js ψs fun i hi => h i (List.mem_cons_of_mem _ hi), List.set_append_left _ _ (by rw [putAll_len]; exact h j List.mem_cons_self)]
theorem FixA.len {os : List Vw} {ws : List V} (h : FixA os ws) : os.length = ws.length := by
  induction h with
  | nil => rfl
  | cons _ _ ih => rw [List.length_cons, List.length_cons, ih]
theorem FixA.at_ {os : List Vw} {ws : List V} (h : FixA os ws) : ∀ {k : Nat} {ψ : Vw}, os[k]? = some ψ → ∃ w, ws[k]? = some w ∧ ∀ F v L, ψ F v L → v = w := by
  induction h with
  | nil => intro k ψ h; simp at h
  | @cons ψ0 w0 ψs ws h0 t ih =>
    intro k ψ h
    cases k with
    | zero => cases h; exact ⟨_, rfl, h0⟩
    | succ k => exact ih (k := k) (by simpa using h)
section
variable {K : PySem.W.Frag} {M : Addr → Prop} {F0 H0 F H F' H' : Hp} {σ xs gs τ : L2.St} {ss ts rs gt ss2 zs W W' W1 W2 as ss' gt' : List Sl} {r ra rb : Sl} {ψ : Vw} {os os' : List Vw} {ws wl vs us : List V} {js : List Nat} {Z : List Addr} {v w x : V} {p q C : Addr} {te ta tb : TE} {tr : TA} {t u : TT} {tz tu tw : TS} {Q : VK} {n i j : Nat} {d da db : PyData} {ds es : List PyData} {dvs : List V} {b c : Bool} {E : XK} {R : RA} {X : XA} {m : Str}
/-- the values of what was lent, by its views -/
theorem sts_fixed (S : Sts K M F0 H0 F H (ws.map some) (os.map Sl.mu)) (h : FixA os wl) : ws = wl := by
  obtain ⟨g0, l, L, O⟩ := S
  rw [List.length_map, List.length_map] at l
  refine List.ext_getElem? fun k => ?_
  by_cases hk : k < os.length
  · have e : os[k]? = some os[k] := List.getElem?_eq_getElem hk
    obtain ⟨w, e1, e2⟩ := h.at_ e
    obtain ⟨v, a, b⟩ := O.ok k (.mu os[k]) (by rw [List.getElem?_map, e]; rfl)
    have ew := e2 _ _ _ (b F (Ex.refl F))
    subst ew
    rw [e1]
    rw [List.getElem?_map] at a
    cases e3 : ws[k]? with
    | none => rw [e3] at a; cases a
    | some w' => rw [e3] at a; exact Option.some.inj a
  · rw [List.getElem?_eq_none (by omega), List.getElem?_eq_none (by have := h.len; omega)]
/-- the slots at such a def's start -/
theorem sts_initA {N : List Str} (aw : AW K F vs as) (S0 : Sts K (fun _ => False) F (offL H Z) F H (ws.map some) (os.map Sl.mu)) (hN : as.length ≤ N.length) :
    Sts K (fun _ => False) F (offL H Z) F H (L2.start N vs ++ ws.map some) (ssG N.length as ++ os.map Sl.mu) ∧ (L2.start N vs).length = (ssG N.length as).length := by
  have hl := aw.len
  have l0 : ws.length = os.length := by
    have := S0.len
    rw [List.length_map, List.length_map] at this
    exact this
  have hN' : vs.length ≤ N.length := by rw [hl]; exact hN
  have ls : (L2.start N vs).length = N.length := by
    unfold L2.start
    rw [List.length_append, List.length_map, List.length_replicate]
    omega
  have lg : (ssG N.length as).length = N.length := by
    unfold ssG
    rw [List.length_append, List.length_replicate]
    omega
  refine ⟨?_, by rw [ls, lg]⟩
  have S1 := (aw.push2 S0).pad (N.length - as.length)
  refine S1.rearr _ _ (fun j => if j < N.length then ws.length + j else j - N.length) (by rw [List.length_append, List.length_append, ls, lg, List.length_map, List.length_map, l0]) (fun k s hs => ?_) fun i k s t hi hk _ _ e => ?_
  · by_cases hk : k < N.length
    · rw [List.getElem?_append_left (by omega)] at hs
      rw [if_pos hk, List.getElem?_append_left (l₁ := L2.start N vs) (by omega)]
      by_cases e : s = .no
      · exact .inl e
      · refine .inr ?_
        unfold ssG at hs
        have hka : k < as.length := by
          refine Classical.byContradiction fun z => ?_
          rw [List.getElem?_append_right (by omega), List.getElem?_replicate] at hs
          split at hs
          · exact e (Option.some.inj hs).symm
          · cases hs
        rw [List.getElem?_append_left hka] at hs
        refine ⟨List.all_eq_true.mp ?_ s (List.mem_of_getElem? hs), ?_, ?_⟩
        · refine List.all_eq_true.mpr fun a ha => ?_
          have := List.all_eq_true.mp aw.pl a ha
          cases a <;> first | rfl | cases this
        · rw [List.getElem?_append_left (by rw [List.length_append, List.length_map]; omega), List.getElem?_append_right (by rw [List.length_map]; omega), List.length_map, show ws.length + k - os.length = k by omega]
          exact hs
        · unfold L2.start
          rw [List.getElem?_append_left (by rw [List.length_map]; omega), List.getElem?_append_left (by rw [List.length_append, List.length_map, List.length_map]; omega), List.getElem?_append_right (by rw [List.length_map]; omega), List.length_map, show ws.length + k - ws.length = k by omega]
    · rw [List.getElem?_append_right (by omega), lg] at hs
      rw [if_neg hk, List.getElem?_append_right (l₁ := L2.start N vs) (by omega), ls]
      have hl2 := (List.getElem?_eq_some_iff.mp hs).1
      rw [List.length_map] at hl2
      refine .inr ⟨?_, ?_, ?_⟩
      · rw [List.getElem?_map] at hs
        cases e : os[k - N.length]? with
        | none => rw [e] at hs; cases hs
        | some ψ => rw [e] at hs; cases hs; rfl
      · rw [List.getElem?_append_left (by rw [List.length_append, List.length_map]; omega), List.getElem?_append_left (by rw [List.length_map]; omega)]
        exact hs
      · rw [List.getElem?_append_left (l₁ := ws.map some ++ vs.map some) (by rw [List.length_append, List.length_map, List.length_map]; omega), List.getElem?_append_left (l₁ := ws.map some) (by rw [List.length_map]; omega)]
  · have h1 := (List.getElem?_eq_some_iff.mp hi).1
    have h2 := (List.getElem?_eq_some_iff.mp hk).1
    rw [List.length_append, lg, List.length_map] at h1 h2
    split at e <;> split at e <;> omega
/-- what was lent goes to the slot of its argument -/
theorem sts_into {φ : Hp → V → Prop} (i j : Nat) (S : Sts K M F0 H0 F H (σ ++ gs) (ss ++ gt)) (l : σ.length = ss.length) (hi : ss[i]? = some (.fx φ)) (hφ : ∀ F v, φ F v → v = w) (hj : gt[j]? = some (.mu ψ)) (hψ : ∀ F v L, ψ F v L → v = w) (na : (ss ++ gt).all notAl = true) :
    Sts K M F0 H0 F H (σ ++ gs) (ss.set i (.mu ψ) ++ gt.set j .no) ∧ σ.length = (ss.set i (.mu ψ)).length := by
  refine ⟨?_, by rw [List.length_set, l]⟩
  have hil := (List.getElem?_eq_some_iff.mp hi).1
  have hjl := (List.getElem?_eq_some_iff.mp hj).1
  have vi : σ[i]? = some (some w) := by
    obtain ⟨v, a, b⟩ := S.get_fx (i := i) (φ := φ) (by rw [List.getElem?_append_left hil]; exact hi)
    rw [← hφ _ _ (b F (Ex.refl F))]
    rwa [List.getElem?_append_left (by omega)] at a
  have gj : (ss ++ gt)[ss.length + j]? = some (.mu ψ) := by rw [List.getElem?_append_right (by omega), show ss.length + j - ss.length = j by omega]; exact hj
  have vj : (σ ++ gs)[ss.length + j]? = some (some w) := by
    obtain ⟨g0, l0, L, O⟩ := S
    obtain ⟨v, a, b⟩ := O.ok _ _ gj
    rw [← hψ _ _ _ (b F (Ex.refl F))]
    exact a
  refine S.rearr _ _ (fun k => if k = i then ss.length + j else k) (by have := S.len; rw [List.length_append, List.length_append] at this ⊢; rw [List.length_set, List.length_set]; exact this) (fun k s hs => ?_) fun a c s t ha hc hsn htn e => ?_
  · by_cases e : k = i
    · subst e
      rw [List.getElem?_append_left (by rw [List.length_set]; exact hil), List.getElem?_set_self hil] at hs
      cases hs
      rw [if_pos rfl]
      refine .inr ⟨rfl, gj, ?_⟩
      rw [List.getElem?_append_left (by omega), vi, vj]
    · rw [if_neg e]
      have hkl := (List.getElem?_eq_some_iff.mp hs).1
      rw [List.length_append, List.length_set, List.length_set] at hkl
      by_cases hk : k < ss.length
      · rw [List.getElem?_append_left (by rw [List.length_set]; exact hk), List.getElem?_set_ne (Ne.symm e)] at hs
        refine .inr ⟨List.all_eq_true.mp na s (List.mem_append_left _ (List.mem_of_getElem? hs)), ?_, rfl⟩
        rw [List.getElem?_append_left hk]
        exact hs
      · rw [List.getElem?_append_right (by rw [List.length_set]; omega), List.length_set] at hs
        by_cases e2 : k - ss.length = j
        · rw [e2, List.getElem?_set_self hjl] at hs
          exact .inl (Option.some.inj hs).symm
        · rw [List.getElem?_set_ne (Ne.symm e2)] at hs
          refine .inr ⟨List.all_eq_true.mp na s (List.mem_append_right _ (List.mem_of_getElem? hs)), ?_, rfl⟩
          rw [List.getElem?_append_right (by omega)]
          exact hs
  · have no : ∀ {k s}, (ss.set i (Sl.mu ψ) ++ gt.set j .no)[k]? = some s → k = ss.length + j → s = .no := fun {k s} h e => by
      subst e
      rw [List.getElem?_append_right (by rw [List.length_set]; omega), List.length_set, show ss.length + j - ss.length = j by omega, List.getElem?_set_self hjl] at h
      exact (Option.some.inj h).symm
    split at e <;> split at e
    · omega
    · exact absurd (no hc e.symm) htn
    · exact absurd (no ha e) hsn
    · exact e
/-- the end of such a def -/
theorem sts_back {gl : List Nat} (S : Sts K M F0 H0 F H ((σ ++ gs) ++ us.map some) ((ss ++ gt) ++ ts)) (l : (σ ++ gs).length = (ss ++ gt).length) (pk : PkA (ss ++ gt) gl os') (nd : gl.Nodup) (fx : FixA os' ws) (na : ts.all notAl = true) : Sts K M F0 H0 F H (ws.map some ++ us.map some) (os'.map Sl.mu ++ ts) := by
  have hl := pk.len
  have hw := fx.len
  have L := S.len
  rw [List.length_append, List.length_append (as := ss ++ gt), l] at L
  have lu : us.length = ts.length := by
    rw [List.length_map] at L
    omega
  have val : ∀ {k j : Nat} {ψ : Vw}, gl[k]? = some j → os'[k]? = some ψ → ∃ w : V, ws[k]? = some w ∧ ((σ ++ gs) ++ us.map some)[j]? = some (some w) ∧ ((ss ++ gt) ++ ts)[j]? = some (Sl.mu ψ) := fun {k j ψ} h1 h2 => by
    obtain ⟨w, e1, e2⟩ := fx.at_ h2
    have e3 := pk.at_ k j ψ h1 h2
    have hjl := (List.getElem?_eq_some_iff.mp e3).1
    have e4 : ((ss ++ gt) ++ ts)[j]? = some (.mu ψ) := by rw [List.getElem?_append_left hjl]; exact e3
    obtain ⟨g0, l0, LL, O⟩ := S
    obtain ⟨v, a, b⟩ := O.ok _ _ e4
    rw [e2 _ _ _ (b F (Ex.refl F))] at a
    exact ⟨w, e1, a, e4⟩
  refine S.rearr _ _ (fun k => if k < gl.length then gl.getD k 0 else (ss ++ gt).length + (k - gl.length)) (by simp only [List.length_append, List.length_map]; omega) (fun k s hs => ?_) fun a c s t ha hc _ _ e => ?_
  · by_cases hk : k < gl.length
    · rw [List.getElem?_append_left (by rw [List.length_map]; omega), List.getElem?_map] at hs
      have e1 : os'[k]? = some (os'[k]'(by omega)) := List.getElem?_eq_getElem _
      rw [e1] at hs
      cases hs
      obtain ⟨w, a1, a2, a3⟩ := val (List.getElem?_eq_getElem hk) e1
      have eg : gl.getD k 0 = gl[k] := by simp [List.getD, hk]
      rw [if_pos hk, eg]
      refine .inr ⟨rfl, a3, ?_⟩
      rw [a2, List.getElem?_append_left (by rw [List.length_map]; omega), List.getElem?_map, a1]
      rfl
    · rw [List.getElem?_append_right (by rw [List.length_map]; omega), List.length_map] at hs
      rw [if_neg hk]
      refine .inr ⟨List.all_eq_true.mp na s (List.mem_of_getElem? hs), ?_, ?_⟩
      · rw [List.getElem?_append_right (by omega), show (ss ++ gt).length + (k - gl.length) - (ss ++ gt).length = k - os'.length by omega]
        exact hs
      · rw [List.getElem?_append_right (l₁ := σ ++ gs) (by omega), l, List.getElem?_append_right (by rw [List.length_map]; omega), List.length_map]
        congr 1
        omega
  · have h1 := (List.getElem?_eq_some_iff.mp ha).1
    have h2 := (List.getElem?_eq_some_iff.mp hc).1
    rw [List.length_append, List.length_map] at h1 h2
    have lt : ∀ {k}, k < gl.length → gl.getD k 0 < (ss ++ gt).length := fun {k} hk => by
      have eg : gl.getD k 0 = gl[k] := by simp [List.getD, hk]
      rw [eg]
      exact pk.lt _ (List.getElem_mem hk)
    split at e <;> split at e
    · rename_i x1 x2
      have ea : gl.getD a 0 = gl[a] := by simp [List.getD, x1]
      have ec : gl.getD c 0 = gl[c] := by simp [List.getD, x2]
      rw [ea, ec] at e
      exact (List.getElem?_inj x1 nd).mp (by rw [List.getElem?_eq_getElem x1, List.getElem?_eq_getElem x2, e])
    · rename_i x1 x2
      have := lt x1
      omega
    · rename_i x1 x2
      have := lt x2
      omega
    · omega
end
end Fh
set_option Elab.async false
set_option linter.all false
set_option maxRecDepth 100000
set_option maxHeartbeats 2000000
namespace Fh
open PySem PySem.Spec PyProof.Rows L2 Evl
open PySem.W (Datum)
/-! such defs called; statements of such expressions; *their ends* -/
section
variable {K : PySem.W.Frag} {M : Addr → Prop} {F0 H0 F H F' H' : Hp} {σ xs gs τ : L2.St} {ss ts rs gt ss2 zs W W' W1 W2 as ss' gt' : List Sl} {r ra rb a : Sl} {ψ : Vw} {φ : Hp → V → Prop} {os os' : List Vw} {ws wl vs us : List V} {js : List Nat} {Z : List Addr} {v w x : V} {p q C : Addr} {te ta tb : TE} {tr ts' : TA} {t u : TT} {tz tu tw : TS} {Q : VK} {n i j : Nat} {d da db : PyData} {ds es : List PyData} {dvs : List V} {b c : Bool} {E : XK} {R : RA} {X : XA} {m : Str} {Wx : WX}
/-! ### arguments -/
theorem avP_nil : AvP K tNil n W [] := fun F0 H0 F H σ gs xs ts l lg S Q k => k [] F H (Gr.refl S.fh) .nil S
/-- by a reading over the slots alone -/
theorem avP_cons (h : EvR K te ss a) (pl : plainSl a = true) (e : W = ss ++ gt) (hn : ss.length = n) (t : AvP K tr n W rs) : AvP K (tCons te tr) n W (a :: rs) := fun F0 H0 F H σ gs xs ts l lg S Q k => by
  subst e
  subst hn
  have S' : Sts K (fun _ => False) F0 H0 F H (σ ++ (gs ++ xs)) (ss ++ (gt ++ ts)) := by rw [← List.append_assoc, ← List.append_assoc]; exact S
  refine h _ F0 H0 F H σ (gs ++ xs) (gt ++ ts) l S' _ fun v F1 H1 g1 n1 S1 => ?_
  have l1 := S'.len2
  have iv := S1.lastI l1 pl
  have S2 : Sts K (fun _ => False) F0 H0 F1 H1 ((σ ++ gs) ++ xs) ((ss ++ gt) ++ ts) := by have := S1.back l1; rw [← List.append_assoc, ← List.append_assoc] at this; exact this
  refine t F0 H0 F1 H1 σ gs xs ts l lg S2 _ fun vs F2 H2 g2 aw S3 => ?_
  exact k (v :: vs) F2 H2 (g1.trans g2) (AW.app (AW.one (iv.ex g2.ff)) aw) S3
/-- a thing of our own, by where it stands -/
theorem avP_own (i : Nat) (hi : i < n) (h : W[i]? = some (.mu ψ)) (hψ : ∀ F v L, ψ F v L → v = w) (t : AvP K tr n W rs) : AvP K (tCons (tVar i) tr) n W (isV w :: rs) := fun F0 H0 F H σ gs xs ts l lg S Q k => by
  have hil := (List.getElem?_eq_some_iff.mp h).1
  obtain ⟨v, L, a, b, _⟩ := S.callV (i := i) (by rw [List.getElem?_append_left hil]; exact h)
  have ev := hψ _ _ _ (b F (Ex.refl F))
  subst ev
  rw [List.getElem?_append_left (by omega), List.getElem?_append_left (by omega)] at a
  refine ⟨v, a, ?_⟩
  refine t F0 H0 F H σ gs xs ts l lg S _ fun vs F2 H2 g2 aw S3 => ?_
  exact k (v :: vs) F2 H2 g2 (.fx (fun _ _ => rfl) aw) S3
/-! ### the call -/
theorem run_A (S : Sts K (fun _ => False) F0 H0 F H (τ ++ xs) (W ++ ts)) (aw : AW K F vs as) (nd : js.Nodup) (pk : PkA W js os) (l : τ.length = W.length) (naW : W.all notAl = true) (nat : ts.all notAl = true)
    (h : (∃ os' r, R as os os' r ∧ os'.length = os.length ∧ notAl r = true ∧ ∀ x F' H', Sts K (fun _ => False) F0 H0 F' H' (τ ++ (xs ++ [some x])) (putAll W js os' ++ (ts ++ [r])) → Q x H') ∨
      (∃ os' C, X as os os' C ∧ os'.length = os.length ∧ ∀ F' H', Sts K (fun _ => False) F0 H0 F' H' (τ ++ xs) (putAll W js os' ++ ts) → E (.ref C) none H')) : spA K R X vs H Q E := by
  obtain ⟨ws, Z, e1, e2, S2, hZ, back⟩ := sts_lend S (fun _ z => z) nd pk.len (pk.app (ts := ts)).at_
  have naT : (W ++ ts).all notAl = true := by rw [List.all_append, naW, nat]; rfl
  rcases h with ⟨os', r, hR, hl, nr, k⟩ | ⟨os', C, hX, hl, k⟩
  · refine ⟨F, as, os, ws, Z, aw, S2, hZ, .inl ⟨os', r, hR, fun x F' H' S3 => k x F' H' ?_⟩⟩
    have := back F' H' os' [some x] [r] hl rfl (by simp [nr]) S3 naT
    rw [putAll_app W ts js os' pk.lt, List.append_assoc, List.append_assoc] at this
    exact this
  · refine ⟨F, as, os, ws, Z, aw, S2, hZ, .inr ⟨os', C, hX, fun F' H' S3 => k F' H' ?_⟩⟩
    have := back F' H' os' [] [] hl rfl rfl (by rw [List.append_nil, List.append_nil]; exact S3) naT
    rw [putAll_app W ts js os' pk.lt, List.append_nil, List.append_nil] at this
    exact this
theorem aw_def (aw : AW K F vs rs) (hd : ∀ F, Fh.DpAll K F dvs es) : AW K F (vs ++ dvs) (rs ++ es.map .dt) := AW.app aw (AW.ofD (hd F))
theorem evZ_call (js : List Nat) (ha : AvP K tr n W rs) (hd : ∀ F, Fh.DpAll K F dvs es) (nd : js.Nodup) (pk : PkA W js os) (naW : W.all notAl = true) (h : R (rs ++ es.map .dt) os os' r) (hl : os'.length = os.length) (nr : notAl r = true) (e : putAll W js os' = W') : EvZ K (tCall (spA K R X) dvs E tr) n W W' r := fun F0 H0 F H σ gs xs ts l lg S nat Q k => by
  refine ha F0 H0 F H σ gs xs ts l lg S _ fun vs F1 H1 g1 aw S1 => ?_
  exact run_A S1 (aw_def aw hd) nd pk lg naW nat (.inl ⟨os', r, h, hl, nr, fun x F' H' S2 => k x F' H' (by rw [← e]; exact S2)⟩)
/-! ### other expressions -/
theorem evZ_of (h : EvR K te ss r) (e : W = ss ++ gt) (hn : ss.length = n) : EvZ K te n W W r := fun F0 H0 F H σ gs xs ts l lg S nat Q k => by
  subst e
  subst hn
  have S' : Sts K (fun _ => False) F0 H0 F H (σ ++ (gs ++ xs)) (ss ++ (gt ++ ts)) := by rw [← List.append_assoc, ← List.append_assoc]; exact S
  refine h _ F0 H0 F H σ (gs ++ xs) (gt ++ ts) l S' _ fun v F1 H1 g1 n1 S1 => k v F1 H1 ?_
  have S2 := S1
  rw [List.append_assoc, List.append_assoc, ← List.append_assoc, ← List.append_assoc ss] at S2
  exact S2
theorem tvZ_of (h : TvR K t ss b) (e : W = ss ++ gt) (hn : ss.length = n) : TvZ K t n W W b := fun F0 H0 F H σ gs xs ts l lg S nat Q k => by
  subst e
  subst hn
  have S' : Sts K (fun _ => False) F0 H0 F H (σ ++ (gs ++ xs)) (ss ++ (gt ++ ts)) := by rw [← List.append_assoc, ← List.append_assoc]; exact S
  refine h _ F0 H0 F H σ (gs ++ xs) (gt ++ ts) l S' _ fun F1 H1 g1 S1 => k F1 H1 ?_
  rw [← List.append_assoc, ← List.append_assoc] at S1
  exact S1
theorem EvZ.to (h : EvZ K te n W W' ra) (e : ra = rb) : EvZ K te n W W' rb := e ▸ h
theorem TvZ.to (h : TvZ K t n W W' b) (e : b = c) : TvZ K t n W W' c := e ▸ h
theorem tvZ_B (l1 : W'.length = W.length) (h : EvZ K te n W W' (.dt (.bool b))) : TvZ K (tB te) n W W' b := fun F0 H0 F H σ gs xs ts l lg S nat Q k => by
  refine h F0 H0 F H σ gs xs ts l lg S nat _ fun v F1 H1 S1 => ?_
  have L := S.len
  rw [List.length_append, List.length_append (as := W)] at L
  have m1 : (σ ++ gs ++ xs).length = (W' ++ ts).length := by rw [List.length_append, List.length_append (as := W')]; omega
  exact ⟨b, (S1.lastV m1 (d := .bool b) rfl).bl, k F1 H1 (S1.back m1)⟩
theorem tvZ_not (h : TvZ K t n W W' b) : TvZ K (tNot t) n W W' (!b) := fun F0 H0 F H σ gs xs ts l lg S nat Q k => h F0 H0 F H σ gs xs ts l lg S nat _ fun F' H' S' => k F' H' S'
/-- the first one false -/
theorem tvZ_orF (l1 : W1.length = W.length) (h1 : TvZ K t n W W1 false) (h2 : TvZ K u n W1 W2 b) : TvZ K (tOr t u) n W W2 b := fun F0 H0 F H σ gs xs ts l lg S nat Q k => by
  refine h1 F0 H0 F H σ gs xs ts l lg S nat _ fun F1 H1 S1 => ?_
  exact h2 F0 H0 F1 H1 σ gs xs ts l (by rw [lg, l1]) S1 nat _ k
/-- the first one true -/
theorem tvZ_andT (l1 : W1.length = W.length) (h1 : TvZ K t n W W1 true) (h2 : TvZ K u n W1 W2 b) : TvZ K (tAnd t u) n W W2 b := fun F0 H0 F H σ gs xs ts l lg S nat Q k => by
  refine h1 F0 H0 F H σ gs xs ts l lg S nat _ fun F1 H1 S1 => ?_
  exact h2 F0 H0 F1 H1 σ gs xs ts l (by rw [lg, l1]) S1 nat _ k
/-! ### statements -/
theorem S0_ (S : Sts K M F0 H0 F H (σ ++ gs) (ss ++ gt)) : Sts K M F0 H0 F H ((σ ++ gs) ++ []) ((ss ++ gt) ++ []) := by rw [List.append_nil, List.append_nil]; exact S
theorem st_asgZ {D : Ends} {i : Nat} (S : Sts K (fun _ => False) F0 H0 F H (σ ++ gs) (ss ++ gt)) (l : σ.length = ss.length) (h : EvZ K te ss.length (ss ++ gt) (ss' ++ gt') r) (l' : ss'.length = ss.length) (lg : gt'.length = gt.length) (na : (ss' ++ gt').all notAl = true) (nr : notAl r = true) (hi : i < ss'.length)
    (k : ∀ σ' F' H', Sts K (fun _ => False) F0 H0 F' H' (σ' ++ gs) (ss'.set i r ++ gt') → σ'.length = (ss'.set i r).length → D.nx σ' H') : tAsg te (gName i) D σ H := by
  refine h F0 H0 F H σ gs [] [] l S.len (S0_ S) rfl _ fun v F1 H1 S1 => ?_
  have L := S.len
  rw [List.length_append, List.length_append (as := ss)] at L
  have m1 : (σ ++ gs).length = (ss' ++ gt').length := by rw [List.length_append, List.length_append (as := ss')]; omega
  rw [List.nil_append, List.nil_append] at S1
  have S2 := S1.put (i := i) m1 (by rw [List.length_append]; omega) na nr
  rw [List.set_append_left _ _ (by omega), List.set_append_left _ _ hi] at S2
  exact k _ F1 H1 S2 (by rw [List.length_set, List.length_set, l, l'])
theorem q_asgZ {D : Ends} {i : Nat} (S : Sts K (fun _ => False) F0 H0 F H (σ ++ gs) (ss ++ gt)) (l : σ.length = ss.length) (h : EvZ K te ss.length (ss ++ gt) (ss' ++ gt') r) (l' : ss'.length = ss.length) (lg : gt'.length = gt.length) (na : (ss' ++ gt').all notAl = true) (nr : notAl r = true) (hi : i < ss'.length)
    (k : ∀ σ' F' H', Sts K (fun _ => False) F0 H0 F' H' (σ' ++ gs) (ss'.set i r ++ gt') → σ'.length = (ss'.set i r).length → tz D σ' H') : tSeq (tAsg te (gName i)) tz D σ H := st_asgZ (D := { D with nx := tz D }) S l h l' lg na nr hi k
theorem st_ifZ {D : Ends} (S : Sts K (fun _ => False) F0 H0 F H (σ ++ gs) (ss ++ gt)) (l : σ.length = ss.length) (h : TvZ K t ss.length (ss ++ gt) (ss' ++ gt') b) (l' : ss'.length = ss.length)
    (h1 : b = true → ∀ F' H', Sts K (fun _ => False) F0 H0 F' H' (σ ++ gs) (ss' ++ gt') → σ.length = ss'.length → tu D σ H') (h2 : b = false → ∀ F' H', Sts K (fun _ => False) F0 H0 F' H' (σ ++ gs) (ss' ++ gt') → σ.length = ss'.length → tw D σ H') : tIfS t tu tw D σ H :=
  h F0 H0 F H σ gs [] [] l S.len (S0_ S) rfl _ fun F1 H1 S1 => by
    rw [List.append_nil, List.append_nil] at S1
    cases b with
    | true =>
      show tu D σ H1
      exact h1 rfl F1 H1 S1 (l.trans l'.symm)
    | false =>
      show tw D σ H1
      exact h2 rfl F1 H1 S1 (l.trans l'.symm)
theorem q_whenZ {D : Ends} (S : Sts K (fun _ => False) F0 H0 F H (σ ++ gs) (ss ++ gt)) (l : σ.length = ss.length) (h : TvZ K t ss.length (ss ++ gt) (ss' ++ gt') b) (l' : ss'.length = ss.length)
    (h1 : b = true → ∀ F' H', Sts K (fun _ => False) F0 H0 F' H' (σ ++ gs) (ss' ++ gt') → σ.length = ss'.length → tu { D with nx := tz D } σ H') (h2 : b = false → ∀ F' H', Sts K (fun _ => False) F0 H0 F' H' (σ ++ gs) (ss' ++ gt') → σ.length = ss'.length → tz D σ H') : tSeq (tIfS t tu tNext) tz D σ H := st_ifZ (D := { D with nx := tz D }) S l h l' h1 h2
theorem st_whenZ {D : Ends} (S : Sts K (fun _ => False) F0 H0 F H (σ ++ gs) (ss ++ gt)) (l : σ.length = ss.length) (h : TvZ K t ss.length (ss ++ gt) (ss' ++ gt') b) (l' : ss'.length = ss.length)
    (h1 : b = true → ∀ F' H', Sts K (fun _ => False) F0 H0 F' H' (σ ++ gs) (ss' ++ gt') → σ.length = ss'.length → tu D σ H') (h2 : b = false → ∀ F' H', Sts K (fun _ => False) F0 H0 F' H' (σ ++ gs) (ss' ++ gt') → σ.length = ss'.length → D.nx σ H') : tIfS t tu tNext D σ H := st_ifZ S l h l' h1 h2
/-! ### ends -/
/-- handed back, of a def that was lent things -/
theorem st_retV {D : Ends} (gl : List Nat) (S : Sts K (fun _ => False) F0 H0 F H (σ ++ gs) (ss ++ gt)) (l : σ.length = ss.length) (h : EvZ K te ss.length (ss ++ gt) (ss' ++ gt') r) (l' : ss'.length = ss.length) (lg : gt'.length = gt.length) (nr : notAl r = true) (pk : PkA (ss' ++ gt') gl os') (nd : gl.Nodup) (fx : FixA os' ws)
    (k : ∀ x F' H', Sts K (fun _ => False) F0 H0 F' H' (ws.map some ++ [some x]) (os'.map Sl.mu ++ [r]) → D.rt x H') : tRet te D σ H := by
  refine h F0 H0 F H σ gs [] [] l S.len (S0_ S) rfl _ fun v F1 H1 S1 => ?_
  have L := S.len
  rw [List.length_append, List.length_append (as := ss)] at L
  have m1 : (σ ++ gs).length = (ss' ++ gt').length := by rw [List.length_append, List.length_append (as := ss')]; omega
  rw [List.nil_append, List.nil_append] at S1
  exact k v F1 H1 (sts_back (us := [v]) S1 m1 pk nd fx (by simp [nr]))
/-- a def of plain things hands back -/
theorem st_retZ {D : Ends} (S : Sts K (fun _ => False) F0 H0 F H (σ ++ gs) (ss ++ gt)) (l : σ.length = ss.length) (h : EvZ K te ss.length (ss ++ gt) (ss' ++ gt') r) (l' : ss'.length = ss.length) (lg : gt'.length = gt.length) (nr : notAl r = true) (k : RetR K F0 H0 r D.rt) : tRet te D σ H := by
  refine h F0 H0 F H σ gs [] [] l S.len (S0_ S) rfl _ fun v F1 H1 S1 => ?_
  have L := S.len
  rw [List.length_append, List.length_append (as := ss)] at L
  rw [List.nil_append, List.nil_append] at S1
  exact ret_of k S1 (by rw [List.length_append, List.length_append (as := ss')]; omega) nr
end
end Fh
set_option Elab.async false
set_option linter.all false
set_option maxRecDepth 100000
set_option maxHeartbeats 2000000
namespace Fh
open PySem PySem.Spec PyProof.Rows L2 Evl
open PySem.W (Datum)
/-! loops, the things beside the slots changed from turn to turn -/
section
variable {K : PySem.W.Frag} {M : Addr → Prop} {F0 H0 F H F' H' : Hp} {σ xs gs : L2.St} {ss ts rs gt ss2 zs as : List Sl} {ta tb te tc td tl : TE} {tr : TA} {t u tt : TT} {tz tbd : TS} {r ra rb : Sl} {d da db e : PyData} {ds es ds1 ds2 : List PyData} {Q : VK} {v x y : V} {p q : Addr} {α : Type}
end
end Fh
set_option Elab.async false
set_option linter.all false
set_option maxRecDepth 100000
set_option maxHeartbeats 2000000
namespace Fh
open PySem PySem.Spec PyProof.Rows L2 Evl
open PySem.W (Datum)
/-! looks at things beside the slots; own things told by where they stand; *two of them in a list* -/
/-- a slot that names a thing beside the slots, told by what that is -/
inductive Fg (K : PySem.W.Frag) (W : List Sl) : Sl → Sl → Prop where
  | y {s z : Sl} (h : Fy K s z) : Fg K W s z
  | g {p : Addr} {ψ : Vw} {z : Sl} {φ : Hp → V → Prop} (g : Nat) (hg : W[g]? = some (.mu ψ)) (h1 : ∀ F v, φ F v → v = .ref p) (h2 : ∀ F v L, ψ F v L → v = .ref p) (h : Fy K (.mu ψ) z) : Fg K W (.fx φ) z
inductive FgA (K : PySem.W.Frag) (W : List Sl) : List Sl → List Sl → Prop where
  | nil : FgA K W [] []
  | cons {s z : Sl} {ss zs : List Sl} (h : Fg K W s z) (r : FgA K W ss zs) : FgA K W (s :: ss) (z :: zs)
section
variable {K : PySem.W.Frag} {M : Addr → Prop} {F0 H0 F H F' H' : Hp} {σ xs gs τ : L2.St} {ss ts rs gt ss2 zs W W' as ss' gt' : List Sl} {r ra rb a s z : Sl} {ψ ψ1 ψ2 : Vw} {φ : Hp → V → Prop} {v w x : V} {p q C : Addr} {te ta tb : TE} {tr : TA} {t u : TT} {tz tu tw : TS} {Q : VK} {n i j : Nat} {d : PyData} {b : Bool}
theorem FgA.len : ∀ {ss : List Sl}, FgA K W ss zs → ss.length = zs.length := by
  intro ss h
  induction h with
  | nil => rfl
  | cons _ _ ih => rw [List.length_cons, List.length_cons, ih]
theorem FgA.get : ∀ {ss : List Sl} {i : Nat}, FgA K W ss zs → zs[i]? = some z → ∃ s, ss[i]? = some s ∧ Fg K W s z := by
  intro ss i h
  induction h generalizing i with
  | nil => intro h; simp at h
  | cons h0 _ ih =>
    intro h
    cases i with
    | zero => cases h; exact ⟨_, rfl, h0⟩
    | succ i => exact ih (i := i) (by simpa using h)
/-- what stands in a slot, all held still -/
theorem fy_ok {L : Nat → List (Addr × HO)} (e : Ex F H) (O : Owns K M H0 F H σ ss L) (hs : ss[i]? = some s) (f : Fy K s z) : ∀ {τ : L2.St} {k : Nat}, τ[k]? = σ[i]? → notAl z = true → SlOk K (fplus F H) τ k [] z := fun {τ k} eq na => by
  have ok := O.ok i s hs
  cases f with
  | z f =>
    cases f with
    | no => rfl
    | dt =>
      obtain ⟨_, v, b, c⟩ := ok
      exact ⟨rfl, v, eq.trans b, dp_ex (fplus_l e) _ _ c⟩
    | fx =>
      obtain ⟨_, v, b, c⟩ := ok
      exact ⟨rfl, v, eq.trans b, fun F' e' => c F' ((fplus_l e).trans e')⟩
    | ls =>
      obtain ⟨p, vs, a, b, c⟩ := ok
      have hp := (O.at_ i _ p (.lst vs) hs (by rw [b]; exact List.mem_singleton.mpr rfl)).1
      exact ⟨rfl, _, eq.trans a, .lst (rd_plus (SqL.of hp)) (dpAll_ex (fplus_l e) _ _ c)⟩
    | mu h1 h2 =>
      obtain ⟨v, b, c⟩ := ok
      exact ⟨rfl, v, eq.trans b, h1 F v (L i) _ (c F (Ex.refl F)) (fplus_l e) fun p o hp => fplus_at (O.at_ i _ p o hs hp).1 (h2 F v (L i) (c F (Ex.refl F)) p o hp)⟩
  | mf h1 h2 =>
    obtain ⟨v, b, c⟩ := ok
    exact ⟨rfl, v, eq.trans b, fun F' e' => h1 F v (L i) _ (c F (Ex.refl F)) ((fplus_l e).trans e') fun z hp => e' _ _ (fplus_at (O.at_ i _ z.1 z.2 hs hp).1 (h2 F v (L i) (c F (Ex.refl F)) z hp))⟩
theorem fy_na (f : Fy K s z) : notAl z = true := by
  cases f with
  | z f => cases f <;> rfl
  | mf _ _ => rfl
theorem sts_stillG (S : Sts K M F0 H0 F H ((σ ++ gs) ++ xs) ((ss ++ gt) ++ ts)) (l : σ.length = ss.length) (lg : (σ ++ gs).length = (ss ++ gt).length) (h : FgA K (ss ++ gt) ss zs) : Sts K (fun _ => False) (fplus F H) H (fplus F H) H σ zs := by
  obtain ⟨g0, l0, L, O⟩ := S
  have e := g0.fh
  refine ⟨(Gr.refl (fplus_r e)).toM, l.trans h.len, fun _ => [], fun i z hz => ?_, fun i s p o hs hp => (by cases hp), fun i hi => .nil, fun i j p hi hj hp => (by cases hp)⟩
  obtain ⟨s, hs, f⟩ := h.get hz
  have hil := (List.getElem?_eq_some_iff.mp hs).1
  have hs' : ((ss ++ gt) ++ ts)[i]? = some s := by rw [List.getElem?_append_left (by rw [List.length_append]; omega), List.getElem?_append_left hil]; exact hs
  have eσ : σ[i]? = ((σ ++ gs) ++ xs)[i]? := by rw [List.getElem?_append_left (by rw [List.length_append]; omega), List.getElem?_append_left (by omega)]
  cases f with
  | y f => exact fy_ok e O hs' f eσ (fy_na f)
  | @g p ψ _ φ j hj h1 h2 f =>
    have hjl := (List.getElem?_eq_some_iff.mp hj).1
    have hj' : ((ss ++ gt) ++ ts)[j]? = some (.mu ψ) := by rw [List.getElem?_append_left hjl]; exact hj
    obtain ⟨_, v, a1, a2⟩ := O.ok i _ hs'
    obtain ⟨w, c1, c2⟩ := O.ok j _ hj'
    have ev := h1 _ _ (a2 F (Ex.refl F))
    have ew := h2 _ _ _ (c2 F (Ex.refl F))
    subst ev
    subst ew
    exact fy_ok e O hj' f (by rw [eσ, a1, c1]) (fy_na f)
theorem evZ_still (zs : List Sl) (h : EvR K te zs r) (e : W = ss ++ gt) (hn : ss.length = n) (f : FgA K (ss ++ gt) ss zs) (fr : tupR r = true) : EvZ K te n W W r := fun F0 H0 F H σ gs xs ts l lg S nat Q q => by
  subst e
  subst hn
  have S1 := sts_stillG S l lg f
  have S2 : Sts K (fun _ => False) (fplus F H) H (fplus F H) H (σ ++ []) (zs ++ []) := by
    rw [List.append_nil, List.append_nil]
    exact S1
  refine h _ _ _ _ _ σ [] [] (l.trans f.len) S2 _ fun v F' H' g n S3 => ?_
  obtain ⟨F2, g2, n2, S4⟩ := push_thaw (τ := σ) (tt := zs) S fr S3 (l.trans f.len)
  rw [List.append_assoc (σ ++ gs), List.append_assoc (ss ++ gt)] at S4
  exact q v F2 H' S4
theorem tvZ_still (zs : List Sl) (h : TvR K t zs b) (e : W = ss ++ gt) (hn : ss.length = n) (f : FgA K (ss ++ gt) ss zs) : TvZ K t n W W b := fun F0 H0 F H σ gs xs ts l lg S nat Q q => by
  subst e
  subst hn
  have S1 := sts_stillG S l lg f
  have S2 : Sts K (fun _ => False) (fplus F H) H (fplus F H) H (σ ++ []) (zs ++ []) := by
    rw [List.append_nil, List.append_nil]
    exact S1
  refine h _ _ _ _ _ σ [] [] (l.trans f.len) S2 Q fun F' H' g S3 => ?_
  have g2 := thaw_gr S.fh g
  exact q _ H' (S.grow g2)
end
end Fh
set_option Elab.async false
set_option linter.all false
set_option maxRecDepth 100000
set_option maxHeartbeats 2000000
namespace Fh
open PySem PySem.Spec PyProof.Rows L2 Evl
open PySem.W (Datum)
/-! defs that are called where nothing is being shown: the text of a list *or tuple* -/
structure FnG (P : Program) (w : World) (K : PySem.W.Frag) (mg : Str → Option Value) (base : Heap) (k : Nat) (f : Addr) (fd : FuncData) (ps : List Str) (sp : Sp) : Prop where
  len : ∀ vs H Q E, sp vs H Q E → vs.length = ps.length
  run : ∀ (A : Around) (outer : List Env) (s : Shared) (H : Hp) (args : Args) (us : List Value) (vs : List V) (Q : VK) (E : XK), Room k A → A.guards = some [] → Env0 P w K mg base A outer s H → BindsTo s fd args (ps.zip us) → Vals vs us → sp vs H Q E →
    codeAny (model P w) A (.call (.ref f) args) (CR (L2.CX P w) outer P w H s Q E) s
theorem FnG.of {P : Program} {w : World} {K : PySem.W.Frag} {mg : Str → Option Value} {base : Heap} {k : Nat} {f : Addr} {fd : FuncData} {ps : List Str} {sp : Sp} (F : FnOk P w K mg base (L2.CX P w) k f fd ps sp) : FnG P w K mg base k f fd ps sp :=
  ⟨F.len, fun A outer s H args us vs Q E r _ => F.run A outer s H args us vs Q E r⟩
/-- such a def stands -/
structure DefG (P : Program) (w : World) (K : PySem.W.Frag) (mg : Str → Option Value) (base : Heap) (k : Nat) (x : Str) (ps : List Str) (sp : Sp) : Prop where
  ex : ∃ f fd, FnG P w K mg base k f fd ps sp ∧ mg x = some (.ref f) ∧ PySem.W.keepIn K (.ref f) = true ∧ Binds K fd ps []
section
variable {X : Cx} {k : Nat} {x : Str} {ps : List Str} {sp : Sp} {E : XK} {q pos : Pos} {e : Expr} {es : List Expr} {t : TA}
end
/-! ### str(list), str(tuple) -/
end Fh
set_option Elab.async false
set_option linter.all false
set_option maxRecDepth 100000
set_option maxHeartbeats 2000000
namespace Fh
open PySem PySem.Spec PyProof.Rows L2 Evl
open PySem.W (Datum)
/-! a law's own end, nothing *being shown* where it is asked -/
end Fh
set_option Elab.async false
set_option linter.all false
set_option maxRecDepth 100000
set_option maxHeartbeats 2000000
namespace Fh
open PySem PySem.Spec PyProof.Rows L2 Evl
open PySem.W (Datum)
/-! dicts of our own that stand at a known place: written, popped, copied, their values *walked* -/
def dropA {A : Type} (ks : List (L2.Key × A)) (k : L2.Key) : List (L2.Key × A) := ks.filter fun e => decide (e.1 ≠ k)
section
variable {K : PySem.W.Frag} {M : Addr → Prop} {F0 H0 F H F' H' : Hp} {σ xs gs τ : L2.St} {ss ts rs gt ss2 zs W : List Sl} {r ra rb a s z : Sl} {ψ : Vw} {v w x : V} {p q C : Addr} {te ta tb ty tv : TE} {tr : TA} {t u tt : TT} {tz tu tw : TS} {Q : VK} {n i j : Nat} {d kd : PyData} {b : Bool} {kv : List (L2.Key × V)} {ks : List (L2.Key × PyData)} {k : L2.Key} {ds : List PyData}
theorem KvR.drop {A : Type} {R : V → A → Prop} {ks : List (L2.Key × A)} (h : KvR R kv ks) : KvR R (L2.dropK kv k) (dropA ks k) := by
  unfold L2.dropK dropA
  induction h with
  | nil => exact .nil
  | @cons k' v a kv ks h t ih =>
    rw [List.filter_cons, List.filter_cons]
    dsimp only
    split
    · exact .cons h ih
    · exact ih
/-! ### [.. for v in d.values()] -/
end
end Fh
set_option Elab.async false
set_option linter.all false
set_option maxRecDepth 100000
set_option maxHeartbeats 2000000
namespace Fh
open PySem PySem.Spec PyProof.Rows L2 Evl
open PySem.W (Datum)
/-! all([f(..) for x in xs]), f changing what is lent; houses' defs as *such defs* -/
section
variable {K : PySem.W.Frag} {M : Addr → Prop} {F0 H0 F H F' H' : Hp} {σ xs gs τ : L2.St} {ss ts rs gt ss2 zs as : List Sl} {r ra rb a s z : Sl} {ψ ψ1 : Vw} {v w x : V} {p q C : Addr} {te ta tb tl : TE} {tr : TA} {t u tt : TT} {tz tu tw : TS} {Q : VK} {n i j : Nat} {d kd : PyData} {b : Bool} {ds : List PyData}
/-! ### a house's defs -/
end
end Fh
set_option Elab.async false
set_option linter.all false
set_option maxRecDepth 100000
set_option maxHeartbeats 2000000
namespace Fh
open PySem PySem.Spec PyProof.Rows L2 Evl
open PySem.W (Datum)
/-! comprehensions whose items change what is lent; len of a dict; lists within a list of our own *stay from now on* -/
section
variable {K : PySem.W.Frag} {M : Addr → Prop} {F0 H0 F H F' H' : Hp} {σ xs gs τ : L2.St} {ss ts rs gt ss2 zs as : List Sl} {r ra rb a s z : Sl} {ψ ψ1 : Vw} {v w x : V} {p q C : Addr} {te ta tb tl : TE} {tr : TA} {t u tt : TT} {tz tu tw : TS} {Q : VK} {n i j : Nat} {d kd : PyData} {b : Bool} {ds hd : List PyData} {ks : List (L2.Key × PyData)} {ls : List (List PyData)}
theorem Fy.dkAt : Fy K (.mu (dkAt K q ks)) (.fx (dkF K ks)) := .mf (fun F v L F' h e hl => by
  obtain ⟨rfl, kv, rfl, c⟩ := h
  exact ⟨q, kv, rfl, hl _ List.mem_cons_self, c.ex e⟩) fun F v L h z hz => by
  obtain ⟨rfl, kv, rfl, c⟩ := h
  cases List.mem_singleton.mp hz
  rfl
/-- xs.append(e), xs a list at its place -/
theorem st_appA {D : Ends} (S : Sts K M F0 H0 F H (σ ++ gs) (ss ++ gt)) (l : σ.length = ss.length) (hM : ∀ a, ¬ M a) (hi : ss[i]? = some (.mu (lsAt K p hd))) (he : EvR K te ss (.dt d)) (hl : hd.length < 1000000)
    (k : ∀ F' H', Sts K M F0 H0 F' H' (σ ++ gs) (ss.set i (.mu (lsAt K p (hd ++ [d]))) ++ gt) → σ.length = (ss.set i (.mu (lsAt K p (hd ++ [d])))).length → D.nx σ H') : tDrop (tBM K "list" rAppend (tVar i) (tCons te tNil)) D σ H := by
  have hil := (List.getElem?_eq_some_iff.mp hi).1
  have hi' : (ss ++ gt)[i]? = some (.mu (lsAt K p hd)) := by rw [List.getElem?_append_left hil]; exact hi
  obtain ⟨ai, vs0, hp0, _⟩ := S.get_at hi'
  rw [List.getElem?_append_left (by omega)] at ai
  refine ⟨_, ai, .inl ⟨rfl, _, SqL.of hp0⟩, ?_⟩
  refine he M F0 H0 F H σ gs gt l S _ fun w F1 H1 g1 n1 S1 => ?_
  have dw := S1.lastI S.len2 (a := .dt d) rfl
  have S2 := S1.back S.len2
  obtain ⟨v, L, a, b, at_, nd, wr⟩ := S2.muNew hi'
  obtain ⟨rfl, vs, rfl, da⟩ := b F1 (Ex.refl F1)
  have hp := (at_ _ List.mem_cons_self).1
  have hvl := dpAll_len da
  refine ⟨p, vs, w, rfl, rfl, hp, Nat.lt_of_lt_of_le (show vs.length < 1000000 by omega) (by decide), ?_⟩
  have S3 := wr (upd H1 p (.lst (vs ++ [w]))) [(p, .lst (vs ++ [w]))] (lsAt K p (hd ++ [d])) (fun x o hx ho => by rw [upd_ne fun e => hx (by rw [e]; exact List.mem_cons_self)]; exact ho) (fun x hx => by
    by_cases e : x = p
    · rw [e, upd_same]
      exact fun z => nomatch z
    · rw [upd_ne e]
      exact hx) (fun z hz => by
    cases List.mem_singleton.mp hz
    exact ⟨upd_same, .inl List.mem_cons_self⟩) (by simp) fun F' e => ⟨rfl, _, rfl, dpAll_ex e _ _ (dpAll_app da (.cons dw .nil))⟩
  rw [List.set_append_left _ _ hil] at S3
  exact k _ _ S3 (by rw [List.length_set, l])
end
end Fh
set_option Elab.async false
set_option linter.all false
set_option maxRecDepth 100000
set_option maxHeartbeats 2000000
namespace Fh
open PySem PySem.Spec PyProof.Rows L2 Evl
open PySem.W (Datum)
/-! [f(..) for x in xs], f changing *what is lent* -/
section
variable {K : PySem.W.Frag} {M : Addr → Prop} {F0 H0 F H F' H' : Hp} {σ xs gs τ : L2.St} {ss ts rs gt ss2 zs as : List Sl} {r ra rb a s z : Sl} {ψ ψ1 : Vw} {v w x : V} {p q C : Addr} {te ta tb tl : TE} {tr : TA} {t u tt : TT} {tz tu tw : TS} {Q : VK} {n i j : Nat} {d kd : PyData} {b : Bool} {ds : List PyData}
end
end Fh
set_option Elab.async false
set_option linter.all false
set_option maxRecDepth 100000
set_option maxHeartbeats 2000000
namespace Fh
open PySem PySem.Spec PyProof.Rows L2 Evl
open PySem.W (Datum)
/-! texts split *by blanks* -/
section
variable {X : Cx} {o e : Expr} {to te : TE} {apos pos : Pos}
end
end Fh
set_option Elab.async false
set_option linter.all false
set_option maxRecDepth 100000
set_option maxHeartbeats 2000000
namespace Fh
open PySem PySem.Spec PyProof.Rows L2 Evl
open PySem.W (Datum)
/-! a house's looks as defs that are lent it; a dict's and a house's *views weakened* -/
section
variable {K : PySem.W.Frag} {M : Addr → Prop} {F0 H0 F H F' H' : Hp} {σ xs gs τ : L2.St} {ss ts rs gt ss2 zs as : List Sl} {r ra rb a s z : Sl} {ψ ψ1 : Vw} {v w x : V} {p q C : Addr} {te ta tb tl : TE} {tr : TA} {t u tt : TT} {tz tu tw : TS} {Q : VK} {n i j : Nat} {d kd : PyData} {b : Bool} {ds : List PyData}
end
end Fh
set_option Elab.async false
set_option linter.all false
set_option maxRecDepth 100000
set_option maxHeartbeats 2000000
namespace Fh
open PySem PySem.Spec PyProof.Rows L2 Evl
open PySem.W (Datum)
/-! expressions that change what is lent: choices, and, plain calls of what they tell, *is False* -/
section
variable {K : PySem.W.Frag} {M : Addr → Prop} {F0 H0 F H F' H' : Hp} {σ xs gs τ : L2.St} {ss ts rs gt ss2 zs as W W' W1 W2 : List Sl} {r ra rb s z : Sl} {ψ ψ1 : Vw} {v w x : V} {p q C : Addr} {te ta tb tl : TE} {tr : TA} {t u tt : TT} {tz tu tw : TS} {Q : VK} {n i j : Nat} {d kd : PyData} {a b : Bool} {ds es : List PyData} {dvs : List V}
theorem evZ_andT (l1 : W1.length = W.length) (ha : EvZ K ta n W W1 (.dt (.bool true))) (hb : EvZ K tb n W1 W2 (.dt (.bool b))) : EvZ K (tAndV ta tb) n W W2 (.dt (.bool b)) := fun F0 H0 F H σ gs xs ts l lg S nat Q k => by
  refine ha F0 H0 F H σ gs xs ts l lg S nat _ fun v F1 H1 S1 => ?_
  have L := S.len
  rw [List.length_append, List.length_append (as := W)] at L
  have m1 : (σ ++ gs ++ xs).length = (W1 ++ ts).length := by rw [List.length_append, List.length_append (as := W1)]; omega
  have S2 : Sts K (fun _ => False) F0 H0 F1 H1 ((σ ++ gs ++ xs) ++ ([] ++ [some v])) ((W1 ++ ts) ++ ([] ++ [.dt (.bool true)])) := by
    rw [List.nil_append, List.nil_append, List.append_assoc (σ ++ gs), List.append_assoc W1]
    exact S1
  have hv := (S2.lastV (by rw [List.append_nil, List.append_nil]; exact m1) (d := .bool true) rfl).bl
  refine ⟨true, hv, ?_⟩
  have S3 : Sts K (fun _ => False) F0 H0 F1 H1 ((σ ++ gs) ++ xs) (W1 ++ ts) := by
    have := S2.backA (vs := [v]) (rs := [.dt (.bool true)]) (xs := []) (ts := []) (by rw [List.append_nil, List.append_nil]; exact m1)
    simpa using this
  exact hb F0 H0 F1 H1 σ gs xs ts l (by rw [lg, l1]) S3 nat _ k
end
end Fh
set_option Elab.async false
set_option linter.all false
set_option maxRecDepth 100000
set_option maxHeartbeats 2000000
namespace Fh
open PySem PySem.Spec PyProof.Rows L2 Evl
open PySem.W (Datum)
/-! what such expressions tell, *held still* -/
section
variable {K : PySem.W.Frag} {M : Addr → Prop} {F0 H0 F H F' H' : Hp} {σ xs gs τ : L2.St} {ss ts rs gt ss2 zs as W W' W1 W2 : List Sl} {te : TE} {tz : TS} {n i : Nat} {p : Addr} {d : PyData} {ds hd : List PyData}
theorem EvZ.frz (h : EvZ K te n W W' (.ls ds)) : EvZ K te n W W' (.dt (.list ds)) := fun F0 H0 F H σ gs xs ts l lg S nat Q k => by
  refine h F0 H0 F H σ gs xs ts l lg S nat Q fun v F' H' S' => ?_
  rw [← List.append_assoc (σ ++ gs), ← List.append_assoc W'] at S'
  obtain ⟨F2, e2, f2, S2⟩ := S'.freeze (i := (W' ++ ts).length) (ds := ds) (by rw [List.getElem?_append_right (Nat.le_refl _), Nat.sub_self]; rfl)
  rw [List.set_append_right _ _ (Nat.le_refl _), Nat.sub_self, List.append_assoc (σ ++ gs), List.append_assoc W'] at S2
  exact k v F2 H' S2
theorem q_appA {D : Ends} (S : Sts K M F0 H0 F H (σ ++ gs) (ss ++ gt)) (l : σ.length = ss.length) (hM : ∀ a, ¬ M a) (hi : ss[i]? = some (.mu (lsAt K p hd))) (he : EvR K te ss (.dt d)) (hl : hd.length < 1000000)
    (k : ∀ F' H', Sts K M F0 H0 F' H' (σ ++ gs) (ss.set i (.mu (lsAt K p (hd ++ [d]))) ++ gt) → σ.length = (ss.set i (.mu (lsAt K p (hd ++ [d])))).length → tz D σ H') : tSeq (tDrop (tBM K "list" rAppend (tVar i) (tCons te tNil))) tz D σ H := st_appA (D := { D with nx := tz D }) S l hM hi he hl k
end
end Fh
set_option Elab.async false
set_option linter.all false
set_option maxRecDepth 100000
set_option maxHeartbeats 2000000
namespace Fh
open PySem PySem.Spec PyProof.Rows L2 Evl
open PySem.W (Datum)
/-! lists of what such expressions tell; *such told appended* -/
section
variable {K : PySem.W.Frag} {M : Addr → Prop} {F0 H0 F H F' H' : Hp} {σ xs gs τ : L2.St} {ss ss' ts rs gt gt' ss2 zs as W W' W1 W2 : List Sl} {te : TE} {tr : TA} {tz : TS} {n i : Nat} {p : Addr} {d : PyData} {ds hd : List PyData}
end
end Fh
set_option Elab.async false
set_option linter.all false
set_option maxRecDepth 100000
set_option maxHeartbeats 2000000
namespace Fh
open PySem PySem.Spec PyProof.Rows L2 Evl
/-! large sets of tuples: the round of i -> 5 i + 1 over *any power of two* -/
/-- 1 + 5 + 25 + .. -/
def sm : Nat → Nat
  | 0 => 0
  | b + 1 => 5 * sm b + 1
theorem sm_lcg (m : Nat) : ∀ b, lcgN m b = sm b % (m + 1)
  | 0 => (Nat.zero_mod _).symm
  | b + 1 => by
    show (lcgN m b * 5 + 1) % (m + 1) = (5 * sm b + 1) % (m + 1)
    rw [sm_lcg m b, Nat.mul_comm 5, Nat.add_mod, Nat.mod_mul_mod, ← Nat.add_mod]
theorem sm_add (a : Nat) : ∀ d, sm (a + d) = 5 ^ d * sm a + sm d
  | 0 => by show sm a = 5 ^ 0 * sm a + 0; rw [Nat.pow_zero, Nat.one_mul]; omega
  | d + 1 => by
    show 5 * sm (a + d) + 1 = 5 ^ (d + 1) * sm a + (5 * sm d + 1)
    rw [sm_add a d, Nat.pow_succ, Nat.mul_add, Nat.mul_comm (5 ^ d) 5, Nat.mul_assoc]
    omega
theorem sm_par : ∀ d, sm d % 2 = d % 2
  | 0 => rfl
  | d + 1 => by
    have := sm_par d
    show (5 * sm d + 1) % 2 = (d + 1) % 2
    omega
theorem five_mod : ∀ n, 5 ^ n % 4 = 1
  | 0 => rfl
  | n + 1 => by
    have := five_mod n
    rw [Nat.pow_succ]
    omega
theorem sm_dbl (n : Nat) : ∃ q, q % 2 = 1 ∧ sm (2 * n) = 2 * (sm n * q) := by
  have h := five_mod n
  refine ⟨(5 ^ n + 1) / 2, by omega, ?_⟩
  have e := sm_add n n
  rw [← Nat.two_mul] at e
  rw [e]
  have h2 : 5 ^ n + 1 = 2 * ((5 ^ n + 1) / 2) := by omega
  generalize (5 ^ n + 1) / 2 = q at h2
  have h3 : 5 ^ n * sm n + sm n = (5 ^ n + 1) * sm n := by rw [Nat.add_mul, Nat.one_mul]
  rw [h3, h2, Nat.mul_assoc, Nat.mul_comm q]
theorem odd_cop {q : Nat} (h : q % 2 = 1) (k : Nat) : Nat.Coprime (2 ^ k) q := by
  refine Nat.Coprime.pow_left k ?_
  unfold Nat.Coprime
  have hd : Nat.gcd 2 q ∣ 2 := Nat.gcd_dvd_left 2 q
  have hq : Nat.gcd 2 q ∣ q := Nat.gcd_dvd_right 2 q
  have hle := Nat.le_of_dvd (by decide) hd
  have h0 : Nat.gcd 2 q ≠ 0 := fun e => by rw [e] at hd; exact absurd (Nat.eq_zero_of_zero_dvd hd) (by decide)
  have h2 : Nat.gcd 2 q ≠ 2 := fun e => by
    rw [e] at hq
    have := Nat.mod_eq_zero_of_dvd hq
    omega
  omega
theorem sm_dvd : ∀ (k d : Nat), 2 ^ k ∣ sm d → 2 ^ k ∣ d
  | 0, d, _ => by rw [Nat.pow_zero]; exact Nat.one_dvd d
  | k + 1, d, h => by
    have he : sm d % 2 = 0 := Nat.mod_eq_zero_of_dvd (Nat.dvd_trans ⟨2 ^ k, by rw [Nat.pow_succ, Nat.mul_comm]⟩ h)
    have hp := sm_par d
    obtain ⟨n, rfl⟩ : ∃ n, d = 2 * n := ⟨d / 2, by omega⟩
    obtain ⟨q, hq, e⟩ := sm_dbl n
    rw [e, Nat.pow_succ, Nat.mul_comm] at h
    have h1 : 2 ^ k ∣ sm n * q := Nat.dvd_of_mul_dvd_mul_left (by decide) h
    have h2 : 2 ^ k ∣ sm n := (odd_cop hq k).dvd_of_dvd_mul_right h1
    have h3 := sm_dvd k n h2
    rw [Nat.pow_succ, Nat.mul_comm]
    exact Nat.mul_dvd_mul_left 2 h3
theorem dvd_sm : ∀ (k d : Nat), 2 ^ k ∣ d → 2 ^ k ∣ sm d
  | 0, d, _ => by rw [Nat.pow_zero]; exact Nat.one_dvd _
  | k + 1, d, h => by
    have he : d % 2 = 0 := Nat.mod_eq_zero_of_dvd (Nat.dvd_trans ⟨2 ^ k, by rw [Nat.pow_succ, Nat.mul_comm]⟩ h)
    obtain ⟨n, rfl⟩ : ∃ n, d = 2 * n := ⟨d / 2, by omega⟩
    obtain ⟨q, hq, e⟩ := sm_dbl n
    rw [Nat.pow_succ, Nat.mul_comm] at h
    have h1 := dvd_sm k n (Nat.dvd_of_mul_dvd_mul_left (by decide) h)
    rw [e, Nat.pow_succ, Nat.mul_comm]
    exact Nat.mul_dvd_mul_left 2 (Nat.dvd_trans h1 ⟨q, rfl⟩)
/-- a mask: one less than a power of two -/
def MG (m : Nat) : Prop := ∃ k, m + 1 = 2 ^ k
theorem rnd_inj {m : Nat} (hm : MG m) {a b : Nat} (hab : a < b) (hb : b ≤ m) : lcgN m a ≠ lcgN m b := fun e => by
  obtain ⟨k, hk⟩ := hm
  rw [sm_lcg, sm_lcg, hk] at e
  obtain ⟨d, rfl⟩ : ∃ d, b = a + d := ⟨b - a, by omega⟩
  -- sm (a + d) = sm d + ..., the other way round
  have e1 : sm (d + a) = 5 ^ a * sm d + sm a := sm_add d a
  rw [Nat.add_comm d a] at e1
  have h1 : 2 ^ k ∣ 5 ^ a * sm d := by
    have : (sm a) % 2 ^ k = (5 ^ a * sm d + sm a) % 2 ^ k := by rw [← e1]; exact e
    have h2 : (5 ^ a * sm d + sm a - sm a) % 2 ^ k = 0 := Nat.sub_mod_eq_zero_of_mod_eq this.symm
    rw [Nat.add_sub_cancel] at h2
    exact Nat.dvd_of_mod_eq_zero h2
  have h5 : (5 ^ a) % 2 = 1 := by have := five_mod a; omega
  have h2 : 2 ^ k ∣ sm d := (odd_cop h5 k).dvd_of_dvd_mul_left h1
  have h3 := Nat.le_of_dvd (by omega) (sm_dvd k d h2)
  omega
theorem rnd_le {m : Nat} (b : Nat) : lcgN m b ≤ m := by
  rw [sm_lcg]
  exact Nat.le_of_lt_succ (Nat.mod_lt _ (Nat.succ_pos _))
theorem rnd_all {m : Nat} (hm : MG m) {j : Nat} (hj : j ≤ m) : ∃ b, b ≤ m ∧ lcgN m b = j := by
  rcases Classical.em (∃ b, b ≤ m ∧ lcgN m b = j) with h | h
  · exact h
  · exfalso
    have nd : ((List.range (m + 1)).map (lcgN m)).Nodup := by
      refine List.pairwise_map.mpr (List.Pairwise.imp_of_mem (fun {a b} ha hb hab => ?_) List.pairwise_lt_range)
      exact rnd_inj hm hab (Nat.le_of_lt_succ (List.mem_range.mp hb))
    have sub : ∀ x ∈ (List.range (m + 1)).map (lcgN m), x ∈ (List.range (m + 1)).erase j := fun x hx => by
      obtain ⟨b, hb, rfl⟩ := List.mem_map.mp hx
      refine (List.mem_erase_of_ne fun e => h ⟨b, Nat.le_of_lt_succ (List.mem_range.mp hb), e⟩).2 ?_
      exact List.mem_range.mpr (Nat.lt_succ_of_le (rnd_le b))
    have := nat_nodup_len _ _ nd sub
    rw [List.length_map, List.length_range, List.length_erase_of_mem (List.mem_range.mpr (Nat.lt_succ_of_le hj)), List.length_range] at this
    omega
theorem rnd_per {m : Nat} (hm : MG m) : ∀ k, lcgN m (m + 1 + k) = lcgN m k
  | 0 => by
    obtain ⟨e, he⟩ := hm
    rw [Nat.add_zero, sm_lcg, he]
    show _ = 0
    exact Nat.mod_eq_zero_of_dvd (dvd_sm e _ (Nat.dvd_refl _))
  | k + 1 => by
    show (lcgN m (m + 1 + k) * 5 + 1) % (m + 1) = (lcgN m k * 5 + 1) % (m + 1)
    rw [rnd_per hm k]
theorem rnd_from {m : Nat} (hm : MG m) {i j : Nat} (hi : i ≤ m) (hj : j ≤ m) : ∃ k, k ≤ m ∧ lcgI m i k = j := by
  obtain ⟨a, ha, rfl⟩ := rnd_all hm hi
  obtain ⟨b, hb, rfl⟩ := rnd_all hm hj
  by_cases c : b < a
  · refine ⟨b + (m + 1) - a, by omega, ?_⟩
    rw [lcgN_add, show a + (b + (m + 1) - a) = m + 1 + b by omega, rnd_per hm]
  · refine ⟨b - a, by omega, ?_⟩
    rw [lcgN_add, show a + (b - a) = b by omega]
theorem starts_all {m : Nat} (hm : MG m) (h : Int) {j : Nat} (hj : j ≤ m) : ∃ n, n ≤ m + 12 ∧ runI m (SetTable.bits h) n = j := by
  obtain ⟨k, hk, e⟩ := rnd_from hm (runI_le m (SetTable.bits h) 12) hj
  exact ⟨12 + k, by omega, (runI_tail (bits_lt h) k).trans e⟩
theorem way_all {m : Nat} (hm : MG m) (h : Int) {j : Nat} (hj : j ≤ m) : ∃ k, k < 10 * SetTable.turns m ∧ way m h k = j := by
  obtain ⟨n, hn, e⟩ := starts_all hm h hj
  obtain ⟨k, hk, e2⟩ := run_nth m (SetTable.bits h) n
  refine ⟨k, by unfold SetTable.turns; omega, ?_⟩
  show (nth m (runAt m (SetTable.bits h % (m + 1)) (SetTable.bits h)) k).j = j
  rw [e2]
  exact e
theorem way_in {m : Nat} (h : Int) (k : Nat) : way m h k ≤ m := by
  have hi : SetTable.bits h % (m + 1) ≤ m := Nat.le_of_lt_succ (Nat.mod_lt _ (Nat.succ_pos _))
  have r := runEnd_bd hi
  have q := nth_in (m := m) k (runAt m (SetTable.bits h % (m + 1)) (SetTable.bits h)) (by show SetTable.bits h % (m + 1) + (SetTable.runEnd m (SetTable.bits h % (m + 1)) - SetTable.bits h % (m + 1)) ≤ m; omega)
  exact Nat.le_trans (Nat.le_add_right _ _) q
end Fh
set_option Elab.async false
set_option linter.all false
set_option maxRecDepth 100000
set_option maxHeartbeats 2000000
namespace Fh
open PySem PySem.Spec PyProof.Rows L2 Evl
/-! large sets of tuples: *their tables* -/
/-- the masks that come with less than four thousand members -/
def Mk (m : Nat) : Prop := m = 7 ∨ m = 31 ∨ m = 127 ∨ m = 511 ∨ m = 2047 ∨ m = 8191
theorem Mk.mg {m : Nat} (h : Mk m) : MG m := by
  rcases h with rfl | rfl | rfl | rfl | rfl | rfl
  · exact ⟨3, rfl⟩
  · exact ⟨5, rfl⟩
  · exact ⟨7, rfl⟩
  · exact ⟨9, rfl⟩
  · exact ⟨11, rfl⟩
  · exact ⟨13, rfl⟩
theorem Mk.odd {m : Nat} (h : Mk m) : m % 2 = 1 := by rcases h with rfl | rfl | rfl | rfl | rfl | rfl <;> rfl
theorem Mk.le {m : Nat} (h : Mk m) : m ≤ 8191 := by rcases h with rfl | rfl | rfl | rfl | rfl | rfl <;> decide
/-- each hash's slot is reached over slots that are taken -/
def Reach (m : Nat) (pl : List Nat) (h : Int) (j : Nat) : Prop := ∃ k, way m h k = j ∧ ∀ i, i < k → way m h i ∈ pl
structure TbG (t : SetTable) (hs : List Int) : Prop where
  ris : Ris t.place.toList
  dm : t.dummies = #[]
  sz : t.place.toList.length = hs.length
  mo : Mk t.mask
  bd : ∀ x ∈ t.place.toList, x ≤ t.mask
  rc : ∀ (i : Nat) (h : Int) (j : Nat), hs[i]? = some h → t.place.toList[i]? = some j → Reach t.mask t.place.toList h j
theorem Reach.more {m : Nat} {pl pl' : List Nat} {h : Int} {j : Nat} (r : Reach m pl h j) (s : ∀ x ∈ pl, x ∈ pl') : Reach m pl' h j := by
  obtain ⟨k, e, f⟩ := r
  exact ⟨k, e, fun i hi => s _ (f i hi)⟩
theorem TbG.first {t : SetTable} {hs : List Int} (T : TbG t hs) (hl : hs.length ≤ t.mask) (h : Int) : ∃ K, K < 10 * SetTable.turns t.mask ∧ way t.mask h K ∉ t.place.toList ∧ ∀ k, k < K → way t.mask h k ∈ t.place.toList := by
  obtain ⟨j, hj, hn⟩ := st_missing t.place.toList (t.mask + 1) (by rw [T.sz]; omega)
  obtain ⟨k, hk, e⟩ := way_all T.mo.mg h (Nat.le_of_lt_succ hj)
  have hkn : way t.mask h k ∉ t.place.toList := by rw [e]; exact hn
  obtain ⟨K, h1, h2, h3⟩ := st_least (p := fun k => way t.mask h k ∉ t.place.toList) k hkn
  exact ⟨K, by omega, h2, fun i hi => Classical.byContradiction fun z => h3 i hi z⟩
theorem TbG.before {t : SetTable} {hs : List Int} (T : TbG t hs) {h : Int} {K i j : Nat} (hK : way t.mask h K ∉ t.place.toList) (hi : hs[i]? = some h) (hj : t.place.toList[i]? = some j) : ∃ k, k < K ∧ way t.mask h k = j := by
  obtain ⟨k, e, f⟩ := T.rc i h j hi hj
  refine ⟨k, Classical.byContradiction fun z => ?_, e⟩
  by_cases c : k = K
  · rw [← c, e] at hK
    exact hK (List.mem_of_getElem? hj)
  · exact hK (f K (by omega))
theorem TbG.put {t : SetTable} {hs : List Int} (T : TbG t hs) {h : Int} {K : Nat} (hK : way t.mask h K ∉ t.place.toList) (hb : ∀ k, k < K → way t.mask h k ∈ t.place.toList) {p : Nat} (hp : p = SetTable.below t.place (way t.mask h K)) :
    p ≤ hs.length ∧ TbG (t.put (way t.mask h K)).1 (hs.take p ++ h :: hs.drop p) ∧ (t.put (way t.mask h K)).1.fill = hs.length + 1 := by
  obtain ⟨c1, _, _⟩ := below_cut T.ris (way t.mask h K)
  rw [← hp] at c1
  have hz : t.place.toList.length = t.place.size := rfl
  have hpl : p ≤ t.place.toList.length := by omega
  have hph : p ≤ hs.length := by rw [← T.sz]; exact hpl
  have hno : t.place[SetTable.below t.place (way t.mask h K)]? ≠ some (way t.mask h K) := fun e => hK (List.mem_of_getElem? (by rw [Array.getElem?_toList]; exact e))
  have ep : (t.put (way t.mask h K)).1.place.toList = t.place.toList.take p ++ way t.mask h K :: t.place.toList.drop p := by rw [put_place, hp]
  have up : ∀ x ∈ t.place.toList, x ∈ (t.put (way t.mask h K)).1.place.toList := fun x hx => by
    rw [ep]
    exact mem_ins.2 (.inr hx)
  have el : (t.put (way t.mask h K)).1.place.toList.length = hs.length + 1 := by rw [ep, len_ins _ hpl, T.sz]
  refine ⟨hph, ⟨ris_insert T.ris hno, put_dm T.dm _, by rw [el, len_ins _ hph], T.mo, fun x hx => ?_, fun i h' j' h1 h2 => ?_⟩, ?_⟩
  · rw [ep] at hx
    rcases mem_ins.1 hx with rfl | hx
    · exact way_in _ _
    · exact T.bd x hx
  · show Reach t.mask (t.put (way t.mask h K)).1.place.toList h' j'
    rw [tins_get hs hph] at h1
    rw [ep, tins_get _ hpl] at h2
    by_cases c : i < p
    · rw [if_pos c] at h1 h2
      exact (T.rc i h' j' h1 h2).more up
    · rw [if_neg c] at h1 h2
      by_cases d : i = p
      · rw [if_pos d] at h1 h2
        cases h1
        cases h2
        exact ⟨K, rfl, fun i hi => up _ (hb i hi)⟩
      · rw [if_neg d] at h1 h2
        exact (T.rc (i - 1) h' j' h1 h2).more up
  · show (t.put (way t.mask h K)).1.place.size + (t.put (way t.mask h K)).1.dummies.size = _
    rw [put_dm T.dm]
    exact el
/-! ### laid anew -/
theorem lay_free {m : Nat} (hm : MG m) (owner : Array (Option Nat)) (h : Int) {j : Nat} (hj : j ≤ m) (hf : oAt owner j = none) :
    ∃ K, SetTable.layClean.free m owner (SetTable.turns m) (SetTable.bits h % (m + 1)) (SetTable.bits h) = some (way m h K) ∧ oAt owner (way m h K) = none ∧ ∀ k, k < K → oAt owner (way m h k) ≠ none := by
  obtain ⟨n, hn, e⟩ := starts_all hm h hj
  have hw : way m h (off m (SetTable.bits h % (m + 1)) (SetTable.bits h) n) = j := by
    show (nth m (runAt m (SetTable.bits h % (m + 1)) (SetTable.bits h)) (off m (SetTable.bits h % (m + 1)) (SetTable.bits h) n)).j = j
    rw [nth_off, itL_run]
    exact e
  have hwn : oAt owner (way m h (off m (SetTable.bits h % (m + 1)) (SetTable.bits h) n)) = none := by rw [hw]; exact hf
  obtain ⟨K, k1, k2, k3⟩ := st_least (p := fun k => oAt owner (way m h k) = none) _ hwn
  have k2 : oAt owner (way m h K) = none := k2
  refine ⟨K, free_spec m owner (SetTable.turns m) n _ _ K (by unfold SetTable.turns; omega) k1 (fun k hk => ?_) (by show (oAt owner (way m h K)).isNone = true; rw [k2]; rfl), k2, k3⟩
  show (oAt owner (way m h k)).isNone = false
  cases z : oAt owner (way m h k) with
  | none => exact absurd z (k3 k hk)
  | some _ => rfl
theorem own_step {m : Nat} (hm : MG m) {done : List Int} {owner : Array (Option Nat)} (W : Own m done owner) (hl : done.length ≤ m) (h : Int) :
    ∃ j, SetTable.layClean.free m owner (SetTable.turns m) (SetTable.bits h % (m + 1)) (SetTable.bits h) = some j ∧ Own m (done ++ [h]) (owner.setIfInBounds j (some done.length)) := by
  obtain ⟨ps, hps, hin⟩ := W.ps
  obtain ⟨j0, h0, hn0⟩ := st_missing ps (m + 1) (by omega)
  have hj0 : oAt owner j0 = none := Classical.byContradiction fun z => hn0 (hin j0 (Nat.le_of_lt_succ h0) z)
  obtain ⟨K, e1, e2, e3⟩ := lay_free hm owner h (Nat.le_of_lt_succ h0) hj0
  have hjs : way m h K < owner.size := by rw [W.sz]; exact Nat.lt_succ_of_le (way_in h K)
  have hself := oAt_set_self (some done.length) hjs
  have keep : ∀ i, i ≠ way m h K → oAt (owner.setIfInBounds (way m h K) (some done.length)) i = oAt owner i := fun i hi => oAt_set_ne _ hi
  have taken : ∀ i, oAt owner i ≠ none → oAt (owner.setIfInBounds (way m h K) (some done.length)) i ≠ none := fun i hi => by
    by_cases c : i = way m h K
    · rw [c, hself]
      exact fun z => nomatch z
    · rw [keep i c]
      exact hi
  refine ⟨way m h K, e1, by rw [Array.size_setIfInBounds]; exact W.sz, fun j k hj e => ?_, fun k hk => ?_, way m h K :: ps, by rw [List.length_cons, hps, List.length_append]; rfl, fun j hj e => ?_⟩
  · by_cases c : j = way m h K
    · rw [c, hself] at e
      cases e
      exact ⟨h, K, by simp, c.symm, fun i hi => taken _ (e3 i hi)⟩
    · rw [keep j c] at e
      obtain ⟨h', K', a1, a2, a3⟩ := W.at_ j k hj e
      exact ⟨h', K', by rw [List.getElem?_append_left (List.getElem?_eq_some_iff.mp a1).1]; exact a1, a2, fun i hi => taken _ (a3 i hi)⟩
  · rw [List.length_append] at hk
    have hk : k < done.length + 1 := hk
    by_cases c : k = done.length
    · rw [c]
      exact ⟨way m h K, way_in h K, hself⟩
    · obtain ⟨j, hj, e⟩ := W.all k (by omega)
      refine ⟨j, hj, ?_⟩
      rw [keep j fun z => by rw [z, e2] at e; cases e]
      exact e
  · by_cases c : j = way m h K
    · rw [c]
      exact List.mem_cons_self
    · rw [keep j c] at e
      exact List.mem_cons_of_mem _ (hin j hj e)
theorem lay_fold {m : Nat} (hm : MG m) : ∀ (rest done : List Int) (owner : Array (Option Nat)), Own m done owner → done.length + rest.length ≤ m →
    ∃ owner', rest.foldl (stepF m) (some (owner, done.length)) = some (owner', (done ++ rest).length) ∧ Own m (done ++ rest) owner'
  | [], done, owner, W, _ => ⟨owner, by rw [List.append_nil]; rfl, by rw [List.append_nil]; exact W⟩
  | h :: rest, done, owner, W, hl => by
    rw [List.length_cons] at hl
    obtain ⟨j, e, W'⟩ := own_step hm W (by omega) h
    have hl' : (done ++ [h]).length = done.length + 1 := by rw [List.length_append]; rfl
    obtain ⟨owner', f, W2⟩ := lay_fold hm rest (done ++ [h]) _ W' (by omega)
    rw [List.append_assoc] at f W2
    rw [hl'] at f
    refine ⟨owner', ?_, W2⟩
    show rest.foldl (stepF m) (stepF m (some (owner, done.length)) h) = _
    rw [stepF_some e]
    exact f
theorem lay_ok {m : Nat} (hm : MG m) {hs : Array Int} (hn : hs.size ≤ m) : ∃ owner, SetTable.layClean m hs = some owner ∧ Own m hs.toList owner := by
  have hz : hs.toList.length = hs.size := rfl
  obtain ⟨owner, f, W⟩ := lay_fold hm hs.toList [] _ (Own.init m) (by show 0 + hs.toList.length ≤ m; omega)
  refine ⟨owner, ?_, W⟩
  have f' : hs.toList.foldl (stepF m) (some (Array.replicate (m + 1) none, 0)) = some (owner, hs.toList.length) := f
  rw [layClean_eq, f']
  rfl
theorem rel_ok (t : SetTable) {hs : Array Int} {wanted M : Nat} (hw : SetTable.sizeAbove wanted - 1 = M) (hM : Mk M) (hn : hs.size ≤ M) :
    ∃ t' order, t.relaid hs wanted = some (t', order) ∧ order.toList.Perm (List.range hs.size) ∧ TbG t' (order.toList.map fun i => hs.getD i 0) ∧ t'.mask = M ∧ t'.led = t.led ∧ t'.plain = t.plain := by
  obtain ⟨owner, e, W⟩ := lay_ok hM.mg hn
  have hz : hs.toList.length = hs.size := rfl
  have hr : t.relaid hs wanted = some (tabOf t M owner, ((liveOf M owner).map (·.2)).toArray) := by
    rw [relaid_eq, hw, e]
    rfl
  obtain ⟨r1, r2⟩ := ris_live (fun j => owner.getD j none) (List.range (M + 1)) List.pairwise_lt_range
  have r1 : Ris ((liveOf M owner).map (·.1)) := r1
  have r2 : ∀ x ∈ (liveOf M owner).map (·.1), x ∈ List.range (M + 1) := r2
  have ml : ∀ {j k : Nat}, (j, k) ∈ liveOf M owner ↔ j ≤ M ∧ oAt owner j = some k := mem_live W.sz
  obtain ⟨ps, p1, p2⟩ := W.ps
  have hall : ∀ k, k < hs.size → k ∈ (liveOf M owner).map (·.2) := fun k hk => by
    obtain ⟨j, b1, b2⟩ := W.all k hk
    exact List.mem_map.mpr ⟨(j, k), ml.2 ⟨b1, b2⟩, rfl⟩
  have hlen : (liveOf M owner).length = hs.size := by
    have nd : ((liveOf M owner).map (·.1)).Nodup := List.Pairwise.imp (fun {a b} (h : a < b) => Nat.ne_of_lt h) r1
    have a := nat_nodup_len ((liveOf M owner).map (·.1)) ps nd fun x hx => by
      obtain ⟨⟨y, k⟩, hq, rfl⟩ := List.mem_map.mp hx
      obtain ⟨b1, b2⟩ := ml.1 hq
      exact p2 y b1 fun z => by rw [b2] at z; cases z
    have b := nat_nodup_len (List.range hs.size) ((liveOf M owner).map (·.2)) List.nodup_range fun k hk => hall k (List.mem_range.mp hk)
    rw [List.length_map] at a b
    rw [List.length_range] at b
    omega
  refine ⟨tabOf t M owner, ((liveOf M owner).map (·.2)).toArray, hr, perm_range hs.size _ (by show ((liveOf M owner).map (·.2)).length = _; rw [List.length_map, hlen]) hall, ⟨r1, rfl, ?_, hM, fun x hx => Nat.le_of_lt_succ (List.mem_range.mp (r2 x hx)), fun i h j h1 h2 => ?_⟩, rfl, rfl, rfl⟩
  · show ((liveOf M owner).map (·.1)).length = (((liveOf M owner).map (·.2)).map fun i => hs.getD i 0).length
    rw [List.length_map, List.length_map, List.length_map]
  · have h1 : (((liveOf M owner).map (·.2)).map fun i => hs.getD i 0)[i]? = some h := h1
    have h2 : ((liveOf M owner).map (·.1))[i]? = some j := h2
    show Reach M ((liveOf M owner).map (·.1)) h j
    rw [List.getElem?_map, List.getElem?_map] at h1
    rw [List.getElem?_map] at h2
    cases hq : (liveOf M owner)[i]? with
    | none => rw [hq] at h2; cases h2
    | some q =>
      rw [hq] at h1 h2
      obtain ⟨y, k⟩ := q
      cases h2
      have eh : hs.getD k 0 = h := Option.some.inj h1
      obtain ⟨b1, b2⟩ := ml.1 (List.mem_of_getElem? hq)
      obtain ⟨h0, K, a1, a2, a3⟩ := W.at_ _ k b1 b2
      have e0 : hs.getD k 0 = h0 := by
        rw [Array.getD_eq_getD_getElem?, ← Array.getElem?_toList, a1]
        rfl
      rw [← eh, e0]
      refine ⟨K, a2, fun i hi => ?_⟩
      cases z : oAt owner (way M h0 i) with
      | none => exact absurd z (a3 i hi)
      | some k2 => exact List.mem_map.mpr ⟨(way M h0 i, k2), ml.2 ⟨way_in _ _, z⟩, rfl⟩
/-- where a table is full, and how large the next one is -/
theorem grow {m n : Nat} (hm : Mk m) (h1 : n * 5 < m * 3) (h2 : (n + 1) * 5 ≥ m * 3) (h3 : n + 1 < 4000) : ∃ M, SetTable.sizeAbove (SetTable.grown (n + 1)) - 1 = M ∧ Mk M ∧ SetTable.sizeAbove (SetTable.grown (n + 1)) ≤ 8192 ∧ (n + 1) * 5 < M * 3 := by
  rcases hm with rfl | rfl | rfl | rfl | rfl | rfl
  · obtain rfl : n = 4 := by omega
    exact ⟨31, by decide +kernel, .inr (.inl rfl), by decide +kernel, by decide⟩
  · obtain rfl : n = 18 := by omega
    exact ⟨127, by decide +kernel, .inr (.inr (.inl rfl)), by decide +kernel, by decide⟩
  · obtain rfl : n = 76 := by omega
    exact ⟨511, by decide +kernel, .inr (.inr (.inr (.inl rfl))), by decide +kernel, by decide⟩
  · obtain rfl : n = 306 := by omega
    exact ⟨2047, by decide +kernel, .inr (.inr (.inr (.inr (.inl rfl)))), by decide +kernel, by decide⟩
  · obtain rfl : n = 1228 := by omega
    exact ⟨8191, by decide +kernel, .inr (.inr (.inr (.inr (.inr rfl)))), by decide +kernel, by decide⟩
  · omega
end Fh
set_option Elab.async false
set_option linter.all false
set_option maxRecDepth 100000
set_option maxHeartbeats 2000000
namespace Fh
open PySem PySem.Spec PyProof.Rows L2 Evl
/-! large sets of tuples: *searched and added to* -/
section
variable {P : Program} {w : World} {A : Around} {E : Value → Shared → Prop} {s : Shared} {a : Addr} {L : List (Addr × List Int)} {es : Array (Int × Value)} {ep : Nat} {t : SetTable}
def hsh (P : Program) (w : World) (L : List (Addr × List Int)) : List Int := L.map fun p => thash P w p.2
structure SetG (P : Program) (w : World) (h : Heap) (a : Addr) (L : List (Addr × List Int)) (es : Array (Int × Value)) (ep : Nat) (t : SetTable) : Prop where
  ob : ∃ o, h.get? a = some o ∧ o.ExactSet ∧ o.data = .set es ep t
  rows : es.toList = rowsOf P w L
  tab : TbG t (hsh P w L)
  nd : (L.map (·.2)).Nodup
  tup : ∀ p ∈ L, IsT P w h p.2 p.1
  plain : t.plain = true
  led : w.params.followText "set-order" = true ∨ t.led = true
  room : L.length * 5 < t.mask * 3
  few : L.length < 4000
theorem rows_len {L : List (Addr × List Int)} {es : Array (Int × Value)} (h : es.toList = rowsOf P w L) : es.size = L.length := by
  have h := congrArg List.length h
  unfold rowsOf at h
  rw [List.length_map] at h
  exact h
theorem fits_of {n : Nat} (h1 : t.place.toList.length = n) (h2 : t.dummies = #[]) (h3 : n ≤ t.mask) : t.fits n = true := by
  have h1 : t.place.size = n := h1
  unfold SetTable.fits SetTable.fill
  rw [h2, Bool.and_eq_true, beq_iff_eq, decide_eq_true_eq]
  exact ⟨h1, by show t.place.size + 0 ≤ t.mask; omega⟩
theorem SetG.size (R : SetG P w s.heap a L es ep t) : es.size = L.length := rows_len R.rows
theorem hsh_len (L : List (Addr × List Int)) : (hsh P w L).length = L.length := List.length_map _
theorem SetG.fits (R : SetG P w s.heap a L es ep t) : t.fits es.size = true := by
  rw [R.size]
  exact fits_of (by rw [R.tab.sz, hsh_len]) R.tab.dm (by have := R.room; omega)
theorem row_at {L : List (Addr × List Int)} {es : Array (Int × Value)} (h : es.toList = rowsOf P w L) {i : Nat} {p : Addr × List Int} (hi : L[i]? = some p) : es[i]? = some (thash P w p.2, Value.ref p.1) := by
  rw [← Array.getElem?_toList, h]
  unfold rowsOf
  rw [List.getElem?_map, hi]
  rfl
theorem no_gw (h : Mk t.mask) : ¬ t.gaveWay = true := by
  unfold SetTable.gaveWay
  rw [h.odd]
  decide
theorem nth_dum (m : Nat) : ∀ (n : Nat) (p : SetTable.Probe), p.dummy = none → (nth m p n).dummy = none
  | 0, p, h => h
  | n + 1, p, h => nth_dum m n (adv m p) (by unfold adv; split <;> exact h)
/-- where a search for a hash stands behind c steps -/
abbrev pst (m : Nat) (h : Int) (c : Nat) : SetTable.Probe := nth m (runAt m (SetTable.bits h % (m + 1)) (SetTable.bits h)) c
/-- what is searched for, if it is there, still lies ahead -/
def Ahead (t : SetTable) (L : List (Addr × List Int)) (k : List Int) (h : Int) (c K : Nat) : Prop := ∀ (i : Nat) (p : Addr × List Int), L[i]? = some p → p.2 = k → ∃ c', c ≤ c' ∧ c' < K ∧ t.place.toList[i]? = some (way t.mask h c')
theorem seekG (R : SetG P w s.heap a L es ep t) {x : Addr} {k : List Int} (hx : IsT P w s.heap k x) (hu : A.units < cLine) {K : Nat} (hKf : K < 10 * SetTable.turns t.mask)
    (hK : way t.mask (thash P w k) K ∉ t.place.toList) (hKb : ∀ c, c < K → way t.mask (thash P w k) c ∈ t.place.toList) {Q : SetFound → Shared → Prop}
    (hin : k ∈ L.map (·.2) → Q (.there none) s) (hout : k ∉ L.map (·.2) → Q (.free (way t.mask (thash P w k) K) false) s) :
    ∀ (f c : Nat) (stand : Option SetTable.Probe), stand.getD (t.probeStart (thash P w k)) = pst t.mask (thash P w k) c → c ≤ K → K - c < f → Ahead t L k (thash P w k) c K →
      wpAny (model P w) A (setSearchFrom a (.ref x) (thash P w k) true f stand) Q E s
  | 0, c, stand, _, _, hf, _ => absurd hf (Nat.not_lt_zero _)
  | f + 1, c, stand, hst, hc, hf, ah => by
    obtain ⟨o, ho, hex, hd⟩ := R.ob
    generalize eh : thash P w k = h at *
    rw [setSearchFrom_succ]
    refine wpAny_bind (wpAny_setState_of ho hd R.fits ?_)
    dsimp only
    refine wp_if_neg (no_gw R.tab.mo) ?_
    try refine wpAny_bind (wpAny_pure ?_)
    have sh : ∀ q, nth t.mask (pst t.mask h c) q = pst t.mask h (c + q) := fun q => (nth_add t.mask c _ q).symm
    have shj : ∀ q, (nth t.mask (pst t.mask h c) q).j = way t.mask h (c + q) := fun q => congrArg SetTable.Probe.j (sh q)
    have spec := go_spec t R.tab.ris R.tab.dm (fun i => (es[i]?.map (·.1)).getD 0) h (10 * SetTable.turns t.mask) (K - c) (pst t.mask h c) (nth_dum t.mask c _ rfl) (by omega)
      (fun q hq => by rw [shj]; exact hKb _ (by omega)) (by rw [shj, show c + (K - c) = K by omega]; exact hK)
    have hat : ∀ (i : Nat) (p : Addr × List Int), L[i]? = some p → (es[i]?.map (·.1)).getD 0 = thash P w p.2 := fun i p hp => by
      rw [row_at R.rows hp]
      rfl
    rcases spec with ⟨q, i, hq, hi, _, hno, hpr⟩ | ⟨hno, hpr⟩
    · rw [shj] at hi
      have epr : t.probe (fun i => (es[i]?.map (·.1)).getD 0) h (stand.getD (t.probeStart h)) = some (.candidate (way t.mask h (c + q)) i (pst t.mask h (c + (q + 1)))) := by
        rw [hst, ← sh, ← shj]
        exact hpr
      rw [epr]
      dsimp only
      have hil : i < L.length := by
        have := (List.getElem?_eq_some_iff.mp hi).1
        rw [R.tab.sz, hsh_len] at this
        exact this
      obtain ⟨p, hp⟩ : ∃ p, L[i]? = some p := ⟨_, List.getElem?_eq_getElem hil⟩
      have hmem := List.mem_of_getElem? hp
      have hsl : t.slot (way t.mask h (c + q)) = .live i := slot_live R.tab.ris hi
      have rest : wpAny (model P w) A (searchRest a (.ref x) h true f es t (way t.mask h (c + q)) i (pst t.mask h (c + (q + 1)))) Q E s := by
        unfold searchRest
        rw [row_at R.rows hp]
        dsimp only
        refine wpAny_bind (wpAny_holding (wpAny_eqBool_tuple hu (R.tup p hmem) hx ?_))
        refine wpAny_bind (wpAny_setState_of ho hd R.fits ?_)
        dsimp only
        by_cases hkk : p.2 = k
        · refine wp_if_pos (by simp [hkk]) ?_
          exact wpAny_pure (hin (List.mem_map.mpr ⟨p, hmem, hkk⟩))
        · refine wp_if_neg (by simp [hkk]) ?_
          try refine wpAny_bind (wpAny_pure ?_)
          rw [sameMem]
          dsimp only
          simp only [if_true, hsl, row_at R.rows hp]
          refine wpAny_bind (wpAny_isSame_ref_self (wpAny_bind (wpAny_pure ?_)))
          simp only [if_true]
          refine wp_if_neg (by simp [hkk]) ?_
          rw [← eh] at hK hKb hout ⊢
          refine seekG R hx hu hKf hK hKb hin hout f (c + (q + 1)) _ rfl (by omega) (by omega) fun i0 p0 h0 hk0 => ?_
          rw [eh]
          obtain ⟨c', a1, a2, a3⟩ := ah i0 p0 h0 hk0
          refine ⟨c', ?_, a2, a3⟩
          refine Classical.byContradiction fun z => ?_
          by_cases y : c' = c + q
          · rw [y] at a3
            have s0 := slot_live R.tab.ris a3
            rw [hsl] at s0
            cases s0
            rw [hp] at h0
            cases h0
            exact hkk hk0
          · refine hno (c' - c) i0 (by omega) (by rw [shj, show c + (c' - c) = c' by omega]; exact a3) ?_
            rw [hat i0 p0 h0, hk0]
            exact eh
      by_cases hl : t.led = true
      · refine wp_if_neg (by simp [hl]) ?_
        try refine wpAny_bind (wpAny_pure ?_)
        exact rest
      · refine wp_if_pos (by simp [hl]) ?_
        refine wpAny_bind (seen_tup hx (fun y hy => ?_) ?_)
        · obtain ⟨e, he, ee⟩ := List.mem_map.mp hy
          have he1 : e ∈ es ∧ e.1 = h := by simpa using he
          have he2 : e ∈ es.toList := by simpa using he1.1
          rw [R.rows] at he2
          obtain ⟨p2, hp2, e2⟩ := List.mem_map.mp he2
          exact ⟨p2.2, p2.1, by rw [← ee, ← e2], R.tup p2 hp2⟩
        · refine wp_if_neg (by decide) ?_
          try refine wpAny_bind (wpAny_pure ?_)
          exact rest
    · have epr : t.probe (fun i => (es[i]?.map (·.1)).getD 0) h (stand.getD (t.probeStart h)) = some (.empty (way t.mask h K) none) := by
        have e2 : way t.mask h K = (nth t.mask (pst t.mask h c) (K - c)).j := by rw [shj, show c + (K - c) = K by omega]
        rw [hst, e2]
        exact hpr
      rw [epr]
      dsimp only
      refine wpAny_pure (hout fun hm => ?_)
      obtain ⟨p0, h0, hk0⟩ := List.mem_map.mp hm
      obtain ⟨i0, h00⟩ := List.getElem?_of_mem h0
      obtain ⟨c', a1, a2, a3⟩ := ah i0 p0 h00 hk0
      refine hno (c' - c) i0 (by omega) (by rw [shj, show c + (c' - c) = c' by omega]; exact a3) ?_
      rw [hat i0 p0 h00, hk0]
      exact eh
theorem seek_atG (R : SetG P w s.heap a L es ep t) {x : Addr} {k : List Int} (hx : IsT P w s.heap k x) (hu : A.units < cLine) {Q : SetFound → Shared → Prop}
    (hin : k ∈ L.map (·.2) → Q (.there none) s)
    (hout : ∀ K, k ∉ L.map (·.2) → way t.mask (thash P w k) K ∉ t.place.toList → (∀ c, c < K → way t.mask (thash P w k) c ∈ t.place.toList) → Q (.free (way t.mask (thash P w k) K) false) s) :
    wpAny (model P w) A (setSearch a (.ref x) (thash P w k) true) Q E s := by
  have hroom := R.room
  obtain ⟨K, hKf, hK, hKb⟩ := R.tab.first (by rw [hsh_len]; omega) (thash P w k)
  have hml := R.tab.mo.le
  have hbig : K < 100000 := by
    unfold SetTable.turns at hKf
    omega
  unfold setSearch
  refine seekG R hx hu hKf hK hKb hin (fun hn => hout K hn hK hKb) 100000 0 none rfl (Nat.zero_le _) (by omega) fun i p hp hk => ?_
  have hi : (hsh P w L)[i]? = some (thash P w k) := by
    unfold hsh
    rw [List.getElem?_map, hp, ← hk]
    rfl
  have hil : i < t.place.toList.length := by
    rw [R.tab.sz, hsh_len]
    exact (List.getElem?_eq_some_iff.mp hp).1
  have hj := List.getElem?_eq_getElem hil
  obtain ⟨c, hc, e⟩ := R.tab.before hK hi hj
  exact ⟨c, Nat.zero_le _, hc, by rw [hj, e]⟩
theorem relayG {o : Obj} (ho : s.heap.get? a = some o) (hex : o.ExactSet) (hd : o.data = .set es ep t) (hrows : es.toList = rowsOf P w L) (hsz : t.place.toList.length = L.length) (hdm : t.dummies = #[]) (hfl : L.length ≤ t.mask)
    (nd : (L.map (·.2)).Nodup) (tup : ∀ p ∈ L, IsT P w s.heap p.2 p.1) (pl : t.plain = true) (ld : w.params.followText "set-order" = true ∨ t.led = true) (few : L.length < 4000) {wanted M : Nat}
    (hw : SetTable.sizeAbove wanted - 1 = M) (hM : Mk M) (hw2 : SetTable.sizeAbove wanted ≤ 8192) (hn : L.length * 5 < M * 3) {Q : Unit → Shared → Prop}
    (hQ : ∀ h' L' es' ep' t', Heap.SameBut a s.heap h' → SetG P w h' a L' es' ep' t' → L'.Perm L → Q () { s with heap := h' }) : wpAny (model P w) A (setRelay a wanted) Q E s := by
  have hsl := rows_len hrows
  obtain ⟨t', order, e, hp, T, em, el, ep'⟩ := rel_ok t (hs := es.map (·.1)) (wanted := wanted) hw hM (by rw [Array.size_map, hsl]; omega)
  rw [Array.size_map, hsl] at hp
  obtain ⟨L2, r1, r2, r3⟩ := order_rows L es order hrows hp
  have T : TbG t' (hsh P w L2) := by
    unfold hsh
    rw [r3]
    exact T
  have hs2 := rows_len r1
  rw [setRelay_eq]
  refine wpAny_bind (wpAny_setState_of ho hd (by rw [hsl]; exact fits_of hsz hdm hfl) ?_)
  dsimp only
  refine wp_if_neg (by rw [sizeLine_eq]; omega) ?_
  try refine wpAny_bind (wpAny_pure ?_)
  rw [e]
  dsimp only
  refine wpAny_bind ?_
  refine wp_if_neg (by rw [hs2, r2.length_eq, hsl]; simp) ?_
  try refine wpAny_bind (wpAny_pure ?_)
  refine wpAny_pure ?_
  dsimp only
  refine wpAny_storeSet_of ho hd ?_ (by rw [hs2, r2.length_eq, sizeLine_eq]; omega)
  have sb : Heap.SameBut a s.heap (s.heap.update a (Obj.putSet (order.filterMap (es[·]?)) t')) := Heap.SameBut.update ..
  refine hQ _ L2 (order.filterMap (es[·]?)) (ep + 1) t' sb ⟨⟨_, store_at ho hd, ⟨hex.1, hex.2.1, hex.2.2⟩, rfl⟩, r1, T, (r2.map (·.2)).nodup_iff.mpr nd, fun p hpm => isT_same (tup p (r2.mem_iff.mp hpm)) ho hd sb, by rw [ep']; exact pl, by rw [el]; exact ld, by rw [r2.length_eq, em]; exact hn, by rw [r2.length_eq]; exact few⟩ r2
theorem addG (R : SetG P w s.heap a L es ep t) {x : Addr} {k : List Int} (hx : IsT P w s.heap k x) (hu : A.units < cLine) (hfew : L.length + 1 < 4000) {Q : Bool → Shared → Prop}
    (hQ : ∀ b h' L' es' ep' t', Heap.SameBut a s.heap h' → SetG P w h' a L' es' ep' t' → (k ∈ L.map (·.2) → L' = L) → (k ∉ L.map (·.2) → L'.Perm ((x, k) :: L)) → Q b { s with heap := h' }) :
    wpAny (model P w) A (setAddHashed a (.ref x) (thash P w k)) Q E s := by
  obtain ⟨o, ho, hex, hd⟩ := R.ob
  have hsl := R.size
  have hroom := R.room
  unfold setAddHashed
  refine wpAny_holding ?_
  rw [show (100000 : Nat) = 99999 + 1 from rfl, setAddHashedIn_succ]
  refine wpAny_bind (wpAny_setState_of ho hd R.fits ?_)
  dsimp only
  refine wp_if_neg (by simp [byScan, Value.scannable]) ?_
  try refine wpAny_bind (wpAny_pure ?_)
  refine wpAny_bind (seek_atG R hx hu (fun hm => ?_) fun K hm hK hb => ?_)
  · dsimp only
    exact wpAny_pure (hQ false s.heap L es ep t (Heap.SameBut.refl a s.heap) R (fun _ => rfl) fun z => absurd hm z)
  · dsimp only
    refine wpAny_bind (wpAny_setState_of ho hd R.fits ?_)
    dsimp only
    obtain ⟨hph, q3, q9⟩ := R.tab.put hK hb rfl
    have q1 : (t.put (way t.mask (thash P w k) K)).2 = SetTable.below t.place (way t.mask (thash P w k) K) := rfl
    have q4 : (t.put (way t.mask (thash P w k) K)).1.mask = t.mask := rfl
    have q5 : (t.put (way t.mask (thash P w k) K)).1.led = t.led := rfl
    have hp1 : (t.put (way t.mask (thash P w k) K)).1.plain = true := R.plain
    generalize t.put (way t.mask (thash P w k) K) = pt at q1 q3 q4 q5 q9 hp1 ⊢
    obtain ⟨t1, p⟩ := pt
    dsimp only at q1 q3 q4 q5 q9 hp1 ⊢
    rw [← q1] at hph q3
    first
      | (refine wpAny_bind ?_; refine wp_if_pos hp1 ?_; refine hashBy_tup hx ?_)
      | refine wp_if_pos hp1 (wpAny_bind (hashBy_tup hx ?_))
    simp only [if_true]
    have hin : (SetTable.insertAt es p (thash P w k, Value.ref x)).toList = rowsOf P w (L.take p ++ (x, k) :: L.drop p) := by rw [SetTable.toList_insertAt, rows_put, R.rows]
    have pm := put_perm L p (x, k)
    have hhs : hsh P w (L.take p ++ (x, k) :: L.drop p) = (hsh P w L).take p ++ thash P w k :: (hsh P w L).drop p := by
      unfold hsh
      rw [List.map_append, List.map_cons, List.map_take, List.map_drop]
    rw [← hhs] at q3
    have hlen : (L.take p ++ (x, k) :: L.drop p).length = L.length + 1 := pm.length_eq
    have nd1 : ((L.take p ++ (x, k) :: L.drop p).map (·.2)).Nodup := (pm.map (·.2)).nodup_iff.mpr (List.nodup_cons.mpr ⟨hm, R.nd⟩)
    have hes := rows_len hin
    rw [hlen] at hes
    generalize SetTable.insertAt es p (thash P w k, Value.ref x) = es1 at hin hes ⊢
    generalize L.take p ++ (x, k) :: L.drop p = L1 at pm hlen q3 nd1 hin
    refine wpAny_bind (wpAny_storeSet_of ho hd ?_ (by rw [hes, sizeLine_eq]; omega))
    have sb : Heap.SameBut a s.heap (s.heap.update a (Obj.putSet es1 t1)) := Heap.SameBut.update ..
    have ho1 := store_at (es' := es1) (t' := t1) ho hd
    generalize s.heap.update a (Obj.putSet es1 t1) = h1 at sb ho1 ⊢
    have tup1 : ∀ p ∈ L1, IsT P w h1 p.2 p.1 := fun p hp => by
      rcases List.mem_cons.mp (pm.mem_iff.mp hp) with rfl | hp
      · exact isT_same hx ho hd sb
      · exact isT_same (R.tup p hp) ho hd sb
    have ld1 : w.params.followText "set-order" = true ∨ t1.led = true := by rw [q5]; exact R.led
    rw [hsh_len] at q9
    have htf : t1.tooFull = decide ((L.length + 1) * 5 ≥ t.mask * 3) := by
      unfold SetTable.tooFull
      rw [q9, q4]
    by_cases hf : (L.length + 1) * 5 ≥ t.mask * 3
    · have hft : t1.tooFull = true := by rw [htf]; exact decide_eq_true hf
      first
        | (refine wpAny_bind ?_; refine wp_if_pos (by simp [hft]) ?_)
        | (refine wp_if_pos (by simp [hft]) ?_; refine wpAny_bind ?_)
      rw [hsl]
      obtain ⟨M, g1, g2, g3, g4⟩ := grow R.tab.mo hroom hf hfew
      refine relayG (s := { s with heap := h1 }) ho1 ⟨hex.1, hex.2.1, hex.2.2⟩ rfl hin (by rw [q3.sz, hsh_len]) q3.dm (by rw [hlen, q4]; omega) nd1 tup1 hp1 ld1 (by rw [hlen]; exact hfew) g1 g2 g3 (by rw [hlen]; exact g4) ?_
      intro h2 L2 es2 ep2 t2 sb2 R2 pm2
      exact wpAny_pure (hQ true h2 L2 es2 ep2 t2 (sb.trans sb2) R2 (fun z => absurd z hm) fun _ => pm2.trans pm)
    · have hft : t1.tooFull = false := by rw [htf]; exact decide_eq_false hf
      first
        | refine wp_if_neg (by simp [hft]) ?_
        | (refine wpAny_bind ?_; refine wp_if_neg (by simp [hft]) ?_; refine wpAny_pure ?_)
      exact wpAny_pure (hQ true h1 L1 es1 (ep + 1) t1 sb ⟨⟨_, ho1, ⟨hex.1, hex.2.1, hex.2.2⟩, rfl⟩, hin, q3, nd1, tup1, hp1, ld1, by rw [hlen, q4]; omega, by rw [hlen]; exact hfew⟩ (fun z => absurd z hm) fun _ => pm)
end
end Fh
set_option Elab.async false
set_option linter.all false
set_option maxRecDepth 100000
set_option maxHeartbeats 4000000
namespace Fh
open PySem PySem.Spec PyProof.Rows L2 Evl
/-! large sets of tuples: *made of a list* -/
section
variable {P : Program} {w : World} {A : Around} {E : Value → Shared → Prop} {s : Shared}
theorem SetG.keep {h h' : Heap} {a : Addr} {L : List (Addr × List Int)} {es : Array (Int × Value)} {ep : Nat} {t : SetTable} (R : SetG P w h a L es ep t) (ha : ∀ o, h.get? a = some o → h'.get? a = some o) (ht : ∀ p ∈ L, IsT P w h' p.2 p.1) : SetG P w h' a L es ep t := by
  obtain ⟨o, ho, r⟩ := R.ob
  exact ⟨⟨o, ha o ho, r⟩, R.rows, R.tab, R.nd, ht, R.plain, R.led, R.room, R.few⟩
/-- what newly made sets are -/
abbrev nuS (w : World) : Obj := { cls := .type "set", dict := none, data := .set #[] 0 (.fresh 0 0 (!w.params.followText "set-order")) }
theorem freshG {h : Heap} {a : Addr} (ho : h.get? a = some (nuS w)) : SetG P w h a [] #[] 0 (.fresh 0 0 (!w.params.followText "set-order")) where
  ob := ⟨_, ho, ⟨rfl, rfl, rfl⟩, rfl⟩
  rows := rfl
  tab := ⟨List.Pairwise.nil, rfl, rfl, .inl rfl, (fun x hx => nomatch hx), fun i h j hi => nomatch (show (none : Option Int) = some h from hi)⟩
  nd := List.nodup_nil
  tup := (fun p hp => nomatch hp)
  plain := rfl
  led := by
    cases w.params.followText "set-order"
    · exact .inr rfl
    · exact .inl rfl
  room := by
    show 0 * 5 < 7 * 3
    decide
  few := by
    show 0 < 4000
    decide
/-- there is a set at S of what the first i items tell -/
def Has (P : Program) (w : World) (h : Heap) (S : Addr) (ks : List (Addr × List Int)) (i : Nat) : Prop := ∃ L es ep t, SetG P w h S L es ep t ∧ Got ks i L
theorem Has.keep {h h' : Heap} {S : Addr} {ks : List (Addr × List Int)} {i : Nat} (x : Has P w h S ks i) (hS : ∀ o, h.get? S = some o → h'.get? S = some o) (hk : ∀ p ∈ ks, IsT P w h' p.2 p.1) : Has P w h' S ks i := by
  obtain ⟨L, es, ep, t, R, g⟩ := x
  exact ⟨L, es, ep, t, R.keep hS fun p hp => hk p (List.mem_of_mem_take (g.sub p hp)), g⟩
theorem loopG {I : Addr} {fp wr : List Addr} {G : Array GenState → Array GenState → Prop} {n : Nat} {Pv : Nat → Value → Prop} {St : Nat → Shared → Prop} {R : Result → Shared → Prop}
    (W : WalksS P w A.in1 I fp wr G n Pv St) (S : Addr) (hSf : S ∉ fp) (ks : List (Addr × List Int)) (hn : n = ks.length) (hfew : ∀ L : List (Addr × List Int), (∀ p ∈ L, p ∈ ks) → (L.map (·.2)).Nodup → L.length + 1 < 4000) (hval : ∀ i v, Pv i v → ∃ p, ks[i]? = some p ∧ v = .ref p.1)
    (h0 : Heap) (hk : ∀ p ∈ ks, IsT P w h0 p.2 p.1) (hS0 : h0.get? S = none) (hw0 : ∀ b ∈ wr, h0.get? b = none) (hu : A.in1.units < cLine) :
    ∀ (k i : Nat) (s : Shared), n - i = k → i ≤ n → St i s → (∀ b o, h0.get? b = some o → s.heap.get? b = some o) → Has P w s.heap S ks i →
      (∀ s', Moved (S :: wr) G s s' → Has P w s'.heap S ks n → (∀ b o, h0.get? b = some o → s'.heap.get? b = some o) → R (.ok (.ret .none)) s') →
      codeAny (model P w) A (.builtin "set.update.loop" ⟨[.ref S, .ref I], []⟩) R s := by
  have hSw : S ∉ wr := fun h => hSf (W.sub _ h)
  have hsub : ∀ b ∈ wr, b ∈ S :: wr := fun b hb => List.mem_cons_of_mem _ hb
  have kept : ∀ {s s' : Shared}, Moved wr G s s' → (∀ b o, h0.get? b = some o → s.heap.get? b = some o) → ∀ b o, h0.get? b = some o → s'.heap.get? b = some o := fun hm hkp b o e => hm.heap b o (fun hb => by rw [hw0 b hb] at e; cases e) (hkp b o e)
  have tups : ∀ {h : Heap}, (∀ b o, h0.get? b = some o → h.get? b = some o) → ∀ p ∈ ks, IsT P w h p.2 p.1 := fun hh p hp => isT_keep (hk p hp) hh
  intro k
  induction k with
  | zero =>
    intro i s hk' hi hst hkp hHas hR
    obtain rfl : i = n := by omega
    refine codeAny_builtin F.entry_set_update_loop ?_
    rw [Around.under_plainId F.plain_set_update_loop _]
    show wpAny _ A.in1 (pyNext (.ref I) >>= _) _ _ s
    refine wpAny_bind (W.done s _ _ hst fun s' hm => ?_)
    show wpAny _ A.in1 (ret Value.none) _ _ s'
    have hkp' := kept hm hkp
    exact wpAny_pure (hR s' (hm.mono hsub) (hHas.keep (fun o e => hm.heap S o hSw e) (tups hkp')) hkp')
  | succ k ih =>
    intro i s hk' hi hst hkp hHas hR
    have hlt : i < n := by omega
    refine codeAny_builtin F.entry_set_update_loop ?_
    rw [Around.under_plainId F.plain_set_update_loop _]
    show wpAny _ A.in1 (pyNext (.ref I) >>= _) _ _ s
    refine wpAny_bind (W.item i s _ _ hlt hst fun v s' hP hst' hm => ?_)
    obtain ⟨p, hp, rfl⟩ := hval i v hP
    have hkp' := kept hm hkp
    obtain ⟨L, es, ep, t, hS', g⟩ := hHas.keep (fun o e => hm.heap S o hSw e) (tups hkp')
    have hx := tups hkp' p (List.mem_of_getElem? hp)
    show wpAny _ A.in1 (holding [Value.ref p.1] (setAdd S (.ref p.1)) >>= _) _ _ s'
    refine wpAny_bind (wpAny_holding ?_)
    unfold setAdd
    refine wpAny_holding ?_
    refine wpAny_bind (wpAny_pyHash_tuple hu hx ?_)
    refine addG (s := { s' with toks := s'.toks + (p.2.length + 1) }) hS' hx hu (hfew L (fun p hp => List.mem_of_mem_take (g.sub p hp)) hS'.nd) fun b h' L' es' ep' t' hsb hS2 c1 c2 => ?_
    have g' : Got ks (i + 1) L' := by
      by_cases c : p.2 ∈ L.map (·.2)
      · rw [c1 c]
        exact g.same hp c
      · exact g.more hp (c2 c)
    have hkp2 : ∀ b o, h0.get? b = some o → h'.get? b = some o := fun b o e => (hsb.2 b (fun z => by rw [z, hS0] at e; cases e)).trans (hkp' b o e)
    refine wpAny_pure ⟨plainId_quiet F.plain_set_update_loop _, ih (i + 1) _ (by omega) hlt (W.frame _ s' _ _ hst' (Nat.le_add_right _ _) fun b hb o e => (hsb.2 b fun z => hSf (z ▸ hb)).trans e) hkp2 ⟨L', es', ep', t', hS2, g'⟩ fun s'' hm'' hHas'' hkp'' => ?_⟩
    exact hR s'' (Moved.trans W.gtrans ((hm.mono hsub).then_heap (Nat.le_add_right _ _) fun b o hb e => (hsb.2 b fun z => hb (by rw [z]; exact List.mem_cons_self)).trans e) hm'') hHas'' hkp''
set_option maxHeartbeats 8000000 in
/-- set(xs), xs a list of tuples of whole numbers -/
theorem call_setG {l : Addr} {items : Array Value} (ks : List (Addr × List Int)) {Q : Value → Shared → Prop} (hh : A.handled = none) (hl : s.heap.IsList l items) (hit : items.toList = ks.map fun p => Value.ref p.1)
    (hk : ∀ p ∈ ks, IsT P w s.heap p.2 p.1) (hfew : ∀ L : List (Addr × List Int), (∀ p ∈ L, p ∈ ks) → (L.map (·.2)).Nodup → L.length + 1 < 4000) (hu : A.units + 3 < cLine)
    (h : ∀ (h' : Heap) (tk : Nat), Has P w h' s.heap.objs.size ks ks.length → (∀ b o, s.heap.get? b = some o → h'.get? b = some o) → Q (.ref s.heap.objs.size) { s with heap := h', toks := tk }) :
    wpAny (model P w) A (call (.type "set") [.ref l]) Q E s := by
  have hisz : items.size = ks.length := by
    have q := congrArg List.length hit
    rw [List.length_map] at q
    exact q
  have none_of : ∀ b, s.heap.objs.size ≤ b → s.heap.get? b = none := fun b hb => by
    cases q : s.heap.get? b with
    | none => rfl
    | some o => exact absurd (Heap.lt_size q) (Nat.not_lt.mpr hb)
  have hlS : l < s.heap.objs.size := by
    obtain ⟨o, ho, _⟩ := hl
    exact Heap.lt_size ho
  obtain ⟨c, tl, hmro⟩ := F.called_set.mro
  have hmade := F.called_set.made
  have hsub := F.called_set.sub
  refine wpAny_call (codeAny_of_tree ?_)
  show wpAny _ _ (callAny (.type "set") _) _ _ _
  refine wpAny_pure ⟨Code.quiet_builtin _ (by decide +kernel), codeAny_builtin F.entry_type_call ?_⟩
  rw [Around.under_plain (weight_type_call_type "set" [.ref l] []) rfl]
  have h1 := F.called_set.notType
  have h2 := F.called_set.canCreate
  have hct := F.typeCall_set_1 (.ref l)
  repeat (any_goals (first | assumption | wp_step))
  refine codeAny_mono (code_set_led1 (.ref l) (E := E) (Q₁ := fun obj s₁ => obj = .ref s.heap.objs.size ∧ s₁ = { s with heap := s.heap.push (nuS w) }) ⟨rfl, rfl⟩) fun r s₁ hr => ?_
  cases r with
  | error e => exact hr
  | ok fl =>
    cases fl with
    | ret obj =>
      obtain ⟨rfl, rfl⟩ := hr
      have hS : (s.heap.push (nuS w)).get? s.heap.objs.size = some (nuS w) := Heap.get?_push_size _ rfl
      have hT : Shared.TypeIs { s with heap := s.heap.push (nuS w) } (.ref s.heap.objs.size) "set" := ⟨_, hS, rfl⟩
      have hz1 : (s.heap.push (nuS w)).objs.size = s.heap.objs.size + 1 := Heap.size_push ..
      have hli := F.called_set.init.lookup
      have hbi := F.called_set.init.bind (.ref s.heap.objs.size)
      repeat (any_goals (first | assumption | wp_step))
      refine codeAny_mono (codeAny_call_builtin (R := wants (fun r s₂ => r = .none ∧ ∃ h' tk, s₂ = { s with heap := h', toks := tk } ∧ Has P w h' s.heap.objs.size ks ks.length ∧ (∀ b o, s.heap.get? b = some o → h'.get? b = some o)) E) F.called_set.init.plain F.entry_set_init (check_set_init_1 hT ?_)) fun r₂ s₂ hr₂ => ?_
      · obtain ⟨ol, hol, hcl, nl, hdl⟩ := hl
        obtain ⟨ocls, odict, odata, oslots⟩ := ol
        simp only at hcl hdl
        subst hcl; subst hdl
        have hol' : (s.heap.push (nuS w)).get? l = some { cls := .type "list", dict := odict, data := .seq items nl, slots := oslots } := Heap.get?_push_of_some _ hol
        have hsls := F.sub_list_set
        have hslf := F.sub_list_frozenset
        have hne : (Value.type "list" == Value.type "dict") = false := by decide
        have hl1 : (s.heap.push (nuS w)).IsList l items := ⟨_, hol', rfl, nl, rfl⟩
        unfold Builtin.«set.__init__» noKeywords Builtin.Frozenset.updateFrom
        generalize hPI : pyIter = PI
        wp_walk
        subst hPI
        refine wpAny_pyIter_list hl1 ?_
        refine wpAny_bind (wpAny_runValue ?_)
        have hh3 : A.in1.in1.in1.handled = none := by simp [hh]
        have hneI : l ≠ (s.heap.push (nuS w)).objs.size := by rw [hz1]; exact Nat.ne_of_lt (Nat.lt_succ_of_lt hlS)
        have hSf : s.heap.objs.size ∉ [(s.heap.push (nuS w)).objs.size, l] := by
          rw [hz1]
          simp only [List.mem_cons, List.not_mem_nil, or_false, not_or]
          exact ⟨Nat.ne_of_lt (Nat.lt_succ_self _), Nat.ne_of_gt hlS⟩
        have hval : ∀ (i : Nat) (v : Value), items[i]? = some v → ∃ p, ks[i]? = some p ∧ v = .ref p.1 := fun i v hv => by
          have q : items.toList[i]? = some v := by rw [Array.getElem?_toList]; exact hv
          rw [hit, List.getElem?_map] at q
          cases hq : ks[i]? with
          | none => rw [hq] at q; cases q
          | some p =>
            rw [hq] at q
            exact ⟨p, rfl, (Option.some.inj q).symm⟩
        refine loopG ((Walks.list hh3 _ l hneI items).toS) s.heap.objs.size hSf ks hisz hfew hval s.heap hk (none_of _ (Nat.le_refl _)) (fun b hb => none_of b (by rw [List.mem_singleton.mp hb, hz1]; exact Nat.le_succ _)) hu (items.size - 0) 0 _ (by omega) (Nat.zero_le _)
          ⟨⟨_, Heap.get?_push_size _ rfl, rfl, rfl⟩, (hl1.push _)⟩ (fun b o e => Heap.get?_push_of_some _ (Heap.get?_push_of_some _ e)) ⟨[], #[], 0, _, freshG (Heap.get?_push_of_some _ hS), Got.zero ks⟩ fun s' hm hHas hkp => ?_
        obtain ⟨h', g2, d', tk', os'⟩ := s'
        have eg : g2 = s.gens := hm.gens
        have ed : d' = s.drawn := hm.drawn
        have eo : os' = s.os := hm.os
        subst eg; subst ed; subst eo
        show wpAny _ _ _ _ _ _
        refine wpAny_pure ?_
        show wpAny _ _ (ret Value.none) _ _ _
        rw [hisz] at hHas
        exact wpAny_pure ⟨rfl, h', tk', rfl, hHas, hkp⟩
      · cases r₂ with
        | error e => exact hr₂
        | ok fl₂ =>
          cases fl₂ with
          | ret r =>
            obtain ⟨rfl, h', tk, rfl, hHas, hk'⟩ := hr₂
            repeat (any_goals (first | assumption | wp_step))
            exact h _ _ hHas hk'
          | _ => exact hr₂.elim
    | _ => exact hr.elim
end
end Fh
set_option Elab.async false
set_option linter.all false
set_option maxRecDepth 100000
set_option maxHeartbeats 4000000
namespace Fh
open PySem PySem.Spec PyProof.Rows L2 Evl
open PySem.W (EachIs AllAlike Sortable dataLe)
/-! large sets of pairs: *sorted* -/
/-- a pair by its two numbers in a list -/
def pr2 (k : List Int) : Int × Int := (k.getD 0 0, k.getD 1 0)
def Two (k : List Int) : Prop := ∃ x y, k = [x, y]
theorem two_pr {k : List Int} (h : Two k) : k = [(pr2 k).1, (pr2 k).2] := by
  obtain ⟨x, y, rfl⟩ := h
  rfl
theorem iiLe_tr {a b c : Int × Int} (h1 : iiLe a b = true) (h2 : iiLe b c = true) : iiLe a c = true := by
  unfold iiLe at *
  rw [decide_eq_true_eq] at *
  omega
theorem iiLe_tot (a b : Int × Int) : (iiLe a b || iiLe b a) = true := by
  unfold iiLe
  rw [Bool.or_eq_true, decide_eq_true_eq, decide_eq_true_eq]
  omega
section
variable {P : Program} {w : World} {A : Around} {E : Value → Shared → Prop} {s : Shared} {a : Addr} {L : List (Addr × List Int)} {es : Array (Int × Value)} {ep : Nat} {t : SetTable}
theorem reads_two {h : Heap} {k : List Int} {b : Addr} (x : IsT P w h k b) (h2 : Two k) : Reads h (.ref b) (iiD (pr2 k)) [] := by
  obtain ⟨o, items, n, ho, hc, hd, hi⟩ := x
  obtain ⟨x, y, rfl⟩ := h2
  have hh : ∀ {vs : List Value}, ItemsAre (intKind P w) [x, y] vs → ReadsAll h vs [.int x, .int y] [] := fun {vs} hi => by
    cases hi with
    | cons h1 t1 =>
      cases t1 with
      | cons h2 t2 =>
        cases t2
        obtain ⟨t, rfl⟩ := Value.isInt_shape h1
        obtain ⟨t', rfl⟩ := Value.isInt_shape h2
        exact .cons (.int x t) (.cons (.int y t') .nil)
  exact .tuple ho hc hd (hh hi)
def encT (q : Addr × List Int) : PyData := iiD (pr2 q.2)
theorem encT_map (L : List (Addr × List Int)) : L.map encT = (L.map fun q => pr2 q.2).map iiD := by
  rw [List.map_map]
  rfl
theorem each_refs : ∀ L : List (Addr × List Int), EachIs (fun (v : Value) (q : Addr × List Int) => v = .ref q.1) (L.map fun q => Value.ref q.1) L
  | [] => .nil
  | q :: L => .cons rfl (each_refs L)
theorem refs_each : ∀ {vs : List Value} {L : List (Addr × List Int)}, EachIs (fun (v : Value) (q : Addr × List Int) => v = .ref q.1) vs L → vs = L.map fun q => Value.ref q.1
  | _, _, .nil => rfl
  | _, _, .cons h t => by rw [h, refs_each t]; rfl
theorem each_reads {h : Heap} {b : Addr} : ∀ {L : List (Addr × List Int)}, (∀ q ∈ L, IsT P w h q.2 q.1 ∧ Two q.2) → EachIs (fun (v : Value) (q : Addr × List Int) => ∃ as, Reads h v (encT q) as ∧ b ∉ as) (L.map fun q => Value.ref q.1) L
  | [], _ => .nil
  | q :: L, hL => .cons ⟨[], reads_two (hL q List.mem_cons_self).1 (hL q List.mem_cons_self).2, List.not_mem_nil⟩ (each_reads fun r hr => hL r (List.mem_cons_of_mem _ hr))
theorem sorted_setG {Q : Value → Shared → Prop} (R : SetG P w s.heap a L es ep t) (hh : A.handled = none) (hu : A.units + 64 < cLine) (h2 : ∀ p ∈ L, Two p.2)
    (hQ : ∀ s' p (out : Array Value) (c : Nat) (L' : List (Addr × List Int)), (∀ b o, s.heap.get? b = some o → s'.heap.get? b = some o) → s'.gens = s.gens → s'.os = s.os → s.heap.objs.size ≤ p →
      s'.heap.get? p = some (seqObj "list" out c) → out.toList = L'.map (fun q => Value.ref q.1) → L'.Perm L → L'.Pairwise (fun q r => iiLe (pr2 q.2) (pr2 r.2) = true) → Q (.ref p) s') :
    wpAny (model P w) A (call (.builtin "sorted") [.ref a]) Q E s := by
  obtain ⟨o, ho, hex, hd⟩ := R.ob
  have hsz := R.size
  have hfew := R.few
  refine Calls.call_function_entry kind_sorted plain_sorted entry_sorted (args_sorted1 _) ?_
  unfold Builtin.«sorted»
  refine wpAny_bind (m := checkCount "sorted" 1 1 _) (wpAny_pure ?_)
  refine wpAny_bind (collect_set (A := A.in1) hh ⟨o, ho, hex.1, hd⟩ R.fits (by unfold scanBound; omega) R.tab.ris R.led fun s1 vs k1 hz g1 o1 pm => ?_)
  have hes : es.toList.map (·.2) = L.map fun q => Value.ref q.1 := by
    rw [R.rows]
    unfold rowsOf
    rw [List.map_map]
    rfl
  rw [hes] at pm
  -- in the order in which the set told them
  obtain ⟨L1, rfl, pL⟩ : ∃ L1 : List (Addr × List Int), vs = L1.map (fun q => Value.ref q.1) ∧ L1.Perm L := by
    clear hQ hz
    have key : ∀ {us vs : List Value}, vs.Perm us → ∀ L : List (Addr × List Int), us = L.map (fun q => Value.ref q.1) → ∃ L1 : List (Addr × List Int), vs = L1.map (fun q => Value.ref q.1) ∧ L1.Perm L := fun {us vs} pm => by
      induction pm with
      | nil =>
        intro L e
        exact ⟨[], rfl, by rw [List.map_eq_nil_iff.mp e.symm]⟩
      | @cons x l1 l2 _ ih =>
        intro L e
        cases L with
        | nil => cases e
        | cons q L =>
          rw [List.map_cons] at e
          injection e with e1 e2
          obtain ⟨M, e3, p⟩ := ih L e2
          exact ⟨q :: M, by rw [e1, e3]; rfl, p.cons q⟩
      | swap x y l =>
        intro L e
        match L, e with
        | [], e => cases e
        | [q], e => cases e
        | q :: r :: L, e =>
          injection e with e1 e
          injection e with e2 e3
          exact ⟨r :: q :: L, by rw [e1, e2, e3]; rfl, .swap q r L⟩
      | trans _ _ ih1 ih2 =>
        intro L e
        obtain ⟨M, e2, p2⟩ := ih2 L e
        obtain ⟨N, e1, p1⟩ := ih1 M e2
        exact ⟨N, e1, p1.trans p2⟩
    exact key pm L rfl
  have l1 : (L1.map fun q => Value.ref q.1).length < 4000 := by rw [List.length_map, pL.length_eq]; exact hfew
  refine wpAny_bind (wpAny_newList ?_ (by rw [sizeLine_eq]; omega))
  have hoL : (s1.heap.push (seqObj "list" (L1.map fun q => Value.ref q.1).toArray 0)).get? s1.heap.objs.size = some (seqObj "list" (L1.map fun q => Value.ref q.1).toArray 0) := Heap.get?_push_size _ rfl
  have tk : ∀ q ∈ L1, IsT P w (s1.heap.push (seqObj "list" (L1.map fun q => Value.ref q.1).toArray 0)) q.2 q.1 ∧ Two q.2 := fun q hq => ⟨isT_keep (R.tup q (pL.mem_iff.mp hq)) fun b u e => Heap.get?_push_of_some _ (k1 b u e), h2 q (pL.mem_iff.mp hq)⟩
  refine wpAny_bind (wpAny_holding (PySem.W.list_sort_data (s := { s1 with heap := s1.heap.push (seqObj "list" (L1.map fun q => Value.ref q.1).toArray 0) }) (bs := L1) (enc := encT) (R := fun v q => v = .ref q.1) hoL (each_refs L1) (each_reads tk) (by rw [encT_map]; exact ii_alike _) (by rw [encT_map]; exact ii_sortable _) (by rw [List.length_map] at l1; rw [sizeLine_eq]; omega) (fun b _ => ?_) fun out ho' hout => ?_))
  · have := ii_depth (pr2 b.2)
    have hin : A.in1.units = A.units + 1 := rfl
    show _ + 1 + (iiD (pr2 b.2)).depth < cLine
    omega
  · have eo := refs_each hout
    subst eo
    obtain ⟨c, hc⟩ := sortedHeap_at (vs := L1.map fun q => Value.ref q.1) (out := ((L1.mergeSort (dataLe false encT)).map fun q => Value.ref q.1).toArray) hoL
    have ed : dataLe false encT = fun q r => iiLe (pr2 q.2) (pr2 r.2) := by
      have := ii_le
      funext q r
      exact congrFun (congrFun this (pr2 q.2)) (pr2 r.2)
    have pw : (L1.mergeSort (dataLe false encT)).Pairwise fun q r => iiLe (pr2 q.2) (pr2 r.2) = true := by
      rw [ed]
      exact List.pairwise_mergeSort (le := fun q r => iiLe (pr2 q.2) (pr2 r.2)) (fun a b c => iiLe_tr) (fun a b => iiLe_tot _ _) L1
    refine wpAny_pure ⟨_, rfl, hQ _ s1.heap.objs.size _ c (L1.mergeSort (dataLe false encT)) (fun b u e => ?_) g1 o1 hz hc rfl ((List.mergeSort_perm _ _).trans pL) pw⟩
    have q := k1 b u e
    have hlt := Heap.lt_size q
    show (sortedHeap (s1.heap.push (seqObj "list" (L1.map fun q => Value.ref q.1).toArray 0)) s1.heap.objs.size (L1.map fun q => Value.ref q.1) _).get? b = some u
    rw [sortedHeap_old (Nat.ne_of_lt hlt) (by rw [size_push']; exact Nat.lt_succ_of_lt hlt)]
    exact Heap.get?_push_of_some _ q
end
end Fh
set_option Elab.async false
set_option linter.all false
set_option maxRecDepth 100000
set_option maxHeartbeats 4000000
namespace Fh
open PySem PySem.Spec PyProof.Rows L2 Evl
/-! sorted(set(xs)), xs *pairs of numbers* -/
structure SetG0 (P : Program) (w : World) (h : Heap) (a : Addr) (L : List (Addr × List Int)) : Prop where
  ex : ∃ (es : Array (Int × Value)) (ep : Nat) (t : SetTable), (∃ o, h.get? a = some o ∧ o.ExactSet ∧ o.data = .set es ep t) ∧ es.toList = rowsOf P w L ∧ TbG t (hsh P w L) ∧ (L.map (·.2)).Nodup ∧ t.plain = true ∧
    (w.params.followText "set-order" = true ∨ t.led = true) ∧ L.length * 5 < t.mask * 3 ∧ L.length < 4000
def SetGO (P : Program) (w : World) (a : Addr) (L : List (Addr × List Int)) : HO := .ext fun h => SetG0 P w h a L
section
variable {P : Program} {w : World} {h : Heap} {a : Addr} {L : List (Addr × List Int)} {es : Array (Int × Value)} {ep : Nat} {t : SetTable}
theorem SetG.g0 (R : SetG P w h a L es ep t) : SetG0 P w h a L := ⟨es, ep, t, R.ob, R.rows, R.tab, R.nd, R.plain, R.led, R.room, R.few⟩
theorem SetG0.full (R : SetG0 P w h a L) (ht : ∀ p ∈ L, IsT P w h p.2 p.1) : ∃ es ep t, SetG P w h a L es ep t := by
  obtain ⟨es, ep, t, h1, h2, h3, h4, h5, h6, h7, h8⟩ := R.ex
  exact ⟨es, ep, t, h1, h2, h3, h4, ht, h5, h6, h7, h8⟩
theorem setGO_new {H : Hp} (R : SetG0 P w h a L) : ObjOk P w H h a (SetGO P w a L) := by
  have ⟨es, ep, t, ⟨o, ho, r⟩, q⟩ := R.ex
  refine ⟨R, ⟨o, ho⟩, fun h1 h2 p k => ?_⟩
  have ⟨es', ep', t', ⟨o', ho', r'⟩, q'⟩ := SetG0.ex p
  exact ⟨es', ep', t', ⟨o', k o' ho', r'⟩, q'⟩
end
section
variable {X : Cx}
def rSetG (K : PySem.W.Frag) (P : Program) (w : World) : List V → Hp → VK → Prop := fun xs H Q => ∃ (l : Addr) (ks : List (Addr × List Int)), xs = [V.ref l] ∧ SqL K H l (ks.map fun p => V.ref p.1) ∧ (∀ p ∈ ks, SqT K H p.1 (p.2.map V.int)) ∧ (∀ L : List (Addr × List Int), (∀ p ∈ L, p ∈ ks) → (L.map (·.2)).Nodup → L.length + 1 < 4000) ∧
  ∀ a L, H a = none → (∀ p ∈ L, p ∈ ks) → (∀ p ∈ ks, p.2 ∈ L.map (·.2)) → (L.map (·.2)).Nodup → Q (.ref a) (upd H a (SetGO P w a L))
theorem cr_setG (hc : X.calm = true) (hu : X.A.units + 64 < cLine) : CallR X (.type "set") (rSetG X.K X.prog X.w) := by
  intro pins s σ H xs us Q I r h
  obtain ⟨l, ks, rfl, hl, hk, hf, q⟩ := h
  rw [Vals.ref1 r]
  obtain ⟨its, rv, pl, hz⟩ := I.list hl
  have hn : H s.heap.objs.size = none := I.hok.fresh (Nat.le_refl _)
  refine call_setG (P := X.prog) (w := X.w) ks (I.ok.hd hc) pl.isList (by simpa using refs_of_vals rv) (fun p hp => I.isT (hk p hp)) hf (by omega) fun h' tk hHas k => ?_
  obtain ⟨L, es, ep, t, R, g⟩ := hHas
  refine ⟨.ref s.heap.objs.size, upd H s.heap.objs.size (SetGO X.prog X.w s.heap.objs.size L), I.laid (t' := tk) k (Nat.le_refl _) (setGO_new R.g0), rfl, q _ L hn (fun p hp => List.mem_of_mem_take (g.sub p hp)) (fun p hp => g.all p (by rw [List.take_length]; exact hp)) R.nd⟩
def rSortedG (K : PySem.W.Frag) (P : Program) (w : World) : List V → Hp → VK → Prop := fun vs H Q => ∃ (a : Addr) (L : List (Addr × List Int)), vs = [V.ref a] ∧ H a = some (SetGO P w a L) ∧ (∀ p ∈ L, SqT K H p.1 (p.2.map V.int) ∧ Two p.2) ∧
  ∀ (L' : List (Addr × List Int)) (p : Addr), L'.Perm L → L'.Pairwise (fun q r => iiLe (pr2 q.2) (pr2 r.2) = true) → H p = none → Q (.ref p) (upd H p (.lst (L'.map fun q => V.ref q.1)))
theorem cr_sortedG (hc : X.calm = true) (hu : X.A.units + 64 < cLine) : CallR X (.builtin "sorted") (rSortedG X.K X.prog X.w) := by
  intro pins s σ H vs us Q I r h
  obtain ⟨a, L, rfl, ha, hk, q⟩ := h
  have R0 : SetG0 X.prog X.w s.heap a L := (I.hok a _ ha).1
  obtain ⟨es, ep, t, R⟩ := R0.full fun p hp => I.isT (hk p hp).1
  rw [Vals.ref1 r]
  refine sorted_setG R (I.ok.hd hc) hu (fun p hp => (hk p hp).2) fun s' p out c L' k g o hp hg hout pm pw => ?_
  have hlen : (L'.map fun q => V.ref q.1).length ≤ sizeLine := by
    have := R.few
    rw [List.length_map, pm.length_eq, sizeLine_eq]
    omega
  have hn : H p = none := I.hok.fresh hp
  have hv : Vals (L'.map fun q => V.ref q.1) out.toList := by rw [hout]; exact vals_of_refs L'
  have J : Inv X pins σ (upd H p (.lst (L'.map fun q => V.ref q.1))) { s with heap := s'.heap, gens := s'.gens, drawn := s'.drawn, toks := s'.toks } :=
    I.call (ch := []) (Un.laid k hp hn) (I.hok.laid k hp ⟨hlen, out.toList, c, hv, hg⟩) (by rw [g]; exact I.bare) (fun _ z => nomatch z)
  have e : s' = { s with heap := s'.heap, gens := s'.gens, drawn := s'.drawn, toks := s'.toks } := by
    cases s'
    cases s
    cases o
    rfl
  rw [e]
  exact ⟨.ref p, _, J, rfl, q L' p pm pw hn⟩
end
/-! ### as a reading -/
theorem nodup_len {α : Type} [DecidableEq α] : ∀ {l m : List α}, l.Nodup → (∀ x ∈ l, x ∈ m) → l.length ≤ m.length
  | [], _, _, _ => Nat.zero_le _
  | x :: l, m, nd, h => by
    have hx := h x List.mem_cons_self
    have := nodup_len (l := l) (m := m.erase x) (List.nodup_cons.mp nd).2 fun y hy => (List.mem_erase_of_ne (fun e : y = x => (List.nodup_cons.mp nd).1 (e ▸ hy))).mpr (h y (List.mem_cons_of_mem _ hy))
    rw [List.length_erase_of_mem hx] at this
    have hp := List.length_pos_of_mem hx
    simp only [List.length_cons]
    omega
def iiLt (p q : Int × Int) : Prop := p.1 < q.1 ∨ (p.1 = q.1 ∧ p.2 < q.2)
theorem ii_uniq {A B : List (Int × Int)} (hA : A.Pairwise iiLt) (hB : B.Pairwise iiLt) (h : ∀ z, z ∈ A ↔ z ∈ B) : A = B := by
  have nd : ∀ {l : List (Int × Int)}, l.Pairwise iiLt → l.Nodup := fun hl => List.Pairwise.imp (fun {a b} hab e => by subst e; unfold iiLt at hab; omega) hl
  have pm : A.Perm B := (List.perm_ext_iff_of_nodup (nd hA) (nd hB)).mpr h
  exact List.Perm.eq_of_pairwise (le := iiLt) (fun a b _ _ h1 h2 => by unfold iiLt at h1 h2; omega) hA hB pm
theorem lt_of_le {A : List (Int × Int)} (h : A.Pairwise fun p q => iiLe p q = true) (nd : A.Nodup) : A.Pairwise iiLt := by
  have := List.Pairwise.and h nd
  refine List.Pairwise.imp (fun {a b} hab => ?_) this
  obtain ⟨h1, h2⟩ := hab
  unfold iiLe at h1
  rw [decide_eq_true_eq] at h1
  unfold iiLt
  rcases h1 with h1 | ⟨h1, h3⟩
  · exact .inl h1
  · refine .inr ⟨h1, ?_⟩
    rcases Int.lt_or_eq_of_le h3 with h | h
    · exact h
    · exact absurd (Prod.ext h1 h) h2
section
variable {K : PySem.W.Frag} {F H H2 : Hp} {ss : List Sl} {te : TE} {ra r : Sl} {Q : VK} {P : Program} {w : World}
theorem RetR.up (e : Ex H H2) (k : RetR K F H r Q) : RetR K F H2 r Q := fun v F' H' g => k v F' H' fun M F0 H0 σ ss S => g M F0 H0 σ ss (S.grow (Gr.of S.fh e))
theorem refs_pairs : ∀ {vs : List V} {ps : List (Int × Int)}, Fh.DpAll K F vs (ps.map iiD) → ∃ ks : List (Addr × List Int), vs = ks.map (fun p => V.ref p.1) ∧ ps = ks.map (fun p => pr2 p.2) ∧ ∀ p ∈ ks, SqT K F p.1 (p.2.map V.int) ∧ Two p.2
  | _, [], h => by
    have h' : Fh.DpAll K F _ [] := h
    cases h'
    exact ⟨[], rfl, rfl, fun p hp => nomatch hp⟩
  | _, (x, y) :: ps, h => by
    have h' : Fh.DpAll K F _ (iiD (x, y) :: ps.map iiD) := h
    cases h' with
    | cons h1 h2 =>
      obtain ⟨ks, rfl, rfl, h3⟩ := refs_pairs h2
      cases h1 with
      | tup sq da =>
        rename_i a xs
        cases da with
        | cons d1 da =>
          cases da with
          | cons d2 da =>
            cases da
            cases d1
            cases d2
            refine ⟨(a, [x, y]) :: ks, rfl, rfl, fun p hp => ?_⟩
            rcases List.mem_cons.mp hp with rfl | hp
            · exact ⟨sq, x, y, rfl⟩
            · exact h3 p hp
theorem pairs_refs : ∀ {L : List (Addr × List Int)}, (∀ p ∈ L, SqT K F p.1 (p.2.map V.int) ∧ Two p.2) → Fh.DpAll K F (L.map fun p => V.ref p.1) ((L.map fun p => pr2 p.2).map iiD)
  | [], _ => .nil
  | p :: L, h => by
    obtain ⟨h1, x, y, h2⟩ := h p List.mem_cons_self
    rw [h2] at h1
    refine .cons ?_ (pairs_refs fun q hq => h q (List.mem_cons_of_mem _ hq))
    show Fh.Dp K F (V.ref p.1) (iiD (pr2 p.2))
    rw [h2]
    exact .tup h1 (.cons (.int x) (.cons (.int y) .nil))
theorem ev_sortedSet {ps zs : List (Int × Int)} (ha : EvR K te ss ra) (va : vw ss ra = some (.list (ps.map iiD))) (hl : zs.length < 3999) (h1 : zs.Pairwise iiLt) (h2 : ∀ z, z ∈ zs ↔ z ∈ ps) :
    EvR K (tCB (rSortedG K P w) (tCons (tCB (rSetG K P w) (tCons te tNil)) tNil)) ss (.ls (zs.map iiD)) := fun M F0 H0 F H σ xs ts l S Q q => by
  refine ha M F0 H0 F H σ xs ts l S _ fun v F1 H1 g1 n1 S1 => ?_
  obtain ⟨lp, vs, rfl, sq, da⟩ := (S1.lastV S.len2 va).lst S1.fh
  obtain ⟨ks, rfl, rfl, hks⟩ := refs_pairs da
  have few : ∀ L : List (Addr × List Int), (∀ p ∈ L, p ∈ ks) → (L.map (·.2)).Nodup → L.length + 1 < 4000 := fun L hs hnd => by
    have n2 : (L.map fun p => pr2 p.2).Nodup := by
      refine List.pairwise_map.mpr (List.Pairwise.imp_of_mem (fun {p q} hp hq hne e => hne ?_) (List.pairwise_map.mp hnd))
      rw [two_pr (hks p (hs p hp)).2, two_pr (hks q (hs q hq)).2, e]
    have := nodup_len n2 (m := zs) fun z hz => by
      obtain ⟨p, hp, rfl⟩ := List.mem_map.mp hz
      exact (h2 _).mpr (List.mem_map.mpr ⟨p, hs p hp, rfl⟩)
    rw [List.length_map] at this
    omega
  have sqH : ∀ p ∈ ks, SqT K H1 p.1 (p.2.map V.int) := fun p hp => sqT_ex S1.fh (hks p hp).1
  refine ⟨lp, ks, rfl, sq, sqH, few, fun a L hna hL1 hL2 hnd => ?_⟩
  have e2 : Ex H1 (upd H1 a (SetGO P w a L)) := Ex.new hna
  have ht : ∀ p ∈ L, SqT K F1 p.1 (p.2.map V.int) ∧ Two p.2 := fun p hp => hks p (hL1 p hp)
  refine ⟨a, L, rfl, upd_same, fun p hp => ⟨sqT_ex (S1.fh.trans e2) (ht p hp).1, (ht p hp).2⟩, fun L' p hpm hpw hnp => ?_⟩
  have ez : zs = L'.map fun p => pr2 p.2 := by
    have hnd2 : (L'.map fun p => pr2 p.2).Nodup := by
      have hk2 : (L'.map (·.2)).Nodup := (hpm.map (·.2)).nodup_iff.mpr hnd
      refine List.pairwise_map.mpr (List.Pairwise.imp_of_mem (fun {p q} hp hq hne e => hne ?_) (List.pairwise_map.mp hk2))
      rw [two_pr (ht p (hpm.mem_iff.mp hp)).2, two_pr (ht q (hpm.mem_iff.mp hq)).2, e]
    refine ii_uniq h1 (lt_of_le (List.pairwise_map.mpr hpw) hnd2) fun z => (h2 z).trans ⟨fun hz => ?_, fun hz => ?_⟩
    · obtain ⟨p, hp, rfl⟩ := List.mem_map.mp hz
      obtain ⟨p2, hp2, e⟩ := List.mem_map.mp (hL2 p hp)
      exact List.mem_map.mpr ⟨p2, hpm.mem_iff.mpr hp2, by rw [e]⟩
    · obtain ⟨p, hp, rfl⟩ := List.mem_map.mp hz
      exact List.mem_map.mpr ⟨p, hL1 p (hpm.mem_iff.mp hp), rfl⟩
  rw [ez] at q
  exact ((RetR.mk g1 (S1.back S.len2) q).up e2).lst (pairs_refs fun p hp => ht p (hpm.mem_iff.mp hp)) hnp
end
end Fh
set_option Elab.async false
set_option linter.all false
set_option maxRecDepth 100000
set_option maxHeartbeats 4000000
namespace Fh
open PySem PySem.Spec PyProof.Rows L2 Evl
open PySem.W (EachIs AllAlike Sortable dataLe)
/-! dicts keyed by pairs of numbers *however the pairs came* -/
abbrev IK (P : Program) (w : World) := tupleKind (intKind P w)
abbrev Ent := List Int × Addr × Value
/-- the dict at a, without its keys' tuples -/
structure PD0 (P : Program) (w : World) (h : Heap) (a : Addr) (xs : List Ent) : Prop where
  ex : (a == sysModules) = false ∧ ∃ o es ep, h.get? a = some o ∧ o.ExactDict ∧ o.data = .dict es ep ∧ es.toList = xs.map (entryOfKey (IK P w)) ∧ (xs.map (·.1)).Nodup
def PDO (P : Program) (w : World) (a : Addr) (xs : List Ent) : HO := .ext fun h => PD0 P w h a xs
section
variable {P : Program} {w : World} {h : Heap} {a : Addr} {xs : List Ent}
theorem PD0.full (R : PD0 P w h a xs) (ht : ∀ x ∈ xs, IsT P w h x.1 x.2.1) : h.DictOfH (IK P w) a xs := by
  obtain ⟨_, o, es, ep, h1, h2, h3, h4, h5⟩ := R.ex
  exact ⟨o, es, ep, h1, h2, h3, h4, ht, h5⟩
theorem PD0.of (hm : (a == sysModules) = false) (d : h.DictOfH (IK P w) a xs) : PD0 P w h a xs := by
  obtain ⟨o, es, ep, h1, h2, h3, h4, _, h5⟩ := d
  exact ⟨hm, o, es, ep, h1, h2, h3, h4, h5⟩
theorem pdo_new {H : Hp} (R : PD0 P w h a xs) : ObjOk P w H h a (PDO P w a xs) := by
  have ⟨hm, o, es, ep, ho, r⟩ := R.ex
  refine ⟨R, ⟨o, ho⟩, fun h1 h2 p k => ?_⟩
  have ⟨hm', o', es', ep', ho', r'⟩ := PD0.ex p
  exact ⟨hm', o', es', ep', k o' ho', r'⟩
end
section
variable {X : Cx} {pos pos' : Pos} {o i value : Expr} {td ty tv : TE}
/-- {} -/
def tDNewP (P : Program) (w : World) : TE := fun _ H Q => ∀ p, H p = none → Q (.ref p) (upd H p (PDO P w p []))
theorem pe_dnewP : PE X (.Dict [] [] pos) (tDNewP X.prog X.w) := ⟨fun pins s σ H Q I h =>
  wpAny_Dict_empty ⟨.ref s.heap.objs.size, _, I.laid (a := s.heap.objs.size) (o := PDO X.prog X.w s.heap.objs.size []) (t' := s.toks) (fun _ _ q => Heap.get?_push_of_some _ q) (Nat.le_refl _) (pdo_new ⟨beq_eq_false_iff_ne.mpr (Ne.symm (Nat.ne_of_lt I.big)), _, #[], 0, Heap.get?_push_size _ rfl, ⟨rfl, rfl, rfl⟩, rfl, rfl, List.nodup_nil⟩), rfl, h _ (I.hok.fresh (Nat.le_refl _))⟩⟩
/-- d[k] = True -/
def sDPutP (K : PySem.W.Frag) (P : Program) (w : World) (td ty tv : TE) : TS := fun D σ H => tv σ H fun v H1 => td σ H1 fun x H2 => ty σ H2 fun y H3 => ∃ (a b : Addr) (xs : List Ent) (k : List Int), v = .bl true ∧ x = .ref a ∧ y = .ref b ∧ H3 a = some (PDO P w a xs) ∧ (∀ x ∈ xs, SqT K H3 x.2.1 (x.1.map V.int)) ∧ SqT K H3 b (k.map V.int) ∧ xs.length < sizeLine ∧
  D.nx σ (upd H3 a (PDO P w a (storedH xs k b (.bool true))))
theorem ps_dputP (hu : X.A.units + 1 < cLine) (ho : PE X o td) (hi : PE X i ty) (hv : PE X value tv) (hs : swapsWith value (some (.Subscript o i pos')) pos.line X.env = pure false) :
    PS X (.Assign [.Subscript o i pos'] value pos) (sDPutP X.K X.prog X.w td ty tv) := by
  refine ⟨fun pins s σ H D I h => ?_⟩
  refine wpAny_Assign_Subscript (thn (hv.run pins s σ H _ I h) fun r s1 ⟨v, H1, I1, rv, q1⟩ => thn (ho.run pins s1 σ H1 _ I1 q1) fun u s2 ⟨x, H2, I2, rx, q2⟩ => thn (hi.run pins s2 σ H2 _ I2 q2) fun iv s3 ⟨y, H3, I3, ry, q3⟩ => ?_) hs
  obtain ⟨a, b, xs, k, rfl, rfl, rfl, e, ht, hk, hl, q⟩ := q3
  cases rv
  cases rx
  cases ry
  have R : PD0 X.prog X.w s3.heap a xs := (I3.hok a _ e).1
  refine wpAny_setItem_heap (knd := IK X.prog X.w) (k := k) (tupleKind_room_in1 hu) (I3.isT hk) (R.full fun x hx => I3.isT (ht x hx)) (hsz := Nat.le_of_lt hl) fun h' dd' hs' => ?_
  have ⟨o, es, ep, ho', _⟩ := dd'
  exact ⟨σ, _, d_write I3 (by rw [e]; exact True.intro) hs' ⟨o, ho'⟩ (pdo_new (PD0.of R.ex.1 dd')), q⟩
/-- sorted(d) -/
def rSortedP (K : PySem.W.Frag) (P : Program) (w : World) : List V → Hp → VK → Prop := fun vs H Q => ∃ (a : Addr) (xs : List Ent), vs = [.ref a] ∧ H a = some (PDO P w a xs) ∧ (∀ x ∈ xs, SqT K H x.2.1 (x.1.map V.int) ∧ Two x.1) ∧ xs.length < sizeLine ∧
  ∀ (L : List (Addr × List Int)) (p : Addr), L.Perm (xs.map fun x => (x.2.1, x.1)) → (L.map (·.2)).Nodup → L.Pairwise (fun q r => iiLe (pr2 q.2) (pr2 r.2) = true) → H p = none → Q (.ref p) (upd H p (.lst (L.map fun q => V.ref q.1)))
theorem cr_sortedP (hc : X.calm = true) (hu : X.A.units + 64 < cLine) : CallR X (.builtin "sorted") (rSortedP X.K X.prog X.w) := by
  intro pins s σ H vs us Q I r h
  obtain ⟨a, xs, rfl, ha, hk, hl, q⟩ := h
  rw [Vals.ref1 r]
  have R : PD0 X.prog X.w s.heap a xs := (I.hok a _ ha).1
  obtain ⟨hsm, o, es, ep, ho, hx, hd, hes, hnd⟩ := R.ex
  have hsz : es.size = xs.length := size_of_entries hes
  have raw := kdl_raw (prog := X.prog) (w := X.w) hsm hx hd
  refine Calls.call_function_entry kind_sorted plain_sorted entry_sorted (args_sorted1 _) ?_
  unfold Builtin.«sorted»
  refine wpAny_bind (m := checkCount "sorted" 1 1 _) (wpAny_pure ?_)
  refine wpAny_bind (PySem.W.kdu_collect (A := X.A.in1) raw (I.ok.hd hc) ho (by rw [hsz]; exact Nat.le_of_lt hl) fun h' tk acc hkp hacc => ?_)
  obtain ⟨L0, hL0e⟩ : ∃ L0 : List (Addr × List Int), L0 = xs.map fun x => (x.2.1, x.1) := ⟨_, rfl⟩
  have eL : acc.toList = L0.map fun q => Value.ref q.1 := by
    rw [hL0e]
    refine List.ext_getElem? fun j => ?_
    show acc.toList[j]? = ((xs.map fun x => ((x.2.1, x.1) : Addr × List Int)).map fun q => Value.ref q.1)[j]?
    rw [List.map_map, List.getElem?_map]
    have hal : acc.toList.length = xs.length := by rw [Array.length_toList, hacc.1, hsz]
    cases hj : acc.toList[j]? with
    | none => rw [List.getElem?_eq_none (by have := List.getElem?_eq_none_iff.mp hj; omega)]; rfl
    | some v =>
      obtain ⟨en, hen, hv⟩ := hacc.2 j v (by rw [← Array.getElem?_toList]; exact hj)
      have qe := entry_at hes j
      rw [hen] at qe
      cases hb : xs[j]? with
      | none => rw [hb] at qe; cases qe
      | some x =>
        rw [hb] at qe
        have e2 : en = entryOfKey (IK X.prog X.w) x := Option.some.inj qe
        rw [hv, e2]
        rfl
  have hTw : ∀ q ∈ L0, IsT X.prog X.w s.heap q.2 q.1 ∧ Two q.2 := fun q hq => by
    rw [hL0e] at hq
    obtain ⟨x, hx', rfl⟩ := List.mem_map.mp hq
    exact ⟨I.isT (hk x hx').1, (hk x hx').2⟩
  have hL0 : L0.length = xs.length := by rw [hL0e]; exact List.length_map _
  have hndL : (L0.map (·.2)).Nodup := by
    have : L0.map (·.2) = xs.map (·.1) := by rw [hL0e, List.map_map]; rfl
    rw [this]
    exact hnd
  show wpAny _ _ _ _ _ _
  rw [eL]
  refine wpAny_bind (wpAny_newList ?_ (by rw [List.length_map, hL0]; exact Nat.le_of_lt hl))
  have hoL : (h'.push (seqObj "list" (L0.map fun q => Value.ref q.1).toArray 0)).get? h'.objs.size = some (seqObj "list" (L0.map fun q => Value.ref q.1).toArray 0) := Heap.get?_push_size _ rfl
  have tk2 : ∀ q ∈ L0, IsT X.prog X.w (h'.push (seqObj "list" (L0.map fun q => Value.ref q.1).toArray 0)) q.2 q.1 ∧ Two q.2 := fun q hq => ⟨isT_keep (hTw q hq).1 fun b u e => Heap.get?_push_of_some _ (hkp b u e), (hTw q hq).2⟩
  refine wpAny_bind (wpAny_holding (PySem.W.list_sort_data (s := { s with heap := h'.push (seqObj "list" (L0.map fun q => Value.ref q.1).toArray 0), toks := tk }) (bs := L0) (enc := encT) (R := fun v q => v = .ref q.1) hoL (each_refs L0) (each_reads tk2) (by rw [encT_map]; exact ii_alike _) (by rw [encT_map]; exact ii_sortable _) (by rw [hL0]; exact Nat.le_of_lt hl) (fun b _ => ?_) fun out ho' hout => ?_))
  · have := ii_depth (pr2 b.2)
    show X.A.units + 1 + 1 + (iiD (pr2 b.2)).depth < cLine
    omega
  · have eo := refs_each hout
    subst eo
    have ed : dataLe false encT = fun q r => iiLe (pr2 q.2) (pr2 r.2) := by
      have := ii_le
      funext q r
      exact congrFun (congrFun this (pr2 q.2)) (pr2 r.2)
    have pw : (L0.mergeSort (dataLe false encT)).Pairwise fun q r => iiLe (pr2 q.2) (pr2 r.2) = true := by
      rw [ed]
      exact List.pairwise_mergeSort (le := fun q r => iiLe (pr2 q.2) (pr2 r.2)) (fun a b c => iiLe_tr) (fun a b => iiLe_tot _ _) L0
    have pm := List.mergeSort_perm L0 (dataLe false encT)
    generalize L0.mergeSort (dataLe false encT) = L1 at *
    have pmx : L1.Perm (xs.map fun x => (x.2.1, x.1)) := hL0e ▸ pm
    obtain ⟨c, hcc⟩ := sortedHeap_at (vs := L0.map fun q => Value.ref q.1) (out := (L1.map fun q => Value.ref q.1).toArray) hoL
    have ok1 := I.hok.kept hkp
    have hn : H h'.objs.size = none := ok1.fresh (Nat.le_refl _)
    have kk : ∀ b u, h'.get? b = some u → (sortedHeap (h'.push (seqObj "list" (L0.map fun q => Value.ref q.1).toArray 0)) h'.objs.size (L0.map fun q => Value.ref q.1) (L1.map fun q => Value.ref q.1).toArray).get? b = some u := fun b u q => by
      have hlt := Heap.lt_size q
      rw [sortedHeap_old (Nat.ne_of_lt hlt) (by rw [size_push']; exact Nat.lt_succ_of_lt hlt)]
      exact Heap.get?_push_of_some _ q
    have hlen : (L1.map fun q => V.ref q.1).length ≤ sizeLine := by rw [List.length_map, pm.length_eq, hL0]; exact Nat.le_of_lt hl
    have J : Inv X pins σ (upd H h'.objs.size (.lst (L1.map fun q => V.ref q.1))) { s with heap := sortedHeap (h'.push (seqObj "list" (L0.map fun q => Value.ref q.1).toArray 0)) h'.objs.size (L0.map fun q => Value.ref q.1) (L1.map fun q => Value.ref q.1).toArray, gens := s.gens, drawn := s.drawn, toks := tk } :=
      I.call (ch := []) ((Un.kept hkp).trans (Un.laid kk (Nat.le_refl _) hn)) (ok1.laid kk (Nat.le_refl _) ⟨hlen, L1.map fun q => Value.ref q.1, c, vals_of_refs L1, hcc⟩) I.bare (fun _ z => nomatch z)
    exact wpAny_pure ⟨_, rfl, .ref h'.objs.size, _, J, rfl, q L1 h'.objs.size pmx ((pm.map (·.2)).nodup_iff.mpr hndL) pw hn⟩
end
end Fh
set_option Elab.async false
set_option linter.all false
set_option maxRecDepth 100000
set_option maxHeartbeats 4000000
namespace Fh
open PySem PySem.Spec PyProof.Rows L2 Evl
/-! a dict by pairs, *read as the list of its pairs* -/
def putP (zs : List (Int × Int)) (z : Int × Int) : List (Int × Int) := if z ∈ zs then zs else zs ++ [z]
theorem mem_putP {zs : List (Int × Int)} {z y : Int × Int} : y ∈ putP zs z ↔ y ∈ zs ∨ y = z := by
  unfold putP
  split
  · rename_i h
    constructor
    · exact .inl
    · rintro (h1 | rfl)
      · exact h1
      · exact h
  · rw [List.mem_append, List.mem_singleton]
def zsOf (xs : List Ent) : List (Int × Int) := xs.map fun x => pr2 x.1
theorem two_inj {a b : List Int} (ha : Two a) (hb : Two b) (h : pr2 a = pr2 b) : a = b := by rw [two_pr ha, two_pr hb, h]
theorem zsOf_put {xs : List Ent} {k : List Int} {b : Addr} {v : Value} (ht : ∀ x ∈ xs, Two x.1) (hk : Two k) : zsOf (storedH xs k b v) = putP (zsOf xs) (pr2 k) := by
  have hm : (atKey xs k).isSome = true ↔ pr2 k ∈ zsOf xs := by
    unfold atKey
    rw [Option.isSome_map, List.find?_isSome]
    constructor
    · rintro ⟨x, hx, e⟩
      rw [decide_eq_true_eq] at e
      exact List.mem_map.mpr ⟨x, hx, by rw [e]⟩
    · intro h
      obtain ⟨x, hx, e⟩ := List.mem_map.mp h
      exact ⟨x, hx, decide_eq_true (two_inj (ht x hx) hk e)⟩
  unfold storedH putP
  by_cases c : (atKey xs k).isSome = true
  · rw [if_pos c, if_pos (hm.mp c)]
    unfold zsOf
    rw [List.map_map]
    refine List.map_congr_left fun x _ => ?_
    show pr2 (putAt k v x).1 = _
    unfold putAt
    split <;> rfl
  · rw [if_neg c, if_neg fun h => c (hm.mpr h)]
    unfold zsOf
    rw [List.map_append]
    rfl
def dpM (K : PySem.W.Frag) (P : Program) (w : World) (zs : List (Int × Int)) : Vw := fun F v L => ∃ p xs, v = .ref p ∧ L = [(p, PDO P w p xs)] ∧ (∀ x ∈ xs, SqT K F x.2.1 (x.1.map V.int) ∧ Two x.1) ∧ zsOf xs = zs
section
variable {K : PySem.W.Frag} {M : Addr → Prop} {F0 H0 F H F' H' F2 : Hp} {σ xs gs : L2.St} {ss ts gt : List Sl} {td ty tv : TE} {tz : TS} {Q : VK} {i : Nat} {P : Program} {w : World} {zs zs' : List (Int × Int)} {z : Int × Int} {b : V}
theorem ev_dnewP : EvR K (tDNewP P w) ss (.mu (dpM K P w [])) := fun M F0 H0 F H σ xs ts l S Q q => fun p hp => by
  refine q _ F _ (Gr.newM S.fh hp) trivial ?_
  have S1 := S.push (L1 := [(p, PDO P w p [])]) (v := .ref p) (r := .mu (dpM K P w [])) (H1 := upd H p (PDO P w p [])) (Ex.new hp) ⟨.ref p, last_at, fun F' e => ⟨p, [], rfl, rfl, (fun x hx => nomatch hx), rfl⟩⟩ (fun q o hq => by cases List.mem_singleton.mp hq; exact ⟨upd_same, hp⟩) (by simp)
  rw [List.append_assoc, List.append_assoc] at S1
  exact S1
theorem two_of (h : Fh.Dp K F b (iiD z)) : ∃ (a : Addr) (k : List Int), b = .ref a ∧ SqT K F a (k.map V.int) ∧ Two k ∧ pr2 k = z := by
  obtain ⟨x, y⟩ := z
  cases h with
  | tup sq da =>
    rename_i a xs
    cases da with
    | cons d1 da =>
      cases da with
      | cons d2 da =>
        cases da
        cases d1
        cases d2
        exact ⟨a, [x, y], rfl, sq, ⟨x, y, rfl⟩, rfl⟩
theorem st_putP {D : Ends} (S : Sts K M F0 H0 F H (σ ++ gs) (ss ++ gt)) (l : σ.length = ss.length) (hi : ss[i]? = some (.mu (dpM K P w zs))) (hy : EvR K ty ss (.dt (iiD z))) (hl : zs.length < 1000000)
    (k : ∀ F' H', Sts K M F0 H0 F' H' (σ ++ gs) (ss.set i (.mu (dpM K P w (putP zs z))) ++ gt) → σ.length = (ss.set i (.mu (dpM K P w (putP zs z)))).length → D.nx σ H') : sDPutP K P w (tVar i) ty (tC (.bl true)) D σ H := by
  have hil := (List.getElem?_eq_some_iff.mp hi).1
  have hi' : (ss ++ gt)[i]? = some (.mu (dpM K P w zs)) := by rw [List.getElem?_append_left hil]; exact hi
  obtain ⟨v0, L0, a0, b0, _⟩ := S.muNew hi'
  obtain ⟨d0, xs0, rfl, _⟩ := b0 F (Ex.refl F)
  have a0' := a0
  rw [List.getElem?_append_left (by omega)] at a0'
  refine ⟨_, a0', ?_⟩
  refine hy M F0 H0 F H σ gs gt l S _ fun y F1 H1 g1 n1 S1 => ?_
  have hk : Fh.Dp K F1 y (iiD z) := S1.lastI S.len2 (a := .dt (iiD z)) rfl
  have S2 := S1.back S.len2
  obtain ⟨v, L, a, b, at_, nd, wr⟩ := S2.muNew hi'
  rw [a0] at a
  cases a
  obtain ⟨d, ys, e0, eL, hys, hz⟩ := b F1 (Ex.refl F1)
  cases e0
  obtain ⟨q, kk, rfl, sq, tw, ek⟩ := two_of hk
  have hd := (at_ (d0, PDO P w d0 ys) (by rw [eL]; exact List.mem_cons_self)).1
  have hm : d0 ∈ L.map (·.1) := by rw [eL]; exact List.mem_cons_self
  have hlen : ys.length < sizeLine := by
    have : ys.length = zs.length := by rw [← hz]; exact (List.length_map _).symm
    rw [sizeLine_eq]
    omega
  refine ⟨d0, q, ys, kk, rfl, rfl, rfl, hd, fun x hx => sqT_ex S2.fh (hys x hx).1, sqT_ex S2.fh sq, hlen, ?_⟩
  have ez : zsOf (storedH ys kk q (.bool true)) = putP zs z := by rw [zsOf_put (fun x hx => (hys x hx).2) tw, hz, ek]
  have S3 := wr (upd H1 d0 (PDO P w d0 (storedH ys kk q (.bool true)))) [(d0, PDO P w d0 (storedH ys kk q (.bool true)))] (dpM K P w (putP zs z)) (fun x o hx ho => by rw [upd_ne fun e => hx (by rw [e]; exact hm)]; exact ho) (fun x hx => by
    by_cases e : x = d0
    · rw [e, upd_same]
      exact fun z => nomatch z
    · rw [upd_ne e]
      exact hx) (fun z hz => by cases List.mem_singleton.mp hz; exact ⟨upd_same, .inl hm⟩) (by simp) fun F' e => ⟨d0, _, rfl, rfl, fun x hx => by
      rcases mem_storedH hx with ⟨y, hy, e1, e2⟩ | ⟨e1, e2⟩
      · rw [e1, e2]
        exact ⟨sqT_ex e (hys y hy).1, (hys y hy).2⟩
      · rw [e1, e2]
        exact ⟨sqT_ex e sq, tw⟩, ez⟩
  rw [List.set_append_left _ _ hil] at S3
  exact k F1 _ S3 (by rw [List.length_set, l])
theorem ev_sortedP (hi : ss[i]? = some (.mu (dpM K P w zs))) (hl : zs.length < 1000000) (h1 : zs'.Pairwise iiLt) (h2 : ∀ z, z ∈ zs' ↔ z ∈ zs) :
    EvR K (tCB (rSortedP K P w) (tCons (tVar i) tNil)) ss (.ls (zs'.map iiD)) := fun M F0 H0 F H σ xs ts l S Q q => by
  have hil := (List.getElem?_eq_some_iff.mp hi).1
  obtain ⟨v, L, a, b, at_, nd, wr⟩ := S.muNew (i := i) (by rw [List.getElem?_append_left hil]; exact hi)
  obtain ⟨d, ys, rfl, eL, hys, hz⟩ := b F (Ex.refl F)
  rw [List.getElem?_append_left (by omega)] at a
  have hd := (at_ (d, PDO P w d ys) (by rw [eL]; exact List.mem_cons_self)).1
  have hlen : ys.length < sizeLine := by
    have : ys.length = zs.length := by rw [← hz]; exact (List.length_map _).symm
    rw [sizeLine_eq]
    omega
  refine ⟨_, a, d, ys, rfl, hd, fun x hx => ⟨sqT_ex S.fh (hys x hx).1, (hys x hx).2⟩, hlen, fun L' p pm pn pw hp => ?_⟩
  have ht : ∀ q ∈ L', SqT K F q.1 (q.2.map V.int) ∧ Two q.2 := fun q hq => by
    obtain ⟨x, hx, rfl⟩ := List.mem_map.mp (pm.mem_iff.mp hq)
    exact hys x hx
  have ez : zs' = L'.map fun p => pr2 p.2 := by
    have hnd2 : (L'.map fun p => pr2 p.2).Nodup := by
      refine List.pairwise_map.mpr (List.Pairwise.imp_of_mem (fun {p q} hp hq hne e => hne ?_) (List.pairwise_map.mp pn))
      exact two_inj (ht p hp).2 (ht q hq).2 e
    refine ii_uniq h1 (lt_of_le (List.pairwise_map.mpr pw) hnd2) fun z => (h2 z).trans ?_
    rw [← hz]
    constructor
    · intro h
      obtain ⟨x, hx, rfl⟩ := List.mem_map.mp h
      exact List.mem_map.mpr ⟨(x.2.1, x.1), pm.mem_iff.mpr (List.mem_map.mpr ⟨x, hx, rfl⟩), rfl⟩
    · intro h
      obtain ⟨q, hq, rfl⟩ := List.mem_map.mp h
      obtain ⟨x, hx, rfl⟩ := List.mem_map.mp (pm.mem_iff.mp hq)
      exact List.mem_map.mpr ⟨x, hx, rfl⟩
  rw [ez] at q
  exact (RetR.mk (Gr.refl S.fh) S q).lst (pairs_refs ht) hp
end
end Fh
set_option Elab.async false
set_option linter.all false
set_option maxRecDepth 100000
set_option maxHeartbeats 4000000
namespace Fh
open PySem PySem.Spec PyProof.Rows L2 Evl
/-! spans of questions, *plain* -/
instance {p q : Int × Int} : Decidable (iiLt p q) := by unfold iiLt; infer_instance
def insP (z : Int × Int) : List (Int × Int) → List (Int × Int)
  | [] => [z]
  | y :: l => if z = y then y :: l else if iiLt z y then z :: y :: l else y :: insP z l
def srt (ps : List (Int × Int)) : List (Int × Int) := ps.foldr insP []
theorem iiLt_tr {a b c : Int × Int} (h1 : iiLt a b) (h2 : iiLt b c) : iiLt a c := by unfold iiLt at *; omega
theorem iiLt_tri {a b : Int × Int} (h1 : a ≠ b) (h2 : ¬ iiLt a b) : iiLt b a := by
  unfold iiLt at *
  have : ¬ (a.1 = b.1 ∧ a.2 = b.2) := fun ⟨e1, e2⟩ => h1 (Prod.ext e1 e2)
  omega
theorem mem_insP {x z : Int × Int} : ∀ {l : List (Int × Int)}, x ∈ insP z l ↔ x = z ∨ x ∈ l
  | [] => by simp [insP]
  | y :: l => by
    unfold insP
    split
    · rename_i h
      subst h
      simp
    · split
      · simp
      · rw [List.mem_cons, mem_insP (l := l), List.mem_cons]
        constructor
        · rintro (h | h | h)
          · exact .inr (.inl h)
          · exact .inl h
          · exact .inr (.inr h)
        · rintro (h | h | h)
          · exact .inr (.inl h)
          · exact .inl h
          · exact .inr (.inr h)
theorem insP_pw {z : Int × Int} : ∀ {l : List (Int × Int)}, l.Pairwise iiLt → (insP z l).Pairwise iiLt
  | [], _ => List.pairwise_singleton _ _
  | y :: l, h => by
    obtain ⟨h1, h2⟩ := List.pairwise_cons.mp h
    unfold insP
    split
    · exact h
    · rename_i ne
      split
      · rename_i lt
        refine List.pairwise_cons.mpr ⟨fun x hx => ?_, h⟩
        rcases List.mem_cons.mp hx with rfl | hx
        · exact lt
        · exact iiLt_tr lt (h1 x hx)
      · rename_i nl
        refine List.pairwise_cons.mpr ⟨fun x hx => ?_, insP_pw h2⟩
        rcases mem_insP.mp hx with rfl | hx
        · exact iiLt_tri ne nl
        · exact h1 x hx
theorem srt_pw : ∀ ps : List (Int × Int), (srt ps).Pairwise iiLt
  | [] => .nil
  | p :: ps => insP_pw (srt_pw ps)
theorem mem_srt {z : Int × Int} : ∀ {ps : List (Int × Int)}, z ∈ srt ps ↔ z ∈ ps
  | [] => Iff.rfl
  | p :: ps => by
    show z ∈ insP p (srt ps) ↔ _
    rw [mem_insP, mem_srt, List.mem_cons]
def gotZ (f : Nat → Option (Int × Int)) (n : Nat) : List (Int × Int) := (List.range n).filterMap f
theorem mem_gotZ {f : Nat → Option (Int × Int)} {n : Nat} {z : Int × Int} : z ∈ gotZ f n ↔ ∃ k, k < n ∧ f k = some z := by
  unfold gotZ
  rw [List.mem_filterMap]
  constructor
  · rintro ⟨k, hk, e⟩
    exact ⟨k, List.mem_range.mp hk, e⟩
  · rintro ⟨k, hk, e⟩
    exact ⟨k, List.mem_range.mpr hk, e⟩
theorem gotZ_succ (f : Nat → Option (Int × Int)) (n : Nat) : gotZ f (n + 1) = gotZ f n ++ (f n).toList := by
  unfold gotZ
  rw [List.range_succ, List.filterMap_append]
  cases e : f n <;> simp [e]
theorem gotZ_len (f : Nat → Option (Int × Int)) (n : Nat) : (gotZ f n).length ≤ n := by
  have h := List.length_filterMap_le f (List.range n)
  rwa [List.length_range] at h
theorem gotZ_pw {f : Nat → Option (Int × Int)} (hf : ∀ k z, f k = some z → z.1 = (k : Int)) : ∀ n, (gotZ f n).Pairwise iiLt
  | 0 => .nil
  | n + 1 => by
    rw [gotZ_succ]
    refine List.pairwise_append.mpr ⟨gotZ_pw hf n, ?_, fun a ha b hb => ?_⟩
    · cases f n with
      | none => exact .nil
      | some z => exact List.pairwise_singleton _ _
    · obtain ⟨k, hk, e⟩ := mem_gotZ.mp ha
      cases e2 : f n with
      | none => rw [e2] at hb; cases hb
      | some z =>
        rw [e2] at hb
        have hz : b = z := by simpa using hb
        subst hz
        have h1 := hf _ _ e
        have h2 := hf _ _ e2
        unfold iiLt
        omega
theorem gotZ_map (f : Nat → Option (Int × Int)) : ∀ n, (gotZ f n).map iiD = got (fun k => (f k).map iiD) n
  | n => by
    unfold gotZ got
    rw [List.map_filterMap]
def wordS (w : Str) (ws : List Str) (k : Nat) : Option (Int × Int) := if ws[k]? = some w then some ((k : Int), (k : Int)) else none
def startS (w : Str) (ws : List Str) (k : Nat) : Option (Int × Int) := match ws[k]? with
  | some x => if Txt.startswith x w = true then some ((k : Int), (k : Int)) else none
  | none => none
def rowS (rs ws : List Str) (k : Nat) : Option (Int × Int) := if (ws.drop k).take rs.length = rs then some ((k : Int), (k : Int) + (rs.length : Int) - 1) else none
def joinS (a b : Int × Int) (far : Int) : Option (Int × Int) :=
  if b.1 < a.1 then (if b.2 < a.1 ∧ a.1 - b.2 - 1 ≤ far then some (b.1, a.2) else none)
  else (if a.2 < b.1 ∧ b.1 - a.2 - 1 ≤ far then some (a.1, b.2) else none)
def nearL (far : Int) (A B : List (Int × Int)) : List (Int × Int) := A.flatMap fun a => B.filterMap fun b => joinS a b far
def spansQ : Qt → List Str → List (Int × Int)
  | .word w, ws => gotZ (wordS w ws) ws.length
  | .start w, ws => gotZ (startS w ws) ws.length
  | .row rs, ws => gotZ (rowS rs ws) (ws.length + 1 - rs.length)
  | .near a b z, ws => srt (nearL z (spansQ a ws) (spansQ b ws))
  | .both a b, ws => srt (spansQ a ws ++ spansQ b ws)
  | .either a b, ws => srt (spansQ a ws ++ spansQ b ws)
  | .no _, _ => []
def holdsQ : Qt → List Str → Bool
  | .both a b, ws => holdsQ a ws && holdsQ b ws
  | .either a b, ws => holdsQ a ws || holdsQ b ws
  | .no a, ws => !holdsQ a ws
  | q, ws => !(spansQ q ws).isEmpty
/-- every row has a word -/
def rowsNe : Qt → Bool
  | .row ws => decide (1 ≤ ws.length ∧ ws.length ≤ 1000)
  | .near a b _ => rowsNe a && rowsNe b
  | .both a b => rowsNe a && rowsNe b
  | .either a b => rowsNe a && rowsNe b
  | .no a => rowsNe a
  | _ => true
theorem spansQ_pw : ∀ (q : Qt) (ws : List Str), (spansQ q ws).Pairwise iiLt
  | .word w, ws => gotZ_pw (fun k z h => by unfold wordS at h; split at h <;> cases h; rfl) _
  | .start w, ws => gotZ_pw (fun k z h => by
      unfold startS at h
      split at h
      · split at h <;> cases h
        rfl
      · cases h) _
  | .row rs, ws => gotZ_pw (fun k z h => by unfold rowS at h; split at h <;> cases h; rfl) _
  | .near _ _ _, _ => srt_pw _
  | .both _ _, _ => srt_pw _
  | .either _ _, _ => srt_pw _
  | .no _, _ => .nil
def InTri (n : Nat) (z : Int × Int) : Prop := 0 ≤ z.1 ∧ z.1 ≤ z.2 ∧ z.2 < (n : Int)
theorem joinS_tri {n : Nat} {a b z : Int × Int} {far : Int} (ha : InTri n a) (hb : InTri n b) (h : joinS a b far = some z) : InTri n z := by
  unfold joinS at h
  unfold InTri at *
  split at h
  · split at h <;> cases h
    dsimp only
    omega
  · split at h <;> cases h
    dsimp only
    omega
theorem spansQ_tri : ∀ (q : Qt) (ws : List Str), rowsNe q = true → ∀ z ∈ spansQ q ws, InTri ws.length z
  | .word w, ws, _, z, hz => by
    obtain ⟨k, hk, h⟩ := mem_gotZ.mp hz
    unfold wordS at h
    split at h <;> cases h
    exact ⟨by dsimp only; omega, Int.le_refl _, by dsimp only; omega⟩
  | .start w, ws, _, z, hz => by
    obtain ⟨k, hk, h⟩ := mem_gotZ.mp hz
    unfold startS at h
    split at h
    · split at h <;> cases h
      exact ⟨by dsimp only; omega, Int.le_refl _, by dsimp only; omega⟩
    · cases h
  | .row rs, ws, hr, z, hz => by
    obtain ⟨k, hk, h⟩ := mem_gotZ.mp hz
    have := of_decide_eq_true (show decide (1 ≤ rs.length ∧ rs.length ≤ 1000) = true from hr)
    unfold rowS at h
    split at h <;> cases h
    refine ⟨?_, ?_, ?_⟩ <;> dsimp only <;> omega
  | .near a b far, ws, hr, z, hz => by
    simp only [rowsNe, Bool.and_eq_true] at hr
    obtain ⟨x, hx, h⟩ := List.mem_flatMap.mp (mem_srt.mp hz)
    obtain ⟨y, hy, h⟩ := List.mem_filterMap.mp h
    exact joinS_tri (spansQ_tri a ws hr.1 x hx) (spansQ_tri b ws hr.2 y hy) h
  | .both a b, ws, hr, z, hz => by
    simp only [rowsNe, Bool.and_eq_true] at hr
    rcases List.mem_append.mp (mem_srt.mp hz) with h | h
    · exact spansQ_tri a ws hr.1 z h
    · exact spansQ_tri b ws hr.2 z h
  | .either a b, ws, hr, z, hz => by
    simp only [rowsNe, Bool.and_eq_true] at hr
    rcases List.mem_append.mp (mem_srt.mp hz) with h | h
    · exact spansQ_tri a ws hr.1 z h
    · exact spansQ_tri b ws hr.2 z h
  | .no _, ws, _, z, hz => nomatch hz
def triL : List (Int × Int) := (List.range 64).flatMap fun y : Nat => (List.range (y + 1)).map fun x : Nat => ((x : Int), (y : Int))
theorem triL_len : triL.length = 2080 := by decide +kernel
theorem mem_triL {z : Int × Int} {n : Nat} (hn : n ≤ 64) (h : InTri n z) : z ∈ triL := by
  obtain ⟨x, y⟩ := z
  obtain ⟨h0, h1, h2⟩ := h
  dsimp only at h0 h1 h2
  refine List.mem_flatMap.mpr ⟨y.toNat, List.mem_range.mpr (by omega), List.mem_map.mpr ⟨x.toNat, List.mem_range.mpr (by omega), ?_⟩⟩
  exact Prod.ext (by dsimp only; omega) (by dsimp only; omega)
theorem pw_nodup : ∀ {l : List (Int × Int)}, l.Pairwise iiLt → l.Nodup := fun hl => List.Pairwise.imp (fun {a b} hab e => by subst e; unfold iiLt at hab; omega) hl
theorem tri_len {l : List (Int × Int)} {n : Nat} (hn : n ≤ 64) (h1 : l.Pairwise iiLt) (h2 : ∀ z ∈ l, InTri n z) : l.length ≤ 2080 := by
  rw [← triL_len]
  exact nodup_len (pw_nodup h1) fun z hz => mem_triL hn (h2 z hz)
theorem spansQ_len {q : Qt} {ws : List Str} (hr : rowsNe q = true) (hn : ws.length ≤ 64) : (spansQ q ws).length ≤ 2080 := tri_len hn (spansQ_pw q ws) (spansQ_tri q ws hr)
def putsP (zs l : List (Int × Int)) : List (Int × Int) := l.foldl putP zs
theorem mem_putsP {z : Int × Int} : ∀ {l zs : List (Int × Int)}, z ∈ putsP zs l ↔ z ∈ zs ∨ z ∈ l
  | [], zs => by simp [putsP]
  | y :: l, zs => by
    show z ∈ putsP (putP zs y) l ↔ _
    rw [mem_putsP, mem_putP, List.mem_cons, or_assoc]
theorem putsP_app (zs l m : List (Int × Int)) : putsP zs (l ++ m) = putsP (putsP zs l) m := List.foldl_append
end Fh
set_option Elab.async false
set_option linter.all false
set_option maxRecDepth 100000
set_option maxHeartbeats 4000000
namespace Fh
open PySem PySem.Spec PyProof.Rows L2 Evl
/-! for x in range(n), *n of any sign* -/
section
variable {K : PySem.W.Frag} {M : Addr → Prop} {F0 H0 F H F' H' : Hp} {σ xs gs : L2.St} {ss ts rs gt : List Sl} {tr : TA} {tz : TS}
theorem st_forR1Z {D : Ends} {tb : TS} {i : Nat} {n : Int} {m : Nat} (S : Sts K M F0 H0 F H (σ ++ gs) (ss ++ gt)) (l : σ.length = ss.length) (h : AvR K tr ss [.dt (.int n)]) (hn : n.toNat = m) (hm : -(2 ^ 60) < n ∧ n < 2 ^ 60) (W : Nat → List Sl) (w0 : Wk ss (W 0)) (na : ∀ k, ((W k) ++ gt).all notAl = true) (hi : i < ss.length)
    (hs : ∀ k, k < m → ∀ σ' F' H', Sts K M F0 H0 F' H' (σ' ++ gs) ((W k).set i (.dt (.int (k : Int))) ++ gt) → σ'.length = ((W k).set i (.dt (.int (k : Int)))).length → tb { D with nx := Nxt K M F0 H0 gs gt (W (k + 1)), ct := Nxt K M F0 H0 gs gt (W (k + 1)), bk := D.nx } σ' H')
    (hd : ∀ σ' F' H', Sts K M F0 H0 F' H' (σ' ++ gs) (W m ++ gt) → σ'.length = (W m).length → D.nx σ' H') (hw : ∀ k, (W k).length = ss.length := by intro _; rfl) : tFor (iRng1 tr) (gName i) tb D σ H := by
  refine h M F0 H0 F H σ gs gt l S _ fun vs F1 H1 hl g1 S1 => ?_
  have ha := S1.argsV (ds := [.int n]) S.len2 hl rfl
  have hv : vs = [.int n] := by
    cases ha with
    | cons a b =>
      cases b
      rw [a.int]
  have S2 := S1.backA S.len2
  refine ⟨n, hv, by omega, by omega, ?_⟩
  rw [hn]
  refine for_range (lo := 0) (n := m) (fun k σ H => Nxt K M F0 H0 gs gt (W k) σ H) ⟨F1, S2.weak (w0.app (Wk.refl _)), by rw [hw, l]⟩ (fun k σ' H' hk p => ?_) fun σ' H' p => ?_
  · obtain ⟨F2, S3, l3⟩ := p
    have e0 : (0 : Int) + (k : Int) = (k : Int) := Int.zero_add _
    rw [e0]
    exact hs k hk _ F2 H' (S3.setv l3 (by rw [hw]; exact hi) (.int _) (na k)) (by rw [List.length_set, List.length_set, l3])
  · obtain ⟨F2, S3, l3⟩ := p
    exact hd σ' F2 H' S3 l3
theorem q_forR1Z {D : Ends} {tb : TS} {i : Nat} {n : Int} {m : Nat} (S : Sts K M F0 H0 F H (σ ++ gs) (ss ++ gt)) (l : σ.length = ss.length) (h : AvR K tr ss [.dt (.int n)]) (hn : n.toNat = m) (hm : -(2 ^ 60) < n ∧ n < 2 ^ 60) (W : Nat → List Sl) (w0 : Wk ss (W 0)) (na : ∀ k, ((W k) ++ gt).all notAl = true) (hi : i < ss.length)
    (hs : ∀ k, k < m → ∀ σ' F' H', Sts K M F0 H0 F' H' (σ' ++ gs) ((W k).set i (.dt (.int (k : Int))) ++ gt) → σ'.length = ((W k).set i (.dt (.int (k : Int)))).length → tb { D with nx := Nxt K M F0 H0 gs gt (W (k + 1)), ct := Nxt K M F0 H0 gs gt (W (k + 1)), bk := tz D } σ' H')
    (hd : ∀ σ' F' H', Sts K M F0 H0 F' H' (σ' ++ gs) (W m ++ gt) → σ'.length = (W m).length → tz D σ' H') (hw : ∀ k, (W k).length = ss.length := by intro _; rfl) : tSeq (tFor (iRng1 tr) (gName i) tb) tz D σ H := st_forR1Z (D := { D with nx := tz D }) S l h hn hm W w0 na hi hs hd hw
end
end Fh
set_option Elab.async false
set_option linter.all false
set_option maxRecDepth 100000
set_option maxHeartbeats 4000000
namespace Fh
open PySem PySem.Spec PyProof.Rows L2 Evl
/-! xs.pop(i); own lists told by their places -/
theorem mt_popAtR {X : Cx} : MtR X "list.pop" rPopAt := mt_popAt
section
variable {K : PySem.W.Frag} {M : Addr → Prop} {F0 H0 F H F' H' : Hp} {σ xs gs : L2.St} {ss ts rs gt : List Sl} {te : TE} {tz : TS} {ds : List PyData} {vs : List V}
theorem dpAll_erase : ∀ {ds : List PyData} {vs : List V} (k : Nat), Fh.DpAll K F vs ds → Fh.DpAll K F (vs.eraseIdx k) (ds.eraseIdx k)
  | [], _, k, h => by
    cases h
    exact .nil
  | d :: ds, _, 0, h => by
    cases h with
    | cons a b => exact b
  | d :: ds, _, k + 1, h => by
    cases h with
    | cons a b => exact .cons a (dpAll_erase k b)
theorem st_popAt {D : Ends} {i : Nat} {z : Int} (S : Sts K M F0 H0 F H (σ ++ gs) (ss ++ gt)) (l : σ.length = ss.length) (h : ss[i]? = some (.ls ds)) (hz : EvR K te ss (.dt (.int z))) (hl : ds.length < 1000000) (h0 : 0 ≤ z) (h1 : z < (ds.length : Int))
    (k : ∀ F' H', Sts K M F0 H0 F' H' (σ ++ gs) (ss.set i (.ls (ds.eraseIdx z.toNat)) ++ gt) → σ.length = (ss.set i (.ls (ds.eraseIdx z.toNat))).length → D.nx σ H') : tDrop (tBM K "list" rPopAt (tVar i) (tCons te tNil)) D σ H := by
  have hi := (List.getElem?_eq_some_iff.mp h).1
  have h' : (ss ++ gt)[i]? = some (.ls ds) := by rw [List.getElem?_append_left hi]; exact h
  obtain ⟨p, vs, a, b, c, f, zz⟩ := S.get_ls h'
  have a2 := a
  rw [List.getElem?_append_left (by omega)] at a2
  refine ⟨.ref p, a2, .inl ⟨rfl, _, SqL.of c⟩, ?_⟩
  refine hz M F0 H0 F H σ gs gt l S _ fun vz F1 H1 g1 n1 S1 => ?_
  have l2 := S.len2
  have ez : vz = .int z := (S1.lastV l2 (d := .int z) rfl).int
  subst ez
  have S0 := S1.back l2
  obtain ⟨q, ws, a1, b1, c1, d1, k1⟩ := S0.write h'
  rw [a] at a1
  cases a1
  have hlen := dpAll_len c1
  have hk : z.toNat < ws.length := by omega
  refine ⟨p, ws, z, z.toNat, ws[z.toNat], rfl, rfl, b1, by omega, by omega, ?_, List.getElem?_eq_getElem hk, ?_⟩
  · unfold seqIndex?
    have e : (if z < 0 then z + (ws.length : Int) else z) = z := if_neg (by omega)
    rw [e]
    exact if_pos (by simp only [Bool.and_eq_true, decide_eq_true_eq]; omega)
  · have S3 := k1 (ws.eraseIdx z.toNat) (ds.eraseIdx z.toNat) (dpAll_erase _ c1)
    rw [List.set_append_left _ _ hi] at S3
    exact k F1 _ S3 (by rw [List.length_set, l])
end
end Fh
set_option Elab.async false
set_option linter.all false
set_option maxRecDepth 100000
set_option maxHeartbeats 4000000
namespace K14
open PySem PySem.Spec PyProof.Rows L2 Fh
open Evl (Ex)
open PySem.W (Datum)
local macro_rules | `(tactic| walk_at "vw") => `(tactic| first | rfl | assumption)
local macro_rules | `(tactic| walk_at "fit") => `(tactic| first
  | (refine CMulY.s ?_ ?_ <;> (constructor <;> omega)) | (refine CDivY.s ?_ ?_ <;> omega) | assumption | omega | decide)
local macro_rules | `(tactic| walk_at "sp") => `(tactic| fail)
local macro_rules | `(tactic| walk_at "av") => `(tactic| first
  | exact av_nil
  | (refine av_cons ?_ ?_ <;> first | walk_at "ev" | walk_at "av"))
local macro_rules | `(tactic| walk_at "ov") => `(tactic| first
  | exact ov_none | (refine ov_some ?_ <;> walk_at "ev"))
local macro_rules | `(tactic| walk_at "tv") => `(tactic| first
  | exact tv_yes
  | (refine tv_not ?_ <;> walk_at "tv")
  | (refine tv_test ?_ <;> walk_at "ev")
  | (refine tv_B ?_ <;> walk_at "ev"))
local macro_rules | `(tactic| walk_at "ev") => `(tactic| first
  | exact ev_int | exact ev_bl | exact ev_str | exact ev_non
  | exact ev_var rfl
  | exact ev_varA rfl
  | (refine ev_ii ?_ ?_ <;> walk_at "ev")
  | (refine ev_ib ?_ ?_ <;> walk_at "ev")
  | (refine' ev_iC ?a ?b ?c; (case a => walk_at "ev"); (case b => walk_at "ev"); (case c => walk_at "fit"))
  | (refine ev_u ?_ <;> walk_at "ev")
  | (refine ev_not ?_ <;> walk_at "ev")
  | (refine ev_abs ?_ <;> walk_at "ev")
  | (refine ev_min ?_ ?_ <;> walk_at "ev")
  | (refine ev_max ?_ ?_ <;> walk_at "ev")
  | (refine ev_intB ?_ <;> walk_at "ev")
  | (refine' ev_len ?a ?b ?c; (case a => walk_at "ev"); (case b => walk_at "vw"); (case c => rfl))
  | (refine' ev_ixT ?a ?b ?c ?d; (case a => walk_at "ev"); (case b => walk_at "ev"); (case c => walk_at "vw"); (case d => rfl))
  | (refine' ev_tup ?a ?b ?c; (case a => walk_at "av"); (case b => rfl); (case c => (show _ ≤ _; decide)))
  | (refine' ev_lst ?a ?b ?c; (case a => walk_at "av"); (case b => rfl); (case c => (show _ ≤ _; decide)))
  | (refine' ev_isN ?a ?b; (case a => walk_at "ev"); (case b => walk_at "vw"))
  | (refine' ev_notN ?a ?b; (case a => walk_at "ev"); (case b => walk_at "vw"))
  | (refine' ev_isi ?a ?b ?c; (case a => walk_at "ev"); (case b => walk_at "vw"); (case c => first | exact kit_int _ | exact kit_bool _ | exact kit_str _ | exact kit_list _ | exact kit_tuple _))
  | (refine' ev_callF0 ?a ?b ?c ?d; (case a => walk_at "av"); (case b => walk_at "vw"); (case c => walk_at "sp"); (case d => rfl))
  | (refine' ev_call0 ?a ?b ?c; (case a => walk_at "av"); (case b => rfl); (case c => walk_at "sp")))
local macro_rules | `(tactic| walk_at "sl") => `(tactic| first
  | (intro _ _ h; obtain ⟨h, _⟩ := h; rw [h]; rfl) | (intro _ _ h; obtain ⟨_, h, _⟩ := h; rw [h]; rfl) | (intro _ _ h; obtain ⟨_, _, h, _⟩ := h; rw [h]; rfl) | (intro _ _ h; obtain ⟨_, _, _, h, _⟩ := h; rw [h]; rfl) | (intro _ _ h; obtain ⟨_, _, _, _, h, _⟩ := h; rw [h]; rfl) | (intro _ _ h; obtain ⟨_, _, _, _, _, h, _⟩ := h; rw [h]; rfl) | (intro _ _ h; obtain ⟨_, _, _, _, _, _, h, _⟩ := h; rw [h]; rfl) | (intro _ _ h; obtain ⟨_, _, _, _, _, _, _, h, _⟩ := h; rw [h]; rfl) | (intro _ _ h; obtain ⟨_, _, _, _, _, _, _, _, h, _⟩ := h; rw [h]; rfl))
local macro_rules | `(tactic| walk_at "slO") => `(tactic| first
  | (intro _ _ _ _ h; obtain ⟨h, _⟩ := h; rw [h]; rfl) | (intro _ _ _ _ h; obtain ⟨_, h, _⟩ := h; rw [h]; rfl) | (intro _ _ _ _ h; obtain ⟨_, _, h, _⟩ := h; rw [h]; rfl) | (intro _ _ _ _ h; obtain ⟨_, _, _, h, _⟩ := h; rw [h]; rfl) | (intro _ _ _ _ h; obtain ⟨_, _, _, _, h, _⟩ := h; rw [h]; rfl) | (intro _ _ _ _ h; obtain ⟨_, _, _, _, _, h, _⟩ := h; rw [h]; rfl))
local macro_rules | `(tactic| walk_at "slX") => `(tactic| first
  | (intro _ _ _ h; obtain ⟨h, _⟩ := h; rw [h]; rfl) | (intro _ _ _ h; obtain ⟨_, h, _⟩ := h; rw [h]; rfl) | (intro _ _ _ h; obtain ⟨_, _, h, _⟩ := h; rw [h]; rfl) | (intro _ _ _ h; obtain ⟨_, _, _, h, _⟩ := h; rw [h]; rfl) | (intro _ _ _ h; obtain ⟨_, _, _, _, h, _⟩ := h; rw [h]; rfl))
local macro_rules | `(tactic| walk_at "slV") => `(tactic| first
  | (intro _ _ _ _ _ _ _ _ h; obtain ⟨h, _⟩ := h; rw [h]; rfl) | (intro _ _ _ _ _ _ _ _ h; obtain ⟨_, h, _⟩ := h; rw [h]; rfl) | (intro _ _ _ _ _ _ _ _ h; obtain ⟨_, _, h, _⟩ := h; rw [h]; rfl) | (intro _ _ _ _ _ _ _ _ h; obtain ⟨_, _, _, h, _⟩ := h; rw [h]; rfl) | (intro _ _ _ _ _ _ _ _ h; obtain ⟨_, _, _, _, h, _⟩ := h; rw [h]; rfl) | (intro _ _ _ _ _ _ _ _ h; obtain ⟨_, _, _, _, _, h, _⟩ := h; rw [h]; rfl) | (intro _ _ _ _ _ _ _ _ h; obtain ⟨_, _, _, _, _, _, h, _⟩ := h; rw [h]; rfl) | (intro _ _ _ _ _ _ _ _ h; obtain ⟨_, _, _, _, _, _, _, h, _⟩ := h; rw [h]; rfl) | (intro _ _ _ _ _ _ _ _ h; obtain ⟨_, _, _, _, _, _, _, _, h, _⟩ := h; rw [h]; rfl) | (intro _ _ _ _ _ _ _ _ h; obtain ⟨_, _, _, _, _, _, _, _, _, h, _⟩ := h; rw [h]; rfl) | (intro _ _ _ _ _ _ _ _ h; obtain ⟨_, _, _, _, _, _, _, _, _, _, h, _⟩ := h; rw [h]; rfl))

def topS (i : Nat) : Stmt := PySem.Challenge.pw_findhall_k14_spans_and_holds.main.body.getD i (.Pass ⟨0, 0, 0, 0⟩)
abbrev s_is_whole : Stmt := topS 7
theorem sc_is_whole : FnScope ["thing"] ["thing"] (defScope s_is_whole) := ⟨rfl, rfl, rfl, by decide +kernel, rfl, by decide +kernel, by decide +kernel⟩
abbrev s_is_word : Stmt := topS 9
theorem sc_is_word : FnScope ["thing", "sign"] ["thing"] (defScope s_is_word) := ⟨rfl, rfl, rfl, by decide +kernel, rfl, by decide +kernel, by decide +kernel⟩
abbrev s_Ask_kids : Stmt := inClass (topS 15) 3
theorem sc_Ask_kids : FnScope ["self"] ["self"] (defScope s_Ask_kids) := ⟨rfl, rfl, rfl, by decide +kernel, rfl, by decide +kernel, by decide +kernel⟩
abbrev s_Ask_spans : Stmt := inClass (topS 15) 5
theorem sc_Ask_spans : FnScope ["self", "words", "found", "kid", "span"] ["self", "words"] (defScope s_Ask_spans) := ⟨rfl, rfl, rfl, by decide +kernel, rfl, by decide +kernel, by decide +kernel⟩
abbrev s_Ask_holds : Stmt := inClass (topS 15) 6
theorem sc_Ask_holds : FnScope ["self", "words"] ["self", "words"] (defScope s_Ask_holds) := ⟨rfl, rfl, rfl, by decide +kernel, rfl, by decide +kernel, by decide +kernel⟩
abbrev s_Word___init__ : Stmt := inClass (topS 17) 0
theorem sc_Word___init__ : FnScope ["self", "word"] ["self", "word"] (defScope s_Word___init__) := ⟨rfl, rfl, rfl, by decide +kernel, rfl, by decide +kernel, by decide +kernel⟩
abbrev s_Word_spans : Stmt := inClass (topS 17) 3
theorem sc_Word_spans : FnScope ["self", "words", "place", "word"] ["self", "words"] (defScope s_Word_spans) := ⟨rfl, rfl, rfl, by decide +kernel, rfl, by decide +kernel, by decide +kernel⟩
abbrev s_Start___init__ : Stmt := inClass (topS 18) 0
theorem sc_Start___init__ : FnScope ["self", "word"] ["self", "word"] (defScope s_Start___init__) := ⟨rfl, rfl, rfl, by decide +kernel, rfl, by decide +kernel, by decide +kernel⟩
abbrev s_Start_spans : Stmt := inClass (topS 18) 3
theorem sc_Start_spans : FnScope ["self", "words", "place", "word"] ["self", "words"] (defScope s_Start_spans) := ⟨rfl, rfl, rfl, by decide +kernel, rfl, by decide +kernel, by decide +kernel⟩
abbrev s_Row___init__ : Stmt := inClass (topS 19) 0
theorem sc_Row___init__ : FnScope ["self", "words"] ["self", "words"] (defScope s_Row___init__) := ⟨rfl, rfl, rfl, by decide +kernel, rfl, by decide +kernel, by decide +kernel⟩
abbrev s_Row_spans : Stmt := inClass (topS 19) 3
theorem sc_Row_spans : FnScope ["self", "words", "many", "found", "place"] ["self", "words"] (defScope s_Row_spans) := ⟨rfl, rfl, rfl, by decide +kernel, rfl, by decide +kernel, by decide +kernel⟩
abbrev s_joined : Stmt := topS 20
theorem sc_joined : FnScope ["one", "other", "far"] ["one", "other", "far"] (defScope s_joined) := ⟨rfl, rfl, rfl, by decide +kernel, rfl, by decide +kernel, by decide +kernel⟩
abbrev s_Near___init__ : Stmt := inClass (topS 21) 0
theorem sc_Near___init__ : FnScope ["self", "one", "other", "far"] ["self", "one", "other", "far"] (defScope s_Near___init__) := ⟨rfl, rfl, rfl, by decide +kernel, rfl, by decide +kernel, by decide +kernel⟩
abbrev s_Near_kids : Stmt := inClass (topS 21) 1
theorem sc_Near_kids : FnScope ["self"] ["self"] (defScope s_Near_kids) := ⟨rfl, rfl, rfl, by decide +kernel, rfl, by decide +kernel, by decide +kernel⟩
abbrev s_Near_spans : Stmt := inClass (topS 21) 4
theorem sc_Near_spans : FnScope ["self", "words", "found", "others", "one", "other", "span"] ["self", "words"] (defScope s_Near_spans) := ⟨rfl, rfl, rfl, by decide +kernel, rfl, by decide +kernel, by decide +kernel⟩
abbrev s_Pair___init__ : Stmt := inClass (topS 22) 0
theorem sc_Pair___init__ : FnScope ["self", "one", "other"] ["self", "one", "other"] (defScope s_Pair___init__) := ⟨rfl, rfl, rfl, by decide +kernel, rfl, by decide +kernel, by decide +kernel⟩
abbrev s_Pair_kids : Stmt := inClass (topS 22) 2
theorem sc_Pair_kids : FnScope ["self"] ["self"] (defScope s_Pair_kids) := ⟨rfl, rfl, rfl, by decide +kernel, rfl, by decide +kernel, by decide +kernel⟩
abbrev s_Both_holds : Stmt := inClass (topS 23) 2
theorem sc_Both_holds : FnScope ["self", "words"] ["self", "words"] (defScope s_Both_holds) := ⟨rfl, rfl, rfl, by decide +kernel, rfl, by decide +kernel, by decide +kernel⟩
abbrev s_Either_holds : Stmt := inClass (topS 24) 2
theorem sc_Either_holds : FnScope ["self", "words"] ["self", "words"] (defScope s_Either_holds) := ⟨rfl, rfl, rfl, by decide +kernel, rfl, by decide +kernel, by decide +kernel⟩
abbrev s_Not___init__ : Stmt := inClass (topS 25) 0
theorem sc_Not___init__ : FnScope ["self", "one"] ["self", "one"] (defScope s_Not___init__) := ⟨rfl, rfl, rfl, by decide +kernel, rfl, by decide +kernel, by decide +kernel⟩
abbrev s_Not_kids : Stmt := inClass (topS 25) 2
theorem sc_Not_kids : FnScope ["self"] ["self"] (defScope s_Not_kids) := ⟨rfl, rfl, rfl, by decide +kernel, rfl, by decide +kernel, by decide +kernel⟩
abbrev s_Not_spans : Stmt := inClass (topS 25) 6
theorem sc_Not_spans : FnScope ["self", "words"] ["self", "words"] (defScope s_Not_spans) := ⟨rfl, rfl, rfl, by decide +kernel, rfl, by decide +kernel, by decide +kernel⟩
abbrev s_Not_holds : Stmt := inClass (topS 25) 7
theorem sc_Not_holds : FnScope ["self", "words"] ["self", "words"] (defScope s_Not_holds) := ⟨rfl, rfl, rfl, by decide +kernel, rfl, by decide +kernel, by decide +kernel⟩
abbrev s_many_asks : Stmt := topS 26
theorem sc_many_asks : FnScope ["ask", "kid"] ["ask"] (defScope s_many_asks) := ⟨rfl, rfl, rfl, by decide +kernel, rfl, by decide +kernel, by decide +kernel⟩
abbrev s_need_ask : Stmt := topS 27
theorem sc_need_ask : FnScope ["good"] ["good"] (defScope s_need_ask) := ⟨rfl, rfl, rfl, by decide +kernel, rfl, by decide +kernel, by decide +kernel⟩
abbrev s_plain_of : Stmt := topS 28
theorem sc_plain_of : FnScope ["told", "word"] ["told"] (defScope s_plain_of) := ⟨rfl, rfl, rfl, by decide +kernel, rfl, by decide +kernel, by decide +kernel⟩
abbrev s_made_of : Stmt := topS 29
theorem sc_made_of : FnScope ["told", "left", "one", "other"] ["told", "left"] (defScope s_made_of) := ⟨rfl, rfl, rfl, by decide +kernel, rfl, by decide +kernel, by decide +kernel⟩
abbrev s_ask_of : Stmt := topS 30
theorem sc_ask_of : FnScope ["told", "found"] ["told"] (defScope s_ask_of) := ⟨rfl, rfl, rfl, by decide +kernel, rfl, by decide +kernel, by decide +kernel⟩
abbrev s__law_mixed : Stmt := topS 32
theorem sc__law_mixed : FnScope ["_law_number_here", "_law_k"] ["_law_number_here", "_law_k"] (defScope s__law_mixed) := ⟨rfl, rfl, rfl, by decide +kernel, rfl, by decide +kernel, by decide +kernel⟩
abbrev s__law_number : Stmt := topS 33
theorem sc__law_number : FnScope ["_law_script", "_law_k"] ["_law_script", "_law_k"] (defScope s__law_number) := ⟨rfl, rfl, rfl, by decide +kernel, rfl, by decide +kernel, by decide +kernel⟩
abbrev s__law_menu : Stmt := topS 34
theorem sc__law_menu : FnScope ["_law_number_here", "_law_signs", "_law_rest", "_law_size", "_law_at", "_law_found", "_law_k", "_law_sign", "_law_j"] ["_law_number_here"] (defScope s__law_menu) := ⟨rfl, rfl, rfl, by decide +kernel, rfl, by decide +kernel, by decide +kernel⟩
abbrev s__law_plain : Stmt := topS 35
theorem sc__law_plain : FnScope ["_law_number_here", "_law_menu_here", "_law_word", "_law_size", "_law_k"] ["_law_number_here", "_law_menu_here"] (defScope s__law_plain) := ⟨rfl, rfl, rfl, by decide +kernel, rfl, by decide +kernel, by decide +kernel⟩
abbrev s__law_tree : Stmt := topS 36
theorem sc__law_tree : FnScope ["_law_script", "_law_at", "_law_deep", "_law_menu_here", "_law_number_here", "_law_far", "_law_one"] ["_law_script", "_law_at", "_law_deep", "_law_menu_here"] (defScope s__law_tree) := ⟨rfl, rfl, rfl, by decide +kernel, rfl, by decide +kernel, by decide +kernel⟩
abbrev s__law_kids : Stmt := topS 37
theorem sc__law_kids : FnScope ["_law_told"] ["_law_told"] (defScope s__law_kids) := ⟨rfl, rfl, rfl, by decide +kernel, rfl, by decide +kernel, by decide +kernel⟩
abbrev s__law_plain_spans : Stmt := topS 38
theorem sc__law_plain_spans : FnScope ["_law_told", "_law_words", "_law_found", "_law_size", "_law_place", "_law_here"] ["_law_told", "_law_words"] (defScope s__law_plain_spans) := ⟨rfl, rfl, rfl, by decide +kernel, rfl, by decide +kernel, by decide +kernel⟩
abbrev s__law_spans : Stmt := topS 39
theorem sc__law_spans : FnScope ["_law_told", "_law_words", "_law_ones", "_law_others", "_law_found", "_law_one", "_law_other", "_law_between"] ["_law_told", "_law_words"] (defScope s__law_spans) := ⟨rfl, rfl, rfl, by decide +kernel, rfl, by decide +kernel, by decide +kernel⟩
abbrev s__law_holds : Stmt := topS 40
theorem sc__law_holds : FnScope ["_law_told", "_law_words"] ["_law_told", "_law_words"] (defScope s__law_holds) := ⟨rfl, rfl, rfl, by decide +kernel, rfl, by decide +kernel, by decide +kernel⟩
abbrev s__law_spans_right : Stmt := topS 41
theorem sc__law_spans_right : FnScope ["_law_ask", "_law_told", "_law_words", "_law_held", "_law_found", "_law_span", "_law_place"] ["_law_ask", "_law_told", "_law_words", "_law_held"] (defScope s__law_spans_right) := ⟨rfl, rfl, rfl, by decide +kernel, rfl, by decide +kernel, by decide +kernel⟩
abbrev s__law_right : Stmt := topS 42
theorem sc__law_right : FnScope ["_law_ask", "_law_told", "_law_words", "_law_number_here", "_law_held", "_law_found"] ["_law_ask", "_law_told", "_law_words", "_law_number_here", "_law_held"] (defScope s__law_right) := ⟨rfl, rfl, rfl, by decide +kernel, rfl, by decide +kernel, by decide +kernel⟩
abbrev s__law_drawn_words : Stmt := topS 43
theorem sc__law_drawn_words : FnScope ["_law_script", "_law_menu_here", "_law_number_here", "_law_some", "_law_turns", "_law_k"] ["_law_script", "_law_menu_here"] (defScope s__law_drawn_words) := ⟨rfl, rfl, rfl, by decide +kernel, rfl, by decide +kernel, by decide +kernel⟩
abbrev s_law : Stmt := topS 44
theorem sc_law : FnScope ["_law_script", "_law_menu_here", "_law_told", "_law_ask", "_law_words", "_law_held", "_law_k", "_law_number_here", "_law_handed", "_law_kid", "_law_due", "_law_one", "_law_copy"] ["_law_script"] (defScope s_law) := ⟨rfl, rfl, rfl, by decide +kernel, rfl, by decide +kernel, by decide +kernel⟩
structure Txt (K : PySem.W.Frag) (mg : Str → Option Value) (CB CAsk CWord CStart CRow CNear CBoth CEither CNot : Addr) : Prop where
  all : mg "all" = none
  bool : mg "bool" = none
  enumerate : mg "enumerate" = none
  int : mg "int" = none
  isinstance : mg "isinstance" = none
  len : mg "len" = none
  list : mg "list" = none
  max : mg "max" = none
  min : mg "min" = none
  range : mg "range" = none
  set : mg "set" = none
  sorted : mg "sorted" = none
  str : mg "str" = none
  sum : mg "sum" = none
  tuple : mg "tuple" = none
  zip : mg "zip" = none
  c_BadAsk : mg "BadAsk" = some (.ref CB)
  k_BadAsk : PySem.W.keepIn K (.ref CB) = true
  x_BadAsk : PySem.W.excIn K CB [.type "ValueError", .type "Exception", .type "BaseException", .type "object"] "ValueError.__new__" = true
  b_BadAsk : PySem.W.subIn K (.ref CB) (.type "BaseException") = some true
  t_BadAsk : PySem.W.typeIn K (.ref CB) = some (.type "type")
  c_Ask : mg "Ask" = some (.ref CAsk)
  c_Word : mg "Word" = some (.ref CWord)
  cl_Word : Cls K CWord
  mk_Word : PySem.W.makesIn K CWord = true
  kp_Word : PySem.W.keepIn K (.ref CWord) = true
  n_Word_word : PySem.W.findIn K (.ref CWord) "word" = some none
  c_Start : mg "Start" = some (.ref CStart)
  cl_Start : Cls K CStart
  mk_Start : PySem.W.makesIn K CStart = true
  kp_Start : PySem.W.keepIn K (.ref CStart) = true
  n_Start_word : PySem.W.findIn K (.ref CStart) "word" = some none
  c_Row : mg "Row" = some (.ref CRow)
  cl_Row : Cls K CRow
  mk_Row : PySem.W.makesIn K CRow = true
  kp_Row : PySem.W.keepIn K (.ref CRow) = true
  n_Row_side_by_side : PySem.W.findIn K (.ref CRow) "side_by_side" = some none
  c_Near : mg "Near" = some (.ref CNear)
  cl_Near : Cls K CNear
  mk_Near : PySem.W.makesIn K CNear = true
  kp_Near : PySem.W.keepIn K (.ref CNear) = true
  n_Near_one : PySem.W.findIn K (.ref CNear) "one" = some none
  n_Near_other : PySem.W.findIn K (.ref CNear) "other" = some none
  n_Near_far : PySem.W.findIn K (.ref CNear) "far" = some none
  c_Both : mg "Both" = some (.ref CBoth)
  cl_Both : Cls K CBoth
  mk_Both : PySem.W.makesIn K CBoth = true
  kp_Both : PySem.W.keepIn K (.ref CBoth) = true
  n_Both_one : PySem.W.findIn K (.ref CBoth) "one" = some none
  n_Both_other : PySem.W.findIn K (.ref CBoth) "other" = some none
  c_Either : mg "Either" = some (.ref CEither)
  cl_Either : Cls K CEither
  mk_Either : PySem.W.makesIn K CEither = true
  kp_Either : PySem.W.keepIn K (.ref CEither) = true
  n_Either_one : PySem.W.findIn K (.ref CEither) "one" = some none
  n_Either_other : PySem.W.findIn K (.ref CEither) "other" = some none
  c_Not : mg "Not" = some (.ref CNot)
  cl_Not : Cls K CNot
  mk_Not : PySem.W.makesIn K CNot = true
  kp_Not : PySem.W.keepIn K (.ref CNot) = true
  n_Not_one : PySem.W.findIn K (.ref CNot) "one" = some none
  g_KEY_SIGNS : ∃ t, mg "KEY_SIGNS" = some (.str "abcdefghijklmnopqrstuvwxyz0123456789" t)
  g_MOST_ASKS : ∃ t, mg "MOST_ASKS" = some (.int 40 t)
  g_MOST_DEEP : ∃ t, mg "MOST_DEEP" = some (.int 8 t)
  g_MOST_FAR : ∃ t, mg "MOST_FAR" = some (.int 20 t)
  g_MOST_SIDE : ∃ t, mg "MOST_SIDE" = some (.int 8 t)
  g_MOST_SIGNS : ∃ t, mg "MOST_SIGNS" = some (.int 2000 t)
section
variable {P : Program} {w : World} {K : PySem.W.Frag} {mg : Str → Option Value} {base : Heap} {CB CAsk CWord CStart CRow CNear CBoth CEither CNot : Addr}
def isW : PyData → Bool
  | .int _ => true
  | _ => false
def R_is_whole (ds : List PyData) (r : Sl) : Prop := ∃ d, ds = [d] ∧ r = .dt (.bool (isW d))
theorem ok_is_whole {f : Addr} {fd : FuncData} (F : Fun K "is_whole" "is_whole" s_is_whole f fd) (T : Txt K mg CB CAsk CWord CStart CRow CNear CBoth CEither CNot) : FnOk P w K mg base (L2.CX P w) 1 f fd ["thing"] (spF K R_is_whole noX) := by
  refine F.okX sc_is_whole (spF_len (n := 1) (by rintro _ _ ⟨d, rfl, _⟩; rfl) (by rintro _ _ ⟨⟩)) (fun cdv A outer s H vs Q E hr h => ?_)
  obtain ⟨F0, ds, fh, hv, ⟨r, ⟨d, rfl, rfl⟩, q⟩ | ⟨_, h, _⟩⟩ := h
  · have S := Sts.init (N := ["thing"]) fh hv
    refine ⟨_, (pss_one (ps_ret (pe_and (pe_callB (id := "isinstance") (r := rIsi K) call_isi (by rfl) T.isinstance (by decide +kernel) (pa_cons (pv 0) (pa_cons (pe_bltn (v := .ty "int") (by rfl) T.int (by decide +kernel) rfl) pa_nil))) (pe_one (pe_not (pe_callB (id := "isinstance") (r := rIsi K) call_isi (by rfl) T.isinstance (by decide +kernel) (pa_cons (pv 0) (pa_cons (pe_bltn (v := .ty "bool") (by rfl) T.bool (by decide +kernel) rfl) pa_nil)))))))), ?_⟩
    refine st_ret S (init_len hv (Nat.le_of_ble_eq_true rfl)) ?_ rfl q
    have e : (isIntB d && !isBoolB d) = isW d := by cases d <;> rfl
    rw [← e]
    refine ev_and ?_ fun _ => ?_
    · walk_at "ev"
    · walk_at "ev"
  · exact h.elim
def mixed (n k : Int) : Int := (n % 2147483647 + 7919 * k * k + 31 * k) * 48271 % 2147483647 * (69621 + 2 * k) % 2147483629
def R_mixed (ds : List PyData) (r : Sl) : Prop := ∃ n k : Int, ds = [.int n, .int k] ∧ 0 ≤ k ∧ k ≤ 1000 ∧ r = .dt (.int (mixed n k))
theorem mixed_lt (n k : Int) : 0 ≤ mixed n k ∧ mixed n k < 2147483629 := by
  unfold mixed
  omega
theorem ok_mixed {f : Addr} {fd : FuncData} (F : Fun K "_law_mixed" "_law_mixed" s__law_mixed f fd) (T : Txt K mg CB CAsk CWord CStart CRow CNear CBoth CEither CNot) : FnOk P w K mg base (L2.CX P w) 1 f fd ["_law_number_here", "_law_k"] (spF K R_mixed noX) := by
  refine F.okX sc__law_mixed (spF_len (n := 2) (by rintro _ _ ⟨n, k, rfl, _⟩; rfl) (by rintro _ _ ⟨⟩)) (fun cdv A outer s H vs Q E hr h => ?_)
  obtain ⟨F0, ds, fh, hv, ⟨r, ⟨n, k, rfl, h0, h1, rfl⟩, q⟩ | ⟨_, h, _⟩⟩ := h
  · have S := Sts.init (N := ["_law_number_here", "_law_k"]) fh hv
    have b1 : 0 ≤ n % 2147483647 ∧ n % 2147483647 < 2147483647 := by omega
    have b2 : 0 ≤ 7919 * k ∧ 7919 * k ≤ 7919000 := by omega
    have b3 : 0 ≤ 7919 * k * k ∧ 7919 * k * k ≤ 7919000 * 1000 := ⟨Int.mul_nonneg b2.1 h0, Int.mul_le_mul b2.2 h1 h0 (by decide)⟩
    refine ⟨_, (pss_cons (ps_set (i := 0) sc__law_mixed.nd rfl (Or.inl rfl) (pe_op op_mod (pe_op op_mulY (pe_op op_add (pe_op op_add (pe_op op_mod (pv 0) pe_int) (pe_op op_mulY (pe_op op_mulY pe_int (pv 1)) (pv 1))) (pe_op op_mulY pe_int (pv 1))) pe_int) pe_int))
          (pss_one (ps_ret (pe_op op_mod (pe_op op_mulY (pv 0) (pe_op op_add pe_int (pe_op op_mulY pe_int (pv 1)))) pe_int)))), ?_⟩
    refine q_asg (r := .dt (.int ((n % 2147483647 + 7919 * k * k + 31 * k) * 48271 % 2147483647))) S (init_len hv (Nat.le_of_ble_eq_true rfl)) ?_ rfl rfl (Nat.le_of_ble_eq_true rfl) fun σ' F' H' S l => ?_
    · walk_at "ev"
    have b4 : 0 ≤ (n % 2147483647 + 7919 * k * k + 31 * k) * 48271 % 2147483647 ∧ (n % 2147483647 + 7919 * k * k + 31 * k) * 48271 % 2147483647 < 2147483647 := by omega
    unfold mixed at q
    generalize (n % 2147483647 + 7919 * k * k + 31 * k) * 48271 % 2147483647 = m at *
    refine st_ret S l ?_ rfl q
    walk_at "ev"
  · exact h.elim
abbrev iD (ns : List Int) : List PyData := ns.map .int
def number (ns : List Int) (k : Int) : Int := if ns = [] then mixed 17 k else mixed (ns.getD (k % (ns.length : Int)).toNat 0) k
theorem number_lt (ns : List Int) (k : Int) : 0 ≤ number ns k ∧ number ns k < 2147483629 := by
  unfold number
  split <;> exact mixed_lt _ _
def R_number (ds : List PyData) (r : Sl) : Prop := ∃ (ns : List Int) (k : Int), ds = [.list (iD ns), .int k] ∧ 0 ≤ k ∧ k ≤ 1000 ∧ r = .dt (.int (number ns k))
theorem atI_ints {ns : List Int} {i : Int} (h0 : 0 ≤ i) (h1 : i < ns.length) : atI (iD ns) i = some (.int (ns.getD i.toNat 0)) := by
  have e : ((i.toNat : Nat) : Int) = i := by omega
  have hl : i.toNat < ns.length := by omega
  have h2 : (iD ns)[i.toNat]? = some (.int (ns.getD i.toNat 0)) := by simp [List.getD, hl]
  have h3 := atI_nat h2
  rwa [e] at h3
theorem ok_number {f : Addr} {fd : FuncData} (F : Fun K "_law_number" "_law_number" s__law_number f fd) (T : Txt K mg CB CAsk CWord CStart CRow CNear CBoth CEither CNot) (d__law_mixed : DefOk P w K mg base 1 "_law_mixed" ["_law_number_here", "_law_k"] (spF K R_mixed noX) []) : FnOk P w K mg base (L2.CX P w) 2 f fd ["_law_script", "_law_k"] (spF K R_number noX) := by
  refine F.okX sc__law_number (spF_len (n := 2) (by rintro _ _ ⟨n, k, rfl, _⟩; rfl) (by rintro _ _ ⟨⟩)) (fun cdv A outer s H vs Q E hr h => ?_)
  obtain ⟨F0, ds, fh, hv, ⟨r, ⟨ns, k, rfl, h0, h1, rfl⟩, q⟩ | ⟨_, h, _⟩⟩ := h
  · have S := Sts.init (N := ["_law_script", "_law_k"]) fh hv
    have hu : (A.deeper (envOfC "_law_number" (defScope s__law_number) s.heap.objs.size f cdv)).units + 64 < cLine := hr.units
    refine ⟨_, (pss_cons (ps_if (pt_cmpR (r := rEqP K) (op_eqP hu) (pv 0) (pe_lst pa_nil) (nomark _)) (pss_one (ps_ret (pe_own d__law_mixed (hr.mono (by decide)) (by rfl) passL (pa_cons pe_int (pa_cons (pv 1) pa_nil))))) pss_nil)
          (pss_one (ps_ret (pe_own d__law_mixed (hr.mono (by decide)) (by rfl) passL (pa_cons (pe_ix (r := rIxL K) ix_list (pv 0) (pe_op op_mod (pv 1) (pe_callB (id := "len") (r := rLenR K) call_lenR (by rfl) T.len (by decide +kernel) (pa_cons (pv 0) pa_nil))) (fun _ _ => rfl)) (pa_cons (pv 1) pa_nil)))))), ?_⟩
    refine q_when S (init_len hv (Nat.le_of_ble_eq_true rfl)) (tv_test (ev_eqT (α := List Int) (a := ns) (b := []) (ev_var rfl) (ev_lst av_nil rfl (Nat.le_of_ble_eq_true rfl)) rfl rfl)) (fun hb F' H' S => ?_) (fun hb F' H' S => ?_)
    · have e : ns = [] := of_decide_eq_true hb
      unfold number at q
      rw [if_pos e] at q
      refine st_ret S (init_len hv (Nat.le_of_ble_eq_true rfl)) (ev_call0 (av_cons ev_int (av_cons (ev_var rfl) av_nil)) rfl ⟨17, k, rfl, h0, h1, rfl⟩) rfl q
    · have e : ¬ ns = [] := of_decide_eq_false hb
      unfold number at q
      rw [if_neg e] at q
      have hl : 0 < ns.length := List.length_pos_iff.mpr e
      have hk : 0 ≤ k % (ns.length : Int) ∧ k % (ns.length : Int) < ns.length := ⟨Int.emod_nonneg _ (by omega), Int.emod_lt_of_pos _ (by omega)⟩
      refine st_ret S (init_len hv (Nat.le_of_ble_eq_true rfl)) (ev_call0 (av_cons (ev_ixL (ev_var rfl) (ev_iC (ev_var rfl) (ev_len (ev_var rfl) rfl rfl) (by simp only [iD, List.length_map]; omega)) rfl (atI_ints (by simpa [iD] using hk.1) (by simpa [iD] using hk.2))) (av_cons (ev_var rfl) av_nil)) rfl ⟨_, k, rfl, h0, h1, ?_⟩) rfl q
      simp only [iD, List.length_map]
  · exact h.elim


/-! ### texts, keys, words -/
def KS : Str := Str.ofString "abcdefghijklmnopqrstuvwxyz0123456789"
def allIn (sg : Str) (lo hi : Nat) : PyData → Bool
  | .str z => (decide (lo ≤ z.length) && decide (z.length ≤ hi)) && z.cps.toList.all fun c => decide (c ∈ sg.cps.toList)
  | _ => false
def isWord : PyData → Bool := allIn KS 1 2000
theorem str_toL (z : Str) : z.length = z.cps.toList.length := by simp [Str.length]
theorem got_signs (z : Str) (φ : Nat → PyData) : Fh.got (fun k => some (φ (z.cps.toList.getD k 0))) z.length = z.cps.toList.map φ := by
  rw [str_toL]
  exact got_map z.cps.toList 0 φ
theorem sign_at {z : Str} {k c : Nat} (h : z.cps[k]? = some c) : z.cps.toList.getD k 0 = c := by
  simp [List.getD, h]
theorem all_signs (L : List Nat) (p : Nat → Bool) : ((L.map p).all id) = L.all p := by
  rw [List.all_map]
  rfl
def Short (d : PyData) : Prop := ∀ z, d = .str z → z.length ≤ 100000
theorem len_str {z : Str} (h : Short (.str z)) : lenD (.str z) = some z.length := if_pos (by have := h z rfl; rw [sizeLine_eq]; omega)
def R_isword (ds : List PyData) (r : Sl) : Prop := ∃ d, ds = [d] ∧ Short d ∧ r = .dt (.bool (isWord d))
theorem ok_is_word {f : Addr} {fd : FuncData} (F : Fun K "is_word" "is_word" s_is_word f fd) (T : Txt K mg CB CAsk CWord CStart CRow CNear CBoth CEither CNot) : FnOk P w K mg base (L2.CX P w) 1 f fd ["thing"] (spF K R_isword noX) := by
  refine F.okX sc_is_word (spF_len (n := 1) (by walk_at "sl") (by rintro _ _ ⟨⟩)) (fun cdv A outer s H vs Q E hr h => ?_)
  obtain ⟨F0, ds, fh, hv, ⟨r, ⟨d, rfl, hsh, rfl⟩, q⟩ | ⟨_, h, _⟩⟩ := h
  · --
    have S := Sts.init (N := ["thing", "sign"]) fh hv
    have hu : (A.deeper (envOfC "is_word" (defScope s_is_word) s.heap.objs.size f cdv)).units + 64 < cLine := hr.units
    refine ⟨_, (pss_cons (ps_if (PW.pt (pw_or (pt_not (pt_val (pe_callB (id := "isinstance") (r := rIsi K) call_isi (by rfl) T.isinstance (by decide +kernel) (pa_cons (pv 0) (pa_cons (pe_bltn (v := .ty "str") (by rfl) T.str (by decide +kernel) rfl) pa_nil))))) (pw_or1 (pt_not (pt_chain op_le op_le pe_int (pe_callB (id := "len") (r := rLenR K) call_lenR (by rfl) T.len (by decide +kernel) (pa_cons (pv 0) pa_nil)) (pe_globI (by rfl) T.g_MOST_SIGNS)))))) (pss_one (ps_ret pe_bl)) pss_nil)
          (pss_one (ps_ret (pe_callB (id := "all") (r := rAll K) (cr_all rfl) (by rfl) T.all (by decide +kernel) (pa_cons (pe_lc (own := [("sign", 1)]) (g := (gName 1)) (tt := tYes) rfl sc_is_word.nd (pi_str (pv 0)) (blkOk_by (own := [("sign", 1)]) (N := ["thing", "sign"]) (sc := defScope s_is_word) (by decide +kernel)) (fun _ _ _ _ _ => pg_name (i := 1) sc_is_word.nd rfl (Or.inl rfl)) (fun _ _ _ _ _ => pts_nil) (fun _ _ _ _ _ => (pe_cmpR (r := rInS) op_inS (pv 1) (pe_globS (by rfl) T.g_KEY_SIGNS) (by rfl)))) pa_nil))))), ?_⟩
    cases d with
    | str z =>
      have e : isWord (.str z) = ((decide (1 ≤ z.length) && decide (z.length ≤ 2000)) && z.cps.toList.all fun c => decide (c ∈ KS.cps.toList)) := rfl
      have ec : (decide ((1 : Int) ≤ (z.length : Int)) && decide ((z.length : Int) ≤ 2000)) = (decide (1 ≤ z.length) && decide (z.length ≤ 2000)) := by
        congr 1
        · exact decide_eq_decide.mpr (by omega)
        · exact decide_eq_decide.mpr (by omega)
      refine q_when S (init_len hv (Nat.le_of_ble_eq_true rfl)) (b := !(decide (1 ≤ z.length) && decide (z.length ≤ 2000))) (tv_or (a := false) (.to (tv_not (tv_B (ev_isi (ev_var rfl) rfl (kit_str _)))) rfl) fun _ => (tv_not (.to (tv_test (ev_chain ev_int (ev_len (ev_var rfl) rfl (len_str hsh)) fun _ => ev_int)) ec))) (fun hb F' H' S => ?_) (fun hb F' H' S => ?_)
      · have h1 : (decide (1 ≤ z.length) && decide (z.length ≤ 2000)) = false := by rw [Bool.not_eq_true'] at hb; exact hb
        rw [e, h1] at q
        exact st_ret S (init_len hv (Nat.le_of_ble_eq_true rfl)) ev_bl rfl q
      · have h1 : (decide (1 ≤ z.length) && decide (z.length ≤ 2000)) = true := by rw [Bool.not_eq_false'] at hb; exact hb
        have h2 := of_decide_eq_true (Bool.and_eq_true _ _ ▸ h1 : _ ∧ _).2
        rw [e, h1, Bool.true_and] at q
        refine st_ret S (init_len hv (Nat.le_of_ble_eq_true rfl)) (.toD (ev_all (bs := z.cps.toList.map fun c => decide (c ∈ KS.cps.toList)) (.to (ev_lcS (fun k => some (.bool (decide (z.cps.toList.getD k 0 ∈ KS.cps.toList)))) (ev_var rfl) rfl (in1 (Nat.le_of_ble_eq_true rfl)) (by omega) fun k c hc => ?_) (congrArg Sl.ls ((got_signs z fun c => .bool (decide (c ∈ KS.cps.toList))).trans (by rw [List.map_map]; rfl)))) rfl) (by rw [all_signs])) rfl q
        rw [sign_at hc]
        exact ⟨_, gt_name (Nat.le_of_ble_eq_true rfl), tv_yes, fun _ => (ev_inS (ev_var rfl) ev_str)⟩
    | _ =>
      refine q_when S (init_len hv (Nat.le_of_ble_eq_true rfl)) (b := true) (tv_or (a := true) (b := true) (.to (tv_not (tv_B (ev_isi (ev_var rfl) rfl (kit_str _)))) rfl) fun h => nomatch h) (fun hb F' H' S => ?_) (fun hb => nomatch hb)
      exact st_ret S (init_len hv (Nat.le_of_ble_eq_true rfl)) ev_bl rfl q
  · exact h.elim
/-! ### questions: a tree of small objects -/
def qa (a b c d e f g : Addr) : Kd → Addr
  | .word => a
  | .start => b
  | .row => c
  | .near => d
  | .both => e
  | .either => f
  | .no => g
theorem ok_Word_init {f : Addr} {fd : FuncData} (F : Fun K "__init__" "Word.__init__" s_Word___init__ f fd) (T : Txt K mg CB CAsk CWord CStart CRow CNear CBoth CEither CNot) : FnOk P w K mg base (L2.CX P w) 1 f fd ["self", "word"] (spI CWord ["word"]) := by
  refine F.okX sc_Word___init__ (spI_len rfl) (fun cdv A outer s H vs Q E hr h => ?_)
  obtain ⟨p, dx, ws, rfl, hl, hp, q⟩ := h
  match ws, hl, q with
  | [x], _, q =>
  refine ⟨_, (pss_one (ps_fld (pv 0) (pv 1) rfl)), ?_⟩
  exact ⟨x, rfl, _, rfl, p, CWord, dx, [], rfl, hp, T.cl_Word, T.n_Word_word, by decide, q⟩
theorem ok_Start_init {f : Addr} {fd : FuncData} (F : Fun K "__init__" "Start.__init__" s_Start___init__ f fd) (T : Txt K mg CB CAsk CWord CStart CRow CNear CBoth CEither CNot) : FnOk P w K mg base (L2.CX P w) 1 f fd ["self", "word"] (spI CStart ["word"]) := by
  refine F.okX sc_Start___init__ (spI_len rfl) (fun cdv A outer s H vs Q E hr h => ?_)
  obtain ⟨p, dx, ws, rfl, hl, hp, q⟩ := h
  match ws, hl, q with
  | [x], _, q =>
  refine ⟨_, (pss_one (ps_fld (pv 0) (pv 1) rfl)), ?_⟩
  exact ⟨x, rfl, _, rfl, p, CStart, dx, [], rfl, hp, T.cl_Start, T.n_Start_word, by decide, q⟩
theorem ok_Not_init {f : Addr} {fd : FuncData} (F : Fun K "__init__" "Not.__init__" s_Not___init__ f fd) (T : Txt K mg CB CAsk CWord CStart CRow CNear CBoth CEither CNot) : FnOk P w K mg base (L2.CX P w) 1 f fd ["self", "one"] (spI CNot ["one"]) := by
  refine F.okX sc_Not___init__ (spI_len rfl) (fun cdv A outer s H vs Q E hr h => ?_)
  obtain ⟨p, dx, ws, rfl, hl, hp, q⟩ := h
  match ws, hl, q with
  | [x], _, q =>
  refine ⟨_, (pss_one (ps_fld (pv 0) (pv 1) rfl)), ?_⟩
  exact ⟨x, rfl, _, rfl, p, CNot, dx, [], rfl, hp, T.cl_Not, T.n_Not_one, by decide, q⟩
theorem pf2 {x y : V} : putF ("other" : Str) y [(("one" : Str), x)] = [(("one" : Str), x), ("other", y)] := by
  show (if ("one" : Str) = "other" then [(("one" : Str), y)] else (("one" : Str), x) :: [(("other" : Str), y)]) = _
  rw [if_neg (by decide +kernel)]
theorem pf3 {x y z : V} : putF ("far" : Str) z [(("one" : Str), x), ("other", y)] = [(("one" : Str), x), ("other", y), ("far", z)] := by
  show (if ("one" : Str) = "far" then _ else (("one" : Str), x) :: (if ("other" : Str) = "far" then _ else (("other" : Str), y) :: [(("far" : Str), z)])) = _
  rw [if_neg (by decide +kernel), if_neg (by decide +kernel)]
theorem ok_Pair_init {C : Addr} (cC : Cls K C) (n1 : NoAttr K C "one") (n2 : NoAttr K C "other") {f : Addr} {fd : FuncData} (F : Fun K "__init__" "Pair.__init__" s_Pair___init__ f fd) (T : Txt K mg CB CAsk CWord CStart CRow CNear CBoth CEither CNot) : FnOk P w K mg base (L2.CX P w) 1 f fd ["self", "one", "other"] (spI C ["one", "other"]) := by
  refine F.okX sc_Pair___init__ (spI_len rfl) (fun cdv A outer s H vs Q E hr h => ?_)
  obtain ⟨p, dx, ws, rfl, hl, hp, q⟩ := h
  match ws, hl, q with
  | [x, y], _, q =>
  refine ⟨_, (pss_cons (ps_fld (pv 0) (pv 1) rfl)
        (pss_one (ps_fld (pv 0) (pv 2) rfl))), ?_⟩
  refine ⟨x, rfl, _, rfl, p, C, dx, [], rfl, hp, cC, n1, (Nat.le_of_ble_eq_true rfl), ?_⟩
  refine ⟨y, rfl, _, rfl, p, C, dx, [("one", x)], rfl, upd_same, cC, n2, (Nat.le_of_ble_eq_true rfl), ?_⟩
  rw [upd_upd, pf2]
  exact q
theorem ok_Near_init {f : Addr} {fd : FuncData} (F : Fun K "__init__" "Near.__init__" s_Near___init__ f fd) (T : Txt K mg CB CAsk CWord CStart CRow CNear CBoth CEither CNot) : FnOk P w K mg base (L2.CX P w) 1 f fd ["self", "one", "other", "far"] (spI CNear ["one", "other", "far"]) := by
  refine F.okX sc_Near___init__ (spI_len rfl) (fun cdv A outer s H vs Q E hr h => ?_)
  obtain ⟨p, dx, ws, rfl, hl, hp, q⟩ := h
  match ws, hl, q with
  | [x, y, z], _, q =>
  refine ⟨_, (pss_cons (ps_fld (pv 0) (pv 1) rfl)
        (pss_cons (ps_fld (pv 0) (pv 2) rfl)
        (pss_one (ps_fld (pv 0) (pv 3) rfl)))), ?_⟩
  refine ⟨x, rfl, _, rfl, p, CNear, dx, [], rfl, hp, T.cl_Near, T.n_Near_one, (Nat.le_of_ble_eq_true rfl), ?_⟩
  refine ⟨y, rfl, _, rfl, p, CNear, dx, [("one", x)], rfl, upd_same, T.cl_Near, T.n_Near_other, (Nat.le_of_ble_eq_true rfl), ?_⟩
  refine ⟨z, rfl, _, rfl, p, CNear, dx, putF "other" y [("one", x)], rfl, upd_same, T.cl_Near, T.n_Near_far, by rw [pf2]; exact (Nat.le_of_ble_eq_true rfl), ?_⟩
  rw [upd_upd, upd_upd, pf2, pf3]
  exact q
theorem ok_Row_init {f : Addr} {fd : FuncData} (F : Fun K "__init__" "Row.__init__" s_Row___init__ f fd) (T : Txt K mg CB CAsk CWord CStart CRow CNear CBoth CEither CNot) : FnOk P w K mg base (L2.CX P w) 1 f fd ["self", "words"] (spRow K CRow) := by
  refine F.okX sc_Row___init__ (fun vs H Q E ⟨p, dx, t, xs, e, _⟩ => by rw [e]; rfl) (fun cdv A outer s H vs Q E hr h => ?_)
  obtain ⟨p, dx, t, xs, rfl, hp, sq, q⟩ := h
  refine ⟨_, (pss_one (ps_fld (pv 0) (pe_callTy (T := "tuple") (r := rTupR K) call_tupleR (by rfl) T.tuple (by decide +kernel) (pa_cons (pv 1) pa_nil)) rfl)), ?_⟩
  exact ⟨.ref t, rfl, t, xs, rfl, .inr ⟨sq, _, rfl, p, CRow, dx, [], rfl, hp, T.cl_Row, T.n_Row_side_by_side, by decide, q⟩⟩

/-! told -/
/-! kids, leaves, how many -/
def zQ : Qt := .word ""
theorem ok_Ask_kids {k : Kd} (hk3 : k = .word ∨ k = .start ∨ k = .row) {f : Addr} {fd : FuncData} (F : Fun K "kids" "Ask.kids" s_Ask_kids f fd) (T : Txt K mg CB CAsk CWord CStart CRow CNear CBoth CEither CNot) : FnOk P w K mg base (L2.CX P w) 1 f fd ["self"] (spG K (R_kids K (qa CWord CStart CRow CNear CBoth CEither CNot) k) noXG) := by
  refine F.okX sc_Ask_kids (spG_len (n := 1) (by rintro _ _ ⟨q, rfl, _⟩; rfl) (by rintro _ _ ⟨⟩)) (fun cdv A outer s H vs Q E hr h => ?_)
  obtain ⟨F0, as, fh, hv, ⟨r, ⟨q, rfl, hk, hrr⟩, qq⟩ | ⟨_, h, _⟩⟩ := h
  · have e : q.kids = [] := by
      subst hk
      cases q with
      | word w => rfl
      | start w => rfl
      | row w => rfl
      | _ => rcases hk3 with h | h | h <;> cases h
    rw [e] at hrr
    have S := Sts.initG (N := ["self"]) fh hv
    refine ⟨_, (pss_one (ps_ret (pe_lst pa_nil))), ?_⟩
    rcases hrr with rfl | rfl
    · exact st_ret S (init_lenG hv (Nat.le_of_ble_eq_true rfl)) (ev_lstG av_nil rfl (Nat.le_of_ble_eq_true rfl)) rfl qq
    · exact st_ret S (init_lenG hv (Nat.le_of_ble_eq_true rfl)) (ev_lstF av_nil rfl (Nat.le_of_ble_eq_true rfl)) rfl qq
  · exact h.elim
theorem ok_Near_kids {f : Addr} {fd : FuncData} (F : Fun K "kids" "Near.kids" s_Near_kids f fd) (T : Txt K mg CB CAsk CWord CStart CRow CNear CBoth CEither CNot) : FnOk P w K mg base (L2.CX P w) 1 f fd ["self"] (spG K (R_kids K (qa CWord CStart CRow CNear CBoth CEither CNot) .near) noXG) := by
  refine F.okX sc_Near_kids (spG_len (n := 1) (by rintro _ _ ⟨q, rfl, _⟩; rfl) (by rintro _ _ ⟨⟩)) (fun cdv A outer s H vs Q E hr h => ?_)
  obtain ⟨F0, as, fh, hv, ⟨r, ⟨q, rfl, hk, hrr⟩, qq⟩ | ⟨_, h, _⟩⟩ := h
  · cases q with
    | near a b z =>
      have S := Sts.initG (N := ["self"]) fh hv
      refine ⟨_, (pss_one (ps_ret (pe_lst (pa_cons (pe_fld (pv 0) rfl) (pa_cons (pe_fld (pv 0) rfl) pa_nil))))), ?_⟩
      have g1 : EvR K (tFld K (tVar 0) "one") (ssG 1 [askS K (qa CWord CStart CRow CNear CBoth CEither CNot) (.near a b z)]) (askS K (qa CWord CStart CRow CNear CBoth CEither CNot) a) := ev_fldGx (ev_varX rfl) (fun F v ⟨p, dx, x, y, e1, e2, e3, e4⟩ => ⟨p, dx, _, x, e1, e2, lkv_eq, fun F' e => e3.ex e⟩) T.cl_Near T.n_Near_one
      have g2 : EvR K (tFld K (tVar 0) "other") (ssG 1 [askS K (qa CWord CStart CRow CNear CBoth CEither CNot) (.near a b z)]) (askS K (qa CWord CStart CRow CNear CBoth CEither CNot) b) := ev_fldGx (ev_varX rfl) (fun F v ⟨p, dx, x, y, e1, e2, e3, e4⟩ => ⟨p, dx, _, y, e1, e2, (lkv_ne (by decide +kernel)).trans lkv_eq, fun F' e => e4.ex e⟩) T.cl_Near T.n_Near_other
      rcases hrr with rfl | rfl
      · exact st_ret S (init_lenG hv (Nat.le_of_ble_eq_true rfl)) (ev_lstG (av_cons g1 (av_cons g2 av_nil)) rfl (Nat.le_of_ble_eq_true rfl)) rfl qq
      · exact st_ret S (init_lenG hv (Nat.le_of_ble_eq_true rfl)) (ev_lstF (av_cons g1 (av_cons g2 av_nil)) rfl (Nat.le_of_ble_eq_true rfl)) rfl qq
    | _ => cases hk
  · exact h.elim
theorem ok_Not_kids {f : Addr} {fd : FuncData} (F : Fun K "kids" "Not.kids" s_Not_kids f fd) (T : Txt K mg CB CAsk CWord CStart CRow CNear CBoth CEither CNot) : FnOk P w K mg base (L2.CX P w) 1 f fd ["self"] (spG K (R_kids K (qa CWord CStart CRow CNear CBoth CEither CNot) .no) noXG) := by
  refine F.okX sc_Not_kids (spG_len (n := 1) (by rintro _ _ ⟨q, rfl, _⟩; rfl) (by rintro _ _ ⟨⟩)) (fun cdv A outer s H vs Q E hr h => ?_)
  obtain ⟨F0, as, fh, hv, ⟨r, ⟨q, rfl, hk, hrr⟩, qq⟩ | ⟨_, h, _⟩⟩ := h
  · cases q with
    | no a =>
      have S := Sts.initG (N := ["self"]) fh hv
      refine ⟨_, (pss_one (ps_ret (pe_lst (pa_cons (pe_fld (pv 0) rfl) pa_nil)))), ?_⟩
      have g1 : EvR K (tFld K (tVar 0) "one") (ssG 1 [askS K (qa CWord CStart CRow CNear CBoth CEither CNot) (.no a)]) (askS K (qa CWord CStart CRow CNear CBoth CEither CNot) a) := ev_fldGx (ev_varX rfl) (fun F v ⟨p, dx, x, e1, e2, e3⟩ => ⟨p, dx, _, x, e1, e2, lkv_eq, fun F' e => e3.ex e⟩) T.cl_Not T.n_Not_one
      rcases hrr with rfl | rfl
      · exact st_ret S (init_lenG hv (Nat.le_of_ble_eq_true rfl)) (ev_lstG (av_cons g1 av_nil) rfl (Nat.le_of_ble_eq_true rfl)) rfl qq
      · exact st_ret S (init_lenG hv (Nat.le_of_ble_eq_true rfl)) (ev_lstF (av_cons g1 av_nil) rfl (Nat.le_of_ble_eq_true rfl)) rfl qq
    | _ => cases hk
  · exact h.elim
theorem ok_Pair_kids {k : Kd} (hk2 : k = .both ∨ k = .either) {f : Addr} {fd : FuncData} (F : Fun K "kids" "Pair.kids" s_Pair_kids f fd) (T : Txt K mg CB CAsk CWord CStart CRow CNear CBoth CEither CNot) : FnOk P w K mg base (L2.CX P w) 1 f fd ["self"] (spG K (R_kids K (qa CWord CStart CRow CNear CBoth CEither CNot) k) noXG) := by
  refine F.okX sc_Pair_kids (spG_len (n := 1) (by rintro _ _ ⟨q, rfl, _⟩; rfl) (by rintro _ _ ⟨⟩)) (fun cdv A outer s H vs Q E hr h => ?_)
  obtain ⟨F0, as, fh, hv, ⟨r, ⟨q, rfl, hk, hrr⟩, qq⟩ | ⟨_, h, _⟩⟩ := h
  · have S := Sts.initG (N := ["self"]) fh hv
    refine ⟨_, (pss_one (ps_ret (pe_lst (pa_cons (pe_fld (pv 0) rfl) (pa_cons (pe_fld (pv 0) rfl) pa_nil))))), ?_⟩
    subst hk
    cases q with
    | both a b =>
      have g1 : EvR K (tFld K (tVar 0) "one") (ssG 1 [askS K (qa CWord CStart CRow CNear CBoth CEither CNot) (.both a b)]) (askS K (qa CWord CStart CRow CNear CBoth CEither CNot) a) := ev_fldGx (ev_varX rfl) (fun F v ⟨p, dx, x, y, e1, e2, e3, e4⟩ => ⟨p, dx, _, x, e1, e2, lkv_eq, fun F' e => e3.ex e⟩) T.cl_Both T.n_Both_one
      have g2 : EvR K (tFld K (tVar 0) "other") (ssG 1 [askS K (qa CWord CStart CRow CNear CBoth CEither CNot) (.both a b)]) (askS K (qa CWord CStart CRow CNear CBoth CEither CNot) b) := ev_fldGx (ev_varX rfl) (fun F v ⟨p, dx, x, y, e1, e2, e3, e4⟩ => ⟨p, dx, _, y, e1, e2, (lkv_ne (by decide +kernel)).trans lkv_eq, fun F' e => e4.ex e⟩) T.cl_Both T.n_Both_other
      rcases hrr with rfl | rfl
      · exact st_ret S (init_lenG hv (Nat.le_of_ble_eq_true rfl)) (ev_lstG (av_cons g1 (av_cons g2 av_nil)) rfl (Nat.le_of_ble_eq_true rfl)) rfl qq
      · exact st_ret S (init_lenG hv (Nat.le_of_ble_eq_true rfl)) (ev_lstF (av_cons g1 (av_cons g2 av_nil)) rfl (Nat.le_of_ble_eq_true rfl)) rfl qq
    | either a b =>
      have g1 : EvR K (tFld K (tVar 0) "one") (ssG 1 [askS K (qa CWord CStart CRow CNear CBoth CEither CNot) (.either a b)]) (askS K (qa CWord CStart CRow CNear CBoth CEither CNot) a) := ev_fldGx (ev_varX rfl) (fun F v ⟨p, dx, x, y, e1, e2, e3, e4⟩ => ⟨p, dx, _, x, e1, e2, lkv_eq, fun F' e => e3.ex e⟩) T.cl_Either T.n_Either_one
      have g2 : EvR K (tFld K (tVar 0) "other") (ssG 1 [askS K (qa CWord CStart CRow CNear CBoth CEither CNot) (.either a b)]) (askS K (qa CWord CStart CRow CNear CBoth CEither CNot) b) := ev_fldGx (ev_varX rfl) (fun F v ⟨p, dx, x, y, e1, e2, e3, e4⟩ => ⟨p, dx, _, y, e1, e2, (lkv_ne (by decide +kernel)).trans lkv_eq, fun F' e => e4.ex e⟩) T.cl_Either T.n_Either_other
      rcases hrr with rfl | rfl
      · exact st_ret S (init_lenG hv (Nat.le_of_ble_eq_true rfl)) (ev_lstG (av_cons g1 (av_cons g2 av_nil)) rfl (Nat.le_of_ble_eq_true rfl)) rfl qq
      · exact st_ret S (init_lenG hv (Nat.le_of_ble_eq_true rfl)) (ev_lstF (av_cons g1 (av_cons g2 av_nil)) rfl (Nat.le_of_ble_eq_true rfl)) rfl qq
    | _ => rcases hk2 with h | h <;> cases h
  · exact h.elim
theorem cnt_kids (q : Qt) : (1 : Int) + (q.kids.map fun a : Qt => (a.cnt : Int)).sum = (q.cnt : Int) := by
  cases q with
  | near a b z => show (1 : Int) + ((a.cnt : Int) + ((b.cnt : Int) + 0)) = ((1 + (a.cnt + b.cnt) : Nat) : Int); omega
  | both a b => show (1 : Int) + ((a.cnt : Int) + ((b.cnt : Int) + 0)) = ((1 + (a.cnt + b.cnt) : Nat) : Int); omega
  | either a b => show (1 : Int) + ((a.cnt : Int) + ((b.cnt : Int) + 0)) = ((1 + (a.cnt + b.cnt) : Nat) : Int); omega
  | no a => show (1 : Int) + ((a.cnt : Int) + 0) = ((1 + a.cnt : Nat) : Int); omega
  | _ => rfl
theorem kids_le (q : Qt) : q.kids.length ≤ 2 := by cases q <;> simp [Qt.kids]
theorem ok_many_asks {n : Nat} {f : Addr} {fd : FuncData} (F : Fun K "many_asks" "many_asks" s_many_asks f fd) (T : Txt K mg CB CAsk CWord CStart CRow CNear CBoth CEither CNot) (ck : ∀ k, Cls K ((qa CWord CStart CRow CNear CBoth CEither CNot) k)) (dk_kids : ∀ k, DefM P w K mg base 1 ((qa CWord CStart CRow CNear CBoth CEither CNot) k) "kids" ["self"] (spG K (R_kids K (qa CWord CStart CRow CNear CBoth CEither CNot) k) noXG) []) (d_many_asks : DefOk P w K mg base (n + 1) "many_asks" ["ask"] (spG K (R_many K (qa CWord CStart CRow CNear CBoth CEither CNot) n) noXG) []) : FnOk P w K mg base (L2.CX P w) (n + 2) f fd ["ask"] (spG K (R_many K (qa CWord CStart CRow CNear CBoth CEither CNot) (n + 1)) noXG) := by
  refine F.okX sc_many_asks (spG_len (n := 1) (by rintro _ _ ⟨q, rfl, _⟩; rfl) (by rintro _ _ ⟨⟩)) (fun cdv A outer s H vs Q E hr h => ?_)
  obtain ⟨F0, as, fh, hv, ⟨r, ⟨q, rfl, hd, rfl⟩, qq⟩ | ⟨_, h, _⟩⟩ := h
  · have S := Sts.initG (N := ["ask", "kid"]) fh hv
    refine ⟨_, (pss_one (ps_ret (pe_op op_add pe_int (pe_callB (id := "sum") (r := rSum K) (cr_sum rfl) (by rfl) T.sum (by decide +kernel) (pa_cons (pe_lc (own := [("kid", 1)]) (g := (gName 1)) (tt := tYes) rfl sc_many_asks.nd (pi_list (pe_any fun k => pe_methO0 (dk_kids k) (pv 0) (ck k) (hr.mono (by omega)) passL)) (blkOk_by (own := [("kid", 1)]) (N := ["ask", "kid"]) (sc := defScope s_many_asks) (by decide +kernel)) (fun _ _ _ _ _ => pg_name (i := 1) sc_many_asks.nd rfl (Or.inl rfl)) (fun _ _ _ _ _ => pts_nil) (fun _ _ _ _ _ => (pe_own d_many_asks (hr.mono (by omega)) (by rfl) passL (pa_cons (pv 1) pa_nil)))) pa_nil))))), ?_⟩
    have hkl := kids_le q
    refine st_ret S (init_lenG hv (Nat.le_of_ble_eq_true rfl)) (.toD (ev_ii (f := fun i j => i + j) ev_int (ev_sum (ns := q.kids.map fun a : Qt => (a.cnt : Int)) (.to (ev_lcF (i := 1) (as := askL K (qa CWord CStart CRow CNear CBoth CEither CNot) q.kids) (fun k => some (.int ((q.kids.getD k zQ).cnt : Int))) (ev_kidsF (ev_varX rfl)) rfl (Nat.le_of_ble_eq_true rfl) (by show (List.map _ _).length ≤ _; rw [List.length_map]; omega) fun k a hka => ⟨tv_yes, fun _ => ?_⟩) (congrArg Sl.ls ?_)) rfl)) (congrArg PyData.int (cnt_kids q))) rfl qq
    · obtain ⟨hk, rfl⟩ := map_at (φ := askS K (qa CWord CStart CRow CNear CBoth CEither CNot)) zQ hka
      have hmem : q.kids.getD k zQ ∈ q.kids := Fh.getD_mem hk
      have := Qt.kid_dep hmem
      exact ev_callG (R := R_many K (qa CWord CStart CRow CNear CBoth CEither CNot) n) (X := noXG) (av_cons (ev_varX rfl) av_nil) rfl ⟨_, rfl, by omega, rfl⟩
    · show Fh.got _ (List.map _ _).length = _
      rw [List.length_map, got_map q.kids zQ fun a => PyData.int (a.cnt : Int), List.map_map]
      rfl
  · exact h.elim

/-! a question of what is told -/
mutual
def shortD : PyData → Bool
  | .str z => decide (z.length ≤ 100000)
  | .tuple ds => shortAll ds
  | .list ds => shortAll ds
  | _ => true
def shortAll : List PyData → Bool
  | [] => true
  | d :: ds => shortD d && shortAll ds
end
theorem shortAll_at : ∀ {ds : List PyData} {k : Nat} {x : PyData}, shortAll ds = true → ds[k]? = some x → shortD x = true
  | [], _, _, _, e => by simp at e
  | d :: ds, 0, x, h, e => by
    cases e
    unfold shortAll at h
    rw [Bool.and_eq_true] at h
    exact h.1
  | d :: ds, k + 1, x, h, e => by
    unfold shortAll at h
    rw [Bool.and_eq_true] at h
    exact shortAll_at (k := k) h.2 (by simpa using e)
theorem short_of {d : PyData} (h : shortD d = true) : Short d := fun z e => by
  subst e
  exact of_decide_eq_true h
theorem word_str {d : PyData} (h : isWord d = true) : ∃ z, d = .str z := by
  cases d with
  | str z => exact ⟨z, rfl⟩
  | _ => cases h
def strsOf (ds : List PyData) : List Str := ds.filterMap fun d => match d with
  | .str z => some z
  | _ => none
theorem strsOf_map {ds : List PyData} (h : ds.all isWord = true) : (strsOf ds).map PyData.str = ds := by
  induction ds with
  | nil => rfl
  | cons d ds ih =>
    rw [List.all_cons, Bool.and_eq_true] at h
    obtain ⟨z, rfl⟩ := word_str h.1
    show PyData.str z :: (strsOf ds).map PyData.str = _
    rw [ih h.2]
def plainP (s : Str) (x : PyData) : Option Qt :=
    if s = "row" then (match x with
      | .tuple ws => if 2 ≤ ws.length ∧ ws.length ≤ 8 ∧ ws.all isWord = true then some (.row (strsOf ws)) else none
      | _ => none)
    else if s = "word" ∨ s = "start" then (match x with
      | .str z => if isWord (.str z) = true then some (if s = "word" then .word z else .start z) else none
      | _ => none)
    else none
def plainF : PyData → Option Qt
  | .tuple [.str s, x] => plainP s x
  | _ => none
def R_nask (ds : List PyData) (r : Sl) : Prop := ds = [.bool true] ∧ r = .dt .none
def X_nask (CB : Addr) (ds : List PyData) (C : Addr) : Prop := ds = [.bool false] ∧ C = CB
theorem ok_need_ask {f : Addr} {fd : FuncData} (F : Fun K "need_ask" "need_ask" s_need_ask f fd) (T : Txt K mg CB CAsk CWord CStart CRow CNear CBoth CEither CNot) : FnOk P w K mg base (L2.CX P w) 1 f fd ["good"] (spF K R_nask (X_nask CB)) := by
  refine F.okX sc_need_ask (spF_len (n := 1) (by walk_at "sl") (by walk_at "sl")) (fun cdv A outer s H vs Q E hr h => ?_)
  obtain ⟨F0, ds, fh, hv, ⟨r, ⟨rfl, rfl⟩, q⟩ | ⟨C, ⟨rfl, rfl⟩, q⟩⟩ := h
  · --
    have S := Sts.init (N := ["good"]) fh hv
    have hu : (A.deeper (envOfC "need_ask" (defScope s_need_ask) s.heap.objs.size f cdv)).units + 64 < cLine := hr.units
    refine ⟨_, (pss_one (ps_if (pt_not (pt_val (pv 0))) (pss_one (ps_raise rfl (takes_of rfl rfl rfl rfl) (pmk_own PySem.F.excBase_ValueError T.x_BadAsk T.c_BadAsk T.k_BadAsk (raises_own T.b_BadAsk T.t_BadAsk) rfl))) pss_nil)), ?_⟩
    exact st_when S (init_len hv (Nat.le_of_ble_eq_true rfl)) (b := false) (.to (tv_not (tv_B (ev_var rfl))) rfl) (fun hb => nomatch hb) (fun hb F' H' S => q.dtE S.hh .non)
  · --
    have S := Sts.init (N := ["good"]) fh hv
    have hu : (A.deeper (envOfC "need_ask" (defScope s_need_ask) s.heap.objs.size f cdv)).units + 64 < cLine := hr.units
    refine ⟨_, (pss_one (ps_if (pt_not (pt_val (pv 0))) (pss_one (ps_raise rfl (takes_of rfl rfl rfl rfl) (pmk_own PySem.F.excBase_ValueError T.x_BadAsk T.c_BadAsk T.k_BadAsk (raises_own T.b_BadAsk T.t_BadAsk) rfl))) pss_nil)), ?_⟩
    exact st_when S (init_len hv (Nat.le_of_ble_eq_true rfl)) (b := true) (.to (tv_not (tv_B (ev_var rfl))) rfl) (fun hb F' H' S => q H' S.hh) (fun hb => nomatch hb)
theorem tup_or (d : PyData) : isTupleB d = false ∨ ∃ ds, d = .tuple ds := by
  cases d with
  | tuple ds => exact .inr ⟨ds, rfl⟩
  | _ => exact .inl rfl
theorem str_or (d : PyData) : isStrB d = false ∨ ∃ z, d = .str z := by
  cases d with
  | str z => exact .inr ⟨z, rfl⟩
  | _ => exact .inl rfl
theorem plainF_2 {z : Str} {x : PyData} : plainF (.tuple [.str z, x]) = plainP z x := rfl
theorem plainF_tup {ds : List PyData} (h : ds.length ≠ 2) : plainF (.tuple ds) = none := by
  unfold plainF
  split
  · rename_i e
    cases e
    exact absurd rfl h
  · rfl
def R_plain (K : PySem.W.Frag) (A : Kd → Addr) (ds : List PyData) (r : Sl) : Prop := ∃ (d : PyData) (q : Qt), ds = [d] ∧ shortD d = true ∧ plainF d = some q ∧ r = askS K A q
def X_plain (CB : Addr) (ds : List PyData) (C : Addr) : Prop := ∃ d : PyData, ds = [d] ∧ shortD d = true ∧ plainF d = none ∧ C = CB
theorem all_words (L : List PyData) : Fh.got (fun k => some (PyData.bool (isWord (L.getD k .none)))) L.length = (L.map isWord).map PyData.bool := by
  rw [got_map L .none fun d => PyData.bool (isWord d), List.map_map]
  rfl
theorem ok_plain_of {f : Addr} {fd : FuncData} (F : Fun K "plain_of" "plain_of" s_plain_of f fd) (T : Txt K mg CB CAsk CWord CStart CRow CNear CBoth CEither CNot)
    (d_need_ask : DefOk P w K mg base 1 "need_ask" ["good"] (spF K R_nask (X_nask CB)) [])
    (d_is_word : DefOk P w K mg base 1 "is_word" ["thing"] (spF K R_isword noX) [])
    (d_Row___init__ : DefC P w K mg base 1 CRow "Row" ["self", "words"] (spRow K CRow) [])
    (d_Word___init__ : DefC P w K mg base 1 CWord "Word" ["self", "word"] (spI CWord ["word"]) [])
    (d_Start___init__ : DefC P w K mg base 1 CStart "Start" ["self", "word"] (spI CStart ["word"]) []) : FnOk P w K mg base (L2.CX P w) 3 f fd ["told"] (spF K (R_plain K (qa CWord CStart CRow CNear CBoth CEither CNot)) (X_plain CB)) := by
  refine F.okX sc_plain_of (spF_len (n := 1) (by rintro _ _ ⟨d, q, rfl, _⟩; rfl) (by rintro _ _ ⟨d, rfl, _⟩; rfl)) (fun cdv A outer s H vs Q E hr h => ?_)
  obtain ⟨F0, ds, fh, hv, h⟩ := h
  obtain ⟨d, hds, hsh⟩ : ∃ d, ds = [d] ∧ shortD d = true := by
    rcases h with ⟨r, ⟨d, q, e, e2, _⟩, _⟩ | ⟨C, ⟨d, e, e2, _⟩, _⟩
    · exact ⟨d, e, e2⟩
    · exact ⟨d, e, e2⟩
  subst hds
  have hX : plainF d = none → ∀ H', Ex H H' → E (.ref CB) none H' := fun hn => by
    rcases h with ⟨r, ⟨d', q, e, e2, e3, _⟩, _⟩ | ⟨C, ⟨d', e, e2, e3, e4⟩, q⟩
    · cases e
      rw [hn] at e3
      cases e3
    · subst e4
      exact q
  have hR : ∀ q, plainF d = some q → RetR K F0 H (askS K (qa CWord CStart CRow CNear CBoth CEither CNot) q) Q := fun q hq => by
    rcases h with ⟨r, ⟨d', q', e, e2, e3, e4⟩, k⟩ | ⟨C, ⟨d', e, e2, e3, e4⟩, _⟩
    · cases e
      rw [hq] at e3
      cases e3
      rw [← e4]
      exact k
    · cases e
      rw [hq] at e3
      cases e3
  have S := Sts.init (N := ["told", "word"]) fh hv
  have hu : (A.deeper (envOfC "plain_of" (defScope s_plain_of) s.heap.objs.size f cdv)).units + 64 < cLine := hr.units
  refine ⟨_, (pss_cons (ps_expr (pe_own d_need_ask (hr.mono (by decide)) (by rfl) (passes_call (takes_of rfl rfl rfl rfl) (fun _ _ _ _ h => h)) (pa_cons (pe_and (pe_callB (id := "isinstance") (r := rIsi K) call_isi (by rfl) T.isinstance (by decide +kernel) (pa_cons (pv 0) (pa_cons (pe_bltn (v := .ty "tuple") (by rfl) T.tuple (by decide +kernel) rfl) pa_nil))) (pe_and (pe_cmpR (r := rEqP K) (op_eqP hu) (pe_callB (id := "len") (r := rLenR K) call_lenR (by rfl) T.len (by decide +kernel) (pa_cons (pv 0) pa_nil)) pe_int (nomark _)) (pe_one (pe_callB (id := "isinstance") (r := rIsi K) call_isi (by rfl) T.isinstance (by decide +kernel) (pa_cons (pe_ix (r := rIxT K) ix_tup (pv 0) pe_int (fun _ _ => rfl)) (pa_cons (pe_bltn (v := .ty "str") (by rfl) T.str (by decide +kernel) rfl) pa_nil)))))) pa_nil)))
        (pss_cons (ps_if (pt_cmpR (r := rEqP K) (op_eqP hu) (pe_ix (r := rIxT K) ix_tup (pv 0) pe_int (fun _ _ => rfl)) pe_str (nomark _)) (pss_cons (ps_expr (pe_own d_need_ask (hr.mono (by decide)) (by rfl) (passes_call (takes_of rfl rfl rfl rfl) (fun _ _ _ _ h => h)) (pa_cons (pe_and (pe_callB (id := "isinstance") (r := rIsi K) call_isi (by rfl) T.isinstance (by decide +kernel) (pa_cons (pe_ix (r := rIxT K) ix_tup (pv 0) pe_int (fun _ _ => rfl)) (pa_cons (pe_bltn (v := .ty "tuple") (by rfl) T.tuple (by decide +kernel) rfl) pa_nil))) (pe_one (pe_chain op_le op_le pe_int (pe_callB (id := "len") (r := rLenR K) call_lenR (by rfl) T.len (by decide +kernel) (pa_cons (pe_ix (r := rIxT K) ix_tup (pv 0) pe_int (fun _ _ => rfl)) pa_nil)) (pe_globI (by rfl) T.g_MOST_SIDE)))) pa_nil)))
        (pss_cons (ps_expr (pe_own d_need_ask (hr.mono (by decide)) (by rfl) (passes_call (takes_of rfl rfl rfl rfl) (fun _ _ _ _ h => h)) (pa_cons (pe_callB (id := "all") (r := rAll K) (cr_all rfl) (by rfl) T.all (by decide +kernel) (pa_cons (pe_lc (own := [("word", 1)]) (g := (gName 1)) (tt := tYes) rfl sc_plain_of.nd (pi_tup (pe_ix (r := rIxT K) ix_tup (pv 0) pe_int (fun _ _ => rfl))) (blkOk_by (own := [("word", 1)]) (N := ["told", "word"]) (sc := defScope s_plain_of) (by decide +kernel)) (fun _ _ _ _ _ => pg_name (i := 1) sc_plain_of.nd rfl (Or.inl rfl)) (fun _ _ _ _ _ => pts_nil) (fun _ _ _ _ _ => (pe_own d_is_word (hr.mono (by decide)) (by rfl) passL (pa_cons (pv 1) pa_nil)))) pa_nil)) pa_nil)))
        (pss_one (ps_ret (pe_makeO d_Row___init__ (hr.mono (by decide)) (by rfl) passL (pa_cons (pe_ix (r := rIxT K) ix_tup (pv 0) pe_int (fun _ _ => rfl)) pa_nil)))))) pss_nil)
        (pss_cons (ps_expr (pe_own d_need_ask (hr.mono (by decide)) (by rfl) (passes_call (takes_of rfl rfl rfl rfl) (fun _ _ _ _ h => h)) (pa_cons (pe_and (pe_cmpR (r := rInT K) (op_inT hu) (pe_ix (r := rIxT K) ix_tup (pv 0) pe_int (fun _ _ => rfl)) (pe_tup (pa_cons pe_str (pa_cons pe_str pa_nil))) (by rfl)) (pe_one (pe_own d_is_word (hr.mono (by decide)) (by rfl) passL (pa_cons (pe_ix (r := rIxT K) ix_tup (pv 0) pe_int (fun _ _ => rfl)) pa_nil)))) pa_nil)))
        (pss_cons (ps_if (pt_cmpR (r := rEqP K) (op_eqP hu) (pe_ix (r := rIxT K) ix_tup (pv 0) pe_int (fun _ _ => rfl)) pe_str (nomark _)) (pss_one (ps_ret (pe_makeO d_Word___init__ (hr.mono (by decide)) (by rfl) passL (pa_cons (pe_ix (r := rIxT K) ix_tup (pv 0) pe_int (fun _ _ => rfl)) pa_nil)))) pss_nil)
        (pss_one (ps_ret (pe_makeO d_Start___init__ (hr.mono (by decide)) (by rfl) passL (pa_cons (pe_ix (r := rIxT K) ix_tup (pv 0) pe_int (fun _ _ => rfl)) pa_nil)))))))), ?_⟩
  have il : (start ["told", "word"] vs).length = 2 := init_len (N := ["told", "word"]) hv (Nat.le_of_ble_eq_true rfl)
  -- the first look
  rcases tup_or d with ht | ⟨xs, rfl⟩
  · exact Fh.st_seq (st_dropS S (init_len hv (Nat.le_of_ble_eq_true rfl)) (ns_call (R := R_nask) (X := X_nask CB) (C := CB) (es := []) (rs := [.dt (.bool false)]) (av_cons (.toD (ev_and (a := isTupleB d) (b := false) (ev_isi (ev_var rfl) rfl (kit_tuple _)) (fun h => by rw [ht] at h; cases h)) (by rw [ht]; rfl)) av_nil) rfl (fun _ => .nil) ⟨rfl, rfl⟩) fun F' H' S => hX (by cases d <;> first | rfl | cases ht) H' S.hh)
  by_cases hl : xs.length = 2
  case neg =>
    have hle : ((xs.length : Nat) : Int) ≠ 2 := by omega
    exact Fh.st_seq (st_dropS S (init_len hv (Nat.le_of_ble_eq_true rfl)) (ns_call (R := R_nask) (X := X_nask CB) (C := CB) (es := []) (rs := [.dt (.bool false)]) (av_cons (.toD (ev_and (a := true) (b := false) (ev_isi (ev_var rfl) rfl (kit_tuple _)) (fun h => (.toD (ev_and (a := decide ((xs.length : Int) = 2)) (b := false) (ev_eqT (α := Int) (a := (xs.length : Int)) (b := 2) (ev_len (ev_var rfl) rfl rfl) ev_int rfl rfl) (fun h => absurd (of_decide_eq_true h) hle)) (by rw [decide_eq_false hle]; rfl)))) rfl) av_nil) rfl (fun _ => .nil) ⟨rfl, rfl⟩) fun F' H' S => hX (plainF_tup hl) H' S.hh)
  obtain ⟨s0, x, rfl⟩ : ∃ s0 x, xs = [s0, x] := by
    match xs, hl with
    | [a, b], _ => exact ⟨a, b, rfl⟩
  have hx : shortD x = true := shortAll_at (k := 1) (ds := [s0, x]) hsh rfl
  rcases str_or s0 with hs | ⟨z, rfl⟩
  · exact Fh.st_seq (st_dropS S (init_len hv (Nat.le_of_ble_eq_true rfl)) (ns_call (R := R_nask) (X := X_nask CB) (C := CB) (es := []) (rs := [.dt (.bool false)]) (av_cons (.toD (ev_and (a := true) (b := false) (ev_isi (ev_var rfl) rfl (kit_tuple _)) (fun h => (.toD (ev_and (a := true) (b := false) (.toD (ev_eqT (α := Int) (a := 2) (b := 2) (ev_len (n := 2) (ev_var rfl) rfl rfl) ev_int rfl rfl) rfl) (fun h => .toD (ev_isi (ev_ixT (ds := [s0, x]) (ev_var rfl) ev_int rfl rfl) rfl (kit_str _)) (congrArg PyData.bool hs))) rfl))) rfl) av_nil) rfl (fun _ => .nil) ⟨rfl, rfl⟩) fun F' H' S => hX (by cases s0 <;> first | rfl | cases hs) H' S.hh)
  refine q_drop S (init_len hv (Nat.le_of_ble_eq_true rfl)) (ev_call0 (r := .dt .none) (R := R_nask) (X := X_nask CB) (ds := [.bool true]) (av_cons (.toD (ev_and (a := true) (b := true) (ev_isi (ev_var rfl) rfl (kit_tuple _)) (fun h => (.toD (ev_and (a := true) (b := true) (.toD (ev_eqT (α := Int) (a := 2) (b := 2) (ev_len (n := 2) (ev_var rfl) rfl rfl) ev_int rfl rfl) rfl) (fun h => ev_isi (ev_ixT (ds := [.str z, x]) (ev_var rfl) ev_int rfl rfl) rfl (kit_str _))) rfl))) rfl) av_nil) rfl ⟨rfl, rfl⟩) fun F' H' S => ?_
  -- a row
  refine q_when S (init_len hv (Nat.le_of_ble_eq_true rfl)) (b := decide (z = "row")) (tv_test (ev_eqT (α := Str) (a := z) (b := "row") (ev_ixT (ds := [.str z, x]) (ev_var rfl) ev_int rfl rfl) ev_str rfl rfl)) (fun hb F' H' S => ?_) (fun hb F' H' S => ?_)
  · have ez : z = "row" := of_decide_eq_true hb
    rcases tup_or x with ht | ⟨ws, rfl⟩
    · exact Fh.st_seq (st_dropS S (init_len hv (Nat.le_of_ble_eq_true rfl)) (ns_call (R := R_nask) (X := X_nask CB) (C := CB) (es := []) (rs := [.dt (.bool false)]) (av_cons (.toD (ev_and (a := isTupleB x) (b := false) (ev_isi (ev_ixT (ds := [.str z, x]) (ev_var rfl) ev_int rfl rfl) rfl (kit_tuple _)) (fun h => by rw [ht] at h; cases h)) (by rw [ht]; rfl)) av_nil) rfl (fun _ => .nil) ⟨rfl, rfl⟩) fun F' H' S => hX (by rw [plainF_2]; unfold plainP; rw [if_pos ez]; cases x <;> first | rfl | cases ht) H' S.hh)
    have hc : EvR K (tChain (rI0 fun i j => .bl (decide (i ≤ j))) (rI0 fun i j => .bl (decide (i ≤ j))) (tC (.int 2)) (tCB (rLenR K) (tCons (tOp (rIxT K) (tVar 0) (tC (.int 1))) tNil)) (tC (.int 8))) (ssOf 2 [.tuple [.str z, .tuple ws]]) (.dt (.bool (decide ((2 : Int) ≤ (ws.length : Int)) && decide ((ws.length : Int) ≤ 8)))) := ev_chain (f := fun i j => decide (i ≤ j)) (g := fun i j => decide (i ≤ j)) ev_int (ev_len (n := ws.length) (ev_ixT (ds := [.str z, .tuple ws]) (ev_var rfl) ev_int rfl rfl) rfl rfl) fun _ => ev_int
    by_cases hlw : 2 ≤ ws.length ∧ ws.length ≤ 8
    case neg =>
      have hcf : (decide ((2 : Int) ≤ (ws.length : Int)) && decide ((ws.length : Int) ≤ 8)) = false := by
        rw [Bool.and_eq_false_iff, decide_eq_false_iff_not, decide_eq_false_iff_not]
        by_cases h2 : 2 ≤ ws.length
        · exact .inr fun h => hlw ⟨h2, by omega⟩
        · exact .inl fun h => h2 (by omega)
      exact Fh.st_seq (st_dropS S (init_len hv (Nat.le_of_ble_eq_true rfl)) (ns_call (R := R_nask) (X := X_nask CB) (C := CB) (es := []) (rs := [.dt (.bool false)]) (av_cons (.toD (ev_and (a := true) (b := false) (ev_isi (ev_ixT (ds := [.str z, .tuple ws]) (ev_var rfl) ev_int rfl rfl) rfl (kit_tuple _)) (fun h => .toD hc (congrArg PyData.bool hcf))) rfl) av_nil) rfl (fun _ => .nil) ⟨rfl, rfl⟩) fun F' H' S => hX (by rw [plainF_2]; unfold plainP; rw [if_pos ez]; exact if_neg fun h => hlw ⟨h.1, h.2.1⟩) H' S.hh)
    have hct : (decide ((2 : Int) ≤ (ws.length : Int)) && decide ((ws.length : Int) ≤ 8)) = true := by
      rw [Bool.and_eq_true, decide_eq_true_eq, decide_eq_true_eq]
      omega
    refine q_drop S (init_len hv (Nat.le_of_ble_eq_true rfl)) (ev_call0 (r := .dt .none) (R := R_nask) (X := X_nask CB) (ds := [.bool true]) (av_cons (.toD (ev_and (a := true) (b := true) (ev_isi (ev_ixT (ds := [.str z, .tuple ws]) (ev_var rfl) ev_int rfl rfl) rfl (kit_tuple _)) (fun h => .toD hc (congrArg PyData.bool hct))) rfl) av_nil) rfl ⟨rfl, rfl⟩) fun F' H' S => ?_
    have hall : EvR K (tCB (rAll K) (tCons (tLc (iTup K (tOp (rIxT K) (tVar 0) (tC (.int 1)))) (gName 1) tYes (tCall (spF K R_isword noX) [] E0 (tCons (tVar 1) tNil)) [1]) tNil)) (ssOf 2 [.tuple [.str z, .tuple ws]]) (.dt (.bool (ws.all isWord))) := .toD (ev_all (bs := ws.map isWord) (.to (ev_lcT (ds := ws) (fun k => some (.bool (isWord (ws.getD k .none)))) (ev_ixT (ds := [.str z, .tuple ws]) (ev_var rfl) ev_int rfl rfl) rfl (in1 (Nat.le_of_ble_eq_true rfl)) (by omega) fun k d hd => ⟨_, gt_name (Nat.le_of_ble_eq_true rfl), tv_yes, fun _ => by
        have e : ws.getD k .none = d := by simp [List.getD, hd]
        show EvR K _ _ (.dt (.bool (isWord (ws.getD k .none))))
        rw [e]
        exact ev_call0 (R := R_isword) (X := noX) (av_cons (ev_var rfl) av_nil) rfl ⟨d, rfl, short_of (shortAll_at (ds := ws) hx hd), rfl⟩⟩) (congrArg Sl.ls (all_words ws))) rfl) (congrArg PyData.bool (by rw [List.all_map]; rfl))
    cases hw : ws.all isWord with
    | false =>
      rw [hw] at hall
      exact Fh.st_seq (st_dropS S (init_len hv (Nat.le_of_ble_eq_true rfl)) (ns_call (R := R_nask) (X := X_nask CB) (C := CB) (es := []) (rs := [.dt (.bool false)]) (av_cons hall av_nil) rfl (fun _ => .nil) ⟨rfl, rfl⟩) fun F' H' S => hX (by rw [plainF_2]; unfold plainP; rw [if_pos ez]; exact if_neg fun h => by rw [hw] at h; cases h.2.2) H' S.hh)
    | true =>
      rw [hw] at hall
      refine q_drop S (init_len hv (Nat.le_of_ble_eq_true rfl)) (ev_call0 (r := .dt .none) (R := R_nask) (X := X_nask CB) (ds := [.bool true]) (av_cons hall av_nil) rfl ⟨rfl, rfl⟩) fun F' H' S => ?_
      have em := strsOf_map hw
      exact st_ret S (init_len hv (Nat.le_of_ble_eq_true rfl)) (ev_mkRow (A := (qa CWord CStart CRow CNear CBoth CEither CNot)) (ws := strsOf ws) (av_cons (by rw [em]; exact ev_ixT (ds := [.str z, .tuple ws]) (ev_var rfl) ev_int rfl rfl) av_nil)) rfl (hR _ (by rw [plainF_2]; unfold plainP; rw [if_pos ez]; exact if_pos ⟨hlw.1, hlw.2, hw⟩))
  · have ez : ¬ z = "row" := of_decide_eq_false hb
    have hin : EvR K (tOp (rInT K) (tOp (rIxT K) (tVar 0) (tC (.int 0))) (tTup (tCons (tC (.str "word")) (tCons (tC (.str "start")) tNil)))) (ssOf 2 [.tuple [.str z, x]]) (.dt (.bool (decide (z = "word") || decide (z = "start")))) := .toD (ev_inT (d := .str z) (ds := [.str "word", .str "start"]) (ev_ixT (ds := [.str z, x]) (ev_var rfl) ev_int rfl rfl) (ev_tup (av_cons ev_str (av_cons ev_str av_nil)) rfl (Nat.le_of_ble_eq_true rfl)) rfl rfl rfl rfl (Nat.zero_le 60)) (congrArg PyData.bool (by
        have e1 : ∀ y : Str, PyData.eqv (.str y) (.str z) = decide (z = y) := fun y => by
          have := Datum.eqv y z
          rw [show decide (z = y) = decide (y = z) from decide_eq_decide.mpr eq_comm]
          exact this
        show (PyData.eqv _ _ || (PyData.eqv _ _ || false)) = _
        rw [e1, e1, Bool.or_false]))
    have hiw : EvR K (tCall (spF K R_isword noX) [] E0 (tCons (tOp (rIxT K) (tVar 0) (tC (.int 1))) tNil)) (ssOf 2 [.tuple [.str z, x]]) (.dt (.bool (isWord x))) := ev_call0 (R := R_isword) (X := noX) (av_cons (ev_ixT (ds := [.str z, x]) (ev_var rfl) ev_int rfl rfl) av_nil) rfl ⟨x, rfl, short_of hx, rfl⟩
    cases hk : ((decide (z = "word") || decide (z = "start")) && isWord x) with
    | false =>
      refine Fh.st_seq (st_dropS S (init_len hv (Nat.le_of_ble_eq_true rfl)) (ns_call (R := R_nask) (X := X_nask CB) (C := CB) (es := []) (rs := [.dt (.bool false)]) (av_cons (.toD (ev_and hin fun _ => hiw) (congrArg PyData.bool hk)) av_nil) rfl (fun _ => .nil) ⟨rfl, rfl⟩) fun F' H' S => hX ?_ H' S.hh)
      rw [plainF_2]
      unfold plainP
      rw [if_neg ez]
      split
      · rename_i h2
        have h3 : (decide (z = "word") || decide (z = "start")) = true := by
          rw [Bool.or_eq_true, decide_eq_true_eq, decide_eq_true_eq]
          exact h2
        rw [h3, Bool.true_and] at hk
        split
        · exact if_neg (by rw [hk]; decide)
        · rfl
      · rfl
    | true =>
      rw [Bool.and_eq_true] at hk
      obtain ⟨y, rfl⟩ := word_str hk.2
      have h2 : z = "word" ∨ z = "start" := by
        have := hk.1
        rw [Bool.or_eq_true, decide_eq_true_eq, decide_eq_true_eq] at this
        exact this
      have hp : plainF (.tuple [.str z, .str y]) = some (if z = "word" then .word y else .start y) := by
        rw [plainF_2]
        unfold plainP
        rw [if_neg ez, if_pos h2]
        exact if_pos hk.2
      refine q_drop S (init_len hv (Nat.le_of_ble_eq_true rfl)) (ev_call0 (r := .dt .none) (R := R_nask) (X := X_nask CB) (ds := [.bool true]) (av_cons (.toD (ev_and hin fun _ => hiw) (congrArg PyData.bool (by rw [hk.1, hk.2]; rfl))) av_nil) rfl ⟨rfl, rfl⟩) fun F' H' S => ?_
      refine q_when S (init_len hv (Nat.le_of_ble_eq_true rfl)) (b := decide (z = "word")) (tv_test (ev_eqT (α := Str) (a := z) (b := "word") (ev_ixT (ds := [.str z, .str y]) (ev_var rfl) ev_int rfl rfl) ev_str rfl rfl)) (fun hb F' H' S => ?_) (fun hb F' H' S => ?_)
      · rw [if_pos (of_decide_eq_true hb)] at hp
        exact st_ret S (init_len hv (Nat.le_of_ble_eq_true rfl)) (ev_mkWord (A := (qa CWord CStart CRow CNear CBoth CEither CNot)) (w := y) (av_cons (ev_ixT (ds := [.str z, .str y]) (ev_var rfl) ev_int rfl rfl) av_nil)) rfl (hR _ hp)
      · rw [if_neg (of_decide_eq_false hb)] at hp
        exact st_ret S (init_len hv (Nat.le_of_ble_eq_true rfl)) (ev_mkStart (A := (qa CWord CStart CRow CNear CBoth CEither CNot)) (w := y) (av_cons (ev_ixT (ds := [.str z, .str y]) (ev_var rfl) ev_int rfl rfl) av_nil)) rfl (hR _ hp)

def farD : PyData → Option Int
  | .int i => if 0 ≤ i ∧ i ≤ 20 then some i else none
  | _ => none
def madeP (f : PyData → Option Qt) (n : Nat) (s : Str) (x : PyData) (r : List PyData) : Option Qt :=
  if s = "near" then (match r with
    | [y, z] => if 0 < n then (match farD z, plainF x, plainF y with
      | some i, some a, some b => some (.near a b i)
      | _, _, _ => none) else none
    | _ => none)
  else if s = "both" ∨ s = "either" then (match r with
    | [y] => (match f x, f y with
      | some a, some b => some (if s = "both" then .both a b else .either a b)
      | _, _ => none)
    | _ => none)
  else if s = "not" then (match r with
    | [] => (f x).map .no
    | _ => none)
  else plainF (.tuple (.str s :: x :: r))
def madeF : Nat → PyData → Option Qt
  | 0, _ => none
  | n + 1, .tuple (.str s :: x :: r) => madeP (madeF n) n s x r
  | _ + 1, _ => none
theorem madeF_2 {n : Nat} {s : Str} {x : PyData} {r : List PyData} : madeF (n + 1) (.tuple (.str s :: x :: r)) = madeP (madeF n) n s x r := rfl
def R_made (K : PySem.W.Frag) (A : Kd → Addr) (j : Nat) (ds : List PyData) (r : Sl) : Prop := ∃ (n : Nat) (d : PyData) (q : Qt), ds = [d, .int (n : Int)] ∧ j = n + 1 ∧ n ≤ 1000 ∧ shortD d = true ∧ madeF n d = some q ∧ r = askS K A q
def X_made (CB : Addr) (j : Nat) (ds : List PyData) (C : Addr) : Prop := ∃ (n : Nat) (d : PyData), ds = [d, .int (n : Int)] ∧ j = n + 1 ∧ n ≤ 1000 ∧ shortD d = true ∧ madeF n d = none ∧ C = CB
theorem isW_chain {d : PyData} (h : isW d = true) : ∃ i, d = .int i := by
  cases d with
  | int i => exact ⟨i, rfl⟩
  | _ => cases h
theorem ok_made_of {j : Nat} {f : Addr} {fd : FuncData} (F : Fun K "made_of" "made_of" s_made_of f fd) (T : Txt K mg CB CAsk CWord CStart CRow CNear CBoth CEither CNot)
    (d_need_ask : DefOk P w K mg base 1 "need_ask" ["good"] (spF K R_nask (X_nask CB)) [])
    (d_is_whole : DefOk P w K mg base 1 "is_whole" ["thing"] (spF K R_is_whole noX) [])
    (d_plain_of : DefOk P w K mg base 3 "plain_of" ["told"] (spF K (R_plain K (qa CWord CStart CRow CNear CBoth CEither CNot)) (X_plain CB)) [])
    (d_Near___init__ : DefC P w K mg base 1 CNear "Near" ["self", "one", "other", "far"] (spI CNear ["one", "other", "far"]) [])
    (d_Both___init__ : DefC P w K mg base 1 CBoth "Both" ["self", "one", "other"] (spI CBoth ["one", "other"]) [])
    (d_Either___init__ : DefC P w K mg base 1 CEither "Either" ["self", "one", "other"] (spI CEither ["one", "other"]) [])
    (d_Not___init__ : DefC P w K mg base 1 CNot "Not" ["self", "one"] (spI CNot ["one"]) [])
    (d_made_of : DefOk P w K mg base (j + 4) "made_of" ["told", "left"] (spF K (R_made K (qa CWord CStart CRow CNear CBoth CEither CNot) j) (X_made CB j)) []) : FnOk P w K mg base (L2.CX P w) (j + 5) f fd ["told", "left"] (spF K (R_made K (qa CWord CStart CRow CNear CBoth CEither CNot) (j + 1)) (X_made CB (j + 1))) := by
  refine F.okX sc_made_of (spF_len (n := 2) (by rintro _ _ ⟨n, d, q, rfl, _⟩; rfl) (by rintro _ _ ⟨n, d, rfl, _⟩; rfl)) (fun cdv A outer s H vs Q E hr h => ?_)
  obtain ⟨F0, ds, fh, hv, h⟩ := h
  obtain ⟨d, hds, hsh, hj⟩ : ∃ d, ds = [d, .int (j : Int)] ∧ shortD d = true ∧ j ≤ 1000 := by
    rcases h with ⟨r, ⟨n, d, q, e, e2, e3, e4, _⟩, _⟩ | ⟨C, ⟨n, d, e, e2, e3, e4, _⟩, _⟩
    · have : n = j := by omega
      subst this
      exact ⟨d, e, e4, e3⟩
    · have : n = j := by omega
      subst this
      exact ⟨d, e, e4, e3⟩
  subst hds
  have hX : madeF j d = none → ∀ H', Ex H H' → E (.ref CB) none H' := fun hn => by
    rcases h with ⟨r, ⟨n, d', q, e, e2, e3, e4, e5, _⟩, _⟩ | ⟨C, ⟨n, d', e, e2, e3, e4, e5, e6⟩, q⟩
    · cases e
      rw [hn] at e5
      cases e5
    · subst e6
      exact q
  have hR : ∀ q, madeF j d = some q → RetR K F0 H (askS K (qa CWord CStart CRow CNear CBoth CEither CNot) q) Q := fun q hq => by
    rcases h with ⟨r, ⟨n, d', q', e, e2, e3, e4, e5, e6⟩, k⟩ | ⟨C, ⟨n, d', e, e2, e3, e4, e5, _⟩, _⟩
    · cases e
      rw [hq] at e5
      cases e5
      rw [← e6]
      exact k
    · cases e
      rw [hq] at e5
      cases e5
  clear h
  have hre : ∀ (m : Nat) (x : PyData) (q : Qt), j = m + 1 → shortD x = true → madeF m x = some q → R_made K (qa CWord CStart CRow CNear CBoth CEither CNot) j [x, .int (m : Int)] (askS K (qa CWord CStart CRow CNear CBoth CEither CNot) q) := fun m x q e1 e2 e3 => ⟨m, x, q, rfl, e1, by omega, e2, e3, rfl⟩
  have hxe : ∀ (m : Nat) (x : PyData), j = m + 1 → shortD x = true → madeF m x = none → X_made CB j [x, .int (m : Int)] CB := fun m x e1 e2 e3 => ⟨m, x, rfl, e1, by omega, e2, e3, rfl⟩
  have S := Sts.init (N := ["told", "left", "one", "other"]) fh hv
  have hu : (A.deeper (envOfC "made_of" (defScope s_made_of) s.heap.objs.size f cdv)).units + 64 < cLine := hr.units
  refine ⟨_, (pss_cons (ps_expr (pe_own d_need_ask (hr.mono (by omega)) (by rfl) (passes_call (takes_of rfl rfl rfl rfl) (fun _ _ _ _ h => h)) (pa_cons (pe_and (pe_cmpR op_gt (pv 1) pe_int (nomark _)) (pe_and (pe_callB (id := "isinstance") (r := rIsi K) call_isi (by rfl) T.isinstance (by decide +kernel) (pa_cons (pv 0) (pa_cons (pe_bltn (v := .ty "tuple") (by rfl) T.tuple (by decide +kernel) rfl) pa_nil))) (pe_and (pe_cmpR op_gt (pe_callB (id := "len") (r := rLenR K) call_lenR (by rfl) T.len (by decide +kernel) (pa_cons (pv 0) pa_nil)) pe_int (nomark _)) (pe_one (pe_callB (id := "isinstance") (r := rIsi K) call_isi (by rfl) T.isinstance (by decide +kernel) (pa_cons (pe_ix (r := rIxT K) ix_tup (pv 0) pe_int (fun _ _ => rfl)) (pa_cons (pe_bltn (v := .ty "str") (by rfl) T.str (by decide +kernel) rfl) pa_nil))))))) pa_nil)))
        (pss_cons (ps_if (pt_cmpR (r := rEqP K) (op_eqP hu) (pe_ix (r := rIxT K) ix_tup (pv 0) pe_int (fun _ _ => rfl)) pe_str (nomark _)) (pss_cons (ps_expr (pe_own d_need_ask (hr.mono (by omega)) (by rfl) (passes_call (takes_of rfl rfl rfl rfl) (fun _ _ _ _ h => h)) (pa_cons (pe_and (pe_cmpR op_gt (pv 1) pe_int (nomark _)) (pe_and (pe_cmpR (r := rEqP K) (op_eqP hu) (pe_callB (id := "len") (r := rLenR K) call_lenR (by rfl) T.len (by decide +kernel) (pa_cons (pv 0) pa_nil)) pe_int (nomark _)) (pe_and (pe_own d_is_whole (hr.mono (by omega)) (by rfl) passL (pa_cons (pe_ix (r := rIxT K) ix_tup (pv 0) pe_int (fun _ _ => rfl)) pa_nil)) (pe_one (pe_chain op_le op_le pe_int (pe_ix (r := rIxT K) ix_tup (pv 0) pe_int (fun _ _ => rfl)) (pe_globI (by rfl) T.g_MOST_FAR)))))) pa_nil)))
        (pss_one (ps_ret (pe_makeO d_Near___init__ (hr.mono (by omega)) (by rfl) passL (pa_cons (pe_own d_plain_of (hr.mono (by omega)) (by rfl) (passes_call (takes_of rfl rfl rfl rfl) (fun _ _ _ _ h => h)) (pa_cons (pe_ix (r := rIxT K) ix_tup (pv 0) pe_int (fun _ _ => rfl)) pa_nil)) (pa_cons (pe_own d_plain_of (hr.mono (by omega)) (by rfl) (passes_call (takes_of rfl rfl rfl rfl) (fun _ _ _ _ h => h)) (pa_cons (pe_ix (r := rIxT K) ix_tup (pv 0) pe_int (fun _ _ => rfl)) pa_nil)) (pa_cons (pe_ix (r := rIxT K) ix_tup (pv 0) pe_int (fun _ _ => rfl)) pa_nil))))))) pss_nil)
        (pss_cons (ps_if (PW.pt (pw_or (pt_cmpR (r := rEqP K) (op_eqP hu) (pe_ix (r := rIxT K) ix_tup (pv 0) pe_int (fun _ _ => rfl)) pe_str (nomark _)) (pw_or1 (pt_cmpR (r := rEqP K) (op_eqP hu) (pe_ix (r := rIxT K) ix_tup (pv 0) pe_int (fun _ _ => rfl)) pe_str (nomark _))))) (pss_cons (ps_expr (pe_own d_need_ask (hr.mono (by omega)) (by rfl) (passes_call (takes_of rfl rfl rfl rfl) (fun _ _ _ _ h => h)) (pa_cons (pe_cmpR (r := rEqP K) (op_eqP hu) (pe_callB (id := "len") (r := rLenR K) call_lenR (by rfl) T.len (by decide +kernel) (pa_cons (pv 0) pa_nil)) pe_int (nomark _)) pa_nil)))
        (pss_cons (ps_set (i := 2) sc_made_of.nd rfl (Or.inl rfl) (pe_own d_made_of (hr.mono (by omega)) (by rfl) (passes_call (takes_of rfl rfl rfl rfl) (fun _ _ _ _ h => h)) (pa_cons (pe_ix (r := rIxT K) ix_tup (pv 0) pe_int (fun _ _ => rfl)) (pa_cons (pe_op op_sub (pv 1) pe_int) pa_nil))))
        (pss_cons (ps_set (i := 3) sc_made_of.nd rfl (Or.inl rfl) (pe_own d_made_of (hr.mono (by omega)) (by rfl) (passes_call (takes_of rfl rfl rfl rfl) (fun _ _ _ _ h => h)) (pa_cons (pe_ix (r := rIxT K) ix_tup (pv 0) pe_int (fun _ _ => rfl)) (pa_cons (pe_op op_sub (pv 1) pe_int) pa_nil))))
        (pss_one (ps_ret (pe_ifExp (pt_cmpR (r := rEqP K) (op_eqP hu) (pe_ix (r := rIxT K) ix_tup (pv 0) pe_int (fun _ _ => rfl)) pe_str (nomark _)) (pe_makeO d_Both___init__ (hr.mono (by omega)) (by rfl) passL (pa_cons (pv 2) (pa_cons (pv 3) pa_nil))) (pe_makeO d_Either___init__ (hr.mono (by omega)) (by rfl) passL (pa_cons (pv 2) (pa_cons (pv 3) pa_nil))))))))) pss_nil)
        (pss_cons (ps_if (pt_cmpR (r := rEqP K) (op_eqP hu) (pe_ix (r := rIxT K) ix_tup (pv 0) pe_int (fun _ _ => rfl)) pe_str (nomark _)) (pss_cons (ps_expr (pe_own d_need_ask (hr.mono (by omega)) (by rfl) (passes_call (takes_of rfl rfl rfl rfl) (fun _ _ _ _ h => h)) (pa_cons (pe_cmpR (r := rEqP K) (op_eqP hu) (pe_callB (id := "len") (r := rLenR K) call_lenR (by rfl) T.len (by decide +kernel) (pa_cons (pv 0) pa_nil)) pe_int (nomark _)) pa_nil)))
        (pss_one (ps_ret (pe_makeO d_Not___init__ (hr.mono (by omega)) (by rfl) passL (pa_cons (pe_own d_made_of (hr.mono (by omega)) (by rfl) (passes_call (takes_of rfl rfl rfl rfl) (fun _ _ _ _ h => h)) (pa_cons (pe_ix (r := rIxT K) ix_tup (pv 0) pe_int (fun _ _ => rfl)) (pa_cons (pe_op op_sub (pv 1) pe_int) pa_nil))) pa_nil))))) pss_nil)
        (pss_one (ps_ret (pe_own d_plain_of (hr.mono (by omega)) (by rfl) (passes_call (takes_of rfl rfl rfl rfl) (fun _ _ _ _ h => h)) (pa_cons (pv 0) pa_nil)))))))), ?_⟩
  -- the first look
  cases j with
  | zero =>
    exact Fh.st_seq (st_dropS S (init_len hv (Nat.le_of_ble_eq_true rfl)) (ns_call (R := R_nask) (X := X_nask CB) (C := CB) (es := []) (rs := [.dt (.bool false)]) (av_cons (.toD (ev_and (a := false) (b := false) (.toD (ev_ib (ev_var rfl) ev_int) rfl) (fun h => nomatch h)) rfl) av_nil) rfl (fun _ => .nil) ⟨rfl, rfl⟩) fun F' H' S => hX rfl H' S.hh)
  | succ m =>
  have lp : ∀ {ss : List Sl}, ss[1]? = some (.dt (.int ((m + 1 : Nat) : Int))) → EvR K (tOp (rI0 fun i j => .bl (decide (i > j))) (tVar 1) (tC (.int 0))) ss (.dt (.bool true)) := fun h => .toD (ev_ib (ev_var h) ev_int) (congrArg PyData.bool (decide_eq_true (by omega)))
  rcases tup_or d with ht | ⟨xs, rfl⟩
  · exact Fh.st_seq (st_dropS S (init_len hv (Nat.le_of_ble_eq_true rfl)) (ns_call (R := R_nask) (X := X_nask CB) (C := CB) (es := []) (rs := [.dt (.bool false)]) (av_cons (.toD (ev_and (a := true) (b := false) (lp rfl) fun _ => (.toD (ev_and (a := isTupleB d) (b := false) (ev_isi (ev_var rfl) rfl (kit_tuple _)) (fun h => by rw [ht] at h; cases h)) (by rw [ht]; rfl))) rfl) av_nil) rfl (fun _ => .nil) ⟨rfl, rfl⟩) fun F' H' S => hX (by cases d <;> first | rfl | cases ht) H' S.hh)
  by_cases hl : 1 < xs.length
  case neg =>
    have hle : ¬ ((xs.length : Nat) : Int) > 1 := by omega
    exact Fh.st_seq (st_dropS S (init_len hv (Nat.le_of_ble_eq_true rfl)) (ns_call (R := R_nask) (X := X_nask CB) (C := CB) (es := []) (rs := [.dt (.bool false)]) (av_cons (.toD (ev_and (a := true) (b := false) (lp rfl) fun _ => (.toD (ev_and (a := true) (b := false) (ev_isi (ev_var rfl) rfl (kit_tuple _)) (fun h => (.toD (ev_and (a := decide ((xs.length : Int) > 1)) (b := false) (ev_ib (f := fun i j => decide (i > j)) (ev_len (ev_var rfl) rfl rfl) ev_int) (fun h => absurd (of_decide_eq_true h) hle)) (by rw [decide_eq_false hle]; rfl)))) rfl)) rfl) av_nil) rfl (fun _ => .nil) ⟨rfl, rfl⟩) fun F' H' S => hX (by
      match xs, hl with
      | [], _ => rfl
      | [a], _ => cases a <;> rfl
      | _ :: _ :: _, h => exact absurd (by show 1 < _ + 1 + 1; omega) h) H' S.hh)
  obtain ⟨s0, x, r, rfl⟩ : ∃ s0 x r, xs = s0 :: x :: r := by
    match xs, hl with
    | a :: b :: r, _ => exact ⟨a, b, r, rfl⟩
  have hx : shortD x = true := shortAll_at (k := 1) (ds := s0 :: x :: r) hsh rfl
  have hl2 : ((((s0 :: x :: r).length : Nat) : Int) > 1) := by show (((r.length + 1 + 1 : Nat) : Int) > 1); omega
  have lq : ∀ {ss : List Sl} {s0 : PyData}, ss[0]? = some (.dt (.tuple (s0 :: x :: r))) → EvR K (tOp (rI0 fun i j => .bl (decide (i > j))) (tCB (rLenR K) (tCons (tVar 0) tNil)) (tC (.int 1))) ss (.dt (.bool true)) := fun h => .toD (ev_ib (f := fun i j => decide (i > j)) (ev_len (ev_var h) rfl rfl) ev_int) (congrArg PyData.bool (decide_eq_true hl2))
  rcases str_or s0 with hs | ⟨z, rfl⟩
  · exact Fh.st_seq (st_dropS S (init_len hv (Nat.le_of_ble_eq_true rfl)) (ns_call (R := R_nask) (X := X_nask CB) (C := CB) (es := []) (rs := [.dt (.bool false)]) (av_cons (.toD (ev_and (a := true) (b := false) (lp rfl) fun _ => (.toD (ev_and (a := true) (b := false) (ev_isi (ev_var rfl) rfl (kit_tuple _)) (fun h => (.toD (ev_and (a := true) (b := false) (lq (s0 := s0) rfl) (fun h => .toD (ev_isi (ev_ixT (ds := s0 :: x :: r) (ev_var rfl) ev_int rfl (atI_nat (j := 0) rfl)) rfl (kit_str _)) (congrArg PyData.bool hs))) rfl))) rfl)) rfl) av_nil) rfl (fun _ => .nil) ⟨rfl, rfl⟩) fun F' H' S => hX (by cases s0 <;> first | rfl | cases hs) H' S.hh)
  refine q_drop S (init_len hv (Nat.le_of_ble_eq_true rfl)) (ev_call0 (r := .dt .none) (R := R_nask) (X := X_nask CB) (ds := [.bool true]) (av_cons (.toD (ev_and (a := true) (b := true) (lp rfl) fun _ => (.toD (ev_and (a := true) (b := true) (ev_isi (ev_var rfl) rfl (kit_tuple _)) (fun h => (.toD (ev_and (a := true) (b := true) (lq (s0 := .str z) rfl) (fun h => ev_isi (ev_ixT (ds := .str z :: x :: r) (ev_var rfl) ev_int rfl (atI_nat (j := 0) rfl)) rfl (kit_str _))) rfl))) rfl)) rfl) av_nil) rfl ⟨rfl, rfl⟩) fun F' H' S => ?_
  rw [madeF_2] at hX hR
  have ix0 : ∀ {ss : List Sl}, ss[0]? = some (.dt (.tuple (.str z :: x :: r))) → EvR K (tOp (rIxT K) (tVar 0) (tC (.int 0))) ss (.dt (.str z)) := fun h => ev_ixT (ds := .str z :: x :: r) (ev_var h) ev_int rfl (atI_nat (j := 0) rfl)
  have ix1 : ∀ {ss : List Sl}, ss[0]? = some (.dt (.tuple (.str z :: x :: r))) → EvR K (tOp (rIxT K) (tVar 0) (tC (.int 1))) ss (.dt x) := fun h => ev_ixT (ds := .str z :: x :: r) (ev_var h) ev_int rfl (atI_nat (j := 1) rfl)
  have lnn : ∀ {ss : List Sl} (N : Nat), ss[0]? = some (.dt (.tuple (.str z :: x :: r))) → EvR K (tOp (rEqP K) (tCB (rLenR K) (tCons (tVar 0) tNil)) (tC (.int (N : Int)))) ss (.dt (.bool (decide ((((r.length + 2 : Nat) : Int)) = (N : Int))))) := fun N h => ev_eqT (α := Int) (a := ((r.length + 2 : Nat) : Int)) (b := (N : Int)) (ev_len (n := r.length + 2) (ev_var h) rfl rfl) ev_int rfl rfl
  -- near
  refine q_when S (init_len hv (Nat.le_of_ble_eq_true rfl)) (b := decide (z = "near")) (tv_test (ev_eqT (α := Str) (a := z) (b := "near") (ix0 rfl) ev_str rfl rfl)) (fun hb F' H' S => ?_) (fun hb F' H' S => ?_)
  · have ez : z = "near" := of_decide_eq_true hb
    have em : ∀ f n, madeP f n z x r = (match r with
    | [y, z] => if 0 < n then (match farD z, plainF x, plainF y with
      | some i, some a, some b => some (.near a b i)
      | _, _, _ => none) else none
    | _ => none) := fun f n => if_pos ez
    rw [em] at hX hR
    by_cases hm : 0 < m
    case neg =>
      have h1 : ¬ ((m + 1 : Nat) : Int) > 1 := by omega
      exact Fh.st_seq (st_dropS S (init_len hv (Nat.le_of_ble_eq_true rfl)) (ns_call (R := R_nask) (X := X_nask CB) (C := CB) (es := []) (rs := [.dt (.bool false)]) (av_cons (.toD (ev_and (a := decide (((m + 1 : Nat) : Int) > 1)) (b := false) (ev_ib (f := fun i j => decide (i > j)) (ev_var rfl) ev_int) (fun h => absurd (of_decide_eq_true h) h1)) (by rw [decide_eq_false h1]; rfl)) av_nil) rfl (fun _ => .nil) ⟨rfl, rfl⟩) fun F' H' S => hX (by split <;> first | exact if_neg hm | rfl) H' S.hh)
    have h1 : ∀ {ss : List Sl}, ss[1]? = some (.dt (.int ((m + 1 : Nat) : Int))) → EvR K (tOp (rI0 fun i j => .bl (decide (i > j))) (tVar 1) (tC (.int 1))) ss (.dt (.bool true)) := fun h => .toD (ev_ib (ev_var h) ev_int) (congrArg PyData.bool (decide_eq_true (by omega)))
    by_cases hr4 : r.length = 2
    case neg =>
      have h2 : ¬ ((r.length + 2 : Nat) : Int) = ((4 : Nat) : Int) := by omega
      exact Fh.st_seq (st_dropS S (init_len hv (Nat.le_of_ble_eq_true rfl)) (ns_call (R := R_nask) (X := X_nask CB) (C := CB) (es := []) (rs := [.dt (.bool false)]) (av_cons (.toD (ev_and (a := true) (b := false) (h1 rfl) fun _ => .toD (ev_and (b := false) (lnn 4 rfl) (fun h => absurd (of_decide_eq_true h) h2)) (by rw [decide_eq_false h2]; rfl)) rfl) av_nil) rfl (fun _ => .nil) ⟨rfl, rfl⟩) fun F' H' S => hX (by
        match r, hr4 with
        | [], _ => rfl
        | [_], _ => rfl
        | [_, _], h => exact absurd rfl h
        | _ :: _ :: _ :: _, _ => rfl) H' S.hh)
    obtain ⟨y, zz, rfl⟩ : ∃ y zz, r = [y, zz] := by
      match r, hr4 with
      | [a, b], _ => exact ⟨a, b, rfl⟩
    have hy : shortD y = true := shortAll_at (k := 2) (ds := [.str z, x, y, zz]) hsh rfl
    have ln4 : ∀ {ss : List Sl}, ss[0]? = some (.dt (.tuple [.str z, x, y, zz])) → EvR K (tOp (rEqP K) (tCB (rLenR K) (tCons (tVar 0) tNil)) (tC (.int 4))) ss (.dt (.bool true)) := fun h => .toD (lnn 4 h) rfl
    have ix3 : ∀ {ss : List Sl}, ss[0]? = some (.dt (.tuple [.str z, x, y, zz])) → EvR K (tOp (rIxT K) (tVar 0) (tC (.int 3))) ss (.dt zz) := fun h => ev_ixT (ds := [.str z, x, y, zz]) (ev_var h) ev_int rfl rfl
    have ix2 : ∀ {ss : List Sl}, ss[0]? = some (.dt (.tuple [.str z, x, y, zz])) → EvR K (tOp (rIxT K) (tVar 0) (tC (.int 2))) ss (.dt y) := fun h => ev_ixT (ds := [.str z, x, y, zz]) (ev_var h) ev_int rfl rfl
    dsimp only at hX hR
    rw [if_pos hm] at hX hR
    cases hw : isW zz with
    | false =>
      exact Fh.st_seq (st_dropS S (init_len hv (Nat.le_of_ble_eq_true rfl)) (ns_call (R := R_nask) (X := X_nask CB) (C := CB) (es := []) (rs := [.dt (.bool false)]) (av_cons (.toD (ev_and (a := true) (b := false) (h1 rfl) fun _ => .toD (ev_and (a := true) (b := false) (ln4 rfl) fun _ => .toD (ev_and (a := isW zz) (b := false) (ev_call0 (R := R_is_whole) (X := noX) (av_cons (ix3 rfl) av_nil) rfl ⟨zz, rfl, rfl⟩) (fun h => by rw [hw] at h; cases h)) (by rw [hw]; rfl)) rfl) rfl) av_nil) rfl (fun _ => .nil) ⟨rfl, rfl⟩) fun F' H' S => hX (by
        have : farD zz = none := by cases zz <;> first | rfl | cases hw
        rw [this]) H' S.hh)
    | true =>
      obtain ⟨i, rfl⟩ := isW_chain hw
      have hch : ∀ {ss : List Sl}, ss[0]? = some (.dt (.tuple [.str z, x, y, .int i])) → EvR K (tChain (rI0 fun i j => .bl (decide (i ≤ j))) (rI0 fun i j => .bl (decide (i ≤ j))) (tC (.int 0)) (tOp (rIxT K) (tVar 0) (tC (.int 3))) (tC (.int 20))) ss (.dt (.bool (decide ((0 : Int) ≤ i) && decide (i ≤ 20)))) := fun h => ev_chain (f := fun i j => decide (i ≤ j)) (g := fun i j => decide (i ≤ j)) ev_int (ix3 h) fun _ => ev_int
      have hcond : ∀ {ss : List Sl}, ss[0]? = some (.dt (.tuple [.str z, x, y, .int i])) → ss[1]? = some (.dt (.int ((m + 1 : Nat) : Int))) → EvR K (tAndV (tOp (rI0 fun i j => .bl (decide (i > j))) (tVar 1) (tC (.int 1))) (tAndV (tOp (rEqP K) (tCB (rLenR K) (tCons (tVar 0) tNil)) (tC (.int 4))) (tAndV (tCall (spF K R_is_whole noX) [] E0 (tCons (tOp (rIxT K) (tVar 0) (tC (.int 3))) tNil)) (tChain (rI0 fun i j => .bl (decide (i ≤ j))) (rI0 fun i j => .bl (decide (i ≤ j))) (tC (.int 0)) (tOp (rIxT K) (tVar 0) (tC (.int 3))) (tC (.int 20)))))) ss (.dt (.bool (decide ((0 : Int) ≤ i) && decide (i ≤ 20)))) := fun g0 g1 => .toD (ev_and (a := true) (h1 g1) fun _ => ev_and (a := true) (ln4 g0) fun _ => ev_and (a := true) (ev_call0 (R := R_is_whole) (X := noX) (av_cons (ix3 g0) av_nil) rfl ⟨_, rfl, rfl⟩) fun _ => hch g0) (by simp)
      by_cases hi : 0 ≤ i ∧ i ≤ 20
      case neg =>
        have hcf : (decide ((0 : Int) ≤ i) && decide (i ≤ 20)) = false := by
          rw [Bool.and_eq_false_iff, decide_eq_false_iff_not, decide_eq_false_iff_not]
          by_cases h2 : 0 ≤ i
          · exact .inr fun h => hi ⟨h2, h⟩
          · exact .inl h2
        exact Fh.st_seq (st_dropS S (init_len hv (Nat.le_of_ble_eq_true rfl)) (ns_call (R := R_nask) (X := X_nask CB) (C := CB) (es := []) (rs := [.dt (.bool false)]) (av_cons (.toD (hcond rfl rfl) (congrArg PyData.bool hcf)) av_nil) rfl (fun _ => .nil) ⟨rfl, rfl⟩) fun F' H' S => hX (by rw [show farD (.int i) = none from if_neg hi]) H' S.hh)
      have hct : (decide ((0 : Int) ≤ i) && decide (i ≤ 20)) = true := by
        rw [Bool.and_eq_true, decide_eq_true_eq, decide_eq_true_eq]
        exact hi
      rw [show farD (.int i) = some i from if_pos hi] at hX hR
      refine q_drop S (init_len hv (Nat.le_of_ble_eq_true rfl)) (ev_call0 (r := .dt .none) (R := R_nask) (X := X_nask CB) (ds := [.bool true]) (av_cons (.toD (hcond rfl rfl) (congrArg PyData.bool hct)) av_nil) rfl ⟨rfl, rfl⟩) fun F' H' S => ?_
      cases ha : plainF x with
      | none => exact st_retS S (init_len hv (Nat.le_of_ble_eq_true rfl)) (ns_make (nsa_here (ns_call (R := R_plain K (qa CWord CStart CRow CNear CBoth CEither CNot)) (X := X_plain CB) (C := CB) (es := []) (av_cons (ix1 rfl) av_nil) rfl (fun _ => .nil) ⟨x, rfl, hx, ha, rfl⟩))) fun F' H' S => hX (by rw [ha]) H' S.hh
      | some a =>
        cases hb : plainF y with
        | none => exact st_retS S (init_len hv (Nat.le_of_ble_eq_true rfl)) (ns_make (nsa_next (r := askS K (qa CWord CStart CRow CNear CBoth CEither CNot) a) (ev_call0 (R := R_plain K (qa CWord CStart CRow CNear CBoth CEither CNot)) (X := X_plain CB) (av_cons (ix1 rfl) av_nil) rfl ⟨x, a, rfl, hx, ha, rfl⟩) (nsa_here (ns_call (R := R_plain K (qa CWord CStart CRow CNear CBoth CEither CNot)) (X := X_plain CB) (C := CB) (es := []) (av_cons (ix2 rfl) av_nil) rfl (fun _ => .nil) ⟨y, rfl, hy, hb, rfl⟩)))) fun F' H' S => hX (by rw [ha, hb]) H' S.hh
        | some b =>
          exact st_ret S (init_len hv (Nat.le_of_ble_eq_true rfl)) (ev_mkNear (A := (qa CWord CStart CRow CNear CBoth CEither CNot)) (x := a) (y := b) (z := i) (av_cons (ev_call0 (R := R_plain K (qa CWord CStart CRow CNear CBoth CEither CNot)) (X := X_plain CB) (av_cons (ix1 rfl) av_nil) rfl ⟨x, a, rfl, hx, ha, rfl⟩) (av_cons (ev_call0 (R := R_plain K (qa CWord CStart CRow CNear CBoth CEither CNot)) (X := X_plain CB) (av_cons (ix2 rfl) av_nil) rfl ⟨y, b, rfl, hy, hb, rfl⟩) (av_cons (ix3 rfl) av_nil)))) rfl (hR _ (by rw [ha, hb]))
  have en : ¬ z = "near" := of_decide_eq_false hb
  have lm : ∀ {ss : List Sl}, ss[1]? = some (.dt (.int ((m + 1 : Nat) : Int))) → EvR K (tOp (rI0 fun i j => .int (i - j)) (tVar 1) (tC (.int 1))) ss (.dt (.int (m : Int))) := fun h => .toD (ev_ii (f := fun i j => i - j) (ev_var h) ev_int) (congrArg PyData.int (by omega))
  -- both, either
  refine q_when S (init_len hv (Nat.le_of_ble_eq_true rfl)) (b := (decide (z = "both") || decide (z = "either"))) (tv_or (tv_test (ev_eqT (α := Str) (a := z) (b := "both") (ix0 rfl) ev_str rfl rfl)) fun _ => tv_test (ev_eqT (α := Str) (a := z) (b := "either") (ix0 rfl) ev_str rfl rfl)) (fun hb F' H' S => ?_) (fun hb F' H' S => ?_)
  · have ez : z = "both" ∨ z = "either" := by
      rw [Bool.or_eq_true, decide_eq_true_eq, decide_eq_true_eq] at hb
      exact hb
    have em : ∀ f n, madeP f n z x r = (match r with
    | [y] => (match f x, f y with
      | some a, some b => some (if z = "both" then .both a b else .either a b)
      | _, _ => none)
    | _ => none) := fun f n => (if_neg en).trans (if_pos ez)
    rw [em] at hX hR
    by_cases hr3 : r.length = 1
    case neg =>
      have h2 : ¬ ((r.length + 2 : Nat) : Int) = ((3 : Nat) : Int) := by omega
      exact Fh.st_seq (st_dropS S (init_len hv (Nat.le_of_ble_eq_true rfl)) (ns_call (R := R_nask) (X := X_nask CB) (C := CB) (es := []) (rs := [.dt (.bool false)]) (av_cons (.toD (lnn 3 rfl) (by rw [decide_eq_false h2])) av_nil) rfl (fun _ => .nil) ⟨rfl, rfl⟩) fun F' H' S => hX (by
        match r, hr3 with
        | [], _ => rfl
        | [_], h => exact absurd rfl h
        | _ :: _ :: _, _ => rfl) H' S.hh)
    obtain ⟨y, rfl⟩ : ∃ y, r = [y] := by
      match r, hr3 with
      | [a], _ => exact ⟨a, rfl⟩
    have hy : shortD y = true := shortAll_at (k := 2) (ds := [.str z, x, y]) hsh rfl
    have ix2 : ∀ {ss : List Sl}, ss[0]? = some (.dt (.tuple [.str z, x, y])) → EvR K (tOp (rIxT K) (tVar 0) (tC (.int 2))) ss (.dt y) := fun h => ev_ixT (ds := [.str z, x, y]) (ev_var h) ev_int rfl rfl
    dsimp only at hX hR
    refine q_drop S (init_len hv (Nat.le_of_ble_eq_true rfl)) (ev_call0 (r := .dt .none) (R := R_nask) (X := X_nask CB) (ds := [.bool true]) (av_cons (.toD (lnn 3 rfl) rfl) av_nil) rfl ⟨rfl, rfl⟩) fun F' H' S => ?_
    cases ha : madeF m x with
    | none => exact Fh.st_seq (st_asgS S (init_len hv (Nat.le_of_ble_eq_true rfl)) (ns_call (R := R_made K (qa CWord CStart CRow CNear CBoth CEither CNot) (m + 1)) (X := X_made CB (m + 1)) (C := CB) (es := []) (av_cons (ix1 rfl) (av_cons (lm rfl) av_nil)) rfl (fun _ => .nil) (hxe m x rfl hx ha)) fun F' H' S => hX (by rw [ha]) H' S.hh)
    | some a =>
      refine q_asg S (init_len hv (Nat.le_of_ble_eq_true rfl)) (r := askS K (qa CWord CStart CRow CNear CBoth CEither CNot) a) (ev_call0 (R := R_made K (qa CWord CStart CRow CNear CBoth CEither CNot) (m + 1)) (X := X_made CB (m + 1)) (av_cons (ix1 rfl) (av_cons (lm rfl) av_nil)) rfl (hre m x a rfl hx ha)) rfl rfl (Nat.le_of_ble_eq_true rfl) fun σ' F' H' S l => ?_ -- one
      cases hb : madeF m y with
      | none => exact Fh.st_seq (st_asgS S l (ns_call (R := R_made K (qa CWord CStart CRow CNear CBoth CEither CNot) (m + 1)) (X := X_made CB (m + 1)) (C := CB) (es := []) (av_cons (ix2 rfl) (av_cons (lm rfl) av_nil)) rfl (fun _ => .nil) (hxe m y rfl hy hb)) fun F' H' S => hX (by rw [ha, hb]) H' S.hh)
      | some b =>
        rw [ha, hb] at hR
        refine q_asg S l (r := askS K (qa CWord CStart CRow CNear CBoth CEither CNot) b) (ev_call0 (R := R_made K (qa CWord CStart CRow CNear CBoth CEither CNot) (m + 1)) (X := X_made CB (m + 1)) (av_cons (ix2 rfl) (av_cons (lm rfl) av_nil)) rfl (hre m y b rfl hy hb)) rfl rfl (Nat.le_of_ble_eq_true rfl) fun σ' F' H' S l => ?_ -- other
        refine st_ret S l (ev_if (b := decide (z = "both")) (tv_test (ev_eqT (α := Str) (a := z) (b := "both") (ix0 rfl) ev_str rfl rfl)) (fun hz => ?_) (fun hz => ?_)) rfl (hR _ rfl)
        · rw [if_pos (of_decide_eq_true hz)]
          exact ev_mkBoth (A := (qa CWord CStart CRow CNear CBoth CEither CNot)) (av_cons (ev_varX rfl) (av_cons (ev_varX rfl) av_nil))
        · rw [if_neg (of_decide_eq_false hz)]
          exact ev_mkEither (A := (qa CWord CStart CRow CNear CBoth CEither CNot)) (av_cons (ev_varX rfl) (av_cons (ev_varX rfl) av_nil))
  have eb : ¬ (z = "both" ∨ z = "either") := fun h => by
    have : (decide (z = "both") || decide (z = "either")) = true := by
      rw [Bool.or_eq_true, decide_eq_true_eq, decide_eq_true_eq]
      exact h
    rw [this] at hb
    cases hb
  -- not
  refine q_when S (init_len hv (Nat.le_of_ble_eq_true rfl)) (b := decide (z = "not")) (tv_test (ev_eqT (α := Str) (a := z) (b := "not") (ix0 rfl) ev_str rfl rfl)) (fun hb F' H' S => ?_) (fun hb F' H' S => ?_)
  · have ez : z = "not" := of_decide_eq_true hb
    have em : ∀ f n, madeP f n z x r = (match r with
    | [] => (f x).map .no
    | _ => none) := fun f n => (if_neg en).trans ((if_neg eb).trans (if_pos ez))
    rw [em] at hX hR
    by_cases hr2 : r.length = 0
    case neg =>
      have h2 : ¬ ((r.length + 2 : Nat) : Int) = ((2 : Nat) : Int) := by omega
      exact Fh.st_seq (st_dropS S (init_len hv (Nat.le_of_ble_eq_true rfl)) (ns_call (R := R_nask) (X := X_nask CB) (C := CB) (es := []) (rs := [.dt (.bool false)]) (av_cons (.toD (lnn 2 rfl) (by rw [decide_eq_false h2])) av_nil) rfl (fun _ => .nil) ⟨rfl, rfl⟩) fun F' H' S => hX (by
        match r, hr2 with
        | [], h => exact absurd rfl h
        | _ :: _, _ => rfl) H' S.hh)
    have er : r = [] := List.eq_nil_of_length_eq_zero hr2
    subst er
    dsimp only at hX hR
    refine q_drop S (init_len hv (Nat.le_of_ble_eq_true rfl)) (ev_call0 (r := .dt .none) (R := R_nask) (X := X_nask CB) (ds := [.bool true]) (av_cons (.toD (lnn 2 rfl) rfl) av_nil) rfl ⟨rfl, rfl⟩) fun F' H' S => ?_
    cases ha : madeF m x with
    | none => exact st_retS S (init_len hv (Nat.le_of_ble_eq_true rfl)) (ns_make (nsa_here (ns_call (R := R_made K (qa CWord CStart CRow CNear CBoth CEither CNot) (m + 1)) (X := X_made CB (m + 1)) (C := CB) (es := []) (av_cons (ix1 rfl) (av_cons (lm rfl) av_nil)) rfl (fun _ => .nil) (hxe m x rfl hx ha)))) fun F' H' S => hX (by rw [ha]; rfl) H' S.hh
    | some a => exact st_ret S (init_len hv (Nat.le_of_ble_eq_true rfl)) (ev_mkNot (A := (qa CWord CStart CRow CNear CBoth CEither CNot)) (x := a) (av_cons (ev_call0 (R := R_made K (qa CWord CStart CRow CNear CBoth CEither CNot) (m + 1)) (X := X_made CB (m + 1)) (av_cons (ix1 rfl) (av_cons (lm rfl) av_nil)) rfl (hre m x a rfl hx ha)) av_nil)) rfl (hR _ (by rw [ha]; rfl))
  have ez : ¬ z = "not" := of_decide_eq_false hb
  have em : ∀ f n, madeP f n z x r = plainF (.tuple (.str z :: x :: r)) := fun f n => (if_neg en).trans ((if_neg eb).trans (if_neg ez))
  rw [em] at hX hR
  cases hp : plainF (.tuple (.str z :: x :: r)) with
  | none => exact st_retS S (init_len hv (Nat.le_of_ble_eq_true rfl)) (ns_call (R := R_plain K (qa CWord CStart CRow CNear CBoth CEither CNot)) (X := X_plain CB) (C := CB) (es := []) (av_cons (ev_var rfl) av_nil) rfl (fun _ => .nil) ⟨_, rfl, hsh, hp, rfl⟩) fun F' H' S => hX hp H' S.hh
  | some q => exact st_ret S (init_len hv (Nat.le_of_ble_eq_true rfl)) (ev_call0 (R := R_plain K (qa CWord CStart CRow CNear CBoth CEither CNot)) (X := X_plain CB) (av_cons (ev_var rfl) av_nil) rfl ⟨_, q, rfl, hsh, hp, rfl⟩) rfl (hR q hp)

theorem plain_dep {d : PyData} {q : Qt} (h : plainF d = some q) : q.dep = 1 ∧ q.cnt = 1 := by
  unfold plainF at h
  split at h
  · unfold plainP at h
    split at h
    · split at h
      · split at h
        · cases h
          exact ⟨rfl, rfl⟩
        · cases h
      · cases h
    · split at h
      · split at h
        · split at h
          · cases h
            split <;> exact ⟨rfl, rfl⟩
          · cases h
        · cases h
      · cases h
  · cases h
theorem made_dep : ∀ {n : Nat} {d : PyData} {q : Qt}, madeF n d = some q → q.dep ≤ n
  | 0, _, _, h => by cases h
  | n + 1, d, q, h => by
    unfold madeF at h
    split at h
    · cases h
    · rename_i n' s x r e
      cases e
      unfold madeP at h
      split at h
      · split at h
        · split at h
          · rename_i hn
            split at h
            · rename_i h1 h2 h3
              cases h
              have := (plain_dep h2).1
              have := (plain_dep h3).1
              simp only [Qt.dep]
              omega
            · cases h
          · cases h
        · cases h
      · split at h
        · split at h
          · split at h
            · rename_i h1 h2
              cases h
              have := made_dep h1
              have := made_dep h2
              split <;> simp only [Qt.dep] <;> omega
            · cases h
          · cases h
        · split at h
          · split at h
            · cases e : madeF n x with
              | none => rw [e] at h; cases h
              | some a =>
                rw [e] at h
                cases h
                have := made_dep e
                simp only [Qt.dep]
                omega
            · cases h
          · have := (plain_dep h).1
            omega
    · cases h
def R_askof (K : PySem.W.Frag) (A : Kd → Addr) (ds : List PyData) (r : Sl) : Prop := ∃ (d : PyData) (q : Qt), ds = [d] ∧ shortD d = true ∧ madeF 8 d = some q ∧ q.cnt ≤ 40 ∧ r = askS K A q
def X_askof (CB : Addr) (ds : List PyData) (C : Addr) : Prop := ∃ d : PyData, ds = [d] ∧ shortD d = true ∧ (∀ q, madeF 8 d = some q → 40 < q.cnt) ∧ C = CB
theorem ok_ask_of {f : Addr} {fd : FuncData} (F : Fun K "ask_of" "ask_of" s_ask_of f fd) (T : Txt K mg CB CAsk CWord CStart CRow CNear CBoth CEither CNot)
    (d_made_of : DefOk P w K mg base 13 "made_of" ["told", "left"] (spF K (R_made K (qa CWord CStart CRow CNear CBoth CEither CNot) 9) (X_made CB 9)) [])
    (d_need_ask : DefOk P w K mg base 1 "need_ask" ["good"] (spF K R_nask (X_nask CB)) [])
    (d_many_asks : DefOk P w K mg base 9 "many_asks" ["ask"] (spG K (R_many K (qa CWord CStart CRow CNear CBoth CEither CNot) 8) noXG) []) : FnOk P w K mg base (L2.CX P w) 14 f fd ["told"] (spF K (R_askof K (qa CWord CStart CRow CNear CBoth CEither CNot)) (X_askof CB)) := by
  refine F.okX sc_ask_of (spF_len (n := 1) (by rintro _ _ ⟨d, q, rfl, _⟩; rfl) (by rintro _ _ ⟨d, rfl, _⟩; rfl)) (fun cdv A outer s H vs Q E hr h => ?_)
  obtain ⟨F0, ds, fh, hv, ⟨r, ⟨d, q, rfl, hsh, hq, hc, rfl⟩, k⟩ | ⟨C, ⟨d, rfl, hsh, hb, rfl⟩, k⟩⟩ := h
  · --
    have S := Sts.init (N := ["told", "found"]) fh hv
    have hu : (A.deeper (envOfC "ask_of" (defScope s_ask_of) s.heap.objs.size f cdv)).units + 64 < cLine := hr.units
    refine ⟨_, (pss_cons (ps_set (i := 1) sc_ask_of.nd rfl (Or.inl rfl) (pe_own d_made_of (hr.mono (by decide)) (by rfl) (passes_call (takes_of rfl rfl rfl rfl) (fun _ _ _ _ h => h)) (pa_cons (pv 0) (pa_cons (pe_globI (by rfl) T.g_MOST_DEEP) pa_nil))))
          (pss_cons (ps_expr (pe_own d_need_ask (hr.mono (by decide)) (by rfl) (passes_call (takes_of rfl rfl rfl rfl) (fun _ _ _ _ h => h)) (pa_cons (pe_cmpR op_le (pe_own d_many_asks (hr.mono (by decide)) (by rfl) passL (pa_cons (pv 1) pa_nil)) (pe_globI (by rfl) T.g_MOST_ASKS) (nomark _)) pa_nil)))
          (pss_one (ps_ret (pv 1))))), ?_⟩
    have hd := made_dep hq
    refine q_asg S (init_len hv (Nat.le_of_ble_eq_true rfl)) (r := askS K (qa CWord CStart CRow CNear CBoth CEither CNot) q) (ev_call0 (R := R_made K (qa CWord CStart CRow CNear CBoth CEither CNot) 9) (X := X_made CB 9) (av_cons (ev_var rfl) (av_cons ev_int av_nil)) rfl ⟨8, d, q, rfl, rfl, by decide, hsh, hq, rfl⟩) rfl rfl (Nat.le_of_ble_eq_true rfl) fun σ' F' H' S l => ?_ -- found
    refine q_drop S l (ev_call0 (r := .dt .none) (R := R_nask) (X := X_nask CB) (ds := [.bool true]) (av_cons (.toD (ev_ib (f := fun i j => decide (i ≤ j)) (ev_callG (R := R_many K (qa CWord CStart CRow CNear CBoth CEither CNot) 8) (X := noXG) (r := .dt (.int (q.cnt : Int))) (av_cons (ev_varX rfl) av_nil) rfl ⟨q, rfl, hd, rfl⟩) ev_int) (congrArg PyData.bool (decide_eq_true (by omega)))) av_nil) rfl ⟨rfl, rfl⟩) fun F' H' S => ?_
    exact st_ret S l (ev_varX rfl) rfl k
  · --
    have S := Sts.init (N := ["told", "found"]) fh hv
    have hu : (A.deeper (envOfC "ask_of" (defScope s_ask_of) s.heap.objs.size f cdv)).units + 64 < cLine := hr.units
    refine ⟨_, (pss_cons (ps_set (i := 1) sc_ask_of.nd rfl (Or.inl rfl) (pe_own d_made_of (hr.mono (by decide)) (by rfl) (passes_call (takes_of rfl rfl rfl rfl) (fun _ _ _ _ h => h)) (pa_cons (pv 0) (pa_cons (pe_globI (by rfl) T.g_MOST_DEEP) pa_nil))))
          (pss_cons (ps_expr (pe_own d_need_ask (hr.mono (by decide)) (by rfl) (passes_call (takes_of rfl rfl rfl rfl) (fun _ _ _ _ h => h)) (pa_cons (pe_cmpR op_le (pe_own d_many_asks (hr.mono (by decide)) (by rfl) passL (pa_cons (pv 1) pa_nil)) (pe_globI (by rfl) T.g_MOST_ASKS) (nomark _)) pa_nil)))
          (pss_one (ps_ret (pv 1))))), ?_⟩
    cases hq : madeF 8 d with
    | none => exact Fh.st_seq (st_asgS S (init_len hv (Nat.le_of_ble_eq_true rfl)) (ns_call (R := R_made K (qa CWord CStart CRow CNear CBoth CEither CNot) 9) (X := X_made C 9) (C := C) (es := []) (av_cons (ev_var rfl) (av_cons ev_int av_nil)) rfl (fun _ => .nil) ⟨8, d, rfl, rfl, by decide, hsh, hq, rfl⟩) fun F' H' S => k H' S.hh)
    | some q =>
      have hd := made_dep hq
      have hc := hb q hq
      refine q_asg S (init_len hv (Nat.le_of_ble_eq_true rfl)) (r := askS K (qa CWord CStart CRow CNear CBoth CEither CNot) q) (ev_call0 (R := R_made K (qa CWord CStart CRow CNear CBoth CEither CNot) 9) (X := X_made C 9) (av_cons (ev_var rfl) (av_cons ev_int av_nil)) rfl ⟨8, d, q, rfl, rfl, by decide, hsh, hq, rfl⟩) rfl rfl (Nat.le_of_ble_eq_true rfl) fun σ' F' H' S l => ?_ -- found
      exact Fh.st_seq (st_dropS S l (ns_call (R := R_nask) (X := X_nask C) (C := C) (es := []) (rs := [.dt (.bool false)]) (av_cons (.toD (ev_ib (f := fun i j => decide (i ≤ j)) (ev_callG (R := R_many K (qa CWord CStart CRow CNear CBoth CEither CNot) 8) (X := noXG) (r := .dt (.int (q.cnt : Int))) (av_cons (ev_varX rfl) av_nil) rfl ⟨q, rfl, hd, rfl⟩) ev_int) (congrArg PyData.bool (decide_eq_false (by omega)))) av_nil) rfl (fun _ => .nil) ⟨rfl, rfl⟩) fun F' H' S => k H' S.hh)

/-! ### drawn words -/
def SM : Str := Str.ofString "abcdefghijklmnopqrstuvwxyz"
def one1 (c : Nat) : Str := ⟨#[c]⟩
theorem tx_short {cs : List Nat} (h : cs.length ≤ 2000) : (tx cs).length ≤ sizeLine := by rw [tx_len, sizeLine_eq]; omega
theorem tx_lenD {cs : List Nat} (h : cs.length ≤ 100000) : lenD (.str (tx cs)) = some cs.length := by
  have : lenD (.str (tx cs)) = some (tx cs).length := if_pos (by rw [tx_len, sizeLine_eq]; omega)
  rw [this, tx_len]
theorem cut_word {cs : List Nat} {i j : Nat} (h1 : i ≤ cs.length) (h2 : j ≤ cs.length) : L2.cutS (tx cs) (some (i : Int)) (some (j : Int)) = tx ((cs.drop i).take (j - i)) := by
  rw [tx_cut, sIx_n h1, sIx_n h2]
def pickS (z : Str) (m : Int) : Nat := z.cps.toList.getD (m % (z.length : Int)).toNat 0
theorem atI_str {z : Str} {m : Int} (h : 0 < z.length) : atI z.cps.toList (m % (z.length : Int)) = some (pickS z m) := by
  have h0 : 0 ≤ m % (z.length : Int) := Int.emod_nonneg _ (by omega)
  have h1 : m % (z.length : Int) < z.length := Int.emod_lt_of_pos _ (by omega)
  have e : (((m % (z.length : Int)).toNat : Nat) : Int) = m % (z.length : Int) := by omega
  have hl : (m % (z.length : Int)).toNat < z.cps.toList.length := by rw [← str_toL]; omega
  have h2 : z.cps.toList[(m % (z.length : Int)).toNat]? = some (pickS z m) := by
    unfold pickS
    simp only [List.getD, List.getElem?_eq_getElem hl, Option.getD_some]
  have h3 := atI_nat h2
  rwa [e] at h3
theorem pickS_mem {z : Str} {m : Int} (h : 0 < z.length) : pickS z m ∈ z.cps.toList := by
  have h0 : 0 ≤ m % (z.length : Int) := Int.emod_nonneg _ (by omega)
  have h1 : m % (z.length : Int) < z.length := Int.emod_lt_of_pos _ (by omega)
  exact Fh.getD_mem (by rw [← str_toL]; omega)
theorem got_range (φ : Nat → PyData) (m : Nat) : Fh.got (fun k => some (φ k)) m = (List.range m).map φ := got_some fun _ _ => rfl
theorem signs_total (L : List Nat) : ((((L.map fun c => [c]).map tx).map (·.length)).sum + ((L.map fun c => [c]).map tx).length * (tx []).length) = L.length := by
  rw [List.map_map, List.map_map]
  have : (((fun x : Str => x.length) ∘ tx) ∘ fun c => [c]) = fun _ : Nat => 1 := rfl
  rw [this]
  have e : (tx []).length = 0 := rfl
  rw [e, Nat.mul_zero, Nat.add_zero]
  induction L with
  | nil => rfl
  | cons a L ih => rw [List.map_cons, List.sum_cons, ih, List.length_cons, Nat.add_comm]
theorem ones_map (φ : Nat → Nat) (m : Nat) : Fh.got (fun k => some (PyData.str (one1 (φ k)))) m = ((((List.range m).map φ).map fun c => [c]).map tx).map PyData.str := by
  rw [got_range, List.map_map, List.map_map, List.map_map]
  rfl
def M2 : Str := Str.ofString "0a1b2c3d4e5f6g7h8i9jklmnop"
def mgOf (n : Int) : Str := if n % 3 = 1 then M2 else SM
theorem M2_len : M2.length = 26 := by decide +kernel
theorem SM_len : SM.length = 26 := by decide +kernel
theorem M2_KS : ∀ c ∈ M2.cps.toList, c ∈ KS.cps.toList := by decide +kernel
theorem SM_KS : ∀ c ∈ SM.cps.toList, c ∈ KS.cps.toList := by decide +kernel
theorem mgOf_len (n : Int) : (mgOf n).length = 26 := by
  unfold mgOf
  split
  · exact M2_len
  · exact SM_len
theorem mg_in (n m : Int) : pickS (mgOf n) m ∈ KS.cps.toList := by
  have h := pickS_mem (z := mgOf n) (m := m) (by rw [mgOf_len]; omega)
  unfold mgOf at h ⊢
  split at h
  · rename_i e; rw [if_pos e]; exact M2_KS _ h
  · rename_i e; rw [if_neg e]; exact SM_KS _ h
theorem atI_mg (n m : Int) : atI (mgOf n).cps.toList (m % 26) = some (pickS (mgOf n) m) := by
  have h := atI_str (z := mgOf n) (m := m) (by rw [mgOf_len]; omega)
  rwa [mgOf_len] at h
def restL (n : Int) : List Nat := (List.range 6).map fun j : Nat => pickS (mgOf n) (mixed n (50 + (j : Int)))
def szOf (n : Int) : Nat := (n / 9 % 5).toNat
def atOf (n : Int) : Nat := (n / 45 % ((szOf n : Int) + 1)).toNat
def menuW (n : Int) (k : Nat) : List Nat := if n / 3 % 3 = 1 then (restL n).take (k + 1) else ((restL n).take (atOf n) ++ [pickS (mgOf n) (n / 225 + 5 * (k : Int))]) ++ ((restL n).drop (atOf n)).take (szOf n - atOf n)
def menuL (n : Int) : List (List Nat) := (List.range 5).map (menuW n)
def mD (M : List (List Nat)) : List PyData := M.map fun w => .str (tx w)
theorem restL_len (n : Int) : (restL n).length = 6 := by
  unfold restL
  rw [List.length_map, List.length_range]
theorem restL_in (n : Int) : ∀ c ∈ restL n, c ∈ KS.cps.toList := by
  intro c hc
  obtain ⟨k, _, rfl⟩ := List.mem_map.mp hc
  exact mg_in _ _
theorem szOf_lt (n : Int) : szOf n ≤ 4 ∧ ((szOf n : Nat) : Int) = n / 9 % 5 := by
  unfold szOf
  omega
theorem atOf_le (n : Int) : atOf n ≤ szOf n ∧ ((atOf n : Nat) : Int) = n / 45 % ((szOf n : Int) + 1) := by
  have h0 : 0 ≤ n / 45 % ((szOf n : Int) + 1) := Int.emod_nonneg _ (by omega)
  have h1 : n / 45 % ((szOf n : Int) + 1) < (szOf n : Int) + 1 := Int.emod_lt_of_pos _ (by omega)
  unfold atOf
  omega
def WordOk (w : List Nat) : Prop := 1 ≤ w.length ∧ w.length ≤ 6 ∧ ∀ c ∈ w, c ∈ KS.cps.toList
theorem menuW_ok (n : Int) {k : Nat} (hk : k < 5) : WordOk (menuW n k) := by
  have hr := restL_len n
  have hs := szOf_lt n
  have ha := atOf_le n
  have hi := restL_in n
  unfold menuW
  split
  · refine ⟨by rw [List.length_take]; omega, by rw [List.length_take]; omega, fun c hc => hi c (List.mem_of_mem_take hc)⟩
  · refine ⟨?_, ?_, fun c hc => ?_⟩
    · simp only [List.length_append, List.length_take, List.length_drop, List.length_singleton]
      omega
    · simp only [List.length_append, List.length_take, List.length_drop, List.length_singleton]
      omega
    · rcases List.mem_append.mp hc with hc | hc
      · rcases List.mem_append.mp hc with hc | hc
        · exact hi c (List.mem_of_mem_take hc)
        · rw [List.mem_singleton.mp hc]
          exact mg_in _ _
      · exact hi c (List.mem_of_mem_drop (List.mem_of_mem_take hc))
theorem menuL_ok (n : Int) : (menuL n).length = 5 ∧ ∀ w ∈ menuL n, WordOk w := by
  constructor
  · unfold menuL
    rw [List.length_map, List.length_range]
  · intro w hw
    obtain ⟨k, hk, rfl⟩ := List.mem_map.mp hw
    exact menuW_ok n (List.mem_range.mp hk)
theorem cut_pre {cs : List Nat} {j : Nat} (h : j ≤ cs.length) : L2.cutS (tx cs) none (some (j : Int)) = tx (cs.take j) := by
  rw [tx_cut, sIx_n h]
  show tx ((cs.drop 0).take (j - 0)) = _
  rw [List.drop_zero, Nat.sub_zero]
theorem mD_got (φ : Nat → List Nat) (m : Nat) : Fh.got (fun k => some (PyData.str (tx (φ k)))) m = mD ((List.range m).map φ) := by
  rw [got_range]
  unfold mD
  rw [List.map_map]
  rfl
def R_menu (ds : List PyData) (r : Sl) : Prop := ∃ n : Int, ds = [.int n] ∧ 0 ≤ n ∧ n < 2 ^ 60 ∧ r = .ls (mD (menuL n))
theorem ok__law_menu {f : Addr} {fd : FuncData} (F : Fun K "_law_menu" "_law_menu" s__law_menu f fd) (T : Txt K mg CB CAsk CWord CStart CRow CNear CBoth CEither CNot)
    (d__law_mixed : DefOk P w K mg base 1 "_law_mixed" ["_law_number_here", "_law_k"] (spF K R_mixed noX) []) : FnOk P w K mg base (L2.CX P w) 2 f fd ["_law_number_here"] (spF K R_menu noX) := by
  refine F.okX sc__law_menu (spF_len (n := 1) (by walk_at "sl") (by rintro _ _ ⟨⟩)) (fun cdv A outer s H vs Q E hr h => ?_)
  obtain ⟨F0, ds, fh, hv, ⟨r, ⟨n, rfl, hn0, hn1, rfl⟩, q⟩ | ⟨_, h, _⟩⟩ := h
  · --
    have S := Sts.init (N := ["_law_number_here", "_law_signs", "_law_rest", "_law_size", "_law_at", "_law_found", "_law_k", "_law_sign", "_law_j"]) fh hv
    have hu : (A.deeper (envOfC "_law_menu" (defScope s__law_menu) s.heap.objs.size f cdv)).units + 64 < cLine := hr.units
    refine ⟨_, (pss_cons (ps_set (i := 1) sc__law_menu.nd rfl (Or.inr rfl) pe_str)
          (pss_cons (ps_if (pt_cmpR (r := rEqP K) (op_eqP hu) (pe_op op_mod (pv 0) pe_int) pe_int (nomark _)) (pss_one (ps_set (i := 1) sc__law_menu.nd rfl (Or.inr rfl) pe_str)) pss_nil)
          (pss_cons (ps_set (i := 2) sc__law_menu.nd rfl (Or.inr rfl) (pe_joinF pe_str (pe_lc (own := [("_law_j", 8)]) (g := (gName 8)) (tt := tYes) rfl sc__law_menu.nd (pi_range1 (by rfl) T.range (pa_cons pe_int pa_nil)) (blkOk_by (own := [("_law_j", 8)]) (N := ["_law_number_here", "_law_signs", "_law_rest", "_law_size", "_law_at", "_law_found", "_law_k", "_law_sign", "_law_j"]) (sc := defScope s__law_menu) (by decide +kernel)) (fun _ _ _ _ _ => pg_name (i := 8) sc__law_menu.nd rfl (Or.inl rfl)) (fun _ _ _ _ _ => pts_nil) (fun _ _ _ _ _ => (pe_ix (r := rIxS) ix_str (pv 1) (pe_op op_mod (pe_own d__law_mixed (hr.mono (by decide)) (by rfl) passL (pa_cons (pv 0) (pa_cons (pe_op op_add pe_int (pv 8)) pa_nil))) pe_int) (fun _ _ => rfl))))))
          (pss_cons (ps_if (pt_cmpR (r := rEqP K) (op_eqP hu) (pe_op op_mod (pe_op op_divY (pv 0) pe_int) pe_int) pe_int (nomark _)) (pss_one (ps_ret (pe_lc (own := [("_law_k", 6)]) (g := (gName 6)) (tt := tYes) rfl sc__law_menu.nd (pi_range1 (by rfl) T.range (pa_cons pe_int pa_nil)) (blkOk_by (own := [("_law_k", 6)]) (N := ["_law_number_here", "_law_signs", "_law_rest", "_law_size", "_law_at", "_law_found", "_law_k", "_law_sign", "_law_j"]) (sc := defScope s__law_menu) (by decide +kernel)) (fun _ _ _ _ _ => pg_name (i := 6) sc__law_menu.nd rfl (Or.inl rfl)) (fun _ _ _ _ _ => pts_nil) (fun _ _ _ _ _ => (pe_slice (r := rSlS) sl_str (pv 2) po_none (po_some (pe_op op_add (pv 6) pe_int))))))) pss_nil)
          (pss_cons (ps_set (i := 3) sc__law_menu.nd rfl (Or.inl rfl) (pe_op op_mod (pe_op op_divY (pv 0) pe_int) pe_int))
          (pss_cons (ps_set (i := 4) sc__law_menu.nd rfl (Or.inl rfl) (pe_op op_mod (pe_op op_divY (pv 0) pe_int) (pe_op op_add (pv 3) pe_int)))
          (pss_cons (ps_set (i := 5) sc__law_menu.nd rfl (Or.inl rfl) (pe_lst pa_nil))
          (pss_cons (ps_for PassesOwn.leaving rfl (pi_range1 (by rfl) T.range (pa_cons pe_int pa_nil)) (pg_name (i := 6) sc__law_menu.nd rfl (Or.inl rfl)) (pss_cons (ps_set (i := 7) sc__law_menu.nd rfl (Or.inl rfl) (pe_ix (r := rIxS) ix_str (pv 1) (pe_op op_mod (pe_op op_add (pe_op op_divY (pv 0) pe_int) (pe_op op_mulY pe_int (pv 6))) pe_int) (fun _ _ => rfl)))
          (pss_one (ps_expr (pe_bm PySem.F.plainAttrs_list PySem.F.slot_list_append PySem.F.type_list_append mt_append (pv 5) (pa_cons (pe_op op_catS (pe_op op_catS (pe_slice (r := rSlS) sl_str (pv 2) po_none (po_some (pv 4))) (pv 7)) (pe_slice (r := rSlS) sl_str (pv 2) (po_some (pv 4)) (po_some (pv 3)))) pa_nil))))))
          (pss_one (ps_ret (pv 5))))))))))), ?_⟩
    refine q_asg S (init_len hv (Nat.le_of_ble_eq_true rfl)) (r := .dt (.str SM)) ev_str rfl rfl (Nat.le_of_ble_eq_true rfl) fun σ' F' H' S l => ?_ -- _law_signs_here
    refine q_whenJ [.dt (.int n), .dt (.str (mgOf n)), .no, .no, .no, .no, .no, .no, .no] S l (tv_test (ev_eqT (α := Int) (a := n % 3) (b := 1) (ev_iC (ev_var rfl) ev_int (by decide)) ev_int rfl rfl)) (fun hb nx hk F' H' S => ?_) (fun hb => ?_) (fun σ' F' H' S l => ?_)
    · rw [show mgOf n = M2 from if_pos (of_decide_eq_true hb)] at hk
      refine st_asg S l (r := .dt (.str M2)) ev_str rfl rfl (Nat.le_of_ble_eq_true rfl) fun σ' F' H' S l => ?_ -- _law_signs_here
      exact hk _ _ _ (S.wk2 (.same rfl (.same rfl (.no (.no (.no (.no (.no (.no (.no .nil)))))))))) l
    · rw [show mgOf n = SM from if_neg (of_decide_eq_false hb)]
      exact .same rfl (.same rfl (.no (.no (.no (.no (.no (.no (.no .nil))))))))
    have hgl := mgOf_len n
    refine q_asg S l (r := .dt (.str (tx (restL n)))) (.toD (ev_join (z := tx []) (ys := ((restL n).map fun c => [c]).map tx) ev_str (.to (ev_lcR1 (fun k => some (.str (one1 (pickS (mgOf n) (mixed n (50 + (k : Int))))))) (m := 6) (av_cons ev_int av_nil) rfl rfl (Nat.le_of_ble_eq_true rfl) (by omega) fun k hk => ⟨_, gt_name (Nat.le_of_ble_eq_true rfl), tv_yes, fun _ => (ev_ixS (ev_var rfl) (ev_iC (ev_call0 (r := .dt (.int (mixed n (50 + (k : Int))))) (av_cons (ev_var rfl) (av_cons (ev_ii ev_int (ev_var rfl)) av_nil)) rfl ⟨n, 50 + (k : Int), rfl, by omega, by omega, rfl⟩) ev_int (by decide)) (by rw [sizeLine_eq]; omega) (atI_mg n _))⟩) (congrArg Sl.ls (ones_map (fun k : Nat => pickS (mgOf n) (mixed n (50 + (k : Int)))) 6))) rfl (by rw [signs_total, restL_len]; omega)) (by rw [join_signs])) rfl rfl (Nat.le_of_ble_eq_true rfl) fun σ' F' H' S l => ?_ -- _law_rest
    have hrl := restL_len n
    refine q_when S l (tv_test (ev_eqT (α := Int) (a := n / 3 % 3) (b := 1) (ev_iC (ev_iC (ev_var rfl) ev_int (CDivY.s (by decide) (by decide))) ev_int (by decide)) ev_int rfl rfl)) (fun hb F' H' S => ?_) (fun hb F' H' S => ?_)
    · have eb := of_decide_eq_true hb
      refine st_ret S l (.to (ev_lcR1 (fun k => some (.str (tx (menuW n k)))) (m := 5) (av_cons ev_int av_nil) rfl rfl (Nat.le_of_ble_eq_true rfl) (by omega) fun k hk => ⟨_, gt_name (Nat.le_of_ble_eq_true rfl), tv_yes, fun _ => (.toD (ev_slS (ev_var rfl) (tx_short (by omega)) ov_none (ov_some (ev_ii (ev_var rfl) ev_int))) ?_)⟩) (congrArg Sl.ls (mD_got (menuW n) 5))) rfl q
      rw [show ((k : Int) + 1) = ((k + 1 : Nat) : Int) by omega, cut_pre (by omega)]
      unfold menuW
      rw [if_pos eb]
      rfl
    have eb := of_decide_eq_false hb
    have hs := szOf_lt n
    have ha := atOf_le n
    refine q_asg S l (r := .dt (.int (szOf n : Int))) (.toD (ev_iC (ev_iC (ev_var rfl) ev_int (CDivY.s (by decide) (by decide))) ev_int (by decide)) (by rw [hs.2])) rfl rfl (Nat.le_of_ble_eq_true rfl) fun σ' F' H' S l => ?_ -- _law_size
    refine q_asg S l (r := .dt (.int (atOf n : Int))) (.toD (ev_iC (ev_iC (ev_var rfl) ev_int (CDivY.s (by decide) (by decide))) (ev_ii (ev_var rfl) ev_int) (by omega)) (by rw [ha.2])) rfl rfl (Nat.le_of_ble_eq_true rfl) fun σ' F' H' S l => ?_ -- _law_at
    refine q_asg S l (ev_lst av_nil rfl (Nat.le_of_ble_eq_true rfl)) rfl rfl (Nat.le_of_ble_eq_true rfl) fun σ' F' H' S l => ?_ -- _law_found
    refine q_forR1 (n := 5) (m := 5) S l (av_cons ev_int av_nil) rfl (by decide) (fun k => [.dt (.int n), .dt (.str (mgOf n)), .dt (.str (tx (restL n))), .dt (.int (szOf n : Int)), .dt (.int (atOf n : Int)), .ls (mD ((List.range k).map (menuW n))), .no, .no, .no]) (.same rfl (.same rfl (.same rfl (.same rfl (.same rfl (.same rfl (.no (.no (.no .nil))))))))) (fun _ => rfl) (Nat.le_of_ble_eq_true rfl) (fun k hk σ' F' H' S l => ?_) (fun σ' F' H' S l => ?_)
    · refine q_asg S l (r := .dt (.str (one1 (pickS (mgOf n) (n / 225 + 5 * (k : Int)))))) (ev_ixS (ev_var rfl) (ev_iC (ev_ii (ev_iC (ev_var rfl) ev_int (CDivY.s (by decide) (by decide))) (ev_iC ev_int (ev_var rfl) (CMulY.s (by omega) (by omega)))) ev_int (by decide)) (by rw [sizeLine_eq]; omega) (atI_mg n _)) rfl rfl (Nat.le_of_ble_eq_true rfl) fun σ' F' H' S l => ?_ -- _law_sign
      refine st_app S l rfl (.toD (ev_catS (ev_catS (.toD (ev_slS (ev_var rfl) (tx_short (by omega)) ov_none (ov_some (ev_var rfl))) (by rw [cut_pre (by omega)])) (.toD (b := .str (tx [pickS (mgOf n) (n / 225 + 5 * (k : Int))])) (ev_var rfl) rfl) (by simp only [tx_len, List.length_take, List.length_singleton]; rw [sizeLine_eq]; omega)) (.toD (ev_slS (ev_var rfl) (tx_short (by omega)) (ov_some (ev_var rfl)) (ov_some (ev_var rfl))) (by rw [cut_word (by omega) (by omega)])) (by rw [tx_app]; simp only [tx_len, List.length_append, List.length_take, List.length_drop, List.length_singleton]; rw [sizeLine_eq]; omega)) (b := PyData.str (tx (menuW n k))) ?_) (by unfold mD; rw [List.length_map, List.length_map, List.length_range]; omega) fun F' H' S l => ?_
      · rw [tx_app, tx_app]
        unfold menuW
        rw [if_neg eb]
      exact ⟨F', S.wk2 (.same rfl (.same rfl (.same rfl (.same rfl (.same rfl (.same (by rw [List.range_succ, List.map_append]; unfold mD; rw [List.map_append]; rfl) (.no (.no (.no .nil))))))))), l⟩
    exact st_retA S l rfl q
  · exact h.elim


def pickL (L : List (List Nat)) (m : Int) : List Nat := L.getD (m % (L.length : Int)).toNat []
theorem mD_len (L : List (List Nat)) : (mD L).length = L.length := by
  unfold mD
  rw [List.length_map]
theorem pick_lt {L : List (List Nat)} {m : Int} (h : 0 < L.length) : (m % (L.length : Int)).toNat < L.length := by
  have h0 : 0 ≤ m % (L.length : Int) := Int.emod_nonneg _ (by omega)
  have h1 : m % (L.length : Int) < L.length := Int.emod_lt_of_pos _ (by omega)
  omega
theorem atI_mD {L : List (List Nat)} {m : Int} (h : 0 < L.length) : atI (mD L) (m % (L.length : Int)) = some (.str (tx (pickL L m))) := by
  have h0 : 0 ≤ m % (L.length : Int) := Int.emod_nonneg _ (by omega)
  have hl := pick_lt (m := m) h
  have e : (((m % (L.length : Int)).toNat : Nat) : Int) = m % (L.length : Int) := by omega
  have h2 : (mD L)[(m % (L.length : Int)).toNat]? = some (.str (tx (pickL L m))) := by
    unfold mD pickL
    simp only [List.getElem?_map, List.getD, List.getElem?_eq_getElem hl, Option.getD_some, Option.map_some]
  have h3 := atI_nat h2
  rwa [e] at h3
theorem pickL_mem {L : List (List Nat)} {m : Int} (h : 0 < L.length) : pickL L m ∈ L := Fh.getD_mem (pick_lt h)

/-! ### questions drawn -/
def AN : List (List Nat) := [[97, 110, 100], [111, 114], [110, 111, 116]]
theorem an_mD : [PyData.str "and", .str "or", .str "not"] = mD AN := by
  have e : ([Str.ofString "and", Str.ofString "or", Str.ofString "not"] : List Str) = AN.map tx := by decide +kernel
  have := congrArg (List.map PyData.str) e
  rw [List.map_map] at this
  exact this
theorem an_ok : ∀ w ∈ AN, WordOk w := by unfold WordOk; decide +kernel
def wordP (n : Int) (M : List (List Nat)) : List Nat := if n / 15 % 6 = 1 then pickL AN (n / 90) else pickL M (n / 3)
def rowN (n : Int) : Nat := (2 + n / 15 % (if n / 105 % 4 = 1 then 7 else 2)).toNat
def stL (n : Int) (M : List (List Nat)) : Nat := 1 + (n / 15 % ((wordP n M).length : Int)).toNat
def rowL (n : Int) (M : List (List Nat)) : List (List Nat) := (List.range (rowN n)).map fun k : Nat => pickL M (mixed n (3 + (k : Int)))
def plainQ (n : Int) (M : List (List Nat)) : Qt :=
  if n % 3 = 0 then .word (tx (wordP n M)) else if n % 3 = 1 then .start (tx ((wordP n M).take (stL n M))) else .row ((rowL n M).map tx)
def MenuOk (M : List (List Nat)) : Prop := M.length = 5 ∧ ∀ w ∈ M, WordOk w
theorem wordP_ok (n : Int) {M : List (List Nat)} (h : MenuOk M) : WordOk (wordP n M) := by
  unfold wordP
  split
  · exact an_ok _ (pickL_mem (by decide))
  · exact h.2 _ (pickL_mem (by rw [h.1]; omega))
theorem rowN_b (n : Int) : 2 ≤ rowN n ∧ rowN n ≤ 8 ∧ ((rowN n : Nat) : Int) = 2 + n / 15 % (if n / 105 % 4 = 1 then 7 else 2) := by
  unfold rowN
  split <;> omega
theorem stL_b (n : Int) {M : List (List Nat)} (h : MenuOk M) : 1 ≤ stL n M ∧ stL n M ≤ (wordP n M).length ∧ ((stL n M : Nat) : Int) = 1 + n / 15 % ((wordP n M).length : Int) := by
  have hw := (wordP_ok n h).1
  have h0 : 0 ≤ n / 15 % ((wordP n M).length : Int) := Int.emod_nonneg _ (by omega)
  have h1 : n / 15 % ((wordP n M).length : Int) < ((wordP n M).length : Int) := Int.emod_lt_of_pos _ (by omega)
  unfold stL
  omega
def R_lplain (ds : List PyData) (r : Sl) : Prop := ∃ (n : Int) (M : List (List Nat)), ds = [.int n, .list (mD M)] ∧ 0 ≤ n ∧ n < 2 ^ 60 ∧ MenuOk M ∧ r = .dt (plainQ n M).toldD
theorem ok__law_plain {f : Addr} {fd : FuncData} (F : Fun K "_law_plain" "_law_plain" s__law_plain f fd) (T : Txt K mg CB CAsk CWord CStart CRow CNear CBoth CEither CNot)
    (d__law_mixed : DefOk P w K mg base 1 "_law_mixed" ["_law_number_here", "_law_k"] (spF K R_mixed noX) []) : FnOk P w K mg base (L2.CX P w) 2 f fd ["_law_number_here", "_law_menu_here"] (spF K R_lplain noX) := by
  refine F.okX sc__law_plain (spF_len (n := 2) (by walk_at "sl") (by rintro _ _ ⟨⟩)) (fun cdv A outer s H vs Q E hr h => ?_)
  obtain ⟨F0, ds, fh, hv, ⟨r, ⟨n, M, rfl, hn0, hn1, hM, rfl⟩, q⟩ | ⟨_, h, _⟩⟩ := h
  · --
    have S := Sts.init (N := ["_law_number_here", "_law_menu_here", "_law_word", "_law_size", "_law_k"]) fh hv
    have hu : (A.deeper (envOfC "_law_plain" (defScope s__law_plain) s.heap.objs.size f cdv)).units + 64 < cLine := hr.units
    refine ⟨_, (pss_cons (ps_set (i := 2) sc__law_plain.nd rfl (Or.inl rfl) (pe_ix (r := rIxL K) ix_list (pv 1) (pe_op op_mod (pe_op op_divY (pv 0) pe_int) pe_int) (fun _ _ => rfl)))
          (pss_cons (ps_if (pt_cmpR (r := rEqP K) (op_eqP hu) (pe_op op_mod (pe_op op_divY (pv 0) pe_int) pe_int) pe_int (nomark _)) (pss_one (ps_set (i := 2) sc__law_plain.nd rfl (Or.inl rfl) (pe_ix (r := rIxL K) ix_list (pe_lst (pa_cons pe_str (pa_cons pe_str (pa_cons pe_str pa_nil)))) (pe_op op_mod (pe_op op_divY (pv 0) pe_int) pe_int) (fun _ _ => rfl)))) pss_nil)
          (pss_cons (ps_if (pt_cmpR (r := rEqP K) (op_eqP hu) (pe_op op_mod (pv 0) pe_int) pe_int (nomark _)) (pss_one (ps_ret (pe_tup (pa_cons pe_str (pa_cons (pv 2) pa_nil))))) pss_nil)
          (pss_cons (ps_if (pt_cmpR (r := rEqP K) (op_eqP hu) (pe_op op_mod (pv 0) pe_int) pe_int (nomark _)) (pss_one (ps_ret (pe_tup (pa_cons pe_str (pa_cons (pe_slice (r := rSlS) sl_str (pv 2) po_none (po_some (pe_op op_add pe_int (pe_op op_mod (pe_op op_divY (pv 0) pe_int) (pe_callB (id := "len") (r := rLenR K) call_lenR (by rfl) T.len (by decide +kernel) (pa_cons (pv 2) pa_nil)))))) pa_nil))))) pss_nil)
          (pss_cons (ps_set (i := 3) sc__law_plain.nd rfl (Or.inl rfl) (pe_op op_add pe_int (pe_op op_mod (pe_op op_divY (pv 0) pe_int) (pe_ix (r := rIxL K) ix_list (pe_lst (pa_cons pe_int (pa_cons pe_int pa_nil))) (pe_callTy (T := "int") (r := rIntB) call_intR (by rfl) T.int (by decide +kernel) (pa_cons (pe_cmpR (r := rEqP K) (op_eqP hu) (pe_op op_mod (pe_op op_divY (pv 0) pe_int) pe_int) pe_int (nomark _)) pa_nil)) (fun _ _ => rfl)))))
          (pss_one (ps_ret (pe_tup (pa_cons pe_str (pa_cons (pe_callTy (T := "tuple") (r := rTupR K) call_tupleR (by rfl) T.tuple (by decide +kernel) (pa_cons (pe_lc (own := [("_law_k", 4)]) (g := (gName 4)) (tt := tYes) rfl sc__law_plain.nd (pi_range1 (by rfl) T.range (pa_cons (pv 3) pa_nil)) (blkOk_by (own := [("_law_k", 4)]) (N := ["_law_number_here", "_law_menu_here", "_law_word", "_law_size", "_law_k"]) (sc := defScope s__law_plain) (by decide +kernel)) (fun _ _ _ _ _ => pg_name (i := 4) sc__law_plain.nd rfl (Or.inl rfl)) (fun _ _ _ _ _ => pts_nil) (fun _ _ _ _ _ => (pe_ix (r := rIxL K) ix_list (pv 1) (pe_op op_mod (pe_own d__law_mixed (hr.mono (by decide)) (by rfl) passL (pa_cons (pv 0) (pa_cons (pe_op op_add pe_int (pv 4)) pa_nil))) pe_int) (fun _ _ => rfl)))) pa_nil)) pa_nil)))))))))), ?_⟩
    have e5 : ∀ m : Int, m % 5 = m % (M.length : Int) := fun m => by rw [hM.1]; rfl
    have at5 : ∀ m : Int, atI (mD M) (m % 5) = some (.str (tx (pickL M m))) := fun m => by rw [e5]; exact atI_mD (by rw [hM.1]; omega)
    have at3 : ∀ m : Int, atI [PyData.str "and", .str "or", .str "not"] (m % 3) = some (.str (tx (pickL AN m))) := fun m => by rw [an_mD]; exact atI_mD (L := AN) (by decide)
    refine q_asg S (init_len hv (Nat.le_of_ble_eq_true rfl)) (r := .dt (.str (tx (pickL M (n / 3))))) (ev_ixL (ev_var rfl) (ev_iC (ev_iC (ev_var rfl) ev_int (CDivY.s (by decide) (by decide))) ev_int (by decide)) rfl (at5 _)) rfl rfl (Nat.le_of_ble_eq_true rfl) fun σ' F' H' S l => ?_
    refine q_whenJ [.dt (.int n), .dt (.list (mD M)), .dt (.str (tx (wordP n M))), .no, .no] S l (tv_test (ev_eqT (α := Int) (a := n / 15 % 6) (b := 1) (ev_iC (ev_iC (ev_var rfl) ev_int (CDivY.s (by decide) (by decide))) ev_int (by decide)) ev_int rfl rfl)) (fun hb nx hk F' H' S => ?_) (fun hb => ?_) (fun σ' F' H' S l => ?_)
    · rw [show wordP n M = pickL AN (n / 90) from if_pos (of_decide_eq_true hb)] at hk
      refine st_asg S l (r := .dt (.str (tx (pickL AN (n / 90))))) (ev_ixL (ev_lst (av_cons ev_str (av_cons ev_str (av_cons ev_str av_nil))) rfl (Nat.le_of_ble_eq_true rfl)) (ev_iC (ev_iC (ev_var rfl) ev_int (CDivY.s (by decide) (by decide))) ev_int (by decide)) rfl (at3 _)) rfl rfl (Nat.le_of_ble_eq_true rfl) fun σ' F' H' S l => ?_
      exact hk _ _ _ (S.wk2 (.same rfl (.same rfl (.same rfl (.no (.no .nil)))))) l
    · rw [show wordP n M = pickL M (n / 3) from if_neg (of_decide_eq_false hb)]
      exact .same rfl (.same rfl (.same rfl (.no (.no .nil))))
    have hw := wordP_ok n hM
    refine q_when S l (b := decide (n % 3 = 0)) (tv_test (ev_eqT (α := Int) (a := n % 3) (b := 0) (ev_iC (ev_var rfl) ev_int (by decide)) ev_int rfl rfl)) (fun hb F' H' S => ?_) (fun hb F' H' S => ?_)
    · rw [show plainQ n M = .word (tx (wordP n M)) from if_pos (of_decide_eq_true hb)] at q
      exact st_ret S l (ev_tup (av_cons ev_str (av_cons (ev_var rfl) av_nil)) rfl (Nat.le_of_ble_eq_true rfl)) rfl q
    have h3 := of_decide_eq_false hb
    have hs := stL_b n hM
    refine q_when S l (b := decide (n % 3 = 1)) (tv_test (ev_eqT (α := Int) (a := n % 3) (b := 1) (ev_iC (ev_var rfl) ev_int (by decide)) ev_int rfl rfl)) (fun hb F' H' S => ?_) (fun hb F' H' S => ?_)
    · rw [show plainQ n M = .start (tx ((wordP n M).take (stL n M))) from (if_neg h3).trans (if_pos (of_decide_eq_true hb))] at q
      refine st_ret S l (ev_tup (av_cons ev_str (av_cons (.toD (ev_slS (ev_var rfl) (tx_short (by have := hw.2.1; omega)) ov_none (ov_some (.toD (b := .int ((stL n M : Nat) : Int)) (ev_ii (f := fun i j => i + j) ev_int (ev_iC (ev_iC (ev_var rfl) ev_int (CDivY.s (by decide) (by decide))) (ev_len (ev_var rfl) rfl (tx_lenD (by have := hw.2.1; omega))) (by have := hw.1; omega))) (by rw [hs.2.2])))) (congrArg PyData.str (cut_pre hs.2.1))) av_nil)) rfl (Nat.le_of_ble_eq_true rfl)) rfl q
    have hr := rowN_b n
    rw [show plainQ n M = .row ((rowL n M).map tx) from (if_neg h3).trans (if_neg (of_decide_eq_false hb))] at q
    have hix : ∀ b : Bool, atI [PyData.int 2, .int 7] (if b then 1 else 0) = some (.int (if b then 7 else 2)) := fun b => by cases b <;> rfl
    have hmd : ∀ b : Bool, (0 : Int) < (if b then 7 else 2) ∧ (if b then (7 : Int) else 2) ≠ 0 := fun b => by cases b <;> decide
    refine q_asg S l (r := .dt (.int ((rowN n : Nat) : Int))) (.toD (ev_ii (f := fun i j => i + j) ev_int (ev_iC (ev_iC (ev_var rfl) ev_int (CDivY.s (by decide) (by decide))) (ev_ixL (ev_lst (av_cons ev_int (av_cons ev_int av_nil)) rfl (Nat.le_of_ble_eq_true rfl)) (ev_intB (ev_eqT (α := Int) (a := n / 105 % 4) (b := 1) (ev_iC (ev_iC (ev_var rfl) ev_int (CDivY.s (by decide) (by decide))) ev_int (by decide)) ev_int rfl rfl)) rfl (hix _)) (hmd _).1)) (by rw [hr.2.2]; congr 3; by_cases e : n / 105 % 4 = 1 <;> simp [e])) rfl rfl (Nat.le_of_ble_eq_true rfl) fun σ' F' H' S l => ?_
    refine st_ret S l (ev_tup (av_cons ev_str (av_cons (ev_tupleL (.to (ev_lcR1 (fun k => some (.str (tx (pickL M (mixed n (3 + (k : Int))))))) (m := rowN n) (av_cons (ev_var rfl) av_nil) (by omega) rfl (Nat.le_of_ble_eq_true rfl) (by omega) fun k hk => ⟨_, gt_name (Nat.le_of_ble_eq_true rfl), tv_yes, fun _ => ?_⟩) (congrArg Sl.ls ((mD_got (fun k : Nat => pickL M (mixed n (3 + (k : Int)))) (rowN n)).trans (List.map_map (f := tx) (g := PyData.str)).symm))) rfl) av_nil)) rfl (Nat.le_of_ble_eq_true rfl)) rfl q
    exact ev_ixL (ev_var rfl) (ev_iC (ev_call0 (r := .dt (.int (mixed n (3 + (k : Int))))) (av_cons (ev_var rfl) (av_cons (ev_ii ev_int (ev_var rfl)) av_nil)) rfl ⟨n, 3 + (k : Int), rfl, by omega, by omega, rfl⟩) ev_int (by decide)) rfl (at5 _)
  · exact h.elim
/-! ### what the law itself says of kids and leaves -/
theorem Qt.plain : ∀ q : Qt, q.toldD.plain = true
  | .word _ => rfl
  | .start _ => rfl
  | .row ws => by
    have : PyData.plainAll (ws.map .str) = true := by
      induction ws with
      | nil => rfl
      | cons w ws ih => exact ih
    simp only [Qt.toldD, PyData.plain, PyData.plainAll, this, Bool.and_true]
  | .near a b _ => by simp only [Qt.toldD, PyData.plain, PyData.plainAll, Qt.plain a, Qt.plain b, Bool.and_true]
  | .both a b => by simp only [Qt.toldD, PyData.plain, PyData.plainAll, Qt.plain a, Qt.plain b, Bool.and_true]
  | .either a b => by simp only [Qt.toldD, PyData.plain, PyData.plainAll, Qt.plain a, Qt.plain b, Bool.and_true]
  | .no a => by simp only [Qt.toldD, PyData.plain, PyData.plainAll, Qt.plain a, Bool.and_true]
def tD (l : List Qt) : List PyData := l.map Qt.toldD
def R_lkids (ds : List PyData) (r : Sl) : Prop := ∃ q : Qt, ds = [q.toldD] ∧ r = .ls (tD q.kids)
theorem ok__law_kids {f : Addr} {fd : FuncData} (F : Fun K "_law_kids" "_law_kids" s__law_kids f fd) (T : Txt K mg CB CAsk CWord CStart CRow CNear CBoth CEither CNot) : FnOk P w K mg base (L2.CX P w) 1 f fd ["_law_told"] (spF K R_lkids noX) := by
  refine F.okX sc__law_kids (spF_len (n := 1) (by walk_at "sl") (by rintro _ _ ⟨⟩)) (fun cdv A outer s H vs Q E hr h => ?_)
  obtain ⟨F0, ds, fh, hv, ⟨r, ⟨x, rfl, rfl⟩, q⟩ | ⟨_, h, _⟩⟩ := h
  · --
    have S := Sts.init (N := ["_law_told"]) fh hv
    have hu : (A.deeper (envOfC "_law_kids" (defScope s__law_kids) s.heap.objs.size f cdv)).units + 64 < cLine := hr.units
    refine ⟨_, (pss_cons (ps_if (pt_cmpR (r := rInT K) (op_inT hu) (pe_ix (r := rIxT K) ix_tup (pv 0) pe_int (fun _ _ => rfl)) (pe_tup (pa_cons pe_str (pa_cons pe_str (pa_cons pe_str pa_nil)))) (by rfl)) (pss_one (ps_ret (pe_lst (pa_cons (pe_ix (r := rIxT K) ix_tup (pv 0) pe_int (fun _ _ => rfl)) (pa_cons (pe_ix (r := rIxT K) ix_tup (pv 0) pe_int (fun _ _ => rfl)) pa_nil))))) pss_nil)
          (pss_one (ps_ret (pe_ifExp (pt_cmpR (r := rEqP K) (op_eqP hu) (pe_ix (r := rIxT K) ix_tup (pv 0) pe_int (fun _ _ => rfl)) pe_str (nomark _)) (pe_lst (pa_cons (pe_ix (r := rIxT K) ix_tup (pv 0) pe_int (fun _ _ => rfl)) pa_nil)) (pe_lst pa_nil))))), ?_⟩
    have ix : ∀ {z : Str} {tl : List PyData}, EvR K (tOp (rIxT K) (tVar 0) (tC (.int 0))) (ssOf 1 [.tuple (.str z :: tl)]) (.dt (.str z)) := fun {z tl} => ev_ixT (ds := .str z :: tl) (ev_var rfl) ev_int rfl (atI_nat (j := 0) rfl)
    have ixn : ∀ {z : Str} {tl : List PyData} {d : PyData} (j : Nat), (PyData.str z :: tl)[j]? = some d → EvR K (tOp (rIxT K) (tVar 0) (tC (.int (j : Int)))) (ssOf 1 [.tuple (.str z :: tl)]) (.dt d) := fun {z tl d} j h => ev_ixT (ds := .str z :: tl) (ev_var rfl) ev_int rfl (atI_nat h)
    have hin : ∀ {z : Str} {tl : List PyData} {b : Bool}, ([PyData.str "both", .str "either", .str "near"].any fun y => PyData.eqv y (.str z)) = b → EvR K (tOp (rInT K) (tOp (rIxT K) (tVar 0) (tC (.int 0))) (tTup (tCons (tC (.str "both")) (tCons (tC (.str "either")) (tCons (tC (.str "near")) tNil))))) (ssOf 1 [.tuple (.str z :: tl)]) (.dt (.bool b)) := fun {z tl b} h => .toD (ev_inT (d := .str z) (ds := [.str "both", .str "either", .str "near"]) ix (ev_tup (av_cons ev_str (av_cons ev_str (av_cons ev_str av_nil))) rfl (Nat.le_of_ble_eq_true rfl)) rfl rfl rfl rfl (Nat.zero_le _)) (congrArg PyData.bool h)
    have heq : ∀ {z : Str} {tl : List PyData} {b : Bool}, decide (z = "not") = b → TvR K (tTest (tOp (rEqP K) (tOp (rIxT K) (tVar 0) (tC (.int 0))) (tC (.str "not")))) (ssOf 1 [.tuple (.str z :: tl)]) b := fun {z tl b} h => .to (tv_test (ev_eqT (α := Str) (a := z) (b := "not") ix ev_str rfl rfl)) h
    have two : ∀ {z : Str} {tl : List PyData} {a b : PyData}, (PyData.str z :: tl)[1]? = some a → (PyData.str z :: tl)[2]? = some b → EvR K (tLst (tCons (tOp (rIxT K) (tVar 0) (tC (.int 1))) (tCons (tOp (rIxT K) (tVar 0) (tC (.int 2))) tNil))) (ssOf 1 [.tuple (.str z :: tl)]) (.ls [a, b]) := fun h1 h2 => ev_lst (av_cons (ixn 1 h1) (av_cons (ixn 2 h2) av_nil)) rfl (Nat.le_of_ble_eq_true rfl)
    have il : (start ["_law_told"] vs).length = 1 := init_len (N := ["_law_told"]) hv (Nat.le_of_ble_eq_true rfl)
    cases x with
    | near a b z =>
      refine q_when S il (b := true) (tv_B (hin (z := "near") (tl := [a.toldD, b.toldD, .int z]) (by decide +kernel))) (fun hb F' H' S => ?_) (fun hb => nomatch hb)
      exact st_ret S il (two (z := "near") (tl := [a.toldD, b.toldD, .int z]) rfl rfl) rfl q
    | both a b =>
      refine q_when S il (b := true) (tv_B (hin (z := "both") (tl := [a.toldD, b.toldD]) (by decide +kernel))) (fun hb F' H' S => ?_) (fun hb => nomatch hb)
      exact st_ret S il (two (z := "both") (tl := [a.toldD, b.toldD]) rfl rfl) rfl q
    | either a b =>
      refine q_when S il (b := true) (tv_B (hin (z := "either") (tl := [a.toldD, b.toldD]) (by decide +kernel))) (fun hb F' H' S => ?_) (fun hb => nomatch hb)
      exact st_ret S il (two (z := "either") (tl := [a.toldD, b.toldD]) rfl rfl) rfl q
    | no a =>
      refine q_when S il (b := false) (tv_B (hin (z := "not") (tl := [a.toldD]) (by decide +kernel))) (fun hb => nomatch hb) (fun hb F' H' S => ?_)
      exact st_ret S il (ev_if (b := true) (heq (z := "not") (tl := [a.toldD]) (by decide +kernel)) (fun _ => ev_lst (av_cons (ixn (z := "not") (tl := [a.toldD]) 1 rfl) av_nil) rfl (Nat.le_of_ble_eq_true rfl)) (fun h => nomatch h)) rfl q
    | word a =>
      refine q_when S il (b := false) (tv_B (hin (z := "word") (tl := [.str a]) (by decide +kernel))) (fun hb => nomatch hb) (fun hb F' H' S => ?_)
      exact st_ret S il (ev_if (b := false) (heq (z := "word") (tl := [.str a]) (by decide +kernel)) (fun h => nomatch h) (fun _ => ev_lst av_nil rfl (Nat.le_of_ble_eq_true rfl))) rfl q
    | start a =>
      refine q_when S il (b := false) (tv_B (hin (z := "start") (tl := [.str a]) (by decide +kernel))) (fun hb => nomatch hb) (fun hb F' H' S => ?_)
      exact st_ret S il (ev_if (b := false) (heq (z := "start") (tl := [.str a]) (by decide +kernel)) (fun h => nomatch h) (fun _ => ev_lst av_nil rfl (Nat.le_of_ble_eq_true rfl))) rfl q
    | row ws =>
      refine q_when S il (b := false) (tv_B (hin (z := "row") (tl := [.tuple (ws.map .str)]) (by decide +kernel))) (fun hb => nomatch hb) (fun hb F' H' S => ?_)
      exact st_ret S il (ev_if (b := false) (heq (z := "row") (tl := [.tuple (ws.map .str)]) (by decide +kernel)) (fun h => nomatch h) (fun _ => ev_lst av_nil rfl (Nat.le_of_ble_eq_true rfl))) rfl q
  · exact h.elim

/-! ### a question drawn, of many -/
def treeQ (ns : List Int) (M : List (List Nat)) : Nat → Nat → Qt × Nat
  | 0, a => (plainQ (number ns ((a + 1 : Nat) : Int) / 9) M, a + 1)
  | d + 1, a =>
    if d + 1 < 2 ∨ 16 < a + 1 ∨ number ns ((a + 1 : Nat) : Int) % 9 < 2 then (plainQ (number ns ((a + 1 : Nat) : Int) / 9) M, a + 1)
    else if number ns ((a + 1 : Nat) : Int) % 9 = 2 then (.near (plainQ (number ns ((a + 1 : Nat) : Int) / 378) M) (plainQ (mixed (number ns ((a + 1 : Nat) : Int)) 5) M) (number ns ((a + 1 : Nat) : Int) / 18 % (if number ns ((a + 1 : Nat) : Int) / 9 % 2 = 0 then 3 else 21)), a + 1)
    else if number ns ((a + 1 : Nat) : Int) % 9 = 3 then (.no (treeQ ns M d (a + 1)).1, (treeQ ns M d (a + 1)).2)
    else ((if number ns ((a + 1 : Nat) : Int) % 2 = 0 then Qt.both else Qt.either) (treeQ ns M d (a + 1)).1 (treeQ ns M d (treeQ ns M d (a + 1)).2).1, (treeQ ns M d (treeQ ns M d (a + 1)).2).2)
theorem tree_at (ns : List Int) (M : List (List Nat)) : ∀ d a, a + 1 ≤ (treeQ ns M d a).2 ∧ (treeQ ns M d a).2 + 1 ≤ a + 2 ^ d ∨ (d = 0 ∧ (treeQ ns M d a).2 = a + 1)
  | 0, a => .inr ⟨rfl, rfl⟩
  | d + 1, a => by
    have hp : 2 ^ (d + 1) = 2 * 2 ^ d := by rw [Nat.pow_succ]; omega
    have hp0 : 1 ≤ 2 ^ d := Nat.one_le_two_pow
    refine .inl ?_
    unfold treeQ
    split
    · exact ⟨Nat.le_refl _, by show a + 1 + 1 ≤ _; omega⟩
    · rename_i h1
      have hd : 1 ≤ d := by omega
      split
      · exact ⟨Nat.le_refl _, by show a + 1 + 1 ≤ _; omega⟩
      · split
        · have := tree_at ns M d (a + 1)
          show _ ≤ (treeQ ns M d (a + 1)).2 ∧ (treeQ ns M d (a + 1)).2 + 1 ≤ _
          omega
        · have := tree_at ns M d (a + 1)
          have := tree_at ns M d (treeQ ns M d (a + 1)).2
          show _ ≤ (treeQ ns M d (treeQ ns M d (a + 1)).2).2 ∧ (treeQ ns M d (treeQ ns M d (a + 1)).2).2 + 1 ≤ _
          omega
def ctS (a : Nat) : List Sl := [.dt (.int (a : Int))]
def R_ltree (n : Nat) : RL := fun as1 as2 hs hs' r => ∃ (ns : List Int) (M : List (List Nat)) (d a : Nat), as1 = [.dt (.list (iD ns))] ∧ as2 = [.dt (.int (d : Int)), .dt (.list (mD M))] ∧ hs = ctS a ∧ hs' = ctS (treeQ ns M d a).2 ∧ 1 ≤ d ∧ d ≤ n ∧ a + 2 ^ d ≤ 1000 ∧ MenuOk M ∧ r = .dt (treeQ ns M d a).1.toldD
theorem ok_ltree {n : Nat} {f : Addr} {fd : FuncData} (F : Fun K "_law_tree" "_law_tree" s__law_tree f fd) (T : Txt K mg CB CAsk CWord CStart CRow CNear CBoth CEither CNot)
    (d__law_number : DefOk P w K mg base 2 "_law_number" ["_law_script", "_law_k"] (spF K R_number noX) [])
    (d__law_plain : DefOk P w K mg base 2 "_law_plain" ["_law_number_here", "_law_menu_here"] (spF K R_lplain noX) [])
    (d__law_mixed : DefOk P w K mg base 1 "_law_mixed" ["_law_number_here", "_law_k"] (spF K R_mixed noX) [])
    (d__law_tree : DefOk P w K mg base (n + 2) "_law_tree" ["_law_script", "_law_at", "_law_deep", "_law_menu_here"] (spL K (R_ltree n)) []) : FnOk P w K mg base (L2.CX P w) (n + 3) f fd ["_law_script", "_law_at", "_law_deep", "_law_menu_here"] (spL K (R_ltree (n + 1))) := by
  refine F.okX sc__law_tree (spL_len (n := 4) (by rintro _ _ _ _ _ ⟨ns, M, d, a, rfl, rfl, _⟩; rfl)) (fun cdv A outer s H vs Q E hr h => ?_)
  obtain ⟨F0, ws1, ws2, p, us, as1, as2, hs, hs', r, rfl, fh, hv1, hv2, hp, fp, hus, ⟨ns, M, d, a, rfl, rfl, rfl, rfl, h1, hd, ha, hM, rfl⟩, q⟩ := h
  have S : Sts K (fun a => a = p) F0 H F0 H (start ["_law_script", "_law_at", "_law_deep", "_law_menu_here", "_law_number_here", "_law_far", "_law_one"] (ws1 ++ V.ref p :: ws2) ++ []) ([.dt (.list (iD ns)), .mu (glAt K p (ctS a)), .dt (.int (d : Int)), .dt (.list (mD M)), .no, .no, .no] ++ []) := Sts.initL fh hv1 hv2 hp fp hus
  have il : (start ["_law_script", "_law_at", "_law_deep", "_law_menu_here", "_law_number_here", "_law_far", "_law_one"] (ws1 ++ V.ref p :: ws2)).length = 7 := init_lenL (hs := ctS a) hv1 hv2
  have hu : (A.deeper (envOfC "_law_tree" (defScope s__law_tree) s.heap.objs.size f cdv)).units + 64 < cLine := hr.units
  refine ⟨_, (pss_cons (ps_asg (pe_op op_add (pe_ix (r := rIxL K) ix_list (pv 1) pe_int (fun _ _ => rfl)) pe_int) (pg_sub (pv 1) pe_int set_list))
        (pss_cons (ps_set (i := 4) sc__law_tree.nd rfl (Or.inl rfl) (pe_own d__law_number (hr.mono (by omega)) (by rfl) passL (pa_cons (pv 0) (pa_cons (pe_ix (r := rIxL K) ix_list (pv 1) pe_int (fun _ _ => rfl)) pa_nil))))
        (pss_cons (ps_if (PW.pt (pw_or (pt_cmpR op_lt (pv 2) pe_int (nomark _)) (pw_or (pt_cmpR op_gt (pe_ix (r := rIxL K) ix_list (pv 1) pe_int (fun _ _ => rfl)) pe_int (nomark _)) (pw_or1 (pt_cmpR op_lt (pe_op op_mod (pv 4) pe_int) pe_int (nomark _)))))) (pss_one (ps_ret (pe_own d__law_plain (hr.mono (by omega)) (by rfl) passL (pa_cons (pe_op op_divY (pv 4) pe_int) (pa_cons (pv 3) pa_nil))))) pss_nil)
        (pss_cons (ps_if (pt_cmpR (r := rEqP K) (op_eqP hu) (pe_op op_mod (pv 4) pe_int) pe_int (nomark _)) (pss_cons (ps_set (i := 5) sc__law_tree.nd rfl (Or.inl rfl) (pe_op op_mod (pe_op op_divY (pv 4) pe_int) (pe_ix (r := rIxL K) ix_list (pe_lst (pa_cons pe_int (pa_cons pe_int pa_nil))) (pe_op op_mod (pe_op op_divY (pv 4) pe_int) pe_int) (fun _ _ => rfl))))
        (pss_one (ps_ret (pe_tup (pa_cons pe_str (pa_cons (pe_own d__law_plain (hr.mono (by omega)) (by rfl) passL (pa_cons (pe_op op_divY (pv 4) pe_int) (pa_cons (pv 3) pa_nil))) (pa_cons (pe_own d__law_plain (hr.mono (by omega)) (by rfl) passL (pa_cons (pe_own d__law_mixed (hr.mono (by omega)) (by rfl) passL (pa_cons (pv 4) (pa_cons pe_int pa_nil))) (pa_cons (pv 3) pa_nil))) (pa_cons (pv 5) pa_nil)))))))) pss_nil)
        (pss_cons (ps_if (pt_cmpR (r := rEqP K) (op_eqP hu) (pe_op op_mod (pv 4) pe_int) pe_int (nomark _)) (pss_one (ps_ret (pe_tup (pa_cons pe_str (pa_cons (pe_own d__law_tree (hr.mono (by omega)) (by rfl) passL (pa_cons (pv 0) (pa_cons (pv 1) (pa_cons (pe_op op_sub (pv 2) pe_int) (pa_cons (pv 3) pa_nil))))) pa_nil))))) pss_nil)
        (pss_cons (ps_set (i := 6) sc__law_tree.nd rfl (Or.inl rfl) (pe_own d__law_tree (hr.mono (by omega)) (by rfl) passL (pa_cons (pv 0) (pa_cons (pv 1) (pa_cons (pe_op op_sub (pv 2) pe_int) (pa_cons (pv 3) pa_nil))))))
        (pss_one (ps_ret (pe_tup (pa_cons (pe_ix (r := rIxL K) ix_list (pe_lst (pa_cons pe_str (pa_cons pe_str pa_nil))) (pe_op op_mod (pv 4) pe_int) (fun _ _ => rfl)) (pa_cons (pv 6) (pa_cons (pe_own d__law_tree (hr.mono (by omega)) (by rfl) passL (pa_cons (pv 0) (pa_cons (pv 1) (pa_cons (pe_op op_sub (pv 2) pe_int) (pa_cons (pv 3) pa_nil))))) pa_nil)))))))))))), ?_⟩
  refine Fh.st_seq (st_setH (a := .dt (.int ((a + 1 : Nat) : Int))) (z := 0) (j := 0) glV_at S il (i := 1) rfl (.toD (ev_ii (f := fun i j => i + j) (ev_ixH (k := 0) glV_at (i := 1) rfl ev_int rfl) ev_int) rfl) rfl ev_int rfl fun F' H' S l => ?_)
  obtain ⟨z, ez⟩ : ∃ z, number ns ((a + 1 : Nat) : Int) = z := ⟨_, rfl⟩
  have hz := number_lt ns ((a + 1 : Nat) : Int)
  rw [ez] at hz
  have hp0 : 2 ≤ 2 ^ d := by
    have := Nat.pow_le_pow_right (n := 2) (by decide) h1
    omega
  have at_ : ∀ {s1 s2 s3 s4 s5 s6 : Sl}, EvR K (tOp (rIxL K) (tVar 1) (tC (.int 0))) [s1, .mu (glAt K p (ctS (a + 1))), s2, s3, s4, s5, s6] (.dt (.int ((a + 1 : Nat) : Int))) := fun {s1 s2 s3 s4 s5 s6} => ev_ixH (k := 0) (glV_at (K := K) (p := p)) (i := 1) rfl ev_int rfl
  refine q_asg (r := .dt (.int z)) S l (ev_call0 (av_cons (ev_var rfl) (av_cons at_ av_nil)) rfl ⟨ns, ((a + 1 : Nat) : Int), rfl, by omega, by omega, by rw [ez]⟩) rfl rfl (Nat.le_of_ble_eq_true rfl) fun σ' F' H' S l => ?_
  refine q_when S l (b := (decide ((d : Int) < 2) || (decide ((16 : Int) < ((a + 1 : Nat) : Int)) || decide (z % 9 < 2)))) (tv_or (tv_test (ev_ib (ev_var rfl) ev_int)) fun _ => tv_or (tv_test (ev_ib at_ ev_int)) fun _ => tv_test (ev_ib (ev_iC (ev_var rfl) ev_int (by decide)) ev_int)) (fun hb F' H' S => ?_) (fun hb F' H' S => ?_)
  · have hb' : d < 2 ∨ 16 < a + 1 ∨ z % 9 < 2 := by
      simp only [Bool.or_eq_true, decide_eq_true_eq] at hb
      omega
    have ht : treeQ ns M d a = (plainQ (z / 9) M, a + 1) := by
      cases d with
      | zero => omega
      | succ d =>
        unfold treeQ
        rw [ez, if_pos hb']
    rw [ht] at q
    exact stL_ret S l (i := 1) rfl (ev_call0 (r := .dt (plainQ (z / 9) M).toldD) (av_cons (ev_iC (ev_var rfl) ev_int (CDivY.s (by decide) (by decide))) (av_cons (ev_var rfl) av_nil)) rfl ⟨_, M, rfl, by omega, by omega, hM, rfl⟩) rfl q
  have hb' : ¬ (d < 2 ∨ 16 < a + 1 ∨ z % 9 < 2) := by
    simp only [Bool.or_eq_false_iff, decide_eq_false_iff_not] at hb
    omega
  obtain ⟨e, rfl⟩ : ∃ e, d = e + 1 := ⟨d - 1, by omega⟩
  have hpe : 2 ^ (e + 1) = 2 * 2 ^ e := by rw [Nat.pow_succ]; omega
  refine q_when S l (b := decide (z % 9 = 2)) (tv_test (ev_eqT (α := Int) (a := z % 9) (b := 2) (ev_iC (ev_var rfl) ev_int (by decide)) ev_int rfl rfl)) (fun hb F' H' S => ?_) (fun hb F' H' S => ?_)
  · have ht : treeQ ns M (e + 1) a = (.near (plainQ (z / 378) M) (plainQ (mixed z 5) M) (z / 18 % (if z / 9 % 2 = 0 then 3 else 21)), a + 1) := by
      unfold treeQ
      rw [ez, if_neg hb', if_pos (of_decide_eq_true hb)]
    rw [ht] at q
    have hfar : atI [PyData.int 3, .int 21] (z / 9 % 2) = some (.int (if z / 9 % 2 = 0 then 3 else 21)) := by
      have : z / 9 % 2 = 0 ∨ z / 9 % 2 = 1 := by omega
      rcases this with e | e <;> rw [e] <;> rfl
    have hfp : (0 : Int) < (if z / 9 % 2 = 0 then 3 else 21) := by split <;> decide
    refine q_asg (r := .dt (.int (z / 18 % (if z / 9 % 2 = 0 then 3 else 21)))) S l (ev_iC (ev_iC (ev_var rfl) ev_int (CDivY.s (by decide) (by decide))) (ev_ixL (ev_lst (av_cons ev_int (av_cons ev_int av_nil)) rfl (Nat.le_of_ble_eq_true rfl)) (ev_iC (ev_iC (ev_var rfl) ev_int (CDivY.s (by decide) (by decide))) ev_int (by decide)) rfl hfar) hfp) rfl rfl (Nat.le_of_ble_eq_true rfl) fun σ' F' H' S l => ?_
    have hmx := mixed_lt z 5
    exact stL_ret S l (i := 1) rfl (ev_tup (av_cons ev_str (av_cons (ev_call0 (r := .dt (plainQ (z / 378) M).toldD) (av_cons (ev_iC (ev_var rfl) ev_int (CDivY.s (by decide) (by decide))) (av_cons (ev_var rfl) av_nil)) rfl ⟨_, M, rfl, by omega, by omega, hM, rfl⟩) (av_cons (ev_call0 (r := .dt (plainQ (mixed z 5) M).toldD) (av_cons (ev_call0 (r := .dt (.int (mixed z 5))) (av_cons (ev_var rfl) (av_cons ev_int av_nil)) rfl ⟨z, 5, rfl, by decide, by decide, rfl⟩) (av_cons (ev_var rfl) av_nil)) rfl ⟨_, M, rfl, by omega, by omega, hM, rfl⟩) (av_cons (ev_var rfl) av_nil)))) rfl (Nat.le_of_ble_eq_true rfl)) rfl q
  have h2 := of_decide_eq_false hb
  have low : ∀ {s4 s5 s6 : Sl} (b : Nat), b + 2 ^ e ≤ 1000 → EvM K (tCall (spL K (R_ltree n)) [] E0 (tCons (tVar 0) (tCons (tVar 1) (tCons (tOp (rI0 fun i j => .int (i - j)) (tVar 2) (tC (.int 1))) (tCons (tVar 3) tNil))))) [.dt (.list (iD ns)), .mu (glAt K p (ctS b)), .dt (.int ((e + 1 : Nat) : Int)), .dt (.list (mD M)), s4, s5, s6] [.dt (.list (iD ns)), .mu (glAt K p (ctS (treeQ ns M e b).2)), .dt (.int ((e + 1 : Nat) : Int)), .dt (.list (mD M)), s4, s5, s6] (.dt (treeQ ns M e b).1.toldD) := fun {s4 s5 s6} b hb => evM_callL (R := R_ltree n) (hs := ctS b) (hs' := ctS (treeQ ns M e b).2) (rs1 := [.dt (.list (iD ns))]) (rs2 := [.dt (.int (e : Int)), .dt (.list (mD M))]) (glV_at (K := K) (p := p)) (i := 1) rfl (av_cons (ev_var rfl) (av_cons (ev_varM rfl) (av_cons (.toD (b := .int (e : Int)) (ev_ii (f := fun i j => i - j) (ev_var rfl) ev_int) (congrArg PyData.int (by omega))) (av_cons (ev_var rfl) av_nil)))) rfl rfl ⟨ns, M, e, b, rfl, rfl, rfl, rfl, by omega, by omega, hb, hM, rfl⟩ rfl
  refine q_when S l (b := decide (z % 9 = 3)) (tv_test (ev_eqT (α := Int) (a := z % 9) (b := 3) (ev_iC (ev_var rfl) ev_int (by decide)) ev_int rfl rfl)) (fun hb F' H' S => ?_) (fun hb F' H' S => ?_)
  · have ht : treeQ ns M (e + 1) a = (.no (treeQ ns M e (a + 1)).1, (treeQ ns M e (a + 1)).2) := by
      rw [treeQ, ez, if_neg hb', if_neg h2, if_pos (of_decide_eq_true hb)]
    rw [ht] at q
    exact stL_retM S l (i := 1) (evM_tup (avM_cons ev_str (avM_last (low (a + 1) (by omega)))) rfl rfl (Nat.le_of_ble_eq_true rfl)) rfl rfl rfl q
  have h3 := of_decide_eq_false hb
  have ht : treeQ ns M (e + 1) a = ((if z % 2 = 0 then Qt.both else Qt.either) (treeQ ns M e (a + 1)).1 (treeQ ns M e (treeQ ns M e (a + 1)).2).1, (treeQ ns M e (treeQ ns M e (a + 1)).2).2) := by
    rw [treeQ, ez, if_neg hb', if_neg h2, if_neg h3]
  rw [ht] at q
  have hta := tree_at ns M e (a + 1)
  refine q_asgM S l (j := 6) (low (a + 1) (by omega)) rfl rfl rfl (Nat.le_of_ble_eq_true rfl) fun σ' F' H' S l => ?_
  have hsg : atI [PyData.str "both", .str "either"] (z % 2) = some (.str (if z % 2 = 0 then "both" else "either")) := by
    have : z % 2 = 0 ∨ z % 2 = 1 := by omega
    rcases this with e | e <;> rw [e] <;> rfl
  have he : ∀ x y : Qt, ((if z % 2 = 0 then Qt.both else Qt.either) x y).toldD = .tuple [.str (if z % 2 = 0 then "both" else "either"), x.toldD, y.toldD] := fun x y => by split <;> rfl
  rw [he] at q
  exact stL_retM S l (i := 1) (evM_tup (avM_cons (ev_ixL (ev_lst (av_cons ev_str (av_cons ev_str av_nil)) rfl (Nat.le_of_ble_eq_true rfl)) (ev_iC (ev_var rfl) ev_int (by decide)) rfl hsg) (avM_cons (ev_var rfl) (avM_last (low (treeQ ns M e (a + 1)).2 (by omega))))) rfl rfl (Nat.le_of_ble_eq_true rfl)) rfl rfl rfl q

end
section
variable {P : Program} {w : World} {K : PySem.W.Frag} {mg : Str → Option Value} {base : Heap} {CB CAsk CWord CStart CRow CNear CBoth CEither CNot : Addr}
/-! spans -/
def wsD (ws : List Str) : PyData := .list (ws.map PyData.str)
def spD (zs : List (Int × Int)) : List PyData := zs.map iiD
theorem spD_len (zs : List (Int × Int)) : (spD zs).length = zs.length := List.length_map _
theorem sp_at {zs : List (Int × Int)} {k : Nat} {d : PyData} (h : (spD zs)[k]? = some d) : ∃ z, zs[k]? = some z ∧ d = iiD z := by
  unfold spD at h
  rw [List.getElem?_map] at h
  cases e : zs[k]? with
  | none => rw [e] at h; cases h
  | some z =>
    rw [e] at h
    exact ⟨z, rfl, (Option.some.inj h).symm⟩
theorem ws_at {ws : List Str} {k : Nat} {d : PyData} (h : (ws.map PyData.str)[k]? = some d) : ∃ z, ws[k]? = some z ∧ d = .str z := by
  rw [List.getElem?_map] at h
  cases e : ws[k]? with
  | none => rw [e] at h; cases h
  | some z =>
    rw [e] at h
    exact ⟨z, rfl, (Option.some.inj h).symm⟩
def R_spans (K : PySem.W.Frag) (A : Kd → Addr) (n : Nat) (k : Kd) : RG := fun as r => ∃ (q : Qt) (ws : List Str), as = [askS K A q, .dt (wsD ws)] ∧ q.kd = k ∧ q.dep ≤ n ∧ rowsNe q = true ∧ ws.length ≤ 64 ∧ r = .ls (spD (spansQ q ws))
def R_holds (K : PySem.W.Frag) (A : Kd → Addr) (n : Nat) (k : Kd) : RG := fun as r => ∃ (q : Qt) (ws : List Str), as = [askS K A q, .dt (wsD ws)] ∧ q.kd = k ∧ q.dep ≤ n ∧ rowsNe q = true ∧ ws.length ≤ 64 ∧ r = .dt (.bool (holdsQ q ws))
section
variable {A : Kd → Addr} {te tw : TE} {ss : List Sl} {E : XK} {n : Nat}
theorem ev_spans {q : Qt} {ws : List Str} (ha : EvR K te ss (askS K A q)) (hw : EvR K tw ss (.dt (wsD ws))) (hn : q.dep ≤ n) (hr : rowsNe q = true) (hl : ws.length ≤ 64) : EvR K (tAny fun k : Kd => tMeth (A k) "spans" (spG K (R_spans K A n k) noXG) [] E te (tCons tw tNil)) ss (.ls (spD (spansQ q ws))) :=
  ev_askM (RR := R_spans K A n) (X := fun _ => noXG) ha (by decide +kernel) (av_cons hw av_nil) rfl ⟨q, ws, rfl, rfl, hn, hr, hl, rfl⟩
theorem ev_holds {q : Qt} {ws : List Str} (ha : EvR K te ss (askS K A q)) (hw : EvR K tw ss (.dt (wsD ws))) (hn : q.dep ≤ n) (hr : rowsNe q = true) (hl : ws.length ≤ 64) : EvR K (tAny fun k : Kd => tMeth (A k) "holds" (spG K (R_holds K A n k) noXG) [] E te (tCons tw tNil)) ss (.dt (.bool (holdsQ q ws))) :=
  ev_askM (RR := R_holds K A n) (X := fun _ => noXG) ha (by decide +kernel) (av_cons hw av_nil) rfl ⟨q, ws, rfl, rfl, hn, hr, hl, rfl⟩
end
theorem ok_Word_spans {n : Nat} {f : Addr} {fd : FuncData} (F : Fun K "spans" "Word.spans" s_Word_spans f fd) (T : Txt K mg CB CAsk CWord CStart CRow CNear CBoth CEither CNot) : FnOk P w K mg base (L2.CX P w) 1 f fd ["self", "words"] (spG K (R_spans K (qa CWord CStart CRow CNear CBoth CEither CNot) n .word) noXG) := by
  refine F.okX sc_Word_spans (spG_len (n := 2) (by rintro _ _ ⟨q, ws, rfl, _⟩; rfl) (by rintro _ _ ⟨⟩)) (fun cdv A outer s H vs Q E hr h => ?_)
  obtain ⟨F0, as, fh, hv, ⟨r, ⟨q, ws, rfl, hk, hd, hr0, hl, rfl⟩, qq⟩ | ⟨_, h, _⟩⟩ := h
  · cases q with
    | word x =>
      have S := Sts.initG (N := ["self", "words", "place", "word"]) fh hv
      have hu : (A.deeper (envOfC "Word.spans" (defScope s_Word_spans) s.heap.objs.size f cdv)).units + 64 < cLine := hr.units
      refine ⟨_, (pss_one (ps_ret (pe_lc (own := [("place", 2), ("word", 3)]) (g := (gTup K 2 (gCons (gName 2) (gCons (gName 3) gNil)))) rfl sc_Word_spans.nd (pi_enum (by rfl) T.enumerate (pa_cons (pv 1) pa_nil)) (blkOk_by (own := [("place", 2), ("word", 3)]) (N := ["self", "words", "place", "word"]) (sc := defScope s_Word_spans) (by decide +kernel)) (fun _ _ _ _ _ => pg_tup rfl (pgs_cons (pg_name (i := 2) sc_Word_spans.nd rfl (Or.inl rfl)) (pgs_cons (pg_name (i := 3) sc_Word_spans.nd rfl (Or.inl rfl)) pgs_nil))) (fun _ _ _ _ _ => pts_one (pt_cmpR (r := rEqP K) (op_eqP hu) (pv 3) (pe_fldK (K := K) (by rfl) (pv 0) (by rfl)) (nomark _))) (fun _ _ _ _ _ => (pe_tup (pa_cons (pv 2) (pa_cons (pv 2) pa_nil))))))), ?_⟩
      refine st_ret S (init_lenG hv (Nat.le_of_ble_eq_true rfl)) (.to (ev_lcE (fun k => (wordS x ws k).map iiD) (ds := ws.map PyData.str) (av_cons (ev_var rfl) av_nil) rfl (in2 (Nat.le_of_ble_eq_true rfl) (Nat.le_of_ble_eq_true rfl)) (by rw [List.length_map]; omega) fun k d hkd => ?_) (congrArg Sl.ls ?_)) rfl qq
      · obtain ⟨z, hz, rfl⟩ := ws_at hkd
        have e : wordS x ws k = if z = x then some ((k : Int), (k : Int)) else none := by
          unfold wordS
          rw [hz]
          by_cases c : z = x
          · rw [if_pos c, if_pos (by rw [c])]
          · rw [if_neg c, if_neg fun h => c (Option.some.inj h)]
        refine ⟨_, gt_pair (Nat.le_of_ble_eq_true rfl) (Nat.le_of_ble_eq_true rfl) (by decide), .to (tv_test (ev_eqT (a := z) (b := x) (ev_var rfl) (ev_fldG (d := .str x) (ev_varX rfl) (fun F v ⟨p, dx, a, b⟩ => ⟨p, dx, _, .str x, a, b, lkv_eq, .str x⟩) T.cl_Word T.n_Word_word) rfl rfl)) ?_, fun hs => ?_⟩
        · rw [Option.isSome_map, e]
          split <;> simp_all
        · rw [Option.isSome_map, e] at hs
          have c : z = x := by
            by_cases c : z = x
            · exact c
            · rw [if_neg c] at hs
              cases hs
          rw [e, if_pos c]
          exact ev_tup (av_cons (ev_var rfl) (av_cons (ev_var rfl) av_nil)) rfl (Nat.le_of_ble_eq_true rfl)
      · rw [List.length_map]
        exact (gotZ_map (wordS x ws) ws.length).symm
    | _ => cases hk
  · exact h.elim
theorem ok_Start_spans {n : Nat} {f : Addr} {fd : FuncData} (F : Fun K "spans" "Start.spans" s_Start_spans f fd) (T : Txt K mg CB CAsk CWord CStart CRow CNear CBoth CEither CNot) : FnOk P w K mg base (L2.CX P w) 1 f fd ["self", "words"] (spG K (R_spans K (qa CWord CStart CRow CNear CBoth CEither CNot) n .start) noXG) := by
  refine F.okX sc_Start_spans (spG_len (n := 2) (by rintro _ _ ⟨q, ws, rfl, _⟩; rfl) (by rintro _ _ ⟨⟩)) (fun cdv A outer s H vs Q E hr h => ?_)
  obtain ⟨F0, as, fh, hv, ⟨r, ⟨q, ws, rfl, hk, hd, hr0, hl, rfl⟩, qq⟩ | ⟨_, h, _⟩⟩ := h
  · cases q with
    | start x =>
      have S := Sts.initG (N := ["self", "words", "place", "word"]) fh hv
      have hu : (A.deeper (envOfC "Start.spans" (defScope s_Start_spans) s.heap.objs.size f cdv)).units + 64 < cLine := hr.units
      refine ⟨_, (pss_one (ps_ret (pe_lc (own := [("place", 2), ("word", 3)]) (g := (gTup K 2 (gCons (gName 2) (gCons (gName 3) gNil)))) rfl sc_Start_spans.nd (pi_enum (by rfl) T.enumerate (pa_cons (pv 1) pa_nil)) (blkOk_by (own := [("place", 2), ("word", 3)]) (N := ["self", "words", "place", "word"]) (sc := defScope s_Start_spans) (by decide +kernel)) (fun _ _ _ _ _ => pg_tup rfl (pgs_cons (pg_name (i := 2) sc_Start_spans.nd rfl (Or.inl rfl)) (pgs_cons (pg_name (i := 3) sc_Start_spans.nd rfl (Or.inl rfl)) pgs_nil))) (fun _ _ _ _ _ => pts_one (pt_val (pe_swF (pv 3) (pe_fldK (K := K) (by rfl) (pv 0) (by rfl))))) (fun _ _ _ _ _ => (pe_tup (pa_cons (pv 2) (pa_cons (pv 2) pa_nil))))))), ?_⟩
      refine st_ret S (init_lenG hv (Nat.le_of_ble_eq_true rfl)) (.to (ev_lcE (fun k => (startS x ws k).map iiD) (ds := ws.map PyData.str) (av_cons (ev_var rfl) av_nil) rfl (in2 (Nat.le_of_ble_eq_true rfl) (Nat.le_of_ble_eq_true rfl)) (by rw [List.length_map]; omega) fun k d hkd => ?_) (congrArg Sl.ls ?_)) rfl qq
      · obtain ⟨z, hz, rfl⟩ := ws_at hkd
        have e : startS x ws k = if Txt.startswith z x = true then some ((k : Int), (k : Int)) else none := by
          unfold startS
          rw [hz]
        refine ⟨_, gt_pair (Nat.le_of_ble_eq_true rfl) (Nat.le_of_ble_eq_true rfl) (by decide), .to (tv_B (ev_sw (a := z) (b := x) (ev_var rfl) (ev_fldG (d := .str x) (ev_varX rfl) (fun F v ⟨p, dx, a, b⟩ => ⟨p, dx, _, .str x, a, b, lkv_eq, .str x⟩) T.cl_Start T.n_Start_word))) ?_, fun hs => ?_⟩
        · rw [Option.isSome_map, e]
          cases Txt.startswith z x <;> rfl
        · rw [Option.isSome_map, e] at hs
          have c : Txt.startswith z x = true := by
            cases c : Txt.startswith z x
            · rw [c] at hs
              cases hs
            · rfl
          rw [e, if_pos c]
          exact ev_tup (av_cons (ev_var rfl) (av_cons (ev_var rfl) av_nil)) rfl (Nat.le_of_ble_eq_true rfl)
      · rw [List.length_map]
        exact (gotZ_map (startS x ws) ws.length).symm
    | _ => cases hk
  · exact h.elim
theorem ok_Not_spans {n : Nat} {f : Addr} {fd : FuncData} (F : Fun K "spans" "Not.spans" s_Not_spans f fd) (T : Txt K mg CB CAsk CWord CStart CRow CNear CBoth CEither CNot) : FnOk P w K mg base (L2.CX P w) 1 f fd ["self", "words"] (spG K (R_spans K (qa CWord CStart CRow CNear CBoth CEither CNot) n .no) noXG) := by
  refine F.okX sc_Not_spans (spG_len (n := 2) (by rintro _ _ ⟨q, ws, rfl, _⟩; rfl) (by rintro _ _ ⟨⟩)) (fun cdv A outer s H vs Q E hr h => ?_)
  obtain ⟨F0, as, fh, hv, ⟨r, ⟨q, ws, rfl, hk, hd, hr0, hl, rfl⟩, qq⟩ | ⟨_, h, _⟩⟩ := h
  · cases q with
    | no x =>
      have S := Sts.initG (N := ["self", "words"]) fh hv
      refine ⟨_, (pss_one (ps_ret (pe_lst pa_nil))), ?_⟩
      exact st_ret S (init_lenG hv (Nat.le_of_ble_eq_true rfl)) (ev_lst (ds := []) av_nil rfl (Nat.le_of_ble_eq_true rfl)) rfl qq
    | _ => cases hk
  · exact h.elim
theorem row_succ (rs ws : List Str) (k : Nat) : spD (gotZ (rowS rs ws) (k + 1)) = if (ws.drop k).take rs.length = rs then spD (gotZ (rowS rs ws) k) ++ [.tuple [.int (k : Int), .int ((k : Int) + (rs.length : Int) - 1)]] else spD (gotZ (rowS rs ws) k) := by
  rw [gotZ_succ]
  unfold spD
  rw [List.map_append]
  unfold rowS
  split <;> simp_all [iiD]
theorem ok_Row_spans {n : Nat} {f : Addr} {fd : FuncData} (F : Fun K "spans" "Row.spans" s_Row_spans f fd) (T : Txt K mg CB CAsk CWord CStart CRow CNear CBoth CEither CNot) : FnOk P w K mg base (L2.CX P w) 1 f fd ["self", "words"] (spG K (R_spans K (qa CWord CStart CRow CNear CBoth CEither CNot) n .row) noXG) := by
  refine F.okX sc_Row_spans (spG_len (n := 2) (by rintro _ _ ⟨q, ws, rfl, _⟩; rfl) (by rintro _ _ ⟨⟩)) (fun cdv A outer s H vs Q E hr h => ?_)
  obtain ⟨F0, as, fh, hv, ⟨r, ⟨q, ws, rfl, hk, hd, hr0, hl, rfl⟩, qq⟩ | ⟨_, h, _⟩⟩ := h
  · cases q with
    | row rs =>
      have S := Sts.initG (N := ["self", "words", "many", "found", "place"]) fh hv
      have hu : (A.deeper (envOfC "Row.spans" (defScope s_Row_spans) s.heap.objs.size f cdv)).units + 64 < cLine := hr.units
      have hrl := of_decide_eq_true (show decide (1 ≤ rs.length ∧ rs.length ≤ 1000) = true from hr0)
      refine ⟨_, (pss_cons (ps_set (i := 2) sc_Row_spans.nd rfl (Or.inl rfl) (pe_callB (id := "len") (r := rLenR K) call_lenR (by rfl) T.len (by decide +kernel) (pa_cons (pe_fld (pv 0) rfl) pa_nil)))
            (pss_cons (ps_set (i := 3) sc_Row_spans.nd rfl (Or.inl rfl) (pe_lst pa_nil))
            (pss_cons (ps_for PassesOwn.leaving rfl (pi_range1 (by rfl) T.range (pa_cons (pe_op op_add (pe_op op_sub (pe_callB (id := "len") (r := rLenR K) call_lenR (by rfl) T.len (by decide +kernel) (pa_cons (pv 1) pa_nil)) (pv 2)) pe_int) pa_nil)) (pg_name (i := 4) sc_Row_spans.nd rfl (Or.inl rfl)) (pss_one (ps_if (pt_cmpR (r := rEqP K) (op_eqP hu) (pe_callTy (T := "tuple") (r := rTupR K) call_tupleR (by rfl) T.tuple (by decide +kernel) (pa_cons (pe_slice (r := rSlL K) sl_list (pv 1) (po_some (pv 4)) (po_some (pe_op op_add (pv 4) (pv 2)))) pa_nil)) (pe_fld (pv 0) rfl) (nomark _)) (pss_one (ps_expr (pe_bm PySem.F.plainAttrs_list PySem.F.slot_list_append PySem.F.type_list_append mt_append (pv 3) (pa_cons (pe_tup (pa_cons (pv 4) (pa_cons (pe_op op_sub (pe_op op_add (pv 4) (pv 2)) pe_int) pa_nil))) pa_nil)))) pss_nil)))
            (pss_one (ps_ret (pv 3)))))), ?_⟩
      have gF : ∀ {sl : List Sl}, EvR K (tFld K (tVar 0) "side_by_side") (askS K (qa CWord CStart CRow CNear CBoth CEither CNot) (.row rs) :: sl) (.dt (.tuple (rs.map PyData.str))) := fun {sl} => ev_fldG (d := .tuple (rs.map .str)) (ev_varX rfl) (fun F v ⟨p, dx, t, a, b, c⟩ => ⟨p, dx, _, t, a, b, lkv_eq, c⟩) T.cl_Row T.n_Row_side_by_side
      refine q_asg S (init_lenG hv (Nat.le_of_ble_eq_true rfl)) (r := .dt (.int (rs.length : Int))) (ev_len (n := rs.length) gF rfl (by show some (rs.map PyData.str).length = _; rw [List.length_map])) rfl rfl (Nat.le_of_ble_eq_true rfl) fun σ' F' H' S l => ?_ -- many
      refine q_asg S l (r := .ls []) (ev_lst av_nil rfl (Nat.le_of_ble_eq_true rfl)) rfl rfl (Nat.le_of_ble_eq_true rfl) fun σ' F' H' S l => ?_ -- found
      refine q_forR1Z S l (n := (ws.length : Int) - (rs.length : Int) + 1) (m := ws.length + 1 - rs.length) (av_cons (.toD (ev_ii (f := fun i j => i + j) (ev_ii (f := fun i j => i - j) (ev_len (n := ws.length) (ev_var rfl) rfl (by show some (ws.map PyData.str).length = _; rw [List.length_map])) (ev_var rfl)) ev_int) rfl) av_nil) (by omega) (by constructor <;> omega) (fun k => [askS K (qa CWord CStart CRow CNear CBoth CEither CNot) (.row rs), .dt (wsD ws), .dt (.int (rs.length : Int)), .ls (spD (gotZ (rowS rs ws) k)), .no]) (Wk.refl _) (fun _ => rfl) (Nat.le_of_ble_eq_true rfl) (fun k hk σ' F' H' S l => ?_) (fun σ' F' H' S l => st_retA S l rfl qq)
      have hgl := gotZ_len (rowS rs ws) k
      have ecut : cutD (ws.map PyData.str) (some (k : Int)) (some ((k : Int) + (rs.length : Int))) = ((ws.drop k).take rs.length).map PyData.str := by
        have h1 : k ≤ (ws.map PyData.str).length := by rw [List.length_map]; omega
        have h2 : k + rs.length ≤ (ws.map PyData.str).length := by rw [List.length_map]; omega
        rw [← Int.natCast_add, cutD_mid h1 h2, List.map_take, List.map_drop, Nat.add_sub_cancel_left]
      refine st_when S l (b := decide ((⟨(ws.drop k).take rs.length⟩ : PySem.W.Tup Str) = ⟨rs⟩)) (tv_test (ev_eqT (a := (⟨(ws.drop k).take rs.length⟩ : PySem.W.Tup Str)) (b := ⟨rs⟩) (ev_tupleL (ds := ((ws.drop k).take rs.length).map PyData.str) (.to (ev_slL (ds := ws.map PyData.str) (ev_var rfl) rfl (ov_some (ev_var rfl)) (ov_some (.toD (b := .int ((k : Int) + (rs.length : Int))) (ev_ii (f := fun i j => i + j) (ev_var rfl) (ev_var rfl)) rfl))) (congrArg Sl.ls ecut)) rfl) gF rfl rfl)) (fun hb F' H' S => ?_) (fun hb F' H' S => ?_)
      · have hb' : (ws.drop k).take rs.length = rs := congrArg PySem.W.Tup.items (of_decide_eq_true hb)
        refine st_app S l rfl (d := .tuple [.int (k : Int), .int ((k : Int) + (rs.length : Int) - 1)]) (.toD (ev_tup (av_cons (ev_var rfl) (av_cons (ev_ii (f := fun i j => i - j) (ev_ii (f := fun i j => i + j) (ev_var rfl) (ev_var rfl)) ev_int) av_nil)) rfl (Nat.le_of_ble_eq_true rfl)) rfl) (by rw [spD_len]; omega) fun F' H' S l => ⟨F', S.wk2 (.same rfl (.same rfl (.same rfl (.same (congrArg Sl.ls (by rw [row_succ, if_pos hb'])) (.no .nil))))), l⟩
      · have hb' : ¬ (ws.drop k).take rs.length = rs := fun e => of_decide_eq_false hb (by rw [e])
        exact ⟨F', S.wk2 (.same rfl (.same rfl (.same rfl (.same (congrArg Sl.ls (by rw [row_succ, if_neg hb'])) (.no .nil))))), l⟩
    | _ => cases hk
  · exact h.elim
end
section
variable {P : Program} {w : World} {K : PySem.W.Frag} {mg : Str → Option Value} {base : Heap} {CB CAsk CWord CStart CRow CNear CBoth CEither CNot : Addr}
/-! two spans joined -/
def joD (a b : Int × Int) (far : Int) : PyData := match joinS a b far with
  | some z => iiD z
  | none => .none
def R_joined (ds : List PyData) (r : Sl) : Prop := ∃ (a b : Int × Int) (far : Int), ds = [iiD a, iiD b, .int far] ∧ r = .dt (joD a b far)
section
variable {te tb : TE} {ss : List Sl} {z : Int × Int}
theorem ev_i0 (h : EvR K te ss (.dt (iiD z))) : EvR K (tOp (rIxT K) te (tC (.int 0))) ss (.dt (.int z.1)) := ev_ixT (ds := [.int z.1, .int z.2]) h ev_int rfl rfl
theorem ev_i1 (h : EvR K te ss (.dt (iiD z))) : EvR K (tOp (rIxT K) te (tC (.int 1))) ss (.dt (.int z.2)) := ev_ixT (ds := [.int z.1, .int z.2]) h ev_int rfl rfl
end
theorem ok_joined {f : Addr} {fd : FuncData} (F : Fun K "joined" "joined" s_joined f fd) (T : Txt K mg CB CAsk CWord CStart CRow CNear CBoth CEither CNot) : FnOk P w K mg base (L2.CX P w) 1 f fd ["one", "other", "far"] (spF K R_joined noX) := by
  refine F.okX sc_joined (spF_len (n := 3) (by rintro _ _ ⟨_, _, _, rfl, _⟩; rfl) (by rintro _ _ ⟨⟩)) (fun cdv A outer s H vs Q E hr h => ?_)
  obtain ⟨F0, ds, fh, hv, ⟨r, ⟨a, b, far, rfl, rfl⟩, q⟩ | ⟨_, h, _⟩⟩ := h
  · have S := Sts.init (N := ["one", "other", "far"]) fh hv
    have l := init_len (N := ["one", "other", "far"]) hv (Nat.le_of_ble_eq_true rfl)
    refine ⟨_, (pss_cons (ps_if (pt_cmpR op_lt (pe_ix (r := rIxT K) ix_tup (pv 1) pe_int (fun _ _ => rfl)) (pe_ix (r := rIxT K) ix_tup (pv 0) pe_int (fun _ _ => rfl)) (nomark _)) (pss_one (ps_par (i := 0) (j := 1) rfl sc_joined.nd rfl rfl (by decide) rfl rfl (pa_cons (pv 1) (pa_cons (pv 0) pa_nil)) rfl)) pss_nil)
          (pss_cons (ps_if (PW.pt (pw_and (pt_cmpR op_lt (pe_ix (r := rIxT K) ix_tup (pv 0) pe_int (fun _ _ => rfl)) (pe_ix (r := rIxT K) ix_tup (pv 1) pe_int (fun _ _ => rfl)) (nomark _)) (pw_and1 (pt_cmpR op_le (pe_op op_sub (pe_op op_sub (pe_ix (r := rIxT K) ix_tup (pv 1) pe_int (fun _ _ => rfl)) (pe_ix (r := rIxT K) ix_tup (pv 0) pe_int (fun _ _ => rfl))) pe_int) (pv 2) (nomark _))))) (pss_one (ps_ret (pe_tup (pa_cons (pe_ix (r := rIxT K) ix_tup (pv 0) pe_int (fun _ _ => rfl)) (pa_cons (pe_ix (r := rIxT K) ix_tup (pv 1) pe_int (fun _ _ => rfl)) pa_nil))))) pss_nil)
          (pss_one (ps_ret pe_non)))), ?_⟩
    unfold joD joinS at q
    refine q_when S l (b := decide (b.1 < a.1)) (tv_test (ev_ib (ev_i0 (ev_var rfl)) (ev_i0 (ev_var rfl)))) (fun hb F' H' S => ?_) (fun hb F' H' S => ?_)
    · rw [if_pos (of_decide_eq_true hb)] at q
      refine st_par S l (d1 := iiD b) (d2 := iiD a) (ev_var rfl) (ev_var rfl) rfl (Nat.le_of_ble_eq_true rfl) (Nat.le_of_ble_eq_true rfl) fun σ' F' H' S l => ?_
      have S : Sts K (fun _ => False) F0 H F' H' (σ' ++ []) ([.dt (iiD b), .dt (iiD a), .dt (.int far)] ++ []) := S
      have l : σ'.length = [Sl.dt (iiD b), .dt (iiD a), .dt (.int far)].length := l
      dsimp only
      refine q_when S l (b := decide (b.2 < a.1) && decide (a.1 - b.2 - 1 ≤ far)) (tv_and (tv_test (ev_ib (ev_i1 (ev_var rfl)) (ev_i0 (ev_var rfl)))) fun _ => tv_test (ev_ib (f := fun i j => decide (i ≤ j)) (i := a.1 - b.2 - 1) (j := far) (ev_ii (f := fun i j => i - j) (ev_ii (f := fun i j => i - j) (ev_i0 (z := a) (ev_var rfl)) (ev_i1 (z := b) (ev_var rfl))) ev_int) (ev_var (i := 2) rfl))) (fun hc F' H' S => ?_) (fun hc F' H' S => ?_)
      · simp only [Bool.and_eq_true, decide_eq_true_eq] at hc
        rw [if_pos hc] at q
        exact st_ret S l (ev_tup (ds := [.int b.1, .int a.2]) (av_cons (ev_i0 (ev_var rfl)) (av_cons (ev_i1 (ev_var rfl)) av_nil)) rfl (Nat.le_of_ble_eq_true rfl)) rfl q
      · have hc' : ¬ (b.2 < a.1 ∧ a.1 - b.2 - 1 ≤ far) := by
          intro ⟨h1, h2⟩
          rw [decide_eq_true h1, decide_eq_true h2] at hc
          cases hc
        rw [if_neg hc'] at q
        exact st_ret S l ev_non rfl q
    · rw [if_neg (of_decide_eq_false hb)] at q
      refine q_when S l (b := decide (a.2 < b.1) && decide (b.1 - a.2 - 1 ≤ far)) (tv_and (tv_test (ev_ib (ev_i1 (ev_var rfl)) (ev_i0 (ev_var rfl)))) fun _ => tv_test (ev_ib (f := fun i j => decide (i ≤ j)) (i := b.1 - a.2 - 1) (j := far) (ev_ii (f := fun i j => i - j) (ev_ii (f := fun i j => i - j) (ev_i0 (z := b) (ev_var rfl)) (ev_i1 (z := a) (ev_var rfl))) ev_int) (ev_var (i := 2) rfl))) (fun hc F' H' S => ?_) (fun hc F' H' S => ?_)
      · simp only [Bool.and_eq_true, decide_eq_true_eq] at hc
        rw [if_pos hc] at q
        exact st_ret S l (ev_tup (ds := [.int a.1, .int b.2]) (av_cons (ev_i0 (ev_var rfl)) (av_cons (ev_i1 (ev_var rfl)) av_nil)) rfl (Nat.le_of_ble_eq_true rfl)) rfl q
      · have hc' : ¬ (a.2 < b.1 ∧ b.1 - a.2 - 1 ≤ far) := by
          intro ⟨h1, h2⟩
          rw [decide_eq_true h1, decide_eq_true h2] at hc
          cases hc
        rw [if_neg hc'] at q
        exact st_ret S l ev_non rfl q
  · exact h.elim
theorem putP_nodup {zs : List (Int × Int)} {z : Int × Int} (h : zs.Nodup) : (putP zs z).Nodup := by
  unfold putP
  split
  · exact h
  · rename_i hz
    refine List.nodup_append.mpr ⟨h, List.pairwise_singleton _ _, fun a ha b hb e => hz ?_⟩
    rw [List.mem_singleton.mp hb] at e
    exact e ▸ ha
theorem putsP_nodup : ∀ {l zs : List (Int × Int)}, zs.Nodup → (putsP zs l).Nodup
  | [], _, h => h
  | z :: l, zs, h => putsP_nodup (l := l) (putP_nodup h)
theorem putsP_few {l : List (Int × Int)} {n : Nat} (hn : n ≤ 64) (h : ∀ z ∈ l, InTri n z) : (putsP [] l).length ≤ 2080 := by
  rw [← triL_len]
  refine nodup_len (putsP_nodup .nil) fun z hz => mem_triL hn (h z ?_)
  rcases mem_putsP.mp hz with h | h
  · cases h
  · exact h
theorem mem_puts {l : List (Int × Int)} {z : Int × Int} : z ∈ srt l ↔ z ∈ putsP [] l := by
  rw [mem_srt, mem_putsP]
  constructor
  · exact .inr
  · rintro (h | h)
    · cases h
    · exact h
theorem near_tri {q1 q2 : Qt} {ws : List Str} (h1 : rowsNe q1 = true) (h2 : rowsNe q2 = true) {A B : List (Int × Int)} {far : Int} (hA : ∀ z ∈ A, z ∈ spansQ q1 ws) (hB : ∀ z ∈ B, z ∈ spansQ q2 ws) : ∀ z ∈ nearL far A B, InTri ws.length z := fun z hz => by
  obtain ⟨x, hx, h⟩ := List.mem_flatMap.mp hz
  obtain ⟨y, hy, h⟩ := List.mem_filterMap.mp h
  exact joinS_tri (spansQ_tri q1 ws h1 x (hA x hx)) (spansQ_tri q2 ws h2 y (hB y hy)) h
theorem near_succ {far : Int} {A B : List (Int × Int)} {k : Nat} {o : Int × Int} (h : A[k]? = some o) : nearL far (A.take (k + 1)) B = nearL far (A.take k) B ++ B.filterMap fun b => joinS o b far := by
  unfold nearL
  rw [List.take_add_one, h, List.flatMap_append]
  simp
theorem fm_succ {far : Int} {B : List (Int × Int)} {j : Nat} {o t : Int × Int} (h : B[j]? = some t) : ((B.take (j + 1)).filterMap fun b => joinS o b far) = ((B.take j).filterMap fun b => joinS o b far) ++ (joinS o t far).toList := by
  rw [List.take_add_one, h, List.filterMap_append]
  cases e : joinS o t far <;> simp [e]
theorem ok_Near_spans {n : Nat} {f : Addr} {fd : FuncData} (F : Fun K "spans" "Near.spans" s_Near_spans f fd) (T : Txt K mg CB CAsk CWord CStart CRow CNear CBoth CEither CNot) (ck : ∀ k, Cls K ((qa CWord CStart CRow CNear CBoth CEither CNot) k)) (d_joined : DefOk P w K mg base 1 "joined" ["one", "other", "far"] (spF K R_joined noX) []) (dk_spans : ∀ k, DefM P w K mg base (n + 1) ((qa CWord CStart CRow CNear CBoth CEither CNot) k) "spans" ["self", "words"] (spG K (R_spans K (qa CWord CStart CRow CNear CBoth CEither CNot) n k) noXG) []) : FnOk P w K mg base (L2.CX P w) (n + 2) f fd ["self", "words"] (spG K (R_spans K (qa CWord CStart CRow CNear CBoth CEither CNot) (n + 1) .near) noXG) := by
  refine F.okX sc_Near_spans (spG_len (n := 2) (by rintro _ _ ⟨q, ws, rfl, _⟩; rfl) (by rintro _ _ ⟨⟩)) (fun cdv A outer s H vs Q E hr h => ?_)
  obtain ⟨F0, as, fh, hv, ⟨r, ⟨q, ws, rfl, hk, hd, hr0, hl, rfl⟩, qq⟩ | ⟨_, h, _⟩⟩ := h
  · cases q with
    | near a b z =>
      have S := Sts.initG (N := ["self", "words", "found", "others", "one", "other", "span"]) fh hv
      have hu : (A.deeper (envOfC "Near.spans" (defScope s_Near_spans) s.heap.objs.size f cdv)).units + 64 < cLine := hr.units
      refine ⟨_, (pss_cons (ps_set (i := 2) sc_Near_spans.nd rfl (Or.inl rfl) pe_dnewP)
            (pss_cons (ps_set (i := 3) sc_Near_spans.nd rfl (Or.inl rfl) (pe_any fun k => pe_methO (dk_spans k) (pe_fld (pv 0) rfl) (ck k) (hr.mono (by omega)) passL (pa_cons (pv 1) pa_nil)))
            (pss_cons (ps_for PassesOwn.leaving rfl (pi_list (pe_any fun k => pe_methO (dk_spans k) (pe_fld (pv 0) rfl) (ck k) (hr.mono (by omega)) passL (pa_cons (pv 1) pa_nil))) (pg_name (i := 4) sc_Near_spans.nd rfl (Or.inl rfl)) (pss_one (ps_for PassesOwn.leaving rfl (pi_list (pv 3)) (pg_name (i := 5) sc_Near_spans.nd rfl (Or.inl rfl)) (pss_cons (ps_set (i := 6) sc_Near_spans.nd rfl (Or.inl rfl) (pe_own d_joined (hr.mono (by omega)) (by rfl) passL (pa_cons (pv 4) (pa_cons (pv 5) (pa_cons (pe_fld (pv 0) rfl) pa_nil)))))
            (pss_one (ps_if (pt_cmpR op_notNR (pv 6) pe_non (nomark _)) (pss_one (ps_dputP (hu1 hu) (pv 2) (pv 6) pe_bl (by rfl))) pss_nil))))))
            (pss_one (ps_ret (pe_callB (id := "sorted") (r := rSortedP K P w) (cr_sortedP rfl hu) (by rfl) T.sorted (by decide +kernel) (pa_cons (pv 2) pa_nil))))))), ?_⟩
      have ha : a.dep ≤ n := by simp only [Qt.dep] at hd; omega
      have hb : b.dep ≤ n := by simp only [Qt.dep] at hd; omega
      have hr1 : rowsNe a = true ∧ rowsNe b = true := by simpa only [rowsNe, Bool.and_eq_true] using hr0
      have g1 : ∀ {sl : List Sl}, EvR K (tFld K (tVar 0) "one") (askS K (qa CWord CStart CRow CNear CBoth CEither CNot) (.near a b z) :: sl) (askS K (qa CWord CStart CRow CNear CBoth CEither CNot) a) := fun {sl} => ev_fldGx (ev_varX rfl) (fun F v ⟨p, dx, x, y, e1, e2, e3, e4⟩ => ⟨p, dx, _, x, e1, e2, lkv_eq, fun F' e => e3.ex e⟩) T.cl_Near T.n_Near_one
      have g2 : ∀ {sl : List Sl}, EvR K (tFld K (tVar 0) "other") (askS K (qa CWord CStart CRow CNear CBoth CEither CNot) (.near a b z) :: sl) (askS K (qa CWord CStart CRow CNear CBoth CEither CNot) b) := fun {sl} => ev_fldGx (ev_varX rfl) (fun F v ⟨p, dx, x, y, e1, e2, e3, e4⟩ => ⟨p, dx, _, y, e1, e2, (lkv_ne (by decide +kernel)).trans lkv_eq, fun F' e => e4.ex e⟩) T.cl_Near T.n_Near_other
      have g3 : ∀ {sl : List Sl}, EvR K (tFld K (tVar 0) "far") (askS K (qa CWord CStart CRow CNear CBoth CEither CNot) (.near a b z) :: sl) (.dt (.int z)) := fun {sl} => ev_fldG (d := .int z) (ev_varX rfl) (fun F v ⟨p, dx, x, y, e1, e2, e3, e4⟩ => ⟨p, dx, _, .int z, e1, e2, (lkv_ne (by decide +kernel)).trans ((lkv_ne (by decide +kernel)).trans lkv_eq), .int z⟩) T.cl_Near T.n_Near_far
      obtain ⟨SA, hSA⟩ : ∃ SA, SA = spansQ a ws := ⟨_, rfl⟩
      obtain ⟨SB, hSB⟩ : ∃ SB, SB = spansQ b ws := ⟨_, rfl⟩
      have tri : ∀ {k : Nat} {l : List (Int × Int)} {o : Int × Int} {j : Nat}, SA[k]? = some o → ∀ y ∈ nearL z (SA.take k) SB ++ (SB.take j).filterMap (fun b => joinS o b z), InTri ws.length y := fun {k l o j} ho y hy => by
        rcases List.mem_append.mp hy with h | h
        · exact near_tri hr1.1 hr1.2 (fun x hx => hSA ▸ List.mem_of_mem_take hx) (fun x hx => hSB ▸ hx) y h
        · obtain ⟨t, ht, h⟩ := List.mem_filterMap.mp h
          exact joinS_tri (spansQ_tri a ws hr1.1 o (hSA ▸ List.mem_of_getElem? ho)) (spansQ_tri b ws hr1.2 t (hSB ▸ List.mem_of_mem_take ht)) h
      refine q_asg S (init_lenG hv (Nat.le_of_ble_eq_true rfl)) (r := .mu (dpM K P w [])) ev_dnewP rfl rfl (Nat.le_of_ble_eq_true rfl) fun σ' F' H' S l => ?_ -- found
      refine q_asg S l (r := .dt (.list (spD SB))) (hSB ▸ .frz (ev_spans (n := n) g2 (ev_var rfl) hb hr1.2 hl)) rfl rfl (Nat.le_of_ble_eq_true rfl) fun σ' F' H' S l => ?_ -- others
      refine q_forL S l (ds := spD SA) (hSA ▸ .frz (ev_spans (n := n) g1 (ev_var rfl) ha hr1.1 hl)) (fun k => [askS K (qa CWord CStart CRow CNear CBoth CEither CNot) (.near a b z), .dt (wsD ws), .mu (dpM K P w (putsP [] (nearL z (SA.take k) SB))), .dt (.list (spD SB)), .no, .no, .no]) (Wk.refl _) (fun k d p hkd x σ' F' H' hx S l => ?_) (fun σ' F' H' S l => ?_)
      · obtain ⟨o, ho, rfl⟩ := sp_at hkd
        refine g_name S l (Nat.le_of_ble_eq_true rfl) hx rfl fun σ' F' H' S l => ?_
        refine st_forL S l (ds := spD SB) (ev_var rfl) (fun j => [askS K (qa CWord CStart CRow CNear CBoth CEither CNot) (.near a b z), .dt (wsD ws), .mu (dpM K P w (putsP [] (nearL z (SA.take k) SB ++ (SB.take j).filterMap fun b => joinS o b z))), .dt (.list (spD SB)), .dt (iiD o), .no, .no]) (.same rfl (.same rfl (.same (by simp) (.same rfl (.same rfl (.no (.no .nil))))))) (fun j d p hjd x σ' F' H' hx S l => ?_) (fun σ' F' H' S l => ?_)
        · obtain ⟨t, ht, rfl⟩ := sp_at hjd
          refine g_name S l (Nat.le_of_ble_eq_true rfl) hx rfl fun σ' F' H' S l => ?_
          refine q_asg S l (r := .dt (joD o t z)) (ev_call0 (R := R_joined) (X := noX) (av_cons (ev_var rfl) (av_cons (ev_var rfl) (av_cons g3 av_nil))) rfl ⟨o, t, z, rfl, rfl⟩) rfl rfl (Nat.le_of_ble_eq_true rfl) fun σ' F' H' S l => ?_ -- span
          have es := fm_succ (far := z) (o := o) ht
          cases e : joinS o t z with
          | none =>
            have ej : joD o t z = .none := by unfold joD; rw [e]
            rw [e, Option.toList_none, List.append_nil] at es
            rw [ej] at S l
            refine st_when S l (b := false) (tv_test (ev_notN (d := .none) (ev_var rfl) rfl)) (fun hb F' H' S => by cases hb) (fun hb F' H' S => ?_)
            exact ⟨F', S.wk2 (.same rfl (.same rfl (.same (by rw [es]) (.same rfl (.same rfl (.no (.no .nil))))))), l⟩
          | some y =>
            have ej : joD o t z = iiD y := by unfold joD; rw [e]
            rw [e, Option.toList_some] at es
            rw [ej] at S l
            refine st_when S l (b := true) (tv_test (ev_notN (d := iiD y) (ev_var rfl) rfl)) (fun hb F' H' S => ?_) (fun hb F' H' S => by cases hb)
            refine st_putP S l (i := 2) (z := y) rfl (ev_var rfl) (by have := putsP_few hl (tri (l := []) (j := j) ho); omega) fun F' H' S l => ?_
            exact ⟨F', S.wk2 (.same rfl (.same rfl (.same (by rw [es, ← List.append_assoc, putsP_app _ _ [y]]; rfl) (.same rfl (.same rfl (.no (.no .nil))))))), l⟩
        · have e : nearL z (SA.take k) SB ++ ((SB.take (spD SB).length).filterMap fun b => joinS o b z) = nearL z (SA.take (k + 1)) SB := by rw [spD_len, List.take_length, near_succ ho]
          exact ⟨F', S.wk2 (.same rfl (.same rfl (.same (by rw [e]) (.same rfl (.no (.no (.no .nil))))))), l⟩
      · have S : Sts K (fun _ => False) F0 H F' H' (σ' ++ []) ([askS K (qa CWord CStart CRow CNear CBoth CEither CNot) (.near a b z), .dt (wsD ws), .mu (dpM K P w (putsP [] (nearL z SA SB))), .dt (.list (spD SB)), .no, .no, .no] ++ []) := by
          have e : SA.take (spD SA).length = SA := by rw [spD_len, List.take_length]
          have S := S
          rw [e] at S
          exact S
        have l : σ'.length = 7 := l
        have few := putsP_few hl (near_tri (far := z) hr1.1 hr1.2 (A := SA) (B := SB) (fun x hx => hSA ▸ hx) (fun x hx => hSB ▸ hx))
        exact st_ret S l (ev_sortedP (i := 2) (zs := putsP [] (nearL z SA SB)) rfl (by omega) (spansQ_pw (.near a b z) ws) fun y => by
          show y ∈ srt (nearL z (spansQ a ws) (spansQ b ws)) ↔ _
          rw [← hSA, ← hSB]
          exact mem_puts) rfl qq
    | _ => cases hk
  · exact h.elim
end
section
variable {P : Program} {w : World} {K : PySem.W.Frag} {mg : Str → Option Value} {base : Heap} {CB CAsk CWord CStart CRow CNear CBoth CEither CNot : Addr}
theorem fl_succ {α β : Type} (f : α → List β) {L : List α} {k : Nat} {a : α} (h : L[k]? = some a) : (L.take (k + 1)).flatMap f = (L.take k).flatMap f ++ f a := by
  rw [List.take_add_one, h, List.flatMap_append]
  simp
theorem tk_succ {β : Type} {B : List β} {j : Nat} {t : β} (h : B[j]? = some t) : B.take (j + 1) = B.take j ++ [t] := by
  rw [List.take_add_one, h]
  rfl
theorem ok_Ask_spans {n : Nat} {k : Kd} (hk2 : k = .both ∨ k = .either) {f : Addr} {fd : FuncData} (F : Fun K "spans" "Ask.spans" s_Ask_spans f fd) (T : Txt K mg CB CAsk CWord CStart CRow CNear CBoth CEither CNot) (ck : ∀ k, Cls K ((qa CWord CStart CRow CNear CBoth CEither CNot) k)) (dk_kids : ∀ k, DefM P w K mg base 1 ((qa CWord CStart CRow CNear CBoth CEither CNot) k) "kids" ["self"] (spG K (R_kids K (qa CWord CStart CRow CNear CBoth CEither CNot) k) noXG) []) (dk_spans : ∀ k, DefM P w K mg base (n + 1) ((qa CWord CStart CRow CNear CBoth CEither CNot) k) "spans" ["self", "words"] (spG K (R_spans K (qa CWord CStart CRow CNear CBoth CEither CNot) n k) noXG) []) : FnOk P w K mg base (L2.CX P w) (n + 2) f fd ["self", "words"] (spG K (R_spans K (qa CWord CStart CRow CNear CBoth CEither CNot) (n + 1) k) noXG) := by
  refine F.okX sc_Ask_spans (spG_len (n := 2) (by rintro _ _ ⟨q, ws, rfl, _⟩; rfl) (by rintro _ _ ⟨⟩)) (fun cdv A outer s H vs Q E hr h => ?_)
  obtain ⟨F0, as, fh, hv, ⟨r, ⟨q, ws, rfl, hk, hd, hr0, hl, rfl⟩, qq⟩ | ⟨_, h, _⟩⟩ := h
  · have e : ∃ a b, q.kids = [a, b] ∧ spansQ q ws = srt (spansQ a ws ++ spansQ b ws) ∧ (∀ c ∈ [a, b], c.dep ≤ n ∧ rowsNe c = true) := by
      subst hk
      cases q with
      | both a b =>
        have hr1 : rowsNe a = true ∧ rowsNe b = true := by simpa only [rowsNe, Bool.and_eq_true] using hr0
        refine ⟨a, b, rfl, rfl, fun c hc => ?_⟩
        simp only [Qt.dep] at hd
        rcases List.mem_cons.mp hc with rfl | hc
        · exact ⟨by omega, hr1.1⟩
        · rw [List.mem_singleton.mp hc]
          exact ⟨by omega, hr1.2⟩
      | either a b =>
        have hr1 : rowsNe a = true ∧ rowsNe b = true := by simpa only [rowsNe, Bool.and_eq_true] using hr0
        refine ⟨a, b, rfl, rfl, fun c hc => ?_⟩
        simp only [Qt.dep] at hd
        rcases List.mem_cons.mp hc with rfl | hc
        · exact ⟨by omega, hr1.1⟩
        · rw [List.mem_singleton.mp hc]
          exact ⟨by omega, hr1.2⟩
      | _ => rcases hk2 with h | h <;> cases h
    obtain ⟨a, b, ek, es0, hch⟩ := e
    obtain ⟨L, hL⟩ : ∃ L, L = [a, b] := ⟨_, rfl⟩
    rw [← hL] at ek hch
    have eall : L.flatMap (fun c => spansQ c ws) = spansQ a ws ++ spansQ b ws := by rw [hL]; simp
    have hu : (A.deeper (envOfC "Ask.spans" (defScope s_Ask_spans) s.heap.objs.size f cdv)).units + 64 < cLine := hr.units
    have S := Sts.initG (N := ["self", "words", "found", "kid", "span"]) fh hv
    refine ⟨_, (pss_cons (ps_set (i := 2) sc_Ask_spans.nd rfl (Or.inl rfl) pe_dnewP)
          (pss_cons (ps_for PassesOwn.leaving rfl (pi_list (pe_any fun k => pe_methO0 (dk_kids k) (pv 0) (ck k) (hr.mono (by omega)) passL)) (pg_name (i := 3) sc_Ask_spans.nd rfl (Or.inl rfl)) (pss_one (ps_for PassesOwn.leaving rfl (pi_list (pe_any fun k => pe_methO (dk_spans k) (pv 3) (ck k) (hr.mono (by omega)) passL (pa_cons (pv 1) pa_nil))) (pg_name (i := 4) sc_Ask_spans.nd rfl (Or.inl rfl)) (pss_one (ps_dputP (hu1 hu) (pv 2) (pv 4) pe_bl (by rfl))))))
          (pss_one (ps_ret (pe_callB (id := "sorted") (r := rSortedP K P w) (cr_sortedP rfl hu) (by rfl) T.sorted (by decide +kernel) (pa_cons (pv 2) pa_nil)))))), ?_⟩
    have tri : ∀ {k j : Nat} {c : Qt}, c ∈ L → ∀ y ∈ (L.take k).flatMap (fun c => spansQ c ws) ++ (spansQ c ws).take j, InTri ws.length y := fun {k j c} hc y hy => by
      rcases List.mem_append.mp hy with h | h
      · obtain ⟨c', hc', h⟩ := List.mem_flatMap.mp h
        exact spansQ_tri c' ws (hch c' (List.mem_of_mem_take hc')).2 y h
      · exact spansQ_tri c ws (hch c hc).2 y (List.mem_of_mem_take h)
    refine q_asg S (init_lenG hv (Nat.le_of_ble_eq_true rfl)) (r := .mu (dpM K P w [])) ev_dnewP rfl rfl (Nat.le_of_ble_eq_true rfl) fun σ' F' H' S l => ?_ -- found
    refine q_forF S l (as := askL K (qa CWord CStart CRow CNear CBoth CEither CNot) L) (by rw [← ek]; exact ev_kidsF (ev_varX rfl)) (fun k => [askS K (qa CWord CStart CRow CNear CBoth CEither CNot) q, .dt (wsD ws), .mu (dpM K P w (putsP [] ((L.take k).flatMap fun c => spansQ c ws))), .no, .no]) (Wk.refl _) (fun k c0 p hkc x σ' F' H' hx S l => ?_) (fun σ' F' H' S l => ?_)
    · obtain ⟨hkl, rfl⟩ := map_at (φ := askS K (qa CWord CStart CRow CNear CBoth CEither CNot)) zQ hkc
      obtain ⟨c, hc⟩ : ∃ c, c = L.getD k zQ := ⟨_, rfl⟩
      rw [← hc] at hx
      have hcL : L[k]? = some c := by rw [hc]; exact getD_of hkl
      have hcm : c ∈ L := List.mem_of_getElem? hcL
      refine g_nameI S l (Nat.le_of_ble_eq_true rfl) hx rfl fun σ' F' H' S l => ?_
      refine st_forL S l (ds := spD (spansQ c ws)) (.frz (ev_spans (n := n) (q := c) (ev_varX rfl) (ev_var rfl) (hch c hcm).1 (hch c hcm).2 hl)) (fun j => [askS K (qa CWord CStart CRow CNear CBoth CEither CNot) q, .dt (wsD ws), .mu (dpM K P w (putsP [] ((L.take k).flatMap (fun c => spansQ c ws) ++ (spansQ c ws).take j))), askS K (qa CWord CStart CRow CNear CBoth CEither CNot) c, .no]) (.same rfl (.same rfl (.same (by simp) (.same rfl (.no .nil))))) (fun j d p hjd x σ' F' H' hx S l => ?_) (fun σ' F' H' S l => ?_)
      · obtain ⟨t, ht, rfl⟩ := sp_at hjd
        refine g_name S l (Nat.le_of_ble_eq_true rfl) hx rfl fun σ' F' H' S l => ?_
        refine st_putP S l (i := 2) (z := t) rfl (ev_var rfl) (by have := putsP_few hl (tri (k := k) (j := j) hcm); omega) fun F' H' S l => ?_
        exact ⟨F', S.wk2 (.same rfl (.same rfl (.same (by rw [tk_succ ht, ← List.append_assoc, putsP_app _ _ [t]]; rfl) (.same rfl (.no .nil))))), l⟩
      · have e : (L.take k).flatMap (fun c => spansQ c ws) ++ (spansQ c ws).take (spD (spansQ c ws)).length = (L.take (k + 1)).flatMap fun c => spansQ c ws := by rw [spD_len, List.take_length, fl_succ _ hcL]
        exact ⟨F', S.wk2 (.same rfl (.same rfl (.same (by rw [e]) (.no (.no .nil))))), l⟩
    · have S : Sts K (fun _ => False) F0 H F' H' (σ' ++ []) ([askS K (qa CWord CStart CRow CNear CBoth CEither CNot) q, .dt (wsD ws), .mu (dpM K P w (putsP [] (spansQ a ws ++ spansQ b ws))), .no, .no] ++ []) := by
        have e : (L.take (askL K (qa CWord CStart CRow CNear CBoth CEither CNot) L).length).flatMap (fun c => spansQ c ws) = spansQ a ws ++ spansQ b ws := by
          have : (askL K (qa CWord CStart CRow CNear CBoth CEither CNot) L).length = L.length := List.length_map _
          rw [this, List.take_length, eall]
        have S := S
        rw [e] at S
        exact S
      have l : σ'.length = 5 := l
      have few : (putsP [] (spansQ a ws ++ spansQ b ws)).length ≤ 2080 := putsP_few hl fun y hy => by
        rcases List.mem_append.mp hy with h | h
        · exact spansQ_tri a ws (hch a (by rw [hL]; simp)).2 y h
        · exact spansQ_tri b ws (hch b (by rw [hL]; simp)).2 y h
      exact st_ret S l (ev_sortedP (i := 2) (zs := putsP [] (spansQ a ws ++ spansQ b ws)) rfl (by omega) (spansQ_pw q ws) fun y => by
        rw [es0]
        exact mem_puts) rfl qq
  · exact h.elim
/-! holds -/
theorem spD_plain (zs : List (Int × Int)) : PyData.plainAll (spD zs) = true := by
  induction zs with
  | nil => rfl
  | cons z zs ih =>
    show PyData.plainAll (iiD z :: spD zs) = true
    unfold PyData.plainAll
    rw [ih]
    rfl
theorem spD_nil (zs : List (Int × Int)) : PyData.eqv (.list (spD zs)) (.list []) = zs.isEmpty := by
  cases zs with
  | nil => rfl
  | cons z zs => rfl
theorem spD_deep (zs : List (Int × Int)) : (PyData.list (spD zs)).depth ≤ 60 := by
  have : ∀ zs : List (Int × Int), PyData.depthAll (spD zs) ≤ 2 := fun zs => by
    induction zs with
    | nil => exact Nat.zero_le _
    | cons z zs ih =>
      show PyData.depthAll (iiD z :: spD zs) ≤ 2
      unfold PyData.depthAll
      exact Nat.max_le.mpr ⟨Nat.le_of_ble_eq_true rfl, ih⟩
  have := this zs
  rw [PyData.depth]
  omega
theorem ok_Ask_holds {n : Nat} {k : Kd} (hk4 : k = .word ∨ k = .start ∨ k = .row ∨ k = .near) {f : Addr} {fd : FuncData} (F : Fun K "holds" "Ask.holds" s_Ask_holds f fd) (T : Txt K mg CB CAsk CWord CStart CRow CNear CBoth CEither CNot) (ck : ∀ k, Cls K ((qa CWord CStart CRow CNear CBoth CEither CNot) k)) (dk_spans : ∀ k, DefM P w K mg base (n + 1) ((qa CWord CStart CRow CNear CBoth CEither CNot) k) "spans" ["self", "words"] (spG K (R_spans K (qa CWord CStart CRow CNear CBoth CEither CNot) n k) noXG) []) : FnOk P w K mg base (L2.CX P w) (n + 2) f fd ["self", "words"] (spG K (R_holds K (qa CWord CStart CRow CNear CBoth CEither CNot) n k) noXG) := by
  refine F.okX sc_Ask_holds (spG_len (n := 2) (by rintro _ _ ⟨q, ws, rfl, _⟩; rfl) (by rintro _ _ ⟨⟩)) (fun cdv A outer s H vs Q E hr h => ?_)
  obtain ⟨F0, as, fh, hv, ⟨r, ⟨q, ws, rfl, hk, hd, hr0, hl, rfl⟩, qq⟩ | ⟨_, h, _⟩⟩ := h
  · have S := Sts.initG (N := ["self", "words"]) fh hv
    have hu : (A.deeper (envOfC "Ask.holds" (defScope s_Ask_holds) s.heap.objs.size f cdv)).units + 64 < cLine := hr.units
    refine ⟨_, (pss_one (ps_ret (pe_cmpR (r := rNeP K) (op_neP hu) (pe_any fun k => pe_methO (dk_spans k) (pv 0) (ck k) (hr.mono (by omega)) passL (pa_cons (pv 1) pa_nil)) (pe_lst pa_nil) (nomark _)))), ?_⟩
    have e : holdsQ q ws = !(spansQ q ws).isEmpty := by
      subst hk
      cases q with
      | both a b => rcases hk4 with h | h | h | h <;> cases h
      | either a b => rcases hk4 with h | h | h | h <;> cases h
      | no a => rcases hk4 with h | h | h | h <;> cases h
      | _ => rfl
    rw [e] at qq
    exact st_ret S (init_lenG hv (Nat.le_of_ble_eq_true rfl)) (.toD (ev_neP (da := .list (spD (spansQ q ws))) (db := .list []) (ev_spans (n := n) (ev_varX rfl) (ev_var rfl) hd hr0 hl) (ev_lst (ds := []) av_nil rfl (Nat.le_of_ble_eq_true rfl)) rfl rfl (spD_plain _) rfl (spD_deep _)) (by rw [spD_nil])) rfl qq
  · exact h.elim
theorem ok_Both_holds {n : Nat} {f : Addr} {fd : FuncData} (F : Fun K "holds" "Both.holds" s_Both_holds f fd) (T : Txt K mg CB CAsk CWord CStart CRow CNear CBoth CEither CNot) (ck : ∀ k, Cls K ((qa CWord CStart CRow CNear CBoth CEither CNot) k)) (dk_holds : ∀ k, DefM P w K mg base (n + 2) ((qa CWord CStart CRow CNear CBoth CEither CNot) k) "holds" ["self", "words"] (spG K (R_holds K (qa CWord CStart CRow CNear CBoth CEither CNot) n k) noXG) []) : FnOk P w K mg base (L2.CX P w) (n + 3) f fd ["self", "words"] (spG K (R_holds K (qa CWord CStart CRow CNear CBoth CEither CNot) (n + 1) .both) noXG) := by
  refine F.okX sc_Both_holds (spG_len (n := 2) (by rintro _ _ ⟨q, ws, rfl, _⟩; rfl) (by rintro _ _ ⟨⟩)) (fun cdv A outer s H vs Q E hr h => ?_)
  obtain ⟨F0, as, fh, hv, ⟨r, ⟨q, ws, rfl, hk, hd, hr0, hl, rfl⟩, qq⟩ | ⟨_, h, _⟩⟩ := h
  · cases q with
    | both a b =>
      have S := Sts.initG (N := ["self", "words"]) fh hv
      have ha : a.dep ≤ n := by simp only [Qt.dep] at hd; omega
      have hb : b.dep ≤ n := by simp only [Qt.dep] at hd; omega
      have hr1 : rowsNe a = true ∧ rowsNe b = true := by simpa only [rowsNe, Bool.and_eq_true] using hr0
      refine ⟨_, (pss_one (ps_ret (pe_and (pe_any fun k => pe_methO (dk_holds k) (pe_fld (pv 0) rfl) (ck k) (hr.mono (by omega)) passL (pa_cons (pv 1) pa_nil)) (pe_one (pe_any fun k => pe_methO (dk_holds k) (pe_fld (pv 0) rfl) (ck k) (hr.mono (by omega)) passL (pa_cons (pv 1) pa_nil)))))), ?_⟩
      have g1 : EvR K (tFld K (tVar 0) "one") (ssG 2 [askS K (qa CWord CStart CRow CNear CBoth CEither CNot) (.both a b), .dt (wsD ws)]) (askS K (qa CWord CStart CRow CNear CBoth CEither CNot) a) := ev_fldGx (ev_varX rfl) (fun F v ⟨p, dx, x, y, e1, e2, e3, e4⟩ => ⟨p, dx, _, x, e1, e2, lkv_eq, fun F' e => e3.ex e⟩) T.cl_Both T.n_Both_one
      have g2 : EvR K (tFld K (tVar 0) "other") (ssG 2 [askS K (qa CWord CStart CRow CNear CBoth CEither CNot) (.both a b), .dt (wsD ws)]) (askS K (qa CWord CStart CRow CNear CBoth CEither CNot) b) := ev_fldGx (ev_varX rfl) (fun F v ⟨p, dx, x, y, e1, e2, e3, e4⟩ => ⟨p, dx, _, y, e1, e2, (lkv_ne (by decide +kernel)).trans lkv_eq, fun F' e => e4.ex e⟩) T.cl_Both T.n_Both_other
      exact st_ret S (init_lenG hv (Nat.le_of_ble_eq_true rfl)) (ev_and (ev_holds (n := n) g1 (ev_var rfl) ha hr1.1 hl) fun _ => ev_holds (n := n) g2 (ev_var rfl) hb hr1.2 hl) rfl qq
    | _ => cases hk
  · exact h.elim
theorem ok_Either_holds {n : Nat} {f : Addr} {fd : FuncData} (F : Fun K "holds" "Either.holds" s_Either_holds f fd) (T : Txt K mg CB CAsk CWord CStart CRow CNear CBoth CEither CNot) (ck : ∀ k, Cls K ((qa CWord CStart CRow CNear CBoth CEither CNot) k)) (dk_holds : ∀ k, DefM P w K mg base (n + 2) ((qa CWord CStart CRow CNear CBoth CEither CNot) k) "holds" ["self", "words"] (spG K (R_holds K (qa CWord CStart CRow CNear CBoth CEither CNot) n k) noXG) []) : FnOk P w K mg base (L2.CX P w) (n + 3) f fd ["self", "words"] (spG K (R_holds K (qa CWord CStart CRow CNear CBoth CEither CNot) (n + 1) .either) noXG) := by
  refine F.okX sc_Either_holds (spG_len (n := 2) (by rintro _ _ ⟨q, ws, rfl, _⟩; rfl) (by rintro _ _ ⟨⟩)) (fun cdv A outer s H vs Q E hr h => ?_)
  obtain ⟨F0, as, fh, hv, ⟨r, ⟨q, ws, rfl, hk, hd, hr0, hl, rfl⟩, qq⟩ | ⟨_, h, _⟩⟩ := h
  · cases q with
    | either a b =>
      have S := Sts.initG (N := ["self", "words"]) fh hv
      have ha : a.dep ≤ n := by simp only [Qt.dep] at hd; omega
      have hb : b.dep ≤ n := by simp only [Qt.dep] at hd; omega
      have hr1 : rowsNe a = true ∧ rowsNe b = true := by simpa only [rowsNe, Bool.and_eq_true] using hr0
      refine ⟨_, (pss_one (ps_ret (pe_or (pe_any fun k => pe_methO (dk_holds k) (pe_fld (pv 0) rfl) (ck k) (hr.mono (by omega)) passL (pa_cons (pv 1) pa_nil)) (pe_one (pe_any fun k => pe_methO (dk_holds k) (pe_fld (pv 0) rfl) (ck k) (hr.mono (by omega)) passL (pa_cons (pv 1) pa_nil)))))), ?_⟩
      have g1 : EvR K (tFld K (tVar 0) "one") (ssG 2 [askS K (qa CWord CStart CRow CNear CBoth CEither CNot) (.either a b), .dt (wsD ws)]) (askS K (qa CWord CStart CRow CNear CBoth CEither CNot) a) := ev_fldGx (ev_varX rfl) (fun F v ⟨p, dx, x, y, e1, e2, e3, e4⟩ => ⟨p, dx, _, x, e1, e2, lkv_eq, fun F' e => e3.ex e⟩) T.cl_Either T.n_Either_one
      have g2 : EvR K (tFld K (tVar 0) "other") (ssG 2 [askS K (qa CWord CStart CRow CNear CBoth CEither CNot) (.either a b), .dt (wsD ws)]) (askS K (qa CWord CStart CRow CNear CBoth CEither CNot) b) := ev_fldGx (ev_varX rfl) (fun F v ⟨p, dx, x, y, e1, e2, e3, e4⟩ => ⟨p, dx, _, y, e1, e2, (lkv_ne (by decide +kernel)).trans lkv_eq, fun F' e => e4.ex e⟩) T.cl_Either T.n_Either_other
      exact st_ret S (init_lenG hv (Nat.le_of_ble_eq_true rfl)) (ev_or (ev_holds (n := n) g1 (ev_var rfl) ha hr1.1 hl) fun _ => ev_holds (n := n) g2 (ev_var rfl) hb hr1.2 hl) rfl qq
    | _ => cases hk
  · exact h.elim
theorem ok_Not_holds {n : Nat} {f : Addr} {fd : FuncData} (F : Fun K "holds" "Not.holds" s_Not_holds f fd) (T : Txt K mg CB CAsk CWord CStart CRow CNear CBoth CEither CNot) (ck : ∀ k, Cls K ((qa CWord CStart CRow CNear CBoth CEither CNot) k)) (dk_holds : ∀ k, DefM P w K mg base (n + 2) ((qa CWord CStart CRow CNear CBoth CEither CNot) k) "holds" ["self", "words"] (spG K (R_holds K (qa CWord CStart CRow CNear CBoth CEither CNot) n k) noXG) []) : FnOk P w K mg base (L2.CX P w) (n + 3) f fd ["self", "words"] (spG K (R_holds K (qa CWord CStart CRow CNear CBoth CEither CNot) (n + 1) .no) noXG) := by
  refine F.okX sc_Not_holds (spG_len (n := 2) (by rintro _ _ ⟨q, ws, rfl, _⟩; rfl) (by rintro _ _ ⟨⟩)) (fun cdv A outer s H vs Q E hr h => ?_)
  obtain ⟨F0, as, fh, hv, ⟨r, ⟨q, ws, rfl, hk, hd, hr0, hl, rfl⟩, qq⟩ | ⟨_, h, _⟩⟩ := h
  · cases q with
    | no a =>
      have S := Sts.initG (N := ["self", "words"]) fh hv
      have ha : a.dep ≤ n := by simp only [Qt.dep] at hd; omega
      have hr1 : rowsNe a = true := hr0
      refine ⟨_, (pss_one (ps_ret (pe_not (pe_any fun k => pe_methO (dk_holds k) (pe_fld (pv 0) rfl) (ck k) (hr.mono (by omega)) passL (pa_cons (pv 1) pa_nil))))), ?_⟩
      have g1 : EvR K (tFld K (tVar 0) "one") (ssG 2 [askS K (qa CWord CStart CRow CNear CBoth CEither CNot) (.no a), .dt (wsD ws)]) (askS K (qa CWord CStart CRow CNear CBoth CEither CNot) a) := ev_fldGx (ev_varX rfl) (fun F v ⟨p, dx, x, e1, e2, e3⟩ => ⟨p, dx, _, x, e1, e2, lkv_eq, fun F' e => e3.ex e⟩) T.cl_Not T.n_Not_one
      exact st_ret S (init_lenG hv (Nat.le_of_ble_eq_true rfl)) (ev_not (ev_holds (n := n) g1 (ev_var rfl) ha hr1 hl)) rfl qq
    | _ => cases hk
  · exact h.elim
end
section
variable {P : Program} {w : World} {K : PySem.W.Frag} {mg : Str → Option Value} {base : Heap} {CB CAsk CWord CStart CRow CNear CBoth CEither CNot : Addr}
theorem str_tx (z : Str) : z = tx z.cps.toList := by
  cases z
  simp [tx]
theorem tx_eq {a b : List Nat} : decide (tx a = tx b) = decide (a = b) := by
  by_cases h : a = b
  · rw [decide_eq_true h, h, decide_eq_true rfl]
  · rw [decide_eq_false h, decide_eq_false fun z => h (by
      have := congrArg (fun z : Str => z.cps.toList) z
      simpa [tx] using this)]
theorem cut_all {cs : List Nat} {j : Nat} (h : cs.length ≤ j) : L2.cutS (tx cs) none (some (j : Int)) = tx cs := by
  have e : HT.sIx cs.length cs.length (some (j : Int)) = cs.length := by
    simp only [HT.sIx]
    rw [if_neg (by omega)]
    omega
  rw [tx_cut, e]
  show tx ((cs.drop 0).take (cs.length - 0)) = _
  rw [List.drop_zero, Nat.sub_zero, List.take_length]
theorem sw_cut (y z : Str) : Txt.startswith y z = decide (L2.cutS y none (some (z.length : Int)) = z) := by
  rw [str_tx y, str_tx z]
  generalize y.cps.toList = a
  generalize z.cps.toList = b
  unfold Txt.startswith PySem.Builtin.Str.subAt
  rw [tx_len, tx_len, Nat.zero_add]
  by_cases h : b.length ≤ a.length
  · rw [cut_pre h, tx_eq, decide_eq_true h, Bool.true_and]
    have e : (tx a).cps.extract 0 b.length = (a.take b.length).toArray := by
      simp [tx]
    rw [e]
    show ((a.take b.length).toArray == b.toArray) = _
    by_cases h2 : a.take b.length = b
    · rw [h2, decide_eq_true rfl]
      exact beq_self_eq_true _
    · rw [decide_eq_false h2]
      refine beq_false_of_ne fun z => h2 ?_
      simpa using z
  · rw [decide_eq_false h, Bool.false_and, cut_all (by omega), tx_eq, decide_eq_false fun z => h (by rw [z]; exact Nat.le_refl _)]
theorem gz_succ (F : Nat → Option (Int × Int)) (k : Nat) : spD (gotZ F (k + 1)) = spD (gotZ F k) ++ spD (F k).toList := by
  rw [gotZ_succ]
  exact List.map_append
def WsOk (ws : List Str) : Prop := ws.length ≤ 64 ∧ ∀ x ∈ ws, x.length ≤ 1000
def R_lps (ds : List PyData) (r : Sl) : Prop := ∃ (q : Qt) (ws : List Str), ds = [q.toldD, wsD ws] ∧ (q.kd = .word ∨ q.kd = .start ∨ q.kd = .row) ∧ rowsNe q = true ∧ shortD q.toldD = true ∧ WsOk ws ∧ r = .ls (spD (spansQ q ws))
theorem ws_cut {ws : List Str} {k n : Nat} (h : k + n ≤ ws.length) : cutD (ws.map PyData.str) (some (k : Int)) (some ((k : Int) + (n : Int))) = ((ws.drop k).take n).map PyData.str := by
  have h1 : k ≤ (ws.map PyData.str).length := by rw [List.length_map]; omega
  have h2 : k + n ≤ (ws.map PyData.str).length := by rw [List.length_map]; omega
  rw [← Int.natCast_add, cutD_mid h1 h2, List.map_take, List.map_drop, Nat.add_sub_cancel_left]
theorem drop_one {α : Type} {L : List α} {k : Nat} {z : α} (h : L[k]? = some z) : (L.drop k).take 1 = [z] := by
  have hl := (List.getElem?_eq_some_iff.mp h).1
  have he := (List.getElem?_eq_some_iff.mp h).2
  rw [List.drop_eq_getElem_cons hl, he]
  rfl
theorem ok__law_plain_spans {f : Addr} {fd : FuncData} (F : Fun K "_law_plain_spans" "_law_plain_spans" s__law_plain_spans f fd) (T : Txt K mg CB CAsk CWord CStart CRow CNear CBoth CEither CNot) : FnOk P w K mg base (L2.CX P w) 1 f fd ["_law_told", "_law_words"] (spF K R_lps noX) := by
  refine F.okX sc__law_plain_spans (spF_len (n := 2) (by rintro _ _ ⟨_, _, rfl, _⟩; rfl) (by rintro _ _ ⟨⟩)) (fun cdv A outer s H vs Q E hr h => ?_)
  obtain ⟨F0, ds, fh, hv, ⟨r, ⟨q, ws, rfl, hk, hr0, hsh, hws, rfl⟩, qq⟩ | ⟨_, h, _⟩⟩ := h
  · have S := Sts.init (N := ["_law_told", "_law_words", "_law_found", "_law_size", "_law_place", "_law_here"]) fh hv
    have l := init_len (N := ["_law_told", "_law_words", "_law_found", "_law_size", "_law_place", "_law_here"]) hv (Nat.le_of_ble_eq_true rfl)
    have hu : (A.deeper (envOfC "_law_plain_spans" (defScope s__law_plain_spans) s.heap.objs.size f cdv)).units + 64 < cLine := hr.units
    refine ⟨_, (pss_cons (ps_set (i := 2) sc__law_plain_spans.nd rfl (Or.inl rfl) (pe_lst pa_nil))
          (pss_cons (ps_set (i := 3) sc__law_plain_spans.nd rfl (Or.inl rfl) (pe_ifExp (pt_cmpR (r := rEqP K) (op_eqP hu) (pe_ix (r := rIxT K) ix_tup (pv 0) pe_int (fun _ _ => rfl)) pe_str (nomark _)) (pe_callB (id := "len") (r := rLenR K) call_lenR (by rfl) T.len (by decide +kernel) (pa_cons (pe_ix (r := rIxT K) ix_tup (pv 0) pe_int (fun _ _ => rfl)) pa_nil)) pe_int))
          (pss_cons (ps_for PassesOwn.leaving rfl (pi_range1 (by rfl) T.range (pa_cons (pe_op op_add (pe_op op_sub (pe_callB (id := "len") (r := rLenR K) call_lenR (by rfl) T.len (by decide +kernel) (pa_cons (pv 1) pa_nil)) (pv 3)) pe_int) pa_nil)) (pg_name (i := 4) sc__law_plain_spans.nd rfl (Or.inl rfl)) (pss_cons (ps_set (i := 5) sc__law_plain_spans.nd rfl (Or.inl rfl) (pe_slice (r := rSlL K) sl_list (pv 1) (po_some (pv 4)) (po_some (pe_op op_add (pv 4) (pv 3)))))
          (pss_cons (ps_if (PW.pt (pw_or (PW.pt (pw_and (pt_cmpR (r := rEqP K) (op_eqP hu) (pe_ix (r := rIxT K) ix_tup (pv 0) pe_int (fun _ _ => rfl)) pe_str (nomark _)) (pw_and1 (pt_cmpR (r := rEqP K) (op_eqP hu) (pv 5) (pe_lst (pa_cons (pe_ix (r := rIxT K) ix_tup (pv 0) pe_int (fun _ _ => rfl)) pa_nil)) (nomark _))))) (pw_or1 (PW.pt (pw_and (pt_cmpR (r := rEqP K) (op_eqP hu) (pe_ix (r := rIxT K) ix_tup (pv 0) pe_int (fun _ _ => rfl)) pe_str (nomark _)) (pw_and1 (pt_cmpR (r := rEqP K) (op_eqP hu) (pe_slice (r := rSlS) sl_str (pe_ix (r := rIxL K) ix_list (pv 5) pe_int (fun _ _ => rfl)) po_none (po_some (pe_callB (id := "len") (r := rLenR K) call_lenR (by rfl) T.len (by decide +kernel) (pa_cons (pe_ix (r := rIxT K) ix_tup (pv 0) pe_int (fun _ _ => rfl)) pa_nil)))) (pe_ix (r := rIxT K) ix_tup (pv 0) pe_int (fun _ _ => rfl)) (nomark _)))))))) (pss_one (ps_expr (pe_bm PySem.F.plainAttrs_list PySem.F.slot_list_append PySem.F.type_list_append mt_append (pv 2) (pa_cons (pe_tup (pa_cons (pv 4) (pa_cons (pv 4) pa_nil))) pa_nil)))) pss_nil)
          (pss_one (ps_if (PW.pt (pw_and (pt_cmpR (r := rEqP K) (op_eqP hu) (pe_ix (r := rIxT K) ix_tup (pv 0) pe_int (fun _ _ => rfl)) pe_str (nomark _)) (pw_and1 (pt_cmpR (r := rEqP K) (op_eqP hu) (pv 5) (pe_callTy (T := "list") (r := rListR K) call_listR (by rfl) T.list (by decide +kernel) (pa_cons (pe_ix (r := rIxT K) ix_tup (pv 0) pe_int (fun _ _ => rfl)) pa_nil)) (nomark _))))) (pss_one (ps_expr (pe_bm PySem.F.plainAttrs_list PySem.F.slot_list_append PySem.F.type_list_append mt_append (pv 2) (pa_cons (pe_tup (pa_cons (pv 4) (pa_cons (pe_op op_sub (pe_op op_add (pv 4) (pv 3)) pe_int) pa_nil))) pa_nil)))) pss_nil)))))
          (pss_one (ps_ret (pv 2)))))), ?_⟩
    have g0 : ∀ {sl : List Sl} {z : Str} {x : PyData}, EvR K (tOp (rIxT K) (tVar 0) (tC (.int 0))) (.dt (.tuple [.str z, x]) :: sl) (.dt (.str z)) := fun {sl z x} => ev_ixT (ds := [.str z, x]) (ev_var rfl) ev_int rfl rfl
    have g1 : ∀ {sl : List Sl} {z : Str} {x : PyData}, EvR K (tOp (rIxT K) (tVar 0) (tC (.int 1))) (.dt (.tuple [.str z, x]) :: sl) (.dt x) := fun {sl z x} => ev_ixT (ds := [.str z, x]) (ev_var rfl) ev_int rfl rfl
    have eqz : ∀ {sl : List Sl} {z y : Str} {x : PyData}, TvR K (tTest (tOp (rEqP K) (tOp (rIxT K) (tVar 0) (tC (.int 0))) (tC (.str y)))) (.dt (.tuple [.str z, x]) :: sl) (decide (z = y)) := fun {sl z y x} => tv_test (ev_eqT (a := z) (b := y) g0 ev_str rfl rfl)
    have wl : ∀ {sl : List Sl} {d0 : Sl}, EvR K (tCB (rLenR K) (tCons (tVar 1) tNil)) (d0 :: .dt (wsD ws) :: sl) (.dt (.int (ws.length : Int))) := fun {sl d0} => ev_len (n := ws.length) (ev_var rfl) rfl (by show some (ws.map PyData.str).length = _; rw [List.length_map])
    cases q with
    | word x =>
      have hxl : x.length ≤ 100000 := by
        have h : shortD (.str x) = true := shortAll_at (ds := [.str "word", .str x]) (k := 1) (by have := hsh; simp only [Qt.toldD] at this; rwa [shortD] at this) rfl
        exact short_of h x rfl
      refine q_asg S l (r := .ls []) (ev_lst av_nil rfl (Nat.le_of_ble_eq_true rfl)) rfl rfl (Nat.le_of_ble_eq_true rfl) fun σ' F' H' S l => ?_ -- found
      refine q_asg S l (r := .dt (.int 1)) (ev_if (b := false) (.to eqz (by decide +kernel)) (fun h => by cases h) (fun _ => ev_int)) rfl rfl (Nat.le_of_ble_eq_true rfl) fun σ' F' H' S l => ?_ -- size
      refine q_forR1Z S l (n := (ws.length : Int) - 1 + 1) (m := ws.length) (av_cons (.toD (ev_ii (f := fun i j => i + j) (ev_ii (f := fun i j => i - j) wl (ev_var rfl)) ev_int) rfl) av_nil) (by omega) (by have := hws.1; constructor <;> omega) (fun k => [.dt (.tuple [.str "word", .str x]), .dt (wsD ws), .ls (spD (gotZ (wordS x ws) k)), .dt (.int 1), .no, .no]) (Wk.refl _) (fun _ => rfl) (Nat.le_of_ble_eq_true rfl) (fun k hk' σ' F' H' S l => ?_) (fun σ' F' H' S l => st_retA S l rfl qq)
      have hgl := gotZ_len (wordS x ws) k
      have hw1 := hws.1
      have gs := gz_succ (wordS x ws) k
      obtain ⟨z, hz⟩ : ∃ z, ws[k]? = some z := ⟨_, List.getElem?_eq_getElem hk'⟩
      have ecut : cutD (ws.map PyData.str) (some (k : Int)) (some ((k : Int) + 1)) = [PyData.str z] := by
        have := ws_cut (ws := ws) (k := k) (n := 1) (by omega)
        rw [drop_one hz] at this
        exact this
      refine q_asg S l (r := .dt (.list [PyData.str z])) (.frz (.to (ev_slL (ds := ws.map PyData.str) (ev_var rfl) rfl (ov_some (ev_var rfl)) (ov_some (.toD (b := .int ((k : Int) + 1)) (ev_ii (f := fun i j => i + j) (ev_var rfl) (ev_var rfl)) rfl))) (congrArg Sl.ls ecut))) rfl rfl (Nat.le_of_ble_eq_true rfl) fun σ' F' H' S l => ?_ -- here
      have eF : wordS x ws k = if z = x then some ((k : Int), (k : Int)) else none := by
        unfold wordS
        rw [hz]
        by_cases c : z = x
        · rw [if_pos c, if_pos (by rw [c])]
        · rw [if_neg c, if_neg fun h => c (Option.some.inj h)]
      refine q_when S l (b := decide (z = x)) (.to (tv_or (b := false) (tv_and (b := decide ([z] = [x])) (.to eqz (by decide +kernel : decide (_ = _) = true)) fun _ => tv_test (ev_eqT (a := [z]) (b := [x]) (ev_var rfl) (ev_lst (ds := [.str x]) (av_cons g1 av_nil) rfl (Nat.le_of_ble_eq_true rfl)) rfl rfl)) fun _ => (.to (tv_and (b := false) (.to eqz (by decide +kernel : decide (_ = _) = false)) (fun h => by cases h)) rfl)) (by simp)) (fun hb F' H' S => ?_) (fun hb F' H' S => ?_)
      · have hb' := of_decide_eq_true hb
        rw [eF, if_pos hb'] at gs
        refine st_app S l rfl (d := .tuple [.int (k : Int), .int (k : Int)]) (ev_tup (av_cons (ev_var rfl) (av_cons (ev_var rfl) av_nil)) rfl (Nat.le_of_ble_eq_true rfl)) (by rw [spD_len]; omega) fun F' H' S l => ?_
        dsimp only
        refine st_when S l (b := false) (.to (tv_and (b := false) (.to eqz (by decide +kernel : decide (_ = _) = false)) (fun h => by cases h)) rfl) (fun h => by cases h) (fun _ F' H' S => ?_)
        exact ⟨F', S.wk2 (.same rfl (.same rfl (.same (congrArg Sl.ls gs.symm) (.same rfl (.no (.no .nil)))))), l⟩
      · have hb' := of_decide_eq_false hb
        rw [eF, if_neg hb'] at gs
        refine st_when S l (b := false) (.to (tv_and (b := false) (.to eqz (by decide +kernel : decide (_ = _) = false)) (fun h => by cases h)) rfl) (fun h => by cases h) (fun _ F' H' S => ?_)
        exact ⟨F', S.wk2 (.same rfl (.same rfl (.same (congrArg Sl.ls (by rw [gs]; exact (List.append_nil _).symm)) (.same rfl (.no (.no .nil)))))), l⟩
    | start x =>
      have hxl : x.length ≤ 100000 := by
        have h : shortD (.str x) = true := shortAll_at (ds := [.str "start", .str x]) (k := 1) (by have := hsh; simp only [Qt.toldD] at this; rwa [shortD] at this) rfl
        exact short_of h x rfl
      refine q_asg S l (r := .ls []) (ev_lst av_nil rfl (Nat.le_of_ble_eq_true rfl)) rfl rfl (Nat.le_of_ble_eq_true rfl) fun σ' F' H' S l => ?_ -- found
      refine q_asg S l (r := .dt (.int 1)) (ev_if (b := false) (.to eqz (by decide +kernel)) (fun h => by cases h) (fun _ => ev_int)) rfl rfl (Nat.le_of_ble_eq_true rfl) fun σ' F' H' S l => ?_ -- size
      refine q_forR1Z S l (n := (ws.length : Int) - 1 + 1) (m := ws.length) (av_cons (.toD (ev_ii (f := fun i j => i + j) (ev_ii (f := fun i j => i - j) wl (ev_var rfl)) ev_int) rfl) av_nil) (by omega) (by have := hws.1; constructor <;> omega) (fun k => [.dt (.tuple [.str "start", .str x]), .dt (wsD ws), .ls (spD (gotZ (startS x ws) k)), .dt (.int 1), .no, .no]) (Wk.refl _) (fun _ => rfl) (Nat.le_of_ble_eq_true rfl) (fun k hk' σ' F' H' S l => ?_) (fun σ' F' H' S l => st_retA S l rfl qq)
      have hgl := gotZ_len (startS x ws) k
      have hw1 := hws.1
      have gs := gz_succ (startS x ws) k
      obtain ⟨z, hz⟩ : ∃ z, ws[k]? = some z := ⟨_, List.getElem?_eq_getElem hk'⟩
      have ecut : cutD (ws.map PyData.str) (some (k : Int)) (some ((k : Int) + 1)) = [PyData.str z] := by
        have := ws_cut (ws := ws) (k := k) (n := 1) (by omega)
        rw [drop_one hz] at this
        exact this
      refine q_asg S l (r := .dt (.list [PyData.str z])) (.frz (.to (ev_slL (ds := ws.map PyData.str) (ev_var rfl) rfl (ov_some (ev_var rfl)) (ov_some (.toD (b := .int ((k : Int) + 1)) (ev_ii (f := fun i j => i + j) (ev_var rfl) (ev_var rfl)) rfl))) (congrArg Sl.ls ecut))) rfl rfl (Nat.le_of_ble_eq_true rfl) fun σ' F' H' S l => ?_ -- here
      have eF : startS x ws k = if Txt.startswith z x = true then some ((k : Int), (k : Int)) else none := by
        unfold startS
        rw [hz]
      have hzl : z.length ≤ 1000 := hws.2 z (List.mem_of_getElem? hz)
      refine q_when S l (b := decide (Txt.startswith z x = true)) (.to (tv_or (a := false) (b := decide (Txt.startswith z x = true)) (.to (tv_and (b := false) (.to eqz (by decide +kernel : decide (_ = _) = false)) (fun h => by cases h)) rfl) fun _ => (.to (tv_and (a := true) (b := decide (L2.cutS z none (some (x.length : Int)) = x)) (.to eqz (by decide +kernel : decide (_ = _) = true)) fun _ => tv_test (ev_eqT (a := L2.cutS z none (some (x.length : Int))) (b := x) (ev_slS (z := z) (ev_ixL (ds := [.str z]) (ev_var rfl) ev_int rfl rfl) (by rw [sizeLine_eq]; omega) ov_none (ov_some (ev_len (d := .str x) (n := x.length) g1 rfl (len_str (fun y e => by cases e; omega))))) g1 rfl rfl)) (by rw [Bool.true_and, sw_cut, Bool.decide_eq_true]))) (by rw [Bool.false_or])) (fun hb F' H' S => ?_) (fun hb F' H' S => ?_)
      · have hb' := of_decide_eq_true hb
        rw [eF, if_pos hb'] at gs
        refine st_app S l rfl (d := .tuple [.int (k : Int), .int (k : Int)]) (ev_tup (av_cons (ev_var rfl) (av_cons (ev_var rfl) av_nil)) rfl (Nat.le_of_ble_eq_true rfl)) (by rw [spD_len]; omega) fun F' H' S l => ?_
        dsimp only
        refine st_when S l (b := false) (.to (tv_and (b := false) (.to eqz (by decide +kernel : decide (_ = _) = false)) (fun h => by cases h)) rfl) (fun h => by cases h) (fun _ F' H' S => ?_)
        exact ⟨F', S.wk2 (.same rfl (.same rfl (.same (congrArg Sl.ls gs.symm) (.same rfl (.no (.no .nil)))))), l⟩
      · have hb' := of_decide_eq_false hb
        rw [eF, if_neg hb'] at gs
        refine st_when S l (b := false) (.to (tv_and (b := false) (.to eqz (by decide +kernel : decide (_ = _) = false)) (fun h => by cases h)) rfl) (fun h => by cases h) (fun _ F' H' S => ?_)
        exact ⟨F', S.wk2 (.same rfl (.same rfl (.same (congrArg Sl.ls (by rw [gs]; exact (List.append_nil _).symm)) (.same rfl (.no (.no .nil)))))), l⟩
    | row rs =>
      have hrl := of_decide_eq_true (show decide (1 ≤ rs.length ∧ rs.length ≤ 1000) = true from hr0)
      refine q_asg S l (r := .ls []) (ev_lst av_nil rfl (Nat.le_of_ble_eq_true rfl)) rfl rfl (Nat.le_of_ble_eq_true rfl) fun σ' F' H' S l => ?_ -- found
      refine q_asg S l (r := .dt (.int (rs.length : Int))) (ev_if (b := true) (.to eqz (by decide +kernel)) (fun _ => ev_len (d := .tuple (rs.map .str)) (n := rs.length) g1 rfl (by show some (rs.map PyData.str).length = _; rw [List.length_map])) (fun h => by cases h)) rfl rfl (Nat.le_of_ble_eq_true rfl) fun σ' F' H' S l => ?_ -- size
      refine q_forR1Z S l (n := (ws.length : Int) - (rs.length : Int) + 1) (m := ws.length + 1 - rs.length) (av_cons (.toD (ev_ii (f := fun i j => i + j) (ev_ii (f := fun i j => i - j) wl (ev_var rfl)) ev_int) rfl) av_nil) (by omega) (by have := hws.1; constructor <;> omega) (fun k => [.dt (.tuple [.str "row", .tuple (rs.map .str)]), .dt (wsD ws), .ls (spD (gotZ (rowS rs ws) k)), .dt (.int (rs.length : Int)), .no, .no]) (Wk.refl _) (fun _ => rfl) (Nat.le_of_ble_eq_true rfl) (fun k hk' σ' F' H' S l => ?_) (fun σ' F' H' S l => st_retA S l rfl qq)
      have hgl := gotZ_len (rowS rs ws) k
      have hw1 := hws.1
      have gs := gz_succ (rowS rs ws) k
      have ecut := ws_cut (ws := ws) (k := k) (n := rs.length) (by omega)
      refine q_asg S l (r := .dt (.list (((ws.drop k).take rs.length).map PyData.str))) (.frz (.to (ev_slL (ds := ws.map PyData.str) (ev_var rfl) rfl (ov_some (ev_var rfl)) (ov_some (.toD (b := .int ((k : Int) + (rs.length : Int))) (ev_ii (f := fun i j => i + j) (ev_var rfl) (ev_var rfl)) rfl))) (congrArg Sl.ls ecut))) rfl rfl (Nat.le_of_ble_eq_true rfl) fun σ' F' H' S l => ?_ -- here
      refine q_when S l (b := false) (.to (tv_or (a := false) (b := false) (.to (tv_and (b := false) (.to eqz (by decide +kernel : decide (_ = _) = false)) (fun h => by cases h)) rfl) fun _ => (.to (tv_and (b := false) (.to eqz (by decide +kernel : decide (_ = _) = false)) (fun h => by cases h)) rfl)) rfl) (fun h => by cases h) (fun _ F' H' S => ?_)
      refine st_when S l (b := decide ((ws.drop k).take rs.length = rs)) (.to (tv_and (a := true) (b := decide ((ws.drop k).take rs.length = rs)) (.to eqz (by decide +kernel : decide (_ = _) = true)) fun _ => tv_test (ev_eqT (a := (ws.drop k).take rs.length) (b := rs) (ev_var rfl) (ev_listT (ds := rs.map PyData.str) g1 rfl) rfl rfl)) (Bool.true_and _)) (fun hb F' H' S => ?_) (fun hb F' H' S => ?_)
      · have hb' := of_decide_eq_true hb
        unfold rowS at gs
        rw [if_pos hb'] at gs
        exact st_app S l rfl (d := .tuple [.int (k : Int), .int ((k : Int) + (rs.length : Int) - 1)]) (.toD (ev_tup (av_cons (ev_var rfl) (av_cons (ev_ii (f := fun i j => i - j) (ev_ii (f := fun i j => i + j) (ev_var rfl) (ev_var rfl)) ev_int) av_nil)) rfl (Nat.le_of_ble_eq_true rfl)) rfl) (by rw [spD_len]; omega) fun F' H' S l => ⟨F', S.wk2 (.same rfl (.same rfl (.same (congrArg Sl.ls gs.symm) (.same rfl (.no (.no .nil)))))), l⟩
      · have hb' := of_decide_eq_false hb
        unfold rowS at gs
        rw [if_neg hb'] at gs
        exact ⟨F', S.wk2 (.same rfl (.same rfl (.same (congrArg Sl.ls (by rw [show spD (gotZ (rowS rs ws) (k + 1)) = _ from gs]; exact (List.append_nil _).symm)) (.same rfl (.no (.no .nil)))))), l⟩
    | _ => rcases hk with h | h | h <;> cases h
  · exact h.elim
end
section
variable {P : Program} {w : World} {K : PySem.W.Frag} {mg : Str → Option Value} {base : Heap} {CB CAsk CWord CStart CRow CNear CBoth CEither CNot : Addr}
def plK : Qt → Bool
  | .word _ => true
  | .start _ => true
  | .row _ => true
  | _ => false
def nearPl : Qt → Bool
  | .near a b _ => plK a && plK b
  | .both a b => nearPl a && nearPl b
  | .either a b => nearPl a && nearPl b
  | .no a => nearPl a
  | _ => true
theorem plK_near : ∀ {q : Qt}, plK q = true → nearPl q = true
  | .word _, _ => rfl
  | .start _, _ => rfl
  | .row _, _ => rfl
theorem plK_len : ∀ {q : Qt} {ws : List Str}, plK q = true → rowsNe q = true → (spansQ q ws).length ≤ ws.length
  | .word _, _, _, _ => gotZ_len _ _
  | .start _, _, _, _ => gotZ_len _ _
  | .row rs, ws, _, h => by
    have := of_decide_eq_true (show decide (1 ≤ rs.length ∧ rs.length ≤ 1000) = true from h)
    have h2 := gotZ_len (rowS rs ws) (ws.length + 1 - rs.length)
    show (gotZ (rowS rs ws) (ws.length + 1 - rs.length)).length ≤ _
    omega
theorem nearL_len (far : Int) : ∀ (A B : List (Int × Int)), (nearL far A B).length ≤ A.length * B.length
  | [], B => by simp [nearL]
  | a :: A, B => by
    have h1 := nearL_len far A B
    have h2 := List.length_filterMap_le (fun b => joinS a b far) B
    have e : nearL far (a :: A) B = (B.filterMap fun b => joinS a b far) ++ nearL far A B := by unfold nearL; rw [List.flatMap_cons]
    rw [e, List.length_append, List.length_cons, Nat.succ_mul]
    omega
def R_lspans (n : Nat) (ds : List PyData) (r : Sl) : Prop := ∃ (q : Qt) (ws : List Str), ds = [q.toldD, wsD ws] ∧ q.dep ≤ n ∧ rowsNe q = true ∧ nearPl q = true ∧ shortD q.toldD = true ∧ WsOk ws ∧ r = .ls (spD (spansQ q ws))
def R_lholds (n : Nat) (ds : List PyData) (r : Sl) : Prop := ∃ (q : Qt) (ws : List Str), ds = [q.toldD, wsD ws] ∧ q.dep ≤ n ∧ rowsNe q = true ∧ nearPl q = true ∧ shortD q.toldD = true ∧ WsOk ws ∧ r = .dt (.bool (holdsQ q ws))
theorem law_join {n : Nat} {a b : Int × Int} {far : Int} (ha : InTri n a) (hb : InTri n b) : (decide ((0 : Int) ≤ max a.1 b.1 - min a.2 b.2 - 1) && decide (max a.1 b.1 - min a.2 b.2 - 1 ≤ far)) = (joinS a b far).isSome ∧ ∀ y, joinS a b far = some y → y = (min a.1 b.1, max a.2 b.2) := by
  unfold InTri at *
  unfold joinS
  by_cases c : b.1 < a.1
  · rw [if_pos c]
    by_cases c2 : b.2 < a.1 ∧ a.1 - b.2 - 1 ≤ far
    · rw [if_pos c2]
      refine ⟨?_, fun y h => ?_⟩
      · rw [Option.isSome_some, Bool.and_eq_true, decide_eq_true_eq, decide_eq_true_eq]
        omega
      · cases h
        exact Prod.ext (by dsimp only; omega) (by dsimp only; omega)
    · rw [if_neg c2]
      refine ⟨?_, fun y h => nomatch h⟩
      rw [Option.isSome_none, Bool.and_eq_false_iff, decide_eq_false_iff_not, decide_eq_false_iff_not]
      omega
  · rw [if_neg c]
    by_cases c2 : a.2 < b.1 ∧ b.1 - a.2 - 1 ≤ far
    · rw [if_pos c2]
      refine ⟨?_, fun y h => ?_⟩
      · rw [Option.isSome_some, Bool.and_eq_true, decide_eq_true_eq, decide_eq_true_eq]
        omega
      · cases h
        exact Prod.ext (by dsimp only; omega) (by dsimp only; omega)
    · rw [if_neg c2]
      refine ⟨?_, fun y h => nomatch h⟩
      rw [Option.isSome_none, Bool.and_eq_false_iff, decide_eq_false_iff_not, decide_eq_false_iff_not]
      omega
theorem sh_kid {s : Str} {ds : List PyData} {k : Nat} {x : PyData} (h : shortD (.tuple (.str s :: ds)) = true) (hk : ds[k]? = some x) : shortD x = true := shortAll_at (ds := .str s :: ds) (k := k + 1) (by rwa [shortD] at h) hk
theorem ok__law_spans {n : Nat} {f : Addr} {fd : FuncData} (F : Fun K "_law_spans" "_law_spans" s__law_spans f fd) (T : Txt K mg CB CAsk CWord CStart CRow CNear CBoth CEither CNot)
    (d__law_plain_spans : DefOk P w K mg base 1 "_law_plain_spans" ["_law_told", "_law_words"] (spF K R_lps noX) [])
    (d__law_spans : DefOk P w K mg base (n + 1) "_law_spans" ["_law_told", "_law_words"] (spF K (R_lspans n) noX) []) : FnOk P w K mg base (L2.CX P w) (n + 2) f fd ["_law_told", "_law_words"] (spF K (R_lspans (n + 1)) noX) := by
  refine F.okX sc__law_spans (spF_len (n := 2) (by rintro _ _ ⟨_, _, rfl, _⟩; rfl) (by rintro _ _ ⟨⟩)) (fun cdv A outer s H vs Q E hr h => ?_)
  obtain ⟨F0, ds, fh, hv, ⟨r, ⟨q, ws, rfl, hd, hr0, hnp, hsh, hws, rfl⟩, qq⟩ | ⟨_, h, _⟩⟩ := h
  · have S := Sts.init (N := ["_law_told", "_law_words", "_law_ones", "_law_others", "_law_found", "_law_one", "_law_other", "_law_between"]) fh hv
    have l := init_len (N := ["_law_told", "_law_words", "_law_ones", "_law_others", "_law_found", "_law_one", "_law_other", "_law_between"]) hv (Nat.le_of_ble_eq_true rfl)
    have hu : (A.deeper (envOfC "_law_spans" (defScope s__law_spans) s.heap.objs.size f cdv)).units + 64 < cLine := hr.units
    refine ⟨_, (pss_cons (ps_if (pt_cmpR (r := rInT K) (op_inT hu) (pe_ix (r := rIxT K) ix_tup (pv 0) pe_int (fun _ _ => rfl)) (pe_tup (pa_cons pe_str (pa_cons pe_str (pa_cons pe_str pa_nil)))) (by rfl)) (pss_one (ps_ret (pe_own d__law_plain_spans (hr.mono (by omega)) (by rfl) passL (pa_cons (pv 0) (pa_cons (pv 1) pa_nil))))) pss_nil)
          (pss_cons (ps_if (pt_cmpR (r := rEqP K) (op_eqP hu) (pe_ix (r := rIxT K) ix_tup (pv 0) pe_int (fun _ _ => rfl)) pe_str (nomark _)) (pss_one (ps_ret (pe_lst pa_nil))) pss_nil)
          (pss_cons (ps_par (i := 2) (j := 3) rfl sc__law_spans.nd rfl rfl (by decide) rfl rfl (pa_cons (pe_own d__law_spans (hr.mono (by omega)) (by rfl) passL (pa_cons (pe_ix (r := rIxT K) ix_tup (pv 0) pe_int (fun _ _ => rfl)) (pa_cons (pv 1) pa_nil))) (pa_cons (pe_own d__law_spans (hr.mono (by omega)) (by rfl) passL (pa_cons (pe_ix (r := rIxT K) ix_tup (pv 0) pe_int (fun _ _ => rfl)) (pa_cons (pv 1) pa_nil))) pa_nil)) rfl)
          (pss_cons (ps_if (pt_cmpR (r := rNeP K) (op_neP hu) (pe_ix (r := rIxT K) ix_tup (pv 0) pe_int (fun _ _ => rfl)) pe_str (nomark _)) (pss_one (ps_ret (pe_callB (id := "sorted") (r := rSortedG K P w) (cr_sortedG rfl hu) (by rfl) T.sorted (by decide +kernel) (pa_cons (pe_callTy (T := "set") (r := rSetG K P w) (cr_setG rfl hu) (by rfl) T.set (by decide +kernel) (pa_cons (pe_op (r := rCatL K) op_catL (pv 2) (pv 3)) pa_nil)) pa_nil)))) pss_nil)
          (pss_cons (ps_set (i := 4) sc__law_spans.nd rfl (Or.inl rfl) (pe_lst pa_nil))
          (pss_cons (ps_for PassesOwn.leaving rfl (pi_list (pv 2)) (pg_name (i := 5) sc__law_spans.nd rfl (Or.inl rfl)) (pss_one (ps_for PassesOwn.leaving rfl (pi_list (pv 3)) (pg_name (i := 6) sc__law_spans.nd rfl (Or.inl rfl)) (pss_cons (ps_set (i := 7) sc__law_spans.nd rfl (Or.inl rfl) (pe_op op_sub (pe_op op_sub (pe_callB (id := "max") (r := rMax) (call_maxR rfl) (by rfl) T.max (by decide +kernel) (pa_cons (pe_ix (r := rIxT K) ix_tup (pv 5) pe_int (fun _ _ => rfl)) (pa_cons (pe_ix (r := rIxT K) ix_tup (pv 6) pe_int (fun _ _ => rfl)) pa_nil))) (pe_callB (id := "min") (r := rMin) (call_minR rfl) (by rfl) T.min (by decide +kernel) (pa_cons (pe_ix (r := rIxT K) ix_tup (pv 5) pe_int (fun _ _ => rfl)) (pa_cons (pe_ix (r := rIxT K) ix_tup (pv 6) pe_int (fun _ _ => rfl)) pa_nil)))) pe_int))
          (pss_one (ps_if (pt_chain op_le op_le pe_int (pv 7) (pe_ix (r := rIxT K) ix_tup (pv 0) pe_int (fun _ _ => rfl))) (pss_one (ps_expr (pe_bm PySem.F.plainAttrs_list PySem.F.slot_list_append PySem.F.type_list_append mt_append (pv 4) (pa_cons (pe_tup (pa_cons (pe_callB (id := "min") (r := rMin) (call_minR rfl) (by rfl) T.min (by decide +kernel) (pa_cons (pe_ix (r := rIxT K) ix_tup (pv 5) pe_int (fun _ _ => rfl)) (pa_cons (pe_ix (r := rIxT K) ix_tup (pv 6) pe_int (fun _ _ => rfl)) pa_nil))) (pa_cons (pe_callB (id := "max") (r := rMax) (call_maxR rfl) (by rfl) T.max (by decide +kernel) (pa_cons (pe_ix (r := rIxT K) ix_tup (pv 5) pe_int (fun _ _ => rfl)) (pa_cons (pe_ix (r := rIxT K) ix_tup (pv 6) pe_int (fun _ _ => rfl)) pa_nil))) pa_nil))) pa_nil)))) pss_nil))))))
          (pss_one (ps_ret (pe_callB (id := "sorted") (r := rSortedG K P w) (cr_sortedG rfl hu) (by rfl) T.sorted (by decide +kernel) (pa_cons (pe_callTy (T := "set") (r := rSetG K P w) (cr_setG rfl hu) (by rfl) T.set (by decide +kernel) (pa_cons (pv 4) pa_nil)) pa_nil)))))))))), ?_⟩
    have g0 : ∀ {sl : List Sl} {z : Str} {xs : List PyData}, EvR K (tOp (rIxT K) (tVar 0) (tC (.int 0))) (.dt (.tuple (.str z :: xs)) :: sl) (.dt (.str z)) := fun {sl z xs} => ev_ixT (ds := .str z :: xs) (ev_var rfl) ev_int rfl (atI_nat (j := 0) rfl)
    have g1 : ∀ {sl : List Sl} {z : Str} {x : PyData} {xs : List PyData}, EvR K (tOp (rIxT K) (tVar 0) (tC (.int 1))) (.dt (.tuple (.str z :: x :: xs)) :: sl) (.dt x) := fun {sl z x xs} => ev_ixT (ds := .str z :: x :: xs) (ev_var rfl) ev_int rfl (atI_nat (j := 1) rfl)
    have g2 : ∀ {sl : List Sl} {z : Str} {x y : PyData} {xs : List PyData}, EvR K (tOp (rIxT K) (tVar 0) (tC (.int 2))) (.dt (.tuple (.str z :: x :: y :: xs)) :: sl) (.dt y) := fun {sl z x y xs} => ev_ixT (ds := .str z :: x :: y :: xs) (ev_var rfl) ev_int rfl (atI_nat (j := 2) rfl)
    have eqz : ∀ {sl : List Sl} {z y : Str} {xs : List PyData}, TvR K (tTest (tOp (rEqP K) (tOp (rIxT K) (tVar 0) (tC (.int 0))) (tC (.str y)))) (.dt (.tuple (.str z :: xs)) :: sl) (decide (z = y)) := fun {sl z y xs} => tv_test (ev_eqT (a := z) (b := y) g0 ev_str rfl rfl)
    have h3 : ∀ {sl : List Sl} {z : Str} {xs : List PyData} {b : Bool}, ([PyData.str "word", .str "start", .str "row"].any fun y => PyData.eqv y (.str z)) = b → TvR K (tTest (tOp (rInT K) (tOp (rIxT K) (tVar 0) (tC (.int 0))) (tTup (tCons (tC (.str "word")) (tCons (tC (.str "start")) (tCons (tC (.str "row")) tNil)))))) (.dt (.tuple (.str z :: xs)) :: sl) b := fun {sl z xs b} e => .to (tv_test (ev_inT (d := .str z) (ds := [.str "word", .str "start", .str "row"]) g0 (ev_tup (av_cons ev_str (av_cons ev_str (av_cons ev_str av_nil))) rfl (Nat.le_of_ble_eq_true rfl)) rfl rfl rfl rfl (Nat.zero_le _))) e
    cases q with
    | word x =>
      refine q_when S l (b := true) (h3 (by decide +kernel)) (fun _ F' H' S => ?_) (fun h => by cases h)
      exact st_ret S l (ev_call0 (R := R_lps) (X := noX) (r := .ls (spD (spansQ (.word x) ws))) (av_cons (ev_var rfl) (av_cons (ev_var rfl) av_nil)) rfl ⟨.word x, ws, rfl, .inl rfl, hr0, hsh, hws, rfl⟩) rfl qq
    | start x =>
      refine q_when S l (b := true) (h3 (by decide +kernel)) (fun _ F' H' S => ?_) (fun h => by cases h)
      exact st_ret S l (ev_call0 (R := R_lps) (X := noX) (r := .ls (spD (spansQ (.start x) ws))) (av_cons (ev_var rfl) (av_cons (ev_var rfl) av_nil)) rfl ⟨.start x, ws, rfl, .inr (.inl rfl), hr0, hsh, hws, rfl⟩) rfl qq
    | row rs =>
      refine q_when S l (b := true) (h3 (by decide +kernel)) (fun _ F' H' S => ?_) (fun h => by cases h)
      exact st_ret S l (ev_call0 (R := R_lps) (X := noX) (r := .ls (spD (spansQ (.row rs) ws))) (av_cons (ev_var rfl) (av_cons (ev_var rfl) av_nil)) rfl ⟨.row rs, ws, rfl, .inr (.inr rfl), hr0, hsh, hws, rfl⟩) rfl qq
    | no a =>
      refine q_when S l (b := false) (h3 (by decide +kernel)) (fun h => by cases h) (fun _ F' H' S => ?_)
      refine q_when S l (b := true) (.to eqz (by decide +kernel)) (fun _ F' H' S => ?_) (fun h => by cases h)
      exact st_ret S l (ev_lst (ds := []) av_nil rfl (Nat.le_of_ble_eq_true rfl)) rfl qq
    | both a b =>
      refine q_when S l (b := false) (h3 (by decide +kernel)) (fun h => by cases h) (fun _ F' H' S => ?_)
      refine q_when S l (b := false) (.to eqz (by decide +kernel)) (fun h => by cases h) (fun _ F' H' S => ?_)
      have ha : a.dep ≤ n := by simp only [Qt.dep] at hd; omega
      have hb : b.dep ≤ n := by simp only [Qt.dep] at hd; omega
      have hr1 : rowsNe a = true ∧ rowsNe b = true := by simpa only [rowsNe, Bool.and_eq_true] using hr0
      have hn1 : nearPl a = true ∧ nearPl b = true := by simpa only [nearPl, Bool.and_eq_true] using hnp
      have hs1 : shortD a.toldD = true := sh_kid (k := 0) hsh rfl
      have hs2 : shortD b.toldD = true := sh_kid (k := 1) hsh rfl
      have lA := spansQ_len hr1.1 hws.1
      have lB := spansQ_len hr1.2 hws.1
      refine q_par S l (d1 := .list (spD (spansQ a ws))) (d2 := .list (spD (spansQ b ws))) (.frz (ev_call0 (R := R_lspans n) (X := noX) (r := .ls (spD (spansQ a ws))) (av_cons g1 (av_cons (ev_var rfl) av_nil)) rfl ⟨a, ws, rfl, ha, hr1.1, hn1.1, hs1, hws, rfl⟩)) (.frz (ev_call0 (R := R_lspans n) (X := noX) (r := .ls (spD (spansQ b ws))) (av_cons g2 (av_cons (ev_var rfl) av_nil)) rfl ⟨b, ws, rfl, hb, hr1.2, hn1.2, hs2, hws, rfl⟩)) rfl (Nat.le_of_ble_eq_true rfl) (Nat.le_of_ble_eq_true rfl) fun σ' F' H' S l => ?_
      have S : Sts K (fun _ => False) F0 H F' H' (σ' ++ []) ([.dt (Qt.toldD (.both a b)), .dt (wsD ws), .dt (.list (spD (spansQ a ws))), .dt (.list (spD (spansQ b ws))), .no, .no, .no, .no] ++ []) := S
      have l : σ'.length = [Sl.dt (Qt.toldD (.both a b)), .dt (wsD ws), .dt (.list (spD (spansQ a ws))), .dt (.list (spD (spansQ b ws))), .no, .no, .no, .no].length := l
      refine q_when S l (b := true) (.to (tv_test (ev_neP (da := .str "both") (db := .str "near") g0 ev_str rfl rfl rfl rfl (Nat.zero_le _))) (by decide +kernel)) (fun _ F' H' S => ?_) (fun h => by cases h)
      exact st_ret S l (ev_sortedSet (ps := spansQ a ws ++ spansQ b ws) (zs := srt (spansQ a ws ++ spansQ b ws)) (ev_catL (ds := spD (spansQ a ws)) (es := spD (spansQ b ws)) (ev_var rfl) (ev_var rfl) rfl rfl (by rw [spD_len, spD_len]; omega)) (by show some (PyData.list (spD (spansQ a ws) ++ spD (spansQ b ws))) = _; unfold spD; rw [List.map_append]) (by have := spansQ_len (q := .both a b) hr0 hws.1; show (spansQ (.both a b) ws).length < _; omega) (srt_pw _) fun z => mem_srt) rfl qq
    | either a b =>
      refine q_when S l (b := false) (h3 (by decide +kernel)) (fun h => by cases h) (fun _ F' H' S => ?_)
      refine q_when S l (b := false) (.to eqz (by decide +kernel)) (fun h => by cases h) (fun _ F' H' S => ?_)
      have ha : a.dep ≤ n := by simp only [Qt.dep] at hd; omega
      have hb : b.dep ≤ n := by simp only [Qt.dep] at hd; omega
      have hr1 : rowsNe a = true ∧ rowsNe b = true := by simpa only [rowsNe, Bool.and_eq_true] using hr0
      have hn1 : nearPl a = true ∧ nearPl b = true := by simpa only [nearPl, Bool.and_eq_true] using hnp
      have hs1 : shortD a.toldD = true := sh_kid (k := 0) hsh rfl
      have hs2 : shortD b.toldD = true := sh_kid (k := 1) hsh rfl
      have lA := spansQ_len hr1.1 hws.1
      have lB := spansQ_len hr1.2 hws.1
      refine q_par S l (d1 := .list (spD (spansQ a ws))) (d2 := .list (spD (spansQ b ws))) (.frz (ev_call0 (R := R_lspans n) (X := noX) (r := .ls (spD (spansQ a ws))) (av_cons g1 (av_cons (ev_var rfl) av_nil)) rfl ⟨a, ws, rfl, ha, hr1.1, hn1.1, hs1, hws, rfl⟩)) (.frz (ev_call0 (R := R_lspans n) (X := noX) (r := .ls (spD (spansQ b ws))) (av_cons g2 (av_cons (ev_var rfl) av_nil)) rfl ⟨b, ws, rfl, hb, hr1.2, hn1.2, hs2, hws, rfl⟩)) rfl (Nat.le_of_ble_eq_true rfl) (Nat.le_of_ble_eq_true rfl) fun σ' F' H' S l => ?_
      have S : Sts K (fun _ => False) F0 H F' H' (σ' ++ []) ([.dt (Qt.toldD (.either a b)), .dt (wsD ws), .dt (.list (spD (spansQ a ws))), .dt (.list (spD (spansQ b ws))), .no, .no, .no, .no] ++ []) := S
      have l : σ'.length = [Sl.dt (Qt.toldD (.either a b)), .dt (wsD ws), .dt (.list (spD (spansQ a ws))), .dt (.list (spD (spansQ b ws))), .no, .no, .no, .no].length := l
      refine q_when S l (b := true) (.to (tv_test (ev_neP (da := .str "either") (db := .str "near") g0 ev_str rfl rfl rfl rfl (Nat.zero_le _))) (by decide +kernel)) (fun _ F' H' S => ?_) (fun h => by cases h)
      exact st_ret S l (ev_sortedSet (ps := spansQ a ws ++ spansQ b ws) (zs := srt (spansQ a ws ++ spansQ b ws)) (ev_catL (ds := spD (spansQ a ws)) (es := spD (spansQ b ws)) (ev_var rfl) (ev_var rfl) rfl rfl (by rw [spD_len, spD_len]; omega)) (by show some (PyData.list (spD (spansQ a ws) ++ spD (spansQ b ws))) = _; unfold spD; rw [List.map_append]) (by have := spansQ_len (q := .either a b) hr0 hws.1; show (spansQ (.either a b) ws).length < _; omega) (srt_pw _) fun z => mem_srt) rfl qq
    | near a b z =>
      refine q_when S l (b := false) (h3 (by decide +kernel)) (fun h => by cases h) (fun _ F' H' S => ?_)
      refine q_when S l (b := false) (.to eqz (by decide +kernel)) (fun h => by cases h) (fun _ F' H' S => ?_)
      have ha : a.dep ≤ n := by simp only [Qt.dep] at hd; omega
      have hb : b.dep ≤ n := by simp only [Qt.dep] at hd; omega
      have hr1 : rowsNe a = true ∧ rowsNe b = true := by simpa only [rowsNe, Bool.and_eq_true] using hr0
      have hp1 : plK a = true ∧ plK b = true := by simpa only [nearPl, Bool.and_eq_true] using hnp
      have hn1 : nearPl a = true ∧ nearPl b = true := ⟨plK_near hp1.1, plK_near hp1.2⟩
      have hs1 : shortD a.toldD = true := sh_kid (k := 0) hsh rfl
      have hs2 : shortD b.toldD = true := sh_kid (k := 1) hsh rfl
      have lA := spansQ_len hr1.1 hws.1
      have lB := spansQ_len hr1.2 hws.1
      refine q_par S l (d1 := .list (spD (spansQ a ws))) (d2 := .list (spD (spansQ b ws))) (.frz (ev_call0 (R := R_lspans n) (X := noX) (r := .ls (spD (spansQ a ws))) (av_cons g1 (av_cons (ev_var rfl) av_nil)) rfl ⟨a, ws, rfl, ha, hr1.1, hn1.1, hs1, hws, rfl⟩)) (.frz (ev_call0 (R := R_lspans n) (X := noX) (r := .ls (spD (spansQ b ws))) (av_cons g2 (av_cons (ev_var rfl) av_nil)) rfl ⟨b, ws, rfl, hb, hr1.2, hn1.2, hs2, hws, rfl⟩)) rfl (Nat.le_of_ble_eq_true rfl) (Nat.le_of_ble_eq_true rfl) fun σ' F' H' S l => ?_
      have S : Sts K (fun _ => False) F0 H F' H' (σ' ++ []) ([.dt (Qt.toldD (.near a b z)), .dt (wsD ws), .dt (.list (spD (spansQ a ws))), .dt (.list (spD (spansQ b ws))), .no, .no, .no, .no] ++ []) := S
      have l : σ'.length = [Sl.dt (Qt.toldD (.near a b z)), .dt (wsD ws), .dt (.list (spD (spansQ a ws))), .dt (.list (spD (spansQ b ws))), .no, .no, .no, .no].length := l
      refine q_when S l (b := false) (.to (tv_test (ev_neP (da := .str "near") (db := .str "near") g0 ev_str rfl rfl rfl rfl (Nat.zero_le _))) (by decide +kernel)) (fun h => by cases h) (fun _ F' H' S => ?_)
      obtain ⟨SA, hSA⟩ : ∃ SA, SA = spansQ a ws := ⟨_, rfl⟩
      obtain ⟨SB, hSB⟩ : ∃ SB, SB = spansQ b ws := ⟨_, rfl⟩
      have qq : RetR K F0 H (.ls (spD (srt (nearL z (spansQ a ws) (spansQ b ws))))) Q := qq
      have tA : ∀ x ∈ SA, InTri ws.length x := hSA ▸ spansQ_tri a ws hr1.1
      have tB : ∀ x ∈ SB, InTri ws.length x := hSB ▸ spansQ_tri b ws hr1.2
      have hfew : (srt (nearL z SA SB)).length ≤ 2080 := by
        have := spansQ_len (q := .near a b z) hr0 hws.1
        rw [hSA, hSB]
        exact this
      have pA : SA.length ≤ 64 := by rw [hSA]; exact Nat.le_trans (plK_len hp1.1 hr1.1) hws.1
      have pB : SB.length ≤ 64 := by rw [hSB]; exact Nat.le_trans (plK_len hp1.2 hr1.2) hws.1
      rw [← hSA, ← hSB] at S l qq
      have g3 : ∀ {sl : List Sl}, EvR K (tOp (rIxT K) (tVar 0) (tC (.int 3))) (.dt (Qt.toldD (.near a b z)) :: sl) (.dt (.int z)) := fun {sl} => ev_ixT (ds := [.str "near", a.toldD, b.toldD, .int z]) (ev_var rfl) ev_int rfl (atI_nat (j := 3) rfl)
      have blen : ∀ k, (nearL z (SA.take k) SB).length ≤ 4096 := fun k => by
        have h1 := nearL_len z (SA.take k) SB
        have h2 : (SA.take k).length ≤ 64 := by rw [List.length_take]; omega
        exact Nat.le_trans h1 (Nat.mul_le_mul h2 pB)
      refine q_asg S l (r := .ls []) (ev_lst av_nil rfl (Nat.le_of_ble_eq_true rfl)) rfl rfl (Nat.le_of_ble_eq_true rfl) fun σ' F' H' S l => ?_ -- found
      refine q_forL S l (ds := spD SA) (ev_var rfl) (fun k => [.dt (Qt.toldD (.near a b z)), .dt (wsD ws), .dt (.list (spD SA)), .dt (.list (spD SB)), .ls (spD (nearL z (SA.take k) SB)), .no, .no, .no]) (Wk.refl _) (fun k d p hkd x σ' F' H' hx S l => ?_) (fun σ' F' H' S l => ?_)
      · obtain ⟨o, ho, rfl⟩ := sp_at hkd
        refine g_name S l (Nat.le_of_ble_eq_true rfl) hx rfl fun σ' F' H' S l => ?_
        refine st_forL S l (ds := spD SB) (ev_var rfl) (fun j => [.dt (Qt.toldD (.near a b z)), .dt (wsD ws), .dt (.list (spD SA)), .dt (.list (spD SB)), .ls (spD (nearL z (SA.take k) SB ++ (SB.take j).filterMap fun b => joinS o b z)), .dt (iiD o), .no, .no]) (.same rfl (.same rfl (.same rfl (.same rfl (.same (by simp) (.same rfl (.no (.no .nil)))))))) (fun j d p hjd x σ' F' H' hx S l => ?_) (fun σ' F' H' S l => ?_)
        · obtain ⟨t, ht, rfl⟩ := sp_at hjd
          obtain ⟨lj1, lj2⟩ := law_join (far := z) (tA o (List.mem_of_getElem? ho)) (tB t (List.mem_of_getElem? ht))
          refine g_name S l (Nat.le_of_ble_eq_true rfl) hx rfl fun σ' F' H' S l => ?_
          refine q_asg S l (r := .dt (.int (max o.1 t.1 - min o.2 t.2 - 1))) (ev_ii (f := fun i j => i - j) (ev_ii (f := fun i j => i - j) (ev_max (ev_i0 (ev_var rfl)) (ev_i0 (ev_var rfl))) (ev_min (ev_i1 (ev_var rfl)) (ev_i1 (ev_var rfl)))) ev_int) rfl rfl (Nat.le_of_ble_eq_true rfl) fun σ' F' H' S l => ?_ -- between
          have es := fm_succ (far := z) (o := o) ht
          refine st_when S l (b := (joinS o t z).isSome) (.to (tv_test (ev_chain (f := fun i j => decide (i ≤ j)) (g := fun i j => decide (i ≤ j)) ev_int (ev_var rfl) fun _ => g3)) lj1) (fun hb F' H' S => ?_) (fun hb F' H' S => ?_)
          · cases e : joinS o t z with
            | none => rw [e] at hb; cases hb
            | some y =>
              have ey := lj2 y e
              rw [e, Option.toList_some] at es
              have hlen : (spD (nearL z (SA.take k) SB ++ (SB.take j).filterMap fun b => joinS o b z)).length < 1000000 := by
                have h1 := blen k
                have h2 := List.length_filterMap_le (fun b => joinS o b z) (SB.take j)
                have h3 : (SB.take j).length ≤ SB.length := by rw [List.length_take]; omega
                rw [spD_len, List.length_append]
                omega
              refine st_app S l rfl (d := iiD y) (.toD (ev_tup (av_cons (ev_min (ev_i0 (ev_var rfl)) (ev_i0 (ev_var rfl))) (av_cons (ev_max (ev_i1 (ev_var rfl)) (ev_i1 (ev_var rfl))) av_nil)) rfl (Nat.le_of_ble_eq_true rfl)) (by rw [ey])) hlen fun F' H' S l => ?_
              exact ⟨F', S.wk2 (.same rfl (.same rfl (.same rfl (.same rfl (.same (congrArg Sl.ls (by rw [es, ← List.append_assoc]; exact (List.map_append (f := iiD) (l₂ := [y])).symm)) (.same rfl (.no (.no .nil)))))))), l⟩
          · cases e : joinS o t z with
            | some y => rw [e] at hb; cases hb
            | none =>
              rw [e, Option.toList_none, List.append_nil] at es
              exact ⟨F', S.wk2 (.same rfl (.same rfl (.same rfl (.same rfl (.same (congrArg Sl.ls (by rw [es])) (.same rfl (.no (.no .nil)))))))), l⟩
        · have e : nearL z (SA.take k) SB ++ ((SB.take (spD SB).length).filterMap fun b => joinS o b z) = nearL z (SA.take (k + 1)) SB := by rw [spD_len, List.take_length, near_succ ho]
          exact ⟨F', S.wk2 (.same rfl (.same rfl (.same rfl (.same rfl (.same (congrArg Sl.ls (by rw [e])) (.no (.no (.no .nil)))))))), l⟩
      · have S : Sts K (fun _ => False) F0 H F' H' (σ' ++ []) ([.dt (Qt.toldD (.near a b z)), .dt (wsD ws), .dt (.list (spD SA)), .dt (.list (spD SB)), .ls (spD (nearL z SA SB)), .no, .no, .no] ++ []) := by
          have e : SA.take (spD SA).length = SA := by rw [spD_len, List.take_length]
          have S := S
          rw [e] at S
          exact S
        have l : σ'.length = 8 := l
        exact st_ret S l (ev_sortedSet (ps := nearL z SA SB) (zs := srt (nearL z SA SB)) (ev_varA rfl) rfl (by omega) (srt_pw _) fun y => mem_srt) rfl qq
  · exact h.elim
theorem ok__law_holds {n : Nat} {f : Addr} {fd : FuncData} (F : Fun K "_law_holds" "_law_holds" s__law_holds f fd) (T : Txt K mg CB CAsk CWord CStart CRow CNear CBoth CEither CNot)
    (d__law_spans : DefOk P w K mg base (n + 2) "_law_spans" ["_law_told", "_law_words"] (spF K (R_lspans (n + 1)) noX) [])
    (d__law_holds : DefOk P w K mg base (n + 2) "_law_holds" ["_law_told", "_law_words"] (spF K (R_lholds n) noX) []) : FnOk P w K mg base (L2.CX P w) (n + 3) f fd ["_law_told", "_law_words"] (spF K (R_lholds (n + 1)) noX) := by
  refine F.okX sc__law_holds (spF_len (n := 2) (by rintro _ _ ⟨_, _, rfl, _⟩; rfl) (by rintro _ _ ⟨⟩)) (fun cdv A outer s H vs Q E hr h => ?_)
  obtain ⟨F0, ds, fh, hv, ⟨r, ⟨q, ws, rfl, hd, hr0, hnp, hsh, hws, rfl⟩, qq⟩ | ⟨_, h, _⟩⟩ := h
  · have S := Sts.init (N := ["_law_told", "_law_words"]) fh hv
    have l := init_len (N := ["_law_told", "_law_words"]) hv (Nat.le_of_ble_eq_true rfl)
    have hu : (A.deeper (envOfC "_law_holds" (defScope s__law_holds) s.heap.objs.size f cdv)).units + 64 < cLine := hr.units
    refine ⟨_, (pss_cons (ps_if (pt_cmpR (r := rEqP K) (op_eqP hu) (pe_ix (r := rIxT K) ix_tup (pv 0) pe_int (fun _ _ => rfl)) pe_str (nomark _)) (pss_one (ps_ret (pe_not (pe_own d__law_holds (hr.mono (by omega)) (by rfl) passL (pa_cons (pe_ix (r := rIxT K) ix_tup (pv 0) pe_int (fun _ _ => rfl)) (pa_cons (pv 1) pa_nil)))))) pss_nil)
          (pss_cons (ps_if (pt_cmpR (r := rEqP K) (op_eqP hu) (pe_ix (r := rIxT K) ix_tup (pv 0) pe_int (fun _ _ => rfl)) pe_str (nomark _)) (pss_one (ps_ret (pe_and (pe_own d__law_holds (hr.mono (by omega)) (by rfl) passL (pa_cons (pe_ix (r := rIxT K) ix_tup (pv 0) pe_int (fun _ _ => rfl)) (pa_cons (pv 1) pa_nil))) (pe_one (pe_own d__law_holds (hr.mono (by omega)) (by rfl) passL (pa_cons (pe_ix (r := rIxT K) ix_tup (pv 0) pe_int (fun _ _ => rfl)) (pa_cons (pv 1) pa_nil))))))) pss_nil)
          (pss_cons (ps_if (pt_cmpR (r := rEqP K) (op_eqP hu) (pe_ix (r := rIxT K) ix_tup (pv 0) pe_int (fun _ _ => rfl)) pe_str (nomark _)) (pss_one (ps_ret (pe_or (pe_own d__law_holds (hr.mono (by omega)) (by rfl) passL (pa_cons (pe_ix (r := rIxT K) ix_tup (pv 0) pe_int (fun _ _ => rfl)) (pa_cons (pv 1) pa_nil))) (pe_one (pe_own d__law_holds (hr.mono (by omega)) (by rfl) passL (pa_cons (pe_ix (r := rIxT K) ix_tup (pv 0) pe_int (fun _ _ => rfl)) (pa_cons (pv 1) pa_nil))))))) pss_nil)
          (pss_one (ps_ret (pe_cmpR (r := rNeP K) (op_neP hu) (pe_own d__law_spans (hr.mono (by omega)) (by rfl) passL (pa_cons (pv 0) (pa_cons (pv 1) pa_nil))) (pe_lst pa_nil) (nomark _))))))), ?_⟩
    have g0 : ∀ {sl : List Sl} {z : Str} {xs : List PyData}, EvR K (tOp (rIxT K) (tVar 0) (tC (.int 0))) (.dt (.tuple (.str z :: xs)) :: sl) (.dt (.str z)) := fun {sl z xs} => ev_ixT (ds := .str z :: xs) (ev_var rfl) ev_int rfl (atI_nat (j := 0) rfl)
    have g1 : ∀ {sl : List Sl} {z : Str} {x : PyData} {xs : List PyData}, EvR K (tOp (rIxT K) (tVar 0) (tC (.int 1))) (.dt (.tuple (.str z :: x :: xs)) :: sl) (.dt x) := fun {sl z x xs} => ev_ixT (ds := .str z :: x :: xs) (ev_var rfl) ev_int rfl (atI_nat (j := 1) rfl)
    have g2 : ∀ {sl : List Sl} {z : Str} {x y : PyData} {xs : List PyData}, EvR K (tOp (rIxT K) (tVar 0) (tC (.int 2))) (.dt (.tuple (.str z :: x :: y :: xs)) :: sl) (.dt y) := fun {sl z x y xs} => ev_ixT (ds := .str z :: x :: y :: xs) (ev_var rfl) ev_int rfl (atI_nat (j := 2) rfl)
    have eqz : ∀ {sl : List Sl} {z y : Str} {xs : List PyData}, TvR K (tTest (tOp (rEqP K) (tOp (rIxT K) (tVar 0) (tC (.int 0))) (tC (.str y)))) (.dt (.tuple (.str z :: xs)) :: sl) (decide (z = y)) := fun {sl z y xs} => tv_test (ev_eqT (a := z) (b := y) g0 ev_str rfl rfl)
    cases q with
    | word x =>
      refine q_when S l (b := false) (.to eqz (by decide +kernel)) (fun h => by cases h) (fun _ F' H' S => ?_)
      refine q_when S l (b := false) (.to eqz (by decide +kernel)) (fun h => by cases h) (fun _ F' H' S => ?_)
      refine q_when S l (b := false) (.to eqz (by decide +kernel)) (fun h => by cases h) (fun _ F' H' S => ?_)
      exact st_ret S l (.toD (ev_neP (da := .list (spD (spansQ (.word x) ws))) (db := .list []) (ev_call0 (R := R_lspans (n + 1)) (X := noX) (r := .ls (spD (spansQ (.word x) ws))) (av_cons (ev_var rfl) (av_cons (ev_var rfl) av_nil)) rfl ⟨.word x, ws, rfl, hd, hr0, hnp, hsh, hws, rfl⟩) (ev_lst (ds := []) av_nil rfl (Nat.le_of_ble_eq_true rfl)) rfl rfl (spD_plain _) rfl (spD_deep _)) (by rw [spD_nil]; rfl)) rfl qq
    | start x =>
      refine q_when S l (b := false) (.to eqz (by decide +kernel)) (fun h => by cases h) (fun _ F' H' S => ?_)
      refine q_when S l (b := false) (.to eqz (by decide +kernel)) (fun h => by cases h) (fun _ F' H' S => ?_)
      refine q_when S l (b := false) (.to eqz (by decide +kernel)) (fun h => by cases h) (fun _ F' H' S => ?_)
      exact st_ret S l (.toD (ev_neP (da := .list (spD (spansQ (.start x) ws))) (db := .list []) (ev_call0 (R := R_lspans (n + 1)) (X := noX) (r := .ls (spD (spansQ (.start x) ws))) (av_cons (ev_var rfl) (av_cons (ev_var rfl) av_nil)) rfl ⟨.start x, ws, rfl, hd, hr0, hnp, hsh, hws, rfl⟩) (ev_lst (ds := []) av_nil rfl (Nat.le_of_ble_eq_true rfl)) rfl rfl (spD_plain _) rfl (spD_deep _)) (by rw [spD_nil]; rfl)) rfl qq
    | row rs =>
      refine q_when S l (b := false) (.to eqz (by decide +kernel)) (fun h => by cases h) (fun _ F' H' S => ?_)
      refine q_when S l (b := false) (.to eqz (by decide +kernel)) (fun h => by cases h) (fun _ F' H' S => ?_)
      refine q_when S l (b := false) (.to eqz (by decide +kernel)) (fun h => by cases h) (fun _ F' H' S => ?_)
      exact st_ret S l (.toD (ev_neP (da := .list (spD (spansQ (.row rs) ws))) (db := .list []) (ev_call0 (R := R_lspans (n + 1)) (X := noX) (r := .ls (spD (spansQ (.row rs) ws))) (av_cons (ev_var rfl) (av_cons (ev_var rfl) av_nil)) rfl ⟨.row rs, ws, rfl, hd, hr0, hnp, hsh, hws, rfl⟩) (ev_lst (ds := []) av_nil rfl (Nat.le_of_ble_eq_true rfl)) rfl rfl (spD_plain _) rfl (spD_deep _)) (by rw [spD_nil]; rfl)) rfl qq
    | near a b z =>
      refine q_when S l (b := false) (.to eqz (by decide +kernel)) (fun h => by cases h) (fun _ F' H' S => ?_)
      refine q_when S l (b := false) (.to eqz (by decide +kernel)) (fun h => by cases h) (fun _ F' H' S => ?_)
      refine q_when S l (b := false) (.to eqz (by decide +kernel)) (fun h => by cases h) (fun _ F' H' S => ?_)
      exact st_ret S l (.toD (ev_neP (da := .list (spD (spansQ (.near a b z) ws))) (db := .list []) (ev_call0 (R := R_lspans (n + 1)) (X := noX) (r := .ls (spD (spansQ (.near a b z) ws))) (av_cons (ev_var rfl) (av_cons (ev_var rfl) av_nil)) rfl ⟨.near a b z, ws, rfl, hd, hr0, hnp, hsh, hws, rfl⟩) (ev_lst (ds := []) av_nil rfl (Nat.le_of_ble_eq_true rfl)) rfl rfl (spD_plain _) rfl (spD_deep _)) (by rw [spD_nil]; rfl)) rfl qq
    | no a =>
      have ha : a.dep ≤ n := by simp only [Qt.dep] at hd; omega
      refine q_when S l (b := true) (.to eqz (by decide +kernel)) (fun _ F' H' S => ?_) (fun h => by cases h)
      exact st_ret S l (ev_not (ev_call0 (R := R_lholds n) (X := noX) (r := .dt (.bool (holdsQ a ws))) (av_cons g1 (av_cons (ev_var rfl) av_nil)) rfl ⟨a, ws, rfl, ha, hr0, hnp, sh_kid (k := 0) hsh rfl, hws, rfl⟩)) rfl qq
    | both a b =>
      have ha : a.dep ≤ n := by simp only [Qt.dep] at hd; omega
      have hb : b.dep ≤ n := by simp only [Qt.dep] at hd; omega
      have hr1 : rowsNe a = true ∧ rowsNe b = true := by simpa only [rowsNe, Bool.and_eq_true] using hr0
      have hn1 : nearPl a = true ∧ nearPl b = true := by simpa only [nearPl, Bool.and_eq_true] using hnp
      refine q_when S l (b := false) (.to eqz (by decide +kernel)) (fun h => by cases h) (fun _ F' H' S => ?_)
      refine q_when S l (b := true) (.to eqz (by decide +kernel)) (fun _ F' H' S => ?_) (fun h => by cases h)
      exact st_ret S l (ev_and (ev_call0 (R := R_lholds n) (X := noX) (r := .dt (.bool (holdsQ a ws))) (av_cons g1 (av_cons (ev_var rfl) av_nil)) rfl ⟨a, ws, rfl, ha, hr1.1, hn1.1, sh_kid (k := 0) hsh rfl, hws, rfl⟩) fun _ => (ev_call0 (R := R_lholds n) (X := noX) (r := .dt (.bool (holdsQ b ws))) (av_cons g2 (av_cons (ev_var rfl) av_nil)) rfl ⟨b, ws, rfl, hb, hr1.2, hn1.2, sh_kid (k := 1) hsh rfl, hws, rfl⟩)) rfl qq
    | either a b =>
      have ha : a.dep ≤ n := by simp only [Qt.dep] at hd; omega
      have hb : b.dep ≤ n := by simp only [Qt.dep] at hd; omega
      have hr1 : rowsNe a = true ∧ rowsNe b = true := by simpa only [rowsNe, Bool.and_eq_true] using hr0
      have hn1 : nearPl a = true ∧ nearPl b = true := by simpa only [nearPl, Bool.and_eq_true] using hnp
      refine q_when S l (b := false) (.to eqz (by decide +kernel)) (fun h => by cases h) (fun _ F' H' S => ?_)
      refine q_when S l (b := false) (.to eqz (by decide +kernel)) (fun h => by cases h) (fun _ F' H' S => ?_)
      refine q_when S l (b := true) (.to eqz (by decide +kernel)) (fun _ F' H' S => ?_) (fun h => by cases h)
      exact st_ret S l (ev_or (ev_call0 (R := R_lholds n) (X := noX) (r := .dt (.bool (holdsQ a ws))) (av_cons g1 (av_cons (ev_var rfl) av_nil)) rfl ⟨a, ws, rfl, ha, hr1.1, hn1.1, sh_kid (k := 0) hsh rfl, hws, rfl⟩) fun _ => (ev_call0 (R := R_lholds n) (X := noX) (r := .dt (.bool (holdsQ b ws))) (av_cons g2 (av_cons (ev_var rfl) av_nil)) rfl ⟨b, ws, rfl, hb, hr1.2, hn1.2, sh_kid (k := 1) hsh rfl, hws, rfl⟩)) rfl qq
  · exact h.elim
end
section
variable {P : Program} {w : World} {K : PySem.W.Frag} {mg : Str → Option Value} {base : Heap} {CB CAsk CWord CStart CRow CNear CBoth CEither CNot : Addr}
def dwS (z : Int) (M : List (List Nat)) : List (List Nat) := M.take (1 + (z / 81 % 5).toNat)
def dwT (z : Int) : Int := 1 + z / 3 % 2
def dwL (z : Int) (M : List (List Nat)) : List (List Nat) :=
  if z % 9 = 1 then (List.range (z / 9 % 61).toNat).map fun k : Nat => pickL (M.take 2) (mixed z (k : Int))
  else (List.range (z / 9 % 19).toNat).map fun k : Nat => pickL (dwS z M) (mixed z ((k : Int) / dwT z))
theorem dwL_len (z : Int) (M : List (List Nat)) : (dwL z M).length ≤ 60 := by
  unfold dwL
  split
  · rw [List.length_map, List.length_range]
    omega
  · rw [List.length_map, List.length_range]
    omega
theorem dwS_len (z : Int) {M : List (List Nat)} (h : M.length = 5) : 1 ≤ (dwS z M).length ∧ (dwS z M).length ≤ 5 := by
  unfold dwS
  rw [List.length_take]
  omega
theorem dwL_mem (z : Int) {M : List (List Nat)} (h : M.length = 5) : ∀ x ∈ dwL z M, x ∈ M := fun x hx => by
  unfold dwL at hx
  split at hx
  · obtain ⟨k, _, rfl⟩ := List.mem_map.mp hx
    exact List.mem_of_mem_take (pickL_mem (by rw [List.length_take]; omega))
  · obtain ⟨k, _, rfl⟩ := List.mem_map.mp hx
    exact List.mem_of_mem_take (pickL_mem (L := dwS z M) (by have := dwS_len z h; omega))
theorem at2 {M : List (List Nat)} {m : Int} (h : M.length = 5) : atI (mD M) (m % 2) = some (.str (tx (pickL (M.take 2) m))) := by
  have e : (((m % 2).toNat : Nat) : Int) = m % 2 := by omega
  have hl : (m % 2).toNat < M.length := by omega
  have e2 : pickL (M.take 2) m = M[(m % 2).toNat]'hl := by
    unfold pickL
    have e3 : ((M.take 2).length : Int) = 2 := by rw [List.length_take, h]; rfl
    rw [e3]
    have : (m % 2).toNat < 2 := by omega
    rw [List.getD_eq_getElem?_getD, List.getElem?_take_of_lt this, List.getElem?_eq_getElem hl]
    rfl
  have h2 : (mD M)[(m % 2).toNat]? = some (.str (tx (pickL (M.take 2) m))) := by
    unfold mD
    rw [List.getElem?_map, List.getElem?_eq_getElem hl, e2]
    rfl
  have h3 := atI_nat h2
  rwa [e] at h3
def R_ldw (ds : List PyData) (r : Sl) : Prop := ∃ (ns : List Int) (M : List (List Nat)), ds = [.list (iD ns), .list (mD M)] ∧ MenuOk M ∧ r = .ls (mD (dwL (number ns 41) M))
theorem ok__law_drawn_words {f : Addr} {fd : FuncData} (F : Fun K "_law_drawn_words" "_law_drawn_words" s__law_drawn_words f fd) (T : Txt K mg CB CAsk CWord CStart CRow CNear CBoth CEither CNot)
    (d__law_number : DefOk P w K mg base 2 "_law_number" ["_law_script", "_law_k"] (spF K R_number noX) [])
    (d__law_mixed : DefOk P w K mg base 1 "_law_mixed" ["_law_number_here", "_law_k"] (spF K R_mixed noX) []) : FnOk P w K mg base (L2.CX P w) 3 f fd ["_law_script", "_law_menu_here"] (spF K R_ldw noX) := by
  refine F.okX sc__law_drawn_words (spF_len (n := 2) (by rintro _ _ ⟨_, _, rfl, _⟩; rfl) (by rintro _ _ ⟨⟩)) (fun cdv A outer s H vs Q E hr h => ?_)
  obtain ⟨F0, ds, fh, hv, ⟨r, ⟨ns, M, rfl, hM, rfl⟩, qq⟩ | ⟨_, h, _⟩⟩ := h
  · have S := Sts.init (N := ["_law_script", "_law_menu_here", "_law_number_here", "_law_some", "_law_turns", "_law_k"]) fh hv
    have l := init_len (N := ["_law_script", "_law_menu_here", "_law_number_here", "_law_some", "_law_turns", "_law_k"]) hv (Nat.le_of_ble_eq_true rfl)
    have hu : (A.deeper (envOfC "_law_drawn_words" (defScope s__law_drawn_words) s.heap.objs.size f cdv)).units + 64 < cLine := hr.units
    refine ⟨_, (pss_cons (ps_set (i := 2) sc__law_drawn_words.nd rfl (Or.inr rfl) (pe_own d__law_number (hr.mono (by decide)) (by rfl) passL (pa_cons (pv 0) (pa_cons pe_int pa_nil))))
          (pss_cons (ps_if (pt_cmpR (r := rEqP K) (op_eqP hu) (pe_op op_mod (pv 2) pe_int) pe_int (nomark _)) (pss_one (ps_ret (pe_lc (own := [("_law_k", 5)]) (g := (gName 5)) (tt := tYes) rfl sc__law_drawn_words.nd (pi_range1 (by rfl) T.range (pa_cons (pe_op op_mod (pe_op op_divY (pv 2) pe_int) pe_int) pa_nil)) (blkOk_by (own := [("_law_k", 5)]) (N := ["_law_script", "_law_menu_here", "_law_number_here", "_law_some", "_law_turns", "_law_k"]) (sc := defScope s__law_drawn_words) (by decide +kernel)) (fun _ _ _ _ _ => pg_name (i := 5) sc__law_drawn_words.nd rfl (Or.inl rfl)) (fun _ _ _ _ _ => pts_nil) (fun _ _ _ _ _ => (pe_ix (r := rIxL K) ix_list (pv 1) (pe_op op_mod (pe_own d__law_mixed (hr.mono (by decide)) (by rfl) passL (pa_cons (pv 2) (pa_cons (pv 5) pa_nil))) pe_int) (fun _ _ => rfl)))))) pss_nil)
          (pss_cons (ps_set (i := 3) sc__law_drawn_words.nd rfl (Or.inr rfl) (pe_slice (r := rSlL K) sl_list (pv 1) po_none (po_some (pe_op op_add pe_int (pe_op op_mod (pe_op op_divY (pv 2) pe_int) pe_int)))))
          (pss_cons (ps_set (i := 4) sc__law_drawn_words.nd rfl (Or.inr rfl) (pe_op op_add pe_int (pe_op op_mod (pe_op op_divY (pv 2) pe_int) pe_int)))
          (pss_one (ps_ret (pe_lc (own := [("_law_k", 5)]) (g := (gName 5)) (tt := tYes) rfl sc__law_drawn_words.nd (pi_range1 (by rfl) T.range (pa_cons (pe_op op_mod (pe_op op_divY (pv 2) pe_int) pe_int) pa_nil)) (blkOk_by (own := [("_law_k", 5)]) (N := ["_law_script", "_law_menu_here", "_law_number_here", "_law_some", "_law_turns", "_law_k"]) (sc := defScope s__law_drawn_words) (by decide +kernel)) (fun _ _ _ _ _ => pg_name (i := 5) sc__law_drawn_words.nd rfl (Or.inl rfl)) (fun _ _ _ _ _ => pts_nil) (fun _ _ _ _ _ => (pe_ix (r := rIxL K) ix_list (pv 3) (pe_op op_mod (pe_own d__law_mixed (hr.mono (by decide)) (by rfl) passL (pa_cons (pv 2) (pa_cons (pe_op op_divY (pv 5) (pv 4)) pa_nil))) (pe_callB (id := "len") (r := rLenR K) call_lenR (by rfl) T.len (by decide +kernel) (pa_cons (pv 3) pa_nil))) (fun _ _ => rfl)))))))))), ?_⟩
    obtain ⟨z, ez⟩ : ∃ z, number ns 41 = z := ⟨_, rfl⟩
    have hz := number_lt ns 41
    rw [ez] at hz qq
    refine q_asg S l (r := .dt (.int z)) (ev_call0 (av_cons (ev_var rfl) (av_cons ev_int av_nil)) rfl ⟨ns, 41, rfl, by decide, by decide, by rw [ez]⟩) rfl rfl (Nat.le_of_ble_eq_true rfl) fun σ' F' H' S l => ?_
    unfold dwL at qq
    refine q_when S l (b := decide (z % 9 = 1)) (tv_test (ev_eqT (α := Int) (a := z % 9) (b := 1) (ev_iC (ev_var rfl) ev_int (by decide)) ev_int rfl rfl)) (fun hb F' H' S => ?_) (fun hb F' H' S => ?_)
    · rw [if_pos (of_decide_eq_true hb)] at qq
      refine st_ret S l (.to (ev_lcR1 (fun k => some (.str (tx (pickL (M.take 2) (mixed z (k : Int)))))) (n := z / 9 % 61) (m := (z / 9 % 61).toNat) (av_cons (ev_iC (ev_iC (ev_var rfl) ev_int (CDivY.s (by decide) (by decide))) ev_int (by decide)) av_nil) rfl rfl (Nat.le_of_ble_eq_true rfl) (by omega) fun k hk => ⟨_, gt_name (Nat.le_of_ble_eq_true rfl), tv_yes, fun _ => ?_⟩) (congrArg Sl.ls (mD_got (fun k : Nat => pickL (M.take 2) (mixed z (k : Int))) _))) rfl qq
      have hk2 : (k : Int) < 61 := by omega
      exact ev_ixL (ds := mD M) (ev_var rfl) (ev_iC (ev_call0 (r := .dt (.int (mixed z (k : Int)))) (av_cons (ev_var rfl) (av_cons (ev_var rfl) av_nil)) rfl ⟨z, k, rfl, by omega, by omega, rfl⟩) ev_int (by decide)) rfl (at2 hM.1)
    · rw [if_neg (of_decide_eq_false hb)] at qq
      have hs := dwS_len z hM.1
      refine q_asg S l (r := .dt (.list (mD (dwS z M)))) (.frz (.to (ev_slL (ds := mD M) (ev_var rfl) rfl ov_none (ov_some (.toD (b := .int ((1 + (z / 81 % 5).toNat : Nat) : Int)) (ev_ii (f := fun i j => i + j) ev_int (ev_iC (ev_iC (ev_var rfl) ev_int (CDivY.s (by decide) (by decide))) ev_int (by decide))) (congrArg PyData.int (by omega))))) (congrArg Sl.ls (by rw [cutD_take2]; unfold mD dwS; rw [List.map_take])))) rfl rfl (Nat.le_of_ble_eq_true rfl) fun σ' F' H' S l => ?_ -- some
      refine q_asg S l (r := .dt (.int (dwT z))) (ev_ii (f := fun i j => i + j) ev_int (ev_iC (ev_iC (ev_var rfl) ev_int (CDivY.s (by decide) (by decide))) ev_int (by decide))) rfl rfl (Nat.le_of_ble_eq_true rfl) fun σ' F' H' S l => ?_ -- turns
      have ht : 1 ≤ dwT z ∧ dwT z ≤ 2 := by unfold dwT; omega
      refine st_ret S l (.to (ev_lcR1 (fun k => some (.str (tx (pickL (dwS z M) (mixed z ((k : Int) / dwT z)))))) (n := z / 9 % 19) (m := (z / 9 % 19).toNat) (av_cons (ev_iC (ev_iC (ev_var rfl) ev_int (CDivY.s (by decide) (by decide))) ev_int (by decide)) av_nil) rfl rfl (Nat.le_of_ble_eq_true rfl) (by omega) fun k hk => ⟨_, gt_name (Nat.le_of_ble_eq_true rfl), tv_yes, fun _ => ?_⟩) (congrArg Sl.ls (mD_got (fun k : Nat => pickL (dwS z M) (mixed z ((k : Int) / dwT z))) _))) rfl qq
      have hq : 0 ≤ (k : Int) / dwT z ∧ (k : Int) / dwT z ≤ 1000 := by
        refine ⟨Int.ediv_nonneg (by omega) (by omega), ?_⟩
        have := Int.ediv_le_self (a := (k : Int)) (dwT z) (by omega)
        omega
      exact ev_ixL (ds := mD (dwS z M)) (ev_var rfl) (ev_iC (ev_call0 (r := .dt (.int (mixed z ((k : Int) / dwT z)))) (av_cons (ev_var rfl) (av_cons (ev_iC (ev_var rfl) (ev_var rfl) (CDivY.s (by omega) (by omega))) av_nil)) rfl ⟨z, _, rfl, hq.1, hq.2, rfl⟩) (ev_len (n := (dwS z M).length) (ev_var rfl) rfl (by show some (mD (dwS z M)).length = _; rw [mD_len])) (by omega)) rfl (atI_mD (by omega))
  · exact h.elim
end
section
variable {P : Program} {w : World} {K : PySem.W.Frag} {mg : Str → Option Value} {base : Heap} {CB CAsk CWord CStart CRow CNear CBoth CEither CNot : Addr}
theorem Fy.lsAt {p : Addr} {ds : List PyData} : Fy K (.mu (lsAt K p ds)) (.dt (.list ds)) := .z (.mu (fun F v L F' h e hl => by
  obtain ⟨rfl, vs, rfl, da⟩ := h
  exact .lst (SqL.of (hl p _ List.mem_cons_self)) (dpAll_ex e _ _ da)) fun F v L h p o hz => by
  obtain ⟨rfl, vs, rfl, da⟩ := h
  cases List.mem_singleton.mp hz
  rfl)
def GoodL (q : Qt) : Prop := q.dep ≤ 8 ∧ rowsNe q = true ∧ nearPl q = true ∧ shortD q.toldD = true
def twD (q : Qt) (ws : List Str) : PyData := .tuple [.list (spD (spansQ q ws) ++ [iiD (0, 0)]), .list (spD (spansQ q ws) ++ [iiD (0, 0)])]
theorem spD_noL (zs : List (Int × Int)) : noLAll (spD zs) = true := by
  induction zs with
  | nil => rfl
  | cons z zs ih =>
    show noLAll (iiD z :: spD zs) = true
    unfold noLAll
    rw [ih]
    rfl
theorem sp_eqv (zs : List (Int × Int)) : PyData.eqv (.list (spD zs)) (.list (spD zs)) = true := PySem.SeqAt.eqv_refl_plain _ (spD_plain zs)
theorem fixP2 {p h : Addr} {ds hd : List PyData} : FixA [lsAt K p ds, lsAt K h hd] [.ref p, .ref h] := .cons (fun _ _ _ e => e.1) (.cons (fun _ _ _ e => e.1) .nil)
def R_lsr (K : PySem.W.Frag) (A : Kd → Addr) : RA := fun as os os' r => ∃ (q : Qt) (ws : List Str) (p h : Addr) (hd : List PyData), as = [askS K A q, .dt q.toldD, rfA p, rfA h] ∧ os = [lsAt K p (ws.map PyData.str), lsAt K h hd] ∧ GoodL q ∧ WsOk ws ∧ hd.length < 900000 ∧ os' = [lsAt K p (ws.map PyData.str), lsAt K h (hd ++ [twD q ws])] ∧ r = .dt (.bool true)
def R_lr (K : PySem.W.Frag) (A : Kd → Addr) : RA := fun as os os' r => ∃ (q : Qt) (ws : List Str) (p h : Addr) (m : Int) (hd : List PyData), as = [askS K A q, .dt q.toldD, rfA p, .dt (.int m), rfA h] ∧ os = [lsAt K p (ws.map PyData.str), lsAt K h hd] ∧ GoodL q ∧ WsOk ws ∧ hd.length < 900000 ∧ os' = [lsAt K p (ws.map PyData.str), lsAt K h (hd ++ [twD q ws])] ∧ r = .dt (.bool true)
theorem ok__law_spans_right {f : Addr} {fd : FuncData} (F : Fun K "_law_spans_right" "_law_spans_right" s__law_spans_right f fd) (T : Txt K mg CB CAsk CWord CStart CRow CNear CBoth CEither CNot) (ck : ∀ k, Cls K ((qa CWord CStart CRow CNear CBoth CEither CNot) k))
    (dk_spans : ∀ k, DefM P w K mg base 9 ((qa CWord CStart CRow CNear CBoth CEither CNot) k) "spans" ["self", "words"] (spG K (R_spans K (qa CWord CStart CRow CNear CBoth CEither CNot) 8 k) noXG) [])
    (d__law_spans : DefOk P w K mg base 9 "_law_spans" ["_law_told", "_law_words"] (spF K (R_lspans 8) noX) []) : FnOk P w K mg base (L2.CX P w) 10 f fd ["_law_ask", "_law_told", "_law_words", "_law_held"] (spA K (R_lsr K (qa CWord CStart CRow CNear CBoth CEither CNot)) noXA) := by
  refine F.okX sc__law_spans_right (spA_len (n := 4) (by rintro _ _ _ _ ⟨_, _, _, _, _, rfl, _⟩; rfl) (by rintro _ _ _ _ ⟨⟩)) (fun cdv A outer s H vs Q E hr h => ?_)
  have hu : (A.deeper (envOfC "_law_spans_right" (defScope s__law_spans_right) s.heap.objs.size f cdv)).units + 64 < cLine := hr.units
  obtain ⟨F0, as, os, ww, Z, aw, S0, hZ, ⟨os', r, ⟨q, ws, p, h, hd, rfl, rfl, ⟨hdp, hrn, hnp, hsh⟩, hws, hhl, rfl, rfl⟩, kk⟩ | ⟨_, _, h, _⟩⟩ := h
  · have hw := sts_fixed S0 (fixP2 (p := p) (h := h))
    subst hw
    obtain ⟨S, l⟩ := sts_initA (N := ["_law_ask", "_law_told", "_law_words", "_law_held", "_law_found", "_law_span", "_law_place"]) aw S0 (Nat.le_of_ble_eq_true rfl)
    obtain ⟨S, l⟩ := sts_into (w := .ref p) 2 0 S l rfl (fun F v e => e) rfl (fun F v L e => e.1) rfl
    obtain ⟨S, l⟩ := sts_into (w := .ref h) 3 1 S l rfl (fun F v e => e) rfl (fun F v L e => e.1) rfl
    refine ⟨_, (pss_cons (ps_set (i := 4) sc__law_spans_right.nd rfl (Or.inl rfl) (pe_any fun k => pe_methO (dk_spans k) (pv 0) (ck k) (hr.mono (by decide)) passL (pa_cons (pv 2) pa_nil)))
          (pss_cons (ps_if (PW.pt (pw_or (pt_not (pt_val (pe_callB (id := "isinstance") (r := rIsi K) call_isi (by rfl) T.isinstance (by decide +kernel) (pa_cons (pv 4) (pa_cons (pe_bltn (v := .ty "list") (by rfl) T.list (by decide +kernel) rfl) pa_nil))))) (pw_or1 (pt_cmpR (r := rNeP K) (op_neP hu) (pv 4) (pe_own d__law_spans (hr.mono (by decide)) (by rfl) passL (pa_cons (pv 1) (pa_cons (pv 2) pa_nil))) (nomark _))))) (pss_one (ps_ret pe_bl)) pss_nil)
          (pss_cons (ps_for PassesOwn.leaving rfl (pi_list (pv 4)) (pg_name (i := 5) sc__law_spans_right.nd rfl (Or.inl rfl)) (pss_cons (ps_if (PW.pt (pw_or (pt_not (pt_val (pe_callB (id := "isinstance") (r := rIsi K) call_isi (by rfl) T.isinstance (by decide +kernel) (pa_cons (pv 5) (pa_cons (pe_bltn (v := .ty "tuple") (by rfl) T.tuple (by decide +kernel) rfl) pa_nil))))) (pw_or1 (pt_cmpR (r := rNeP K) (op_neP hu) (pe_callB (id := "len") (r := rLenR K) call_lenR (by rfl) T.len (by decide +kernel) (pa_cons (pv 5) pa_nil)) pe_int (nomark _))))) (pss_one (ps_ret pe_bl)) pss_nil)
          (pss_one (ps_if (pt_cmpR (r := rNeP K) (op_neP hu) (pe_lc (own := [("_law_place", 6)]) (g := (gName 6)) rfl sc__law_spans_right.nd (pi_tup (pv 5)) (blkOk_by (own := [("_law_place", 6)]) (N := ["_law_ask", "_law_told", "_law_words", "_law_held", "_law_found", "_law_span", "_law_place"]) (sc := defScope s__law_spans_right) (by decide +kernel)) (fun _ _ _ _ _ => pg_name (i := 6) sc__law_spans_right.nd rfl (Or.inl rfl)) (fun _ _ _ _ _ => pts_one (PW.pt (pw_or (pt_val (pe_callB (id := "isinstance") (r := rIsi K) call_isi (by rfl) T.isinstance (by decide +kernel) (pa_cons (pv 6) (pa_cons (pe_bltn (v := .ty "bool") (by rfl) T.bool (by decide +kernel) rfl) pa_nil)))) (pw_or1 (pt_not (pt_val (pe_callB (id := "isinstance") (r := rIsi K) call_isi (by rfl) T.isinstance (by decide +kernel) (pa_cons (pv 6) (pa_cons (pe_bltn (v := .ty "int") (by rfl) T.int (by decide +kernel) rfl) pa_nil))))))))) (fun _ _ _ _ _ => (pv 6))) (pe_lst pa_nil) (nomark _)) (pss_one (ps_ret pe_bl)) pss_nil))))
          (pss_cons (ps_expr (pe_bm PySem.F.plainAttrs_list PySem.F.slot_list_append PySem.F.type_list_append mt_append (pv 4) (pa_cons (pe_tup (pa_cons pe_int (pa_cons pe_int pa_nil))) pa_nil)))
          (pss_cons (ps_expr (pe_bm PySem.F.plainAttrs_list PySem.F.slot_list_append PySem.F.type_list_append mt_append (pv 3) (pa_cons (pe_tup (pa_cons (pv 4) (pa_cons (pe_callTy (T := "list") (r := rListR K) call_listR (by rfl) T.list (by decide +kernel) (pa_cons (pv 4) pa_nil)) pa_nil))) pa_nil)))
          (pss_one (ps_ret (pe_cmpR (r := rEqP K) (op_eqP hu) (pe_any fun k => pe_methO (dk_spans k) (pv 0) (ck k) (hr.mono (by decide)) passL (pa_cons (pv 2) pa_nil)) (pe_own d__law_spans (hr.mono (by decide)) (by rfl) passL (pa_cons (pv 1) (pa_cons (pv 2) pa_nil))) (nomark _))))))))), ?_⟩
    have lS := spansQ_len hrn hws.1
    refine q_asgZ S l (i := 4) (ss' := [askS K (qa CWord CStart CRow CNear CBoth CEither CNot) q, .dt q.toldD, .mu (lsAt K p (ws.map PyData.str)), .mu (lsAt K h (hd)), .no, .no, .no]) (gt' := [.no, .no]) (r := .ls (spD (spansQ q ws))) (evZ_still [askS K (qa CWord CStart CRow CNear CBoth CEither CNot) q, .dt q.toldD, .dt (wsD ws), .no, .no, .no, .no] (ev_spans (n := 8) (q := q) (ws := ws) (ev_varX rfl) (ev_var rfl) hdp hrn hws.1) rfl rfl (.cons (.y (.z .fx)) (.cons (.y (.z .dt)) (.cons (.y Fy.lsAt) (.cons (.y (.z .no)) (.cons (.y (.z .no)) (.cons (.y (.z .no)) (.cons (.y (.z .no)) .nil))))))) (spD_noL _)) rfl rfl rfl rfl (Nat.le_of_ble_eq_true rfl) fun σ' F' H' S l => ?_ -- found
    refine q_whenZ S l (b := false) (ss' := [askS K (qa CWord CStart CRow CNear CBoth CEither CNot) q, .dt q.toldD, .mu (lsAt K p (ws.map PyData.str)), .mu (lsAt K h (hd)), .ls (spD (spansQ q ws)), .no, .no]) (gt' := [.no, .no]) (tvZ_still [askS K (qa CWord CStart CRow CNear CBoth CEither CNot) q, .dt q.toldD, .dt (wsD ws), .no, .dt (.list (spD (spansQ q ws))), .no, .no] (tv_or (a := false) (b := false) (tv_not (a := true) (tv_B (ev_isi (d := .list (spD (spansQ q ws))) (ev_var rfl) rfl rfl))) fun _ => .to (tv_test (ev_neP (da := .list (spD (spansQ q ws))) (db := .list (spD (spansQ q ws))) (ev_var rfl) (ev_call0 (R := R_lspans 8) (X := noX) (r := .ls (spD (spansQ q ws))) (av_cons (ev_var rfl) (av_cons (ev_var rfl) av_nil)) rfl ⟨q, ws, rfl, hdp, hrn, hnp, hsh, hws, rfl⟩) rfl rfl (spD_plain _) (spD_plain _) (spD_deep _))) (by rw [sp_eqv]; rfl)) rfl rfl (.cons (.y (.z .fx)) (.cons (.y (.z .dt)) (.cons (.y Fy.lsAt) (.cons (.y (.z .no)) (.cons (.y (.z .ls)) (.cons (.y (.z .no)) (.cons (.y (.z .no)) .nil)))))))) rfl (fun h => by cases h) (fun _ F' H' S l => ?_)
    refine q_forA (i := 4) (fun _ h => h) S l rfl (fun k => [askS K (qa CWord CStart CRow CNear CBoth CEither CNot) q, .dt q.toldD, .mu (lsAt K p (ws.map PyData.str)), .mu (lsAt K h (hd)), .ls (spD (spansQ q ws)), .no, .no]) (Wk.refl _) (fun _ => rfl) (fun p' k d hkd x σ' F' H' hx S l => ?_) (fun σ' F' H' S l => ?_)
    · obtain ⟨z, hz, rfl⟩ := sp_at hkd
      refine g_name S l (Nat.le_of_ble_eq_true rfl) hx rfl fun σ' F' H' S l => ?_
      refine q_when S l (b := false) (tv_or (a := false) (b := false) (tv_not (a := true) (tv_B (ev_isi (d := iiD z) (ev_var rfl) rfl rfl))) fun _ => .to (tv_test (ev_neP (da := .int 2) (db := .int 2) (ev_len (d := iiD z) (n := 2) (ev_var rfl) rfl rfl) ev_int rfl rfl rfl rfl (Nat.zero_le _))) rfl) (fun h => by cases h) (fun _ F' H' S => ?_)
      refine st_when S l (b := false) (.to (tv_test (ev_neP (da := .list []) (db := .list []) (.frz (.to (ev_lcT (fun _ => none) (ds := [.int z.1, .int z.2]) (ev_var rfl) rfl (by intro i hi; rw [List.mem_singleton.mp hi]; exact (Nat.le_of_ble_eq_true rfl)) (Nat.le_of_ble_eq_true rfl) fun k d hkd => ⟨_, gt_name (Nat.le_of_ble_eq_true rfl), ?_, fun h => by cases h⟩) rfl)) (ev_lst (ds := []) av_nil rfl (Nat.le_of_ble_eq_true rfl)) rfl rfl rfl rfl (Nat.le_of_ble_eq_true rfl))) rfl) (fun h => by cases h) (fun _ F' H' S => ?_)
      · obtain ⟨i, rfl⟩ : ∃ i, d = .int i := by
          match k, hkd with
          | 0, hkd => exact ⟨_, (Option.some.inj hkd).symm⟩
          | 1, hkd => exact ⟨_, (Option.some.inj hkd).symm⟩
          | k + 2, hkd => cases hkd
        exact tv_or (a := false) (b := false) (tv_B (ev_isi (d := .int i) (ev_var rfl) rfl rfl)) fun _ => tv_not (a := true) (tv_B (ev_isi (d := .int i) (ev_var rfl) rfl rfl))
      · exact ⟨F', S.wk2 (.same rfl (.same rfl (.same rfl (.same rfl (.same rfl (.no (.no .nil))))))), l⟩
    · refine q_app S l (i := 4) rfl (d := iiD (0, 0)) (ev_tup (av_cons ev_int (av_cons ev_int av_nil)) rfl (Nat.le_of_ble_eq_true rfl)) (by rw [spD_len]; omega) fun F' H' S l => ?_
      obtain ⟨F', S, l⟩ := S.freezeQ 4 l rfl
      refine q_appA S l (fun _ h => h) (i := 3) rfl (d := twD q ws) (ev_tup (av_cons (ev_var rfl) (av_cons (.frz (ev_list (ds := spD (spansQ q ws) ++ [iiD (0, 0)]) (ev_var rfl) rfl)) av_nil)) rfl (Nat.le_of_ble_eq_true rfl)) (by omega) fun F' H' S l => ?_
      refine st_retV [2, 3] S l (ss' := [askS K (qa CWord CStart CRow CNear CBoth CEither CNot) q, .dt q.toldD, .mu (lsAt K p (ws.map PyData.str)), .mu (lsAt K h (hd ++ [twD q ws])), .dt (.list (spD (spansQ q ws) ++ [iiD (0, 0)])), .no, .no]) (gt' := [.no, .no]) (evZ_still [askS K (qa CWord CStart CRow CNear CBoth CEither CNot) q, .dt q.toldD, .dt (wsD ws), .no, .no, .no, .no] (.toD (ev_eqP (da := .list (spD (spansQ q ws))) (db := .list (spD (spansQ q ws))) (ev_spans (n := 8) (q := q) (ws := ws) (ev_varX rfl) (ev_var rfl) hdp hrn hws.1) (ev_call0 (R := R_lspans 8) (X := noX) (r := .ls (spD (spansQ q ws))) (av_cons (ev_var rfl) (av_cons (ev_var rfl) av_nil)) rfl ⟨q, ws, rfl, hdp, hrn, hnp, hsh, hws, rfl⟩) rfl rfl (spD_plain _) (spD_plain _) (spD_deep _)) (by rw [sp_eqv])) rfl rfl (.cons (.y (.z .fx)) (.cons (.y (.z .dt)) (.cons (.y Fy.lsAt) (.cons (.y (.z .no)) (.cons (.y (.z .no)) (.cons (.y (.z .no)) (.cons (.y (.z .no)) .nil))))))) rfl) rfl rfl rfl (.cons rfl (.cons rfl .nil)) (by decide) fixP2 kk
  · exact h.elim
end
section
variable {P : Program} {w : World} {K : PySem.W.Frag} {mg : Str → Option Value} {base : Heap} {CB CAsk CWord CStart CRow CNear CBoth CEither CNot : Addr}
section
variable {W W1 W2 : List Sl} {n : Nat} {ta tb : TE} {b : Bool}
theorem evZ_orF (l1 : W1.length = W.length) (ha : EvZ K ta n W W1 (.dt (.bool false))) (hb : EvZ K tb n W1 W2 (.dt (.bool b))) : EvZ K (tOrV ta tb) n W W2 (.dt (.bool b)) := fun F0 H0 F H σ gs xs ts l lg S nat Q k => by
  refine ha F0 H0 F H σ gs xs ts l lg S nat _ fun v F1 H1 S1 => ?_
  have L := S.len
  rw [List.length_append, List.length_append (as := W)] at L
  have m1 : (σ ++ gs ++ xs).length = (W1 ++ ts).length := by rw [List.length_append, List.length_append (as := W1)]; omega
  have S2 : Sts K (fun _ => False) F0 H0 F1 H1 ((σ ++ gs ++ xs) ++ ([] ++ [some v])) ((W1 ++ ts) ++ ([] ++ [.dt (.bool false)])) := by
    rw [List.nil_append, List.nil_append, List.append_assoc (σ ++ gs), List.append_assoc W1]
    exact S1
  have hv := (S2.lastV (by rw [List.append_nil, List.append_nil]; exact m1) (d := .bool false) rfl).bl
  refine ⟨false, hv, ?_⟩
  have S3 : Sts K (fun _ => False) F0 H0 F1 H1 ((σ ++ gs) ++ xs) (W1 ++ ts) := by
    have := S2.backA (vs := [v]) (rs := [.dt (.bool false)]) (xs := []) (ts := []) (by rw [List.append_nil, List.append_nil]; exact m1)
    simpa using this
  exact hb F0 H0 F1 H1 σ gs xs ts l (by rw [lg, l1]) S3 nat _ k

end
theorem ok__law_right {f : Addr} {fd : FuncData} (F : Fun K "_law_right" "_law_right" s__law_right f fd) (T : Txt K mg CB CAsk CWord CStart CRow CNear CBoth CEither CNot) (ck : ∀ k, Cls K ((qa CWord CStart CRow CNear CBoth CEither CNot) k))
    (dk_holds : ∀ k, DefM P w K mg base 10 ((qa CWord CStart CRow CNear CBoth CEither CNot) k) "holds" ["self", "words"] (spG K (R_holds K (qa CWord CStart CRow CNear CBoth CEither CNot) 8 k) noXG) [])
    (d__law_holds : DefOk P w K mg base 10 "_law_holds" ["_law_told", "_law_words"] (spF K (R_lholds 8) noX) [])
    (d__law_spans_right : DefOk P w K mg base 10 "_law_spans_right" ["_law_ask", "_law_told", "_law_words", "_law_held"] (spA K (R_lsr K (qa CWord CStart CRow CNear CBoth CEither CNot)) noXA) []) : FnOk P w K mg base (L2.CX P w) 11 f fd ["_law_ask", "_law_told", "_law_words", "_law_number_here", "_law_held"] (spA K (R_lr K (qa CWord CStart CRow CNear CBoth CEither CNot)) noXA) := by
  refine F.okX sc__law_right (spA_len (n := 5) (by rintro _ _ _ _ ⟨_, _, _, _, _, _, rfl, _⟩; rfl) (by rintro _ _ _ _ ⟨⟩)) (fun cdv A outer s H vs Q E hr h => ?_)
  have hu : (A.deeper (envOfC "_law_right" (defScope s__law_right) s.heap.objs.size f cdv)).units + 64 < cLine := hr.units
  obtain ⟨F0, as, os, ww, Z, aw, S0, hZ, ⟨os', r, ⟨q, ws, p, h, m, hd, rfl, rfl, hG, hws, hhl, rfl, rfl⟩, kk⟩ | ⟨_, _, h, _⟩⟩ := h
  · have hw := sts_fixed S0 (fixP2 (p := p) (h := h))
    subst hw
    obtain ⟨S, l⟩ := sts_initA (N := ["_law_ask", "_law_told", "_law_words", "_law_number_here", "_law_held", "_law_found"]) aw S0 (Nat.le_of_ble_eq_true rfl)
    obtain ⟨S, l⟩ := sts_into (w := .ref p) 2 0 S l rfl (fun F v e => e) rfl (fun F v L e => e.1) rfl
    obtain ⟨S, l⟩ := sts_into (w := .ref h) 4 1 S l rfl (fun F v e => e) rfl (fun F v L e => e.1) rfl
    refine ⟨_, (pss_cons (ps_if (PW.pt (pw_and (pt_cmpR (r := rEqP K) (op_eqP hu) (pe_op op_mod (pv 3) pe_int) pe_int (nomark _)) (pw_and1 (pt_not (pt_val (pe_own d__law_spans_right (hr.mono (by decide)) (by rfl) passL (pa_cons (pv 0) (pa_cons (pv 1) (pa_cons (pv 2) (pa_cons (pv 4) pa_nil)))))))))) (pss_one (ps_ret pe_bl)) pss_nil)
          (pss_cons (ps_set (i := 5) sc__law_right.nd rfl (Or.inl rfl) (pe_any fun k => pe_methO (dk_holds k) (pv 0) (ck k) (hr.mono (by decide)) passL (pa_cons (pv 2) pa_nil)))
          (pss_cons (ps_if (PW.pt (pw_or (pt_not (pt_val (pe_callB (id := "isinstance") (r := rIsi K) call_isi (by rfl) T.isinstance (by decide +kernel) (pa_cons (pv 5) (pa_cons (pe_bltn (v := .ty "bool") (by rfl) T.bool (by decide +kernel) rfl) pa_nil))))) (pw_or1 (pt_cmpR (r := rNeP K) (op_neP hu) (pv 5) (pe_own d__law_holds (hr.mono (by decide)) (by rfl) passL (pa_cons (pv 1) (pa_cons (pv 2) pa_nil))) (nomark _))))) (pss_one (ps_ret pe_bl)) pss_nil)
          (pss_one (ps_ret (pe_or (pe_cmpR (r := rEqP K) (op_eqP hu) (pe_op op_mod (pv 3) pe_int) pe_int (nomark _)) (pe_one (pe_own d__law_spans_right (hr.mono (by decide)) (by rfl) passL (pa_cons (pv 0) (pa_cons (pv 1) (pa_cons (pv 2) (pa_cons (pv 4) pa_nil)))))))))))), ?_⟩
    obtain ⟨hdp, hrn, hnp, hsh⟩ := id hG
    by_cases hm : m % 2 = 1
    · refine q_whenZ S l (b := false) (ss' := [askS K (qa CWord CStart CRow CNear CBoth CEither CNot) q, .dt q.toldD, .mu (lsAt K p (ws.map PyData.str)), .dt (.int m), .mu (lsAt K h (hd ++ [twD q ws])), .no]) (gt' := [.no, .no]) (tvZ_andT (W1 := [askS K (qa CWord CStart CRow CNear CBoth CEither CNot) q, .dt q.toldD, .mu (lsAt K p (ws.map PyData.str)), .dt (.int m), .mu (lsAt K h (hd)), .no] ++ [.no, .no]) rfl (tvZ_of (ss := [askS K (qa CWord CStart CRow CNear CBoth CEither CNot) q, .dt q.toldD, .mu (lsAt K p (ws.map PyData.str)), .dt (.int m), .mu (lsAt K h (hd)), .no]) (gt := [.no, .no]) (.to (tv_test (ev_eqT (α := Int) (a := m % 2) (b := 1) (ev_iC (ev_var rfl) ev_int (by decide)) ev_int rfl rfl)) (decide_eq_true hm)) rfl rfl) (.to (tvZ_not (tvZ_B rfl (evZ_call (R := R_lsr K (qa CWord CStart CRow CNear CBoth CEither CNot)) (X := noXA) (r := .dt (.bool true)) (os' := [lsAt K p (ws.map PyData.str), lsAt K h (hd ++ [twD q ws])]) (rs := [askS K (qa CWord CStart CRow CNear CBoth CEither CNot) q, .dt q.toldD, rfA p, rfA h]) (es := []) [2, 4] (avP_cons (ss := [askS K (qa CWord CStart CRow CNear CBoth CEither CNot) q, .dt q.toldD, .mu (lsAt K p (ws.map PyData.str)), .dt (.int m), .mu (lsAt K h (hd)), .no]) (gt := [.no, .no]) (ev_varX rfl) rfl rfl rfl (avP_cons (ss := [askS K (qa CWord CStart CRow CNear CBoth CEither CNot) q, .dt q.toldD, .mu (lsAt K p (ws.map PyData.str)), .dt (.int m), .mu (lsAt K h (hd)), .no]) (gt := [.no, .no]) (ev_var rfl) rfl rfl rfl (avP_own 2 (Nat.le_of_ble_eq_true rfl) rfl (fun _ _ _ e => e.1) (avP_own 4 (Nat.le_of_ble_eq_true rfl) rfl (fun _ _ _ e => e.1) avP_nil)))) (fun _ => .nil) (by decide) (.cons rfl (.cons rfl .nil)) rfl ⟨q, ws, p, h, hd, rfl, rfl, hG, hws, hhl, rfl, rfl⟩ rfl rfl rfl))) rfl)) rfl (fun h => by cases h) (fun _ F' H' S l => ?_)
      refine q_asgZ S l (i := 5) (ss' := [askS K (qa CWord CStart CRow CNear CBoth CEither CNot) q, .dt q.toldD, .mu (lsAt K p (ws.map PyData.str)), .dt (.int m), .mu (lsAt K h (hd ++ [twD q ws])), .no]) (gt' := [.no, .no]) (r := .dt (.bool (holdsQ q ws))) (evZ_still [askS K (qa CWord CStart CRow CNear CBoth CEither CNot) q, .dt q.toldD, .dt (wsD ws), .dt (.int m), .no, .no] (ev_holds (n := 8) (q := q) (ws := ws) (ev_varX rfl) (ev_var rfl) hdp hrn hws.1) rfl rfl (.cons (.y (.z .fx)) (.cons (.y (.z .dt)) (.cons (.y Fy.lsAt) (.cons (.y (.z .dt)) (.cons (.y (.z .no)) (.cons (.y (.z .no)) .nil)))))) rfl) rfl rfl rfl rfl (Nat.le_of_ble_eq_true rfl) fun σ' F' H' S l => ?_ -- found
      refine q_whenZ S l (b := false) (ss' := [askS K (qa CWord CStart CRow CNear CBoth CEither CNot) q, .dt q.toldD, .mu (lsAt K p (ws.map PyData.str)), .dt (.int m), .mu (lsAt K h (hd ++ [twD q ws])), .dt (.bool (holdsQ q ws))]) (gt' := [.no, .no]) (tvZ_still [askS K (qa CWord CStart CRow CNear CBoth CEither CNot) q, .dt q.toldD, .dt (wsD ws), .dt (.int m), .no, .dt (.bool (holdsQ q ws))] (tv_or (a := false) (b := false) (tv_not (a := true) (tv_B (ev_isi (d := .bool (holdsQ q ws)) (ev_var rfl) rfl rfl))) fun _ => .to (tv_test (ev_neT (α := Bool) (a := holdsQ q ws) (b := holdsQ q ws) (ev_var rfl) (ev_call0 (R := R_lholds 8) (X := noX) (r := .dt (.bool (holdsQ q ws))) (av_cons (ev_var rfl) (av_cons (ev_var rfl) av_nil)) rfl ⟨q, ws, rfl, hdp, hrn, hnp, hsh, hws, rfl⟩) rfl rfl)) (by simp)) rfl rfl (.cons (.y (.z .fx)) (.cons (.y (.z .dt)) (.cons (.y Fy.lsAt) (.cons (.y (.z .dt)) (.cons (.y (.z .no)) (.cons (.y (.z .dt)) .nil))))))) rfl (fun h => by cases h) (fun _ F' H' S l => ?_)
      exact st_retV [2, 4] S l (ss' := [askS K (qa CWord CStart CRow CNear CBoth CEither CNot) q, .dt q.toldD, .mu (lsAt K p (ws.map PyData.str)), .dt (.int m), .mu (lsAt K h (hd ++ [twD q ws])), .dt (.bool (holdsQ q ws))]) (gt' := [.no, .no]) (evZ_of (.toD (ev_or (a := true) (b := true) (.toD (ev_eqT (α := Int) (a := m % 2) (b := 1) (ev_iC (ev_var rfl) ev_int (by decide)) ev_int rfl rfl) (by rw [decide_eq_true hm])) (fun h => by cases h)) rfl) rfl rfl) rfl rfl rfl (.cons rfl (.cons rfl .nil)) (by decide) fixP2 kk
    · refine q_whenZ S l (b := false) (ss' := [askS K (qa CWord CStart CRow CNear CBoth CEither CNot) q, .dt q.toldD, .mu (lsAt K p (ws.map PyData.str)), .dt (.int m), .mu (lsAt K h (hd)), .no]) (gt' := [.no, .no]) (tvZ_of (.to (tv_and (a := false) (b := false) (.to (tv_test (ev_eqT (α := Int) (a := m % 2) (b := 1) (ev_iC (ev_var rfl) ev_int (by decide)) ev_int rfl rfl)) (decide_eq_false hm)) (fun h => by cases h)) rfl) rfl rfl) rfl (fun h => by cases h) (fun _ F' H' S l => ?_)
      refine q_asgZ S l (i := 5) (ss' := [askS K (qa CWord CStart CRow CNear CBoth CEither CNot) q, .dt q.toldD, .mu (lsAt K p (ws.map PyData.str)), .dt (.int m), .mu (lsAt K h (hd)), .no]) (gt' := [.no, .no]) (r := .dt (.bool (holdsQ q ws))) (evZ_still [askS K (qa CWord CStart CRow CNear CBoth CEither CNot) q, .dt q.toldD, .dt (wsD ws), .dt (.int m), .no, .no] (ev_holds (n := 8) (q := q) (ws := ws) (ev_varX rfl) (ev_var rfl) hdp hrn hws.1) rfl rfl (.cons (.y (.z .fx)) (.cons (.y (.z .dt)) (.cons (.y Fy.lsAt) (.cons (.y (.z .dt)) (.cons (.y (.z .no)) (.cons (.y (.z .no)) .nil)))))) rfl) rfl rfl rfl rfl (Nat.le_of_ble_eq_true rfl) fun σ' F' H' S l => ?_ -- found
      refine q_whenZ S l (b := false) (ss' := [askS K (qa CWord CStart CRow CNear CBoth CEither CNot) q, .dt q.toldD, .mu (lsAt K p (ws.map PyData.str)), .dt (.int m), .mu (lsAt K h (hd)), .dt (.bool (holdsQ q ws))]) (gt' := [.no, .no]) (tvZ_still [askS K (qa CWord CStart CRow CNear CBoth CEither CNot) q, .dt q.toldD, .dt (wsD ws), .dt (.int m), .no, .dt (.bool (holdsQ q ws))] (tv_or (a := false) (b := false) (tv_not (a := true) (tv_B (ev_isi (d := .bool (holdsQ q ws)) (ev_var rfl) rfl rfl))) fun _ => .to (tv_test (ev_neT (α := Bool) (a := holdsQ q ws) (b := holdsQ q ws) (ev_var rfl) (ev_call0 (R := R_lholds 8) (X := noX) (r := .dt (.bool (holdsQ q ws))) (av_cons (ev_var rfl) (av_cons (ev_var rfl) av_nil)) rfl ⟨q, ws, rfl, hdp, hrn, hnp, hsh, hws, rfl⟩) rfl rfl)) (by simp)) rfl rfl (.cons (.y (.z .fx)) (.cons (.y (.z .dt)) (.cons (.y Fy.lsAt) (.cons (.y (.z .dt)) (.cons (.y (.z .no)) (.cons (.y (.z .dt)) .nil))))))) rfl (fun h => by cases h) (fun _ F' H' S l => ?_)
      exact st_retV [2, 4] S l (ss' := [askS K (qa CWord CStart CRow CNear CBoth CEither CNot) q, .dt q.toldD, .mu (lsAt K p (ws.map PyData.str)), .dt (.int m), .mu (lsAt K h (hd ++ [twD q ws])), .dt (.bool (holdsQ q ws))]) (gt' := [.no, .no]) (evZ_orF (W1 := [askS K (qa CWord CStart CRow CNear CBoth CEither CNot) q, .dt q.toldD, .mu (lsAt K p (ws.map PyData.str)), .dt (.int m), .mu (lsAt K h (hd)), .dt (.bool (holdsQ q ws))] ++ [.no, .no]) rfl (evZ_of (ss := [askS K (qa CWord CStart CRow CNear CBoth CEither CNot) q, .dt q.toldD, .mu (lsAt K p (ws.map PyData.str)), .dt (.int m), .mu (lsAt K h (hd)), .dt (.bool (holdsQ q ws))]) (gt := [.no, .no]) (.toD (ev_eqT (α := Int) (a := m % 2) (b := 1) (ev_iC (ev_var rfl) ev_int (by decide)) ev_int rfl rfl) (by rw [decide_eq_false hm])) rfl rfl) (evZ_call (R := R_lsr K (qa CWord CStart CRow CNear CBoth CEither CNot)) (X := noXA) (r := .dt (.bool true)) (os' := [lsAt K p (ws.map PyData.str), lsAt K h (hd ++ [twD q ws])]) (rs := [askS K (qa CWord CStart CRow CNear CBoth CEither CNot) q, .dt q.toldD, rfA p, rfA h]) (es := []) [2, 4] (avP_cons (ss := [askS K (qa CWord CStart CRow CNear CBoth CEither CNot) q, .dt q.toldD, .mu (lsAt K p (ws.map PyData.str)), .dt (.int m), .mu (lsAt K h (hd)), .dt (.bool (holdsQ q ws))]) (gt := [.no, .no]) (ev_varX rfl) rfl rfl rfl (avP_cons (ss := [askS K (qa CWord CStart CRow CNear CBoth CEither CNot) q, .dt q.toldD, .mu (lsAt K p (ws.map PyData.str)), .dt (.int m), .mu (lsAt K h (hd)), .dt (.bool (holdsQ q ws))]) (gt := [.no, .no]) (ev_var rfl) rfl rfl rfl (avP_own 2 (Nat.le_of_ble_eq_true rfl) rfl (fun _ _ _ e => e.1) (avP_own 4 (Nat.le_of_ble_eq_true rfl) rfl (fun _ _ _ e => e.1) avP_nil)))) (fun _ => .nil) (by decide) (.cons rfl (.cons rfl .nil)) rfl ⟨q, ws, p, h, hd, rfl, rfl, hG, hws, hhl, rfl, rfl⟩ rfl rfl rfl)) rfl rfl rfl (.cons rfl (.cons rfl .nil)) (by decide) fixP2 kk
  · exact h.elim
end
section
variable {P : Program} {w : World} {K : PySem.W.Frag} {mg : Str → Option Value} {base : Heap} {CB CAsk CWord CStart CRow CNear CBoth CEither CNot : Addr}
def rowsOk : Qt → Bool
  | .row ws => decide (ws.length ≤ 1000)
  | .near a b _ => rowsOk a && rowsOk b
  | .both a b => rowsOk a && rowsOk b
  | .either a b => rowsOk a && rowsOk b
  | .no a => rowsOk a
  | _ => true
/-! ### plain: what is a question -/
theorem word_ok {cs : List Nat} (h : WordOk cs) : isWord (.str (tx cs)) = true := by
  obtain ⟨h1, h2, h3⟩ := h
  show ((decide (1 ≤ (tx cs).length) && decide ((tx cs).length ≤ 2000)) && (tx cs).cps.toList.all fun c => decide (c ∈ KS.cps.toList)) = true
  rw [tx_len, tx_cps, Bool.and_eq_true, Bool.and_eq_true, decide_eq_true_eq, decide_eq_true_eq, List.all_eq_true]
  exact ⟨⟨h1, by omega⟩, fun c hc => decide_eq_true (h3 c hc)⟩
theorem word_len {z : Str} (h : isWord (.str z) = true) : z.length ≤ 2000 := by
  have h' : ((decide (1 ≤ z.length) && decide (z.length ≤ 2000)) && z.cps.toList.all fun c => decide (c ∈ KS.cps.toList)) = true := h
  rw [Bool.and_eq_true, Bool.and_eq_true, decide_eq_true_eq, decide_eq_true_eq] at h'
  exact h'.1.2
theorem strs_back (ws : List Str) : strsOf (ws.map PyData.str) = ws := by
  unfold strsOf
  rw [List.filterMap_map]
  induction ws with
  | nil => rfl
  | cons w ws ih => simp [ih]
theorem pl_word {x : PyData} : plainF (.tuple [.str "word", x]) = match x with
    | .str z => if isWord (.str z) = true then some (.word z) else none
    | _ => none := by
  rw [plainF_2]
  unfold plainP
  rw [if_neg (by decide +kernel), if_pos (.inl rfl)]
  cases x <;> simp
theorem pl_start {x : PyData} : plainF (.tuple [.str "start", x]) = match x with
    | .str z => if isWord (.str z) = true then some (.start z) else none
    | _ => none := by
  have e : ¬ (("start" : Str) = "word") := by decide +kernel
  rw [plainF_2]
  unfold plainP
  rw [if_neg (by decide +kernel), if_pos (.inr rfl)]
  cases x <;> simp [e]
theorem pl_row {x : PyData} : plainF (.tuple [.str "row", x]) = match x with
    | .tuple ws => if 2 ≤ ws.length ∧ ws.length ≤ 8 ∧ ws.all isWord = true then some (.row (strsOf ws)) else none
    | _ => none := by
  rw [plainF_2]
  unfold plainP
  rw [if_pos rfl]
  try rfl
theorem pl_else {s : Str} {x : PyData} (h1 : s ≠ "row") (h2 : s ≠ "word") (h3 : s ≠ "start") : plainF (.tuple [.str s, x]) = none := by
  rw [plainF_2]
  unfold plainP
  rw [if_neg h1, if_neg fun h => h.elim h2 h3]
theorem mk_near {n : Nat} {x : PyData} {r : List PyData} : madeF (n + 1) (.tuple (.str "near" :: x :: r)) = match r with
    | [y, z] => if 0 < n then (match farD z, plainF x, plainF y with
      | some i, some a, some b => some (.near a b i)
      | _, _, _ => none) else none
    | _ => none := by
  rw [madeF_2]
  unfold madeP
  rw [if_pos rfl]
  try rfl
theorem mk_both {n : Nat} {x : PyData} {r : List PyData} : madeF (n + 1) (.tuple (.str "both" :: x :: r)) = match r with
    | [y] => (match madeF n x, madeF n y with
      | some a, some b => some (.both a b)
      | _, _ => none)
    | _ => none := by
  rw [madeF_2]
  unfold madeP
  rw [if_neg (by decide +kernel), if_pos (.inl rfl)]
  simp
  try rfl
theorem mk_either {n : Nat} {x : PyData} {r : List PyData} : madeF (n + 1) (.tuple (.str "either" :: x :: r)) = match r with
    | [y] => (match madeF n x, madeF n y with
      | some a, some b => some (.either a b)
      | _, _ => none)
    | _ => none := by
  have e : ¬ (("either" : Str) = "both") := by decide +kernel
  rw [madeF_2]
  unfold madeP
  rw [if_neg (by decide +kernel), if_pos (.inr rfl)]
  simp [e]
  try rfl
theorem mk_not {n : Nat} {x : PyData} {r : List PyData} : madeF (n + 1) (.tuple (.str "not" :: x :: r)) = match r with
    | [] => (madeF n x).map .no
    | _ => none := by
  rw [madeF_2]
  unfold madeP
  rw [if_neg (by decide +kernel), if_neg (by decide +kernel), if_pos rfl]
  try rfl
theorem mk_else {n : Nat} {s : Str} {x : PyData} {r : List PyData} (h1 : s ≠ "near") (h2 : s ≠ "both") (h3 : s ≠ "either") (h4 : s ≠ "not") : madeF (n + 1) (.tuple (.str s :: x :: r)) = plainF (.tuple (.str s :: x :: r)) := by
  rw [madeF_2]
  unfold madeP
  rw [if_neg h1, if_neg fun h => h.elim h2 h3, if_neg h4]
def goodQ : Nat → Qt → Prop
  | n, .near a b z => 2 ≤ n ∧ plainF a.toldD = some a ∧ plainF b.toldD = some b ∧ 0 ≤ z ∧ z ≤ 20
  | n, .both a b => 1 ≤ n ∧ goodQ (n - 1) a ∧ goodQ (n - 1) b
  | n, .either a b => 1 ≤ n ∧ goodQ (n - 1) a ∧ goodQ (n - 1) b
  | n, .no a => 1 ≤ n ∧ goodQ (n - 1) a
  | n, .word w => 1 ≤ n ∧ plainF (Qt.word w).toldD = some (.word w)
  | n, .start w => 1 ≤ n ∧ plainF (Qt.start w).toldD = some (.start w)
  | n, .row ws => 1 ≤ n ∧ plainF (Qt.row ws).toldD = some (.row ws)
theorem far_ok {z : Int} (h0 : 0 ≤ z) (h1 : z ≤ 20) : farD (.int z) = some z := if_pos ⟨h0, h1⟩
theorem made_good : ∀ {q : Qt} {n : Nat}, goodQ n q → madeF n q.toldD = some q
  | .near a b z, n, ⟨h1, h2, h3, h4, h5⟩ => by
    obtain ⟨n, rfl⟩ : ∃ k, n = k + 1 := ⟨n - 1, by omega⟩
    show madeF (n + 1) (.tuple (.str "near" :: a.toldD :: [b.toldD, .int z])) = _
    rw [mk_near]
    dsimp only
    rw [if_pos (by omega), far_ok h4 h5, h2, h3]
  | .both a b, n, ⟨h1, h2, h3⟩ => by
    obtain ⟨n, rfl⟩ : ∃ k, n = k + 1 := ⟨n - 1, by omega⟩
    show madeF (n + 1) (.tuple (.str "both" :: a.toldD :: [b.toldD])) = _
    rw [mk_both]
    dsimp only
    rw [made_good (n := n) h2, made_good (n := n) h3]
  | .either a b, n, ⟨h1, h2, h3⟩ => by
    obtain ⟨n, rfl⟩ : ∃ k, n = k + 1 := ⟨n - 1, by omega⟩
    show madeF (n + 1) (.tuple (.str "either" :: a.toldD :: [b.toldD])) = _
    rw [mk_either]
    dsimp only
    rw [made_good (n := n) h2, made_good (n := n) h3]
  | .no a, n, ⟨h1, h2⟩ => by
    obtain ⟨n, rfl⟩ : ∃ k, n = k + 1 := ⟨n - 1, by omega⟩
    show madeF (n + 1) (.tuple (.str "not" :: a.toldD :: [])) = _
    rw [mk_not]
    dsimp only
    rw [made_good (n := n) h2]
    rfl
  | .word w, n, ⟨h1, h2⟩ => by
    obtain ⟨n, rfl⟩ : ∃ k, n = k + 1 := ⟨n - 1, by omega⟩
    exact (mk_else (by decide +kernel) (by decide +kernel) (by decide +kernel) (by decide +kernel)).trans h2
  | .start w, n, ⟨h1, h2⟩ => by
    obtain ⟨n, rfl⟩ : ∃ k, n = k + 1 := ⟨n - 1, by omega⟩
    exact (mk_else (by decide +kernel) (by decide +kernel) (by decide +kernel) (by decide +kernel)).trans h2
  | .row ws, n, ⟨h1, h2⟩ => by
    obtain ⟨n, rfl⟩ : ∃ k, n = k + 1 := ⟨n - 1, by omega⟩
    exact (mk_else (by decide +kernel) (by decide +kernel) (by decide +kernel) (by decide +kernel)).trans h2
theorem good_mono : ∀ {q : Qt} {n m : Nat}, goodQ n q → n ≤ m → goodQ m q
  | .near a b z, n, m, ⟨h1, h⟩, hm => ⟨by omega, h⟩
  | .both a b, n, m, ⟨h1, h2, h3⟩, hm => ⟨by omega, good_mono h2 (by omega), good_mono h3 (by omega)⟩
  | .either a b, n, m, ⟨h1, h2, h3⟩, hm => ⟨by omega, good_mono h2 (by omega), good_mono h3 (by omega)⟩
  | .no a, n, m, ⟨h1, h2⟩, hm => ⟨by omega, good_mono h2 (by omega)⟩
  | .word _, n, m, ⟨h1, h2⟩, hm => ⟨by omega, h2⟩
  | .start _, n, m, ⟨h1, h2⟩, hm => ⟨by omega, h2⟩
  | .row _, n, m, ⟨h1, h2⟩, hm => ⟨by omega, h2⟩
theorem sh_str {z : Str} (h : z.length ≤ 2000) : shortD (.str z) = true := by
  show decide _ = true
  exact decide_eq_true (by omega)
theorem sh_words : ∀ {ws : List Str}, (∀ w ∈ ws, w.length ≤ 2000) → shortAll (ws.map PyData.str) = true
  | [], _ => rfl
  | w :: ws, h => by
    show (shortD (.str w) && shortAll (ws.map PyData.str)) = true
    rw [sh_str (h w List.mem_cons_self), sh_words fun x hx => h x (List.mem_cons_of_mem _ hx)]
    rfl
theorem sh_tup {ds : List PyData} : shortD (.tuple ds) = shortAll ds := by rw [shortD]
theorem sh_all {d : PyData} {ds : List PyData} : shortAll (d :: ds) = (shortD d && shortAll ds) := by rw [shortAll]
theorem plain_facts : ∀ {q : Qt}, plainF q.toldD = some q → rowsOk q = true ∧ shortD q.toldD = true ∧ q.cnt = 1 ∧ q.dep = 1
  | .word w, h => by
    have h' : plainF (.tuple [.str "word", .str w]) = _ := h
    rw [pl_word] at h'
    dsimp only at h'
    split at h'
    · rename_i hw
      refine ⟨rfl, ?_, rfl, rfl⟩
      show shortD (.tuple [.str "word", .str w]) = true
      rw [sh_tup, sh_all, sh_all, sh_str (word_len hw), sh_str (by decide +kernel)]
      rfl
    · cases h'
  | .start w, h => by
    have h' : plainF (.tuple [.str "start", .str w]) = _ := h
    rw [pl_start] at h'
    dsimp only at h'
    split at h'
    · rename_i hw
      refine ⟨rfl, ?_, rfl, rfl⟩
      show shortD (.tuple [.str "start", .str w]) = true
      rw [sh_tup, sh_all, sh_all, sh_str (word_len hw), sh_str (by decide +kernel)]
      rfl
    · cases h'
  | .row ws, h => by
    have h' : plainF (.tuple [.str "row", .tuple (ws.map .str)]) = _ := h
    rw [pl_row] at h'
    dsimp only at h'
    split at h'
    · rename_i hw
      rw [List.length_map, List.all_map, List.all_eq_true] at hw
      refine ⟨decide_eq_true (by omega), ?_, rfl, rfl⟩
      show shortD (.tuple [.str "row", .tuple (ws.map .str)]) = true
      rw [sh_tup, sh_all, sh_all, sh_tup, sh_words fun w hm => word_len (hw.2.2 w hm), sh_str (by decide +kernel)]
      rfl
    · cases h'
  | .near a b z, h => by cases h
  | .both a b, h => by cases h
  | .either a b, h => by cases h
  | .no a, h => by
    have h' : plainF (.tuple [.str "not", a.toldD]) = _ := h
    rw [pl_else (by decide +kernel) (by decide +kernel) (by decide +kernel)] at h'
    cases h'
theorem good_facts : ∀ {q : Qt} {n : Nat}, goodQ n q → rowsOk q = true ∧ shortD q.toldD = true ∧ q.dep ≤ n
  | .near a b z, n, ⟨h1, h2, h3, h4, h5⟩ => by
    obtain ⟨a1, a2, a3, a4⟩ := plain_facts h2
    obtain ⟨b1, b2, b3, b4⟩ := plain_facts h3
    refine ⟨by simp [rowsOk, a1, b1], ?_, by simp only [Qt.dep]; omega⟩
    show shortD (.tuple [.str "near", a.toldD, b.toldD, .int z]) = true
    rw [sh_tup, sh_all, sh_all, sh_all, sh_all, a2, b2, sh_str (by decide +kernel)]
    rfl
  | .both a b, n, ⟨h1, h2, h3⟩ => by
    obtain ⟨a1, a2, a3⟩ := good_facts h2
    obtain ⟨b1, b2, b3⟩ := good_facts h3
    refine ⟨by simp [rowsOk, a1, b1], ?_, by simp only [Qt.dep]; omega⟩
    show shortD (.tuple [.str "both", a.toldD, b.toldD]) = true
    rw [sh_tup, sh_all, sh_all, sh_all, a2, b2, sh_str (by decide +kernel)]
    rfl
  | .either a b, n, ⟨h1, h2, h3⟩ => by
    obtain ⟨a1, a2, a3⟩ := good_facts h2
    obtain ⟨b1, b2, b3⟩ := good_facts h3
    refine ⟨by simp [rowsOk, a1, b1], ?_, by simp only [Qt.dep]; omega⟩
    show shortD (.tuple [.str "either", a.toldD, b.toldD]) = true
    rw [sh_tup, sh_all, sh_all, sh_all, a2, b2, sh_str (by decide +kernel)]
    rfl
  | .no a, n, ⟨h1, h2⟩ => by
    obtain ⟨a1, a2, a3⟩ := good_facts h2
    refine ⟨a1, ?_, by simp only [Qt.dep]; omega⟩
    show shortD (.tuple [.str "not", a.toldD]) = true
    rw [sh_tup, sh_all, sh_all, a2, sh_str (by decide +kernel)]
    rfl
  | .word _, n, ⟨h1, h2⟩ => by
    obtain ⟨a1, a2, a3, a4⟩ := plain_facts h2
    exact ⟨a1, a2, by omega⟩
  | .start _, n, ⟨h1, h2⟩ => by
    obtain ⟨a1, a2, a3, a4⟩ := plain_facts h2
    exact ⟨a1, a2, by omega⟩
  | .row _, n, ⟨h1, h2⟩ => by
    obtain ⟨a1, a2, a3, a4⟩ := plain_facts h2
    exact ⟨a1, a2, by omega⟩
theorem plainQ_ok (n : Int) {M : List (List Nat)} (h : MenuOk M) : plainF (plainQ n M).toldD = some (plainQ n M) := by
  have hw := wordP_ok n h
  have hs := stL_b n h
  have hr := rowN_b n
  unfold plainQ
  split
  · exact pl_word.trans (if_pos (word_ok hw))
  · split
    · refine pl_start.trans (if_pos (word_ok ⟨?_, ?_, fun c hc => hw.2.2 c (List.mem_of_mem_take hc)⟩))
      · rw [List.length_take]; omega
      · rw [List.length_take]; have := hw.2.1; omega
    · have hl : (rowL n M).length = rowN n := by unfold rowL; rw [List.length_map, List.length_range]
      refine pl_row.trans ?_
      dsimp only
      rw [strs_back]
      refine if_pos ?_
      rw [List.length_map, List.length_map, hl]
      refine ⟨hr.1, hr.2.1, ?_⟩
      rw [List.all_map, List.all_map, List.all_eq_true]
      intro w hwm
      unfold rowL at hwm
      obtain ⟨k, _, rfl⟩ := List.mem_map.mp hwm
      exact word_ok (h.2 _ (pickL_mem (by rw [h.1]; omega)))
theorem plainQ_good (n : Int) {M : List (List Nat)} (h : MenuOk M) {k : Nat} (hk : 1 ≤ k) : goodQ k (plainQ n M) := by
  have e := plainQ_ok n h
  unfold plainQ at e ⊢
  split at e
  · rename_i h0
    rw [if_pos h0]
    exact ⟨hk, e⟩
  · rename_i h0
    rw [if_neg h0]
    split at e
    · rename_i h1
      rw [if_pos h1]
      exact ⟨hk, e⟩
    · rename_i h1
      rw [if_neg h1]
      exact ⟨hk, e⟩
theorem plainQ_cnt (n : Int) {M : List (List Nat)} (h : MenuOk M) : (plainQ n M).cnt = 1 := (plain_facts (plainQ_ok n h)).2.2.1
theorem tree_good (ns : List Int) {M : List (List Nat)} (h : MenuOk M) : ∀ d a, 1 ≤ d → goodQ d (treeQ ns M d a).1
  | 0, a, hd => by omega
  | d + 1, a, hd => by
    unfold treeQ
    split
    · exact plainQ_good _ h hd
    · rename_i h1
      split
      · refine ⟨by omega, plainQ_ok _ h, plainQ_ok _ h, ?_, ?_⟩
        · split <;> omega
        · split <;> omega
      · split
        · exact ⟨by omega, tree_good ns h d _ (by omega)⟩
        · split
          · exact ⟨by omega, tree_good ns h d _ (by omega), tree_good ns h d _ (by omega)⟩
          · exact ⟨by omega, tree_good ns h d _ (by omega), tree_good ns h d _ (by omega)⟩
theorem tree_cnt (ns : List Int) {M : List (List Nat)} (h : MenuOk M) : ∀ d a, a ≤ (treeQ ns M d a).2 ∧ (treeQ ns M d a).1.cnt ≤ 1 + 2 * (min (treeQ ns M d a).2 16 - min a 16)
  | 0, a => by
    unfold treeQ
    exact ⟨by show a ≤ a + 1; omega, by show (plainQ _ M).cnt ≤ _; rw [plainQ_cnt _ h]; omega⟩
  | d + 1, a => by
    unfold treeQ
    split
    · exact ⟨by show a ≤ a + 1; omega, by show (plainQ _ M).cnt ≤ _; rw [plainQ_cnt _ h]; omega⟩
    · rename_i h1
      have h16 : a + 1 ≤ 16 := by omega
      split
      · refine ⟨by show a ≤ a + 1; omega, ?_⟩
        show 1 + ((plainQ _ M).cnt + (plainQ _ M).cnt) ≤ 1 + 2 * (min (a + 1) 16 - min a 16)
        rw [plainQ_cnt _ h, plainQ_cnt _ h]
        omega
      · have i1 := tree_cnt ns h d (a + 1)
        split
        · refine ⟨by show a ≤ (treeQ ns M d (a + 1)).2; omega, ?_⟩
          show 1 + (treeQ ns M d (a + 1)).1.cnt ≤ 1 + 2 * (min (treeQ ns M d (a + 1)).2 16 - min a 16)
          omega
        · have i2 := tree_cnt ns h d (treeQ ns M d (a + 1)).2
          have e : ((if number ns ((a + 1 : Nat) : Int) % 2 = 0 then Qt.both else Qt.either) (treeQ ns M d (a + 1)).1 (treeQ ns M d (treeQ ns M d (a + 1)).2).1).cnt = 1 + ((treeQ ns M d (a + 1)).1.cnt + (treeQ ns M d (treeQ ns M d (a + 1)).2).1.cnt) := by split <;> rfl
          refine ⟨by show a ≤ (treeQ ns M d (treeQ ns M d (a + 1)).2).2; omega, ?_⟩
          show Qt.cnt _ ≤ 1 + 2 * (min (treeQ ns M d (treeQ ns M d (a + 1)).2).2 16 - min a 16)
          rw [e]
          omega
theorem plain_new : ∀ {q : Qt}, plainF q.toldD = some q → rowsNe q = true ∧ plK q = true
  | .word w, h => ⟨rfl, rfl⟩
  | .start w, h => ⟨rfl, rfl⟩
  | .row ws, h => by
    have h' : plainF (.tuple [.str "row", .tuple (ws.map .str)]) = _ := h
    rw [pl_row] at h'
    dsimp only at h'
    split at h'
    · rename_i hw
      rw [List.length_map] at hw
      exact ⟨decide_eq_true (by omega), rfl⟩
    · cases h'
  | .near a b z, h => by cases h
  | .both a b, h => by cases h
  | .either a b, h => by cases h
  | .no a, h => by
    have h' : plainF (.tuple [.str "not", a.toldD]) = _ := h
    rw [pl_else (by decide +kernel) (by decide +kernel) (by decide +kernel)] at h'
    cases h'
theorem good_new : ∀ {q : Qt} {n : Nat}, goodQ n q → rowsNe q = true ∧ nearPl q = true
  | .near a b z, n, ⟨h1, h2, h3, h4, h5⟩ => by
    have p := plain_new h2
    have q := plain_new h3
    exact ⟨by simp only [rowsNe, p.1, q.1, Bool.and_self], by simp only [nearPl, p.2, q.2, Bool.and_self]⟩
  | .both a b, n, ⟨h1, h2, h3⟩ => by
    have p := good_new h2
    have q := good_new h3
    exact ⟨by simp only [rowsNe, p.1, q.1, Bool.and_self], by simp only [nearPl, p.2, q.2, Bool.and_self]⟩
  | .either a b, n, ⟨h1, h2, h3⟩ => by
    have p := good_new h2
    have q := good_new h3
    exact ⟨by simp only [rowsNe, p.1, q.1, Bool.and_self], by simp only [nearPl, p.2, q.2, Bool.and_self]⟩
  | .no a, n, ⟨h1, h2⟩ => by
    have p := good_new (q := a) h2
    exact ⟨p.1, p.2⟩
  | .word w, n, ⟨h1, h2⟩ => ⟨rfl, rfl⟩
  | .start w, n, ⟨h1, h2⟩ => ⟨rfl, rfl⟩
  | .row ws, n, ⟨h1, h2⟩ => ⟨(plain_new h2).1, rfl⟩
theorem goodL_of {q : Qt} (h : goodQ 8 q) : GoodL q := ⟨(good_facts h).2.2, (good_new h).1, (good_new h).2, (good_facts h).2.1⟩
theorem plain_good {q : Qt} (h : plainF q.toldD = some q) : GoodL q := by
  have p := plain_facts h
  have r := plain_new h
  exact ⟨by omega, r.1, plK_near r.2, p.2.1⟩
theorem kid_good {q c : Qt} {n : Nat} (hn : n ≤ 8) (h : goodQ n q) (hc : c ∈ q.kids) : GoodL c := by
  cases q with
  | word w => cases hc
  | start w => cases hc
  | row w => cases hc
  | near a b z =>
    obtain ⟨h1, h2, h3, h4, h5⟩ := h
    rcases List.mem_cons.mp hc with rfl | hc
    · exact plain_good h2
    · rw [List.mem_singleton.mp hc]
      exact plain_good h3
  | both a b =>
    obtain ⟨h1, h2, h3⟩ := h
    rcases List.mem_cons.mp hc with rfl | hc
    · exact goodL_of (good_mono h2 (by omega))
    · rw [List.mem_singleton.mp hc]
      exact goodL_of (good_mono h3 (by omega))
  | either a b =>
    obtain ⟨h1, h2, h3⟩ := h
    rcases List.mem_cons.mp hc with rfl | hc
    · exact goodL_of (good_mono h2 (by omega))
    · rw [List.mem_singleton.mp hc]
      exact goodL_of (good_mono h3 (by omega))
  | no a =>
    obtain ⟨h1, h2⟩ := h
    rw [List.mem_singleton.mp hc]
    exact goodL_of (good_mono h2 (by omega))
end
section
variable {P : Program} {w : World} {K : PySem.W.Frag} {mg : Str → Option Value} {base : Heap} {CB CAsk CWord CStart CRow CNear CBoth CEither CNot : Addr}
def hdE (zs : List (Int × Int)) : PyData := .tuple [.list (spD zs), .list (spD zs)]
def hdL (Xs : List (List (Int × Int))) : List PyData := Xs.map hdE
def xOf (ws : List Str) (c : Qt) : List (Int × Int) := spansQ c ws ++ [(0, 0)]
theorem hdL_len (Xs : List (List (Int × Int))) : (hdL Xs).length = Xs.length := List.length_map _
theorem twD_eq (q : Qt) (ws : List Str) : twD q ws = hdE (xOf ws q) := by
  have e : spD (xOf ws q) = spD (spansQ q ws) ++ [iiD (0, 0)] := List.map_append
  unfold twD hdE
  rw [e]
theorem hdL_add (Xs : List (List (Int × Int))) (q : Qt) (ws : List Str) : hdL Xs ++ [twD q ws] = hdL (Xs ++ [xOf ws q]) := by
  rw [twD_eq]
  exact (List.map_append (l₂ := [xOf ws q])).symm
theorem got_none (n : Nat) : Fh.got (fun _ => none) n = [] := by
  unfold Fh.got
  simp
theorem er_map {α β : Type} (f : α → β) : ∀ (L : List α) (i : Nat), (L.map f).eraseIdx i = (L.eraseIdx i).map f
  | [], _ => rfl
  | _ :: _, 0 => rfl
  | a :: L, i + 1 => congrArg (f a :: ·) (er_map f L i)
theorem mD_ws (L : List (List Nat)) : mD L = (L.map tx).map PyData.str := (List.map_map (f := tx) (g := PyData.str)).symm
theorem wordOk_len {x : List Nat} (h : WordOk x) : (tx x).length ≤ 1000 := by
  rw [tx_len]
  have := h.2.1
  omega
def R_law (ds : List PyData) (r : Sl) : Prop := ∃ ns : List Int, ds = [.list (iD ns)] ∧ ns.length ≤ 63 ∧ r = .dt (.bool true)
theorem ok_law {f : Addr} {fd : FuncData} (F : Fun K "law" "law" s_law f fd) (T : Txt K mg CB CAsk CWord CStart CRow CNear CBoth CEither CNot) (ck : ∀ k, Cls K ((qa CWord CStart CRow CNear CBoth CEither CNot) k))
    (dk_kids : ∀ k, DefM P w K mg base 1 ((qa CWord CStart CRow CNear CBoth CEither CNot) k) "kids" ["self"] (spG K (R_kids K (qa CWord CStart CRow CNear CBoth CEither CNot) k) noXG) [])
    (d__law_number : DefOk P w K mg base 2 "_law_number" ["_law_script", "_law_k"] (spF K R_number noX) [])
    (d__law_menu : DefOk P w K mg base 2 "_law_menu" ["_law_number_here"] (spF K R_menu noX) [])
    (d__law_tree : DefOk P w K mg base 10 "_law_tree" ["_law_script", "_law_at", "_law_deep", "_law_menu_here"] (spL K (R_ltree 8)) [])
    (d_ask_of : DefOk P w K mg base 14 "ask_of" ["told"] (spF K (R_askof K (qa CWord CStart CRow CNear CBoth CEither CNot)) (X_askof CB)) [])
    (d__law_drawn_words : DefOk P w K mg base 3 "_law_drawn_words" ["_law_script", "_law_menu_here"] (spF K R_ldw noX) [])
    (d__law_right : DefOk P w K mg base 11 "_law_right" ["_law_ask", "_law_told", "_law_words", "_law_number_here", "_law_held"] (spA K (R_lr K (qa CWord CStart CRow CNear CBoth CEither CNot)) noXA) [])
    (d__law_kids : DefOk P w K mg base 1 "_law_kids" ["_law_told"] (spF K R_lkids noX) []) : FnOk P w K mg base (L2.CX P w) 15 f fd ["_law_script"] (spF K R_law noX) := by
  refine F.okX sc_law (spF_len (n := 1) (by rintro _ _ ⟨_, rfl, _⟩; rfl) (by rintro _ _ ⟨⟩)) (fun cdv A outer s H vs Q E hr h => ?_)
  obtain ⟨F0, ds, fh, hv, ⟨r, ⟨ns, rfl, hns, rfl⟩, q⟩ | ⟨_, h, _⟩⟩ := h
  · have S := Sts.init (N := ["_law_script", "_law_menu_here", "_law_told", "_law_ask", "_law_words", "_law_held", "_law_k", "_law_number_here", "_law_handed", "_law_kid", "_law_due", "_law_one", "_law_copy"]) fh hv
    have hu : (A.deeper (envOfC "law" (defScope s_law) s.heap.objs.size f cdv)).units + 64 < cLine := hr.units
    refine ⟨_, (pss_cons (ps_set (i := 1) sc_law.nd rfl (Or.inl rfl) (pe_own d__law_menu (hr.mono (by decide)) (by rfl) passL (pa_cons (pe_own d__law_number (hr.mono (by decide)) (by rfl) passL (pa_cons (pv 0) (pa_cons pe_int pa_nil))) pa_nil)))
          (pss_cons (ps_set (i := 2) sc_law.nd rfl (Or.inl rfl) (pe_own d__law_tree (hr.mono (by decide)) (by rfl) passL (pa_cons (pv 0) (pa_cons (pe_lst (pa_cons pe_int pa_nil)) (pa_cons (pe_op op_add pe_int (pe_op op_mod (pe_own d__law_number (hr.mono (by decide)) (by rfl) passL (pa_cons (pv 0) (pa_cons pe_int pa_nil))) pe_int)) (pa_cons (pv 1) pa_nil))))))
          (pss_cons (ps_set (i := 3) sc_law.nd rfl (Or.inl rfl) (pe_own d_ask_of (hr.mono (by decide)) (by rfl) (passes_call (takes_of rfl rfl rfl rfl) (fun _ _ _ _ h => h)) (pa_cons (pv 2) pa_nil)))
          (pss_cons (ps_set (i := 4) sc_law.nd rfl (Or.inl rfl) (pe_own d__law_drawn_words (hr.mono (by decide)) (by rfl) passL (pa_cons (pv 0) (pa_cons (pv 1) pa_nil))))
          (pss_cons (ps_set (i := 5) sc_law.nd rfl (Or.inl rfl) (pe_lst pa_nil))
          (pss_cons (ps_for PassesOwn.leaving rfl (pi_range1 (by rfl) T.range (pa_cons pe_int pa_nil)) (pg_name (i := 6) sc_law.nd rfl (Or.inl rfl)) (pss_cons (ps_set (i := 7) sc_law.nd rfl (Or.inl rfl) (pe_own d__law_number (hr.mono (by decide)) (by rfl) passL (pa_cons (pv 0) (pa_cons (pe_op op_add pe_int (pv 6)) pa_nil))))
          (pss_cons (ps_set (i := 8) sc_law.nd rfl (Or.inl rfl) (pe_callTy (T := "list") (r := rListR K) call_listR (by rfl) T.list (by decide +kernel) (pa_cons (pv 4) pa_nil)))
          (pss_cons (ps_if (PW.pt (pw_or (pt_not (pt_val (pe_own d__law_right (hr.mono (by decide)) (by rfl) passL (pa_cons (pv 3) (pa_cons (pv 2) (pa_cons (pv 4) (pa_cons (pv 7) (pa_cons (pv 5) pa_nil)))))))) (pw_or1 (pt_cmpR (r := rNeP K) (op_neP hu) (pv 4) (pv 8) (nomark _))))) (pss_one (ps_ret pe_bl)) pss_nil)
          (pss_cons (ps_for PassesOwn.leaving rfl (pi_zip (by rfl) T.zip (pa_cons (pe_any fun k => pe_methO0 (dk_kids k) (pv 3) (ck k) (hr.mono (by decide)) passL) (pa_cons (pe_own d__law_kids (hr.mono (by decide)) (by rfl) passL (pa_cons (pv 2) pa_nil)) pa_nil))) (pg_tup rfl (pgs_cons (pg_name (i := 9) sc_law.nd rfl (Or.inl rfl)) (pgs_cons (pg_name (i := 10) sc_law.nd rfl (Or.inl rfl)) pgs_nil))) (pss_one (ps_if (pt_not (pt_val (pe_own d__law_right (hr.mono (by decide)) (by rfl) passL (pa_cons (pv 9) (pa_cons (pv 10) (pa_cons (pv 4) (pa_cons (pe_op op_divY (pv 7) pe_int) (pa_cons (pv 5) pa_nil)))))))) (pss_one (ps_ret pe_bl)) pss_nil)))
          (pss_one (ps_if (PW.pt (pw_and (pt_cmpR (r := rNeP K) (op_neP hu) (pv 4) (pe_lst pa_nil) (nomark _)) (pw_and1 (pt_cmpR (r := rEqP K) (op_eqP hu) (pe_op op_mod (pe_op op_divY (pv 7) pe_int) pe_int) pe_int (nomark _))))) (pss_one (ps_expr (pe_bm PySem.F.plainAttrs_list PySem.F.slot_list_pop PySem.F.type_list_pop mt_popAtR (pv 4) (pa_cons (pe_op op_mod (pe_op op_divY (pv 7) pe_int) (pe_callB (id := "len") (r := rLenR K) call_lenR (by rfl) T.len (by decide +kernel) (pa_cons (pv 4) pa_nil))) pa_nil)))) (pss_one (ps_expr (pe_bm PySem.F.plainAttrs_list PySem.F.slot_list_insert PySem.F.type_list_insert mt_insertR (pv 4) (pa_cons (pe_op op_mod (pe_op op_divY (pv 7) pe_int) (pe_op op_add (pe_callB (id := "len") (r := rLenR K) call_lenR (by rfl) T.len (by decide +kernel) (pa_cons (pv 4) pa_nil)) pe_int)) (pa_cons (pe_ix (r := rIxL K) ix_list (pv 1) (pe_op op_mod (pv 7) pe_int) (fun _ _ => rfl)) pa_nil))))))))))))
          (pss_one (ps_ret (pe_and (pe_own d__law_right (hr.mono (by decide)) (by rfl) passL (pa_cons (pv 3) (pa_cons (pv 2) (pa_cons (pv 4) (pa_cons pe_int (pa_cons (pv 5) pa_nil)))))) (pe_one (pe_cmpR (r := rEqP K) (op_eqP hu) (pe_lc (own := [("_law_one", 11), ("_law_copy", 12)]) (g := (gTup K 2 (gCons (gName 11) (gCons (gName 12) gNil)))) rfl sc_law.nd (pi_list (pv 5)) (blkOk_by (own := [("_law_one", 11), ("_law_copy", 12)]) (N := ["_law_script", "_law_menu_here", "_law_told", "_law_ask", "_law_words", "_law_held", "_law_k", "_law_number_here", "_law_handed", "_law_kid", "_law_due", "_law_one", "_law_copy"]) (sc := defScope s_law) (by decide +kernel)) (fun _ _ _ _ _ => pg_tup rfl (pgs_cons (pg_name (i := 11) sc_law.nd rfl (Or.inl rfl)) (pgs_cons (pg_name (i := 12) sc_law.nd rfl (Or.inl rfl)) pgs_nil))) (fun _ _ _ _ _ => pts_one (pt_cmpR (r := rNeP K) (op_neP hu) (pv 11) (pv 12) (nomark _))) (fun _ _ _ _ _ => (pv 11))) (pe_lst pa_nil) (nomark _)))))))))))), ?_⟩
    have il := init_len (N := ["_law_script", "_law_menu_here", "_law_told", "_law_ask", "_law_words", "_law_held", "_law_k", "_law_number_here", "_law_handed", "_law_kid", "_law_due", "_law_one", "_law_copy"]) hv (Nat.le_of_ble_eq_true rfl)
    have hnum := number_lt ns
    have hm0 := hnum 0
    have hM : MenuOk (menuL (number ns 0)) := menuL_ok _
    refine q_asg S il (r := .dt (.list (mD (menuL (number ns 0))))) (.frz (ev_call0 (r := .ls (mD (menuL (number ns 0)))) (R := R_menu) (X := noX) (av_cons (ev_call0 (r := .dt (.int (number ns 0))) (av_cons (ev_var rfl) (av_cons ev_int av_nil)) rfl ⟨ns, 0, rfl, by decide, by decide, rfl⟩) av_nil) rfl ⟨_, rfl, by omega, by omega, rfl⟩)) rfl rfl (Nat.le_of_ble_eq_true rfl) fun σ' F' H' S l => ?_
    generalize menuL (number ns 0) = M at *
    obtain ⟨d, ed⟩ : ∃ d : Nat, (1 + number ns 40 % 5) = (d : Int) := ⟨(1 + number ns 40 % 5).toNat, by omega⟩
    have hd : 1 ≤ d ∧ d ≤ 5 := by omega
    have hpd : 2 ^ d ≤ 32 := Nat.pow_le_pow_right (n := 2) (by decide) hd.2
    have gT : goodQ 8 (treeQ ns M d 0).1 := good_mono (tree_good ns hM d 0 hd.1) (by omega)
    have cT := (tree_cnt ns hM d 0).2
    refine q_asgM S l (j := 2) (evM_callLt (R := R_ltree 8) (G := glE K) (hs := ctS 0) (hs' := ctS (treeQ ns M d 0).2) (rs1 := [.dt (.list (iD ns))]) (rs2 := [.dt (.int (d : Int)), .dt (.list (mD M))]) (r := .dt (treeQ ns M d 0).1.toldD) glV_E (av_cons (ev_var rfl) (av_cons (ev_lstG (rs := ctS 0) (av_cons (.toD ev_int rfl) av_nil) rfl (Nat.le_of_ble_eq_true rfl)) (av_cons (.toD (ev_ii (f := fun i j => i + j) ev_int (ev_iC (ev_call0 (r := .dt (.int (number ns 40))) (av_cons (ev_var rfl) (av_cons ev_int av_nil)) rfl ⟨ns, 40, rfl, by decide, by decide, rfl⟩) ev_int (by decide))) (congrArg PyData.int ed)) (av_cons (ev_var rfl) av_nil)))) rfl rfl ⟨ns, M, d, 0, rfl, rfl, rfl, rfl, hd.1, by omega, by omega, hM, rfl⟩ rfl) rfl rfl rfl (Nat.le_of_ble_eq_true rfl) fun σ' F' H' S l => ?_
    generalize (treeQ ns M d 0).1 = T' at *
    have cT : T'.cnt ≤ 33 := by omega
    obtain ⟨rT, sT, dT⟩ := good_facts gT
    have hG : GoodL T' := goodL_of gT
    refine q_asg S l (r := askS K (qa CWord CStart CRow CNear CBoth CEither CNot) T') (ev_call0 (r := askS K (qa CWord CStart CRow CNear CBoth CEither CNot) T') (R := R_askof K (qa CWord CStart CRow CNear CBoth CEither CNot)) (X := X_askof CB) (av_cons (ev_var rfl) av_nil) rfl ⟨_, T', rfl, sT, made_good gT, by omega, rfl⟩) rfl rfl (Nat.le_of_ble_eq_true rfl) fun σ' F' H' S l => ?_ -- ask
    refine q_asg S l (r := .ls (((dwL (number ns 41) M).map tx).map PyData.str)) (.to (ev_call0 (r := .ls (mD (dwL (number ns 41) M))) (R := R_ldw) (X := noX) (av_cons (ev_var rfl) (av_cons (ev_var rfl) av_nil)) rfl ⟨ns, M, rfl, hM, rfl⟩) (congrArg Sl.ls (mD_ws _))) rfl rfl (Nat.le_of_ble_eq_true rfl) fun σ' F' H' S l => ?_ -- words
    have hw0 : ∀ x ∈ (dwL (number ns 41) M).map tx, x.length ≤ 1000 := fun x hx => by
      obtain ⟨y, hy, rfl⟩ := List.mem_map.mp hx
      exact wordOk_len (hM.2 y (dwL_mem _ hM.1 y hy))
    have hl0 : ((dwL (number ns 41) M).map tx).length ≤ 60 := by
      rw [List.length_map]
      exact dwL_len _ _
    generalize (dwL (number ns 41) M).map tx = ws0 at *
    refine q_asg S l (r := .ls (hdL [])) (ev_lst (ds := []) av_nil rfl (Nat.le_of_ble_eq_true rfl)) rfl rfl (Nat.le_of_ble_eq_true rfl) fun σ' F' H' S l => ?_ -- held
    refine q_forR1X (i := 6) (n := 4) (m := 4) (fun a : List Str × List (List (Int × Int)) => [.dt (.list (iD ns)), .dt (.list (mD M)), .dt T'.toldD, askS K (qa CWord CStart CRow CNear CBoth CEither CNot) T', .ls (a.1.map PyData.str), .ls (hdL a.2), .no, .no, .no, .no, .no, .no, .no]) (fun k a => a.1.length ≤ 60 + k ∧ (∀ x ∈ a.1, x.length ≤ 1000) ∧ a.2.length ≤ 3 * k) (ws0, []) S l (av_cons ev_int av_nil) rfl (by decide) (Wk.refl _) ⟨hl0, hw0, Nat.zero_le _⟩ (fun _ => rfl) (Nat.le_of_ble_eq_true rfl) (fun a k hP hk σ' F' H' S l => ?_) (fun a hP σ' F' H' S l => ?_)
    · obtain ⟨ws, Xs⟩ := a
      obtain ⟨hwl, hww, hxl⟩ := hP
      have hws : WsOk ws := ⟨by have : ws.length ≤ 60 + k := hwl; omega, hww⟩
      have hwl : ws.length ≤ 60 + k := hwl
      have hxl : Xs.length ≤ 3 * k := hxl
      obtain ⟨z, ez⟩ : ∃ z, number ns (42 + (k : Int)) = z := ⟨_, rfl⟩
      have hz := hnum (42 + (k : Int))
      rw [ez] at hz
      refine q_asg S l (i := 7) (r := .dt (.int z)) (ev_call0 (R := R_number) (X := noX) (r := .dt (.int z)) (av_cons (ev_var rfl) (av_cons (ev_ii (f := fun i j => i + j) ev_int (ev_var rfl)) av_nil)) rfl ⟨ns, 42 + (k : Int), rfl, by omega, by omega, by rw [ez]⟩) rfl rfl (Nat.le_of_ble_eq_true rfl) fun σ' F' H' S l => ?_ -- number
      refine q_asg S l (i := 8) (r := .dt (.list (ws.map PyData.str))) (.frz (ev_list (ds := ws.map PyData.str) (ev_varA rfl) rfl)) rfl rfl (Nat.le_of_ble_eq_true rfl) fun σ' F' H' S l => ?_ -- handed
      obtain ⟨p, S, l⟩ := S.fixQ 4 l rfl
      obtain ⟨h, S, l⟩ := S.fixQ 5 l rfl
      refine q_whenZ S l (b := false) (ss' := [.dt (.list (iD ns)), .dt (.list (mD M)), .dt T'.toldD, askS K (qa CWord CStart CRow CNear CBoth CEither CNot) T', .mu (lsAt K p (ws.map PyData.str)), .mu (lsAt K h (hdL (Xs) ++ [twD T' ws])), .dt (.int (k : Int)), .dt (.int z), .dt (.list (ws.map PyData.str)), .no, .no, .no, .no]) (gt' := []) (tvZ_orF (W1 := [.dt (.list (iD ns)), .dt (.list (mD M)), .dt T'.toldD, askS K (qa CWord CStart CRow CNear CBoth CEither CNot) T', .mu (lsAt K p (ws.map PyData.str)), .mu (lsAt K h (hdL (Xs) ++ [twD T' ws])), .dt (.int (k : Int)), .dt (.int z), .dt (.list (ws.map PyData.str)), .no, .no, .no, .no] ++ []) rfl (.to (tvZ_not (tvZ_B rfl (evZ_call (R := R_lr K (qa CWord CStart CRow CNear CBoth CEither CNot)) (X := noXA) (r := .dt (.bool true)) (os' := [lsAt K p (ws.map PyData.str), lsAt K h (hdL (Xs) ++ [twD T' ws])]) (rs := [askS K (qa CWord CStart CRow CNear CBoth CEither CNot) T', .dt (Qt.toldD T'), rfA p, .dt (.int (z)), rfA h]) (es := []) [4, 5] (avP_cons (ss := [.dt (.list (iD ns)), .dt (.list (mD M)), .dt T'.toldD, askS K (qa CWord CStart CRow CNear CBoth CEither CNot) T', .mu (lsAt K p (ws.map PyData.str)), .mu (lsAt K h (hdL (Xs))), .dt (.int (k : Int)), .dt (.int z), .dt (.list (ws.map PyData.str)), .no, .no, .no, .no]) (gt := []) (ev_varX rfl) rfl rfl rfl (avP_cons (ss := [.dt (.list (iD ns)), .dt (.list (mD M)), .dt T'.toldD, askS K (qa CWord CStart CRow CNear CBoth CEither CNot) T', .mu (lsAt K p (ws.map PyData.str)), .mu (lsAt K h (hdL (Xs))), .dt (.int (k : Int)), .dt (.int z), .dt (.list (ws.map PyData.str)), .no, .no, .no, .no]) (gt := []) (ev_var rfl) rfl rfl rfl (avP_own 4 (Nat.le_of_ble_eq_true rfl) rfl (fun _ _ _ e => e.1) (avP_cons (ss := [.dt (.list (iD ns)), .dt (.list (mD M)), .dt T'.toldD, askS K (qa CWord CStart CRow CNear CBoth CEither CNot) T', .mu (lsAt K p (ws.map PyData.str)), .mu (lsAt K h (hdL (Xs))), .dt (.int (k : Int)), .dt (.int z), .dt (.list (ws.map PyData.str)), .no, .no, .no, .no]) (gt := []) (ev_var rfl) rfl rfl rfl (avP_own 5 (Nat.le_of_ble_eq_true rfl) rfl (fun _ _ _ e => e.1) avP_nil))))) (fun _ => .nil) (by decide) (.cons rfl (.cons rfl .nil)) rfl ⟨T', ws, p, h, z, hdL (Xs), rfl, rfl, hG, hws, by rw [hdL_len]; omega, rfl, rfl⟩ rfl rfl rfl))) rfl) (tvZ_still [.dt (.list (iD ns)), .dt (.list (mD M)), .dt T'.toldD, askS K (qa CWord CStart CRow CNear CBoth CEither CNot) T', .dt (.list (ws.map PyData.str)), .no, .no, .no, .dt (.list (ws.map PyData.str)), .no, .no, .no, .no] (.to (tv_test (ev_neT (α := List Str) (a := ws) (b := ws) (ev_var rfl) (ev_var rfl) rfl rfl)) (by simp)) rfl rfl (.cons (.y (.z .dt)) (.cons (.y (.z .dt)) (.cons (.y (.z .dt)) (.cons (.y (.z .fx)) (.cons (.y Fy.lsAt) (.cons (.y (.z .no)) (.cons (.y (.z .no)) (.cons (.y (.z .no)) (.cons (.y (.z .dt)) (.cons (.y (.z .no)) (.cons (.y (.z .no)) (.cons (.y (.z .no)) (.cons (.y (.z .no)) .nil))))))))))))))) rfl (fun h => by cases h) (fun _ F' H' S l => ?_)
      rw [hdL_add] at S l
      have hkl := kids_le T'
      refine Fh.st_seq (st_forZF (as := askL K (qa CWord CStart CRow CNear CBoth CEither CNot) T'.kids) (es := tD T'.kids) S l (av_cons (ev_kidsF (ev_varX rfl)) (av_cons (.frz (ev_call0 (r := .ls (tD T'.kids)) (R := R_lkids) (X := noX) (av_cons (ev_var rfl) av_nil) rfl ⟨T', rfl, rfl⟩)) av_nil)) (by unfold tD askL; rw [List.length_map, List.length_map]) (fun j => [.dt (.list (iD ns)), .dt (.list (mD M)), .dt T'.toldD, askS K (qa CWord CStart CRow CNear CBoth CEither CNot) T', .mu (lsAt K p (ws.map PyData.str)), .mu (lsAt K h (hdL (Xs ++ [xOf ws T'] ++ (T'.kids.take j).map (xOf ws)))), .dt (.int (k : Int)), .dt (.int z), .dt (.list (ws.map PyData.str)), .no, .no, .no, .no]) (.same rfl (.same rfl (.same rfl (.same rfl (.same rfl (.same (by simp) (.same rfl (.same rfl (.same rfl (.no (.no (.no (.no .nil))))))))))))) (fun j a e ps ha he TT v w σ' F' H' ia ie hT S l => ?_) (fun σ' F' H' S l => ?_))
      · obtain ⟨hk2, rfl⟩ := map_at (φ := askS K (qa CWord CStart CRow CNear CBoth CEither CNot)) zQ ha
        have e2 : e = (T'.kids.getD j zQ).toldD := by
          unfold tD at he
          simp only [List.getElem?_map, List.getElem?_eq_getElem hk2, Option.map_some] at he
          cases he
          simp [List.getD, hk2]
        subst e2
        have hmem : T'.kids.getD j zQ ∈ T'.kids := Fh.getD_mem hk2
        have hget : T'.kids[j]? = some (T'.kids.getD j zQ) := getD_of hk2
        have hGy : GoodL (T'.kids.getD j zQ) := kid_good (Nat.le_refl 8) gT hmem
        generalize T'.kids.getD j zQ = y at *
        have hjl : ((T'.kids.take j).map (xOf ws)).length ≤ 2 := by rw [List.length_map, List.length_take]; omega
        have ek : Xs ++ [xOf ws T'] ++ (T'.kids.take j).map (xOf ws) ++ [xOf ws y] = Xs ++ [xOf ws T'] ++ (T'.kids.take (j + 1)).map (xOf ws) := by rw [tk_succ hget, List.map_append, ← List.append_assoc]; rfl
        refine g_pairI (i := 9) (j := 10) S l hT (Nat.le_of_ble_eq_true rfl) (Nat.le_of_ble_eq_true rfl) (by decide) ia (b := .dt y.toldD) ie rfl fun σ' F' H' S l => ?_
        refine st_whenZ S l (b := false) (ss' := [.dt (.list (iD ns)), .dt (.list (mD M)), .dt T'.toldD, askS K (qa CWord CStart CRow CNear CBoth CEither CNot) T', .mu (lsAt K p (ws.map PyData.str)), .mu (lsAt K h (hdL (Xs ++ [xOf ws T'] ++ (T'.kids.take j).map (xOf ws)) ++ [twD y ws])), .dt (.int (k : Int)), .dt (.int z), .dt (.list (ws.map PyData.str)), askS K (qa CWord CStart CRow CNear CBoth CEither CNot) y, .dt y.toldD, .no, .no]) (gt' := ([] ++ [.fx (flF K (askL K (qa CWord CStart CRow CNear CBoth CEither CNot) T'.kids)), .dt (.list (tD T'.kids))])) (.to (tvZ_not (tvZ_B rfl (evZ_call (R := R_lr K (qa CWord CStart CRow CNear CBoth CEither CNot)) (X := noXA) (r := .dt (.bool true)) (os' := [lsAt K p (ws.map PyData.str), lsAt K h (hdL (Xs ++ [xOf ws T'] ++ (T'.kids.take j).map (xOf ws)) ++ [twD y ws])]) (rs := [askS K (qa CWord CStart CRow CNear CBoth CEither CNot) y, .dt (Qt.toldD y), rfA p, .dt (.int (z / 2)), rfA h]) (es := []) [4, 5] (avP_cons (ss := [.dt (.list (iD ns)), .dt (.list (mD M)), .dt T'.toldD, askS K (qa CWord CStart CRow CNear CBoth CEither CNot) T', .mu (lsAt K p (ws.map PyData.str)), .mu (lsAt K h (hdL (Xs ++ [xOf ws T'] ++ (T'.kids.take j).map (xOf ws)))), .dt (.int (k : Int)), .dt (.int z), .dt (.list (ws.map PyData.str)), askS K (qa CWord CStart CRow CNear CBoth CEither CNot) y, .dt y.toldD, .no, .no]) (gt := ([] ++ [.fx (flF K (askL K (qa CWord CStart CRow CNear CBoth CEither CNot) T'.kids)), .dt (.list (tD T'.kids))])) (ev_varX rfl) rfl rfl rfl (avP_cons (ss := [.dt (.list (iD ns)), .dt (.list (mD M)), .dt T'.toldD, askS K (qa CWord CStart CRow CNear CBoth CEither CNot) T', .mu (lsAt K p (ws.map PyData.str)), .mu (lsAt K h (hdL (Xs ++ [xOf ws T'] ++ (T'.kids.take j).map (xOf ws)))), .dt (.int (k : Int)), .dt (.int z), .dt (.list (ws.map PyData.str)), askS K (qa CWord CStart CRow CNear CBoth CEither CNot) y, .dt y.toldD, .no, .no]) (gt := ([] ++ [.fx (flF K (askL K (qa CWord CStart CRow CNear CBoth CEither CNot) T'.kids)), .dt (.list (tD T'.kids))])) (ev_var rfl) rfl rfl rfl (avP_own 4 (Nat.le_of_ble_eq_true rfl) rfl (fun _ _ _ e => e.1) (avP_cons (ss := [.dt (.list (iD ns)), .dt (.list (mD M)), .dt T'.toldD, askS K (qa CWord CStart CRow CNear CBoth CEither CNot) T', .mu (lsAt K p (ws.map PyData.str)), .mu (lsAt K h (hdL (Xs ++ [xOf ws T'] ++ (T'.kids.take j).map (xOf ws)))), .dt (.int (k : Int)), .dt (.int z), .dt (.list (ws.map PyData.str)), askS K (qa CWord CStart CRow CNear CBoth CEither CNot) y, .dt y.toldD, .no, .no]) (gt := ([] ++ [.fx (flF K (askL K (qa CWord CStart CRow CNear CBoth CEither CNot) T'.kids)), .dt (.list (tD T'.kids))])) (ev_iC (ev_var rfl) ev_int (CDivY.s (by decide) (by decide))) rfl rfl rfl (avP_own 5 (Nat.le_of_ble_eq_true rfl) rfl (fun _ _ _ e => e.1) avP_nil))))) (fun _ => .nil) (by decide) (.cons rfl (.cons rfl .nil)) rfl ⟨y, ws, p, h, z / 2, hdL (Xs ++ [xOf ws T'] ++ (T'.kids.take j).map (xOf ws)), rfl, rfl, hGy, hws, by rw [hdL_len]; rw [List.length_append, List.length_append]; simp only [List.length_singleton]; omega, rfl, rfl⟩ rfl rfl rfl))) rfl) rfl (fun h => by cases h) (fun _ F' H' S l => ?_)
        rw [hdL_add, ek] at S l
        exact ⟨F', S.wk2 (.same rfl (.same rfl (.same rfl (.same rfl (.same rfl (.same rfl (.same rfl (.same rfl (.same rfl (.no (.no (.no (.no .nil))))))))))))), l⟩
      · have eK : Xs ++ [xOf ws T'] ++ (T'.kids.take (askL K (qa CWord CStart CRow CNear CBoth CEither CNot) T'.kids).length).map (xOf ws) = Xs ++ [xOf ws T'] ++ T'.kids.map (xOf ws) := by
          have : (askL K (qa CWord CStart CRow CNear CBoth CEither CNot) T'.kids).length = T'.kids.length := List.length_map _
          rw [this, List.take_length]
        rw [eK] at S l
        have hX2 : (Xs ++ [xOf ws T'] ++ T'.kids.map (xOf ws)).length ≤ 3 * (k + 1) := by
          rw [List.length_append, List.length_append, List.length_map, List.length_singleton]
          omega
        generalize Xs ++ [xOf ws T'] ++ T'.kids.map (xOf ws) = Xs2 at *
        obtain ⟨S, l⟩ := S.unfixQ 4 l rfl (fun _ h => h)
        obtain ⟨S, l⟩ := S.unfixQ 5 l rfl (fun _ h => h)
        dsimp only
        refine st_if S l (b := !decide (ws = []) && decide (z / 4 % 2 = 0)) (tv_and (tv_test (ev_neT (α := List Str) (a := ws) (b := []) (ev_varA rfl) (ev_lst (ds := []) av_nil rfl (Nat.le_of_ble_eq_true rfl)) rfl rfl)) fun _ => tv_test (ev_eqT (α := Int) (a := z / 4 % 2) (b := 0) (ev_iC (ev_iC (ev_var rfl) ev_int (CDivY.s (by decide) (by decide))) ev_int (by decide)) ev_int rfl rfl)) (fun hb F' H' S => ?_) (fun hb F' H' S => ?_)
        · have hne : ws ≠ [] := by
            intro e
            rw [decide_eq_true e] at hb
            cases hb
          have hpos : 0 < ws.length := List.length_pos_iff.mpr hne
          have b0 : 0 ≤ z / 8 % (ws.length : Int) := Int.emod_nonneg _ (by omega)
          have b1 : z / 8 % (ws.length : Int) < ws.length := Int.emod_lt_of_pos _ (by omega)
          have lw : (ws.map PyData.str).length = ws.length := List.length_map _
          refine st_popAt S l (i := 4) (ds := ws.map PyData.str) rfl (ev_iC (ev_iC (ev_var rfl) ev_int (CDivY.s (by decide) (by decide))) (ev_len (n := ws.length) (ev_varA rfl) rfl (by show some (ws.map PyData.str).length = _; rw [lw])) (by omega)) (by omega) b0 (by rw [lw]; exact b1) fun F' H' S l => ?_
          exact ⟨(ws.eraseIdx (z / 8 % (ws.length : Int)).toNat, Xs2), ⟨by show (ws.eraseIdx _).length ≤ _; have := List.length_eraseIdx_le ws (z / 8 % (ws.length : Int)).toNat; omega, fun x hx => hww x (List.mem_of_mem_eraseIdx hx), hX2⟩, F', S.wk2 (.same rfl (.same rfl (.same rfl (.same rfl (.same (congrArg Sl.ls (er_map _ _ _)) (.same rfl (.no (.no (.no (.no (.no (.no (.no .nil))))))))))))), l⟩
        · have b0 : 0 ≤ z / 8 % ((ws.length : Int) + 1) := Int.emod_nonneg _ (by omega)
          have b1 : z / 8 % ((ws.length : Int) + 1) < (ws.length : Int) + 1 := Int.emod_lt_of_pos _ (by omega)
          have lw : (ws.map PyData.str).length = ws.length := List.length_map _
          have at5 : atI (mD M) (z % 5) = some (.str (tx (pickL M z))) := by
            have := atI_mD (L := M) (m := z) (by rw [hM.1]; omega)
            rw [hM.1] at this
            exact this
          obtain ⟨i, ei⟩ : ∃ i, z / 8 % ((ws.length : Int) + 1) = i := ⟨_, rfl⟩
          rw [ei] at b0 b1
          refine st_ins S l (i := 4) (ds := ws.map PyData.str) (z := i) (d := .str (tx (pickL M z))) rfl (.toD (ev_iC (ev_iC (ev_var rfl) ev_int (CDivY.s (by decide) (by decide))) (ev_ii (f := fun i j => i + j) (ev_len (n := ws.length) (ev_varA rfl) rfl (by show some (ws.map PyData.str).length = _; rw [lw])) ev_int) (by omega)) (congrArg PyData.int ei)) (ev_ixL (ds := mD M) (ev_var rfl) (ev_iC (ev_var rfl) ev_int (by decide)) rfl at5) (by omega) b0 (by omega) fun F' H' S l => ?_
          refine ⟨(ws.take i.toNat ++ [tx (pickL M z)] ++ ws.drop i.toNat, Xs2), ⟨?_, fun x hx => ?_, hX2⟩, F', S.wk2 (.same rfl (.same rfl (.same rfl (.same rfl (.same (congrArg Sl.ls (by simp [List.map_take, List.map_drop])) (.same rfl (.no (.no (.no (.no (.no (.no (.no .nil))))))))))))), l⟩
          · show (ws.take i.toNat ++ [tx (pickL M z)] ++ ws.drop i.toNat).length ≤ _
            rw [List.length_append, List.length_append, List.length_take, List.length_drop, List.length_singleton]
            omega
          · rcases List.mem_append.mp hx with hx | hx
            · rcases List.mem_append.mp hx with hx | hx
              · exact hww x (List.mem_of_mem_take hx)
              · rw [List.mem_singleton.mp hx]
                exact wordOk_len (hM.2 _ (pickL_mem (by rw [hM.1]; omega)))
            · exact hww x (List.mem_of_mem_drop hx)
    · obtain ⟨ws, Xs⟩ := a
      obtain ⟨hwl, hww, hxl⟩ := hP
      have hws : WsOk ws := ⟨hwl, hww⟩
      have hxl : Xs.length ≤ 3 * 4 := hxl
      obtain ⟨p, S, l⟩ := S.fixQ 4 l rfl
      obtain ⟨h, S, l⟩ := S.fixQ 5 l rfl
      refine st_retZ S l (ss' := [.dt (.list (iD ns)), .dt (.list (mD M)), .dt T'.toldD, askS K (qa CWord CStart CRow CNear CBoth CEither CNot) T', .mu (lsAt K p (ws.map PyData.str)), .mu (lsAt K h (hdL (Xs) ++ [twD T' ws])), .no, .no, .no, .no, .no, .no, .no]) (gt' := []) (evZ_andT (W1 := [.dt (.list (iD ns)), .dt (.list (mD M)), .dt T'.toldD, askS K (qa CWord CStart CRow CNear CBoth CEither CNot) T', .mu (lsAt K p (ws.map PyData.str)), .mu (lsAt K h (hdL (Xs) ++ [twD T' ws])), .no, .no, .no, .no, .no, .no, .no] ++ []) rfl (evZ_call (R := R_lr K (qa CWord CStart CRow CNear CBoth CEither CNot)) (X := noXA) (r := .dt (.bool true)) (os' := [lsAt K p (ws.map PyData.str), lsAt K h (hdL (Xs) ++ [twD T' ws])]) (rs := [askS K (qa CWord CStart CRow CNear CBoth CEither CNot) T', .dt (Qt.toldD T'), rfA p, .dt (.int (1)), rfA h]) (es := []) [4, 5] (avP_cons (ss := [.dt (.list (iD ns)), .dt (.list (mD M)), .dt T'.toldD, askS K (qa CWord CStart CRow CNear CBoth CEither CNot) T', .mu (lsAt K p (ws.map PyData.str)), .mu (lsAt K h (hdL (Xs))), .no, .no, .no, .no, .no, .no, .no]) (gt := []) (ev_varX rfl) rfl rfl rfl (avP_cons (ss := [.dt (.list (iD ns)), .dt (.list (mD M)), .dt T'.toldD, askS K (qa CWord CStart CRow CNear CBoth CEither CNot) T', .mu (lsAt K p (ws.map PyData.str)), .mu (lsAt K h (hdL (Xs))), .no, .no, .no, .no, .no, .no, .no]) (gt := []) (ev_var rfl) rfl rfl rfl (avP_own 4 (Nat.le_of_ble_eq_true rfl) rfl (fun _ _ _ e => e.1) (avP_cons (ss := [.dt (.list (iD ns)), .dt (.list (mD M)), .dt T'.toldD, askS K (qa CWord CStart CRow CNear CBoth CEither CNot) T', .mu (lsAt K p (ws.map PyData.str)), .mu (lsAt K h (hdL (Xs))), .no, .no, .no, .no, .no, .no, .no]) (gt := []) ev_int rfl rfl rfl (avP_own 5 (Nat.le_of_ble_eq_true rfl) rfl (fun _ _ _ e => e.1) avP_nil))))) (fun _ => .nil) (by decide) (.cons rfl (.cons rfl .nil)) rfl ⟨T', ws, p, h, 1, hdL (Xs), rfl, rfl, hG, hws, by rw [hdL_len]; omega, rfl, rfl⟩ rfl rfl rfl) (evZ_still [.dt (.list (iD ns)), .dt (.list (mD M)), .dt T'.toldD, askS K (qa CWord CStart CRow CNear CBoth CEither CNot) T', .no, .dt (.list (hdL (Xs ++ [xOf ws T']))), .no, .no, .no, .no, .no, .no, .no] (.toD (ev_eqP (da := .list []) (db := .list []) (.frz (.to (ev_lcL (fun _ => none) (ds := hdL (Xs ++ [xOf ws T'])) (ev_var rfl) rfl (in2 (Nat.le_of_ble_eq_true rfl) (Nat.le_of_ble_eq_true rfl)) (by rw [hdL_len, List.length_append, List.length_singleton]; omega) fun j d hjd => ?_) (congrArg Sl.ls (got_none _)))) (ev_lst (ds := []) av_nil rfl (Nat.le_of_ble_eq_true rfl)) rfl rfl rfl rfl (Nat.le_of_ble_eq_true rfl)) rfl) rfl rfl (.cons (.y (.z .dt)) (.cons (.y (.z .dt)) (.cons (.y (.z .dt)) (.cons (.y (.z .fx)) (.cons (.y (.z .no)) (.cons (.y (hdL_add Xs T' ws ▸ Fy.lsAt)) (.cons (.y (.z .no)) (.cons (.y (.z .no)) (.cons (.y (.z .no)) (.cons (.y (.z .no)) (.cons (.y (.z .no)) (.cons (.y (.z .no)) (.cons (.y (.z .no)) .nil))))))))))))) rfl)) rfl rfl rfl q
      obtain ⟨hj, rfl⟩ := map_at (φ := hdE) [] hjd
      generalize (Xs ++ [xOf ws T']).getD j [] = zs at *
      exact ⟨_, gt_pair (i := 11) (j := 12) (Nat.le_of_ble_eq_true rfl) (Nat.le_of_ble_eq_true rfl) (by decide), .to (tv_test (ev_neP (da := .list (spD zs)) (db := .list (spD zs)) (ev_var rfl) (ev_var rfl) rfl rfl (spD_plain _) (spD_plain _) (spD_deep _))) (by rw [sp_eqv]; rfl), fun h => by cases h⟩
  · exact h.elim
end
theorem all_mk {l : PySem.W.OpenLaw} {w : World} {K : PySem.W.Frag} {h : Heap} {mg : Str → Option Value} {fa : Addr} (X : K.In h) (G : h.Ns mainGlobals mg) (hfa : mg "law" = some (.ref fa))
    {CB CAsk CWord CStart CRow CNear CBoth CEither CNot : Addr}
    (z_all : PySem.W.nsIn K mainGlobals "all" = some none)
    (z_bool : PySem.W.nsIn K mainGlobals "bool" = some none)
    (z_enumerate : PySem.W.nsIn K mainGlobals "enumerate" = some none)
    (z_int : PySem.W.nsIn K mainGlobals "int" = some none)
    (z_isinstance : PySem.W.nsIn K mainGlobals "isinstance" = some none)
    (z_len : PySem.W.nsIn K mainGlobals "len" = some none)
    (z_list : PySem.W.nsIn K mainGlobals "list" = some none)
    (z_max : PySem.W.nsIn K mainGlobals "max" = some none)
    (z_min : PySem.W.nsIn K mainGlobals "min" = some none)
    (z_range : PySem.W.nsIn K mainGlobals "range" = some none)
    (z_set : PySem.W.nsIn K mainGlobals "set" = some none)
    (z_sorted : PySem.W.nsIn K mainGlobals "sorted" = some none)
    (z_str : PySem.W.nsIn K mainGlobals "str" = some none)
    (z_sum : PySem.W.nsIn K mainGlobals "sum" = some none)
    (z_tuple : PySem.W.nsIn K mainGlobals "tuple" = some none)
    (z_zip : PySem.W.nsIn K mainGlobals "zip" = some none)
    (z_c_BadAsk : PySem.W.nsIn K mainGlobals "BadAsk" = some (some (.ref CB)))
    (z_k_BadAsk : PySem.W.keepIn K (.ref CB) = true)
    (z_x_BadAsk : PySem.W.excIn K CB [.type "ValueError", .type "Exception", .type "BaseException", .type "object"] "ValueError.__new__" = true)
    (z_b_BadAsk : PySem.W.subIn K (.ref CB) (.type "BaseException") = some true)
    (z_t_BadAsk : PySem.W.typeIn K (.ref CB) = some (.type "type"))
    (z_c_Ask : PySem.W.nsIn K mainGlobals "Ask" = some (some (.ref CAsk)))
    (z_c_Word : PySem.W.nsIn K mainGlobals "Word" = some (some (.ref CWord)))
    (z_cl_Word : Cls K CWord)
    (z_mk_Word : PySem.W.makesIn K CWord = true)
    (z_kp_Word : PySem.W.keepIn K (.ref CWord) = true)
    (z_n_Word_word : PySem.W.findIn K (.ref CWord) "word" = some none)
    (z_c_Start : PySem.W.nsIn K mainGlobals "Start" = some (some (.ref CStart)))
    (z_cl_Start : Cls K CStart)
    (z_mk_Start : PySem.W.makesIn K CStart = true)
    (z_kp_Start : PySem.W.keepIn K (.ref CStart) = true)
    (z_n_Start_word : PySem.W.findIn K (.ref CStart) "word" = some none)
    (z_c_Row : PySem.W.nsIn K mainGlobals "Row" = some (some (.ref CRow)))
    (z_cl_Row : Cls K CRow)
    (z_mk_Row : PySem.W.makesIn K CRow = true)
    (z_kp_Row : PySem.W.keepIn K (.ref CRow) = true)
    (z_n_Row_side_by_side : PySem.W.findIn K (.ref CRow) "side_by_side" = some none)
    (z_c_Near : PySem.W.nsIn K mainGlobals "Near" = some (some (.ref CNear)))
    (z_cl_Near : Cls K CNear)
    (z_mk_Near : PySem.W.makesIn K CNear = true)
    (z_kp_Near : PySem.W.keepIn K (.ref CNear) = true)
    (z_n_Near_one : PySem.W.findIn K (.ref CNear) "one" = some none)
    (z_n_Near_other : PySem.W.findIn K (.ref CNear) "other" = some none)
    (z_n_Near_far : PySem.W.findIn K (.ref CNear) "far" = some none)
    (z_c_Both : PySem.W.nsIn K mainGlobals "Both" = some (some (.ref CBoth)))
    (z_cl_Both : Cls K CBoth)
    (z_mk_Both : PySem.W.makesIn K CBoth = true)
    (z_kp_Both : PySem.W.keepIn K (.ref CBoth) = true)
    (z_n_Both_one : PySem.W.findIn K (.ref CBoth) "one" = some none)
    (z_n_Both_other : PySem.W.findIn K (.ref CBoth) "other" = some none)
    (z_c_Either : PySem.W.nsIn K mainGlobals "Either" = some (some (.ref CEither)))
    (z_cl_Either : Cls K CEither)
    (z_mk_Either : PySem.W.makesIn K CEither = true)
    (z_kp_Either : PySem.W.keepIn K (.ref CEither) = true)
    (z_n_Either_one : PySem.W.findIn K (.ref CEither) "one" = some none)
    (z_n_Either_other : PySem.W.findIn K (.ref CEither) "other" = some none)
    (z_c_Not : PySem.W.nsIn K mainGlobals "Not" = some (some (.ref CNot)))
    (z_cl_Not : Cls K CNot)
    (z_mk_Not : PySem.W.makesIn K CNot = true)
    (z_kp_Not : PySem.W.keepIn K (.ref CNot) = true)
    (z_n_Not_one : PySem.W.findIn K (.ref CNot) "one" = some none)
    {t_g_KEY_SIGNS : Tok} (z_g_KEY_SIGNS : PySem.W.nsIn K mainGlobals "KEY_SIGNS" = some (some (.str "abcdefghijklmnopqrstuvwxyz0123456789" t_g_KEY_SIGNS)))
    {t_g_MOST_ASKS : Tok} (z_g_MOST_ASKS : PySem.W.nsIn K mainGlobals "MOST_ASKS" = some (some (.int 40 t_g_MOST_ASKS)))
    {t_g_MOST_DEEP : Tok} (z_g_MOST_DEEP : PySem.W.nsIn K mainGlobals "MOST_DEEP" = some (some (.int 8 t_g_MOST_DEEP)))
    {t_g_MOST_FAR : Tok} (z_g_MOST_FAR : PySem.W.nsIn K mainGlobals "MOST_FAR" = some (some (.int 20 t_g_MOST_FAR)))
    {t_g_MOST_SIDE : Tok} (z_g_MOST_SIDE : PySem.W.nsIn K mainGlobals "MOST_SIDE" = some (some (.int 8 t_g_MOST_SIDE)))
    {t_g_MOST_SIGNS : Tok} (z_g_MOST_SIGNS : PySem.W.nsIn K mainGlobals "MOST_SIGNS" = some (some (.int 2000 t_g_MOST_SIGNS)))
    {f_0 : Addr} {oc_0 kV_0 dc_0 pm_0 cd_0 ct_0 : Value} {od_0 an_0 : Option Addr} {sl_0 : Array (Option Value)}
    (a_0 : PySem.W.nsIn K mainGlobals "is_whole" = some (some (.ref f_0)))
    (l_0 : K.lookup f_0 = some ⟨oc_0, od_0, .func (PySem.W.fnOf "is_whole" "is_whole" (defArgs s_is_whole) (defBody s_is_whole) (defScope s_is_whole) .none kV_0 dc_0 pm_0 an_0 cd_0 ct_0), sl_0⟩) (c_0 : PySem.W.codeIn K cd_0 "is_whole" = true) (k_0 : PySem.W.keepIn K (.ref f_0) = true)
    {f_1 : Addr} {oc_1 kV_1 dc_1 pm_1 cd_1 ct_1 : Value} {od_1 an_1 : Option Addr} {sl_1 : Array (Option Value)}
    (a_1 : PySem.W.nsIn K mainGlobals "_law_mixed" = some (some (.ref f_1)))
    (l_1 : K.lookup f_1 = some ⟨oc_1, od_1, .func (PySem.W.fnOf "_law_mixed" "_law_mixed" (defArgs s__law_mixed) (defBody s__law_mixed) (defScope s__law_mixed) .none kV_1 dc_1 pm_1 an_1 cd_1 ct_1), sl_1⟩) (c_1 : PySem.W.codeIn K cd_1 "_law_mixed" = true) (k_1 : PySem.W.keepIn K (.ref f_1) = true)
    {f_2 : Addr} {oc_2 kV_2 dc_2 pm_2 cd_2 ct_2 : Value} {od_2 an_2 : Option Addr} {sl_2 : Array (Option Value)}
    (a_2 : PySem.W.nsIn K mainGlobals "_law_number" = some (some (.ref f_2)))
    (l_2 : K.lookup f_2 = some ⟨oc_2, od_2, .func (PySem.W.fnOf "_law_number" "_law_number" (defArgs s__law_number) (defBody s__law_number) (defScope s__law_number) .none kV_2 dc_2 pm_2 an_2 cd_2 ct_2), sl_2⟩) (c_2 : PySem.W.codeIn K cd_2 "_law_number" = true) (k_2 : PySem.W.keepIn K (.ref f_2) = true)
    {f_3 : Addr} {oc_3 kV_3 dc_3 pm_3 cd_3 ct_3 : Value} {od_3 an_3 : Option Addr} {sl_3 : Array (Option Value)}
    (a_3 : PySem.W.nsIn K mainGlobals "is_word" = some (some (.ref f_3)))
    (l_3 : K.lookup f_3 = some ⟨oc_3, od_3, .func (PySem.W.fnOf "is_word" "is_word" (defArgs s_is_word) (defBody s_is_word) (defScope s_is_word) .none kV_3 dc_3 pm_3 an_3 cd_3 ct_3), sl_3⟩) (c_3 : PySem.W.codeIn K cd_3 "is_word" = true) (k_3 : PySem.W.keepIn K (.ref f_3) = true)
    {f_4 : Addr} {oc_4 kV_4 dc_4 pm_4 cd_4 ct_4 : Value} {od_4 an_4 : Option Addr} {sl_4 : Array (Option Value)}
    (a_4 : PySem.W.nsIn K mainGlobals "many_asks" = some (some (.ref f_4)))
    (l_4 : K.lookup f_4 = some ⟨oc_4, od_4, .func (PySem.W.fnOf "many_asks" "many_asks" (defArgs s_many_asks) (defBody s_many_asks) (defScope s_many_asks) .none kV_4 dc_4 pm_4 an_4 cd_4 ct_4), sl_4⟩) (c_4 : PySem.W.codeIn K cd_4 "many_asks" = true) (k_4 : PySem.W.keepIn K (.ref f_4) = true)
    {f_5 : Addr} {oc_5 kV_5 dc_5 pm_5 cd_5 ct_5 : Value} {od_5 an_5 : Option Addr} {sl_5 : Array (Option Value)}
    (a_5 : PySem.W.nsIn K mainGlobals "need_ask" = some (some (.ref f_5)))
    (l_5 : K.lookup f_5 = some ⟨oc_5, od_5, .func (PySem.W.fnOf "need_ask" "need_ask" (defArgs s_need_ask) (defBody s_need_ask) (defScope s_need_ask) .none kV_5 dc_5 pm_5 an_5 cd_5 ct_5), sl_5⟩) (c_5 : PySem.W.codeIn K cd_5 "need_ask" = true) (k_5 : PySem.W.keepIn K (.ref f_5) = true)
    {f_6 : Addr} {oc_6 kV_6 dc_6 pm_6 cd_6 ct_6 : Value} {od_6 an_6 : Option Addr} {sl_6 : Array (Option Value)}
    (a_6 : PySem.W.nsIn K mainGlobals "plain_of" = some (some (.ref f_6)))
    (l_6 : K.lookup f_6 = some ⟨oc_6, od_6, .func (PySem.W.fnOf "plain_of" "plain_of" (defArgs s_plain_of) (defBody s_plain_of) (defScope s_plain_of) .none kV_6 dc_6 pm_6 an_6 cd_6 ct_6), sl_6⟩) (c_6 : PySem.W.codeIn K cd_6 "plain_of" = true) (k_6 : PySem.W.keepIn K (.ref f_6) = true)
    {f_7 : Addr} {oc_7 kV_7 dc_7 pm_7 cd_7 ct_7 : Value} {od_7 an_7 : Option Addr} {sl_7 : Array (Option Value)}
    (a_7 : PySem.W.nsIn K mainGlobals "made_of" = some (some (.ref f_7)))
    (l_7 : K.lookup f_7 = some ⟨oc_7, od_7, .func (PySem.W.fnOf "made_of" "made_of" (defArgs s_made_of) (defBody s_made_of) (defScope s_made_of) .none kV_7 dc_7 pm_7 an_7 cd_7 ct_7), sl_7⟩) (c_7 : PySem.W.codeIn K cd_7 "made_of" = true) (k_7 : PySem.W.keepIn K (.ref f_7) = true)
    {f_8 : Addr} {oc_8 kV_8 dc_8 pm_8 cd_8 ct_8 : Value} {od_8 an_8 : Option Addr} {sl_8 : Array (Option Value)}
    (a_8 : PySem.W.nsIn K mainGlobals "ask_of" = some (some (.ref f_8)))
    (l_8 : K.lookup f_8 = some ⟨oc_8, od_8, .func (PySem.W.fnOf "ask_of" "ask_of" (defArgs s_ask_of) (defBody s_ask_of) (defScope s_ask_of) .none kV_8 dc_8 pm_8 an_8 cd_8 ct_8), sl_8⟩) (c_8 : PySem.W.codeIn K cd_8 "ask_of" = true) (k_8 : PySem.W.keepIn K (.ref f_8) = true)
    {f_9 : Addr} {oc_9 kV_9 dc_9 pm_9 cd_9 ct_9 : Value} {od_9 an_9 : Option Addr} {sl_9 : Array (Option Value)}
    (a_9 : PySem.W.nsIn K mainGlobals "joined" = some (some (.ref f_9)))
    (l_9 : K.lookup f_9 = some ⟨oc_9, od_9, .func (PySem.W.fnOf "joined" "joined" (defArgs s_joined) (defBody s_joined) (defScope s_joined) .none kV_9 dc_9 pm_9 an_9 cd_9 ct_9), sl_9⟩) (c_9 : PySem.W.codeIn K cd_9 "joined" = true) (k_9 : PySem.W.keepIn K (.ref f_9) = true)
    {f_10 : Addr} {oc_10 kV_10 dc_10 pm_10 cd_10 ct_10 : Value} {od_10 an_10 : Option Addr} {sl_10 : Array (Option Value)}
    (a_10 : PySem.W.nsIn K mainGlobals "_law_menu" = some (some (.ref f_10)))
    (l_10 : K.lookup f_10 = some ⟨oc_10, od_10, .func (PySem.W.fnOf "_law_menu" "_law_menu" (defArgs s__law_menu) (defBody s__law_menu) (defScope s__law_menu) .none kV_10 dc_10 pm_10 an_10 cd_10 ct_10), sl_10⟩) (c_10 : PySem.W.codeIn K cd_10 "_law_menu" = true) (k_10 : PySem.W.keepIn K (.ref f_10) = true)
    {f_11 : Addr} {oc_11 kV_11 dc_11 pm_11 cd_11 ct_11 : Value} {od_11 an_11 : Option Addr} {sl_11 : Array (Option Value)}
    (a_11 : PySem.W.nsIn K mainGlobals "_law_plain" = some (some (.ref f_11)))
    (l_11 : K.lookup f_11 = some ⟨oc_11, od_11, .func (PySem.W.fnOf "_law_plain" "_law_plain" (defArgs s__law_plain) (defBody s__law_plain) (defScope s__law_plain) .none kV_11 dc_11 pm_11 an_11 cd_11 ct_11), sl_11⟩) (c_11 : PySem.W.codeIn K cd_11 "_law_plain" = true) (k_11 : PySem.W.keepIn K (.ref f_11) = true)
    {f_12 : Addr} {oc_12 kV_12 dc_12 pm_12 cd_12 ct_12 : Value} {od_12 an_12 : Option Addr} {sl_12 : Array (Option Value)}
    (a_12 : PySem.W.nsIn K mainGlobals "_law_tree" = some (some (.ref f_12)))
    (l_12 : K.lookup f_12 = some ⟨oc_12, od_12, .func (PySem.W.fnOf "_law_tree" "_law_tree" (defArgs s__law_tree) (defBody s__law_tree) (defScope s__law_tree) .none kV_12 dc_12 pm_12 an_12 cd_12 ct_12), sl_12⟩) (c_12 : PySem.W.codeIn K cd_12 "_law_tree" = true) (k_12 : PySem.W.keepIn K (.ref f_12) = true)
    {f_13 : Addr} {oc_13 kV_13 dc_13 pm_13 cd_13 ct_13 : Value} {od_13 an_13 : Option Addr} {sl_13 : Array (Option Value)}
    (a_13 : PySem.W.nsIn K mainGlobals "_law_kids" = some (some (.ref f_13)))
    (l_13 : K.lookup f_13 = some ⟨oc_13, od_13, .func (PySem.W.fnOf "_law_kids" "_law_kids" (defArgs s__law_kids) (defBody s__law_kids) (defScope s__law_kids) .none kV_13 dc_13 pm_13 an_13 cd_13 ct_13), sl_13⟩) (c_13 : PySem.W.codeIn K cd_13 "_law_kids" = true) (k_13 : PySem.W.keepIn K (.ref f_13) = true)
    {f_14 : Addr} {oc_14 kV_14 dc_14 pm_14 cd_14 ct_14 : Value} {od_14 an_14 : Option Addr} {sl_14 : Array (Option Value)}
    (a_14 : PySem.W.nsIn K mainGlobals "_law_plain_spans" = some (some (.ref f_14)))
    (l_14 : K.lookup f_14 = some ⟨oc_14, od_14, .func (PySem.W.fnOf "_law_plain_spans" "_law_plain_spans" (defArgs s__law_plain_spans) (defBody s__law_plain_spans) (defScope s__law_plain_spans) .none kV_14 dc_14 pm_14 an_14 cd_14 ct_14), sl_14⟩) (c_14 : PySem.W.codeIn K cd_14 "_law_plain_spans" = true) (k_14 : PySem.W.keepIn K (.ref f_14) = true)
    {f_15 : Addr} {oc_15 kV_15 dc_15 pm_15 cd_15 ct_15 : Value} {od_15 an_15 : Option Addr} {sl_15 : Array (Option Value)}
    (a_15 : PySem.W.nsIn K mainGlobals "_law_spans" = some (some (.ref f_15)))
    (l_15 : K.lookup f_15 = some ⟨oc_15, od_15, .func (PySem.W.fnOf "_law_spans" "_law_spans" (defArgs s__law_spans) (defBody s__law_spans) (defScope s__law_spans) .none kV_15 dc_15 pm_15 an_15 cd_15 ct_15), sl_15⟩) (c_15 : PySem.W.codeIn K cd_15 "_law_spans" = true) (k_15 : PySem.W.keepIn K (.ref f_15) = true)
    {f_16 : Addr} {oc_16 kV_16 dc_16 pm_16 cd_16 ct_16 : Value} {od_16 an_16 : Option Addr} {sl_16 : Array (Option Value)}
    (a_16 : PySem.W.nsIn K mainGlobals "_law_holds" = some (some (.ref f_16)))
    (l_16 : K.lookup f_16 = some ⟨oc_16, od_16, .func (PySem.W.fnOf "_law_holds" "_law_holds" (defArgs s__law_holds) (defBody s__law_holds) (defScope s__law_holds) .none kV_16 dc_16 pm_16 an_16 cd_16 ct_16), sl_16⟩) (c_16 : PySem.W.codeIn K cd_16 "_law_holds" = true) (k_16 : PySem.W.keepIn K (.ref f_16) = true)
    {f_17 : Addr} {oc_17 kV_17 dc_17 pm_17 cd_17 ct_17 : Value} {od_17 an_17 : Option Addr} {sl_17 : Array (Option Value)}
    (a_17 : PySem.W.nsIn K mainGlobals "_law_spans_right" = some (some (.ref f_17)))
    (l_17 : K.lookup f_17 = some ⟨oc_17, od_17, .func (PySem.W.fnOf "_law_spans_right" "_law_spans_right" (defArgs s__law_spans_right) (defBody s__law_spans_right) (defScope s__law_spans_right) .none kV_17 dc_17 pm_17 an_17 cd_17 ct_17), sl_17⟩) (c_17 : PySem.W.codeIn K cd_17 "_law_spans_right" = true) (k_17 : PySem.W.keepIn K (.ref f_17) = true)
    {f_18 : Addr} {oc_18 kV_18 dc_18 pm_18 cd_18 ct_18 : Value} {od_18 an_18 : Option Addr} {sl_18 : Array (Option Value)}
    (a_18 : PySem.W.nsIn K mainGlobals "_law_right" = some (some (.ref f_18)))
    (l_18 : K.lookup f_18 = some ⟨oc_18, od_18, .func (PySem.W.fnOf "_law_right" "_law_right" (defArgs s__law_right) (defBody s__law_right) (defScope s__law_right) .none kV_18 dc_18 pm_18 an_18 cd_18 ct_18), sl_18⟩) (c_18 : PySem.W.codeIn K cd_18 "_law_right" = true) (k_18 : PySem.W.keepIn K (.ref f_18) = true)
    {f_19 : Addr} {oc_19 kV_19 dc_19 pm_19 cd_19 ct_19 : Value} {od_19 an_19 : Option Addr} {sl_19 : Array (Option Value)}
    (a_19 : PySem.W.nsIn K mainGlobals "_law_drawn_words" = some (some (.ref f_19)))
    (l_19 : K.lookup f_19 = some ⟨oc_19, od_19, .func (PySem.W.fnOf "_law_drawn_words" "_law_drawn_words" (defArgs s__law_drawn_words) (defBody s__law_drawn_words) (defScope s__law_drawn_words) .none kV_19 dc_19 pm_19 an_19 cd_19 ct_19), sl_19⟩) (c_19 : PySem.W.codeIn K cd_19 "_law_drawn_words" = true) (k_19 : PySem.W.keepIn K (.ref f_19) = true)
    {f_20 : Addr} {oc_20 kV_20 dc_20 pm_20 cd_20 ct_20 : Value} {od_20 an_20 : Option Addr} {sl_20 : Array (Option Value)}
    (a_20Word : PySem.W.findIn K (.ref CWord) "__init__" = some (some (.ref f_20)))
    (i_20 : PySem.W.isFn K (.ref f_20) = true)
    (l_20 : K.lookup f_20 = some ⟨oc_20, od_20, .func (PySem.W.fnOf "__init__" "Word.__init__" (defArgs s_Word___init__) (defBody s_Word___init__) (defScope s_Word___init__) .none kV_20 dc_20 pm_20 an_20 cd_20 ct_20), sl_20⟩) (c_20 : PySem.W.codeIn K cd_20 "Word.__init__" = true) (k_20 : PySem.W.keepIn K (.ref f_20) = true)
    {f_21 : Addr} {oc_21 kV_21 dc_21 pm_21 cd_21 ct_21 : Value} {od_21 an_21 : Option Addr} {sl_21 : Array (Option Value)}
    (a_21Start : PySem.W.findIn K (.ref CStart) "__init__" = some (some (.ref f_21)))
    (i_21 : PySem.W.isFn K (.ref f_21) = true)
    (l_21 : K.lookup f_21 = some ⟨oc_21, od_21, .func (PySem.W.fnOf "__init__" "Start.__init__" (defArgs s_Start___init__) (defBody s_Start___init__) (defScope s_Start___init__) .none kV_21 dc_21 pm_21 an_21 cd_21 ct_21), sl_21⟩) (c_21 : PySem.W.codeIn K cd_21 "Start.__init__" = true) (k_21 : PySem.W.keepIn K (.ref f_21) = true)
    {f_22 : Addr} {oc_22 kV_22 dc_22 pm_22 cd_22 ct_22 : Value} {od_22 an_22 : Option Addr} {sl_22 : Array (Option Value)}
    (a_22Not : PySem.W.findIn K (.ref CNot) "__init__" = some (some (.ref f_22)))
    (i_22 : PySem.W.isFn K (.ref f_22) = true)
    (l_22 : K.lookup f_22 = some ⟨oc_22, od_22, .func (PySem.W.fnOf "__init__" "Not.__init__" (defArgs s_Not___init__) (defBody s_Not___init__) (defScope s_Not___init__) .none kV_22 dc_22 pm_22 an_22 cd_22 ct_22), sl_22⟩) (c_22 : PySem.W.codeIn K cd_22 "Not.__init__" = true) (k_22 : PySem.W.keepIn K (.ref f_22) = true)
    {f_23 : Addr} {oc_23 kV_23 dc_23 pm_23 cd_23 ct_23 : Value} {od_23 an_23 : Option Addr} {sl_23 : Array (Option Value)}
    (a_23Both : PySem.W.findIn K (.ref CBoth) "__init__" = some (some (.ref f_23)))
    (a_23Either : PySem.W.findIn K (.ref CEither) "__init__" = some (some (.ref f_23)))
    (i_23 : PySem.W.isFn K (.ref f_23) = true)
    (l_23 : K.lookup f_23 = some ⟨oc_23, od_23, .func (PySem.W.fnOf "__init__" "Pair.__init__" (defArgs s_Pair___init__) (defBody s_Pair___init__) (defScope s_Pair___init__) .none kV_23 dc_23 pm_23 an_23 cd_23 ct_23), sl_23⟩) (c_23 : PySem.W.codeIn K cd_23 "Pair.__init__" = true) (k_23 : PySem.W.keepIn K (.ref f_23) = true)
    {f_24 : Addr} {oc_24 kV_24 dc_24 pm_24 cd_24 ct_24 : Value} {od_24 an_24 : Option Addr} {sl_24 : Array (Option Value)}
    (a_24Near : PySem.W.findIn K (.ref CNear) "__init__" = some (some (.ref f_24)))
    (i_24 : PySem.W.isFn K (.ref f_24) = true)
    (l_24 : K.lookup f_24 = some ⟨oc_24, od_24, .func (PySem.W.fnOf "__init__" "Near.__init__" (defArgs s_Near___init__) (defBody s_Near___init__) (defScope s_Near___init__) .none kV_24 dc_24 pm_24 an_24 cd_24 ct_24), sl_24⟩) (c_24 : PySem.W.codeIn K cd_24 "Near.__init__" = true) (k_24 : PySem.W.keepIn K (.ref f_24) = true)
    {f_25 : Addr} {oc_25 kV_25 dc_25 pm_25 cd_25 ct_25 : Value} {od_25 an_25 : Option Addr} {sl_25 : Array (Option Value)}
    (a_25Row : PySem.W.findIn K (.ref CRow) "__init__" = some (some (.ref f_25)))
    (i_25 : PySem.W.isFn K (.ref f_25) = true)
    (l_25 : K.lookup f_25 = some ⟨oc_25, od_25, .func (PySem.W.fnOf "__init__" "Row.__init__" (defArgs s_Row___init__) (defBody s_Row___init__) (defScope s_Row___init__) .none kV_25 dc_25 pm_25 an_25 cd_25 ct_25), sl_25⟩) (c_25 : PySem.W.codeIn K cd_25 "Row.__init__" = true) (k_25 : PySem.W.keepIn K (.ref f_25) = true)
    {f_26 : Addr} {oc_26 kV_26 dc_26 pm_26 cd_26 ct_26 : Value} {od_26 an_26 : Option Addr} {sl_26 : Array (Option Value)}
    (a_26Word : PySem.W.findIn K (.ref CWord) "kids" = some (some (.ref f_26)))
    (a_26Start : PySem.W.findIn K (.ref CStart) "kids" = some (some (.ref f_26)))
    (a_26Row : PySem.W.findIn K (.ref CRow) "kids" = some (some (.ref f_26)))
    (i_26 : PySem.W.isFn K (.ref f_26) = true)
    (l_26 : K.lookup f_26 = some ⟨oc_26, od_26, .func (PySem.W.fnOf "kids" "Ask.kids" (defArgs s_Ask_kids) (defBody s_Ask_kids) (defScope s_Ask_kids) .none kV_26 dc_26 pm_26 an_26 cd_26 ct_26), sl_26⟩) (c_26 : PySem.W.codeIn K cd_26 "Ask.kids" = true) (k_26 : PySem.W.keepIn K (.ref f_26) = true)
    {f_27 : Addr} {oc_27 kV_27 dc_27 pm_27 cd_27 ct_27 : Value} {od_27 an_27 : Option Addr} {sl_27 : Array (Option Value)}
    (a_27Near : PySem.W.findIn K (.ref CNear) "kids" = some (some (.ref f_27)))
    (i_27 : PySem.W.isFn K (.ref f_27) = true)
    (l_27 : K.lookup f_27 = some ⟨oc_27, od_27, .func (PySem.W.fnOf "kids" "Near.kids" (defArgs s_Near_kids) (defBody s_Near_kids) (defScope s_Near_kids) .none kV_27 dc_27 pm_27 an_27 cd_27 ct_27), sl_27⟩) (c_27 : PySem.W.codeIn K cd_27 "Near.kids" = true) (k_27 : PySem.W.keepIn K (.ref f_27) = true)
    {f_28 : Addr} {oc_28 kV_28 dc_28 pm_28 cd_28 ct_28 : Value} {od_28 an_28 : Option Addr} {sl_28 : Array (Option Value)}
    (a_28Not : PySem.W.findIn K (.ref CNot) "kids" = some (some (.ref f_28)))
    (i_28 : PySem.W.isFn K (.ref f_28) = true)
    (l_28 : K.lookup f_28 = some ⟨oc_28, od_28, .func (PySem.W.fnOf "kids" "Not.kids" (defArgs s_Not_kids) (defBody s_Not_kids) (defScope s_Not_kids) .none kV_28 dc_28 pm_28 an_28 cd_28 ct_28), sl_28⟩) (c_28 : PySem.W.codeIn K cd_28 "Not.kids" = true) (k_28 : PySem.W.keepIn K (.ref f_28) = true)
    {f_29 : Addr} {oc_29 kV_29 dc_29 pm_29 cd_29 ct_29 : Value} {od_29 an_29 : Option Addr} {sl_29 : Array (Option Value)}
    (a_29Both : PySem.W.findIn K (.ref CBoth) "kids" = some (some (.ref f_29)))
    (a_29Either : PySem.W.findIn K (.ref CEither) "kids" = some (some (.ref f_29)))
    (i_29 : PySem.W.isFn K (.ref f_29) = true)
    (l_29 : K.lookup f_29 = some ⟨oc_29, od_29, .func (PySem.W.fnOf "kids" "Pair.kids" (defArgs s_Pair_kids) (defBody s_Pair_kids) (defScope s_Pair_kids) .none kV_29 dc_29 pm_29 an_29 cd_29 ct_29), sl_29⟩) (c_29 : PySem.W.codeIn K cd_29 "Pair.kids" = true) (k_29 : PySem.W.keepIn K (.ref f_29) = true)
    {f_30 : Addr} {oc_30 kV_30 dc_30 pm_30 cd_30 ct_30 : Value} {od_30 an_30 : Option Addr} {sl_30 : Array (Option Value)}
    (a_30Word : PySem.W.findIn K (.ref CWord) "spans" = some (some (.ref f_30)))
    (i_30 : PySem.W.isFn K (.ref f_30) = true)
    (l_30 : K.lookup f_30 = some ⟨oc_30, od_30, .func (PySem.W.fnOf "spans" "Word.spans" (defArgs s_Word_spans) (defBody s_Word_spans) (defScope s_Word_spans) .none kV_30 dc_30 pm_30 an_30 cd_30 ct_30), sl_30⟩) (c_30 : PySem.W.codeIn K cd_30 "Word.spans" = true) (k_30 : PySem.W.keepIn K (.ref f_30) = true)
    {f_31 : Addr} {oc_31 kV_31 dc_31 pm_31 cd_31 ct_31 : Value} {od_31 an_31 : Option Addr} {sl_31 : Array (Option Value)}
    (a_31Start : PySem.W.findIn K (.ref CStart) "spans" = some (some (.ref f_31)))
    (i_31 : PySem.W.isFn K (.ref f_31) = true)
    (l_31 : K.lookup f_31 = some ⟨oc_31, od_31, .func (PySem.W.fnOf "spans" "Start.spans" (defArgs s_Start_spans) (defBody s_Start_spans) (defScope s_Start_spans) .none kV_31 dc_31 pm_31 an_31 cd_31 ct_31), sl_31⟩) (c_31 : PySem.W.codeIn K cd_31 "Start.spans" = true) (k_31 : PySem.W.keepIn K (.ref f_31) = true)
    {f_32 : Addr} {oc_32 kV_32 dc_32 pm_32 cd_32 ct_32 : Value} {od_32 an_32 : Option Addr} {sl_32 : Array (Option Value)}
    (a_32Row : PySem.W.findIn K (.ref CRow) "spans" = some (some (.ref f_32)))
    (i_32 : PySem.W.isFn K (.ref f_32) = true)
    (l_32 : K.lookup f_32 = some ⟨oc_32, od_32, .func (PySem.W.fnOf "spans" "Row.spans" (defArgs s_Row_spans) (defBody s_Row_spans) (defScope s_Row_spans) .none kV_32 dc_32 pm_32 an_32 cd_32 ct_32), sl_32⟩) (c_32 : PySem.W.codeIn K cd_32 "Row.spans" = true) (k_32 : PySem.W.keepIn K (.ref f_32) = true)
    {f_33 : Addr} {oc_33 kV_33 dc_33 pm_33 cd_33 ct_33 : Value} {od_33 an_33 : Option Addr} {sl_33 : Array (Option Value)}
    (a_33Near : PySem.W.findIn K (.ref CNear) "spans" = some (some (.ref f_33)))
    (i_33 : PySem.W.isFn K (.ref f_33) = true)
    (l_33 : K.lookup f_33 = some ⟨oc_33, od_33, .func (PySem.W.fnOf "spans" "Near.spans" (defArgs s_Near_spans) (defBody s_Near_spans) (defScope s_Near_spans) .none kV_33 dc_33 pm_33 an_33 cd_33 ct_33), sl_33⟩) (c_33 : PySem.W.codeIn K cd_33 "Near.spans" = true) (k_33 : PySem.W.keepIn K (.ref f_33) = true)
    {f_34 : Addr} {oc_34 kV_34 dc_34 pm_34 cd_34 ct_34 : Value} {od_34 an_34 : Option Addr} {sl_34 : Array (Option Value)}
    (a_34Both : PySem.W.findIn K (.ref CBoth) "spans" = some (some (.ref f_34)))
    (a_34Either : PySem.W.findIn K (.ref CEither) "spans" = some (some (.ref f_34)))
    (i_34 : PySem.W.isFn K (.ref f_34) = true)
    (l_34 : K.lookup f_34 = some ⟨oc_34, od_34, .func (PySem.W.fnOf "spans" "Ask.spans" (defArgs s_Ask_spans) (defBody s_Ask_spans) (defScope s_Ask_spans) .none kV_34 dc_34 pm_34 an_34 cd_34 ct_34), sl_34⟩) (c_34 : PySem.W.codeIn K cd_34 "Ask.spans" = true) (k_34 : PySem.W.keepIn K (.ref f_34) = true)
    {f_35 : Addr} {oc_35 kV_35 dc_35 pm_35 cd_35 ct_35 : Value} {od_35 an_35 : Option Addr} {sl_35 : Array (Option Value)}
    (a_35Not : PySem.W.findIn K (.ref CNot) "spans" = some (some (.ref f_35)))
    (i_35 : PySem.W.isFn K (.ref f_35) = true)
    (l_35 : K.lookup f_35 = some ⟨oc_35, od_35, .func (PySem.W.fnOf "spans" "Not.spans" (defArgs s_Not_spans) (defBody s_Not_spans) (defScope s_Not_spans) .none kV_35 dc_35 pm_35 an_35 cd_35 ct_35), sl_35⟩) (c_35 : PySem.W.codeIn K cd_35 "Not.spans" = true) (k_35 : PySem.W.keepIn K (.ref f_35) = true)
    {f_36 : Addr} {oc_36 kV_36 dc_36 pm_36 cd_36 ct_36 : Value} {od_36 an_36 : Option Addr} {sl_36 : Array (Option Value)}
    (a_36Word : PySem.W.findIn K (.ref CWord) "holds" = some (some (.ref f_36)))
    (a_36Start : PySem.W.findIn K (.ref CStart) "holds" = some (some (.ref f_36)))
    (a_36Row : PySem.W.findIn K (.ref CRow) "holds" = some (some (.ref f_36)))
    (a_36Near : PySem.W.findIn K (.ref CNear) "holds" = some (some (.ref f_36)))
    (i_36 : PySem.W.isFn K (.ref f_36) = true)
    (l_36 : K.lookup f_36 = some ⟨oc_36, od_36, .func (PySem.W.fnOf "holds" "Ask.holds" (defArgs s_Ask_holds) (defBody s_Ask_holds) (defScope s_Ask_holds) .none kV_36 dc_36 pm_36 an_36 cd_36 ct_36), sl_36⟩) (c_36 : PySem.W.codeIn K cd_36 "Ask.holds" = true) (k_36 : PySem.W.keepIn K (.ref f_36) = true)
    {f_37 : Addr} {oc_37 kV_37 dc_37 pm_37 cd_37 ct_37 : Value} {od_37 an_37 : Option Addr} {sl_37 : Array (Option Value)}
    (a_37Both : PySem.W.findIn K (.ref CBoth) "holds" = some (some (.ref f_37)))
    (i_37 : PySem.W.isFn K (.ref f_37) = true)
    (l_37 : K.lookup f_37 = some ⟨oc_37, od_37, .func (PySem.W.fnOf "holds" "Both.holds" (defArgs s_Both_holds) (defBody s_Both_holds) (defScope s_Both_holds) .none kV_37 dc_37 pm_37 an_37 cd_37 ct_37), sl_37⟩) (c_37 : PySem.W.codeIn K cd_37 "Both.holds" = true) (k_37 : PySem.W.keepIn K (.ref f_37) = true)
    {f_38 : Addr} {oc_38 kV_38 dc_38 pm_38 cd_38 ct_38 : Value} {od_38 an_38 : Option Addr} {sl_38 : Array (Option Value)}
    (a_38Either : PySem.W.findIn K (.ref CEither) "holds" = some (some (.ref f_38)))
    (i_38 : PySem.W.isFn K (.ref f_38) = true)
    (l_38 : K.lookup f_38 = some ⟨oc_38, od_38, .func (PySem.W.fnOf "holds" "Either.holds" (defArgs s_Either_holds) (defBody s_Either_holds) (defScope s_Either_holds) .none kV_38 dc_38 pm_38 an_38 cd_38 ct_38), sl_38⟩) (c_38 : PySem.W.codeIn K cd_38 "Either.holds" = true) (k_38 : PySem.W.keepIn K (.ref f_38) = true)
    {f_39 : Addr} {oc_39 kV_39 dc_39 pm_39 cd_39 ct_39 : Value} {od_39 an_39 : Option Addr} {sl_39 : Array (Option Value)}
    (a_39Not : PySem.W.findIn K (.ref CNot) "holds" = some (some (.ref f_39)))
    (i_39 : PySem.W.isFn K (.ref f_39) = true)
    (l_39 : K.lookup f_39 = some ⟨oc_39, od_39, .func (PySem.W.fnOf "holds" "Not.holds" (defArgs s_Not_holds) (defBody s_Not_holds) (defScope s_Not_holds) .none kV_39 dc_39 pm_39 an_39 cd_39 ct_39), sl_39⟩) (c_39 : PySem.W.codeIn K cd_39 "Not.holds" = true) (k_39 : PySem.W.keepIn K (.ref f_39) = true)
    {f_40 : Addr} {oc_40 kV_40 dc_40 pm_40 cd_40 ct_40 : Value} {od_40 an_40 : Option Addr} {sl_40 : Array (Option Value)}
    (a_40 : PySem.W.nsIn K mainGlobals "law" = some (some (.ref f_40)))
    (l_40 : K.lookup f_40 = some ⟨oc_40, od_40, .func (PySem.W.fnOf "law" "law" (defArgs s_law) (defBody s_law) (defScope s_law) .none kV_40 dc_40 pm_40 an_40 cd_40 ct_40), sl_40⟩) (c_40 : PySem.W.codeIn K cd_40 "law" = true) (k_40 : PySem.W.keepIn K (.ref f_40) = true)
    : ∃ fd : FuncData, (∀ (s : Shared) (v : Value), BindsTo s fd ⟨[v], []⟩ [("_law_script", v)]) ∧ ∀ base : Heap, K.In base → base.Ns mainGlobals mg → FnOk l.prog w K mg base (L2.CX l.prog w) 15 fa fd ["_law_script"] (spF K R_law noX) := by
  have e := hfa.symm.trans (PySem.W.mg_of X G a_40)
  cases e
  have T : Txt K mg CB CAsk CWord CStart CRow CNear CBoth CEither CNot := ⟨PySem.W.mg_none_of X G z_all, PySem.W.mg_none_of X G z_bool, PySem.W.mg_none_of X G z_enumerate, PySem.W.mg_none_of X G z_int, PySem.W.mg_none_of X G z_isinstance, PySem.W.mg_none_of X G z_len, PySem.W.mg_none_of X G z_list, PySem.W.mg_none_of X G z_max, PySem.W.mg_none_of X G z_min, PySem.W.mg_none_of X G z_range, PySem.W.mg_none_of X G z_set, PySem.W.mg_none_of X G z_sorted, PySem.W.mg_none_of X G z_str, PySem.W.mg_none_of X G z_sum, PySem.W.mg_none_of X G z_tuple, PySem.W.mg_none_of X G z_zip, PySem.W.mg_of X G z_c_BadAsk, z_k_BadAsk, z_x_BadAsk, z_b_BadAsk, z_t_BadAsk, PySem.W.mg_of X G z_c_Ask, PySem.W.mg_of X G z_c_Word, z_cl_Word, z_mk_Word, z_kp_Word, z_n_Word_word, PySem.W.mg_of X G z_c_Start, z_cl_Start, z_mk_Start, z_kp_Start, z_n_Start_word, PySem.W.mg_of X G z_c_Row, z_cl_Row, z_mk_Row, z_kp_Row, z_n_Row_side_by_side, PySem.W.mg_of X G z_c_Near, z_cl_Near, z_mk_Near, z_kp_Near, z_n_Near_one, z_n_Near_other, z_n_Near_far, PySem.W.mg_of X G z_c_Both, z_cl_Both, z_mk_Both, z_kp_Both, z_n_Both_one, z_n_Both_other, PySem.W.mg_of X G z_c_Either, z_cl_Either, z_mk_Either, z_kp_Either, z_n_Either_one, z_n_Either_other, PySem.W.mg_of X G z_c_Not, z_cl_Not, z_mk_Not, z_kp_Not, z_n_Not_one, ⟨_, PySem.W.mg_of X G z_g_KEY_SIGNS⟩, ⟨_, PySem.W.mg_of X G z_g_MOST_ASKS⟩, ⟨_, PySem.W.mg_of X G z_g_MOST_DEEP⟩, ⟨_, PySem.W.mg_of X G z_g_MOST_FAR⟩, ⟨_, PySem.W.mg_of X G z_g_MOST_SIDE⟩, ⟨_, PySem.W.mg_of X G z_g_MOST_SIGNS⟩⟩
  have F_0 := fun_mk (st := s_is_whole) l_0 c_0 k_0
  have F_1 := fun_mk (st := s__law_mixed) l_1 c_1 k_1
  have F_2 := fun_mk (st := s__law_number) l_2 c_2 k_2
  have F_3 := fun_mk (st := s_is_word) l_3 c_3 k_3
  have F_4 := fun_mk (st := s_many_asks) l_4 c_4 k_4
  have F_5 := fun_mk (st := s_need_ask) l_5 c_5 k_5
  have F_6 := fun_mk (st := s_plain_of) l_6 c_6 k_6
  have F_7 := fun_mk (st := s_made_of) l_7 c_7 k_7
  have F_8 := fun_mk (st := s_ask_of) l_8 c_8 k_8
  have F_9 := fun_mk (st := s_joined) l_9 c_9 k_9
  have F_10 := fun_mk (st := s__law_menu) l_10 c_10 k_10
  have F_11 := fun_mk (st := s__law_plain) l_11 c_11 k_11
  have F_12 := fun_mk (st := s__law_tree) l_12 c_12 k_12
  have F_13 := fun_mk (st := s__law_kids) l_13 c_13 k_13
  have F_14 := fun_mk (st := s__law_plain_spans) l_14 c_14 k_14
  have F_15 := fun_mk (st := s__law_spans) l_15 c_15 k_15
  have F_16 := fun_mk (st := s__law_holds) l_16 c_16 k_16
  have F_17 := fun_mk (st := s__law_spans_right) l_17 c_17 k_17
  have F_18 := fun_mk (st := s__law_right) l_18 c_18 k_18
  have F_19 := fun_mk (st := s__law_drawn_words) l_19 c_19 k_19
  have F_20 := fun_mk (st := s_Word___init__) l_20 c_20 k_20
  have F_21 := fun_mk (st := s_Start___init__) l_21 c_21 k_21
  have F_22 := fun_mk (st := s_Not___init__) l_22 c_22 k_22
  have F_23 := fun_mk (st := s_Pair___init__) l_23 c_23 k_23
  have F_24 := fun_mk (st := s_Near___init__) l_24 c_24 k_24
  have F_25 := fun_mk (st := s_Row___init__) l_25 c_25 k_25
  have F_26 := fun_mk (st := s_Ask_kids) l_26 c_26 k_26
  have F_27 := fun_mk (st := s_Near_kids) l_27 c_27 k_27
  have F_28 := fun_mk (st := s_Not_kids) l_28 c_28 k_28
  have F_29 := fun_mk (st := s_Pair_kids) l_29 c_29 k_29
  have F_30 := fun_mk (st := s_Word_spans) l_30 c_30 k_30
  have F_31 := fun_mk (st := s_Start_spans) l_31 c_31 k_31
  have F_32 := fun_mk (st := s_Row_spans) l_32 c_32 k_32
  have F_33 := fun_mk (st := s_Near_spans) l_33 c_33 k_33
  have F_34 := fun_mk (st := s_Ask_spans) l_34 c_34 k_34
  have F_35 := fun_mk (st := s_Not_spans) l_35 c_35 k_35
  have F_36 := fun_mk (st := s_Ask_holds) l_36 c_36 k_36
  have F_37 := fun_mk (st := s_Both_holds) l_37 c_37 k_37
  have F_38 := fun_mk (st := s_Either_holds) l_38 c_38 k_38
  have F_39 := fun_mk (st := s_Not_holds) l_39 c_39 k_39
  have F_40 := fun_mk (st := s_law) l_40 c_40 k_40
  refine ⟨PySem.W.fnOf "law" "law" (defArgs s_law) (defBody s_law) (defScope s_law) .none kV_40 dc_40 pm_40 an_40 cd_40 ct_40, fun s v => .of_eq rfl, fun base _ _ => ?_⟩
  have ck : ∀ k, Cls K ((qa CWord CStart CRow CNear CBoth CEither CNot) k) := fun k => match k with | .word => z_cl_Word | .start => z_cl_Start | .row => z_cl_Row | .near => z_cl_Near | .both => z_cl_Both | .either => z_cl_Either | .no => z_cl_Not
  have d_is_whole : DefOk l.prog w K mg base 1 "is_whole" ["thing"] (spF K R_is_whole noX) [] := ⟨f_0, _, [], ok_is_whole (P := l.prog) (w := w) (base := base)  F_0 T , PySem.W.mg_of X G a_0, k_0, F_0.binds (ps := ["thing"]) fun _ _ _ _ _ _ us hl => match us, hl with | [_], _ => rfl, .nil⟩
  have d__law_mixed : DefOk l.prog w K mg base 1 "_law_mixed" ["_law_number_here", "_law_k"] (spF K R_mixed noX) [] := ⟨f_1, _, [], ok_mixed (P := l.prog) (w := w) (base := base)  F_1 T , PySem.W.mg_of X G a_1, k_1, F_1.binds (ps := ["_law_number_here", "_law_k"]) fun _ _ _ _ _ _ us hl => match us, hl with | [_, _], _ => rfl, .nil⟩
  have d__law_number : DefOk l.prog w K mg base 2 "_law_number" ["_law_script", "_law_k"] (spF K R_number noX) [] := ⟨f_2, _, [], ok_number (P := l.prog) (w := w) (base := base)  F_2 T d__law_mixed, PySem.W.mg_of X G a_2, k_2, F_2.binds (ps := ["_law_script", "_law_k"]) fun _ _ _ _ _ _ us hl => match us, hl with | [_, _], _ => rfl, .nil⟩
  have d_is_word : DefOk l.prog w K mg base 1 "is_word" ["thing"] (spF K R_isword noX) [] := ⟨f_3, _, [], ok_is_word (P := l.prog) (w := w) (base := base)  F_3 T , PySem.W.mg_of X G a_3, k_3, F_3.binds (ps := ["thing"]) fun _ _ _ _ _ _ us hl => match us, hl with | [_], _ => rfl, .nil⟩
  have d_Word___init__ : DefC l.prog w K mg base 1 CWord "Word" ["self", "word"] (spI CWord ["word"]) [] := ⟨f_20, _, [], ok_Word_init (P := l.prog) (w := w) (base := base)  F_20 T , ⟨z_mk_Word, a_20Word, i_20, z_kp_Word⟩, PySem.W.mg_of X G z_c_Word, F_20.binds (ps := ["self", "word"]) fun _ _ _ _ _ _ us hl => match us, hl with | [_, _], _ => rfl, .nil⟩
  have d_Start___init__ : DefC l.prog w K mg base 1 CStart "Start" ["self", "word"] (spI CStart ["word"]) [] := ⟨f_21, _, [], ok_Start_init (P := l.prog) (w := w) (base := base)  F_21 T , ⟨z_mk_Start, a_21Start, i_21, z_kp_Start⟩, PySem.W.mg_of X G z_c_Start, F_21.binds (ps := ["self", "word"]) fun _ _ _ _ _ _ us hl => match us, hl with | [_, _], _ => rfl, .nil⟩
  have d_Not___init__ : DefC l.prog w K mg base 1 CNot "Not" ["self", "one"] (spI CNot ["one"]) [] := ⟨f_22, _, [], ok_Not_init (P := l.prog) (w := w) (base := base)  F_22 T , ⟨z_mk_Not, a_22Not, i_22, z_kp_Not⟩, PySem.W.mg_of X G z_c_Not, F_22.binds (ps := ["self", "one"]) fun _ _ _ _ _ _ us hl => match us, hl with | [_, _], _ => rfl, .nil⟩
  have d_Near___init__ : DefC l.prog w K mg base 1 CNear "Near" ["self", "one", "other", "far"] (spI CNear ["one", "other", "far"]) [] := ⟨f_24, _, [], ok_Near_init (P := l.prog) (w := w) (base := base)  F_24 T , ⟨z_mk_Near, a_24Near, i_24, z_kp_Near⟩, PySem.W.mg_of X G z_c_Near, F_24.binds (ps := ["self", "one", "other", "far"]) fun _ _ _ _ _ _ us hl => match us, hl with | [_, _, _, _], _ => rfl, .nil⟩
  have d_Row___init__ : DefC l.prog w K mg base 1 CRow "Row" ["self", "words"] (spRow K CRow) [] := ⟨f_25, _, [], ok_Row_init (P := l.prog) (w := w) (base := base)  F_25 T , ⟨z_mk_Row, a_25Row, i_25, z_kp_Row⟩, PySem.W.mg_of X G z_c_Row, F_25.binds (ps := ["self", "words"]) fun _ _ _ _ _ _ us hl => match us, hl with | [_, _], _ => rfl, .nil⟩
  have d_Both___init__ : DefC l.prog w K mg base 1 CBoth "Both" ["self", "one", "other"] (spI CBoth ["one", "other"]) [] := ⟨f_23, _, [], ok_Pair_init (P := l.prog) (w := w) (base := base) z_cl_Both z_n_Both_one z_n_Both_other F_23 T , ⟨z_mk_Both, a_23Both, i_23, z_kp_Both⟩, PySem.W.mg_of X G z_c_Both, F_23.binds (ps := ["self", "one", "other"]) fun _ _ _ _ _ _ us hl => match us, hl with | [_, _, _], _ => rfl, .nil⟩
  have d_Either___init__ : DefC l.prog w K mg base 1 CEither "Either" ["self", "one", "other"] (spI CEither ["one", "other"]) [] := ⟨f_23, _, [], ok_Pair_init (P := l.prog) (w := w) (base := base) z_cl_Either z_n_Either_one z_n_Either_other F_23 T , ⟨z_mk_Either, a_23Either, i_23, z_kp_Either⟩, PySem.W.mg_of X G z_c_Either, F_23.binds (ps := ["self", "one", "other"]) fun _ _ _ _ _ _ us hl => match us, hl with | [_, _, _], _ => rfl, .nil⟩
  have dk_kids : ∀ k, DefM l.prog w K mg base 1 ((qa CWord CStart CRow CNear CBoth CEither CNot) k) "kids" ["self"] (spG K (R_kids K (qa CWord CStart CRow CNear CBoth CEither CNot) k) noXG) [] := fun k => by
    cases k with
    | word => exact ⟨f_26, _, [], ok_Ask_kids (P := l.prog) (w := w) (base := base) (k := .word) (.inl rfl) F_26 T , ⟨a_26Word, i_26, k_26⟩, F_26.binds (ps := ["self"]) fun _ _ _ _ _ _ us hl => match us, hl with | [_], _ => rfl, .nil⟩
    | start => exact ⟨f_26, _, [], ok_Ask_kids (P := l.prog) (w := w) (base := base) (k := .start) (.inr (.inl rfl)) F_26 T , ⟨a_26Start, i_26, k_26⟩, F_26.binds (ps := ["self"]) fun _ _ _ _ _ _ us hl => match us, hl with | [_], _ => rfl, .nil⟩
    | row => exact ⟨f_26, _, [], ok_Ask_kids (P := l.prog) (w := w) (base := base) (k := .row) (.inr (.inr rfl)) F_26 T , ⟨a_26Row, i_26, k_26⟩, F_26.binds (ps := ["self"]) fun _ _ _ _ _ _ us hl => match us, hl with | [_], _ => rfl, .nil⟩
    | near => exact ⟨f_27, _, [], ok_Near_kids (P := l.prog) (w := w) (base := base)  F_27 T , ⟨a_27Near, i_27, k_27⟩, F_27.binds (ps := ["self"]) fun _ _ _ _ _ _ us hl => match us, hl with | [_], _ => rfl, .nil⟩
    | both => exact ⟨f_29, _, [], ok_Pair_kids (P := l.prog) (w := w) (base := base) (k := .both) (.inl rfl) F_29 T , ⟨a_29Both, i_29, k_29⟩, F_29.binds (ps := ["self"]) fun _ _ _ _ _ _ us hl => match us, hl with | [_], _ => rfl, .nil⟩
    | either => exact ⟨f_29, _, [], ok_Pair_kids (P := l.prog) (w := w) (base := base) (k := .either) (.inr rfl) F_29 T , ⟨a_29Either, i_29, k_29⟩, F_29.binds (ps := ["self"]) fun _ _ _ _ _ _ us hl => match us, hl with | [_], _ => rfl, .nil⟩
    | no => exact ⟨f_28, _, [], ok_Not_kids (P := l.prog) (w := w) (base := base)  F_28 T , ⟨a_28Not, i_28, k_28⟩, F_28.binds (ps := ["self"]) fun _ _ _ _ _ _ us hl => match us, hl with | [_], _ => rfl, .nil⟩
  have d_joined : DefOk l.prog w K mg base 1 "joined" ["one", "other", "far"] (spF K R_joined noX) [] := ⟨f_9, _, [], ok_joined (P := l.prog) (w := w) (base := base)  F_9 T , PySem.W.mg_of X G a_9, k_9, F_9.binds (ps := ["one", "other", "far"]) fun _ _ _ _ _ _ us hl => match us, hl with | [_, _, _], _ => rfl, .nil⟩
  have gk_spans : ∀ (n : Nat) k, DefM l.prog w K mg base (n + 1) ((qa CWord CStart CRow CNear CBoth CEither CNot) k) "spans" ["self", "words"] (spG K (R_spans K (qa CWord CStart CRow CNear CBoth CEither CNot) n k) noXG) [] := fun n => by
    induction n with
    | zero =>
      intro k
      cases k with
      | word => exact ⟨f_30, _, [], (ok_Word_spans (P := l.prog) (w := w) (base := base) (n := 0) F_30 T ).mono (by omega), ⟨a_30Word, i_30, k_30⟩, F_30.binds (ps := ["self", "words"]) fun _ _ _ _ _ _ us hl => match us, hl with | [_, _], _ => rfl, .nil⟩
      | start => exact ⟨f_31, _, [], (ok_Start_spans (P := l.prog) (w := w) (base := base) (n := 0) F_31 T ).mono (by omega), ⟨a_31Start, i_31, k_31⟩, F_31.binds (ps := ["self", "words"]) fun _ _ _ _ _ _ us hl => match us, hl with | [_, _], _ => rfl, .nil⟩
      | row => exact ⟨f_32, _, [], (ok_Row_spans (P := l.prog) (w := w) (base := base) (n := 0) F_32 T ).mono (by omega), ⟨a_32Row, i_32, k_32⟩, F_32.binds (ps := ["self", "words"]) fun _ _ _ _ _ _ us hl => match us, hl with | [_, _], _ => rfl, .nil⟩
      | near => exact ⟨f_33, _, [], FnOk.none (fun vs H Q E h => by obtain ⟨F, as, _, _, ⟨r, ⟨q, ws, _, _, hd, _⟩, _⟩ | ⟨C, h, _⟩⟩ := h; (have := Qt.dep_pos q; omega); exact h.elim), ⟨a_33Near, i_33, k_33⟩, F_33.binds (ps := ["self", "words"]) fun _ _ _ _ _ _ us hl => match us, hl with | [_, _], _ => rfl, .nil⟩
      | both => exact ⟨f_34, _, [], FnOk.none (fun vs H Q E h => by obtain ⟨F, as, _, _, ⟨r, ⟨q, ws, _, _, hd, _⟩, _⟩ | ⟨C, h, _⟩⟩ := h; (have := Qt.dep_pos q; omega); exact h.elim), ⟨a_34Both, i_34, k_34⟩, F_34.binds (ps := ["self", "words"]) fun _ _ _ _ _ _ us hl => match us, hl with | [_, _], _ => rfl, .nil⟩
      | either => exact ⟨f_34, _, [], FnOk.none (fun vs H Q E h => by obtain ⟨F, as, _, _, ⟨r, ⟨q, ws, _, _, hd, _⟩, _⟩ | ⟨C, h, _⟩⟩ := h; (have := Qt.dep_pos q; omega); exact h.elim), ⟨a_34Either, i_34, k_34⟩, F_34.binds (ps := ["self", "words"]) fun _ _ _ _ _ _ us hl => match us, hl with | [_, _], _ => rfl, .nil⟩
      | no => exact ⟨f_35, _, [], (ok_Not_spans (P := l.prog) (w := w) (base := base) (n := 0) F_35 T ).mono (by omega), ⟨a_35Not, i_35, k_35⟩, F_35.binds (ps := ["self", "words"]) fun _ _ _ _ _ _ us hl => match us, hl with | [_, _], _ => rfl, .nil⟩
    | succ n ih =>
      intro k
      cases k with
      | word => exact ⟨f_30, _, [], (ok_Word_spans (P := l.prog) (w := w) (base := base) (n := n + 1) F_30 T ).mono (by omega), ⟨a_30Word, i_30, k_30⟩, F_30.binds (ps := ["self", "words"]) fun _ _ _ _ _ _ us hl => match us, hl with | [_, _], _ => rfl, .nil⟩
      | start => exact ⟨f_31, _, [], (ok_Start_spans (P := l.prog) (w := w) (base := base) (n := n + 1) F_31 T ).mono (by omega), ⟨a_31Start, i_31, k_31⟩, F_31.binds (ps := ["self", "words"]) fun _ _ _ _ _ _ us hl => match us, hl with | [_, _], _ => rfl, .nil⟩
      | row => exact ⟨f_32, _, [], (ok_Row_spans (P := l.prog) (w := w) (base := base) (n := n + 1) F_32 T ).mono (by omega), ⟨a_32Row, i_32, k_32⟩, F_32.binds (ps := ["self", "words"]) fun _ _ _ _ _ _ us hl => match us, hl with | [_, _], _ => rfl, .nil⟩
      | near => exact ⟨f_33, _, [], ok_Near_spans (P := l.prog) (w := w) (base := base)  F_33 T ck d_joined ih, ⟨a_33Near, i_33, k_33⟩, F_33.binds (ps := ["self", "words"]) fun _ _ _ _ _ _ us hl => match us, hl with | [_, _], _ => rfl, .nil⟩
      | both => exact ⟨f_34, _, [], ok_Ask_spans (P := l.prog) (w := w) (base := base) (k := .both) (.inl rfl) F_34 T ck dk_kids ih, ⟨a_34Both, i_34, k_34⟩, F_34.binds (ps := ["self", "words"]) fun _ _ _ _ _ _ us hl => match us, hl with | [_, _], _ => rfl, .nil⟩
      | either => exact ⟨f_34, _, [], ok_Ask_spans (P := l.prog) (w := w) (base := base) (k := .either) (.inr rfl) F_34 T ck dk_kids ih, ⟨a_34Either, i_34, k_34⟩, F_34.binds (ps := ["self", "words"]) fun _ _ _ _ _ _ us hl => match us, hl with | [_, _], _ => rfl, .nil⟩
      | no => exact ⟨f_35, _, [], (ok_Not_spans (P := l.prog) (w := w) (base := base) (n := n + 1) F_35 T ).mono (by omega), ⟨a_35Not, i_35, k_35⟩, F_35.binds (ps := ["self", "words"]) fun _ _ _ _ _ _ us hl => match us, hl with | [_, _], _ => rfl, .nil⟩
  have gk_holds : ∀ (n : Nat) k, DefM l.prog w K mg base (n + 2) ((qa CWord CStart CRow CNear CBoth CEither CNot) k) "holds" ["self", "words"] (spG K (R_holds K (qa CWord CStart CRow CNear CBoth CEither CNot) n k) noXG) [] := fun n => by
    induction n with
    | zero =>
      intro k
      cases k with
      | word => exact ⟨f_36, _, [], ok_Ask_holds (P := l.prog) (w := w) (base := base) (n := 0) (k := .word) (.inl rfl) F_36 T ck (gk_spans 0), ⟨a_36Word, i_36, k_36⟩, F_36.binds (ps := ["self", "words"]) fun _ _ _ _ _ _ us hl => match us, hl with | [_, _], _ => rfl, .nil⟩
      | start => exact ⟨f_36, _, [], ok_Ask_holds (P := l.prog) (w := w) (base := base) (n := 0) (k := .start) (.inr (.inl rfl)) F_36 T ck (gk_spans 0), ⟨a_36Start, i_36, k_36⟩, F_36.binds (ps := ["self", "words"]) fun _ _ _ _ _ _ us hl => match us, hl with | [_, _], _ => rfl, .nil⟩
      | row => exact ⟨f_36, _, [], ok_Ask_holds (P := l.prog) (w := w) (base := base) (n := 0) (k := .row) (.inr (.inr (.inl rfl))) F_36 T ck (gk_spans 0), ⟨a_36Row, i_36, k_36⟩, F_36.binds (ps := ["self", "words"]) fun _ _ _ _ _ _ us hl => match us, hl with | [_, _], _ => rfl, .nil⟩
      | near => exact ⟨f_36, _, [], ok_Ask_holds (P := l.prog) (w := w) (base := base) (n := 0) (k := .near) (.inr (.inr (.inr rfl))) F_36 T ck (gk_spans 0), ⟨a_36Near, i_36, k_36⟩, F_36.binds (ps := ["self", "words"]) fun _ _ _ _ _ _ us hl => match us, hl with | [_, _], _ => rfl, .nil⟩
      | both => exact ⟨f_37, _, [], FnOk.none (fun vs H Q E h => by obtain ⟨F, as, _, _, ⟨r, ⟨q, ws, _, _, hd, _⟩, _⟩ | ⟨C, h, _⟩⟩ := h; (have := Qt.dep_pos q; omega); exact h.elim), ⟨a_37Both, i_37, k_37⟩, F_37.binds (ps := ["self", "words"]) fun _ _ _ _ _ _ us hl => match us, hl with | [_, _], _ => rfl, .nil⟩
      | either => exact ⟨f_38, _, [], FnOk.none (fun vs H Q E h => by obtain ⟨F, as, _, _, ⟨r, ⟨q, ws, _, _, hd, _⟩, _⟩ | ⟨C, h, _⟩⟩ := h; (have := Qt.dep_pos q; omega); exact h.elim), ⟨a_38Either, i_38, k_38⟩, F_38.binds (ps := ["self", "words"]) fun _ _ _ _ _ _ us hl => match us, hl with | [_, _], _ => rfl, .nil⟩
      | no => exact ⟨f_39, _, [], FnOk.none (fun vs H Q E h => by obtain ⟨F, as, _, _, ⟨r, ⟨q, ws, _, _, hd, _⟩, _⟩ | ⟨C, h, _⟩⟩ := h; (have := Qt.dep_pos q; omega); exact h.elim), ⟨a_39Not, i_39, k_39⟩, F_39.binds (ps := ["self", "words"]) fun _ _ _ _ _ _ us hl => match us, hl with | [_, _], _ => rfl, .nil⟩
    | succ n ih =>
      intro k
      cases k with
      | word => exact ⟨f_36, _, [], ok_Ask_holds (P := l.prog) (w := w) (base := base) (n := (n + 1)) (k := .word) (.inl rfl) F_36 T ck (gk_spans (n + 1)), ⟨a_36Word, i_36, k_36⟩, F_36.binds (ps := ["self", "words"]) fun _ _ _ _ _ _ us hl => match us, hl with | [_, _], _ => rfl, .nil⟩
      | start => exact ⟨f_36, _, [], ok_Ask_holds (P := l.prog) (w := w) (base := base) (n := (n + 1)) (k := .start) (.inr (.inl rfl)) F_36 T ck (gk_spans (n + 1)), ⟨a_36Start, i_36, k_36⟩, F_36.binds (ps := ["self", "words"]) fun _ _ _ _ _ _ us hl => match us, hl with | [_, _], _ => rfl, .nil⟩
      | row => exact ⟨f_36, _, [], ok_Ask_holds (P := l.prog) (w := w) (base := base) (n := (n + 1)) (k := .row) (.inr (.inr (.inl rfl))) F_36 T ck (gk_spans (n + 1)), ⟨a_36Row, i_36, k_36⟩, F_36.binds (ps := ["self", "words"]) fun _ _ _ _ _ _ us hl => match us, hl with | [_, _], _ => rfl, .nil⟩
      | near => exact ⟨f_36, _, [], ok_Ask_holds (P := l.prog) (w := w) (base := base) (n := (n + 1)) (k := .near) (.inr (.inr (.inr rfl))) F_36 T ck (gk_spans (n + 1)), ⟨a_36Near, i_36, k_36⟩, F_36.binds (ps := ["self", "words"]) fun _ _ _ _ _ _ us hl => match us, hl with | [_, _], _ => rfl, .nil⟩
      | both => exact ⟨f_37, _, [], ok_Both_holds (P := l.prog) (w := w) (base := base)  F_37 T ck ih, ⟨a_37Both, i_37, k_37⟩, F_37.binds (ps := ["self", "words"]) fun _ _ _ _ _ _ us hl => match us, hl with | [_, _], _ => rfl, .nil⟩
      | either => exact ⟨f_38, _, [], ok_Either_holds (P := l.prog) (w := w) (base := base)  F_38 T ck ih, ⟨a_38Either, i_38, k_38⟩, F_38.binds (ps := ["self", "words"]) fun _ _ _ _ _ _ us hl => match us, hl with | [_, _], _ => rfl, .nil⟩
      | no => exact ⟨f_39, _, [], ok_Not_holds (P := l.prog) (w := w) (base := base)  F_39 T ck ih, ⟨a_39Not, i_39, k_39⟩, F_39.binds (ps := ["self", "words"]) fun _ _ _ _ _ _ us hl => match us, hl with | [_, _], _ => rfl, .nil⟩
  have g_many_asks : ∀ n : Nat, DefOk l.prog w K mg base (n + 1) "many_asks" ["ask"] (spG K (R_many K (qa CWord CStart CRow CNear CBoth CEither CNot) n) noXG) [] := fun n => by
    induction n with
    | zero => exact ⟨f_4, _, [], FnOk.none (fun vs H Q E h => by obtain ⟨F, as, _, _, ⟨r, ⟨q, _, hd, _⟩, _⟩ | ⟨C, h, _⟩⟩ := h; (have := Qt.dep_pos q; omega); exact h.elim), PySem.W.mg_of X G a_4, k_4, F_4.binds (ps := ["ask"]) fun _ _ _ _ _ _ us hl => match us, hl with | [_], _ => rfl, .nil⟩
    | succ n ih => exact ⟨f_4, _, [], ok_many_asks (P := l.prog) (w := w) (base := base)  F_4 T ck dk_kids ih, PySem.W.mg_of X G a_4, k_4, F_4.binds (ps := ["ask"]) fun _ _ _ _ _ _ us hl => match us, hl with | [_], _ => rfl, .nil⟩
  have d_need_ask : DefOk l.prog w K mg base 1 "need_ask" ["good"] (spF K R_nask (X_nask CB)) [] := ⟨f_5, _, [], ok_need_ask (P := l.prog) (w := w) (base := base)  F_5 T , PySem.W.mg_of X G a_5, k_5, F_5.binds (ps := ["good"]) fun _ _ _ _ _ _ us hl => match us, hl with | [_], _ => rfl, .nil⟩
  have d_plain_of : DefOk l.prog w K mg base 3 "plain_of" ["told"] (spF K (R_plain K (qa CWord CStart CRow CNear CBoth CEither CNot)) (X_plain CB)) [] := ⟨f_6, _, [], ok_plain_of (P := l.prog) (w := w) (base := base)  F_6 T d_need_ask d_is_word d_Row___init__ d_Word___init__ d_Start___init__, PySem.W.mg_of X G a_6, k_6, F_6.binds (ps := ["told"]) fun _ _ _ _ _ _ us hl => match us, hl with | [_], _ => rfl, .nil⟩
  have g_made_of : ∀ n : Nat, DefOk l.prog w K mg base (n + 4) "made_of" ["told", "left"] (spF K (R_made K (qa CWord CStart CRow CNear CBoth CEither CNot) n) (X_made CB n)) [] := fun n => by
    induction n with
    | zero => exact ⟨f_7, _, [], FnOk.none (fun vs H Q E h => by obtain ⟨F, ds, _, _, ⟨r, ⟨n, d, q, _, hj, _⟩, _⟩ | ⟨C, ⟨n, d, _, hj, _⟩, _⟩⟩ := h <;> omega), PySem.W.mg_of X G a_7, k_7, F_7.binds (ps := ["told", "left"]) fun _ _ _ _ _ _ us hl => match us, hl with | [_, _], _ => rfl, .nil⟩
    | succ n ih => exact ⟨f_7, _, [], ok_made_of (P := l.prog) (w := w) (base := base)  F_7 T d_need_ask d_is_whole d_plain_of d_Near___init__ d_Both___init__ d_Either___init__ d_Not___init__ ih, PySem.W.mg_of X G a_7, k_7, F_7.binds (ps := ["told", "left"]) fun _ _ _ _ _ _ us hl => match us, hl with | [_, _], _ => rfl, .nil⟩
  have d_ask_of : DefOk l.prog w K mg base 14 "ask_of" ["told"] (spF K (R_askof K (qa CWord CStart CRow CNear CBoth CEither CNot)) (X_askof CB)) [] := ⟨f_8, _, [], ok_ask_of (P := l.prog) (w := w) (base := base)  F_8 T (g_made_of 9) d_need_ask (g_many_asks 8), PySem.W.mg_of X G a_8, k_8, F_8.binds (ps := ["told"]) fun _ _ _ _ _ _ us hl => match us, hl with | [_], _ => rfl, .nil⟩
  have d__law_menu : DefOk l.prog w K mg base 2 "_law_menu" ["_law_number_here"] (spF K R_menu noX) [] := ⟨f_10, _, [], ok__law_menu (P := l.prog) (w := w) (base := base)  F_10 T d__law_mixed, PySem.W.mg_of X G a_10, k_10, F_10.binds (ps := ["_law_number_here"]) fun _ _ _ _ _ _ us hl => match us, hl with | [_], _ => rfl, .nil⟩
  have d__law_plain : DefOk l.prog w K mg base 2 "_law_plain" ["_law_number_here", "_law_menu_here"] (spF K R_lplain noX) [] := ⟨f_11, _, [], ok__law_plain (P := l.prog) (w := w) (base := base)  F_11 T d__law_mixed, PySem.W.mg_of X G a_11, k_11, F_11.binds (ps := ["_law_number_here", "_law_menu_here"]) fun _ _ _ _ _ _ us hl => match us, hl with | [_, _], _ => rfl, .nil⟩
  have d__law_kids : DefOk l.prog w K mg base 1 "_law_kids" ["_law_told"] (spF K R_lkids noX) [] := ⟨f_13, _, [], ok__law_kids (P := l.prog) (w := w) (base := base)  F_13 T , PySem.W.mg_of X G a_13, k_13, F_13.binds (ps := ["_law_told"]) fun _ _ _ _ _ _ us hl => match us, hl with | [_], _ => rfl, .nil⟩
  have d__law_plain_spans : DefOk l.prog w K mg base 1 "_law_plain_spans" ["_law_told", "_law_words"] (spF K R_lps noX) [] := ⟨f_14, _, [], ok__law_plain_spans (P := l.prog) (w := w) (base := base)  F_14 T , PySem.W.mg_of X G a_14, k_14, F_14.binds (ps := ["_law_told", "_law_words"]) fun _ _ _ _ _ _ us hl => match us, hl with | [_, _], _ => rfl, .nil⟩
  have g__law_spans : ∀ n : Nat, DefOk l.prog w K mg base (n + 1) "_law_spans" ["_law_told", "_law_words"] (spF K (R_lspans n) noX) [] := fun n => by
    induction n with
    | zero => exact ⟨f_15, _, [], FnOk.none (fun vs H Q E h => by obtain ⟨F, ds, _, _, ⟨r, ⟨q, ws, _, hd, _⟩, _⟩ | ⟨C, h, _⟩⟩ := h; (have := Qt.dep_pos q; omega); exact h.elim), PySem.W.mg_of X G a_15, k_15, F_15.binds (ps := ["_law_told", "_law_words"]) fun _ _ _ _ _ _ us hl => match us, hl with | [_, _], _ => rfl, .nil⟩
    | succ n ih => exact ⟨f_15, _, [], ok__law_spans (P := l.prog) (w := w) (base := base)  F_15 T d__law_plain_spans ih, PySem.W.mg_of X G a_15, k_15, F_15.binds (ps := ["_law_told", "_law_words"]) fun _ _ _ _ _ _ us hl => match us, hl with | [_, _], _ => rfl, .nil⟩
  have g__law_holds : ∀ n : Nat, DefOk l.prog w K mg base (n + 2) "_law_holds" ["_law_told", "_law_words"] (spF K (R_lholds n) noX) [] := fun n => by
    induction n with
    | zero => exact ⟨f_16, _, [], FnOk.none (fun vs H Q E h => by obtain ⟨F, ds, _, _, ⟨r, ⟨q, ws, _, hd, _⟩, _⟩ | ⟨C, h, _⟩⟩ := h; (have := Qt.dep_pos q; omega); exact h.elim), PySem.W.mg_of X G a_16, k_16, F_16.binds (ps := ["_law_told", "_law_words"]) fun _ _ _ _ _ _ us hl => match us, hl with | [_, _], _ => rfl, .nil⟩
    | succ n ih => exact ⟨f_16, _, [], ok__law_holds (P := l.prog) (w := w) (base := base)  F_16 T (g__law_spans (n + 1)) ih, PySem.W.mg_of X G a_16, k_16, F_16.binds (ps := ["_law_told", "_law_words"]) fun _ _ _ _ _ _ us hl => match us, hl with | [_, _], _ => rfl, .nil⟩
  have g__law_tree : ∀ n : Nat, DefOk l.prog w K mg base (n + 2) "_law_tree" ["_law_script", "_law_at", "_law_deep", "_law_menu_here"] (spL K (R_ltree n)) [] := fun n => by
    induction n with
    | zero => exact ⟨f_12, _, [], FnOk.none (fun vs H Q E h => by obtain ⟨F, ws1, ws2, p, us, as1, as2, hs, hs', r, _, _, _, _, _, _, _, ⟨ns, M, d, a, _, _, _, _, h1, hd, _⟩, _⟩ := h; omega), PySem.W.mg_of X G a_12, k_12, F_12.binds (ps := ["_law_script", "_law_at", "_law_deep", "_law_menu_here"]) fun _ _ _ _ _ _ us hl => match us, hl with | [_, _, _, _], _ => rfl, .nil⟩
    | succ n ih => exact ⟨f_12, _, [], ok_ltree (P := l.prog) (w := w) (base := base)  F_12 T d__law_number d__law_plain d__law_mixed ih, PySem.W.mg_of X G a_12, k_12, F_12.binds (ps := ["_law_script", "_law_at", "_law_deep", "_law_menu_here"]) fun _ _ _ _ _ _ us hl => match us, hl with | [_, _, _, _], _ => rfl, .nil⟩
  have d__law_drawn_words : DefOk l.prog w K mg base 3 "_law_drawn_words" ["_law_script", "_law_menu_here"] (spF K R_ldw noX) [] := ⟨f_19, _, [], ok__law_drawn_words (P := l.prog) (w := w) (base := base)  F_19 T d__law_number d__law_mixed, PySem.W.mg_of X G a_19, k_19, F_19.binds (ps := ["_law_script", "_law_menu_here"]) fun _ _ _ _ _ _ us hl => match us, hl with | [_, _], _ => rfl, .nil⟩
  have d__law_spans_right : DefOk l.prog w K mg base 10 "_law_spans_right" ["_law_ask", "_law_told", "_law_words", "_law_held"] (spA K (R_lsr K (qa CWord CStart CRow CNear CBoth CEither CNot)) noXA) [] := ⟨f_17, _, [], ok__law_spans_right (P := l.prog) (w := w) (base := base)  F_17 T ck (gk_spans 8) (g__law_spans 8), PySem.W.mg_of X G a_17, k_17, F_17.binds (ps := ["_law_ask", "_law_told", "_law_words", "_law_held"]) fun _ _ _ _ _ _ us hl => match us, hl with | [_, _, _, _], _ => rfl, .nil⟩
  have d__law_right : DefOk l.prog w K mg base 11 "_law_right" ["_law_ask", "_law_told", "_law_words", "_law_number_here", "_law_held"] (spA K (R_lr K (qa CWord CStart CRow CNear CBoth CEither CNot)) noXA) [] := ⟨f_18, _, [], ok__law_right (P := l.prog) (w := w) (base := base)  F_18 T ck (gk_holds 8) (g__law_holds 8) d__law_spans_right, PySem.W.mg_of X G a_18, k_18, F_18.binds (ps := ["_law_ask", "_law_told", "_law_words", "_law_number_here", "_law_held"]) fun _ _ _ _ _ _ us hl => match us, hl with | [_, _, _, _, _], _ => rfl, .nil⟩
  exact ok_law (P := l.prog) (w := w) (base := base)  F_40 T ck dk_kids d__law_number d__law_menu (g__law_tree 8) d_ask_of d__law_drawn_words d__law_right d__law_kids
theorem walk {l : PySem.W.OpenLaw} {q : Program} {loose : List Str} {XP : (Str → Option Value) → Heap → Prop} {YP : World → Heap → Prop} {d : DefRec} {K : Params → PySem.W.Frag} (hn : l.most = some 63) (hdf : d.params.defaults = [])
    (hY : ∀ (w : World) (h : Heap), YP w h → (K w.params).In h)
    (F : ∀ (w : World) (mg : Str → Option Value) (fa : Addr) (h : Heap), (K w.params).In h → h.Ns mainGlobals mg → mg d.name = some (.ref fa) →
      ∃ fd : FuncData, (∀ (s : Shared) (u : Value), BindsTo s fd ⟨[u], []⟩ [("_law_script", u)]) ∧ ∀ base : Heap, (K w.params).In base → base.Ns mainGlobals mg → FnOk l.prog w (K w.params) mg base (L2.CX l.prog w) 15 fa fd ["_law_script"] (spF (K w.params) R_law noX)) :
    PySem.W.WalkO q loose XP YP l.row.toRowW d [] (fun f vs => PySem.call f vs) :=
  L2.walk_of (n := 63) (k := 15) (x := "_law_script") (CX := fun w => L2.CX l.prog w) (sp := fun w => spF (K w.params) R_law noX) hn (by decide) hdf ⟨rfl, by decide, by decide⟩ hY F (fun w H a ns hl _ hS => ⟨H, [.list (iD ns)], Ex.refl H, .cons (.lst hS ints_dp) .nil, .inl ⟨_, ⟨ns, rfl, hl, rfl⟩, law_ret (Ex.refl H)⟩⟩) fun w H s e s1 c => cx_none c
end K14
open PySem PySem.W PyProof.Rows L2 Fh
set_option maxRecDepth 100000 in
set_option maxHeartbeats 0 in
theorem PySem.Challenge.cw_findhall_k14_spans_and_holds_holds : PySem.Challenge.rw_findhall_k14_spans_and_holds.Holds := by
  w_on; o_law; k_head; (case hw => w_witness2)
  k_fill
  refine K14.walk (l := PySem.Challenge.rw_findhall_k14_spans_and_holds) rfl rfl (fun w h Y => PySem.W.kIn_of Y) ?F
  case F =>
    intro w mg fa h KX G hmg
    refine' K14.all_mk KX G hmg ?z_all ?z_bool ?z_enumerate ?z_int ?z_isinstance ?z_len ?z_list ?z_max ?z_min ?z_range ?z_set ?z_sorted ?z_str ?z_sum ?z_tuple ?z_zip ?z_c_BadAsk ?z_k_BadAsk ?z_x_BadAsk ?z_b_BadAsk ?z_t_BadAsk ?z_c_Ask ?z_c_Word ?z_cl_Word ?z_mk_Word ?z_kp_Word ?z_n_Word_word ?z_c_Start ?z_cl_Start ?z_mk_Start ?z_kp_Start ?z_n_Start_word ?z_c_Row ?z_cl_Row ?z_mk_Row ?z_kp_Row ?z_n_Row_side_by_side ?z_c_Near ?z_cl_Near ?z_mk_Near ?z_kp_Near ?z_n_Near_one ?z_n_Near_other ?z_n_Near_far ?z_c_Both ?z_cl_Both ?z_mk_Both ?z_kp_Both ?z_n_Both_one ?z_n_Both_other ?z_c_Either ?z_cl_Either ?z_mk_Either ?z_kp_Either ?z_n_Either_one ?z_n_Either_other ?z_c_Not ?z_cl_Not ?z_mk_Not ?z_kp_Not ?z_n_Not_one ?z_g_KEY_SIGNS ?z_g_MOST_ASKS ?z_g_MOST_DEEP ?z_g_MOST_FAR ?z_g_MOST_SIDE ?z_g_MOST_SIGNS ?a_0 ?l_0 ?c_0 ?k_0 ?a_1 ?l_1 ?c_1 ?k_1 ?a_2 ?l_2 ?c_2 ?k_2 ?a_3 ?l_3 ?c_3 ?k_3 ?a_4 ?l_4 ?c_4 ?k_4 ?a_5 ?l_5 ?c_5 ?k_5 ?a_6 ?l_6 ?c_6 ?k_6 ?a_7 ?l_7 ?c_7 ?k_7 ?a_8 ?l_8 ?c_8 ?k_8 ?a_9 ?l_9 ?c_9 ?k_9 ?a_10 ?l_10 ?c_10 ?k_10 ?a_11 ?l_11 ?c_11 ?k_11 ?a_12 ?l_12 ?c_12 ?k_12 ?a_13 ?l_13 ?c_13 ?k_13 ?a_14 ?l_14 ?c_14 ?k_14 ?a_15 ?l_15 ?c_15 ?k_15 ?a_16 ?l_16 ?c_16 ?k_16 ?a_17 ?l_17 ?c_17 ?k_17 ?a_18 ?l_18 ?c_18 ?k_18 ?a_19 ?l_19 ?c_19 ?k_19 ?a_20Word ?i_20 ?l_20 ?c_20 ?k_20 ?a_21Start ?i_21 ?l_21 ?c_21 ?k_21 ?a_22Not ?i_22 ?l_22 ?c_22 ?k_22 ?a_23Both ?a_23Either ?i_23 ?l_23 ?c_23 ?k_23 ?a_24Near ?i_24 ?l_24 ?c_24 ?k_24 ?a_25Row ?i_25 ?l_25 ?c_25 ?k_25 ?a_26Word ?a_26Start ?a_26Row ?i_26 ?l_26 ?c_26 ?k_26 ?a_27Near ?i_27 ?l_27 ?c_27 ?k_27 ?a_28Not ?i_28 ?l_28 ?c_28 ?k_28 ?a_29Both ?a_29Either ?i_29 ?l_29 ?c_29 ?k_29 ?a_30Word ?i_30 ?l_30 ?c_30 ?k_30 ?a_31Start ?i_31 ?l_31 ?c_31 ?k_31 ?a_32Row ?i_32 ?l_32 ?c_32 ?k_32 ?a_33Near ?i_33 ?l_33 ?c_33 ?k_33 ?a_34Both ?a_34Either ?i_34 ?l_34 ?c_34 ?k_34 ?a_35Not ?i_35 ?l_35 ?c_35 ?k_35 ?a_36Word ?a_36Start ?a_36Row ?a_36Near ?i_36 ?l_36 ?c_36 ?k_36 ?a_37Both ?i_37 ?l_37 ?c_37 ?k_37 ?a_38Either ?i_38 ?l_38 ?c_38 ?k_38 ?a_39Not ?i_39 ?l_39 ?c_39 ?k_39 ?a_40 ?l_40 ?c_40 ?k_40
    (case z_all => k_is)
    (case z_bool => k_is)
    (case z_enumerate => k_is)
    (case z_int => k_is)
    (case z_isinstance => k_is)
    (case z_len => k_is)
    (case z_list => k_is)
    (case z_max => k_is)
    (case z_min => k_is)
    (case z_range => k_is)
    (case z_set => k_is)
    (case z_sorted => k_is)
    (case z_str => k_is)
    (case z_sum => k_is)
    (case z_tuple => k_is)
    (case z_zip => k_is)
    (case z_c_BadAsk => k_is)
    (case z_k_BadAsk => k_is)
    (case z_x_BadAsk => k_exc)
    (case z_b_BadAsk => k_is)
    (case z_t_BadAsk => k_is)
    (case z_c_Ask => k_is)
    (case z_c_Word => k_is)
    (case z_cl_Word => exact ⟨by k_is, by k_is, by k_is, by k_is⟩)
    (case z_mk_Word => k_is)
    (case z_kp_Word => k_is)
    (case z_n_Word_word => k_is)
    (case z_c_Start => k_is)
    (case z_cl_Start => exact ⟨by k_is, by k_is, by k_is, by k_is⟩)
    (case z_mk_Start => k_is)
    (case z_kp_Start => k_is)
    (case z_n_Start_word => k_is)
    (case z_c_Row => k_is)
    (case z_cl_Row => exact ⟨by k_is, by k_is, by k_is, by k_is⟩)
    (case z_mk_Row => k_is)
    (case z_kp_Row => k_is)
    (case z_n_Row_side_by_side => k_is)
    (case z_c_Near => k_is)
    (case z_cl_Near => exact ⟨by k_is, by k_is, by k_is, by k_is⟩)
    (case z_mk_Near => k_is)
    (case z_kp_Near => k_is)
    (case z_n_Near_one => k_is)
    (case z_n_Near_other => k_is)
    (case z_n_Near_far => k_is)
    (case z_c_Both => k_is)
    (case z_cl_Both => exact ⟨by k_is, by k_is, by k_is, by k_is⟩)
    (case z_mk_Both => k_is)
    (case z_kp_Both => k_is)
    (case z_n_Both_one => k_is)
    (case z_n_Both_other => k_is)
    (case z_c_Either => k_is)
    (case z_cl_Either => exact ⟨by k_is, by k_is, by k_is, by k_is⟩)
    (case z_mk_Either => k_is)
    (case z_kp_Either => k_is)
    (case z_n_Either_one => k_is)
    (case z_n_Either_other => k_is)
    (case z_c_Not => k_is)
    (case z_cl_Not => exact ⟨by k_is, by k_is, by k_is, by k_is⟩)
    (case z_mk_Not => k_is)
    (case z_kp_Not => k_is)
    (case z_n_Not_one => k_is)
    (case z_g_KEY_SIGNS => k_is)
    (case z_g_MOST_ASKS => k_is)
    (case z_g_MOST_DEEP => k_is)
    (case z_g_MOST_FAR => k_is)
    (case z_g_MOST_SIDE => k_is)
    (case z_g_MOST_SIGNS => k_is)
    (case a_0 => k_is)
    (case l_0 => k_is)
    (case c_0 => k_is)
    (case k_0 => k_is)
    (case a_1 => k_is)
    (case l_1 => k_is)
    (case c_1 => k_is)
    (case k_1 => k_is)
    (case a_2 => k_is)
    (case l_2 => k_is)
    (case c_2 => k_is)
    (case k_2 => k_is)
    (case a_3 => k_is)
    (case l_3 => k_is)
    (case c_3 => k_is)
    (case k_3 => k_is)
    (case a_4 => k_is)
    (case l_4 => k_is)
    (case c_4 => k_is)
    (case k_4 => k_is)
    (case a_5 => k_is)
    (case l_5 => k_is)
    (case c_5 => k_is)
    (case k_5 => k_is)
    (case a_6 => k_is)
    (case l_6 => k_is)
    (case c_6 => k_is)
    (case k_6 => k_is)
    (case a_7 => k_is)
    (case l_7 => k_is)
    (case c_7 => k_is)
    (case k_7 => k_is)
    (case a_8 => k_is)
    (case l_8 => k_is)
    (case c_8 => k_is)
    (case k_8 => k_is)
    (case a_9 => k_is)
    (case l_9 => k_is)
    (case c_9 => k_is)
    (case k_9 => k_is)
    (case a_10 => k_is)
    (case l_10 => k_is)
    (case c_10 => k_is)
    (case k_10 => k_is)
    (case a_11 => k_is)
    (case l_11 => k_is)
    (case c_11 => k_is)
    (case k_11 => k_is)
    (case a_12 => k_is)
    (case l_12 => k_is)
    (case c_12 => k_is)
    (case k_12 => k_is)
    (case a_13 => k_is)
    (case l_13 => k_is)
    (case c_13 => k_is)
    (case k_13 => k_is)
    (case a_14 => k_is)
    (case l_14 => k_is)
    (case c_14 => k_is)
    (case k_14 => k_is)
    (case a_15 => k_is)
    (case l_15 => k_is)
    (case c_15 => k_is)
    (case k_15 => k_is)
    (case a_16 => k_is)
    (case l_16 => k_is)
    (case c_16 => k_is)
    (case k_16 => k_is)
    (case a_17 => k_is)
    (case l_17 => k_is)
    (case c_17 => k_is)
    (case k_17 => k_is)
    (case a_18 => k_is)
    (case l_18 => k_is)
    (case c_18 => k_is)
    (case k_18 => k_is)
    (case a_19 => k_is)
    (case l_19 => k_is)
    (case c_19 => k_is)
    (case k_19 => k_is)
    (case a_20Word => k_is)
    (case i_20 => k_is)
    (case l_20 => k_is)
    (case c_20 => k_is)
    (case k_20 => k_is)
    (case a_21Start => k_is)
    (case i_21 => k_is)
    (case l_21 => k_is)
    (case c_21 => k_is)
    (case k_21 => k_is)
    (case a_22Not => k_is)
    (case i_22 => k_is)
    (case l_22 => k_is)
    (case c_22 => k_is)
    (case k_22 => k_is)
    (case a_23Both => k_is)
    (case a_23Either => k_is)
    (case i_23 => k_is)
    (case l_23 => k_is)
    (case c_23 => k_is)
    (case k_23 => k_is)
    (case a_24Near => k_is)
    (case i_24 => k_is)
    (case l_24 => k_is)
    (case c_24 => k_is)
    (case k_24 => k_is)
    (case a_25Row => k_is)
    (case i_25 => k_is)
    (case l_25 => k_is)
    (case c_25 => k_is)
    (case k_25 => k_is)
    (case a_26Word => k_is)
    (case a_26Start => k_is)
    (case a_26Row => k_is)
    (case i_26 => k_is)
    (case l_26 => k_is)
    (case c_26 => k_is)
    (case k_26 => k_is)
    (case a_27Near => k_is)
    (case i_27 => k_is)
    (case l_27 => k_is)
    (case c_27 => k_is)
    (case k_27 => k_is)
    (case a_28Not => k_is)
    (case i_28 => k_is)
    (case l_28 => k_is)
    (case c_28 => k_is)
    (case k_28 => k_is)
    (case a_29Both => k_is)
    (case a_29Either => k_is)
    (case i_29 => k_is)
    (case l_29 => k_is)
    (case c_29 => k_is)
    (case k_29 => k_is)
    (case a_30Word => k_is)
    (case i_30 => k_is)
    (case l_30 => k_is)
    (case c_30 => k_is)
    (case k_30 => k_is)
    (case a_31Start => k_is)
    (case i_31 => k_is)
    (case l_31 => k_is)
    (case c_31 => k_is)
    (case k_31 => k_is)
    (case a_32Row => k_is)
    (case i_32 => k_is)
    (case l_32 => k_is)
    (case c_32 => k_is)
    (case k_32 => k_is)
    (case a_33Near => k_is)
    (case i_33 => k_is)
    (case l_33 => k_is)
    (case c_33 => k_is)
    (case k_33 => k_is)
    (case a_34Both => k_is)
    (case a_34Either => k_is)
    (case i_34 => k_is)
    (case l_34 => k_is)
    (case c_34 => k_is)
    (case k_34 => k_is)
    (case a_35Not => k_is)
    (case i_35 => k_is)
    (case l_35 => k_is)
    (case c_35 => k_is)
    (case k_35 => k_is)
    (case a_36Word => k_is)
    (case a_36Start => k_is)
    (case a_36Row => k_is)
    (case a_36Near => k_is)
    (case i_36 => k_is)
    (case l_36 => k_is)
    (case c_36 => k_is)
    (case k_36 => k_is)
    (case a_37Both => k_is)
    (case i_37 => k_is)
    (case l_37 => k_is)
    (case c_37 => k_is)
    (case k_37 => k_is)
    (case a_38Either => k_is)
    (case i_38 => k_is)
    (case l_38 => k_is)
    (case c_38 => k_is)
    (case k_38 => k_is)
    (case a_39Not => k_is)
    (case i_39 => k_is)
    (case l_39 => k_is)
    (case c_39 => k_is)
    (case k_39 => k_is)
    (case a_40 => k_is)
    (case l_40 => k_is)
    (case c_40 => k_is)
    (case k_40 => k_is)
