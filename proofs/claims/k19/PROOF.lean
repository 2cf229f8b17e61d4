import PyProof.Rows.All
import HandS.EndBits
import Wide.All
import OpenK.AllK
import Wide.FinOn
import HandS.ForMost
import HandS.ForExc
import HandS.IsInst
import HandS.ExcIs
import HandS.Wide
import HandS.WideBits
import HandS.Defaults
import HandS.Evl
import HandS.Flow
import HandS.FStr
import HandS.TryMany
import KE.Datum
import HandS.SortInts
import HandS.SortRule
import KE.DataFind
import KE.SortData
import HandS.HotCalls
import HandS.Style
import PySem.Challenge.RW_findhall_k19_shares_and_worths
set_option Elab.async false
set_option linter.all false
set_option maxRecDepth 100000
set_option maxHeartbeats 2000000
namespace Fh
open PySem PySem.Spec PyProof.Rows L2 Evl
open PySem.W (Datum)

/-! ### the heap that stays: F within H -/
structure Gr (F H F' H' : Hp) : Prop where
  ff : Ex F F'
  hh : Ex H H'
  fh : Ex F' H'
  nw : ∀ a, H a ≠ none → F a = none → F' a = none
theorem ne_some {H : Hp} {p q : Addr} {o : HO} (h : H p = some o) (h' : H q = none) : p ≠ q := fun e => by
  rw [e, h'] at h
  cases h
theorem Gr.refl {F H : Hp} (h : Ex F H) : Gr F H F H := ⟨Ex.refl _, Ex.refl _, h, fun _ _ h => h⟩
theorem Gr.of {F H H' : Hp} (h : Ex F H) (h' : Ex H H') : Gr F H F H' := ⟨Ex.refl _, h', h.trans h', fun _ _ h => h⟩
theorem Gr.trans {F H F1 H1 F2 H2 : Hp} (a : Gr F H F1 H1) (b : Gr F1 H1 F2 H2) : Gr F H F2 H2 := ⟨a.ff.trans b.ff, a.hh.trans b.hh, b.fh, fun x h1 h2 => by
  refine b.nw x ?_ (a.nw x h1 h2)
  cases e : H x with
  | none => exact absurd e h1
  | some o =>
    rw [a.hh x o e]
    exact fun z => nomatch z⟩
theorem Gr.newI {F H : Hp} {p : Addr} {o : HO} (h : Ex F H) (hp : H p = none) : Gr F H (upd F p o) (upd H p o) := by
  have fp : F p = none := fresh_back h hp
  refine ⟨Ex.new fp, Ex.new hp, fun a u e => ?_, fun a h1 h2 => ?_⟩
  · by_cases q : a = p
    · rw [q, upd_same] at e ⊢
      exact e
    · rw [upd_ne q] at e ⊢
      exact h a u e
  · have q : a ≠ p := fun q => h1 (q ▸ hp)
    rw [upd_ne q]
    exact h2
theorem Gr.newM {F H : Hp} {p : Addr} {o : HO} (h : Ex F H) (hp : H p = none) : Gr F H F (upd H p o) := Gr.of h (Ex.new hp)
/-- an object made behind the entry changes -/
theorem Gr.mut {F H F' H' : Hp} {p : Addr} {o : HO} (g : Gr F H F' H') (hp : H p = none) (fp : F' p = none) : Gr F H F' (upd H' p o) := ⟨g.ff, Ex.mut g.hh hp, Ex.mut g.fh fp, g.nw⟩
/-- from now on it stays as it is -/
theorem Gr.frz {F H F' H' : Hp} {p : Addr} {o : HO} (g : Gr F H F' H') (hp : H p = none) (h : H' p = some o) : Gr F H (upd F' p o) H' := by
  have e1 : Ex F' (upd F' p o) := fun a u e => by
    by_cases q : a = p
    · subst q
      have z := g.fh a u e
      rw [h] at z
      cases z
      exact upd_same
    · rw [upd_ne q]
      exact e
  refine ⟨g.ff.trans e1, g.hh, fun a u e => ?_, fun a h1 h2 => ?_⟩
  · by_cases q : a = p
    · rw [q, upd_same] at e
      cases e
      rw [q]
      exact h
    · rw [upd_ne q] at e
      exact g.fh a u e
  · have q : a ≠ p := fun q => h1 (q ▸ hp)
    rw [upd_ne q]
    exact g.nw a h1 h2

/-! ### data: as the kit's own, and an empty dict -/
mutual
inductive Dp (K : PySem.W.Frag) (H : Hp) : V → PyData → Prop
  | non : Dp K H .non .none
  | bl (b : Bool) : Dp K H (.bl b) (.bool b)
  | int (i : Int) : Dp K H (.int i) (.int i)
  | str (x : Str) : Dp K H (.str x) (.str x)
  | lst {a : Addr} {xs : List V} {ds : List PyData} (hs : SqL K H a xs) (ha : DpAll K H xs ds) : Dp K H (.ref a) (.list ds)
  | tup {a : Addr} {xs : List V} {ds : List PyData} (hs : SqT K H a xs) (ha : DpAll K H xs ds) : Dp K H (.ref a) (.tuple ds)
  | dct {a : Addr} (e : H a = some (.dK [])) : Dp K H (.ref a) (.dict [])
inductive DpAll (K : PySem.W.Frag) (H : Hp) : List V → List PyData → Prop
  | nil : DpAll K H [] []
  | cons {v : V} {vs : List V} {d : PyData} {ds : List PyData} (h1 : Dp K H v d) (h2 : DpAll K H vs ds) : DpAll K H (v :: vs) (d :: ds)
end
mutual
theorem Dp.kit {K : PySem.W.Frag} {H : Hp} : ∀ (d : PyData) (v : V), d.plain = true → Dp K H v d → L2.Dp K H v d
  | .none, _, _, h => by cases h; exact .non
  | .bool b, _, _, h => by cases h; exact .bl b
  | .int i, _, _, h => by cases h; exact .int i
  | .str x, _, _, h => by cases h; exact .str x
  | .list ds, _, p, h => by
    cases h with
    | lst hs ha => exact .lst hs (DpAll.kit ds _ (by simpa only [PyData.plain] using p) ha)
  | .tuple ds, _, p, h => by
    cases h with
    | tup hs ha => exact .tup hs (DpAll.kit ds _ (by simpa only [PyData.plain] using p) ha)
  | .dict _, _, p, h => nomatch p
theorem DpAll.kit {K : PySem.W.Frag} {H : Hp} : ∀ (ds : List PyData) (vs : List V), PyData.plainAll ds = true → DpAll K H vs ds → L2.DpAll K H vs ds
  | [], _, _, h => by cases h; exact .nil
  | d :: ds, _, p, h => by
    simp only [PyData.plainAll, Bool.and_eq_true] at p
    cases h with
    | cons h1 h2 => exact .cons (Dp.kit d _ p.1 h1) (DpAll.kit ds _ p.2 h2)
end
mutual
theorem dp_ex {K : PySem.W.Frag} {H H' : Hp} (e : Ex H H') : ∀ (d : PyData) (v : V), Dp K H v d → Dp K H' v d
  | .none, _, h => by cases h; exact .non
  | .bool b, _, h => by cases h; exact .bl b
  | .int i, _, h => by cases h; exact .int i
  | .str x, _, h => by cases h; exact .str x
  | .list ds, _, h => by
    cases h with
    | lst hs ha => exact .lst (ex_l e hs) (dpAll_ex e ds _ ha)
  | .tuple ds, _, h => by
    cases h with
    | tup hs ha => exact .tup (ex_t e hs) (dpAll_ex e ds _ ha)
  | .dict _, _, h => by
    cases h with
    | dct x => exact .dct (e _ _ x)
theorem dpAll_ex {K : PySem.W.Frag} {H H' : Hp} (e : Ex H H') : ∀ (ds : List PyData) (vs : List V), DpAll K H vs ds → DpAll K H' vs ds
  | [], _, h => by cases h; exact .nil
  | d :: ds, _, h => by
    cases h with
    | cons h1 h2 => exact .cons (dp_ex e d _ h1) (dpAll_ex e ds _ h2)
end
abbrev Rep (K : PySem.W.Frag) (H : Hp) (v : V) {α : Type} [DecidableEq α] [Datum α] (x : α) : Prop := Dp K H v (Datum.toD x)
abbrev RepL (K : PySem.W.Frag) (H : Hp) (vs : List V) {α : Type} [DecidableEq α] [Datum α] (xs : List α) : Prop := DpAll K H vs (xs.map Datum.toD)
section
variable {K : PySem.W.Frag} {H H' F : Hp} {v : V} {vs : List V} {α β : Type} [DecidableEq α] [Datum α] [DecidableEq β] [Datum β]
theorem Rep.ex {x : α} (h : Rep K H v x) (e : Ex H H') : Rep K H' v x := dp_ex e _ _ h
theorem RepL.ex {xs : List α} (h : RepL K H vs xs) (e : Ex H H') : RepL K H' vs xs := dpAll_ex e _ _ h
theorem rep_int {i : Int} : Rep K H (.int i) i := Dp.int i
theorem rep_bl {b : Bool} : Rep K H (.bl b) b := Dp.bl b
theorem rep_str {x : Str} : Rep K H (.str x) x := Dp.str x
theorem rep_unit : Rep K H .non () := Dp.non
theorem of_int {i : Int} (h : Rep K H v i) : v = .int i := by cases h; rfl
theorem of_bl {b : Bool} (h : Rep K H v b) : v = .bl b := by cases h; rfl
theorem of_str {x : Str} (h : Rep K H v x) : v = .str x := by cases h; rfl
theorem of_unit (h : Rep K H v ()) : v = .non := by cases h; rfl
theorem of_list {xs : List α} (h : Rep K H v xs) : ∃ p vs, v = .ref p ∧ SqL K H p vs ∧ RepL K H vs xs := by
  have h' : Dp K H v (.list (xs.map Datum.toD)) := h
  cases h' with
  | lst a b => exact ⟨_, _, rfl, a, b⟩
theorem rep_list {p : Addr} {xs : List α} (h : SqL K H p vs) (r : RepL K H vs xs) : Rep K H (.ref p) xs := Dp.lst h r
theorem of_pair {x : α} {y : β} (h : Rep K H v (x, y)) : ∃ p a b, v = .ref p ∧ SqT K H p [a, b] ∧ Rep K H a x ∧ Rep K H b y := by
  have h' : Dp K H v (.tuple [Datum.toD x, Datum.toD y]) := h
  cases h' with
  | tup a b =>
    cases b with
    | cons b1 b2 =>
      cases b2 with
      | cons b2 b3 =>
        cases b3
        exact ⟨_, _, _, rfl, a, b1, b2⟩
theorem rep_pair {p : Addr} {a b : V} {x : α} {y : β} (h : SqT K H p [a, b]) (r1 : Rep K H a x) (r2 : Rep K H b y) : Rep K H (.ref p) (x, y) := Dp.tup h (.cons r1 (.cons r2 .nil))
theorem of_ii {x y : Int} (h : Rep K H v (x, y)) : ∃ p, v = .ref p ∧ SqT K H p [.int x, .int y] := by
  obtain ⟨p, a, b, e, h, r1, r2⟩ := of_pair h
  rw [of_int r1, of_int r2] at h
  exact ⟨p, e, h⟩
theorem rep_ii {p : Addr} {x y : Int} (h : SqT K H p [.int x, .int y]) : Rep K H (.ref p) (x, y) := rep_pair h rep_int rep_int
theorem repL_nil : RepL K H [] ([] : List α) := .nil
theorem repL_cons {x : α} {xs : List α} (h : Rep K H v x) (r : RepL K H vs xs) : RepL K H (v :: vs) (x :: xs) := .cons h r
theorem repL_len : ∀ {vs : List V} {xs : List α}, RepL K H vs xs → vs.length = xs.length
  | _, [], h => by
    have h' : DpAll K H _ [] := h
    cases h'
    rfl
  | _, x :: xs, h => by
    have h' : DpAll K H _ (Datum.toD x :: xs.map Datum.toD) := h
    cases h' with
    | cons h1 h2 => rw [List.length_cons, List.length_cons, repL_len (xs := xs) h2]
theorem repL_app : ∀ {vs ws : List V} {xs ys : List α}, RepL K H vs xs → RepL K H ws ys → RepL K H (vs ++ ws) (xs ++ ys)
  | _, _, [], _, h, h2 => by
    have h' : DpAll K H _ [] := h
    cases h'
    exact h2
  | _, _, x :: xs, _, h, h2 => by
    have h' : DpAll K H _ (Datum.toD x :: xs.map Datum.toD) := h
    cases h' with
    | cons h1 h3 => exact .cons h1 (repL_app (xs := xs) h3 h2)
theorem repL_one {x : α} (h : Rep K H v x) : RepL K H [v] [x] := .cons h .nil
theorem repL_at : ∀ {vs : List V} {xs : List α} {i : Nat} {x : α}, RepL K H vs xs → xs[i]? = some x → ∃ v, vs[i]? = some v ∧ Rep K H v x
  | _, [], _, _, _, e => by simp at e
  | _, y :: xs, 0, x, h, e => by
    have h' : DpAll K H _ (Datum.toD y :: xs.map Datum.toD) := h
    have e' : y = x := Option.some.inj e
    subst e'
    cases h' with
    | cons h1 h2 => exact ⟨_, rfl, h1⟩
  | _, y :: xs, i + 1, x, h, e => by
    have h' : DpAll K H _ (Datum.toD y :: xs.map Datum.toD) := h
    cases h' with
    | cons h1 h2 =>
      obtain ⟨v, a, b⟩ := repL_at (xs := xs) (i := i) h2 (by simpa using e)
      exact ⟨v, by simpa using a, b⟩
theorem repL_at' : ∀ {vs : List V} {xs : List α} {i : Nat} {v : V}, RepL K H vs xs → vs[i]? = some v → ∃ x, xs[i]? = some x ∧ Rep K H v x
  | _, [], _, _, h, e => by
    have h' : DpAll K H _ [] := h
    cases h'
    simp at e
  | _, y :: xs, 0, v, h, e => by
    have h' : DpAll K H _ (Datum.toD y :: xs.map Datum.toD) := h
    cases h' with
    | cons h1 h2 =>
      cases Option.some.inj e
      exact ⟨y, rfl, h1⟩
  | _, y :: xs, i + 1, v, h, e => by
    have h' : DpAll K H _ (Datum.toD y :: xs.map Datum.toD) := h
    cases h' with
    | cons h1 h2 =>
      obtain ⟨x, a, b⟩ := repL_at' (xs := xs) (i := i) h2 (by simpa using e)
      exact ⟨x, by simpa using a, b⟩
theorem repL_take : ∀ {vs : List V} {xs : List α} (n : Nat), RepL K H vs xs → RepL K H (vs.take n) (xs.take n)
  | _, _, 0, _ => by rw [List.take_zero, List.take_zero]; exact .nil
  | _, [], n + 1, h => by
    have h' : DpAll K H _ [] := h
    cases h'
    exact .nil
  | _, x :: xs, n + 1, h => by
    have h' : DpAll K H _ (Datum.toD x :: xs.map Datum.toD) := h
    cases h' with
    | cons h1 h2 => exact .cons h1 (repL_take (xs := xs) n h2)
theorem repL_drop : ∀ {vs : List V} {xs : List α} (n : Nat), RepL K H vs xs → RepL K H (vs.drop n) (xs.drop n)
  | _, _, 0, h => h
  | _, [], n + 1, h => by
    have h' : DpAll K H _ [] := h
    cases h'
    exact .nil
  | _, x :: xs, n + 1, h => by
    have h' : DpAll K H _ (Datum.toD x :: xs.map Datum.toD) := h
    cases h' with
    | cons h1 h2 => exact repL_drop (xs := xs) n h2
theorem of_ints : ∀ {vs : List V} {ns : List Int}, RepL K H vs ns → vs = ns.map V.int
  | _, [], h => by
    have h' : DpAll K H _ [] := h
    cases h'
    rfl
  | _, n :: ns, h => by
    have h' : DpAll K H _ (Datum.toD n :: ns.map Datum.toD) := h
    cases h' with
    | cons h1 h2 => rw [of_int h1, of_ints (ns := ns) h2]; rfl
theorem rep_ints : ∀ {ns : List Int}, RepL K H (ns.map V.int) ns
  | [] => .nil
  | _ :: _ => .cons rep_int rep_ints
theorem of_strs : ∀ {vs : List V} {ns : List Str}, RepL K H vs ns → vs = ns.map V.str
  | _, [], h => by
    have h' : DpAll K H _ [] := h
    cases h'
    rfl
  | _, n :: ns, h => by
    have h' : DpAll K H _ (Datum.toD n :: ns.map Datum.toD) := h
    cases h' with
    | cons h1 h2 => rw [of_str h1, of_strs (ns := ns) h2]; rfl
theorem rep_strs : ∀ {ns : List Str}, RepL K H (ns.map V.str) ns
  | [] => .nil
  | _ :: _ => .cons rep_str rep_strs
end
end Fh
set_option Elab.async false
set_option linter.all false
set_option maxRecDepth 100000
set_option maxHeartbeats 2000000
namespace Fh
open PySem PySem.Spec PyProof.Rows L2 Evl
open PySem.W (Datum)

/-! ### growth: F stays, M may change -/
structure GrM (M : Addr → Prop) (F H F' H' : Hp) : Prop where
  ff : Ex F F'
  hh : ∀ a o, ¬ M a → H a = some o → H' a = some o
  fh : Ex F' H'
  nw : ∀ a, H a ≠ none → F a = none → F' a = none
  al : ∀ a, H a ≠ none → H' a ≠ none
theorem none_or {H : Hp} {a : Addr} (h : ¬ H a ≠ none) : H a = none := Classical.byContradiction h
theorem Gr.toM {M : Addr → Prop} {F H F' H' : Hp} (g : Gr F H F' H') : GrM M F H F' H' := ⟨g.ff, fun a o _ h => g.hh a o h, g.fh, g.nw, fun a h => by
  cases e : H a with
  | none => exact absurd e h
  | some o =>
    rw [g.hh a o e]
    exact fun z => nomatch z⟩
theorem GrM.trans {M : Addr → Prop} {F H F1 H1 F2 H2 : Hp} (a : GrM M F H F1 H1) (b : GrM M F1 H1 F2 H2) : GrM M F H F2 H2 :=
  ⟨a.ff.trans b.ff, fun x o n h => b.hh x o n (a.hh x o n h), b.fh, fun x h1 h2 => b.nw x (a.al x h1) (a.nw x h1 h2), fun x h => b.al x (a.al x h)⟩
theorem GrM.toGr {F H F' H' : Hp} (g : GrM (fun _ => False) F H F' H') : Gr F H F' H' := ⟨g.ff, fun a o h => g.hh a o (fun z => z) h, g.fh, g.nw⟩

/-! ### what a slot holds -/
inductive Sl where
  | no
  | dt (d : PyData)
  | ls (ds : List PyData)
  | al (j : Nat)
  | fx (φ : Hp → V → Prop)
  | mu (ψ : Hp → V → List (Addr × HO) → Prop)
def SlOk (K : PySem.W.Frag) (F : Hp) (σ : L2.St) (i : Nat) (L : List (Addr × HO)) : Sl → Prop
  | .no => L = []
  | .dt d => L = [] ∧ ∃ v, σ[i]? = some (some v) ∧ Dp K F v d
  | .ls ds => ∃ p vs, σ[i]? = some (some (.ref p)) ∧ L = [(p, .lst vs)] ∧ DpAll K F vs ds
  | .al j => L = [] ∧ j < i ∧ ∃ v, σ[i]? = some (some v) ∧ σ[j]? = some (some v)
  | .fx φ => L = [] ∧ ∃ v, σ[i]? = some (some v) ∧ ∀ F', Ex F F' → φ F' v
  | .mu ψ => ∃ v, σ[i]? = some (some v) ∧ ∀ F', Ex F F' → ψ F' v L
theorem SlOk.ex {K : PySem.W.Frag} {F F' : Hp} {σ : L2.St} {i : Nat} {L : List (Addr × HO)} {s : Sl} (e : Ex F F') (h : SlOk K F σ i L s) : SlOk K F' σ i L s := by
  cases s with
  | no => exact h
  | dt d =>
    obtain ⟨a, v, b, c⟩ := h
    exact ⟨a, v, b, dp_ex e d v c⟩
  | ls ds =>
    obtain ⟨p, vs, a, b, c⟩ := h
    exact ⟨p, vs, a, b, dpAll_ex e ds vs c⟩
  | al j => exact h
  | fx φ =>
    obtain ⟨a, v, b, c⟩ := h
    exact ⟨a, v, b, fun F2 e2 => c F2 (e.trans e2)⟩
  | mu ψ =>
    obtain ⟨v, b, c⟩ := h
    exact ⟨v, b, fun F2 e2 => c F2 (e.trans e2)⟩
/-- the slot's word leans on the slots up to i alone -/
theorem SlOk.cong {K : PySem.W.Frag} {F : Hp} {σ σ' : L2.St} {i : Nat} {L : List (Addr × HO)} {s : Sl} (e : ∀ j, j ≤ i → σ'[j]? = σ[j]?) (h : SlOk K F σ i L s) : SlOk K F σ' i L s := by
  cases s with
  | no => exact h
  | dt d =>
    obtain ⟨a, v, b, c⟩ := h
    exact ⟨a, v, (e i (Nat.le_refl _)).trans b, c⟩
  | ls ds =>
    obtain ⟨p, vs, a, b, c⟩ := h
    exact ⟨p, vs, (e i (Nat.le_refl _)).trans a, b, c⟩
  | al j =>
    obtain ⟨a, l, v, b, c⟩ := h
    exact ⟨a, l, v, (e i (Nat.le_refl _)).trans b, (e j (Nat.le_of_lt l)).trans c⟩
  | fx φ =>
    obtain ⟨a, v, b, c⟩ := h
    exact ⟨a, v, (e i (Nat.le_refl _)).trans b, c⟩
  | mu ψ =>
    obtain ⟨v, b, c⟩ := h
    exact ⟨v, (e i (Nat.le_refl _)).trans b, c⟩
def isMu : Sl → Bool
  | .mu _ => true
  | _ => false
structure Owns (K : PySem.W.Frag) (M : Addr → Prop) (H0 F H : Hp) (σ : L2.St) (ss : List Sl) (L : Nat → List (Addr × HO)) : Prop where
  ok : ∀ i s, ss[i]? = some s → SlOk K F σ i (L i) s
  at_ : ∀ i s p o, ss[i]? = some s → (p, o) ∈ L i → H p = some o ∧ F p = none ∧ (H0 p = none ∨ (M p ∧ isMu s = true))
  nd : ∀ i, i < ss.length → ((L i).map (·.1)).Nodup
  ap : ∀ i j p, i < ss.length → j < ss.length → p ∈ (L i).map (·.1) → p ∈ (L j).map (·.1) → i = j
structure Sts (K : PySem.W.Frag) (M : Addr → Prop) (F0 H0 F H : Hp) (σ : L2.St) (ss : List Sl) : Prop where
  gr : GrM M F0 H0 F H
  len : σ.length = ss.length
  own : ∃ L, Owns K M H0 F H σ ss L

section
variable {K : PySem.W.Frag} {M : Addr → Prop} {F0 H0 F H F' H' : Hp} {σ xs : L2.St} {ss ts : List Sl}
theorem Sts.fh (S : Sts K M F0 H0 F H σ ss) : Ex F H := S.gr.fh
/-- growth around it -/
theorem Sts.grow (S : Sts K M F0 H0 F H σ ss) (g : Gr F H F' H') : Sts K M F0 H0 F' H' σ ss := by
  obtain ⟨g0, l, L, O⟩ := S
  refine ⟨g0.trans g.toM, l, L, fun i s h => (O.ok i s h).ex g.ff, fun i s p o hi hp => ?_, O.nd, O.ap⟩
  obtain ⟨a, b, c⟩ := O.at_ i s p o hi hp
  exact ⟨g.hh p o a, g.nw p (by rw [a]; exact fun z => nomatch z) b, c⟩
/-- the last ones are dropped -/
theorem Sts.drop (S : Sts K M F0 H0 F H (σ ++ xs) (ss ++ ts)) (l : σ.length = ss.length) : Sts K M F0 H0 F H σ ss := by
  obtain ⟨g0, _, L, O⟩ := S
  have lt : ∀ {i}, i < ss.length → i < (ss ++ ts).length := fun {i} h => by
    rw [List.length_append]
    omega
  refine ⟨g0, l, L, fun i s h => ?_, fun i s p o hi hp => O.at_ i s p o (by rw [List.getElem?_append_left (List.getElem?_eq_some_iff.mp hi).1]; exact hi) hp, fun i hi => O.nd i (lt hi), fun i j p hi hj => O.ap i j p (lt hi) (lt hj)⟩
  have hi : i < ss.length := (List.getElem?_eq_some_iff.mp h).1
  refine (O.ok i s (by rw [List.getElem?_append_left hi]; exact h)).cong fun j hj => ?_
  rw [List.getElem?_append_left (by omega)]
/-- a slot more: with new objects L1, or with none -/
theorem Sts.push (S : Sts K M F0 H0 F H σ ss) {v : V} {r : Sl} {L1 : List (Addr × HO)} {H1 : Hp} (e : Ex H H1) (hr : SlOk K F (σ ++ [some v]) σ.length L1 r) (ha : ∀ p o, (p, o) ∈ L1 → H1 p = some o ∧ H p = none) (hn : (L1.map (·.1)).Nodup) :
    Sts K M F0 H0 F H1 (σ ++ [some v]) (ss ++ [r]) := by
  obtain ⟨g0, l, L, O⟩ := S
  have hlen : (ss ++ [r]).length = ss.length + 1 := by rw [List.length_append]; rfl
  have cut : ∀ {i}, i < (ss ++ [r]).length → i < ss.length ∨ i = ss.length := fun {i} h => by rw [hlen] at h; omega
  have oth : ∀ {i p}, i < ss.length → p ∈ L1.map (·.1) → p ∈ (L i).map (·.1) → False := fun {i p} hi h1 h2 => by
    obtain ⟨⟨q, o⟩, h3, rfl⟩ := List.mem_map.mp h1
    obtain ⟨⟨q', u⟩, h4, e4⟩ := List.mem_map.mp h2
    have e4' : q' = q := e4
    subst e4'
    have a := (O.at_ i _ q' u (List.getElem?_eq_getElem hi) h4).1
    rw [(ha q' o h3).2] at a
    cases a
  refine ⟨g0.trans (Gr.of g0.fh e).toM, by rw [List.length_append, List.length_append, l]; rfl, fun i => if i = ss.length then L1 else L i, fun i s h => ?_, fun i s p o hs hp => ?_, fun i hi => ?_, fun i j p hi hj hp hq => ?_⟩
  · have hi := (List.getElem?_eq_some_iff.mp h).1
    rcases cut hi with hi | rfl
    · rw [List.getElem?_append_left hi] at h
      rw [if_neg (by omega)]
      refine (O.ok i s h).cong fun j hj => ?_
      rw [List.getElem?_append_left (by omega)]
    · rw [List.getElem?_append_right (Nat.le_refl _), Nat.sub_self] at h
      cases h
      rw [if_pos rfl, ← l]
      exact hr
  · have hi := (List.getElem?_eq_some_iff.mp hs).1
    rcases cut hi with hi | rfl
    · rw [if_neg (by omega)] at hp
      rw [List.getElem?_append_left hi] at hs
      obtain ⟨a, b, c⟩ := O.at_ i s p o hs hp
      exact ⟨e p o a, b, c⟩
    · rw [if_pos rfl] at hp
      refine ⟨(ha p o hp).1, fresh_back g0.fh (ha p o hp).2, .inl (none_or fun h => g0.al p h (ha p o hp).2)⟩
  · rcases cut hi with hi | rfl
    · simp only [if_neg (show ¬ i = ss.length by omega)]
      exact O.nd i hi
    · simp only [if_pos]
      exact hn
  · rcases cut hi with hi | rfl
    · rw [if_neg (by omega)] at hp
      rcases cut hj with hj | rfl
      · rw [if_neg (by omega)] at hq
        exact O.ap i j p hi hj hp hq
      · rw [if_pos rfl] at hq
        exact (oth hi hq hp).elim
    · rw [if_pos rfl] at hp
      rcases cut hj with hj | rfl
      · rw [if_neg (by omega)] at hq
        exact (oth hj hp hq).elim
      · rfl
theorem last_at {σ : L2.St} {v : V} : (σ ++ [some v])[σ.length]? = some (some v) := by
  rw [List.getElem?_append_right (Nat.le_refl _), Nat.sub_self]
  rfl
theorem Sts.push_dt (S : Sts K M F0 H0 F H σ ss) {v : V} {d : PyData} (h : Dp K F v d) : Sts K M F0 H0 F H (σ ++ [some v]) (ss ++ [.dt d]) :=
  S.push (L1 := []) (Ex.refl H) ⟨rfl, v, last_at, h⟩ (fun p o z => nomatch z) .nil
theorem Sts.push_fx (S : Sts K M F0 H0 F H σ ss) {v : V} {φ : Hp → V → Prop} (h : ∀ F', Ex F F' → φ F' v) : Sts K M F0 H0 F H (σ ++ [some v]) (ss ++ [.fx φ]) :=
  S.push (L1 := []) (Ex.refl H) ⟨rfl, v, last_at, h⟩ (fun p o z => nomatch z) .nil
theorem Sts.push_al (S : Sts K M F0 H0 F H σ ss) {j : Nat} {v : V} (h : σ[j]? = some (some v)) : Sts K M F0 H0 F H (σ ++ [some v]) (ss ++ [.al j]) := by
  have hj := (List.getElem?_eq_some_iff.mp h).1
  exact S.push (L1 := []) (Ex.refl H) ⟨rfl, hj, v, last_at, by rw [List.getElem?_append_left hj]; exact h⟩ (fun p o z => nomatch z) .nil
theorem Sts.push_ls (S : Sts K M F0 H0 F H σ ss) {p : Addr} {vs : List V} {ds : List PyData} {H1 : Hp} (e : Ex H H1) (hp : H p = none) (h1 : H1 p = some (.lst vs)) (h : DpAll K F vs ds) : Sts K M F0 H0 F H1 (σ ++ [some (.ref p)]) (ss ++ [.ls ds]) :=
  S.push (L1 := [(p, .lst vs)]) e ⟨p, vs, last_at, rfl, h⟩ (fun q o hq => by
    cases List.mem_singleton.mp hq
    exact ⟨h1, hp⟩) (by simp)
/-! ### reading slots -/
theorem Sts.get_dt (S : Sts K M F0 H0 F H σ ss) {i : Nat} {d : PyData} (h : ss[i]? = some (.dt d)) : ∃ v, σ[i]? = some (some v) ∧ Dp K F v d := by
  obtain ⟨g0, l, L, O⟩ := S
  exact (O.ok i _ h).2
theorem Sts.get_fx (S : Sts K M F0 H0 F H σ ss) {i : Nat} {φ : Hp → V → Prop} (h : ss[i]? = some (.fx φ)) : ∃ v, σ[i]? = some (some v) ∧ ∀ F', Ex F F' → φ F' v := by
  obtain ⟨g0, l, L, O⟩ := S
  exact (O.ok i _ h).2
theorem Sts.get_al (S : Sts K M F0 H0 F H σ ss) {i j : Nat} (h : ss[i]? = some (.al j)) : ∃ v, σ[i]? = some (some v) ∧ σ[j]? = some (some v) := by
  obtain ⟨g0, l, L, O⟩ := S
  exact (O.ok i _ h).2.2
theorem Sts.get_ls (S : Sts K M F0 H0 F H σ ss) {i : Nat} {ds : List PyData} (h : ss[i]? = some (.ls ds)) : ∃ p vs, σ[i]? = some (some (.ref p)) ∧ DpAll K F vs ds ∧ H p = some (.lst vs) ∧ F p = none ∧ H0 p = none := by
  obtain ⟨g0, l, L, O⟩ := S
  obtain ⟨p, vs, a, b, c⟩ := O.ok i _ h
  obtain ⟨x, y, z⟩ := O.at_ i _ p _ h (by rw [b]; exact List.mem_singleton.mpr rfl)
  exact ⟨p, vs, a, c, x, y, z.resolve_right fun w => nomatch w.2⟩
/-- what a slot's thing reads as, now -/
def vw (ss : List Sl) : Sl → Option PyData
  | .dt d => some d
  | .ls ds => some (.list ds)
  | .al j => match ss[j]? with
    | some (.ls ds) => some (.list ds)
    | some (.dt d) => some d
    | _ => none
  | _ => none
/-- v is a list or tuple that reads as ds, its items stay -/
def RdL (K : PySem.W.Frag) (F H : Hp) (v : V) (ds : List PyData) : Prop := ∃ p vs, v = .ref p ∧ SqL K H p vs ∧ DpAll K F vs ds
def RdT (K : PySem.W.Frag) (F H : Hp) (v : V) (ds : List PyData) : Prop := ∃ p vs, v = .ref p ∧ SqT K H p vs ∧ DpAll K F vs ds
theorem rdL_of {v : V} {ds : List PyData} (h : Dp K F v (.list ds)) (e : Ex F H) : RdL K F H v ds := by
  cases h with
  | lst a b => exact ⟨_, _, rfl, ex_l e a, b⟩
theorem rdT_of {v : V} {ds : List PyData} (h : Dp K F v (.tuple ds)) (e : Ex F H) : RdT K F H v ds := by
  cases h with
  | tup a b => exact ⟨_, _, rfl, ex_t e a, b⟩
theorem RdL.dp {v : V} {ds : List PyData} (h : RdL K F H v ds) (e : Ex F H) : Dp K H v (.list ds) := by
  obtain ⟨p, vs, rfl, a, b⟩ := h
  exact .lst a (dpAll_ex e ds vs b)
theorem Sts.view (S : Sts K M F0 H0 F H σ ss) {i : Nat} {r : Sl} {d : PyData} (h : ss[i]? = some r) (hv : vw ss r = some d) : ∃ v, σ[i]? = some (some v) ∧ (Dp K F v d ∨ ∃ ds, d = .list ds ∧ RdL K F H v ds) := by
  have hl : ∀ {j : Nat} {ds : List PyData}, ss[j]? = some (Sl.ls ds) → ∃ v, σ[j]? = some (some v) ∧ RdL K F H v ds := fun {j ds} h => by
    obtain ⟨p, vs, a, b, c, _⟩ := S.get_ls h
    exact ⟨_, a, p, vs, rfl, SqL.of c, b⟩
  cases r with
  | no => cases hv
  | fx φ => cases hv
  | mu ψ => cases hv
  | dt d' =>
    cases hv
    obtain ⟨v, a, b⟩ := S.get_dt h
    exact ⟨v, a, .inl b⟩
  | ls ds =>
    cases hv
    obtain ⟨v, a, b⟩ := hl h
    exact ⟨v, a, .inr ⟨ds, rfl, b⟩⟩
  | al j =>
    obtain ⟨v, a, b⟩ := S.get_al h
    unfold vw at hv
    simp only at hv
    cases e : ss[j]? with
    | none => rw [e] at hv; cases hv
    | some s =>
      rw [e] at hv
      cases s with
      | no => cases hv
      | fx φ => cases hv
      | mu ψ => cases hv
      | al j => cases hv
      | dt d' =>
        cases hv
        obtain ⟨v', a', b'⟩ := S.get_dt e
        rw [b] at a'
        cases a'
        exact ⟨v, a, .inl b'⟩
      | ls ds =>
        cases hv
        obtain ⟨v', a', b'⟩ := hl e
        rw [b] at a'
        cases a'
        exact ⟨v, a, .inr ⟨ds, rfl, b'⟩⟩
/-- .. as data of the heap -/
theorem Sts.viewH (S : Sts K M F0 H0 F H σ ss) {i : Nat} {r : Sl} {d : PyData} (h : ss[i]? = some r) (hv : vw ss r = some d) : ∃ v, σ[i]? = some (some v) ∧ Dp K H v d := by
  obtain ⟨v, a, b | ⟨ds, rfl, b⟩⟩ := S.view h hv
  · exact ⟨v, a, dp_ex S.fh d v b⟩
  · exact ⟨v, a, b.dp S.fh⟩
theorem Sts.viewL (S : Sts K M F0 H0 F H σ ss) {i : Nat} {r : Sl} {ds : List PyData} (h : ss[i]? = some r) (hv : vw ss r = some (.list ds)) : ∃ v, σ[i]? = some (some v) ∧ RdL K F H v ds := by
  obtain ⟨v, a, b | ⟨ds', e, b⟩⟩ := S.view h hv
  · exact ⟨v, a, rdL_of b S.fh⟩
  · cases e
    exact ⟨v, a, b⟩
theorem Sts.viewT (S : Sts K M F0 H0 F H σ ss) {i : Nat} {r : Sl} {ds : List PyData} (h : ss[i]? = some r) (hv : vw ss r = some (.tuple ds)) : ∃ v, σ[i]? = some (some v) ∧ RdT K F H v ds := by
  obtain ⟨v, a, b | ⟨ds', e, b⟩⟩ := S.view h hv
  · exact ⟨v, a, rdT_of b S.fh⟩
  · cases e
/-! ### writing slots -/
def notAl : Sl → Bool
  | .al _ => false
  | _ => true
/-- slot i takes what a state with one slot more has at its end -/
theorem Sts.put {v : V} {r : Sl} {i : Nat} (S : Sts K M F0 H0 F H (σ ++ [some v]) (ss ++ [r])) (l : σ.length = ss.length) (hi : i < ss.length) (na : ss.all notAl = true) (nr : notAl r = true) : Sts K M F0 H0 F H (σ.set i (some v)) (ss.set i r) := by
  obtain ⟨g0, l1, L, O⟩ := S
  have hlen : (ss ++ [r]).length = ss.length + 1 := by rw [List.length_append]; rfl
  have hn : ∀ j s, (ss.set i r)[j]? = some s → notAl s = true := fun j s h => by
    by_cases e : j = i
    · subst e
      rw [List.getElem?_set_self hi] at h
      cases h
      exact nr
    · rw [List.getElem?_set_ne (Ne.symm e)] at h
      exact List.all_eq_true.mp na s (List.mem_of_getElem? h)
  -- a slot's word without al leans on its own slot alone
  have move : ∀ {σ' : L2.St} {i j : Nat} {L : List (Addr × HO)} {s : Sl} {σ : L2.St}, notAl s = true → σ'[j]? = σ[i]? → SlOk K F σ i L s → SlOk K F σ' j L s := fun {σ' i j L s σ} h e o => by
    cases s with
    | no => exact o
    | al j => cases h
    | dt d =>
      obtain ⟨a, v, b, c⟩ := o
      exact ⟨a, v, e.trans b, c⟩
    | ls ds =>
      obtain ⟨p, vs, a, b, c⟩ := o
      exact ⟨p, vs, e.trans a, b, c⟩
    | fx φ =>
      obtain ⟨a, v, b, c⟩ := o
      exact ⟨a, v, e.trans b, c⟩
    | mu ψ =>
      obtain ⟨v, b, c⟩ := o
      exact ⟨v, e.trans b, c⟩
  let g : Nat → Nat := fun j => if j = i then ss.length else j
  have gl : ∀ {j}, j < ss.length → g j < (ss ++ [r]).length := fun {j} hj => by
    show (if j = i then ss.length else j) < _
    rw [hlen]
    split <;> omega
  have gi : ∀ {j k}, j < ss.length → k < ss.length → g j = g k → j = k := fun {j k} hj hk e => by
    have e' : (if j = i then ss.length else j) = (if k = i then ss.length else k) := e
    split at e' <;> split at e' <;> omega
  have pick : ∀ {j : Nat} {s : Sl}, (ss.set i r)[j]? = some s → (ss ++ [r])[g j]? = some s ∧ (σ.set i (some v))[j]? = (σ ++ [some v])[g j]? := fun {j s} h => by
    have hj : j < ss.length := by
      have := (List.getElem?_eq_some_iff.mp h).1
      rwa [List.length_set] at this
    by_cases e : j = i
    · have eg : g j = ss.length := if_pos e
      rw [eg]
      subst e
      rw [List.getElem?_set_self hi] at h
      rw [List.getElem?_append_right (Nat.le_refl _), Nat.sub_self, List.getElem?_set_self (by omega), ← l, List.getElem?_append_right (Nat.le_refl _), Nat.sub_self]
      exact ⟨h, rfl⟩
    · have eg : g j = j := if_neg e
      rw [eg]
      rw [List.getElem?_set_ne (Ne.symm e)] at h
      rw [List.getElem?_append_left hj, List.getElem?_set_ne (Ne.symm e), List.getElem?_append_left (by omega)]
      exact ⟨h, rfl⟩
  refine ⟨g0, by rw [List.length_set, List.length_set, l], fun j => L (g j), fun j s h => move (hn j s h) (pick h).2 (O.ok (g j) s (pick h).1), fun j s p o h hp => O.at_ (g j) s p o (pick h).1 hp, fun j hj => ?_, fun j k p hj hk hp hq => ?_⟩
  · rw [List.length_set] at hj
    exact O.nd (g j) (gl hj)
  · rw [List.length_set] at hj hk
    exact gi hj hk (O.ap (g j) (g k) p (gl hj) (gl hk) hp hq)
/-- a slot is forgotten -/
theorem Sts.wipe1 {i : Nat} {ov : Option V} (S : Sts K M F0 H0 F H σ ss) (na : ss.all notAl = true) : Sts K M F0 H0 F H (σ.set i ov) (ss.set i .no) := by
  obtain ⟨g0, l1, L, O⟩ := S
  have hl : ∀ {j}, j < (ss.set i .no).length → j < ss.length := fun {j} h => by rwa [List.length_set] at h
  refine ⟨g0, by rw [List.length_set, List.length_set, l1], fun j => if j = i then [] else L j, fun j s h => ?_, fun j s p o hs hp => ?_, fun j hj => ?_, fun j k p hj hk hp hq => ?_⟩
  · by_cases e : j = i
    · subst e
      have hj := hl (List.getElem?_eq_some_iff.mp h).1
      rw [List.getElem?_set_self hj] at h
      cases h
      rw [if_pos rfl]
      rfl
    · rw [if_neg e]
      rw [List.getElem?_set_ne (Ne.symm e)] at h
      have o := O.ok j s h
      have nn := List.all_eq_true.mp na s (List.mem_of_getElem? h)
      have eσ : (σ.set i ov)[j]? = σ[j]? := List.getElem?_set_ne (Ne.symm e)
      cases s with
      | no => exact o
      | al j => cases nn
      | dt d =>
        obtain ⟨a, v, b, c⟩ := o
        exact ⟨a, v, eσ.trans b, c⟩
      | ls ds =>
        obtain ⟨p, vs, a, b, c⟩ := o
        exact ⟨p, vs, eσ.trans a, b, c⟩
      | fx φ =>
        obtain ⟨a, v, b, c⟩ := o
        exact ⟨a, v, eσ.trans b, c⟩
      | mu ψ =>
        obtain ⟨v, b, c⟩ := o
        exact ⟨v, eσ.trans b, c⟩
  · by_cases e : j = i
    · rw [if_pos e] at hp
      cases hp
    · rw [if_neg e] at hp
      rw [List.getElem?_set_ne (Ne.symm e)] at hs
      exact O.at_ j s p o hs hp
  · by_cases e : j = i
    · simp only [if_pos e]
      exact .nil
    · simp only [if_neg e]
      exact O.nd j (hl hj)
  · by_cases e : j = i
    · rw [if_pos e] at hp
      cases hp
    · by_cases e2 : k = i
      · rw [if_pos e2] at hq
        cases hq
      · rw [if_neg e] at hp
        rw [if_neg e2] at hq
        exact O.ap j k p (hl hj) (hl hk) hp hq
/-- the content of an owned list changes -/
theorem Sts.write {i : Nat} {ds : List PyData} (S : Sts K M F0 H0 F H σ ss) (h : ss[i]? = some (.ls ds)) : ∃ p vs, σ[i]? = some (some (.ref p)) ∧ H p = some (.lst vs) ∧ DpAll K F vs ds ∧ F p = none ∧
    ∀ vs' ds', DpAll K F vs' ds' → Sts K M F0 H0 F (upd H p (.lst vs')) σ (ss.set i (.ls ds')) := by
  obtain ⟨g0, l, L, O⟩ := S
  obtain ⟨p, vs, a, b, c⟩ := O.ok i _ h
  have hi := (List.getElem?_eq_some_iff.mp h).1
  have pin : (p, HO.lst vs) ∈ L i := by rw [b]; exact List.mem_singleton.mpr rfl
  obtain ⟨hp, fp, h0'⟩ := O.at_ i _ p _ h pin
  have h0 : H0 p = none := h0'.resolve_right fun w => nomatch w.2
  refine ⟨p, vs, a, hp, c, fp, fun vs' ds' r => ?_⟩
  have hl : ∀ {j}, j < (ss.set i (.ls ds')).length → j < ss.length := fun {j} h => by rwa [List.length_set] at h
  refine ⟨⟨g0.ff, fun x o nM hx => ?_, Ex.mut g0.fh fp, g0.nw, fun x hx => ?_⟩, by rw [List.length_set, l], fun j => if j = i then [(p, .lst vs')] else L j, fun j s hs => ?_, fun j s q o hs hq => ?_, fun j hj => ?_, fun j k q hj hk hp1 hq1 => ?_⟩
  · have ne : x ≠ p := fun e => by
      subst e
      rw [h0] at hx
      cases hx
    rw [upd_ne ne]
    exact g0.hh x o nM hx
  · by_cases e : x = p
    · rw [e, upd_same]
      exact fun z => nomatch z
    · rw [upd_ne e]
      exact g0.al x hx
  · by_cases e : j = i
    · subst e
      rw [List.getElem?_set_self hi] at hs
      cases hs
      rw [if_pos rfl]
      exact ⟨p, vs', a, rfl, r⟩
    · rw [if_neg e]
      rw [List.getElem?_set_ne (Ne.symm e)] at hs
      exact O.ok j s hs
  · by_cases e : j = i
    · rw [if_pos e] at hq
      cases List.mem_singleton.mp hq
      exact ⟨upd_same, fp, .inl h0⟩
    · rw [if_neg e] at hq
      rw [List.getElem?_set_ne (Ne.symm e)] at hs
      obtain ⟨x, y, z⟩ := O.at_ j s q o hs hq
      have ne : q ≠ p := fun e2 => by
        subst e2
        exact e (O.ap j i q (List.getElem?_eq_some_iff.mp hs).1 hi (List.mem_map.mpr ⟨_, hq, rfl⟩) (List.mem_map.mpr ⟨_, pin, rfl⟩))
      rw [upd_ne ne]
      exact ⟨x, y, z⟩
  · by_cases e : j = i
    · simp only [if_pos e]
      simp
    · simp only [if_neg e]
      exact O.nd j (hl hj)
  · have mv : ∀ {j : Nat} {q : Addr}, q ∈ ((if j = i then [(p, HO.lst vs')] else L j).map (·.1)) → q ∈ (L j).map (·.1) := fun {j q} h => by
      by_cases e : j = i
      · rw [if_pos e] at h
        rw [e]
        have eq : q = p := by simpa using h
        rw [eq]
        exact List.mem_map.mpr ⟨_, pin, rfl⟩
      · rwa [if_neg e] at h
    exact O.ap j k q (hl hj) (hl hk) (mv hp1) (mv hq1)
/-- from now on the list stays as it is -/
theorem Sts.freeze {i : Nat} {ds : List PyData} (S : Sts K M F0 H0 F H σ ss) (h : ss[i]? = some (.ls ds)) : ∃ F', Ex F F' ∧ (∀ a, (∀ q, σ[i]? = some (some (.ref q)) → a ≠ q) → F a = none → F' a = none) ∧ Sts K M F0 H0 F' H σ (ss.set i (.dt (.list ds))) := by
  obtain ⟨g0, l, L, O⟩ := S
  obtain ⟨p, vs, a, b, c⟩ := O.ok i _ h
  have hi := (List.getElem?_eq_some_iff.mp h).1
  have pin : (p, HO.lst vs) ∈ L i := by rw [b]; exact List.mem_singleton.mpr rfl
  obtain ⟨hp, fp, h0'⟩ := O.at_ i _ p _ h pin
  have h0 : H0 p = none := h0'.resolve_right fun w => nomatch w.2
  have e1 : Ex F (upd F p (.lst vs)) := Ex.new fp
  have hl : ∀ {j}, j < (ss.set i (.dt (.list ds))).length → j < ss.length := fun {j} h => by rwa [List.length_set] at h
  refine ⟨upd F p (.lst vs), e1, fun x hx fx => by rw [upd_ne (hx p a)]; exact fx, ⟨g0.ff.trans e1, g0.hh, fun x u e => ?_, fun x h1 h2 => ?_, g0.al⟩, by rw [List.length_set, l], fun j => if j = i then [] else L j, fun j s hs => ?_, fun j s q o hs hq => ?_, fun j hj => ?_, fun j k q hj hk hp1 hq1 => ?_⟩
  · by_cases q : x = p
    · rw [q, upd_same] at e
      cases e
      rw [q]
      exact hp
    · rw [upd_ne q] at e
      exact g0.fh x u e
  · have q : x ≠ p := fun q => h1 (q ▸ h0)
    rw [upd_ne q]
    exact g0.nw x h1 h2
  · by_cases e : j = i
    · subst e
      rw [List.getElem?_set_self hi] at hs
      cases hs
      rw [if_pos rfl]
      exact ⟨rfl, _, a, .lst (SqL.of upd_same) (dpAll_ex e1 ds vs c)⟩
    · rw [if_neg e]
      rw [List.getElem?_set_ne (Ne.symm e)] at hs
      exact (O.ok j s hs).ex e1
  · by_cases e : j = i
    · rw [if_pos e] at hq
      cases hq
    · rw [if_neg e] at hq
      rw [List.getElem?_set_ne (Ne.symm e)] at hs
      obtain ⟨x, y, z⟩ := O.at_ j s q o hs hq
      have ne : q ≠ p := fun e2 => by
        subst e2
        exact e (O.ap j i q (List.getElem?_eq_some_iff.mp hs).1 hi (List.mem_map.mpr ⟨_, hq, rfl⟩) (List.mem_map.mpr ⟨_, pin, rfl⟩))
      rw [upd_ne ne]
      exact ⟨x, y, z⟩
  · by_cases e : j = i
    · simp only [if_pos e]
      exact .nil
    · simp only [if_neg e]
      exact O.nd j (hl hj)
  · have mv : ∀ {j : Nat} {q : Addr}, q ∈ ((if j = i then [] else L j).map (·.1)) → q ∈ (L j).map (·.1) := fun {j q} h => by
      by_cases e : j = i
      · rw [if_pos e] at h
        cases h
      · rwa [if_neg e] at h
    exact O.ap j k q (hl hj) (hl hk) (mv hp1) (mv hq1)
end
end Fh
set_option Elab.async false
set_option linter.all false
set_option maxRecDepth 100000
set_option maxHeartbeats 2000000
namespace Fh
open PySem PySem.Spec PyProof.Rows L2 Evl
open PySem.W (Datum)

/-! ### expressions over the slots: what they give is a slot more -/
/-- a list that is told as such is new -/
def NewR (H : Hp) (v : V) : Sl → Prop
  | .ls _ => ∃ p, v = .ref p ∧ H p = none
  | _ => True
theorem NewR.back {H H' : Hp} {v : V} (e : Ex H H') : ∀ {r : Sl}, NewR H' v r → NewR H v r
  | .ls _, ⟨p, a, b⟩ => ⟨p, a, fresh_back e b⟩
  | .no, h => h
  | .dt _, h => h
  | .al _, h => h
  | .fx _, h => h
  | .mu _, h => h
def EvR (K : PySem.W.Frag) (te : TE) (ss : List Sl) (r : Sl) : Prop := ∀ (M : Addr → Prop) (F0 H0 F H : Hp) (σ xs : L2.St) (ts : List Sl), σ.length = ss.length → Sts K M F0 H0 F H (σ ++ xs) (ss ++ ts) →
  ∀ Q : VK, (∀ v F' H', Gr F H F' H' → NewR H v r → Sts K M F0 H0 F' H' (σ ++ (xs ++ [some v])) (ss ++ (ts ++ [r])) → Q v H') → te σ H Q
def TvR (K : PySem.W.Frag) (tt : TT) (ss : List Sl) (b : Bool) : Prop := ∀ (M : Addr → Prop) (F0 H0 F H : Hp) (σ xs : L2.St) (ts : List Sl), σ.length = ss.length → Sts K M F0 H0 F H (σ ++ xs) (ss ++ ts) →
  ∀ Q : Bool → Hp → Prop, (∀ F' H', Gr F H F' H' → Sts K M F0 H0 F' H' (σ ++ xs) (ss ++ ts) → Q b H') → tt σ H Q
def AvR (K : PySem.W.Frag) (ta : TA) (ss rs : List Sl) : Prop := ∀ (M : Addr → Prop) (F0 H0 F H : Hp) (σ xs : L2.St) (ts : List Sl), σ.length = ss.length → Sts K M F0 H0 F H (σ ++ xs) (ss ++ ts) →
  ∀ Q : List V → Hp → Prop, (∀ vs F' H', vs.length = rs.length → Gr F H F' H' → Sts K M F0 H0 F' H' (σ ++ (xs ++ vs.map some)) (ss ++ (ts ++ rs)) → Q vs H') → ta σ H Q
/-- v may be handed to whoever stands at F, H as a thing told by r -/
def RetR (K : PySem.W.Frag) (F H : Hp) (r : Sl) (Q : VK) : Prop := ∀ v F' H', (∀ (M : Addr → Prop) (F0 H0 : Hp) (σ : L2.St) (ss : List Sl), Sts K M F0 H0 F H σ ss → Sts K M F0 H0 F' H' (σ ++ [some v]) (ss ++ [r])) → Q v H'
/-- what v reads as, now -/
def VwD (K : PySem.W.Frag) (F H : Hp) (v : V) (d : PyData) : Prop := Dp K F v d ∨ ∃ ds, d = .list ds ∧ RdL K F H v ds

section
variable {K : PySem.W.Frag} {M : Addr → Prop} {F0 H0 F H F' H' : Hp} {σ xs : L2.St} {ss ts : List Sl} {ta tb te tc : TE} {t u : TT} {r ra rb : Sl} {d da db : PyData} {ds : List PyData} {Q : VK} {v x y : V}
theorem RetR.dt (k : RetR K F H (.dt d) Q) (h : Dp K F v d) : Q v H := k v F H fun _ _ _ _ _ S => S.push_dt h
theorem RetR.dtE (k : RetR K F H (.dt d) Q) (e : Ex H H') (h : Dp K F v d) : Q v H' := k v F H' fun _ _ _ _ _ S => (S.grow (Gr.of S.fh e)).push_dt h
theorem RetR.int {i : Int} (k : RetR K F H (.dt (.int i)) Q) : Q (.int i) H := k.dt (.int i)
theorem RetR.bl {b : Bool} (k : RetR K F H (.dt (.bool b)) Q) : Q (.bl b) H := k.dt (.bl b)
theorem RetR.str {b : Str} (k : RetR K F H (.dt (.str b)) Q) : Q (.str b) H := k.dt (.str b)
theorem RetR.non (k : RetR K F H (.dt .none) Q) : Q .non H := k.dt .non
/-- a new tuple of what reads so -/
theorem RetR.tup (k : RetR K F H (.dt (.tuple ds)) Q) {vs : List V} (h : DpAll K F vs ds) {p : Addr} (hp : H p = none) : Q (.ref p) (upd H p (.tup vs)) :=
  k _ (upd F p (.tup vs)) _ fun _ _ _ _ _ S => by
    have e := fresh_back S.fh hp
    exact (S.grow (Gr.newI S.fh hp)).push_dt (.tup (SqT.of upd_same) (dpAll_ex (Ex.new e) ds vs h))
/-- a new list -/
theorem RetR.lst (k : RetR K F H (.ls ds) Q) {vs : List V} (h : DpAll K F vs ds) {p : Addr} (hp : H p = none) : Q (.ref p) (upd H p (.lst vs)) :=
  k _ F _ fun _ _ _ _ _ S => S.push_ls (Ex.new hp) hp upd_same h
/-- a new list, as data -/
theorem RetR.lstD (k : RetR K F H (.dt (.list ds)) Q) {vs : List V} (h : DpAll K F vs ds) {p : Addr} (hp : H p = none) : Q (.ref p) (upd H p (.lst vs)) :=
  k _ (upd F p (.lst vs)) _ fun _ _ _ _ _ S => by
    have e := fresh_back S.fh hp
    exact (S.grow (Gr.newI S.fh hp)).push_dt (.lst (SqL.of upd_same) (dpAll_ex (Ex.new e) ds vs h))
theorem vw_app (h : vw ss r = some d) : vw (ss ++ ts) r = some d := by
  cases r with
  | al j =>
    unfold vw at h ⊢
    simp only at h ⊢
    cases e : ss[j]? with
    | none => rw [e] at h; cases h
    | some s =>
      rw [List.getElem?_append_left (List.getElem?_eq_some_iff.mp e).1, e]
      rw [e] at h
      exact h
  | _ => exact h
/-- the state's last slot, seen -/
theorem Sts.lastV (S : Sts K M F0 H0 F H (σ ++ (xs ++ [some v])) (ss ++ (ts ++ [r]))) (l : (σ ++ xs).length = (ss ++ ts).length) (h : vw ss r = some d) : VwD K F H v d := by
  rw [← List.append_assoc, ← List.append_assoc] at S
  obtain ⟨w, a, b⟩ := S.view (i := (ss ++ ts).length) (by rw [List.getElem?_append_right (Nat.le_refl _), Nat.sub_self]; rfl) (vw_app (vw_app (ts := ts) h))
  rw [← l, List.getElem?_append_right (Nat.le_refl _), Nat.sub_self] at a
  cases a
  exact b
theorem Sts.len2 (S : Sts K M F0 H0 F H (σ ++ xs) (ss ++ ts)) : (σ ++ xs).length = (ss ++ ts).length := S.len
theorem Sts.back (S : Sts K M F0 H0 F H (σ ++ (xs ++ [some v])) (ss ++ (ts ++ [r]))) (l : (σ ++ xs).length = (ss ++ ts).length) : Sts K M F0 H0 F H (σ ++ xs) (ss ++ ts) := by
  rw [← List.append_assoc, ← List.append_assoc] at S
  exact S.drop l
theorem VwD.dp (h : VwD K F H v d) (e : Ex F H) : Dp K H v d := by
  rcases h with h | ⟨ds, rfl, h⟩
  · exact dp_ex e d v h
  · exact h.dp e
theorem VwD.lst (h : VwD K F H v (.list ds)) (e : Ex F H) : RdL K F H v ds := by
  rcases h with h | ⟨ds', q, h⟩
  · exact rdL_of h e
  · cases q
    exact h
theorem VwD.tup (h : VwD K F H v (.tuple ds)) (e : Ex F H) : RdT K F H v ds := by
  rcases h with h | ⟨ds', q, h⟩
  · exact rdT_of h e
  · cases q
theorem VwD.int {i : Int} (h : VwD K F H v (.int i)) : v = .int i := by
  rcases h with h | ⟨ds', q, h⟩
  · cases h; rfl
  · cases q
theorem VwD.bl {i : Bool} (h : VwD K F H v (.bool i)) : v = .bl i := by
  rcases h with h | ⟨ds', q, h⟩
  · cases h; rfl
  · cases q
theorem VwD.str {i : Str} (h : VwD K F H v (.str i)) : v = .str i := by
  rcases h with h | ⟨ds', q, h⟩
  · cases h; rfl
  · cases q
theorem VwD.non (h : VwD K F H v .none) : v = .non := by
  rcases h with h | ⟨ds', q, h⟩
  · cases h; rfl
  · cases q
theorem Dp.grow {v : V} (e : Ex F F') (h : Dp K F v d) : Dp K F' v d := dp_ex e d v h
theorem RdL.grow {v : V} (e : Ex F F') (e2 : Ex H H') (h : RdL K F H v ds) : RdL K F' H' v ds := by
  obtain ⟨p, vs, a, b, c⟩ := h
  exact ⟨p, vs, a, ex_l e2 b, dpAll_ex e ds vs c⟩
theorem VwD.grow {v : V} (e : Ex F F') (e2 : Ex H H') (h : VwD K F H v d) : VwD K F' H' v d := by
  rcases h with h | ⟨ds, a, b⟩
  · exact .inl (dp_ex e d v h)
  · exact .inr ⟨ds, a, b.grow e e2⟩
/-- the contract, for a state with slots -/
theorem RetR.mk {F1 H1 : Hp} (g : Gr F1 H1 F H) (S : Sts K M F0 H0 F H (σ ++ xs) (ss ++ ts)) (q : ∀ v F' H', Gr F1 H1 F' H' → NewR H1 v r → Sts K M F0 H0 F' H' (σ ++ (xs ++ [some v])) (ss ++ (ts ++ [r])) → Q v H') : RetR K F H r Q := fun v F' H' k => by
  have S' := k M F0 H0 _ _ S
  rw [List.append_assoc, List.append_assoc] at S'
  have S0 : Sts K (fun _ => False) F H F H [] [] := ⟨(Gr.refl S.fh).toM, rfl, fun _ => [], by intro i s h; simp at h, by intro i s p o h; simp at h, fun i h => by simp at h, fun i j p h => by simp at h⟩
  have S1 := k _ _ _ _ _ S0
  refine q v F' H' (g.trans S1.gr.toGr) ?_ S'
  cases r with
  | ls ds =>
    obtain ⟨p, vs, a, _, _, _, hp⟩ := S1.get_ls (i := 0) rfl
    cases a
    exact NewR.back g.hh ⟨p, rfl, hp⟩
  | _ => exact trivial
theorem RetR.mk0 (S : Sts K M F0 H0 F H (σ ++ xs) (ss ++ ts)) (q : ∀ v F' H', Gr F H F' H' → NewR H v r → Sts K M F0 H0 F' H' (σ ++ (xs ++ [some v])) (ss ++ (ts ++ [r])) → Q v H') : RetR K F H r Q := RetR.mk (Gr.refl S.fh) S q

theorem ev_c {v : V} (h : ∀ F, Dp K F v d) : EvR K (tC v) ss (.dt d) := fun M F0 H0 F H σ xs ts l S Q q => (RetR.mk0 S q).dt (h F)
theorem ev_int {i : Int} : EvR K (tC (.int i)) ss (.dt (.int i)) := ev_c fun _ => .int i
theorem ev_bl {i : Bool} : EvR K (tC (.bl i)) ss (.dt (.bool i)) := ev_c fun _ => .bl i
theorem ev_str {i : Str} : EvR K (tC (.str i)) ss (.dt (.str i)) := ev_c fun _ => .str i
theorem ev_non : EvR K (tC .non) ss (.dt .none) := ev_c fun _ => .non
theorem ev_var {i : Nat} (h : ss[i]? = some (.dt d)) : EvR K (tVar i) ss (.dt d) := fun M F0 H0 F H σ xs ts l S Q q => by
  have hi := (List.getElem?_eq_some_iff.mp h).1
  obtain ⟨v, a, b⟩ := S.get_dt (i := i) (by rw [List.getElem?_append_left hi]; exact h)
  rw [List.getElem?_append_left (by omega)] at a
  exact ⟨v, a, (RetR.mk0 S q).dt b⟩
theorem ev_varA {i : Nat} (h : ss[i]? = some (.ls ds)) : EvR K (tVar i) ss (.al i) := fun M F0 H0 F H σ xs ts l S Q q => by
  have hi := (List.getElem?_eq_some_iff.mp h).1
  obtain ⟨p, vs, a, _⟩ := S.get_ls (i := i) (by rw [List.getElem?_append_left hi]; exact h)
  have a' := a
  rw [List.getElem?_append_left (by omega)] at a
  refine ⟨_, a, q _ F H (Gr.refl S.fh) trivial ?_⟩
  have S2 := S.push_al a'
  rw [List.append_assoc, List.append_assoc] at S2
  exact S2
theorem ev_varX {i : Nat} {φ : Hp → V → Prop} (h : ss[i]? = some (.fx φ)) : EvR K (tVar i) ss (.fx φ) := fun M F0 H0 F H σ xs ts l S Q q => by
  have hi := (List.getElem?_eq_some_iff.mp h).1
  obtain ⟨v, a, b⟩ := S.get_fx (i := i) (by rw [List.getElem?_append_left hi]; exact h)
  rw [List.getElem?_append_left (by omega)] at a
  refine ⟨v, a, q _ F H (Gr.refl S.fh) trivial ?_⟩
  have S2 := S.push_fx b
  rw [List.append_assoc, List.append_assoc] at S2
  exact S2
/-- a new list, told as data from now on -/
theorem EvR.frz (h : EvR K te ss (.ls ds)) : EvR K te ss (.dt (.list ds)) := fun M F0 H0 F H σ xs ts l S Q q => by
  refine h M F0 H0 F H σ xs ts l S Q fun v F' H' g n S' => ?_
  have l2 := S.len2
  rw [← List.append_assoc, ← List.append_assoc] at S'
  obtain ⟨p, rfl, hp⟩ := n
  obtain ⟨F2, e2, f2, S2⟩ := S'.freeze (i := (ss ++ ts).length) (ds := ds) (by rw [List.getElem?_append_right (Nat.le_refl _), Nat.sub_self]; rfl)
  rw [List.set_append_right _ _ (Nat.le_refl _), Nat.sub_self, List.append_assoc, List.append_assoc] at S2
  refine q _ F2 H' ⟨g.ff.trans e2, g.hh, S2.fh, fun a h1 h2 => f2 a (fun q ea => ?_) (g.nw a h1 h2)⟩ trivial S2
  rw [← l2, List.getElem?_append_right (Nat.le_refl _), Nat.sub_self] at ea
  cases ea
  exact fun e => h1 (e ▸ hp)
/-- two operands, by what they read as -/
theorem ev_op {o : R2} (ha : EvR K ta ss ra) (hb : EvR K tb ss rb) (va : vw ss ra = some da) (vb : vw ss rb = some db)
    (hr : ∀ F H x y Q, Ex F H → VwD K F H x da → VwD K F H y db → RetR K F H r Q → o x y H Q) : EvR K (tOp o ta tb) ss r := fun M F0 H0 F H σ xs ts l S Q q => by
  refine ha M F0 H0 F H σ xs ts l S _ fun x F1 H1 g1 n1 S1 => ?_
  refine hb M F0 H0 F1 H1 σ (xs ++ [some x]) (ts ++ [ra]) l S1 _ fun y F2 H2 g2 n2 S2 => ?_
  have l1 := S.len2
  have l2 := S1.len2
  have hy := S2.lastV l2 vb
  have S3 := S2.back l2
  have hx := S3.lastV l1 va
  exact hr F2 H2 x y Q S3.fh hx hy (RetR.mk (g1.trans g2) (S3.back l1) q)
theorem ev_un {o : V → Hp → VK → Prop} (ha : EvR K ta ss ra) (va : vw ss ra = some da) (hr : ∀ F H x Q, Ex F H → VwD K F H x da → RetR K F H r Q → o x H Q) : EvR K (tUn o ta) ss r := fun M F0 H0 F H σ xs ts l S Q q => by
  refine ha M F0 H0 F H σ xs ts l S _ fun x F1 H1 g1 n1 S1 => ?_
  have l1 := S.len2
  have hx := S1.lastV l1 va
  exact hr F1 H1 x Q S1.fh hx (RetR.mk g1 (S1.back l1) q)
end
end Fh
set_option Elab.async false
set_option linter.all false
set_option maxRecDepth 100000
set_option maxHeartbeats 2000000
namespace Fh
open PySem PySem.Spec PyProof.Rows L2 Evl
open PySem.W (Datum)

section
variable {K : PySem.W.Frag} {M : Addr → Prop} {F0 H0 F H F' H' : Hp} {σ xs : L2.St} {ss ts rs : List Sl} {ta tb te tc : TE} {tr : TA} {t u : TT} {r ra rb : Sl} {d da db : PyData} {ds : List PyData} {Q : VK} {v x y : V}
/-! ### argument lists -/
theorem av_nil : AvR K tNil ss [] := fun M F0 H0 F H σ xs ts l S Q q => q [] F H rfl (Gr.refl S.fh) (by simpa using S)
theorem av_cons (h : EvR K te ss r) (hr : AvR K tr ss rs) : AvR K (tCons te tr) ss (r :: rs) := fun M F0 H0 F H σ xs ts l S Q q => by
  refine h M F0 H0 F H σ xs ts l S _ fun v F1 H1 g1 n1 S1 => ?_
  refine hr M F0 H0 F1 H1 σ (xs ++ [some v]) (ts ++ [r]) l S1 _ fun vs F2 H2 hl g2 S2 => ?_
  refine q (v :: vs) F2 H2 (by rw [List.length_cons, List.length_cons, hl]) (g1.trans g2) ?_
  rw [List.append_assoc, List.append_assoc] at S2
  exact S2
/-- what the arguments read as -/
def vws (ss : List Sl) : List Sl → Option (List PyData)
  | [] => some []
  | r :: rs => match vw ss r with
    | some d => match vws ss rs with
      | some ds => some (d :: ds)
      | none => none
    | none => none
def dts : List Sl → Option (List PyData)
  | [] => some []
  | .dt d :: rs => match dts rs with
    | some ds => some (d :: ds)
    | none => none
  | _ :: _ => none
inductive VwA (K : PySem.W.Frag) (F H : Hp) : List V → List PyData → Prop where
  | nil : VwA K F H [] []
  | cons {v : V} {vs : List V} {d : PyData} {ds : List PyData} : VwD K F H v d → VwA K F H vs ds → VwA K F H (v :: vs) (d :: ds)
theorem Sts.argsV : ∀ {rs : List Sl} {vs : List V} {ds : List PyData} {xs : L2.St} {ts : List Sl}, Sts K M F0 H0 F H (σ ++ (xs ++ vs.map some)) (ss ++ (ts ++ rs)) → (σ ++ xs).length = (ss ++ ts).length → vs.length = rs.length → vws ss rs = some ds → VwA K F H vs ds
  | [], [], ds, _, _, _, _, _, h => by
    cases h
    exact .nil
  | [], _ :: _, _, _, _, _, _, hl, _ => by simp at hl
  | _ :: _, [], _, _, _, _, _, hl, _ => by simp at hl
  | r :: rs, v :: vs, ds, xs, ts, S, l, hl, h => by
    unfold vws at h
    cases e : vw ss r with
    | none => rw [e] at h; cases h
    | some d =>
      rw [e] at h
      simp only at h
      cases e2 : vws ss rs with
      | none => rw [e2] at h; cases h
      | some ds' =>
        rw [e2] at h
        cases h
        have S2 : Sts K M F0 H0 F H (σ ++ ((xs ++ [some v]) ++ vs.map some)) (ss ++ ((ts ++ [r]) ++ rs)) := by
          rw [List.append_assoc, List.append_assoc]
          exact S
        have l2 : (σ ++ (xs ++ [some v])).length = (ss ++ (ts ++ [r])).length := by
          simp only [List.length_append, List.length_cons, List.length_nil] at l ⊢
          omega
        have S3 : Sts K M F0 H0 F H (σ ++ (xs ++ [some v])) (ss ++ (ts ++ [r])) := by
          rw [← List.append_assoc σ, ← List.append_assoc ss] at S2
          exact S2.drop l2
        exact .cons (S3.lastV l e) (Sts.argsV S2 l2 (by simpa using hl) e2)
theorem Sts.backA {vs : List V} (S : Sts K M F0 H0 F H (σ ++ (xs ++ vs.map some)) (ss ++ (ts ++ rs))) (l : (σ ++ xs).length = (ss ++ ts).length) : Sts K M F0 H0 F H (σ ++ xs) (ss ++ ts) := by
  rw [← List.append_assoc, ← List.append_assoc] at S
  exact S.drop l
theorem vws_dts : ∀ {rs : List Sl} {ds : List PyData}, dts rs = some ds → vws ss rs = some ds
  | [], ds, h => h
  | .dt d :: rs, ds, h => by
    unfold dts at h
    cases e : dts rs with
    | none => rw [e] at h; cases h
    | some ds' =>
      rw [e] at h
      cases h
      unfold vws vw
      simp only
      rw [vws_dts e]
  | .no :: _, _, h => by cases h
  | .ls _ :: _, _, h => by cases h
  | .al _ :: _, _, h => by cases h
  | .fx _ :: _, _, h => by cases h
  | .mu _ :: _, _, h => by cases h
theorem Sts.argsD : ∀ {rs : List Sl} {vs : List V} {ds : List PyData} {xs : L2.St} {ts : List Sl}, Sts K M F0 H0 F H (σ ++ (xs ++ vs.map some)) (ss ++ (ts ++ rs)) → (σ ++ xs).length = (ss ++ ts).length → vs.length = rs.length → dts rs = some ds → DpAll K F vs ds
  | [], [], ds, _, _, _, _, _, h => by
    cases h
    exact .nil
  | [], _ :: _, _, _, _, _, _, hl, _ => by simp at hl
  | _ :: _, [], _, _, _, _, _, hl, _ => by simp at hl
  | .no :: _, _ :: _, _, _, _, _, _, _, h => by cases h
  | .ls _ :: _, _ :: _, _, _, _, _, _, _, h => by cases h
  | .al _ :: _, _ :: _, _, _, _, _, _, _, h => by cases h
  | .fx _ :: _, _ :: _, _, _, _, _, _, _, h => by cases h
  | .mu _ :: _, _ :: _, _, _, _, _, _, _, h => by cases h
  | .dt d :: rs, v :: vs, ds, xs, ts, S, l, hl, h => by
    unfold dts at h
    cases e : dts rs with
    | none => rw [e] at h; cases h
    | some ds' =>
      rw [e] at h
      cases h
      have S2 : Sts K M F0 H0 F H (σ ++ ((xs ++ [some v]) ++ vs.map some)) (ss ++ ((ts ++ [.dt d]) ++ rs)) := by
        rw [List.append_assoc, List.append_assoc]
        exact S
      have l2 : (σ ++ (xs ++ [some v])).length = (ss ++ (ts ++ [Sl.dt d])).length := by
        simp only [List.length_append, List.length_cons, List.length_nil] at l ⊢
        omega
      have S3 : Sts K M F0 H0 F H (σ ++ (xs ++ [some v])) (ss ++ (ts ++ [.dt d])) := by
        rw [← List.append_assoc σ, ← List.append_assoc ss] at S2
        exact S2.drop l2
      refine .cons ?_ (Sts.argsD S2 l2 (by simpa using hl) e)
      rw [← List.append_assoc, ← List.append_assoc] at S3
      obtain ⟨w, a, b⟩ := S3.get_dt (i := (ss ++ ts).length) (by rw [List.getElem?_append_right (Nat.le_refl _), Nat.sub_self]; rfl)
      rw [← l, List.getElem?_append_right (Nat.le_refl _), Nat.sub_self] at a
      cases a
      exact b
/-- a built-in's call, by what its arguments read as -/
theorem ev_cb {o : List V → Hp → VK → Prop} (ha : AvR K tr ss rs) (va : vws ss rs = some ds) (hr : ∀ F H vs Q, Ex F H → VwA K F H vs ds → RetR K F H r Q → o vs H Q) : EvR K (tCB o tr) ss r := fun M F0 H0 F H σ xs ts l S Q q => by
  refine ha M F0 H0 F H σ xs ts l S _ fun vs F1 H1 hl g1 S1 => ?_
  have l1 := S.len2
  exact hr F1 H1 vs Q S1.fh (S1.argsV l1 hl va) (RetR.mk g1 (S1.backA l1) q)
/-! ### a def's promise over data -/
/-- what a def is worth: R what it hands back, X what it raises -/
def spF (K : PySem.W.Frag) (R : List PyData → Sl → Prop) (X : List PyData → Addr → Prop) : Sp := fun vs H Q E => ∃ F ds, Ex F H ∧ DpAll K F vs ds ∧
  ((∃ r, R ds r ∧ RetR K F H r Q) ∨ (∃ C, X ds C ∧ ∀ H', Ex H H' → E (.ref C) none H'))
abbrev noX : List PyData → Addr → Prop := fun _ _ => False
theorem dpAll_app : ∀ {vs ws : List V} {ds es : List PyData}, DpAll K F vs ds → DpAll K F ws es → DpAll K F (vs ++ ws) (ds ++ es)
  | _, _, _, _, .nil, h => h
  | _, _, _, _, .cons a b, h => .cons a (dpAll_app b h)
theorem dpAll_len : ∀ {vs : List V} {ds : List PyData}, DpAll K F vs ds → vs.length = ds.length
  | _, _, .nil => rfl
  | _, _, .cons a b => by rw [List.length_cons, List.length_cons, dpAll_len b]
/-- a call of such a def; all arguments data -/
theorem ev_call {R : List PyData → Sl → Prop} {X : List PyData → Addr → Prop} {dvs : List V} {es : List PyData} {E : XK} (ha : AvR K tr ss rs) (va : dts rs = some ds) (hd : ∀ F, DpAll K F dvs es) (h : R (ds ++ es) r) : EvR K (tCall (spF K R X) dvs E tr) ss r := fun M F0 H0 F H σ xs ts l S Q q => by
  refine ha M F0 H0 F H σ xs ts l S _ fun vs F1 H1 hl g1 S1 => ?_
  have l1 := S.len2
  exact ⟨F1, _, S1.fh, dpAll_app (S1.argsD l1 hl va) (hd F1), .inl ⟨r, h, RetR.mk g1 (S1.backA l1) q⟩⟩
theorem ev_call0 {R : List PyData → Sl → Prop} {X : List PyData → Addr → Prop} {E : XK} (ha : AvR K tr ss rs) (va : dts rs = some ds) (h : R ds r) : EvR K (tCall (spF K R X) [] E tr) ss r := by
  refine ev_call (es := []) ha va (fun F => .nil) ?_
  rw [List.append_nil]
  exact h
/-- flat data: nothing of the heap -/
def flatD : PyData → Bool
  | .none | .bool _ | .int _ | .str _ => true
  | _ => false
theorem dp_flat : ∀ {d : PyData} {v : V}, flatD d = true → Dp K F v d → ∀ {F' : Hp}, Dp K F' v d
  | .none, _, _, h, _ => by cases h; exact .non
  | .bool _, _, _, h, _ => by cases h; exact .bl _
  | .int _, _, _, h, _ => by cases h; exact .int _
  | .str _, _, _, h, _ => by cases h; exact .str _
  | .list _, _, h, _, _ => by cases h
  | .tuple _, _, h, _, _ => by cases h
  | .dict _, _, h, _, _ => by cases h
theorem dpAll_flat : ∀ {ds : List PyData} {vs : List V}, ds.all flatD = true → DpAll K F vs ds → ∀ {F' : Hp}, DpAll K F' vs ds
  | [], _, _, h, _ => by cases h; exact .nil
  | d :: ds, _, h, h', _ => by
    cases h' with
    | cons a b =>
      rw [List.all_cons, Bool.and_eq_true] at h
      exact .cons (dp_flat h.1 a) (dpAll_flat h.2 b)
def flatR : Sl → Bool
  | .dt d => flatD d
  | .ls ds => ds.all flatD
  | _ => false
/-- a flat answer leans on nothing that was handed in -/
theorem RetR.flat {Fc : Hp} (k : RetR K F H r Q) (fr : flatR r = true) (e : Ex F H) (ec : Ex Fc H) : RetR K Fc H r Q := fun v F' H' g => by
  have S0 : Sts K (fun _ => False) Fc H Fc H [] [] := ⟨(Gr.refl ec).toM, rfl, fun _ => [], by intro i s h; simp at h, by intro i s p o h; simp at h, fun i h => by simp at h, fun i j p h => by simp at h⟩
  have S1 := g _ _ _ _ _ S0
  have hh : Ex H H' := S1.gr.toGr.hh
  cases r with
  | no => cases fr
  | al j => cases fr
  | fx φ => cases fr
  | mu ψ => cases fr
  | dt d =>
    obtain ⟨w, a, b⟩ := S1.get_dt (i := 0) rfl
    cases a
    exact k.dtE hh (dp_flat fr b)
  | ls ds =>
    obtain ⟨p, vs, a, b, c, _, hp⟩ := S1.get_ls (i := 0) rfl
    cases a
    exact k _ F H' fun _ _ _ _ _ S => S.push_ls hh hp c (dpAll_flat fr b)
theorem vwA_dp : ∀ {vs : List V} {ds : List PyData}, VwA K F H vs ds → Ex F H → DpAll K H vs ds
  | _, _, .nil, _ => .nil
  | _, _, .cons a b, e => .cons (a.dp e) (vwA_dp b e)
/-- a call of such a def: whatever the arguments are, the answer flat -/
theorem ev_callF {R : List PyData → Sl → Prop} {X : List PyData → Addr → Prop} {dvs : List V} {es : List PyData} {E : XK} (ha : AvR K tr ss rs) (va : vws ss rs = some ds) (hd : ∀ F, DpAll K F dvs es) (h : R (ds ++ es) r) (fr : flatR r = true) : EvR K (tCall (spF K R X) dvs E tr) ss r := fun M F0 H0 F H σ xs ts l S Q q => by
  refine ha M F0 H0 F H σ xs ts l S _ fun vs F1 H1 hl g1 S1 => ?_
  have l1 := S.len2
  exact ⟨H1, _, Ex.refl H1, dpAll_app (vwA_dp (S1.argsV l1 hl va) S1.fh) (hd H1), .inl ⟨r, h, (RetR.mk g1 (S1.backA l1) q).flat fr S1.fh (Ex.refl H1)⟩⟩
theorem ev_callF0 {R : List PyData → Sl → Prop} {X : List PyData → Addr → Prop} {E : XK} (ha : AvR K tr ss rs) (va : vws ss rs = some ds) (h : R ds r) (fr : flatR r = true) : EvR K (tCall (spF K R X) [] E tr) ss r := by
  refine ev_callF (es := []) ha va (fun F => .nil) ?_ fr
  rw [List.append_nil]
  exact h

/-! ### numbers -/
theorem ev_ii {f : Int → Int → Int} {i j : Int} (ha : EvR K ta ss (.dt (.int i))) (hb : EvR K tb ss (.dt (.int j))) : EvR K (tOp (rI0 fun i j => .int (f i j)) ta tb) ss (.dt (.int (f i j))) :=
  ev_op ha hb rfl rfl fun F H x y Q e hx hy k => ⟨i, j, hx.int, hy.int, k.int⟩
theorem ev_ib {f : Int → Int → Bool} {i j : Int} (ha : EvR K ta ss (.dt (.int i))) (hb : EvR K tb ss (.dt (.int j))) : EvR K (tOp (rI0 fun i j => .bl (f i j)) ta tb) ss (.dt (.bool (f i j))) :=
  ev_op ha hb rfl rfl fun F H x y Q e hx hy k => ⟨i, j, hx.int, hy.int, k.bl⟩
theorem ev_iC {C : Int → Int → Prop} {f : Int → Int → Int} {i j : Int} (ha : EvR K ta ss (.dt (.int i))) (hb : EvR K tb ss (.dt (.int j))) (hc : C i j) : EvR K (tOp (rI C fun i j => .int (f i j)) ta tb) ss (.dt (.int (f i j))) :=
  ev_op ha hb rfl rfl fun F H x y Q e hx hy k => ⟨i, j, hx.int, hy.int, hc, k.int⟩
theorem ev_u {f : Int → Int} {i : Int} (ha : EvR K ta ss (.dt (.int i))) : EvR K (tUn (rU fun i => .int (f i)) ta) ss (.dt (.int (f i))) :=
  ev_un ha rfl fun F H x Q e hx k => ⟨i, hx.int, k.int⟩
/-! ### ==, != of data -/
def rEqP (K : PySem.W.Frag) : R2 := fun x y H Q => ∃ d e, Dp K H x d ∧ Dp K H y e ∧ d.plain = true ∧ e.plain = true ∧ d.depth ≤ 60 ∧ Q (.bl (PyData.eqv d e)) H
def rNeP (K : PySem.W.Frag) : R2 := fun x y H Q => ∃ d e, Dp K H x d ∧ Dp K H y e ∧ d.plain = true ∧ e.plain = true ∧ d.depth ≤ 60 ∧ Q (.bl (!PyData.eqv d e)) H
theorem op_eqP {X : Cx} (hu : X.A.units + 64 < cLine) : OpR X (compareOp .Eq) (rEqP X.K) := by
  intro pins s σ H x y v u Q I rx ry h
  obtain ⟨d, e, hd, he, sd, se, dd, q⟩ := h
  obtain ⟨as, r1⟩ := L2.Dp.reads I d x v (Dp.kit d x sd hd) rx
  obtain ⟨bs, r2⟩ := L2.Dp.reads I e y u (Dp.kit e y se he) ry
  exact PySem.SeqAt.eq_plain r1 r2 sd se (PySem.W.room_datum (k := 60) dd (by omega)) ⟨.bl _, H, I, rfl, q⟩
theorem op_neP {X : Cx} (hu : X.A.units + 64 < cLine) : OpR X (compareOp .NotEq) (rNeP X.K) := by
  intro pins s σ H x y v u Q I rx ry h
  obtain ⟨d, e, hd, he, sd, se, dd, q⟩ := h
  obtain ⟨as, r1⟩ := L2.Dp.reads I d x v (Dp.kit d x sd hd) rx
  obtain ⟨bs, r2⟩ := L2.Dp.reads I e y u (Dp.kit e y se he) ry
  exact PySem.SeqAt.ne_plain r1 r2 sd se (PySem.W.room_datum (k := 60) dd (by omega)) ⟨.bl _, H, I, rfl, q⟩
theorem ev_eqP (ha : EvR K ta ss ra) (hb : EvR K tb ss rb) (va : vw ss ra = some da) (vb : vw ss rb = some db) (h1 : da.plain = true) (h2 : db.plain = true) (h3 : da.depth ≤ 60) : EvR K (tOp (rEqP K) ta tb) ss (.dt (.bool (PyData.eqv da db))) :=
  ev_op ha hb va vb fun F H x y Q e hx hy k => ⟨da, db, hx.dp e, hy.dp e, h1, h2, h3, k.bl⟩
theorem ev_neP (ha : EvR K ta ss ra) (hb : EvR K tb ss rb) (va : vw ss ra = some da) (vb : vw ss rb = some db) (h1 : da.plain = true) (h2 : db.plain = true) (h3 : da.depth ≤ 60) : EvR K (tOp (rNeP K) ta tb) ss (.dt (.bool (!PyData.eqv da db))) :=
  ev_op ha hb va vb fun F H x y Q e hx hy k => ⟨da, db, hx.dp e, hy.dp e, h1, h2, h3, k.bl⟩
/-- .. of things of one Lean type -/
theorem ev_eqT {α : Type} [DecidableEq α] [Datum α] {a b : α} (ha : EvR K ta ss ra) (hb : EvR K tb ss rb) (va : vw ss ra = some (Datum.toD a)) (vb : vw ss rb = some (Datum.toD b)) (hd : Datum.depth α ≤ 60 := by decide) : EvR K (tOp (rEqP K) ta tb) ss (.dt (.bool (decide (a = b)))) := by
  rw [← Datum.eqv a b]
  exact ev_eqP ha hb va vb (Datum.plain a) (Datum.plain b) (Nat.le_trans (Datum.depth_le a) hd)
theorem ev_neT {α : Type} [DecidableEq α] [Datum α] {a b : α} (ha : EvR K ta ss ra) (hb : EvR K tb ss rb) (va : vw ss ra = some (Datum.toD a)) (vb : vw ss rb = some (Datum.toD b)) (hd : Datum.depth α ≤ 60 := by decide) : EvR K (tOp (rNeP K) ta tb) ss (.dt (.bool (!decide (a = b)))) := by
  rw [← Datum.eqv a b]
  exact ev_neP ha hb va vb (Datum.plain a) (Datum.plain b) (Nat.le_trans (Datum.depth_le a) hd)
/-! ### items -/
theorem dpAll_get : ∀ {vs : List V} {ds : List PyData} {j : Nat} {d : PyData}, DpAll K F vs ds → ds[j]? = some d → ∃ v, vs[j]? = some v ∧ Dp K F v d
  | _, [], _, _, _, h => by simp at h
  | _, e :: ds, 0, d, h, h2 => by
    cases h with
    | cons a b =>
      cases Option.some.inj h2
      exact ⟨_, rfl, a⟩
  | _, e :: ds, j + 1, d, h, h2 => by
    cases h with
    | cons a b =>
      obtain ⟨v, x, y⟩ := dpAll_get (j := j) b (by simpa using h2)
      exact ⟨v, by simpa using x, y⟩
theorem dpAll_get' : ∀ {vs : List V} {ds : List PyData} {j : Nat} {v : V}, DpAll K F vs ds → vs[j]? = some v → ∃ d, ds[j]? = some d ∧ Dp K F v d
  | _, _, _, _, .nil, h => by simp at h
  | _, _, 0, v, .cons a b, h => by
    cases Option.some.inj h
    exact ⟨_, rfl, a⟩
  | _, _, j + 1, v, .cons a b, h => by
    obtain ⟨d, x, y⟩ := dpAll_get' (j := j) b (by simpa using h)
    exact ⟨d, by simpa using x, y⟩
theorem dpAll_at {vs : List V} {i : Int} (h : DpAll K F vs ds) (ha : atI ds i = some d) : ∃ v, atI vs i = some v ∧ Dp K F v d := by
  unfold atI at ha ⊢
  rw [dpAll_len h]
  cases e : ixN ds.length i with
  | none => rw [e] at ha; cases ha
  | some j =>
    rw [e] at ha
    exact dpAll_get h ha
theorem ev_ixL {i : Int} (ha : EvR K ta ss ra) (hb : EvR K tb ss (.dt (.int i))) (va : vw ss ra = some (.list ds)) (h : atI ds i = some d) : EvR K (tOp (rIxL K) ta tb) ss (.dt d) :=
  ev_op ha hb va rfl fun F H x y Q e hx hy k => by
    obtain ⟨p, vs, rfl, a, b⟩ := hx.lst e
    obtain ⟨v, c, g⟩ := dpAll_at b h
    exact ⟨p, vs, i, v, rfl, hy.int, a, c, k.dt g⟩
theorem ev_ixT {i : Int} (ha : EvR K ta ss ra) (hb : EvR K tb ss (.dt (.int i))) (va : vw ss ra = some (.tuple ds)) (h : atI ds i = some d) : EvR K (tOp (rIxT K) ta tb) ss (.dt d) :=
  ev_op ha hb va rfl fun F H x y Q e hx hy k => by
    obtain ⟨p, vs, rfl, a, b⟩ := hx.tup e
    obtain ⟨v, c, g⟩ := dpAll_at b h
    exact ⟨p, vs, i, v, rfl, hy.int, a, c, k.dt g⟩
theorem ev_ixS {i : Int} {z : Str} {c : Nat} (ha : EvR K ta ss (.dt (.str z))) (hb : EvR K tb ss (.dt (.int i))) (hz : z.length ≤ sizeLine) (h : atI z.cps.toList i = some c) : EvR K (tOp rIxS ta tb) ss (.dt (.str ⟨#[c]⟩)) :=
  ev_op ha hb rfl rfl fun F H x y Q e hx hy k => ⟨z, i, c, hx.str, hy.int, hz, h, k.str⟩
/-! ### displays -/
theorem ev_tup (ha : AvR K tr ss rs) (va : dts rs = some ds) (hl : rs.length ≤ 1000) : EvR K (tTup tr) ss (.dt (.tuple ds)) := fun M F0 H0 F H σ xs ts l S Q q => by
  refine ha M F0 H0 F H σ xs ts l S _ fun vs F1 H1 hl1 g1 S1 => ?_
  have l1 := S.len2
  exact ⟨Nat.le_of_lt (small1000 (by omega)), fun p hp => (RetR.mk g1 (S1.backA l1) q).tup (S1.argsD l1 hl1 va) hp⟩
theorem ev_lst (ha : AvR K tr ss rs) (va : dts rs = some ds) (hl : rs.length ≤ 1000) : EvR K (tLst tr) ss (.ls ds) := fun M F0 H0 F H σ xs ts l S Q q => by
  refine ha M F0 H0 F H σ xs ts l S _ fun vs F1 H1 hl1 g1 S1 => ?_
  have l1 := S.len2
  exact ⟨Nat.le_of_lt (small1000 (by omega)), fun p hp => (RetR.mk g1 (S1.backA l1) q).lst (S1.argsD l1 hl1 va) hp⟩
/-! ### tests -/
theorem tv_test {b : Bool} (h : EvR K te ss (.dt (.bool b))) : TvR K (tTest te) ss b := fun M F0 H0 F H σ xs ts l S Q q => by
  refine h M F0 H0 F H σ xs ts l S _ fun v F1 H1 g1 n1 S1 => ?_
  have l1 := S.len2
  exact ⟨b, (S1.lastV l1 (d := .bool b) rfl).bl, q F1 H1 g1 (S1.back l1)⟩
theorem tv_B {b : Bool} (h : EvR K te ss (.dt (.bool b))) : TvR K (tB te) ss b := fun M F0 H0 F H σ xs ts l S Q q => by
  refine h M F0 H0 F H σ xs ts l S _ fun v F1 H1 g1 n1 S1 => ?_
  have l1 := S.len2
  exact ⟨b, (S1.lastV l1 (d := .bool b) rfl).bl, q F1 H1 g1 (S1.back l1)⟩
theorem tv_and {a b : Bool} (h1 : TvR K t ss a) (h2 : a = true → TvR K u ss b) : TvR K (tAnd t u) ss (a && b) := fun M F0 H0 F H σ xs ts l S Q q => by
  refine h1 M F0 H0 F H σ xs ts l S _ fun F1 H1 g1 S1 => ?_
  cases a with
  | true => exact h2 rfl M F0 H0 F1 H1 σ xs ts l S1 Q fun F2 H2 g2 S2 => q F2 H2 (g1.trans g2) S2
  | false => exact q F1 H1 g1 S1
theorem tv_or {a b : Bool} (h1 : TvR K t ss a) (h2 : a = false → TvR K u ss b) : TvR K (tOr t u) ss (a || b) := fun M F0 H0 F H σ xs ts l S Q q => by
  refine h1 M F0 H0 F H σ xs ts l S _ fun F1 H1 g1 S1 => ?_
  cases a with
  | true => exact q F1 H1 g1 S1
  | false => exact h2 rfl M F0 H0 F1 H1 σ xs ts l S1 Q fun F2 H2 g2 S2 => q F2 H2 (g1.trans g2) S2
theorem tv_not {a : Bool} (h1 : TvR K t ss a) : TvR K (tNot t) ss (!a) := fun M F0 H0 F H σ xs ts l S Q q => h1 M F0 H0 F H σ xs ts l S _ q
theorem TvR.to {a b : Bool} (h : TvR K t ss a) (e : a = b) : TvR K t ss b := e ▸ h
theorem EvR.to {a b : Sl} (h : EvR K te ss a) (e : a = b) : EvR K te ss b := e ▸ h
theorem EvR.toD {a b : PyData} (h : EvR K te ss (.dt a)) (e : a = b) : EvR K te ss (.dt b) := e ▸ h
/-- as values -/
theorem ev_and {a b : Bool} (h1 : EvR K ta ss (.dt (.bool a))) (h2 : a = true → EvR K tb ss (.dt (.bool b))) : EvR K (tAndV ta tb) ss (.dt (.bool (a && b))) := fun M F0 H0 F H σ xs ts l S Q q => by
  refine h1 M F0 H0 F H σ xs ts l S _ fun v F1 H1 g1 n1 S1 => ?_
  have l1 := S.len2
  refine ⟨a, (S1.lastV l1 (d := .bool a) rfl).bl, ?_⟩
  cases a with
  | true => exact h2 rfl M F0 H0 F1 H1 σ xs ts l (S1.back l1) Q fun v F2 H2 g2 n2 S2 => q v F2 H2 (g1.trans g2) trivial S2
  | false => exact (RetR.mk g1 (S1.back l1) q).bl
theorem ev_or {a b : Bool} (h1 : EvR K ta ss (.dt (.bool a))) (h2 : a = false → EvR K tb ss (.dt (.bool b))) : EvR K (tOrV ta tb) ss (.dt (.bool (a || b))) := fun M F0 H0 F H σ xs ts l S Q q => by
  refine h1 M F0 H0 F H σ xs ts l S _ fun v F1 H1 g1 n1 S1 => ?_
  have l1 := S.len2
  refine ⟨a, (S1.lastV l1 (d := .bool a) rfl).bl, ?_⟩
  cases a with
  | true => exact (RetR.mk g1 (S1.back l1) q).bl
  | false => exact h2 rfl M F0 H0 F1 H1 σ xs ts l (S1.back l1) Q fun v F2 H2 g2 n2 S2 => q v F2 H2 (g1.trans g2) trivial S2
theorem ev_not {a : Bool} (h1 : EvR K ta ss (.dt (.bool a))) : EvR K (tNotV ta) ss (.dt (.bool (!a))) := fun M F0 H0 F H σ xs ts l S Q q => by
  refine h1 M F0 H0 F H σ xs ts l S _ fun v F1 H1 g1 n1 S1 => ?_
  have l1 := S.len2
  exact ⟨a, (S1.lastV l1 (d := .bool a) rfl).bl, (RetR.mk g1 (S1.back l1) q).bl⟩
theorem ev_if {b : Bool} (h : TvR K t ss b) (h1 : b = true → EvR K ta ss r) (h2 : b = false → EvR K tb ss r) : EvR K (tIf t ta tb) ss r := fun M F0 H0 F H σ xs ts l S Q q => by
  refine h M F0 H0 F H σ xs ts l S _ fun F1 H1 g1 S1 => ?_
  cases b with
  | true => exact h1 rfl M F0 H0 F1 H1 σ xs ts l S1 Q fun v F2 H2 g2 n2 S2 => q v F2 H2 (g1.trans g2) (n2.back g1.hh) S2
  | false => exact h2 rfl M F0 H0 F1 H1 σ xs ts l S1 Q fun v F2 H2 g2 n2 S2 => q v F2 H2 (g1.trans g2) (n2.back g1.hh) S2
end
end Fh
set_option Elab.async false
set_option linter.all false
set_option maxRecDepth 100000
set_option maxHeartbeats 2000000
namespace Fh
open PySem PySem.Spec PyProof.Rows L2 Evl
open PySem.W (Datum)

section
variable {K : PySem.W.Frag} {M : Addr → Prop} {F0 H0 F H F' H' : Hp} {σ xs gs : L2.St} {ss ts rs gt : List Sl} {ta tb te tc : TE} {tr : TA} {t u : TT} {r ra rb : Sl} {d da db : PyData} {ds : List PyData} {Q : VK} {v x y : V}
/-! ### statements: σ the def's slots, gs things remembered beside them -/
theorem st_seq {t u : TS} {D : Ends} (h : t { D with nx := u D } σ H) : tSeq t u D σ H := h
theorem st_asg {D : Ends} {i : Nat} (S : Sts K M F0 H0 F H (σ ++ gs) (ss ++ gt)) (l : σ.length = ss.length) (h : EvR K te ss r) (na : (ss ++ gt).all notAl = true) (nr : notAl r = true) (hi : i < ss.length)
    (k : ∀ σ' F' H', Sts K M F0 H0 F' H' (σ' ++ gs) (ss.set i r ++ gt) → σ'.length = (ss.set i r).length → D.nx σ' H') : tAsg te (gName i) D σ H := by
  refine h M F0 H0 F H σ gs gt l S _ fun v F1 H1 g1 n1 S1 => ?_
  have l2 := S.len2
  rw [← List.append_assoc, ← List.append_assoc] at S1
  have S2 := S1.put (i := i) l2 (by rw [List.length_append]; omega) na nr
  rw [List.set_append_left _ _ (by omega), List.set_append_left _ _ hi] at S2
  exact k _ F1 H1 S2 (by rw [List.length_set, List.length_set, l])
theorem st_drop {D : Ends} (S : Sts K M F0 H0 F H (σ ++ gs) (ss ++ gt)) (l : σ.length = ss.length) (h : EvR K te ss r)
    (k : ∀ F' H', Sts K M F0 H0 F' H' (σ ++ gs) (ss ++ gt) → D.nx σ H') : tDrop te D σ H :=
  h M F0 H0 F H σ gs gt l S _ fun v F1 H1 g1 n1 S1 => k F1 H1 (S1.back S.len2)
theorem st_if {D : Ends} {tu tw : TS} {b : Bool} (S : Sts K M F0 H0 F H (σ ++ gs) (ss ++ gt)) (l : σ.length = ss.length) (h : TvR K t ss b)
    (h1 : b = true → ∀ F' H', Sts K M F0 H0 F' H' (σ ++ gs) (ss ++ gt) → tu D σ H') (h2 : b = false → ∀ F' H', Sts K M F0 H0 F' H' (σ ++ gs) (ss ++ gt) → tw D σ H') : tIfS t tu tw D σ H :=
  h M F0 H0 F H σ gs gt l S _ fun F1 H1 g1 S1 => by
    cases b with
    | true =>
      show tu D σ H1
      exact h1 rfl F1 H1 S1
    | false =>
      show tw D σ H1
      exact h2 rfl F1 H1 S1
/-- a slot more, of things made behind the state's heap -/
theorem Sts.push_at {v : V} {L1 : List (Addr × HO)} (S : Sts K M F0 H0 F H σ ss) (g : Gr F H F' H') (hr : SlOk K F' (σ ++ [some v]) σ.length L1 r) (ha : ∀ p o, (p, o) ∈ L1 → H' p = some o ∧ F' p = none ∧ H p = none) (hn : (L1.map (·.1)).Nodup) :
    Sts K M F0 H0 F' H' (σ ++ [some v]) (ss ++ [r]) := by
  obtain ⟨g', l', L', O'⟩ := S
  have cut : ∀ {i}, i < (ss ++ [r]).length → i < ss.length ∨ i = ss.length := fun {i} h => by
    rw [List.length_append] at h
    have : [r].length = 1 := rfl
    omega
  have oth : ∀ {i p}, i < ss.length → p ∈ L1.map (·.1) → p ∈ (L' i).map (·.1) → False := fun {i p} hi h1 h2 => by
    obtain ⟨⟨q, o⟩, h3, rfl⟩ := List.mem_map.mp h1
    obtain ⟨⟨q', u⟩, h4, e4⟩ := List.mem_map.mp h2
    have e4' : q' = q := e4
    subst e4'
    have a := (O'.at_ i _ q' u (List.getElem?_eq_getElem hi) h4).1
    rw [(ha q' o h3).2.2] at a
    cases a
  refine ⟨g'.trans g.toM, by rw [List.length_append, List.length_append, l']; rfl, fun i => if i = ss.length then L1 else L' i, fun i s h => ?_, fun i s p o hs hp => ?_, fun i hi => ?_, fun i j p hi hj hp hq => ?_⟩
  · rcases cut (List.getElem?_eq_some_iff.mp h).1 with hi | rfl
    · rw [List.getElem?_append_left hi] at h
      rw [if_neg (by omega)]
      refine ((O'.ok i s h).ex g.ff).cong fun j hj => ?_
      rw [List.getElem?_append_left (by omega)]
    · rw [List.getElem?_append_right (Nat.le_refl _), Nat.sub_self] at h
      cases h
      rw [if_pos rfl, ← l']
      exact hr
  · rcases cut (List.getElem?_eq_some_iff.mp hs).1 with hi | rfl
    · rw [if_neg (by omega)] at hp
      rw [List.getElem?_append_left hi] at hs
      obtain ⟨a, b, c⟩ := O'.at_ i s p o hs hp
      exact ⟨g.hh p o a, g.nw p (by rw [a]; exact fun z => nomatch z) b, c⟩
    · rw [if_pos rfl] at hp
      obtain ⟨a, b, c⟩ := ha p o hp
      exact ⟨a, b, .inl (none_or fun h => g'.al p h c)⟩
  · rcases cut hi with hi | rfl
    · simp only [if_neg (show ¬ i = ss.length by omega)]
      exact O'.nd i hi
    · simp only [if_pos]
      exact hn
  · rcases cut hi with hi | rfl
    · rw [if_neg (by omega)] at hp
      rcases cut hj with hj | rfl
      · rw [if_neg (by omega)] at hq
        exact O'.ap i j p hi hj hp hq
      · rw [if_pos rfl] at hq
        exact (oth hi hq hp).elim
    · rw [if_pos rfl] at hp
      rcases cut hj with hj | rfl
      · rw [if_neg (by omega)] at hq
        exact (oth hj hp hq).elim
      · rfl
/-- what the def hands back -/
theorem ret_of {v : V} {Q : VK} (k : RetR K F0 H0 r Q) (S : Sts K (fun _ => False) F0 H0 F H (σ ++ [some v]) (ss ++ [r])) (l : σ.length = ss.length) (nr : notAl r = true) : Q v H := by
  refine k v F H fun M' F0' H0' σ' ss' S' => ?_
  have g : Gr F0 H0 F H := S.gr.toGr
  obtain ⟨_, _, L, O⟩ := S
  have ha : (ss ++ [r])[ss.length]? = some r := by rw [List.getElem?_append_right (Nat.le_refl _), Nat.sub_self]; rfl
  have o := O.ok ss.length r ha
  have at' := O.at_ ss.length r
  have nd := O.nd ss.length (by rw [List.length_append]; exact Nat.lt_succ_self _)
  have ev : (σ ++ [some v])[ss.length]? = some (some v) := by rw [← l]; exact last_at
  refine S'.push_at g (L1 := L ss.length) ?_ (fun p o h => ⟨(at' p o ha h).1, (at' p o ha h).2.1, (at' p o ha h).2.2.resolve_right fun z => z.1.elim⟩) nd
  cases r with
  | al j => cases nr
  | no => exact o
  | dt d =>
    obtain ⟨a, w, b, c⟩ := o
    rw [ev] at b
    cases b
    exact ⟨a, v, last_at, c⟩
  | ls ds =>
    obtain ⟨p, vs, a, b, c⟩ := o
    rw [ev] at a
    cases a
    exact ⟨p, vs, last_at, b, c⟩
  | fx φ =>
    obtain ⟨a, w, b, c⟩ := o
    rw [ev] at b
    cases b
    exact ⟨a, v, last_at, c⟩
  | mu ψ =>
    obtain ⟨w, b, c⟩ := o
    rw [ev] at b
    cases b
    exact ⟨v, last_at, c⟩
theorem st_ret {D : Ends} (S : Sts K (fun _ => False) F0 H0 F H (σ ++ gs) (ss ++ gt)) (l : σ.length = ss.length) (h : EvR K te ss r) (nr : notAl r = true) (k : RetR K F0 H0 r D.rt) : tRet te D σ H := by
  refine h _ F0 H0 F H σ gs gt l S _ fun v F1 H1 g1 n1 S1 => ?_
  have l2 := S.len2
  rw [← List.append_assoc, ← List.append_assoc] at S1
  exact ret_of k S1 l2 nr
/-- a slot that holds a new list is handed back -/
theorem st_retA {D : Ends} {i : Nat} (S : Sts K (fun _ => False) F0 H0 F H (σ ++ gs) (ss ++ gt)) (l : σ.length = ss.length) (h : ss[i]? = some (.ls ds)) (k : RetR K F0 H0 (.ls ds) D.rt) : tRet (tVar i) D σ H := by
  have hi := (List.getElem?_eq_some_iff.mp h).1
  have h' : (ss ++ gt)[i]? = some (.ls ds) := by rw [List.getElem?_append_left hi]; exact h
  obtain ⟨p, vs, a, b, c, f, z⟩ := S.get_ls h'
  have a' := a
  rw [List.getElem?_append_left (by omega)] at a
  refine ⟨_, a, k _ F H fun M' F0' H0' σ' ss' S' => ?_⟩
  exact S'.push_at S.gr.toGr (L1 := [(p, .lst vs)]) ⟨p, vs, last_at, rfl, b⟩ (fun q o h => by
    cases List.mem_singleton.mp h
    exact ⟨c, f, z⟩) (by simp)
end
end Fh
set_option Elab.async false
set_option linter.all false
set_option maxRecDepth 100000
set_option maxHeartbeats 2000000
namespace Fh
open PySem PySem.Spec PyProof.Rows L2 Evl
open PySem.W (Datum)

section
variable {K : PySem.W.Frag} {M : Addr → Prop} {F0 H0 F H F' H' : Hp} {σ xs gs : L2.St} {ss ts rs gt : List Sl} {ta tb te tc : TE} {tr : TA} {t u : TT} {r ra rb : Sl} {d da db : PyData} {ds : List PyData} {Q : VK} {v x y : V}
/-! ### slots forgotten, or told in other words -/
inductive Wk : List Sl → List Sl → Prop where
  | nil : Wk [] []
  | same {a b : Sl} {l m : List Sl} (e : a = b) (h : Wk l m) : Wk (a :: l) (b :: m)
  | no {a : Sl} {l m : List Sl} (h : Wk l m) : Wk (a :: l) (.no :: m)
theorem Wk.refl : ∀ l : List Sl, Wk l l
  | [] => .nil
  | _ :: l => .same rfl (Wk.refl l)
theorem Wk.app : ∀ {a b c d : List Sl}, Wk a b → Wk c d → Wk (a ++ c) (b ++ d)
  | _, _, _, _, .nil, h => h
  | _, _, _, _, .same e h1, h => .same e (Wk.app h1 h)
  | _, _, _, _, .no h1, h => .no (Wk.app h1 h)
theorem Wk.len : ∀ {a b : List Sl}, Wk a b → a.length = b.length
  | _, _, .nil => rfl
  | _, _, .same _ h => by rw [List.length_cons, List.length_cons, Wk.len h]
  | _, _, .no h => by rw [List.length_cons, List.length_cons, Wk.len h]
theorem Wk.get : ∀ {a b : List Sl} {i : Nat} {s : Sl}, Wk a b → b[i]? = some s → a[i]? = some s ∨ s = .no
  | _, _, _, _, .nil, h => by simp at h
  | _, _, 0, _, .same e h1, h => by
    cases Option.some.inj h
    exact .inl (by rw [e]; rfl)
  | _, _, i + 1, s, .same e h1, h => by
    have := Wk.get (i := i) (s := s) h1 (by simpa using h)
    simpa using this
  | _, _, 0, _, .no h1, h => by
    cases Option.some.inj h
    exact .inr rfl
  | _, _, i + 1, s, .no h1, h => by
    have := Wk.get (i := i) (s := s) h1 (by simpa using h)
    simpa using this
theorem Wk.noAl : ∀ {a b : List Sl}, Wk a b → b.all notAl = true → True := fun _ _ => trivial
theorem Sts.weak {ss' : List Sl} (S : Sts K M F0 H0 F H σ ss) (w : Wk ss ss') : Sts K M F0 H0 F H σ ss' := by
  obtain ⟨g, l, L, O⟩ := S
  have e := w.len
  classical
  refine ⟨g, l.trans e, fun i => if ss'[i]? = some .no then [] else L i, fun i s h => ?_, fun i s p o hs hp => ?_, fun i hi => ?_, fun i j p hi hj hp hq => ?_⟩
  · rcases w.get h with h1 | rfl
    · by_cases hn : s = .no
      · subst hn
        rw [if_pos h]
        rfl
      · rw [if_neg (by rw [h]; exact fun z => hn (Option.some.inj z))]
        exact O.ok i s h1
    · rw [if_pos h]
      rfl
  · by_cases hn : s = .no
    · subst hn
      rw [if_pos hs] at hp
      cases hp
    · rw [if_neg (by rw [hs]; exact fun z => hn (Option.some.inj z))] at hp
      exact O.at_ i s p o ((w.get hs).resolve_right hn) hp
  · split
    · exact .nil
    · exact O.nd i (by omega)
  · split at hp
    · cases hp
    · split at hq
      · cases hq
      · exact O.ap i j p (by omega) (by omega) hp hq
/-! ### lists that change -/
/-- xs.append(e) -/
theorem st_app {D : Ends} {i : Nat} (S : Sts K M F0 H0 F H (σ ++ gs) (ss ++ gt)) (l : σ.length = ss.length) (h : ss[i]? = some (.ls ds)) (he : EvR K te ss (.dt d)) (hl : ds.length < 1000000)
    (k : ∀ F' H', Sts K M F0 H0 F' H' (σ ++ gs) (ss.set i (.ls (ds ++ [d])) ++ gt) → σ.length = (ss.set i (.ls (ds ++ [d]))).length → D.nx σ H') : tDrop (tBM K "list" rAppend (tVar i) (tCons te tNil)) D σ H := by
  have hi := (List.getElem?_eq_some_iff.mp h).1
  have h' : (ss ++ gt)[i]? = some (.ls ds) := by rw [List.getElem?_append_left hi]; exact h
  obtain ⟨p, vs, a, b, c, f, z⟩ := S.get_ls h'
  have a2 := a
  rw [List.getElem?_append_left (by omega)] at a2
  refine ⟨.ref p, a2, .inl ⟨rfl, _, SqL.of c⟩, ?_⟩
  refine he M F0 H0 F H σ gs gt l S _ fun v F1 H1 g1 n1 S1 => ?_
  have l2 := S.len2
  have S2 := S1.back l2
  obtain ⟨q, ws, a1, b1, c1, d1, k1⟩ := S2.write h'
  rw [a] at a1
  cases a1
  rw [← List.append_assoc, ← List.append_assoc] at S1
  obtain ⟨w, e1, e2⟩ := S1.get_dt (i := (ss ++ gt).length) (by rw [List.getElem?_append_right (Nat.le_refl _), Nat.sub_self]; rfl)
  rw [← l2, last_at] at e1
  cases e1
  refine ⟨p, ws, v, rfl, rfl, b1, ?_, ?_⟩
  · rw [dpAll_len c1, sizeLine_eq]
    omega
  · have S3 := k1 (ws ++ [v]) (ds ++ [d]) (dpAll_app c1 (.cons e2 .nil))
    rw [List.set_append_left _ _ hi] at S3
    exact k F1 _ S3 (by rw [List.length_set, l])
/-- xs[j] = e -/
theorem st_setL {D : Ends} {i : Nat} {j : Nat} {z : Int} (S : Sts K M F0 H0 F H (σ ++ gs) (ss ++ gt)) (l : σ.length = ss.length) (h : ss[i]? = some (.ls ds)) (he : EvR K te ss (.dt d)) (hb : EvR K tb ss (.dt (.int z))) (hj : ixN ds.length z = some j)
    (k : ∀ F' H', Sts K M F0 H0 F' H' (σ ++ gs) (ss.set i (.ls (ds.set j d)) ++ gt) → σ.length = (ss.set i (.ls (ds.set j d))).length → D.nx σ H') : tAsg te (gSub (tVar i) tb rSetL) D σ H := by
  have hi := (List.getElem?_eq_some_iff.mp h).1
  have h' : (ss ++ gt)[i]? = some (.ls ds) := by rw [List.getElem?_append_left hi]; exact h
  refine he M F0 H0 F H σ gs gt l S _ fun v F1 H1 g1 n1 S1 => ?_
  obtain ⟨p, vs, a, b, c, f, z'⟩ := S.get_ls h'
  have a2 := a
  rw [List.getElem?_append_left (by omega)] at a2
  refine ⟨.ref p, a2, ?_⟩
  refine hb M F0 H0 F1 H1 σ (gs ++ [some v]) (gt ++ [.dt d]) l S1 _ fun iv F2 H2 g2 n2 S2 => ?_
  have l2 := S.len2
  have l3 := S1.len2
  have hz : iv = .int z := (S2.lastV l3 (d := .int z) rfl).int
  have S3 := S2.back l3
  have S4 := S3.back l2
  obtain ⟨q, ws, a1, b1, c1, d1, k1⟩ := S4.write h'
  rw [a] at a1
  cases a1
  rw [← List.append_assoc, ← List.append_assoc] at S3
  obtain ⟨w, e1, e2⟩ := S3.get_dt (i := (ss ++ gt).length) (by rw [List.getElem?_append_right (Nat.le_refl _), Nat.sub_self]; rfl)
  rw [← l2, last_at] at e1
  cases e1
  refine ⟨p, ws, z, j, rfl, hz, b1, by rw [dpAll_len c1]; exact hj, ?_⟩
  have dset : ∀ {vs : List V} {ds : List PyData} (j : Nat), DpAll K F2 vs ds → DpAll K F2 (vs.set j v) (ds.set j d) := by
    intro vs
    induction vs with
    | nil => intro ds j h; cases h; exact .nil
    | cons v0 vs ih =>
      intro ds j h
      cases h with
      | cons x y =>
        cases j with
        | zero => exact .cons e2 y
        | succ j => exact .cons x (ih j y)
  have S5 := k1 (ws.set j v) (ds.set j d) (dset j c1)
  rw [List.set_append_left _ _ hi] at S5
  exact k F2 _ S5 (by rw [List.length_set, l])
/-- x += e -/
theorem st_aug {D : Ends} {i : Nat} {f : Int → Int → Int} {a b : Int} (S : Sts K M F0 H0 F H (σ ++ gs) (ss ++ gt)) (l : σ.length = ss.length) (h : ss[i]? = some (.dt (.int a))) (he : EvR K te ss (.dt (.int b))) (na : (ss ++ gt).all notAl = true)
    (k : ∀ σ' F' H', Sts K M F0 H0 F' H' (σ' ++ gs) (ss.set i (.dt (.int (f a b))) ++ gt) → σ'.length = (ss.set i (.dt (.int (f a b)))).length → D.nx σ' H') : tAug i te (ipI f) D σ H := by
  have hi := (List.getElem?_eq_some_iff.mp h).1
  have h' : (ss ++ gt)[i]? = some (.dt (.int a)) := by rw [List.getElem?_append_left hi]; exact h
  obtain ⟨w, e1, e2⟩ := S.get_dt h'
  rw [List.getElem?_append_left (by omega)] at e1
  cases e2
  refine ⟨.int a, e1, ?_⟩
  refine he M F0 H0 F H σ gs gt l S _ fun v F1 H1 g1 n1 S1 => ?_
  have l2 := S.len2
  have hz : v = .int b := (S1.lastV l2 (d := .int b) rfl).int
  have S2 := (S1.back l2).push_dt (v := .int (f a b)) (.int _)
  have S3 := S2.put (i := i) l2 (by rw [List.length_append]; omega) na rfl
  rw [List.set_append_left _ _ (by omega), List.set_append_left _ _ hi] at S3
  exact ⟨a, b, rfl, hz, k _ F1 H1 S3 (by rw [List.length_set, List.length_set, l])⟩
/-- target i = a slot more at the end -/
theorem Sts.setv {i : Nat} {v : V} (S : Sts K M F0 H0 F H (σ ++ gs) (ss ++ gt)) (l : σ.length = ss.length) (hi : i < ss.length) (h : Dp K F v d) (na : (ss ++ gt).all notAl = true) : Sts K M F0 H0 F H (σ.set i (some v) ++ gs) (ss.set i (.dt d) ++ gt) := by
  have S3 := (S.push_dt h).put (i := i) S.len2 (by rw [List.length_append]; omega) na rfl
  rw [List.set_append_left _ _ (by omega), List.set_append_left _ _ hi] at S3
  exact S3
/-! ### loops -/
/-- what stands behind a turn: the word W -/
def Nxt (K : PySem.W.Frag) (M : Addr → Prop) (F0 H0 : Hp) (gs : L2.St) (gt W : List Sl) (σ : L2.St) (H : Hp) : Prop := ∃ F, Sts K M F0 H0 F H (σ ++ gs) (W ++ gt) ∧ σ.length = W.length
/-- for x in range(n) -/
theorem st_forR1 {D : Ends} {tb : TS} {i : Nat} {n : Int} {m : Nat} (S : Sts K M F0 H0 F H (σ ++ gs) (ss ++ gt)) (l : σ.length = ss.length) (h : AvR K tr ss [.dt (.int n)]) (hn : n = (m : Int)) (hm : m < 2 ^ 60) (W : Nat → List Sl) (w0 : Wk ss (W 0)) (na : ∀ k, ((W k) ++ gt).all notAl = true) (hi : i < ss.length)
    (hs : ∀ k, k < m → ∀ σ' F' H', Sts K M F0 H0 F' H' (σ' ++ gs) ((W k).set i (.dt (.int (k : Int))) ++ gt) → σ'.length = ((W k).set i (.dt (.int (k : Int)))).length → tb { D with nx := Nxt K M F0 H0 gs gt (W (k + 1)), ct := Nxt K M F0 H0 gs gt (W (k + 1)), bk := D.nx } σ' H')
    (hd : ∀ σ' F' H', Sts K M F0 H0 F' H' (σ' ++ gs) (W m ++ gt) → σ'.length = (W m).length → D.nx σ' H') (hw : ∀ k, (W k).length = ss.length := by intro _; rfl) : tFor (iRng1 tr) (gName i) tb D σ H := by
  refine h M F0 H0 F H σ gs gt l S _ fun vs F1 H1 hl g1 S1 => ?_
  have ha := S1.argsV (ds := [.int n]) S.len2 hl rfl
  have hv : vs = [.int n] := by
    cases ha with
    | cons a b =>
      cases b
      rw [a.int]
  have S2 := S1.backA S.len2
  refine ⟨n, hv, by omega, by omega, ?_⟩
  have e : n.toNat = m := by omega
  rw [e]
  refine for_range (lo := 0) (n := m) (fun k σ H => Nxt K M F0 H0 gs gt (W k) σ H) ⟨F1, S2.weak (w0.app (Wk.refl _)), by rw [hw, l]⟩ (fun k σ' H' hk p => ?_) fun σ' H' p => ?_
  · obtain ⟨F2, S3, l3⟩ := p
    have e0 : (0 : Int) + (k : Int) = (k : Int) := Int.zero_add _
    rw [e0]
    exact hs k hk _ F2 H' (S3.setv l3 (by rw [hw]; exact hi) (.int _) (na k)) (by rw [List.length_set, List.length_set, l3])
  · obtain ⟨F2, S3, l3⟩ := p
    exact hd σ' F2 H' S3 l3
/-- for x in range(a, b) -/
theorem st_forR2 {D : Ends} {tb : TS} {i : Nat} {lo n : Int} {m : Nat} (S : Sts K M F0 H0 F H (σ ++ gs) (ss ++ gt)) (l : σ.length = ss.length) (h : AvR K tr ss [.dt (.int lo), .dt (.int n)]) (hn : (n - lo).toNat = m) (hm : -(2 ^ 60) < lo ∧ lo < 2 ^ 60 ∧ -(2 ^ 60) < n ∧ n < 2 ^ 60) (W : Nat → List Sl) (w0 : Wk ss (W 0)) (na : ∀ k, ((W k) ++ gt).all notAl = true) (hi : i < ss.length)
    (hs : ∀ k, k < m → ∀ σ' F' H', Sts K M F0 H0 F' H' (σ' ++ gs) ((W k).set i (.dt (.int (lo + (k : Int)))) ++ gt) → σ'.length = ((W k).set i (.dt (.int (lo + (k : Int))))).length → tb { D with nx := Nxt K M F0 H0 gs gt (W (k + 1)), ct := Nxt K M F0 H0 gs gt (W (k + 1)), bk := D.nx } σ' H')
    (hd : ∀ σ' F' H', Sts K M F0 H0 F' H' (σ' ++ gs) (W m ++ gt) → σ'.length = (W m).length → D.nx σ' H') (hw : ∀ k, (W k).length = ss.length := by intro _; rfl) : tFor (iRng2 tr) (gName i) tb D σ H := by
  refine h M F0 H0 F H σ gs gt l S _ fun vs F1 H1 hl g1 S1 => ?_
  have ha := S1.argsV (ds := [.int lo, .int n]) S.len2 hl rfl
  have hv : vs = [.int lo, .int n] := by
    cases ha with
    | cons a b =>
      cases b with
      | cons b c =>
        cases c
        rw [a.int, b.int]
  have S2 := S1.backA S.len2
  refine ⟨lo, n, hv, by omega, ?_⟩
  rw [hn]
  refine for_range (lo := lo) (n := m) (fun k σ H => Nxt K M F0 H0 gs gt (W k) σ H) ⟨F1, S2.weak (w0.app (Wk.refl _)), by rw [hw, l]⟩ (fun k σ' H' hk p => ?_) fun σ' H' p => ?_
  · obtain ⟨F2, S3, l3⟩ := p
    exact hs k hk _ F2 H' (S3.setv l3 (by rw [hw]; exact hi) (.int _) (na k)) (by rw [List.length_set, List.length_set, l3])
  · obtain ⟨F2, S3, l3⟩ := p
    exact hd σ' F2 H' S3 l3
/-- for x in a list that reads as ds (remembered while the loop runs) -/
theorem st_forL {D : Ends} {tb : TS} {g : TG} (S : Sts K M F0 H0 F H (σ ++ gs) (ss ++ gt)) (l : σ.length = ss.length) (h : EvR K te ss (.dt (.list ds))) (W : Nat → List Sl) (w0 : Wk ss (W 0))
    (hs : ∀ k d p, ds[k]? = some d → ∀ x σ' F' H', Dp K F' x d → Sts K M F0 H0 F' H' (σ' ++ (gs ++ [some p])) (W k ++ (gt ++ [.dt (.list ds)])) → σ'.length = (W k).length →
      g x σ' H' fun σ2 H2 => tb { D with nx := Nxt K M F0 H0 (gs ++ [some p]) (gt ++ [.dt (.list ds)]) (W (k + 1)), ct := Nxt K M F0 H0 (gs ++ [some p]) (gt ++ [.dt (.list ds)]) (W (k + 1)), bk := D.nx } σ2 H2)
    (hd : ∀ σ' F' H', Sts K M F0 H0 F' H' (σ' ++ gs) (W ds.length ++ gt) → σ'.length = (W ds.length).length → D.nx σ' H') (hw : ∀ k, (W k).length = ss.length := by intro _; rfl) : tFor (iList K te) g tb D σ H := by
  refine h M F0 H0 F H σ gs gt l S _ fun v F1 H1 g1 n1 S1 => ?_
  have hv := (S1.lastV S.len2 (d := .list ds) rfl).lst S1.fh
  obtain ⟨a, vs, rfl, sq, da⟩ := hv
  have hlen := dpAll_len da
  refine ⟨a, rfl, ⟨vs, sq⟩, ?_⟩
  -- the list at a, read off the remembered slot
  have look : ∀ {k : Nat} {σ' : L2.St} {F' H' : Hp}, Sts K M F0 H0 F' H' (σ' ++ (gs ++ [some (.ref a)])) (W k ++ (gt ++ [.dt (.list ds)])) → σ'.length = (W k).length → ∃ ws, SqL K H' a ws ∧ DpAll K F' ws ds := fun {k σ' F' H'} S3 l3 => by
    have hg := S.len
    have l4 : (σ' ++ gs).length = (W k ++ gt).length := by
      rw [List.length_append] at hg ⊢
      rw [List.length_append] at hg ⊢
      omega
    obtain ⟨p, ws, e, x, y⟩ := (S3.lastV l4 (d := .list ds) rfl).lst S3.fh
    cases e
    exact ⟨ws, x, y⟩
  refine ⟨fun k m σ' H' => m = ds.length - k ∧ k ≤ ds.length ∧ Nxt K M F0 H0 (gs ++ [some (.ref a)]) (gt ++ [.dt (.list ds)]) (W k) σ' H', ⟨ds.length, by simp, Nat.zero_le _, F1, S1.weak (w0.app (Wk.refl _)), by rw [hw, l]⟩, ?_⟩
  rintro k m σ' H' ⟨rfl, hk, F2, S3, l3⟩
  obtain ⟨ws, sq', da'⟩ := look S3 l3
  by_cases hlt : k < ds.length
  · have hlw : k < ws.length := by rw [dpAll_len da']; exact hlt
    refine .inr ⟨⟨ws, ws[k], sq', by simp [hlw]⟩, Nxt K M F0 H0 (gs ++ [some (.ref a)]) (gt ++ [.dt (.list ds)]) (W (k + 1)), fun σ2 H2 p => ⟨ds.length - (k + 1), by omega, rfl, hlt, p⟩, fun x H2 y => ?_⟩
    obtain ⟨e, y⟩ := y
    subst e
    obtain ⟨d, e1, e2⟩ := dpAll_get' da' (y ws sq')
    exact hs k d _ e1 x σ' F2 _ e2 S3 l3
  · have e : k = ds.length := by omega
    subst e
    have hg := S.len
    have l4 : (σ' ++ gs).length = (W ds.length ++ gt).length := by
      rw [List.length_append] at hg ⊢
      rw [List.length_append] at hg ⊢
      have := hw ds.length
      omega
    exact .inl ⟨⟨ws, sq', by rw [dpAll_len da']; exact Nat.le_refl _⟩, hd σ' F2 _ (S3.back l4) l3⟩
/-- for x in a tuple -/
theorem st_forT {D : Ends} {tb : TS} {g : TG} (S : Sts K M F0 H0 F H (σ ++ gs) (ss ++ gt)) (l : σ.length = ss.length) (h : EvR K te ss (.dt (.tuple ds))) (W : Nat → List Sl) (w0 : Wk ss (W 0))
    (hs : ∀ k d p, ds[k]? = some d → ∀ x σ' F' H', Dp K F' x d → Sts K M F0 H0 F' H' (σ' ++ (gs ++ [some p])) (W k ++ (gt ++ [.dt (.tuple ds)])) → σ'.length = (W k).length →
      g x σ' H' fun σ2 H2 => tb { D with nx := Nxt K M F0 H0 (gs ++ [some p]) (gt ++ [.dt (.tuple ds)]) (W (k + 1)), ct := Nxt K M F0 H0 (gs ++ [some p]) (gt ++ [.dt (.tuple ds)]) (W (k + 1)), bk := D.nx } σ2 H2)
    (hd : ∀ σ' F' H', Sts K M F0 H0 F' H' (σ' ++ gs) (W ds.length ++ gt) → σ'.length = (W ds.length).length → D.nx σ' H') (hw : ∀ k, (W k).length = ss.length := by intro _; rfl) : tFor (iTup K te) g tb D σ H := by
  refine h M F0 H0 F H σ gs gt l S _ fun v F1 H1 g1 n1 S1 => ?_
  have hv := (S1.lastV S.len2 (d := .tuple ds) rfl).tup S1.fh
  obtain ⟨a, vs, rfl, sq, da⟩ := hv
  refine ⟨a, rfl, ⟨vs, sq⟩, ?_⟩
  have look : ∀ {k : Nat} {σ' : L2.St} {F' H' : Hp}, Sts K M F0 H0 F' H' (σ' ++ (gs ++ [some (.ref a)])) (W k ++ (gt ++ [.dt (.tuple ds)])) → σ'.length = (W k).length → ∃ ws, SqT K H' a ws ∧ DpAll K F' ws ds := fun {k σ' F' H'} S3 l3 => by
    have hg := S.len
    have l4 : (σ' ++ gs).length = (W k ++ gt).length := by
      rw [List.length_append] at hg ⊢
      rw [List.length_append] at hg ⊢
      omega
    obtain ⟨p, ws, e, x, y⟩ := (S3.lastV l4 (d := .tuple ds) rfl).tup S3.fh
    cases e
    exact ⟨ws, x, y⟩
  refine ⟨fun k m σ' H' => m = ds.length - k ∧ k ≤ ds.length ∧ Nxt K M F0 H0 (gs ++ [some (.ref a)]) (gt ++ [.dt (.tuple ds)]) (W k) σ' H', ⟨ds.length, by simp, Nat.zero_le _, F1, S1.weak (w0.app (Wk.refl _)), by rw [hw, l]⟩, ?_⟩
  rintro k m σ' H' ⟨rfl, hk, F2, S3, l3⟩
  obtain ⟨ws, sq', da'⟩ := look S3 l3
  by_cases hlt : k < ds.length
  · have hlw : k < ws.length := by rw [dpAll_len da']; exact hlt
    refine .inr ⟨⟨ws, ws[k], sq', by simp [hlw]⟩, Nxt K M F0 H0 (gs ++ [some (.ref a)]) (gt ++ [.dt (.tuple ds)]) (W (k + 1)), fun σ2 H2 p => ⟨ds.length - (k + 1), by omega, rfl, hlt, p⟩, fun x H2 y => ?_⟩
    obtain ⟨e, y⟩ := y
    subst e
    obtain ⟨d, e1, e2⟩ := dpAll_get' da' (y ws sq')
    exact hs k d _ e1 x σ' F2 _ e2 S3 l3
  · have e : k = ds.length := by omega
    subst e
    have hg := S.len
    have l4 : (σ' ++ gs).length = (W ds.length ++ gt).length := by
      rw [List.length_append] at hg ⊢
      rw [List.length_append] at hg ⊢
      have := hw ds.length
      omega
    exact .inl ⟨⟨ws, sq', by rw [dpAll_len da']; exact Nat.le_refl _⟩, hd σ' F2 _ (S3.back l4) l3⟩
/-- a loop's target that is a name -/
theorem g_name {i : Nat} {x : V} {k : L2.St → Hp → Prop} (S : Sts K M F0 H0 F H (σ ++ gs) (ss ++ gt)) (l : σ.length = ss.length) (hi : i < ss.length) (h : Dp K F x d) (na : (ss ++ gt).all notAl = true)
    (hk : ∀ σ' F' H', Sts K M F0 H0 F' H' (σ' ++ gs) (ss.set i (.dt d) ++ gt) → σ'.length = (ss.set i (.dt d)).length → k σ' H') : gName i x σ H k :=
  hk _ F H (S.setv l hi h na) (by rw [List.length_set, List.length_set, l])
/-- a target that is a pair of names -/
theorem g_pair {i j : Nat} {x : V} {d1 d2 : PyData} {k : L2.St → Hp → Prop} (S : Sts K M F0 H0 F H (σ ++ gs) (ss ++ gt)) (l : σ.length = ss.length) (hi : i < ss.length) (hj : j < ss.length) (h : Dp K F x (.tuple [d1, d2])) (na : (ss ++ gt).all notAl = true)
    (hk : ∀ σ' F' H', Sts K M F0 H0 F' H' (σ' ++ gs) ((ss.set i (.dt d1)).set j (.dt d2) ++ gt) → σ'.length = ((ss.set i (.dt d1)).set j (.dt d2)).length → k σ' H') : gTup K 2 (gCons (gName i) (gCons (gName j) gNil)) x σ H k := by
  obtain ⟨p, vs, rfl, sq, da⟩ := rdT_of h S.fh
  cases da with
  | cons a b =>
    cases b with
    | cons b c =>
      cases c
      refine ⟨p, _, rfl, sq, rfl, _, _, rfl, _, _, rfl, rfl, ?_⟩
      have S1 := S.setv l hi a na
      have na2 : ((ss.set i (.dt d1)) ++ gt).all notAl = true := by
        rw [List.all_append, Bool.and_eq_true] at na ⊢
        refine ⟨List.all_eq_true.mpr fun s hs => ?_, na.2⟩
        rcases List.mem_or_eq_of_mem_set hs with h | h
        · exact List.all_eq_true.mp na.1 s h
        · rw [h]
          rfl
      have S2 := S1.setv (by rw [List.length_set, List.length_set, l]) (by rw [List.length_set]; exact hj) b na2
      exact hk _ F H S2 (by simp only [List.length_set, l])
/-- while -/
theorem st_while {D : Ends} {tt : TT} {tb : TS} {α : Type} (W : α → List Sl) (P : α → Prop) (μ : α → Nat) (b : α → Bool) (a0 : α) (S : Sts K M F0 H0 F H (σ ++ gs) (ss ++ gt)) (l : σ.length = ss.length) (w0 : Wk ss (W a0)) (p0 : P a0) (ht : ∀ a, P a → TvR K tt (W a) (b a))
    (hs : ∀ a, P a → b a = true → ∀ σ' F' H', Sts K M F0 H0 F' H' (σ' ++ gs) (W a ++ gt) → σ'.length = (W a).length → tb { D with nx := fun σ2 H2 => ∃ a', μ a' < μ a ∧ P a' ∧ Nxt K M F0 H0 gs gt (W a') σ2 H2, ct := fun σ2 H2 => ∃ a', μ a' < μ a ∧ P a' ∧ Nxt K M F0 H0 gs gt (W a') σ2 H2, bk := D.nx } σ' H')
    (hd : ∀ a, P a → b a = false → ∀ σ' F' H', Sts K M F0 H0 F' H' (σ' ++ gs) (W a ++ gt) → σ'.length = (W a).length → D.nx σ' H') : tWhile tt tb D σ H := by
  refine ⟨fun m σ' H' => ∃ a, m = μ a ∧ P a ∧ Nxt K M F0 H0 gs gt (W a) σ' H', ⟨_, a0, rfl, p0, F, S.weak (w0.app (Wk.refl _)), by rw [← w0.len, l]⟩, ?_⟩
  rintro m σ' H' ⟨a, rfl, pa, F2, S2, l2⟩
  refine ht a pa M F0 H0 F2 H' σ' gs gt l2 S2 _ fun F3 H3 g3 S3 => ?_
  cases e : b a with
  | true => exact ⟨_, fun σ2 H2 ⟨a', h1, h2, h3⟩ => ⟨μ a', h1, a', rfl, h2, h3⟩, hs a pa e σ' F3 H3 S3 l2⟩
  | false => exact hd a pa e σ' F3 H3 S3 l2

/-! ### the same, something behind -/
variable {tz : TS}
theorem q_asg {D : Ends} {i : Nat} (S : Sts K M F0 H0 F H (σ ++ gs) (ss ++ gt)) (l : σ.length = ss.length) (h : EvR K te ss r) (na : (ss ++ gt).all notAl = true) (nr : notAl r = true) (hi : i < ss.length)
    (k : ∀ σ' F' H', Sts K M F0 H0 F' H' (σ' ++ gs) (ss.set i r ++ gt) → σ'.length = (ss.set i r).length → tz D σ' H') : tSeq (tAsg te (gName i)) tz D σ H := st_asg (D := { D with nx := tz D }) S l h na nr hi k
theorem q_drop {D : Ends} (S : Sts K M F0 H0 F H (σ ++ gs) (ss ++ gt)) (l : σ.length = ss.length) (h : EvR K te ss r)
    (k : ∀ F' H', Sts K M F0 H0 F' H' (σ ++ gs) (ss ++ gt) → tz D σ H') : tSeq (tDrop te) tz D σ H := st_drop (D := { D with nx := tz D }) S l h k
theorem q_if {D : Ends} {tu tw : TS} {b : Bool} (S : Sts K M F0 H0 F H (σ ++ gs) (ss ++ gt)) (l : σ.length = ss.length) (h : TvR K t ss b)
    (h1 : b = true → ∀ F' H', Sts K M F0 H0 F' H' (σ ++ gs) (ss ++ gt) → tu { D with nx := tz D } σ H') (h2 : b = false → ∀ F' H', Sts K M F0 H0 F' H' (σ ++ gs) (ss ++ gt) → tw { D with nx := tz D } σ H') : tSeq (tIfS t tu tw) tz D σ H := st_if (D := { D with nx := tz D }) S l h h1 h2
/-- an if without else -/
theorem q_when {D : Ends} {tu : TS} {b : Bool} (S : Sts K M F0 H0 F H (σ ++ gs) (ss ++ gt)) (l : σ.length = ss.length) (h : TvR K t ss b)
    (h1 : b = true → ∀ F' H', Sts K M F0 H0 F' H' (σ ++ gs) (ss ++ gt) → tu { D with nx := tz D } σ H') (h2 : b = false → ∀ F' H', Sts K M F0 H0 F' H' (σ ++ gs) (ss ++ gt) → tz D σ H') : tSeq (tIfS t tu tNext) tz D σ H := st_if (D := { D with nx := tz D }) S l h h1 h2
theorem st_when {D : Ends} {tu : TS} {b : Bool} (S : Sts K M F0 H0 F H (σ ++ gs) (ss ++ gt)) (l : σ.length = ss.length) (h : TvR K t ss b)
    (h1 : b = true → ∀ F' H', Sts K M F0 H0 F' H' (σ ++ gs) (ss ++ gt) → tu D σ H') (h2 : b = false → ∀ F' H', Sts K M F0 H0 F' H' (σ ++ gs) (ss ++ gt) → D.nx σ H') : tIfS t tu tNext D σ H := st_if S l h h1 h2
theorem q_app {D : Ends} {i : Nat} (S : Sts K M F0 H0 F H (σ ++ gs) (ss ++ gt)) (l : σ.length = ss.length) (h : ss[i]? = some (.ls ds)) (he : EvR K te ss (.dt d)) (hl : ds.length < 1000000)
    (k : ∀ F' H', Sts K M F0 H0 F' H' (σ ++ gs) (ss.set i (.ls (ds ++ [d])) ++ gt) → σ.length = (ss.set i (.ls (ds ++ [d]))).length → tz D σ H') : tSeq (tDrop (tBM K "list" rAppend (tVar i) (tCons te tNil))) tz D σ H := st_app (D := { D with nx := tz D }) S l h he hl k
theorem q_setL {D : Ends} {i : Nat} {j : Nat} {z : Int} (S : Sts K M F0 H0 F H (σ ++ gs) (ss ++ gt)) (l : σ.length = ss.length) (h : ss[i]? = some (.ls ds)) (he : EvR K te ss (.dt d)) (hb : EvR K tb ss (.dt (.int z))) (hj : ixN ds.length z = some j)
    (k : ∀ F' H', Sts K M F0 H0 F' H' (σ ++ gs) (ss.set i (.ls (ds.set j d)) ++ gt) → σ.length = (ss.set i (.ls (ds.set j d))).length → tz D σ H') : tSeq (tAsg te (gSub (tVar i) tb rSetL)) tz D σ H := st_setL (D := { D with nx := tz D }) S l h he hb hj k
theorem q_aug {D : Ends} {i : Nat} {f : Int → Int → Int} {a b : Int} (S : Sts K M F0 H0 F H (σ ++ gs) (ss ++ gt)) (l : σ.length = ss.length) (h : ss[i]? = some (.dt (.int a))) (he : EvR K te ss (.dt (.int b))) (na : (ss ++ gt).all notAl = true)
    (k : ∀ σ' F' H', Sts K M F0 H0 F' H' (σ' ++ gs) (ss.set i (.dt (.int (f a b))) ++ gt) → σ'.length = (ss.set i (.dt (.int (f a b)))).length → tz D σ' H') : tSeq (tAug i te (ipI f)) tz D σ H := st_aug (D := { D with nx := tz D }) S l h he na k
theorem q_forR1 {D : Ends} {tb : TS} {i : Nat} {n : Int} {m : Nat} (S : Sts K M F0 H0 F H (σ ++ gs) (ss ++ gt)) (l : σ.length = ss.length) (h : AvR K tr ss [.dt (.int n)]) (hn : n = (m : Int)) (hm : m < 2 ^ 60) (W : Nat → List Sl) (w0 : Wk ss (W 0)) (na : ∀ k, ((W k) ++ gt).all notAl = true) (hi : i < ss.length)
    (hs : ∀ k, k < m → ∀ σ' F' H', Sts K M F0 H0 F' H' (σ' ++ gs) ((W k).set i (.dt (.int (k : Int))) ++ gt) → σ'.length = ((W k).set i (.dt (.int (k : Int)))).length → tb { D with nx := Nxt K M F0 H0 gs gt (W (k + 1)), ct := Nxt K M F0 H0 gs gt (W (k + 1)), bk := tz D } σ' H')
    (hd : ∀ σ' F' H', Sts K M F0 H0 F' H' (σ' ++ gs) (W m ++ gt) → σ'.length = (W m).length → tz D σ' H') (hw : ∀ k, (W k).length = ss.length := by intro _; rfl) : tSeq (tFor (iRng1 tr) (gName i) tb) tz D σ H := st_forR1 (D := { D with nx := tz D }) S l h hn hm W w0 na hi hs hd hw
theorem q_forR2 {D : Ends} {tb : TS} {i : Nat} {lo n : Int} {m : Nat} (S : Sts K M F0 H0 F H (σ ++ gs) (ss ++ gt)) (l : σ.length = ss.length) (h : AvR K tr ss [.dt (.int lo), .dt (.int n)]) (hn : (n - lo).toNat = m) (hm : -(2 ^ 60) < lo ∧ lo < 2 ^ 60 ∧ -(2 ^ 60) < n ∧ n < 2 ^ 60) (W : Nat → List Sl) (w0 : Wk ss (W 0)) (na : ∀ k, ((W k) ++ gt).all notAl = true) (hi : i < ss.length)
    (hs : ∀ k, k < m → ∀ σ' F' H', Sts K M F0 H0 F' H' (σ' ++ gs) ((W k).set i (.dt (.int (lo + (k : Int)))) ++ gt) → σ'.length = ((W k).set i (.dt (.int (lo + (k : Int))))).length → tb { D with nx := Nxt K M F0 H0 gs gt (W (k + 1)), ct := Nxt K M F0 H0 gs gt (W (k + 1)), bk := tz D } σ' H')
    (hd : ∀ σ' F' H', Sts K M F0 H0 F' H' (σ' ++ gs) (W m ++ gt) → σ'.length = (W m).length → tz D σ' H') (hw : ∀ k, (W k).length = ss.length := by intro _; rfl) : tSeq (tFor (iRng2 tr) (gName i) tb) tz D σ H := st_forR2 (D := { D with nx := tz D }) S l h hn hm W w0 na hi hs hd hw
theorem q_forL {D : Ends} {tb : TS} {g : TG} (S : Sts K M F0 H0 F H (σ ++ gs) (ss ++ gt)) (l : σ.length = ss.length) (h : EvR K te ss (.dt (.list ds))) (W : Nat → List Sl) (w0 : Wk ss (W 0))
    (hs : ∀ k d p, ds[k]? = some d → ∀ x σ' F' H', Dp K F' x d → Sts K M F0 H0 F' H' (σ' ++ (gs ++ [some p])) (W k ++ (gt ++ [.dt (.list ds)])) → σ'.length = (W k).length →
      g x σ' H' fun σ2 H2 => tb { D with nx := Nxt K M F0 H0 (gs ++ [some p]) (gt ++ [.dt (.list ds)]) (W (k + 1)), ct := Nxt K M F0 H0 (gs ++ [some p]) (gt ++ [.dt (.list ds)]) (W (k + 1)), bk := tz D } σ2 H2)
    (hd : ∀ σ' F' H', Sts K M F0 H0 F' H' (σ' ++ gs) (W ds.length ++ gt) → σ'.length = (W ds.length).length → tz D σ' H') (hw : ∀ k, (W k).length = ss.length := by intro _; rfl) : tSeq (tFor (iList K te) g tb) tz D σ H := st_forL (D := { D with nx := tz D }) S l h W w0 hs hd hw
theorem q_forT {D : Ends} {tb : TS} {g : TG} (S : Sts K M F0 H0 F H (σ ++ gs) (ss ++ gt)) (l : σ.length = ss.length) (h : EvR K te ss (.dt (.tuple ds))) (W : Nat → List Sl) (w0 : Wk ss (W 0))
    (hs : ∀ k d p, ds[k]? = some d → ∀ x σ' F' H', Dp K F' x d → Sts K M F0 H0 F' H' (σ' ++ (gs ++ [some p])) (W k ++ (gt ++ [.dt (.tuple ds)])) → σ'.length = (W k).length →
      g x σ' H' fun σ2 H2 => tb { D with nx := Nxt K M F0 H0 (gs ++ [some p]) (gt ++ [.dt (.tuple ds)]) (W (k + 1)), ct := Nxt K M F0 H0 (gs ++ [some p]) (gt ++ [.dt (.tuple ds)]) (W (k + 1)), bk := tz D } σ2 H2)
    (hd : ∀ σ' F' H', Sts K M F0 H0 F' H' (σ' ++ gs) (W ds.length ++ gt) → σ'.length = (W ds.length).length → tz D σ' H') (hw : ∀ k, (W k).length = ss.length := by intro _; rfl) : tSeq (tFor (iTup K te) g tb) tz D σ H := st_forT (D := { D with nx := tz D }) S l h W w0 hs hd hw
theorem q_while {D : Ends} {tt : TT} {tb : TS} {α : Type} (W : α → List Sl) (P : α → Prop) (μ : α → Nat) (b : α → Bool) (a0 : α) (S : Sts K M F0 H0 F H (σ ++ gs) (ss ++ gt)) (l : σ.length = ss.length) (w0 : Wk ss (W a0)) (p0 : P a0) (ht : ∀ a, P a → TvR K tt (W a) (b a))
    (hs : ∀ a, P a → b a = true → ∀ σ' F' H', Sts K M F0 H0 F' H' (σ' ++ gs) (W a ++ gt) → σ'.length = (W a).length → tb { D with nx := fun σ2 H2 => ∃ a', μ a' < μ a ∧ P a' ∧ Nxt K M F0 H0 gs gt (W a') σ2 H2, ct := fun σ2 H2 => ∃ a', μ a' < μ a ∧ P a' ∧ Nxt K M F0 H0 gs gt (W a') σ2 H2, bk := tz D } σ' H')
    (hd : ∀ a, P a → b a = false → ∀ σ' F' H', Sts K M F0 H0 F' H' (σ' ++ gs) (W a ++ gt) → σ'.length = (W a).length → tz D σ' H') : tSeq (tWhile tt tb) tz D σ H := st_while (D := { D with nx := tz D }) W P μ b a0 S l w0 p0 ht hs hd
/-- a, b = a tuple of two -/
theorem st_two {D : Ends} {i j : Nat} {d1 d2 : PyData} (S : Sts K M F0 H0 F H (σ ++ gs) (ss ++ gt)) (l : σ.length = ss.length) (h : EvR K te ss (.dt (.tuple [d1, d2]))) (na : (ss ++ gt).all notAl = true) (hi : i < ss.length) (hj : j < ss.length)
    (k : ∀ σ' F' H', Sts K M F0 H0 F' H' (σ' ++ gs) ((ss.set i (.dt d1)).set j (.dt d2) ++ gt) → σ'.length = ((ss.set i (.dt d1)).set j (.dt d2)).length → D.nx σ' H') : tAsg te (gTup K 2 (gCons (gName i) (gCons (gName j) gNil))) D σ H := by
  refine h M F0 H0 F H σ gs gt l S _ fun v F1 H1 g1 n1 S1 => ?_
  have S2 := S1
  rw [← List.append_assoc, ← List.append_assoc] at S2
  obtain ⟨w, e1, e2⟩ := S2.get_dt (i := (ss ++ gt).length) (by rw [List.getElem?_append_right (Nat.le_refl _), Nat.sub_self]; rfl)
  rw [← S.len2, last_at] at e1
  cases e1
  exact g_pair (S1.back S.len2) l hi hj e2 na k
theorem q_two {D : Ends} {i j : Nat} {d1 d2 : PyData} (S : Sts K M F0 H0 F H (σ ++ gs) (ss ++ gt)) (l : σ.length = ss.length) (h : EvR K te ss (.dt (.tuple [d1, d2]))) (na : (ss ++ gt).all notAl = true) (hi : i < ss.length) (hj : j < ss.length)
    (k : ∀ σ' F' H', Sts K M F0 H0 F' H' (σ' ++ gs) ((ss.set i (.dt d1)).set j (.dt d2) ++ gt) → σ'.length = ((ss.set i (.dt d1)).set j (.dt d2)).length → tz D σ' H') : tSeq (tAsg te (gTup K 2 (gCons (gName i) (gCons (gName j) gNil)))) tz D σ H := st_two (D := { D with nx := tz D }) S l h na hi hj k
/-- a, b = e, f: both of data -/
theorem q_par {D : Ends} {i j : Nat} {d1 d2 : PyData} (S : Sts K M F0 H0 F H (σ ++ gs) (ss ++ gt)) (l : σ.length = ss.length) (h1 : EvR K ta ss (.dt d1)) (h2 : EvR K tb ss (.dt d2)) (na : (ss ++ gt).all notAl = true) (hi : i < ss.length) (hj : j < ss.length)
    (k : ∀ σ' F' H', Sts K M F0 H0 F' H' (σ' ++ gs) ((ss.set i (.dt d1)).set j (.dt d2) ++ gt) → σ'.length = ((ss.set i (.dt d1)).set j (.dt d2)).length → tz D σ' H') : tSeq (tPar i j (tCons ta (tCons tb tNil))) tz D σ H := by
  refine h1 M F0 H0 F H σ gs gt l S _ fun v F1 H1 g1 n1 S1 => ?_
  refine h2 M F0 H0 F1 H1 σ _ _ l S1 _ fun w F2 H2 g2 n2 S2 => ?_
  refine ⟨v, w, rfl, ?_⟩
  have S3 := S2
  rw [← List.append_assoc σ, ← List.append_assoc ss] at S3
  obtain ⟨w', e1, e2⟩ := S3.get_dt (i := (ss ++ (gt ++ [Sl.dt d1])).length) (by rw [List.getElem?_append_right (Nat.le_refl _), Nat.sub_self]; rfl)
  rw [← S1.len2, last_at] at e1
  cases e1
  have S4 := S2.back S1.len2
  have S5 := S4
  rw [← List.append_assoc, ← List.append_assoc] at S5
  obtain ⟨v', f1, f2⟩ := S5.get_dt (i := (ss ++ gt).length) (by rw [List.getElem?_append_right (Nat.le_refl _), Nat.sub_self]; rfl)
  rw [← S.len2, last_at] at f1
  cases f1
  have S6 := (S4.back S.len2).setv l hi f2 na
  have na2 : ((ss.set i (.dt d1)) ++ gt).all notAl = true := by
    rw [List.all_append, Bool.and_eq_true] at na ⊢
    refine ⟨List.all_eq_true.mpr fun s hs => ?_, na.2⟩
    rcases List.mem_or_eq_of_mem_set hs with h | h
    · exact List.all_eq_true.mp na.1 s h
    · rw [h]
      rfl
  have S7 := S6.setv (by rw [List.length_set, List.length_set, l]) (by rw [List.length_set]; exact hj) e2 na2
  exact k _ F2 H2 S7 (by simp only [List.length_set, l])
end
end Fh
set_option Elab.async false
set_option linter.all false
set_option maxRecDepth 100000
set_option maxHeartbeats 2000000
namespace Fh
open PySem PySem.Spec PyProof.Rows L2 Evl
open PySem.W (Datum)

section
variable {K : PySem.W.Frag} {M : Addr → Prop} {F0 H0 F H F' H' : Hp} {σ xs gs : L2.St} {ss ts rs gt ss2 : List Sl} {ta tb te tc tl : TE} {tr : TA} {t u tt : TT} {r ra rb : Sl} {d da db e : PyData} {ds : List PyData} {Q : VK} {v x y : V}
/-! ### comprehensions -/
def wipeS (ss : List Sl) : List Nat → List Sl
  | [] => ss
  | v :: vs => (wipeS ss vs).set v .no
theorem wipeS_len (ss : List Sl) : ∀ vs : List Nat, (wipeS ss vs).length = ss.length
  | [] => rfl
  | v :: vs => by
    show ((wipeS ss vs).set v .no).length = _
    rw [List.length_set, wipeS_len ss vs]
def unAl (s : Sl) : Sl := if notAl s then s else .no
theorem wk_unAl : ∀ l : List Sl, Wk l (l.map unAl)
  | [] => .nil
  | s :: l => by
    rw [List.map_cons]
    by_cases h : notAl s = true
    · have e : unAl s = s := if_pos h
      rw [e]
      exact .same rfl (wk_unAl l)
    · have e : unAl s = .no := if_neg h
      rw [e]
      exact .no (wk_unAl l)
theorem all_unAl : ∀ l : List Sl, (l.map unAl).all notAl = true
  | [] => rfl
  | s :: l => by
    rw [List.map_cons, List.all_cons, all_unAl l, Bool.and_true]
    by_cases h : notAl s = true
    · have e : unAl s = s := if_pos h
      rw [e]
      exact h
    · have e : unAl s = .no := if_neg h
      rw [e]
      rfl
theorem set_app1 {α : Type} {l m : List α} {i : Nat} {a : α} (h : i < l.length) : (l ++ m).set i a = l.set i a ++ m := List.set_append_left _ _ h
theorem Sts.wipes (vs : List Nat) : ∀ {σ : L2.St} {ss : List Sl}, Sts K M F0 H0 F H (σ ++ gs) (ss ++ gt) → σ.length = ss.length → (∀ i ∈ vs, i < ss.length) → ss.all notAl = true → gt.all notAl = true →
    Sts K M F0 H0 F H (wipe σ vs ++ gs) (wipeS ss vs ++ gt) ∧ (wipeS ss vs).all notAl = true := by
  induction vs with
  | nil => intro σ ss S l hv na nb; exact ⟨S, na⟩
  | cons v vs ih =>
    intro σ ss S l hv na nb
    obtain ⟨S1, n1⟩ := ih S l (fun i hi => hv i (List.mem_cons_of_mem _ hi)) na nb
    have hv1 : v < ss.length := hv v List.mem_cons_self
    have S2 := S1.wipe1 (i := v) (ov := none) (by rw [List.all_append, n1, nb]; rfl)
    rw [set_app1 (by rw [wipe_length]; omega), set_app1 (by rw [wipeS_len]; exact hv1)] at S2
    refine ⟨S2, List.all_eq_true.mpr fun s hs => ?_⟩
    rcases List.mem_or_eq_of_mem_set hs with h | h
    · exact List.all_eq_true.mp n1 s h
    · rw [h]
      rfl
/-- what a comprehension's target does with an item d -/
def GTarget (K : PySem.W.Frag) (g : TG) (vs : List Nat) (ss : List Sl) (d : PyData) (ss2 : List Sl) : Prop := ∀ (M : Addr → Prop) (F0 H0 F H : Hp) (σ gs : L2.St) (gt : List Sl) (x : V) (k : L2.St → Hp → Prop),
  Sts K M F0 H0 F H (wipe σ vs ++ gs) (wipeS ss vs ++ gt) → σ.length = ss.length → Dp K F x d → (wipeS ss vs ++ gt).all notAl = true →
    (∀ σ2, Sts K M F0 H0 F H (σ2 ++ gs) (ss2 ++ gt) → σ2.length = ss2.length → wipe σ2 vs = wipe σ vs → k σ2 H) → g x (wipe σ vs) H k
theorem wipe_out_set {σ : L2.St} {j : Nat} {x : Option V} : ∀ {vs : List Nat}, j ∉ vs → wipe (σ.set j x) vs = (wipe σ vs).set j x
  | [], _ => rfl
  | v :: vs, h => by
    show (wipe (σ.set j x) vs).set v none = ((wipe σ vs).set v none).set j x
    rw [wipe_out_set (fun q => h (List.mem_cons_of_mem _ q)), List.set_comm _ _ (fun e => h (by rw [e]; exact List.mem_cons_self))]
theorem wipe_set {σ : L2.St} {j : Nat} {x : Option V} : ∀ {vs : List Nat}, j ∈ vs → wipe (σ.set j x) vs = wipe σ vs
  | v :: vs, h => by
    show (wipe (σ.set j x) vs).set v none = (wipe σ vs).set v none
    by_cases q : j ∈ vs
    · rw [wipe_set q]
    · rw [wipe_out_set q]
      have e : j = v := by
        rcases List.mem_cons.mp h with e | e
        · exact e
        · exact absurd e q
      rw [e, List.set_set]
theorem wipe_sub {σ : L2.St} {vs : List Nat} : ∀ {ws : List Nat}, (∀ w ∈ ws, w ∈ vs) → wipe (wipe σ ws) vs = wipe σ vs
  | [], _ => rfl
  | w :: ws, h => by
    show wipe ((wipe σ ws).set w none) vs = wipe σ vs
    rw [wipe_set (h w List.mem_cons_self), wipe_sub fun u hu => h u (List.mem_cons_of_mem _ hu)]
theorem wipe_wipe {σ : L2.St} {vs : List Nat} : wipe (wipe σ vs) vs = wipe σ vs := wipe_sub fun _ h => h
theorem gt_name {i : Nat} (hi : i < ss.length) : GTarget K (gName i) [i] ss d ((wipeS ss [i]).set i (.dt d)) := fun M F0 H0 F H σ gs gt x k S l h na hk => by
  refine hk _ (S.setv (by rw [wipe_length, wipeS_len, l]) (by rw [wipeS_len]; exact hi) h na) (by rw [List.length_set, List.length_set, wipe_length, wipeS_len, l]) ?_
  rw [wipe_set (List.mem_singleton.mpr rfl), wipe_wipe]
theorem gt_pair {i j : Nat} {d1 d2 : PyData} (hi : i < ss.length) (hj : j < ss.length) (hij : i ≠ j) : GTarget K (gTup K 2 (gCons (gName i) (gCons (gName j) gNil))) [i, j] ss (.tuple [d1, d2]) (((wipeS ss [i, j]).set i (.dt d1)).set j (.dt d2)) := fun M F0 H0 F H σ gs gt x k S l h na hk => by
  obtain ⟨p, vs, rfl, sq, da⟩ := rdT_of h S.fh
  cases da with
  | cons a b =>
    cases b with
    | cons b c =>
      cases c
      refine ⟨p, _, rfl, sq, rfl, _, _, rfl, _, _, rfl, rfl, ?_⟩
      have S1 := S.setv (i := i) (by rw [wipe_length, wipeS_len, l]) (by rw [wipeS_len]; exact hi) a na
      have na2 : (((wipeS ss [i, j]).set i (.dt d1)) ++ gt).all notAl = true := by
        rw [List.all_append, Bool.and_eq_true] at na ⊢
        refine ⟨List.all_eq_true.mpr fun s hs => ?_, na.2⟩
        rcases List.mem_or_eq_of_mem_set hs with h | h
        · exact List.all_eq_true.mp na.1 s h
        · rw [h]
          rfl
      have S2 := S1.setv (i := j) (by rw [List.length_set, List.length_set, wipe_length, wipeS_len, l]) (by rw [List.length_set, wipeS_len]; exact hj) b na2
      refine hk _ S2 (by simp only [List.length_set, wipe_length, wipeS_len, l]) ?_
      rw [wipe_set (by simp), wipe_set (by simp), wipe_wipe]
theorem gt_three {i j m : Nat} {d1 d2 d3 : PyData} (hi : i < ss.length) (hj : j < ss.length) (hm : m < ss.length) (hij : i ≠ j) (him : i ≠ m) (hjm : j ≠ m) :
    GTarget K (gTup K 3 (gCons (gName i) (gCons (gName j) (gCons (gName m) gNil)))) [i, j, m] ss (.tuple [d1, d2, d3]) ((((wipeS ss [i, j, m]).set i (.dt d1)).set j (.dt d2)).set m (.dt d3)) := fun M F0 H0 F H σ gs gt x k S l h na hk => by
  obtain ⟨p, vs, rfl, sq, da⟩ := rdT_of h S.fh
  cases da with
  | cons a b =>
    cases b with
    | cons b c =>
      cases c with
      | cons c c0 =>
        cases c0
        refine ⟨p, _, rfl, sq, rfl, _, _, rfl, _, _, rfl, _, _, rfl, rfl, ?_⟩
        have keep : ∀ {l : List Sl} {i : Nat} {d : PyData}, (l ++ gt).all notAl = true → (l.set i (.dt d) ++ gt).all notAl = true := fun {l i d} na => by
          rw [List.all_append, Bool.and_eq_true] at na ⊢
          refine ⟨List.all_eq_true.mpr fun s hs => ?_, na.2⟩
          rcases List.mem_or_eq_of_mem_set hs with h | h
          · exact List.all_eq_true.mp na.1 s h
          · rw [h]
            rfl
        have S1 := S.setv (i := i) (by rw [wipe_length, wipeS_len, l]) (by rw [wipeS_len]; exact hi) a na
        have S2 := S1.setv (i := j) (by rw [List.length_set, List.length_set, wipe_length, wipeS_len, l]) (by rw [List.length_set, wipeS_len]; exact hj) b (keep na)
        have S3 := S2.setv (i := m) (by simp only [List.length_set, wipe_length, wipeS_len, l]) (by simp only [List.length_set, wipeS_len]; exact hm) c (keep (keep na))
        refine hk _ S3 (by simp only [List.length_set, wipe_length, wipeS_len, l]) ?_
        rw [wipe_set (by simp), wipe_set (by simp), wipe_set (by simp), wipe_wipe]
/-- between two turns: the new list at D holds what reads as out -/
def LcP (K : PySem.W.Frag) (M : Addr → Prop) (F0 H0 F1 H1 : Hp) (σ xs : L2.St) (ss ts : List Sl) (D : Addr) (out : List PyData) (H' : Hp) : Prop :=
  ∃ F', Gr F1 H1 F' H' ∧ F' D = none ∧ H1 D = none ∧ Sts K M F0 H0 F' H' (σ ++ (xs ++ [some (.ref D)])) (ss ++ (ts ++ [.ls out]))
theorem lc_turn {g : TG} {vs : List Nat} {F1 H1 : Hp} {D : Addr} {out : List PyData} {b : Bool} (p : LcP K M F0 H0 F1 H1 σ xs ss ts D out H') (l : σ.length = ss.length) (hv : ∀ i ∈ vs, i < ss.length) (na : ss.all notAl = true) (hx : Dp K F1 x d) (hg : GTarget K g vs ss d ss2)
    (ht : TvR K tt ss2 b) (he : b = true → EvR K te ss2 (.dt e)) (hz : out.length < 1000000) :
    g x (wipe σ vs) H' fun σ2 H2 => wipe σ2 vs = wipe σ vs ∧ tt σ2 H2 fun b' H3 => if b' = true then te σ2 H3 fun y H4 => ∃ acc, H4 D = some (.lst acc) ∧ acc.length < sizeLine ∧ LcP K M F0 H0 F1 H1 σ xs ss ts D (if b then out ++ [e] else out) (upd H4 D (.lst (acc ++ [y]))) else LcP K M F0 H0 F1 H1 σ xs ss ts D (if b then out ++ [e] else out) H3 := by
  obtain ⟨F', g1, fD, hD, S⟩ := p
  have Sb := S.weak (ss' := ss ++ ((ts ++ [Sl.ls out]).map unAl)) ((Wk.refl ss).app (wk_unAl _))
  obtain ⟨Sw, nw⟩ := Sb.wipes vs l hv na (all_unAl _)
  refine hg M F0 H0 F' H' σ _ _ x _ Sw l (dp_ex g1.ff d x hx) (by rw [List.all_append, nw, all_unAl]; rfl) fun σ2 S2 l2 hw => ⟨hw, ?_⟩
  refine ht M F0 H0 F' H' σ2 _ _ l2 S2 _ fun F3 H3 g3 S3 => ?_
  have dix : (ss ++ (ts ++ [Sl.ls out]))[ss.length + ts.length]? = some (.ls out) := by
    rw [← List.append_assoc, List.getElem?_append_right (by rw [List.length_append]; exact Nat.le_refl _), List.length_append, Nat.sub_self]
    rfl
  have six : (σ ++ (xs ++ [some (.ref D)]))[ss.length + ts.length]? = some (some (.ref D)) := by
    have hlen := S.len
    simp only [List.length_append, List.length_cons, List.length_nil] at hlen
    rw [← List.append_assoc, List.getElem?_append_right (by rw [List.length_append]; omega), List.length_append]
    have e0 : ss.length + ts.length - (σ.length + xs.length) = 0 := by omega
    rw [e0]
    rfl
  cases b with
  | false =>
    show LcP K M F0 H0 F1 H1 σ xs ss ts D out H3
    refine ⟨F3, g1.trans g3, g3.nw D ?_ fD, hD, S.grow g3⟩
    obtain ⟨q, ws, a1, b1, c1, d1, k1⟩ := S.write dix
    rw [six] at a1
    cases a1
    rw [b1]
    exact fun z => nomatch z
  | true =>
    refine he rfl M F0 H0 F3 H3 σ2 _ _ l2 S3 _ fun w F4 H4 g4 n4 S4 => ?_
    have S5 := S.grow (g3.trans g4)
    obtain ⟨q, ws, a1, b1, c1, d1, k1⟩ := S5.write dix
    rw [six] at a1
    cases a1
    have hl : (σ2 ++ (xs ++ [some (V.ref D)])).length = (ss2 ++ ((ts ++ [Sl.ls out]).map unAl)).length := S3.len
    have S6 := S4
    rw [← List.append_assoc σ2, ← List.append_assoc ss2] at S6
    obtain ⟨w', e1, e2⟩ := S6.get_dt (i := (ss2 ++ ((ts ++ [Sl.ls out]).map unAl)).length) (by rw [List.getElem?_append_right (Nat.le_refl _), Nat.sub_self]; rfl)
    rw [← hl, last_at] at e1
    cases e1
    refine ⟨ws, b1, by rw [dpAll_len c1, sizeLine_eq]; omega, F4, ((g1.trans (g3.trans g4)).mut hD d1), d1, hD, ?_⟩
    have S7 := k1 (ws ++ [w]) (out ++ [e]) (dpAll_app c1 (.cons e2 .nil))
    have e3 : (ss ++ (ts ++ [Sl.ls out])).set (ss.length + ts.length) (.ls (out ++ [e])) = ss ++ (ts ++ [.ls (out ++ [e])]) := by
      rw [← List.append_assoc, List.set_append_right _ _ (by rw [List.length_append]; exact Nat.le_refl _), List.length_append, Nat.sub_self, List.append_assoc]
      rfl
    rw [e3] at S7
    exact S7
/-- what comes of the first n turns -/
def got (f : Nat → Option PyData) (n : Nat) : List PyData := (List.range n).filterMap f
theorem got_succ (f : Nat → Option PyData) (n : Nat) : got f (n + 1) = (if (f n).isSome then got f n ++ [(f n).getD .none] else got f n) := by
  unfold got
  rw [List.range_succ, List.filterMap_append]
  cases e : f n with
  | none => simp [e]
  | some a => simp [e]
theorem got_len (f : Nat → Option PyData) (n : Nat) : (got f n).length ≤ n := by
  unfold got
  have h := List.length_filterMap_le f (List.range n)
  rwa [List.length_range] at h
theorem ev_lcL {g : TG} {vs : List Nat} (f : Nat → Option PyData) (h : EvR K tl ss (.dt (.list ds))) (na : ss.all notAl = true) (hv : ∀ i ∈ vs, i < ss.length) (hz : ds.length ≤ 1000000)
    (hs : ∀ k d, ds[k]? = some d → ∃ ss2, GTarget K g vs ss d ss2 ∧ TvR K tt ss2 (f k).isSome ∧ ((f k).isSome = true → EvR K te ss2 (.dt ((f k).getD .none)))) : EvR K (tLc (iList K tl) g tt te vs) ss (.ls (got f ds.length)) := fun M F0 H0 F H σ xs ts l S Q q => by
  refine h M F0 H0 F H σ xs ts l S _ fun v F1 H1 g1 n1 S1 => ?_
  have hv' := (S1.lastV S.len2 (d := .list ds) rfl).lst S1.fh
  have dv : Dp K F1 v (.list ds) := by
    have S2 := S1
    rw [← List.append_assoc, ← List.append_assoc] at S2
    obtain ⟨w, e1, e2⟩ := S2.get_dt (i := (ss ++ ts).length) (by rw [List.getElem?_append_right (Nat.le_refl _), Nat.sub_self]; rfl)
    rw [← S.len2, last_at] at e1
    cases e1
    exact e2
  obtain ⟨a, vv, rfl, sq, da⟩ := rdL_of dv (Ex.refl F1)
  have S2 := S1.back S.len2
  refine ⟨a, rfl, ⟨vv, ex_l S1.fh sq⟩, fun D hD => ?_⟩
  have fD := fresh_back S1.fh hD
  refine lc_list (xs := vv) (fun k H' => LcP K M F0 H0 F1 H1 σ xs ss ts D (got f k) H') ⟨F1, Gr.newM S1.fh hD, fD, hD, ?_⟩ (fun i H' _ p => ?_) (fun k x H' hk p => ?_) fun H' p => ?_
  · have := S2.push_ls (ds := []) (vs := []) (Ex.new hD) hD upd_same .nil
    rw [List.append_assoc, List.append_assoc] at this
    exact this
  · obtain ⟨F', g', _, _, _⟩ := p
    exact ex_l (g'.ff.trans g'.fh) sq
  · obtain ⟨d, e1, e2⟩ := dpAll_get' da hk
    obtain ⟨ss2, t1, t2, t3⟩ := hs k d e1
    have := lc_turn (g := g) (tt := tt) (te := te) (b := (f k).isSome) (e := (f k).getD .none) p l hv na e2 t1 t2 t3 (by have := got_len f k; have := (List.getElem?_eq_some_iff.mp e1).1; omega)
    rw [got_succ]
    exact this
  · obtain ⟨F', g', f', _, S'⟩ := p
    rw [dpAll_len da] at S'
    exact q _ F' H' (g1.trans g') ⟨D, rfl, fresh_back g1.hh hD⟩ S'
theorem ev_lcT {g : TG} {vs : List Nat} (f : Nat → Option PyData) (h : EvR K tl ss (.dt (.tuple ds))) (na : ss.all notAl = true) (hv : ∀ i ∈ vs, i < ss.length) (hz : ds.length ≤ 1000000)
    (hs : ∀ k d, ds[k]? = some d → ∃ ss2, GTarget K g vs ss d ss2 ∧ TvR K tt ss2 (f k).isSome ∧ ((f k).isSome = true → EvR K te ss2 (.dt ((f k).getD .none)))) : EvR K (tLc (iTup K tl) g tt te vs) ss (.ls (got f ds.length)) := fun M F0 H0 F H σ xs ts l S Q q => by
  refine h M F0 H0 F H σ xs ts l S _ fun v F1 H1 g1 n1 S1 => ?_
  have dv : Dp K F1 v (.tuple ds) := by
    have S2 := S1
    rw [← List.append_assoc, ← List.append_assoc] at S2
    obtain ⟨w, e1, e2⟩ := S2.get_dt (i := (ss ++ ts).length) (by rw [List.getElem?_append_right (Nat.le_refl _), Nat.sub_self]; rfl)
    rw [← S.len2, last_at] at e1
    cases e1
    exact e2
  obtain ⟨a, vv, rfl, sq, da⟩ := rdT_of dv (Ex.refl F1)
  have S2 := S1.back S.len2
  refine ⟨a, rfl, ⟨vv, ex_t S1.fh sq⟩, fun D hD => ?_⟩
  have fD := fresh_back S1.fh hD
  refine lc_tup (xs := vv) (fun k H' => LcP K M F0 H0 F1 H1 σ xs ss ts D (got f k) H') ⟨F1, Gr.newM S1.fh hD, fD, hD, ?_⟩ (fun i H' _ p => ?_) (fun k x H' hk p => ?_) fun H' p => ?_
  · have := S2.push_ls (ds := []) (vs := []) (Ex.new hD) hD upd_same .nil
    rw [List.append_assoc, List.append_assoc] at this
    exact this
  · obtain ⟨F', g', _, _, _⟩ := p
    exact ex_t (g'.ff.trans g'.fh) sq
  · obtain ⟨d, e1, e2⟩ := dpAll_get' da hk
    obtain ⟨ss2, t1, t2, t3⟩ := hs k d e1
    have := lc_turn (g := g) (tt := tt) (te := te) (b := (f k).isSome) (e := (f k).getD .none) p l hv na e2 t1 t2 t3 (by have := got_len f k; have := (List.getElem?_eq_some_iff.mp e1).1; omega)
    rw [got_succ]
    exact this
  · obtain ⟨F', g', f', _, S'⟩ := p
    rw [dpAll_len da] at S'
    exact q _ F' H' (g1.trans g') ⟨D, rfl, fresh_back g1.hh hD⟩ S'
/-- over a range: lo, lo + 1, .. (n of them) -/
theorem ev_lcR1 {i : Nat} {n : Int} {m : Nat} (f : Nat → Option PyData) (h : AvR K tr ss [.dt (.int n)]) (hn : n.toNat = m) (na : ss.all notAl = true) (hi : i < ss.length) (hz : -(2 ^ 60) < n ∧ n ≤ 1000000)
    (hs : ∀ k : Nat, k < m → ∃ ss2, GTarget K (gName i) [i] ss (.int (k : Int)) ss2 ∧ TvR K tt ss2 (f k).isSome ∧ ((f k).isSome = true → EvR K te ss2 (.dt ((f k).getD .none)))) : EvR K (tLc (iRng1 tr) (gName i) tt te [i]) ss (.ls (got f m)) := fun M F0 H0 F H σ xs ts l S Q q => by
  refine h M F0 H0 F H σ xs ts l S _ fun vv F1 H1 hl g1 S1 => ?_
  have ha := S1.argsV (ds := [.int n]) S.len2 hl rfl
  have hv : vv = [.int n] := by
    cases ha with
    | cons a b =>
      cases b
      rw [a.int]
  have S2 := S1.backA S.len2
  refine ⟨n, hv, by omega, by omega, fun D hD => ?_⟩
  have fD := fresh_back S2.fh hD
  rw [hn]
  refine lc_range (lo := 0) (n := m) (fun k H' => LcP K M F0 H0 F1 H1 σ xs ss ts D (got f k) H') ⟨F1, Gr.newM S2.fh hD, fD, hD, ?_⟩ (fun k H' hk p => ?_) fun H' p => ?_
  · have := S2.push_ls (ds := []) (vs := []) (Ex.new hD) hD upd_same .nil
    rw [List.append_assoc, List.append_assoc] at this
    exact this
  · obtain ⟨ss2, t1, t2, t3⟩ := hs k hk
    have e0 : (0 : Int) + (k : Int) = (k : Int) := Int.zero_add _
    rw [e0]
    have := lc_turn (g := gName i) (tt := tt) (te := te) (b := (f k).isSome) (e := (f k).getD .none) p l (by intro j hj; rw [List.mem_singleton.mp hj]; exact hi) na (x := .int (k : Int)) (.int _) t1 t2 t3 (by have := got_len f k; omega)
    rw [got_succ]
    exact this
  · obtain ⟨F', g', f', _, S'⟩ := p
    exact q _ F' H' (g1.trans g') ⟨D, rfl, fresh_back g1.hh hD⟩ S'
theorem ev_lcR2 {i : Nat} {lo n : Int} {m : Nat} (f : Nat → Option PyData) (h : AvR K tr ss [.dt (.int lo), .dt (.int n)]) (hn : (n - lo).toNat = m) (na : ss.all notAl = true) (hi : i < ss.length) (hz : -(2 ^ 60) < lo ∧ lo < 2 ^ 60 ∧ -(2 ^ 60) < n ∧ n < 2 ^ 60 ∧ m ≤ 1000000)
    (hs : ∀ k : Nat, k < m → ∃ ss2, GTarget K (gName i) [i] ss (.int (lo + (k : Int))) ss2 ∧ TvR K tt ss2 (f k).isSome ∧ ((f k).isSome = true → EvR K te ss2 (.dt ((f k).getD .none)))) : EvR K (tLc (iRng2 tr) (gName i) tt te [i]) ss (.ls (got f m)) := fun M F0 H0 F H σ xs ts l S Q q => by
  refine h M F0 H0 F H σ xs ts l S _ fun vv F1 H1 hl g1 S1 => ?_
  have ha := S1.argsV (ds := [.int lo, .int n]) S.len2 hl rfl
  have hv : vv = [.int lo, .int n] := by
    cases ha with
    | cons a b =>
      cases b with
      | cons b c =>
        cases c
        rw [a.int, b.int]
  have S2 := S1.backA S.len2
  refine ⟨lo, n, hv, by omega, fun D hD => ?_⟩
  have fD := fresh_back S2.fh hD
  rw [hn]
  refine lc_range (lo := lo) (n := m) (fun k H' => LcP K M F0 H0 F1 H1 σ xs ss ts D (got f k) H') ⟨F1, Gr.newM S2.fh hD, fD, hD, ?_⟩ (fun k H' hk p => ?_) fun H' p => ?_
  · have := S2.push_ls (ds := []) (vs := []) (Ex.new hD) hD upd_same .nil
    rw [List.append_assoc, List.append_assoc] at this
    exact this
  · obtain ⟨ss2, t1, t2, t3⟩ := hs k hk
    have := lc_turn (g := gName i) (tt := tt) (te := te) (b := (f k).isSome) (e := (f k).getD .none) p l (by intro j hj; rw [List.mem_singleton.mp hj]; exact hi) na (x := .int (lo + (k : Int))) (.int _) t1 t2 t3 (by have := got_len f k; omega)
    rw [got_succ]
    exact this
  · obtain ⟨F', g', f', _, S'⟩ := p
    exact q _ F' H' (g1.trans g') ⟨D, rfl, fresh_back g1.hh hD⟩ S'
theorem in1 {i n : Nat} (h : i < n) : ∀ j ∈ [i], j < n := by
  intro j hj
  rcases List.mem_cons.mp hj with rfl | hj
  · exact h
  · cases hj
theorem in2 {i k n : Nat} (h : i < n) (h' : k < n) : ∀ j ∈ [i, k], j < n := by
  intro j hj
  rcases List.mem_cons.mp hj with rfl | hj
  · exact h
  · exact in1 h' j hj
theorem in3 {i k l n : Nat} (h : i < n) (h' : k < n) (h'' : l < n) : ∀ j ∈ [i, k, l], j < n := by
  intro j hj
  rcases List.mem_cons.mp hj with rfl | hj
  · exact h
  · exact in2 h' h'' j hj
theorem tv_yes : TvR K tYes ss true := fun M F0 H0 F H σ xs ts l S Q q => q F H (Gr.refl S.fh) S
end
end Fh
set_option Elab.async false
set_option linter.all false
set_option maxRecDepth 100000
set_option maxHeartbeats 2000000
namespace Fh
open PySem PySem.Spec PyProof.Rows L2 Evl
open PySem.W (Datum)

section
variable {K : PySem.W.Frag} {M : Addr → Prop} {F0 H0 F H F' H' : Hp} {σ xs gs : L2.St} {ss ts rs gt ss2 : List Sl} {ta tb te tc tl : TE} {tr : TA} {t u tt : TT} {r ra rb : Sl} {d da db e : PyData} {ds es : List PyData} {Q : VK} {v x y : V}
/-! ### a def's start -/
def ssOf (n : Nat) (ds : List PyData) : List Sl := ds.map .dt ++ List.replicate (n - ds.length) .no
theorem dp_init : ∀ {vs : List V} {ds : List PyData}, DpAll K F vs ds → ∀ {σ0 : L2.St} {ss0 : List Sl}, Sts K (fun _ => False) F H F H σ0 ss0 → Sts K (fun _ => False) F H F H (σ0 ++ vs.map some) (ss0 ++ ds.map .dt)
  | _, _, .nil, _, _, S => by simpa using S
  | _, _, .cons (v := v) (vs := vs) (d := d) (ds := ds) a b, σ0, ss0, S => by
    have := dp_init b (S.push_dt a)
    simpa [List.append_assoc] using this
theorem Sts.pad (S : Sts K M F0 H0 F H σ ss) : ∀ n : Nat, Sts K M F0 H0 F H (σ ++ List.replicate n none) (ss ++ List.replicate n .no)
  | 0 => by simpa using S
  | n + 1 => by
    obtain ⟨g, l, L, O⟩ := S.pad n
    have e1 : σ ++ List.replicate (n + 1) (none : Option V) = (σ ++ List.replicate n none) ++ [none] := by rw [List.replicate_succ', List.append_assoc]
    have e2 : ss ++ List.replicate (n + 1) Sl.no = (ss ++ List.replicate n .no) ++ [.no] := by rw [List.replicate_succ', List.append_assoc]
    rw [e1, e2]
    generalize σ ++ List.replicate n none = σ1 at l O
    generalize ss ++ List.replicate n Sl.no = ss1 at l O
    have cut : ∀ {i}, i < (ss1 ++ [Sl.no]).length → i < ss1.length ∨ i = ss1.length := fun {i} h => by
      rw [List.length_append] at h
      have : [Sl.no].length = 1 := rfl
      omega
    refine ⟨g, by rw [List.length_append, List.length_append, l]; rfl, fun i => if i < ss1.length then L i else [], fun i s h => ?_, fun i s p o hs hp => ?_, fun i hi => ?_, fun i j p hi hj hp hq => ?_⟩
    · rcases cut (List.getElem?_eq_some_iff.mp h).1 with hi | rfl
      · rw [List.getElem?_append_left hi] at h
        rw [if_pos hi]
        refine (O.ok i s h).cong fun j hj => ?_
        rw [List.getElem?_append_left (by omega)]
      · rw [List.getElem?_append_right (Nat.le_refl _), Nat.sub_self] at h
        cases h
        rw [if_neg (Nat.lt_irrefl _)]
        rfl
    · rcases cut (List.getElem?_eq_some_iff.mp hs).1 with hi | rfl
      · rw [if_pos hi] at hp
        rw [List.getElem?_append_left hi] at hs
        exact O.at_ i s p o hs hp
      · rw [if_neg (Nat.lt_irrefl _)] at hp
        cases hp
    · rcases cut hi with hi | rfl
      · simp only [if_pos hi]
        exact O.nd i hi
      · simp only [if_neg (Nat.lt_irrefl _)]
        exact .nil
    · rcases cut hi with hi | rfl
      · rcases cut hj with hj | rfl
        · rw [if_pos hi] at hp
          rw [if_pos hj] at hq
          exact O.ap i j p hi hj hp hq
        · rw [if_neg (Nat.lt_irrefl _)] at hq
          cases hq
      · rw [if_neg (Nat.lt_irrefl _)] at hp
        cases hp
theorem Sts.init {N : List Str} {vs : List V} (e : Ex F H) (h : DpAll K F vs ds) : Sts K (fun _ => False) F H F H (L2.start N vs ++ []) (ssOf N.length ds ++ []) := by
  have S0 : Sts K (fun _ => False) F H F H [] [] := ⟨(Gr.refl e).toM, rfl, fun _ => [], by intro i s h; simp at h, by intro i s p o h; simp at h, fun i h => by simp at h, fun i j p h => by simp at h⟩
  have S1 := (dp_init h S0).pad (N.length - vs.length)
  rw [List.append_nil, List.append_nil]
  unfold L2.start ssOf
  rw [← dpAll_len h]
  simpa using S1
theorem init_len {N : List Str} {vs : List V} (h : DpAll K F vs ds) (hl : ds.length ≤ N.length) : (L2.start N vs).length = (ssOf N.length ds).length := by
  unfold L2.start ssOf
  rw [List.length_append, List.length_append, List.length_map, List.length_map, List.length_replicate, List.length_replicate, dpAll_len h]
theorem spF_len {R : List PyData → Sl → Prop} {X : List PyData → Addr → Prop} {n : Nat} (hR : ∀ ds r, R ds r → ds.length = n) (hX : ∀ ds C, X ds C → ds.length = n) : ∀ vs H Q E, spF K R X vs H Q E → vs.length = n := fun vs H Q E h => by
  obtain ⟨F, ds, _, hv, ⟨r, h, _⟩ | ⟨C, h, _⟩⟩ := h
  · rw [dpAll_len hv, hR ds r h]
  · rw [dpAll_len hv, hX ds C h]
/-! ### built-in functions -/
def lenD : PyData → Option Nat
  | .list ds => some ds.length
  | .tuple ds => some ds.length
  | .str z => if z.length ≤ sizeLine then some z.length else none
  | _ => none
def rLenR (K : PySem.W.Frag) : List V → Hp → VK → Prop := fun xs H Q => ∃ x n, xs = [x] ∧ LenV K x H n ∧ Q (.int (n : Nat)) H
theorem call_lenR {X : Cx} : CallR X (.builtin "len") (rLenR X.K) := call_len
theorem ev_len {n : Nat} (ha : EvR K ta ss ra) (va : vw ss ra = some d) (hn : lenD d = some n) : EvR K (tCB (rLenR K) (tCons ta tNil)) ss (.dt (.int (n : Int))) := by
  refine ev_cb (ds := [d]) (av_cons ha av_nil) (by unfold vws; rw [va]; rfl) fun F H vs Q e h k => ?_
  cases h with
  | cons a b =>
    cases b
    rename_i x
    refine ⟨x, n, rfl, ?_, k.int⟩
    cases d with
    | list ds =>
      obtain ⟨p, ws, rfl, c, f⟩ := a.lst e
      cases hn
      exact .inl ⟨ws, c, (dpAll_len f).symm⟩
    | tuple ds =>
      obtain ⟨p, ws, rfl, c, f⟩ := a.tup e
      cases hn
      exact .inr ⟨ws, c, (dpAll_len f).symm⟩
    | str z =>
      rw [a.str]
      have hn' : (if z.length ≤ sizeLine then some z.length else none) = some n := hn
      by_cases hz : z.length ≤ sizeLine
      · rw [if_pos hz] at hn'
        cases hn'
        exact ⟨hz, rfl⟩
      · rw [if_neg hz] at hn'
        cases hn'
    | none => cases hn
    | bool _ => cases hn
    | int _ => cases hn
    | dict _ => cases hn
/-- the class of a thing that is data -/
def tyN : PyData → String
  | .none => "NoneType"
  | .bool _ => "bool"
  | .int _ => "int"
  | .str _ => "str"
  | .list _ => "list"
  | .tuple _ => "tuple"
  | .dict _ => "dict"
theorem tyx_of (h : Dp K H v d) : TyX K H v (.type (tyN d)) := by
  cases h with
  | non => exact .base .non
  | bl b => exact .base (.bl b)
  | int i => exact .base (.int i)
  | str x => exact .base (.str x)
  | lst a b =>
    rcases a with (a | ⟨o, a⟩) | ⟨o, its, n, a, b, _⟩
    · exact .base (.lst a)
    · exact .base (.frz a)
    · exact .kList a b
  | tup a b =>
    rcases a with (a | ⟨o, a⟩) | ⟨o, its, n, a, b, _⟩
    · exact .base (.tup a)
    · exact .fTuple a
    · exact .kTuple a b
  | dct e => exact .base (.dK e)
theorem ev_ty {n : String} : EvR K (tC (.ty n)) ss (.fx fun _ v => v = .ty n) := fun M F0 H0 F H σ xs ts l S Q q => by
  have S2 := S.push_fx (v := .ty n) (φ := fun _ v => v = .ty n) fun _ _ => rfl
  rw [List.append_assoc, List.append_assoc] at S2
  exact q _ F H (Gr.refl S.fh) trivial S2
theorem ev_isi {n : String} {b : Bool} (ha : EvR K ta ss ra) (va : vw ss ra = some d) (h : kitB (tyN d) n = some b) : EvR K (tCB (rIsi K) (tCons ta (tCons (tC (.ty n)) tNil))) ss (.dt (.bool b)) := fun M F0 H0 F H σ xs ts l S Q q => by
  refine ha M F0 H0 F H σ xs ts l S _ fun v F1 H1 g1 n1 S1 => ?_
  have hv := S1.lastV S.len2 va
  exact ⟨v, .ty n, .type (tyN d), .type n, b, rfl, .ty n, tyx_of (hv.dp S1.fh), kit_ty h, (RetR.mk g1 (S1.back S.len2) q).bl⟩
def isIntB : PyData → Bool
  | .int _ => true
  | .bool _ => true
  | _ => false
def isBoolB : PyData → Bool
  | .bool _ => true
  | _ => false
def isStrB : PyData → Bool
  | .str _ => true
  | _ => false
def isListB : PyData → Bool
  | .list _ => true
  | _ => false
def isTupleB : PyData → Bool
  | .tuple _ => true
  | _ => false
theorem kit_int (d : PyData) : kitB (tyN d) "int" = some (isIntB d) := by
  cases d with
  | none => exact (show kitB "NoneType" "int" = some false by decide +kernel)
  | bool _ => exact (show kitB "bool" "int" = some true by decide +kernel)
  | int _ => exact (show kitB "int" "int" = some true by decide +kernel)
  | str _ => exact (show kitB "str" "int" = some false by decide +kernel)
  | list _ => exact (show kitB "list" "int" = some false by decide +kernel)
  | tuple _ => exact (show kitB "tuple" "int" = some false by decide +kernel)
  | dict _ => exact (show kitB "dict" "int" = some false by decide +kernel)
theorem kit_bool (d : PyData) : kitB (tyN d) "bool" = some (isBoolB d) := by
  cases d with
  | none => exact (show kitB "NoneType" "bool" = some false by decide +kernel)
  | bool _ => exact (show kitB "bool" "bool" = some true by decide +kernel)
  | int _ => exact (show kitB "int" "bool" = some false by decide +kernel)
  | str _ => exact (show kitB "str" "bool" = some false by decide +kernel)
  | list _ => exact (show kitB "list" "bool" = some false by decide +kernel)
  | tuple _ => exact (show kitB "tuple" "bool" = some false by decide +kernel)
  | dict _ => exact (show kitB "dict" "bool" = some false by decide +kernel)
theorem kit_str (d : PyData) : kitB (tyN d) "str" = some (isStrB d) := by
  cases d with
  | none => exact (show kitB "NoneType" "str" = some false by decide +kernel)
  | bool _ => exact (show kitB "bool" "str" = some false by decide +kernel)
  | int _ => exact (show kitB "int" "str" = some false by decide +kernel)
  | str _ => exact (show kitB "str" "str" = some true by decide +kernel)
  | list _ => exact (show kitB "list" "str" = some false by decide +kernel)
  | tuple _ => exact (show kitB "tuple" "str" = some false by decide +kernel)
  | dict _ => exact (show kitB "dict" "str" = some false by decide +kernel)
theorem kit_list (d : PyData) : kitB (tyN d) "list" = some (isListB d) := by
  cases d with
  | none => exact (show kitB "NoneType" "list" = some false by decide +kernel)
  | bool _ => exact (show kitB "bool" "list" = some false by decide +kernel)
  | int _ => exact (show kitB "int" "list" = some false by decide +kernel)
  | str _ => exact (show kitB "str" "list" = some false by decide +kernel)
  | list _ => exact (show kitB "list" "list" = some true by decide +kernel)
  | tuple _ => exact (show kitB "tuple" "list" = some false by decide +kernel)
  | dict _ => exact (show kitB "dict" "list" = some false by decide +kernel)
theorem kit_tuple (d : PyData) : kitB (tyN d) "tuple" = some (isTupleB d) := by
  cases d with
  | none => exact (show kitB "NoneType" "tuple" = some false by decide +kernel)
  | bool _ => exact (show kitB "bool" "tuple" = some false by decide +kernel)
  | int _ => exact (show kitB "int" "tuple" = some false by decide +kernel)
  | str _ => exact (show kitB "str" "tuple" = some false by decide +kernel)
  | list _ => exact (show kitB "list" "tuple" = some false by decide +kernel)
  | tuple _ => exact (show kitB "tuple" "tuple" = some true by decide +kernel)
  | dict _ => exact (show kitB "dict" "tuple" = some false by decide +kernel)
def rAbs : List V → Hp → VK → Prop := fun xs H Q => ∃ i, xs = [.int i] ∧ Q (.int (if i < 0 then -i else i)) H
theorem call_absR {X : Cx} : CallR X (.builtin "abs") rAbs := call_abs
theorem vw1 {F H : Hp} {vs : List V} {d : PyData} (h : VwA K F H vs [d]) : ∃ v, vs = [v] ∧ VwD K F H v d := by
  cases h with
  | cons a b =>
    cases b
    exact ⟨_, rfl, a⟩
theorem vw2 {F H : Hp} {vs : List V} {d e : PyData} (h : VwA K F H vs [d, e]) : ∃ v w, vs = [v, w] ∧ VwD K F H v d ∧ VwD K F H w e := by
  cases h with
  | cons a b =>
    cases b with
    | cons b c =>
      cases c
      exact ⟨_, _, rfl, a, b⟩
theorem ev_abs {i : Int} (ha : EvR K ta ss (.dt (.int i))) : EvR K (tCB rAbs (tCons ta tNil)) ss (.dt (.int (i.natAbs : Int))) := by
  refine ev_cb (ds := [.int i]) (av_cons ha av_nil) rfl fun F H vs Q e h k => ?_
  obtain ⟨v, rfl, a⟩ := vw1 h
  refine ⟨i, by rw [a.int], ?_⟩
  have e2 : (if i < 0 then -i else i) = (i.natAbs : Int) := by split <;> omega
  rw [e2]
  exact k.int
def rMin : List V → Hp → VK → Prop := fun xs H Q => ∃ i j, xs = [.int i, .int j] ∧ Q (.int (if j < i then j else i)) H
def rMax : List V → Hp → VK → Prop := fun xs H Q => ∃ i j, xs = [.int i, .int j] ∧ Q (.int (if j > i then j else i)) H
theorem call_minR {X : Cx} (hc : X.calm = true) : CallR X (.builtin "min") rMin := call_min2 hc
theorem call_maxR {X : Cx} (hc : X.calm = true) : CallR X (.builtin "max") rMax := call_max2 hc
theorem ev_min {i j : Int} (ha : EvR K ta ss (.dt (.int i))) (hb : EvR K tb ss (.dt (.int j))) : EvR K (tCB rMin (tCons ta (tCons tb tNil))) ss (.dt (.int (min i j))) := by
  refine ev_cb (ds := [.int i, .int j]) (av_cons ha (av_cons hb av_nil)) rfl fun F H vs Q e h k => ?_
  obtain ⟨v, w, rfl, a, b⟩ := vw2 h
  refine ⟨i, j, by rw [a.int, b.int], ?_⟩
  have e2 : (if j < i then j else i) = min i j := by rw [Int.min_def]; split <;> split <;> omega
  rw [e2]
  exact k.int
theorem ev_max {i j : Int} (ha : EvR K ta ss (.dt (.int i))) (hb : EvR K tb ss (.dt (.int j))) : EvR K (tCB rMax (tCons ta (tCons tb tNil))) ss (.dt (.int (max i j))) := by
  refine ev_cb (ds := [.int i, .int j]) (av_cons ha (av_cons hb av_nil)) rfl fun F H vs Q e h k => ?_
  obtain ⟨v, w, rfl, a, b⟩ := vw2 h
  refine ⟨i, j, by rw [a.int, b.int], ?_⟩
  have e2 : (if j > i then j else i) = max i j := by rw [Int.max_def]; split <;> split <;> omega
  rw [e2]
  exact k.int
def rIntB : List V → Hp → VK → Prop := fun xs H Q => (∃ i, xs = [.int i] ∧ Q (.int i) H) ∨ ∃ k, xs = [.bl k] ∧ Q (.int (if k then 1 else 0)) H
theorem call_intR {X : Cx} : CallR X (.type "int") rIntB := call_int1
theorem ev_intB {b : Bool} (ha : EvR K ta ss (.dt (.bool b))) : EvR K (tCB rIntB (tCons ta tNil)) ss (.dt (.int (if b then 1 else 0))) := by
  refine ev_cb (ds := [.bool b]) (av_cons ha av_nil) rfl fun F H vs Q e h k => ?_
  obtain ⟨v, rfl, a⟩ := vw1 h
  exact .inr ⟨b, by rw [a.bl], k.int⟩
def rStrI : List V → Hp → VK → Prop := fun xs H Q => ∃ i : Int, xs = [.int i] ∧ i.natAbs.log2 < 1920 ∧ Q (.str (toString i)) H
theorem call_strR {X : Cx} : CallR X (.type "str") rStrI := call_str_int
theorem ev_strI {i : Int} (ha : EvR K ta ss (.dt (.int i))) (hi : i.natAbs.log2 < 1920) : EvR K (tCB rStrI (tCons ta tNil)) ss (.dt (.str (toString i))) := by
  refine ev_cb (ds := [.int i]) (av_cons ha av_nil) rfl fun F H vs Q e h k => ?_
  obtain ⟨v, rfl, a⟩ := vw1 h
  exact ⟨i, by rw [a.int], hi, k.str⟩
/-- all(..), any(..) of a list of truths -/
theorem dpAll_bls : ∀ {bs : List Bool} {vs : List V}, DpAll K F vs (bs.map PyData.bool) → vs = bs.map V.bl
  | [], _, h => by cases h; rfl
  | b :: bs, _, h => by
    cases h with
    | cons a c =>
      cases a
      rw [dpAll_bls c]
      rfl
theorem dpAll_ints : ∀ {bs : List Int} {vs : List V}, DpAll K F vs (bs.map PyData.int) → vs = bs.map V.int
  | [], _, h => by cases h; rfl
  | b :: bs, _, h => by
    cases h with
    | cons a c =>
      cases a
      rw [dpAll_ints c]
      rfl
theorem dpAll_strs : ∀ {bs : List Str} {vs : List V}, DpAll K F vs (bs.map PyData.str) → vs = bs.map V.str
  | [], _, h => by cases h; rfl
  | b :: bs, _, h => by
    cases h with
    | cons a c =>
      cases a
      rw [dpAll_strs c]
      rfl
theorem ints_dp : ∀ {bs : List Int}, DpAll K F (bs.map V.int) (bs.map PyData.int)
  | [] => .nil
  | b :: bs => .cons (.int b) ints_dp
theorem strs_dp : ∀ {bs : List Str}, DpAll K F (bs.map V.str) (bs.map PyData.str)
  | [] => .nil
  | b :: bs => .cons (.str b) strs_dp
theorem ev_all {bs : List Bool} (ha : EvR K ta ss ra) (va : vw ss ra = some (.list (bs.map .bool))) : EvR K (tCB (rAll K) (tCons ta tNil)) ss (.dt (.bool (bs.all id))) := by
  refine ev_cb (ds := [.list (bs.map .bool)]) (av_cons ha av_nil) (by unfold vws; rw [va]; rfl) fun F H vs Q e h k => ?_
  obtain ⟨v, rfl, a⟩ := vw1 h
  obtain ⟨p, ws, rfl, c, f⟩ := a.lst e
  rw [dpAll_bls f] at c
  exact ⟨p, bs, rfl, c, k.bl⟩
theorem ev_any {bs : List Bool} (ha : EvR K ta ss ra) (va : vw ss ra = some (.list (bs.map .bool))) : EvR K (tCB (rAny K) (tCons ta tNil)) ss (.dt (.bool (bs.any id))) := by
  refine ev_cb (ds := [.list (bs.map .bool)]) (av_cons ha av_nil) (by unfold vws; rw [va]; rfl) fun F H vs Q e h k => ?_
  obtain ⟨v, rfl, a⟩ := vw1 h
  obtain ⟨p, ws, rfl, c, f⟩ := a.lst e
  rw [dpAll_bls f] at c
  exact ⟨p, bs, rfl, c, k.bl⟩
theorem ev_sum {ns : List Int} (ha : EvR K ta ss ra) (va : vw ss ra = some (.list (ns.map .int))) : EvR K (tCB (rSum K) (tCons ta tNil)) ss (.dt (.int ns.sum)) := by
  refine ev_cb (ds := [.list (ns.map .int)]) (av_cons ha av_nil) (by unfold vws; rw [va]; rfl) fun F H vs Q e h k => ?_
  obtain ⟨v, rfl, a⟩ := vw1 h
  obtain ⟨p, ws, rfl, c, f⟩ := a.lst e
  rw [dpAll_ints f] at c
  exact ⟨p, ns, rfl, c, k.int⟩
/-- list(xs), of a list or a tuple -/
def rListR (K : PySem.W.Frag) : List V → Hp → VK → Prop := fun xs H Q => ∃ p ys, xs = [.ref p] ∧ (SqL K H p ys ∨ SqT K H p ys) ∧ ∀ l, H l = none → Q (.ref l) (upd H l (.lst ys))
theorem call_listR {X : Cx} : CallR X (.type "list") (rListR X.K) := call_list_of
theorem ev_list (ha : EvR K ta ss ra) (va : vw ss ra = some (.list ds)) : EvR K (tCB (rListR K) (tCons ta tNil)) ss (.ls ds) := by
  refine ev_cb (ds := [.list ds]) (av_cons ha av_nil) (by unfold vws; rw [va]; rfl) fun F H vs Q e h k => ?_
  obtain ⟨v, rfl, a⟩ := vw1 h
  obtain ⟨p, ws, rfl, c, f⟩ := a.lst e
  exact ⟨p, ws, rfl, .inl c, fun l hl => k.lst f hl⟩
theorem ev_listT (ha : EvR K ta ss ra) (va : vw ss ra = some (.tuple ds)) : EvR K (tCB (rListR K) (tCons ta tNil)) ss (.ls ds) := by
  refine ev_cb (ds := [.tuple ds]) (av_cons ha av_nil) (by unfold vws; rw [va]; rfl) fun F H vs Q e h k => ?_
  obtain ⟨v, rfl, a⟩ := vw1 h
  obtain ⟨p, ws, rfl, c, f⟩ := a.tup e
  exact ⟨p, ws, rfl, .inr c, fun l hl => k.lst f hl⟩
/-! ### texts -/
def rCatS : R2 := fun x y H Q => ∃ i j, x = .str i ∧ y = .str j ∧ i.length + j.length ≤ sizeLine ∧ Q (.str (i ++ j)) H
theorem op_catS {X : Cx} : OpR X (binaryOp .Add) rCatS := op_add_str
theorem ev_catS {a b : Str} (ha : EvR K ta ss (.dt (.str a))) (hb : EvR K tb ss (.dt (.str b))) (h : a.length + b.length ≤ sizeLine) : EvR K (tOp rCatS ta tb) ss (.dt (.str (a ++ b))) :=
  ev_op ha hb rfl rfl fun F H x y Q e hx hy k => ⟨a, b, hx.str, hy.str, h, k.str⟩
/-! ### slices of lists -/
def cutD (xs : List PyData) (lo hi : Option Int) : List PyData := (xs.drop (HT.sIx xs.length 0 lo)).take (HT.sIx xs.length xs.length hi - HT.sIx xs.length 0 lo)
theorem dpAll_take : ∀ {vs : List V} {ds : List PyData} (n : Nat), DpAll K F vs ds → DpAll K F (vs.take n) (ds.take n)
  | _, _, 0, _ => by rw [List.take_zero, List.take_zero]; exact .nil
  | _, _, n + 1, .nil => .nil
  | _, _, n + 1, .cons a b => .cons a (dpAll_take n b)
theorem dpAll_drop : ∀ {vs : List V} {ds : List PyData} (n : Nat), DpAll K F vs ds → DpAll K F (vs.drop n) (ds.drop n)
  | _, _, 0, h => h
  | _, _, n + 1, .nil => .nil
  | _, _, n + 1, .cons a b => dpAll_drop n b
theorem dpAll_cut {vs : List V} {lo hi : Option Int} (h : DpAll K F vs ds) : DpAll K F (cutV vs lo hi) (cutD ds lo hi) := by
  unfold cutV cutD
  rw [dpAll_len h]
  exact dpAll_take _ (dpAll_drop _ h)
def OvR (K : PySem.W.Frag) (to : TO) (ss : List Sl) (o : Option Int) : Prop := ∀ (M : Addr → Prop) (F0 H0 F H : Hp) (σ xs : L2.St) (ts : List Sl), σ.length = ss.length → Sts K M F0 H0 F H (σ ++ xs) (ss ++ ts) →
  ∀ Q : Option Int → Hp → Prop, (∀ F' H', Gr F H F' H' → Sts K M F0 H0 F' H' (σ ++ xs) (ss ++ ts) → Q o H') → to σ H Q
theorem ov_none : OvR K tNoPart ss none := fun M F0 H0 F H σ xs ts l S Q q => q F H (Gr.refl S.fh) S
theorem ov_some {i : Int} (h : EvR K te ss (.dt (.int i))) : OvR K (tPart te) ss (some i) := fun M F0 H0 F H σ xs ts l S Q q => by
  refine h M F0 H0 F H σ xs ts l S _ fun v F1 H1 g1 n1 S1 => ?_
  exact ⟨i, (S1.lastV S.len2 (d := .int i) rfl).int, q F1 H1 g1 (S1.back S.len2)⟩
theorem ev_slL {to tp : TO} {lo hi : Option Int} (ha : EvR K ta ss ra) (va : vw ss ra = some (.list ds)) (h1 : OvR K to ss lo) (h2 : OvR K tp ss hi) : EvR K (tSl (rSlL K) ta to tp) ss (.ls (cutD ds lo hi)) := fun M F0 H0 F H σ xs ts l S Q q => by
  refine ha M F0 H0 F H σ xs ts l S _ fun v F1 H1 g1 n1 S1 => ?_
  refine h1 M F0 H0 F1 H1 σ _ _ l S1 _ fun F2 H2 g2 S2 => ?_
  refine h2 M F0 H0 F2 H2 σ _ _ l S2 _ fun F3 H3 g3 S3 => ?_
  obtain ⟨p, ws, rfl, c, f⟩ := (S3.lastV S.len2 va).lst S3.fh
  exact ⟨p, ws, rfl, c, fun q' hq => (RetR.mk ((g1.trans g2).trans g3) (S3.back S.len2) q).lst (dpAll_cut f) hq⟩
theorem ev_slS {to tp : TO} {lo hi : Option Int} {z : Str} (ha : EvR K ta ss (.dt (.str z))) (hz : z.length ≤ sizeLine) (h1 : OvR K to ss lo) (h2 : OvR K tp ss hi) : EvR K (tSl rSlS ta to tp) ss (.dt (.str (cutS z lo hi))) := fun M F0 H0 F H σ xs ts l S Q q => by
  refine ha M F0 H0 F H σ xs ts l S _ fun v F1 H1 g1 n1 S1 => ?_
  refine h1 M F0 H0 F1 H1 σ _ _ l S1 _ fun F2 H2 g2 S2 => ?_
  refine h2 M F0 H0 F2 H2 σ _ _ l S2 _ fun F3 H3 g3 S3 => ?_
  have hv := (S3.lastV S.len2 (d := .str z) rfl).str
  exact ⟨z, hv, hz, (RetR.mk ((g1.trans g2).trans g3) (S3.back S.len2) q).str⟩
end
end Fh
set_option Elab.async false
set_option linter.all false
set_option maxRecDepth 100000
set_option maxHeartbeats 2000000
namespace Fh
open PySem PySem.Spec PyProof.Rows L2 Evl
open PySem.W (Datum)

/-! ### a def that stands: its promise, its name, its defaults -/
structure DefOk (P : Program) (w : World) (K : PySem.W.Frag) (mg : Str → Option Value) (base : Heap) (k : Nat) (x : Str) (ps : List Str) (sp : Sp) (dvs : List V) : Prop where
  ex : ∃ f fd ds, FnOk P w K mg base (L2.CX P w) k f fd ps sp ∧ mg x = some (.ref f) ∧ PySem.W.keepIn K (.ref f) = true ∧ Binds K fd ps ds ∧ Vals dvs ds
section
variable {X : Cx} {k : Nat} {x : Str} {ps : List Str} {sp : Sp} {dvs : List V} {E : XK} {p pos : Pos} {e : Expr} {es : List Expr} {t : TA}
theorem pe_own (D : DefOk X.prog X.w X.K X.mg X.base k x ps sp dvs) (hr : Room k X.A) (hg : Gl X x) (hx : Passes (L2.CX X.prog X.w) X E) (ha : PA X (e :: es) t) (hdb : (x == ("__debug__" : Str)) = false := by decide)
    (he : starEach (e :: es) X.env = (false, eval e X.env) :: starEach es X.env := by rfl) (hpl : (backTo pos (starEach es X.env)).any (·.1) = false := by rfl) : PE X (.Call (.Name x p) (e :: es) [] pos) (tCall sp dvs E t) := by
  obtain ⟨f, fd, ds, F, m, kp, b, v⟩ := D.ex
  exact pe_call F hr hg m kp b v hx ha hdb he hpl
theorem pe_own0 (D : DefOk X.prog X.w X.K X.mg X.base k x ps sp dvs) (hr : Room k X.A) (hg : Gl X x) (hx : Passes (L2.CX X.prog X.w) X E) (hdb : (x == ("__debug__" : Str)) = false := by decide) : PE X (.Call (.Name x p) [] [] pos) (tCall sp dvs E tNil) := by
  obtain ⟨f, fd, ds, F, m, kp, b, v⟩ := D.ex
  exact pe_call0 F hr hg m kp b v hx hdb
/-- in a try's body: what the callee lets out is what the try wishes, at the slots as they are -/
def tCallW (sp : Sp) (dvs : List V) (W : WX) (t : TA) : TE := fun σ H Q => t σ H fun vs H1 => sp (vs ++ dvs) H1 Q (WE W σ)
theorem pe_ownW {W : WX} (D : DefOk X.prog X.w X.K X.mg X.base k x ps sp dvs) (hr : Room k X.A) (hg : Gl X x) (tk : Takes X W) (ha : PA X (e :: es) t) (hdb : (x == ("__debug__" : Str)) = false := by decide)
    (he : starEach (e :: es) X.env = (false, eval e X.env) :: starEach es X.env := by rfl) (hpl : (backTo pos (starEach es X.env)).any (·.1) = false := by rfl) : PE X (.Call (.Name x p) (e :: es) [] pos) (tCallW sp dvs W t) := by
  obtain ⟨f, fd, ds, F, m, kp, b, v⟩ := D.ex
  refine ⟨fun pins s σ H Q I h => ?_⟩
  refine wpAny_Call_Name_kw (ld_glob I hg m ?_ hdb)
  refine PySem.W.callWith_K (h₀ := X.base) I.ok.mod.kin kp (thn (ha.run pos pins s σ H _ I h) fun us s1 ⟨vs, H1, I1, r, q⟩ => ⟨I1.kIn, ?_⟩) he hpl
  have r2 : Vals (vs ++ dvs) (us ++ ds) := r.append v
  have hl : (us ++ ds).length = ps.length := by rw [← r2.length]; exact F.len _ _ _ _ q
  refine wpAny_call (codeAny_mono (F.run X.A X.stack s1 H1 ⟨us, []⟩ (us ++ ds) (vs ++ dvs) Q (WE W σ) hr I1.env0 (b s1 us I1.kIn hl) r2 q) fun r' s' hq => ?_)
  cases r' with
  | error e => exact passAt tk σ pins H1 s1 e s' I1 hq
  | ok fl =>
    cases fl with
    | ret u => exact I1.after hq
    | next => exact False.elim hq
    | brk => exact False.elim hq
    | cont => exact False.elim hq
end
section
variable {K : PySem.W.Frag} {M : Addr → Prop} {F0 H0 F H F' H' : Hp} {σ xs gs : L2.St} {ss ts rs gt ss2 : List Sl} {ta tb te tc tl : TE} {tr : TA} {t u tt : TT} {r ra rb : Sl} {d da db e : PyData} {ds es : List PyData} {Q : VK} {v x y : V}
theorem ev_callW {R : List PyData → Sl → Prop} {X : List PyData → Addr → Prop} {dvs : List V} {es : List PyData} {W : WX} (ha : AvR K tr ss rs) (va : dts rs = some ds) (hd : ∀ F, DpAll K F dvs es) (h : R (ds ++ es) r) : EvR K (tCallW (spF K R X) dvs W tr) ss r := fun M F0 H0 F H σ xs ts l S Q q => by
  refine ha M F0 H0 F H σ xs ts l S _ fun vs F1 H1 hl g1 S1 => ?_
  have l1 := S.len2
  exact ⟨F1, _, S1.fh, dpAll_app (S1.argsD l1 hl va) (hd F1), .inl ⟨r, h, RetR.mk g1 (S1.backA l1) q⟩⟩
/-- a call that raises, as a statement -/
theorem st_raiseW {R : List PyData → Sl → Prop} {X : List PyData → Addr → Prop} {dvs : List V} {es : List PyData} {W : WX} {D : Ends} {C : Addr} (S : Sts K M F0 H0 F H (σ ++ gs) (ss ++ gt)) (l : σ.length = ss.length) (ha : AvR K tr ss rs) (va : vws ss rs = some ds) (hd : ∀ F, DpAll K F dvs es) (h : X (ds ++ es) C)
    (k : ∀ F' H', Sts K M F0 H0 F' H' (σ ++ gs) (ss ++ gt) → W (.ref C) none σ H') : tDrop (tCallW (spF K R X) dvs W tr) D σ H := by
  refine ha M F0 H0 F H σ gs gt l S _ fun vs F1 H1 hl g1 S1 => ?_
  have l1 := S.len2
  refine ⟨H1, _, Ex.refl H1, dpAll_app (vwA_dp (S1.argsV l1 hl va) S1.fh) (hd H1), .inr ⟨C, h, fun H' e => ?_⟩⟩
  exact k F1 H' ((S1.backA l1).grow (Gr.of S1.fh e))
theorem st_raiseE {R : List PyData → Sl → Prop} {X : List PyData → Addr → Prop} {dvs : List V} {es : List PyData} {E : XK} {D : Ends} {C : Addr} (S : Sts K M F0 H0 F H (σ ++ gs) (ss ++ gt)) (l : σ.length = ss.length) (ha : AvR K tr ss rs) (va : vws ss rs = some ds) (hd : ∀ F, DpAll K F dvs es) (h : X (ds ++ es) C)
    (k : ∀ F' H', Sts K M F0 H0 F' H' (σ ++ gs) (ss ++ gt) → E (.ref C) none H') : tDrop (tCall (spF K R X) dvs E tr) D σ H := by
  refine ha M F0 H0 F H σ gs gt l S _ fun vs F1 H1 hl g1 S1 => ?_
  have l1 := S.len2
  refine ⟨H1, _, Ex.refl H1, dpAll_app (vwA_dp (S1.argsV l1 hl va) S1.fh) (hd H1), .inr ⟨C, h, fun H' e => ?_⟩⟩
  exact k F1 H' ((S1.backA l1).grow (Gr.of S1.fh e))
/-- .. handed back or stored: the same -/
theorem st_raiseA {R : List PyData → Sl → Prop} {X : List PyData → Addr → Prop} {dvs : List V} {es : List PyData} {E : XK} {D : Ends} {C : Addr} {i : Nat} (S : Sts K M F0 H0 F H (σ ++ gs) (ss ++ gt)) (l : σ.length = ss.length) (ha : AvR K tr ss rs) (va : vws ss rs = some ds) (hd : ∀ F, DpAll K F dvs es) (h : X (ds ++ es) C)
    (k : ∀ F' H', Sts K M F0 H0 F' H' (σ ++ gs) (ss ++ gt) → E (.ref C) none H') : tAsg (tCall (spF K R X) dvs E tr) (gName i) D σ H := by
  refine ha M F0 H0 F H σ gs gt l S _ fun vs F1 H1 hl g1 S1 => ?_
  have l1 := S.len2
  refine ⟨H1, _, Ex.refl H1, dpAll_app (vwA_dp (S1.argsV l1 hl va) S1.fh) (hd H1), .inr ⟨C, h, fun H' e => ?_⟩⟩
  exact k F1 H' ((S1.backA l1).grow (Gr.of S1.fh e))
theorem st_raiseR {R : List PyData → Sl → Prop} {X : List PyData → Addr → Prop} {dvs : List V} {es : List PyData} {E : XK} {D : Ends} {C : Addr} (S : Sts K M F0 H0 F H (σ ++ gs) (ss ++ gt)) (l : σ.length = ss.length) (ha : AvR K tr ss rs) (va : vws ss rs = some ds) (hd : ∀ F, DpAll K F dvs es) (h : X (ds ++ es) C)
    (k : ∀ F' H', Sts K M F0 H0 F' H' (σ ++ gs) (ss ++ gt) → E (.ref C) none H') : tRet (tCall (spF K R X) dvs E tr) D σ H := by
  refine ha M F0 H0 F H σ gs gt l S _ fun vs F1 H1 hl g1 S1 => ?_
  have l1 := S.len2
  refine ⟨H1, _, Ex.refl H1, dpAll_app (vwA_dp (S1.argsV l1 hl va) S1.fh) (hd H1), .inr ⟨C, h, fun H' e => ?_⟩⟩
  exact k F1 H' ((S1.backA l1).grow (Gr.of S1.fh e))
theorem Sts.hh (S : Sts K (fun _ => False) F0 H0 F H σ ss) : Ex H0 H := S.gr.toGr.hh
/-! ### numbers of any size that we meet -/
def bigN : Nat := 10000000
def CMulY (i j : Int) : Prop := i.natAbs < 2 ^ bigN ∧ j.natAbs < 2 ^ bigN
theorem CMulY.ok {i j : Int} (h : CMulY i j) : CMulX i j := mulx_ok h.1 h.2 (by decide)
theorem op_mulY {X : Cx} : OpR X (binaryOp .Mult) (rI CMulY fun i j => .int (i * j)) := fun pins s σ H x y v u Q I rx ry ⟨i, j, a, b, c, q⟩ => op_mulX pins s σ H x y v u Q I rx ry ⟨i, j, a, b, c.ok, q⟩
theorem two64 : (2 : Nat) ^ 64 ≤ 2 ^ bigN := Nat.pow_le_pow_right (by decide) (by decide)
theorem big_s {i : Int} (h : -(2 ^ 64) < i ∧ i < 2 ^ 64) : i.natAbs < 2 ^ bigN := Nat.lt_of_lt_of_le (show i.natAbs < 2 ^ 64 by omega) two64
theorem CMulY.s {i j : Int} (h1 : -(2 ^ 64) < i ∧ i < 2 ^ 64) (h2 : -(2 ^ 64) < j ∧ j < 2 ^ 64) : CMulY i j := ⟨big_s h1, big_s h2⟩
theorem big_le {n : Nat} {i : Int} (h : i.natAbs < 2 ^ n) (hn : n ≤ bigN) : i.natAbs < 2 ^ bigN := Nat.lt_of_lt_of_le h (Nat.pow_le_pow_right (by decide) hn)
/-- // by what lies between 1 and 2 ^ 9000 -/
def CDivY (_ j : Int) : Prop := 0 < j ∧ j.natAbs < 2 ^ 9000
theorem op_divY {X : Cx} : OpR X (binaryOp .FloorDiv) (rI CDivY fun i j => .int (i / j)) := fun pins s σ H x y v u Q I rx ry ⟨i, j, a, b, c, q⟩ => op_fdivW pins s σ H x y v u Q I rx ry ⟨i, j, a, b, wide_div c.1 c.2 (by decide) (by decide), q⟩
theorem two64' : (2 : Nat) ^ 64 ≤ 2 ^ 9000 := Nat.pow_le_pow_right (by decide) (by decide)
theorem CDivY.s {i j : Int} (h1 : 0 < j) (h2 : j < 2 ^ 64) : CDivY i j := ⟨h1, Nat.lt_of_lt_of_le (show j.natAbs < 2 ^ 64 by omega) two64'⟩
/-- divmod by such -/
def rDivm : List V → Hp → VK → Prop := fun xs H Q => ∃ i j, xs = [.int i, .int j] ∧ CDivP i j ∧ ∀ p, H p = none → Q (.ref p) (upd H p (.tup [.int (i / j), .int (i % j)]))
theorem call_divmodR {X : Cx} : CallR X (.builtin "divmod") rDivm := call_divmodW
theorem divp_of {i j : Int} (h : 0 < j) (hj : j.natAbs < 2 ^ 9000) : CDivP i j := ⟨h, PyProof.noPylong_of_log2 (Nat.lt_of_lt_of_le (PySem.Flt.log2_lt_of (by decide) hj) (by decide))⟩
theorem ev_divmod {i j : Int} (ha : EvR K ta ss (.dt (.int i))) (hb : EvR K tb ss (.dt (.int j))) (h : CDivY i j) : EvR K (tCB rDivm (tCons ta (tCons tb tNil))) ss (.dt (.tuple [.int (i / j), .int (i % j)])) := by
  refine ev_cb (ds := [.int i, .int j]) (av_cons ha (av_cons hb av_nil)) rfl fun F H vs Q e h2 k => ?_
  obtain ⟨v, w, rfl, a, b⟩ := vw2 h2
  exact ⟨i, j, by rw [a.int, b.int], divp_of h.1 h.2, fun p hp => k.tup (.cons (.int _) (.cons (.int _) .nil)) hp⟩
/-! ### is None -/
def rIsNR : R2 := fun x y H Q => y = .non ∧ Q (.bl (decide (x = .non))) H
def rNotNR : R2 := fun x y H Q => y = .non ∧ Q (.bl (!decide (x = .non))) H
theorem op_isNR {X : Cx} : OpR X (compareOp .Is) rIsNR := op_isN
theorem op_notNR {X : Cx} : OpR X (compareOp .IsNot) rNotNR := op_notN
def isNo : PyData → Bool
  | .none => true
  | _ => false
theorem isNo_of (h : Dp K F v d) : decide (v = .non) = isNo d := by
  cases h <;> rfl
theorem ev_isN (ha : EvR K ta ss ra) (va : vw ss ra = some d) : EvR K (tOp rIsNR ta (tC .non)) ss (.dt (.bool (isNo d))) :=
  ev_op ha ev_non va rfl fun F H x y Q e hx hy k => ⟨hy.non, by rw [isNo_of (hx.dp e)]; exact k.bl⟩
theorem ev_notN (ha : EvR K ta ss ra) (va : vw ss ra = some d) : EvR K (tOp rNotNR ta (tC .non)) ss (.dt (.bool (!isNo d))) :=
  ev_op ha ev_non va rfl fun F H x y Q e hx hy k => ⟨hy.non, by rw [isNo_of (hx.dp e)]; exact k.bl⟩
/-! ### f-strings -/
def tFm (te : TE) : TE := fun σ H Q => te σ H fun x H1 => (∃ y : Str, x = .str y ∧ y.length ≤ sizeLine ∧ Q (.str y) H1) ∨ ∃ i : Int, x = .int i ∧ i.natAbs.log2 < 1920 ∧ Q (.str (toString i)) H1
theorem pe_fmtI {X : Cx} {e : Expr} {te : TE} {pos : Pos} (he : PE X e te) : PE X (.FormattedValue e (-1) none pos) (tFm te) := pe_fmt he
theorem pe_fmtS {X : Cx} {e : Expr} {te : TE} {pos : Pos} (he : PE X e te) : PE X (.FormattedValue e (-1) none pos) (tFm te) := pe_fmt he
theorem ev_fmtI {i : Int} (h : EvR K te ss (.dt (.int i))) (hi : i.natAbs.log2 < 1920) : EvR K (tFm te) ss (.dt (.str (toString i))) := fun M F0 H0 F H σ xs ts l S Q q => by
  refine h M F0 H0 F H σ xs ts l S _ fun v F1 H1 g1 n1 S1 => ?_
  exact .inr ⟨i, (S1.lastV S.len2 (d := .int i) rfl).int, hi, (RetR.mk g1 (S1.back S.len2) q).str⟩
theorem ev_fmtS {z : Str} (h : EvR K te ss (.dt (.str z))) (hz : z.length ≤ sizeLine) : EvR K (tFm te) ss (.dt (.str z)) := fun M F0 H0 F H σ xs ts l S Q q => by
  refine h M F0 H0 F H σ xs ts l S _ fun v F1 H1 g1 n1 S1 => ?_
  exact .inl ⟨z, (S1.lastV S.len2 (d := .str z) rfl).str, hz, (RetR.mk g1 (S1.back S.len2) q).str⟩
def tJn (ts : List TE) : TE := fun σ H Q => tJs ts Str.empty σ H fun out H1 => Q (.str out) H1
theorem pe_joinedF {X : Cx} {v1 v2 : Expr} {rest : List Expr} {ts : List TE} {pos : Pos} (h : PJ X (v1 :: v2 :: rest) ts) : PE X (.JoinedStr (v1 :: v2 :: rest) pos) (tJn ts) := pe_joined h
/-- the parts of an f-string -/
inductive JvR (K : PySem.W.Frag) (ss : List Sl) : List TE → List Str → Prop where
  | nil : JvR K ss [] []
  | cons {te : TE} {ts : List TE} {z : Str} {zs : List Str} (h : EvR K te ss (.dt (.str z))) (r : JvR K ss ts zs) : JvR K ss (te :: ts) (z :: zs)
def catAll (acc : Str) : List Str → Str
  | [] => acc
  | z :: zs => catAll (acc ++ z) zs
def fitAll (acc : Str) : List Str → Prop
  | [] => True
  | z :: zs => (acc ++ z).length ≤ sizeLine ∧ fitAll (acc ++ z) zs
theorem jv_run {tes : List TE} {zs : List Str} (h : JvR K ss tes zs) : ∀ (acc : Str) (F : Hp) (H : Hp) (Q : Str → Hp → Prop), fitAll acc zs → σ.length = ss.length → Sts K M F0 H0 F H (σ ++ xs) (ss ++ ts) → (∀ F' H', Gr F H F' H' → Sts K M F0 H0 F' H' (σ ++ xs) (ss ++ ts) → Q (catAll acc zs) H') → tJs tes acc σ H Q := by
  induction h with
  | nil => intro acc F H Q _ l S q; exact q F H (Gr.refl S.fh) S
  | cons h r ih =>
    intro acc F H Q hf l S q
    refine h M F0 H0 F H σ xs ts l S _ fun v F1 H1 g1 n1 S1 => ?_
    exact ⟨_, (S1.lastV S.len2 (d := .str _) rfl).str, hf.1, ih _ F1 H1 Q hf.2 l (S1.back S.len2) fun F' H' g S' => q F' H' (g1.trans g) S'⟩
theorem ev_joined {tes : List TE} {zs : List Str} (h : JvR K ss tes zs) (hf : fitAll Str.empty zs) : EvR K (tJn tes) ss (.dt (.str (catAll Str.empty zs))) := fun M F0 H0 F H σ xs ts l S Q q =>
  jv_run h Str.empty F H _ hf l S fun F' H' g S' => (RetR.mk g S' q).str
end

/-! ### isinstance of a caught error -/
def rIsX (K : PySem.W.Frag) (cls : Value) (d : Option Addr) (a : Addr) : List V → Hp → VK → Prop := fun xs H Q => ∃ (D : Addr) (c : V) (cv : Value) (b : Bool), cls = .ref D ∧ d = none ∧ ExcC K D ∧ xs = [.ref a, c] ∧ (∀ u, RelV c u → u = cv) ∧ PySem.W.kitOne K (.ref D) cv = some b ∧ Q (.bl b) H
theorem call_isX {X : Cx} {a : Addr} {oe : Obj} {cls : Value} {d : Option Addr} {pn : List (Addr × Obj)} (hz : Zc cls d oe) (hf : ∃ vs, oe.data = .fields vs) : CallR (X.suite a ((a, oe) :: pn)) (.builtin "isinstance") (rIsX X.K cls d a) := by
  intro pins s σ H xs us Q I r h
  obtain ⟨D, c, cv, b, rfl, rfl, C, rfl, hc, e, q⟩ := h
  exact call_isE C hz hf pins s σ H _ us Q I r ⟨c, cv, b, rfl, hc, e, q⟩
section
variable {K : PySem.W.Frag} {M : Addr → Prop} {F0 H0 F H F' H' : Hp} {σ xs gs : L2.St} {ss ts rs gt ss2 : List Sl} {ta tb te tc tl : TE} {tr : TA} {t u tt : TT} {r ra rb : Sl} {d da db e : PyData} {ds es : List PyData} {Q : VK} {v x y : V}
/-- a slot that holds just this value -/
abbrev isV (v : V) : Sl := .fx fun _ w => w = v
theorem ev_ref {C : Addr} : EvR K (tC (.ref C)) ss (isV (.ref C)) := fun M F0 H0 F H σ xs ts l S Q q => by
  have S2 := S.push_fx (v := .ref C) (φ := fun _ v => v = .ref C) fun _ _ => rfl
  rw [List.append_assoc, List.append_assoc] at S2
  exact q _ F H (Gr.refl S.fh) trivial S2
theorem ev_isX {i : Nat} {D a : Addr} {c : V} {cv : Value} {b : Bool} (hi : ss[i]? = some (isV (.ref a))) (C : ExcC K D) (hc : ∀ u, RelV c u → u = cv) (h : PySem.W.kitOne K (.ref D) cv = some b) : EvR K (tCB (rIsX K (.ref D) none a) (tCons (tVar i) (tCons (tC c) tNil))) ss (.dt (.bool b)) := fun M F0 H0 F H σ xs ts l S Q q => by
  have hl := (List.getElem?_eq_some_iff.mp hi).1
  obtain ⟨v, e1, e2⟩ := S.get_fx (i := i) (by rw [List.getElem?_append_left hl]; exact hi)
  rw [List.getElem?_append_left (by omega)] at e1
  have e3 : v = .ref a := e2 F (Ex.refl F)
  subst e3
  exact ⟨_, e1, D, c, cv, b, rfl, rfl, C, rfl, hc, h, (RetR.mk0 S q).bl⟩
/-- slot i takes a thing told by itself -/
theorem Sts.setv_fx {i : Nat} {v : V} (S : Sts K M F0 H0 F H (σ ++ gs) (ss ++ gt)) (l : σ.length = ss.length) (hi : i < ss.length) (na : (ss ++ gt).all notAl = true) : Sts K M F0 H0 F H (σ.set i (some v) ++ gs) (ss.set i (isV v) ++ gt) := by
  have S3 := (S.push_fx (v := v) (φ := fun _ w => w = v) fun _ _ => rfl).put (i := i) S.len2 (by rw [List.length_append]; omega) na rfl
  rw [List.set_append_left _ _ (by omega), List.set_append_left _ _ hi] at S3
  exact S3
theorem Sts.setNone {i : Nat} {ov : Option V} (S : Sts K M F0 H0 F H (σ ++ gs) (ss ++ gt)) (l : σ.length = ss.length) (hi : i < ss.length) (na : (ss ++ gt).all notAl = true) : Sts K M F0 H0 F H (σ.set i ov ++ gs) (ss.set i .no ++ gt) := by
  have S3 := S.wipe1 (i := i) (ov := ov) na
  rw [List.set_append_left _ _ (by omega), List.set_append_left _ _ hi] at S3
  exact S3
end
end Fh
set_option Elab.async false
set_option linter.all false
set_option maxRecDepth 100000
set_option maxHeartbeats 2000000
namespace Fh
open PySem PySem.Spec PyProof.Rows L2 Evl
open PySem.W (Datum)

/-! ### list + list -/
def rCatL (K : PySem.W.Frag) : R2 := fun x y H Q => ∃ a b xs ys, x = .ref a ∧ y = .ref b ∧ SqL K H a xs ∧ SqL K H b ys ∧ xs.length + ys.length ≤ sizeLine ∧ ∀ p, H p = none → Q (.ref p) (upd H p (.lst (xs ++ ys)))
theorem op_catL {X : Cx} : OpR X (binaryOp .Add) (rCatL X.K) := by
  intro pins s σ H x y v u Q I rx ry h
  obtain ⟨a, b, xs, ys, rfl, rfl, ha, hb, hz, q⟩ := h
  cases rx
  cases ry
  obtain ⟨its, r, ⟨⟨cls, dd, data, sl⟩, n, e, c1, c2, c3⟩, _⟩ := I.list ha
  obtain ⟨its2, r2, ⟨⟨cls2, dd2, data2, sl2⟩, n2, e2, d1, d2, d3⟩, _⟩ := I.list hb
  simp only at c1 c2 c3 d1 d2 d3
  subst c1 c2 c3 d1 d2 d3
  have l1 := r.length
  have l2 := r2.length
  have ea : its.toArray ++ its2.toArray = (its ++ its2).toArray := by simp
  refine concat_meets ⟨_, e, rfl⟩ ⟨_, e2, rfl⟩ noFill_list_add seq_list_add PySem.F.slot_list_add PySem.F.entry_list_add (PySem.F.args_list_add_2 _ _) (list_addW a b its.toArray its2.toArray n n2 none none sl sl2 (by rw [List.size_toArray, List.size_toArray]; omega)) ⟨e, e2, ?_⟩
  rw [ea]
  exact ⟨.ref _, _, I.lnew (t' := s.toks) (r.append r2) (by rw [List.length_append]; omega), rfl, q _ I.fresh⟩
section
variable {K : PySem.W.Frag} {M : Addr → Prop} {F0 H0 F H F' H' : Hp} {σ xs gs : L2.St} {ss ts rs gt ss2 : List Sl} {ta tb te tc tl : TE} {tr : TA} {t u tt : TT} {tz : TS} {r ra rb : Sl} {d da db e : PyData} {ds es : List PyData} {Q : VK} {v x y : V}
theorem ev_catL (ha : EvR K ta ss ra) (hb : EvR K tb ss rb) (va : vw ss ra = some (.list ds)) (vb : vw ss rb = some (.list es)) (h : ds.length + es.length ≤ 1000000) : EvR K (tOp (rCatL K) ta tb) ss (.ls (ds ++ es)) :=
  ev_op ha hb va vb fun F H x y Q e hx hy k => by
    obtain ⟨p, ws, rfl, c, f⟩ := hx.lst e
    obtain ⟨p2, ws2, rfl, c2, f2⟩ := hy.lst e
    have z := sizeLine_eq
    exact ⟨p, p2, ws, ws2, rfl, rfl, c, c2, by rw [dpAll_len f, dpAll_len f2]; omega, fun l hl => k.lst (dpAll_app f f2) hl⟩
theorem nd_self {α : Type} [DecidableEq α] (a : α) : (!decide (a = a)) = false := by
  rw [decide_eq_true rfl]
  rfl
/-- an if whose both ways end alike -/
theorem q_ifJ {D : Ends} {tu tw : TS} {b : Bool} (W : List Sl) (S : Sts K M F0 H0 F H (σ ++ gs) (ss ++ gt)) (l : σ.length = ss.length) (h : TvR K t ss b)
    (h1 : b = true → ∀ nx : L2.St → Hp → Prop, (∀ σ' F' H', Sts K M F0 H0 F' H' (σ' ++ gs) (W ++ gt) → σ'.length = W.length → nx σ' H') → ∀ F' H', Sts K M F0 H0 F' H' (σ ++ gs) (ss ++ gt) → tu { D with nx := nx } σ H')
    (h2 : b = false → ∀ nx : L2.St → Hp → Prop, (∀ σ' F' H', Sts K M F0 H0 F' H' (σ' ++ gs) (W ++ gt) → σ'.length = W.length → nx σ' H') → ∀ F' H', Sts K M F0 H0 F' H' (σ ++ gs) (ss ++ gt) → tw { D with nx := nx } σ H')
    (k : ∀ σ' F' H', Sts K M F0 H0 F' H' (σ' ++ gs) (W ++ gt) → σ'.length = W.length → tz D σ' H') : tSeq (tIfS t tu tw) tz D σ H :=
  q_if S l h (fun e F' H' S' => h1 e _ k F' H' S') (fun e F' H' S' => h2 e _ k F' H' S')
/-- the law's own end -/
theorem law_ret {b : Bool} (e : Ex F H) : RetR K F H (.dt (.bool b)) (fun v _ => v = .bl b) := fun v F' H' k => by
  have S0 : Sts K (fun _ => False) F H F H [] [] := ⟨(Gr.refl e).toM, rfl, fun _ => [], by intro i s h; simp at h, by intro i s p o h; simp at h, fun i h => by simp at h, fun i j p h => by simp at h⟩
  obtain ⟨w, a, c⟩ := (k _ _ _ _ _ S0).get_dt (i := 0) rfl
  cases a
  cases c
  rfl
end
theorem cx_none {P : Program} {w : World} {H : Hp} {s : Shared} {e : Value} {s' : Shared} : L2.CX P w [] H s (fun _ _ _ => False) e s' → False := fun ⟨_, _, _, _, _, _, _, _, _, _, _, _, h⟩ => h
/-! ### what the top wrote of classes -/
theorem cls_yes {K : PySem.W.Frag} {S : Addr} (h2 : PySem.W.isClsIn K S = true) (h3 : PySem.W.typeIn K (.ref S) = some (.type "type")) : ((PySem.W.clsIn K S).isSome && PySem.W.typeIn K (.ref S) == some (.type "type")) = true := by
  have h2' : (PySem.W.clsIn K S).isSome = true := h2
  rw [h2', h3] <;> rfl
theorem kitCls_sub {K : PySem.W.Frag} {N S : Addr} {b : Bool} (h2 : PySem.W.isClsIn K S = true) (h3 : PySem.W.typeIn K (.ref S) = some (.type "type")) (h4 : PySem.W.subIn K (.ref N) (.ref S) = some b) : PySem.W.kitCls K (.ref N) (.ref S) = some b := by
  unfold PySem.W.kitCls
  simp only
  rw [if_pos (cls_yes h2 h3)]
  exact h4
theorem exm_sub {K : PySem.W.Frag} {N S : Addr} {b : Bool} (h1 : PySem.W.subIn K (.ref S) (.type "BaseException") = some true) (h2 : PySem.W.isClsIn K S = true) (h3 : PySem.W.typeIn K (.ref S) = some (.type "type")) (h4 : PySem.W.subIn K (.ref N) (.ref S) = some b) : PySem.W.exmOne K (.ref N) (.ref S) = some b := by
  have e1 : (PySem.W.subIn K (.ref S) (.type "BaseException") == some true) = true := by rw [h1] <;> rfl
  unfold PySem.W.exmOne
  rw [if_pos e1]
  exact kitCls_sub h2 h3 h4
theorem exm_ty {K : PySem.W.Frag} {N : Addr} {T : String} {b : Bool} (h1 : PySem.W.subIn K (.type T) (.type "BaseException") = some true) (h2 : PySem.W.kitMeta T = true) (h4 : PySem.W.subIn K (.ref N) (.type T) = some b) : PySem.W.exmOne K (.ref N) (.type T) = some b := by
  have e1 : (PySem.W.subIn K (.type T) (.type "BaseException") == some true) = true := by rw [h1] <;> rfl
  unfold PySem.W.exmOne
  rw [if_pos e1]
  unfold PySem.W.kitCls
  simp only
  rw [if_pos h2]
  exact h4
theorem kit_self {K : PySem.W.Frag} {N : Addr} : PySem.W.kitOne K (.ref N) (.ref N) = some true := by
  unfold PySem.W.kitOne
  simp
theorem kit_sub {K : PySem.W.Frag} {N S : Addr} {b : Bool} (ne : N ≠ S) (h2 : PySem.W.isClsIn K S = true) (h3 : PySem.W.typeIn K (.ref S) = some (.type "type")) (h4 : PySem.W.subIn K (.ref N) (.ref S) = some b) : PySem.W.kitOne K (.ref N) (.ref S) = some b := by
  unfold PySem.W.kitOne
  rw [if_neg (by simpa using ne)]
  exact kitCls_sub h2 h3 h4
theorem kit_typ {K : PySem.W.Frag} {N : Addr} {T : String} {b : Bool} (h2 : PySem.W.kitMeta T = true) (h4 : PySem.W.subIn K (.ref N) (.type T) = some b) : PySem.W.kitOne K (.ref N) (.type T) = some b := by
  unfold PySem.W.kitOne
  rw [if_neg (by simp)]
  unfold PySem.W.kitCls
  simp only
  rw [if_pos h2]
  exact h4
end Fh
set_option Elab.async false
set_option linter.all false
set_option maxRecDepth 100000
set_option maxHeartbeats 2000000
namespace Fh
open PySem PySem.Spec PyProof.Rows L2 Evl
open PySem.W (Datum)
section
variable {K : PySem.W.Frag} {M : Addr → Prop} {F0 H0 F H F' H' : Hp} {σ xs gs : L2.St} {ss ts rs gt ss2 : List Sl} {ta tb te tc tl : TE} {tr : TA} {t u tt : TT} {tz : TS} {r ra rb : Sl} {d da db e : PyData} {ds es : List PyData} {Q : VK} {v x y : V}
theorem Sts.wk2 {W : List Sl} (S : Sts K M F0 H0 F H (σ ++ gs) (ss ++ gt)) (w : Wk ss W) : Sts K M F0 H0 F H (σ ++ gs) (W ++ gt) := S.weak (w.app (Wk.refl _))
/-- an if without else whose both ways end alike -/
theorem q_whenJ {D : Ends} {tu : TS} {b : Bool} (W : List Sl) (S : Sts K M F0 H0 F H (σ ++ gs) (ss ++ gt)) (l : σ.length = ss.length) (h : TvR K t ss b)
    (h1 : b = true → ∀ nx : L2.St → Hp → Prop, (∀ σ' F' H', Sts K M F0 H0 F' H' (σ' ++ gs) (W ++ gt) → σ'.length = W.length → nx σ' H') → ∀ F' H', Sts K M F0 H0 F' H' (σ ++ gs) (ss ++ gt) → tu { D with nx := nx } σ H')
    (h2 : b = false → Wk ss W)
    (k : ∀ σ' F' H', Sts K M F0 H0 F' H' (σ' ++ gs) (W ++ gt) → σ'.length = W.length → tz D σ' H') : tSeq (tIfS t tu tNext) tz D σ H :=
  q_when S l h (fun e F' H' S' => h1 e _ k F' H' S') (fun e F' H' S' => k σ F' H' (S'.wk2 (h2 e)) (by rw [l, (h2 e).len]))
/-! ### sorted numbers -/
theorem sorted_one : ∀ {a b : List Int}, a.Perm b → a.Pairwise (· ≤ ·) → b.Pairwise (· ≤ ·) → a = b
  | [], b, p, _, _ => (List.nil_perm.mp p) ▸ rfl
  | x :: a, [], p, _, _ => by
    have := p.length_eq
    simp at this
  | x :: a, y :: b, p, ha, hb => by
    have e : x = y := by
      have h1 : x ∈ y :: b := p.mem_iff.mp List.mem_cons_self
      have h2 : y ∈ x :: a := p.mem_iff.mpr List.mem_cons_self
      rcases List.mem_cons.mp h1 with h | h
      · exact h
      · rcases List.mem_cons.mp h2 with h' | h'
        · exact h'.symm
        · have h3 := (List.pairwise_cons.mp hb).1 x h
          have h4 := (List.pairwise_cons.mp ha).1 y h'
          omega
    subst e
    rw [sorted_one (List.perm_cons x |>.mp p) (List.pairwise_cons.mp ha).2 (List.pairwise_cons.mp hb).2]
theorem ev_sortedI {ns ns' : List Int} (ha : EvR K ta ss ra) (va : vw ss ra = some (.list (ns.map .int))) (hp : ns'.Perm ns) (hs : ns'.Pairwise (· ≤ ·)) : EvR K (tCB (rSortedI K) (tCons ta tNil)) ss (.ls (ns'.map .int)) := by
  refine ev_cb (ds := [.list (ns.map .int)]) (av_cons ha av_nil) (by unfold vws; rw [va]; rfl) fun F H vs Q e h k => ?_
  obtain ⟨v, rfl, a⟩ := vw1 h
  obtain ⟨p, ws, rfl, c, f⟩ := a.lst e
  have ew := dpAll_ints f
  subst ew
  refine ⟨p, ns, rfl, c, fun ns2 l q1 q2 hl => ?_⟩
  have e2 : ns2 = ns' := sorted_one (q1.trans hp.symm) q2 hs
  subst e2
  exact k.lst ints_dp hl
end
end Fh
namespace Fh
open PySem PySem.Spec PyProof.Rows L2 Evl
theorem atI_neg1 {α : Type} {xs : List α} {x : α} (h : xs[xs.length - 1]? = some x) : atI xs (-1) = some x := by
  have hl := (List.getElem?_eq_some_iff.mp h).1
  have e : ixN xs.length (-1) = some (xs.length - 1) := by
    unfold ixN
    rw [if_neg (by decide), if_pos (by omega)]
    congr 1
    omega
  unfold atI
  rw [e]
  exact h
theorem got_some {f : Nat → Option PyData} {g : Nat → PyData} : ∀ {n : Nat}, (∀ k, k < n → f k = some (g k)) → got f n = (List.range n).map g
  | 0, _ => rfl
  | n + 1, h => by
    have e := got_some (n := n) fun k hk => h k (Nat.lt_succ_of_lt hk)
    rw [got_succ, h n (Nat.lt_succ_self _), e, List.range_succ, List.map_append]
    rfl
theorem range_get {α β : Type} (φ : α → β) (d : α) : ∀ L : List α, (List.range L.length).map (fun k => φ (L.getD k d)) = L.map φ := fun L => by
  refine List.ext_getElem (by simp) fun i h1 h2 => ?_
  have h3 : i < L.length := by simpa using h2
  simp [List.getD, h3]
theorem got_map {α : Type} (L : List α) (d : α) (φ : α → PyData) : got (fun k => some (φ (L.getD k d))) L.length = L.map φ := by
  rw [got_some (g := fun k => φ (L.getD k d)) fun _ _ => rfl, range_get]
theorem getD_of {α : Type} {L : List α} {k : Nat} {d : α} (h : k < L.length) : L[k]? = some (L.getD k d) := by
  simp [List.getD, h]
theorem atI_get {α : Type} {L : List α} {φ : α → PyData} {i : Int} {d : α} (h0 : 0 ≤ i) (h1 : i < L.length) : atI (L.map φ) i = some (φ (L.getD i.toNat d)) := by
  have e : ((i.toNat : Nat) : Int) = i := by omega
  have hl : i.toNat < L.length := by omega
  have h2 : (L.map φ)[i.toNat]? = some (φ (L.getD i.toNat d)) := by rw [List.getElem?_map, getD_of hl]; rfl
  have h3 := atI_nat h2
  rwa [e] at h3
theorem atI_getN {α : Type} {L : List α} {φ : α → PyData} {i : Nat} {d : α} (h1 : i < L.length) : atI (L.map φ) (i : Int) = some (φ (L.getD i d)) := atI_get (i := (i : Int)) (by omega) (by omega)
theorem atI_last {α : Type} {L : List α} {φ : α → PyData} {d : α} (h : L ≠ []) : atI (L.map φ) (-1) = some (φ (L.getD (L.length - 1) d)) := by
  have hl : L.length - 1 < L.length := by
    have := List.length_pos_iff.mpr h
    omega
  refine atI_neg1 ?_
  rw [List.length_map, List.getElem?_map, getD_of hl]
  rfl
theorem map_at {α β : Type} {L : List α} {φ : α → β} {k : Nat} {x : β} (d : α) (h : (L.map φ)[k]? = some x) : k < L.length ∧ x = φ (L.getD k d) := by
  have hl := (List.getElem?_eq_some_iff.mp h).1
  rw [List.length_map] at hl
  rw [List.getElem?_map, getD_of (d := d) hl] at h
  exact ⟨hl, (Option.some.inj h).symm⟩
theorem getD_mem {α : Type} {L : List α} {k : Nat} {d : α} (h : k < L.length) : L.getD k d ∈ L := by
  have := getD_of (d := d) h
  exact List.mem_of_getElem? this
theorem take_succ_get {α : Type} {L : List α} {k : Nat} {d : α} (h : k < L.length) : L.take (k + 1) = L.take k ++ [L.getD k d] := by
  rw [List.take_succ, getD_of (d := d) h]
  rfl
end Fh
namespace Fh
open PySem PySem.Spec PyProof.Rows L2 Evl
/-! ### slices -/
theorem sIx_n {n d a : Nat} (h : a ≤ n) : HT.sIx n d (some (a : Int)) = a := by
  simp only [HT.sIx]
  rw [if_neg (by omega)]
  omega
theorem cutD_take {xs : List PyData} {a : Nat} (h : a ≤ xs.length) : Fh.cutD xs none (some (a : Int)) = xs.take a := by
  unfold Fh.cutD
  rw [sIx_n h]
  show ((xs.drop 0).take (a - 0)) = _
  rw [List.drop_zero, Nat.sub_zero]
theorem cutD_drop {xs : List PyData} {a : Nat} (h : a ≤ xs.length) : Fh.cutD xs (some (a : Int)) none = xs.drop a := by
  unfold Fh.cutD
  rw [sIx_n h]
  show ((xs.drop a).take (xs.length - a)) = _
  rw [List.take_of_length_le (by simp)]
theorem cutD_mid {xs : List PyData} {a b : Nat} (h : a ≤ xs.length) (h2 : b ≤ xs.length) : Fh.cutD xs (some (a : Int)) (some (b : Int)) = (xs.drop a).take (b - a) := by
  unfold Fh.cutD
  rw [sIx_n h, sIx_n h2]
end Fh
set_option Elab.async false
set_option linter.all false
set_option maxRecDepth 100000
set_option maxHeartbeats 2000000
namespace Fh
open PySem PySem.Spec PyProof.Rows L2 Evl
open PySem.W (Datum)
/-! ### in, count over data -/
def rInP (K : PySem.W.Frag) : R2 := fun x y H Q => ∃ d ds, Dp K H x d ∧ Dp K H y (.list ds) ∧ PyData.plainAll ds = true ∧ d.plain = true ∧ d.depth ≤ 60 ∧ Q (.bl (ds.any fun z => PyData.eqv z d)) H
def rNotInP (K : PySem.W.Frag) : R2 := fun x y H Q => ∃ d ds, Dp K H x d ∧ Dp K H y (.list ds) ∧ PyData.plainAll ds = true ∧ d.plain = true ∧ d.depth ≤ 60 ∧ Q (.bl (!ds.any fun z => PyData.eqv z d)) H
theorem plain_list {ds : List PyData} (h : PyData.plainAll ds = true) : (PyData.list ds).plain = true := by simpa only [PyData.plain] using h
theorem op_inP {X : Cx} (hu : X.A.units + 64 < cLine) : OpR X (compareOp .In) (rInP X.K) := by
  intro pins s σ H x y v u Q I rx ry h
  obtain ⟨d, ds, hd, hy, hp, pd, dd, q⟩ := h
  obtain ⟨as, r1⟩ := L2.Dp.reads I d x v (Dp.kit d x pd hd) rx
  obtain ⟨bs, r2⟩ := L2.Dp.reads I _ y u (Dp.kit _ y (plain_list hp) hy) ry
  exact PySem.SeqAt.in_list_data r2 r1 hp pd (by omega) ⟨.bl _, H, I, rfl, q⟩
theorem op_notInP {X : Cx} (hu : X.A.units + 64 < cLine) : OpR X (compareOp .NotIn) (rNotInP X.K) := by
  intro pins s σ H x y v u Q I rx ry h
  obtain ⟨d, ds, hd, hy, hp, pd, dd, q⟩ := h
  obtain ⟨as, r1⟩ := L2.Dp.reads I d x v (Dp.kit d x pd hd) rx
  obtain ⟨bs, r2⟩ := L2.Dp.reads I _ y u (Dp.kit _ y (plain_list hp) hy) ry
  exact PySem.SeqAt.notIn_list_data r2 r1 hp pd (by omega) ⟨.bl _, H, I, rfl, q⟩
def rCntP (K : PySem.W.Frag) : V → List V → Hp → VK → Prop := fun x xs H Q => ∃ y d ds, xs = [y] ∧ Dp K H y d ∧ Dp K H x (.list ds) ∧ PyData.plainAll ds = true ∧ d.plain = true ∧ d.depth ≤ 60 ∧ Q (.int ((ds.countP fun z => PyData.eqv z d : Nat) : Int)) H
theorem mt_countP {X : Cx} (hu : X.A.units + 64 < cLine) : MtR X "list.count" (rCntP X.K) := by
  intro pins s σ H x xs v us Q I rx rxs h
  obtain ⟨y, d, ds, rfl, hd, hx, hp, pd, dd, q⟩ := h
  obtain ⟨u, rfl, ru⟩ := rxs.one
  obtain ⟨as, r1⟩ := L2.Dp.reads I d y u (Dp.kit d y pd hd) ru
  obtain ⟨bs, r2⟩ := L2.Dp.reads I _ x v (Dp.kit _ x (plain_list hp) hx) rx
  cases r2 with
  | list h1 h2 h3 h4 =>
    exact PySem.SeqAt.count_list_data ⟨_, h1, h2, _, h3⟩ h4 r1 hp pd (by omega) ⟨.int _, H, I.tok _, ⟨_, rfl⟩, q⟩
section
variable {K : PySem.W.Frag} {M : Addr → Prop} {F0 H0 F H F' H' : Hp} {σ xs gs : L2.St} {ss ts rs gt ss2 : List Sl} {ta tb te tc tl : TE} {tr : TA} {t u tt : TT} {tz : TS} {r ra rb : Sl} {d da db e : PyData} {ds es : List PyData} {Q : VK} {v x y : V}
theorem ev_inP (ha : EvR K ta ss ra) (hb : EvR K tb ss rb) (va : vw ss ra = some d) (vb : vw ss rb = some (.list ds)) (h1 : PyData.plainAll ds = true) (h2 : d.plain = true) (h3 : d.depth ≤ 60) : EvR K (tOp (rInP K) ta tb) ss (.dt (.bool (ds.any fun z => PyData.eqv z d))) :=
  ev_op ha hb va vb fun F H x y Q e hx hy k => ⟨d, ds, hx.dp e, hy.dp e, h1, h2, h3, k.bl⟩
theorem ev_notInP (ha : EvR K ta ss ra) (hb : EvR K tb ss rb) (va : vw ss ra = some d) (vb : vw ss rb = some (.list ds)) (h1 : PyData.plainAll ds = true) (h2 : d.plain = true) (h3 : d.depth ≤ 60) : EvR K (tOp (rNotInP K) ta tb) ss (.dt (.bool (!ds.any fun z => PyData.eqv z d))) :=
  ev_op ha hb va vb fun F H x y Q e hx hy k => ⟨d, ds, hx.dp e, hy.dp e, h1, h2, h3, k.bl⟩
theorem tyV_list (h : RdL K F H v ds) : tyV K "list" v H := by
  obtain ⟨p, vs, rfl, a, b⟩ := h
  exact .inl ⟨rfl, vs, a⟩
/-- a method of a list that looks alone, one argument -/
theorem ev_bmL {o : V → List V → Hp → VK → Prop} (ha : EvR K ta ss ra) (hb : EvR K tb ss rb) (va : vw ss ra = some (.list ds)) (vb : vw ss rb = some d)
    (hr : ∀ F H x y Q, Ex F H → VwD K F H x (.list ds) → VwD K F H y d → RetR K F H r Q → o x [y] H Q) : EvR K (tBM K "list" o ta (tCons tb tNil)) ss r := fun M F0 H0 F H σ xs ts l S Q q => by
  refine ha M F0 H0 F H σ xs ts l S _ fun x F1 H1 g1 n1 S1 => ?_
  refine ⟨tyV_list ((S1.lastV S.len2 va).lst S1.fh), ?_⟩
  refine hb M F0 H0 F1 H1 σ (xs ++ [some x]) (ts ++ [ra]) l S1 _ fun y F2 H2 g2 n2 S2 => ?_
  have l1 := S.len2
  have l2 := S1.len2
  have hy := S2.lastV l2 vb
  have S3 := S2.back l2
  have hx := S3.lastV l1 va
  exact hr F2 H2 x y Q S3.fh hx hy (RetR.mk (g1.trans g2) (S3.back l1) q)
theorem ev_count (ha : EvR K ta ss ra) (hb : EvR K tb ss rb) (va : vw ss ra = some (.list ds)) (vb : vw ss rb = some d) (h1 : PyData.plainAll ds = true) (h2 : d.plain = true) (h3 : d.depth ≤ 60) : EvR K (tBM K "list" (rCntP K) ta (tCons tb tNil)) ss (.dt (.int ((ds.countP fun z => PyData.eqv z d : Nat) : Int))) :=
  ev_bmL ha hb va vb fun F H x y Q e hx hy k => ⟨y, d, ds, rfl, hy.dp e, hx.dp e, h1, h2, h3, k.int⟩
/-- the place of a truth in a list of truths -/
theorem ev_indexB {bs : List Bool} {b : Bool} {j : Nat} (ha : EvR K ta ss ra) (hb : EvR K tb ss (.dt (.bool b))) (va : vw ss ra = some (.list (bs.map .bool))) (h1 : bs[j]? = some b) (h2 : ∀ m, m < j → bs[m]? ≠ some b) : EvR K (tBM K "list" (rIndex K) ta (tCons tb tNil)) ss (.dt (.int (j : Int))) :=
  ev_bmL ha hb va rfl fun F H x y Q e hx hy k => by
    obtain ⟨p, ws, rfl, c, f⟩ := hx.lst e
    have ew := dpAll_bls f
    subst ew
    refine ⟨p, bs.map V.bl, .bl b, j, .bl b, rfl, by rw [hy.bl], c, rfl, ?_, by rw [List.getElem?_map, h1]; rfl, by simp [eqV], fun m z hm hz => ?_, k.int⟩
    · rw [List.all_eq_true]
      intro z hz
      obtain ⟨b', _, rfl⟩ := List.mem_map.mp hz
      rfl
    · rw [List.getElem?_map] at hz
      cases eb : bs[m]? with
      | none => rw [eb] at hz; cases hz
      | some b' =>
        rw [eb] at hz
        cases hz
        have hne : b' ≠ b := fun e2 => h2 m hm (by rw [eb, e2])
        simp [eqV, hne]
/-! ### a < b < c of numbers -/
theorem ev_chain {f g : Int → Int → Bool} {i j k : Int} (ha : EvR K ta ss (.dt (.int i))) (hb : EvR K tb ss (.dt (.int j))) (hc : f i j = true → EvR K tc ss (.dt (.int k))) : EvR K (tChain (rI0 fun i j => .bl (f i j)) (rI0 fun i j => .bl (g i j)) ta tb tc) ss (.dt (.bool (f i j && g j k))) := fun M F0 H0 F H σ xs ts l S Q q => by
  refine ha M F0 H0 F H σ xs ts l S _ fun x F1 H1 g1 n1 S1 => ?_
  refine hb M F0 H0 F1 H1 σ (xs ++ [some x]) (ts ++ [_]) l S1 _ fun y F2 H2 g2 n2 S2 => ?_
  have l1 := S.len2
  have l2 := S1.len2
  have hy : y = .int j := (S2.lastV l2 (d := .int j) rfl).int
  have S3 := S2.back l2
  have hx : x = .int i := (S3.lastV l1 (d := .int i) rfl).int
  have S4 := S3.back l1
  refine ⟨i, j, hx, hy, f i j, rfl, ?_⟩
  cases ef : f i j with
  | false =>
    rw [if_neg (by decide)]
    rw [ef, Bool.false_and] at q
    exact (RetR.mk (g1.trans g2) S4 q).bl
  | true =>
    rw [if_pos rfl]
    rw [ef, Bool.true_and] at q
    refine hc ef M F0 H0 F2 H2 σ xs ts l S4 _ fun w F3 H3 g3 n3 S5 => ?_
    have hw : w = .int k := (S5.lastV l1 (d := .int k) rfl).int
    exact ⟨j, k, hy, hw, (RetR.mk ((g1.trans g2).trans g3) (S5.back l1) q).bl⟩
/-! ### tuples of lists -/
def rTupR (K : PySem.W.Frag) : List V → Hp → VK → Prop := fun xs H Q => ∃ p ys, xs = [.ref p] ∧ ((SqL K H p ys ∧ ∀ l, H l = none → Q (.ref l) (upd H l (.tup ys))) ∨ (SqT K H p ys ∧ Q (.ref p) H))
theorem call_tupleR {X : Cx} : CallR X (.type "tuple") (rTupR X.K) := call_tuple_of
theorem ev_tupleL (ha : EvR K ta ss ra) (va : vw ss ra = some (.list ds)) : EvR K (tCB (rTupR K) (tCons ta tNil)) ss (.dt (.tuple ds)) := by
  refine ev_cb (ds := [.list ds]) (av_cons ha av_nil) (by unfold vws; rw [va]; rfl) fun F H vs Q e h k => ?_
  obtain ⟨v, rfl, a⟩ := vw1 h
  obtain ⟨p, ws, rfl, c, f⟩ := a.lst e
  exact ⟨p, ws, rfl, .inl ⟨c, fun l hl => k.tup f hl⟩⟩
theorem ev_dict : EvR K tDNewK ss (.dt (.dict [])) := fun M F0 H0 F H σ xs ts l S Q q p hp => by
  refine (RetR.mk0 S q) _ (upd F p (.dK [])) _ fun _ _ _ _ _ S2 => ?_
  exact (S2.grow (Gr.newI S2.fh hp)).push_dt (.dct upd_same)
/-! ### one out of a display -/
theorem Sts.pick {vs : List V} {i : Nat} {v : V} (S : Sts K M F0 H0 F H (σ ++ vs.map some) (ss ++ rs)) (l : σ.length = ss.length) (hv : vs[i]? = some v) (hr : rs[i]? = some (.dt d)) : Dp K F v d := by
  obtain ⟨w, a, b⟩ := S.get_dt (i := ss.length + i) (by rw [List.getElem?_append_right (by omega)]; simpa using hr)
  rw [← l, List.getElem?_append_right (by omega), Nat.add_sub_cancel_left, List.getElem?_map, hv] at a
  cases a
  exact b
theorem ev_pick {i : Int} {j : Nat} (ha : AvR K tr ss rs) (hb : EvR K tb ss (.dt (.int i))) (hj : ixN rs.length i = some j) (hr : rs[j]? = some (.dt d)) (hl : rs.length ≤ 1000) : EvR K (tOp (rIxL K) (tLst tr) tb) ss (.dt d) := fun M F0 H0 F H σ xs ts l S Q q => by
  refine ha M F0 H0 F H σ xs ts l S _ fun vs F1 H1 hlen g1 S1 => ?_
  have l1 := S.len2
  refine ⟨by rw [hlen, sizeLine_eq]; omega, fun p hp => ?_⟩
  have S2 := (S1.backA l1).grow (Gr.newM S1.fh (o := .lst vs) hp)
  have hj2 : j < vs.length := by rw [hlen]; exact (List.getElem?_eq_some_iff.mp hr).1
  have hv : vs[j]? = some vs[j] := by simp [hj2]
  have dv : Dp K F1 vs[j] d := by
    have S3 := S1
    rw [← List.append_assoc, ← List.append_assoc] at S3
    exact S3.pick l1 hv hr
  refine hb M F0 H0 F1 _ σ xs ts l S2 _ fun y F2 H2 g2 n2 S3 => ?_
  have hy : y = .int i := (S3.lastV l1 (d := .int i) rfl).int
  subst hy
  have hH : H2 p = some (.lst vs) := g2.hh p _ upd_same
  refine ⟨p, vs, i, vs[j], rfl, rfl, SqL.of hH, ?_, ?_⟩
  · unfold atI
    rw [hlen, hj]
    exact hv
  · exact (RetR.mk ((g1.trans (Gr.newM S1.fh hp)).trans g2) (S3.back l1) q).dt (dp_ex g2.ff d _ dv)
/-! ### a, b = xs.pop() -/
theorem dpAll_last : ∀ {vs : List V} {ds : List PyData}, DpAll K F vs (ds ++ [d]) → ∃ ws w, vs = ws ++ [w] ∧ DpAll K F ws ds ∧ Dp K F w d
  | _, [], h => by
    cases h with
    | cons a b =>
      cases b
      exact ⟨[], _, rfl, .nil, a⟩
  | _, e :: ds, h => by
    cases h with
    | cons a b =>
      obtain ⟨ws, w, rfl, x, y⟩ := dpAll_last (ds := ds) b
      exact ⟨_ :: ws, w, rfl, .cons a x, y⟩
theorem pop_run {i : Nat} (S : Sts K M F0 H0 F H (σ ++ gs) (ss ++ gt)) (l : σ.length = ss.length) (h : ss[i]? = some (.ls (ds ++ [d])))
    (k : ∀ v H', Dp K F v d → Sts K M F0 H0 F H' (σ ++ gs) (ss.set i (.ls ds) ++ gt) → Q v H') : tBM0 K "list" rPop (tVar i) σ H Q := by
  have hi := (List.getElem?_eq_some_iff.mp h).1
  have h' : (ss ++ gt)[i]? = some (.ls (ds ++ [d])) := by rw [List.getElem?_append_left hi]; exact h
  obtain ⟨p, vs, a, b, c, d1, k1⟩ := S.write h'
  have a2 := a
  rw [List.getElem?_append_left (by omega)] at a2
  obtain ⟨ws, w, rfl, x, y⟩ := dpAll_last c
  refine ⟨.ref p, a2, .inl ⟨rfl, _, SqL.of b⟩, p, ws ++ [w], w, rfl, rfl, b, by simp, ?_⟩
  rw [List.dropLast_concat]
  have S3 := k1 ws ds x
  rw [List.set_append_left _ _ hi] at S3
  exact k w _ y S3
theorem st_popTwo {D : Ends} {i m n : Nat} {d1 d2 : PyData} (S : Sts K M F0 H0 F H (σ ++ gs) (ss ++ gt)) (l : σ.length = ss.length) (h : ss[i]? = some (.ls (ds ++ [.tuple [d1, d2]]))) (na : (ss ++ gt).all notAl = true) (hm : m < ss.length) (hn : n < ss.length)
    (k : ∀ σ' F' H', Sts K M F0 H0 F' H' (σ' ++ gs) (((ss.set i (.ls ds)).set m (.dt d1)).set n (.dt d2) ++ gt) → σ'.length = (((ss.set i (.ls ds)).set m (.dt d1)).set n (.dt d2)).length → D.nx σ' H') : tAsg (tBM0 K "list" rPop (tVar i)) (gTup K 2 (gCons (gName m) (gCons (gName n) gNil))) D σ H := by
  refine pop_run S l h fun v H' dv S2 => ?_
  have na2 : (ss.set i (.ls ds) ++ gt).all notAl = true := by
    rw [List.all_append, Bool.and_eq_true] at na ⊢
    refine ⟨List.all_eq_true.mpr fun s hs => ?_, na.2⟩
    rcases List.mem_or_eq_of_mem_set hs with h | h
    · exact List.all_eq_true.mp na.1 s h
    · rw [h]
      rfl
  exact g_pair S2 (by rw [l, List.length_set]) (by rw [List.length_set]; exact hm) (by rw [List.length_set]; exact hn) dv na2 k
theorem q_popTwo {D : Ends} {i m n : Nat} {d1 d2 : PyData} (S : Sts K M F0 H0 F H (σ ++ gs) (ss ++ gt)) (l : σ.length = ss.length) (h : ss[i]? = some (.ls (ds ++ [.tuple [d1, d2]]))) (na : (ss ++ gt).all notAl = true) (hm : m < ss.length) (hn : n < ss.length)
    (k : ∀ σ' F' H', Sts K M F0 H0 F' H' (σ' ++ gs) (((ss.set i (.ls ds)).set m (.dt d1)).set n (.dt d2) ++ gt) → σ'.length = (((ss.set i (.ls ds)).set m (.dt d1)).set n (.dt d2)).length → tz D σ' H') : tSeq (tAsg (tBM0 K "list" rPop (tVar i)) (gTup K 2 (gCons (gName m) (gCons (gName n) gNil)))) tz D σ H := st_popTwo (D := { D with nx := tz D }) S l h na hm hn k
end
end Fh
set_option Elab.async false
set_option linter.all false
set_option maxRecDepth 100000
set_option maxHeartbeats 2000000
namespace Fh
open PySem PySem.Spec PyProof.Rows L2 Evl
open PySem.W (Datum EachIs AllAlike Sortable dataLe)
/-! ### sorted of data -/
theorem each_of {K : PySem.W.Frag} {H : Hp} {X : Cx} {pins : List (Addr × Obj)} {σ : L2.St} {s : Shared} (I : Inv X pins σ H s) {β : Type} {enc : β → PyData} :
    ∀ {xs : List V} {us : List Value} {bs : List β}, Vals xs us → DpAll X.K H xs (bs.map enc) → PyData.plainAll (bs.map enc) = true → EachIs (fun v (xb : V × β) => RelV xb.1 v) us (xs.zip bs) ∧ EachIs (fun v (xb : V × β) => ∃ as, Reads s.heap v (enc xb.2) as) us (xs.zip bs)
  | _, _, [], r, h, _ => by
    have h' : DpAll X.K H _ [] := h
    cases h'
    cases r
    exact ⟨.nil, .nil⟩
  | _, _, b :: bs, r, h, p => by
    have h' : DpAll X.K H _ (enc b :: bs.map enc) := h
    have p' : ((enc b).plain && PyData.plainAll (bs.map enc)) = true := p
    rw [Bool.and_eq_true] at p'
    cases h' with
    | cons h1 h2 =>
      cases r with
      | cons r1 r2 =>
        obtain ⟨a, c⟩ := each_of (K := K) I r2 h2 p'.2
        obtain ⟨as, q⟩ := L2.Dp.reads I (enc b) _ _ (Dp.kit _ _ p'.1 h1) r1
        exact ⟨.cons r1 a, .cons ⟨as, q⟩ c⟩
theorem vals_each {β : Type} : ∀ {us : List Value} {zs : List (V × β)}, EachIs (fun v (xb : V × β) => RelV xb.1 v) us zs → Vals (zs.map (·.1)) us
  | _, _, .nil => .nil
  | _, _, .cons a b => .cons a (vals_each b)
def rSortedQ (K : PySem.W.Frag) : List V → Hp → VK → Prop := fun vs H Q => ∃ (β : Type) (enc : β → PyData) (bs : List β) (a : Addr) (xs : List V), vs = [.ref a] ∧ SqL K H a xs ∧ DpAll K H xs (bs.map enc) ∧ PyData.plainAll (bs.map enc) = true ∧ AllAlike (bs.map enc) ∧ Sortable (bs.map enc) ∧ (∀ b ∈ bs, (enc b).depth ≤ 50) ∧
  ∀ (zs : List (V × β)) (p : Addr), zs.Perm (xs.zip bs) → zs.map (·.2) = bs.mergeSort (dataLe false enc) → H p = none → Q (.ref p) (upd H p (.lst (zs.map (·.1))))
theorem zip_snd {β : Type} {xs : List V} {bs : List β} (h : xs.length = bs.length) : (xs.zip bs).map (·.2) = bs := List.map_snd_zip (Nat.le_of_eq h.symm)
theorem cr_sortedQ {X : Cx} (hu : X.A.units + 64 < cLine) : CallR X (.builtin "sorted") (rSortedQ X.K) := by
  intro pins s σ H vs us Q I r h
  obtain ⟨β, enc, bs, a, xs, rfl, hs, hd, hp, hal, hk, hdep, q⟩ := h
  obtain ⟨its, rv, hl, hz⟩ := I.list hs
  rw [Vals.ref1 r]
  obtain ⟨e1, e2⟩ := each_of (K := X.K) I rv hd hp
  have hlen : xs.length = bs.length := by rw [dpAll_len hd, List.length_map]
  have em : (xs.zip bs).map (fun xb => enc xb.2) = bs.map enc := by
    conv => rhs; rw [← zip_snd hlen]
    rw [List.map_map]
    rfl
  refine PySem.W.sorted_data (bs := xs.zip bs) (enc := fun xb => enc xb.2) (R := fun v xb => RelV xb.1 v) hl.isList e1 e2 (by rw [em]; exact hal) (by rw [em]; exact hk) ?_ (fun b hb => ?_) fun out ho hout => ?_
  · rw [List.length_zip]
    omega
  · have hb2 : b.2 ∈ bs := (List.of_mem_zip hb).2
    have := hdep _ hb2
    show X.A.units + 2 + (enc b.2).depth < cLine
    omega
  · obtain ⟨ep, he'⟩ := PyProof.Rows.sortedAll_at s.heap its out.toArray
    have perm := List.mergeSort_perm (xs.zip bs) (dataLe false fun xb => enc xb.2)
    have hv := vals_each hout
    have hsz : (((xs.zip bs).mergeSort (dataLe false fun xb => enc xb.2)).map (·.1)).length ≤ sizeLine := by
      rw [List.length_map, perm.length_eq, List.length_zip]
      omega
    refine ⟨.ref _, upd H (s.heap.objs.size + 1) (.lst (((xs.zip bs).mergeSort (dataLe false fun xb => enc xb.2)).map (·.1))), I.laid (t' := s.toks) (fun _ _ => PyProof.Rows.sortedAll_old) (Nat.le_succ _) ⟨hsz, out, ep, hv, he'⟩, rfl, q _ _ perm ?_ (I.hok.fresh (Nat.le_succ _))⟩
    have hm := PySem.W.sort_maps (l := xs.zip bs) (r := dataLe false fun xb : V × β => enc xb.2) (s := dataLe false enc) (fun xb : V × β => xb.2) fun a _ b _ => rfl
    rw [zip_snd hlen] at hm
    exact hm
section
variable {K : PySem.W.Frag} {M : Addr → Prop} {F0 H0 F H F' H' : Hp} {σ xs gs : L2.St} {ss ts rs gt ss2 : List Sl} {ta tb te tc tl : TE} {tr : TA} {t u tt : TT} {tz : TS} {r ra rb : Sl} {d da db e : PyData} {ds es : List PyData} {Q : VK} {v x y : V}
theorem dpAll_zip {β : Type} {enc : β → PyData} : ∀ {vs : List V} {bs : List β}, DpAll K F vs (bs.map enc) → ∀ xb ∈ vs.zip bs, Dp K F xb.1 (enc xb.2)
  | _, [], h, xb, hm => by
    rw [List.zip_nil_right] at hm
    cases hm
  | _, b :: bs, h, xb, hm => by
    have h' : DpAll K F _ (enc b :: bs.map enc) := h
    cases h' with
    | cons h1 h2 =>
      rw [List.zip_cons_cons] at hm
      rcases List.mem_cons.mp hm with rfl | hm
      · exact h1
      · exact dpAll_zip h2 xb hm
theorem dpAll_of_zip {β : Type} {enc : β → PyData} : ∀ {zs : List (V × β)}, (∀ xb ∈ zs, Dp K F xb.1 (enc xb.2)) → DpAll K F (zs.map (·.1)) ((zs.map (·.2)).map enc)
  | [], _ => .nil
  | z :: zs, h => .cons (h z List.mem_cons_self) (dpAll_of_zip fun xb hx => h xb (List.mem_cons_of_mem _ hx))
theorem ev_sortedQ {β : Type} (enc : β → PyData) {bs : List β} (ha : EvR K ta ss ra) (va : vw ss ra = some (.list (bs.map enc))) (hp : PyData.plainAll (bs.map enc) = true) (hal : AllAlike (bs.map enc)) (hk : Sortable (bs.map enc)) (hdep : ∀ b ∈ bs, (enc b).depth ≤ 50) :
    EvR K (tCB (rSortedQ K) (tCons ta tNil)) ss (.ls ((bs.mergeSort (dataLe false enc)).map enc)) := by
  refine ev_cb (ds := [.list (bs.map enc)]) (av_cons ha av_nil) (by unfold vws; rw [va]; rfl) fun F H vs Q e h k => ?_
  obtain ⟨v, rfl, a⟩ := vw1 h
  obtain ⟨p, ws, rfl, c, f⟩ := a.lst e
  refine ⟨β, enc, bs, p, ws, rfl, c, dpAll_ex e _ _ f, hp, hal, hk, hdep, fun zs l h1 h2 hl => ?_⟩
  have := dpAll_of_zip (enc := enc) (zs := zs) fun xb hx => dpAll_zip f xb (h1.mem_iff.mp hx)
  rw [h2] at this
  exact k.lst this hl
end
/-! pairs of numbers -/
abbrev iiD (p : Int × Int) : PyData := .tuple [.int p.1, .int p.2]
theorem ii_plain : ∀ L : List (Int × Int), PyData.plainAll (L.map iiD) = true
  | [] => rfl
  | p :: L => by
    show ((iiD p).plain && PyData.plainAll (L.map iiD)) = true
    rw [ii_plain L]
    rfl
theorem ii_alike (L : List (Int × Int)) : AllAlike (L.map iiD) := .of fun b b' => by simp [PySem.W.alike, PySem.W.alikeAll]
theorem ii_sortable (L : List (Int × Int)) : Sortable (L.map iiD) := .tuples fun b => ⟨_, _, rfl⟩
theorem ii_depth (p : Int × Int) : (iiD p).depth ≤ 50 := by simp [PyData.depth, PyData.depthAll]
def iiLe (p q : Int × Int) : Bool := decide (p.1 < q.1 ∨ (p.1 = q.1 ∧ p.2 ≤ q.2))
theorem ii_le : dataLe false iiD = iiLe := PySem.W.dataLe_ii (fun p : Int × Int => p.1) (fun p => p.2)
end Fh
set_option Elab.async false
set_option linter.all false
set_option maxRecDepth 100000
set_option maxHeartbeats 2000000
namespace Fh
open PySem PySem.Spec PyProof.Rows L2 Evl
open PySem.W (Datum)
/-- what a def that is handed an error is worth -/
def spE (K : PySem.W.Frag) (cls : Value) (d : Option Addr) (a : Addr) (R : Addr → Sl → Prop) : Sp := fun vs H Q _ => vs = [.ref a] ∧ ∃ C r, cls = .ref C ∧ d = none ∧ R C r ∧ RetR K H H r Q
theorem spE_len {K : PySem.W.Frag} {cls : Value} {d : Option Addr} {a : Addr} {R : Addr → Sl → Prop} : ∀ vs H Q E, spE K cls d a R vs H Q E → vs.length = 1 := fun vs H Q E h => by
  rw [h.1]
  rfl
section
variable {K : PySem.W.Frag} {M : Addr → Prop} {F0 H0 F H F' H' : Hp} {σ xs gs : L2.St} {ss ts rs gt : List Sl} {r : Sl} {Q : VK}
theorem ev_callX {i : Nat} {a C : Addr} {R : Addr → Sl → Prop} {E : XK} (hi : ss[i]? = some (isV (.ref a))) (h : R C r) (fr : flatR r = true) : EvR K (tCall (spE K (.ref C) none a R) [] E (tCons (tVar i) tNil)) ss r := fun M F0 H0 F H σ xs ts l S Q q => by
  have hl := (List.getElem?_eq_some_iff.mp hi).1
  obtain ⟨v, e1, e2⟩ := S.get_fx (i := i) (by rw [List.getElem?_append_left hl]; exact hi)
  rw [List.getElem?_append_left (by omega)] at e1
  have e3 : v = .ref a := e2 F (Ex.refl F)
  subst e3
  exact ⟨_, e1, rfl, C, r, rfl, rfl, h, (RetR.mk0 S q).flat fr S.fh (Ex.refl H)⟩
theorem Sts.initE {N : List Str} {a : Addr} : Sts K (fun _ => False) H H H H (L2.start N [.ref a] ++ []) ((isV (.ref a) :: List.replicate (N.length - 1) .no) ++ []) := by
  have S0 : Sts K (fun _ => False) H H H H [] [] := ⟨(Gr.refl (Ex.refl H)).toM, rfl, fun _ => [], by intro i s h; simp at h, by intro i s p o h; simp at h, fun i h => by simp at h, fun i j p h => by simp at h⟩
  have S1 := S0.push_fx (v := .ref a) (φ := fun _ w => w = .ref a) fun _ _ => rfl
  have S2 := S1.pad (N.length - 1)
  rw [List.append_nil, List.append_nil]
  exact S2
end
end Fh
set_option Elab.async false
set_option linter.all false
set_option maxRecDepth 100000
set_option maxHeartbeats 2000000
namespace Fh
open PySem PySem.Spec PyProof.Rows L2 Evl
open PySem.W (Datum)
/-! ### all but tuples held still for a look -/
def notTup : Option HO → Bool
  | some (.tup _) => false
  | some (.frz _ (.tup _)) => false
  | _ => true
def fplus (F H : Hp) : Hp := fun a => if notTup (H a) = true then H a else F a
theorem fplus_l {F H : Hp} (e : Ex F H) : Ex F (fplus F H) := fun a o h => by
  unfold fplus
  rw [e a o h]
  split
  · rfl
  · exact h
theorem fplus_r {F H : Hp} (e : Ex F H) : Ex (fplus F H) H := fun a o h => by
  unfold fplus at h
  split at h
  · exact h
  · exact e a o h
theorem fplus_at {F H : Hp} {a : Addr} {o : HO} (h : H a = some o) (n : notTup (some o) = true) : fplus F H a = some o := by
  unfold fplus
  rw [h, if_pos n]
mutual
/-- no list, no dict within -/
def noL : PyData → Bool
  | .tuple ds => noLAll ds
  | .list _ => false
  | .dict _ => false
  | _ => true
def noLAll : List PyData → Bool
  | [] => true
  | d :: ds => noL d && noLAll ds
end
def tupR : Sl → Bool
  | .dt d => noL d
  | .ls ds => noLAll ds
  | _ => false
mutual
theorem dp_noL {K : PySem.W.Frag} {F' F2 : Hp} (hT : ∀ a xs, SqT K F' a xs → SqT K F2 a xs) : ∀ (d : PyData) (v : V), noL d = true → Dp K F' v d → Dp K F2 v d
  | .none, _, _, h => by cases h; exact .non
  | .bool b, _, _, h => by cases h; exact .bl b
  | .int i, _, _, h => by cases h; exact .int i
  | .str x, _, _, h => by cases h; exact .str x
  | .list ds, _, p, h => nomatch p
  | .tuple ds, _, p, h => by
    cases h with
    | tup hs ha => exact .tup (hT _ _ hs) (dpAll_noL hT ds _ (by simpa only [noL] using p) ha)
  | .dict _, _, p, h => nomatch p
theorem dpAll_noL {K : PySem.W.Frag} {F' F2 : Hp} (hT : ∀ a xs, SqT K F' a xs → SqT K F2 a xs) : ∀ (ds : List PyData) (vs : List V), noLAll ds = true → DpAll K F' vs ds → DpAll K F2 vs ds
  | [], _, _, h => by cases h; exact .nil
  | d :: ds, _, p, h => by
    simp only [noLAll, Bool.and_eq_true] at p
    cases h with
    | cons h1 h2 => exact .cons (dp_noL hT d _ p.1 h1) (dpAll_noL hT ds _ p.2 h2)
end
/-- what was there but not still is let go again -/
noncomputable def thawH (F H F' : Hp) : Hp := fun a => match H a with
  | none => F' a
  | some _ => F a
theorem thaw_gr {F H F' H' : Hp} (e : Ex F H) (g : Gr (fplus F H) H F' H') : Gr F H (thawH F H F') H' := by
  refine ⟨fun a o h => ?_, g.hh, fun a o h => ?_, fun a h1 h2 => ?_⟩
  · unfold thawH
    rw [e a o h]
    exact h
  · unfold thawH at h
    cases eh : H a with
    | none =>
      rw [eh] at h
      exact g.fh a o h
    | some o' =>
      rw [eh] at h
      exact g.hh a o (e a o h)
  · unfold thawH
    cases eh : H a with
    | none => exact absurd eh h1
    | some o' => exact h2
theorem thaw_tup {K : PySem.W.Frag} {F H F' H' : Hp} (e : Ex F H) (g : Gr (fplus F H) H F' H') : ∀ a xs, SqT K F' a xs → SqT K (thawH F H F') a xs := by
  have key : ∀ a o, F' a = some o → notTup (some o) = false → thawH F H F' a = some o := fun a o h n => by
    unfold thawH
    cases eh : H a with
    | none => exact h
    | some o' =>
      show F a = some o
      have h1 : fplus F H a ≠ none := fun z => by
        have := g.nw a (by rw [eh]; exact fun z => nomatch z) z
        rw [h] at this
        cases this
      cases ep : fplus F H a with
      | none => exact absurd ep h1
      | some o2 =>
        have h2 := g.ff a o2 ep
        rw [h] at h2
        cases h2
        unfold fplus at ep
        split at ep
        · rename_i hn
          rw [ep, n] at hn
          cases hn
        · exact ep
  intro a xs h
  rcases h with (h | ⟨o, h⟩) | h
  · exact .inl (.inl (key a _ h rfl))
  · exact .inl (.inr ⟨o, key a _ h rfl⟩)
  · exact .inr h
theorem sts_nil {K : PySem.W.Frag} {F H : Hp} (e : Ex F H) : Sts K (fun _ => False) F H F H [] [] := ⟨(Gr.refl e).toM, rfl, fun _ => [], by intro i s h; simp at h, by intro i s p o h; simp at h, fun i h => by simp at h, fun i j p h => by simp at h⟩
/-- what slot r's thing is, out of a look at all held still -/
theorem push_thaw {K : PySem.W.Frag} {M : Addr → Prop} {F0 H0 F H F' H' : Hp} {σ τ : L2.St} {ss tt : List Sl} {v : V} {r : Sl} (S : Sts K M F0 H0 F H σ ss) (fr : tupR r = true) (S1 : Sts K (fun _ => False) (fplus F H) H F' H' (τ ++ [some v]) (tt ++ [r])) (l : τ.length = tt.length) :
    ∃ F2, Gr F H F2 H' ∧ NewR H v r ∧ Sts K M F0 H0 F2 H' (σ ++ [some v]) (ss ++ [r]) := by
  have g := S1.gr.toGr
  have gt := thaw_gr S.fh g
  have hT := thaw_tup (K := K) S.fh g
  have hlast : ∀ {x : V}, (τ ++ [some v])[tt.length]? = some (some x) → x = v := fun {x} h => by
    rw [← l, last_at] at h
    cases h
    rfl
  cases r with
  | no => cases fr
  | al j => cases fr
  | fx φ => cases fr
  | mu ψ => cases fr
  | dt d =>
    obtain ⟨w, a, b⟩ := S1.get_dt (i := tt.length) (by rw [List.getElem?_append_right (Nat.le_refl _), Nat.sub_self]; rfl)
    have := hlast a
    subst this
    exact ⟨_, gt, trivial, (S.grow gt).push_dt (dp_noL hT d _ fr b)⟩
  | ls ds =>
    obtain ⟨p, vs, a, b, c, fp, hp⟩ := S1.get_ls (i := tt.length) (by rw [List.getElem?_append_right (Nat.le_refl _), Nat.sub_self]; rfl)
    have := hlast a
    subst this
    refine ⟨_, gt, ⟨p, rfl, hp⟩, ?_⟩
    refine S.push_at (L1 := [(p, .lst vs)]) gt ⟨p, vs, last_at, rfl, dpAll_noL hT ds _ fr b⟩ (fun q o hq => ?_) (by simp)
    cases List.mem_singleton.mp hq
    refine ⟨c, ?_, hp⟩
    unfold thawH
    rw [hp]
    exact fp
theorem RetR.thaw {K : PySem.W.Frag} {F H : Hp} {r : Sl} {Q : VK} (e : Ex F H) (k : RetR K F H r Q) (fr : tupR r = true) : RetR K (fplus F H) H r Q := fun v F' H' g => by
  have S1 := g _ _ _ _ _ (sts_nil (fplus_r e))
  refine k v (thawH F H F') H' fun M F0 H0 σ ss S => ?_
  obtain ⟨F2, g2, _, S2⟩ := push_thaw (τ := []) (tt := []) S fr S1 rfl
  have e2 := S1.gr.toGr
  -- the same frozen part
  have gt := thaw_gr S.fh e2
  have hT := thaw_tup (K := K) S.fh e2
  cases r with
  | no => cases fr
  | al j => cases fr
  | fx φ => cases fr
  | mu ψ => cases fr
  | dt d =>
    obtain ⟨w, a, b⟩ := S1.get_dt (i := 0) rfl
    cases a
    exact (S.grow gt).push_dt (dp_noL hT d _ fr b)
  | ls ds =>
    obtain ⟨p, vs, a, b, c, fp, hp⟩ := S1.get_ls (i := 0) rfl
    cases a
    refine S.push_at (L1 := [(p, .lst vs)]) gt ⟨p, vs, last_at, rfl, dpAll_noL hT ds _ fr b⟩ (fun q o hq => ?_) (by simp)
    cases List.mem_singleton.mp hq
    refine ⟨c, ?_, hp⟩
    unfold thawH
    rw [hp]
    exact fp
section
variable {K : PySem.W.Frag} {M : Addr → Prop} {F0 H0 F H F' H' : Hp} {σ xs gs : L2.St} {ss ts rs gt ss2 : List Sl} {ta tb te tc tl : TE} {tr : TA} {t u tt : TT} {tz : TS} {r ra rb : Sl} {d da db e : PyData} {ds es : List PyData} {Q : VK} {v x y : V}
theorem rd_plus {p : Addr} {vs : List V} (h : SqL K H p vs) : SqL K (fplus F H) p vs := by
  rcases h with (h | ⟨o, h⟩) | h
  · exact .inl (.inl (fplus_at h rfl))
  · exact .inl (.inr ⟨o, fplus_at h rfl⟩)
  · exact .inr h
theorem VwD.plus (h : VwD K F H v d) (e : Ex F H) : Dp K (fplus F H) v d := by
  rcases h with h | ⟨ds, rfl, p, vs, rfl, a, b⟩
  · exact dp_ex (fplus_l e) d v h
  · exact .lst (rd_plus a) (dpAll_ex (fplus_l e) ds vs b)
theorem vwA_plus : ∀ {vs : List V} {ds : List PyData}, VwA K F H vs ds → Ex F H → DpAll K (fplus F H) vs ds
  | _, _, .nil, _ => .nil
  | _, _, .cons a b, e => .cons (a.plus e) (vwA_plus b e)
/-- a call, lists of our own among what is handed in; what it tells has no list within -/
theorem ev_callN {R : List PyData → Sl → Prop} {X : List PyData → Addr → Prop} {dvs : List V} {es : List PyData} {E : XK} (ha : AvR K tr ss rs) (va : vws ss rs = some ds) (hd : ∀ F, DpAll K F dvs es) (h : R (ds ++ es) r) (fr : tupR r = true) : EvR K (tCall (spF K R X) dvs E tr) ss r := fun M F0 H0 F H σ xs ts l S Q q => by
  refine ha M F0 H0 F H σ xs ts l S _ fun vs F1 H1 hl g1 S1 => ?_
  have l1 := S.len2
  exact ⟨fplus F1 H1, _, fplus_r S1.fh, dpAll_app (vwA_plus (S1.argsV l1 hl va) S1.fh) (hd _), .inl ⟨r, h, (RetR.mk g1 (S1.backA l1) q).thaw S1.fh fr⟩⟩
theorem ev_callN0 {R : List PyData → Sl → Prop} {X : List PyData → Addr → Prop} {E : XK} (ha : AvR K tr ss rs) (va : vws ss rs = some ds) (h : R ds r) (fr : tupR r = true) : EvR K (tCall (spF K R X) [] E tr) ss r := by
  refine ev_callN (es := []) ha va (fun F => .nil) ?_ fr
  rw [List.append_nil]
  exact h
/-! ### a look at slots held still -/
inductive Fz (K : PySem.W.Frag) : Sl → Sl → Prop where
  | dt {d : PyData} : Fz K (.dt d) (.dt d)
  | no {s : Sl} : Fz K s .no
  | fx {φ : Hp → V → Prop} : Fz K (.fx φ) (.fx φ)
  | ls {ds : List PyData} : Fz K (.ls ds) (.dt (.list ds))
  | mu {ψ : Hp → V → List (Addr × HO) → Prop} {d : PyData} (h1 : ∀ F v L F', ψ F v L → Ex F F' → (∀ p o, (p, o) ∈ L → F' p = some o) → Dp K F' v d) (h2 : ∀ F v L, ψ F v L → ∀ p o, (p, o) ∈ L → notTup (some o) = true) : Fz K (.mu ψ) (.dt d)
inductive FzA (K : PySem.W.Frag) : List Sl → List Sl → Prop where
  | nil : FzA K [] []
  | cons {s z : Sl} {ss zs : List Sl} (h : Fz K s z) (r : FzA K ss zs) : FzA K (s :: ss) (z :: zs)
theorem FzA.len {zs : List Sl} : ∀ {ss : List Sl}, FzA K ss zs → ss.length = zs.length := fun {ss} h => by
  induction h with
  | nil => rfl
  | cons _ _ ih => rw [List.length_cons, List.length_cons, ih]
theorem FzA.get {zs : List Sl} : ∀ {ss : List Sl} {i : Nat} {z : Sl}, FzA K ss zs → zs[i]? = some z → ∃ s, ss[i]? = some s ∧ Fz K s z := fun {ss i z} h => by
  induction h generalizing i with
  | nil => intro e; simp at e
  | cons hh r ih =>
    intro e
    cases i with
    | zero => exact ⟨_, rfl, by cases e; exact hh⟩
    | succ i => exact ih (by simpa using e)
theorem Sts.still {zs : List Sl} (S : Sts K M F0 H0 F H σ ss) (h : FzA K ss zs) : Sts K (fun _ => False) (fplus F H) H (fplus F H) H σ zs := by
  obtain ⟨g0, l, L, O⟩ := S
  have e := g0.fh
  refine ⟨(Gr.refl (fplus_r e)).toM, l.trans h.len, fun _ => [], fun i z hz => ?_, fun i s p o hs hp => (by cases hp), fun i hi => .nil, fun i j p hi hj hp => (by cases hp)⟩
  obtain ⟨s, hs, f⟩ := h.get hz
  have ok := O.ok i s hs
  cases f with
  | no => rfl
  | dt =>
    obtain ⟨_, v, b, c⟩ := ok
    exact ⟨rfl, v, b, dp_ex (fplus_l e) _ _ c⟩
  | fx =>
    obtain ⟨_, v, b, c⟩ := ok
    exact ⟨rfl, v, b, fun F' e' => c F' ((fplus_l e).trans e')⟩
  | ls =>
    obtain ⟨p, vs, a, b, c⟩ := ok
    have hp := (O.at_ i _ p (.lst vs) hs (by rw [b]; exact List.mem_singleton.mpr rfl)).1
    exact ⟨rfl, _, a, .lst (rd_plus (SqL.of hp)) (dpAll_ex (fplus_l e) _ _ c)⟩
  | mu h1 h2 =>
    obtain ⟨v, b, c⟩ := ok
    refine ⟨rfl, v, b, h1 F v (L i) _ (c F (Ex.refl F)) (fplus_l e) fun p o hp => fplus_at (O.at_ i _ p o hs hp).1 (h2 F v (L i) (c F (Ex.refl F)) p o hp)⟩
theorem TvR.still {b : Bool} (zs : List Sl) (h : TvR K t zs b) (f : FzA K ss zs) : TvR K t ss b := fun M F0 H0 F H σ xs ts l S Q q => by
  have S1 := (S.drop l).still f
  have S2 : Sts K (fun _ => False) (fplus F H) H (fplus F H) H (σ ++ []) (zs ++ []) := by
    rw [List.append_nil, List.append_nil]
    exact S1
  refine h _ _ _ _ _ σ [] [] (l.trans f.len) S2 Q fun F' H' g S3 => ?_
  have gt := thaw_gr S.fh g
  exact q _ H' gt (S.grow gt)
theorem EvR.still (zs : List Sl) (h : EvR K te zs r) (f : FzA K ss zs) (fr : tupR r = true) : EvR K te ss r := fun M F0 H0 F H σ xs ts l S Q q => by
  have S1 := (S.drop l).still f
  have S2 : Sts K (fun _ => False) (fplus F H) H (fplus F H) H (σ ++ []) (zs ++ []) := by
    rw [List.append_nil, List.append_nil]
    exact S1
  refine h _ _ _ _ _ σ [] [] (l.trans f.len) S2 _ fun v F' H' g n S3 => ?_
  obtain ⟨F2, g2, n2, S4⟩ := push_thaw (τ := σ) (tt := zs) S fr S3 (l.trans f.len)
  rw [List.append_assoc, List.append_assoc] at S4
  exact q v F2 H' g2 n2 S4
/-- a return in a try's body that raises -/
theorem st_raiseWR {R : List PyData → Sl → Prop} {X : List PyData → Addr → Prop} {dvs : List V} {es : List PyData} {W : WX} {D : Ends} {C : Addr} (S : Sts K M F0 H0 F H (σ ++ gs) (ss ++ gt)) (l : σ.length = ss.length) (ha : AvR K tr ss rs) (va : vws ss rs = some ds) (hd : ∀ F, DpAll K F dvs es) (h : X (ds ++ es) C)
    (k : ∀ F' H', Sts K M F0 H0 F' H' (σ ++ gs) (ss ++ gt) → W (.ref C) none σ H') : tRet (tCallW (spF K R X) dvs W tr) D σ H := by
  refine ha M F0 H0 F H σ gs gt l S _ fun vs F1 H1 hl g1 S1 => ?_
  have l1 := S.len2
  refine ⟨H1, _, Ex.refl H1, dpAll_app (vwA_dp (S1.argsV l1 hl va) S1.fh) (hd H1), .inr ⟨C, h, fun H' e => ?_⟩⟩
  exact k F1 H' ((S1.backA l1).grow (Gr.of S1.fh e))
theorem st_raiseWA {R : List PyData → Sl → Prop} {X : List PyData → Addr → Prop} {dvs : List V} {es : List PyData} {W : WX} {D : Ends} {C : Addr} {i : Nat} (S : Sts K M F0 H0 F H (σ ++ gs) (ss ++ gt)) (l : σ.length = ss.length) (ha : AvR K tr ss rs) (va : vws ss rs = some ds) (hd : ∀ F, DpAll K F dvs es) (h : X (ds ++ es) C)
    (k : ∀ F' H', Sts K M F0 H0 F' H' (σ ++ gs) (ss ++ gt) → W (.ref C) none σ H') : tAsg (tCallW (spF K R X) dvs W tr) (gName i) D σ H := by
  refine ha M F0 H0 F H σ gs gt l S _ fun vs F1 H1 hl g1 S1 => ?_
  have l1 := S.len2
  refine ⟨H1, _, Ex.refl H1, dpAll_app (vwA_dp (S1.argsV l1 hl va) S1.fh) (hd H1), .inr ⟨C, h, fun H' e => ?_⟩⟩
  exact k F1 H' ((S1.backA l1).grow (Gr.of S1.fh e))
end
end Fh
set_option Elab.async false
set_option linter.all false
set_option maxRecDepth 100000
set_option maxHeartbeats 2000000
namespace Fh
open PySem PySem.Spec PyProof.Rows L2 Evl
open PySem.W (Datum)
/-! ### a <= b <= c < d -/
def tChain3 (r r' r'' : R2) (ta tb tc td : TE) : TE := fun σ H Q => ta σ H fun x H1 => tb σ H1 fun y H2 => r x y H2 fun z H3 => ∃ k, z = .bl k ∧
  (if k = true then tc σ H3 fun u H4 => r' y u H4 fun z2 H5 => ∃ k2, z2 = .bl k2 ∧ (if k2 = true then td σ H5 fun w H6 => r'' u w H6 Q else Q (.bl false) H5) else Q (.bl false) H3)
section
variable {X : Cx} {a b c d : Expr} {ta tb tc td : TE} {pos : Pos}
theorem pe_chain3 {op op' op'' : CmpOp} {r r' r'' : R2} (ho : OpR X (compareOp op) r) (ho' : OpR X (compareOp op') r') (ho'' : OpR X (compareOp op'') r'') (ha : PE X a ta) (hb : PE X b tb) (hc : PE X c tc) (hd : PE X d td)
    (hm : lastMarks [op, op', op''] [b, c, d] = false := by with_unfolding_all rfl) : PE X (.Compare a [op, op', op''] [b, c, d] pos) (tChain3 r r' r'' ta tb tc td) := by
  refine ⟨fun pins s σ H Q I h => ?_⟩
  refine Compare_chain (thn (ha.run pins s σ H _ I h) fun v s1 ⟨x, H1, I1, r1, q1⟩ => chain_link (thn (hb.run pins s1 σ H1 _ I1 q1) fun u s2 ⟨y, H2, I2, r2, q2⟩ =>
    thn (ho pins s2 σ H2 x y v u _ I2 r1 r2 q2) fun d s3 ⟨z, H3, I3, r3, k, e, q3⟩ => ?_)) hm
  subst e
  cases r3
  refine wpAny_truthy_bool ?_
  cases k with
  | false => exact ite_ff ⟨.bl false, H3, I3, rfl, q3⟩
  | true =>
    refine ite_tt (chain_link (thn (hc.run pins s3 σ H3 _ I3 q3) fun w' s4 ⟨z', H4, I4, r4, q4⟩ => thn (ho' pins s4 σ H4 y z' u w' _ I4 r2 r4 q4) fun d5 s5 ⟨z5, H5, I5, r5, k5, e5, q5⟩ => ?_))
    subst e5
    cases r5
    refine wpAny_truthy_bool ?_
    cases k5 with
    | false => exact ite_ff ⟨.bl false, H5, I5, rfl, q5⟩
    | true => exact ite_tt (chain_last (thn (hd.run pins s5 σ H5 _ I5 q5) fun w6 s6 ⟨z6, H6, I6, r6, q6⟩ => ho'' pins s6 σ H6 z' z6 w' w6 Q I6 r4 r6 q6))
end
section
variable {K : PySem.W.Frag} {M : Addr → Prop} {F0 H0 F H F' H' : Hp} {σ xs gs : L2.St} {ss ts rs gt ss2 : List Sl} {ta tb te tc td tl : TE} {tr : TA} {t u tt : TT} {tz : TS} {r ra rb : Sl} {d da db e : PyData} {ds es : List PyData} {Q : VK} {v x y : V}
theorem ev_chain3 {f g h : Int → Int → Bool} {i j k m : Int} (ha : EvR K ta ss (.dt (.int i))) (hb : EvR K tb ss (.dt (.int j))) (hc : EvR K tc ss (.dt (.int k))) (hd : EvR K td ss (.dt (.int m))) :
    EvR K (tChain3 (rI0 fun i j => .bl (f i j)) (rI0 fun i j => .bl (g i j)) (rI0 fun i j => .bl (h i j)) ta tb tc td) ss (.dt (.bool (f i j && g j k && h k m))) := fun M F0 H0 F H σ xs ts l S Q q => by
  refine ha M F0 H0 F H σ xs ts l S _ fun x F1 H1 g1 n1 S1 => ?_
  refine hb M F0 H0 F1 H1 σ (xs ++ [some x]) (ts ++ [_]) l S1 _ fun y F2 H2 g2 n2 S2 => ?_
  have l1 := S.len2
  have l2 := S1.len2
  have hy : y = .int j := (S2.lastV l2 (d := .int j) rfl).int
  have S3 := S2.back l2
  have hx : x = .int i := (S3.lastV l1 (d := .int i) rfl).int
  have S4 := S3.back l1
  refine ⟨i, j, hx, hy, f i j, rfl, ?_⟩
  cases ef : f i j with
  | false =>
    rw [if_neg (by decide)]
    rw [ef, Bool.false_and, Bool.false_and] at q
    exact (RetR.mk (g1.trans g2) S4 q).bl
  | true =>
    rw [if_pos rfl]
    rw [ef, Bool.true_and] at q
    refine hc M F0 H0 F2 H2 σ xs ts l S4 _ fun w F3 H3 g3 n3 S5 => ?_
    have hw : w = .int k := (S5.lastV l1 (d := .int k) rfl).int
    have S6 := S5.back l1
    refine ⟨j, k, hy, hw, g j k, rfl, ?_⟩
    cases eg : g j k with
    | false =>
      rw [if_neg (by decide)]
      rw [eg, Bool.false_and] at q
      exact (RetR.mk ((g1.trans g2).trans g3) S6 q).bl
    | true =>
      rw [if_pos rfl]
      rw [eg, Bool.true_and] at q
      refine hd M F0 H0 F3 H3 σ xs ts l S6 _ fun w2 F4 H4 g4 n4 S7 => ?_
      have hw2 : w2 = .int m := (S7.lastV l1 (d := .int m) rfl).int
      exact ⟨k, m, hw, hw2, (RetR.mk (((g1.trans g2).trans g3).trans g4) (S7.back l1) q).bl⟩
end
end Fh
set_option Elab.async false
set_option linter.all false
set_option maxRecDepth 100000
set_option maxHeartbeats 2000000
namespace Fh
open PySem PySem.Spec PyProof.Rows L2 Evl
open PySem.W (Datum)
/-! ### a list of our own that is walked -/
def lsAt (K : PySem.W.Frag) (p : Addr) (ds : List PyData) : Hp → V → List (Addr × HO) → Prop := fun F v L => v = .ref p ∧ ∃ vs, L = [(p, .lst vs)] ∧ DpAll K F vs ds
section
variable {K : PySem.W.Frag} {M : Addr → Prop} {F0 H0 F H F' H' : Hp} {σ xs gs : L2.St} {ss ts rs gt ss2 : List Sl} {ta tb te tc td tl : TE} {tr : TA} {t u tt : TT} {tz tbd : TS} {r ra rb : Sl} {d da db e : PyData} {ds es : List PyData} {Q : VK} {v x y : V}
/-- a slot told in other words -/
theorem Sts.redesc {i : Nat} {s s' : Sl} (S : Sts K M F0 H0 F H σ ss) (h : ss[i]? = some s) (ok : ∀ L, SlOk K F σ i L s → SlOk K F σ i L s') (mu : isMu s = true → isMu s' = true ∨ ∀ a, ¬ M a) : Sts K M F0 H0 F H σ (ss.set i s') := by
  obtain ⟨g0, l, L, O⟩ := S
  have hi := (List.getElem?_eq_some_iff.mp h).1
  have hl : ∀ {j}, j < (ss.set i s').length → j < ss.length := fun {j} h => by rwa [List.length_set] at h
  refine ⟨g0, by rw [List.length_set, l], L, fun j z hz => ?_, fun j z p o hz hp => ?_, fun j hj => O.nd j (hl hj), fun j k p hj hk => O.ap j k p (hl hj) (hl hk)⟩
  · by_cases e : j = i
    · subst e
      rw [List.getElem?_set_self hi] at hz
      cases hz
      exact ok _ (O.ok j s h)
    · rw [List.getElem?_set_ne (Ne.symm e)] at hz
      exact O.ok j z hz
  · by_cases e : j = i
    · subst e
      rw [List.getElem?_set_self hi] at hz
      cases hz
      obtain ⟨a, b, c⟩ := O.at_ j s p o h hp
      refine ⟨a, b, ?_⟩
      rcases c with c | ⟨c1, c2⟩
      · exact .inl c
      · rcases mu c2 with m | m
        · exact .inr ⟨c1, m⟩
        · exact absurd c1 (m p)
    · rw [List.getElem?_set_ne (Ne.symm e)] at hz
      exact O.at_ j z p o hz hp
theorem Sts.fixA {i : Nat} (S : Sts K M F0 H0 F H σ ss) (h : ss[i]? = some (.ls ds)) : ∃ p, σ[i]? = some (some (.ref p)) ∧ Sts K M F0 H0 F H σ (ss.set i (.mu (lsAt K p ds))) := by
  obtain ⟨p, vs, a, b, c, d, z⟩ := S.get_ls h
  refine ⟨p, a, S.redesc h (fun L hL => ?_) fun z => nomatch z⟩
  obtain ⟨p', vs', a', b', c'⟩ := hL
  rw [a] at a'
  cases a'
  exact ⟨.ref p, a, fun F' e => ⟨rfl, vs', b', dpAll_ex e ds vs' c'⟩⟩
theorem Sts.unfixA {i : Nat} {p : Addr} (S : Sts K M F0 H0 F H σ ss) (h : ss[i]? = some (.mu (lsAt K p ds))) (hM : ∀ a, ¬ M a) : Sts K M F0 H0 F H σ (ss.set i (.ls ds)) :=
  S.redesc h (fun L hL => by
    obtain ⟨v, a, b⟩ := hL
    obtain ⟨rfl, vs, b', c'⟩ := b F (Ex.refl F)
    exact ⟨p, vs, a, b', c'⟩) fun _ => .inr hM
theorem Sts.get_at {i : Nat} {p : Addr} (S : Sts K M F0 H0 F H σ ss) (h : ss[i]? = some (.mu (lsAt K p ds))) : σ[i]? = some (some (.ref p)) ∧ ∃ vs, H p = some (.lst vs) ∧ DpAll K F vs ds := by
  obtain ⟨g0, l, L, O⟩ := S
  obtain ⟨v, a, b⟩ := O.ok i _ h
  obtain ⟨rfl, vs, b', c'⟩ := b F (Ex.refl F)
  exact ⟨a, vs, (O.at_ i _ p _ h (by rw [b']; exact List.mem_singleton.mpr rfl)).1, c'⟩
/-- for x in such a list, which the body lets be -/
theorem st_forA {D : Ends} {g : TG} {i : Nat} (hM : ∀ a, ¬ M a) (S : Sts K M F0 H0 F H (σ ++ gs) (ss ++ gt)) (l : σ.length = ss.length) (hi : ss[i]? = some (.ls ds)) (W : Nat → List Sl) (w0 : Wk ss (W 0)) (hW : ∀ k, (W k)[i]? = some (.ls ds))
    (hs : ∀ (p : Addr) k d, ds[k]? = some d → ∀ x σ' F' H', Dp K F' x d → Sts K M F0 H0 F' H' (σ' ++ gs) ((W k).set i (.mu (lsAt K p ds)) ++ gt) → σ'.length = ((W k).set i (.mu (lsAt K p ds))).length →
      g x σ' H' fun σ2 H2 => tbd { D with nx := Nxt K M F0 H0 gs gt ((W (k + 1)).set i (.mu (lsAt K p ds))), ct := Nxt K M F0 H0 gs gt ((W (k + 1)).set i (.mu (lsAt K p ds))), bk := D.nx } σ2 H2)
    (hd : ∀ σ' F' H', Sts K M F0 H0 F' H' (σ' ++ gs) (W ds.length ++ gt) → σ'.length = (W ds.length).length → D.nx σ' H') (hw : ∀ k, (W k).length = ss.length := by intro _; rfl) : tFor (iList K (tVar i)) g tbd D σ H := by
  have hil := (List.getElem?_eq_some_iff.mp hi).1
  have S0 := S.weak (w0.app (Wk.refl gt))
  have hWl : ∀ k, i < (W k).length := fun k => by rw [hw]; exact hil
  obtain ⟨p, a, S1⟩ := S0.fixA (i := i) (ds := ds) (by rw [List.getElem?_append_left (hWl 0)]; exact hW 0)
  rw [List.set_append_left _ _ (hWl 0)] at S1
  have a2 := a
  rw [List.getElem?_append_left (by omega)] at a2
  have look : ∀ {k : Nat} {σ' : L2.St} {F' H' : Hp}, Sts K M F0 H0 F' H' (σ' ++ gs) ((W k).set i (.mu (lsAt K p ds)) ++ gt) → ∃ ws, SqL K H' p ws ∧ DpAll K F' ws ds := fun {k σ' F' H'} S3 => by
    obtain ⟨_, vs, x, y⟩ := S3.get_at (i := i) (p := p) (ds := ds) (by rw [List.getElem?_append_left (by rw [List.length_set]; exact hWl k), List.getElem?_set_self (hWl k)])
    exact ⟨vs, SqL.of x, y⟩
  obtain ⟨vs, sq, da⟩ := look S1
  refine ⟨.ref p, a2, p, rfl, ⟨vs, sq⟩, ?_⟩
  refine ⟨fun k m σ' H' => m = ds.length - k ∧ k ≤ ds.length ∧ Nxt K M F0 H0 gs gt ((W k).set i (.mu (lsAt K p ds))) σ' H', ⟨ds.length, by simp, Nat.zero_le _, F, S1, by rw [List.length_set, hw, l]⟩, ?_⟩
  rintro k m σ' H' ⟨rfl, hk, F2, S3, l3⟩
  obtain ⟨ws, sq', da'⟩ := look S3
  by_cases hlt : k < ds.length
  · have hlw : k < ws.length := by rw [dpAll_len da']; exact hlt
    refine .inr ⟨⟨ws, ws[k], sq', by simp [hlw]⟩, Nxt K M F0 H0 gs gt ((W (k + 1)).set i (.mu (lsAt K p ds))), fun σ2 H2 q => ⟨ds.length - (k + 1), by omega, rfl, hlt, q⟩, fun x H2 y => ?_⟩
    obtain ⟨e, y⟩ := y
    subst e
    obtain ⟨d, e1, e2⟩ := dpAll_get' da' (y ws sq')
    exact hs p k d e1 x σ' F2 _ e2 S3 l3
  · have e : k = ds.length := by omega
    subst e
    refine .inl ⟨⟨ws, sq', by rw [dpAll_len da']; exact Nat.le_refl _⟩, ?_⟩
    have S4 := S3.unfixA (i := i) (p := p) (ds := ds) (by rw [List.getElem?_append_left (by rw [List.length_set]; exact hWl _), List.getElem?_set_self (hWl _)]) hM
    rw [List.set_append_left _ _ (by rw [List.length_set]; exact hWl _), List.set_set] at S4
    have eW : (W ds.length).set i (.ls ds) = W ds.length := by
      have h1 := hW ds.length
      obtain ⟨h2, h3⟩ := List.getElem?_eq_some_iff.mp h1
      rw [← h3, List.set_getElem_self]
    rw [eW] at S4
    exact hd σ' F2 _ S4 (by rw [l3, List.length_set])
theorem q_forA {D : Ends} {g : TG} {i : Nat} (hM : ∀ a, ¬ M a) (S : Sts K M F0 H0 F H (σ ++ gs) (ss ++ gt)) (l : σ.length = ss.length) (hi : ss[i]? = some (.ls ds)) (W : Nat → List Sl) (w0 : Wk ss (W 0)) (hW : ∀ k, (W k)[i]? = some (.ls ds))
    (hs : ∀ (p : Addr) k d, ds[k]? = some d → ∀ x σ' F' H', Dp K F' x d → Sts K M F0 H0 F' H' (σ' ++ gs) ((W k).set i (.mu (lsAt K p ds)) ++ gt) → σ'.length = ((W k).set i (.mu (lsAt K p ds))).length →
      g x σ' H' fun σ2 H2 => tbd { D with nx := Nxt K M F0 H0 gs gt ((W (k + 1)).set i (.mu (lsAt K p ds))), ct := Nxt K M F0 H0 gs gt ((W (k + 1)).set i (.mu (lsAt K p ds))), bk := tz D } σ2 H2)
    (hd : ∀ σ' F' H', Sts K M F0 H0 F' H' (σ' ++ gs) (W ds.length ++ gt) → σ'.length = (W ds.length).length → tz D σ' H') (hw : ∀ k, (W k).length = ss.length := by intro _; rfl) : tSeq (tFor (iList K (tVar i)) g tbd) tz D σ H := st_forA (D := { D with nx := tz D }) hM S l hi W w0 hW hs hd hw
/-! ### one out of a display, by its place -/
theorem ixN_in {n : Nat} {i : Int} (h0 : 0 ≤ i) (h1 : i < n) : ixN n i = some i.toNat := by
  unfold ixN
  rw [if_pos h0, if_pos h1]
theorem ev_pickD {i : Int} (ds : List PyData) (ha : AvR K tr ss (ds.map .dt)) (hb : EvR K tb ss (.dt (.int i))) (h0 : 0 ≤ i) (h1 : i < ds.length) (hl : ds.length ≤ 1000) : EvR K (tOp (rIxL K) (tLst tr) tb) ss (.dt (ds.getD i.toNat .none)) := by
  refine ev_pick (j := i.toNat) ha hb (ixN_in h0 (by rw [List.length_map]; exact h1)) ?_ (by rw [List.length_map]; exact hl)
  have hn : i.toNat < ds.length := by omega
  rw [List.getElem?_map, getD_of (d := .none) hn]
  rfl
end
/-- what a comprehension with a test gives -/
theorem got_filter {α : Type} (L : List α) (d : α) (c : α → Bool) (φ : α → PyData) : got (fun k => if c (L.getD k d) then some (φ (L.getD k d)) else none) L.length = (L.filter c).map φ := by
  have key : ∀ n, n ≤ L.length → got (fun k => if c (L.getD k d) then some (φ (L.getD k d)) else none) n = ((L.take n).filter c).map φ := fun n => by
    induction n with
    | zero => intro _; rfl
    | succ n ih =>
      intro h
      rw [got_succ, ih (by omega), take_succ_get (d := d) (by omega), List.filter_append, List.map_append]
      cases e : c (L.getD n d) with
      | true =>
        rw [if_pos rfl]
        show _ ++ [_] = _ ++ List.map φ (List.filter c [L.getD n d])
        rw [List.filter_cons, e]
        rfl
      | false =>
        rw [if_neg (by simp)]
        show _ = _ ++ List.map φ (List.filter c [L.getD n d])
        rw [List.filter_cons, e]
        simp
  have := key L.length (Nat.le_refl _)
  rwa [List.take_length] at this
theorem rel_ref {C : Addr} : ∀ u, RelV (.ref C) u → u = .ref C := fun _ h => h
theorem rel_ty {n : String} : ∀ u, RelV (.ty n) u → u = .type n := fun _ h => h
theorem eqv_bool (a b : Bool) : PyData.eqv (.bool a) (.bool b) = (a == b) := by simp only [PyData.eqv]
theorem countB (bs : List Bool) (b : Bool) : ((bs.map PyData.bool).countP fun z => PyData.eqv z (.bool b)) = bs.countP (· == b) := by
  rw [List.countP_map]
  have e : (fun z => PyData.eqv z (.bool b)) ∘ PyData.bool = (· == b) := funext fun x => eqv_bool x b
  rw [e]
theorem anyB (bs : List Bool) (b : Bool) : ((bs.map PyData.bool).any fun z => PyData.eqv z (.bool b)) = bs.any (· == b) := by
  rw [List.any_map]
  have e : (fun z => PyData.eqv z (.bool b)) ∘ PyData.bool = (· == b) := funext fun x => eqv_bool x b
  rw [e]
theorem bools_plain : ∀ bs : List Bool, PyData.plainAll (bs.map PyData.bool) = true
  | [] => rfl
  | b :: bs => by
    show ((PyData.bool b).plain && PyData.plainAll (bs.map PyData.bool)) = true
    rw [bools_plain bs]
    rfl
section
variable {K : PySem.W.Frag} {ss : List Sl} {ta tb : TE} {ra : Sl}
theorem ev_countB {bs : List Bool} {b : Bool} {n : Int} (ha : EvR K ta ss ra) (hb : EvR K tb ss (.dt (.bool b))) (va : vw ss ra = some (.list (bs.map .bool))) (h : ((bs.countP (· == b) : Nat) : Int) = n) : EvR K (tBM K "list" (rCntP K) ta (tCons tb tNil)) ss (.dt (.int n)) := by
  rw [← h, ← countB]
  exact ev_count ha hb va rfl (bools_plain bs) rfl (Nat.zero_le _)
theorem ev_inB {bs : List Bool} {b c : Bool} (ha : EvR K ta ss (.dt (.bool b))) (hb : EvR K tb ss ra) (vb : vw ss ra = some (.list (bs.map .bool))) (h : bs.any (· == b) = c) : EvR K (tOp (rInP K) ta tb) ss (.dt (.bool c)) := by
  rw [← h, ← anyB]
  exact ev_inP ha hb rfl vb (bools_plain bs) rfl (Nat.zero_le _)
end
end Fh
set_option Elab.async false
set_option linter.all false
set_option maxRecDepth 100000
set_option maxHeartbeats 2000000
namespace Fh
open PySem PySem.Spec PyProof.Rows L2 Evl
open L2H (RoomH PinOk cxH inv_startH roomH_of)
/-! ### a def that a suite calls with the error it holds -/
structure FnS (P : Program) (w : World) (K : PySem.W.Frag) (mg : Str → Option Value) (base : Heap) (k : Nat) (f : Addr) (fd : FuncData) (ps : List Str) (sp : Addr × Obj → Sp) : Prop where
  len : ∀ p vs H Q E, sp p vs H Q E → vs.length = ps.length
  run : ∀ (A : Around) (outer : List Env) (s : Shared) (H : Hp) (args : Args) (us : List Value) (vs : List V) (Q : VK) (E : XK) (p : Addr × Obj), RoomH k A → PinOk outer H s p → Env0 P w K mg base A outer s H → BindsTo s fd args (ps.zip us) → Vals vs us → sp p vs H Q E →
    codeAny (model P w) A (.call (.ref f) args) (CR (L2.CX P w) outer P w H s Q E) s
theorem okS {P : Program} {w : World} {K : PySem.W.Frag} {mg : Str → Option Value} {base : Heap} {x qual : Str} {st : Stmt} {f : Addr} {fd : FuncData} {N ps : List Str} {k : Nat} {sp : Addr × Obj → Sp} (F : Fun K x qual st f fd) (S : FnScope N ps (defScope st)) (len : ∀ p vs H Q E, sp p vs H Q E → vs.length = ps.length)
    (hbody : ∀ (cdv : Value) (A : Around) (outer : List Env) (s : Shared) (H : Hp) (vs : List V) (Q : VK) (E : XK) (p : Addr × Obj), RoomH k (A.deeper (envOfC qual (defScope st) s.heap.objs.size f cdv)) → sp p vs H Q E →
      ∃ t, PSs (cxH (L2.CX P w) P w K mg base N qual (defScope st) f cdv A outer s H E p) (defBody st) t ∧ t { nx := fun _ H' => Q .non H', rt := Q } (L2.start N vs) H) : FnS P w K mg base (k + 1) f fd ps sp := by
  obtain ⟨oc, od, kV, doc, pm, an, cdv, ct, osl, rfl, lk, hcd⟩ := F.ex
  refine ⟨len, fun A outer s H args us vs Q E p room pin env0 bind rel hsp => ?_⟩
  have kin : K.In s.heap := env0.mod.kin.keeps fun b o z => (env0.bs b o z).1
  have nolim : s.heap.NoLimit := env0.mod.nolimit.keeps fun b o z => (env0.bs b o z).1
  refine codeAny_call_function room.depth (kin _ _ lk) rfl S.co S.gen rfl (PySem.W.codeRec_of kin hcd) (bind _ _ _ _ ?_)
  refine wpAny_newFunctionEnv_cells S.kind (fun ⟨n, v⟩ hy => ?_) fun env he s1 call => ?_
  · rcases S.par n (List.of_mem_zip hy).1 with z | z
    · exact .inl z
    · exact .inr ⟨z, PySem.W.cellsFrom_some _ _ _ (.inl z)⟩
  subst he
  refine ⟨nolim.keeps call.toInCall.keep, codeAny_func ?_⟩
  obtain ⟨t, ht, hq⟩ := hbody cdv A outer s H vs Q E p (room.deeper _) hsp
  have J : Inv (cxH (L2.CX P w) P w K mg base N qual (defScope st) f cdv A outer s H E p) [] (L2.start N vs) H s1 := inv_startH S pin env0 (len _ _ _ _ _ hsp) rel call
  refine wpAny_mono (ht.run [] s1 (L2.start N vs) H _ J hq) (fun fl s' hs => ?_) fun e s' hs => hs
  cases fl with
  | ret u =>
    obtain ⟨v, σ', H', I, rv, z⟩ := hs
    exact ⟨v, H', I.os, I.bare, I.base, I.hok, rv, z⟩
  | next =>
    obtain ⟨σ', H', I, z⟩ := hs
    exact ⟨.non, H', I.os, I.bare, I.base, I.hok, rfl, z⟩
  | brk =>
    obtain ⟨_, _, _, z⟩ := hs
    exact z.elim
  | cont =>
    obtain ⟨_, _, _, z⟩ := hs
    exact z.elim
/-- such a def stands -/
structure DefS (P : Program) (w : World) (K : PySem.W.Frag) (mg : Str → Option Value) (base : Heap) (k : Nat) (x : Str) (ps : List Str) (sp : Addr × Obj → Sp) : Prop where
  ex : ∃ f fd, FnS P w K mg base k f fd ps sp ∧ mg x = some (.ref f) ∧ PySem.W.keepIn K (.ref f) = true ∧ Binds K fd ps []
/-- its promise, the error told -/
def spP (K : PySem.W.Frag) (R : Addr → Sl → Prop) (p : Addr × Obj) : Sp := fun vs H Q _ => vs = [.ref p.1] ∧ ∃ C r, Zc (.ref C) none p.2 ∧ (∃ ws, p.2.data = .fields ws) ∧ R C r ∧ RetR K H H r Q
theorem spP_len {K : PySem.W.Frag} {R : Addr → Sl → Prop} : ∀ p vs H Q E, spP K R p vs H Q E → vs.length = 1 := fun p vs H Q E h => by
  rw [h.1]
  rfl
section
variable {X : Cx} {k : Nat} {x : Str} {ps : List Str} {R : Addr → Sl → Prop} {E : XK} {q pos : Pos} {e : Expr} {es : List Expr} {t : TA}
theorem pe_ownS {K : PySem.W.Frag} {a : Addr} {oe : Obj} {cls : Value} {d : Option Addr} (hp : (a, oe) ∈ X.pn) (hz : Zc cls d oe) (hf : ∃ vs, oe.data = .fields vs) (D : DefS X.prog X.w K X.mg X.base k x ps (spP K R)) (hr : RoomH k X.A) (hg : Gl X x) (hx : Passes (L2.CX X.prog X.w) X E) (ha : PA X (e :: es) t) (hdb : (x == ("__debug__" : Str)) = false := by decide)
    (he : starEach (e :: es) X.env = (false, eval e X.env) :: starEach es X.env := by rfl) (hpl : (backTo pos (starEach es X.env)).any (·.1) = false := by rfl) (hK : X.K = K := by rfl) : PE X (.Call (.Name x q) (e :: es) [] pos) (tCall (spE K cls d a R) [] E t) := by
  subst hK
  obtain ⟨f, fd, F, m, kp, b⟩ := D.ex
  refine ⟨fun pins s σ H Q I h => ?_⟩
  refine wpAny_Call_Name_kw (ld_glob I hg m ?_ hdb)
  refine PySem.W.callWith_K (h₀ := X.base) I.ok.mod.kin kp (thn (ha.run pos pins s σ H _ I h) fun us s1 ⟨vs, H1, I1, r, z⟩ => ⟨I1.kIn, ?_⟩) he hpl
  have z : spE X.K cls d a R (vs ++ []) H1 Q E := z
  rw [List.append_nil] at z
  have hsp : spP X.K R (a, oe) vs H1 Q E := by
    obtain ⟨h1, C, r', h2, h3, h4, h5⟩ := z
    subst h2 h3
    exact ⟨h1, C, r', hz, hf, h4, h5⟩
  have hl : us.length = ps.length := by rw [← r.length]; exact F.len _ _ _ _ _ hsp
  have bb := b s1 us I1.kIn (by rw [List.append_nil]; exact hl)
  rw [List.append_nil] at bb
  obtain ⟨p1, p2, p3, p4, p5⟩ := I1.pin (a, oe) (List.mem_append_left _ hp)
  have pin : PinOk X.stack H1 s1 (a, oe) := ⟨p1, p2, fun hm => (List.mem_cons.mp (I1.stkSub a hm)).elim p3 p4, p5⟩
  refine wpAny_call (codeAny_mono (F.run X.A X.stack s1 H1 ⟨us, []⟩ us vs Q E (a, oe) hr pin I1.env0 bb r hsp) fun r' s' hq => ?_)
  cases r' with
  | error e => exact hx pins σ H1 s1 e s' I1 hq
  | ok fl =>
    cases fl with
    | ret u => exact I1.after hq
    | next => exact False.elim hq
    | brk => exact False.elim hq
    | cont => exact False.elim hq
end
/-- isinstance of the error that was handed in -/
theorem call_isP {X : Cx} {p : Addr × Obj} {C : Addr} (hp : p ∈ X.pn) (hz : Zc (.ref C) none p.2) (hf : ∃ vs, p.2.data = .fields vs) : CallR X (.builtin "isinstance") (rIsX X.K (.ref C) none p.1) := by
  intro pins s σ H xs us Q I r h
  obtain ⟨D, c, cv, b, e0, _, hC, rfl, hcv, e, q⟩ := h
  cases e0
  cases r with
  | cons rx rr =>
    cases rr with
    | cons rt rr =>
      cases rr
      cases rx
      have ec := hcv _ rt
      subst ec
      have hget := (I.pin p (List.mem_append_left _ hp)).1
      obtain ⟨a, oe⟩ := p
      obtain ⟨vs, hv⟩ := hf
      have J : PySem.W.InstAt s.heap a oe C none := by
        obtain ⟨oc, od, oda, osl⟩ := oe
        obtain ⟨h1, h2⟩ := hz
        dsimp only at h1 h2 hv
        subst h1 h2 hv
        exact ⟨hget, rfl, rfl, trivial⟩
      exact PySem.W.kia_one (PySem.W.handS_kitx_exc hC.hg hC.hk hC.hs hC.hd hC.ha hC.hn hC.ht hC.hm) I.kIn J e (fun z => nomatch z) fun tk => ⟨.bl b, H, I.kept (t' := tk) fun _ _ z => z, rfl, q⟩
theorem roomS {k j : Nat} {A : Around} {c : Option Value} (r : Room k A) (h : j ≤ k) : RoomH j (A.mark c) := by
  have r2 := (roomH_of r).mono h
  exact ⟨r2.dp, r2.un⟩
end Fh
set_option Elab.async false
set_option linter.all false
set_option maxRecDepth 100000
set_option maxHeartbeats 2000000
namespace Fh
open PySem PySem.Spec PyProof.Rows L2 Evl
open PySem.W (Datum)
/-! ### a module's number -/
theorem pe_globI {X : Cx} {x : Str} {i : Int} {pos : Pos} (hg : Gl X x) (hm : ∃ t, X.mg x = some (.int i t)) (hd : (x == ("__debug__" : Str)) = false := by decide) : PE X (.Name x pos) (tC (.int i)) := by
  obtain ⟨t, h⟩ := hm
  exact pe_glob hg h ⟨t, rfl⟩ hd
theorem pe_globS {X : Cx} {x : Str} {i : Str} {pos : Pos} (hg : Gl X x) (hm : ∃ t, X.mg x = some (.str i t)) (hd : (x == ("__debug__" : Str)) = false := by decide) : PE X (.Name x pos) (tC (.str i)) := by
  obtain ⟨t, h⟩ := hm
  exact pe_glob hg h ⟨t, rfl⟩ hd
/-! ### lists that are held beside copies -/
/-- v is a tuple of the list at p and of a copy of what is in it -/
def hpF (K : PySem.W.Frag) (p : Addr) (ds : List PyData) : Hp → V → Prop := fun F v => ∃ t w, v = .ref t ∧ F t = some (.tup [.ref p, w]) ∧ Dp K F w (.list ds)
/-- v is a list of such -/
inductive HpA (K : PySem.W.Frag) (F : Hp) : List V → List (Addr × List PyData) → Prop where
  | nil : HpA K F [] []
  | cons {v : V} {vs : List V} {p : Addr} {ds : List PyData} {r : List (Addr × List PyData)} (h : hpF K p ds F v) (t : HpA K F vs r) : HpA K F (v :: vs) ((p, ds) :: r)
def hlF (K : PySem.W.Frag) (ps : List (Addr × List PyData)) : Hp → V → Prop := fun F v => ∃ h vs, v = .ref h ∧ F h = some (.lst vs) ∧ HpA K F vs ps
theorem hpF.ex {K : PySem.W.Frag} {F F' : Hp} {p : Addr} {ds : List PyData} {v : V} (e : Ex F F') (h : hpF K p ds F v) : hpF K p ds F' v := by
  obtain ⟨t, w, a, b, c⟩ := h
  exact ⟨t, w, a, e _ _ b, dp_ex e _ _ c⟩
theorem HpA.ex {K : PySem.W.Frag} {F F' : Hp} (e : Ex F F') : ∀ {vs : List V} {ps : List (Addr × List PyData)}, HpA K F vs ps → HpA K F' vs ps
  | _, _, .nil => .nil
  | _, _, .cons a b => .cons (a.ex e) (HpA.ex e b)
section
variable {K : PySem.W.Frag} {M : Addr → Prop} {F0 H0 F H F' H' : Hp} {σ xs gs : L2.St} {ss ts rs gt ss2 zs : List Sl} {ta tb te tc td tl : TE} {tr : TA} {t u tt : TT} {tz tbd : TS} {r ra rb : Sl} {d da db e : PyData} {ds es ds1 ds2 : List PyData} {Q : VK} {v x y : V} {p q : Addr}
/-- (x, copy) -/
theorem ev_hpair {i : Nat} (hi : ss[i]? = some (.mu (lsAt K p ds))) (h : EvR K te ss (.dt (.list ds))) : EvR K (tTup (tCons (tVar i) (tCons te tNil))) ss (.fx (hpF K p ds)) := fun M F0 H0 F H σ xs ts l S Q k => by
  have hl := (List.getElem?_eq_some_iff.mp hi).1
  obtain ⟨a, vs, hp, dv⟩ := S.get_at (i := i) (by rw [List.getElem?_append_left hl]; exact hi)
  rw [List.getElem?_append_left (by omega)] at a
  refine ⟨.ref p, a, ?_⟩
  refine h M F0 H0 F H σ xs ts l S _ fun w F1 H1 g1 n1 S1 => ?_
  have dw : Dp K F1 w (.list ds) := by
    have S2 := S1
    rw [← List.append_assoc, ← List.append_assoc] at S2
    obtain ⟨w', e1, e2⟩ := S2.get_dt (i := (ss ++ ts).length) (by rw [List.getElem?_append_right (Nat.le_refl _), Nat.sub_self]; rfl)
    rw [← S.len2, last_at] at e1
    cases e1
    exact e2
  have S2 := S1.back S.len2
  refine ⟨by rw [sizeLine_eq]; show 2 ≤ _; decide, fun t ht => ?_⟩
  have g2 := Gr.newI (o := .tup [.ref p, w]) S2.fh ht
  have ft := fresh_back S2.fh ht
  have S3 := (S2.grow g2).push_fx (v := .ref t) (φ := hpF K p ds) fun F' e' => hpF.ex e' ⟨t, w, rfl, upd_same, dp_ex (Ex.new ft) _ _ dw⟩
  rw [List.append_assoc, List.append_assoc] at S3
  exact k _ _ _ (g1.trans g2) trivial S3
/-- [a, b] of such -/
theorem ev_hlist2 (ha : EvR K ta ss (.fx (hpF K p ds1))) (hb : EvR K tb ss (.fx (hpF K q ds2))) : EvR K (tLst (tCons ta (tCons tb tNil))) ss (.fx (hlF K [(p, ds1), (q, ds2)])) := fun M F0 H0 F H σ xs ts l S Q k => by
  refine ha M F0 H0 F H σ xs ts l S _ fun x F1 H1 g1 n1 S1 => ?_
  refine hb M F0 H0 F1 H1 σ _ _ l S1 _ fun y F2 H2 g2 n2 S2 => ?_
  have hy : hpF K q ds2 F2 y := by
    have S3 := S2
    rw [← List.append_assoc σ, ← List.append_assoc ss] at S3
    obtain ⟨w', e1, e2⟩ := S3.get_fx (i := (ss ++ (ts ++ [Sl.fx (hpF K p ds1)])).length) (by rw [List.getElem?_append_right (Nat.le_refl _), Nat.sub_self]; rfl)
    rw [← S1.len2, last_at] at e1
    cases e1
    exact e2 F2 (Ex.refl F2)
  have S3 := S2.back S1.len2
  have hx : hpF K p ds1 F2 x := by
    have S4 := S3
    rw [← List.append_assoc, ← List.append_assoc] at S4
    obtain ⟨w', e1, e2⟩ := S4.get_fx (i := (ss ++ ts).length) (by rw [List.getElem?_append_right (Nat.le_refl _), Nat.sub_self]; rfl)
    rw [← S.len2, last_at] at e1
    cases e1
    exact e2 F2 (Ex.refl F2)
  have S4 := S3.back S.len2
  refine ⟨by rw [sizeLine_eq]; show 2 ≤ _; decide, fun h hh => ?_⟩
  have g3 := Gr.newI (o := .lst [x, y]) S4.fh hh
  have fh := fresh_back S4.fh hh
  have ex : Ex F2 (upd F2 h (.lst [x, y])) := Ex.new fh
  have S5 := (S4.grow g3).push_fx (v := .ref h) (φ := hlF K [(p, ds1), (q, ds2)]) fun F' e' => ⟨h, [x, y], rfl, e' _ _ upd_same, .cons (hx.ex (ex.trans e')) (.cons (hy.ex (ex.trans e')) .nil)⟩
  rw [List.append_assoc, List.append_assoc] at S5
  exact k _ _ _ ((g1.trans g2).trans g3) trivial S5
def heldD (ps : List (Addr × List PyData)) : PyData := .list (ps.map fun z : Addr × List PyData => PyData.tuple [.list z.2, .list z.2])
theorem hpA_dp : ∀ {vs : List V} {ps : List (Addr × List PyData)}, HpA K F vs ps → (∀ z ∈ ps, Dp K F (.ref z.1) (.list z.2)) → DpAll K F vs (ps.map fun z : Addr × List PyData => PyData.tuple [.list z.2, .list z.2])
  | _, _, .nil, _ => .nil
  | _, _, .cons a b, h => by
    obtain ⟨t, w, rfl, e1, e2⟩ := a
    exact .cons (.tup (SqT.of e1) (.cons (h _ List.mem_cons_self) (.cons e2 .nil))) (hpA_dp b fun z hz => h z (List.mem_cons_of_mem _ hz))
/-- what is held reads as data where all stands still; each list that is held stands in a slot -/
theorem Sts.held {m : Nat} {ps : List (Addr × List PyData)} (S : Sts K M F0 H0 F H σ ss) (f : FzA K ss zs) (hm : zs[m]? = some (.fx (hlF K ps))) (hs : ∀ z ∈ ps, ∃ i : Nat, ss[i]? = some (Sl.mu (lsAt K z.1 z.2))) :
    Sts K (fun _ => False) (fplus F H) H (fplus F H) H σ (zs.set m (.dt (heldD ps))) := by
  have S1 := S.still f
  refine S1.redesc hm (fun L hL => ?_) fun z => nomatch z
  obtain ⟨hn, v, a, b⟩ := hL
  obtain ⟨h, vs, rfl, e1, e2⟩ := b _ (Ex.refl _)
  refine ⟨hn, _, a, .lst (SqL.of e1) (hpA_dp e2 fun z hz => ?_)⟩
  obtain ⟨i, hi⟩ := hs z hz
  obtain ⟨_, ws, c1, c2⟩ := S.get_at hi
  exact .lst (rd_plus (SqL.of c1)) (dpAll_ex (fplus_l S.fh) _ _ c2)
theorem TvR.held {m : Nat} {ps : List (Addr × List PyData)} {b : Bool} (zs : List Sl) (f : FzA K ss zs) (hm : zs[m]? = some (.fx (hlF K ps))) (hs : ∀ z ∈ ps, ∃ i : Nat, ss[i]? = some (Sl.mu (lsAt K z.1 z.2))) (h : TvR K t (zs.set m (.dt (heldD ps))) b) : TvR K t ss b := fun M F0 H0 F H σ xs ts l S Q q => by
  have S1 := (S.drop l).held f hm hs
  have S2 : Sts K (fun _ => False) (fplus F H) H (fplus F H) H (σ ++ []) (zs.set m (.dt (heldD ps)) ++ []) := by
    rw [List.append_nil, List.append_nil]
    exact S1
  refine h _ _ _ _ _ σ [] [] (by rw [List.length_set, l, f.len]) S2 Q fun F' H' g S3 => ?_
  have gt := thaw_gr S.fh g
  exact q _ H' gt (S.grow gt)
/-- all([a == b for a, b in held]) -/
theorem ev_heldAll {m i j : Nat} {ps : List (Addr × List PyData)} (hm : ss[m]? = some (.dt (heldD ps))) (na : ss.all notAl = true) (hi : i < ss.length) (hj : j < ss.length) (hij : i ≠ j) (hl : ps.length ≤ 1000000) (hp : ∀ z ∈ ps, PyData.plainAll z.2 = true ∧ (PyData.list z.2).depth ≤ 60) (hmi : m ≠ i) (hmj : m ≠ j) (hr : ∀ d : PyData, d.plain = true → PyData.eqv d d = true) :
    EvR K (tCB (rAll K) (tCons (tLc (iList K (tVar m)) (gTup K 2 (gCons (gName i) (gCons (gName j) gNil))) tYes (tOp (rEqP K) (tVar i) (tVar j)) [i, j]) tNil)) ss (.dt (.bool true)) := by
  have eg : got (fun k => some (PyData.bool ((fun _ : Addr × List PyData => true) (ps.getD k (0, []))))) ps.length = (ps.map fun _ => true).map .bool := by
    rw [got_map ps (0, []) fun z => PyData.bool ((fun _ : Addr × List PyData => true) z), List.map_map]
    rfl
  have ea : ((ps.map fun _ => true).all id) = true := by
    rw [List.all_map, List.all_eq_true]
    intro _ _
    rfl
  rw [← ea]
  refine ev_all (ra := .ls ((ps.map fun _ => true).map .bool)) (.to (ev_lcL (ds := ps.map fun z : Addr × List PyData => PyData.tuple [.list z.2, .list z.2]) (fun _ => some (.bool true)) (ev_var hm) na (in2 hi hj) (by rw [List.length_map]; exact hl) fun k d hd => ?_) ?_) rfl
  · obtain ⟨hk, rfl⟩ := map_at (0, []) hd
    obtain ⟨p1, p2⟩ := hp _ (getD_mem (d := ((0 : Addr), ([] : List PyData))) hk)
    refine ⟨_, gt_pair hi hj hij, tv_yes, fun _ => ?_⟩
    refine .toD (ev_eqP (da := .list (ps.getD k (0, [])).2) (db := .list (ps.getD k (0, [])).2) (ev_var ?_) (ev_var ?_) rfl rfl (plain_list p1) (plain_list p1) p2) ?_
    · rw [List.getElem?_set_ne (Ne.symm hij), List.getElem?_set_self (by rw [wipeS_len]; exact hi)]
    · rw [List.getElem?_set_self (by rw [List.length_set, wipeS_len]; exact hj)]
    · rw [hr _ (plain_list p1)]
      rfl
  · rw [List.length_map]
    exact congrArg Sl.ls eg
theorem Sts.absurd {i : Nat} (S : Sts K M F0 H0 F H σ ss) (h : ss[i]? = some (.fx fun _ _ => False)) : False := by
  obtain ⟨v, _, b⟩ := S.get_fx h
  exact b F (Ex.refl F)
/-- xs.clear() -/
theorem st_clear {D : Ends} {i : Nat} (S : Sts K M F0 H0 F H (σ ++ gs) (ss ++ gt)) (l : σ.length = ss.length) (h : ss[i]? = some (.ls ds))
    (k : ∀ F' H', Sts K M F0 H0 F' H' (σ ++ gs) (ss.set i (.ls []) ++ gt) → σ.length = (ss.set i (.ls [])).length → D.nx σ H') : tDrop (tBM0 K "list" rClear (tVar i)) D σ H := by
  have hi := (List.getElem?_eq_some_iff.mp h).1
  have h' : (ss ++ gt)[i]? = some (.ls ds) := by rw [List.getElem?_append_left hi]; exact h
  obtain ⟨p, vs, a, b, c, d1, k1⟩ := S.write h'
  have a2 := a
  rw [List.getElem?_append_left (by omega)] at a2
  refine ⟨.ref p, a2, .inl ⟨rfl, _, SqL.of b⟩, p, vs, rfl, rfl, b, ?_⟩
  have S3 := k1 [] [] .nil
  rw [List.set_append_left _ _ hi] at S3
  exact k F _ S3 (by rw [List.length_set, l])
theorem q_clear {D : Ends} {i : Nat} (S : Sts K M F0 H0 F H (σ ++ gs) (ss ++ gt)) (l : σ.length = ss.length) (h : ss[i]? = some (.ls ds))
    (k : ∀ F' H', Sts K M F0 H0 F' H' (σ ++ gs) (ss.set i (.ls []) ++ gt) → σ.length = (ss.set i (.ls [])).length → tz D σ H') : tSeq (tDrop (tBM0 K "list" rClear (tVar i))) tz D σ H := st_clear (D := { D with nx := tz D }) S l h k
end
end Fh
set_option Elab.async false
set_option linter.all false
set_option maxRecDepth 100000
set_option maxHeartbeats 2000000
namespace Fh
open PySem PySem.Spec PyProof.Rows L2 Evl
open PySem.W (Datum)
section
variable {K : PySem.W.Frag} {M : Addr → Prop} {F0 H0 F H F' H' : Hp} {σ xs gs : L2.St} {ss ts rs gt ss2 zs : List Sl} {ta tb te tc td tl : TE} {tr : TA} {t u tt : TT} {tz tbd : TS} {r ra rb : Sl} {d da db e : PyData} {ds es ds1 ds2 : List PyData} {Q : VK} {v x y : V} {p q : Addr}
theorem Sts.fixQ (i : Nat) (S : Sts K M F0 H0 F H (σ ++ gs) (ss ++ gt)) (l : σ.length = ss.length) (h : ss[i]? = some (.ls ds)) : ∃ p, Sts K M F0 H0 F H (σ ++ gs) (ss.set i (.mu (lsAt K p ds)) ++ gt) ∧ σ.length = (ss.set i (.mu (lsAt K p ds))).length := by
  have hi := (List.getElem?_eq_some_iff.mp h).1
  obtain ⟨p, _, S1⟩ := S.fixA (i := i) (ds := ds) (by rw [List.getElem?_append_left hi]; exact h)
  rw [List.set_append_left _ _ hi] at S1
  exact ⟨p, S1, by rw [List.length_set, l]⟩
theorem Sts.unfixQ (i : Nat) (S : Sts K M F0 H0 F H (σ ++ gs) (ss ++ gt)) (l : σ.length = ss.length) (h : ss[i]? = some (.mu (lsAt K p ds))) (hM : ∀ a, ¬ M a) : Sts K M F0 H0 F H (σ ++ gs) (ss.set i (.ls ds) ++ gt) ∧ σ.length = (ss.set i (.ls ds)).length := by
  have hi := (List.getElem?_eq_some_iff.mp h).1
  have S1 := S.unfixA (i := i) (p := p) (ds := ds) (by rw [List.getElem?_append_left hi]; exact h) hM
  rw [List.set_append_left _ _ hi] at S1
  exact ⟨S1, by rw [List.length_set, l]⟩
theorem Fz.at {p : Addr} : Fz K (.mu (lsAt K p ds)) (.dt (.list ds)) := .mu (fun F v L F' h e a => by
  obtain ⟨rfl, vs, rfl, dv⟩ := h
  exact .lst (SqL.of (a p _ (List.mem_singleton.mpr rfl))) (dpAll_ex e _ _ dv)) fun F v L h p' o hp => by
  obtain ⟨rfl, vs, rfl, dv⟩ := h
  cases List.mem_singleton.mp hp
  rfl
/-- a reading of a list that stands in a place told by its address -/
theorem ev_listAt {i : Nat} (zs : List Sl) (f : FzA K ss zs) (hi : zs[i]? = some (.dt (.list ds))) (n : noLAll ds = true) : EvR K (tCB (rListR K) (tCons (tVar i) tNil)) ss (.dt (.list ds)) := by
  refine .frz (EvR.still zs ?_ f ?_)
  · exact ev_list (ev_var hi) rfl
  · exact n
end
end Fh
set_option Elab.async false
set_option linter.all false
set_option maxRecDepth 100000
set_option maxHeartbeats 2000000
namespace Fh
open PySem PySem.Spec PyProof.Rows L2 Evl
open PySem.W (Datum)
/-! ### a walk of what is a list or a tuple -/
def iSeq (K : PySem.W.Frag) (tl : TE) : TI := fun σ H R => iList K tl σ H R ∨ iTup K tl σ H R
theorem pi_seq {X : Cx} {tg l : Expr} {tl : TE} (hl : PE X l tl) : PI X tg l (iSeq X.K tl) := ⟨fun pins s σ H R I h => h.elim ((pi_list hl).run pins s σ H R I) ((pi_tup hl).run pins s σ H R I)⟩
section
variable {K : PySem.W.Frag} {M : Addr → Prop} {F0 H0 F H F' H' : Hp} {σ xs gs : L2.St} {ss ts rs gt ss2 zs : List Sl} {ta tb te tc td tl : TE} {tr : TA} {t u tt : TT} {tz tbd : TS} {r ra rb : Sl} {d da db e : PyData} {ds es ds1 ds2 : List PyData} {Q : VK} {v x y : V} {p q : Addr}
theorem st_seqL {D : Ends} {g : TG} (h : tFor (iList K tl) g tbd D σ H) : tFor (iSeq K tl) g tbd D σ H := .inl h
theorem st_seqT {D : Ends} {g : TG} (h : tFor (iTup K tl) g tbd D σ H) : tFor (iSeq K tl) g tbd D σ H := .inr h
theorem q_seqL {D : Ends} {g : TG} (h : tSeq (tFor (iList K tl) g tbd) tz D σ H) : tSeq (tFor (iSeq K tl) g tbd) tz D σ H := .inl h
theorem q_seqT {D : Ends} {g : TG} (h : tSeq (tFor (iTup K tl) g tbd) tz D σ H) : tSeq (tFor (iSeq K tl) g tbd) tz D σ H := .inr h
/-- xs.extend(list just told) -/
theorem st_ext {D : Ends} {i : Nat} (S : Sts K M F0 H0 F H (σ ++ gs) (ss ++ gt)) (l : σ.length = ss.length) (h : ss[i]? = some (.ls ds)) (he : EvR K te ss (.ls es)) (hl : ds.length + es.length < 1000000)
    (k : ∀ F' H', Sts K M F0 H0 F' H' (σ ++ gs) (ss.set i (.ls (ds ++ es)) ++ gt) → σ.length = (ss.set i (.ls (ds ++ es))).length → D.nx σ H') : tDrop (tBM K "list" rExtend (tVar i) (tCons te tNil)) D σ H := by
  have hi := (List.getElem?_eq_some_iff.mp h).1
  have h' : (ss ++ gt)[i]? = some (.ls ds) := by rw [List.getElem?_append_left hi]; exact h
  obtain ⟨p, vs, a, b, c, f, z⟩ := S.get_ls h'
  have a2 := a
  rw [List.getElem?_append_left (by omega)] at a2
  refine ⟨.ref p, a2, .inl ⟨rfl, _, SqL.of c⟩, ?_⟩
  refine he M F0 H0 F H σ gs gt l S _ fun v F1 H1 g1 n1 S1 => ?_
  have l2 := S.len2
  have S2 := S1.back l2
  obtain ⟨q, ws, a1, b1, c1, d1, k1⟩ := S2.write h'
  rw [a] at a1
  cases a1
  rw [← List.append_assoc, ← List.append_assoc] at S1
  obtain ⟨p2, us, e1, e2, e3, _, _⟩ := S1.get_ls (i := (ss ++ gt).length) (by rw [List.getElem?_append_right (Nat.le_refl _), Nat.sub_self]; rfl)
  rw [← l2, last_at] at e1
  cases e1
  refine ⟨p, p2, ws, us, rfl, rfl, b1, e3, ?_, ?_⟩
  · rw [dpAll_len c1, dpAll_len e2, sizeLine_eq]
    omega
  · have S3 := k1 (ws ++ us) (ds ++ es) (dpAll_app c1 e2)
    rw [List.set_append_left _ _ hi] at S3
    exact k F1 _ S3 (by rw [List.length_set, l])
theorem q_ext {D : Ends} {i : Nat} (S : Sts K M F0 H0 F H (σ ++ gs) (ss ++ gt)) (l : σ.length = ss.length) (h : ss[i]? = some (.ls ds)) (he : EvR K te ss (.ls es)) (hl : ds.length + es.length < 1000000)
    (k : ∀ F' H', Sts K M F0 H0 F' H' (σ ++ gs) (ss.set i (.ls (ds ++ es)) ++ gt) → σ.length = (ss.set i (.ls (ds ++ es))).length → tz D σ H') : tSeq (tDrop (tBM K "list" rExtend (tVar i) (tCons te tNil))) tz D σ H := st_ext (D := { D with nx := tz D }) S l h he hl k
/-- for .. in zip(xs, ys), both of one length -/
theorem st_forZ {D : Ends} {g : TG} (S : Sts K M F0 H0 F H (σ ++ gs) (ss ++ gt)) (l : σ.length = ss.length) (h : AvR K tr ss [.dt (.list ds), .dt (.list es)]) (he : es.length = ds.length) (W : Nat → List Sl) (w0 : Wk ss (W 0))
    (hs : ∀ k d e ps, ds[k]? = some d → es[k]? = some e → ∀ x σ' F' H', Dp K F' x (.tuple [d, e]) → Sts K M F0 H0 F' H' (σ' ++ (gs ++ ps)) (W k ++ (gt ++ [.dt (.list ds), .dt (.list es)])) → σ'.length = (W k).length →
      g x σ' H' fun σ2 H2 => tbd { D with nx := Nxt K M F0 H0 (gs ++ ps) (gt ++ [.dt (.list ds), .dt (.list es)]) (W (k + 1)), ct := Nxt K M F0 H0 (gs ++ ps) (gt ++ [.dt (.list ds), .dt (.list es)]) (W (k + 1)), bk := D.nx } σ2 H2)
    (hd : ∀ σ' F' H', Sts K M F0 H0 F' H' (σ' ++ gs) (W ds.length ++ gt) → σ'.length = (W ds.length).length → D.nx σ' H') (hw : ∀ k, (W k).length = ss.length := by intro _; rfl) : tFor (iZip K tr) g tbd D σ H := by
  refine h M F0 H0 F H σ gs gt l S _ fun vs F1 H1 hl g1 S1 => ?_
  have look : ∀ {k : Nat} {σ' : L2.St} {F' H' : Hp}, Sts K M F0 H0 F' H' (σ' ++ (gs ++ vs.map some)) (W k ++ (gt ++ [.dt (.list ds), .dt (.list es)])) → (σ' ++ gs).length = (W k ++ gt).length → ∃ a b ws us, vs = [.ref a, .ref b] ∧ SqL K H' a ws ∧ DpAll K F' ws ds ∧ SqL K H' b us ∧ DpAll K F' us es := fun {k σ' F' H'} S3 l3 => by
    have ha := S3.argsV (ds := [.list ds, .list es]) l3 hl rfl
    cases ha with
    | cons A B =>
      cases B with
      | cons B C =>
        cases C
        obtain ⟨a, ws, rfl, x1, y1⟩ := A.lst S3.fh
        obtain ⟨b, us, rfl, x2, y2⟩ := B.lst S3.fh
        exact ⟨a, b, ws, us, rfl, x1, y1, x2, y2⟩
  have S1' := S1.weak (w0.app (Wk.refl (gt ++ [.dt (.list ds), .dt (.list es)])))
  have hlen : ∀ {k : Nat} {σ' : L2.St}, σ'.length = (W k).length → (σ' ++ gs).length = (W k ++ gt).length := fun {k σ'} l3 => by
    have hg := S.len
    rw [List.length_append] at hg ⊢
    rw [List.length_append] at hg ⊢
    omega
  obtain ⟨a, b, ws, us, rfl, x1, y1, x2, y2⟩ := look (k := 0) S1' (hlen (by rw [hw, l]))
  refine ⟨a, b, ws, us, rfl, x1, x2, ?_⟩
  refine ⟨fun k m σ' H' => m = ds.length - k ∧ k ≤ ds.length ∧ Nxt K M F0 H0 (gs ++ [V.ref a, V.ref b].map some) (gt ++ [.dt (.list ds), .dt (.list es)]) (W k) σ' H', ⟨ds.length, by simp, Nat.zero_le _, F1, S1', by rw [hw, l]⟩, ?_⟩
  rintro k m σ' H' ⟨rfl, hk, F2, S3, l3⟩
  obtain ⟨a', b', ws, us, ev, x1, y1, x2, y2⟩ := look S3 (hlen l3)
  cases ev
  by_cases hlt : k < ds.length
  · have hlw : k < ws.length := by rw [dpAll_len y1]; exact hlt
    have hlu : k < us.length := by rw [dpAll_len y2]; omega
    refine .inr ⟨⟨ws, us, ws[k], us[k], x1, x2, by simp [hlw], by simp [hlu]⟩, Nxt K M F0 H0 (gs ++ [V.ref a, V.ref b].map some) (gt ++ [.dt (.list ds), .dt (.list es)]) (W (k + 1)), fun σ2 H2 p => ⟨ds.length - (k + 1), by omega, rfl, hlt, p⟩, fun x H2 y => ?_⟩
    obtain ⟨T, v1, v2, rfl, hT, rfl, z1, z2⟩ := y
    obtain ⟨d, e1, e2⟩ := dpAll_get' y1 (z1 ws x1)
    obtain ⟨e, e3, e4⟩ := dpAll_get' y2 (z2 us x2)
    have g2 := Gr.newI (o := .tup [v1, v2]) S3.fh hT
    have fT := fresh_back S3.fh hT
    refine hs k d e _ e1 e3 _ σ' _ _ (.tup (SqT.of upd_same) (.cons (dp_ex (Ex.new fT) _ _ e2) (.cons (dp_ex (Ex.new fT) _ _ e4) .nil))) (S3.grow g2) l3
  · have e : k = ds.length := by omega
    subst e
    exact .inl ⟨⟨ws, us, x1, x2, .inl (by rw [dpAll_len y1]; exact Nat.le_refl _)⟩, hd σ' F2 _ (S3.backA (rs := [.dt (.list ds), .dt (.list es)]) (hlen l3)) l3⟩
theorem q_forZ {D : Ends} {g : TG} (S : Sts K M F0 H0 F H (σ ++ gs) (ss ++ gt)) (l : σ.length = ss.length) (h : AvR K tr ss [.dt (.list ds), .dt (.list es)]) (he : es.length = ds.length) (W : Nat → List Sl) (w0 : Wk ss (W 0))
    (hs : ∀ k d e ps, ds[k]? = some d → es[k]? = some e → ∀ x σ' F' H', Dp K F' x (.tuple [d, e]) → Sts K M F0 H0 F' H' (σ' ++ (gs ++ ps)) (W k ++ (gt ++ [.dt (.list ds), .dt (.list es)])) → σ'.length = (W k).length →
      g x σ' H' fun σ2 H2 => tbd { D with nx := Nxt K M F0 H0 (gs ++ ps) (gt ++ [.dt (.list ds), .dt (.list es)]) (W (k + 1)), ct := Nxt K M F0 H0 (gs ++ ps) (gt ++ [.dt (.list ds), .dt (.list es)]) (W (k + 1)), bk := tz D } σ2 H2)
    (hd : ∀ σ' F' H', Sts K M F0 H0 F' H' (σ' ++ gs) (W ds.length ++ gt) → σ'.length = (W ds.length).length → tz D σ' H') (hw : ∀ k, (W k).length = ss.length := by intro _; rfl) : tSeq (tFor (iZip K tr) g tbd) tz D σ H := st_forZ (D := { D with nx := tz D }) S l h he W w0 hs hd hw
end
end Fh
set_option Elab.async false
set_option linter.all false
set_option maxRecDepth 100000
set_option maxHeartbeats 2000000
namespace Fh
open PySem PySem.Spec PyProof.Rows L2 Evl
open PySem.W (Datum)
/-- what stands behind a turn: some state of the turn's -/
def NxX (K : PySem.W.Frag) (M : Addr → Prop) (F0 H0 : Hp) (gs : L2.St) (gt : List Sl) {α : Type} (W : α → List Sl) (P : α → Prop) (σ : L2.St) (H : Hp) : Prop := ∃ a, P a ∧ Nxt K M F0 H0 gs gt (W a) σ H
section
variable {K : PySem.W.Frag} {M : Addr → Prop} {F0 H0 F H F' H' : Hp} {σ xs gs : L2.St} {ss ts rs gt ss2 zs : List Sl} {ta tb te tc td tl : TE} {tr : TA} {t u tt : TT} {tz tbd : TS} {r ra rb : Sl} {d da db e : PyData} {ds es ds1 ds2 : List PyData} {Q : VK} {v x y : V} {p q : Addr} {α : Type}
theorem st_forLX {D : Ends} {g : TG} (W : α → List Sl) (P : Nat → α → Prop) (a0 : α) (S : Sts K M F0 H0 F H (σ ++ gs) (ss ++ gt)) (l : σ.length = ss.length) (h : EvR K te ss (.dt (.list ds))) (w0 : Wk ss (W a0)) (p0 : P 0 a0)
    (hs : ∀ a k d p, P k a → ds[k]? = some d → ∀ x σ' F' H', Dp K F' x d → Sts K M F0 H0 F' H' (σ' ++ (gs ++ [some p])) (W a ++ (gt ++ [.dt (.list ds)])) → σ'.length = (W a).length →
      g x σ' H' fun σ2 H2 => tbd { D with nx := NxX K M F0 H0 (gs ++ [some p]) (gt ++ [.dt (.list ds)]) W (P (k + 1)), ct := NxX K M F0 H0 (gs ++ [some p]) (gt ++ [.dt (.list ds)]) W (P (k + 1)), bk := D.nx } σ2 H2)
    (hd : ∀ a, P ds.length a → ∀ σ' F' H', Sts K M F0 H0 F' H' (σ' ++ gs) (W a ++ gt) → σ'.length = (W a).length → D.nx σ' H') (hw : ∀ a, (W a).length = ss.length := by intro _; rfl) : tFor (iList K te) g tbd D σ H := by
  refine h M F0 H0 F H σ gs gt l S _ fun v F1 H1 g1 n1 S1 => ?_
  have hv := (S1.lastV S.len2 (d := .list ds) rfl).lst S1.fh
  obtain ⟨b, vs, rfl, sq, da⟩ := hv
  have hlen := dpAll_len da
  refine ⟨b, rfl, ⟨vs, sq⟩, ?_⟩
  have hln : ∀ {a : α} {σ' : L2.St}, σ'.length = (W a).length → (σ' ++ gs).length = (W a ++ gt).length := fun {a σ'} l3 => by
    have hg := S.len
    rw [List.length_append] at hg ⊢
    rw [List.length_append] at hg ⊢
    have := hw a
    omega
  have look : ∀ {a : α} {σ' : L2.St} {F' H' : Hp}, Sts K M F0 H0 F' H' (σ' ++ (gs ++ [some (.ref b)])) (W a ++ (gt ++ [.dt (.list ds)])) → σ'.length = (W a).length → ∃ ws, SqL K H' b ws ∧ DpAll K F' ws ds := fun {a σ' F' H'} S3 l3 => by
    obtain ⟨p, ws, e, x, y⟩ := (S3.lastV (hln l3) (d := .list ds) rfl).lst S3.fh
    cases e
    exact ⟨ws, x, y⟩
  refine ⟨fun k m σ' H' => m = ds.length - k ∧ k ≤ ds.length ∧ NxX K M F0 H0 (gs ++ [some (.ref b)]) (gt ++ [.dt (.list ds)]) W (P k) σ' H', ⟨ds.length, by simp, Nat.zero_le _, a0, p0, F1, S1.weak (w0.app (Wk.refl _)), by rw [hw, l]⟩, ?_⟩
  rintro k m σ' H' ⟨rfl, hk, a, pa, F2, S3, l3⟩
  obtain ⟨ws, sq', da'⟩ := look S3 l3
  by_cases hlt : k < ds.length
  · have hlw : k < ws.length := by rw [dpAll_len da']; exact hlt
    refine .inr ⟨⟨ws, ws[k], sq', by simp [hlw]⟩, NxX K M F0 H0 (gs ++ [some (.ref b)]) (gt ++ [.dt (.list ds)]) W (P (k + 1)), fun σ2 H2 p => ⟨ds.length - (k + 1), by omega, rfl, hlt, p⟩, fun x H2 y => ?_⟩
    obtain ⟨e, y⟩ := y
    subst e
    obtain ⟨d, e1, e2⟩ := dpAll_get' da' (y ws sq')
    exact hs a k d _ pa e1 x σ' F2 _ e2 S3 l3
  · have e : k = ds.length := by omega
    subst e
    exact .inl ⟨⟨ws, sq', by rw [dpAll_len da']; exact Nat.le_refl _⟩, hd a pa σ' F2 _ (S3.back (hln l3)) l3⟩
theorem q_forLX {D : Ends} {g : TG} (W : α → List Sl) (P : Nat → α → Prop) (a0 : α) (S : Sts K M F0 H0 F H (σ ++ gs) (ss ++ gt)) (l : σ.length = ss.length) (h : EvR K te ss (.dt (.list ds))) (w0 : Wk ss (W a0)) (p0 : P 0 a0)
    (hs : ∀ a k d p, P k a → ds[k]? = some d → ∀ x σ' F' H', Dp K F' x d → Sts K M F0 H0 F' H' (σ' ++ (gs ++ [some p])) (W a ++ (gt ++ [.dt (.list ds)])) → σ'.length = (W a).length →
      g x σ' H' fun σ2 H2 => tbd { D with nx := NxX K M F0 H0 (gs ++ [some p]) (gt ++ [.dt (.list ds)]) W (P (k + 1)), ct := NxX K M F0 H0 (gs ++ [some p]) (gt ++ [.dt (.list ds)]) W (P (k + 1)), bk := tz D } σ2 H2)
    (hd : ∀ a, P ds.length a → ∀ σ' F' H', Sts K M F0 H0 F' H' (σ' ++ gs) (W a ++ gt) → σ'.length = (W a).length → tz D σ' H') (hw : ∀ a, (W a).length = ss.length := by intro _; rfl) : tSeq (tFor (iList K te) g tbd) tz D σ H := st_forLX (D := { D with nx := tz D }) W P a0 S l h w0 p0 hs hd hw
theorem st_forTX {D : Ends} {g : TG} (W : α → List Sl) (P : Nat → α → Prop) (a0 : α) (S : Sts K M F0 H0 F H (σ ++ gs) (ss ++ gt)) (l : σ.length = ss.length) (h : EvR K te ss (.dt (.tuple ds))) (w0 : Wk ss (W a0)) (p0 : P 0 a0)
    (hs : ∀ a k d p, P k a → ds[k]? = some d → ∀ x σ' F' H', Dp K F' x d → Sts K M F0 H0 F' H' (σ' ++ (gs ++ [some p])) (W a ++ (gt ++ [.dt (.tuple ds)])) → σ'.length = (W a).length →
      g x σ' H' fun σ2 H2 => tbd { D with nx := NxX K M F0 H0 (gs ++ [some p]) (gt ++ [.dt (.tuple ds)]) W (P (k + 1)), ct := NxX K M F0 H0 (gs ++ [some p]) (gt ++ [.dt (.tuple ds)]) W (P (k + 1)), bk := D.nx } σ2 H2)
    (hd : ∀ a, P ds.length a → ∀ σ' F' H', Sts K M F0 H0 F' H' (σ' ++ gs) (W a ++ gt) → σ'.length = (W a).length → D.nx σ' H') (hw : ∀ a, (W a).length = ss.length := by intro _; rfl) : tFor (iTup K te) g tbd D σ H := by
  refine h M F0 H0 F H σ gs gt l S _ fun v F1 H1 g1 n1 S1 => ?_
  have hv := (S1.lastV S.len2 (d := .tuple ds) rfl).tup S1.fh
  obtain ⟨b, vs, rfl, sq, da⟩ := hv
  have hlen := dpAll_len da
  refine ⟨b, rfl, ⟨vs, sq⟩, ?_⟩
  have hln : ∀ {a : α} {σ' : L2.St}, σ'.length = (W a).length → (σ' ++ gs).length = (W a ++ gt).length := fun {a σ'} l3 => by
    have hg := S.len
    rw [List.length_append] at hg ⊢
    rw [List.length_append] at hg ⊢
    have := hw a
    omega
  have look : ∀ {a : α} {σ' : L2.St} {F' H' : Hp}, Sts K M F0 H0 F' H' (σ' ++ (gs ++ [some (.ref b)])) (W a ++ (gt ++ [.dt (.tuple ds)])) → σ'.length = (W a).length → ∃ ws, SqT K H' b ws ∧ DpAll K F' ws ds := fun {a σ' F' H'} S3 l3 => by
    obtain ⟨p, ws, e, x, y⟩ := (S3.lastV (hln l3) (d := .tuple ds) rfl).tup S3.fh
    cases e
    exact ⟨ws, x, y⟩
  refine ⟨fun k m σ' H' => m = ds.length - k ∧ k ≤ ds.length ∧ NxX K M F0 H0 (gs ++ [some (.ref b)]) (gt ++ [.dt (.tuple ds)]) W (P k) σ' H', ⟨ds.length, by simp, Nat.zero_le _, a0, p0, F1, S1.weak (w0.app (Wk.refl _)), by rw [hw, l]⟩, ?_⟩
  rintro k m σ' H' ⟨rfl, hk, a, pa, F2, S3, l3⟩
  obtain ⟨ws, sq', da'⟩ := look S3 l3
  by_cases hlt : k < ds.length
  · have hlw : k < ws.length := by rw [dpAll_len da']; exact hlt
    refine .inr ⟨⟨ws, ws[k], sq', by simp [hlw]⟩, NxX K M F0 H0 (gs ++ [some (.ref b)]) (gt ++ [.dt (.tuple ds)]) W (P (k + 1)), fun σ2 H2 p => ⟨ds.length - (k + 1), by omega, rfl, hlt, p⟩, fun x H2 y => ?_⟩
    obtain ⟨e, y⟩ := y
    subst e
    obtain ⟨d, e1, e2⟩ := dpAll_get' da' (y ws sq')
    exact hs a k d _ pa e1 x σ' F2 _ e2 S3 l3
  · have e : k = ds.length := by omega
    subst e
    exact .inl ⟨⟨ws, sq', by rw [dpAll_len da']; exact Nat.le_refl _⟩, hd a pa σ' F2 _ (S3.back (hln l3)) l3⟩
theorem q_forTX {D : Ends} {g : TG} (W : α → List Sl) (P : Nat → α → Prop) (a0 : α) (S : Sts K M F0 H0 F H (σ ++ gs) (ss ++ gt)) (l : σ.length = ss.length) (h : EvR K te ss (.dt (.tuple ds))) (w0 : Wk ss (W a0)) (p0 : P 0 a0)
    (hs : ∀ a k d p, P k a → ds[k]? = some d → ∀ x σ' F' H', Dp K F' x d → Sts K M F0 H0 F' H' (σ' ++ (gs ++ [some p])) (W a ++ (gt ++ [.dt (.tuple ds)])) → σ'.length = (W a).length →
      g x σ' H' fun σ2 H2 => tbd { D with nx := NxX K M F0 H0 (gs ++ [some p]) (gt ++ [.dt (.tuple ds)]) W (P (k + 1)), ct := NxX K M F0 H0 (gs ++ [some p]) (gt ++ [.dt (.tuple ds)]) W (P (k + 1)), bk := tz D } σ2 H2)
    (hd : ∀ a, P ds.length a → ∀ σ' F' H', Sts K M F0 H0 F' H' (σ' ++ gs) (W a ++ gt) → σ'.length = (W a).length → tz D σ' H') (hw : ∀ a, (W a).length = ss.length := by intro _; rfl) : tSeq (tFor (iTup K te) g tbd) tz D σ H := st_forTX (D := { D with nx := tz D }) W P a0 S l h w0 p0 hs hd hw
theorem st_forZX {D : Ends} {g : TG} (W : α → List Sl) (P : Nat → α → Prop) (a0 : α) (S : Sts K M F0 H0 F H (σ ++ gs) (ss ++ gt)) (l : σ.length = ss.length) (h : AvR K tr ss [.dt (.list ds), .dt (.list es)]) (he : es.length = ds.length) (w0 : Wk ss (W a0)) (p0 : P 0 a0)
    (hs : ∀ a k d e ps, P k a → ds[k]? = some d → es[k]? = some e → ∀ x σ' F' H', Dp K F' x (.tuple [d, e]) → Sts K M F0 H0 F' H' (σ' ++ (gs ++ ps)) (W a ++ (gt ++ [.dt (.list ds), .dt (.list es)])) → σ'.length = (W a).length →
      g x σ' H' fun σ2 H2 => tbd { D with nx := NxX K M F0 H0 (gs ++ ps) (gt ++ [.dt (.list ds), .dt (.list es)]) W (P (k + 1)), ct := NxX K M F0 H0 (gs ++ ps) (gt ++ [.dt (.list ds), .dt (.list es)]) W (P (k + 1)), bk := D.nx } σ2 H2)
    (hd : ∀ a, P ds.length a → ∀ σ' F' H', Sts K M F0 H0 F' H' (σ' ++ gs) (W a ++ gt) → σ'.length = (W a).length → D.nx σ' H') (hw : ∀ a, (W a).length = ss.length := by intro _; rfl) : tFor (iZip K tr) g tbd D σ H := by
  refine h M F0 H0 F H σ gs gt l S _ fun vs F1 H1 hl g1 S1 => ?_
  have look : ∀ {k : α} {σ' : L2.St} {F' H' : Hp}, Sts K M F0 H0 F' H' (σ' ++ (gs ++ vs.map some)) (W k ++ (gt ++ [.dt (.list ds), .dt (.list es)])) → (σ' ++ gs).length = (W k ++ gt).length → ∃ a b ws us, vs = [.ref a, .ref b] ∧ SqL K H' a ws ∧ DpAll K F' ws ds ∧ SqL K H' b us ∧ DpAll K F' us es := fun {k σ' F' H'} S3 l3 => by
    have ha := S3.argsV (ds := [.list ds, .list es]) l3 hl rfl
    cases ha with
    | cons A B =>
      cases B with
      | cons B C =>
        cases C
        obtain ⟨a, ws, rfl, x1, y1⟩ := A.lst S3.fh
        obtain ⟨b, us, rfl, x2, y2⟩ := B.lst S3.fh
        exact ⟨a, b, ws, us, rfl, x1, y1, x2, y2⟩
  have S1' := S1.weak (w0.app (Wk.refl (gt ++ [.dt (.list ds), .dt (.list es)])))
  have hlen : ∀ {k : α} {σ' : L2.St}, σ'.length = (W k).length → (σ' ++ gs).length = (W k ++ gt).length := fun {k σ'} l3 => by
    have hg := S.len
    rw [List.length_append] at hg ⊢
    rw [List.length_append] at hg ⊢
    omega
  obtain ⟨a, b, ws, us, rfl, x1, y1, x2, y2⟩ := look (k := a0) S1' (hlen (by rw [hw, l]))
  refine ⟨a, b, ws, us, rfl, x1, x2, ?_⟩
  refine ⟨fun k m σ' H' => m = ds.length - k ∧ k ≤ ds.length ∧ NxX K M F0 H0 (gs ++ [V.ref a, V.ref b].map some) (gt ++ [.dt (.list ds), .dt (.list es)]) W (P k) σ' H', ⟨ds.length, by simp, Nat.zero_le _, a0, p0, F1, S1', by rw [hw, l]⟩, ?_⟩
  rintro k m σ' H' ⟨rfl, hk, z, pz, F2, S3, l3⟩
  obtain ⟨a', b', ws, us, ev, x1, y1, x2, y2⟩ := look S3 (hlen l3)
  cases ev
  by_cases hlt : k < ds.length
  · have hlw : k < ws.length := by rw [dpAll_len y1]; exact hlt
    have hlu : k < us.length := by rw [dpAll_len y2]; omega
    refine .inr ⟨⟨ws, us, ws[k], us[k], x1, x2, by simp [hlw], by simp [hlu]⟩, NxX K M F0 H0 (gs ++ [V.ref a, V.ref b].map some) (gt ++ [.dt (.list ds), .dt (.list es)]) W (P (k + 1)), fun σ2 H2 p => ⟨ds.length - (k + 1), by omega, rfl, hlt, p⟩, fun x H2 y => ?_⟩
    obtain ⟨T, v1, v2, rfl, hT, rfl, z1, z2⟩ := y
    obtain ⟨d, e1, e2⟩ := dpAll_get' y1 (z1 ws x1)
    obtain ⟨e, e3, e4⟩ := dpAll_get' y2 (z2 us x2)
    have g2 := Gr.newI (o := .tup [v1, v2]) S3.fh hT
    have fT := fresh_back S3.fh hT
    refine hs z k d e _ pz e1 e3 _ σ' _ _ (.tup (SqT.of upd_same) (.cons (dp_ex (Ex.new fT) _ _ e2) (.cons (dp_ex (Ex.new fT) _ _ e4) .nil))) (S3.grow g2) l3
  · have e : k = ds.length := by omega
    subst e
    exact .inl ⟨⟨ws, us, x1, x2, .inl (by rw [dpAll_len y1]; exact Nat.le_refl _)⟩, hd z pz σ' F2 _ (S3.backA (rs := [.dt (.list ds), .dt (.list es)]) (hlen l3)) l3⟩
theorem q_forZX {D : Ends} {g : TG} (W : α → List Sl) (P : Nat → α → Prop) (a0 : α) (S : Sts K M F0 H0 F H (σ ++ gs) (ss ++ gt)) (l : σ.length = ss.length) (h : AvR K tr ss [.dt (.list ds), .dt (.list es)]) (he : es.length = ds.length) (w0 : Wk ss (W a0)) (p0 : P 0 a0)
    (hs : ∀ a k d e ps, P k a → ds[k]? = some d → es[k]? = some e → ∀ x σ' F' H', Dp K F' x (.tuple [d, e]) → Sts K M F0 H0 F' H' (σ' ++ (gs ++ ps)) (W a ++ (gt ++ [.dt (.list ds), .dt (.list es)])) → σ'.length = (W a).length →
      g x σ' H' fun σ2 H2 => tbd { D with nx := NxX K M F0 H0 (gs ++ ps) (gt ++ [.dt (.list ds), .dt (.list es)]) W (P (k + 1)), ct := NxX K M F0 H0 (gs ++ ps) (gt ++ [.dt (.list ds), .dt (.list es)]) W (P (k + 1)), bk := tz D } σ2 H2)
    (hd : ∀ a, P ds.length a → ∀ σ' F' H', Sts K M F0 H0 F' H' (σ' ++ gs) (W a ++ gt) → σ'.length = (W a).length → tz D σ' H') (hw : ∀ a, (W a).length = ss.length := by intro _; rfl) : tSeq (tFor (iZip K tr) g tbd) tz D σ H := st_forZX (D := { D with nx := tz D }) W P a0 S l h he w0 p0 hs hd hw
theorem st_forR1X {D : Ends} {i : Nat} {n : Int} {m : Nat} (W : α → List Sl) (P : Nat → α → Prop) (a0 : α) (S : Sts K M F0 H0 F H (σ ++ gs) (ss ++ gt)) (l : σ.length = ss.length) (h : AvR K tr ss [.dt (.int n)]) (hn : n = (m : Int)) (hm : m < 2 ^ 60) (w0 : Wk ss (W a0)) (p0 : P 0 a0) (na : ∀ a, (W a ++ gt).all notAl = true) (hi : i < ss.length)
    (hs : ∀ a k, P k a → k < m → ∀ σ' F' H', Sts K M F0 H0 F' H' (σ' ++ gs) ((W a).set i (.dt (.int (k : Int))) ++ gt) → σ'.length = ((W a).set i (.dt (.int (k : Int)))).length → tbd { D with nx := NxX K M F0 H0 gs gt W (P (k + 1)), ct := NxX K M F0 H0 gs gt W (P (k + 1)), bk := D.nx } σ' H')
    (hd : ∀ a, P m a → ∀ σ' F' H', Sts K M F0 H0 F' H' (σ' ++ gs) (W a ++ gt) → σ'.length = (W a).length → D.nx σ' H') (hw : ∀ a, (W a).length = ss.length := by intro _; rfl) : tFor (iRng1 tr) (gName i) tbd D σ H := by
  refine h M F0 H0 F H σ gs gt l S _ fun vs F1 H1 hl g1 S1 => ?_
  have ha := S1.argsV (ds := [.int n]) S.len2 hl rfl
  have hv : vs = [.int n] := by
    cases ha with
    | cons a b =>
      cases b
      rw [a.int]
  have S2 := S1.backA S.len2
  refine ⟨n, hv, by omega, by omega, ?_⟩
  have e : n.toNat = m := by omega
  rw [e]
  refine for_range (lo := 0) (n := m) (fun k σ H => NxX K M F0 H0 gs gt W (P k) σ H) ⟨a0, p0, F1, S2.weak (w0.app (Wk.refl gt)), by rw [hw, l]⟩ (fun k σ' H' hk p => ?_) fun σ' H' p => ?_
  · obtain ⟨a, pa, F2, S3, l3⟩ := p
    have e0 : (0 : Int) + (k : Int) = (k : Int) := Int.zero_add _
    rw [e0]
    exact hs a k pa hk _ F2 H' (S3.setv l3 (by rw [hw]; exact hi) (.int _) (na a)) (by rw [List.length_set, List.length_set, l3])
  · obtain ⟨a, pa, F2, S3, l3⟩ := p
    exact hd a pa σ' F2 H' S3 l3
theorem q_forR1X {D : Ends} {i : Nat} {n : Int} {m : Nat} (W : α → List Sl) (P : Nat → α → Prop) (a0 : α) (S : Sts K M F0 H0 F H (σ ++ gs) (ss ++ gt)) (l : σ.length = ss.length) (h : AvR K tr ss [.dt (.int n)]) (hn : n = (m : Int)) (hm : m < 2 ^ 60) (w0 : Wk ss (W a0)) (p0 : P 0 a0) (na : ∀ a, (W a ++ gt).all notAl = true) (hi : i < ss.length)
    (hs : ∀ a k, P k a → k < m → ∀ σ' F' H', Sts K M F0 H0 F' H' (σ' ++ gs) ((W a).set i (.dt (.int (k : Int))) ++ gt) → σ'.length = ((W a).set i (.dt (.int (k : Int)))).length → tbd { D with nx := NxX K M F0 H0 gs gt W (P (k + 1)), ct := NxX K M F0 H0 gs gt W (P (k + 1)), bk := tz D } σ' H')
    (hd : ∀ a, P m a → ∀ σ' F' H', Sts K M F0 H0 F' H' (σ' ++ gs) (W a ++ gt) → σ'.length = (W a).length → tz D σ' H') (hw : ∀ a, (W a).length = ss.length := by intro _; rfl) : tSeq (tFor (iRng1 tr) (gName i) tbd) tz D σ H := st_forR1X (D := { D with nx := tz D }) W P a0 S l h hn hm w0 p0 na hi hs hd hw
end
end Fh
set_option Elab.async false
set_option linter.all false
set_option maxRecDepth 100000
set_option maxHeartbeats 2000000
namespace Fh
open PySem PySem.Spec PyProof.Rows L2 Evl
open PySem.W (Datum)
section
variable {K : PySem.W.Frag} {M : Addr → Prop} {F0 H0 F H F' H' : Hp} {σ xs gs : L2.St} {ss ts rs gt ss2 zs : List Sl} {ta tb te tc td tl : TE} {tr : TA} {t u tt : TT} {tz tbd : TS} {r ra rb : Sl} {d da db e : PyData} {ds es ds1 ds2 : List PyData} {Q : VK} {v x y : V} {p q : Addr}
/-- what a slot of our own owns, one thing of it written -/
theorem Sts.muWrite {i : Nat} {ψ ψ' : Hp → V → List (Addr × HO) → Prop} (S : Sts K M F0 H0 F H σ ss) (h : ss[i]? = some (.mu ψ)) : ∃ v L, σ[i]? = some (some v) ∧ ψ F v L ∧ (∀ p o, (p, o) ∈ L → H p = some o ∧ F p = none) ∧ (L.map (·.1)).Nodup ∧
    ∀ p o' L', p ∈ L.map (·.1) → L'.map (·.1) = L.map (·.1) → (∀ q o, (q, o) ∈ L' → q ≠ p → (q, o) ∈ L) → (∀ o, (p, o) ∈ L' → o = o') → (∀ F', Ex F F' → ψ' F' v L') → Sts K M F0 H0 F (upd H p o') σ (ss.set i (.mu ψ')) := by
  obtain ⟨g0, l, L, O⟩ := S
  obtain ⟨v, a, b⟩ := O.ok i _ h
  have hi := (List.getElem?_eq_some_iff.mp h).1
  refine ⟨v, L i, a, b F (Ex.refl F), fun p o hp => ⟨(O.at_ i _ p o h hp).1, (O.at_ i _ p o h hp).2.1⟩, O.nd i hi, fun p o' L' hp hL h1 h2 h3 => ?_⟩
  obtain ⟨⟨p', o⟩, pin, rfl⟩ := List.mem_map.mp hp
  obtain ⟨hpo, fp, h0'⟩ := O.at_ i _ p' o h pin
  have hl : ∀ {j}, j < (ss.set i (.mu ψ')).length → j < ss.length := fun {j} h => by rwa [List.length_set] at h
  dsimp only at *
  refine ⟨⟨g0.ff, fun x o nM hx => ?_, Ex.mut g0.fh fp, g0.nw, fun x hx => ?_⟩, by rw [List.length_set, l], fun j => if j = i then L' else L j, fun j s hs => ?_, fun j s q o hs hq => ?_, fun j hj => ?_, fun j k q hj hk hp1 hq1 => ?_⟩
  · have ne : x ≠ p' := fun e => by
      subst e
      rcases h0' with h0 | ⟨m, _⟩
      · rw [h0] at hx
        cases hx
      · exact nM m
    rw [upd_ne ne]
    exact g0.hh x o nM hx
  · by_cases e : x = p'
    · rw [e, upd_same]
      exact fun z => nomatch z
    · rw [upd_ne e]
      exact g0.al x hx
  · by_cases e : j = i
    · subst e
      rw [List.getElem?_set_self hi] at hs
      cases hs
      rw [if_pos rfl]
      exact ⟨v, a, h3⟩
    · rw [if_neg e]
      rw [List.getElem?_set_ne (Ne.symm e)] at hs
      exact O.ok j s hs
  · by_cases e : j = i
    · subst e
      rw [if_pos rfl] at hq
      rw [List.getElem?_set_self hi] at hs
      cases hs
      by_cases eq : q = p'
      · subst eq
        rw [h2 o hq]
        refine ⟨upd_same, fp, ?_⟩
        rcases h0' with h0 | ⟨m, _⟩
        · exact .inl h0
        · exact .inr ⟨m, rfl⟩
      · obtain ⟨x, y, z⟩ := O.at_ j _ q o h (h1 q o hq eq)
        rw [upd_ne eq]
        refine ⟨x, y, ?_⟩
        rcases z with z | ⟨m, _⟩
        · exact .inl z
        · exact .inr ⟨m, rfl⟩
    · rw [if_neg e] at hq
      rw [List.getElem?_set_ne (Ne.symm e)] at hs
      obtain ⟨x, y, z⟩ := O.at_ j s q o hs hq
      have ne : q ≠ p' := fun e2 => by
        subst e2
        exact e (O.ap j i q (List.getElem?_eq_some_iff.mp hs).1 hi (List.mem_map.mpr ⟨_, hq, rfl⟩) (List.mem_map.mpr ⟨_, pin, rfl⟩))
      rw [upd_ne ne]
      exact ⟨x, y, z⟩
  · by_cases e : j = i
    · subst e
      show ((if j = j then L' else L j).map (·.1)).Nodup
      rw [if_pos rfl, hL]
      exact O.nd j hi
    · simp only [if_neg e]
      exact O.nd j (hl hj)
  · have mv : ∀ {j : Nat} {q : Addr}, q ∈ ((if j = i then L' else L j).map (·.1)) → q ∈ (L j).map (·.1) := fun {j q} h => by
      by_cases e : j = i
      · rw [if_pos e, hL] at h
        rw [e]
        exact h
      · rwa [if_neg e] at h
    exact O.ap j k q (hl hj) (hl hk) (mv hp1) (mv hq1)
/-! ### a list of two lists, all our own -/
def nest2 (K : PySem.W.Frag) (ds1 ds2 : List PyData) : Hp → V → List (Addr × HO) → Prop := fun F v L => ∃ p a b vs us, v = .ref p ∧ L = [(p, .lst [.ref a, .ref b]), (a, .lst vs), (b, .lst us)] ∧ DpAll K F vs ds1 ∧ DpAll K F us ds2
theorem Fz.nest2 : Fz K (.mu (nest2 K ds1 ds2)) (.dt (.list [.list ds1, .list ds2])) := .mu (fun F v L F' h e at_ => by
  obtain ⟨p, a, b, vs, us, rfl, rfl, d1, d2⟩ := h
  exact .lst (SqL.of (at_ p _ (by simp))) (.cons (.lst (SqL.of (at_ a _ (by simp))) (dpAll_ex e _ _ d1)) (.cons (.lst (SqL.of (at_ b _ (by simp))) (dpAll_ex e _ _ d2)) .nil))) fun F v L h p' o hp => by
  obtain ⟨p, a, b, vs, us, rfl, rfl, d1, d2⟩ := h
  simp only [List.mem_cons, Prod.mk.injEq, List.not_mem_nil, or_false] at hp
  rcases hp with ⟨_, rfl⟩ | ⟨_, rfl⟩ | ⟨_, rfl⟩ <;> rfl
theorem ev_nest2 (ha : EvR K ta ss (.ls ds1)) (hb : EvR K tb ss (.ls ds2)) : EvR K (tLst (tCons ta (tCons tb tNil))) ss (.mu (nest2 K ds1 ds2)) := fun M F0 H0 F H σ xs ts l S Q k => by
  refine ha M F0 H0 F H σ xs ts l S _ fun x F1 H1 g1 n1 S1 => ?_
  refine hb M F0 H0 F1 H1 σ _ _ l S1 _ fun y F2 H2 g2 n2 S2 => ?_
  obtain ⟨a, rfl, ha1⟩ := n1
  obtain ⟨b, rfl, hb1⟩ := n2
  have B := S2
  rw [← List.append_assoc σ, ← List.append_assoc ss] at B
  obtain ⟨b', us, e1, db, hb2, fb, _⟩ := B.get_ls (i := (ss ++ (ts ++ [Sl.ls ds1])).length) (by rw [List.getElem?_append_right (Nat.le_refl _), Nat.sub_self]; rfl)
  rw [← S1.len2, last_at] at e1
  cases e1
  have A := S2.back S1.len2
  rw [← List.append_assoc, ← List.append_assoc] at A
  obtain ⟨a', vs, e2, da, ha2, fa, _⟩ := A.get_ls (i := (ss ++ ts).length) (by rw [List.getElem?_append_right (Nat.le_refl _), Nat.sub_self]; rfl)
  rw [← S.len2, last_at] at e2
  cases e2
  have ab : a ≠ b := fun e => by
    subst e
    have hh : H1 a ≠ none := by
      have A1 := S1
      rw [← List.append_assoc, ← List.append_assoc] at A1
      obtain ⟨a'', vs', e3, _, h3, _⟩ := A1.get_ls (i := (ss ++ ts).length) (by rw [List.getElem?_append_right (Nat.le_refl _), Nat.sub_self]; rfl)
      rw [← S.len2, last_at] at e3
      cases e3
      rw [h3]
      exact fun z => nomatch z
    exact hh hb1
  refine ⟨by rw [sizeLine_eq]; show 2 ≤ _; decide, fun p hp => ?_⟩
  have pa : p ≠ a := fun e => by
    subst e
    rw [ha2] at hp
    cases hp
  have pb : p ≠ b := fun e => by
    subst e
    rw [hb2] at hp
    cases hp
  have g3 := Gr.newM (S2.fh) (o := .lst [.ref a, .ref b]) hp
  have g := (g1.trans g2).trans g3
  have S3 := S.push_at (v := .ref p) (r := .mu (nest2 K ds1 ds2)) (L1 := [(p, .lst [.ref a, .ref b]), (a, .lst vs), (b, .lst us)]) g ⟨.ref p, last_at, fun F' e => ⟨p, a, b, vs, us, rfl, rfl, dpAll_ex e _ _ da, dpAll_ex e _ _ db⟩⟩ (fun q o hq => by
    simp only [List.mem_cons, Prod.mk.injEq, List.not_mem_nil, or_false] at hq
    rcases hq with ⟨rfl, rfl⟩ | ⟨rfl, rfl⟩ | ⟨rfl, rfl⟩
    · exact ⟨upd_same, fresh_back S2.fh hp, fresh_back (g1.hh.trans g2.hh) hp⟩
    · exact ⟨by rw [upd_ne (Ne.symm pa)]; exact ha2, fa, ha1⟩
    · exact ⟨by rw [upd_ne (Ne.symm pb)]; exact hb2, fb, fresh_back g1.hh hb1⟩) (by simp [pa, pb, ab])
  rw [List.append_assoc, List.append_assoc] at S3
  exact k _ _ _ g trivial S3
/-- xs[0].append(e), xs[1].append(e) of such -/
theorem q_app0 {D : Ends} {i : Nat} (S : Sts K M F0 H0 F H (σ ++ gs) (ss ++ gt)) (l : σ.length = ss.length) (h : ss[i]? = some (.mu (nest2 K ds1 ds2))) (he : EvR K te ss (.dt d)) (hl : ds1.length < 1000000)
    (k : ∀ F' H', Sts K M F0 H0 F' H' (σ ++ gs) (ss.set i (.mu (nest2 K (ds1 ++ [d]) ds2)) ++ gt) → σ.length = (ss.set i (.mu (nest2 K (ds1 ++ [d]) ds2))).length → tz D σ H') : tSeq (tDrop (tBM K "list" rAppend (tOp (rIxL K) (tVar i) (tC (.int 0))) (tCons te tNil))) tz D σ H := by
  have hi := (List.getElem?_eq_some_iff.mp h).1
  have h' : (ss ++ gt)[i]? = some (.mu (nest2 K ds1 ds2)) := by rw [List.getElem?_append_left hi]; exact h
  obtain ⟨v, L, av, ⟨p, a, b, vs, us, rfl, rfl, d1, d2⟩, at_, nd, w⟩ := S.muWrite (ψ' := nest2 K (ds1 ++ [d]) ds2) h'
  have av2 := av
  rw [List.getElem?_append_left (by omega)] at av2
  have hp := (at_ p _ List.mem_cons_self).1
  have hA := (at_ a _ (List.mem_cons_of_mem _ List.mem_cons_self)).1
  refine ⟨.ref p, av2, p, [.ref a, .ref b], 0, .ref a, rfl, rfl, SqL.of hp, rfl, .inl ⟨rfl, _, SqL.of hA⟩, ?_⟩
  refine he M F0 H0 F H σ gs gt l S _ fun x F1 H1 g1 n1 S1 => ?_
  have l2 := S.len2
  have S2 := S1.back l2
  obtain ⟨v', L', av', ⟨p', a', b', vs', us', rfl, rfl, d1', d2'⟩, at2, nd2, w2⟩ := S2.muWrite (ψ' := nest2 K (ds1 ++ [d]) ds2) h'
  rw [av] at av'
  cases av'
  have e1 := (at2 p _ List.mem_cons_self).1
  have e2 := g1.hh p _ hp
  rw [e1] at e2
  cases e2
  have hA2 := (at2 a _ (List.mem_cons_of_mem _ List.mem_cons_self)).1
  rw [← List.append_assoc, ← List.append_assoc] at S1
  obtain ⟨y, e3, e4⟩ := S1.get_dt (i := (ss ++ gt).length) (by rw [List.getElem?_append_right (Nat.le_refl _), Nat.sub_self]; rfl)
  rw [← l2, last_at] at e3
  cases e3
  refine ⟨a, vs', x, rfl, rfl, hA2, ?_, ?_⟩
  · rw [dpAll_len d1', sizeLine_eq]
    omega
  · have S3 := w2 a (.lst (vs' ++ [x])) [(p, .lst [.ref a, .ref b]), (a, .lst (vs' ++ [x])), (b, .lst us')] (by simp) rfl (fun q o hq ne => by
      simp only [List.mem_cons, Prod.mk.injEq, List.not_mem_nil, or_false] at hq ⊢
      rcases hq with hq | hq | hq
      · exact .inl hq
      · exact absurd hq.1 ne
      · exact .inr (.inr hq)) (fun o hq => by
      have hn : p ≠ a ∧ b ≠ a := by
        simp at nd2
        exact ⟨nd2.1.1, fun e => nd2.2 e.symm⟩
      simp only [List.mem_cons, Prod.mk.injEq, List.not_mem_nil, or_false] at hq
      rcases hq with hq | hq | hq
      · exact absurd hq.1.symm hn.1
      · exact hq.2
      · exact absurd hq.1.symm hn.2) fun F' e => ⟨p, a, b, _, _, rfl, rfl, dpAll_ex e _ _ (dpAll_app d1' (.cons e4 .nil)), dpAll_ex e _ _ d2'⟩
    rw [List.set_append_left _ _ hi] at S3
    exact k F1 _ S3 (by rw [List.length_set, l])
theorem q_app1 {D : Ends} {i : Nat} (S : Sts K M F0 H0 F H (σ ++ gs) (ss ++ gt)) (l : σ.length = ss.length) (h : ss[i]? = some (.mu (nest2 K ds1 ds2))) (he : EvR K te ss (.dt d)) (hl : ds2.length < 1000000)
    (k : ∀ F' H', Sts K M F0 H0 F' H' (σ ++ gs) (ss.set i (.mu (nest2 K ds1 (ds2 ++ [d]))) ++ gt) → σ.length = (ss.set i (.mu (nest2 K ds1 (ds2 ++ [d])))).length → tz D σ H') : tSeq (tDrop (tBM K "list" rAppend (tOp (rIxL K) (tVar i) (tC (.int 1))) (tCons te tNil))) tz D σ H := by
  have hi := (List.getElem?_eq_some_iff.mp h).1
  have h' : (ss ++ gt)[i]? = some (.mu (nest2 K ds1 ds2)) := by rw [List.getElem?_append_left hi]; exact h
  obtain ⟨v, L, av, ⟨p, a, b, vs, us, rfl, rfl, d1, d2⟩, at_, nd, w⟩ := S.muWrite (ψ' := nest2 K ds1 (ds2 ++ [d])) h'
  have av2 := av
  rw [List.getElem?_append_left (by omega)] at av2
  have hp := (at_ p _ List.mem_cons_self).1
  have hA := (at_ b _ (List.mem_cons_of_mem _ (List.mem_cons_of_mem _ List.mem_cons_self))).1
  refine ⟨.ref p, av2, p, [.ref a, .ref b], 1, .ref b, rfl, rfl, SqL.of hp, rfl, .inl ⟨rfl, _, SqL.of hA⟩, ?_⟩
  refine he M F0 H0 F H σ gs gt l S _ fun x F1 H1 g1 n1 S1 => ?_
  have l2 := S.len2
  have S2 := S1.back l2
  obtain ⟨v', L', av', ⟨p', a', b', vs', us', rfl, rfl, d1', d2'⟩, at2, nd2, w2⟩ := S2.muWrite (ψ' := nest2 K ds1 (ds2 ++ [d])) h'
  rw [av] at av'
  cases av'
  have e1 := (at2 p _ List.mem_cons_self).1
  have e2 := g1.hh p _ hp
  rw [e1] at e2
  cases e2
  have hA2 := (at2 b _ (List.mem_cons_of_mem _ (List.mem_cons_of_mem _ List.mem_cons_self))).1
  rw [← List.append_assoc, ← List.append_assoc] at S1
  obtain ⟨y, e3, e4⟩ := S1.get_dt (i := (ss ++ gt).length) (by rw [List.getElem?_append_right (Nat.le_refl _), Nat.sub_self]; rfl)
  rw [← l2, last_at] at e3
  cases e3
  refine ⟨b, us', x, rfl, rfl, hA2, ?_, ?_⟩
  · rw [dpAll_len d2', sizeLine_eq]
    omega
  · have S3 := w2 b (.lst (us' ++ [x])) [(p, .lst [.ref a, .ref b]), (a, .lst vs'), (b, .lst (us' ++ [x]))] (by simp) rfl (fun q o hq ne => by
      simp only [List.mem_cons, Prod.mk.injEq, List.not_mem_nil, or_false] at hq ⊢
      rcases hq with hq | hq | hq
      · exact .inl hq
      · exact .inr (.inl hq)
      · exact absurd hq.1 ne) (fun o hq => by
      have hn : p ≠ b ∧ a ≠ b := by
        simp at nd2
        exact ⟨nd2.1.2, nd2.2⟩
      simp only [List.mem_cons, Prod.mk.injEq, List.not_mem_nil, or_false] at hq
      rcases hq with hq | hq | hq
      · exact absurd hq.1.symm hn.1
      · exact absurd hq.1.symm hn.2
      · exact hq.2) fun F' e => ⟨p, a, b, _, _, rfl, rfl, dpAll_ex e _ _ d1', dpAll_ex e _ _ (dpAll_app d2' (.cons e4 .nil))⟩
    rw [List.set_append_left _ _ hi] at S3
    exact k F1 _ S3 (by rw [List.length_set, l])
/-- [..] * n -/
theorem ev_rep {n : Int} (ha : EvR K ta ss (.ls ds)) (hb : EvR K tb ss (.dt (.int n))) (h1 : -1000000 ≤ n ∧ n ≤ 1000000) (h2 : ds.length * n.toNat ≤ 1000000) : EvR K (tOp rRep ta tb) ss (.ls (List.replicate n.toNat ds).flatten) := fun M F0 H0 F H σ xs ts l S Q q => by
  refine ha M F0 H0 F H σ xs ts l S _ fun x F1 H1 g1 n1 S1 => ?_
  refine hb M F0 H0 F1 H1 σ _ _ l S1 _ fun y F2 H2 g2 n2 S2 => ?_
  have hy : y = .int n := (S2.lastV S1.len2 (d := .int n) rfl).int
  have S3 := S2.back S1.len2
  have A := S3
  rw [← List.append_assoc, ← List.append_assoc] at A
  obtain ⟨a, vs, e2, da, ha2, fa, _⟩ := A.get_ls (i := (ss ++ ts).length) (by rw [List.getElem?_append_right (Nat.le_refl _), Nat.sub_self]; rfl)
  rw [← S.len2, last_at] at e2
  cases e2
  refine ⟨a, n, vs, rfl, hy, ha2, by omega, by omega, by rw [dpAll_len da, sizeLine_eq]; omega, fun p hp => ?_⟩
  have dr : ∀ k : Nat, DpAll K F2 (List.replicate k vs).flatten (List.replicate k ds).flatten := fun k => by
    induction k with
    | zero => exact .nil
    | succ k ih =>
      rw [List.replicate_succ, List.replicate_succ, List.flatten_cons, List.flatten_cons]
      exact dpAll_app da ih
  exact (RetR.mk (g1.trans g2) (S3.back S.len2) q).lst (dr _) hp
/-- xs[::-1] -/
theorem ev_revL (ha : EvR K ta ss ra) (va : vw ss ra = some (.list ds)) : EvR K (tRevL K ta) ss (.ls ds.reverse) := fun M F0 H0 F H σ xs ts l S Q q => by
  refine ha M F0 H0 F H σ xs ts l S _ fun x F1 H1 g1 n1 S1 => ?_
  obtain ⟨a, vs, rfl, sq, da⟩ := (S1.lastV S.len2 va).lst S1.fh
  refine ⟨a, vs, rfl, sq, fun p hp => ?_⟩
  have dr : ∀ {vs : List V} {ds : List PyData}, DpAll K F1 vs ds → DpAll K F1 vs.reverse ds.reverse := fun {vs} => by
    induction vs with
    | nil => intro ds h; cases h; exact .nil
    | cons v vs ih =>
      intro ds h
      cases h with
      | cons x y =>
        rw [List.reverse_cons, List.reverse_cons]
        exact dpAll_app (ih y) (.cons x .nil)
  exact (RetR.mk g1 (S1.back S.len2) q).lst (dr da) hp
end
end Fh
set_option Elab.async false
set_option linter.all false
set_option maxRecDepth 100000
set_option maxHeartbeats 2000000
namespace Fh
open PySem PySem.Spec PyProof.Rows L2 Evl
open PySem.W (Datum)
section
variable {K : PySem.W.Frag} {M : Addr → Prop} {F0 H0 F H F' H' : Hp} {σ xs gs : L2.St} {ss ts rs gt ss2 zs : List Sl} {ta tb te tc td tl tj tk : TE} {tr : TA} {t u tt : TT} {tz tbd : TS} {r ra rb : Sl} {d da db e : PyData} {ds es ds1 ds2 : List PyData} {Q : VK} {v x y : V} {p q : Addr}
theorem dpAll_set {F : Hp} {v : V} {d : PyData} (e2 : Dp K F v d) : ∀ {vs : List V} {ds : List PyData} (j : Nat), DpAll K F vs ds → DpAll K F (vs.set j v) (ds.set j d) := by
  intro vs
  induction vs with
  | nil => intro ds j h; cases h; exact .nil
  | cons v0 vs ih =>
    intro ds j h
    cases h with
    | cons x y =>
      cases j with
      | zero => exact .cons e2 y
      | succ j => exact .cons x (ih j y)
theorem st_setN0 {D : Ends} {i m : Nat} {z : Int} (S : Sts K M F0 H0 F H (σ ++ gs) (ss ++ gt)) (l : σ.length = ss.length) (h : ss[i]? = some (.mu (nest2 K ds1 ds2))) (he : EvR K te ss (.dt d)) (hj : EvR K tj ss (.dt (.int 0))) (hk : EvR K tk ss (.dt (.int z))) (hm : ixN ds1.length z = some m)
    (k : ∀ F' H', Sts K M F0 H0 F' H' (σ ++ gs) (ss.set i (.mu (nest2 K (ds1.set m d) ds2)) ++ gt) → σ.length = (ss.set i (.mu (nest2 K (ds1.set m d) ds2))).length → D.nx σ H') : tAsg te (gSub (tOp (rIxL K) (tVar i) tj) tk rSetL) D σ H := by
  have hi := (List.getElem?_eq_some_iff.mp h).1
  have h' : (ss ++ gt)[i]? = some (.mu (nest2 K ds1 ds2)) := by rw [List.getElem?_append_left hi]; exact h
  obtain ⟨v, L, av, ⟨p, a, b, vs, us, rfl, rfl, d1, d2⟩, at_, nd, w⟩ := S.muWrite (ψ' := nest2 K (ds1.set m d) ds2) h'
  have av2 := av
  rw [List.getElem?_append_left (by omega)] at av2
  have hp := (at_ p _ List.mem_cons_self).1
  refine he M F0 H0 F H σ gs gt l S _ fun x F1 H1 g1 n1 S1 => ?_
  have l2 := S.len2
  refine ⟨.ref p, av2, ?_⟩
  refine hj M F0 H0 F1 H1 σ (gs ++ [some x]) (gt ++ [.dt d]) l S1 _ fun jv F2 H2 g2 n2 S2 => ?_
  have l3 := S1.len2
  have hjv : jv = .int 0 := (S2.lastV l3 (d := .int 0) rfl).int
  have S3 := S2.back l3
  refine ⟨p, [.ref a, .ref b], 0, .ref a, rfl, hjv, SqL.of (g2.hh p _ (g1.hh p _ hp)), rfl, ?_⟩
  refine hk M F0 H0 F2 H2 σ (gs ++ [some x]) (gt ++ [.dt d]) l S3 _ fun kv F3 H3 g3 n3 S4 => ?_
  have hkv : kv = .int z := (S4.lastV l3 (d := .int z) rfl).int
  have S5 := S4.back l3
  have S6 := S5.back l2
  obtain ⟨v', L', av', ⟨p', a', b', vs', us', rfl, rfl, d1', d2'⟩, at2, nd2, w2⟩ := S6.muWrite (ψ' := nest2 K (ds1.set m d) ds2) h'
  rw [av] at av'
  cases av'
  have e1 := (at2 p _ List.mem_cons_self).1
  have e2 := g3.hh p _ (g2.hh p _ (g1.hh p _ hp))
  rw [e1] at e2
  cases e2
  have hA2 := (at2 a _ (List.mem_cons_of_mem _ List.mem_cons_self)).1
  rw [← List.append_assoc, ← List.append_assoc] at S5
  obtain ⟨y, e3, e4⟩ := S5.get_dt (i := (ss ++ gt).length) (by rw [List.getElem?_append_right (Nat.le_refl _), Nat.sub_self]; rfl)
  rw [← l2, last_at] at e3
  cases e3
  refine ⟨a, vs', z, m, rfl, hkv, hA2, by rw [dpAll_len d1']; exact hm, ?_⟩
  have S7 := w2 a (.lst (vs'.set m x)) [(p, .lst [.ref a, .ref b]), (a, .lst (vs'.set m x)), (b, .lst us')] (by simp) rfl (fun q o hq ne => by
    simp only [List.mem_cons, Prod.mk.injEq, List.not_mem_nil, or_false] at hq ⊢
    rcases hq with hq | hq | hq
    · exact .inl hq
    · exact absurd hq.1 ne
    · exact .inr (.inr hq)) (fun o hq => by
    have hn : p ≠ a ∧ b ≠ a := by
      simp at nd2
      exact ⟨nd2.1.1, fun e => nd2.2 e.symm⟩
    simp only [List.mem_cons, Prod.mk.injEq, List.not_mem_nil, or_false] at hq
    rcases hq with hq | hq | hq
    · exact absurd hq.1.symm hn.1
    · exact hq.2
    · exact absurd hq.1.symm hn.2) fun F' e => ⟨p, a, b, _, _, rfl, rfl, dpAll_ex e _ _ (dpAll_set e4 m d1'), dpAll_ex e _ _ d2'⟩
  rw [List.set_append_left _ _ hi] at S7
  exact k F3 _ S7 (by rw [List.length_set, l])
theorem st_setN1 {D : Ends} {i m : Nat} {z : Int} (S : Sts K M F0 H0 F H (σ ++ gs) (ss ++ gt)) (l : σ.length = ss.length) (h : ss[i]? = some (.mu (nest2 K ds1 ds2))) (he : EvR K te ss (.dt d)) (hj : EvR K tj ss (.dt (.int 1))) (hk : EvR K tk ss (.dt (.int z))) (hm : ixN ds2.length z = some m)
    (k : ∀ F' H', Sts K M F0 H0 F' H' (σ ++ gs) (ss.set i (.mu (nest2 K ds1 (ds2.set m d))) ++ gt) → σ.length = (ss.set i (.mu (nest2 K ds1 (ds2.set m d)))).length → D.nx σ H') : tAsg te (gSub (tOp (rIxL K) (tVar i) tj) tk rSetL) D σ H := by
  have hi := (List.getElem?_eq_some_iff.mp h).1
  have h' : (ss ++ gt)[i]? = some (.mu (nest2 K ds1 ds2)) := by rw [List.getElem?_append_left hi]; exact h
  obtain ⟨v, L, av, ⟨p, a, b, vs, us, rfl, rfl, d1, d2⟩, at_, nd, w⟩ := S.muWrite (ψ' := nest2 K ds1 (ds2.set m d)) h'
  have av2 := av
  rw [List.getElem?_append_left (by omega)] at av2
  have hp := (at_ p _ List.mem_cons_self).1
  refine he M F0 H0 F H σ gs gt l S _ fun x F1 H1 g1 n1 S1 => ?_
  have l2 := S.len2
  refine ⟨.ref p, av2, ?_⟩
  refine hj M F0 H0 F1 H1 σ (gs ++ [some x]) (gt ++ [.dt d]) l S1 _ fun jv F2 H2 g2 n2 S2 => ?_
  have l3 := S1.len2
  have hjv : jv = .int 1 := (S2.lastV l3 (d := .int 1) rfl).int
  have S3 := S2.back l3
  refine ⟨p, [.ref a, .ref b], 1, .ref b, rfl, hjv, SqL.of (g2.hh p _ (g1.hh p _ hp)), rfl, ?_⟩
  refine hk M F0 H0 F2 H2 σ (gs ++ [some x]) (gt ++ [.dt d]) l S3 _ fun kv F3 H3 g3 n3 S4 => ?_
  have hkv : kv = .int z := (S4.lastV l3 (d := .int z) rfl).int
  have S5 := S4.back l3
  have S6 := S5.back l2
  obtain ⟨v', L', av', ⟨p', a', b', vs', us', rfl, rfl, d1', d2'⟩, at2, nd2, w2⟩ := S6.muWrite (ψ' := nest2 K ds1 (ds2.set m d)) h'
  rw [av] at av'
  cases av'
  have e1 := (at2 p _ List.mem_cons_self).1
  have e2 := g3.hh p _ (g2.hh p _ (g1.hh p _ hp))
  rw [e1] at e2
  cases e2
  have hA2 := (at2 b _ (List.mem_cons_of_mem _ (List.mem_cons_of_mem _ List.mem_cons_self))).1
  rw [← List.append_assoc, ← List.append_assoc] at S5
  obtain ⟨y, e3, e4⟩ := S5.get_dt (i := (ss ++ gt).length) (by rw [List.getElem?_append_right (Nat.le_refl _), Nat.sub_self]; rfl)
  rw [← l2, last_at] at e3
  cases e3
  refine ⟨b, us', z, m, rfl, hkv, hA2, by rw [dpAll_len d2']; exact hm, ?_⟩
  have S7 := w2 b (.lst (us'.set m x)) [(p, .lst [.ref a, .ref b]), (a, .lst vs'), (b, .lst (us'.set m x))] (by simp) rfl (fun q o hq ne => by
    simp only [List.mem_cons, Prod.mk.injEq, List.not_mem_nil, or_false] at hq ⊢
    rcases hq with hq | hq | hq
    · exact .inl hq
    · exact .inr (.inl hq)
    · exact absurd hq.1 ne) (fun o hq => by
    have hn : p ≠ b ∧ a ≠ b := by
      simp at nd2
      exact ⟨nd2.1.2, nd2.2⟩
    simp only [List.mem_cons, Prod.mk.injEq, List.not_mem_nil, or_false] at hq
    rcases hq with hq | hq | hq
    · exact absurd hq.1.symm hn.1
    · exact absurd hq.1.symm hn.2
    · exact hq.2) fun F' e => ⟨p, a, b, _, _, rfl, rfl, dpAll_ex e _ _ d1', dpAll_ex e _ _ (dpAll_set e4 m d2')⟩
  rw [List.set_append_left _ _ hi] at S7
  exact k F3 _ S7 (by rw [List.length_set, l])
/-- the last of a suite -/
theorem st_par {D : Ends} {i j : Nat} {d1 d2 : PyData} (S : Sts K M F0 H0 F H (σ ++ gs) (ss ++ gt)) (l : σ.length = ss.length) (h1 : EvR K ta ss (.dt d1)) (h2 : EvR K tb ss (.dt d2)) (na : (ss ++ gt).all notAl = true) (hi : i < ss.length) (hj : j < ss.length)
    (k : ∀ σ' F' H', Sts K M F0 H0 F' H' (σ' ++ gs) ((ss.set i (.dt d1)).set j (.dt d2) ++ gt) → σ'.length = ((ss.set i (.dt d1)).set j (.dt d2)).length → D.nx σ' H') : tPar i j (tCons ta (tCons tb tNil)) D σ H := q_par (D := D) (tz := fun _ => D.nx) S l h1 h2 na hi hj k
/-- a, b = [..], [..] -/
theorem q_parL {D : Ends} {i j : Nat} (S : Sts K M F0 H0 F H (σ ++ gs) (ss ++ gt)) (l : σ.length = ss.length) (h1 : EvR K ta ss (.ls ds1)) (h2 : EvR K tb ss (.ls ds2)) (na : (ss ++ gt).all notAl = true) (hi : i < ss.length) (hj : j < ss.length) (hij : i ≠ j)
    (k : ∀ σ' F' H', Sts K M F0 H0 F' H' (σ' ++ gs) ((ss.set i (.ls ds1)).set j (.ls ds2) ++ gt) → σ'.length = ((ss.set i (.ls ds1)).set j (.ls ds2)).length → tz D σ' H') : tSeq (tPar i j (tCons ta (tCons tb tNil))) tz D σ H := by
  refine h1 M F0 H0 F H σ gs gt l S _ fun v F1 H1 g1 n1 S1 => ?_
  refine h2 M F0 H0 F1 H1 σ _ _ l S1 _ fun w F2 H2 g2 n2 S2 => ?_
  refine ⟨v, w, rfl, ?_⟩
  have S3 := S2
  rw [← List.append_assoc σ, ← List.append_assoc ss] at S3
  have S4 := S3.put (i := j) S1.len2 (by rw [List.length_append]; omega) (by rw [← List.append_assoc, List.all_append, na]; rfl) rfl
  rw [List.set_append_left _ _ (by omega), List.set_append_left _ _ hj] at S4
  have S5 := S4
  rw [← List.append_assoc, ← List.append_assoc] at S5
  have na2 : ((ss.set j (.ls ds2)) ++ gt).all notAl = true := by
    rw [List.all_append, Bool.and_eq_true] at na ⊢
    refine ⟨List.all_eq_true.mpr fun s hs => ?_, na.2⟩
    rcases List.mem_or_eq_of_mem_set hs with h | h
    · exact List.all_eq_true.mp na.1 s h
    · rw [h]
      rfl
  have S6 := S5.put (i := i) (by rw [List.length_append, List.length_append, List.length_set, List.length_set]; have := S.len2; rw [List.length_append, List.length_append] at this; omega) (by rw [List.length_append, List.length_set]; omega) na2 rfl
  rw [List.set_append_left _ _ (by rw [List.length_set]; omega), List.set_append_left _ _ (by rw [List.length_set]; exact hi), List.set_comm _ _ (Ne.symm hij), List.set_comm _ _ (Ne.symm hij)] at S6
  exact k _ F2 H2 S6 (by simp only [List.length_set, l])
/-- a, b, c, d, e = a tuple of five -/
theorem q_five {D : Ends} {i1 i2 i3 i4 i5 : Nat} {d1 d2 d3 d4 d5 : PyData} (S : Sts K M F0 H0 F H (σ ++ gs) (ss ++ gt)) (l : σ.length = ss.length) (h : EvR K te ss (.dt (.tuple [d1, d2, d3, d4, d5]))) (na : (ss ++ gt).all notAl = true) (h1 : i1 < ss.length) (h2 : i2 < ss.length) (h3 : i3 < ss.length) (h4 : i4 < ss.length) (h5 : i5 < ss.length)
    (k : ∀ σ' F' H', Sts K M F0 H0 F' H' (σ' ++ gs) (((((ss.set i1 (.dt d1)).set i2 (.dt d2)).set i3 (.dt d3)).set i4 (.dt d4)).set i5 (.dt d5) ++ gt) → σ'.length = (((((ss.set i1 (.dt d1)).set i2 (.dt d2)).set i3 (.dt d3)).set i4 (.dt d4)).set i5 (.dt d5)).length → tz D σ' H') :
    tSeq (tAsg te (gTup K 5 (gCons (gName i1) (gCons (gName i2) (gCons (gName i3) (gCons (gName i4) (gCons (gName i5) gNil))))))) tz D σ H := by
  refine h M F0 H0 F H σ gs gt l S _ fun v F1 H1 g1 n1 S1 => ?_
  have hv := (S1.lastV S.len2 (d := .tuple [d1, d2, d3, d4, d5]) rfl).tup S1.fh
  obtain ⟨p, vs, rfl, sq, da⟩ := hv
  have S2 := S1.back S.len2
  cases da with
  | cons a1 da =>
  cases da with
  | cons a2 da =>
  cases da with
  | cons a3 da =>
  cases da with
  | cons a4 da =>
  cases da with
  | cons a5 da =>
  cases da
  have na_set : ∀ {ss : List Sl} {i : Nat} {d : PyData}, (ss ++ gt).all notAl = true → (ss.set i (.dt d) ++ gt).all notAl = true := fun {ss i d} na => by
    rw [List.all_append, Bool.and_eq_true] at na ⊢
    refine ⟨List.all_eq_true.mpr fun s hs => ?_, na.2⟩
    rcases List.mem_or_eq_of_mem_set hs with h | h
    · exact List.all_eq_true.mp na.1 s h
    · rw [h]
      rfl
  refine ⟨p, _, rfl, sq, rfl, _, _, rfl, _, _, rfl, _, _, rfl, _, _, rfl, _, _, rfl, rfl, ?_⟩
  have T1 := S2.setv l h1 a1 na
  have T2 := T1.setv (by simp only [List.length_set, l]) (by simp only [List.length_set]; exact h2) a2 (na_set na)
  have T3 := T2.setv (by simp only [List.length_set, l]) (by simp only [List.length_set]; exact h3) a3 (na_set (na_set na))
  have T4 := T3.setv (by simp only [List.length_set, l]) (by simp only [List.length_set]; exact h4) a4 (na_set (na_set (na_set na)))
  have T5 := T4.setv (by simp only [List.length_set, l]) (by simp only [List.length_set]; exact h5) a5 (na_set (na_set (na_set (na_set na))))
  exact k _ F1 H1 T5 (by simp only [List.length_set, l])
end
end Fh
set_option Elab.async false
set_option linter.all false
set_option maxRecDepth 100000
set_option maxHeartbeats 2000000
namespace Fh
open PySem PySem.Spec PyProof.Rows L2 Evl
open PySem.W (Datum)
/-! ### what raises within what is told -/
def NvR (K : PySem.W.Frag) (te : TE) (ss : List Sl) (E : XK) (C : Addr) : Prop := ∀ (M : Addr → Prop) (F0 H0 F H : Hp) (σ xs : L2.St) (ts : List Sl), σ.length = ss.length → Sts K M F0 H0 F H (σ ++ xs) (ss ++ ts) → (∀ H', Ex H H' → E (.ref C) none H') → ∀ Q : VK, te σ H Q
def NaR (K : PySem.W.Frag) (ta : TA) (ss : List Sl) (E : XK) (C : Addr) : Prop := ∀ (M : Addr → Prop) (F0 H0 F H : Hp) (σ xs : L2.St) (ts : List Sl), σ.length = ss.length → Sts K M F0 H0 F H (σ ++ xs) (ss ++ ts) → (∀ H', Ex H H' → E (.ref C) none H') → ∀ Q : List V → Hp → Prop, ta σ H Q
section
variable {K : PySem.W.Frag} {M : Addr → Prop} {F0 H0 F H F' H' : Hp} {σ xs gs : L2.St} {ss ts rs gt ss2 zs : List Sl} {ta tb te tc td tl tj tk : TE} {tr : TA} {t u tt : TT} {tz tbd : TS} {r ra rb : Sl} {d da db e : PyData} {ds es ds1 ds2 : List PyData} {Q : VK} {v x y : V} {p q C : Addr} {E E' : XK}
theorem nv_call {R : List PyData → Sl → Prop} {X : List PyData → Addr → Prop} {dvs : List V} {es : List PyData} (ha : AvR K tr ss rs) (va : vws ss rs = some ds) (hd : ∀ F, DpAll K F dvs es) (h : X (ds ++ es) C) : NvR K (tCall (spF K R X) dvs E tr) ss E C := fun M F0 H0 F H σ xs ts l S k Q => by
  refine ha M F0 H0 F H σ xs ts l S _ fun vs F1 H1 hl g1 S1 => ?_
  have l1 := S.len2
  refine ⟨H1, _, Ex.refl H1, dpAll_app (vwA_dp (S1.argsV l1 hl va) S1.fh) (hd H1), .inr ⟨C, h, fun H' e => ?_⟩⟩
  exact k H' (g1.hh.trans e)
theorem nv_call0 {R : List PyData → Sl → Prop} {X : List PyData → Addr → Prop} (ha : AvR K tr ss rs) (va : vws ss rs = some ds) (h : X ds C) : NvR K (tCall (spF K R X) [] E tr) ss E C := nv_call (es := []) ha va (fun _ => .nil) (by rw [List.append_nil]; exact h)
theorem na_here (h : NvR K te ss E C) : NaR K (tCons te tr) ss E C := fun M F0 H0 F H σ xs ts l S k Q => h M F0 H0 F H σ xs ts l S k _
theorem na_next (ha : EvR K te ss r) (h : NaR K tr ss E C) : NaR K (tCons te tr) ss E C := fun M F0 H0 F H σ xs ts l S k Q =>
  ha M F0 H0 F H σ xs ts l S _ fun v F1 H1 g1 n1 S1 => h M F0 H0 F1 H1 σ _ _ l S1 (fun H' e => k H' (g1.hh.trans e)) _
theorem nv_arg {sp : Sp} {dvs : List V} (h : NaR K tr ss E C) : NvR K (tCall sp dvs E' tr) ss E C := fun M F0 H0 F H σ xs ts l S k Q => h M F0 H0 F H σ xs ts l S k _
theorem Sts.freezeQ (i : Nat) (S : Sts K M F0 H0 F H (σ ++ gs) (ss ++ gt)) (l : σ.length = ss.length) (h : ss[i]? = some (.ls ds)) : ∃ F', Sts K M F0 H0 F' H (σ ++ gs) (ss.set i (.dt (.list ds)) ++ gt) ∧ σ.length = (ss.set i (.dt (.list ds))).length := by
  have hi := (List.getElem?_eq_some_iff.mp h).1
  obtain ⟨F', _, _, S1⟩ := S.freeze (i := i) (ds := ds) (by rw [List.getElem?_append_left hi]; exact h)
  rw [List.set_append_left _ _ hi] at S1
  exact ⟨F', S1, by rw [List.length_set, l]⟩
theorem st_asgN {D : Ends} {g : TG} (S : Sts K M F0 H0 F H (σ ++ gs) (ss ++ gt)) (l : σ.length = ss.length) (h : NvR K te ss E C) (k : ∀ H', Ex H H' → E (.ref C) none H') : tAsg te g D σ H := h M F0 H0 F H σ gs gt l S k _
theorem st_dropN {D : Ends} (S : Sts K M F0 H0 F H (σ ++ gs) (ss ++ gt)) (l : σ.length = ss.length) (h : NvR K te ss E C) (k : ∀ H', Ex H H' → E (.ref C) none H') : tDrop te D σ H := h M F0 H0 F H σ gs gt l S k _
theorem st_retN {D : Ends} (S : Sts K M F0 H0 F H (σ ++ gs) (ss ++ gt)) (l : σ.length = ss.length) (h : NvR K te ss E C) (k : ∀ H', Ex H H' → E (.ref C) none H') : tRet te D σ H := h M F0 H0 F H σ gs gt l S k _
end
end Fh
set_option Elab.async false
set_option linter.all false
set_option maxRecDepth 100000
set_option maxHeartbeats 2000000
namespace Fh
open PySem PySem.Spec PyProof.Rows L2 Evl
open PySem.W (Datum)
section
variable {K : PySem.W.Frag} {M : Addr → Prop} {F0 H0 F H F' H' : Hp} {σ xs gs : L2.St} {ss ts rs gt ss2 : List Sl} {ta tb te tc td tl tj tk : TE} {tr : TA} {t u tt : TT} {tz tbd : TS} {r ra rb : Sl} {d da db e : PyData} {ds es ds1 ds2 : List PyData} {Q : VK} {v x y : V} {p q C : Addr} {E E' : XK}
theorem set_len2 {i : Nat} {x : Option V} {y : Sl} (l : σ.length = ss.length) : (σ.set i x).length = (ss.set i y).length := by rw [List.length_set, List.length_set, l]
/-- a call in a try's body that raises, lists of our own among what is read -/
theorem st_raiseWS {R : List PyData → Sl → Prop} {X : List PyData → Addr → Prop} {dvs : List V} {es : List PyData} {W : WX} {D : Ends} (zs : List Sl) (f : FzA K ss zs) (S : Sts K M F0 H0 F H (σ ++ gs) (ss ++ gt)) (l : σ.length = ss.length) (ha : AvR K tr zs rs) (va : vws zs rs = some ds) (hd : ∀ F, DpAll K F dvs es) (h : X (ds ++ es) C)
    (k : ∀ F' H', Sts K M F0 H0 F' H' (σ ++ gs) (ss ++ gt) → W (.ref C) none σ H') : tDrop (tCallW (spF K R X) dvs W tr) D σ H := by
  have S1 := (S.drop l).still f
  have S2 : Sts K (fun _ => False) (fplus F H) H (fplus F H) H (σ ++ []) (zs ++ []) := by
    rw [List.append_nil, List.append_nil]
    exact S1
  refine ha _ _ _ _ _ σ [] [] (l.trans f.len) S2 _ fun vs F1 H1 hl g1 S3 => ?_
  have l1 : (σ ++ []).length = (zs ++ []).length := by rw [List.append_nil, List.append_nil]; exact l.trans f.len
  refine ⟨H1, _, Ex.refl H1, dpAll_app (vwA_dp (S3.argsV l1 hl va) S3.fh) (hd H1), .inr ⟨C, h, fun H' e => ?_⟩⟩
  have gt1 := thaw_gr S.fh g1
  have S4 := S.grow gt1
  exact k _ H' (S4.grow (Gr.of S4.fh e))
end
end Fh
set_option Elab.async false
set_option linter.all false
set_option maxRecDepth 100000
set_option maxHeartbeats 4000000
namespace K19
open PySem PySem.Spec PyProof.Rows L2 Fh
open Evl (Ex)
open PySem.W (Datum)
local macro_rules | `(tactic| walk_at "vw") => `(tactic| first | rfl | assumption)
local macro_rules | `(tactic| walk_at "fit") => `(tactic| first
  | (refine CMulY.s ?_ ?_ <;> (constructor <;> omega)) | (refine CDivY.s ?_ ?_ <;> omega) | assumption | omega | decide)
local macro_rules | `(tactic| walk_at "sp") => `(tactic| fail)
local macro_rules | `(tactic| walk_at "av") => `(tactic| first
  | exact av_nil
  | (refine av_cons ?_ ?_ <;> first | walk_at "ev" | walk_at "av"))
local macro_rules | `(tactic| walk_at "ov") => `(tactic| first
  | exact ov_none | (refine ov_some ?_ <;> walk_at "ev"))
local macro_rules | `(tactic| walk_at "tv") => `(tactic| first
  | exact tv_yes
  | (refine tv_not ?_ <;> walk_at "tv")
  | (refine tv_test ?_ <;> walk_at "ev")
  | (refine tv_B ?_ <;> walk_at "ev"))
local macro_rules | `(tactic| walk_at "ev") => `(tactic| first
  | exact ev_int | exact ev_bl | exact ev_str | exact ev_non
  | exact ev_var rfl
  | exact ev_varA rfl
  | (refine ev_ii ?_ ?_ <;> walk_at "ev")
  | (refine ev_ib ?_ ?_ <;> walk_at "ev")
  | (refine' ev_iC ?a ?b ?c; (case a => walk_at "ev"); (case b => walk_at "ev"); (case c => walk_at "fit"))
  | (refine ev_u ?_ <;> walk_at "ev")
  | (refine ev_not ?_ <;> walk_at "ev")
  | (refine ev_abs ?_ <;> walk_at "ev")
  | (refine ev_min ?_ ?_ <;> walk_at "ev")
  | (refine ev_max ?_ ?_ <;> walk_at "ev")
  | (refine ev_intB ?_ <;> walk_at "ev")
  | (refine' ev_len ?a ?b ?c; (case a => walk_at "ev"); (case b => walk_at "vw"); (case c => rfl))
  | (refine' ev_ixT ?a ?b ?c ?d; (case a => walk_at "ev"); (case b => walk_at "ev"); (case c => walk_at "vw"); (case d => rfl))
  | (refine' ev_tup ?a ?b ?c; (case a => walk_at "av"); (case b => rfl); (case c => (show _ ≤ _; decide)))
  | (refine' ev_lst ?a ?b ?c; (case a => walk_at "av"); (case b => rfl); (case c => (show _ ≤ _; decide)))
  | (refine' ev_isN ?a ?b; (case a => walk_at "ev"); (case b => walk_at "vw"))
  | (refine' ev_notN ?a ?b; (case a => walk_at "ev"); (case b => walk_at "vw"))
  | (refine' ev_isi ?a ?b ?c; (case a => walk_at "ev"); (case b => walk_at "vw"); (case c => first | exact kit_int _ | exact kit_bool _ | exact kit_str _ | exact kit_list _ | exact kit_tuple _))
  | (refine' ev_callF0 ?a ?b ?c ?d; (case a => walk_at "av"); (case b => walk_at "vw"); (case c => walk_at "sp"); (case d => rfl))
  | (refine' ev_call0 ?a ?b ?c; (case a => walk_at "av"); (case b => rfl); (case c => walk_at "sp")))
local macro_rules | `(tactic| walk_at "sl") => `(tactic| first
  | (intro _ _ h; obtain ⟨h, _⟩ := h; rw [h]; rfl) | (intro _ _ h; obtain ⟨_, h, _⟩ := h; rw [h]; rfl) | (intro _ _ h; obtain ⟨_, _, h, _⟩ := h; rw [h]; rfl) | (intro _ _ h; obtain ⟨_, _, _, h, _⟩ := h; rw [h]; rfl) | (intro _ _ h; obtain ⟨_, _, _, _, h, _⟩ := h; rw [h]; rfl) | (intro _ _ h; obtain ⟨_, _, _, _, _, h, _⟩ := h; rw [h]; rfl) | (intro _ _ h; obtain ⟨_, _, _, _, _, _, h, _⟩ := h; rw [h]; rfl) | (intro _ _ h; obtain ⟨_, _, _, _, _, _, _, h, _⟩ := h; rw [h]; rfl) | (intro _ _ h; obtain ⟨_, _, _, _, _, _, _, _, h, _⟩ := h; rw [h]; rfl))

def topS (i : Nat) : Stmt := PySem.Challenge.pw_findhall_k19_shares_and_worths.main.body.getD i (.Pass ⟨0, 0, 0, 0⟩)
abbrev s_is_whole : Stmt := topS 5
theorem sc_is_whole : FnScope ["thing"] ["thing"] (defScope s_is_whole) := ⟨rfl, rfl, rfl, by decide +kernel, rfl, by decide +kernel, by decide +kernel⟩
abbrev s_need_number : Stmt := topS 6
theorem sc_need_number : FnScope ["thing", "least", "most"] ["thing", "least", "most"] (defScope s_need_number) := ⟨rfl, rfl, rfl, by decide +kernel, rfl, by decide +kernel, by decide +kernel⟩
abbrev s_common : Stmt := topS 8
theorem sc_common : FnScope ["one", "other", "many", "rest"] ["one", "other"] (defScope s_common) := ⟨rfl, rfl, rfl, by decide +kernel, rfl, by decide +kernel, by decide +kernel⟩
abbrev s_fraction : Stmt := topS 9
theorem sc_fraction : FnScope ["above", "below", "shared"] ["above", "below"] (defScope s_fraction) := ⟨rfl, rfl, rfl, by decide +kernel, rfl, by decide +kernel, by decide +kernel⟩
abbrev s_sum_of : Stmt := topS 10
theorem sc_sum_of : FnScope ["one", "other"] ["one", "other"] (defScope s_sum_of) := ⟨rfl, rfl, rfl, by decide +kernel, rfl, by decide +kernel, by decide +kernel⟩
abbrev s_product_of : Stmt := topS 11
theorem sc_product_of : FnScope ["one", "other"] ["one", "other"] (defScope s_product_of) := ⟨rfl, rfl, rfl, by decide +kernel, rfl, by decide +kernel, by decide +kernel⟩
abbrev s_share_of : Stmt := topS 13
theorem sc_share_of : FnScope ["count", "size", "many", "total", "number"] ["count", "size", "many", "total"] (defScope s_share_of) := ⟨rfl, rfl, rfl, by decide +kernel, rfl, by decide +kernel, by decide +kernel⟩
abbrev s_rarity_of : Stmt := topS 14
theorem sc_rarity_of : FnScope ["many", "found"] ["many", "found"] (defScope s_rarity_of) := ⟨rfl, rfl, rfl, by decide +kernel, rfl, by decide +kernel, by decide +kernel⟩
abbrev s_worth_of : Stmt := topS 15
theorem sc_worth_of : FnScope ["counts", "founds", "size", "many", "total", "number", "whole", "count", "found"] ["counts", "founds", "size", "many", "total"] (defScope s_worth_of) := ⟨rfl, rfl, rfl, by decide +kernel, rfl, by decide +kernel, by decide +kernel⟩
abbrev s__law_mixed : Stmt := topS 17
theorem sc__law_mixed : FnScope ["_law_number_here", "_law_k"] ["_law_number_here", "_law_k"] (defScope s__law_mixed) := ⟨rfl, rfl, rfl, by decide +kernel, rfl, by decide +kernel, by decide +kernel⟩
abbrev s__law_number : Stmt := topS 18
theorem sc__law_number : FnScope ["_law_script", "_law_k"] ["_law_script", "_law_k"] (defScope s__law_number) := ⟨rfl, rfl, rfl, by decide +kernel, rfl, by decide +kernel, by decide +kernel⟩
abbrev s__law_common : Stmt := topS 19
theorem sc__law_common : FnScope ["_law_one", "_law_other"] ["_law_one", "_law_other"] (defScope s__law_common) := ⟨rfl, rfl, rfl, by decide +kernel, rfl, by decide +kernel, by decide +kernel⟩
abbrev s__law_is : Stmt := topS 20
theorem sc__law_is : FnScope ["_law_found", "_law_above", "_law_below", "_law_part"] ["_law_found", "_law_above", "_law_below"] (defScope s__law_is) := ⟨rfl, rfl, rfl, by decide +kernel, rfl, by decide +kernel, by decide +kernel⟩
abbrev s__law_great : Stmt := topS 21
theorem sc__law_great : FnScope ["_law_number_here", "_law_least"] ["_law_number_here", "_law_least"] (defScope s__law_great) := ⟨rfl, rfl, rfl, by decide +kernel, rfl, by decide +kernel, by decide +kernel⟩
abbrev s__law_made : Stmt := topS 22
theorem sc__law_made : FnScope ["_law_script", "_law_size", "_law_many", "_law_total", "_law_counts", "_law_founds", "_law_k", "_law_number_here"] ["_law_script"] (defScope s__law_made) := ⟨rfl, rfl, rfl, by decide +kernel, rfl, by decide +kernel, by decide +kernel⟩
abbrev s__law_share : Stmt := topS 23
theorem sc__law_share : FnScope ["_law_count", "_law_size", "_law_many", "_law_total"] ["_law_count", "_law_size", "_law_many", "_law_total"] (defScope s__law_share) := ⟨rfl, rfl, rfl, by decide +kernel, rfl, by decide +kernel, by decide +kernel⟩
abbrev s__law_sum : Stmt := topS 24
theorem sc__law_sum : FnScope ["_law_counts", "_law_founds", "_law_size", "_law_many", "_law_total", "_law_above", "_law_below", "_law_count", "_law_found", "_law_one", "_law_whole"] ["_law_counts", "_law_founds", "_law_size", "_law_many", "_law_total"] (defScope s__law_sum) := ⟨rfl, rfl, rfl, by decide +kernel, rfl, by decide +kernel, by decide +kernel⟩
abbrev s__law_shares_right : Stmt := topS 25
theorem sc__law_shares_right : FnScope ["_law_counts", "_law_founds", "_law_size", "_law_many", "_law_total", "_law_count", "_law_found", "_law_above", "_law_below", "_law_share_here", "_law_more", "_law_less"] ["_law_counts", "_law_founds", "_law_size", "_law_many", "_law_total"] (defScope s__law_shares_right) := ⟨rfl, rfl, rfl, by decide +kernel, rfl, by decide +kernel, by decide +kernel⟩
abbrev s__law_refused : Stmt := topS 26
theorem sc__law_refused : FnScope ["_law_way", "_law_number_here", "_law_odd", "_law_good", "_law_at", "_law_whole", "_law_lists", "e"] ["_law_way", "_law_number_here"] (defScope s__law_refused) := ⟨rfl, rfl, rfl, by decide +kernel, rfl, by decide +kernel, by decide +kernel⟩
abbrev s__law_noughts_right : Stmt := topS 27
theorem sc__law_noughts_right : FnScope ["_law_script", "_law_number_here", "_law_many", "_law_total", "_law_size", "_law_founds", "_law_found"] ["_law_script"] (defScope s__law_noughts_right) := ⟨rfl, rfl, rfl, by decide +kernel, rfl, by decide +kernel, by decide +kernel⟩
abbrev s_law : Stmt := topS 28
theorem sc_law : FnScope ["_law_script", "_law_counts", "_law_founds", "_law_size", "_law_many", "_law_total", "_law_handed", "_law_above", "_law_below", "_law_found", "_law_way"] ["_law_script"] (defScope s_law) := ⟨rfl, rfl, rfl, by decide +kernel, rfl, by decide +kernel, by decide +kernel⟩
structure Txt (K : PySem.W.Frag) (mg : Str → Option Value) (CN CH CT : Addr) : Prop where
  ValueError : mg "ValueError" = none
  abs : mg "abs" = none
  all : mg "all" = none
  bool : mg "bool" = none
  divmod : mg "divmod" = none
  int : mg "int" = none
  isinstance : mg "isinstance" = none
  len : mg "len" = none
  list : mg "list" = none
  min : mg "min" = none
  range : mg "range" = none
  tuple : mg "tuple" = none
  zip : mg "zip" = none
  c_BadNumber : mg "BadNumber" = some (.ref CN)
  k_BadNumber : PySem.W.keepIn K (.ref CN) = true
  x_BadNumber : PySem.W.excIn K CN [.type "ValueError", .type "Exception", .type "BaseException", .type "object"] "ValueError.__new__" = true
  b_BadNumber : PySem.W.subIn K (.ref CN) (.type "BaseException") = some true
  t_BadNumber : PySem.W.typeIn K (.ref CN) = some (.type "type")
  c_HallError : mg "HallError" = some (.ref CH)
  c_BadText : mg "BadText" = some (.ref CT)
  e_BadNumber : ExcC K CN
  m_BadNumber_HallError : PySem.W.exmOne K (.ref CN) (.ref CH) = some true
  i_BadNumber_BadText : PySem.W.kitOne K (.ref CN) (.ref CT) = some false
  i_BadNumber_ValueError : PySem.W.kitOne K (.ref CN) (.type "ValueError") = some true
  i_BadNumber_BadNumber : PySem.W.kitOne K (.ref CN) (.ref CN) = some true
section
variable {P : Program} {w : World} {K : PySem.W.Frag} {mg : Str → Option Value} {base : Heap} {CN CH CT : Addr}
def isW : PyData → Bool
  | .int _ => true
  | _ => false
def R_is_whole (ds : List PyData) (r : Sl) : Prop := ∃ d, ds = [d] ∧ r = .dt (.bool (isW d))
theorem ok_is_whole {f : Addr} {fd : FuncData} (F : Fun K "is_whole" "is_whole" s_is_whole f fd) (T : Txt K mg CN CH CT) : FnOk P w K mg base (L2.CX P w) 1 f fd ["thing"] (spF K R_is_whole noX) := by
  refine F.okX sc_is_whole (spF_len (n := 1) (by rintro _ _ ⟨d, rfl, _⟩; rfl) (by rintro _ _ ⟨⟩)) (fun cdv A outer s H vs Q E hr h => ?_)
  obtain ⟨F0, ds, fh, hv, ⟨r, ⟨d, rfl, rfl⟩, q⟩ | ⟨_, h, _⟩⟩ := h
  · have S := Sts.init (N := ["thing"]) fh hv
    refine ⟨_, (pss_one (ps_ret (pe_and (pe_callB (id := "isinstance") (r := rIsi K) call_isi (by rfl) T.isinstance (by decide +kernel) (pa_cons (pv 0) (pa_cons (pe_bltn (v := .ty "int") (by rfl) T.int (by decide +kernel) rfl) pa_nil))) (pe_one (pe_not (pe_callB (id := "isinstance") (r := rIsi K) call_isi (by rfl) T.isinstance (by decide +kernel) (pa_cons (pv 0) (pa_cons (pe_bltn (v := .ty "bool") (by rfl) T.bool (by decide +kernel) rfl) pa_nil)))))))), ?_⟩
    refine st_ret S (init_len hv (Nat.le_of_ble_eq_true rfl)) ?_ rfl q
    have e : (isIntB d && !isBoolB d) = isW d := by cases d <;> rfl
    rw [← e]
    refine ev_and ?_ fun _ => ?_
    · walk_at "ev"
    · walk_at "ev"
  · exact h.elim
def mixed (n k : Int) : Int := (n % 2147483647 + 7919 * k * k + 31 * k) * 48271 % 2147483647 * (69621 + 2 * k) % 2147483629
def R_mixed (ds : List PyData) (r : Sl) : Prop := ∃ n k : Int, ds = [.int n, .int k] ∧ 0 ≤ k ∧ k ≤ 1000 ∧ r = .dt (.int (mixed n k))
theorem mixed_lt (n k : Int) : 0 ≤ mixed n k ∧ mixed n k < 2147483629 := by
  unfold mixed
  omega
theorem ok_mixed {f : Addr} {fd : FuncData} (F : Fun K "_law_mixed" "_law_mixed" s__law_mixed f fd) (T : Txt K mg CN CH CT) : FnOk P w K mg base (L2.CX P w) 1 f fd ["_law_number_here", "_law_k"] (spF K R_mixed noX) := by
  refine F.okX sc__law_mixed (spF_len (n := 2) (by rintro _ _ ⟨n, k, rfl, _⟩; rfl) (by rintro _ _ ⟨⟩)) (fun cdv A outer s H vs Q E hr h => ?_)
  obtain ⟨F0, ds, fh, hv, ⟨r, ⟨n, k, rfl, h0, h1, rfl⟩, q⟩ | ⟨_, h, _⟩⟩ := h
  · have S := Sts.init (N := ["_law_number_here", "_law_k"]) fh hv
    have b1 : 0 ≤ n % 2147483647 ∧ n % 2147483647 < 2147483647 := by omega
    have b2 : 0 ≤ 7919 * k ∧ 7919 * k ≤ 7919000 := by omega
    have b3 : 0 ≤ 7919 * k * k ∧ 7919 * k * k ≤ 7919000 * 1000 := ⟨Int.mul_nonneg b2.1 h0, Int.mul_le_mul b2.2 h1 h0 (by decide)⟩
    refine ⟨_, (pss_cons (ps_set (i := 0) sc__law_mixed.nd rfl (Or.inl rfl) (pe_op op_mod (pe_op op_mulY (pe_op op_add (pe_op op_add (pe_op op_mod (pv 0) pe_int) (pe_op op_mulY (pe_op op_mulY pe_int (pv 1)) (pv 1))) (pe_op op_mulY pe_int (pv 1))) pe_int) pe_int))
          (pss_one (ps_ret (pe_op op_mod (pe_op op_mulY (pv 0) (pe_op op_add pe_int (pe_op op_mulY pe_int (pv 1)))) pe_int)))), ?_⟩
    refine q_asg (r := .dt (.int ((n % 2147483647 + 7919 * k * k + 31 * k) * 48271 % 2147483647))) S (init_len hv (Nat.le_of_ble_eq_true rfl)) ?_ rfl rfl (Nat.le_of_ble_eq_true rfl) fun σ' F' H' S l => ?_
    · walk_at "ev"
    have b4 : 0 ≤ (n % 2147483647 + 7919 * k * k + 31 * k) * 48271 % 2147483647 ∧ (n % 2147483647 + 7919 * k * k + 31 * k) * 48271 % 2147483647 < 2147483647 := by omega
    unfold mixed at q
    generalize (n % 2147483647 + 7919 * k * k + 31 * k) * 48271 % 2147483647 = m at *
    refine st_ret S l ?_ rfl q
    walk_at "ev"
  · exact h.elim
abbrev iD (ns : List Int) : List PyData := ns.map .int
def number (ns : List Int) (k : Int) : Int := if ns = [] then mixed 17 k else mixed (ns.getD (k % (ns.length : Int)).toNat 0) k
theorem number_lt (ns : List Int) (k : Int) : 0 ≤ number ns k ∧ number ns k < 2147483629 := by
  unfold number
  split <;> exact mixed_lt _ _
def R_number (ds : List PyData) (r : Sl) : Prop := ∃ (ns : List Int) (k : Int), ds = [.list (iD ns), .int k] ∧ 0 ≤ k ∧ k ≤ 1000 ∧ r = .dt (.int (number ns k))
theorem atI_ints {ns : List Int} {i : Int} (h0 : 0 ≤ i) (h1 : i < ns.length) : atI (iD ns) i = some (.int (ns.getD i.toNat 0)) := by
  have e : ((i.toNat : Nat) : Int) = i := by omega
  have hl : i.toNat < ns.length := by omega
  have h2 : (iD ns)[i.toNat]? = some (.int (ns.getD i.toNat 0)) := by simp [List.getD, hl]
  have h3 := atI_nat h2
  rwa [e] at h3
theorem ok_number {f : Addr} {fd : FuncData} (F : Fun K "_law_number" "_law_number" s__law_number f fd) (T : Txt K mg CN CH CT) (d__law_mixed : DefOk P w K mg base 1 "_law_mixed" ["_law_number_here", "_law_k"] (spF K R_mixed noX) []) : FnOk P w K mg base (L2.CX P w) 2 f fd ["_law_script", "_law_k"] (spF K R_number noX) := by
  refine F.okX sc__law_number (spF_len (n := 2) (by rintro _ _ ⟨n, k, rfl, _⟩; rfl) (by rintro _ _ ⟨⟩)) (fun cdv A outer s H vs Q E hr h => ?_)
  obtain ⟨F0, ds, fh, hv, ⟨r, ⟨ns, k, rfl, h0, h1, rfl⟩, q⟩ | ⟨_, h, _⟩⟩ := h
  · have S := Sts.init (N := ["_law_script", "_law_k"]) fh hv
    have hu : (A.deeper (envOfC "_law_number" (defScope s__law_number) s.heap.objs.size f cdv)).units + 64 < cLine := hr.units
    refine ⟨_, (pss_cons (ps_if (pt_cmpR (r := rEqP K) (op_eqP hu) (pv 0) (pe_lst pa_nil) (nomark _)) (pss_one (ps_ret (pe_own d__law_mixed (hr.mono (by decide)) (by rfl) passL (pa_cons pe_int (pa_cons (pv 1) pa_nil))))) pss_nil)
          (pss_one (ps_ret (pe_own d__law_mixed (hr.mono (by decide)) (by rfl) passL (pa_cons (pe_ix (r := rIxL K) ix_list (pv 0) (pe_op op_mod (pv 1) (pe_callB (id := "len") (r := rLenR K) call_lenR (by rfl) T.len (by decide +kernel) (pa_cons (pv 0) pa_nil))) (fun _ _ => rfl)) (pa_cons (pv 1) pa_nil)))))), ?_⟩
    refine q_when S (init_len hv (Nat.le_of_ble_eq_true rfl)) (tv_test (ev_eqT (α := List Int) (a := ns) (b := []) (ev_var rfl) (ev_lst av_nil rfl (Nat.le_of_ble_eq_true rfl)) rfl rfl)) (fun hb F' H' S => ?_) (fun hb F' H' S => ?_)
    · have e : ns = [] := of_decide_eq_true hb
      unfold number at q
      rw [if_pos e] at q
      refine st_ret S (init_len hv (Nat.le_of_ble_eq_true rfl)) (ev_call0 (av_cons ev_int (av_cons (ev_var rfl) av_nil)) rfl ⟨17, k, rfl, h0, h1, rfl⟩) rfl q
    · have e : ¬ ns = [] := of_decide_eq_false hb
      unfold number at q
      rw [if_neg e] at q
      have hl : 0 < ns.length := List.length_pos_iff.mpr e
      have hk : 0 ≤ k % (ns.length : Int) ∧ k % (ns.length : Int) < ns.length := ⟨Int.emod_nonneg _ (by omega), Int.emod_lt_of_pos _ (by omega)⟩
      refine st_ret S (init_len hv (Nat.le_of_ble_eq_true rfl)) (ev_call0 (av_cons (ev_ixL (ev_var rfl) (ev_iC (ev_var rfl) (ev_len (ev_var rfl) rfl rfl) (by simp only [iD, List.length_map]; omega)) rfl (atI_ints (by simpa [iD] using hk.1) (by simpa [iD] using hk.2))) (av_cons (ev_var rfl) av_nil)) rfl ⟨_, k, rfl, h0, h1, ?_⟩) rfl q
      simp only [iD, List.length_map]
  · exact h.elim

/-! ### the greatest common divisor -/
def W1 (p : Nat × Nat) : List Sl := [.dt (.int (p.1 : Int)), .dt (.int (p.2 : Int)), .no, .no]
def lim : Nat := 2 ^ 4000
theorem lim_le : lim ≤ 2 ^ 9000 := Nat.pow_le_pow_right (by decide) (by decide)
theorem lim_big : lim ≤ 2 ^ bigN := Nat.pow_le_pow_right (by decide) (by decide)
def R_common (ds : List PyData) (r : Sl) : Prop := ∃ a b : Nat, ds = [.int (a : Int), .int (b : Int)] ∧ a < lim ∧ b < lim ∧ r = .dt (.int (Nat.gcd a b : Int))
theorem ok_common {f : Addr} {fd : FuncData} (F : Fun K "common" "common" s_common f fd) (T : Txt K mg CN CH CT) : FnOk P w K mg base (L2.CX P w) 1 f fd ["one", "other"] (spF K R_common noX) := by
  refine F.okX sc_common (spF_len (n := 2) (by rintro _ _ ⟨n, k, rfl, _⟩; rfl) (by rintro _ _ ⟨⟩)) (fun cdv A outer s H vs Q E hr h => ?_)
  obtain ⟨F0, ds, fh, hv, ⟨r, ⟨a, b, rfl, h0, h1, rfl⟩, q⟩ | ⟨_, h, _⟩⟩ := h
  · have S := Sts.init (N := ["one", "other", "many", "rest"]) fh hv
    have hu : (A.deeper (envOfC "common" (defScope s_common) s.heap.objs.size f cdv)).units + 64 < cLine := hr.units
    refine ⟨_, (pss_cons (ps_while PassesOwn.leaving (pt_cmpR (r := rNeP K) (op_neP hu) (pv 1) pe_int (nomark _)) (pss_cons (ps_asg (pe_callB (id := "divmod") (r := rDivm) call_divmodR (by rfl) T.divmod (by decide +kernel) (pa_cons (pv 0) (pa_cons (pv 1) pa_nil))) (pg_tup rfl (pgs_cons (pg_name (i := 2) sc_common.nd rfl (Or.inl rfl)) (pgs_cons (pg_name (i := 3) sc_common.nd rfl (Or.inl rfl)) pgs_nil))))
          (pss_cons (ps_set (i := 0) sc_common.nd rfl (Or.inl rfl) (pv 1))
          (pss_one (ps_set (i := 1) sc_common.nd rfl (Or.inl rfl) (pv 3))))))
          (pss_one (ps_ret (pv 0)))), ?_⟩
    refine q_while W1 (fun p => Nat.gcd p.1 p.2 = Nat.gcd a b ∧ p.1 < lim ∧ p.2 < lim) (fun p => p.2) (fun p => !decide ((p.2 : Int) = 0)) (a, b) S (init_len hv (Nat.le_of_ble_eq_true rfl)) (Wk.refl _) ⟨rfl, h0, h1⟩ (fun p hp => ?_) (fun p hp hb σ' F' H' S l => ?_) (fun p hp hb σ' F' H' S l => ?_)
    · exact tv_test (ev_neT (α := Int) (ev_var rfl) ev_int rfl rfl)
    · have hz : ¬ p.2 = 0 := by
        intro e
        rw [e] at hb
        exact absurd hb (by decide)
      refine q_two S l (ev_divmod (ev_var rfl) (ev_var rfl) ⟨by omega, ?_⟩) rfl (Nat.le_of_ble_eq_true rfl) (Nat.le_of_ble_eq_true rfl) fun σ' F' H' S l => ?_
      · exact Nat.lt_of_lt_of_le (by rw [Int.natAbs_natCast]; exact hp.2.2) lim_le
      refine q_asg S l (ev_var rfl) rfl rfl (Nat.le_of_ble_eq_true rfl) fun σ' F' H' S l => ?_
      refine st_asg S l (ev_var rfl) rfl rfl (Nat.le_of_ble_eq_true rfl) fun σ' F' H' S l => ?_
      have hm : p.1 % p.2 < p.2 := Nat.mod_lt _ (by omega)
      refine ⟨(p.2, p.1 % p.2), hm, ⟨?_, hp.2.2, Nat.lt_trans hm hp.2.2⟩, F', S.weak (.same rfl (.same ?_ (.no (.no .nil)))), l⟩
      · rw [← hp.1, Nat.gcd_comm p.2, ← Nat.gcd_rec, Nat.gcd_comm]
      · exact congrArg (fun z => Sl.dt (.int z)) (Int.natCast_emod p.1 p.2).symm
    · have hz : p.2 = 0 := by
        have := of_decide_eq_true (Bool.not_eq_false' .. ▸ hb : decide ((p.2 : Int) = 0) = true)
        omega
      have e : Nat.gcd a b = p.1 := by rw [← hp.1, hz, Nat.gcd_zero_right]
      rw [e] at q
      exact st_ret S l (ev_var rfl) rfl q
  · exact h.elim
/-! ### need_number, fraction -/
def R_need (ds : List PyData) (r : Sl) : Prop := ∃ z l : Int, ds = [.int z, .int l, .none] ∧ l ≤ z ∧ r = .dt (.int z)
def X_need (CN : Addr) (ds : List PyData) (C : Addr) : Prop := ∃ (d : PyData) (l : Int), ds = [d, .int l, .none] ∧ C = CN ∧ (isW d = false ∨ ∃ z, d = .int z ∧ z < l)
theorem ok_need_number {f : Addr} {fd : FuncData} (F : FunD K "need_number" "need_number" (defArgs s_need_number) (defBody s_need_number) (defScope s_need_number) [.non] [] f fd) (T : Txt K mg CN CH CT)
    (d_is_whole : DefOk P w K mg base 1 "is_whole" ["thing"] (spF K R_is_whole noX) []) : FnOk P w K mg base (L2.CX P w) 2 f fd ["thing", "least", "most"] (spF K R_need (X_need CN)) := by
  refine F.ok sc_need_number (spF_len (n := 3) (by rintro _ _ ⟨n, k, rfl, _⟩; rfl) (by rintro _ _ ⟨n, k, rfl, _⟩; rfl)) (fun cdv A outer s H vs Q E hr h => ?_)
  have hu : (A.deeper (envOfC "need_number" (defScope s_need_number) s.heap.objs.size f cdv)).units + 64 < cLine := hr.units
  obtain ⟨F0, ds, fh, hv, ⟨r, ⟨z, l, rfl, h0, rfl⟩, q⟩ | ⟨C, ⟨d, l, rfl, rfl, hx⟩, q⟩⟩ := h
  · have S := Sts.init (N := ["thing", "least", "most"]) fh hv
    refine ⟨_, (pss_cons (ps_if (PW.pt (pw_or (pt_not (pt_val (pe_own d_is_whole (hr.mono (by decide)) (by rfl) passL (pa_cons (pv 0) pa_nil)))) (pw_or1 (pt_cmpR op_lt (pv 0) (pv 1) (nomark _))))) (pss_one (ps_raise rfl (takes_of rfl rfl rfl rfl) (pmk_own PySem.F.excBase_ValueError T.x_BadNumber T.c_BadNumber T.k_BadNumber (raises_own T.b_BadNumber T.t_BadNumber) rfl))) pss_nil)
          (pss_cons (ps_if (PW.pt (pw_and (pt_cmpR op_notNR (pv 2) pe_non (nomark _)) (pw_and1 (pt_cmpR op_gt (pv 0) (pv 2) (nomark _))))) (pss_one (ps_raise rfl (takes_of rfl rfl rfl rfl) (pmk_own PySem.F.excBase_ValueError T.x_BadNumber T.c_BadNumber T.k_BadNumber (raises_own T.b_BadNumber T.t_BadNumber) rfl))) pss_nil)
          (pss_one (ps_ret (pv 0))))), ?_⟩
    refine q_when S (init_len hv (Nat.le_of_ble_eq_true rfl)) (b := false) (.to (tv_or (tv_not (tv_B (ev_call0 (av_cons (ev_var rfl) av_nil) rfl ⟨_, rfl, rfl⟩))) fun _ => tv_test (ev_ib (ev_var rfl) (ev_var rfl))) ?_) (fun hb => nomatch hb) (fun hb F' H' S => ?_)
    · show (!true || decide (z < l)) = false
      rw [decide_eq_false (by omega)]
      rfl
    refine q_when S (init_len hv (Nat.le_of_ble_eq_true rfl)) (b := false) (.to (tv_and (b := true) (tv_test (ev_notN (ev_var rfl) rfl)) fun h => nomatch h) rfl) (fun hb => nomatch hb) (fun hb F' H' S => ?_)
    exact st_ret S (init_len hv (Nat.le_of_ble_eq_true rfl)) (ev_var rfl) rfl q
  · have S := Sts.init (N := ["thing", "least", "most"]) fh hv
    refine ⟨_, (pss_cons (ps_if (PW.pt (pw_or (pt_not (pt_val (pe_own d_is_whole (hr.mono (by decide)) (by rfl) passL (pa_cons (pv 0) pa_nil)))) (pw_or1 (pt_cmpR op_lt (pv 0) (pv 1) (nomark _))))) (pss_one (ps_raise rfl (takes_of rfl rfl rfl rfl) (pmk_own PySem.F.excBase_ValueError T.x_BadNumber T.c_BadNumber T.k_BadNumber (raises_own T.b_BadNumber T.t_BadNumber) rfl))) pss_nil)
          (pss_cons (ps_if (PW.pt (pw_and (pt_cmpR op_notNR (pv 2) pe_non (nomark _)) (pw_and1 (pt_cmpR op_gt (pv 0) (pv 2) (nomark _))))) (pss_one (ps_raise rfl (takes_of rfl rfl rfl rfl) (pmk_own PySem.F.excBase_ValueError T.x_BadNumber T.c_BadNumber T.k_BadNumber (raises_own T.b_BadNumber T.t_BadNumber) rfl))) pss_nil)
          (pss_one (ps_ret (pv 0))))), ?_⟩
    refine q_when S (init_len hv (Nat.le_of_ble_eq_true rfl)) (b := true) (.to (tv_or (b := true) (tv_not (tv_B (ev_call0 (av_cons (ev_var rfl) av_nil) rfl ⟨_, rfl, rfl⟩))) fun hw => ?_) ?_) (fun hb F' H' S => ?_) (fun hb => nomatch hb)
    · have hw' : isW d = true := by
        cases e : isW d with
        | true => rfl
        | false => rw [e] at hw; cases hw
      rcases hx with hx | ⟨z, rfl, hz⟩
      · rw [hw'] at hx
        cases hx
      · exact .to (tv_test (ev_ib (ev_var rfl) (ev_var rfl))) (decide_eq_true hz)
    · rw [Bool.or_true]
    · exact q H' S.hh
theorem frac_gcd_pos {a : Int} {b : Int} (h : 1 ≤ b) : 0 < (Nat.gcd a.natAbs b.natAbs : Int) := by
  have := Nat.gcd_pos_of_pos_right a.natAbs (show 0 < b.natAbs by omega)
  omega
def frac (a b : Int) : Int × Int := (a / (Nat.gcd a.natAbs b.natAbs : Int), b / (Nat.gcd a.natAbs b.natAbs : Int))
abbrev pD (p : Int × Int) : PyData := .tuple [.int p.1, .int p.2]
def R_fraction (ds : List PyData) (r : Sl) : Prop := ∃ a b : Int, ds = [.int a, .int b] ∧ 1 ≤ b ∧ a.natAbs < lim ∧ b.natAbs < lim ∧ r = .dt (pD (frac a b))
def X_fraction (CN : Addr) (ds : List PyData) (C : Addr) : Prop := ∃ da db : PyData, ds = [da, db] ∧ C = CN ∧ (isW da = false ∨ (isW da = true ∧ (isW db = false ∨ ∃ z, db = .int z ∧ z < 1)))
theorem isW_int {d : PyData} (h : isW d = true) : ∃ z, d = .int z := by
  cases d with
  | int z => exact ⟨z, rfl⟩
  | _ => cases h
theorem ok_fraction {f : Addr} {fd : FuncData} (F : FunD K "fraction" "fraction" (defArgs s_fraction) (defBody s_fraction) (defScope s_fraction) [.int 1] [] f fd) (T : Txt K mg CN CH CT)
    (d_is_whole : DefOk P w K mg base 1 "is_whole" ["thing"] (spF K R_is_whole noX) []) (d_need_number_2 : DefOk P w K mg base 2 "need_number" ["thing", "least", "most"] (spF K R_need (X_need CN)) [.non])
    (d_common : DefOk P w K mg base 1 "common" ["one", "other"] (spF K R_common noX) []) : FnOk P w K mg base (L2.CX P w) 3 f fd ["above", "below"] (spF K R_fraction (X_fraction CN)) := by
  refine F.ok sc_fraction (spF_len (n := 2) (by rintro _ _ ⟨n, k, rfl, _⟩; rfl) (by rintro _ _ ⟨n, k, rfl, _⟩; rfl)) (fun cdv A outer s H vs Q E hr h => ?_)
  obtain ⟨F0, ds, fh, hv, ⟨r, ⟨a, b, rfl, h0, h1, h2, rfl⟩, q⟩ | ⟨C, ⟨da, db, rfl, rfl, hx⟩, q⟩⟩ := h
  · have S := Sts.init (N := ["above", "below", "shared"]) fh hv
    refine ⟨_, (pss_cons (ps_if (pt_not (pt_val (pe_own d_is_whole (hr.mono (by decide)) (by rfl) passL (pa_cons (pv 0) pa_nil)))) (pss_one (ps_raise rfl (takes_of rfl rfl rfl rfl) (pmk_own PySem.F.excBase_ValueError T.x_BadNumber T.c_BadNumber T.k_BadNumber (raises_own T.b_BadNumber T.t_BadNumber) rfl))) pss_nil)
          (pss_cons (ps_expr (pe_own d_need_number_2 (hr.mono (by decide)) (by rfl) (passes_call (takes_of rfl rfl rfl rfl) (fun _ _ _ _ h => h)) (pa_cons (pv 1) (pa_cons pe_int pa_nil))))
          (pss_cons (ps_set (i := 2) sc_fraction.nd rfl (Or.inl rfl) (pe_own d_common (hr.mono (by decide)) (by rfl) passL (pa_cons (pe_callB (id := "abs") (r := rAbs) call_absR (by rfl) T.abs (by decide +kernel) (pa_cons (pv 0) pa_nil)) (pa_cons (pv 1) pa_nil))))
          (pss_one (ps_ret (pe_tup (pa_cons (pe_op op_divY (pv 0) (pv 2)) (pa_cons (pe_op op_divY (pv 1) (pv 2)) pa_nil)))))))), ?_⟩
    refine q_when S (init_len hv (Nat.le_of_ble_eq_true rfl)) (b := false) (.to (tv_not (tv_B (ev_call0 (av_cons (ev_var rfl) av_nil) rfl ⟨.int a, rfl, rfl⟩))) rfl) (fun hb => nomatch hb) (fun hb F' H' S => ?_)
    refine q_drop S (init_len hv (Nat.le_of_ble_eq_true rfl)) (ev_call (R := R_need) (X := X_need CN) (es := [.none]) (av_cons (ev_var rfl) (av_cons ev_int av_nil)) rfl (fun _ => .cons .non .nil) ⟨b, 1, rfl, h0, rfl⟩) fun F' H' S => ?_
    have hg := frac_gcd_pos (a := a) h0
    have hgl : (Nat.gcd a.natAbs b.natAbs : Int).natAbs < 2 ^ 9000 := by
      rw [Int.natAbs_natCast]
      have hle : Nat.gcd a.natAbs b.natAbs ≤ b.natAbs := Nat.le_of_dvd (by omega) (Nat.gcd_dvd_right _ _)
      exact Nat.lt_of_lt_of_le (Nat.lt_of_le_of_lt hle h2) lim_le
    have hb : b = (b.natAbs : Int) := by omega
    refine q_asg S (init_len hv (Nat.le_of_ble_eq_true rfl)) (ev_call0 (r := .dt (.int (Nat.gcd a.natAbs b.natAbs : Int))) (av_cons (ev_abs (ev_var rfl)) (av_cons (ev_var rfl) av_nil)) rfl ⟨a.natAbs, b.natAbs, ?_, h1, h2, rfl⟩) rfl rfl (Nat.le_of_ble_eq_true rfl) fun σ' F' H' S l => ?_
    · show [PyData.int (a.natAbs : Int), PyData.int b] = [PyData.int (a.natAbs : Int), PyData.int (b.natAbs : Int)]
      rw [← hb]
    exact st_ret S l (ev_tup (av_cons (ev_iC (ev_var rfl) (ev_var rfl) ⟨hg, hgl⟩) (av_cons (ev_iC (ev_var rfl) (ev_var rfl) ⟨hg, hgl⟩) av_nil)) rfl (Nat.le_of_ble_eq_true rfl)) rfl q
  · have S := Sts.init (N := ["above", "below", "shared"]) fh hv
    refine ⟨_, (pss_cons (ps_if (pt_not (pt_val (pe_own d_is_whole (hr.mono (by decide)) (by rfl) passL (pa_cons (pv 0) pa_nil)))) (pss_one (ps_raise rfl (takes_of rfl rfl rfl rfl) (pmk_own PySem.F.excBase_ValueError T.x_BadNumber T.c_BadNumber T.k_BadNumber (raises_own T.b_BadNumber T.t_BadNumber) rfl))) pss_nil)
          (pss_cons (ps_expr (pe_own d_need_number_2 (hr.mono (by decide)) (by rfl) (passes_call (takes_of rfl rfl rfl rfl) (fun _ _ _ _ h => h)) (pa_cons (pv 1) (pa_cons pe_int pa_nil))))
          (pss_cons (ps_set (i := 2) sc_fraction.nd rfl (Or.inl rfl) (pe_own d_common (hr.mono (by decide)) (by rfl) passL (pa_cons (pe_callB (id := "abs") (r := rAbs) call_absR (by rfl) T.abs (by decide +kernel) (pa_cons (pv 0) pa_nil)) (pa_cons (pv 1) pa_nil))))
          (pss_one (ps_ret (pe_tup (pa_cons (pe_op op_divY (pv 0) (pv 2)) (pa_cons (pe_op op_divY (pv 1) (pv 2)) pa_nil)))))))), ?_⟩
    refine q_when S (init_len hv (Nat.le_of_ble_eq_true rfl)) (tv_not (tv_B (ev_call0 (av_cons (ev_var rfl) av_nil) rfl ⟨da, rfl, rfl⟩))) (fun hb F' H' S => ?_) (fun hb F' H' S => ?_)
    · exact q H' S.hh
    · have hw : isW da = true := by
        cases e : isW da with
        | true => rfl
        | false => rw [e] at hb; cases hb
      rcases hx with hx | ⟨_, hx⟩
      · rw [hw] at hx
        cases hx
      refine st_raiseE (D := { nx := _, rt := _ }) S (init_len hv (Nat.le_of_ble_eq_true rfl)) (es := [.none]) (C := C) (av_cons (ev_var rfl) (av_cons ev_int av_nil)) rfl (fun _ => .cons .non .nil) ⟨db, 1, rfl, rfl, hx⟩ fun F' H' S => q H' S.hh
/-! ### sums and products -/
def mid : Nat := 2 ^ 1900
theorem mid_big : mid ≤ 2 ^ bigN := Nat.pow_le_pow_right (by decide) (by decide)
theorem mid_lim : mid ≤ lim := Nat.pow_le_pow_right (by decide) (by decide)
theorem lim38 : (2 : Nat) ^ 3800 + 2 ^ 3800 ≤ lim := by
  show (2 : Nat) ^ 3800 + 2 ^ 3800 ≤ 2 ^ 4000
  have h : (2 : Nat) ^ 4000 = 2 ^ 3800 * 2 ^ 200 := (Nat.pow_add 2 3800 200)
  rw [h]
  have h2 : (2 : Nat) ≤ 2 ^ 200 := by decide
  have := Nat.mul_le_mul_left (2 ^ 3800) h2
  omega
theorem mid_mul {a b : Int} (h1 : a.natAbs < mid) (h2 : b.natAbs < mid) : (a * b).natAbs < 2 ^ 3800 := by
  rw [Int.natAbs_mul]
  have e : (2 : Nat) ^ 3800 = mid * mid := (Nat.pow_add 2 1900 1900)
  rw [e]
  exact Nat.mul_lt_mul'' h1 h2
theorem mid_add {a b : Int} (h1 : a.natAbs < 2 ^ 3800) (h2 : b.natAbs < 2 ^ 3800) : (a + b).natAbs < lim := by
  have h := Int.natAbs_add_le a b
  have := lim38
  omega
theorem mulY {a b : Int} (h1 : a.natAbs < mid) (h2 : b.natAbs < mid) : CMulY a b := ⟨Nat.lt_of_lt_of_le h1 mid_big, Nat.lt_of_lt_of_le h2 mid_big⟩
structure Fr (p : Int × Int) : Prop where
  pos : 1 ≤ p.2
  u : p.1.natAbs < mid
  d : p.2.natAbs < mid
theorem mul_pos1 {a b : Int} (h1 : 1 ≤ a) (h2 : 1 ≤ b) : 1 ≤ a * b := by
  have := Int.mul_le_mul h1 h2 (by decide) (by omega)
  omega
theorem lt38 {n : Nat} (h : n < 2 ^ 3800) : n < lim := by
  have := lim38
  omega
def sumF (p q : Int × Int) : Int × Int := frac (p.1 * q.2 + q.1 * p.2) (p.2 * q.2)
def prodF (p q : Int × Int) : Int × Int := frac (p.1 * q.1) (p.2 * q.2)
def R_sum (ds : List PyData) (r : Sl) : Prop := ∃ p q, ds = [pD p, pD q] ∧ Fr p ∧ Fr q ∧ r = .dt (pD (sumF p q))
def R_prod (ds : List PyData) (r : Sl) : Prop := ∃ p q, ds = [pD p, pD q] ∧ Fr p ∧ Fr q ∧ r = .dt (pD (prodF p q))
theorem ok_sum_of {f : Addr} {fd : FuncData} (F : Fun K "sum_of" "sum_of" s_sum_of f fd) (T : Txt K mg CN CH CT)
    (d_fraction : DefOk P w K mg base 3 "fraction" ["above", "below"] (spF K R_fraction (X_fraction CN)) []) : FnOk P w K mg base (L2.CX P w) 4 f fd ["one", "other"] (spF K R_sum noX) := by
  refine F.okX sc_sum_of (spF_len (n := 2) (by rintro _ _ ⟨n, k, rfl, _⟩; rfl) (by rintro _ _ ⟨⟩)) (fun cdv A outer s H vs Q E hr h => ?_)
  obtain ⟨F0, ds, fh, hv, ⟨r, ⟨p, q', rfl, hp, hq, rfl⟩, q⟩ | ⟨_, h, _⟩⟩ := h
  · have S := Sts.init (N := ["one", "other"]) fh hv
    refine ⟨_, (pss_one (ps_ret (pe_own d_fraction (hr.mono (by decide)) (by rfl) (passes_call (takes_of rfl rfl rfl rfl) (fun _ _ _ _ h => h)) (pa_cons (pe_op op_add (pe_op op_mulY (pe_ix (r := rIxT K) ix_tup (pv 0) pe_int (fun _ _ => rfl)) (pe_ix (r := rIxT K) ix_tup (pv 1) pe_int (fun _ _ => rfl))) (pe_op op_mulY (pe_ix (r := rIxT K) ix_tup (pv 1) pe_int (fun _ _ => rfl)) (pe_ix (r := rIxT K) ix_tup (pv 0) pe_int (fun _ _ => rfl)))) (pa_cons (pe_op op_mulY (pe_ix (r := rIxT K) ix_tup (pv 0) pe_int (fun _ _ => rfl)) (pe_ix (r := rIxT K) ix_tup (pv 1) pe_int (fun _ _ => rfl))) pa_nil))))), ?_⟩
    have i1 : EvR K (tOp (rIxT K) (tVar 0) (tC (.int 0))) [.dt (pD p), .dt (pD q')] (.dt (.int p.1)) := ev_ixT (ev_var rfl) ev_int rfl rfl
    have i2 : EvR K (tOp (rIxT K) (tVar 0) (tC (.int 1))) [.dt (pD p), .dt (pD q')] (.dt (.int p.2)) := ev_ixT (ev_var rfl) ev_int rfl rfl
    have i3 : EvR K (tOp (rIxT K) (tVar 1) (tC (.int 0))) [.dt (pD p), .dt (pD q')] (.dt (.int q'.1)) := ev_ixT (ev_var rfl) ev_int rfl rfl
    have i4 : EvR K (tOp (rIxT K) (tVar 1) (tC (.int 1))) [.dt (pD p), .dt (pD q')] (.dt (.int q'.2)) := ev_ixT (ev_var rfl) ev_int rfl rfl
    refine st_ret S (init_len hv (Nat.le_of_ble_eq_true rfl)) (ev_call0 (av_cons (ev_ii (ev_iC i1 i4 (mulY hp.u hq.d)) (ev_iC i3 i2 (mulY hq.u hp.d))) (av_cons (ev_iC i2 i4 (mulY hp.d hq.d)) av_nil)) rfl ⟨_, _, rfl, mul_pos1 hp.pos hq.pos, mid_add (mid_mul hp.u hq.d) (mid_mul hq.u hp.d), lt38 (mid_mul hp.d hq.d), rfl⟩) rfl q
  · exact h.elim
/-! ### fractions put shortest -/
theorem frac_nat {a b : Int} (h : 1 ≤ b) : ∃ (g : Nat) (a' b' : Int), a = g * a' ∧ b = g * b' ∧ frac a b = (a', b') ∧ Nat.gcd a'.natAbs b'.natAbs = 1 ∧ 1 ≤ b' ∧ a'.natAbs ≤ a.natAbs ∧ b'.natAbs ≤ b.natAbs := by
  have hg : 0 < Nat.gcd a.natAbs b.natAbs := Nat.gcd_pos_of_pos_right _ (by omega)
  obtain ⟨a', ha⟩ : ((Nat.gcd a.natAbs b.natAbs : Nat) : Int) ∣ a := Int.ofNat_dvd_left.mpr (Nat.gcd_dvd_left _ _)
  obtain ⟨b', hb⟩ : ((Nat.gcd a.natAbs b.natAbs : Nat) : Int) ∣ b := Int.ofNat_dvd_left.mpr (Nat.gcd_dvd_right _ _)
  have ef : frac a b = (a / (Nat.gcd a.natAbs b.natAbs : Int), b / (Nat.gcd a.natAbs b.natAbs : Int)) := rfl
  generalize hgd : Nat.gcd a.natAbs b.natAbs = g at *
  have gz : (g : Int) ≠ 0 := by omega
  have e1 : a / (g : Int) = a' := Int.ediv_eq_of_eq_mul_right gz ha
  have e2 : b / (g : Int) = b' := Int.ediv_eq_of_eq_mul_right gz hb
  have n1 : a.natAbs = g * a'.natAbs := by rw [ha, Int.natAbs_mul, Int.natAbs_natCast]
  have n2 : b.natAbs = g * b'.natAbs := by rw [hb, Int.natAbs_mul, Int.natAbs_natCast]
  have b0 : 0 ≤ b' := by
    rw [← e2]
    exact Int.ediv_nonneg (by omega) (by omega)
  have b1 : b' ≠ 0 := fun e => by
    rw [e, Int.mul_zero] at hb
    omega
  refine ⟨g, a', b', ha, hb, by rw [ef, e1, e2], ?_, by omega, ?_, ?_⟩
  · rw [n1, n2, Nat.gcd_mul_left] at hgd
    exact Nat.eq_of_mul_eq_mul_left hg (by rw [hgd, Nat.mul_one])
  · rw [n1]
    exact Nat.le_mul_of_pos_left _ hg
  · rw [n2]
    exact Nat.le_mul_of_pos_left _ hg
theorem frac_cross {a b : Int} (h : 1 ≤ b) : (frac a b).1 * b = a * (frac a b).2 := by
  obtain ⟨g, a', b', ha, hb, e, _⟩ := frac_nat (a := a) h
  rw [e]
  show a' * b = a * b'
  rw [hb, ha]
  ac_rfl
theorem frac_one (a : Int) : frac a 1 = (a, 1) := by
  unfold frac
  have e : Nat.gcd a.natAbs (1 : Int).natAbs = 1 := Nat.gcd_one_right _
  rw [e]
  simp
/-- a fraction as due, its numbers below 2 ^ m -/
structure Ok (m : Nat) (p : Int × Int) : Prop where
  pos : 1 ≤ p.2
  g : Nat.gcd p.1.natAbs p.2.natAbs = 1
  u : p.1.natAbs < 2 ^ m
  d : p.2.natAbs < 2 ^ m
theorem pow_le_mid {m n : Nat} (hm : m ≤ 1900) (h : n < 2 ^ m) : n < mid := Nat.lt_of_lt_of_le h (Nat.pow_le_pow_right (by decide) hm)
theorem Ok.fr {m : Nat} {p : Int × Int} (h : Ok m p) (hm : m ≤ 1900) : Fr p := ⟨h.pos, pow_le_mid hm h.u, pow_le_mid hm h.d⟩
theorem frac_ok {a b : Int} {m : Nat} (h : 1 ≤ b) (ha : a.natAbs < 2 ^ m) (hb : b.natAbs < 2 ^ m) : Ok m (frac a b) := by
  obtain ⟨g, a', b', _, _, e, h1, h2, h3, h4⟩ := frac_nat (a := a) h
  rw [e]
  exact ⟨h2, h1, Nat.lt_of_le_of_lt h3 ha, Nat.lt_of_le_of_lt h4 hb⟩
theorem mul_lt_pow {a b : Int} {m n : Nat} (ha : a.natAbs < 2 ^ m) (hb : b.natAbs < 2 ^ n) : (a * b).natAbs < 2 ^ (m + n) := by
  rw [Int.natAbs_mul, Nat.pow_add]
  exact Nat.mul_lt_mul'' ha hb
theorem sum_ok {p q : Int × Int} {m n : Nat} (hp : Ok m p) (hq : Ok n q) : Ok (m + n + 1) (sumF p q) := by
  refine frac_ok (mul_pos1 hp.pos hq.pos) ?_ ?_
  · have h1 := mul_lt_pow hp.u hq.d
    have h2 := mul_lt_pow hq.u hp.d
    rw [Nat.add_comm n m] at h2
    have h3 := Int.natAbs_add_le (p.1 * q.2) (q.1 * p.2)
    rw [Nat.pow_succ]
    omega
  · have h1 := mul_lt_pow hp.d hq.d
    rw [Nat.pow_succ]
    omega
theorem prod_ok {p q : Int × Int} {m n : Nat} (hp : Ok m p) (hq : Ok n q) : Ok (m + n + 1) (prodF p q) := by
  refine frac_ok (mul_pos1 hp.pos hq.pos) ?_ ?_
  · have h1 := mul_lt_pow hp.u hq.u
    rw [Nat.pow_succ]
    omega
  · have h1 := mul_lt_pow hp.d hq.d
    rw [Nat.pow_succ]
    omega

theorem ok_product_of {f : Addr} {fd : FuncData} (F : Fun K "product_of" "product_of" s_product_of f fd) (T : Txt K mg CN CH CT)
    (d_fraction : DefOk P w K mg base 3 "fraction" ["above", "below"] (spF K R_fraction (X_fraction CN)) []) : FnOk P w K mg base (L2.CX P w) 4 f fd ["one", "other"] (spF K R_prod noX) := by
  refine F.okX sc_product_of (spF_len (n := 2) (by rintro _ _ ⟨n, k, rfl, _⟩; rfl) (by rintro _ _ ⟨⟩)) (fun cdv A outer s H vs Q E hr h => ?_)
  obtain ⟨F0, ds, fh, hv, ⟨r, ⟨p, q', rfl, hp, hq, rfl⟩, q⟩ | ⟨_, h, _⟩⟩ := h
  · have S := Sts.init (N := ["one", "other"]) fh hv
    refine ⟨_, (pss_one (ps_ret (pe_own d_fraction (hr.mono (by decide)) (by rfl) (passes_call (takes_of rfl rfl rfl rfl) (fun _ _ _ _ h => h)) (pa_cons (pe_op op_mulY (pe_ix (r := rIxT K) ix_tup (pv 0) pe_int (fun _ _ => rfl)) (pe_ix (r := rIxT K) ix_tup (pv 1) pe_int (fun _ _ => rfl))) (pa_cons (pe_op op_mulY (pe_ix (r := rIxT K) ix_tup (pv 0) pe_int (fun _ _ => rfl)) (pe_ix (r := rIxT K) ix_tup (pv 1) pe_int (fun _ _ => rfl))) pa_nil))))), ?_⟩
    have i1 : EvR K (tOp (rIxT K) (tVar 0) (tC (.int 0))) [.dt (pD p), .dt (pD q')] (.dt (.int p.1)) := ev_ixT (ev_var rfl) ev_int rfl rfl
    have i2 : EvR K (tOp (rIxT K) (tVar 0) (tC (.int 1))) [.dt (pD p), .dt (pD q')] (.dt (.int p.2)) := ev_ixT (ev_var rfl) ev_int rfl rfl
    have i3 : EvR K (tOp (rIxT K) (tVar 1) (tC (.int 0))) [.dt (pD p), .dt (pD q')] (.dt (.int q'.1)) := ev_ixT (ev_var rfl) ev_int rfl rfl
    have i4 : EvR K (tOp (rIxT K) (tVar 1) (tC (.int 1))) [.dt (pD p), .dt (pD q')] (.dt (.int q'.2)) := ev_ixT (ev_var rfl) ev_int rfl rfl
    refine st_ret S (init_len hv (Nat.le_of_ble_eq_true rfl)) (ev_call0 (av_cons (ev_iC i1 i3 (mulY hp.u hq.u)) (av_cons (ev_iC i2 i4 (mulY hp.d hq.d)) av_nil)) rfl ⟨_, _, rfl, mul_pos1 hp.pos hq.pos, lt38 (mid_mul hp.u hq.u), lt38 (mid_mul hp.d hq.d), rfl⟩) rfl q
  · exact h.elim

theorem ok__law_common {f : Addr} {fd : FuncData} (F : Fun K "_law_common" "_law_common" s__law_common f fd) (T : Txt K mg CN CH CT) : FnOk P w K mg base (L2.CX P w) 1 f fd ["_law_one", "_law_other"] (spF K R_common noX) := by
  refine F.okX sc__law_common (spF_len (n := 2) (by walk_at "sl") (by rintro _ _ ⟨⟩)) (fun cdv A outer s H vs Q E hr h => ?_)
  obtain ⟨F0, ds, fh, hv, ⟨r, ⟨a, b, rfl, h0, h1, rfl⟩, q⟩ | ⟨_, h, _⟩⟩ := h
  · --
    have S := Sts.init (N := ["_law_one", "_law_other"]) fh hv
    have hu : (A.deeper (envOfC "_law_common" (defScope s__law_common) s.heap.objs.size f cdv)).units + 64 < cLine := hr.units
    refine ⟨_, (pss_cons (ps_while PassesOwn.leaving (pt_cmpR op_gt (pv 1) pe_int (nomark _)) (pss_one (ps_par (i := 0) (j := 1) rfl sc__law_common.nd rfl rfl (by decide) rfl rfl (pa_cons (pv 1) (pa_cons (pe_op op_sub (pv 0) (pe_op op_mulY (pe_op op_divY (pv 0) (pv 1)) (pv 1))) pa_nil)) rfl)))
          (pss_one (ps_ret (pv 0)))), ?_⟩
    refine q_while (fun p : Nat × Nat => [.dt (.int (p.1 : Int)), .dt (.int (p.2 : Int))]) (fun p => Nat.gcd p.1 p.2 = Nat.gcd a b ∧ p.1 < lim ∧ p.2 < lim) (fun p => p.2) (fun p => decide ((0 : Int) < (p.2 : Int))) (a, b) S (init_len hv (Nat.le_of_ble_eq_true rfl)) (Wk.refl _) ⟨rfl, h0, h1⟩ (fun p hp => ?_) (fun p hp hb σ' F' H' S l => ?_) (fun p hp hb σ' F' H' S l => ?_)
    · exact tv_test (ev_ib (ev_var rfl) ev_int)
    · have hz : (0 : Int) < (p.2 : Int) := of_decide_eq_true hb
      have hd : ((p.1 : Int) / (p.2 : Int)).natAbs < 2 ^ bigN := by
        have e : ((p.1 : Int) / (p.2 : Int)) = ((p.1 / p.2 : Nat) : Int) := (Int.natCast_ediv p.1 p.2).symm
        rw [e, Int.natAbs_natCast]
        exact Nat.lt_of_le_of_lt (Nat.div_le_self _ _) (Nat.lt_of_lt_of_le hp.2.1 lim_big)
      have hm : p.1 % p.2 < p.2 := Nat.mod_lt _ (by omega)
      refine st_par S l (ev_var rfl) (ev_ii (ev_var rfl) (ev_iC (ev_iC (ev_var rfl) (ev_var rfl) ⟨hz, ?_⟩) (ev_var rfl) ⟨hd, ?_⟩)) rfl (Nat.le_of_ble_eq_true rfl) (Nat.le_of_ble_eq_true rfl) fun σ' F' H' S l => ?_
      · exact Nat.lt_of_lt_of_le (by rw [Int.natAbs_natCast]; exact hp.2.2) lim_le
      · exact Nat.lt_of_lt_of_le (by rw [Int.natAbs_natCast]; exact hp.2.2) lim_big
      refine ⟨(p.2, p.1 % p.2), hm, ⟨?_, hp.2.2, Nat.lt_trans hm hp.2.2⟩, F', S.wk2 (.same rfl (.same ?_ .nil)), l⟩
      · rw [← hp.1, Nat.gcd_comm p.2, ← Nat.gcd_rec, Nat.gcd_comm]
      · refine congrArg (fun z => Sl.dt (.int z)) ?_
        show (p.1 : Int) - (p.1 : Int) / (p.2 : Int) * (p.2 : Int) = ((p.1 % p.2 : Nat) : Int)
        rw [Int.natCast_emod, Int.emod_def, Int.mul_comm]
    · have hz : p.2 = 0 := by
        have := of_decide_eq_false hb
        omega
      have e : Nat.gcd a b = p.1 := by rw [← hp.1, hz, Nat.gcd_zero_right]
      rw [e] at q
      exact st_ret S l (ev_var rfl) rfl q
  · exact h.elim

/-! ### shares and rarities -/
def GoodN (d : PyData) : Prop := ∃ z, d = .int z ∧ 0 ≤ z
def BadN (d : PyData) : Prop := isW d = false ∨ ∃ z, d = .int z ∧ z < 0
theorem good_or (d : PyData) : GoodN d ∨ BadN d := by
  cases hw : isW d with
  | false => exact .inr (.inl hw)
  | true =>
    obtain ⟨z, rfl⟩ := isW_int hw
    by_cases h : 0 ≤ z
    · exact .inl ⟨z, rfl, h⟩
    · exact .inr (.inr ⟨z, rfl, by omega⟩)
theorem good_bad {d : PyData} (h1 : GoodN d) (h2 : BadN d) : False := by
  obtain ⟨z, rfl, hz⟩ := h1
  rcases h2 with h | ⟨y, e, hy⟩
  · cases h
  · cases e
    omega
abbrev B40 (z : Int) : Prop := 0 ≤ z ∧ z.natAbs < 2 ^ 40
theorem b40_of {z : Int} (h0 : 0 ≤ z) (h1 : z ≤ 1099511627775) : B40 z := ⟨h0, by omega⟩
theorem lt_mid {m : Nat} {a : Int} (h : a.natAbs < 2 ^ m) (hm : m ≤ 1900) : a.natAbs < mid := pow_le_mid hm h
theorem lt_lim {m : Nat} {a : Int} (h : a.natAbs < 2 ^ m) (hm : m ≤ 1900) : a.natAbs < lim := Nat.lt_of_lt_of_le (lt_mid h hm) mid_lim
theorem mulP {m n : Nat} {a b : Int} (h1 : a.natAbs < 2 ^ m) (h2 : b.natAbs < 2 ^ n) (hm : m ≤ 1900) (hn : n ≤ 1900) : CMulY a b := mulY (lt_mid h1 hm) (lt_mid h2 hn)
theorem add_lt_pow {a b : Int} {m : Nat} (ha : a.natAbs < 2 ^ m) (hb : b.natAbs < 2 ^ m) : (a + b).natAbs < 2 ^ (m + 1) := by
  have := Int.natAbs_add_le a b
  rw [Nat.pow_succ]
  omega
theorem up_pow {a : Int} {m n : Nat} (h : a.natAbs < 2 ^ m) (hm : m ≤ n) : a.natAbs < 2 ^ n := Nat.lt_of_lt_of_le h (Nat.pow_le_pow_right (by decide) hm)
theorem succ_lt {z : Int} (h : B40 z) : (z + 1).natAbs < 2 ^ 41 := by
  have := h.2
  have := h.1
  omega
def shA (c t : Int) : Int := 2 * c * t
def shB (c s m t : Int) : Int := (c + 1) * t + s * m
theorem shA_b {c t : Int} (hc : B40 c) (ht : B40 t) : (2 * c).natAbs < 2 ^ 42 ∧ (shA c t).natAbs < 2 ^ 90 := by
  have h1 : (2 * c).natAbs < 2 ^ 42 := by
    have := hc.2
    omega
  exact ⟨h1, up_pow (mul_lt_pow h1 ht.2) (by decide)⟩
theorem shB_b {c s m t : Int} (hc : B40 c) (hs : B40 s) (hm : B40 m) (ht : B40 t) : (shB c s m t).natAbs < 2 ^ 90 := by
  have h1 := up_pow (mul_lt_pow (succ_lt hc) ht.2) (show 41 + 40 ≤ 81 by decide)
  have h2 := up_pow (mul_lt_pow hs.2 hm.2) (show 40 + 40 ≤ 81 by decide)
  exact up_pow (add_lt_pow h1 h2) (by decide)
theorem shB_pos {c s m t : Int} (hc : 0 ≤ c) (hs : 0 ≤ s) (hm : 0 ≤ m) (ht : 1 ≤ t) : 1 ≤ shB c s m t := by
  have h1 := mul_pos1 (show 1 ≤ c + 1 by omega) ht
  have h2 := Int.mul_nonneg hs hm
  unfold shB
  omega
def shareF (c s m t : Int) : Int × Int := if c = 0 then (0, 1) else frac (shA c t) (shB c s m t)
def rarF (m f : Int) : Int × Int := frac (m + 1) (f + 1)
theorem share_ok {c s m t : Int} (hc : B40 c) (hs : B40 s) (hm : B40 m) (ht : B40 t) (h : c = 0 ∨ 1 ≤ t) : Ok 90 (shareF c s m t) := by
  unfold shareF
  split
  · exact ⟨by decide, by decide, by decide, by decide⟩
  · rename_i hn
    rcases h with h | h
    · exact absurd h hn
    · exact frac_ok (shB_pos hc.1 hs.1 hm.1 h) (shA_b hc ht).2 (shB_b hc hs hm ht)
theorem rar_ok {m f : Int} (hm : B40 m) (hf : B40 f) : Ok 41 (rarF m f) := frac_ok (by have := hf.1; omega) (succ_lt hm) (succ_lt hf)
def R_share (ds : List PyData) (r : Sl) : Prop := ∃ c s m t : Int, ds = [.int c, .int s, .int m, .int t] ∧ B40 c ∧ B40 s ∧ B40 m ∧ B40 t ∧ (c = 0 ∨ 1 ≤ t) ∧ r = .dt (pD (shareF c s m t))
def X_share (CN : Addr) (ds : List PyData) (C : Addr) : Prop := ∃ d0 d1 d2 d3 : PyData, ds = [d0, d1, d2, d3] ∧ (BadN d0 ∨ BadN d1 ∨ BadN d2 ∨ BadN d3) ∧ C = CN
theorem ok_share_of {f : Addr} {fd : FuncData} (F : Fun K "share_of" "share_of" s_share_of f fd) (T : Txt K mg CN CH CT)
    (d_need_number_2 : DefOk P w K mg base 2 "need_number" ["thing", "least", "most"] (spF K R_need (X_need CN)) [.non])
    (d_fraction : DefOk P w K mg base 3 "fraction" ["above", "below"] (spF K R_fraction (X_fraction CN)) []) : FnOk P w K mg base (L2.CX P w) 4 f fd ["count", "size", "many", "total"] (spF K R_share (X_share CN)) := by
  refine F.okX sc_share_of (spF_len (n := 4) (by walk_at "sl") (by walk_at "sl")) (fun cdv A outer s H vs Q E hr h => ?_)
  obtain ⟨F0, ds, fh, hv, ⟨r, ⟨c, s', m, t, rfl, hc, hs, hm, ht, h0, rfl⟩, q⟩ | ⟨C, ⟨d0, d1, d2, d3, rfl, hbad, rfl⟩, q⟩⟩ := h
  · --
    have S := Sts.init (N := ["count", "size", "many", "total", "number"]) fh hv
    have hu : (A.deeper (envOfC "share_of" (defScope s_share_of) s.heap.objs.size f cdv)).units + 64 < cLine := hr.units
    refine ⟨_, (pss_cons (ps_for PassesOwn.leaving rfl (pi_tup (pe_tup (pa_cons (pv 0) (pa_cons (pv 1) (pa_cons (pv 2) (pa_cons (pv 3) pa_nil)))))) (pg_name (i := 4) sc_share_of.nd rfl (Or.inl rfl)) (pss_one (ps_expr (pe_own d_need_number_2 (hr.mono (by decide)) (by rfl) (passes_call (takes_of rfl rfl rfl rfl) (fun _ _ _ _ h => h)) (pa_cons (pv 4) (pa_cons pe_int pa_nil))))))
          (pss_cons (ps_if (pt_cmpR (r := rEqP K) (op_eqP hu) (pv 0) pe_int (nomark _)) (pss_one (ps_ret (pe_tup (pa_cons pe_int (pa_cons pe_int pa_nil))))) pss_nil)
          (pss_one (ps_ret (pe_own d_fraction (hr.mono (by decide)) (by rfl) (passes_call (takes_of rfl rfl rfl rfl) (fun _ _ _ _ h => h)) (pa_cons (pe_op op_mulY (pe_op op_mulY pe_int (pv 0)) (pv 3)) (pa_cons (pe_op op_add (pe_op op_mulY (pe_op op_add (pv 0) pe_int) (pv 3)) (pe_op op_mulY (pv 1) (pv 2))) pa_nil))))))), ?_⟩
    refine q_forT (ds := iD [c, s', m, t]) S (init_len hv (Nat.le_of_ble_eq_true rfl)) (ev_tup (av_cons (ev_var rfl) (av_cons (ev_var rfl) (av_cons (ev_var rfl) (av_cons (ev_var rfl) av_nil)))) rfl (Nat.le_of_ble_eq_true rfl)) (fun k => [.dt (.int c), .dt (.int s'), .dt (.int m), .dt (.int t), .no]) (Wk.refl _) (fun k d p hd x σ' F' H' hx S l => ?_) (fun σ' F' H' S l => ?_)
    · obtain ⟨hk, rfl⟩ := map_at (0 : Int) hd
      have hz : 0 ≤ [c, s', m, t].getD k 0 := by
        have hmem := Fh.getD_mem (d := (0 : Int)) hk
        simp only [List.mem_cons, List.not_mem_nil, or_false] at hmem
        rcases hmem with e | e | e | e <;> rw [e]
        · exact hc.1
        · exact hs.1
        · exact hm.1
        · exact ht.1
      generalize [c, s', m, t].getD k 0 = z at *
      refine g_name S l (Nat.le_of_ble_eq_true rfl) hx rfl fun σ' F' H' S l => ?_
      refine st_drop S l (ev_call (R := R_need) (X := X_need CN) (es := [.none]) (av_cons (ev_var rfl) (av_cons ev_int av_nil)) rfl (fun _ => .cons .non .nil) ⟨z, 0, rfl, hz, rfl⟩) fun F' H' S => ?_
      exact ⟨F', S.wk2 (.same rfl (.same rfl (.same rfl (.same rfl (.no .nil))))), l⟩
    refine q_when S l (tv_test (ev_eqT (α := Int) (a := c) (b := 0) (ev_var rfl) ev_int rfl rfl)) (fun hb F' H' S => ?_) (fun hb F' H' S => ?_)
    · have e : shareF c s' m t = (0, 1) := if_pos (of_decide_eq_true hb)
      rw [e] at q
      exact st_ret S l (ev_tup (av_cons ev_int (av_cons ev_int av_nil)) rfl (Nat.le_of_ble_eq_true rfl)) rfl q
    have hn : ¬ c = 0 := of_decide_eq_false hb
    have e : shareF c s' m t = frac (shA c t) (shB c s' m t) := if_neg hn
    rw [e] at q
    have ht1 : 1 ≤ t := h0.resolve_left hn
    have b1 := shA_b hc ht
    have b2 := shB_b hc hs hm ht
    exact st_ret S l (ev_call0 (R := R_fraction) (X := X_fraction CN) (r := .dt (pD (frac (shA c t) (shB c s' m t)))) (av_cons (ev_iC (ev_iC ev_int (ev_var rfl) (mulP (m := 2) (n := 40) (by decide) hc.2 (by decide) (by decide))) (ev_var rfl) (mulP b1.1 ht.2 (by decide) (by decide))) (av_cons (ev_ii (ev_iC (ev_ii (ev_var rfl) ev_int) (ev_var rfl) (mulP (succ_lt hc) ht.2 (by decide) (by decide))) (ev_iC (ev_var rfl) (ev_var rfl) (mulP hs.2 hm.2 (by decide) (by decide)))) av_nil)) rfl ⟨shA c t, shB c s' m t, rfl, shB_pos hc.1 hs.1 hm.1 ht1, lt_lim b1.2 (by decide), lt_lim b2 (by decide), rfl⟩) rfl q
  · --
    have S := Sts.init (N := ["count", "size", "many", "total", "number"]) fh hv
    have hu : (A.deeper (envOfC "share_of" (defScope s_share_of) s.heap.objs.size f cdv)).units + 64 < cLine := hr.units
    refine ⟨_, (pss_cons (ps_for PassesOwn.leaving rfl (pi_tup (pe_tup (pa_cons (pv 0) (pa_cons (pv 1) (pa_cons (pv 2) (pa_cons (pv 3) pa_nil)))))) (pg_name (i := 4) sc_share_of.nd rfl (Or.inl rfl)) (pss_one (ps_expr (pe_own d_need_number_2 (hr.mono (by decide)) (by rfl) (passes_call (takes_of rfl rfl rfl rfl) (fun _ _ _ _ h => h)) (pa_cons (pv 4) (pa_cons pe_int pa_nil))))))
          (pss_cons (ps_if (pt_cmpR (r := rEqP K) (op_eqP hu) (pv 0) pe_int (nomark _)) (pss_one (ps_ret (pe_tup (pa_cons pe_int (pa_cons pe_int pa_nil))))) pss_nil)
          (pss_one (ps_ret (pe_own d_fraction (hr.mono (by decide)) (by rfl) (passes_call (takes_of rfl rfl rfl rfl) (fun _ _ _ _ h => h)) (pa_cons (pe_op op_mulY (pe_op op_mulY pe_int (pv 0)) (pv 3)) (pa_cons (pe_op op_add (pe_op op_mulY (pe_op op_add (pv 0) pe_int) (pv 3)) (pe_op op_mulY (pv 1) (pv 2))) pa_nil))))))), ?_⟩
    refine q_forTX (fun _ : Unit => [.dt d0, .dt d1, .dt d2, .dt d3, .no]) (fun k _ => ∀ d ∈ [d0, d1, d2, d3].take k, GoodN d) () S (init_len hv (Nat.le_of_ble_eq_true rfl)) (ev_tup (av_cons (ev_var rfl) (av_cons (ev_var rfl) (av_cons (ev_var rfl) (av_cons (ev_var rfl) av_nil)))) rfl (Nat.le_of_ble_eq_true rfl)) (Wk.refl _) (fun d hd => nomatch hd) (fun a k d p pa hd x σ' F' H' hx S l => ?_) (fun a pa σ' F' H' S l => ?_)
    · refine g_name S l (Nat.le_of_ble_eq_true rfl) hx rfl fun σ' F' H' S l => ?_
      rcases good_or d with hg | hb
      · obtain ⟨z, rfl, hz⟩ := id hg
        refine st_drop S l (ev_call (R := R_need) (X := X_need C) (es := [.none]) (av_cons (ev_var rfl) (av_cons ev_int av_nil)) rfl (fun _ => .cons .non .nil) ⟨z, 0, rfl, hz, rfl⟩) fun F' H' S => ?_
        refine ⟨(), fun d hd2 => ?_, F', S.wk2 (.same rfl (.same rfl (.same rfl (.same rfl (.no .nil))))), l⟩
        rw [List.take_succ, hd] at hd2
        rcases List.mem_append.mp hd2 with h | h
        · exact pa d h
        · rw [List.mem_singleton.mp h]
          exact hg
      · exact st_raiseE S l (R := R_need) (X := X_need C) (es := [.none]) (C := C) (av_cons (ev_var rfl) (av_cons ev_int av_nil)) rfl (fun _ => .cons .non .nil) ⟨d, 0, rfl, rfl, hb⟩ fun F' H' S => q H' S.hh
    · exfalso
      rcases hbad with h | h | h | h
      · exact good_bad (pa d0 (by simp)) h
      · exact good_bad (pa d1 (by simp)) h
      · exact good_bad (pa d2 (by simp)) h
      · exact good_bad (pa d3 (by simp)) h
def R_rar (ds : List PyData) (r : Sl) : Prop := ∃ m f : Int, ds = [.int m, .int f] ∧ B40 m ∧ B40 f ∧ r = .dt (pD (rarF m f))
def X_rar (CN : Addr) (ds : List PyData) (C : Addr) : Prop := ∃ d0 d1 : PyData, ds = [d0, d1] ∧ (BadN d0 ∨ BadN d1) ∧ C = CN
theorem ok_rarity_of {f : Addr} {fd : FuncData} (F : Fun K "rarity_of" "rarity_of" s_rarity_of f fd) (T : Txt K mg CN CH CT)
    (d_need_number_2 : DefOk P w K mg base 2 "need_number" ["thing", "least", "most"] (spF K R_need (X_need CN)) [.non])
    (d_fraction : DefOk P w K mg base 3 "fraction" ["above", "below"] (spF K R_fraction (X_fraction CN)) []) : FnOk P w K mg base (L2.CX P w) 4 f fd ["many", "found"] (spF K R_rar (X_rar CN)) := by
  refine F.okX sc_rarity_of (spF_len (n := 2) (by walk_at "sl") (by walk_at "sl")) (fun cdv A outer s H vs Q E hr h => ?_)
  obtain ⟨F0, ds, fh, hv, ⟨r, ⟨m, f', rfl, hm, hf, rfl⟩, q⟩ | ⟨C, ⟨d0, d1, rfl, hbad, rfl⟩, q⟩⟩ := h
  · --
    have S := Sts.init (N := ["many", "found"]) fh hv
    have hu : (A.deeper (envOfC "rarity_of" (defScope s_rarity_of) s.heap.objs.size f cdv)).units + 64 < cLine := hr.units
    refine ⟨_, (pss_cons (ps_expr (pe_own d_need_number_2 (hr.mono (by decide)) (by rfl) (passes_call (takes_of rfl rfl rfl rfl) (fun _ _ _ _ h => h)) (pa_cons (pv 0) (pa_cons pe_int pa_nil))))
          (pss_cons (ps_expr (pe_own d_need_number_2 (hr.mono (by decide)) (by rfl) (passes_call (takes_of rfl rfl rfl rfl) (fun _ _ _ _ h => h)) (pa_cons (pv 1) (pa_cons pe_int pa_nil))))
          (pss_one (ps_ret (pe_own d_fraction (hr.mono (by decide)) (by rfl) (passes_call (takes_of rfl rfl rfl rfl) (fun _ _ _ _ h => h)) (pa_cons (pe_op op_add (pv 0) pe_int) (pa_cons (pe_op op_add (pv 1) pe_int) pa_nil))))))), ?_⟩
    refine q_drop S (init_len hv (Nat.le_of_ble_eq_true rfl)) (ev_call (R := R_need) (X := X_need CN) (es := [.none]) (av_cons (ev_var rfl) (av_cons ev_int av_nil)) rfl (fun _ => .cons .non .nil) ⟨m, 0, rfl, hm.1, rfl⟩) fun F' H' S => ?_
    refine q_drop S (init_len hv (Nat.le_of_ble_eq_true rfl)) (ev_call (R := R_need) (X := X_need CN) (es := [.none]) (av_cons (ev_var rfl) (av_cons ev_int av_nil)) rfl (fun _ => .cons .non .nil) ⟨f', 0, rfl, hf.1, rfl⟩) fun F' H' S => ?_
    exact st_ret S (init_len hv (Nat.le_of_ble_eq_true rfl)) (ev_call0 (R := R_fraction) (X := X_fraction CN) (r := .dt (pD (rarF m f'))) (av_cons (ev_ii (ev_var rfl) ev_int) (av_cons (ev_ii (ev_var rfl) ev_int) av_nil)) rfl ⟨m + 1, f' + 1, rfl, by have := hf.1; omega, lt_lim (succ_lt hm) (by decide), lt_lim (succ_lt hf) (by decide), rfl⟩) rfl q
  · --
    have S := Sts.init (N := ["many", "found"]) fh hv
    have hu : (A.deeper (envOfC "rarity_of" (defScope s_rarity_of) s.heap.objs.size f cdv)).units + 64 < cLine := hr.units
    refine ⟨_, (pss_cons (ps_expr (pe_own d_need_number_2 (hr.mono (by decide)) (by rfl) (passes_call (takes_of rfl rfl rfl rfl) (fun _ _ _ _ h => h)) (pa_cons (pv 0) (pa_cons pe_int pa_nil))))
          (pss_cons (ps_expr (pe_own d_need_number_2 (hr.mono (by decide)) (by rfl) (passes_call (takes_of rfl rfl rfl rfl) (fun _ _ _ _ h => h)) (pa_cons (pv 1) (pa_cons pe_int pa_nil))))
          (pss_one (ps_ret (pe_own d_fraction (hr.mono (by decide)) (by rfl) (passes_call (takes_of rfl rfl rfl rfl) (fun _ _ _ _ h => h)) (pa_cons (pe_op op_add (pv 0) pe_int) (pa_cons (pe_op op_add (pv 1) pe_int) pa_nil))))))), ?_⟩
    rcases good_or d0 with hg | hb
    · obtain ⟨z, rfl, hz⟩ := id hg
      have hb1 : BadN d1 := hbad.resolve_left fun h => good_bad hg h
      refine q_drop S (init_len hv (Nat.le_of_ble_eq_true rfl)) (ev_call (R := R_need) (X := X_need C) (es := [.none]) (av_cons (ev_var rfl) (av_cons ev_int av_nil)) rfl (fun _ => .cons .non .nil) ⟨z, 0, rfl, hz, rfl⟩) fun F' H' S => ?_
      exact st_raiseE (D := { nx := _, rt := _ }) S (init_len hv (Nat.le_of_ble_eq_true rfl)) (R := R_need) (X := X_need C) (es := [.none]) (C := C) (av_cons (ev_var rfl) (av_cons ev_int av_nil)) rfl (fun _ => .cons .non .nil) ⟨d1, 0, rfl, rfl, hb1⟩ fun F' H' S => q H' S.hh
    · exact st_raiseE (D := { nx := _, rt := _ }) S (init_len hv (Nat.le_of_ble_eq_true rfl)) (R := R_need) (X := X_need C) (es := [.none]) (C := C) (av_cons (ev_var rfl) (av_cons ev_int av_nil)) rfl (fun _ => .cons .non .nil) ⟨d0, 0, rfl, rfl, hb⟩ fun F' H' S => q H' S.hh
/-! ### worth -/
def stepW (s m t : Int) (acc e : Int × Int) : Int × Int := sumF acc (prodF (shareF e.1 s m t) (rarF m e.2))
def worthF (s m t : Int) (acc : Int × Int) (L : List (Int × Int)) : Int × Int := L.foldl (stepW s m t) acc
def GoodE (t : Int) (e : Int × Int) : Prop := B40 e.1 ∧ B40 e.2 ∧ (e.1 = 0 ∨ 1 ≤ t)
theorem step_ok {s m t : Int} {n : Nat} {acc e : Int × Int} (hs : B40 s) (hm : B40 m) (ht : B40 t) (h : Ok n acc) (he : GoodE t e) : Ok (n + 133) (stepW s m t acc e) :=
  sum_ok (n := 132) h (prod_ok (m := 90) (n := 41) (share_ok he.1 hs hm ht he.2.2) (rar_ok hm he.2.1))
theorem fst_at {L : List (Int × Int)} {k : Nat} {d : PyData} (h : (iD (L.map Prod.fst))[k]? = some d) : ∃ e, d = .int e.1 ∧ L[k]? = some e := by
  rw [iD, List.map_map, List.getElem?_map] at h
  cases hq : L[k]? with
  | none => rw [hq] at h; cases h
  | some e =>
    rw [hq] at h
    cases h
    exact ⟨e, rfl, rfl⟩
theorem snd_at {L : List (Int × Int)} {k : Nat} {d : PyData} (h : (iD (L.map Prod.snd))[k]? = some d) : ∃ e, d = .int e.2 ∧ L[k]? = some e := by
  rw [iD, List.map_map, List.getElem?_map] at h
  cases hq : L[k]? with
  | none => rw [hq] at h; cases h
  | some e =>
    rw [hq] at h
    cases h
    exact ⟨e, rfl, rfl⟩
theorem drop_at {α : Type} {L : List α} {k : Nat} {d : α} (h : L[k]? = some d) : L.drop k = d :: L.drop (k + 1) := by
  obtain ⟨hk, rfl⟩ := List.getElem?_eq_some_iff.mp h
  exact List.drop_eq_getElem_cons hk
def R_worth (ds : List PyData) (r : Sl) : Prop := ∃ (L : List (Int × Int)) (s m t : Int), ds = [.list (iD (L.map Prod.fst)), .list (iD (L.map Prod.snd)), .int s, .int m, .int t] ∧ L.length ≤ 9 ∧ B40 s ∧ B40 m ∧ B40 t ∧ (∀ e ∈ L, GoodE t e) ∧ r = .dt (pD (worthF s m t (0, 1) L))
def X_worth (CN : Addr) (ds : List PyData) (C : Addr) : Prop := ∃ (dc df d0 d1 d2 : PyData), ds = [dc, df, d0, d1, d2] ∧ C = CN ∧ ((BadN d0 ∨ BadN d1 ∨ BadN d2) ∨
  ∃ (L : List (Int × Int)) (s m t : Int) (d e : PyData) (rc rf : List PyData), dc = .list (iD (L.map Prod.fst) ++ d :: rc) ∧ df = .list (iD (L.map Prod.snd) ++ e :: rf) ∧ rf.length = rc.length ∧ d0 = .int s ∧ d1 = .int m ∧ d2 = .int t ∧ L.length ≤ 9 ∧ B40 s ∧ B40 m ∧ B40 t ∧ (∀ e ∈ L, GoodE t e) ∧ (BadN d ∨ ∃ z, d = .int z ∧ B40 z ∧ (z = 0 ∨ 1 ≤ t) ∧ BadN e))
theorem ok_worth_of {f : Addr} {fd : FuncData} (F : Fun K "worth_of" "worth_of" s_worth_of f fd) (T : Txt K mg CN CH CT)
    (d_need_number_2 : DefOk P w K mg base 2 "need_number" ["thing", "least", "most"] (spF K R_need (X_need CN)) [.non])
    (d_sum_of : DefOk P w K mg base 4 "sum_of" ["one", "other"] (spF K R_sum noX) [])
    (d_product_of : DefOk P w K mg base 4 "product_of" ["one", "other"] (spF K R_prod noX) [])
    (d_rarity_of : DefOk P w K mg base 4 "rarity_of" ["many", "found"] (spF K R_rar (X_rar CN)) [])
    (d_share_of : DefOk P w K mg base 4 "share_of" ["count", "size", "many", "total"] (spF K R_share (X_share CN)) []) : FnOk P w K mg base (L2.CX P w) 5 f fd ["counts", "founds", "size", "many", "total"] (spF K R_worth (X_worth CN)) := by
  refine F.okX sc_worth_of (spF_len (n := 5) (by walk_at "sl") (by walk_at "sl")) (fun cdv A outer s H vs Q E hr h => ?_)
  obtain ⟨F0, ds, fh, hv, ⟨r, ⟨L, s', m, t, rfl, hL, hs, hm, ht, hg, rfl⟩, q⟩ | ⟨C, ⟨dc, df, d0, d1, d2, rfl, rfl, hx⟩, q⟩⟩ := h
  · --
    have S := Sts.init (N := ["counts", "founds", "size", "many", "total", "number", "whole", "count", "found"]) fh hv
    have hu : (A.deeper (envOfC "worth_of" (defScope s_worth_of) s.heap.objs.size f cdv)).units + 64 < cLine := hr.units
    refine ⟨_, (pss_cons (ps_for PassesOwn.leaving rfl (pi_tup (pe_tup (pa_cons (pv 2) (pa_cons (pv 3) (pa_cons (pv 4) pa_nil))))) (pg_name (i := 5) sc_worth_of.nd rfl (Or.inl rfl)) (pss_one (ps_expr (pe_own d_need_number_2 (hr.mono (by decide)) (by rfl) (passes_call (takes_of rfl rfl rfl rfl) (fun _ _ _ _ h => h)) (pa_cons (pv 5) (pa_cons pe_int pa_nil))))))
          (pss_cons (ps_set (i := 6) sc_worth_of.nd rfl (Or.inl rfl) (pe_tup (pa_cons pe_int (pa_cons pe_int pa_nil))))
          (pss_cons (ps_for PassesOwn.leaving rfl (pi_zip (by rfl) T.zip (pa_cons (pv 0) (pa_cons (pv 1) pa_nil))) (pg_tup rfl (pgs_cons (pg_name (i := 7) sc_worth_of.nd rfl (Or.inl rfl)) (pgs_cons (pg_name (i := 8) sc_worth_of.nd rfl (Or.inl rfl)) pgs_nil))) (pss_one (ps_set (i := 6) sc_worth_of.nd rfl (Or.inl rfl) (pe_own d_sum_of (hr.mono (by decide)) (by rfl) passL (pa_cons (pv 6) (pa_cons (pe_own d_product_of (hr.mono (by decide)) (by rfl) passL (pa_cons (pe_own d_share_of (hr.mono (by decide)) (by rfl) (passes_call (takes_of rfl rfl rfl rfl) (fun _ _ _ _ h => h)) (pa_cons (pv 7) (pa_cons (pv 2) (pa_cons (pv 3) (pa_cons (pv 4) pa_nil))))) (pa_cons (pe_own d_rarity_of (hr.mono (by decide)) (by rfl) (passes_call (takes_of rfl rfl rfl rfl) (fun _ _ _ _ h => h)) (pa_cons (pv 3) (pa_cons (pv 8) pa_nil))) pa_nil))) pa_nil))))))
          (pss_one (ps_ret (pv 6)))))), ?_⟩
    refine q_forT (ds := iD [s', m, t]) S (init_len hv (Nat.le_of_ble_eq_true rfl)) (ev_tup (av_cons (ev_var rfl) (av_cons (ev_var rfl) (av_cons (ev_var rfl) av_nil))) rfl (Nat.le_of_ble_eq_true rfl)) (fun k => [.dt (.list (iD (L.map Prod.fst))), .dt (.list (iD (L.map Prod.snd))), .dt (.int s'), .dt (.int m), .dt (.int t), .no, .no, .no, .no]) (Wk.refl _) (fun k d p hd x σ' F' H' hx S l => ?_) (fun σ' F' H' S l => ?_)
    · obtain ⟨hk, rfl⟩ := map_at (0 : Int) hd
      have hz : 0 ≤ [s', m, t].getD k 0 := by
        have hmem := Fh.getD_mem (d := (0 : Int)) hk
        simp only [List.mem_cons, List.not_mem_nil, or_false] at hmem
        rcases hmem with e | e | e <;> rw [e]
        · exact hs.1
        · exact hm.1
        · exact ht.1
      generalize [s', m, t].getD k 0 = z at *
      refine g_name S l (Nat.le_of_ble_eq_true rfl) hx rfl fun σ' F' H' S l => ?_
      refine st_drop S l (ev_call (R := R_need) (X := X_need CN) (es := [.none]) (av_cons (ev_var rfl) (av_cons ev_int av_nil)) rfl (fun _ => .cons .non .nil) ⟨z, 0, rfl, hz, rfl⟩) fun F' H' S => ?_
      exact ⟨F', S.wk2 (.same rfl (.same rfl (.same rfl (.same rfl (.same rfl (.no (.no (.no (.no .nil))))))))), l⟩
    refine q_asg S l (r := .dt (pD (0, 1))) (ev_tup (av_cons ev_int (av_cons ev_int av_nil)) rfl (Nat.le_of_ble_eq_true rfl)) rfl rfl (Nat.le_of_ble_eq_true rfl) fun σ' F' H' S l => ?_ -- whole
    refine q_forZX (ds := iD (L.map Prod.fst)) (es := iD (L.map Prod.snd)) (fun a : Int × Int => [.dt (.list (iD (L.map Prod.fst))), .dt (.list (iD (L.map Prod.snd))), .dt (.int s'), .dt (.int m), .dt (.int t), .no, .dt (pD a), .no, .no]) (fun k a => worthF s' m t a (L.drop k) = worthF s' m t (0, 1) L ∧ Ok (1 + 133 * k) a ∧ k ≤ L.length) (0, 1) S l (av_cons (ev_var rfl) (av_cons (ev_var rfl) av_nil)) (by simp only [iD, List.length_map]) (Wk.refl _) ⟨rfl, ⟨by decide, by decide, by decide, by decide⟩, Nat.zero_le _⟩ (fun a k d e ps pa hd he x σ' F' H' hx S l => ?_) (fun a pa σ' F' H' S l => ?_)
    · obtain ⟨e1, rfl, hk1⟩ := fst_at hd
      obtain ⟨e2, rfl, hk2⟩ := snd_at he
      rw [hk1] at hk2
      cases hk2
      obtain ⟨p1, p2, p3⟩ := pa
      have hk := (List.getElem?_eq_some_iff.mp hk1).1
      rw [drop_at hk1] at p1
      have hge := hg e1 (List.mem_of_getElem? hk1)
      have hok := step_ok hs hm ht p2 hge
      have h1 := share_ok hge.1 hs hm ht hge.2.2
      have h2 := rar_ok hm hge.2.1
      refine g_pair S l (Nat.le_of_ble_eq_true rfl) (Nat.le_of_ble_eq_true rfl) hx rfl fun σ' F' H' S l => ?_
      refine st_asg S l (r := .dt (pD (stepW s' m t a e1))) (ev_call0 (R := R_sum) (X := noX) (av_cons (ev_var rfl) (av_cons (ev_call0 (r := .dt (pD (prodF (shareF e1.1 s' m t) (rarF m e1.2)))) (R := R_prod) (X := noX) (av_cons (ev_call0 (r := .dt (pD (shareF e1.1 s' m t))) (R := R_share) (X := X_share CN) (av_cons (ev_var rfl) (av_cons (ev_var rfl) (av_cons (ev_var rfl) (av_cons (ev_var rfl) av_nil)))) rfl ⟨e1.1, s', m, t, rfl, hge.1, hs, hm, ht, hge.2.2, rfl⟩) (av_cons (ev_call0 (r := .dt (pD (rarF m e1.2))) (R := R_rar) (X := X_rar CN) (av_cons (ev_var rfl) (av_cons (ev_var rfl) av_nil)) rfl ⟨m, e1.2, rfl, hm, hge.2.1, rfl⟩) av_nil)) rfl ⟨shareF e1.1 s' m t, rarF m e1.2, rfl, h1.fr (by decide), h2.fr (by decide), rfl⟩) av_nil)) rfl ⟨a, prodF (shareF e1.1 s' m t) (rarF m e1.2), rfl, p2.fr (by omega), (prod_ok h1 h2).fr (by decide), rfl⟩) rfl rfl (Nat.le_of_ble_eq_true rfl) fun σ' F' H' S l => ?_ -- whole
      exact ⟨stepW s' m t a e1, ⟨p1, by rw [Nat.mul_add]; exact hok, hk⟩, F', S.wk2 (.same rfl (.same rfl (.same rfl (.same rfl (.same rfl (.no (.same rfl (.no (.no .nil))))))))), l⟩
    · have e : a = worthF s' m t (0, 1) L := by
        have h1 := pa.1
        rw [show (iD (L.map Prod.fst)).length = L.length by simp only [iD, List.length_map], List.drop_length] at h1
        exact h1
      rw [← e] at q
      exact st_ret S l (ev_var rfl) rfl q
  · --
    have S := Sts.init (N := ["counts", "founds", "size", "many", "total", "number", "whole", "count", "found"]) fh hv
    have hu : (A.deeper (envOfC "worth_of" (defScope s_worth_of) s.heap.objs.size f cdv)).units + 64 < cLine := hr.units
    refine ⟨_, (pss_cons (ps_for PassesOwn.leaving rfl (pi_tup (pe_tup (pa_cons (pv 2) (pa_cons (pv 3) (pa_cons (pv 4) pa_nil))))) (pg_name (i := 5) sc_worth_of.nd rfl (Or.inl rfl)) (pss_one (ps_expr (pe_own d_need_number_2 (hr.mono (by decide)) (by rfl) (passes_call (takes_of rfl rfl rfl rfl) (fun _ _ _ _ h => h)) (pa_cons (pv 5) (pa_cons pe_int pa_nil))))))
          (pss_cons (ps_set (i := 6) sc_worth_of.nd rfl (Or.inl rfl) (pe_tup (pa_cons pe_int (pa_cons pe_int pa_nil))))
          (pss_cons (ps_for PassesOwn.leaving rfl (pi_zip (by rfl) T.zip (pa_cons (pv 0) (pa_cons (pv 1) pa_nil))) (pg_tup rfl (pgs_cons (pg_name (i := 7) sc_worth_of.nd rfl (Or.inl rfl)) (pgs_cons (pg_name (i := 8) sc_worth_of.nd rfl (Or.inl rfl)) pgs_nil))) (pss_one (ps_set (i := 6) sc_worth_of.nd rfl (Or.inl rfl) (pe_own d_sum_of (hr.mono (by decide)) (by rfl) passL (pa_cons (pv 6) (pa_cons (pe_own d_product_of (hr.mono (by decide)) (by rfl) passL (pa_cons (pe_own d_share_of (hr.mono (by decide)) (by rfl) (passes_call (takes_of rfl rfl rfl rfl) (fun _ _ _ _ h => h)) (pa_cons (pv 7) (pa_cons (pv 2) (pa_cons (pv 3) (pa_cons (pv 4) pa_nil))))) (pa_cons (pe_own d_rarity_of (hr.mono (by decide)) (by rfl) (passes_call (takes_of rfl rfl rfl rfl) (fun _ _ _ _ h => h)) (pa_cons (pv 3) (pa_cons (pv 8) pa_nil))) pa_nil))) pa_nil))))))
          (pss_one (ps_ret (pv 6)))))), ?_⟩
    refine q_forTX (fun _ : Unit => [.dt dc, .dt df, .dt d0, .dt d1, .dt d2, .no, .no, .no, .no]) (fun k _ => ∀ d ∈ [d0, d1, d2].take k, GoodN d) () S (init_len hv (Nat.le_of_ble_eq_true rfl)) (ev_tup (av_cons (ev_var rfl) (av_cons (ev_var rfl) (av_cons (ev_var rfl) av_nil))) rfl (Nat.le_of_ble_eq_true rfl)) (Wk.refl _) (fun d hd => nomatch hd) (fun a k d p pa hd x σ' F' H' hx S l => ?_) (fun a pa σ' F' H' S l => ?_)
    · refine g_name S l (Nat.le_of_ble_eq_true rfl) hx rfl fun σ' F' H' S l => ?_
      rcases good_or d with hg | hb
      · obtain ⟨z, rfl, hz⟩ := id hg
        refine st_drop S l (ev_call (R := R_need) (X := X_need C) (es := [.none]) (av_cons (ev_var rfl) (av_cons ev_int av_nil)) rfl (fun _ => .cons .non .nil) ⟨z, 0, rfl, hz, rfl⟩) fun F' H' S => ?_
        refine ⟨(), fun d hd2 => ?_, F', S.wk2 (.same rfl (.same rfl (.same rfl (.same rfl (.same rfl (.no (.no (.no (.no .nil))))))))), l⟩
        rw [List.take_succ, hd] at hd2
        rcases List.mem_append.mp hd2 with h | h
        · exact pa d h
        · rw [List.mem_singleton.mp h]
          exact hg
      · exact st_raiseE S l (R := R_need) (X := X_need C) (es := [.none]) (C := C) (av_cons (ev_var rfl) (av_cons ev_int av_nil)) rfl (fun _ => .cons .non .nil) ⟨d, 0, rfl, rfl, hb⟩ fun F' H' S => q H' S.hh
    · have pg : GoodN d0 ∧ GoodN d1 ∧ GoodN d2 := ⟨pa d0 (by simp), pa d1 (by simp), pa d2 (by simp)⟩
      rcases hx with hbad | ⟨L, s', m, t, d, e, rc, rf, rfl, rfl, hrl, rfl, rfl, rfl, hL, hs, hm, ht, hg, hbad⟩
      · exfalso
        rcases hbad with h | h | h
        · exact good_bad pg.1 h
        · exact good_bad pg.2.1 h
        · exact good_bad pg.2.2 h
      · refine q_asg S l (r := .dt (pD (0, 1))) (ev_tup (av_cons ev_int (av_cons ev_int av_nil)) rfl (Nat.le_of_ble_eq_true rfl)) rfl rfl (Nat.le_of_ble_eq_true rfl) fun σ' F' H' S l => ?_ -- whole
        have hl1 : (iD (L.map Prod.fst)).length = L.length := by simp only [iD, List.length_map]
        have hl2 : (iD (L.map Prod.snd)).length = L.length := by simp only [iD, List.length_map]
        refine q_forZX (ds := iD (L.map Prod.fst) ++ d :: rc) (es := iD (L.map Prod.snd) ++ e :: rf) (fun a : Int × Int => [.no, .no, .dt (.int s'), .dt (.int m), .dt (.int t), .no, .dt (pD a), .no, .no]) (fun k a => Ok (1 + 133 * k) a ∧ k ≤ L.length) (0, 1) S l (av_cons (ev_var rfl) (av_cons (ev_var rfl) av_nil)) (by rw [List.length_append, List.length_append, hl1, hl2, List.length_cons, List.length_cons, hrl]) (.no (.no (.same rfl (.same rfl (.same rfl (.no (.same rfl (.no (.no .nil))))))))) ⟨⟨by decide, by decide, by decide, by decide⟩, Nat.zero_le _⟩ (fun a k d' e' ps pa hd he x σ' F' H' hx S l => ?_) (fun a pa σ' F' H' S l => ?_)
        · obtain ⟨p2, p3⟩ := pa
          refine g_pair S l (Nat.le_of_ble_eq_true rfl) (Nat.le_of_ble_eq_true rfl) hx rfl fun σ' F' H' S9 l9 => ?_
          by_cases hk : k < L.length
          · rw [List.getElem?_append_left (by rw [hl1]; exact hk)] at hd
            rw [List.getElem?_append_left (by rw [hl2]; exact hk)] at he
            obtain ⟨e1, rfl, hk1⟩ := fst_at hd
            obtain ⟨e2, rfl, hk2⟩ := snd_at he
            rw [hk1] at hk2
            cases hk2
            have hge := hg e1 (List.mem_of_getElem? hk1)
            have hok := step_ok hs hm ht p2 hge
            have h1 := share_ok hge.1 hs hm ht hge.2.2
            have h2 := rar_ok hm hge.2.1
            refine st_asg S9 l9 (r := .dt (pD (stepW s' m t a e1))) (ev_call0 (R := R_sum) (X := noX) (av_cons (ev_var rfl) (av_cons (ev_call0 (r := .dt (pD (prodF (shareF e1.1 s' m t) (rarF m e1.2)))) (R := R_prod) (X := noX) (av_cons (ev_call0 (r := .dt (pD (shareF e1.1 s' m t))) (R := R_share) (X := X_share C) (av_cons (ev_var rfl) (av_cons (ev_var rfl) (av_cons (ev_var rfl) (av_cons (ev_var rfl) av_nil)))) rfl ⟨e1.1, s', m, t, rfl, hge.1, hs, hm, ht, hge.2.2, rfl⟩) (av_cons (ev_call0 (r := .dt (pD (rarF m e1.2))) (R := R_rar) (X := X_rar C) (av_cons (ev_var rfl) (av_cons (ev_var rfl) av_nil)) rfl ⟨m, e1.2, rfl, hm, hge.2.1, rfl⟩) av_nil)) rfl ⟨shareF e1.1 s' m t, rarF m e1.2, rfl, h1.fr (by decide), h2.fr (by decide), rfl⟩) av_nil)) rfl ⟨a, prodF (shareF e1.1 s' m t) (rarF m e1.2), rfl, p2.fr (by omega), (prod_ok h1 h2).fr (by decide), rfl⟩) rfl rfl (Nat.le_of_ble_eq_true rfl) fun σ' F' H' S l => ?_ -- whole
            exact ⟨stepW s' m t a e1, ⟨by rw [Nat.mul_add]; exact hok, hk⟩, F', S.wk2 (.no (.no (.same rfl (.same rfl (.same rfl (.no (.same rfl (.no (.no .nil))))))))), l⟩
          · have ek : k = L.length := by omega
            subst ek
            rw [List.getElem?_append_right (by rw [hl1]; exact Nat.le_refl _), hl1, Nat.sub_self] at hd
            rw [List.getElem?_append_right (by rw [hl2]; exact Nat.le_refl _), hl2, Nat.sub_self] at he
            have ed : d' = d := (Option.some.inj hd).symm
            have ee : e' = e := (Option.some.inj he).symm
            subst ed
            subst ee
            rcases hbad with hb | ⟨z, rfl, hz, hzt, hb⟩
            · exact st_asgN S9 l9 (nv_arg (na_next (ev_var rfl) (na_here (nv_arg (na_here (nv_call0 (R := R_share) (X := X_share C) (C := C) (av_cons (ev_var rfl) (av_cons (ev_var rfl) (av_cons (ev_var rfl) (av_cons (ev_var rfl) av_nil)))) rfl ⟨d', .int s', .int m, .int t, rfl, .inl hb, rfl⟩)))))) fun H' e => q H' (S9.hh.trans e)
            · exact st_asgN S9 l9 (nv_arg (na_next (ev_var rfl) (na_here (nv_arg (na_next (ev_call0 (r := .dt (pD (shareF z s' m t))) (R := R_share) (X := X_share C) (av_cons (ev_var rfl) (av_cons (ev_var rfl) (av_cons (ev_var rfl) (av_cons (ev_var rfl) av_nil)))) rfl ⟨z, s', m, t, rfl, hz, hs, hm, ht, hzt, rfl⟩) (na_here (nv_call0 (R := R_rar) (X := X_rar C) (C := C) (av_cons (ev_var rfl) (av_cons (ev_var rfl) av_nil)) rfl ⟨.int m, e', rfl, .inr hb, rfl⟩))))))) fun H' e => q H' (S9.hh.trans e)
        · exfalso
          have := pa.2
          rw [List.length_append, hl1, List.length_cons] at this
          omega

/-! ### the law's own sums -/
theorem eqv_nil (L : List PyData) : PyData.eqv (.list L) (.list []) = L.isEmpty := by
  cases L <;> simp [PyData.eqv, PyData.eqvAll]
def R_is (ds : List PyData) (r : Sl) : Prop := ∃ (p : Int × Int) (a b : Int) (n : Nat), ds = [pD p, .int a, .int b] ∧ Ok n p ∧ n ≤ 1900 ∧ a.natAbs < mid ∧ b.natAbs < mid ∧ p.1 * b = a * p.2 ∧ r = .dt (.bool true)
theorem ok__law_is {f : Addr} {fd : FuncData} (F : Fun K "_law_is" "_law_is" s__law_is f fd) (T : Txt K mg CN CH CT)
    (d__law_common : DefOk P w K mg base 1 "_law_common" ["_law_one", "_law_other"] (spF K R_common noX) []) : FnOk P w K mg base (L2.CX P w) 2 f fd ["_law_found", "_law_above", "_law_below"] (spF K R_is noX) := by
  refine F.okX sc__law_is (spF_len (n := 3) (by walk_at "sl") (by rintro _ _ ⟨⟩)) (fun cdv A outer s H vs Q E hr h => ?_)
  obtain ⟨F0, ds, fh, hv, ⟨r, ⟨p, a, b, n, rfl, hp, hn, ha, hb1, hx, rfl⟩, q⟩ | ⟨_, h, _⟩⟩ := h
  · --
    have S := Sts.init (N := ["_law_found", "_law_above", "_law_below", "_law_part"]) fh hv
    have hu : (A.deeper (envOfC "_law_is" (defScope s__law_is) s.heap.objs.size f cdv)).units + 64 < cLine := hr.units
    refine ⟨_, (pss_cons (ps_if (PW.pt (pw_or (pt_not (pt_val (pe_callB (id := "isinstance") (r := rIsi K) call_isi (by rfl) T.isinstance (by decide +kernel) (pa_cons (pv 0) (pa_cons (pe_bltn (v := .ty "tuple") (by rfl) T.tuple (by decide +kernel) rfl) pa_nil))))) (pw_or1 (pt_cmpR (r := rNeP K) (op_neP hu) (pe_callB (id := "len") (r := rLenR K) call_lenR (by rfl) T.len (by decide +kernel) (pa_cons (pv 0) pa_nil)) pe_int (nomark _))))) (pss_one (ps_ret pe_bl)) pss_nil)
          (pss_cons (ps_if (pt_cmpR (r := rNeP K) (op_neP hu) (pe_lc (own := [("_law_part", 3)]) (g := (gName 3)) rfl sc__law_is.nd (pi_tup (pv 0)) (blkOk_by (own := [("_law_part", 3)]) (N := ["_law_found", "_law_above", "_law_below", "_law_part"]) (sc := defScope s__law_is) (by decide +kernel)) (fun _ _ _ _ _ => pg_name (i := 3) sc__law_is.nd rfl (Or.inl rfl)) (fun _ _ _ _ _ => pts_one (PW.pt (pw_or (pt_val (pe_callB (id := "isinstance") (r := rIsi K) call_isi (by rfl) T.isinstance (by decide +kernel) (pa_cons (pv 3) (pa_cons (pe_bltn (v := .ty "bool") (by rfl) T.bool (by decide +kernel) rfl) pa_nil)))) (pw_or1 (pt_not (pt_val (pe_callB (id := "isinstance") (r := rIsi K) call_isi (by rfl) T.isinstance (by decide +kernel) (pa_cons (pv 3) (pa_cons (pe_bltn (v := .ty "int") (by rfl) T.int (by decide +kernel) rfl) pa_nil))))))))) (fun _ _ _ _ _ => (pv 3))) (pe_lst pa_nil) (nomark _)) (pss_one (ps_ret pe_bl)) pss_nil)
          (pss_cons (ps_if (PW.pt (pw_or (pt_cmpR op_lt (pe_ix (r := rIxT K) ix_tup (pv 0) pe_int (fun _ _ => rfl)) pe_int (nomark _)) (pw_or1 (pt_cmpR (r := rNeP K) (op_neP hu) (pe_own d__law_common (hr.mono (by decide)) (by rfl) passL (pa_cons (pe_callB (id := "abs") (r := rAbs) call_absR (by rfl) T.abs (by decide +kernel) (pa_cons (pe_ix (r := rIxT K) ix_tup (pv 0) pe_int (fun _ _ => rfl)) pa_nil)) (pa_cons (pe_ix (r := rIxT K) ix_tup (pv 0) pe_int (fun _ _ => rfl)) pa_nil))) pe_int (nomark _))))) (pss_one (ps_ret pe_bl)) pss_nil)
          (pss_one (ps_ret (pe_cmpR (r := rEqP K) (op_eqP hu) (pe_op op_mulY (pe_ix (r := rIxT K) ix_tup (pv 0) pe_int (fun _ _ => rfl)) (pv 2)) (pe_op op_mulY (pv 1) (pe_ix (r := rIxT K) ix_tup (pv 0) pe_int (fun _ _ => rfl))) (nomark _))))))), ?_⟩
    have hF := hp.fr hn
    have i1 : EvR K (tOp (rIxT K) (tVar 0) (tC (.int 0))) [.dt (pD p), .dt (.int a), .dt (.int b), .no] (.dt (.int p.1)) := ev_ixT (ev_var rfl) ev_int rfl rfl
    have i2 : EvR K (tOp (rIxT K) (tVar 0) (tC (.int 1))) [.dt (pD p), .dt (.int a), .dt (.int b), .no] (.dt (.int p.2)) := ev_ixT (ev_var rfl) ev_int rfl rfl
    refine q_when S (init_len hv (Nat.le_of_ble_eq_true rfl)) (b := false) (tv_or (a := false) (b := false) (.to (tv_not (tv_B (ev_isi (ev_var rfl) rfl (kit_tuple _)))) rfl) fun _ => .to (tv_test (ev_neT (α := Int) (a := 2) (b := 2) (ev_len (ev_var rfl) rfl rfl) ev_int rfl rfl)) rfl) (fun hb => nomatch hb) (fun hb F' H' S => ?_)
    refine q_when S (init_len hv (Nat.le_of_ble_eq_true rfl)) (b := false) (.to (tv_test (ev_neT (α := List Int) (a := []) (b := []) (ev_lcT (fun _ => none) (ev_var rfl) rfl (in1 (Nat.le_of_ble_eq_true rfl)) (Nat.le_of_ble_eq_true rfl) fun k d hd => ⟨_, gt_name (Nat.le_of_ble_eq_true rfl), ?_, fun h => nomatch h⟩) (ev_lst av_nil rfl (Nat.le_of_ble_eq_true rfl)) rfl rfl)) rfl) (fun hb => nomatch hb) (fun hb F' H' S => ?_)
    · have hw : ∃ i, d = .int i := by
        match k, hd with
        | 0, hd => exact ⟨_, (Option.some.inj hd).symm⟩
        | 1, hd => exact ⟨_, (Option.some.inj hd).symm⟩
      obtain ⟨i, rfl⟩ := hw
      exact .to (tv_or (b := false) (tv_B (ev_isi (ev_var rfl) rfl (kit_bool _))) fun _ => .to (tv_not (tv_B (ev_isi (ev_var rfl) rfl (kit_int _)))) rfl) rfl
    have hpos := hF.pos
    have hb2 : p.2 = (p.2.natAbs : Int) := by omega
    refine q_when S (init_len hv (Nat.le_of_ble_eq_true rfl)) (b := false) (tv_or (a := false) (b := false) (.to (tv_test (ev_ib i2 ev_int)) (decide_eq_false (by omega))) fun _ => .to (tv_test (ev_neT (α := Int) (a := 1) (b := 1) (ev_call0 (r := .dt (.int 1)) (av_cons (ev_abs i1) (av_cons i2 av_nil)) rfl ⟨p.1.natAbs, p.2.natAbs, ?_, Nat.lt_of_lt_of_le hF.u mid_lim, Nat.lt_of_lt_of_le hF.d mid_lim, ?_⟩) ev_int rfl rfl)) rfl) (fun hb => nomatch hb) (fun hb F' H' S => ?_)
    · rw [← hb2]
    · rw [hp.g]
      rfl
    exact st_ret S (init_len hv (Nat.le_of_ble_eq_true rfl)) (.toD (ev_eqT (α := Int) (a := p.1 * b) (b := a * p.2) (ev_iC i1 (ev_var rfl) (mulY hF.u hb1)) (ev_iC (ev_var rfl) i2 (mulY ha hF.d)) rfl rfl) (by rw [decide_eq_true hx])) rfl q
  · exact h.elim
def b9 : Int := (10 : Int) ^ (9 : Int).toNat
theorem b9_eq : b9 = 1000000000 := rfl
theorem cp9 : CPow 10 9 := ⟨by decide, by decide, by decide⟩
def g4 (i : Int) : Int := if i = 0 then 4 else if i = 1 then 30 else if i = 2 then 1000 else b9
theorem g4_at {i : Int} (h0 : 0 ≤ i) (h1 : i < 4) : [PyData.int 4, .int 30, .int 1000, .int b9].getD i.toNat .none = .int (g4 i) := by
  have : i = 0 ∨ i = 1 ∨ i = 2 ∨ i = 3 := by omega
  rcases this with rfl | rfl | rfl | rfl <;> rfl
theorem g4_b (i : Int) : 0 < g4 i ∧ g4 i ≤ 1000000000 := by
  unfold g4
  rw [b9_eq]
  repeat' split
  all_goals decide
def greatF (n l : Int) : Int := l + n / 4 % g4 (n % 4)
theorem great_b (n l : Int) : l ≤ greatF n l ∧ greatF n l < l + 1000000000 := by
  unfold greatF
  have h := g4_b (n % 4)
  have h1 := Int.emod_nonneg (n / 4) (b := g4 (n % 4)) (by omega)
  have h2 := Int.emod_lt_of_pos (n / 4) h.1
  omega
def R_great (ds : List PyData) (r : Sl) : Prop := ∃ n l : Int, ds = [.int n, .int l] ∧ r = .dt (.int (greatF n l))
theorem ok__law_great {f : Addr} {fd : FuncData} (F : Fun K "_law_great" "_law_great" s__law_great f fd) (T : Txt K mg CN CH CT) : FnOk P w K mg base (L2.CX P w) 1 f fd ["_law_number_here", "_law_least"] (spF K R_great noX) := by
  refine F.okX sc__law_great (spF_len (n := 2) (by walk_at "sl") (by rintro _ _ ⟨⟩)) (fun cdv A outer s H vs Q E hr h => ?_)
  obtain ⟨F0, ds, fh, hv, ⟨r, ⟨n, l0, rfl, rfl⟩, q⟩ | ⟨_, h, _⟩⟩ := h
  · --
    have S := Sts.init (N := ["_law_number_here", "_law_least"]) fh hv
    have hu : (A.deeper (envOfC "_law_great" (defScope s__law_great) s.heap.objs.size f cdv)).units + 64 < cLine := hr.units
    refine ⟨_, (pss_one (ps_ret (pe_op op_add (pv 1) (pe_op op_mod (pe_op op_divY (pv 0) pe_int) (pe_ix (r := rIxL K) ix_list (pe_lst (pa_cons pe_int (pa_cons pe_int (pa_cons pe_int (pa_cons (pe_op op_pow pe_int pe_int) pa_nil))))) (pe_op op_mod (pv 0) pe_int) (fun _ _ => rfl)))))), ?_⟩
    have h4 : 0 ≤ n % 4 ∧ n % 4 < 4 := by omega
    exact st_ret S (init_len hv (Nat.le_of_ble_eq_true rfl)) (ev_ii (ev_var rfl) (ev_iC (ev_iC (ev_var rfl) ev_int (CDivY.s (by decide) (by decide))) (.toD (ev_pickD [.int 4, .int 30, .int 1000, .int b9] (i := n % 4) (av_cons ev_int (av_cons ev_int (av_cons ev_int (av_cons (ev_iC ev_int ev_int cp9) av_nil)))) (ev_iC (ev_var rfl) ev_int (by decide)) h4.1 h4.2 (Nat.le_of_ble_eq_true rfl)) (g4_at h4.1 h4.2)) (g4_b _).1)) rfl q
  · exact h.elim
/-! ### what is drawn -/
def madeC (n : Int) : Int := if n % 3 = 0 then 0 else if n % 3 = 1 then 1 + n / 9 % 5 else greatF (n / 9) 1
def madeF (many n : Int) : Int := min many (greatF (n / 3) (if decide ((0 : Int) < madeC n) then 1 else 0))
def madeE (ns : List Int) (many : Int) (j : Nat) : Int × Int := (madeC (number ns (4 + (j : Int))), madeF many (number ns (4 + (j : Int))))
def madeL (ns : List Int) (many : Int) (k : Nat) : List (Int × Int) := (List.range k).map (madeE ns many)
def madeS (ns : List Int) : Int := greatF (number ns 1) 1
def madeM (ns : List Int) : Int := greatF (number ns 2) 1
def madeT (ns : List Int) : Int := madeS ns + 1 + greatF (number ns 3) 0
def madeN (ns : List Int) : Nat := (number ns 0 % 7).toNat
theorem madeC_b (n : Int) : 0 ≤ madeC n ∧ madeC n ≤ 1000000000 := by
  unfold madeC
  have := great_b (n / 9) 1
  repeat' split
  all_goals omega
theorem madeF_b {many : Int} (n : Int) (h : 1 ≤ many) : 0 ≤ madeF many n ∧ madeF many n ≤ many := by
  unfold madeF
  have h1 := great_b (n / 3) 1
  have h0 := great_b (n / 3) 0
  split <;> omega
def tupD (L : List (Int × Int)) (s m t : Int) : PyData := .tuple [.list (iD (L.map Prod.fst)), .list (iD (L.map Prod.snd)), .int s, .int m, .int t]
def R_made (ds : List PyData) (r : Sl) : Prop := ∃ ns : List Int, ds = [.list (iD ns)] ∧ r = .dt (tupD (madeL ns (madeM ns) (madeN ns)) (madeS ns) (madeM ns) (madeT ns))
theorem iD_snoc (L : List Int) (z : Int) : iD L ++ [PyData.int z] = iD (L ++ [z]) := by
  rw [iD, iD, List.map_append]
  rfl
theorem range_snoc {α : Type} (f : Nat → α) (k : Nat) : (List.range (k + 1)).map f = (List.range k).map f ++ [f k] := by
  rw [List.range_succ, List.map_append]
  rfl
theorem ok__law_made {f : Addr} {fd : FuncData} (F : Fun K "_law_made" "_law_made" s__law_made f fd) (T : Txt K mg CN CH CT)
    (d__law_great : DefOk P w K mg base 1 "_law_great" ["_law_number_here", "_law_least"] (spF K R_great noX) [])
    (d__law_number : DefOk P w K mg base 2 "_law_number" ["_law_script", "_law_k"] (spF K R_number noX) []) : FnOk P w K mg base (L2.CX P w) 3 f fd ["_law_script"] (spF K R_made noX) := by
  refine F.okX sc__law_made (spF_len (n := 1) (by walk_at "sl") (by rintro _ _ ⟨⟩)) (fun cdv A outer s H vs Q E hr h => ?_)
  obtain ⟨F0, ds, fh, hv, ⟨r, ⟨ns, rfl, rfl⟩, q⟩ | ⟨_, h, _⟩⟩ := h
  · --
    have S := Sts.init (N := ["_law_script", "_law_size", "_law_many", "_law_total", "_law_counts", "_law_founds", "_law_k", "_law_number_here"]) fh hv
    have hu : (A.deeper (envOfC "_law_made" (defScope s__law_made) s.heap.objs.size f cdv)).units + 64 < cLine := hr.units
    refine ⟨_, (pss_cons (ps_set (i := 1) sc__law_made.nd rfl (Or.inl rfl) (pe_own d__law_great (hr.mono (by decide)) (by rfl) passL (pa_cons (pe_own d__law_number (hr.mono (by decide)) (by rfl) passL (pa_cons (pv 0) (pa_cons pe_int pa_nil))) (pa_cons pe_int pa_nil))))
          (pss_cons (ps_set (i := 2) sc__law_made.nd rfl (Or.inl rfl) (pe_own d__law_great (hr.mono (by decide)) (by rfl) passL (pa_cons (pe_own d__law_number (hr.mono (by decide)) (by rfl) passL (pa_cons (pv 0) (pa_cons pe_int pa_nil))) (pa_cons pe_int pa_nil))))
          (pss_cons (ps_set (i := 3) sc__law_made.nd rfl (Or.inl rfl) (pe_op op_add (pe_op op_add (pv 1) pe_int) (pe_own d__law_great (hr.mono (by decide)) (by rfl) passL (pa_cons (pe_own d__law_number (hr.mono (by decide)) (by rfl) passL (pa_cons (pv 0) (pa_cons pe_int pa_nil))) (pa_cons pe_int pa_nil)))))
          (pss_cons (ps_par (i := 4) (j := 5) rfl sc__law_made.nd rfl rfl (by decide) rfl rfl (pa_cons (pe_lst pa_nil) (pa_cons (pe_lst pa_nil) pa_nil)) rfl)
          (pss_cons (ps_for PassesOwn.leaving rfl (pi_range1 (by rfl) T.range (pa_cons (pe_op op_mod (pe_own d__law_number (hr.mono (by decide)) (by rfl) passL (pa_cons (pv 0) (pa_cons pe_int pa_nil))) pe_int) pa_nil)) (pg_name (i := 6) sc__law_made.nd rfl (Or.inl rfl)) (pss_cons (ps_set (i := 7) sc__law_made.nd rfl (Or.inl rfl) (pe_own d__law_number (hr.mono (by decide)) (by rfl) passL (pa_cons (pv 0) (pa_cons (pe_op op_add pe_int (pv 6)) pa_nil))))
          (pss_cons (ps_expr (pe_bm PySem.F.plainAttrs_list PySem.F.slot_list_append PySem.F.type_list_append mt_append (pv 4) (pa_cons (pe_ix (r := rIxL K) ix_list (pe_lst (pa_cons pe_int (pa_cons (pe_op op_add pe_int (pe_op op_mod (pe_op op_divY (pv 7) pe_int) pe_int)) (pa_cons (pe_own d__law_great (hr.mono (by decide)) (by rfl) passL (pa_cons (pe_op op_divY (pv 7) pe_int) (pa_cons pe_int pa_nil))) pa_nil)))) (pe_op op_mod (pv 7) pe_int) (fun _ _ => rfl)) pa_nil)))
          (pss_one (ps_expr (pe_bm PySem.F.plainAttrs_list PySem.F.slot_list_append PySem.F.type_list_append mt_append (pv 5) (pa_cons (pe_callB (id := "min") (r := rMin) (call_minR rfl) (by rfl) T.min (by decide +kernel) (pa_cons (pv 2) (pa_cons (pe_own d__law_great (hr.mono (by decide)) (by rfl) passL (pa_cons (pe_op op_divY (pv 7) pe_int) (pa_cons (pe_callTy (T := "int") (r := rIntB) call_intR (by rfl) T.int (by decide +kernel) (pa_cons (pe_cmpR op_gt (pe_ix (r := rIxL K) ix_list (pv 4) (pe_un un_neg pe_int) (fun _ _ => rfl)) pe_int (nomark _)) pa_nil)) pa_nil))) pa_nil))) pa_nil)))))))
          (pss_one (ps_ret (pe_tup (pa_cons (pv 4) (pa_cons (pv 5) (pa_cons (pv 1) (pa_cons (pv 2) (pa_cons (pv 3) pa_nil))))))))))))), ?_⟩
    refine q_asg S (init_len hv (Nat.le_of_ble_eq_true rfl)) (r := .dt (.int (madeS ns))) (ev_call0 (av_cons (ev_call0 (r := .dt (.int (number ns 1))) (av_cons (ev_var rfl) (av_cons ev_int av_nil)) rfl ⟨ns, 1, rfl, by decide, by decide, rfl⟩) (av_cons ev_int av_nil)) rfl ⟨number ns 1, 1, rfl, rfl⟩) rfl rfl (Nat.le_of_ble_eq_true rfl) fun σ' F' H' S l => ?_ -- _law_size
    refine q_asg S l (r := .dt (.int (madeM ns))) (ev_call0 (av_cons (ev_call0 (r := .dt (.int (number ns 2))) (av_cons (ev_var rfl) (av_cons ev_int av_nil)) rfl ⟨ns, 2, rfl, by decide, by decide, rfl⟩) (av_cons ev_int av_nil)) rfl ⟨number ns 2, 1, rfl, rfl⟩) rfl rfl (Nat.le_of_ble_eq_true rfl) fun σ' F' H' S l => ?_ -- _law_many
    refine q_asg S l (r := .dt (.int (madeT ns))) (ev_ii (ev_ii (ev_var rfl) ev_int) (ev_call0 (r := .dt (.int (greatF (number ns 3) 0))) (av_cons (ev_call0 (r := .dt (.int (number ns 3))) (av_cons (ev_var rfl) (av_cons ev_int av_nil)) rfl ⟨ns, 3, rfl, by decide, by decide, rfl⟩) (av_cons ev_int av_nil)) rfl ⟨number ns 3, 0, rfl, rfl⟩)) rfl rfl (Nat.le_of_ble_eq_true rfl) fun σ' F' H' S l => ?_ -- _law_total
    refine q_parL S l (ev_lst av_nil rfl (Nat.le_of_ble_eq_true rfl)) (ev_lst av_nil rfl (Nat.le_of_ble_eq_true rfl)) rfl (Nat.le_of_ble_eq_true rfl) (Nat.le_of_ble_eq_true rfl) (by decide) fun σ' F' H' S l => ?_
    have hn7 : number ns 0 % 7 = (madeN ns : Int) := by unfold madeN; omega
    have hn6 : madeN ns ≤ 6 := by unfold madeN; omega
    have hL : madeL ns (madeM ns) (madeN ns) = (List.range (madeN ns)).map (madeE ns (madeM ns)) := rfl
    rw [hL] at q
    generalize madeN ns = N at *
    generalize madeM ns = m at *
    generalize madeS ns = sz at *
    generalize madeT ns = t at *
    refine q_forR1X (n := number ns 0 % 7) (m := N) (fun a : List (Int × Int) => [.dt (.list (iD ns)), .dt (.int sz), .dt (.int m), .dt (.int t), .ls (iD (a.map Prod.fst)), .ls (iD (a.map Prod.snd)), .no, .no]) (fun k a => a = (List.range k).map (madeE ns m)) [] S l (av_cons (ev_iC (ev_call0 (r := .dt (.int (number ns 0))) (av_cons (ev_var rfl) (av_cons ev_int av_nil)) rfl ⟨ns, 0, rfl, by decide, by decide, rfl⟩) ev_int (by decide)) av_nil) hn7 (by omega) (Wk.refl _) rfl (fun _ => rfl) (Nat.le_of_ble_eq_true rfl) (fun a k pa hk σ' F' H' S l => ?_) (fun a pa σ' F' H' S l => ?_)
    · have hal : a.length = k := by rw [pa, List.length_map, List.length_range]
      have hsn : a ++ [madeE ns m k] = (List.range (k + 1)).map (madeE ns m) := by rw [pa, range_snoc]
      refine q_asg S l (r := .dt (.int (number ns (4 + (k : Int))))) (ev_call0 (av_cons (ev_var rfl) (av_cons (ev_ii ev_int (ev_var rfl)) av_nil)) rfl ⟨ns, 4 + (k : Int), rfl, by omega, by omega, rfl⟩) rfl rfl (Nat.le_of_ble_eq_true rfl) fun σ' F' H' S l => ?_ -- _law_number_here
      have hE : madeE ns m k = (madeC (number ns (4 + (k : Int))), madeF m (number ns (4 + (k : Int)))) := rfl
      rw [hE] at hsn
      have hnb := number_lt ns (4 + (k : Int))
      generalize number ns (4 + (k : Int)) = n at *
      have h3 : 0 ≤ n % 3 ∧ n % 3 < 3 := by omega
      have hpk : [PyData.int 0, .int (1 + n / 9 % 5), .int (greatF (n / 9) 1)].getD (n % 3).toNat .none = .int (madeC n) := by
        unfold madeC
        have : n % 3 = 0 ∨ n % 3 = 1 ∨ n % 3 = 2 := by omega
        rcases this with e | e | e <;> rw [e] <;> rfl
      refine q_app S l (ds := iD (a.map Prod.fst)) rfl (.toD (ev_pickD [.int 0, .int (1 + n / 9 % 5), .int (greatF (n / 9) 1)] (i := n % 3) (av_cons ev_int (av_cons (ev_ii ev_int (ev_iC (ev_iC (ev_var rfl) ev_int (CDivY.s (by decide) (by decide))) ev_int (by decide))) (av_cons (ev_call0 (r := .dt (.int (greatF (n / 9) 1))) (av_cons (ev_iC (ev_var rfl) ev_int (CDivY.s (by decide) (by decide))) (av_cons ev_int av_nil)) rfl ⟨n / 9, 1, rfl, rfl⟩) av_nil))) (ev_iC (ev_var rfl) ev_int (by decide)) h3.1 h3.2 (Nat.le_of_ble_eq_true rfl)) hpk) (by rw [List.length_map, List.length_map]; omega) fun F' H' S l => ?_
      have hlast : atI (iD (a.map Prod.fst) ++ [PyData.int (madeC n)]) (-1) = some (.int (madeC n)) := by
        refine atI_neg1 ?_
        rw [List.length_append]
        show (_ ++ [_])[_ + 1 - 1]? = _
        rw [Nat.add_sub_cancel, List.getElem?_append_right (Nat.le_refl _), Nat.sub_self]
        rfl
      refine st_app S l (ds := iD (a.map Prod.snd)) (d := .int (madeF m n)) rfl (ev_min (ev_var rfl) (ev_call0 (r := .dt (.int (greatF (n / 3) (if decide ((0 : Int) < madeC n) then 1 else 0)))) (av_cons (ev_iC (ev_var rfl) ev_int (CDivY.s (by decide) (by decide))) (av_cons (ev_intB (ev_ib (ev_ixL (ev_varA rfl) (ev_u ev_int) rfl hlast) ev_int)) av_nil)) rfl ⟨n / 3, _, rfl, rfl⟩)) (by rw [List.length_map, List.length_map]; omega) fun F' H' S l => ?_
      exact ⟨a ++ [(madeC n, madeF m n)], hsn, F', S.wk2 (.same rfl (.same rfl (.same rfl (.same rfl (.same (by rw [List.map_append, iD_snoc]; rfl) (.same (by rw [List.map_append, iD_snoc]; rfl) (.no (.no .nil)))))))), l⟩
    · subst pa
      obtain ⟨F2, S, l⟩ := S.freezeQ 4 l rfl
      obtain ⟨F3, S, l⟩ := S.freezeQ 5 l rfl
      exact st_ret S l (ev_tup (av_cons (ev_var rfl) (av_cons (ev_var rfl) (av_cons (ev_var rfl) (av_cons (ev_var rfl) (av_cons (ev_var rfl) av_nil))))) rfl (Nat.le_of_ble_eq_true rfl)) rfl q
  · exact h.elim
def lshareF (c s m t : Int) : Int × Int := if c = 0 then (0, 1) else (shA c t, shB c s m t)
def R_lshare (ds : List PyData) (r : Sl) : Prop := ∃ c s m t : Int, ds = [.int c, .int s, .int m, .int t] ∧ B40 c ∧ B40 s ∧ B40 m ∧ B40 t ∧ r = .dt (pD (lshareF c s m t))
theorem ok__law_share {f : Addr} {fd : FuncData} (F : Fun K "_law_share" "_law_share" s__law_share f fd) (T : Txt K mg CN CH CT) : FnOk P w K mg base (L2.CX P w) 1 f fd ["_law_count", "_law_size", "_law_many", "_law_total"] (spF K R_lshare noX) := by
  refine F.okX sc__law_share (spF_len (n := 4) (by walk_at "sl") (by rintro _ _ ⟨⟩)) (fun cdv A outer s H vs Q E hr h => ?_)
  obtain ⟨F0, ds, fh, hv, ⟨r, ⟨c, s', m, t, rfl, hc, hs, hm, ht, rfl⟩, q⟩ | ⟨_, h, _⟩⟩ := h
  · --
    have S := Sts.init (N := ["_law_count", "_law_size", "_law_many", "_law_total"]) fh hv
    have hu : (A.deeper (envOfC "_law_share" (defScope s__law_share) s.heap.objs.size f cdv)).units + 64 < cLine := hr.units
    refine ⟨_, (pss_cons (ps_if (pt_cmpR (r := rEqP K) (op_eqP hu) (pv 0) pe_int (nomark _)) (pss_one (ps_ret (pe_tup (pa_cons pe_int (pa_cons pe_int pa_nil))))) pss_nil)
          (pss_one (ps_ret (pe_tup (pa_cons (pe_op op_mulY (pe_op op_mulY pe_int (pv 0)) (pv 3)) (pa_cons (pe_op op_add (pe_op op_mulY (pe_op op_add (pv 0) pe_int) (pv 3)) (pe_op op_mulY (pv 1) (pv 2))) pa_nil)))))), ?_⟩
    refine q_when S (init_len hv (Nat.le_of_ble_eq_true rfl)) (tv_test (ev_eqT (α := Int) (a := c) (b := 0) (ev_var rfl) ev_int rfl rfl)) (fun hb F' H' S => ?_) (fun hb F' H' S => ?_)
    · have e : lshareF c s' m t = (0, 1) := if_pos (of_decide_eq_true hb)
      rw [e] at q
      exact st_ret S (init_len hv (Nat.le_of_ble_eq_true rfl)) (ev_tup (av_cons ev_int (av_cons ev_int av_nil)) rfl (Nat.le_of_ble_eq_true rfl)) rfl q
    have hn : ¬ c = 0 := of_decide_eq_false hb
    have e : lshareF c s' m t = (shA c t, shB c s' m t) := if_neg hn
    rw [e] at q
    have b1 := shA_b hc ht
    exact st_ret S (init_len hv (Nat.le_of_ble_eq_true rfl)) (ev_tup (av_cons (ev_iC (ev_iC ev_int (ev_var rfl) (mulP (m := 2) (n := 40) (by decide) hc.2 (by decide) (by decide))) (ev_var rfl) (mulP b1.1 ht.2 (by decide) (by decide))) (av_cons (ev_ii (ev_iC (ev_ii (ev_var rfl) ev_int) (ev_var rfl) (mulP (succ_lt hc) ht.2 (by decide) (by decide))) (ev_iC (ev_var rfl) (ev_var rfl) (mulP hs.2 hm.2 (by decide) (by decide)))) av_nil)) rfl (Nat.le_of_ble_eq_true rfl)) rfl q
  · exact h.elim
structure Bd (n : Nat) (p : Int × Int) : Prop where
  u : p.1.natAbs < 2 ^ n
  d : p.2.natAbs < 2 ^ n
  pos : 1 ≤ p.2
theorem lshare_bd {c s m t : Int} (hc : B40 c) (hs : B40 s) (hm : B40 m) (ht : B40 t) (h : c = 0 ∨ 1 ≤ t) : Bd 90 (lshareF c s m t) := by
  unfold lshareF
  split
  · exact ⟨by decide, by decide, by decide⟩
  · rename_i hn
    exact ⟨(shA_b hc ht).2, shB_b hc hs hm ht, shB_pos hc.1 hs.1 hm.1 (h.resolve_left hn)⟩
def lstep (s m t : Int) (acc e : Int × Int) : Int × Int :=
  (acc.1 * ((lshareF e.1 s m t).2 * (e.2 + 1)) + (lshareF e.1 s m t).1 * (m + 1) * acc.2, acc.2 * ((lshareF e.1 s m t).2 * (e.2 + 1)))
def lsumF (s m t : Int) (acc : Int × Int) (L : List (Int × Int)) : Int × Int := L.foldl (lstep s m t) acc
theorem lstep_parts {s m t : Int} {e : Int × Int} (hs : B40 s) (hm : B40 m) (ht : B40 t) (he : GoodE t e) : ((lshareF e.1 s m t).1 * (m + 1)).natAbs < 2 ^ 131 ∧ ((lshareF e.1 s m t).2 * (e.2 + 1)).natAbs < 2 ^ 131 ∧ 1 ≤ (lshareF e.1 s m t).2 * (e.2 + 1) := by
  have h := lshare_bd he.1 hs hm ht he.2.2
  refine ⟨up_pow (mul_lt_pow h.u (succ_lt hm)) (by decide), up_pow (mul_lt_pow h.d (succ_lt he.2.1)) (by decide), mul_pos1 h.pos (by have := he.2.1.1; omega)⟩
theorem lstep_bd {s m t : Int} {n : Nat} {acc e : Int × Int} (hs : B40 s) (hm : B40 m) (ht : B40 t) (h : Bd n acc) (he : GoodE t e) : Bd (n + 132) (lstep s m t acc e) := by
  obtain ⟨h1, h2, h3⟩ := lstep_parts hs hm ht he
  refine ⟨?_, up_pow (mul_lt_pow h.d h2) (by omega), mul_pos1 h.pos h3⟩
  have a1 := up_pow (mul_lt_pow h.u h2) (show n + 131 ≤ n + 131 from Nat.le_refl _)
  have a2 := up_pow (mul_lt_pow h1 h.d) (show 131 + n ≤ n + 131 by omega)
  exact add_lt_pow a1 a2
def R_lsum (ds : List PyData) (r : Sl) : Prop := ∃ (L : List (Int × Int)) (s m t : Int), ds = [.list (iD (L.map Prod.fst)), .list (iD (L.map Prod.snd)), .int s, .int m, .int t] ∧ L.length ≤ 9 ∧ B40 s ∧ B40 m ∧ B40 t ∧ (∀ e ∈ L, GoodE t e) ∧ r = .dt (pD (lsumF s m t (0, 1) L))
theorem ok__law_sum {f : Addr} {fd : FuncData} (F : Fun K "_law_sum" "_law_sum" s__law_sum f fd) (T : Txt K mg CN CH CT)
    (d__law_share : DefOk P w K mg base 1 "_law_share" ["_law_count", "_law_size", "_law_many", "_law_total"] (spF K R_lshare noX) []) : FnOk P w K mg base (L2.CX P w) 2 f fd ["_law_counts", "_law_founds", "_law_size", "_law_many", "_law_total"] (spF K R_lsum noX) := by
  refine F.okX sc__law_sum (spF_len (n := 5) (by walk_at "sl") (by rintro _ _ ⟨⟩)) (fun cdv A outer s H vs Q E hr h => ?_)
  obtain ⟨F0, ds, fh, hv, ⟨r, ⟨L, s', m, t, rfl, hL, hs, hm, ht, hg, rfl⟩, q⟩ | ⟨_, h, _⟩⟩ := h
  · --
    have S := Sts.init (N := ["_law_counts", "_law_founds", "_law_size", "_law_many", "_law_total", "_law_above", "_law_below", "_law_count", "_law_found", "_law_one", "_law_whole"]) fh hv
    have hu : (A.deeper (envOfC "_law_sum" (defScope s__law_sum) s.heap.objs.size f cdv)).units + 64 < cLine := hr.units
    refine ⟨_, (pss_cons (ps_asg (pe_tup (pa_cons pe_int (pa_cons pe_int pa_nil))) (pg_tup rfl (pgs_cons (pg_name (i := 5) sc__law_sum.nd rfl (Or.inl rfl)) (pgs_cons (pg_name (i := 6) sc__law_sum.nd rfl (Or.inl rfl)) pgs_nil))))
          (pss_cons (ps_for PassesOwn.leaving rfl (pi_zip (by rfl) T.zip (pa_cons (pv 0) (pa_cons (pv 1) pa_nil))) (pg_tup rfl (pgs_cons (pg_name (i := 7) sc__law_sum.nd rfl (Or.inl rfl)) (pgs_cons (pg_name (i := 8) sc__law_sum.nd rfl (Or.inl rfl)) pgs_nil))) (pss_cons (ps_asg (pe_own d__law_share (hr.mono (by decide)) (by rfl) passL (pa_cons (pv 7) (pa_cons (pv 2) (pa_cons (pv 3) (pa_cons (pv 4) pa_nil))))) (pg_tup rfl (pgs_cons (pg_name (i := 9) sc__law_sum.nd rfl (Or.inl rfl)) (pgs_cons (pg_name (i := 10) sc__law_sum.nd rfl (Or.inl rfl)) pgs_nil))))
          (pss_cons (ps_par (i := 9) (j := 10) rfl sc__law_sum.nd rfl rfl (by decide) rfl rfl (pa_cons (pe_op op_mulY (pv 9) (pe_op op_add (pv 3) pe_int)) (pa_cons (pe_op op_mulY (pv 10) (pe_op op_add (pv 8) pe_int)) pa_nil)) rfl)
          (pss_one (ps_par (i := 5) (j := 6) rfl sc__law_sum.nd rfl rfl (by decide) rfl rfl (pa_cons (pe_op op_add (pe_op op_mulY (pv 5) (pv 10)) (pe_op op_mulY (pv 9) (pv 6))) (pa_cons (pe_op op_mulY (pv 6) (pv 10)) pa_nil)) rfl)))))
          (pss_one (ps_ret (pe_tup (pa_cons (pv 5) (pa_cons (pv 6) pa_nil))))))), ?_⟩
    refine q_two S (init_len hv (Nat.le_of_ble_eq_true rfl)) (d1 := .int 0) (d2 := .int 1) (ev_tup (av_cons ev_int (av_cons ev_int av_nil)) rfl (Nat.le_of_ble_eq_true rfl)) rfl (Nat.le_of_ble_eq_true rfl) (Nat.le_of_ble_eq_true rfl) fun σ' F' H' S l => ?_
    refine q_forZX (ds := iD (L.map Prod.fst)) (es := iD (L.map Prod.snd)) (fun a : Int × Int => [.dt (.list (iD (L.map Prod.fst))), .dt (.list (iD (L.map Prod.snd))), .dt (.int s'), .dt (.int m), .dt (.int t), .dt (.int a.1), .dt (.int a.2), .no, .no, .no, .no]) (fun k a => lsumF s' m t a (L.drop k) = lsumF s' m t (0, 1) L ∧ Bd (1 + 132 * k) a ∧ k ≤ L.length) (0, 1) S l (av_cons (ev_var rfl) (av_cons (ev_var rfl) av_nil)) (by simp only [iD, List.length_map]) (Wk.refl _) ⟨rfl, ⟨by decide, by decide, by decide⟩, Nat.zero_le _⟩ (fun a k d e ps pa hd he x σ' F' H' hx S l => ?_) (fun a pa σ' F' H' S l => ?_)
    · obtain ⟨e1, rfl, hk1⟩ := fst_at hd
      obtain ⟨e2, rfl, hk2⟩ := snd_at he
      rw [hk1] at hk2
      cases hk2
      obtain ⟨p1, p2, p3⟩ := pa
      have hk := (List.getElem?_eq_some_iff.mp hk1).1
      rw [drop_at hk1] at p1
      have hge := hg e1 (List.mem_of_getElem? hk1)
      have hok := lstep_bd hs hm ht p2 hge
      have hsh := lshare_bd hge.1 hs hm ht hge.2.2
      obtain ⟨h1, h2, h3⟩ := lstep_parts hs hm ht hge
      have hst : lstep s' m t a e1 = (a.1 * ((lshareF e1.1 s' m t).2 * (e1.2 + 1)) + (lshareF e1.1 s' m t).1 * (m + 1) * a.2, a.2 * ((lshareF e1.1 s' m t).2 * (e1.2 + 1))) := rfl
      refine g_pair S l (Nat.le_of_ble_eq_true rfl) (Nat.le_of_ble_eq_true rfl) hx rfl fun σ' F' H' S l => ?_
      refine q_two S l (d1 := .int (lshareF e1.1 s' m t).1) (d2 := .int (lshareF e1.1 s' m t).2) (ev_call0 (R := R_lshare) (X := noX) (av_cons (ev_var rfl) (av_cons (ev_var rfl) (av_cons (ev_var rfl) (av_cons (ev_var rfl) av_nil)))) rfl ⟨e1.1, s', m, t, rfl, hge.1, hs, hm, ht, rfl⟩) rfl (Nat.le_of_ble_eq_true rfl) (Nat.le_of_ble_eq_true rfl) fun σ' F' H' S l => ?_
      refine q_par S l (ev_iC (ev_var rfl) (ev_ii (ev_var rfl) ev_int) (mulP hsh.u (succ_lt hm) (by decide) (by decide))) (ev_iC (ev_var rfl) (ev_ii (ev_var rfl) ev_int) (mulP hsh.d (succ_lt hge.2.1) (by decide) (by decide))) rfl (Nat.le_of_ble_eq_true rfl) (Nat.le_of_ble_eq_true rfl) fun σ' F' H' S l => ?_
      refine st_par S l (d1 := .int (lstep s' m t a e1).1) (d2 := .int (lstep s' m t a e1).2) (ev_ii (ev_iC (ev_var rfl) (ev_var rfl) (mulP p2.u h2 (by omega) (by decide))) (ev_iC (ev_var rfl) (ev_var rfl) (mulP h1 p2.d (by decide) (by omega)))) (ev_iC (ev_var rfl) (ev_var rfl) (mulP p2.d h2 (by omega) (by decide))) rfl (Nat.le_of_ble_eq_true rfl) (Nat.le_of_ble_eq_true rfl) fun σ' F' H' S l => ?_
      exact ⟨lstep s' m t a e1, ⟨p1, by rw [Nat.mul_add]; exact hok, hk⟩, F', S.wk2 (.same rfl (.same rfl (.same rfl (.same rfl (.same rfl (.same rfl (.same rfl (.no (.no (.no (.no .nil))))))))))), l⟩
    · have e : a = lsumF s' m t (0, 1) L := by
        have h1 := pa.1
        rw [show (iD (L.map Prod.fst)).length = L.length by simp only [iD, List.length_map], List.drop_length] at h1
        exact h1
      rw [← e] at q
      exact st_ret S l (ev_tup (av_cons (ev_var rfl) (av_cons (ev_var rfl) av_nil)) rfl (Nat.le_of_ble_eq_true rfl)) rfl q
  · exact h.elim
/-! ### as much -/
theorem cross_pos {a b x y : Int} (hb : 0 < b) (h : x * b = y * b) : x = y := Int.eq_of_mul_eq_mul_right (by omega) h
theorem share_cross {c s m t : Int} (h : c = 0 ∨ (1 ≤ t ∧ 0 ≤ c ∧ 0 ≤ s ∧ 0 ≤ m)) : (shareF c s m t).1 * (lshareF c s m t).2 = (lshareF c s m t).1 * (shareF c s m t).2 := by
  unfold shareF lshareF
  split
  · rfl
  · rename_i hn
    obtain ⟨h1, h2, h3, h4⟩ := h.resolve_left hn
    exact frac_cross (shB_pos h2 h3 h4 h1)
theorem step_cross {s m t : Int} {n k : Nat} {acc lacc e : Int × Int} (hs : B40 s) (hm : B40 m) (ht : B40 t) (h : Ok n acc) (hl : Bd k lacc) (he : GoodE t e) (hx : acc.1 * lacc.2 = lacc.1 * acc.2) : (stepW s m t acc e).1 * (lstep s m t lacc e).2 = (lstep s m t lacc e).1 * (stepW s m t acc e).2 := by
  have h1 := share_ok he.1 hs hm ht he.2.2
  have h2 := rar_ok hm he.2.1
  have h3 := prod_ok h1 h2
  have c1 := share_cross (c := e.1) (s := s) (m := m) (t := t) (by
    rcases he.2.2 with z | z
    · exact .inl z
    · exact .inr ⟨z, he.1.1, hs.1, hm.1⟩)
  have c2 : (rarF m e.2).1 * (e.2 + 1) = (m + 1) * (rarF m e.2).2 := frac_cross (by have := he.2.1.1; omega)
  have c3 : (prodF (shareF e.1 s m t) (rarF m e.2)).1 * ((shareF e.1 s m t).2 * (rarF m e.2).2) = ((shareF e.1 s m t).1 * (rarF m e.2).1) * (prodF (shareF e.1 s m t) (rarF m e.2)).2 := frac_cross (mul_pos1 h1.pos h2.pos)
  have c4 : (stepW s m t acc e).1 * (acc.2 * (prodF (shareF e.1 s m t) (rarF m e.2)).2) = (acc.1 * (prodF (shareF e.1 s m t) (rarF m e.2)).2 + (prodF (shareF e.1 s m t) (rarF m e.2)).1 * acc.2) * (stepW s m t acc e).2 := frac_cross (mul_pos1 h.pos h3.pos)
  have p1 := h1.pos
  have p2 := h2.pos
  have p3 := h3.pos
  have p4 := h.pos
  generalize stepW s m t acc e = w at *
  generalize prodF (shareF e.1 s m t) (rarF m e.2) = pr at *
  have hst : lstep s m t lacc e = (lacc.1 * ((lshareF e.1 s m t).2 * (e.2 + 1)) + (lshareF e.1 s m t).1 * (m + 1) * lacc.2, lacc.2 * ((lshareF e.1 s m t).2 * (e.2 + 1))) := rfl
  rw [hst]
  dsimp only
  generalize lshareF e.1 s m t = ls at *
  generalize shareF e.1 s m t = sh at *
  generalize rarF m e.2 = ra at *
  obtain ⟨w1, w2⟩ := w
  obtain ⟨r1, r2⟩ := pr
  obtain ⟨o, u⟩ := ls
  obtain ⟨s1, s2⟩ := sh
  obtain ⟨a1, a2⟩ := ra
  obtain ⟨x, y⟩ := acc
  obtain ⟨lx, ly⟩ := lacc
  obtain ⟨e1, e2⟩ := e
  dsimp only at *
  generalize e2 + 1 = f at *
  generalize m + 1 = g at *
  -- the product, as much
  have k1 : r1 * (u * f) = (o * g) * r2 := by
    refine cross_pos (a := 0) (b := s2 * a2) (by have := mul_pos1 p1 p2; omega) ?_
    grind
  refine cross_pos (a := 0) (b := y * r2) (by have := mul_pos1 p4 p3; omega) ?_
  grind
theorem worth_cross : ∀ (L : List (Int × Int)) {s m t : Int} {n k : Nat} {acc lacc : Int × Int}, B40 s → B40 m → B40 t → Ok n acc → Bd k lacc → (∀ e ∈ L, GoodE t e) → acc.1 * lacc.2 = lacc.1 * acc.2 → (worthF s m t acc L).1 * (lsumF s m t lacc L).2 = (lsumF s m t lacc L).1 * (worthF s m t acc L).2
  | [], _, _, _, _, _, _, _, _, _, _, _, _, _, hx => hx
  | e :: L, s, m, t, n, k, acc, lacc, hs, hm, ht, h, hl, hg, hx => by
    have he := hg e List.mem_cons_self
    exact worth_cross L hs hm ht (step_ok hs hm ht h he) (lstep_bd hs hm ht hl he) (fun z hz => hg z (List.mem_cons_of_mem _ hz)) (step_cross hs hm ht h hl he hx)
theorem worth_ok : ∀ (L : List (Int × Int)) {s m t : Int} {n : Nat} {acc : Int × Int}, B40 s → B40 m → B40 t → Ok n acc → (∀ e ∈ L, GoodE t e) → Ok (n + 133 * L.length) (worthF s m t acc L)
  | [], _, _, _, _, _, _, _, _, h, _ => h
  | e :: L, s, m, t, n, acc, hs, hm, ht, h, hg => by
    have := worth_ok L hs hm ht (step_ok hs hm ht h (hg e List.mem_cons_self)) (fun z hz => hg z (List.mem_cons_of_mem _ hz))
    rw [List.length_cons, show n + 133 * (L.length + 1) = n + 133 + 133 * L.length by omega]
    exact this
theorem lsum_bd : ∀ (L : List (Int × Int)) {s m t : Int} {n : Nat} {acc : Int × Int}, B40 s → B40 m → B40 t → Bd n acc → (∀ e ∈ L, GoodE t e) → Bd (n + 132 * L.length) (lsumF s m t acc L)
  | [], _, _, _, _, _, _, _, _, h, _ => h
  | e :: L, s, m, t, n, acc, hs, hm, ht, h, hg => by
    have := lsum_bd L hs hm ht (lstep_bd hs hm ht h (hg e List.mem_cons_self)) (fun z hz => hg z (List.mem_cons_of_mem _ hz))
    rw [List.length_cons, show n + 132 * (L.length + 1) = n + 132 + 132 * L.length by omega]
    exact this

/-! ### order of shares -/
theorem share_AB {c s m t : Int} (hc : 0 ≤ c) (hs : 0 ≤ s) (hm : 0 ≤ m) (ht : 1 ≤ t) : (shareF c s m t).1 * shB c s m t = shA c t * (shareF c s m t).2 := by
  unfold shareF
  split
  · rename_i h
    subst h
    show (0 : Int) * _ = 2 * 0 * t * 1
    rw [Int.zero_mul, Int.mul_zero, Int.zero_mul, Int.zero_mul]
  · exact frac_cross (shB_pos hc hs hm ht)
theorem lt_cross {p q : Int × Int} {a b a' b' : Int} (hb : 0 < b) (hb' : 0 < b') (hp : 0 < p.2) (hq : 0 < q.2) (h1 : p.1 * b = a * p.2) (h2 : q.1 * b' = a' * q.2) (h : a * b' < a' * b) : p.1 * q.2 < q.1 * p.2 := by
  by_cases hn : q.1 * p.2 ≤ p.1 * q.2
  · exfalso
    have h3 := Int.mul_le_mul_of_nonneg_right hn (show 0 ≤ b * b' from Int.mul_nonneg (by omega) (by omega))
    have h4 : q.1 * p.2 * (b * b') = a' * b * (p.2 * q.2) := by grind
    have h5 : p.1 * q.2 * (b * b') = a * b' * (p.2 * q.2) := by grind
    rw [h4, h5] at h3
    have h6 : 0 < p.2 * q.2 := Int.mul_pos hp hq
    have h7 := Int.mul_lt_mul_of_pos_right h h6
    omega
  · omega
theorem share_lt2 {c s m t : Int} (hc : B40 c) (hs : B40 s) (hm : B40 m) (ht : B40 t) (h : 1 ≤ t) : (shareF c s m t).1 < 2 * (shareF c s m t).2 := by
  have h0 := (share_ok hc hs hm ht (.inr h)).pos
  have h1 := share_AB hc.1 hs.1 hm.1 h
  have h2 := shB_pos hc.1 hs.1 hm.1 h
  have h3 := lt_cross (p := shareF c s m t) (q := (2, 1)) (a := shA c t) (b := shB c s m t) (a' := 2) (b' := 1) (by omega) (by decide) (by omega) (by decide) h1 rfl (by
    have h4 := Int.mul_nonneg hs.1 hm.1
    have h5 := Int.mul_nonneg hc.1 ht.1
    unfold shA shB
    have e1 : 2 * c * t * 1 = 2 * (c * t) := by grind
    have e2 : 2 * ((c + 1) * t + s * m) = 2 * (c * t) + 2 * t + 2 * (s * m) := by grind
    rw [e1, e2]
    omega)
  simpa using h3
theorem share_more {c s m t : Int} (hc : B40 c) (hc1 : B40 (c + 1)) (hs : B40 s) (hm : B40 m) (ht : B40 t) (h : 1 ≤ t) : (shareF c s m t).1 * (shareF (c + 1) s m t).2 < (shareF (c + 1) s m t).1 * (shareF c s m t).2 := by
  have p0 := (share_ok hc hs hm ht (.inr h)).pos
  have q0 := (share_ok hc1 hs hm ht (.inr h)).pos
  have b0 := shB_pos hc.1 hs.1 hm.1 h
  have b1 := shB_pos hc1.1 hs.1 hm.1 h
  refine lt_cross (by omega) (by omega) (by omega) (by omega) (share_AB hc.1 hs.1 hm.1 h) (share_AB hc1.1 hs.1 hm.1 h) ?_
  have h4 := Int.mul_nonneg hs.1 hm.1
  have h5 : 0 < t * (t + s * m) := Int.mul_pos (by omega) (by omega)
  have e : shA (c + 1) t * shB c s m t = shA c t * shB (c + 1) s m t + 2 * (t * (t + s * m)) := by
    unfold shA shB
    grind
  rw [e]
  omega
theorem share_less {c s m t : Int} (hc : B40 c) (hs : B40 s) (hs1 : B40 (s + 1)) (hm : B40 m) (ht : B40 t) (h : 1 ≤ t) (hm1 : 1 ≤ m) (h0 : 0 < c) : (shareF c (s + 1) m t).1 * (shareF c s m t).2 < (shareF c s m t).1 * (shareF c (s + 1) m t).2 := by
  have p0 := (share_ok hc hs hm ht (.inr h)).pos
  have q0 := (share_ok hc hs1 hm ht (.inr h)).pos
  have b0 := shB_pos hc.1 hs.1 hm.1 h
  have b1 := shB_pos hc.1 hs1.1 hm.1 h
  refine lt_cross (by omega) (by omega) (by omega) (by omega) (share_AB hc.1 hs1.1 hm.1 h) (share_AB hc.1 hs.1 hm.1 h) ?_
  have h5 : 0 < c * t * m := Int.mul_pos (Int.mul_pos h0 (by omega)) (by omega)
  have e : shA c t * shB c (s + 1) m t = shA c t * shB c s m t + 2 * (c * t * m) := by
    unfold shA shB
    grind
  rw [e]
  omega
abbrev Bs (z : Int) : Prop := 0 ≤ z ∧ z ≤ 8589934592
theorem Bs.b {z : Int} (h : Bs z) : B40 z := b40_of h.1 (by omega)
theorem Bs.s {z : Int} (h : Bs z) : B40 (z + 1) := b40_of (by omega) (by omega)
def R_sright (ds : List PyData) (r : Sl) : Prop := ∃ (L : List (Int × Int)) (s m t : Int), ds = [.list (iD (L.map Prod.fst)), .list (iD (L.map Prod.snd)), .int s, .int m, .int t] ∧ Bs s ∧ Bs m ∧ Bs t ∧ 1 ≤ m ∧ 1 ≤ t ∧ (∀ e ∈ L, Bs e.1 ∧ Bs e.2) ∧ r = .dt (.bool true)
theorem ok__law_shares_right {f : Addr} {fd : FuncData} (F : Fun K "_law_shares_right" "_law_shares_right" s__law_shares_right f fd) (T : Txt K mg CN CH CT)
    (d__law_share : DefOk P w K mg base 1 "_law_share" ["_law_count", "_law_size", "_law_many", "_law_total"] (spF K R_lshare noX) [])
    (d_share_of : DefOk P w K mg base 4 "share_of" ["count", "size", "many", "total"] (spF K R_share (X_share CN)) [])
    (d__law_is : DefOk P w K mg base 2 "_law_is" ["_law_found", "_law_above", "_law_below"] (spF K R_is noX) [])
    (d_rarity_of : DefOk P w K mg base 4 "rarity_of" ["many", "found"] (spF K R_rar (X_rar CN)) []) : FnOk P w K mg base (L2.CX P w) 5 f fd ["_law_counts", "_law_founds", "_law_size", "_law_many", "_law_total"] (spF K R_sright noX) := by
  refine F.okX sc__law_shares_right (spF_len (n := 5) (by walk_at "sl") (by rintro _ _ ⟨⟩)) (fun cdv A outer s H vs Q E hr h => ?_)
  obtain ⟨F0, ds, fh, hv, ⟨r, ⟨L, s', m, t, rfl, hs, hm, ht, hm1, ht1, hg, rfl⟩, q⟩ | ⟨_, h, _⟩⟩ := h
  · --
    have S := Sts.init (N := ["_law_counts", "_law_founds", "_law_size", "_law_many", "_law_total", "_law_count", "_law_found", "_law_above", "_law_below", "_law_share_here", "_law_more", "_law_less"]) fh hv
    have hu : (A.deeper (envOfC "_law_shares_right" (defScope s__law_shares_right) s.heap.objs.size f cdv)).units + 64 < cLine := hr.units
    refine ⟨_, (pss_cons (ps_for PassesOwn.leaving rfl (pi_zip (by rfl) T.zip (pa_cons (pv 0) (pa_cons (pv 1) pa_nil))) (pg_tup rfl (pgs_cons (pg_name (i := 5) sc__law_shares_right.nd rfl (Or.inl rfl)) (pgs_cons (pg_name (i := 6) sc__law_shares_right.nd rfl (Or.inl rfl)) pgs_nil))) (pss_cons (ps_asg (pe_own d__law_share (hr.mono (by decide)) (by rfl) passL (pa_cons (pv 5) (pa_cons (pv 2) (pa_cons (pv 3) (pa_cons (pv 4) pa_nil))))) (pg_tup rfl (pgs_cons (pg_name (i := 7) sc__law_shares_right.nd rfl (Or.inl rfl)) (pgs_cons (pg_name (i := 8) sc__law_shares_right.nd rfl (Or.inl rfl)) pgs_nil))))
          (pss_cons (ps_set (i := 9) sc__law_shares_right.nd rfl (Or.inl rfl) (pe_own d_share_of (hr.mono (by decide)) (by rfl) (passes_call (takes_of rfl rfl rfl rfl) (fun _ _ _ _ h => h)) (pa_cons (pv 5) (pa_cons (pv 2) (pa_cons (pv 3) (pa_cons (pv 4) pa_nil))))))
          (pss_cons (ps_if (PW.pt (pw_or (pt_not (pt_val (pe_own d__law_is (hr.mono (by decide)) (by rfl) passL (pa_cons (pv 9) (pa_cons (pv 7) (pa_cons (pv 8) pa_nil)))))) (pw_or1 (pt_not (pt_val (pe_own d__law_is (hr.mono (by decide)) (by rfl) passL (pa_cons (pe_own d_rarity_of (hr.mono (by decide)) (by rfl) (passes_call (takes_of rfl rfl rfl rfl) (fun _ _ _ _ h => h)) (pa_cons (pv 3) (pa_cons (pv 6) pa_nil))) (pa_cons (pe_op op_add (pv 3) pe_int) (pa_cons (pe_op op_add (pv 6) pe_int) pa_nil))))))))) (pss_one (ps_ret pe_bl)) pss_nil)
          (pss_cons (ps_set (i := 10) sc__law_shares_right.nd rfl (Or.inl rfl) (pe_own d_share_of (hr.mono (by decide)) (by rfl) (passes_call (takes_of rfl rfl rfl rfl) (fun _ _ _ _ h => h)) (pa_cons (pe_op op_add (pv 5) pe_int) (pa_cons (pv 2) (pa_cons (pv 3) (pa_cons (pv 4) pa_nil))))))
          (pss_cons (ps_set (i := 11) sc__law_shares_right.nd rfl (Or.inl rfl) (pe_own d_share_of (hr.mono (by decide)) (by rfl) (passes_call (takes_of rfl rfl rfl rfl) (fun _ _ _ _ h => h)) (pa_cons (pv 5) (pa_cons (pe_op op_add (pv 2) pe_int) (pa_cons (pv 3) (pa_cons (pv 4) pa_nil))))))
          (pss_cons (ps_if (PW.pt (pw_or (pt_cmpR op_ge (pe_ix (r := rIxT K) ix_tup (pv 9) pe_int (fun _ _ => rfl)) (pe_op op_mulY pe_int (pe_ix (r := rIxT K) ix_tup (pv 9) pe_int (fun _ _ => rfl))) (nomark _)) (pw_or1 (pt_cmpR op_ge (pe_op op_mulY (pe_ix (r := rIxT K) ix_tup (pv 9) pe_int (fun _ _ => rfl)) (pe_ix (r := rIxT K) ix_tup (pv 10) pe_int (fun _ _ => rfl))) (pe_op op_mulY (pe_ix (r := rIxT K) ix_tup (pv 10) pe_int (fun _ _ => rfl)) (pe_ix (r := rIxT K) ix_tup (pv 9) pe_int (fun _ _ => rfl))) (nomark _))))) (pss_one (ps_ret pe_bl)) pss_nil)
          (pss_one (ps_if (PW.pt (pw_and (pt_cmpR op_gt (pv 5) pe_int (nomark _)) (pw_and1 (pt_cmpR op_ge (pe_op op_mulY (pe_ix (r := rIxT K) ix_tup (pv 11) pe_int (fun _ _ => rfl)) (pe_ix (r := rIxT K) ix_tup (pv 9) pe_int (fun _ _ => rfl))) (pe_op op_mulY (pe_ix (r := rIxT K) ix_tup (pv 9) pe_int (fun _ _ => rfl)) (pe_ix (r := rIxT K) ix_tup (pv 11) pe_int (fun _ _ => rfl))) (nomark _))))) (pss_one (ps_ret pe_bl)) pss_nil)))))))))
          (pss_one (ps_ret pe_bl))), ?_⟩
    refine q_forZ (ds := iD (L.map Prod.fst)) (es := iD (L.map Prod.snd)) S (init_len hv (Nat.le_of_ble_eq_true rfl)) (av_cons (ev_var rfl) (av_cons (ev_var rfl) av_nil)) (by simp only [iD, List.length_map]) (fun _ => [.dt (.list (iD (L.map Prod.fst))), .dt (.list (iD (L.map Prod.snd))), .dt (.int s'), .dt (.int m), .dt (.int t), .no, .no, .no, .no, .no, .no, .no]) (Wk.refl _) (fun k d e ps hd he x σ' F' H' hx S l => ?_) (fun σ' F' H' S l => ?_)
    · obtain ⟨e1, rfl, hk1⟩ := fst_at hd
      obtain ⟨e2, rfl, hk2⟩ := snd_at he
      rw [hk1] at hk2
      cases hk2
      obtain ⟨hc, hf⟩ := hg e1 (List.mem_of_getElem? hk1)
      obtain ⟨c, f'⟩ := e1
      dsimp only at *
      have hsh := share_ok hc.b hs.b hm.b ht.b (.inr ht1)
      have hsh1 := share_ok hc.s hs.b hm.b ht.b (.inr ht1)
      have hsh2 := share_ok hc.b hs.s hm.b ht.b (.inr ht1)
      have hra := rar_ok hm.b hf.b
      have hlb := lshare_bd hc.b hs.b hm.b ht.b (.inr ht1)
      have hx1 := share_cross (c := c) (s := s') (m := m) (t := t) (.inr ⟨ht1, hc.1, hs.1, hm.1⟩)
      have hx2 : (rarF m f').1 * (f' + 1) = (m + 1) * (rarF m f').2 := frac_cross (by have := hf.1; omega)
      have o1 := share_lt2 hc.b hs.b hm.b ht.b ht1
      have o2 := share_more hc.b hc.s hs.b hm.b ht.b ht1
      have o3 : 0 < c → (shareF c (s' + 1) m t).1 * (shareF c s' m t).2 < (shareF c s' m t).1 * (shareF c (s' + 1) m t).2 := fun h => share_less hc.b hs.b hs.s hm.b ht.b ht1 hm1 h
      refine g_pair S l (Nat.le_of_ble_eq_true rfl) (Nat.le_of_ble_eq_true rfl) hx rfl fun σ' F' H' S l => ?_
      refine q_two S l (d1 := .int (lshareF c s' m t).1) (d2 := .int (lshareF c s' m t).2) (ev_call0 (R := R_lshare) (X := noX) (av_cons (ev_var rfl) (av_cons (ev_var rfl) (av_cons (ev_var rfl) (av_cons (ev_var rfl) av_nil)))) rfl ⟨c, s', m, t, rfl, hc.b, hs.b, hm.b, ht.b, rfl⟩) rfl (Nat.le_of_ble_eq_true rfl) (Nat.le_of_ble_eq_true rfl) fun σ' F' H' S l => ?_
      refine q_asg S l (r := .dt (pD (shareF c s' m t))) (ev_call0 (R := R_share) (X := X_share CN) (av_cons (ev_var rfl) (av_cons (ev_var rfl) (av_cons (ev_var rfl) (av_cons (ev_var rfl) av_nil)))) rfl ⟨c, s', m, t, rfl, hc.b, hs.b, hm.b, ht.b, .inr ht1, rfl⟩) rfl rfl (Nat.le_of_ble_eq_true rfl) fun σ' F' H' S l => ?_ -- _law_share_here
      refine q_when S l (b := false) (tv_or (a := false) (b := false) (.to (tv_not (tv_B (ev_call0 (r := .dt (.bool true)) (av_cons (ev_var rfl) (av_cons (ev_var rfl) (av_cons (ev_var rfl) av_nil))) rfl ⟨shareF c s' m t, (lshareF c s' m t).1, (lshareF c s' m t).2, 90, rfl, hsh, by decide, lt_mid hlb.u (by decide), lt_mid hlb.d (by decide), hx1, rfl⟩))) rfl) fun _ => .to (tv_not (tv_B (ev_call0 (r := .dt (.bool true)) (av_cons (ev_call0 (r := .dt (pD (rarF m f'))) (R := R_rar) (X := X_rar CN) (av_cons (ev_var rfl) (av_cons (ev_var rfl) av_nil)) rfl ⟨m, f', rfl, hm.b, hf.b, rfl⟩) (av_cons (ev_ii (ev_var rfl) ev_int) (av_cons (ev_ii (ev_var rfl) ev_int) av_nil))) rfl ⟨rarF m f', m + 1, f' + 1, 41, rfl, hra, by decide, lt_mid (succ_lt hm.b) (by decide), lt_mid (succ_lt hf.b) (by decide), hx2, rfl⟩))) rfl) (fun hb => nomatch hb) (fun hb F' H' S => ?_)
      refine q_asg S l (r := .dt (pD (shareF (c + 1) s' m t))) (ev_call0 (R := R_share) (X := X_share CN) (av_cons (ev_ii (ev_var rfl) ev_int) (av_cons (ev_var rfl) (av_cons (ev_var rfl) (av_cons (ev_var rfl) av_nil)))) rfl ⟨c + 1, s', m, t, rfl, hc.s, hs.b, hm.b, ht.b, .inr ht1, rfl⟩) rfl rfl (Nat.le_of_ble_eq_true rfl) fun σ' F' H' S l => ?_ -- _law_more
      refine q_asg S l (r := .dt (pD (shareF c (s' + 1) m t))) (ev_call0 (R := R_share) (X := X_share CN) (av_cons (ev_var rfl) (av_cons (ev_ii (ev_var rfl) ev_int) (av_cons (ev_var rfl) (av_cons (ev_var rfl) av_nil)))) rfl ⟨c, s' + 1, m, t, rfl, hc.b, hs.s, hm.b, ht.b, .inr ht1, rfl⟩) rfl rfl (Nat.le_of_ble_eq_true rfl) fun σ' F' H' S l => ?_ -- _law_less
      generalize shareF c s' m t = p at *
      generalize shareF (c + 1) s' m t = p1 at *
      generalize shareF c (s' + 1) m t = p2 at *
      refine q_when S l (b := false) (tv_or (a := false) (b := false) (.to (tv_test (ev_ib (ev_ixT (ds := [.int p.1, .int p.2]) (ev_var rfl) ev_int rfl rfl) (ev_iC ev_int (ev_ixT (ds := [.int p.1, .int p.2]) (ev_var rfl) ev_int rfl rfl) (mulP (m := 2) (n := 90) (by decide) hsh.d (by decide) (by decide))))) (decide_eq_false (by omega))) fun _ => .to (tv_test (ev_ib (ev_iC (ev_ixT (ds := [.int p.1, .int p.2]) (ev_var rfl) ev_int rfl rfl) (ev_ixT (ds := [.int p1.1, .int p1.2]) (ev_var rfl) ev_int rfl rfl) (mulP hsh.u hsh1.d (by decide) (by decide))) (ev_iC (ev_ixT (ds := [.int p1.1, .int p1.2]) (ev_var rfl) ev_int rfl rfl) (ev_ixT (ds := [.int p.1, .int p.2]) (ev_var rfl) ev_int rfl rfl) (mulP hsh1.u hsh.d (by decide) (by decide))))) (decide_eq_false (by omega))) (fun hb => nomatch hb) (fun hb F' H' S => ?_)
      refine st_when S l (b := false) (.to (tv_and (a := decide (0 < c)) (b := false) (tv_test (ev_ib (ev_var rfl) ev_int)) fun h0 => .to (tv_test (ev_ib (ev_iC (ev_ixT (ds := [.int p2.1, .int p2.2]) (ev_var rfl) ev_int rfl rfl) (ev_ixT (ds := [.int p.1, .int p.2]) (ev_var rfl) ev_int rfl rfl) (mulP hsh2.u hsh.d (by decide) (by decide))) (ev_iC (ev_ixT (ds := [.int p.1, .int p.2]) (ev_var rfl) ev_int rfl rfl) (ev_ixT (ds := [.int p2.1, .int p2.2]) (ev_var rfl) ev_int rfl rfl) (mulP hsh.u hsh2.d (by decide) (by decide))))) (decide_eq_false (by have := o3 (of_decide_eq_true h0); omega))) (Bool.and_false _)) (fun hb => nomatch hb) (fun hb F' H' S => ?_)
      exact ⟨F', S.wk2 (.same rfl (.same rfl (.same rfl (.same rfl (.same rfl (.no (.no (.no (.no (.no (.no (.no .nil)))))))))))), l⟩
    · exact st_ret S l ev_bl rfl q
  · exact h.elim

/-! ### nothing stands -/
theorem frac_zero {b : Int} (h : 1 ≤ b) : frac 0 b = (0, 1) := by
  unfold frac
  have e : (Nat.gcd (0 : Int).natAbs b.natAbs : Int) = b := by
    rw [show (0 : Int).natAbs = 0 from rfl, Nat.gcd_zero_left]
    omega
  rw [e, Int.zero_ediv, Int.ediv_self (by omega)]
theorem share_zero (s m t : Int) : shareF 0 s m t = (0, 1) := if_pos rfl
theorem step_zero {s m t f : Int} {acc : Int × Int} (hm : B40 m) (hf : B40 f) (h : acc = (0, 1)) : stepW s m t acc (0, f) = (0, 1) := by
  subst h
  unfold stepW sumF prodF
  rw [share_zero]
  have hr := (rar_ok hm hf).pos
  have hpr : frac (0 * (rarF m f).1) (1 * (rarF m f).2) = (0, 1) := by rw [Int.zero_mul, Int.one_mul, frac_zero hr]
  show frac (0 * (frac (0 * (rarF m f).1) (1 * (rarF m f).2)).2 + (frac (0 * (rarF m f).1) (1 * (rarF m f).2)).1 * 1) (1 * (frac (0 * (rarF m f).1) (1 * (rarF m f).2)).2) = _
  rw [hpr]
  rfl
theorem worth_zero {s m t f : Int} (hm : B40 m) (hf : B40 f) : ∀ k : Nat, worthF s m t (0, 1) (List.replicate k (0, f)) = (0, 1)
  | 0 => rfl
  | k + 1 => by
    rw [List.replicate_succ]
    show worthF s m t (stepW s m t (0, 1) (0, f)) _ = _
    rw [step_zero hm hf rfl]
    exact worth_zero hm hf k
theorem rep_one {α : Type} (x : α) (k : Nat) : (List.replicate k [x]).flatten = List.replicate k x := by
  induction k with
  | zero => rfl
  | succ k ih => rw [List.replicate_succ, List.flatten_cons, ih, List.replicate_succ]; rfl
theorem two_at {a b z : Int} (h0 : 0 ≤ z) (h1 : z < 2) : [PyData.int a, .int b].getD z.toNat .none = .int (if z = 0 then a else b) := by
  have : z = 0 ∨ z = 1 := by omega
  rcases this with rfl | rfl <;> rfl
def R_noughts (ds : List PyData) (r : Sl) : Prop := ∃ ns : List Int, ds = [.list (iD ns)] ∧ r = .dt (.bool true)
theorem ok__law_noughts_right {f : Addr} {fd : FuncData} (F : Fun K "_law_noughts_right" "_law_noughts_right" s__law_noughts_right f fd) (T : Txt K mg CN CH CT)
    (d__law_number : DefOk P w K mg base 2 "_law_number" ["_law_script", "_law_k"] (spF K R_number noX) [])
    (d_worth_of : DefOk P w K mg base 5 "worth_of" ["counts", "founds", "size", "many", "total"] (spF K R_worth (X_worth CN)) [])
    (d_share_of : DefOk P w K mg base 4 "share_of" ["count", "size", "many", "total"] (spF K R_share (X_share CN)) [])
    (d__law_is : DefOk P w K mg base 2 "_law_is" ["_law_found", "_law_above", "_law_below"] (spF K R_is noX) [])
    (d_rarity_of : DefOk P w K mg base 4 "rarity_of" ["many", "found"] (spF K R_rar (X_rar CN)) []) : FnOk P w K mg base (L2.CX P w) 6 f fd ["_law_script"] (spF K R_noughts noX) := by
  refine F.okX sc__law_noughts_right (spF_len (n := 1) (by walk_at "sl") (by rintro _ _ ⟨⟩)) (fun cdv A outer s H vs Q E hr h => ?_)
  obtain ⟨F0, ds, fh, hv, ⟨r, ⟨ns, rfl, rfl⟩, q⟩ | ⟨_, h, _⟩⟩ := h
  · --
    have S := Sts.init (N := ["_law_script", "_law_number_here", "_law_many", "_law_total", "_law_size", "_law_founds", "_law_found"]) fh hv
    have hu : (A.deeper (envOfC "_law_noughts_right" (defScope s__law_noughts_right) s.heap.objs.size f cdv)).units + 64 < cLine := hr.units
    refine ⟨_, (pss_cons (ps_set (i := 1) sc__law_noughts_right.nd rfl (Or.inl rfl) (pe_own d__law_number (hr.mono (by decide)) (by rfl) passL (pa_cons (pv 0) (pa_cons pe_int pa_nil))))
          (pss_cons (ps_set (i := 2) sc__law_noughts_right.nd rfl (Or.inl rfl) (pe_ix (r := rIxL K) ix_list (pe_lst (pa_cons pe_int (pa_cons (pe_op op_mod (pe_op op_divY (pv 1) pe_int) pe_int) pa_nil))) (pe_op op_mod (pv 1) pe_int) (fun _ _ => rfl)))
          (pss_cons (ps_set (i := 3) sc__law_noughts_right.nd rfl (Or.inl rfl) (pe_ix (r := rIxL K) ix_list (pe_lst (pa_cons pe_int (pa_cons (pv 2) pa_nil))) (pe_op op_mod (pe_op op_divY (pv 1) pe_int) pe_int) (fun _ _ => rfl)))
          (pss_cons (ps_set (i := 4) sc__law_noughts_right.nd rfl (Or.inl rfl) (pe_callB (id := "min") (r := rMin) (call_minR rfl) (by rfl) T.min (by decide +kernel) (pa_cons (pv 3) (pa_cons (pe_op op_mod (pe_op op_divY (pv 1) pe_int) pe_int) pa_nil))))
          (pss_cons (ps_set (i := 5) sc__law_noughts_right.nd rfl (Or.inl rfl) (pe_op (r := rRep) op_rep (pe_lst (pa_cons (pe_callB (id := "min") (r := rMin) (call_minR rfl) (by rfl) T.min (by decide +kernel) (pa_cons (pv 2) (pa_cons (pe_op op_mod (pe_op op_divY (pv 1) pe_int) pe_int) pa_nil))) pa_nil)) (pe_op op_mod (pe_op op_divY (pv 1) pe_int) pe_int)))
          (pss_cons (ps_if (PW.pt (pw_or (pt_cmpR (r := rNeP K) (op_neP hu) (pe_own d_share_of (hr.mono (by decide)) (by rfl) (passes_call (takes_of rfl rfl rfl rfl) (fun _ _ _ _ h => h)) (pa_cons pe_int (pa_cons (pv 4) (pa_cons (pv 2) (pa_cons (pv 3) pa_nil))))) (pe_tup (pa_cons pe_int (pa_cons pe_int pa_nil))) (nomark _)) (pw_or1 (pt_cmpR (r := rNeP K) (op_neP hu) (pe_own d_worth_of (hr.mono (by decide)) (by rfl) (passes_call (takes_of rfl rfl rfl rfl) (fun _ _ _ _ h => h)) (pa_cons (pe_op (r := rRep) op_rep (pe_lst (pa_cons pe_int pa_nil)) (pe_callB (id := "len") (r := rLenR K) call_lenR (by rfl) T.len (by decide +kernel) (pa_cons (pv 5) pa_nil))) (pa_cons (pv 5) (pa_cons (pv 4) (pa_cons (pv 2) (pa_cons (pv 3) pa_nil)))))) (pe_tup (pa_cons pe_int (pa_cons pe_int pa_nil))) (nomark _))))) (pss_one (ps_ret pe_bl)) pss_nil)
          (pss_cons (ps_set (i := 6) sc__law_noughts_right.nd rfl (Or.inl rfl) (pe_callB (id := "min") (r := rMin) (call_minR rfl) (by rfl) T.min (by decide +kernel) (pa_cons (pv 2) (pa_cons (pe_op op_mod (pe_op op_divY (pv 1) pe_int) pe_int) pa_nil))))
          (pss_one (ps_ret (pe_own d__law_is (hr.mono (by decide)) (by rfl) passL (pa_cons (pe_own d_rarity_of (hr.mono (by decide)) (by rfl) (passes_call (takes_of rfl rfl rfl rfl) (fun _ _ _ _ h => h)) (pa_cons (pv 2) (pa_cons (pv 6) pa_nil))) (pa_cons (pe_op op_add (pv 2) pe_int) (pa_cons (pe_op op_add (pv 6) pe_int) pa_nil))))))))))))), ?_⟩
    refine q_asg S (init_len hv (Nat.le_of_ble_eq_true rfl)) (r := .dt (.int (number ns 23))) (ev_call0 (av_cons (ev_var rfl) (av_cons ev_int av_nil)) rfl ⟨ns, 23, rfl, by decide, by decide, rfl⟩) rfl rfl (Nat.le_of_ble_eq_true rfl) fun σ' F' H' S l => ?_ -- _law_number_here
    have hnb := number_lt ns 23
    generalize number ns 23 = n at *
    have z1 : 0 ≤ n % 2 ∧ n % 2 < 2 := by omega
    have z2 : 0 ≤ n / 2 % 2 ∧ n / 2 % 2 < 2 := by omega
    refine q_asg S l (r := .dt (.int (if n % 2 = 0 then 0 else n / 4 % 9))) (.toD (ev_pickD [.int 0, .int (n / 4 % 9)] (i := n % 2) (av_cons ev_int (av_cons (ev_iC (ev_iC (ev_var rfl) ev_int (CDivY.s (by decide) (by decide))) ev_int (by decide)) av_nil)) (ev_iC (ev_var rfl) ev_int (by decide)) z1.1 z1.2 (Nat.le_of_ble_eq_true rfl)) (two_at z1.1 z1.2)) rfl rfl (Nat.le_of_ble_eq_true rfl) fun σ' F' H' S l => ?_ -- _law_many
    have hm : 0 ≤ (if n % 2 = 0 then 0 else n / 4 % 9) ∧ (if n % 2 = 0 then 0 else n / 4 % 9) ≤ 8 := by split <;> omega
    generalize (if n % 2 = 0 then 0 else n / 4 % 9) = m at *
    refine q_asg S l (r := .dt (.int (if n / 2 % 2 = 0 then 0 else m))) (.toD (ev_pickD [.int 0, .int m] (i := n / 2 % 2) (av_cons ev_int (av_cons (ev_var rfl) av_nil)) (ev_iC (ev_iC (ev_var rfl) ev_int (CDivY.s (by decide) (by decide))) ev_int (by decide)) z2.1 z2.2 (Nat.le_of_ble_eq_true rfl)) (two_at z2.1 z2.2)) rfl rfl (Nat.le_of_ble_eq_true rfl) fun σ' F' H' S l => ?_ -- _law_total
    have ht : 0 ≤ (if n / 2 % 2 = 0 then 0 else m) ∧ (if n / 2 % 2 = 0 then 0 else m) ≤ 8 := by split <;> omega
    generalize (if n / 2 % 2 = 0 then 0 else m) = t at *
    refine q_asg S l (r := .dt (.int (min t (n / 36 % 3)))) (ev_min (ev_var rfl) (ev_iC (ev_iC (ev_var rfl) ev_int (CDivY.s (by decide) (by decide))) ev_int (by decide))) rfl rfl (Nat.le_of_ble_eq_true rfl) fun σ' F' H' S l => ?_ -- _law_size
    have hs : 0 ≤ min t (n / 36 % 3) ∧ min t (n / 36 % 3) ≤ 8 := by omega
    generalize min t (n / 36 % 3) = sz at *
    have hf : 0 ≤ min m (n / 108 % 4) ∧ min m (n / 108 % 4) ≤ 8 := by omega
    have hk : 0 ≤ n / 432 % 4 ∧ n / 432 % 4 ≤ 3 := by omega
    have bm : B40 m := b40_of hm.1 (by omega)
    have bt : B40 t := b40_of ht.1 (by omega)
    have bs : B40 sz := b40_of hs.1 (by omega)
    have bf : B40 (min m (n / 108 % 4)) := b40_of hf.1 (by omega)
    have hf2 : min m (n / 108 % 4) = min m (n / 108 % 4) := rfl
    refine q_asg S l (r := .dt (.list (iD ((List.replicate (n / 432 % 4).toNat ((0 : Int), min m (n / 108 % 4))).map Prod.snd)))) (.frz (.to (ev_rep (ds := [.int (min m (n / 108 % 4))]) (n := n / 432 % 4) (ev_lst (av_cons (ev_min (ev_var rfl) (ev_iC (ev_iC (ev_var rfl) ev_int (CDivY.s (by decide) (by decide))) ev_int (by decide))) av_nil) rfl (Nat.le_of_ble_eq_true rfl)) (ev_iC (ev_iC (ev_var rfl) ev_int (CDivY.s (by decide) (by decide))) ev_int (by decide)) (by omega) (by show 1 * _ ≤ _; omega)) (by rw [rep_one, List.map_replicate, iD, List.map_replicate]))) rfl rfl (Nat.le_of_ble_eq_true rfl) fun σ' F' H' S l => ?_ -- _law_founds
    have hw := worth_zero (s := sz) (t := t) bm bf (n / 432 % 4).toNat
    have hlen : ((iD ((List.replicate (n / 432 % 4).toNat ((0 : Int), min m (n / 108 % 4))).map Prod.snd)).length : Int) = n / 432 % 4 := by
      rw [iD, List.length_map, List.length_map, List.length_replicate]
      omega
    refine q_when S l (b := false) (tv_or (a := false) (b := false) (.to (tv_test (ev_neT (α := Int × Int) (a := (0, 1)) (b := (0, 1)) (.toD (ev_call0 (r := .dt (pD (shareF 0 sz m t))) (R := R_share) (X := X_share CN) (av_cons ev_int (av_cons (ev_var rfl) (av_cons (ev_var rfl) (av_cons (ev_var rfl) av_nil)))) rfl ⟨0, sz, m, t, rfl, b40_of (by decide) (by decide), bs, bm, bt, .inl rfl, rfl⟩) (by rw [share_zero]; rfl)) (ev_tup (av_cons ev_int (av_cons ev_int av_nil)) rfl (Nat.le_of_ble_eq_true rfl)) rfl rfl)) (nd_self _)) fun _ => .to (tv_test (ev_neT (α := Int × Int) (a := (0, 1)) (b := (0, 1)) (.toD (ev_call0 (r := .dt (pD (worthF sz m t (0, 1) (List.replicate (n / 432 % 4).toNat ((0 : Int), min m (n / 108 % 4)))))) (R := R_worth) (X := X_worth CN) (av_cons (.frz (.to (ev_rep (ds := [.int 0]) (n := n / 432 % 4) (ev_lst (av_cons ev_int av_nil) rfl (Nat.le_of_ble_eq_true rfl)) (.toD (ev_len (ev_var rfl) rfl rfl) (congrArg PyData.int hlen)) (by omega) (by show 1 * _ ≤ _; omega)) (show Sl.ls (List.replicate (n / 432 % 4).toNat [PyData.int 0]).flatten = Sl.ls (iD ((List.replicate (n / 432 % 4).toNat ((0 : Int), min m (n / 108 % 4))).map Prod.fst)) by rw [rep_one, List.map_replicate, iD, List.map_replicate]))) (av_cons (ev_var rfl) (av_cons (ev_var rfl) (av_cons (ev_var rfl) (av_cons (ev_var rfl) av_nil))))) rfl ⟨List.replicate (n / 432 % 4).toNat ((0 : Int), min m (n / 108 % 4)), sz, m, t, rfl, by rw [List.length_replicate]; omega, bs, bm, bt, fun e he => by rw [List.eq_of_mem_replicate he]; exact ⟨b40_of (z := 0) (by decide) (by decide), bf, .inl rfl⟩, rfl⟩) (by rw [hw]; rfl)) (ev_tup (av_cons ev_int (av_cons ev_int av_nil)) rfl (Nat.le_of_ble_eq_true rfl)) rfl rfl)) (nd_self _)) (fun hb => nomatch hb) (fun hb F' H' S => ?_)
    refine q_asg S l (r := .dt (.int (min m (n / 108 % 4)))) (ev_min (ev_var rfl) (ev_iC (ev_iC (ev_var rfl) ev_int (CDivY.s (by decide) (by decide))) ev_int (by decide))) rfl rfl (Nat.le_of_ble_eq_true rfl) fun σ' F' H' S l => ?_ -- _law_found
    generalize min m (n / 108 % 4) = f' at *
    exact st_ret S l (ev_call0 (r := .dt (.bool true)) (av_cons (ev_call0 (r := .dt (pD (rarF m f'))) (R := R_rar) (X := X_rar CN) (av_cons (ev_var rfl) (av_cons (ev_var rfl) av_nil)) rfl ⟨m, f', rfl, bm, bf, rfl⟩) (av_cons (ev_ii (ev_var rfl) ev_int) (av_cons (ev_ii (ev_var rfl) ev_int) av_nil))) rfl ⟨rarF m f', m + 1, f' + 1, 41, rfl, rar_ok bm bf, by decide, lt_mid (succ_lt bm) (by decide), lt_mid (succ_lt bf) (by decide), frac_cross (by omega), rfl⟩) rfl q
  · exact h.elim
/-! ### what is refused -/
def t20 : Int := (10 : Int) ^ (20 : Int).toNat
theorem cp20 : CPow 10 20 := ⟨by decide, by decide, by decide⟩
theorem t20_pos : 0 < t20 := by decide
def oddL : List PyData := [.int (-1), .bool true, .none, .str "3", .list [.int 1], .tuple [.int 1], .int (0 - t20), .bool false]
theorem odd_bad {i : Int} (h0 : 0 ≤ i) (h1 : i < 8) : BadN (oddL.getD i.toNat .none) := by
  have : i = 0 ∨ i = 1 ∨ i = 2 ∨ i = 3 ∨ i = 4 ∨ i = 5 ∨ i = 6 ∨ i = 7 := by omega
  have ht := t20_pos
  rcases this with rfl | rfl | rfl | rfl | rfl | rfl | rfl | rfl
  · exact .inr ⟨-1, rfl, by decide⟩
  · exact .inl rfl
  · exact .inl rfl
  · exact .inl rfl
  · exact .inl rfl
  · exact .inl rfl
  · exact .inr ⟨0 - t20, rfl, by omega⟩
  · exact .inl rfl
def w3 (w : Int) : Int := if w = 0 then 4 else if w = 1 then 2 else 5
theorem fzRef {ds1 ds2 : List PyData} {d1 : PyData} {w n a : Int} {gs ws : List PyData} : FzA K [.dt (.int w), .dt (.int n), .dt d1, .ls gs, .dt (.int a), .ls ws, .mu (nest2 K ds1 ds2), .no] [.dt (.int w), .dt (.int n), .dt d1, .dt (.list gs), .dt (.int a), .dt (.list ws), .dt (.list [.list ds1, .list ds2]), .no] := .cons .dt (.cons .dt (.cons .dt (.cons .ls (.cons .dt (.cons .ls (.cons Fz.nest2 (.cons .no .nil)))))))
def R_refused (ds : List PyData) (r : Sl) : Prop := ∃ w n : Int, ds = [.int w, .int n] ∧ 0 ≤ w ∧ w < 3 ∧ r = .dt (.bool true)

theorem ok__law_refused {f : Addr} {fd : FuncData} (F : Fun K "_law_refused" "_law_refused" s__law_refused f fd) (T : Txt K mg CN CH CT)
    (d_share_of : DefOk P w K mg base 4 "share_of" ["count", "size", "many", "total"] (spF K R_share (X_share CN)) [])
    (d_rarity_of : DefOk P w K mg base 4 "rarity_of" ["many", "found"] (spF K R_rar (X_rar CN)) [])
    (d_worth_of : DefOk P w K mg base 5 "worth_of" ["counts", "founds", "size", "many", "total"] (spF K R_worth (X_worth CN)) []) : FnOk P w K mg base (L2.CX P w) 6 f fd ["_law_way", "_law_number_here"] (spF K R_refused noX) := by
  refine F.okX sc__law_refused (spF_len (n := 2) (by walk_at "sl") (by rintro _ _ ⟨⟩)) (fun cdv A outer s H vs Q E hr h => ?_)
  obtain ⟨F0, ds, fh, hv, ⟨r, ⟨w', n, rfl, w0, w1, rfl⟩, q⟩ | ⟨_, h, _⟩⟩ := h
  · --
    have S := Sts.init (N := ["_law_way", "_law_number_here", "_law_odd", "_law_good", "_law_at", "_law_whole", "_law_lists", "e"]) fh hv
    have hu : (A.deeper (envOfC "_law_refused" (defScope s__law_refused) s.heap.objs.size f cdv)).units + 64 < cLine := hr.units
    refine ⟨_, (pss_cons (ps_set (i := 2) sc__law_refused.nd rfl (Or.inl rfl) (pe_ix (r := rIxL K) ix_list (pe_lst (pa_cons (pe_un un_neg pe_int) (pa_cons pe_bl (pa_cons pe_non (pa_cons pe_str (pa_cons (pe_lst (pa_cons pe_int pa_nil)) (pa_cons (pe_tup (pa_cons pe_int pa_nil)) (pa_cons (pe_op op_sub pe_int (pe_op op_pow pe_int pe_int)) (pa_cons pe_bl pa_nil))))))))) (pe_op op_mod (pv 1) pe_int) (fun _ _ => rfl)))
          (pss_cons (ps_set (i := 3) sc__law_refused.nd rfl (Or.inl rfl) (pe_lst (pa_cons (pe_op op_mulY (pe_op op_mod (pe_op op_divY (pv 1) pe_int) pe_int) (pe_op op_add pe_int (pe_op op_mod (pe_op op_divY (pv 1) pe_int) pe_int))) (pa_cons (pe_op op_add pe_int (pe_op op_mod (pe_op op_divY (pv 1) pe_int) pe_int)) (pa_cons pe_int (pa_cons (pe_op op_add pe_int (pe_op op_mod (pe_op op_divY (pv 1) pe_int) pe_int)) pa_nil))))))
          (pss_cons (ps_set (i := 4) sc__law_refused.nd rfl (Or.inl rfl) (pe_op op_mod (pe_op op_divY (pv 1) pe_int) (pe_ix (r := rIxL K) ix_list (pe_lst (pa_cons pe_int (pa_cons pe_int (pa_cons pe_int pa_nil)))) (pv 0) (fun _ _ => rfl))))
          (pss_cons (ps_set (i := 5) sc__law_refused.nd rfl (Or.inl rfl) (pe_lst (pa_cons pe_int (pa_cons pe_int (pa_cons pe_int pa_nil)))))
          (pss_cons (ps_set (i := 6) sc__law_refused.nd rfl (Or.inl rfl) (pe_lst (pa_cons (pe_lst (pa_cons (pe_op op_mod (pe_op op_divY (pv 1) pe_int) pe_int) (pa_cons (pe_op op_mod (pe_op op_divY (pv 1) pe_int) pe_int) pa_nil))) (pa_cons (pe_lst (pa_cons pe_int (pa_cons pe_int pa_nil))) pa_nil))))
          (pss_cons (ps_if (PW.pt (pw_and (pt_cmpR (r := rEqP K) (op_eqP hu) (pe_op op_mod (pe_op op_divY (pv 1) pe_int) pe_int) pe_int (nomark _)) (pw_and1 (pt_cmpR op_lt (pv 4) pe_int (nomark _))))) (pss_one (ps_set (i := 6) sc__law_refused.nd rfl (Or.inl rfl) (pe_lst (pa_cons (pe_lst pa_nil) (pa_cons (pe_lst pa_nil) pa_nil))))) pss_nil)
          (pss_cons (ps_if (pt_cmpR op_lt (pv 4) pe_int (nomark _)) (pss_one (ps_asg (pv 2) (pg_sub (pv 5) (pv 4) set_list))) (pss_one (ps_asg (pv 2) (pg_sub (pe_ix (r := rIxL K) ix_list (pv 6) (pe_op op_sub (pv 4) pe_int) (fun _ _ => rfl)) (pe_op op_mod (pe_op op_divY (pv 1) pe_int) pe_int) set_list))))
          (pss_cons (ps_try_as (i := 7) rfl rfl sc__law_refused.nd rfl rfl ⟨by rfl, by decide, .inl T.c_HallError⟩ (takes_of rfl rfl rfl rfl) (fun W pn xe tk hpo => (pss_one (ps_if (pt_cmpR (r := rEqP K) (op_eqP hu) (pv 0) pe_int (nomark _)) (pss_cons (ps_asg (pv 2) (pg_sub (pv 3) (pv 4) set_list))
          (pss_one (ps_expr (pe_ownW d_share_of (hr.mono (by decide)) (by rfl) tk (pa_cons (pe_ix (r := rIxL K) ix_list (pv 3) pe_int (fun _ _ => rfl)) (pa_cons (pe_ix (r := rIxL K) ix_list (pv 3) pe_int (fun _ _ => rfl)) (pa_cons (pe_ix (r := rIxL K) ix_list (pv 3) pe_int (fun _ _ => rfl)) (pa_cons (pe_ix (r := rIxL K) ix_list (pv 3) pe_int (fun _ _ => rfl)) pa_nil)))))))) (pss_one (ps_if (pt_cmpR (r := rEqP K) (op_eqP hu) (pv 0) pe_int (nomark _)) (pss_one (ps_expr (pe_ownW d_rarity_of (hr.mono (by decide)) (by rfl) tk (pa_cons (pe_ix (r := rIxL K) ix_list (pe_lst (pa_cons (pv 2) (pa_cons (pe_ix (r := rIxL K) ix_list (pv 3) pe_int (fun _ _ => rfl)) pa_nil))) (pv 4) (fun _ _ => rfl)) (pa_cons (pe_ix (r := rIxL K) ix_list (pe_lst (pa_cons (pe_ix (r := rIxL K) ix_list (pv 3) pe_int (fun _ _ => rfl)) (pa_cons (pv 2) pa_nil))) (pv 4) (fun _ _ => rfl)) pa_nil))))) (pss_one (ps_expr (pe_ownW d_worth_of (hr.mono (by decide)) (by rfl) tk (pa_cons (pe_ix (r := rIxL K) ix_list (pv 6) pe_int (fun _ _ => rfl)) (pa_cons (pe_ix (r := rIxL K) ix_list (pv 6) pe_int (fun _ _ => rfl)) (pa_cons (pe_ix (r := rIxL K) ix_list (pv 5) pe_int (fun _ _ => rfl)) (pa_cons (pe_ix (r := rIxL K) ix_list (pv 5) pe_int (fun _ _ => rfl)) (pa_cons (pe_ix (r := rIxL K) ix_list (pv 5) pe_int (fun _ _ => rfl)) pa_nil))))))))))))) (fun a oe cls d pn hz hf => (pss_one (ps_ret (pe_and (pe_callB (call_isX hz hf) (by rfl) T.isinstance (by decide +kernel) (pa_cons (pv 7) (pa_cons (pe_glob (v := .ref CN) (by rfl) T.c_BadNumber rfl) pa_nil))) (pe_and (pe_callB (call_isX hz hf) (by rfl) T.isinstance (by decide +kernel) (pa_cons (pv 7) (pa_cons (pe_bltn (v := .ty "ValueError") (by rfl) T.ValueError (by decide +kernel) rfl) pa_nil))) (pe_one (pe_not (pe_callB (call_isX hz hf) (by rfl) T.isinstance (by decide +kernel) (pa_cons (pv 7) (pa_cons (pe_glob (v := .ref CT) (by rfl) T.c_BadText rfl) pa_nil)))))))))))
          (pss_one (ps_ret pe_bl)))))))))), ?_⟩
    have h8 : 0 ≤ n % 8 ∧ n % 8 < 8 := by omega
    refine q_asg S (init_len hv (Nat.le_of_ble_eq_true rfl)) (r := .dt (oddL.getD (n % 8).toNat .none)) (ev_pickD oddL (i := n % 8) (av_cons (ev_u ev_int) (av_cons ev_bl (av_cons ev_non (av_cons ev_str (av_cons (.frz (ev_lst (av_cons ev_int av_nil) rfl (Nat.le_of_ble_eq_true rfl))) (av_cons (ev_tup (av_cons ev_int av_nil) rfl (Nat.le_of_ble_eq_true rfl)) (av_cons (ev_ii ev_int (ev_iC ev_int ev_int cp20)) (av_cons ev_bl av_nil)))))))) (ev_iC (ev_var rfl) ev_int (by decide)) h8.1 h8.2 (Nat.le_of_ble_eq_true rfl)) rfl rfl (Nat.le_of_ble_eq_true rfl) fun σ' F' H' S l => ?_ -- _law_odd
    have hob := odd_bad h8.1 h8.2
    generalize oddL.getD (n % 8).toNat .none = odd at *
    have g0 : 0 ≤ n / 3 % 2 * (1 + n / 8 % 9) ∧ n / 3 % 2 * (1 + n / 8 % 9) ≤ 9 := by
      have : n / 3 % 2 = 0 ∨ n / 3 % 2 = 1 := by omega
      rcases this with e | e <;> rw [e] <;> omega
    have g1 : 2 ≤ 2 + n / 72 % 9 ∧ 2 + n / 72 % 9 ≤ 10 := by omega
    have g3 : 12 ≤ 12 + n / 648 % 9 ∧ 12 + n / 648 % 9 ≤ 20 := by omega
    have a0 : 0 ≤ n / 120 % 2 ∧ n / 120 % 2 ≤ 1 := by omega
    have a1 : 0 ≤ n / 240 % 3 ∧ n / 240 % 3 ≤ 2 := by omega
    refine q_asg S l (r := .ls [.int (n / 3 % 2 * (1 + n / 8 % 9)), .int (2 + n / 72 % 9), .int 3, .int (12 + n / 648 % 9)]) (ev_lst (av_cons (ev_iC (ev_iC (ev_iC (ev_var rfl) ev_int (CDivY.s (by decide) (by decide))) ev_int (by decide)) (ev_ii ev_int (ev_iC (ev_iC (ev_var rfl) ev_int (CDivY.s (by decide) (by decide))) ev_int (by decide))) (CMulY.s (by omega) (by omega))) (av_cons (ev_ii ev_int (ev_iC (ev_iC (ev_var rfl) ev_int (CDivY.s (by decide) (by decide))) ev_int (by decide))) (av_cons ev_int (av_cons (ev_ii ev_int (ev_iC (ev_iC (ev_var rfl) ev_int (CDivY.s (by decide) (by decide))) ev_int (by decide))) av_nil)))) rfl (Nat.le_of_ble_eq_true rfl)) rfl rfl (Nat.le_of_ble_eq_true rfl) fun σ' F' H' S l => ?_ -- _law_good
    have hw3 : [PyData.int 4, .int 2, .int 5].getD w'.toNat .none = .int (w3 w') := by
      have : w' = 0 ∨ w' = 1 ∨ w' = 2 := by omega
      rcases this with rfl | rfl | rfl <;> rfl
    have hw3p : 0 < w3 w' ∧ w3 w' ≤ 5 := by
      unfold w3
      repeat' split
      all_goals decide
    refine q_asg S l (r := .dt (.int (n / 8 % w3 w'))) (ev_iC (ev_iC (ev_var rfl) ev_int (CDivY.s (by decide) (by decide))) (.toD (ev_pickD [.int 4, .int 2, .int 5] (i := w') (av_cons ev_int (av_cons ev_int (av_cons ev_int av_nil))) (ev_var rfl) w0 w1 (Nat.le_of_ble_eq_true rfl)) hw3) hw3p.1) rfl rfl (Nat.le_of_ble_eq_true rfl) fun σ' F' H' S l => ?_ -- _law_at
    have hat0 := Int.emod_nonneg (n / 8) (b := w3 w') (by omega)
    have hat1 := Int.emod_lt_of_pos (n / 8) hw3p.1
    have hw30 : w' = 0 → w3 w' = 4 := fun h => by rw [h]; rfl
    have hw31 : w' = 1 → w3 w' = 2 := fun h => by rw [h]; rfl
    generalize n / 8 % w3 w' = at_ at *
    refine q_asg S l (r := .ls [.int 2, .int 3, .int 5]) (ev_lst (av_cons ev_int (av_cons ev_int (av_cons ev_int av_nil))) rfl (Nat.le_of_ble_eq_true rfl)) rfl rfl (Nat.le_of_ble_eq_true rfl) fun σ' F' H' S l => ?_ -- _law_whole
    refine q_asg S l (r := .mu (nest2 K [.int (n / 120 % 2), .int (n / 240 % 3)] [.int 1, .int 1])) (ev_nest2 (ev_lst (av_cons (ev_iC (ev_iC (ev_var rfl) ev_int (CDivY.s (by decide) (by decide))) ev_int (by decide)) (av_cons (ev_iC (ev_iC (ev_var rfl) ev_int (CDivY.s (by decide) (by decide))) ev_int (by decide)) av_nil)) rfl (Nat.le_of_ble_eq_true rfl)) (ev_lst (av_cons ev_int (av_cons ev_int av_nil)) rfl (Nat.le_of_ble_eq_true rfl))) rfl rfl (Nat.le_of_ble_eq_true rfl) fun σ' F' H' S l => ?_ -- _law_lists
    have hj : 0 ≤ n / 40 % 2 ∧ n / 40 % 2 < 2 := by omega
    generalize hx0 : n / 3 % 2 * (1 + n / 8 % 9) = G0 at *
    generalize hx1 : 2 + n / 72 % 9 = G1 at *
    generalize hx3 : 12 + n / 648 % 9 = G3 at *
    generalize hy0 : n / 120 % 2 = A0 at *
    generalize hy1 : n / 240 % 3 = A1 at *
    have hcase : at_ = 0 ∨ at_ = 1 ∨ at_ = 2 ∨ at_ = 3 ∨ at_ = 4 := by omega
    rcases hcase with rfl | rfl | rfl | rfl | rfl
    · refine q_whenJ [.dt (.int w'), .dt (.int n), .dt odd, .ls [.int G0, .int G1, .int 3, .int G3], .dt (.int 0), .ls [.int 2, .int 3, .int 5], .mu (nest2 K (if n / 40 % 3 = 1 then [] else [.int A0, .int A1]) (if n / 40 % 3 = 1 then [] else [.int 1, .int 1])), .no] S l (b := decide (n / 40 % 3 = 1)) (.to (tv_and (b := true) (tv_test (ev_eqT (α := Int) (a := n / 40 % 3) (b := 1) (ev_iC (ev_iC (ev_var rfl) ev_int (CDivY.s (by decide) (by decide))) ev_int (by decide)) ev_int rfl rfl)) fun _ => .to (tv_test (ev_ib (ev_var rfl) ev_int)) rfl) (Bool.and_true _)) (fun hb nx hk F' H' S => ?_) (fun hb => ?_) (fun σ' F' H' S l => ?_)
      · rw [if_pos (of_decide_eq_true hb), if_pos (of_decide_eq_true hb)] at hk
        refine st_asg S l (r := .mu (nest2 K [] [])) (ev_nest2 (ev_lst av_nil rfl (Nat.le_of_ble_eq_true rfl)) (ev_lst av_nil rfl (Nat.le_of_ble_eq_true rfl))) rfl rfl (Nat.le_of_ble_eq_true rfl) fun σ' F' H' S l => ?_
        exact hk _ _ _ S l
      · rw [if_neg (of_decide_eq_false hb), if_neg (of_decide_eq_false hb)]
        exact Wk.refl _
      generalize (if n / 40 % 3 = 1 then [] else [PyData.int A0, .int A1]) = LA at *
      generalize (if n / 40 % 3 = 1 then [] else [PyData.int 1, .int 1]) = LB at *
      refine q_if S l (b := true) (.to (tv_test (ev_ib (ev_var rfl) ev_int)) rfl) (fun hb F' H' S => ?_) (fun hb => nomatch hb)
      refine st_setL (ds := [.int 2, .int 3, .int 5]) (j := 0) S l rfl (ev_var rfl) (ev_var rfl) rfl fun F' H' S l => ?_
      refine st_seq ?_
      refine st_if S l (tv_test (ev_eqT (α := Int) (a := w') (b := 0) (ev_var rfl) ev_int rfl rfl)) (fun hb F' H' S => ?_) (fun hb F' H' S => ?_)
      · refine q_setL (ds := [PyData.int G0, PyData.int G1, PyData.int 3, PyData.int G3]) (j := 0) S l rfl (ev_var rfl) (ev_var rfl) rfl fun F' H' S l => ?_
        refine st_raiseW S l (R := R_share) (X := X_share CN) (C := CN) (es := []) (av_cons (ev_ixL (d := odd) (ev_varA rfl) ev_int rfl rfl) (av_cons (ev_ixL (d := PyData.int G1) (ev_varA rfl) ev_int rfl rfl) (av_cons (ev_ixL (d := PyData.int 3) (ev_varA rfl) ev_int rfl rfl) (av_cons (ev_ixL (d := PyData.int G3) (ev_varA rfl) ev_int rfl rfl) av_nil)))) rfl (fun _ => .nil) ⟨odd, PyData.int G1, PyData.int 3, PyData.int G3, rfl, .inl hob, rfl⟩ fun F' H' S => ?_
        refine ⟨true, T.m_BadNumber_HallError, fun _ a ha => ?_, fun q => nomatch q⟩
        have S2 := S.setv_fx (i := 7) (v := .ref a) l (Nat.le_of_ble_eq_true rfl) rfl
        exact st_ret S2 (set_len2 l) (.toD (ev_and (b := true) (ev_isX rfl T.e_BadNumber rel_ref T.i_BadNumber_BadNumber) fun _ => .toD (ev_and (b := true) (ev_isX rfl T.e_BadNumber rel_ty T.i_BadNumber_ValueError) fun _ => .toD (ev_not (ev_isX rfl T.e_BadNumber rel_ref T.i_BadNumber_BadText)) rfl) rfl) rfl) rfl q
      have hn0 := of_decide_eq_false hb
      refine st_if S l (tv_test (ev_eqT (α := Int) (a := w') (b := 1) (ev_var rfl) ev_int rfl rfl)) (fun hb F' H' S => ?_) (fun hb F' H' S => ?_)
      · refine st_raiseW S l (R := R_rar) (X := X_rar CN) (C := CN) (es := []) (av_cons (ev_pickD [odd, .int G0] (i := 0) (av_cons (ev_var rfl) (av_cons (ev_ixL (d := PyData.int G0) (ev_varA rfl) ev_int rfl rfl) av_nil)) (ev_var rfl) (by decide) (by show (_ : Int) < 2; decide) (Nat.le_of_ble_eq_true rfl)) (av_cons (ev_pickD [.int G1, odd] (i := 0) (av_cons (ev_ixL (d := PyData.int G1) (ev_varA rfl) ev_int rfl rfl) (av_cons (ev_var rfl) av_nil)) (ev_var rfl) (by decide) (by show (_ : Int) < 2; decide) (Nat.le_of_ble_eq_true rfl)) av_nil)) rfl (fun _ => .nil) ⟨odd, PyData.int G1, rfl, .inl hob, rfl⟩ fun F' H' S => ?_
        refine ⟨true, T.m_BadNumber_HallError, fun _ a ha => ?_, fun q => nomatch q⟩
        have S2 := S.setv_fx (i := 7) (v := .ref a) l (Nat.le_of_ble_eq_true rfl) rfl
        exact st_ret S2 (set_len2 l) (.toD (ev_and (b := true) (ev_isX rfl T.e_BadNumber rel_ref T.i_BadNumber_BadNumber) fun _ => .toD (ev_and (b := true) (ev_isX rfl T.e_BadNumber rel_ty T.i_BadNumber_ValueError) fun _ => .toD (ev_not (ev_isX rfl T.e_BadNumber rel_ref T.i_BadNumber_BadText)) rfl) rfl) rfl) rfl q
      refine st_raiseWS (zs := [.dt (.int w'), .dt (.int n), .dt odd, .dt (.list [.int G0, .int G1, .int 3, .int G3]), .dt (.int 0), .dt (.list [odd, PyData.int 3, PyData.int 5]), .dt (.list [.list LA, .list LB]), .no]) fzRef S l (R := R_worth) (X := X_worth CN) (C := CN) (es := []) (av_cons (ev_ixL (d := .list LA) (ev_var rfl) ev_int rfl rfl) (av_cons (ev_ixL (d := .list LB) (ev_var rfl) ev_int rfl rfl) (av_cons (ev_ixL (d := odd) (ev_var rfl) ev_int rfl rfl) (av_cons (ev_ixL (d := PyData.int 3) (ev_var rfl) ev_int rfl rfl) (av_cons (ev_ixL (d := PyData.int 5) (ev_var rfl) ev_int rfl rfl) av_nil))))) rfl (fun _ => .nil) ⟨.list LA, .list LB, odd, PyData.int 3, PyData.int 5, rfl, rfl, .inl (.inl hob)⟩ fun F' H' S => ?_
      refine ⟨true, T.m_BadNumber_HallError, fun _ a ha => ?_, fun q => nomatch q⟩
      have S2 := S.setv_fx (i := 7) (v := .ref a) l (Nat.le_of_ble_eq_true rfl) rfl
      exact st_ret S2 (set_len2 l) (.toD (ev_and (b := true) (ev_isX rfl T.e_BadNumber rel_ref T.i_BadNumber_BadNumber) fun _ => .toD (ev_and (b := true) (ev_isX rfl T.e_BadNumber rel_ty T.i_BadNumber_ValueError) fun _ => .toD (ev_not (ev_isX rfl T.e_BadNumber rel_ref T.i_BadNumber_BadText)) rfl) rfl) rfl) rfl q
    · refine q_whenJ [.dt (.int w'), .dt (.int n), .dt odd, .ls [.int G0, .int G1, .int 3, .int G3], .dt (.int 1), .ls [.int 2, .int 3, .int 5], .mu (nest2 K (if n / 40 % 3 = 1 then [] else [.int A0, .int A1]) (if n / 40 % 3 = 1 then [] else [.int 1, .int 1])), .no] S l (b := decide (n / 40 % 3 = 1)) (.to (tv_and (b := true) (tv_test (ev_eqT (α := Int) (a := n / 40 % 3) (b := 1) (ev_iC (ev_iC (ev_var rfl) ev_int (CDivY.s (by decide) (by decide))) ev_int (by decide)) ev_int rfl rfl)) fun _ => .to (tv_test (ev_ib (ev_var rfl) ev_int)) rfl) (Bool.and_true _)) (fun hb nx hk F' H' S => ?_) (fun hb => ?_) (fun σ' F' H' S l => ?_)
      · rw [if_pos (of_decide_eq_true hb), if_pos (of_decide_eq_true hb)] at hk
        refine st_asg S l (r := .mu (nest2 K [] [])) (ev_nest2 (ev_lst av_nil rfl (Nat.le_of_ble_eq_true rfl)) (ev_lst av_nil rfl (Nat.le_of_ble_eq_true rfl))) rfl rfl (Nat.le_of_ble_eq_true rfl) fun σ' F' H' S l => ?_
        exact hk _ _ _ S l
      · rw [if_neg (of_decide_eq_false hb), if_neg (of_decide_eq_false hb)]
        exact Wk.refl _
      generalize (if n / 40 % 3 = 1 then [] else [PyData.int A0, .int A1]) = LA at *
      generalize (if n / 40 % 3 = 1 then [] else [PyData.int 1, .int 1]) = LB at *
      refine q_if S l (b := true) (.to (tv_test (ev_ib (ev_var rfl) ev_int)) rfl) (fun hb F' H' S => ?_) (fun hb => nomatch hb)
      refine st_setL (ds := [.int 2, .int 3, .int 5]) (j := 1) S l rfl (ev_var rfl) (ev_var rfl) rfl fun F' H' S l => ?_
      refine st_seq ?_
      refine st_if S l (tv_test (ev_eqT (α := Int) (a := w') (b := 0) (ev_var rfl) ev_int rfl rfl)) (fun hb F' H' S => ?_) (fun hb F' H' S => ?_)
      · refine q_setL (ds := [PyData.int G0, PyData.int G1, PyData.int 3, PyData.int G3]) (j := 1) S l rfl (ev_var rfl) (ev_var rfl) rfl fun F' H' S l => ?_
        refine st_raiseW S l (R := R_share) (X := X_share CN) (C := CN) (es := []) (av_cons (ev_ixL (d := PyData.int G0) (ev_varA rfl) ev_int rfl rfl) (av_cons (ev_ixL (d := odd) (ev_varA rfl) ev_int rfl rfl) (av_cons (ev_ixL (d := PyData.int 3) (ev_varA rfl) ev_int rfl rfl) (av_cons (ev_ixL (d := PyData.int G3) (ev_varA rfl) ev_int rfl rfl) av_nil)))) rfl (fun _ => .nil) ⟨PyData.int G0, odd, PyData.int 3, PyData.int G3, rfl, .inr (.inl hob), rfl⟩ fun F' H' S => ?_
        refine ⟨true, T.m_BadNumber_HallError, fun _ a ha => ?_, fun q => nomatch q⟩
        have S2 := S.setv_fx (i := 7) (v := .ref a) l (Nat.le_of_ble_eq_true rfl) rfl
        exact st_ret S2 (set_len2 l) (.toD (ev_and (b := true) (ev_isX rfl T.e_BadNumber rel_ref T.i_BadNumber_BadNumber) fun _ => .toD (ev_and (b := true) (ev_isX rfl T.e_BadNumber rel_ty T.i_BadNumber_ValueError) fun _ => .toD (ev_not (ev_isX rfl T.e_BadNumber rel_ref T.i_BadNumber_BadText)) rfl) rfl) rfl) rfl q
      have hn0 := of_decide_eq_false hb
      refine st_if S l (tv_test (ev_eqT (α := Int) (a := w') (b := 1) (ev_var rfl) ev_int rfl rfl)) (fun hb F' H' S => ?_) (fun hb F' H' S => ?_)
      · refine st_raiseW S l (R := R_rar) (X := X_rar CN) (C := CN) (es := []) (av_cons (ev_pickD [odd, .int G0] (i := 1) (av_cons (ev_var rfl) (av_cons (ev_ixL (d := PyData.int G0) (ev_varA rfl) ev_int rfl rfl) av_nil)) (ev_var rfl) (by decide) (by show (_ : Int) < 2; decide) (Nat.le_of_ble_eq_true rfl)) (av_cons (ev_pickD [.int G1, odd] (i := 1) (av_cons (ev_ixL (d := PyData.int G1) (ev_varA rfl) ev_int rfl rfl) (av_cons (ev_var rfl) av_nil)) (ev_var rfl) (by decide) (by show (_ : Int) < 2; decide) (Nat.le_of_ble_eq_true rfl)) av_nil)) rfl (fun _ => .nil) ⟨PyData.int G0, odd, rfl, .inr hob, rfl⟩ fun F' H' S => ?_
        refine ⟨true, T.m_BadNumber_HallError, fun _ a ha => ?_, fun q => nomatch q⟩
        have S2 := S.setv_fx (i := 7) (v := .ref a) l (Nat.le_of_ble_eq_true rfl) rfl
        exact st_ret S2 (set_len2 l) (.toD (ev_and (b := true) (ev_isX rfl T.e_BadNumber rel_ref T.i_BadNumber_BadNumber) fun _ => .toD (ev_and (b := true) (ev_isX rfl T.e_BadNumber rel_ty T.i_BadNumber_ValueError) fun _ => .toD (ev_not (ev_isX rfl T.e_BadNumber rel_ref T.i_BadNumber_BadText)) rfl) rfl) rfl) rfl q
      refine st_raiseWS (zs := [.dt (.int w'), .dt (.int n), .dt odd, .dt (.list [.int G0, .int G1, .int 3, .int G3]), .dt (.int 1), .dt (.list [PyData.int 2, odd, PyData.int 5]), .dt (.list [.list LA, .list LB]), .no]) fzRef S l (R := R_worth) (X := X_worth CN) (C := CN) (es := []) (av_cons (ev_ixL (d := .list LA) (ev_var rfl) ev_int rfl rfl) (av_cons (ev_ixL (d := .list LB) (ev_var rfl) ev_int rfl rfl) (av_cons (ev_ixL (d := PyData.int 2) (ev_var rfl) ev_int rfl rfl) (av_cons (ev_ixL (d := odd) (ev_var rfl) ev_int rfl rfl) (av_cons (ev_ixL (d := PyData.int 5) (ev_var rfl) ev_int rfl rfl) av_nil))))) rfl (fun _ => .nil) ⟨.list LA, .list LB, PyData.int 2, odd, PyData.int 5, rfl, rfl, .inl (.inr (.inl hob))⟩ fun F' H' S => ?_
      refine ⟨true, T.m_BadNumber_HallError, fun _ a ha => ?_, fun q => nomatch q⟩
      have S2 := S.setv_fx (i := 7) (v := .ref a) l (Nat.le_of_ble_eq_true rfl) rfl
      exact st_ret S2 (set_len2 l) (.toD (ev_and (b := true) (ev_isX rfl T.e_BadNumber rel_ref T.i_BadNumber_BadNumber) fun _ => .toD (ev_and (b := true) (ev_isX rfl T.e_BadNumber rel_ty T.i_BadNumber_ValueError) fun _ => .toD (ev_not (ev_isX rfl T.e_BadNumber rel_ref T.i_BadNumber_BadText)) rfl) rfl) rfl) rfl q
    · refine q_whenJ [.dt (.int w'), .dt (.int n), .dt odd, .ls [.int G0, .int G1, .int 3, .int G3], .dt (.int 2), .ls [.int 2, .int 3, .int 5], .mu (nest2 K (if n / 40 % 3 = 1 then [] else [.int A0, .int A1]) (if n / 40 % 3 = 1 then [] else [.int 1, .int 1])), .no] S l (b := decide (n / 40 % 3 = 1)) (.to (tv_and (b := true) (tv_test (ev_eqT (α := Int) (a := n / 40 % 3) (b := 1) (ev_iC (ev_iC (ev_var rfl) ev_int (CDivY.s (by decide) (by decide))) ev_int (by decide)) ev_int rfl rfl)) fun _ => .to (tv_test (ev_ib (ev_var rfl) ev_int)) rfl) (Bool.and_true _)) (fun hb nx hk F' H' S => ?_) (fun hb => ?_) (fun σ' F' H' S l => ?_)
      · rw [if_pos (of_decide_eq_true hb), if_pos (of_decide_eq_true hb)] at hk
        refine st_asg S l (r := .mu (nest2 K [] [])) (ev_nest2 (ev_lst av_nil rfl (Nat.le_of_ble_eq_true rfl)) (ev_lst av_nil rfl (Nat.le_of_ble_eq_true rfl))) rfl rfl (Nat.le_of_ble_eq_true rfl) fun σ' F' H' S l => ?_
        exact hk _ _ _ S l
      · rw [if_neg (of_decide_eq_false hb), if_neg (of_decide_eq_false hb)]
        exact Wk.refl _
      generalize (if n / 40 % 3 = 1 then [] else [PyData.int A0, .int A1]) = LA at *
      generalize (if n / 40 % 3 = 1 then [] else [PyData.int 1, .int 1]) = LB at *
      refine q_if S l (b := true) (.to (tv_test (ev_ib (ev_var rfl) ev_int)) rfl) (fun hb F' H' S => ?_) (fun hb => nomatch hb)
      refine st_setL (ds := [.int 2, .int 3, .int 5]) (j := 2) S l rfl (ev_var rfl) (ev_var rfl) rfl fun F' H' S l => ?_
      refine st_seq ?_
      refine st_if S l (tv_test (ev_eqT (α := Int) (a := w') (b := 0) (ev_var rfl) ev_int rfl rfl)) (fun hb F' H' S => ?_) (fun hb F' H' S => ?_)
      · refine q_setL (ds := [PyData.int G0, PyData.int G1, PyData.int 3, PyData.int G3]) (j := 2) S l rfl (ev_var rfl) (ev_var rfl) rfl fun F' H' S l => ?_
        refine st_raiseW S l (R := R_share) (X := X_share CN) (C := CN) (es := []) (av_cons (ev_ixL (d := PyData.int G0) (ev_varA rfl) ev_int rfl rfl) (av_cons (ev_ixL (d := PyData.int G1) (ev_varA rfl) ev_int rfl rfl) (av_cons (ev_ixL (d := odd) (ev_varA rfl) ev_int rfl rfl) (av_cons (ev_ixL (d := PyData.int G3) (ev_varA rfl) ev_int rfl rfl) av_nil)))) rfl (fun _ => .nil) ⟨PyData.int G0, PyData.int G1, odd, PyData.int G3, rfl, .inr (.inr (.inl hob)), rfl⟩ fun F' H' S => ?_
        refine ⟨true, T.m_BadNumber_HallError, fun _ a ha => ?_, fun q => nomatch q⟩
        have S2 := S.setv_fx (i := 7) (v := .ref a) l (Nat.le_of_ble_eq_true rfl) rfl
        exact st_ret S2 (set_len2 l) (.toD (ev_and (b := true) (ev_isX rfl T.e_BadNumber rel_ref T.i_BadNumber_BadNumber) fun _ => .toD (ev_and (b := true) (ev_isX rfl T.e_BadNumber rel_ty T.i_BadNumber_ValueError) fun _ => .toD (ev_not (ev_isX rfl T.e_BadNumber rel_ref T.i_BadNumber_BadText)) rfl) rfl) rfl) rfl q
      have hn0 := of_decide_eq_false hb
      refine st_if S l (tv_test (ev_eqT (α := Int) (a := w') (b := 1) (ev_var rfl) ev_int rfl rfl)) (fun hb F' H' S => ?_) (fun hb F' H' S => ?_)
      · have := hw31 (of_decide_eq_true hb)
        omega
      refine st_raiseWS (zs := [.dt (.int w'), .dt (.int n), .dt odd, .dt (.list [.int G0, .int G1, .int 3, .int G3]), .dt (.int 2), .dt (.list [PyData.int 2, PyData.int 3, odd]), .dt (.list [.list LA, .list LB]), .no]) fzRef S l (R := R_worth) (X := X_worth CN) (C := CN) (es := []) (av_cons (ev_ixL (d := .list LA) (ev_var rfl) ev_int rfl rfl) (av_cons (ev_ixL (d := .list LB) (ev_var rfl) ev_int rfl rfl) (av_cons (ev_ixL (d := PyData.int 2) (ev_var rfl) ev_int rfl rfl) (av_cons (ev_ixL (d := PyData.int 3) (ev_var rfl) ev_int rfl rfl) (av_cons (ev_ixL (d := odd) (ev_var rfl) ev_int rfl rfl) av_nil))))) rfl (fun _ => .nil) ⟨.list LA, .list LB, PyData.int 2, PyData.int 3, odd, rfl, rfl, .inl (.inr (.inr hob))⟩ fun F' H' S => ?_
      refine ⟨true, T.m_BadNumber_HallError, fun _ a ha => ?_, fun q => nomatch q⟩
      have S2 := S.setv_fx (i := 7) (v := .ref a) l (Nat.le_of_ble_eq_true rfl) rfl
      exact st_ret S2 (set_len2 l) (.toD (ev_and (b := true) (ev_isX rfl T.e_BadNumber rel_ref T.i_BadNumber_BadNumber) fun _ => .toD (ev_and (b := true) (ev_isX rfl T.e_BadNumber rel_ty T.i_BadNumber_ValueError) fun _ => .toD (ev_not (ev_isX rfl T.e_BadNumber rel_ref T.i_BadNumber_BadText)) rfl) rfl) rfl) rfl q
    · refine q_when S l (b := false) (.to (tv_and (b := false) (tv_test (ev_eqT (α := Int) (a := n / 40 % 3) (b := 1) (ev_iC (ev_iC (ev_var rfl) ev_int (CDivY.s (by decide) (by decide))) ev_int (by decide)) ev_int rfl rfl)) fun _ => .to (tv_test (ev_ib (ev_var rfl) ev_int)) rfl) (Bool.and_false _)) (fun hb => nomatch hb) (fun hb F' H' S => ?_)
      refine q_if S l (b := false) (.to (tv_test (ev_ib (ev_var rfl) ev_int)) rfl) (fun hb => nomatch hb) (fun hb F' H' S => ?_)
      have hjc : n / 40 % 2 = 0 ∨ n / 40 % 2 = 1 := by omega
      have hm : ixN 2 (n / 40 % 2) = some (n / 40 % 2).toNat := ixN_in hj.1 hj.2
      refine st_setN0 (m := (n / 40 % 2).toNat) (z := n / 40 % 2) S l rfl (ev_var rfl) (.toD (a := .int (3 - 3)) (ev_ii (ev_var rfl) ev_int) rfl) (ev_iC (ev_iC (ev_var rfl) ev_int (CDivY.s (by decide) (by decide))) ev_int (by decide)) hm fun F' H' S l => ?_
      refine st_seq ?_
      refine st_if S l (tv_test (ev_eqT (α := Int) (a := w') (b := 0) (ev_var rfl) ev_int rfl rfl)) (fun hb F' H' S => ?_) (fun hb F' H' S => ?_)
      · refine q_setL (ds := [PyData.int G0, PyData.int G1, PyData.int 3, PyData.int G3]) (j := 3) S l rfl (ev_var rfl) (ev_var rfl) rfl fun F' H' S l => ?_
        refine st_raiseW S l (R := R_share) (X := X_share CN) (C := CN) (es := []) (av_cons (ev_ixL (d := PyData.int G0) (ev_varA rfl) ev_int rfl rfl) (av_cons (ev_ixL (d := PyData.int G1) (ev_varA rfl) ev_int rfl rfl) (av_cons (ev_ixL (d := PyData.int 3) (ev_varA rfl) ev_int rfl rfl) (av_cons (ev_ixL (d := odd) (ev_varA rfl) ev_int rfl rfl) av_nil)))) rfl (fun _ => .nil) ⟨PyData.int G0, PyData.int G1, PyData.int 3, odd, rfl, .inr (.inr (.inr hob)), rfl⟩ fun F' H' S => ?_
        refine ⟨true, T.m_BadNumber_HallError, fun _ a ha => ?_, fun q => nomatch q⟩
        have S2 := S.setv_fx (i := 7) (v := .ref a) l (Nat.le_of_ble_eq_true rfl) rfl
        exact st_ret S2 (set_len2 l) (.toD (ev_and (b := true) (ev_isX rfl T.e_BadNumber rel_ref T.i_BadNumber_BadNumber) fun _ => .toD (ev_and (b := true) (ev_isX rfl T.e_BadNumber rel_ty T.i_BadNumber_ValueError) fun _ => .toD (ev_not (ev_isX rfl T.e_BadNumber rel_ref T.i_BadNumber_BadText)) rfl) rfl) rfl) rfl q
      have hn0 := of_decide_eq_false hb
      refine st_if S l (tv_test (ev_eqT (α := Int) (a := w') (b := 1) (ev_var rfl) ev_int rfl rfl)) (fun hb F' H' S => ?_) (fun hb F' H' S => ?_)
      · have := hw31 (of_decide_eq_true hb)
        omega
      rcases hjc with hz | hz <;> rw [hz] at S l
      · refine st_raiseWS (zs := [.dt (.int w'), .dt (.int n), .dt odd, .dt (.list [.int G0, .int G1, .int 3, .int G3]), .dt (.int 3), .dt (.list [PyData.int 2, PyData.int 3, PyData.int 5]), .dt (.list [.list [odd, PyData.int A1], .list [PyData.int 1, PyData.int 1]]), .no]) fzRef S l (R := R_worth) (X := X_worth CN) (C := CN) (es := []) (av_cons (ev_ixL (d := .list [odd, PyData.int A1]) (ev_var rfl) ev_int rfl rfl) (av_cons (ev_ixL (d := .list [PyData.int 1, PyData.int 1]) (ev_var rfl) ev_int rfl rfl) (av_cons (ev_ixL (d := PyData.int 2) (ev_var rfl) ev_int rfl rfl) (av_cons (ev_ixL (d := PyData.int 3) (ev_var rfl) ev_int rfl rfl) (av_cons (ev_ixL (d := PyData.int 5) (ev_var rfl) ev_int rfl rfl) av_nil))))) rfl (fun _ => .nil) ⟨.list [odd, PyData.int A1], .list [PyData.int 1, PyData.int 1], PyData.int 2, PyData.int 3, PyData.int 5, rfl, rfl, .inr ⟨[], 2, 3, 5, odd, PyData.int 1, [PyData.int A1], [PyData.int 1], rfl, rfl, rfl, rfl, rfl, rfl, Nat.le_of_ble_eq_true rfl, b40_of (by decide) (by decide), b40_of (by decide) (by decide), b40_of (by decide) (by decide), (fun e he => nomatch he), .inl hob⟩⟩ fun F' H' S => ?_
        refine ⟨true, T.m_BadNumber_HallError, fun _ a ha => ?_, fun q => nomatch q⟩
        have S2 := S.setv_fx (i := 7) (v := .ref a) l (Nat.le_of_ble_eq_true rfl) rfl
        exact st_ret S2 (set_len2 l) (.toD (ev_and (b := true) (ev_isX rfl T.e_BadNumber rel_ref T.i_BadNumber_BadNumber) fun _ => .toD (ev_and (b := true) (ev_isX rfl T.e_BadNumber rel_ty T.i_BadNumber_ValueError) fun _ => .toD (ev_not (ev_isX rfl T.e_BadNumber rel_ref T.i_BadNumber_BadText)) rfl) rfl) rfl) rfl q
      · refine st_raiseWS (zs := [.dt (.int w'), .dt (.int n), .dt odd, .dt (.list [.int G0, .int G1, .int 3, .int G3]), .dt (.int 3), .dt (.list [PyData.int 2, PyData.int 3, PyData.int 5]), .dt (.list [.list [PyData.int A0, odd], .list [PyData.int 1, PyData.int 1]]), .no]) fzRef S l (R := R_worth) (X := X_worth CN) (C := CN) (es := []) (av_cons (ev_ixL (d := .list [PyData.int A0, odd]) (ev_var rfl) ev_int rfl rfl) (av_cons (ev_ixL (d := .list [PyData.int 1, PyData.int 1]) (ev_var rfl) ev_int rfl rfl) (av_cons (ev_ixL (d := PyData.int 2) (ev_var rfl) ev_int rfl rfl) (av_cons (ev_ixL (d := PyData.int 3) (ev_var rfl) ev_int rfl rfl) (av_cons (ev_ixL (d := PyData.int 5) (ev_var rfl) ev_int rfl rfl) av_nil))))) rfl (fun _ => .nil) ⟨.list [PyData.int A0, odd], .list [PyData.int 1, PyData.int 1], PyData.int 2, PyData.int 3, PyData.int 5, rfl, rfl, .inr ⟨[(A0, 1)], 2, 3, 5, odd, PyData.int 1, [], [], rfl, rfl, rfl, rfl, rfl, rfl, Nat.le_of_ble_eq_true rfl, b40_of (by decide) (by decide), b40_of (by decide) (by decide), b40_of (by decide) (by decide), (fun e he => by rw [List.mem_singleton.mp he]; exact ⟨b40_of a0.1 (by omega), b40_of (z := 1) (by decide) (by decide), .inr (by decide)⟩), .inl hob⟩⟩ fun F' H' S => ?_
        refine ⟨true, T.m_BadNumber_HallError, fun _ a ha => ?_, fun q => nomatch q⟩
        have S2 := S.setv_fx (i := 7) (v := .ref a) l (Nat.le_of_ble_eq_true rfl) rfl
        exact st_ret S2 (set_len2 l) (.toD (ev_and (b := true) (ev_isX rfl T.e_BadNumber rel_ref T.i_BadNumber_BadNumber) fun _ => .toD (ev_and (b := true) (ev_isX rfl T.e_BadNumber rel_ty T.i_BadNumber_ValueError) fun _ => .toD (ev_not (ev_isX rfl T.e_BadNumber rel_ref T.i_BadNumber_BadText)) rfl) rfl) rfl) rfl q
    · refine q_when S l (b := false) (.to (tv_and (b := false) (tv_test (ev_eqT (α := Int) (a := n / 40 % 3) (b := 1) (ev_iC (ev_iC (ev_var rfl) ev_int (CDivY.s (by decide) (by decide))) ev_int (by decide)) ev_int rfl rfl)) fun _ => .to (tv_test (ev_ib (ev_var rfl) ev_int)) rfl) (Bool.and_false _)) (fun hb => nomatch hb) (fun hb F' H' S => ?_)
      refine q_if S l (b := false) (.to (tv_test (ev_ib (ev_var rfl) ev_int)) rfl) (fun hb => nomatch hb) (fun hb F' H' S => ?_)
      have hjc : n / 40 % 2 = 0 ∨ n / 40 % 2 = 1 := by omega
      have hm : ixN 2 (n / 40 % 2) = some (n / 40 % 2).toNat := ixN_in hj.1 hj.2
      refine st_setN1 (m := (n / 40 % 2).toNat) (z := n / 40 % 2) S l rfl (ev_var rfl) (.toD (a := .int (4 - 3)) (ev_ii (ev_var rfl) ev_int) rfl) (ev_iC (ev_iC (ev_var rfl) ev_int (CDivY.s (by decide) (by decide))) ev_int (by decide)) hm fun F' H' S l => ?_
      refine st_seq ?_
      refine st_if S l (tv_test (ev_eqT (α := Int) (a := w') (b := 0) (ev_var rfl) ev_int rfl rfl)) (fun hb F' H' S => ?_) (fun hb F' H' S => ?_)
      · have := hw30 (of_decide_eq_true hb)
        omega
      have hn0 := of_decide_eq_false hb
      refine st_if S l (tv_test (ev_eqT (α := Int) (a := w') (b := 1) (ev_var rfl) ev_int rfl rfl)) (fun hb F' H' S => ?_) (fun hb F' H' S => ?_)
      · have := hw31 (of_decide_eq_true hb)
        omega
      rcases hjc with hz | hz <;> rw [hz] at S l
      · refine st_raiseWS (zs := [.dt (.int w'), .dt (.int n), .dt odd, .dt (.list [.int G0, .int G1, .int 3, .int G3]), .dt (.int 4), .dt (.list [PyData.int 2, PyData.int 3, PyData.int 5]), .dt (.list [.list [PyData.int A0, PyData.int A1], .list [odd, PyData.int 1]]), .no]) fzRef S l (R := R_worth) (X := X_worth CN) (C := CN) (es := []) (av_cons (ev_ixL (d := .list [PyData.int A0, PyData.int A1]) (ev_var rfl) ev_int rfl rfl) (av_cons (ev_ixL (d := .list [odd, PyData.int 1]) (ev_var rfl) ev_int rfl rfl) (av_cons (ev_ixL (d := PyData.int 2) (ev_var rfl) ev_int rfl rfl) (av_cons (ev_ixL (d := PyData.int 3) (ev_var rfl) ev_int rfl rfl) (av_cons (ev_ixL (d := PyData.int 5) (ev_var rfl) ev_int rfl rfl) av_nil))))) rfl (fun _ => .nil) ⟨.list [PyData.int A0, PyData.int A1], .list [odd, PyData.int 1], PyData.int 2, PyData.int 3, PyData.int 5, rfl, rfl, .inr ⟨[], 2, 3, 5, PyData.int A0, odd, [PyData.int A1], [PyData.int 1], rfl, rfl, rfl, rfl, rfl, rfl, Nat.le_of_ble_eq_true rfl, b40_of (by decide) (by decide), b40_of (by decide) (by decide), b40_of (by decide) (by decide), (fun e he => nomatch he), .inr ⟨A0, rfl, b40_of a0.1 (by omega), .inr (by decide), hob⟩⟩⟩ fun F' H' S => ?_
        refine ⟨true, T.m_BadNumber_HallError, fun _ a ha => ?_, fun q => nomatch q⟩
        have S2 := S.setv_fx (i := 7) (v := .ref a) l (Nat.le_of_ble_eq_true rfl) rfl
        exact st_ret S2 (set_len2 l) (.toD (ev_and (b := true) (ev_isX rfl T.e_BadNumber rel_ref T.i_BadNumber_BadNumber) fun _ => .toD (ev_and (b := true) (ev_isX rfl T.e_BadNumber rel_ty T.i_BadNumber_ValueError) fun _ => .toD (ev_not (ev_isX rfl T.e_BadNumber rel_ref T.i_BadNumber_BadText)) rfl) rfl) rfl) rfl q
      · refine st_raiseWS (zs := [.dt (.int w'), .dt (.int n), .dt odd, .dt (.list [.int G0, .int G1, .int 3, .int G3]), .dt (.int 4), .dt (.list [PyData.int 2, PyData.int 3, PyData.int 5]), .dt (.list [.list [PyData.int A0, PyData.int A1], .list [PyData.int 1, odd]]), .no]) fzRef S l (R := R_worth) (X := X_worth CN) (C := CN) (es := []) (av_cons (ev_ixL (d := .list [PyData.int A0, PyData.int A1]) (ev_var rfl) ev_int rfl rfl) (av_cons (ev_ixL (d := .list [PyData.int 1, odd]) (ev_var rfl) ev_int rfl rfl) (av_cons (ev_ixL (d := PyData.int 2) (ev_var rfl) ev_int rfl rfl) (av_cons (ev_ixL (d := PyData.int 3) (ev_var rfl) ev_int rfl rfl) (av_cons (ev_ixL (d := PyData.int 5) (ev_var rfl) ev_int rfl rfl) av_nil))))) rfl (fun _ => .nil) ⟨.list [PyData.int A0, PyData.int A1], .list [PyData.int 1, odd], PyData.int 2, PyData.int 3, PyData.int 5, rfl, rfl, .inr ⟨[(A0, 1)], 2, 3, 5, PyData.int A1, odd, [], [], rfl, rfl, rfl, rfl, rfl, rfl, Nat.le_of_ble_eq_true rfl, b40_of (by decide) (by decide), b40_of (by decide) (by decide), b40_of (by decide) (by decide), (fun e he => by rw [List.mem_singleton.mp he]; exact ⟨b40_of a0.1 (by omega), b40_of (z := 1) (by decide) (by decide), .inr (by decide)⟩), .inr ⟨A1, rfl, b40_of a1.1 (by omega), .inr (by decide), hob⟩⟩⟩ fun F' H' S => ?_
        refine ⟨true, T.m_BadNumber_HallError, fun _ a ha => ?_, fun q => nomatch q⟩
        have S2 := S.setv_fx (i := 7) (v := .ref a) l (Nat.le_of_ble_eq_true rfl) rfl
        exact st_ret S2 (set_len2 l) (.toD (ev_and (b := true) (ev_isX rfl T.e_BadNumber rel_ref T.i_BadNumber_BadNumber) fun _ => .toD (ev_and (b := true) (ev_isX rfl T.e_BadNumber rel_ty T.i_BadNumber_ValueError) fun _ => .toD (ev_not (ev_isX rfl T.e_BadNumber rel_ref T.i_BadNumber_BadText)) rfl) rfl) rfl) rfl q
  · exact h.elim

/-! ### worth is told once -/
theorem one_frac {p q : Int × Int} {m n : Nat} (hp : Ok m p) (hq : Ok n q) (h : p.1 * q.2 = q.1 * p.2) : p = q := by
  have p0 := hp.pos
  have q0 := hq.pos
  have hn : p.1.natAbs * q.2.natAbs = q.1.natAbs * p.2.natAbs := by
    have := congrArg Int.natAbs h
    rwa [Int.natAbs_mul, Int.natAbs_mul] at this
  have d1 : p.2.natAbs ∣ q.2.natAbs := by
    have h1 : p.2.natAbs ∣ p.1.natAbs * q.2.natAbs := by rw [hn]; exact Nat.dvd_mul_left _ _
    exact Nat.Coprime.dvd_of_dvd_mul_left (by show Nat.gcd _ _ = 1; rw [Nat.gcd_comm]; exact hp.g) h1
  have d2 : q.2.natAbs ∣ p.2.natAbs := by
    have h1 : q.2.natAbs ∣ q.1.natAbs * p.2.natAbs := by rw [← hn]; exact Nat.dvd_mul_left _ _
    exact Nat.Coprime.dvd_of_dvd_mul_left (by show Nat.gcd _ _ = 1; rw [Nat.gcd_comm]; exact hq.g) h1
  have e2 : p.2 = q.2 := by
    have := Nat.dvd_antisymm d1 d2
    omega
  have e1 : p.1 = q.1 := by
    rw [e2] at h
    exact Int.eq_of_mul_eq_mul_right (by omega) h
  exact Prod.ext e1 e2
theorem lsum_acc : ∀ (L : List (Int × Int)) (s m t : Int) (a b : Int), lsumF s m t (a, b) L = (a * (lsumF s m t (0, 1) L).2 + (lsumF s m t (0, 1) L).1 * b, b * (lsumF s m t (0, 1) L).2)
  | [], s, m, t, a, b => by
    show (a, b) = (a * 1 + 0 * b, b * 1)
    rw [Int.mul_one, Int.mul_one, Int.zero_mul, Int.add_zero]
  | e :: L, s, m, t, a, b => by
    show lsumF s m t (lstep s m t (a, b) e) L = (a * (lsumF s m t (lstep s m t (0, 1) e) L).2 + (lsumF s m t (lstep s m t (0, 1) e) L).1 * b, b * (lsumF s m t (lstep s m t (0, 1) e) L).2)
    unfold lstep
    dsimp only
    generalize (lshareF e.1 s m t).2 * (e.2 + 1) = W
    generalize (lshareF e.1 s m t).1 * (m + 1) = O
    rw [lsum_acc L s m t (a * W + O * b) (b * W), lsum_acc L s m t (0 * W + O * 1) (1 * W)]
    dsimp only
    generalize (lsumF s m t (0, 1) L).1 = A
    generalize (lsumF s m t (0, 1) L).2 = B
    refine Prod.ext ?_ ?_
    · show (a * W + O * b) * B + A * (b * W) = a * (1 * W * B) + ((0 * W + O * 1) * B + A * (1 * W)) * b
      grind
    · show b * W * B = b * (1 * W * B)
      grind
theorem lsum_rev : ∀ (L : List (Int × Int)) (s m t : Int), lsumF s m t (0, 1) L.reverse = lsumF s m t (0, 1) L
  | [], _, _, _ => rfl
  | e :: L, s, m, t => by
    rw [List.reverse_cons]
    show (L.reverse ++ [e]).foldl (lstep s m t) (0, 1) = lsumF s m t (lstep s m t (0, 1) e) L
    rw [List.foldl_append]
    show lstep s m t (lsumF s m t (0, 1) L.reverse) e = _
    rw [lsum_rev L]
    unfold lstep
    dsimp only
    generalize (lshareF e.1 s m t).2 * (e.2 + 1) = W
    generalize (lshareF e.1 s m t).1 * (m + 1) = O
    rw [lsum_acc L s m t (0 * W + O * 1) (1 * W)]
    generalize (lsumF s m t (0, 1) L).1 = A
    generalize (lsumF s m t (0, 1) L).2 = B
    refine Prod.ext ?_ ?_
    · show A * W + O * B = (0 * W + O * 1) * B + A * (1 * W)
      grind
    · show B * W = 1 * W * B
      grind
theorem ok01 : Ok 1 ((0, 1) : Int × Int) := ⟨by decide, by decide, by decide, by decide⟩
theorem bd01 : Bd 1 ((0, 1) : Int × Int) := ⟨by decide, by decide, by decide⟩
theorem worth_like {L1 L2 : List (Int × Int)} {s m t : Int} (hs : B40 s) (hm : B40 m) (ht : B40 t) (h1 : ∀ e ∈ L1, GoodE t e) (h2 : ∀ e ∈ L2, GoodE t e) (h : (lsumF s m t (0, 1) L1).1 * (lsumF s m t (0, 1) L2).2 = (lsumF s m t (0, 1) L2).1 * (lsumF s m t (0, 1) L1).2) : worthF s m t (0, 1) L1 = worthF s m t (0, 1) L2 := by
  have o1 := worth_ok L1 hs hm ht ok01 h1
  have o2 := worth_ok L2 hs hm ht ok01 h2
  have b1 := (lsum_bd L1 hs hm ht bd01 h1).pos
  have b2 := (lsum_bd L2 hs hm ht bd01 h2).pos
  have c1 := worth_cross L1 hs hm ht ok01 bd01 h1 rfl
  have c2 := worth_cross L2 hs hm ht ok01 bd01 h2 rfl
  refine one_frac o1 o2 ?_
  have p1 := o1.pos
  have p2 := o2.pos
  generalize worthF s m t (0, 1) L1 = p at *
  generalize worthF s m t (0, 1) L2 = q at *
  generalize lsumF s m t (0, 1) L1 = x at *
  generalize lsumF s m t (0, 1) L2 = y at *
  obtain ⟨p1', p2'⟩ := p
  obtain ⟨q1', q2'⟩ := q
  obtain ⟨x1, x2⟩ := x
  obtain ⟨y1, y2⟩ := y
  dsimp only at *
  refine cross_pos (a := 0) (b := x2 * y2) (Int.mul_pos (by omega) (by omega)) ?_
  grind
theorem worth_rev (L : List (Int × Int)) {s m t : Int} (hs : B40 s) (hm : B40 m) (ht : B40 t) (h : ∀ e ∈ L, GoodE t e) : worthF s m t (0, 1) L.reverse = worthF s m t (0, 1) L :=
  worth_like hs hm ht (fun e he => h e (List.mem_reverse.mp he)) h (by rw [lsum_rev])
theorem worth_none (L : List (Int × Int)) {s m t f : Int} (hs : B40 s) (hm : B40 m) (ht : B40 t) (hf : B40 f) (h : ∀ e ∈ L, GoodE t e) : worthF s m t (0, 1) (L ++ [(0, f)]) = worthF s m t (0, 1) L := by
  have h0 : GoodE t (0, f) := ⟨b40_of (z := 0) (by decide) (by decide), hf, .inl rfl⟩
  refine worth_like hs hm ht (fun e he => ?_) h ?_
  · rcases List.mem_append.mp he with q | q
    · exact h e q
    · rw [List.mem_singleton.mp q]
      exact h0
  · have e : lsumF s m t (0, 1) (L ++ [(0, f)]) = lstep s m t (lsumF s m t (0, 1) L) (0, f) := by
      show (L ++ [(0, f)]).foldl _ _ = _
      rw [List.foldl_append]
      rfl
    rw [e]
    unfold lstep
    rw [show lshareF ((0, f) : Int × Int).1 s m t = (0, 1) from if_pos rfl]
    generalize lsumF s m t (0, 1) L = x
    obtain ⟨x1, x2⟩ := x
    show (x1 * (1 * (f + 1)) + 0 * (m + 1) * x2) * x2 = x1 * (x2 * (1 * (f + 1)))
    grind
theorem iD_plain : ∀ L : List Int, PyData.plainAll (iD L) = true
  | [] => rfl
  | z :: L => by
    show ((PyData.int z).plain && PyData.plainAll (iD L)) = true
    rw [iD_plain L]
    rfl
theorem two_plain (a b : List Int) : (PyData.list [.list (iD a), .list (iD b)]).plain = true := by
  refine plain_list ?_
  show ((PyData.list (iD a)).plain && ((PyData.list (iD b)).plain && true)) = true
  rw [plain_list (iD_plain a), plain_list (iD_plain b)]
  rfl
theorem two_depth (a b : List Int) : (PyData.list [.list (iD a), .list (iD b)]).depth ≤ 60 := by
  show max (PyData.depthAll (iD a) + 1) (max (PyData.depthAll (iD b) + 1) 0) + 1 ≤ 60
  have h1 : PyData.depthAll (iD a) ≤ 1 := by rw [PySem.W.depth_ints]; decide
  have h2 : PyData.depthAll (iD b) ≤ 1 := by rw [PySem.W.depth_ints]; decide
  omega
theorem fz11 {d1 d2 d3 d4 d5 d7 d8 : PyData} {a b : List PyData} {x0 x9 x10 : Sl} : FzA K [x0, .dt d1, .dt d2, .dt d3, .dt d4, .dt d5, .mu (nest2 K a b), .dt d7, .dt d8, x9, x10] [.no, .dt d1, .dt d2, .dt d3, .dt d4, .dt d5, .dt (.list [.list a, .list b]), .dt d7, .dt d8, .no, .no] :=
  .cons .no (.cons .dt (.cons .dt (.cons .dt (.cons .dt (.cons .dt (.cons Fz.nest2 (.cons .dt (.cons .dt (.cons .no (.cons .no .nil))))))))))
theorem fst_snoc (L : List (Int × Int)) (e : Int × Int) : iD (L.map Prod.fst) ++ [PyData.int e.1] = iD ((L ++ [e]).map Prod.fst) := by
  rw [List.map_append, iD_snoc]
  rfl
theorem snd_snoc (L : List (Int × Int)) (e : Int × Int) : iD (L.map Prod.snd) ++ [PyData.int e.2] = iD ((L ++ [e]).map Prod.snd) := by
  rw [List.map_append, iD_snoc]
  rfl
def R_law (ds : List PyData) (r : Sl) : Prop := ∃ ns : List Int, ds = [.list (iD ns)] ∧ ns.length ≤ 63 ∧ r = .dt (.bool true)
theorem ok_law {f : Addr} {fd : FuncData} (F : Fun K "law" "law" s_law f fd) (T : Txt K mg CN CH CT)
    (d__law_made : DefOk P w K mg base 3 "_law_made" ["_law_script"] (spF K R_made noX) [])
    (d__law_noughts_right : DefOk P w K mg base 6 "_law_noughts_right" ["_law_script"] (spF K R_noughts noX) [])
    (d__law_shares_right : DefOk P w K mg base 5 "_law_shares_right" ["_law_counts", "_law_founds", "_law_size", "_law_many", "_law_total"] (spF K R_sright noX) [])
    (d__law_sum : DefOk P w K mg base 2 "_law_sum" ["_law_counts", "_law_founds", "_law_size", "_law_many", "_law_total"] (spF K R_lsum noX) [])
    (d_worth_of : DefOk P w K mg base 5 "worth_of" ["counts", "founds", "size", "many", "total"] (spF K R_worth (X_worth CN)) [])
    (d__law_is : DefOk P w K mg base 2 "_law_is" ["_law_found", "_law_above", "_law_below"] (spF K R_is noX) [])
    (d__law_refused : DefOk P w K mg base 6 "_law_refused" ["_law_way", "_law_number_here"] (spF K R_refused noX) [])
    (d__law_number : DefOk P w K mg base 2 "_law_number" ["_law_script", "_law_k"] (spF K R_number noX) []) : FnOk P w K mg base (L2.CX P w) 7 f fd ["_law_script"] (spF K R_law noX) := by
  refine F.okX sc_law (spF_len (n := 1) (by walk_at "sl") (by rintro _ _ ⟨⟩)) (fun cdv A outer s H vs Q E hr h => ?_)
  obtain ⟨F0, ds, fh, hv, ⟨r, ⟨ns, rfl, hl63, rfl⟩, q⟩ | ⟨_, h, _⟩⟩ := h
  · --
    have S := Sts.init (N := ["_law_script", "_law_counts", "_law_founds", "_law_size", "_law_many", "_law_total", "_law_handed", "_law_above", "_law_below", "_law_found", "_law_way"]) fh hv
    have hu : (A.deeper (envOfC "law" (defScope s_law) s.heap.objs.size f cdv)).units + 64 < cLine := hr.units
    refine ⟨_, (pss_cons (ps_asg (pe_own d__law_made (hr.mono (by decide)) (by rfl) passL (pa_cons (pv 0) pa_nil)) (pg_tup rfl (pgs_cons (pg_name (i := 1) sc_law.nd rfl (Or.inl rfl)) (pgs_cons (pg_name (i := 2) sc_law.nd rfl (Or.inl rfl)) (pgs_cons (pg_name (i := 3) sc_law.nd rfl (Or.inl rfl)) (pgs_cons (pg_name (i := 4) sc_law.nd rfl (Or.inl rfl)) (pgs_cons (pg_name (i := 5) sc_law.nd rfl (Or.inl rfl)) pgs_nil)))))))
          (pss_cons (ps_if (PW.pt (pw_or (pt_not (pt_val (pe_own d__law_shares_right (hr.mono (by decide)) (by rfl) passL (pa_cons (pv 1) (pa_cons (pv 2) (pa_cons (pv 3) (pa_cons (pv 4) (pa_cons (pv 5) pa_nil)))))))) (pw_or1 (pt_not (pt_val (pe_own d__law_noughts_right (hr.mono (by decide)) (by rfl) passL (pa_cons (pv 0) pa_nil))))))) (pss_one (ps_ret pe_bl)) pss_nil)
          (pss_cons (ps_set (i := 6) sc_law.nd rfl (Or.inl rfl) (pe_lst (pa_cons (pe_callTy (T := "list") (r := rListR K) call_listR (by rfl) T.list (by decide +kernel) (pa_cons (pv 1) pa_nil)) (pa_cons (pe_callTy (T := "list") (r := rListR K) call_listR (by rfl) T.list (by decide +kernel) (pa_cons (pv 2) pa_nil)) pa_nil))))
          (pss_cons (ps_asg (pe_own d__law_sum (hr.mono (by decide)) (by rfl) passL (pa_cons (pv 1) (pa_cons (pv 2) (pa_cons (pv 3) (pa_cons (pv 4) (pa_cons (pv 5) pa_nil)))))) (pg_tup rfl (pgs_cons (pg_name (i := 7) sc_law.nd rfl (Or.inl rfl)) (pgs_cons (pg_name (i := 8) sc_law.nd rfl (Or.inl rfl)) pgs_nil))))
          (pss_cons (ps_set (i := 9) sc_law.nd rfl (Or.inl rfl) (pe_own d_worth_of (hr.mono (by decide)) (by rfl) (passes_call (takes_of rfl rfl rfl rfl) (fun _ _ _ _ h => h)) (pa_cons (pe_ix (r := rIxL K) ix_list (pv 6) pe_int (fun _ _ => rfl)) (pa_cons (pe_ix (r := rIxL K) ix_list (pv 6) pe_int (fun _ _ => rfl)) (pa_cons (pv 3) (pa_cons (pv 4) (pa_cons (pv 5) pa_nil)))))))
          (pss_cons (ps_if (PW.pt (pw_or (pt_not (pt_val (pe_own d__law_is (hr.mono (by decide)) (by rfl) passL (pa_cons (pv 9) (pa_cons (pv 7) (pa_cons (pv 8) pa_nil)))))) (pw_or1 (pt_cmpR (r := rNeP K) (op_neP hu) (pv 6) (pe_lst (pa_cons (pv 1) (pa_cons (pv 2) pa_nil))) (nomark _))))) (pss_one (ps_ret pe_bl)) pss_nil)
          (pss_cons (ps_if (pt_cmpR (r := rNeP K) (op_neP hu) (pe_own d_worth_of (hr.mono (by decide)) (by rfl) (passes_call (takes_of rfl rfl rfl rfl) (fun _ _ _ _ h => h)) (pa_cons (pe_revL (pv 1)) (pa_cons (pe_revL (pv 2)) (pa_cons (pv 3) (pa_cons (pv 4) (pa_cons (pv 5) pa_nil)))))) (pv 9) (nomark _)) (pss_one (ps_ret pe_bl)) pss_nil)
          (pss_cons (ps_if (pt_cmpR (r := rNeP K) (op_neP hu) (pe_own d_worth_of (hr.mono (by decide)) (by rfl) (passes_call (takes_of rfl rfl rfl rfl) (fun _ _ _ _ h => h)) (pa_cons (pe_op (r := rCatL K) op_catL (pv 1) (pe_lst (pa_cons pe_int pa_nil))) (pa_cons (pe_op (r := rCatL K) op_catL (pv 2) (pe_lst (pa_cons (pv 4) pa_nil))) (pa_cons (pv 3) (pa_cons (pv 4) (pa_cons (pv 5) pa_nil)))))) (pv 9) (nomark _)) (pss_one (ps_ret pe_bl)) pss_nil)
          (pss_cons (ps_expr (pe_bm PySem.F.plainAttrs_list PySem.F.slot_list_append PySem.F.type_list_append mt_append (pe_ix (r := rIxL K) ix_list (pv 6) pe_int (fun _ _ => rfl)) (pa_cons pe_int pa_nil)))
          (pss_cons (ps_expr (pe_bm PySem.F.plainAttrs_list PySem.F.slot_list_append PySem.F.type_list_append mt_append (pe_ix (r := rIxL K) ix_list (pv 6) pe_int (fun _ _ => rfl)) (pa_cons pe_int pa_nil)))
          (pss_cons (ps_asg (pe_own d__law_sum (hr.mono (by decide)) (by rfl) passL (pa_cons (pe_ix (r := rIxL K) ix_list (pv 6) pe_int (fun _ _ => rfl)) (pa_cons (pe_ix (r := rIxL K) ix_list (pv 6) pe_int (fun _ _ => rfl)) (pa_cons (pv 3) (pa_cons (pv 4) (pa_cons (pv 5) pa_nil)))))) (pg_tup rfl (pgs_cons (pg_name (i := 7) sc_law.nd rfl (Or.inl rfl)) (pgs_cons (pg_name (i := 8) sc_law.nd rfl (Or.inl rfl)) pgs_nil))))
          (pss_cons (ps_if (pt_not (pt_val (pe_own d__law_is (hr.mono (by decide)) (by rfl) passL (pa_cons (pe_own d_worth_of (hr.mono (by decide)) (by rfl) (passes_call (takes_of rfl rfl rfl rfl) (fun _ _ _ _ h => h)) (pa_cons (pe_ix (r := rIxL K) ix_list (pv 6) pe_int (fun _ _ => rfl)) (pa_cons (pe_ix (r := rIxL K) ix_list (pv 6) pe_int (fun _ _ => rfl)) (pa_cons (pv 3) (pa_cons (pv 4) (pa_cons (pv 5) pa_nil)))))) (pa_cons (pv 7) (pa_cons (pv 8) pa_nil)))))) (pss_one (ps_ret pe_bl)) pss_nil)
          (pss_one (ps_ret (pe_callB (id := "all") (r := rAll K) (cr_all rfl) (by rfl) T.all (by decide +kernel) (pa_cons (pe_lc (own := [("_law_way", 10)]) (g := (gName 10)) (tt := tYes) rfl sc_law.nd (pi_range1 (by rfl) T.range (pa_cons pe_int pa_nil)) (blkOk_by (own := [("_law_way", 10)]) (N := ["_law_script", "_law_counts", "_law_founds", "_law_size", "_law_many", "_law_total", "_law_handed", "_law_above", "_law_below", "_law_found", "_law_way"]) (sc := defScope s_law) (by decide +kernel)) (fun _ _ _ _ _ => pg_name (i := 10) sc_law.nd rfl (Or.inl rfl)) (fun _ _ _ _ _ => pts_nil) (fun _ _ _ _ _ => (pe_own d__law_refused (hr.mono (by decide)) (by rfl) passL (pa_cons (pv 10) (pa_cons (pe_own d__law_number (hr.mono (by decide)) (by rfl) passL (pa_cons (pv 0) (pa_cons (pe_op op_add pe_int (pv 10)) pa_nil))) pa_nil))))) pa_nil)))))))))))))))), ?_⟩
    have bS : 1 ≤ madeS ns ∧ madeS ns ≤ 1000000000 := by have := great_b (number ns 1) 1; unfold madeS; omega
    have bM : 1 ≤ madeM ns ∧ madeM ns ≤ 1000000000 := by have := great_b (number ns 2) 1; unfold madeM; omega
    have bT : 2 ≤ madeT ns ∧ madeT ns ≤ 3000000000 := by have := great_b (number ns 3) 0; unfold madeT; omega
    have hN : madeN ns ≤ 6 := by unfold madeN; omega
    have hLl : (madeL ns (madeM ns) (madeN ns)).length ≤ 6 := by unfold madeL; rw [List.length_map, List.length_range]; exact hN
    have hLb : ∀ e ∈ madeL ns (madeM ns) (madeN ns), Bs e.1 ∧ Bs e.2 := fun e he => by
      obtain ⟨k, _, rfl⟩ := List.mem_map.mp he
      have h1 := madeC_b (number ns (4 + (k : Int)))
      have h2 := madeF_b (number ns (4 + (k : Int))) bM.1
      exact ⟨⟨h1.1, by show madeC _ ≤ _; omega⟩, ⟨h2.1, by show madeF _ _ ≤ _; omega⟩⟩
    refine q_five S (init_len hv (Nat.le_of_ble_eq_true rfl)) (d1 := .list (iD ((madeL ns (madeM ns) (madeN ns)).map Prod.fst))) (d2 := .list (iD ((madeL ns (madeM ns) (madeN ns)).map Prod.snd))) (d3 := .int (madeS ns)) (d4 := .int (madeM ns)) (d5 := .int (madeT ns)) (ev_call0 (R := R_made) (X := noX) (av_cons (ev_var rfl) av_nil) rfl ⟨ns, rfl, rfl⟩) rfl (Nat.le_of_ble_eq_true rfl) (Nat.le_of_ble_eq_true rfl) (Nat.le_of_ble_eq_true rfl) (Nat.le_of_ble_eq_true rfl) (Nat.le_of_ble_eq_true rfl) fun σ' F' H' S l => ?_
    generalize madeL ns (madeM ns) (madeN ns) = L at *
    generalize madeS ns = sz at *
    generalize madeM ns = m at *
    generalize madeT ns = t at *
    have hs : Bs sz := ⟨by omega, by omega⟩
    have hm : Bs m := ⟨by omega, by omega⟩
    have ht : Bs t := ⟨by omega, by omega⟩
    have hG : ∀ e ∈ L, GoodE t e := fun e he => ⟨(hLb e he).1.b, (hLb e he).2.b, .inr (by omega)⟩
    refine q_when S l (b := false) (tv_or (a := false) (b := false) (.to (tv_not (tv_B (ev_call0 (r := .dt (.bool true)) (av_cons (ev_var rfl) (av_cons (ev_var rfl) (av_cons (ev_var rfl) (av_cons (ev_var rfl) (av_cons (ev_var rfl) av_nil))))) rfl ⟨L, sz, m, t, rfl, hs, hm, ht, bM.1, by omega, hLb, rfl⟩))) rfl) fun _ => .to (tv_not (tv_B (ev_call0 (r := .dt (.bool true)) (av_cons (ev_var rfl) av_nil) rfl ⟨ns, rfl, rfl⟩))) rfl) (fun hb => nomatch hb) (fun hb F' H' S => ?_)
    refine q_asg S l (ev_nest2 (ev_list (ev_var rfl) rfl) (ev_list (ev_var rfl) rfl)) rfl rfl (Nat.le_of_ble_eq_true rfl) fun σ' F' H' S l => ?_ -- _law_handed
    refine q_two S l (d1 := .int (lsumF sz m t (0, 1) L).1) (d2 := .int (lsumF sz m t (0, 1) L).2) (ev_call0 (R := R_lsum) (X := noX) (av_cons (ev_var rfl) (av_cons (ev_var rfl) (av_cons (ev_var rfl) (av_cons (ev_var rfl) (av_cons (ev_var rfl) av_nil))))) rfl ⟨L, sz, m, t, rfl, by omega, hs.b, hm.b, ht.b, hG, rfl⟩) rfl (Nat.le_of_ble_eq_true rfl) (Nat.le_of_ble_eq_true rfl) fun σ' F' H' S l => ?_
    have hw : ∀ {L : List (Int × Int)} {d1 d2 d7 d8 : PyData}, L.length ≤ 9 → (∀ e ∈ L, GoodE t e) → EvR K (tCall (spF K R_worth (X_worth CN)) [] E (tCons (tOp (rIxL K) (tVar 6) (tC (.int 0))) (tCons (tOp (rIxL K) (tVar 6) (tC (.int 1))) (tCons (tVar 3) (tCons (tVar 4) (tCons (tVar 5) tNil)))))) [.no, .dt d1, .dt d2, .dt (.int sz), .dt (.int m), .dt (.int t), .dt (.list [.list (iD (L.map Prod.fst)), .list (iD (L.map Prod.snd))]), .dt d7, .dt d8, .no, .no] (.dt (pD (worthF sz m t (0, 1) L))) := fun {L d1 d2 d7 d8} h1 h2 =>
      ev_call0 (R := R_worth) (X := X_worth CN) (av_cons (ev_ixL (d := .list (iD (L.map Prod.fst))) (ev_var rfl) ev_int rfl rfl) (av_cons (ev_ixL (d := .list (iD (L.map Prod.snd))) (ev_var rfl) ev_int rfl rfl) (av_cons (ev_var rfl) (av_cons (ev_var rfl) (av_cons (ev_var rfl) av_nil))))) rfl ⟨L, sz, m, t, rfl, h1, hs.b, hm.b, ht.b, h2, rfl⟩
    have hok := worth_ok L hs.b hm.b ht.b ok01 hG
    have hbd := lsum_bd L hs.b hm.b ht.b bd01 hG
    have hcr := worth_cross L hs.b hm.b ht.b ok01 bd01 hG rfl
    have S3 : Sts K _ _ _ _ _ _ ([.dt (.list (iD ns)), .dt (.list (iD (L.map Prod.fst))), .dt (.list (iD (L.map Prod.snd))), .dt (.int sz), .dt (.int m), .dt (.int t), .mu (nest2 K (iD (L.map Prod.fst)) (iD (L.map Prod.snd))), .dt (.int (lsumF sz m t (0, 1) L).1), .dt (.int (lsumF sz m t (0, 1) L).2), .no, .no] ++ []) := S
    have l3 : List.length _ = List.length [Sl.dt (.list (iD ns)), .dt (.list (iD (L.map Prod.fst))), .dt (.list (iD (L.map Prod.snd))), .dt (.int sz), .dt (.int m), .dt (.int t), .mu (nest2 K (iD (L.map Prod.fst)) (iD (L.map Prod.snd))), .dt (.int (lsumF sz m t (0, 1) L).1), .dt (.int (lsumF sz m t (0, 1) L).2), .no, .no] := l
    clear S l
    have S := S3
    have l := l3
    clear S3 l3
    refine q_asg S l (r := .dt (pD (worthF sz m t (0, 1) L))) (EvR.still _ (hw (by omega) hG) fz11 rfl) rfl rfl (Nat.le_of_ble_eq_true rfl) fun σ' F' H' S l => ?_ -- _law_found
    refine q_when S l (b := false) (tv_or (a := false) (b := false) (.to (tv_not (tv_B (ev_call0 (r := .dt (.bool true)) (av_cons (ev_var rfl) (av_cons (ev_var rfl) (av_cons (ev_var rfl) av_nil))) rfl ⟨worthF sz m t (0, 1) L, _, _, _, rfl, hok, by omega, lt_mid hbd.u (by omega), lt_mid hbd.d (by omega), hcr, rfl⟩))) rfl) fun _ => TvR.still _ (.to (tv_test (ev_neP (da := .list [.list (iD (L.map Prod.fst)), .list (iD (L.map Prod.snd))]) (db := .list [.list (iD (L.map Prod.fst)), .list (iD (L.map Prod.snd))]) (ev_var rfl) (ev_lst (av_cons (ev_var rfl) (av_cons (ev_var rfl) av_nil)) rfl (Nat.le_of_ble_eq_true rfl)) rfl rfl (two_plain _ _) (two_plain _ _) (two_depth _ _))) (by rw [PySem.SeqAt.eqv_refl_plain _ (two_plain _ _)]; rfl)) fz11) (fun hb => nomatch hb) (fun hb F' H' S => ?_)
    have hrv := worth_rev L hs.b hm.b ht.b hG
    have hno := worth_none L hs.b hm.b ht.b hm.b hG
    refine q_when S l (b := false) (.to (tv_test (ev_neT (α := Int × Int) (a := worthF sz m t (0, 1) L) (b := worthF sz m t (0, 1) L) (.toD (ev_call0 (r := .dt (pD (worthF sz m t (0, 1) L.reverse))) (R := R_worth) (X := X_worth CN) (av_cons (.frz (ev_revL (ev_var rfl) rfl)) (av_cons (.frz (ev_revL (ev_var rfl) rfl)) (av_cons (ev_var rfl) (av_cons (ev_var rfl) (av_cons (ev_var rfl) av_nil))))) rfl ⟨L.reverse, sz, m, t, by simp only [iD, List.map_reverse], by rw [List.length_reverse]; omega, hs.b, hm.b, ht.b, fun e he => hG e (List.mem_reverse.mp he), rfl⟩) (by rw [hrv]; rfl)) (ev_var rfl) rfl rfl)) (nd_self _)) (fun hb => nomatch hb) (fun hb F' H' S => ?_)
    refine q_when S l (b := false) (.to (tv_test (ev_neT (α := Int × Int) (a := worthF sz m t (0, 1) L) (b := worthF sz m t (0, 1) L) (.toD (ev_call0 (r := .dt (pD (worthF sz m t (0, 1) (L ++ [(0, m)])))) (R := R_worth) (X := X_worth CN) (av_cons (.frz (ev_catL (ds := iD (L.map Prod.fst)) (es := [.int 0]) (ev_var rfl) (ev_lst (av_cons ev_int av_nil) rfl (Nat.le_of_ble_eq_true rfl)) rfl rfl (by rw [List.length_map, List.length_map]; show _ + 1 ≤ _; omega))) (av_cons (.frz (ev_catL (ds := iD (L.map Prod.snd)) (es := [.int m]) (ev_var rfl) (ev_lst (av_cons (ev_var rfl) av_nil) rfl (Nat.le_of_ble_eq_true rfl)) rfl rfl (by rw [List.length_map, List.length_map]; show _ + 1 ≤ _; omega))) (av_cons (ev_var rfl) (av_cons (ev_var rfl) (av_cons (ev_var rfl) av_nil))))) rfl ⟨L ++ [(0, m)], sz, m, t, by rw [← fst_snoc, ← snd_snoc], by rw [List.length_append]; show _ + 1 ≤ _; omega, hs.b, hm.b, ht.b, fun e he => by
      rcases List.mem_append.mp he with h | h
      · exact hG e h
      · rw [List.mem_singleton.mp h]
        exact ⟨b40_of (z := 0) (by decide) (by decide), hm.b, .inl rfl⟩, rfl⟩) (by rw [hno]; rfl)) (ev_var rfl) rfl rfl)) (nd_self _)) (fun hb => nomatch hb) (fun hb F' H' S => ?_)
    refine q_app0 S l (ds1 := iD (L.map Prod.fst)) (ds2 := iD (L.map Prod.snd)) rfl ev_int (by rw [List.length_map, List.length_map]; omega) fun F' H' S l => ?_
    refine q_app1 S l (ds1 := iD (L.map Prod.fst) ++ [.int 2]) (ds2 := iD (L.map Prod.snd)) rfl ev_int (by rw [List.length_map, List.length_map]; omega) fun F' H' S l => ?_
    have e1 := fst_snoc L (2, 1)
    have e2 := snd_snoc L (2, 1)
    dsimp only at e1 e2
    rw [e1, e2] at S l
    have hG2 : ∀ e ∈ L ++ [((2, 1) : Int × Int)], GoodE t e := fun e he => by
      rcases List.mem_append.mp he with h | h
      · exact hG e h
      · rw [List.mem_singleton.mp h]
        exact ⟨b40_of (z := 2) (by decide) (by decide), b40_of (z := 1) (by decide) (by decide), .inr (by omega)⟩
    have hL2 : (L ++ [((2, 1) : Int × Int)]).length ≤ 7 := by rw [List.length_append]; show _ + 1 ≤ _; omega
    generalize L ++ [((2, 1) : Int × Int)] = L2 at *
    have hok2 := worth_ok L2 hs.b hm.b ht.b ok01 hG2
    have hbd2 := lsum_bd L2 hs.b hm.b ht.b bd01 hG2
    have hcr2 := worth_cross L2 hs.b hm.b ht.b ok01 bd01 hG2 rfl
    refine q_two S l (d1 := .int (lsumF sz m t (0, 1) L2).1) (d2 := .int (lsumF sz m t (0, 1) L2).2) (EvR.still _ (ev_call0 (R := R_lsum) (X := noX) (av_cons (ev_ixL (d := .list (iD (L2.map Prod.fst))) (ev_var rfl) ev_int rfl rfl) (av_cons (ev_ixL (d := .list (iD (L2.map Prod.snd))) (ev_var rfl) ev_int rfl rfl) (av_cons (ev_var rfl) (av_cons (ev_var rfl) (av_cons (ev_var rfl) av_nil))))) rfl ⟨L2, sz, m, t, rfl, by omega, hs.b, hm.b, ht.b, hG2, rfl⟩) fz11 rfl) rfl (Nat.le_of_ble_eq_true rfl) (Nat.le_of_ble_eq_true rfl) fun σ' F' H' S l => ?_
    refine q_when S l (b := false) (TvR.still _ (.to (tv_not (tv_B (ev_call0 (r := .dt (.bool true)) (av_cons (hw (by omega) hG2) (av_cons (ev_var rfl) (av_cons (ev_var rfl) av_nil))) rfl ⟨worthF sz m t (0, 1) L2, _, _, _, rfl, hok2, by omega, lt_mid hbd2.u (by omega), lt_mid hbd2.d (by omega), hcr2, rfl⟩))) rfl) fz11) (fun hb => nomatch hb) (fun hb F' H' S => ?_)
    have S3 : Sts K _ _ _ _ _ _ ([.dt (.list (iD ns)), .no, .no, .no, .no, .no, .no, .no, .no, .no, .no] ++ []) := S.wk2 (.same rfl (.no (.no (.no (.no (.no (.no (.no (.no (.no (.no .nil)))))))))))
    have l3 : List.length _ = List.length [Sl.dt (.list (iD ns)), .no, .no, .no, .no, .no, .no, .no, .no, .no, .no] := l
    refine st_ret S3 l3 (.toD (ev_all (bs := [true, true, true]) (ra := .ls [.bool true, .bool true, .bool true]) (ev_lcR1 (m := 3) (fun _ => some (.bool true)) (av_cons ev_int av_nil) rfl rfl (Nat.le_of_ble_eq_true rfl) (by decide) fun k hk => ⟨_, gt_name (Nat.le_of_ble_eq_true rfl), tv_yes, fun _ => ?_⟩) rfl) rfl) rfl q
    exact ev_call0 (r := .dt (.bool true)) (av_cons (ev_var rfl) (av_cons (ev_call0 (r := .dt (.int (number ns (20 + (k : Int))))) (av_cons (ev_var rfl) (av_cons (ev_ii ev_int (ev_var rfl)) av_nil)) rfl ⟨ns, 20 + (k : Int), rfl, by omega, by omega, rfl⟩) av_nil)) rfl ⟨(k : Int), number ns (20 + (k : Int)), rfl, by omega, by omega, rfl⟩
  · exact h.elim

end
theorem all_mk {l : PySem.W.OpenLaw} {w : World} {K : PySem.W.Frag} {h : Heap} {mg : Str → Option Value} {fa : Addr} (X : K.In h) (G : h.Ns mainGlobals mg) (hfa : mg "law" = some (.ref fa))
    {CN CH CT : Addr}
    (z_ValueError : PySem.W.nsIn K mainGlobals "ValueError" = some none)
    (z_abs : PySem.W.nsIn K mainGlobals "abs" = some none)
    (z_all : PySem.W.nsIn K mainGlobals "all" = some none)
    (z_bool : PySem.W.nsIn K mainGlobals "bool" = some none)
    (z_divmod : PySem.W.nsIn K mainGlobals "divmod" = some none)
    (z_int : PySem.W.nsIn K mainGlobals "int" = some none)
    (z_isinstance : PySem.W.nsIn K mainGlobals "isinstance" = some none)
    (z_len : PySem.W.nsIn K mainGlobals "len" = some none)
    (z_list : PySem.W.nsIn K mainGlobals "list" = some none)
    (z_min : PySem.W.nsIn K mainGlobals "min" = some none)
    (z_range : PySem.W.nsIn K mainGlobals "range" = some none)
    (z_tuple : PySem.W.nsIn K mainGlobals "tuple" = some none)
    (z_zip : PySem.W.nsIn K mainGlobals "zip" = some none)
    (z_c_BadNumber : PySem.W.nsIn K mainGlobals "BadNumber" = some (some (.ref CN)))
    (z_k_BadNumber : PySem.W.keepIn K (.ref CN) = true)
    (z_x_BadNumber : PySem.W.excIn K CN [.type "ValueError", .type "Exception", .type "BaseException", .type "object"] "ValueError.__new__" = true)
    (z_b_BadNumber : PySem.W.subIn K (.ref CN) (.type "BaseException") = some true)
    (z_t_BadNumber : PySem.W.typeIn K (.ref CN) = some (.type "type"))
    (z_c_HallError : PySem.W.nsIn K mainGlobals "HallError" = some (some (.ref CH)))
    (z_c_BadText : PySem.W.nsIn K mainGlobals "BadText" = some (some (.ref CT)))
    (z_e_BadNumber : ExcC K CN)
    (z_m_BadNumber_HallError : PySem.W.exmOne K (.ref CN) (.ref CH) = some true)
    (z_i_BadNumber_BadText : PySem.W.kitOne K (.ref CN) (.ref CT) = some false)
    (z_i_BadNumber_ValueError : PySem.W.kitOne K (.ref CN) (.type "ValueError") = some true)
    (z_i_BadNumber_BadNumber : PySem.W.kitOne K (.ref CN) (.ref CN) = some true)
    {f_0 : Addr} {oc_0 kV_0 dc_0 pm_0 cd_0 ct_0 : Value} {od_0 an_0 : Option Addr} {sl_0 : Array (Option Value)}
    (a_0 : PySem.W.nsIn K mainGlobals "is_whole" = some (some (.ref f_0))) (l_0 : K.lookup f_0 = some ⟨oc_0, od_0, .func (PySem.W.fnOf "is_whole" "is_whole" (defArgs s_is_whole) (defBody s_is_whole) (defScope s_is_whole) .none kV_0 dc_0 pm_0 an_0 cd_0 ct_0), sl_0⟩) (c_0 : PySem.W.codeIn K cd_0 "is_whole" = true) (k_0 : PySem.W.keepIn K (.ref f_0) = true)
    {f_1 : Addr} {oc_1 kV_1 dc_1 pm_1 cd_1 ct_1 : Value} {od_1 an_1 : Option Addr} {sl_1 : Array (Option Value)}
    (a_1 : PySem.W.nsIn K mainGlobals "_law_mixed" = some (some (.ref f_1))) (l_1 : K.lookup f_1 = some ⟨oc_1, od_1, .func (PySem.W.fnOf "_law_mixed" "_law_mixed" (defArgs s__law_mixed) (defBody s__law_mixed) (defScope s__law_mixed) .none kV_1 dc_1 pm_1 an_1 cd_1 ct_1), sl_1⟩) (c_1 : PySem.W.codeIn K cd_1 "_law_mixed" = true) (k_1 : PySem.W.keepIn K (.ref f_1) = true)
    {f_2 : Addr} {oc_2 kV_2 dc_2 pm_2 cd_2 ct_2 : Value} {od_2 an_2 : Option Addr} {sl_2 : Array (Option Value)}
    (a_2 : PySem.W.nsIn K mainGlobals "_law_number" = some (some (.ref f_2))) (l_2 : K.lookup f_2 = some ⟨oc_2, od_2, .func (PySem.W.fnOf "_law_number" "_law_number" (defArgs s__law_number) (defBody s__law_number) (defScope s__law_number) .none kV_2 dc_2 pm_2 an_2 cd_2 ct_2), sl_2⟩) (c_2 : PySem.W.codeIn K cd_2 "_law_number" = true) (k_2 : PySem.W.keepIn K (.ref f_2) = true)
    {f_3 : Addr} {oc_3 kV_3 dc_3 pm_3 cd_3 ct_3 : Value} {od_3 an_3 : Option Addr} {sl_3 : Array (Option Value)}
    (a_3 : PySem.W.nsIn K mainGlobals "common" = some (some (.ref f_3))) (l_3 : K.lookup f_3 = some ⟨oc_3, od_3, .func (PySem.W.fnOf "common" "common" (defArgs s_common) (defBody s_common) (defScope s_common) .none kV_3 dc_3 pm_3 an_3 cd_3 ct_3), sl_3⟩) (c_3 : PySem.W.codeIn K cd_3 "common" = true) (k_3 : PySem.W.keepIn K (.ref f_3) = true)
    {f_4 : Addr} {oc_4 kV_4 dc_4 pm_4 cd_4 ct_4 : Value} {od_4 an_4 : Option Addr} {sl_4 : Array (Option Value)} {T_4 : Addr}
    (a_4 : PySem.W.nsIn K mainGlobals "need_number" = some (some (.ref f_4))) (l_4 : K.lookup f_4 = some ⟨oc_4, od_4, .func (PySem.W.fnOf "need_number" "need_number" (defArgs s_need_number) (defBody s_need_number) (defScope s_need_number) (.ref T_4) kV_4 dc_4 pm_4 an_4 cd_4 ct_4), sl_4⟩) (c_4 : PySem.W.codeIn K cd_4 "need_number" = true) (k_4 : PySem.W.keepIn K (.ref f_4) = true)
    (v_4 : DflV K (.ref T_4) [.non])
    {f_5 : Addr} {oc_5 kV_5 dc_5 pm_5 cd_5 ct_5 : Value} {od_5 an_5 : Option Addr} {sl_5 : Array (Option Value)} {T_5 : Addr}
    (a_5 : PySem.W.nsIn K mainGlobals "fraction" = some (some (.ref f_5))) (l_5 : K.lookup f_5 = some ⟨oc_5, od_5, .func (PySem.W.fnOf "fraction" "fraction" (defArgs s_fraction) (defBody s_fraction) (defScope s_fraction) (.ref T_5) kV_5 dc_5 pm_5 an_5 cd_5 ct_5), sl_5⟩) (c_5 : PySem.W.codeIn K cd_5 "fraction" = true) (k_5 : PySem.W.keepIn K (.ref f_5) = true)
    (v_5 : DflV K (.ref T_5) [.int 1])
    {f_6 : Addr} {oc_6 kV_6 dc_6 pm_6 cd_6 ct_6 : Value} {od_6 an_6 : Option Addr} {sl_6 : Array (Option Value)}
    (a_6 : PySem.W.nsIn K mainGlobals "sum_of" = some (some (.ref f_6))) (l_6 : K.lookup f_6 = some ⟨oc_6, od_6, .func (PySem.W.fnOf "sum_of" "sum_of" (defArgs s_sum_of) (defBody s_sum_of) (defScope s_sum_of) .none kV_6 dc_6 pm_6 an_6 cd_6 ct_6), sl_6⟩) (c_6 : PySem.W.codeIn K cd_6 "sum_of" = true) (k_6 : PySem.W.keepIn K (.ref f_6) = true)
    {f_7 : Addr} {oc_7 kV_7 dc_7 pm_7 cd_7 ct_7 : Value} {od_7 an_7 : Option Addr} {sl_7 : Array (Option Value)}
    (a_7 : PySem.W.nsIn K mainGlobals "product_of" = some (some (.ref f_7))) (l_7 : K.lookup f_7 = some ⟨oc_7, od_7, .func (PySem.W.fnOf "product_of" "product_of" (defArgs s_product_of) (defBody s_product_of) (defScope s_product_of) .none kV_7 dc_7 pm_7 an_7 cd_7 ct_7), sl_7⟩) (c_7 : PySem.W.codeIn K cd_7 "product_of" = true) (k_7 : PySem.W.keepIn K (.ref f_7) = true)
    {f_8 : Addr} {oc_8 kV_8 dc_8 pm_8 cd_8 ct_8 : Value} {od_8 an_8 : Option Addr} {sl_8 : Array (Option Value)}
    (a_8 : PySem.W.nsIn K mainGlobals "_law_common" = some (some (.ref f_8))) (l_8 : K.lookup f_8 = some ⟨oc_8, od_8, .func (PySem.W.fnOf "_law_common" "_law_common" (defArgs s__law_common) (defBody s__law_common) (defScope s__law_common) .none kV_8 dc_8 pm_8 an_8 cd_8 ct_8), sl_8⟩) (c_8 : PySem.W.codeIn K cd_8 "_law_common" = true) (k_8 : PySem.W.keepIn K (.ref f_8) = true)
    {f_9 : Addr} {oc_9 kV_9 dc_9 pm_9 cd_9 ct_9 : Value} {od_9 an_9 : Option Addr} {sl_9 : Array (Option Value)}
    (a_9 : PySem.W.nsIn K mainGlobals "share_of" = some (some (.ref f_9))) (l_9 : K.lookup f_9 = some ⟨oc_9, od_9, .func (PySem.W.fnOf "share_of" "share_of" (defArgs s_share_of) (defBody s_share_of) (defScope s_share_of) .none kV_9 dc_9 pm_9 an_9 cd_9 ct_9), sl_9⟩) (c_9 : PySem.W.codeIn K cd_9 "share_of" = true) (k_9 : PySem.W.keepIn K (.ref f_9) = true)
    {f_10 : Addr} {oc_10 kV_10 dc_10 pm_10 cd_10 ct_10 : Value} {od_10 an_10 : Option Addr} {sl_10 : Array (Option Value)}
    (a_10 : PySem.W.nsIn K mainGlobals "rarity_of" = some (some (.ref f_10))) (l_10 : K.lookup f_10 = some ⟨oc_10, od_10, .func (PySem.W.fnOf "rarity_of" "rarity_of" (defArgs s_rarity_of) (defBody s_rarity_of) (defScope s_rarity_of) .none kV_10 dc_10 pm_10 an_10 cd_10 ct_10), sl_10⟩) (c_10 : PySem.W.codeIn K cd_10 "rarity_of" = true) (k_10 : PySem.W.keepIn K (.ref f_10) = true)
    {f_11 : Addr} {oc_11 kV_11 dc_11 pm_11 cd_11 ct_11 : Value} {od_11 an_11 : Option Addr} {sl_11 : Array (Option Value)}
    (a_11 : PySem.W.nsIn K mainGlobals "worth_of" = some (some (.ref f_11))) (l_11 : K.lookup f_11 = some ⟨oc_11, od_11, .func (PySem.W.fnOf "worth_of" "worth_of" (defArgs s_worth_of) (defBody s_worth_of) (defScope s_worth_of) .none kV_11 dc_11 pm_11 an_11 cd_11 ct_11), sl_11⟩) (c_11 : PySem.W.codeIn K cd_11 "worth_of" = true) (k_11 : PySem.W.keepIn K (.ref f_11) = true)
    {f_12 : Addr} {oc_12 kV_12 dc_12 pm_12 cd_12 ct_12 : Value} {od_12 an_12 : Option Addr} {sl_12 : Array (Option Value)}
    (a_12 : PySem.W.nsIn K mainGlobals "_law_is" = some (some (.ref f_12))) (l_12 : K.lookup f_12 = some ⟨oc_12, od_12, .func (PySem.W.fnOf "_law_is" "_law_is" (defArgs s__law_is) (defBody s__law_is) (defScope s__law_is) .none kV_12 dc_12 pm_12 an_12 cd_12 ct_12), sl_12⟩) (c_12 : PySem.W.codeIn K cd_12 "_law_is" = true) (k_12 : PySem.W.keepIn K (.ref f_12) = true)
    {f_13 : Addr} {oc_13 kV_13 dc_13 pm_13 cd_13 ct_13 : Value} {od_13 an_13 : Option Addr} {sl_13 : Array (Option Value)}
    (a_13 : PySem.W.nsIn K mainGlobals "_law_great" = some (some (.ref f_13))) (l_13 : K.lookup f_13 = some ⟨oc_13, od_13, .func (PySem.W.fnOf "_law_great" "_law_great" (defArgs s__law_great) (defBody s__law_great) (defScope s__law_great) .none kV_13 dc_13 pm_13 an_13 cd_13 ct_13), sl_13⟩) (c_13 : PySem.W.codeIn K cd_13 "_law_great" = true) (k_13 : PySem.W.keepIn K (.ref f_13) = true)
    {f_14 : Addr} {oc_14 kV_14 dc_14 pm_14 cd_14 ct_14 : Value} {od_14 an_14 : Option Addr} {sl_14 : Array (Option Value)}
    (a_14 : PySem.W.nsIn K mainGlobals "_law_made" = some (some (.ref f_14))) (l_14 : K.lookup f_14 = some ⟨oc_14, od_14, .func (PySem.W.fnOf "_law_made" "_law_made" (defArgs s__law_made) (defBody s__law_made) (defScope s__law_made) .none kV_14 dc_14 pm_14 an_14 cd_14 ct_14), sl_14⟩) (c_14 : PySem.W.codeIn K cd_14 "_law_made" = true) (k_14 : PySem.W.keepIn K (.ref f_14) = true)
    {f_15 : Addr} {oc_15 kV_15 dc_15 pm_15 cd_15 ct_15 : Value} {od_15 an_15 : Option Addr} {sl_15 : Array (Option Value)}
    (a_15 : PySem.W.nsIn K mainGlobals "_law_share" = some (some (.ref f_15))) (l_15 : K.lookup f_15 = some ⟨oc_15, od_15, .func (PySem.W.fnOf "_law_share" "_law_share" (defArgs s__law_share) (defBody s__law_share) (defScope s__law_share) .none kV_15 dc_15 pm_15 an_15 cd_15 ct_15), sl_15⟩) (c_15 : PySem.W.codeIn K cd_15 "_law_share" = true) (k_15 : PySem.W.keepIn K (.ref f_15) = true)
    {f_16 : Addr} {oc_16 kV_16 dc_16 pm_16 cd_16 ct_16 : Value} {od_16 an_16 : Option Addr} {sl_16 : Array (Option Value)}
    (a_16 : PySem.W.nsIn K mainGlobals "_law_sum" = some (some (.ref f_16))) (l_16 : K.lookup f_16 = some ⟨oc_16, od_16, .func (PySem.W.fnOf "_law_sum" "_law_sum" (defArgs s__law_sum) (defBody s__law_sum) (defScope s__law_sum) .none kV_16 dc_16 pm_16 an_16 cd_16 ct_16), sl_16⟩) (c_16 : PySem.W.codeIn K cd_16 "_law_sum" = true) (k_16 : PySem.W.keepIn K (.ref f_16) = true)
    {f_17 : Addr} {oc_17 kV_17 dc_17 pm_17 cd_17 ct_17 : Value} {od_17 an_17 : Option Addr} {sl_17 : Array (Option Value)}
    (a_17 : PySem.W.nsIn K mainGlobals "_law_shares_right" = some (some (.ref f_17))) (l_17 : K.lookup f_17 = some ⟨oc_17, od_17, .func (PySem.W.fnOf "_law_shares_right" "_law_shares_right" (defArgs s__law_shares_right) (defBody s__law_shares_right) (defScope s__law_shares_right) .none kV_17 dc_17 pm_17 an_17 cd_17 ct_17), sl_17⟩) (c_17 : PySem.W.codeIn K cd_17 "_law_shares_right" = true) (k_17 : PySem.W.keepIn K (.ref f_17) = true)
    {f_18 : Addr} {oc_18 kV_18 dc_18 pm_18 cd_18 ct_18 : Value} {od_18 an_18 : Option Addr} {sl_18 : Array (Option Value)}
    (a_18 : PySem.W.nsIn K mainGlobals "_law_noughts_right" = some (some (.ref f_18))) (l_18 : K.lookup f_18 = some ⟨oc_18, od_18, .func (PySem.W.fnOf "_law_noughts_right" "_law_noughts_right" (defArgs s__law_noughts_right) (defBody s__law_noughts_right) (defScope s__law_noughts_right) .none kV_18 dc_18 pm_18 an_18 cd_18 ct_18), sl_18⟩) (c_18 : PySem.W.codeIn K cd_18 "_law_noughts_right" = true) (k_18 : PySem.W.keepIn K (.ref f_18) = true)
    {f_19 : Addr} {oc_19 kV_19 dc_19 pm_19 cd_19 ct_19 : Value} {od_19 an_19 : Option Addr} {sl_19 : Array (Option Value)}
    (a_19 : PySem.W.nsIn K mainGlobals "_law_refused" = some (some (.ref f_19))) (l_19 : K.lookup f_19 = some ⟨oc_19, od_19, .func (PySem.W.fnOf "_law_refused" "_law_refused" (defArgs s__law_refused) (defBody s__law_refused) (defScope s__law_refused) .none kV_19 dc_19 pm_19 an_19 cd_19 ct_19), sl_19⟩) (c_19 : PySem.W.codeIn K cd_19 "_law_refused" = true) (k_19 : PySem.W.keepIn K (.ref f_19) = true)
    {f_20 : Addr} {oc_20 kV_20 dc_20 pm_20 cd_20 ct_20 : Value} {od_20 an_20 : Option Addr} {sl_20 : Array (Option Value)}
    (a_20 : PySem.W.nsIn K mainGlobals "law" = some (some (.ref f_20))) (l_20 : K.lookup f_20 = some ⟨oc_20, od_20, .func (PySem.W.fnOf "law" "law" (defArgs s_law) (defBody s_law) (defScope s_law) .none kV_20 dc_20 pm_20 an_20 cd_20 ct_20), sl_20⟩) (c_20 : PySem.W.codeIn K cd_20 "law" = true) (k_20 : PySem.W.keepIn K (.ref f_20) = true)
    : ∃ fd : FuncData, (∀ (s : Shared) (v : Value), BindsTo s fd ⟨[v], []⟩ [("_law_script", v)]) ∧ ∀ base : Heap, K.In base → base.Ns mainGlobals mg → FnOk l.prog w K mg base (L2.CX l.prog w) 7 fa fd ["_law_script"] (spF K R_law noX) := by
  have e := hfa.symm.trans (PySem.W.mg_of X G a_20)
  cases e
  have T : Txt K mg CN CH CT := ⟨PySem.W.mg_none_of X G z_ValueError, PySem.W.mg_none_of X G z_abs, PySem.W.mg_none_of X G z_all, PySem.W.mg_none_of X G z_bool, PySem.W.mg_none_of X G z_divmod, PySem.W.mg_none_of X G z_int, PySem.W.mg_none_of X G z_isinstance, PySem.W.mg_none_of X G z_len, PySem.W.mg_none_of X G z_list, PySem.W.mg_none_of X G z_min, PySem.W.mg_none_of X G z_range, PySem.W.mg_none_of X G z_tuple, PySem.W.mg_none_of X G z_zip, PySem.W.mg_of X G z_c_BadNumber, z_k_BadNumber, z_x_BadNumber, z_b_BadNumber, z_t_BadNumber, PySem.W.mg_of X G z_c_HallError, PySem.W.mg_of X G z_c_BadText, z_e_BadNumber, z_m_BadNumber_HallError, z_i_BadNumber_BadText, z_i_BadNumber_ValueError, z_i_BadNumber_BadNumber⟩
  have F_0 := fun_mk (st := s_is_whole) l_0 c_0 k_0
  have F_1 := fun_mk (st := s__law_mixed) l_1 c_1 k_1
  have F_2 := fun_mk (st := s__law_number) l_2 c_2 k_2
  have F_3 := fun_mk (st := s_common) l_3 c_3 k_3
  have F_4 : FunD K "need_number" "need_number" (defArgs s_need_number) (defBody s_need_number) (defScope s_need_number) [.non] [] f_4 _ := ⟨⟨_, _, _, _, _, _, _, _, _, _, rfl, l_4, c_4, v_4, .inl rfl⟩, k_4⟩
  have F_5 : FunD K "fraction" "fraction" (defArgs s_fraction) (defBody s_fraction) (defScope s_fraction) [.int 1] [] f_5 _ := ⟨⟨_, _, _, _, _, _, _, _, _, _, rfl, l_5, c_5, v_5, .inl rfl⟩, k_5⟩
  have F_6 := fun_mk (st := s_sum_of) l_6 c_6 k_6
  have F_7 := fun_mk (st := s_product_of) l_7 c_7 k_7
  have F_8 := fun_mk (st := s__law_common) l_8 c_8 k_8
  have F_9 := fun_mk (st := s_share_of) l_9 c_9 k_9
  have F_10 := fun_mk (st := s_rarity_of) l_10 c_10 k_10
  have F_11 := fun_mk (st := s_worth_of) l_11 c_11 k_11
  have F_12 := fun_mk (st := s__law_is) l_12 c_12 k_12
  have F_13 := fun_mk (st := s__law_great) l_13 c_13 k_13
  have F_14 := fun_mk (st := s__law_made) l_14 c_14 k_14
  have F_15 := fun_mk (st := s__law_share) l_15 c_15 k_15
  have F_16 := fun_mk (st := s__law_sum) l_16 c_16 k_16
  have F_17 := fun_mk (st := s__law_shares_right) l_17 c_17 k_17
  have F_18 := fun_mk (st := s__law_noughts_right) l_18 c_18 k_18
  have F_19 := fun_mk (st := s__law_refused) l_19 c_19 k_19
  have F_20 := fun_mk (st := s_law) l_20 c_20 k_20
  refine ⟨PySem.W.fnOf "law" "law" (defArgs s_law) (defBody s_law) (defScope s_law) .none kV_20 dc_20 pm_20 an_20 cd_20 ct_20, fun s v => .of_eq rfl, fun base _ _ => ?_⟩
  have O_0 := ok_is_whole (P := l.prog) (w := w) (base := base) F_0 T
  have d_is_whole : DefOk l.prog w K mg base 1 "is_whole" ["thing"] (spF K R_is_whole noX) [] := ⟨f_0, _, [], O_0, PySem.W.mg_of X G a_0, k_0, F_0.binds (ps := ["thing"]) fun _ _ _ _ _ _ us hl => match us, hl with | [_], _ => rfl, .nil⟩
  have O_1 := ok_mixed (P := l.prog) (w := w) (base := base) F_1 T
  have d__law_mixed : DefOk l.prog w K mg base 1 "_law_mixed" ["_law_number_here", "_law_k"] (spF K R_mixed noX) [] := ⟨f_1, _, [], O_1, PySem.W.mg_of X G a_1, k_1, F_1.binds (ps := ["_law_number_here", "_law_k"]) fun _ _ _ _ _ _ us hl => match us, hl with | [_, _], _ => rfl, .nil⟩
  have O_2 := ok_number (P := l.prog) (w := w) (base := base) F_2 T d__law_mixed
  have d__law_number : DefOk l.prog w K mg base 2 "_law_number" ["_law_script", "_law_k"] (spF K R_number noX) [] := ⟨f_2, _, [], O_2, PySem.W.mg_of X G a_2, k_2, F_2.binds (ps := ["_law_script", "_law_k"]) fun _ _ _ _ _ _ us hl => match us, hl with | [_, _], _ => rfl, .nil⟩
  have O_3 := ok_common (P := l.prog) (w := w) (base := base) F_3 T
  have d_common : DefOk l.prog w K mg base 1 "common" ["one", "other"] (spF K R_common noX) [] := ⟨f_3, _, [], O_3, PySem.W.mg_of X G a_3, k_3, F_3.binds (ps := ["one", "other"]) fun _ _ _ _ _ _ us hl => match us, hl with | [_, _], _ => rfl, .nil⟩
  have O_4 := ok_need_number (P := l.prog) (w := w) (base := base) F_4 T d_is_whole
  have d_need_number_2 : DefOk l.prog w K mg base 2 "need_number" ["thing", "least", "most"] (spF K R_need (X_need CN)) [.non] := by
    obtain ⟨ds, r, b⟩ := F_4.binds1 (ps := ["thing", "least", "most"]) 2 0 nofun rfl (fun T kV doc pm an cdv ct us its hu hi => match us, its, hu, hi with | [_, _], [_], _, _ => ⟨_, rfl, rfl⟩)
    exact ⟨f_4, _, ds, O_4, PySem.W.mg_of X G a_4, k_4, b, r⟩
  have O_5 := ok_fraction (P := l.prog) (w := w) (base := base) F_5 T d_is_whole d_need_number_2 d_common
  have d_fraction : DefOk l.prog w K mg base 3 "fraction" ["above", "below"] (spF K R_fraction (X_fraction CN)) [] := by
    obtain ⟨ds, r, b⟩ := F_5.binds1 (ps := ["above", "below"]) 2 1 nofun rfl (fun T kV doc pm an cdv ct us its hu hi => match us, its, hu, hi with | [_, _], [_], _, _ => ⟨_, rfl, rfl⟩)
    exact ⟨f_5, _, ds, O_5, PySem.W.mg_of X G a_5, k_5, b, r⟩
  have O_6 := ok_sum_of (P := l.prog) (w := w) (base := base) F_6 T d_fraction
  have d_sum_of : DefOk l.prog w K mg base 4 "sum_of" ["one", "other"] (spF K R_sum noX) [] := ⟨f_6, _, [], O_6, PySem.W.mg_of X G a_6, k_6, F_6.binds (ps := ["one", "other"]) fun _ _ _ _ _ _ us hl => match us, hl with | [_, _], _ => rfl, .nil⟩
  have O_7 := ok_product_of (P := l.prog) (w := w) (base := base) F_7 T d_fraction
  have d_product_of : DefOk l.prog w K mg base 4 "product_of" ["one", "other"] (spF K R_prod noX) [] := ⟨f_7, _, [], O_7, PySem.W.mg_of X G a_7, k_7, F_7.binds (ps := ["one", "other"]) fun _ _ _ _ _ _ us hl => match us, hl with | [_, _], _ => rfl, .nil⟩
  have O_8 := ok__law_common (P := l.prog) (w := w) (base := base) F_8 T
  have d__law_common : DefOk l.prog w K mg base 1 "_law_common" ["_law_one", "_law_other"] (spF K R_common noX) [] := ⟨f_8, _, [], O_8, PySem.W.mg_of X G a_8, k_8, F_8.binds (ps := ["_law_one", "_law_other"]) fun _ _ _ _ _ _ us hl => match us, hl with | [_, _], _ => rfl, .nil⟩
  have O_9 := ok_share_of (P := l.prog) (w := w) (base := base) F_9 T d_need_number_2 d_fraction
  have d_share_of : DefOk l.prog w K mg base 4 "share_of" ["count", "size", "many", "total"] (spF K R_share (X_share CN)) [] := ⟨f_9, _, [], O_9, PySem.W.mg_of X G a_9, k_9, F_9.binds (ps := ["count", "size", "many", "total"]) fun _ _ _ _ _ _ us hl => match us, hl with | [_, _, _, _], _ => rfl, .nil⟩
  have O_10 := ok_rarity_of (P := l.prog) (w := w) (base := base) F_10 T d_need_number_2 d_fraction
  have d_rarity_of : DefOk l.prog w K mg base 4 "rarity_of" ["many", "found"] (spF K R_rar (X_rar CN)) [] := ⟨f_10, _, [], O_10, PySem.W.mg_of X G a_10, k_10, F_10.binds (ps := ["many", "found"]) fun _ _ _ _ _ _ us hl => match us, hl with | [_, _], _ => rfl, .nil⟩
  have O_11 := ok_worth_of (P := l.prog) (w := w) (base := base) F_11 T d_need_number_2 d_sum_of d_product_of d_rarity_of d_share_of
  have d_worth_of : DefOk l.prog w K mg base 5 "worth_of" ["counts", "founds", "size", "many", "total"] (spF K R_worth (X_worth CN)) [] := ⟨f_11, _, [], O_11, PySem.W.mg_of X G a_11, k_11, F_11.binds (ps := ["counts", "founds", "size", "many", "total"]) fun _ _ _ _ _ _ us hl => match us, hl with | [_, _, _, _, _], _ => rfl, .nil⟩
  have O_12 := ok__law_is (P := l.prog) (w := w) (base := base) F_12 T d__law_common
  have d__law_is : DefOk l.prog w K mg base 2 "_law_is" ["_law_found", "_law_above", "_law_below"] (spF K R_is noX) [] := ⟨f_12, _, [], O_12, PySem.W.mg_of X G a_12, k_12, F_12.binds (ps := ["_law_found", "_law_above", "_law_below"]) fun _ _ _ _ _ _ us hl => match us, hl with | [_, _, _], _ => rfl, .nil⟩
  have O_13 := ok__law_great (P := l.prog) (w := w) (base := base) F_13 T
  have d__law_great : DefOk l.prog w K mg base 1 "_law_great" ["_law_number_here", "_law_least"] (spF K R_great noX) [] := ⟨f_13, _, [], O_13, PySem.W.mg_of X G a_13, k_13, F_13.binds (ps := ["_law_number_here", "_law_least"]) fun _ _ _ _ _ _ us hl => match us, hl with | [_, _], _ => rfl, .nil⟩
  have O_14 := ok__law_made (P := l.prog) (w := w) (base := base) F_14 T d__law_great d__law_number
  have d__law_made : DefOk l.prog w K mg base 3 "_law_made" ["_law_script"] (spF K R_made noX) [] := ⟨f_14, _, [], O_14, PySem.W.mg_of X G a_14, k_14, F_14.binds (ps := ["_law_script"]) fun _ _ _ _ _ _ us hl => match us, hl with | [_], _ => rfl, .nil⟩
  have O_15 := ok__law_share (P := l.prog) (w := w) (base := base) F_15 T
  have d__law_share : DefOk l.prog w K mg base 1 "_law_share" ["_law_count", "_law_size", "_law_many", "_law_total"] (spF K R_lshare noX) [] := ⟨f_15, _, [], O_15, PySem.W.mg_of X G a_15, k_15, F_15.binds (ps := ["_law_count", "_law_size", "_law_many", "_law_total"]) fun _ _ _ _ _ _ us hl => match us, hl with | [_, _, _, _], _ => rfl, .nil⟩
  have O_16 := ok__law_sum (P := l.prog) (w := w) (base := base) F_16 T d__law_share
  have d__law_sum : DefOk l.prog w K mg base 2 "_law_sum" ["_law_counts", "_law_founds", "_law_size", "_law_many", "_law_total"] (spF K R_lsum noX) [] := ⟨f_16, _, [], O_16, PySem.W.mg_of X G a_16, k_16, F_16.binds (ps := ["_law_counts", "_law_founds", "_law_size", "_law_many", "_law_total"]) fun _ _ _ _ _ _ us hl => match us, hl with | [_, _, _, _, _], _ => rfl, .nil⟩
  have O_17 := ok__law_shares_right (P := l.prog) (w := w) (base := base) F_17 T d__law_share d_share_of d__law_is d_rarity_of
  have d__law_shares_right : DefOk l.prog w K mg base 5 "_law_shares_right" ["_law_counts", "_law_founds", "_law_size", "_law_many", "_law_total"] (spF K R_sright noX) [] := ⟨f_17, _, [], O_17, PySem.W.mg_of X G a_17, k_17, F_17.binds (ps := ["_law_counts", "_law_founds", "_law_size", "_law_many", "_law_total"]) fun _ _ _ _ _ _ us hl => match us, hl with | [_, _, _, _, _], _ => rfl, .nil⟩
  have O_18 := ok__law_noughts_right (P := l.prog) (w := w) (base := base) F_18 T d__law_number d_worth_of d_share_of d__law_is d_rarity_of
  have d__law_noughts_right : DefOk l.prog w K mg base 6 "_law_noughts_right" ["_law_script"] (spF K R_noughts noX) [] := ⟨f_18, _, [], O_18, PySem.W.mg_of X G a_18, k_18, F_18.binds (ps := ["_law_script"]) fun _ _ _ _ _ _ us hl => match us, hl with | [_], _ => rfl, .nil⟩
  have O_19 := ok__law_refused (P := l.prog) (w := w) (base := base) F_19 T d_share_of d_rarity_of d_worth_of
  have d__law_refused : DefOk l.prog w K mg base 6 "_law_refused" ["_law_way", "_law_number_here"] (spF K R_refused noX) [] := ⟨f_19, _, [], O_19, PySem.W.mg_of X G a_19, k_19, F_19.binds (ps := ["_law_way", "_law_number_here"]) fun _ _ _ _ _ _ us hl => match us, hl with | [_, _], _ => rfl, .nil⟩
  exact ok_law F_20 T d__law_made d__law_noughts_right d__law_shares_right d__law_sum d_worth_of d__law_is d__law_refused d__law_number
theorem walk {l : PySem.W.OpenLaw} {q : Program} {loose : List Str} {XP : (Str → Option Value) → Heap → Prop} {YP : World → Heap → Prop} {d : DefRec} {K : Params → PySem.W.Frag} (hn : l.most = some 63) (hdf : d.params.defaults = [])
    (hY : ∀ (w : World) (h : Heap), YP w h → (K w.params).In h)
    (F : ∀ (w : World) (mg : Str → Option Value) (fa : Addr) (h : Heap), (K w.params).In h → h.Ns mainGlobals mg → mg d.name = some (.ref fa) →
      ∃ fd : FuncData, (∀ (s : Shared) (u : Value), BindsTo s fd ⟨[u], []⟩ [("_law_script", u)]) ∧ ∀ base : Heap, (K w.params).In base → base.Ns mainGlobals mg → FnOk l.prog w (K w.params) mg base (L2.CX l.prog w) 7 fa fd ["_law_script"] (spF (K w.params) R_law noX)) :
    PySem.W.WalkO q loose XP YP l.row.toRowW d [] (fun f vs => PySem.call f vs) :=
  L2.walk_of (n := 63) (k := 7) (x := "_law_script") (CX := fun w => L2.CX l.prog w) (sp := fun w => spF (K w.params) R_law noX) hn (by decide) hdf ⟨rfl, by decide, by decide⟩ hY F (fun w H a ns hl _ hS => ⟨H, [.list (iD ns)], Ex.refl H, .cons (.lst hS ints_dp) .nil, .inl ⟨_, ⟨ns, rfl, hl, rfl⟩, law_ret (Ex.refl H)⟩⟩) fun w H s e s1 c => cx_none c
end K19
open PySem PySem.W PyProof.Rows L2 Fh
set_option maxRecDepth 100000 in
set_option maxHeartbeats 0 in
theorem PySem.Challenge.cw_findhall_k19_shares_and_worths_holds : PySem.Challenge.rw_findhall_k19_shares_and_worths.Holds := by
  w_on; o_law; k_head; (case hw => w_witness2)
  k_fill
  refine K19.walk (l := PySem.Challenge.rw_findhall_k19_shares_and_worths) rfl rfl (fun w h Y => PySem.W.kIn_of Y) ?F
  case F =>
    intro w mg fa h KX G hmg
    refine' K19.all_mk KX G hmg ?z_ValueError ?z_abs ?z_all ?z_bool ?z_divmod ?z_int ?z_isinstance ?z_len ?z_list ?z_min ?z_range ?z_tuple ?z_zip ?z_c_BadNumber ?z_k_BadNumber ?z_x_BadNumber ?z_b_BadNumber ?z_t_BadNumber ?z_c_HallError ?z_c_BadText ?z_e_BadNumber ?z_m_BadNumber_HallError ?z_i_BadNumber_BadText ?z_i_BadNumber_ValueError ?z_i_BadNumber_BadNumber ?a_0 ?l_0 ?c_0 ?k_0 ?a_1 ?l_1 ?c_1 ?k_1 ?a_2 ?l_2 ?c_2 ?k_2 ?a_3 ?l_3 ?c_3 ?k_3 ?a_4 ?l_4 ?c_4 ?k_4 ?v_4 ?a_5 ?l_5 ?c_5 ?k_5 ?v_5 ?a_6 ?l_6 ?c_6 ?k_6 ?a_7 ?l_7 ?c_7 ?k_7 ?a_8 ?l_8 ?c_8 ?k_8 ?a_9 ?l_9 ?c_9 ?k_9 ?a_10 ?l_10 ?c_10 ?k_10 ?a_11 ?l_11 ?c_11 ?k_11 ?a_12 ?l_12 ?c_12 ?k_12 ?a_13 ?l_13 ?c_13 ?k_13 ?a_14 ?l_14 ?c_14 ?k_14 ?a_15 ?l_15 ?c_15 ?k_15 ?a_16 ?l_16 ?c_16 ?k_16 ?a_17 ?l_17 ?c_17 ?k_17 ?a_18 ?l_18 ?c_18 ?k_18 ?a_19 ?l_19 ?c_19 ?k_19 ?a_20 ?l_20 ?c_20 ?k_20
    (case z_ValueError => k_is)
    (case z_abs => k_is)
    (case z_all => k_is)
    (case z_bool => k_is)
    (case z_divmod => k_is)
    (case z_int => k_is)
    (case z_isinstance => k_is)
    (case z_len => k_is)
    (case z_list => k_is)
    (case z_min => k_is)
    (case z_range => k_is)
    (case z_tuple => k_is)
    (case z_zip => k_is)
    (case z_c_BadNumber => k_is)
    (case z_k_BadNumber => k_is)
    (case z_x_BadNumber => k_exc)
    (case z_b_BadNumber => k_is)
    (case z_t_BadNumber => k_is)
    (case z_c_HallError => k_is)
    (case z_c_BadText => k_is)
    (case z_e_BadNumber => exact ⟨by k_is, by k_is, by k_is, by k_is, by k_is, by k_is, by k_is, by k_is⟩)
    (case z_m_BadNumber_HallError => exact exm_sub (by k_is) (by k_is) (by k_is) (by k_is))
    (case z_i_BadNumber_BadText => exact kit_sub (by decide) (by k_is) (by k_is) (by k_is))
    (case z_i_BadNumber_ValueError => exact kit_typ (by decide +kernel) (by k_is))
    (case z_i_BadNumber_BadNumber => exact kit_self)
    (case a_0 => k_is)
    (case l_0 => k_is)
    (case c_0 => k_is)
    (case k_0 => k_is)
    (case a_1 => k_is)
    (case l_1 => k_is)
    (case c_1 => k_is)
    (case k_1 => k_is)
    (case a_2 => k_is)
    (case l_2 => k_is)
    (case c_2 => k_is)
    (case k_2 => k_is)
    (case a_3 => k_is)
    (case l_3 => k_is)
    (case c_3 => k_is)
    (case k_3 => k_is)
    (case a_4 => k_is)
    (case l_4 => k_is)
    (case c_4 => k_is)
    (case k_4 => k_is)
    (case v_4 => exact .inr ⟨nofun, _, _, _, _, rfl, by k_is, rfl, (.cons rfl .nil)⟩)
    (case a_5 => k_is)
    (case l_5 => k_is)
    (case c_5 => k_is)
    (case k_5 => k_is)
    (case v_5 => exact .inr ⟨nofun, _, _, _, _, rfl, by k_is, rfl, (.cons ⟨_, rfl⟩ .nil)⟩)
    (case a_6 => k_is)
    (case l_6 => k_is)
    (case c_6 => k_is)
    (case k_6 => k_is)
    (case a_7 => k_is)
    (case l_7 => k_is)
    (case c_7 => k_is)
    (case k_7 => k_is)
    (case a_8 => k_is)
    (case l_8 => k_is)
    (case c_8 => k_is)
    (case k_8 => k_is)
    (case a_9 => k_is)
    (case l_9 => k_is)
    (case c_9 => k_is)
    (case k_9 => k_is)
    (case a_10 => k_is)
    (case l_10 => k_is)
    (case c_10 => k_is)
    (case k_10 => k_is)
    (case a_11 => k_is)
    (case l_11 => k_is)
    (case c_11 => k_is)
    (case k_11 => k_is)
    (case a_12 => k_is)
    (case l_12 => k_is)
    (case c_12 => k_is)
    (case k_12 => k_is)
    (case a_13 => k_is)
    (case l_13 => k_is)
    (case c_13 => k_is)
    (case k_13 => k_is)
    (case a_14 => k_is)
    (case l_14 => k_is)
    (case c_14 => k_is)
    (case k_14 => k_is)
    (case a_15 => k_is)
    (case l_15 => k_is)
    (case c_15 => k_is)
    (case k_15 => k_is)
    (case a_16 => k_is)
    (case l_16 => k_is)
    (case c_16 => k_is)
    (case k_16 => k_is)
    (case a_17 => k_is)
    (case l_17 => k_is)
    (case c_17 => k_is)
    (case k_17 => k_is)
    (case a_18 => k_is)
    (case l_18 => k_is)
    (case c_18 => k_is)
    (case k_18 => k_is)
    (case a_19 => k_is)
    (case l_19 => k_is)
    (case c_19 => k_is)
    (case k_19 => k_is)
    (case a_20 => k_is)
    (case l_20 => k_is)
    (case c_20 => k_is)
    (case k_20 => k_is)
