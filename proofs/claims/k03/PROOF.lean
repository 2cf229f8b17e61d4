import PyProof.Rows.All
import Wide.All
import OpenK.AllK
import Wide.FinOn
import HandS.ForMost
import HandS.ForExc
import HandS.IsInst
import HandS.ExcIs
import HandS.Wide
import HandS.WideBits
import HandS.Defaults
import HandS.Evl
import HandS.Flow
import HandS.FStr
import HandS.TryMany
import KE.Datum
import HandS.SortInts
import PySem.Challenge.RW_findhall_k03_order_of_fractions
set_option Elab.async false
set_option linter.all false
set_option maxRecDepth 100000
set_option maxHeartbeats 2000000
namespace Fh
open PySem PySem.Spec PyProof.Rows L2 Evl
open PySem.W (Datum)

/-! ### the heap that stays: F within H -/
structure Gr (F H F' H' : Hp) : Prop where
  ff : Ex F F'
  hh : Ex H H'
  fh : Ex F' H'
  nw : ∀ a, H a ≠ none → F a = none → F' a = none
theorem ne_some {H : Hp} {p q : Addr} {o : HO} (h : H p = some o) (h' : H q = none) : p ≠ q := fun e => by
  rw [e, h'] at h
  cases h
theorem Gr.refl {F H : Hp} (h : Ex F H) : Gr F H F H := ⟨Ex.refl _, Ex.refl _, h, fun _ _ h => h⟩
theorem Gr.of {F H H' : Hp} (h : Ex F H) (h' : Ex H H') : Gr F H F H' := ⟨Ex.refl _, h', h.trans h', fun _ _ h => h⟩
theorem Gr.trans {F H F1 H1 F2 H2 : Hp} (a : Gr F H F1 H1) (b : Gr F1 H1 F2 H2) : Gr F H F2 H2 := ⟨a.ff.trans b.ff, a.hh.trans b.hh, b.fh, fun x h1 h2 => by
  refine b.nw x ?_ (a.nw x h1 h2)
  cases e : H x with
  | none => exact absurd e h1
  | some o =>
    rw [a.hh x o e]
    exact fun z => nomatch z⟩
theorem Gr.newI {F H : Hp} {p : Addr} {o : HO} (h : Ex F H) (hp : H p = none) : Gr F H (upd F p o) (upd H p o) := by
  have fp : F p = none := fresh_back h hp
  refine ⟨Ex.new fp, Ex.new hp, fun a u e => ?_, fun a h1 h2 => ?_⟩
  · by_cases q : a = p
    · rw [q, upd_same] at e ⊢
      exact e
    · rw [upd_ne q] at e ⊢
      exact h a u e
  · have q : a ≠ p := fun q => h1 (q ▸ hp)
    rw [upd_ne q]
    exact h2
theorem Gr.newM {F H : Hp} {p : Addr} {o : HO} (h : Ex F H) (hp : H p = none) : Gr F H F (upd H p o) := Gr.of h (Ex.new hp)
/-- an object made behind the entry changes -/
theorem Gr.mut {F H F' H' : Hp} {p : Addr} {o : HO} (g : Gr F H F' H') (hp : H p = none) (fp : F' p = none) : Gr F H F' (upd H' p o) := ⟨g.ff, Ex.mut g.hh hp, Ex.mut g.fh fp, g.nw⟩
/-- from now on it stays as it is -/
theorem Gr.frz {F H F' H' : Hp} {p : Addr} {o : HO} (g : Gr F H F' H') (hp : H p = none) (h : H' p = some o) : Gr F H (upd F' p o) H' := by
  have e1 : Ex F' (upd F' p o) := fun a u e => by
    by_cases q : a = p
    · subst q
      have z := g.fh a u e
      rw [h] at z
      cases z
      exact upd_same
    · rw [upd_ne q]
      exact e
  refine ⟨g.ff.trans e1, g.hh, fun a u e => ?_, fun a h1 h2 => ?_⟩
  · by_cases q : a = p
    · rw [q, upd_same] at e
      cases e
      rw [q]
      exact h
    · rw [upd_ne q] at e
      exact g.fh a u e
  · have q : a ≠ p := fun q => h1 (q ▸ hp)
    rw [upd_ne q]
    exact g.nw a h1 h2

/-! ### data -/
mutual
theorem dp_ex {K : PySem.W.Frag} {H H' : Hp} (e : Ex H H') : ∀ (d : PyData) (v : V), Dp K H v d → Dp K H' v d
  | .none, _, h => by cases h; exact .non
  | .bool b, _, h => by cases h; exact .bl b
  | .int i, _, h => by cases h; exact .int i
  | .str x, _, h => by cases h; exact .str x
  | .list ds, _, h => by
    cases h with
    | lst hs ha => exact .lst (ex_l e hs) (dpAll_ex e ds _ ha)
  | .tuple ds, _, h => by
    cases h with
    | tup hs ha => exact .tup (ex_t e hs) (dpAll_ex e ds _ ha)
  | .dict _, _, h => nomatch h
theorem dpAll_ex {K : PySem.W.Frag} {H H' : Hp} (e : Ex H H') : ∀ (ds : List PyData) (vs : List V), DpAll K H vs ds → DpAll K H' vs ds
  | [], _, h => by cases h; exact .nil
  | d :: ds, _, h => by
    cases h with
    | cons h1 h2 => exact .cons (dp_ex e d _ h1) (dpAll_ex e ds _ h2)
end
abbrev Rep (K : PySem.W.Frag) (H : Hp) (v : V) {α : Type} [DecidableEq α] [Datum α] (x : α) : Prop := Dp K H v (Datum.toD x)
abbrev RepL (K : PySem.W.Frag) (H : Hp) (vs : List V) {α : Type} [DecidableEq α] [Datum α] (xs : List α) : Prop := DpAll K H vs (xs.map Datum.toD)
section
variable {K : PySem.W.Frag} {H H' F : Hp} {v : V} {vs : List V} {α β : Type} [DecidableEq α] [Datum α] [DecidableEq β] [Datum β]
theorem Rep.ex {x : α} (h : Rep K H v x) (e : Ex H H') : Rep K H' v x := dp_ex e _ _ h
theorem RepL.ex {xs : List α} (h : RepL K H vs xs) (e : Ex H H') : RepL K H' vs xs := dpAll_ex e _ _ h
theorem rep_int {i : Int} : Rep K H (.int i) i := Dp.int i
theorem rep_bl {b : Bool} : Rep K H (.bl b) b := Dp.bl b
theorem rep_str {x : Str} : Rep K H (.str x) x := Dp.str x
theorem rep_unit : Rep K H .non () := Dp.non
theorem of_int {i : Int} (h : Rep K H v i) : v = .int i := by cases h; rfl
theorem of_bl {b : Bool} (h : Rep K H v b) : v = .bl b := by cases h; rfl
theorem of_str {x : Str} (h : Rep K H v x) : v = .str x := by cases h; rfl
theorem of_unit (h : Rep K H v ()) : v = .non := by cases h; rfl
theorem of_list {xs : List α} (h : Rep K H v xs) : ∃ p vs, v = .ref p ∧ SqL K H p vs ∧ RepL K H vs xs := by
  have h' : Dp K H v (.list (xs.map Datum.toD)) := h
  cases h' with
  | lst a b => exact ⟨_, _, rfl, a, b⟩
theorem rep_list {p : Addr} {xs : List α} (h : SqL K H p vs) (r : RepL K H vs xs) : Rep K H (.ref p) xs := Dp.lst h r
theorem of_pair {x : α} {y : β} (h : Rep K H v (x, y)) : ∃ p a b, v = .ref p ∧ SqT K H p [a, b] ∧ Rep K H a x ∧ Rep K H b y := by
  have h' : Dp K H v (.tuple [Datum.toD x, Datum.toD y]) := h
  cases h' with
  | tup a b =>
    cases b with
    | cons b1 b2 =>
      cases b2 with
      | cons b2 b3 =>
        cases b3
        exact ⟨_, _, _, rfl, a, b1, b2⟩
theorem rep_pair {p : Addr} {a b : V} {x : α} {y : β} (h : SqT K H p [a, b]) (r1 : Rep K H a x) (r2 : Rep K H b y) : Rep K H (.ref p) (x, y) := Dp.tup h (.cons r1 (.cons r2 .nil))
theorem of_ii {x y : Int} (h : Rep K H v (x, y)) : ∃ p, v = .ref p ∧ SqT K H p [.int x, .int y] := by
  obtain ⟨p, a, b, e, h, r1, r2⟩ := of_pair h
  rw [of_int r1, of_int r2] at h
  exact ⟨p, e, h⟩
theorem rep_ii {p : Addr} {x y : Int} (h : SqT K H p [.int x, .int y]) : Rep K H (.ref p) (x, y) := rep_pair h rep_int rep_int
theorem repL_nil : RepL K H [] ([] : List α) := .nil
theorem repL_cons {x : α} {xs : List α} (h : Rep K H v x) (r : RepL K H vs xs) : RepL K H (v :: vs) (x :: xs) := .cons h r
theorem repL_len : ∀ {vs : List V} {xs : List α}, RepL K H vs xs → vs.length = xs.length
  | _, [], h => by
    have h' : DpAll K H _ [] := h
    cases h'
    rfl
  | _, x :: xs, h => by
    have h' : DpAll K H _ (Datum.toD x :: xs.map Datum.toD) := h
    cases h' with
    | cons h1 h2 => rw [List.length_cons, List.length_cons, repL_len (xs := xs) h2]
theorem repL_app : ∀ {vs ws : List V} {xs ys : List α}, RepL K H vs xs → RepL K H ws ys → RepL K H (vs ++ ws) (xs ++ ys)
  | _, _, [], _, h, h2 => by
    have h' : DpAll K H _ [] := h
    cases h'
    exact h2
  | _, _, x :: xs, _, h, h2 => by
    have h' : DpAll K H _ (Datum.toD x :: xs.map Datum.toD) := h
    cases h' with
    | cons h1 h3 => exact .cons h1 (repL_app (xs := xs) h3 h2)
theorem repL_one {x : α} (h : Rep K H v x) : RepL K H [v] [x] := .cons h .nil
theorem repL_at : ∀ {vs : List V} {xs : List α} {i : Nat} {x : α}, RepL K H vs xs → xs[i]? = some x → ∃ v, vs[i]? = some v ∧ Rep K H v x
  | _, [], _, _, _, e => by simp at e
  | _, y :: xs, 0, x, h, e => by
    have h' : DpAll K H _ (Datum.toD y :: xs.map Datum.toD) := h
    have e' : y = x := Option.some.inj e
    subst e'
    cases h' with
    | cons h1 h2 => exact ⟨_, rfl, h1⟩
  | _, y :: xs, i + 1, x, h, e => by
    have h' : DpAll K H _ (Datum.toD y :: xs.map Datum.toD) := h
    cases h' with
    | cons h1 h2 =>
      obtain ⟨v, a, b⟩ := repL_at (xs := xs) (i := i) h2 (by simpa using e)
      exact ⟨v, by simpa using a, b⟩
theorem repL_at' : ∀ {vs : List V} {xs : List α} {i : Nat} {v : V}, RepL K H vs xs → vs[i]? = some v → ∃ x, xs[i]? = some x ∧ Rep K H v x
  | _, [], _, _, h, e => by
    have h' : DpAll K H _ [] := h
    cases h'
    simp at e
  | _, y :: xs, 0, v, h, e => by
    have h' : DpAll K H _ (Datum.toD y :: xs.map Datum.toD) := h
    cases h' with
    | cons h1 h2 =>
      cases Option.some.inj e
      exact ⟨y, rfl, h1⟩
  | _, y :: xs, i + 1, v, h, e => by
    have h' : DpAll K H _ (Datum.toD y :: xs.map Datum.toD) := h
    cases h' with
    | cons h1 h2 =>
      obtain ⟨x, a, b⟩ := repL_at' (xs := xs) (i := i) h2 (by simpa using e)
      exact ⟨x, by simpa using a, b⟩
theorem repL_take : ∀ {vs : List V} {xs : List α} (n : Nat), RepL K H vs xs → RepL K H (vs.take n) (xs.take n)
  | _, _, 0, _ => by rw [List.take_zero, List.take_zero]; exact .nil
  | _, [], n + 1, h => by
    have h' : DpAll K H _ [] := h
    cases h'
    exact .nil
  | _, x :: xs, n + 1, h => by
    have h' : DpAll K H _ (Datum.toD x :: xs.map Datum.toD) := h
    cases h' with
    | cons h1 h2 => exact .cons h1 (repL_take (xs := xs) n h2)
theorem repL_drop : ∀ {vs : List V} {xs : List α} (n : Nat), RepL K H vs xs → RepL K H (vs.drop n) (xs.drop n)
  | _, _, 0, h => h
  | _, [], n + 1, h => by
    have h' : DpAll K H _ [] := h
    cases h'
    exact .nil
  | _, x :: xs, n + 1, h => by
    have h' : DpAll K H _ (Datum.toD x :: xs.map Datum.toD) := h
    cases h' with
    | cons h1 h2 => exact repL_drop (xs := xs) n h2
theorem of_ints : ∀ {vs : List V} {ns : List Int}, RepL K H vs ns → vs = ns.map V.int
  | _, [], h => by
    have h' : DpAll K H _ [] := h
    cases h'
    rfl
  | _, n :: ns, h => by
    have h' : DpAll K H _ (Datum.toD n :: ns.map Datum.toD) := h
    cases h' with
    | cons h1 h2 => rw [of_int h1, of_ints (ns := ns) h2]; rfl
theorem rep_ints : ∀ {ns : List Int}, RepL K H (ns.map V.int) ns
  | [] => .nil
  | _ :: _ => .cons rep_int rep_ints
theorem of_strs : ∀ {vs : List V} {ns : List Str}, RepL K H vs ns → vs = ns.map V.str
  | _, [], h => by
    have h' : DpAll K H _ [] := h
    cases h'
    rfl
  | _, n :: ns, h => by
    have h' : DpAll K H _ (Datum.toD n :: ns.map Datum.toD) := h
    cases h' with
    | cons h1 h2 => rw [of_str h1, of_strs (ns := ns) h2]; rfl
theorem rep_strs : ∀ {ns : List Str}, RepL K H (ns.map V.str) ns
  | [] => .nil
  | _ :: _ => .cons rep_str rep_strs
end
end Fh
set_option Elab.async false
set_option linter.all false
set_option maxRecDepth 100000
set_option maxHeartbeats 2000000
namespace Fh
open PySem PySem.Spec PyProof.Rows L2 Evl
open PySem.W (Datum)

/-! ### growth: F stays, M may change -/
structure GrM (M : Addr → Prop) (F H F' H' : Hp) : Prop where
  ff : Ex F F'
  hh : ∀ a o, ¬ M a → H a = some o → H' a = some o
  fh : Ex F' H'
  nw : ∀ a, H a ≠ none → F a = none → F' a = none
  al : ∀ a, H a ≠ none → H' a ≠ none
theorem none_or {H : Hp} {a : Addr} (h : ¬ H a ≠ none) : H a = none := Classical.byContradiction h
theorem Gr.toM {M : Addr → Prop} {F H F' H' : Hp} (g : Gr F H F' H') : GrM M F H F' H' := ⟨g.ff, fun a o _ h => g.hh a o h, g.fh, g.nw, fun a h => by
  cases e : H a with
  | none => exact absurd e h
  | some o =>
    rw [g.hh a o e]
    exact fun z => nomatch z⟩
theorem GrM.trans {M : Addr → Prop} {F H F1 H1 F2 H2 : Hp} (a : GrM M F H F1 H1) (b : GrM M F1 H1 F2 H2) : GrM M F H F2 H2 :=
  ⟨a.ff.trans b.ff, fun x o n h => b.hh x o n (a.hh x o n h), b.fh, fun x h1 h2 => b.nw x (a.al x h1) (a.nw x h1 h2), fun x h => b.al x (a.al x h)⟩
theorem GrM.toGr {F H F' H' : Hp} (g : GrM (fun _ => False) F H F' H') : Gr F H F' H' := ⟨g.ff, fun a o h => g.hh a o (fun z => z) h, g.fh, g.nw⟩

/-! ### what a slot holds -/
inductive Sl where
  | no
  | dt (d : PyData)
  | ls (ds : List PyData)
  | al (j : Nat)
  | fx (φ : Hp → V → Prop)
  | mu (ψ : Hp → V → List (Addr × HO) → Prop)
def SlOk (K : PySem.W.Frag) (F : Hp) (σ : L2.St) (i : Nat) (L : List (Addr × HO)) : Sl → Prop
  | .no => L = []
  | .dt d => L = [] ∧ ∃ v, σ[i]? = some (some v) ∧ Dp K F v d
  | .ls ds => ∃ p vs, σ[i]? = some (some (.ref p)) ∧ L = [(p, .lst vs)] ∧ DpAll K F vs ds
  | .al j => L = [] ∧ j < i ∧ ∃ v, σ[i]? = some (some v) ∧ σ[j]? = some (some v)
  | .fx φ => L = [] ∧ ∃ v, σ[i]? = some (some v) ∧ ∀ F', Ex F F' → φ F' v
  | .mu ψ => ∃ v, σ[i]? = some (some v) ∧ ∀ F', Ex F F' → ψ F' v L
theorem SlOk.ex {K : PySem.W.Frag} {F F' : Hp} {σ : L2.St} {i : Nat} {L : List (Addr × HO)} {s : Sl} (e : Ex F F') (h : SlOk K F σ i L s) : SlOk K F' σ i L s := by
  cases s with
  | no => exact h
  | dt d =>
    obtain ⟨a, v, b, c⟩ := h
    exact ⟨a, v, b, dp_ex e d v c⟩
  | ls ds =>
    obtain ⟨p, vs, a, b, c⟩ := h
    exact ⟨p, vs, a, b, dpAll_ex e ds vs c⟩
  | al j => exact h
  | fx φ =>
    obtain ⟨a, v, b, c⟩ := h
    exact ⟨a, v, b, fun F2 e2 => c F2 (e.trans e2)⟩
  | mu ψ =>
    obtain ⟨v, b, c⟩ := h
    exact ⟨v, b, fun F2 e2 => c F2 (e.trans e2)⟩
/-- the slot's word leans on the slots up to i alone -/
theorem SlOk.cong {K : PySem.W.Frag} {F : Hp} {σ σ' : L2.St} {i : Nat} {L : List (Addr × HO)} {s : Sl} (e : ∀ j, j ≤ i → σ'[j]? = σ[j]?) (h : SlOk K F σ i L s) : SlOk K F σ' i L s := by
  cases s with
  | no => exact h
  | dt d =>
    obtain ⟨a, v, b, c⟩ := h
    exact ⟨a, v, (e i (Nat.le_refl _)).trans b, c⟩
  | ls ds =>
    obtain ⟨p, vs, a, b, c⟩ := h
    exact ⟨p, vs, (e i (Nat.le_refl _)).trans a, b, c⟩
  | al j =>
    obtain ⟨a, l, v, b, c⟩ := h
    exact ⟨a, l, v, (e i (Nat.le_refl _)).trans b, (e j (Nat.le_of_lt l)).trans c⟩
  | fx φ =>
    obtain ⟨a, v, b, c⟩ := h
    exact ⟨a, v, (e i (Nat.le_refl _)).trans b, c⟩
  | mu ψ =>
    obtain ⟨v, b, c⟩ := h
    exact ⟨v, (e i (Nat.le_refl _)).trans b, c⟩
def isMu : Sl → Bool
  | .mu _ => true
  | _ => false
structure Owns (K : PySem.W.Frag) (M : Addr → Prop) (H0 F H : Hp) (σ : L2.St) (ss : List Sl) (L : Nat → List (Addr × HO)) : Prop where
  ok : ∀ i s, ss[i]? = some s → SlOk K F σ i (L i) s
  at_ : ∀ i s p o, ss[i]? = some s → (p, o) ∈ L i → H p = some o ∧ F p = none ∧ (H0 p = none ∨ (M p ∧ isMu s = true))
  nd : ∀ i, i < ss.length → ((L i).map (·.1)).Nodup
  ap : ∀ i j p, i < ss.length → j < ss.length → p ∈ (L i).map (·.1) → p ∈ (L j).map (·.1) → i = j
structure Sts (K : PySem.W.Frag) (M : Addr → Prop) (F0 H0 F H : Hp) (σ : L2.St) (ss : List Sl) : Prop where
  gr : GrM M F0 H0 F H
  len : σ.length = ss.length
  own : ∃ L, Owns K M H0 F H σ ss L

section
variable {K : PySem.W.Frag} {M : Addr → Prop} {F0 H0 F H F' H' : Hp} {σ xs : L2.St} {ss ts : List Sl}
theorem Sts.fh (S : Sts K M F0 H0 F H σ ss) : Ex F H := S.gr.fh
/-- growth around it -/
theorem Sts.grow (S : Sts K M F0 H0 F H σ ss) (g : Gr F H F' H') : Sts K M F0 H0 F' H' σ ss := by
  obtain ⟨g0, l, L, O⟩ := S
  refine ⟨g0.trans g.toM, l, L, fun i s h => (O.ok i s h).ex g.ff, fun i s p o hi hp => ?_, O.nd, O.ap⟩
  obtain ⟨a, b, c⟩ := O.at_ i s p o hi hp
  exact ⟨g.hh p o a, g.nw p (by rw [a]; exact fun z => nomatch z) b, c⟩
/-- the last ones are dropped -/
theorem Sts.drop (S : Sts K M F0 H0 F H (σ ++ xs) (ss ++ ts)) (l : σ.length = ss.length) : Sts K M F0 H0 F H σ ss := by
  obtain ⟨g0, _, L, O⟩ := S
  have lt : ∀ {i}, i < ss.length → i < (ss ++ ts).length := fun {i} h => by
    rw [List.length_append]
    omega
  refine ⟨g0, l, L, fun i s h => ?_, fun i s p o hi hp => O.at_ i s p o (by rw [List.getElem?_append_left (List.getElem?_eq_some_iff.mp hi).1]; exact hi) hp, fun i hi => O.nd i (lt hi), fun i j p hi hj => O.ap i j p (lt hi) (lt hj)⟩
  have hi : i < ss.length := (List.getElem?_eq_some_iff.mp h).1
  refine (O.ok i s (by rw [List.getElem?_append_left hi]; exact h)).cong fun j hj => ?_
  rw [List.getElem?_append_left (by omega)]
/-- a slot more: with new objects L1, or with none -/
theorem Sts.push (S : Sts K M F0 H0 F H σ ss) {v : V} {r : Sl} {L1 : List (Addr × HO)} {H1 : Hp} (e : Ex H H1) (hr : SlOk K F (σ ++ [some v]) σ.length L1 r) (ha : ∀ p o, (p, o) ∈ L1 → H1 p = some o ∧ H p = none) (hn : (L1.map (·.1)).Nodup) :
    Sts K M F0 H0 F H1 (σ ++ [some v]) (ss ++ [r]) := by
  obtain ⟨g0, l, L, O⟩ := S
  have hlen : (ss ++ [r]).length = ss.length + 1 := by rw [List.length_append]; rfl
  have cut : ∀ {i}, i < (ss ++ [r]).length → i < ss.length ∨ i = ss.length := fun {i} h => by rw [hlen] at h; omega
  have oth : ∀ {i p}, i < ss.length → p ∈ L1.map (·.1) → p ∈ (L i).map (·.1) → False := fun {i p} hi h1 h2 => by
    obtain ⟨⟨q, o⟩, h3, rfl⟩ := List.mem_map.mp h1
    obtain ⟨⟨q', u⟩, h4, e4⟩ := List.mem_map.mp h2
    have e4' : q' = q := e4
    subst e4'
    have a := (O.at_ i _ q' u (List.getElem?_eq_getElem hi) h4).1
    rw [(ha q' o h3).2] at a
    cases a
  refine ⟨g0.trans (Gr.of g0.fh e).toM, by rw [List.length_append, List.length_append, l]; rfl, fun i => if i = ss.length then L1 else L i, fun i s h => ?_, fun i s p o hs hp => ?_, fun i hi => ?_, fun i j p hi hj hp hq => ?_⟩
  · have hi := (List.getElem?_eq_some_iff.mp h).1
    rcases cut hi with hi | rfl
    · rw [List.getElem?_append_left hi] at h
      rw [if_neg (by omega)]
      refine (O.ok i s h).cong fun j hj => ?_
      rw [List.getElem?_append_left (by omega)]
    · rw [List.getElem?_append_right (Nat.le_refl _), Nat.sub_self] at h
      cases h
      rw [if_pos rfl, ← l]
      exact hr
  · have hi := (List.getElem?_eq_some_iff.mp hs).1
    rcases cut hi with hi | rfl
    · rw [if_neg (by omega)] at hp
      rw [List.getElem?_append_left hi] at hs
      obtain ⟨a, b, c⟩ := O.at_ i s p o hs hp
      exact ⟨e p o a, b, c⟩
    · rw [if_pos rfl] at hp
      refine ⟨(ha p o hp).1, fresh_back g0.fh (ha p o hp).2, .inl (none_or fun h => g0.al p h (ha p o hp).2)⟩
  · rcases cut hi with hi | rfl
    · simp only [if_neg (show ¬ i = ss.length by omega)]
      exact O.nd i hi
    · simp only [if_pos]
      exact hn
  · rcases cut hi with hi | rfl
    · rw [if_neg (by omega)] at hp
      rcases cut hj with hj | rfl
      · rw [if_neg (by omega)] at hq
        exact O.ap i j p hi hj hp hq
      · rw [if_pos rfl] at hq
        exact (oth hi hq hp).elim
    · rw [if_pos rfl] at hp
      rcases cut hj with hj | rfl
      · rw [if_neg (by omega)] at hq
        exact (oth hj hp hq).elim
      · rfl
theorem last_at {σ : L2.St} {v : V} : (σ ++ [some v])[σ.length]? = some (some v) := by
  rw [List.getElem?_append_right (Nat.le_refl _), Nat.sub_self]
  rfl
theorem Sts.push_dt (S : Sts K M F0 H0 F H σ ss) {v : V} {d : PyData} (h : Dp K F v d) : Sts K M F0 H0 F H (σ ++ [some v]) (ss ++ [.dt d]) :=
  S.push (L1 := []) (Ex.refl H) ⟨rfl, v, last_at, h⟩ (fun p o z => nomatch z) .nil
theorem Sts.push_fx (S : Sts K M F0 H0 F H σ ss) {v : V} {φ : Hp → V → Prop} (h : ∀ F', Ex F F' → φ F' v) : Sts K M F0 H0 F H (σ ++ [some v]) (ss ++ [.fx φ]) :=
  S.push (L1 := []) (Ex.refl H) ⟨rfl, v, last_at, h⟩ (fun p o z => nomatch z) .nil
theorem Sts.push_al (S : Sts K M F0 H0 F H σ ss) {j : Nat} {v : V} (h : σ[j]? = some (some v)) : Sts K M F0 H0 F H (σ ++ [some v]) (ss ++ [.al j]) := by
  have hj := (List.getElem?_eq_some_iff.mp h).1
  exact S.push (L1 := []) (Ex.refl H) ⟨rfl, hj, v, last_at, by rw [List.getElem?_append_left hj]; exact h⟩ (fun p o z => nomatch z) .nil
theorem Sts.push_ls (S : Sts K M F0 H0 F H σ ss) {p : Addr} {vs : List V} {ds : List PyData} {H1 : Hp} (e : Ex H H1) (hp : H p = none) (h1 : H1 p = some (.lst vs)) (h : DpAll K F vs ds) : Sts K M F0 H0 F H1 (σ ++ [some (.ref p)]) (ss ++ [.ls ds]) :=
  S.push (L1 := [(p, .lst vs)]) e ⟨p, vs, last_at, rfl, h⟩ (fun q o hq => by
    cases List.mem_singleton.mp hq
    exact ⟨h1, hp⟩) (by simp)
/-! ### reading slots -/
theorem Sts.get_dt (S : Sts K M F0 H0 F H σ ss) {i : Nat} {d : PyData} (h : ss[i]? = some (.dt d)) : ∃ v, σ[i]? = some (some v) ∧ Dp K F v d := by
  obtain ⟨g0, l, L, O⟩ := S
  exact (O.ok i _ h).2
theorem Sts.get_fx (S : Sts K M F0 H0 F H σ ss) {i : Nat} {φ : Hp → V → Prop} (h : ss[i]? = some (.fx φ)) : ∃ v, σ[i]? = some (some v) ∧ ∀ F', Ex F F' → φ F' v := by
  obtain ⟨g0, l, L, O⟩ := S
  exact (O.ok i _ h).2
theorem Sts.get_al (S : Sts K M F0 H0 F H σ ss) {i j : Nat} (h : ss[i]? = some (.al j)) : ∃ v, σ[i]? = some (some v) ∧ σ[j]? = some (some v) := by
  obtain ⟨g0, l, L, O⟩ := S
  exact (O.ok i _ h).2.2
theorem Sts.get_ls (S : Sts K M F0 H0 F H σ ss) {i : Nat} {ds : List PyData} (h : ss[i]? = some (.ls ds)) : ∃ p vs, σ[i]? = some (some (.ref p)) ∧ DpAll K F vs ds ∧ H p = some (.lst vs) ∧ F p = none ∧ H0 p = none := by
  obtain ⟨g0, l, L, O⟩ := S
  obtain ⟨p, vs, a, b, c⟩ := O.ok i _ h
  obtain ⟨x, y, z⟩ := O.at_ i _ p _ h (by rw [b]; exact List.mem_singleton.mpr rfl)
  exact ⟨p, vs, a, c, x, y, z.resolve_right fun w => nomatch w.2⟩
/-- what a slot's thing reads as, now -/
def vw (ss : List Sl) : Sl → Option PyData
  | .dt d => some d
  | .ls ds => some (.list ds)
  | .al j => match ss[j]? with
    | some (.ls ds) => some (.list ds)
    | some (.dt d) => some d
    | _ => none
  | _ => none
/-- v is a list or tuple that reads as ds, its items stay -/
def RdL (K : PySem.W.Frag) (F H : Hp) (v : V) (ds : List PyData) : Prop := ∃ p vs, v = .ref p ∧ SqL K H p vs ∧ DpAll K F vs ds
def RdT (K : PySem.W.Frag) (F H : Hp) (v : V) (ds : List PyData) : Prop := ∃ p vs, v = .ref p ∧ SqT K H p vs ∧ DpAll K F vs ds
theorem rdL_of {v : V} {ds : List PyData} (h : Dp K F v (.list ds)) (e : Ex F H) : RdL K F H v ds := by
  cases h with
  | lst a b => exact ⟨_, _, rfl, ex_l e a, b⟩
theorem rdT_of {v : V} {ds : List PyData} (h : Dp K F v (.tuple ds)) (e : Ex F H) : RdT K F H v ds := by
  cases h with
  | tup a b => exact ⟨_, _, rfl, ex_t e a, b⟩
theorem RdL.dp {v : V} {ds : List PyData} (h : RdL K F H v ds) (e : Ex F H) : Dp K H v (.list ds) := by
  obtain ⟨p, vs, rfl, a, b⟩ := h
  exact .lst a (dpAll_ex e ds vs b)
theorem Sts.view (S : Sts K M F0 H0 F H σ ss) {i : Nat} {r : Sl} {d : PyData} (h : ss[i]? = some r) (hv : vw ss r = some d) : ∃ v, σ[i]? = some (some v) ∧ (Dp K F v d ∨ ∃ ds, d = .list ds ∧ RdL K F H v ds) := by
  have hl : ∀ {j : Nat} {ds : List PyData}, ss[j]? = some (Sl.ls ds) → ∃ v, σ[j]? = some (some v) ∧ RdL K F H v ds := fun {j ds} h => by
    obtain ⟨p, vs, a, b, c, _⟩ := S.get_ls h
    exact ⟨_, a, p, vs, rfl, SqL.of c, b⟩
  cases r with
  | no => cases hv
  | fx φ => cases hv
  | mu ψ => cases hv
  | dt d' =>
    cases hv
    obtain ⟨v, a, b⟩ := S.get_dt h
    exact ⟨v, a, .inl b⟩
  | ls ds =>
    cases hv
    obtain ⟨v, a, b⟩ := hl h
    exact ⟨v, a, .inr ⟨ds, rfl, b⟩⟩
  | al j =>
    obtain ⟨v, a, b⟩ := S.get_al h
    unfold vw at hv
    simp only at hv
    cases e : ss[j]? with
    | none => rw [e] at hv; cases hv
    | some s =>
      rw [e] at hv
      cases s with
      | no => cases hv
      | fx φ => cases hv
      | mu ψ => cases hv
      | al j => cases hv
      | dt d' =>
        cases hv
        obtain ⟨v', a', b'⟩ := S.get_dt e
        rw [b] at a'
        cases a'
        exact ⟨v, a, .inl b'⟩
      | ls ds =>
        cases hv
        obtain ⟨v', a', b'⟩ := hl e
        rw [b] at a'
        cases a'
        exact ⟨v, a, .inr ⟨ds, rfl, b'⟩⟩
/-- .. as data of the heap -/
theorem Sts.viewH (S : Sts K M F0 H0 F H σ ss) {i : Nat} {r : Sl} {d : PyData} (h : ss[i]? = some r) (hv : vw ss r = some d) : ∃ v, σ[i]? = some (some v) ∧ Dp K H v d := by
  obtain ⟨v, a, b | ⟨ds, rfl, b⟩⟩ := S.view h hv
  · exact ⟨v, a, dp_ex S.fh d v b⟩
  · exact ⟨v, a, b.dp S.fh⟩
theorem Sts.viewL (S : Sts K M F0 H0 F H σ ss) {i : Nat} {r : Sl} {ds : List PyData} (h : ss[i]? = some r) (hv : vw ss r = some (.list ds)) : ∃ v, σ[i]? = some (some v) ∧ RdL K F H v ds := by
  obtain ⟨v, a, b | ⟨ds', e, b⟩⟩ := S.view h hv
  · exact ⟨v, a, rdL_of b S.fh⟩
  · cases e
    exact ⟨v, a, b⟩
theorem Sts.viewT (S : Sts K M F0 H0 F H σ ss) {i : Nat} {r : Sl} {ds : List PyData} (h : ss[i]? = some r) (hv : vw ss r = some (.tuple ds)) : ∃ v, σ[i]? = some (some v) ∧ RdT K F H v ds := by
  obtain ⟨v, a, b | ⟨ds', e, b⟩⟩ := S.view h hv
  · exact ⟨v, a, rdT_of b S.fh⟩
  · cases e
/-! ### writing slots -/
def notAl : Sl → Bool
  | .al _ => false
  | _ => true
/-- slot i takes what a state with one slot more has at its end -/
theorem Sts.put {v : V} {r : Sl} {i : Nat} (S : Sts K M F0 H0 F H (σ ++ [some v]) (ss ++ [r])) (l : σ.length = ss.length) (hi : i < ss.length) (na : ss.all notAl = true) (nr : notAl r = true) : Sts K M F0 H0 F H (σ.set i (some v)) (ss.set i r) := by
  obtain ⟨g0, l1, L, O⟩ := S
  have hlen : (ss ++ [r]).length = ss.length + 1 := by rw [List.length_append]; rfl
  have hn : ∀ j s, (ss.set i r)[j]? = some s → notAl s = true := fun j s h => by
    by_cases e : j = i
    · subst e
      rw [List.getElem?_set_self hi] at h
      cases h
      exact nr
    · rw [List.getElem?_set_ne (Ne.symm e)] at h
      exact List.all_eq_true.mp na s (List.mem_of_getElem? h)
  -- a slot's word without al leans on its own slot alone
  have move : ∀ {σ' : L2.St} {i j : Nat} {L : List (Addr × HO)} {s : Sl} {σ : L2.St}, notAl s = true → σ'[j]? = σ[i]? → SlOk K F σ i L s → SlOk K F σ' j L s := fun {σ' i j L s σ} h e o => by
    cases s with
    | no => exact o
    | al j => cases h
    | dt d =>
      obtain ⟨a, v, b, c⟩ := o
      exact ⟨a, v, e.trans b, c⟩
    | ls ds =>
      obtain ⟨p, vs, a, b, c⟩ := o
      exact ⟨p, vs, e.trans a, b, c⟩
    | fx φ =>
      obtain ⟨a, v, b, c⟩ := o
      exact ⟨a, v, e.trans b, c⟩
    | mu ψ =>
      obtain ⟨v, b, c⟩ := o
      exact ⟨v, e.trans b, c⟩
  let g : Nat → Nat := fun j => if j = i then ss.length else j
  have gl : ∀ {j}, j < ss.length → g j < (ss ++ [r]).length := fun {j} hj => by
    show (if j = i then ss.length else j) < _
    rw [hlen]
    split <;> omega
  have gi : ∀ {j k}, j < ss.length → k < ss.length → g j = g k → j = k := fun {j k} hj hk e => by
    have e' : (if j = i then ss.length else j) = (if k = i then ss.length else k) := e
    split at e' <;> split at e' <;> omega
  have pick : ∀ {j : Nat} {s : Sl}, (ss.set i r)[j]? = some s → (ss ++ [r])[g j]? = some s ∧ (σ.set i (some v))[j]? = (σ ++ [some v])[g j]? := fun {j s} h => by
    have hj : j < ss.length := by
      have := (List.getElem?_eq_some_iff.mp h).1
      rwa [List.length_set] at this
    by_cases e : j = i
    · have eg : g j = ss.length := if_pos e
      rw [eg]
      subst e
      rw [List.getElem?_set_self hi] at h
      rw [List.getElem?_append_right (Nat.le_refl _), Nat.sub_self, List.getElem?_set_self (by omega), ← l, List.getElem?_append_right (Nat.le_refl _), Nat.sub_self]
      exact ⟨h, rfl⟩
    · have eg : g j = j := if_neg e
      rw [eg]
      rw [List.getElem?_set_ne (Ne.symm e)] at h
      rw [List.getElem?_append_left hj, List.getElem?_set_ne (Ne.symm e), List.getElem?_append_left (by omega)]
      exact ⟨h, rfl⟩
  refine ⟨g0, by rw [List.length_set, List.length_set, l], fun j => L (g j), fun j s h => move (hn j s h) (pick h).2 (O.ok (g j) s (pick h).1), fun j s p o h hp => O.at_ (g j) s p o (pick h).1 hp, fun j hj => ?_, fun j k p hj hk hp hq => ?_⟩
  · rw [List.length_set] at hj
    exact O.nd (g j) (gl hj)
  · rw [List.length_set] at hj hk
    exact gi hj hk (O.ap (g j) (g k) p (gl hj) (gl hk) hp hq)
/-- a slot is forgotten -/
theorem Sts.wipe1 {i : Nat} {ov : Option V} (S : Sts K M F0 H0 F H σ ss) (na : ss.all notAl = true) : Sts K M F0 H0 F H (σ.set i ov) (ss.set i .no) := by
  obtain ⟨g0, l1, L, O⟩ := S
  have hl : ∀ {j}, j < (ss.set i .no).length → j < ss.length := fun {j} h => by rwa [List.length_set] at h
  refine ⟨g0, by rw [List.length_set, List.length_set, l1], fun j => if j = i then [] else L j, fun j s h => ?_, fun j s p o hs hp => ?_, fun j hj => ?_, fun j k p hj hk hp hq => ?_⟩
  · by_cases e : j = i
    · subst e
      have hj := hl (List.getElem?_eq_some_iff.mp h).1
      rw [List.getElem?_set_self hj] at h
      cases h
      rw [if_pos rfl]
      rfl
    · rw [if_neg e]
      rw [List.getElem?_set_ne (Ne.symm e)] at h
      have o := O.ok j s h
      have nn := List.all_eq_true.mp na s (List.mem_of_getElem? h)
      have eσ : (σ.set i ov)[j]? = σ[j]? := List.getElem?_set_ne (Ne.symm e)
      cases s with
      | no => exact o
      | al j => cases nn
      | dt d =>
        obtain ⟨a, v, b, c⟩ := o
        exact ⟨a, v, eσ.trans b, c⟩
      | ls ds =>
        obtain ⟨p, vs, a, b, c⟩ := o
        exact ⟨p, vs, eσ.trans a, b, c⟩
      | fx φ =>
        obtain ⟨a, v, b, c⟩ := o
        exact ⟨a, v, eσ.trans b, c⟩
      | mu ψ =>
        obtain ⟨v, b, c⟩ := o
        exact ⟨v, eσ.trans b, c⟩
  · by_cases e : j = i
    · rw [if_pos e] at hp
      cases hp
    · rw [if_neg e] at hp
      rw [List.getElem?_set_ne (Ne.symm e)] at hs
      exact O.at_ j s p o hs hp
  · by_cases e : j = i
    · simp only [if_pos e]
      exact .nil
    · simp only [if_neg e]
      exact O.nd j (hl hj)
  · by_cases e : j = i
    · rw [if_pos e] at hp
      cases hp
    · by_cases e2 : k = i
      · rw [if_pos e2] at hq
        cases hq
      · rw [if_neg e] at hp
        rw [if_neg e2] at hq
        exact O.ap j k p (hl hj) (hl hk) hp hq
/-- the content of an owned list changes -/
theorem Sts.write {i : Nat} {ds : List PyData} (S : Sts K M F0 H0 F H σ ss) (h : ss[i]? = some (.ls ds)) : ∃ p vs, σ[i]? = some (some (.ref p)) ∧ H p = some (.lst vs) ∧ DpAll K F vs ds ∧ F p = none ∧
    ∀ vs' ds', DpAll K F vs' ds' → Sts K M F0 H0 F (upd H p (.lst vs')) σ (ss.set i (.ls ds')) := by
  obtain ⟨g0, l, L, O⟩ := S
  obtain ⟨p, vs, a, b, c⟩ := O.ok i _ h
  have hi := (List.getElem?_eq_some_iff.mp h).1
  have pin : (p, HO.lst vs) ∈ L i := by rw [b]; exact List.mem_singleton.mpr rfl
  obtain ⟨hp, fp, h0'⟩ := O.at_ i _ p _ h pin
  have h0 : H0 p = none := h0'.resolve_right fun w => nomatch w.2
  refine ⟨p, vs, a, hp, c, fp, fun vs' ds' r => ?_⟩
  have hl : ∀ {j}, j < (ss.set i (.ls ds')).length → j < ss.length := fun {j} h => by rwa [List.length_set] at h
  refine ⟨⟨g0.ff, fun x o nM hx => ?_, Ex.mut g0.fh fp, g0.nw, fun x hx => ?_⟩, by rw [List.length_set, l], fun j => if j = i then [(p, .lst vs')] else L j, fun j s hs => ?_, fun j s q o hs hq => ?_, fun j hj => ?_, fun j k q hj hk hp1 hq1 => ?_⟩
  · have ne : x ≠ p := fun e => by
      subst e
      rw [h0] at hx
      cases hx
    rw [upd_ne ne]
    exact g0.hh x o nM hx
  · by_cases e : x = p
    · rw [e, upd_same]
      exact fun z => nomatch z
    · rw [upd_ne e]
      exact g0.al x hx
  · by_cases e : j = i
    · subst e
      rw [List.getElem?_set_self hi] at hs
      cases hs
      rw [if_pos rfl]
      exact ⟨p, vs', a, rfl, r⟩
    · rw [if_neg e]
      rw [List.getElem?_set_ne (Ne.symm e)] at hs
      exact O.ok j s hs
  · by_cases e : j = i
    · rw [if_pos e] at hq
      cases List.mem_singleton.mp hq
      exact ⟨upd_same, fp, .inl h0⟩
    · rw [if_neg e] at hq
      rw [List.getElem?_set_ne (Ne.symm e)] at hs
      obtain ⟨x, y, z⟩ := O.at_ j s q o hs hq
      have ne : q ≠ p := fun e2 => by
        subst e2
        exact e (O.ap j i q (List.getElem?_eq_some_iff.mp hs).1 hi (List.mem_map.mpr ⟨_, hq, rfl⟩) (List.mem_map.mpr ⟨_, pin, rfl⟩))
      rw [upd_ne ne]
      exact ⟨x, y, z⟩
  · by_cases e : j = i
    · simp only [if_pos e]
      simp
    · simp only [if_neg e]
      exact O.nd j (hl hj)
  · have mv : ∀ {j : Nat} {q : Addr}, q ∈ ((if j = i then [(p, HO.lst vs')] else L j).map (·.1)) → q ∈ (L j).map (·.1) := fun {j q} h => by
      by_cases e : j = i
      · rw [if_pos e] at h
        rw [e]
        have eq : q = p := by simpa using h
        rw [eq]
        exact List.mem_map.mpr ⟨_, pin, rfl⟩
      · rwa [if_neg e] at h
    exact O.ap j k q (hl hj) (hl hk) (mv hp1) (mv hq1)
/-- from now on the list stays as it is -/
theorem Sts.freeze {i : Nat} {ds : List PyData} (S : Sts K M F0 H0 F H σ ss) (h : ss[i]? = some (.ls ds)) : ∃ F', Ex F F' ∧ (∀ a, (∀ q, σ[i]? = some (some (.ref q)) → a ≠ q) → F a = none → F' a = none) ∧ Sts K M F0 H0 F' H σ (ss.set i (.dt (.list ds))) := by
  obtain ⟨g0, l, L, O⟩ := S
  obtain ⟨p, vs, a, b, c⟩ := O.ok i _ h
  have hi := (List.getElem?_eq_some_iff.mp h).1
  have pin : (p, HO.lst vs) ∈ L i := by rw [b]; exact List.mem_singleton.mpr rfl
  obtain ⟨hp, fp, h0'⟩ := O.at_ i _ p _ h pin
  have h0 : H0 p = none := h0'.resolve_right fun w => nomatch w.2
  have e1 : Ex F (upd F p (.lst vs)) := Ex.new fp
  have hl : ∀ {j}, j < (ss.set i (.dt (.list ds))).length → j < ss.length := fun {j} h => by rwa [List.length_set] at h
  refine ⟨upd F p (.lst vs), e1, fun x hx fx => by rw [upd_ne (hx p a)]; exact fx, ⟨g0.ff.trans e1, g0.hh, fun x u e => ?_, fun x h1 h2 => ?_, g0.al⟩, by rw [List.length_set, l], fun j => if j = i then [] else L j, fun j s hs => ?_, fun j s q o hs hq => ?_, fun j hj => ?_, fun j k q hj hk hp1 hq1 => ?_⟩
  · by_cases q : x = p
    · rw [q, upd_same] at e
      cases e
      rw [q]
      exact hp
    · rw [upd_ne q] at e
      exact g0.fh x u e
  · have q : x ≠ p := fun q => h1 (q ▸ h0)
    rw [upd_ne q]
    exact g0.nw x h1 h2
  · by_cases e : j = i
    · subst e
      rw [List.getElem?_set_self hi] at hs
      cases hs
      rw [if_pos rfl]
      exact ⟨rfl, _, a, .lst (SqL.of upd_same) (dpAll_ex e1 ds vs c)⟩
    · rw [if_neg e]
      rw [List.getElem?_set_ne (Ne.symm e)] at hs
      exact (O.ok j s hs).ex e1
  · by_cases e : j = i
    · rw [if_pos e] at hq
      cases hq
    · rw [if_neg e] at hq
      rw [List.getElem?_set_ne (Ne.symm e)] at hs
      obtain ⟨x, y, z⟩ := O.at_ j s q o hs hq
      have ne : q ≠ p := fun e2 => by
        subst e2
        exact e (O.ap j i q (List.getElem?_eq_some_iff.mp hs).1 hi (List.mem_map.mpr ⟨_, hq, rfl⟩) (List.mem_map.mpr ⟨_, pin, rfl⟩))
      rw [upd_ne ne]
      exact ⟨x, y, z⟩
  · by_cases e : j = i
    · simp only [if_pos e]
      exact .nil
    · simp only [if_neg e]
      exact O.nd j (hl hj)
  · have mv : ∀ {j : Nat} {q : Addr}, q ∈ ((if j = i then [] else L j).map (·.1)) → q ∈ (L j).map (·.1) := fun {j q} h => by
      by_cases e : j = i
      · rw [if_pos e] at h
        cases h
      · rwa [if_neg e] at h
    exact O.ap j k q (hl hj) (hl hk) (mv hp1) (mv hq1)
end
end Fh
set_option Elab.async false
set_option linter.all false
set_option maxRecDepth 100000
set_option maxHeartbeats 2000000
namespace Fh
open PySem PySem.Spec PyProof.Rows L2 Evl
open PySem.W (Datum)

/-! ### expressions over the slots: what they give is a slot more -/
/-- a list that is told as such is new -/
def NewR (H : Hp) (v : V) : Sl → Prop
  | .ls _ => ∃ p, v = .ref p ∧ H p = none
  | _ => True
theorem NewR.back {H H' : Hp} {v : V} (e : Ex H H') : ∀ {r : Sl}, NewR H' v r → NewR H v r
  | .ls _, ⟨p, a, b⟩ => ⟨p, a, fresh_back e b⟩
  | .no, h => h
  | .dt _, h => h
  | .al _, h => h
  | .fx _, h => h
  | .mu _, h => h
def EvR (K : PySem.W.Frag) (te : TE) (ss : List Sl) (r : Sl) : Prop := ∀ (M : Addr → Prop) (F0 H0 F H : Hp) (σ xs : L2.St) (ts : List Sl), σ.length = ss.length → Sts K M F0 H0 F H (σ ++ xs) (ss ++ ts) →
  ∀ Q : VK, (∀ v F' H', Gr F H F' H' → NewR H v r → Sts K M F0 H0 F' H' (σ ++ (xs ++ [some v])) (ss ++ (ts ++ [r])) → Q v H') → te σ H Q
def TvR (K : PySem.W.Frag) (tt : TT) (ss : List Sl) (b : Bool) : Prop := ∀ (M : Addr → Prop) (F0 H0 F H : Hp) (σ xs : L2.St) (ts : List Sl), σ.length = ss.length → Sts K M F0 H0 F H (σ ++ xs) (ss ++ ts) →
  ∀ Q : Bool → Hp → Prop, (∀ F' H', Gr F H F' H' → Sts K M F0 H0 F' H' (σ ++ xs) (ss ++ ts) → Q b H') → tt σ H Q
def AvR (K : PySem.W.Frag) (ta : TA) (ss rs : List Sl) : Prop := ∀ (M : Addr → Prop) (F0 H0 F H : Hp) (σ xs : L2.St) (ts : List Sl), σ.length = ss.length → Sts K M F0 H0 F H (σ ++ xs) (ss ++ ts) →
  ∀ Q : List V → Hp → Prop, (∀ vs F' H', vs.length = rs.length → Gr F H F' H' → Sts K M F0 H0 F' H' (σ ++ (xs ++ vs.map some)) (ss ++ (ts ++ rs)) → Q vs H') → ta σ H Q
/-- v may be handed to whoever stands at F, H as a thing told by r -/
def RetR (K : PySem.W.Frag) (F H : Hp) (r : Sl) (Q : VK) : Prop := ∀ v F' H', (∀ (M : Addr → Prop) (F0 H0 : Hp) (σ : L2.St) (ss : List Sl), Sts K M F0 H0 F H σ ss → Sts K M F0 H0 F' H' (σ ++ [some v]) (ss ++ [r])) → Q v H'
/-- what v reads as, now -/
def VwD (K : PySem.W.Frag) (F H : Hp) (v : V) (d : PyData) : Prop := Dp K F v d ∨ ∃ ds, d = .list ds ∧ RdL K F H v ds

section
variable {K : PySem.W.Frag} {M : Addr → Prop} {F0 H0 F H F' H' : Hp} {σ xs : L2.St} {ss ts : List Sl} {ta tb te tc : TE} {t u : TT} {r ra rb : Sl} {d da db : PyData} {ds : List PyData} {Q : VK} {v x y : V}
theorem RetR.dt (k : RetR K F H (.dt d) Q) (h : Dp K F v d) : Q v H := k v F H fun _ _ _ _ _ S => S.push_dt h
theorem RetR.dtE (k : RetR K F H (.dt d) Q) (e : Ex H H') (h : Dp K F v d) : Q v H' := k v F H' fun _ _ _ _ _ S => (S.grow (Gr.of S.fh e)).push_dt h
theorem RetR.int {i : Int} (k : RetR K F H (.dt (.int i)) Q) : Q (.int i) H := k.dt (.int i)
theorem RetR.bl {b : Bool} (k : RetR K F H (.dt (.bool b)) Q) : Q (.bl b) H := k.dt (.bl b)
theorem RetR.str {b : Str} (k : RetR K F H (.dt (.str b)) Q) : Q (.str b) H := k.dt (.str b)
theorem RetR.non (k : RetR K F H (.dt .none) Q) : Q .non H := k.dt .non
/-- a new tuple of what reads so -/
theorem RetR.tup (k : RetR K F H (.dt (.tuple ds)) Q) {vs : List V} (h : DpAll K F vs ds) {p : Addr} (hp : H p = none) : Q (.ref p) (upd H p (.tup vs)) :=
  k _ (upd F p (.tup vs)) _ fun _ _ _ _ _ S => by
    have e := fresh_back S.fh hp
    exact (S.grow (Gr.newI S.fh hp)).push_dt (.tup (SqT.of upd_same) (dpAll_ex (Ex.new e) ds vs h))
/-- a new list -/
theorem RetR.lst (k : RetR K F H (.ls ds) Q) {vs : List V} (h : DpAll K F vs ds) {p : Addr} (hp : H p = none) : Q (.ref p) (upd H p (.lst vs)) :=
  k _ F _ fun _ _ _ _ _ S => S.push_ls (Ex.new hp) hp upd_same h
/-- a new list, as data -/
theorem RetR.lstD (k : RetR K F H (.dt (.list ds)) Q) {vs : List V} (h : DpAll K F vs ds) {p : Addr} (hp : H p = none) : Q (.ref p) (upd H p (.lst vs)) :=
  k _ (upd F p (.lst vs)) _ fun _ _ _ _ _ S => by
    have e := fresh_back S.fh hp
    exact (S.grow (Gr.newI S.fh hp)).push_dt (.lst (SqL.of upd_same) (dpAll_ex (Ex.new e) ds vs h))
theorem vw_app (h : vw ss r = some d) : vw (ss ++ ts) r = some d := by
  cases r with
  | al j =>
    unfold vw at h ⊢
    simp only at h ⊢
    cases e : ss[j]? with
    | none => rw [e] at h; cases h
    | some s =>
      rw [List.getElem?_append_left (List.getElem?_eq_some_iff.mp e).1, e]
      rw [e] at h
      exact h
  | _ => exact h
/-- the state's last slot, seen -/
theorem Sts.lastV (S : Sts K M F0 H0 F H (σ ++ (xs ++ [some v])) (ss ++ (ts ++ [r]))) (l : (σ ++ xs).length = (ss ++ ts).length) (h : vw ss r = some d) : VwD K F H v d := by
  rw [← List.append_assoc, ← List.append_assoc] at S
  obtain ⟨w, a, b⟩ := S.view (i := (ss ++ ts).length) (by rw [List.getElem?_append_right (Nat.le_refl _), Nat.sub_self]; rfl) (vw_app (vw_app (ts := ts) h))
  rw [← l, List.getElem?_append_right (Nat.le_refl _), Nat.sub_self] at a
  cases a
  exact b
theorem Sts.len2 (S : Sts K M F0 H0 F H (σ ++ xs) (ss ++ ts)) : (σ ++ xs).length = (ss ++ ts).length := S.len
theorem Sts.back (S : Sts K M F0 H0 F H (σ ++ (xs ++ [some v])) (ss ++ (ts ++ [r]))) (l : (σ ++ xs).length = (ss ++ ts).length) : Sts K M F0 H0 F H (σ ++ xs) (ss ++ ts) := by
  rw [← List.append_assoc, ← List.append_assoc] at S
  exact S.drop l
theorem VwD.dp (h : VwD K F H v d) (e : Ex F H) : Dp K H v d := by
  rcases h with h | ⟨ds, rfl, h⟩
  · exact dp_ex e d v h
  · exact h.dp e
theorem VwD.lst (h : VwD K F H v (.list ds)) (e : Ex F H) : RdL K F H v ds := by
  rcases h with h | ⟨ds', q, h⟩
  · exact rdL_of h e
  · cases q
    exact h
theorem VwD.tup (h : VwD K F H v (.tuple ds)) (e : Ex F H) : RdT K F H v ds := by
  rcases h with h | ⟨ds', q, h⟩
  · exact rdT_of h e
  · cases q
theorem VwD.int {i : Int} (h : VwD K F H v (.int i)) : v = .int i := by
  rcases h with h | ⟨ds', q, h⟩
  · cases h; rfl
  · cases q
theorem VwD.bl {i : Bool} (h : VwD K F H v (.bool i)) : v = .bl i := by
  rcases h with h | ⟨ds', q, h⟩
  · cases h; rfl
  · cases q
theorem VwD.str {i : Str} (h : VwD K F H v (.str i)) : v = .str i := by
  rcases h with h | ⟨ds', q, h⟩
  · cases h; rfl
  · cases q
theorem VwD.non (h : VwD K F H v .none) : v = .non := by
  rcases h with h | ⟨ds', q, h⟩
  · cases h; rfl
  · cases q
theorem Dp.grow {v : V} (e : Ex F F') (h : Dp K F v d) : Dp K F' v d := dp_ex e d v h
theorem RdL.grow {v : V} (e : Ex F F') (e2 : Ex H H') (h : RdL K F H v ds) : RdL K F' H' v ds := by
  obtain ⟨p, vs, a, b, c⟩ := h
  exact ⟨p, vs, a, ex_l e2 b, dpAll_ex e ds vs c⟩
theorem VwD.grow {v : V} (e : Ex F F') (e2 : Ex H H') (h : VwD K F H v d) : VwD K F' H' v d := by
  rcases h with h | ⟨ds, a, b⟩
  · exact .inl (dp_ex e d v h)
  · exact .inr ⟨ds, a, b.grow e e2⟩
/-- the contract, for a state with slots -/
theorem RetR.mk {F1 H1 : Hp} (g : Gr F1 H1 F H) (S : Sts K M F0 H0 F H (σ ++ xs) (ss ++ ts)) (q : ∀ v F' H', Gr F1 H1 F' H' → NewR H1 v r → Sts K M F0 H0 F' H' (σ ++ (xs ++ [some v])) (ss ++ (ts ++ [r])) → Q v H') : RetR K F H r Q := fun v F' H' k => by
  have S' := k M F0 H0 _ _ S
  rw [List.append_assoc, List.append_assoc] at S'
  have S0 : Sts K (fun _ => False) F H F H [] [] := ⟨(Gr.refl S.fh).toM, rfl, fun _ => [], by intro i s h; simp at h, by intro i s p o h; simp at h, fun i h => by simp at h, fun i j p h => by simp at h⟩
  have S1 := k _ _ _ _ _ S0
  refine q v F' H' (g.trans S1.gr.toGr) ?_ S'
  cases r with
  | ls ds =>
    obtain ⟨p, vs, a, _, _, _, hp⟩ := S1.get_ls (i := 0) rfl
    cases a
    exact NewR.back g.hh ⟨p, rfl, hp⟩
  | _ => exact trivial
theorem RetR.mk0 (S : Sts K M F0 H0 F H (σ ++ xs) (ss ++ ts)) (q : ∀ v F' H', Gr F H F' H' → NewR H v r → Sts K M F0 H0 F' H' (σ ++ (xs ++ [some v])) (ss ++ (ts ++ [r])) → Q v H') : RetR K F H r Q := RetR.mk (Gr.refl S.fh) S q

theorem ev_c {v : V} (h : ∀ F, Dp K F v d) : EvR K (tC v) ss (.dt d) := fun M F0 H0 F H σ xs ts l S Q q => (RetR.mk0 S q).dt (h F)
theorem ev_int {i : Int} : EvR K (tC (.int i)) ss (.dt (.int i)) := ev_c fun _ => .int i
theorem ev_bl {i : Bool} : EvR K (tC (.bl i)) ss (.dt (.bool i)) := ev_c fun _ => .bl i
theorem ev_str {i : Str} : EvR K (tC (.str i)) ss (.dt (.str i)) := ev_c fun _ => .str i
theorem ev_non : EvR K (tC .non) ss (.dt .none) := ev_c fun _ => .non
theorem ev_var {i : Nat} (h : ss[i]? = some (.dt d)) : EvR K (tVar i) ss (.dt d) := fun M F0 H0 F H σ xs ts l S Q q => by
  have hi := (List.getElem?_eq_some_iff.mp h).1
  obtain ⟨v, a, b⟩ := S.get_dt (i := i) (by rw [List.getElem?_append_left hi]; exact h)
  rw [List.getElem?_append_left (by omega)] at a
  exact ⟨v, a, (RetR.mk0 S q).dt b⟩
theorem ev_varA {i : Nat} (h : ss[i]? = some (.ls ds)) : EvR K (tVar i) ss (.al i) := fun M F0 H0 F H σ xs ts l S Q q => by
  have hi := (List.getElem?_eq_some_iff.mp h).1
  obtain ⟨p, vs, a, _⟩ := S.get_ls (i := i) (by rw [List.getElem?_append_left hi]; exact h)
  have a' := a
  rw [List.getElem?_append_left (by omega)] at a
  refine ⟨_, a, q _ F H (Gr.refl S.fh) trivial ?_⟩
  have S2 := S.push_al a'
  rw [List.append_assoc, List.append_assoc] at S2
  exact S2
theorem ev_varX {i : Nat} {φ : Hp → V → Prop} (h : ss[i]? = some (.fx φ)) : EvR K (tVar i) ss (.fx φ) := fun M F0 H0 F H σ xs ts l S Q q => by
  have hi := (List.getElem?_eq_some_iff.mp h).1
  obtain ⟨v, a, b⟩ := S.get_fx (i := i) (by rw [List.getElem?_append_left hi]; exact h)
  rw [List.getElem?_append_left (by omega)] at a
  refine ⟨v, a, q _ F H (Gr.refl S.fh) trivial ?_⟩
  have S2 := S.push_fx b
  rw [List.append_assoc, List.append_assoc] at S2
  exact S2
/-- a new list, told as data from now on -/
theorem EvR.frz (h : EvR K te ss (.ls ds)) : EvR K te ss (.dt (.list ds)) := fun M F0 H0 F H σ xs ts l S Q q => by
  refine h M F0 H0 F H σ xs ts l S Q fun v F' H' g n S' => ?_
  have l2 := S.len2
  rw [← List.append_assoc, ← List.append_assoc] at S'
  obtain ⟨p, rfl, hp⟩ := n
  obtain ⟨F2, e2, f2, S2⟩ := S'.freeze (i := (ss ++ ts).length) (ds := ds) (by rw [List.getElem?_append_right (Nat.le_refl _), Nat.sub_self]; rfl)
  rw [List.set_append_right _ _ (Nat.le_refl _), Nat.sub_self, List.append_assoc, List.append_assoc] at S2
  refine q _ F2 H' ⟨g.ff.trans e2, g.hh, S2.fh, fun a h1 h2 => f2 a (fun q ea => ?_) (g.nw a h1 h2)⟩ trivial S2
  rw [← l2, List.getElem?_append_right (Nat.le_refl _), Nat.sub_self] at ea
  cases ea
  exact fun e => h1 (e ▸ hp)
/-- two operands, by what they read as -/
theorem ev_op {o : R2} (ha : EvR K ta ss ra) (hb : EvR K tb ss rb) (va : vw ss ra = some da) (vb : vw ss rb = some db)
    (hr : ∀ F H x y Q, Ex F H → VwD K F H x da → VwD K F H y db → RetR K F H r Q → o x y H Q) : EvR K (tOp o ta tb) ss r := fun M F0 H0 F H σ xs ts l S Q q => by
  refine ha M F0 H0 F H σ xs ts l S _ fun x F1 H1 g1 n1 S1 => ?_
  refine hb M F0 H0 F1 H1 σ (xs ++ [some x]) (ts ++ [ra]) l S1 _ fun y F2 H2 g2 n2 S2 => ?_
  have l1 := S.len2
  have l2 := S1.len2
  have hy := S2.lastV l2 vb
  have S3 := S2.back l2
  have hx := S3.lastV l1 va
  exact hr F2 H2 x y Q S3.fh hx hy (RetR.mk (g1.trans g2) (S3.back l1) q)
theorem ev_un {o : V → Hp → VK → Prop} (ha : EvR K ta ss ra) (va : vw ss ra = some da) (hr : ∀ F H x Q, Ex F H → VwD K F H x da → RetR K F H r Q → o x H Q) : EvR K (tUn o ta) ss r := fun M F0 H0 F H σ xs ts l S Q q => by
  refine ha M F0 H0 F H σ xs ts l S _ fun x F1 H1 g1 n1 S1 => ?_
  have l1 := S.len2
  have hx := S1.lastV l1 va
  exact hr F1 H1 x Q S1.fh hx (RetR.mk g1 (S1.back l1) q)
end
end Fh
set_option Elab.async false
set_option linter.all false
set_option maxRecDepth 100000
set_option maxHeartbeats 2000000
namespace Fh
open PySem PySem.Spec PyProof.Rows L2 Evl
open PySem.W (Datum)

section
variable {K : PySem.W.Frag} {M : Addr → Prop} {F0 H0 F H F' H' : Hp} {σ xs : L2.St} {ss ts rs : List Sl} {ta tb te tc : TE} {tr : TA} {t u : TT} {r ra rb : Sl} {d da db : PyData} {ds : List PyData} {Q : VK} {v x y : V}
/-! ### argument lists -/
theorem av_nil : AvR K tNil ss [] := fun M F0 H0 F H σ xs ts l S Q q => q [] F H rfl (Gr.refl S.fh) (by simpa using S)
theorem av_cons (h : EvR K te ss r) (hr : AvR K tr ss rs) : AvR K (tCons te tr) ss (r :: rs) := fun M F0 H0 F H σ xs ts l S Q q => by
  refine h M F0 H0 F H σ xs ts l S _ fun v F1 H1 g1 n1 S1 => ?_
  refine hr M F0 H0 F1 H1 σ (xs ++ [some v]) (ts ++ [r]) l S1 _ fun vs F2 H2 hl g2 S2 => ?_
  refine q (v :: vs) F2 H2 (by rw [List.length_cons, List.length_cons, hl]) (g1.trans g2) ?_
  rw [List.append_assoc, List.append_assoc] at S2
  exact S2
/-- what the arguments read as -/
def vws (ss : List Sl) : List Sl → Option (List PyData)
  | [] => some []
  | r :: rs => match vw ss r with
    | some d => match vws ss rs with
      | some ds => some (d :: ds)
      | none => none
    | none => none
def dts : List Sl → Option (List PyData)
  | [] => some []
  | .dt d :: rs => match dts rs with
    | some ds => some (d :: ds)
    | none => none
  | _ :: _ => none
inductive VwA (K : PySem.W.Frag) (F H : Hp) : List V → List PyData → Prop where
  | nil : VwA K F H [] []
  | cons {v : V} {vs : List V} {d : PyData} {ds : List PyData} : VwD K F H v d → VwA K F H vs ds → VwA K F H (v :: vs) (d :: ds)
theorem Sts.argsV : ∀ {rs : List Sl} {vs : List V} {ds : List PyData} {xs : L2.St} {ts : List Sl}, Sts K M F0 H0 F H (σ ++ (xs ++ vs.map some)) (ss ++ (ts ++ rs)) → (σ ++ xs).length = (ss ++ ts).length → vs.length = rs.length → vws ss rs = some ds → VwA K F H vs ds
  | [], [], ds, _, _, _, _, _, h => by
    cases h
    exact .nil
  | [], _ :: _, _, _, _, _, _, hl, _ => by simp at hl
  | _ :: _, [], _, _, _, _, _, hl, _ => by simp at hl
  | r :: rs, v :: vs, ds, xs, ts, S, l, hl, h => by
    unfold vws at h
    cases e : vw ss r with
    | none => rw [e] at h; cases h
    | some d =>
      rw [e] at h
      simp only at h
      cases e2 : vws ss rs with
      | none => rw [e2] at h; cases h
      | some ds' =>
        rw [e2] at h
        cases h
        have S2 : Sts K M F0 H0 F H (σ ++ ((xs ++ [some v]) ++ vs.map some)) (ss ++ ((ts ++ [r]) ++ rs)) := by
          rw [List.append_assoc, List.append_assoc]
          exact S
        have l2 : (σ ++ (xs ++ [some v])).length = (ss ++ (ts ++ [r])).length := by
          simp only [List.length_append, List.length_cons, List.length_nil] at l ⊢
          omega
        have S3 : Sts K M F0 H0 F H (σ ++ (xs ++ [some v])) (ss ++ (ts ++ [r])) := by
          rw [← List.append_assoc σ, ← List.append_assoc ss] at S2
          exact S2.drop l2
        exact .cons (S3.lastV l e) (Sts.argsV S2 l2 (by simpa using hl) e2)
theorem Sts.backA {vs : List V} (S : Sts K M F0 H0 F H (σ ++ (xs ++ vs.map some)) (ss ++ (ts ++ rs))) (l : (σ ++ xs).length = (ss ++ ts).length) : Sts K M F0 H0 F H (σ ++ xs) (ss ++ ts) := by
  rw [← List.append_assoc, ← List.append_assoc] at S
  exact S.drop l
theorem vws_dts : ∀ {rs : List Sl} {ds : List PyData}, dts rs = some ds → vws ss rs = some ds
  | [], ds, h => h
  | .dt d :: rs, ds, h => by
    unfold dts at h
    cases e : dts rs with
    | none => rw [e] at h; cases h
    | some ds' =>
      rw [e] at h
      cases h
      unfold vws vw
      simp only
      rw [vws_dts e]
  | .no :: _, _, h => by cases h
  | .ls _ :: _, _, h => by cases h
  | .al _ :: _, _, h => by cases h
  | .fx _ :: _, _, h => by cases h
  | .mu _ :: _, _, h => by cases h
theorem Sts.argsD : ∀ {rs : List Sl} {vs : List V} {ds : List PyData} {xs : L2.St} {ts : List Sl}, Sts K M F0 H0 F H (σ ++ (xs ++ vs.map some)) (ss ++ (ts ++ rs)) → (σ ++ xs).length = (ss ++ ts).length → vs.length = rs.length → dts rs = some ds → DpAll K F vs ds
  | [], [], ds, _, _, _, _, _, h => by
    cases h
    exact .nil
  | [], _ :: _, _, _, _, _, _, hl, _ => by simp at hl
  | _ :: _, [], _, _, _, _, _, hl, _ => by simp at hl
  | .no :: _, _ :: _, _, _, _, _, _, _, h => by cases h
  | .ls _ :: _, _ :: _, _, _, _, _, _, _, h => by cases h
  | .al _ :: _, _ :: _, _, _, _, _, _, _, h => by cases h
  | .fx _ :: _, _ :: _, _, _, _, _, _, _, h => by cases h
  | .mu _ :: _, _ :: _, _, _, _, _, _, _, h => by cases h
  | .dt d :: rs, v :: vs, ds, xs, ts, S, l, hl, h => by
    unfold dts at h
    cases e : dts rs with
    | none => rw [e] at h; cases h
    | some ds' =>
      rw [e] at h
      cases h
      have S2 : Sts K M F0 H0 F H (σ ++ ((xs ++ [some v]) ++ vs.map some)) (ss ++ ((ts ++ [.dt d]) ++ rs)) := by
        rw [List.append_assoc, List.append_assoc]
        exact S
      have l2 : (σ ++ (xs ++ [some v])).length = (ss ++ (ts ++ [Sl.dt d])).length := by
        simp only [List.length_append, List.length_cons, List.length_nil] at l ⊢
        omega
      have S3 : Sts K M F0 H0 F H (σ ++ (xs ++ [some v])) (ss ++ (ts ++ [.dt d])) := by
        rw [← List.append_assoc σ, ← List.append_assoc ss] at S2
        exact S2.drop l2
      refine .cons ?_ (Sts.argsD S2 l2 (by simpa using hl) e)
      rw [← List.append_assoc, ← List.append_assoc] at S3
      obtain ⟨w, a, b⟩ := S3.get_dt (i := (ss ++ ts).length) (by rw [List.getElem?_append_right (Nat.le_refl _), Nat.sub_self]; rfl)
      rw [← l, List.getElem?_append_right (Nat.le_refl _), Nat.sub_self] at a
      cases a
      exact b
/-- a built-in's call, by what its arguments read as -/
theorem ev_cb {o : List V → Hp → VK → Prop} (ha : AvR K tr ss rs) (va : vws ss rs = some ds) (hr : ∀ F H vs Q, Ex F H → VwA K F H vs ds → RetR K F H r Q → o vs H Q) : EvR K (tCB o tr) ss r := fun M F0 H0 F H σ xs ts l S Q q => by
  refine ha M F0 H0 F H σ xs ts l S _ fun vs F1 H1 hl g1 S1 => ?_
  have l1 := S.len2
  exact hr F1 H1 vs Q S1.fh (S1.argsV l1 hl va) (RetR.mk g1 (S1.backA l1) q)
/-! ### a def's promise over data -/
/-- what a def is worth: R what it hands back, X what it raises -/
def spF (K : PySem.W.Frag) (R : List PyData → Sl → Prop) (X : List PyData → Addr → Prop) : Sp := fun vs H Q E => ∃ F ds, Ex F H ∧ DpAll K F vs ds ∧
  ((∃ r, R ds r ∧ RetR K F H r Q) ∨ (∃ C, X ds C ∧ ∀ H', Ex H H' → E (.ref C) none H'))
abbrev noX : List PyData → Addr → Prop := fun _ _ => False
theorem dpAll_app : ∀ {vs ws : List V} {ds es : List PyData}, DpAll K F vs ds → DpAll K F ws es → DpAll K F (vs ++ ws) (ds ++ es)
  | _, _, _, _, .nil, h => h
  | _, _, _, _, .cons a b, h => .cons a (dpAll_app b h)
theorem dpAll_len : ∀ {vs : List V} {ds : List PyData}, DpAll K F vs ds → vs.length = ds.length
  | _, _, .nil => rfl
  | _, _, .cons a b => by rw [List.length_cons, List.length_cons, dpAll_len b]
/-- a call of such a def; all arguments data -/
theorem ev_call {R : List PyData → Sl → Prop} {X : List PyData → Addr → Prop} {dvs : List V} {es : List PyData} {E : XK} (ha : AvR K tr ss rs) (va : dts rs = some ds) (hd : ∀ F, DpAll K F dvs es) (h : R (ds ++ es) r) : EvR K (tCall (spF K R X) dvs E tr) ss r := fun M F0 H0 F H σ xs ts l S Q q => by
  refine ha M F0 H0 F H σ xs ts l S _ fun vs F1 H1 hl g1 S1 => ?_
  have l1 := S.len2
  exact ⟨F1, _, S1.fh, dpAll_app (S1.argsD l1 hl va) (hd F1), .inl ⟨r, h, RetR.mk g1 (S1.backA l1) q⟩⟩
theorem ev_call0 {R : List PyData → Sl → Prop} {X : List PyData → Addr → Prop} {E : XK} (ha : AvR K tr ss rs) (va : dts rs = some ds) (h : R ds r) : EvR K (tCall (spF K R X) [] E tr) ss r := by
  refine ev_call (es := []) ha va (fun F => .nil) ?_
  rw [List.append_nil]
  exact h
/-- flat data: nothing of the heap -/
def flatD : PyData → Bool
  | .none | .bool _ | .int _ | .str _ => true
  | _ => false
theorem dp_flat : ∀ {d : PyData} {v : V}, flatD d = true → Dp K F v d → ∀ {F' : Hp}, Dp K F' v d
  | .none, _, _, h, _ => by cases h; exact .non
  | .bool _, _, _, h, _ => by cases h; exact .bl _
  | .int _, _, _, h, _ => by cases h; exact .int _
  | .str _, _, _, h, _ => by cases h; exact .str _
  | .list _, _, h, _, _ => by cases h
  | .tuple _, _, h, _, _ => by cases h
  | .dict _, _, h, _, _ => by cases h
theorem dpAll_flat : ∀ {ds : List PyData} {vs : List V}, ds.all flatD = true → DpAll K F vs ds → ∀ {F' : Hp}, DpAll K F' vs ds
  | [], _, _, h, _ => by cases h; exact .nil
  | d :: ds, _, h, h', _ => by
    cases h' with
    | cons a b =>
      rw [List.all_cons, Bool.and_eq_true] at h
      exact .cons (dp_flat h.1 a) (dpAll_flat h.2 b)
def flatR : Sl → Bool
  | .dt d => flatD d
  | .ls ds => ds.all flatD
  | _ => false
/-- a flat answer leans on nothing that was handed in -/
theorem RetR.flat {Fc : Hp} (k : RetR K F H r Q) (fr : flatR r = true) (e : Ex F H) (ec : Ex Fc H) : RetR K Fc H r Q := fun v F' H' g => by
  have S0 : Sts K (fun _ => False) Fc H Fc H [] [] := ⟨(Gr.refl ec).toM, rfl, fun _ => [], by intro i s h; simp at h, by intro i s p o h; simp at h, fun i h => by simp at h, fun i j p h => by simp at h⟩
  have S1 := g _ _ _ _ _ S0
  have hh : Ex H H' := S1.gr.toGr.hh
  cases r with
  | no => cases fr
  | al j => cases fr
  | fx φ => cases fr
  | mu ψ => cases fr
  | dt d =>
    obtain ⟨w, a, b⟩ := S1.get_dt (i := 0) rfl
    cases a
    exact k.dtE hh (dp_flat fr b)
  | ls ds =>
    obtain ⟨p, vs, a, b, c, _, hp⟩ := S1.get_ls (i := 0) rfl
    cases a
    exact k _ F H' fun _ _ _ _ _ S => S.push_ls hh hp c (dpAll_flat fr b)
theorem vwA_dp : ∀ {vs : List V} {ds : List PyData}, VwA K F H vs ds → Ex F H → DpAll K H vs ds
  | _, _, .nil, _ => .nil
  | _, _, .cons a b, e => .cons (a.dp e) (vwA_dp b e)
/-- a call of such a def: whatever the arguments are, the answer flat -/
theorem ev_callF {R : List PyData → Sl → Prop} {X : List PyData → Addr → Prop} {dvs : List V} {es : List PyData} {E : XK} (ha : AvR K tr ss rs) (va : vws ss rs = some ds) (hd : ∀ F, DpAll K F dvs es) (h : R (ds ++ es) r) (fr : flatR r = true) : EvR K (tCall (spF K R X) dvs E tr) ss r := fun M F0 H0 F H σ xs ts l S Q q => by
  refine ha M F0 H0 F H σ xs ts l S _ fun vs F1 H1 hl g1 S1 => ?_
  have l1 := S.len2
  exact ⟨H1, _, Ex.refl H1, dpAll_app (vwA_dp (S1.argsV l1 hl va) S1.fh) (hd H1), .inl ⟨r, h, (RetR.mk g1 (S1.backA l1) q).flat fr S1.fh (Ex.refl H1)⟩⟩
theorem ev_callF0 {R : List PyData → Sl → Prop} {X : List PyData → Addr → Prop} {E : XK} (ha : AvR K tr ss rs) (va : vws ss rs = some ds) (h : R ds r) (fr : flatR r = true) : EvR K (tCall (spF K R X) [] E tr) ss r := by
  refine ev_callF (es := []) ha va (fun F => .nil) ?_ fr
  rw [List.append_nil]
  exact h

/-! ### numbers -/
theorem ev_ii {f : Int → Int → Int} {i j : Int} (ha : EvR K ta ss (.dt (.int i))) (hb : EvR K tb ss (.dt (.int j))) : EvR K (tOp (rI0 fun i j => .int (f i j)) ta tb) ss (.dt (.int (f i j))) :=
  ev_op ha hb rfl rfl fun F H x y Q e hx hy k => ⟨i, j, hx.int, hy.int, k.int⟩
theorem ev_ib {f : Int → Int → Bool} {i j : Int} (ha : EvR K ta ss (.dt (.int i))) (hb : EvR K tb ss (.dt (.int j))) : EvR K (tOp (rI0 fun i j => .bl (f i j)) ta tb) ss (.dt (.bool (f i j))) :=
  ev_op ha hb rfl rfl fun F H x y Q e hx hy k => ⟨i, j, hx.int, hy.int, k.bl⟩
theorem ev_iC {C : Int → Int → Prop} {f : Int → Int → Int} {i j : Int} (ha : EvR K ta ss (.dt (.int i))) (hb : EvR K tb ss (.dt (.int j))) (hc : C i j) : EvR K (tOp (rI C fun i j => .int (f i j)) ta tb) ss (.dt (.int (f i j))) :=
  ev_op ha hb rfl rfl fun F H x y Q e hx hy k => ⟨i, j, hx.int, hy.int, hc, k.int⟩
theorem ev_u {f : Int → Int} {i : Int} (ha : EvR K ta ss (.dt (.int i))) : EvR K (tUn (rU fun i => .int (f i)) ta) ss (.dt (.int (f i))) :=
  ev_un ha rfl fun F H x Q e hx k => ⟨i, hx.int, k.int⟩
/-! ### ==, != of data -/
def rEqP (K : PySem.W.Frag) : R2 := fun x y H Q => ∃ d e, Dp K H x d ∧ Dp K H y e ∧ d.plain = true ∧ e.plain = true ∧ d.depth ≤ 60 ∧ Q (.bl (PyData.eqv d e)) H
def rNeP (K : PySem.W.Frag) : R2 := fun x y H Q => ∃ d e, Dp K H x d ∧ Dp K H y e ∧ d.plain = true ∧ e.plain = true ∧ d.depth ≤ 60 ∧ Q (.bl (!PyData.eqv d e)) H
theorem op_eqP {X : Cx} (hu : X.A.units + 64 < cLine) : OpR X (compareOp .Eq) (rEqP X.K) := by
  intro pins s σ H x y v u Q I rx ry h
  obtain ⟨d, e, hd, he, sd, se, dd, q⟩ := h
  obtain ⟨as, r1⟩ := Dp.reads I d x v hd rx
  obtain ⟨bs, r2⟩ := Dp.reads I e y u he ry
  exact PySem.SeqAt.eq_plain r1 r2 sd se (PySem.W.room_datum (k := 60) dd (by omega)) ⟨.bl _, H, I, rfl, q⟩
theorem op_neP {X : Cx} (hu : X.A.units + 64 < cLine) : OpR X (compareOp .NotEq) (rNeP X.K) := by
  intro pins s σ H x y v u Q I rx ry h
  obtain ⟨d, e, hd, he, sd, se, dd, q⟩ := h
  obtain ⟨as, r1⟩ := Dp.reads I d x v hd rx
  obtain ⟨bs, r2⟩ := Dp.reads I e y u he ry
  exact PySem.SeqAt.ne_plain r1 r2 sd se (PySem.W.room_datum (k := 60) dd (by omega)) ⟨.bl _, H, I, rfl, q⟩
theorem ev_eqP (ha : EvR K ta ss ra) (hb : EvR K tb ss rb) (va : vw ss ra = some da) (vb : vw ss rb = some db) (h1 : da.plain = true) (h2 : db.plain = true) (h3 : da.depth ≤ 60) : EvR K (tOp (rEqP K) ta tb) ss (.dt (.bool (PyData.eqv da db))) :=
  ev_op ha hb va vb fun F H x y Q e hx hy k => ⟨da, db, hx.dp e, hy.dp e, h1, h2, h3, k.bl⟩
theorem ev_neP (ha : EvR K ta ss ra) (hb : EvR K tb ss rb) (va : vw ss ra = some da) (vb : vw ss rb = some db) (h1 : da.plain = true) (h2 : db.plain = true) (h3 : da.depth ≤ 60) : EvR K (tOp (rNeP K) ta tb) ss (.dt (.bool (!PyData.eqv da db))) :=
  ev_op ha hb va vb fun F H x y Q e hx hy k => ⟨da, db, hx.dp e, hy.dp e, h1, h2, h3, k.bl⟩
/-- .. of things of one Lean type -/
theorem ev_eqT {α : Type} [DecidableEq α] [Datum α] {a b : α} (ha : EvR K ta ss ra) (hb : EvR K tb ss rb) (va : vw ss ra = some (Datum.toD a)) (vb : vw ss rb = some (Datum.toD b)) (hd : Datum.depth α ≤ 60 := by decide) : EvR K (tOp (rEqP K) ta tb) ss (.dt (.bool (decide (a = b)))) := by
  rw [← Datum.eqv a b]
  exact ev_eqP ha hb va vb (Datum.plain a) (Datum.plain b) (Nat.le_trans (Datum.depth_le a) hd)
theorem ev_neT {α : Type} [DecidableEq α] [Datum α] {a b : α} (ha : EvR K ta ss ra) (hb : EvR K tb ss rb) (va : vw ss ra = some (Datum.toD a)) (vb : vw ss rb = some (Datum.toD b)) (hd : Datum.depth α ≤ 60 := by decide) : EvR K (tOp (rNeP K) ta tb) ss (.dt (.bool (!decide (a = b)))) := by
  rw [← Datum.eqv a b]
  exact ev_neP ha hb va vb (Datum.plain a) (Datum.plain b) (Nat.le_trans (Datum.depth_le a) hd)
/-! ### items -/
theorem dpAll_get : ∀ {vs : List V} {ds : List PyData} {j : Nat} {d : PyData}, DpAll K F vs ds → ds[j]? = some d → ∃ v, vs[j]? = some v ∧ Dp K F v d
  | _, [], _, _, _, h => by simp at h
  | _, e :: ds, 0, d, h, h2 => by
    cases h with
    | cons a b =>
      cases Option.some.inj h2
      exact ⟨_, rfl, a⟩
  | _, e :: ds, j + 1, d, h, h2 => by
    cases h with
    | cons a b =>
      obtain ⟨v, x, y⟩ := dpAll_get (j := j) b (by simpa using h2)
      exact ⟨v, by simpa using x, y⟩
theorem dpAll_get' : ∀ {vs : List V} {ds : List PyData} {j : Nat} {v : V}, DpAll K F vs ds → vs[j]? = some v → ∃ d, ds[j]? = some d ∧ Dp K F v d
  | _, _, _, _, .nil, h => by simp at h
  | _, _, 0, v, .cons a b, h => by
    cases Option.some.inj h
    exact ⟨_, rfl, a⟩
  | _, _, j + 1, v, .cons a b, h => by
    obtain ⟨d, x, y⟩ := dpAll_get' (j := j) b (by simpa using h)
    exact ⟨d, by simpa using x, y⟩
theorem dpAll_at {vs : List V} {i : Int} (h : DpAll K F vs ds) (ha : atI ds i = some d) : ∃ v, atI vs i = some v ∧ Dp K F v d := by
  unfold atI at ha ⊢
  rw [dpAll_len h]
  cases e : ixN ds.length i with
  | none => rw [e] at ha; cases ha
  | some j =>
    rw [e] at ha
    exact dpAll_get h ha
theorem ev_ixL {i : Int} (ha : EvR K ta ss ra) (hb : EvR K tb ss (.dt (.int i))) (va : vw ss ra = some (.list ds)) (h : atI ds i = some d) : EvR K (tOp (rIxL K) ta tb) ss (.dt d) :=
  ev_op ha hb va rfl fun F H x y Q e hx hy k => by
    obtain ⟨p, vs, rfl, a, b⟩ := hx.lst e
    obtain ⟨v, c, g⟩ := dpAll_at b h
    exact ⟨p, vs, i, v, rfl, hy.int, a, c, k.dt g⟩
theorem ev_ixT {i : Int} (ha : EvR K ta ss ra) (hb : EvR K tb ss (.dt (.int i))) (va : vw ss ra = some (.tuple ds)) (h : atI ds i = some d) : EvR K (tOp (rIxT K) ta tb) ss (.dt d) :=
  ev_op ha hb va rfl fun F H x y Q e hx hy k => by
    obtain ⟨p, vs, rfl, a, b⟩ := hx.tup e
    obtain ⟨v, c, g⟩ := dpAll_at b h
    exact ⟨p, vs, i, v, rfl, hy.int, a, c, k.dt g⟩
theorem ev_ixS {i : Int} {z : Str} {c : Nat} (ha : EvR K ta ss (.dt (.str z))) (hb : EvR K tb ss (.dt (.int i))) (hz : z.length ≤ sizeLine) (h : atI z.cps.toList i = some c) : EvR K (tOp rIxS ta tb) ss (.dt (.str ⟨#[c]⟩)) :=
  ev_op ha hb rfl rfl fun F H x y Q e hx hy k => ⟨z, i, c, hx.str, hy.int, hz, h, k.str⟩
/-! ### displays -/
theorem ev_tup (ha : AvR K tr ss rs) (va : dts rs = some ds) (hl : rs.length ≤ 1000) : EvR K (tTup tr) ss (.dt (.tuple ds)) := fun M F0 H0 F H σ xs ts l S Q q => by
  refine ha M F0 H0 F H σ xs ts l S _ fun vs F1 H1 hl1 g1 S1 => ?_
  have l1 := S.len2
  exact ⟨Nat.le_of_lt (small1000 (by omega)), fun p hp => (RetR.mk g1 (S1.backA l1) q).tup (S1.argsD l1 hl1 va) hp⟩
theorem ev_lst (ha : AvR K tr ss rs) (va : dts rs = some ds) (hl : rs.length ≤ 1000) : EvR K (tLst tr) ss (.ls ds) := fun M F0 H0 F H σ xs ts l S Q q => by
  refine ha M F0 H0 F H σ xs ts l S _ fun vs F1 H1 hl1 g1 S1 => ?_
  have l1 := S.len2
  exact ⟨Nat.le_of_lt (small1000 (by omega)), fun p hp => (RetR.mk g1 (S1.backA l1) q).lst (S1.argsD l1 hl1 va) hp⟩
/-! ### tests -/
theorem tv_test {b : Bool} (h : EvR K te ss (.dt (.bool b))) : TvR K (tTest te) ss b := fun M F0 H0 F H σ xs ts l S Q q => by
  refine h M F0 H0 F H σ xs ts l S _ fun v F1 H1 g1 n1 S1 => ?_
  have l1 := S.len2
  exact ⟨b, (S1.lastV l1 (d := .bool b) rfl).bl, q F1 H1 g1 (S1.back l1)⟩
theorem tv_B {b : Bool} (h : EvR K te ss (.dt (.bool b))) : TvR K (tB te) ss b := fun M F0 H0 F H σ xs ts l S Q q => by
  refine h M F0 H0 F H σ xs ts l S _ fun v F1 H1 g1 n1 S1 => ?_
  have l1 := S.len2
  exact ⟨b, (S1.lastV l1 (d := .bool b) rfl).bl, q F1 H1 g1 (S1.back l1)⟩
theorem tv_and {a b : Bool} (h1 : TvR K t ss a) (h2 : a = true → TvR K u ss b) : TvR K (tAnd t u) ss (a && b) := fun M F0 H0 F H σ xs ts l S Q q => by
  refine h1 M F0 H0 F H σ xs ts l S _ fun F1 H1 g1 S1 => ?_
  cases a with
  | true => exact h2 rfl M F0 H0 F1 H1 σ xs ts l S1 Q fun F2 H2 g2 S2 => q F2 H2 (g1.trans g2) S2
  | false => exact q F1 H1 g1 S1
theorem tv_or {a b : Bool} (h1 : TvR K t ss a) (h2 : a = false → TvR K u ss b) : TvR K (tOr t u) ss (a || b) := fun M F0 H0 F H σ xs ts l S Q q => by
  refine h1 M F0 H0 F H σ xs ts l S _ fun F1 H1 g1 S1 => ?_
  cases a with
  | true => exact q F1 H1 g1 S1
  | false => exact h2 rfl M F0 H0 F1 H1 σ xs ts l S1 Q fun F2 H2 g2 S2 => q F2 H2 (g1.trans g2) S2
theorem tv_not {a : Bool} (h1 : TvR K t ss a) : TvR K (tNot t) ss (!a) := fun M F0 H0 F H σ xs ts l S Q q => h1 M F0 H0 F H σ xs ts l S _ q
theorem TvR.to {a b : Bool} (h : TvR K t ss a) (e : a = b) : TvR K t ss b := e ▸ h
theorem EvR.to {a b : Sl} (h : EvR K te ss a) (e : a = b) : EvR K te ss b := e ▸ h
theorem EvR.toD {a b : PyData} (h : EvR K te ss (.dt a)) (e : a = b) : EvR K te ss (.dt b) := e ▸ h
/-- as values -/
theorem ev_and {a b : Bool} (h1 : EvR K ta ss (.dt (.bool a))) (h2 : a = true → EvR K tb ss (.dt (.bool b))) : EvR K (tAndV ta tb) ss (.dt (.bool (a && b))) := fun M F0 H0 F H σ xs ts l S Q q => by
  refine h1 M F0 H0 F H σ xs ts l S _ fun v F1 H1 g1 n1 S1 => ?_
  have l1 := S.len2
  refine ⟨a, (S1.lastV l1 (d := .bool a) rfl).bl, ?_⟩
  cases a with
  | true => exact h2 rfl M F0 H0 F1 H1 σ xs ts l (S1.back l1) Q fun v F2 H2 g2 n2 S2 => q v F2 H2 (g1.trans g2) trivial S2
  | false => exact (RetR.mk g1 (S1.back l1) q).bl
theorem ev_or {a b : Bool} (h1 : EvR K ta ss (.dt (.bool a))) (h2 : a = false → EvR K tb ss (.dt (.bool b))) : EvR K (tOrV ta tb) ss (.dt (.bool (a || b))) := fun M F0 H0 F H σ xs ts l S Q q => by
  refine h1 M F0 H0 F H σ xs ts l S _ fun v F1 H1 g1 n1 S1 => ?_
  have l1 := S.len2
  refine ⟨a, (S1.lastV l1 (d := .bool a) rfl).bl, ?_⟩
  cases a with
  | true => exact (RetR.mk g1 (S1.back l1) q).bl
  | false => exact h2 rfl M F0 H0 F1 H1 σ xs ts l (S1.back l1) Q fun v F2 H2 g2 n2 S2 => q v F2 H2 (g1.trans g2) trivial S2
theorem ev_not {a : Bool} (h1 : EvR K ta ss (.dt (.bool a))) : EvR K (tNotV ta) ss (.dt (.bool (!a))) := fun M F0 H0 F H σ xs ts l S Q q => by
  refine h1 M F0 H0 F H σ xs ts l S _ fun v F1 H1 g1 n1 S1 => ?_
  have l1 := S.len2
  exact ⟨a, (S1.lastV l1 (d := .bool a) rfl).bl, (RetR.mk g1 (S1.back l1) q).bl⟩
theorem ev_if {b : Bool} (h : TvR K t ss b) (h1 : b = true → EvR K ta ss r) (h2 : b = false → EvR K tb ss r) : EvR K (tIf t ta tb) ss r := fun M F0 H0 F H σ xs ts l S Q q => by
  refine h M F0 H0 F H σ xs ts l S _ fun F1 H1 g1 S1 => ?_
  cases b with
  | true => exact h1 rfl M F0 H0 F1 H1 σ xs ts l S1 Q fun v F2 H2 g2 n2 S2 => q v F2 H2 (g1.trans g2) (n2.back g1.hh) S2
  | false => exact h2 rfl M F0 H0 F1 H1 σ xs ts l S1 Q fun v F2 H2 g2 n2 S2 => q v F2 H2 (g1.trans g2) (n2.back g1.hh) S2
end
end Fh
set_option Elab.async false
set_option linter.all false
set_option maxRecDepth 100000
set_option maxHeartbeats 2000000
namespace Fh
open PySem PySem.Spec PyProof.Rows L2 Evl
open PySem.W (Datum)

section
variable {K : PySem.W.Frag} {M : Addr → Prop} {F0 H0 F H F' H' : Hp} {σ xs gs : L2.St} {ss ts rs gt : List Sl} {ta tb te tc : TE} {tr : TA} {t u : TT} {r ra rb : Sl} {d da db : PyData} {ds : List PyData} {Q : VK} {v x y : V}
/-! ### statements: σ the def's slots, gs things remembered beside them -/
theorem st_seq {t u : TS} {D : Ends} (h : t { D with nx := u D } σ H) : tSeq t u D σ H := h
theorem st_asg {D : Ends} {i : Nat} (S : Sts K M F0 H0 F H (σ ++ gs) (ss ++ gt)) (l : σ.length = ss.length) (h : EvR K te ss r) (na : (ss ++ gt).all notAl = true) (nr : notAl r = true) (hi : i < ss.length)
    (k : ∀ σ' F' H', Sts K M F0 H0 F' H' (σ' ++ gs) (ss.set i r ++ gt) → σ'.length = (ss.set i r).length → D.nx σ' H') : tAsg te (gName i) D σ H := by
  refine h M F0 H0 F H σ gs gt l S _ fun v F1 H1 g1 n1 S1 => ?_
  have l2 := S.len2
  rw [← List.append_assoc, ← List.append_assoc] at S1
  have S2 := S1.put (i := i) l2 (by rw [List.length_append]; omega) na nr
  rw [List.set_append_left _ _ (by omega), List.set_append_left _ _ hi] at S2
  exact k _ F1 H1 S2 (by rw [List.length_set, List.length_set, l])
theorem st_drop {D : Ends} (S : Sts K M F0 H0 F H (σ ++ gs) (ss ++ gt)) (l : σ.length = ss.length) (h : EvR K te ss r)
    (k : ∀ F' H', Sts K M F0 H0 F' H' (σ ++ gs) (ss ++ gt) → D.nx σ H') : tDrop te D σ H :=
  h M F0 H0 F H σ gs gt l S _ fun v F1 H1 g1 n1 S1 => k F1 H1 (S1.back S.len2)
theorem st_if {D : Ends} {tu tw : TS} {b : Bool} (S : Sts K M F0 H0 F H (σ ++ gs) (ss ++ gt)) (l : σ.length = ss.length) (h : TvR K t ss b)
    (h1 : b = true → ∀ F' H', Sts K M F0 H0 F' H' (σ ++ gs) (ss ++ gt) → tu D σ H') (h2 : b = false → ∀ F' H', Sts K M F0 H0 F' H' (σ ++ gs) (ss ++ gt) → tw D σ H') : tIfS t tu tw D σ H :=
  h M F0 H0 F H σ gs gt l S _ fun F1 H1 g1 S1 => by
    cases b with
    | true =>
      show tu D σ H1
      exact h1 rfl F1 H1 S1
    | false =>
      show tw D σ H1
      exact h2 rfl F1 H1 S1
/-- a slot more, of things made behind the state's heap -/
theorem Sts.push_at {v : V} {L1 : List (Addr × HO)} (S : Sts K M F0 H0 F H σ ss) (g : Gr F H F' H') (hr : SlOk K F' (σ ++ [some v]) σ.length L1 r) (ha : ∀ p o, (p, o) ∈ L1 → H' p = some o ∧ F' p = none ∧ H p = none) (hn : (L1.map (·.1)).Nodup) :
    Sts K M F0 H0 F' H' (σ ++ [some v]) (ss ++ [r]) := by
  obtain ⟨g', l', L', O'⟩ := S
  have cut : ∀ {i}, i < (ss ++ [r]).length → i < ss.length ∨ i = ss.length := fun {i} h => by
    rw [List.length_append] at h
    have : [r].length = 1 := rfl
    omega
  have oth : ∀ {i p}, i < ss.length → p ∈ L1.map (·.1) → p ∈ (L' i).map (·.1) → False := fun {i p} hi h1 h2 => by
    obtain ⟨⟨q, o⟩, h3, rfl⟩ := List.mem_map.mp h1
    obtain ⟨⟨q', u⟩, h4, e4⟩ := List.mem_map.mp h2
    have e4' : q' = q := e4
    subst e4'
    have a := (O'.at_ i _ q' u (List.getElem?_eq_getElem hi) h4).1
    rw [(ha q' o h3).2.2] at a
    cases a
  refine ⟨g'.trans g.toM, by rw [List.length_append, List.length_append, l']; rfl, fun i => if i = ss.length then L1 else L' i, fun i s h => ?_, fun i s p o hs hp => ?_, fun i hi => ?_, fun i j p hi hj hp hq => ?_⟩
  · rcases cut (List.getElem?_eq_some_iff.mp h).1 with hi | rfl
    · rw [List.getElem?_append_left hi] at h
      rw [if_neg (by omega)]
      refine ((O'.ok i s h).ex g.ff).cong fun j hj => ?_
      rw [List.getElem?_append_left (by omega)]
    · rw [List.getElem?_append_right (Nat.le_refl _), Nat.sub_self] at h
      cases h
      rw [if_pos rfl, ← l']
      exact hr
  · rcases cut (List.getElem?_eq_some_iff.mp hs).1 with hi | rfl
    · rw [if_neg (by omega)] at hp
      rw [List.getElem?_append_left hi] at hs
      obtain ⟨a, b, c⟩ := O'.at_ i s p o hs hp
      exact ⟨g.hh p o a, g.nw p (by rw [a]; exact fun z => nomatch z) b, c⟩
    · rw [if_pos rfl] at hp
      obtain ⟨a, b, c⟩ := ha p o hp
      exact ⟨a, b, .inl (none_or fun h => g'.al p h c)⟩
  · rcases cut hi with hi | rfl
    · simp only [if_neg (show ¬ i = ss.length by omega)]
      exact O'.nd i hi
    · simp only [if_pos]
      exact hn
  · rcases cut hi with hi | rfl
    · rw [if_neg (by omega)] at hp
      rcases cut hj with hj | rfl
      · rw [if_neg (by omega)] at hq
        exact O'.ap i j p hi hj hp hq
      · rw [if_pos rfl] at hq
        exact (oth hi hq hp).elim
    · rw [if_pos rfl] at hp
      rcases cut hj with hj | rfl
      · rw [if_neg (by omega)] at hq
        exact (oth hj hp hq).elim
      · rfl
/-- what the def hands back -/
theorem ret_of {v : V} {Q : VK} (k : RetR K F0 H0 r Q) (S : Sts K (fun _ => False) F0 H0 F H (σ ++ [some v]) (ss ++ [r])) (l : σ.length = ss.length) (nr : notAl r = true) : Q v H := by
  refine k v F H fun M' F0' H0' σ' ss' S' => ?_
  have g : Gr F0 H0 F H := S.gr.toGr
  obtain ⟨_, _, L, O⟩ := S
  have ha : (ss ++ [r])[ss.length]? = some r := by rw [List.getElem?_append_right (Nat.le_refl _), Nat.sub_self]; rfl
  have o := O.ok ss.length r ha
  have at' := O.at_ ss.length r
  have nd := O.nd ss.length (by rw [List.length_append]; exact Nat.lt_succ_self _)
  have ev : (σ ++ [some v])[ss.length]? = some (some v) := by rw [← l]; exact last_at
  refine S'.push_at g (L1 := L ss.length) ?_ (fun p o h => ⟨(at' p o ha h).1, (at' p o ha h).2.1, (at' p o ha h).2.2.resolve_right fun z => z.1.elim⟩) nd
  cases r with
  | al j => cases nr
  | no => exact o
  | dt d =>
    obtain ⟨a, w, b, c⟩ := o
    rw [ev] at b
    cases b
    exact ⟨a, v, last_at, c⟩
  | ls ds =>
    obtain ⟨p, vs, a, b, c⟩ := o
    rw [ev] at a
    cases a
    exact ⟨p, vs, last_at, b, c⟩
  | fx φ =>
    obtain ⟨a, w, b, c⟩ := o
    rw [ev] at b
    cases b
    exact ⟨a, v, last_at, c⟩
  | mu ψ =>
    obtain ⟨w, b, c⟩ := o
    rw [ev] at b
    cases b
    exact ⟨v, last_at, c⟩
theorem st_ret {D : Ends} (S : Sts K (fun _ => False) F0 H0 F H (σ ++ gs) (ss ++ gt)) (l : σ.length = ss.length) (h : EvR K te ss r) (nr : notAl r = true) (k : RetR K F0 H0 r D.rt) : tRet te D σ H := by
  refine h _ F0 H0 F H σ gs gt l S _ fun v F1 H1 g1 n1 S1 => ?_
  have l2 := S.len2
  rw [← List.append_assoc, ← List.append_assoc] at S1
  exact ret_of k S1 l2 nr
/-- a slot that holds a new list is handed back -/
theorem st_retA {D : Ends} {i : Nat} (S : Sts K (fun _ => False) F0 H0 F H (σ ++ gs) (ss ++ gt)) (l : σ.length = ss.length) (h : ss[i]? = some (.ls ds)) (k : RetR K F0 H0 (.ls ds) D.rt) : tRet (tVar i) D σ H := by
  have hi := (List.getElem?_eq_some_iff.mp h).1
  have h' : (ss ++ gt)[i]? = some (.ls ds) := by rw [List.getElem?_append_left hi]; exact h
  obtain ⟨p, vs, a, b, c, f, z⟩ := S.get_ls h'
  have a' := a
  rw [List.getElem?_append_left (by omega)] at a
  refine ⟨_, a, k _ F H fun M' F0' H0' σ' ss' S' => ?_⟩
  exact S'.push_at S.gr.toGr (L1 := [(p, .lst vs)]) ⟨p, vs, last_at, rfl, b⟩ (fun q o h => by
    cases List.mem_singleton.mp h
    exact ⟨c, f, z⟩) (by simp)
end
end Fh
set_option Elab.async false
set_option linter.all false
set_option maxRecDepth 100000
set_option maxHeartbeats 2000000
namespace Fh
open PySem PySem.Spec PyProof.Rows L2 Evl
open PySem.W (Datum)

section
variable {K : PySem.W.Frag} {M : Addr → Prop} {F0 H0 F H F' H' : Hp} {σ xs gs : L2.St} {ss ts rs gt : List Sl} {ta tb te tc : TE} {tr : TA} {t u : TT} {r ra rb : Sl} {d da db : PyData} {ds : List PyData} {Q : VK} {v x y : V}
/-! ### slots forgotten, or told in other words -/
inductive Wk : List Sl → List Sl → Prop where
  | nil : Wk [] []
  | same {a b : Sl} {l m : List Sl} (e : a = b) (h : Wk l m) : Wk (a :: l) (b :: m)
  | no {a : Sl} {l m : List Sl} (h : Wk l m) : Wk (a :: l) (.no :: m)
theorem Wk.refl : ∀ l : List Sl, Wk l l
  | [] => .nil
  | _ :: l => .same rfl (Wk.refl l)
theorem Wk.app : ∀ {a b c d : List Sl}, Wk a b → Wk c d → Wk (a ++ c) (b ++ d)
  | _, _, _, _, .nil, h => h
  | _, _, _, _, .same e h1, h => .same e (Wk.app h1 h)
  | _, _, _, _, .no h1, h => .no (Wk.app h1 h)
theorem Wk.len : ∀ {a b : List Sl}, Wk a b → a.length = b.length
  | _, _, .nil => rfl
  | _, _, .same _ h => by rw [List.length_cons, List.length_cons, Wk.len h]
  | _, _, .no h => by rw [List.length_cons, List.length_cons, Wk.len h]
theorem Wk.get : ∀ {a b : List Sl} {i : Nat} {s : Sl}, Wk a b → b[i]? = some s → a[i]? = some s ∨ s = .no
  | _, _, _, _, .nil, h => by simp at h
  | _, _, 0, _, .same e h1, h => by
    cases Option.some.inj h
    exact .inl (by rw [e]; rfl)
  | _, _, i + 1, s, .same e h1, h => by
    have := Wk.get (i := i) (s := s) h1 (by simpa using h)
    simpa using this
  | _, _, 0, _, .no h1, h => by
    cases Option.some.inj h
    exact .inr rfl
  | _, _, i + 1, s, .no h1, h => by
    have := Wk.get (i := i) (s := s) h1 (by simpa using h)
    simpa using this
theorem Wk.noAl : ∀ {a b : List Sl}, Wk a b → b.all notAl = true → True := fun _ _ => trivial
theorem Sts.weak {ss' : List Sl} (S : Sts K M F0 H0 F H σ ss) (w : Wk ss ss') : Sts K M F0 H0 F H σ ss' := by
  obtain ⟨g, l, L, O⟩ := S
  have e := w.len
  classical
  refine ⟨g, l.trans e, fun i => if ss'[i]? = some .no then [] else L i, fun i s h => ?_, fun i s p o hs hp => ?_, fun i hi => ?_, fun i j p hi hj hp hq => ?_⟩
  · rcases w.get h with h1 | rfl
    · by_cases hn : s = .no
      · subst hn
        rw [if_pos h]
        rfl
      · rw [if_neg (by rw [h]; exact fun z => hn (Option.some.inj z))]
        exact O.ok i s h1
    · rw [if_pos h]
      rfl
  · by_cases hn : s = .no
    · subst hn
      rw [if_pos hs] at hp
      cases hp
    · rw [if_neg (by rw [hs]; exact fun z => hn (Option.some.inj z))] at hp
      exact O.at_ i s p o ((w.get hs).resolve_right hn) hp
  · split
    · exact .nil
    · exact O.nd i (by omega)
  · split at hp
    · cases hp
    · split at hq
      · cases hq
      · exact O.ap i j p (by omega) (by omega) hp hq
/-! ### lists that change -/
/-- xs.append(e) -/
theorem st_app {D : Ends} {i : Nat} (S : Sts K M F0 H0 F H (σ ++ gs) (ss ++ gt)) (l : σ.length = ss.length) (h : ss[i]? = some (.ls ds)) (he : EvR K te ss (.dt d)) (hl : ds.length < 1000000)
    (k : ∀ F' H', Sts K M F0 H0 F' H' (σ ++ gs) (ss.set i (.ls (ds ++ [d])) ++ gt) → σ.length = (ss.set i (.ls (ds ++ [d]))).length → D.nx σ H') : tDrop (tBM K "list" rAppend (tVar i) (tCons te tNil)) D σ H := by
  have hi := (List.getElem?_eq_some_iff.mp h).1
  have h' : (ss ++ gt)[i]? = some (.ls ds) := by rw [List.getElem?_append_left hi]; exact h
  obtain ⟨p, vs, a, b, c, f, z⟩ := S.get_ls h'
  have a2 := a
  rw [List.getElem?_append_left (by omega)] at a2
  refine ⟨.ref p, a2, .inl ⟨rfl, _, SqL.of c⟩, ?_⟩
  refine he M F0 H0 F H σ gs gt l S _ fun v F1 H1 g1 n1 S1 => ?_
  have l2 := S.len2
  have S2 := S1.back l2
  obtain ⟨q, ws, a1, b1, c1, d1, k1⟩ := S2.write h'
  rw [a] at a1
  cases a1
  rw [← List.append_assoc, ← List.append_assoc] at S1
  obtain ⟨w, e1, e2⟩ := S1.get_dt (i := (ss ++ gt).length) (by rw [List.getElem?_append_right (Nat.le_refl _), Nat.sub_self]; rfl)
  rw [← l2, last_at] at e1
  cases e1
  refine ⟨p, ws, v, rfl, rfl, b1, ?_, ?_⟩
  · rw [dpAll_len c1, sizeLine_eq]
    omega
  · have S3 := k1 (ws ++ [v]) (ds ++ [d]) (dpAll_app c1 (.cons e2 .nil))
    rw [List.set_append_left _ _ hi] at S3
    exact k F1 _ S3 (by rw [List.length_set, l])
/-- xs[j] = e -/
theorem st_setL {D : Ends} {i : Nat} {j : Nat} {z : Int} (S : Sts K M F0 H0 F H (σ ++ gs) (ss ++ gt)) (l : σ.length = ss.length) (h : ss[i]? = some (.ls ds)) (he : EvR K te ss (.dt d)) (hb : EvR K tb ss (.dt (.int z))) (hj : ixN ds.length z = some j)
    (k : ∀ F' H', Sts K M F0 H0 F' H' (σ ++ gs) (ss.set i (.ls (ds.set j d)) ++ gt) → σ.length = (ss.set i (.ls (ds.set j d))).length → D.nx σ H') : tAsg te (gSub (tVar i) tb rSetL) D σ H := by
  have hi := (List.getElem?_eq_some_iff.mp h).1
  have h' : (ss ++ gt)[i]? = some (.ls ds) := by rw [List.getElem?_append_left hi]; exact h
  refine he M F0 H0 F H σ gs gt l S _ fun v F1 H1 g1 n1 S1 => ?_
  obtain ⟨p, vs, a, b, c, f, z'⟩ := S.get_ls h'
  have a2 := a
  rw [List.getElem?_append_left (by omega)] at a2
  refine ⟨.ref p, a2, ?_⟩
  refine hb M F0 H0 F1 H1 σ (gs ++ [some v]) (gt ++ [.dt d]) l S1 _ fun iv F2 H2 g2 n2 S2 => ?_
  have l2 := S.len2
  have l3 := S1.len2
  have hz : iv = .int z := (S2.lastV l3 (d := .int z) rfl).int
  have S3 := S2.back l3
  have S4 := S3.back l2
  obtain ⟨q, ws, a1, b1, c1, d1, k1⟩ := S4.write h'
  rw [a] at a1
  cases a1
  rw [← List.append_assoc, ← List.append_assoc] at S3
  obtain ⟨w, e1, e2⟩ := S3.get_dt (i := (ss ++ gt).length) (by rw [List.getElem?_append_right (Nat.le_refl _), Nat.sub_self]; rfl)
  rw [← l2, last_at] at e1
  cases e1
  refine ⟨p, ws, z, j, rfl, hz, b1, by rw [dpAll_len c1]; exact hj, ?_⟩
  have dset : ∀ {vs : List V} {ds : List PyData} (j : Nat), DpAll K F2 vs ds → DpAll K F2 (vs.set j v) (ds.set j d) := by
    intro vs
    induction vs with
    | nil => intro ds j h; cases h; exact .nil
    | cons v0 vs ih =>
      intro ds j h
      cases h with
      | cons x y =>
        cases j with
        | zero => exact .cons e2 y
        | succ j => exact .cons x (ih j y)
  have S5 := k1 (ws.set j v) (ds.set j d) (dset j c1)
  rw [List.set_append_left _ _ hi] at S5
  exact k F2 _ S5 (by rw [List.length_set, l])
/-- x += e -/
theorem st_aug {D : Ends} {i : Nat} {f : Int → Int → Int} {a b : Int} (S : Sts K M F0 H0 F H (σ ++ gs) (ss ++ gt)) (l : σ.length = ss.length) (h : ss[i]? = some (.dt (.int a))) (he : EvR K te ss (.dt (.int b))) (na : (ss ++ gt).all notAl = true)
    (k : ∀ σ' F' H', Sts K M F0 H0 F' H' (σ' ++ gs) (ss.set i (.dt (.int (f a b))) ++ gt) → σ'.length = (ss.set i (.dt (.int (f a b)))).length → D.nx σ' H') : tAug i te (ipI f) D σ H := by
  have hi := (List.getElem?_eq_some_iff.mp h).1
  have h' : (ss ++ gt)[i]? = some (.dt (.int a)) := by rw [List.getElem?_append_left hi]; exact h
  obtain ⟨w, e1, e2⟩ := S.get_dt h'
  rw [List.getElem?_append_left (by omega)] at e1
  cases e2
  refine ⟨.int a, e1, ?_⟩
  refine he M F0 H0 F H σ gs gt l S _ fun v F1 H1 g1 n1 S1 => ?_
  have l2 := S.len2
  have hz : v = .int b := (S1.lastV l2 (d := .int b) rfl).int
  have S2 := (S1.back l2).push_dt (v := .int (f a b)) (.int _)
  have S3 := S2.put (i := i) l2 (by rw [List.length_append]; omega) na rfl
  rw [List.set_append_left _ _ (by omega), List.set_append_left _ _ hi] at S3
  exact ⟨a, b, rfl, hz, k _ F1 H1 S3 (by rw [List.length_set, List.length_set, l])⟩
/-- target i = a slot more at the end -/
theorem Sts.setv {i : Nat} {v : V} (S : Sts K M F0 H0 F H (σ ++ gs) (ss ++ gt)) (l : σ.length = ss.length) (hi : i < ss.length) (h : Dp K F v d) (na : (ss ++ gt).all notAl = true) : Sts K M F0 H0 F H (σ.set i (some v) ++ gs) (ss.set i (.dt d) ++ gt) := by
  have S3 := (S.push_dt h).put (i := i) S.len2 (by rw [List.length_append]; omega) na rfl
  rw [List.set_append_left _ _ (by omega), List.set_append_left _ _ hi] at S3
  exact S3
/-! ### loops -/
/-- what stands behind a turn: the word W -/
def Nxt (K : PySem.W.Frag) (M : Addr → Prop) (F0 H0 : Hp) (gs : L2.St) (gt W : List Sl) (σ : L2.St) (H : Hp) : Prop := ∃ F, Sts K M F0 H0 F H (σ ++ gs) (W ++ gt) ∧ σ.length = W.length
/-- for x in range(n) -/
theorem st_forR1 {D : Ends} {tb : TS} {i : Nat} {n : Int} {m : Nat} (S : Sts K M F0 H0 F H (σ ++ gs) (ss ++ gt)) (l : σ.length = ss.length) (h : AvR K tr ss [.dt (.int n)]) (hn : n = (m : Int)) (hm : m < 2 ^ 60) (W : Nat → List Sl) (w0 : Wk ss (W 0)) (na : ∀ k, ((W k) ++ gt).all notAl = true) (hi : i < ss.length)
    (hs : ∀ k, k < m → ∀ σ' F' H', Sts K M F0 H0 F' H' (σ' ++ gs) ((W k).set i (.dt (.int (k : Int))) ++ gt) → σ'.length = ((W k).set i (.dt (.int (k : Int)))).length → tb { D with nx := Nxt K M F0 H0 gs gt (W (k + 1)), ct := Nxt K M F0 H0 gs gt (W (k + 1)), bk := D.nx } σ' H')
    (hd : ∀ σ' F' H', Sts K M F0 H0 F' H' (σ' ++ gs) (W m ++ gt) → σ'.length = (W m).length → D.nx σ' H') (hw : ∀ k, (W k).length = ss.length := by intro _; rfl) : tFor (iRng1 tr) (gName i) tb D σ H := by
  refine h M F0 H0 F H σ gs gt l S _ fun vs F1 H1 hl g1 S1 => ?_
  have ha := S1.argsV (ds := [.int n]) S.len2 hl rfl
  have hv : vs = [.int n] := by
    cases ha with
    | cons a b =>
      cases b
      rw [a.int]
  have S2 := S1.backA S.len2
  refine ⟨n, hv, by omega, by omega, ?_⟩
  have e : n.toNat = m := by omega
  rw [e]
  refine for_range (lo := 0) (n := m) (fun k σ H => Nxt K M F0 H0 gs gt (W k) σ H) ⟨F1, S2.weak (w0.app (Wk.refl _)), by rw [hw, l]⟩ (fun k σ' H' hk p => ?_) fun σ' H' p => ?_
  · obtain ⟨F2, S3, l3⟩ := p
    have e0 : (0 : Int) + (k : Int) = (k : Int) := Int.zero_add _
    rw [e0]
    exact hs k hk _ F2 H' (S3.setv l3 (by rw [hw]; exact hi) (.int _) (na k)) (by rw [List.length_set, List.length_set, l3])
  · obtain ⟨F2, S3, l3⟩ := p
    exact hd σ' F2 H' S3 l3
/-- for x in range(a, b) -/
theorem st_forR2 {D : Ends} {tb : TS} {i : Nat} {lo n : Int} {m : Nat} (S : Sts K M F0 H0 F H (σ ++ gs) (ss ++ gt)) (l : σ.length = ss.length) (h : AvR K tr ss [.dt (.int lo), .dt (.int n)]) (hn : (n - lo).toNat = m) (hm : -(2 ^ 60) < lo ∧ lo < 2 ^ 60 ∧ -(2 ^ 60) < n ∧ n < 2 ^ 60) (W : Nat → List Sl) (w0 : Wk ss (W 0)) (na : ∀ k, ((W k) ++ gt).all notAl = true) (hi : i < ss.length)
    (hs : ∀ k, k < m → ∀ σ' F' H', Sts K M F0 H0 F' H' (σ' ++ gs) ((W k).set i (.dt (.int (lo + (k : Int)))) ++ gt) → σ'.length = ((W k).set i (.dt (.int (lo + (k : Int))))).length → tb { D with nx := Nxt K M F0 H0 gs gt (W (k + 1)), ct := Nxt K M F0 H0 gs gt (W (k + 1)), bk := D.nx } σ' H')
    (hd : ∀ σ' F' H', Sts K M F0 H0 F' H' (σ' ++ gs) (W m ++ gt) → σ'.length = (W m).length → D.nx σ' H') (hw : ∀ k, (W k).length = ss.length := by intro _; rfl) : tFor (iRng2 tr) (gName i) tb D σ H := by
  refine h M F0 H0 F H σ gs gt l S _ fun vs F1 H1 hl g1 S1 => ?_
  have ha := S1.argsV (ds := [.int lo, .int n]) S.len2 hl rfl
  have hv : vs = [.int lo, .int n] := by
    cases ha with
    | cons a b =>
      cases b with
      | cons b c =>
        cases c
        rw [a.int, b.int]
  have S2 := S1.backA S.len2
  refine ⟨lo, n, hv, by omega, ?_⟩
  rw [hn]
  refine for_range (lo := lo) (n := m) (fun k σ H => Nxt K M F0 H0 gs gt (W k) σ H) ⟨F1, S2.weak (w0.app (Wk.refl _)), by rw [hw, l]⟩ (fun k σ' H' hk p => ?_) fun σ' H' p => ?_
  · obtain ⟨F2, S3, l3⟩ := p
    exact hs k hk _ F2 H' (S3.setv l3 (by rw [hw]; exact hi) (.int _) (na k)) (by rw [List.length_set, List.length_set, l3])
  · obtain ⟨F2, S3, l3⟩ := p
    exact hd σ' F2 H' S3 l3
/-- for x in a list that reads as ds (remembered while the loop runs) -/
theorem st_forL {D : Ends} {tb : TS} {g : TG} (S : Sts K M F0 H0 F H (σ ++ gs) (ss ++ gt)) (l : σ.length = ss.length) (h : EvR K te ss (.dt (.list ds))) (W : Nat → List Sl) (w0 : Wk ss (W 0))
    (hs : ∀ k d p, ds[k]? = some d → ∀ x σ' F' H', Dp K F' x d → Sts K M F0 H0 F' H' (σ' ++ (gs ++ [some p])) (W k ++ (gt ++ [.dt (.list ds)])) → σ'.length = (W k).length →
      g x σ' H' fun σ2 H2 => tb { D with nx := Nxt K M F0 H0 (gs ++ [some p]) (gt ++ [.dt (.list ds)]) (W (k + 1)), ct := Nxt K M F0 H0 (gs ++ [some p]) (gt ++ [.dt (.list ds)]) (W (k + 1)), bk := D.nx } σ2 H2)
    (hd : ∀ σ' F' H', Sts K M F0 H0 F' H' (σ' ++ gs) (W ds.length ++ gt) → σ'.length = (W ds.length).length → D.nx σ' H') (hw : ∀ k, (W k).length = ss.length := by intro _; rfl) : tFor (iList K te) g tb D σ H := by
  refine h M F0 H0 F H σ gs gt l S _ fun v F1 H1 g1 n1 S1 => ?_
  have hv := (S1.lastV S.len2 (d := .list ds) rfl).lst S1.fh
  obtain ⟨a, vs, rfl, sq, da⟩ := hv
  have hlen := dpAll_len da
  refine ⟨a, rfl, ⟨vs, sq⟩, ?_⟩
  -- the list at a, read off the remembered slot
  have look : ∀ {k : Nat} {σ' : L2.St} {F' H' : Hp}, Sts K M F0 H0 F' H' (σ' ++ (gs ++ [some (.ref a)])) (W k ++ (gt ++ [.dt (.list ds)])) → σ'.length = (W k).length → ∃ ws, SqL K H' a ws ∧ DpAll K F' ws ds := fun {k σ' F' H'} S3 l3 => by
    have hg := S.len
    have l4 : (σ' ++ gs).length = (W k ++ gt).length := by
      rw [List.length_append] at hg ⊢
      rw [List.length_append] at hg ⊢
      omega
    obtain ⟨p, ws, e, x, y⟩ := (S3.lastV l4 (d := .list ds) rfl).lst S3.fh
    cases e
    exact ⟨ws, x, y⟩
  refine ⟨fun k m σ' H' => m = ds.length - k ∧ k ≤ ds.length ∧ Nxt K M F0 H0 (gs ++ [some (.ref a)]) (gt ++ [.dt (.list ds)]) (W k) σ' H', ⟨ds.length, by simp, Nat.zero_le _, F1, S1.weak (w0.app (Wk.refl _)), by rw [hw, l]⟩, ?_⟩
  rintro k m σ' H' ⟨rfl, hk, F2, S3, l3⟩
  obtain ⟨ws, sq', da'⟩ := look S3 l3
  by_cases hlt : k < ds.length
  · have hlw : k < ws.length := by rw [dpAll_len da']; exact hlt
    refine .inr ⟨⟨ws, ws[k], sq', by simp [hlw]⟩, Nxt K M F0 H0 (gs ++ [some (.ref a)]) (gt ++ [.dt (.list ds)]) (W (k + 1)), fun σ2 H2 p => ⟨ds.length - (k + 1), by omega, rfl, hlt, p⟩, fun x H2 y => ?_⟩
    obtain ⟨e, y⟩ := y
    subst e
    obtain ⟨d, e1, e2⟩ := dpAll_get' da' (y ws sq')
    exact hs k d _ e1 x σ' F2 _ e2 S3 l3
  · have e : k = ds.length := by omega
    subst e
    have hg := S.len
    have l4 : (σ' ++ gs).length = (W ds.length ++ gt).length := by
      rw [List.length_append] at hg ⊢
      rw [List.length_append] at hg ⊢
      have := hw ds.length
      omega
    exact .inl ⟨⟨ws, sq', by rw [dpAll_len da']; exact Nat.le_refl _⟩, hd σ' F2 _ (S3.back l4) l3⟩
/-- for x in a tuple -/
theorem st_forT {D : Ends} {tb : TS} {g : TG} (S : Sts K M F0 H0 F H (σ ++ gs) (ss ++ gt)) (l : σ.length = ss.length) (h : EvR K te ss (.dt (.tuple ds))) (W : Nat → List Sl) (w0 : Wk ss (W 0))
    (hs : ∀ k d p, ds[k]? = some d → ∀ x σ' F' H', Dp K F' x d → Sts K M F0 H0 F' H' (σ' ++ (gs ++ [some p])) (W k ++ (gt ++ [.dt (.tuple ds)])) → σ'.length = (W k).length →
      g x σ' H' fun σ2 H2 => tb { D with nx := Nxt K M F0 H0 (gs ++ [some p]) (gt ++ [.dt (.tuple ds)]) (W (k + 1)), ct := Nxt K M F0 H0 (gs ++ [some p]) (gt ++ [.dt (.tuple ds)]) (W (k + 1)), bk := D.nx } σ2 H2)
    (hd : ∀ σ' F' H', Sts K M F0 H0 F' H' (σ' ++ gs) (W ds.length ++ gt) → σ'.length = (W ds.length).length → D.nx σ' H') (hw : ∀ k, (W k).length = ss.length := by intro _; rfl) : tFor (iTup K te) g tb D σ H := by
  refine h M F0 H0 F H σ gs gt l S _ fun v F1 H1 g1 n1 S1 => ?_
  have hv := (S1.lastV S.len2 (d := .tuple ds) rfl).tup S1.fh
  obtain ⟨a, vs, rfl, sq, da⟩ := hv
  refine ⟨a, rfl, ⟨vs, sq⟩, ?_⟩
  have look : ∀ {k : Nat} {σ' : L2.St} {F' H' : Hp}, Sts K M F0 H0 F' H' (σ' ++ (gs ++ [some (.ref a)])) (W k ++ (gt ++ [.dt (.tuple ds)])) → σ'.length = (W k).length → ∃ ws, SqT K H' a ws ∧ DpAll K F' ws ds := fun {k σ' F' H'} S3 l3 => by
    have hg := S.len
    have l4 : (σ' ++ gs).length = (W k ++ gt).length := by
      rw [List.length_append] at hg ⊢
      rw [List.length_append] at hg ⊢
      omega
    obtain ⟨p, ws, e, x, y⟩ := (S3.lastV l4 (d := .tuple ds) rfl).tup S3.fh
    cases e
    exact ⟨ws, x, y⟩
  refine ⟨fun k m σ' H' => m = ds.length - k ∧ k ≤ ds.length ∧ Nxt K M F0 H0 (gs ++ [some (.ref a)]) (gt ++ [.dt (.tuple ds)]) (W k) σ' H', ⟨ds.length, by simp, Nat.zero_le _, F1, S1.weak (w0.app (Wk.refl _)), by rw [hw, l]⟩, ?_⟩
  rintro k m σ' H' ⟨rfl, hk, F2, S3, l3⟩
  obtain ⟨ws, sq', da'⟩ := look S3 l3
  by_cases hlt : k < ds.length
  · have hlw : k < ws.length := by rw [dpAll_len da']; exact hlt
    refine .inr ⟨⟨ws, ws[k], sq', by simp [hlw]⟩, Nxt K M F0 H0 (gs ++ [some (.ref a)]) (gt ++ [.dt (.tuple ds)]) (W (k + 1)), fun σ2 H2 p => ⟨ds.length - (k + 1), by omega, rfl, hlt, p⟩, fun x H2 y => ?_⟩
    obtain ⟨e, y⟩ := y
    subst e
    obtain ⟨d, e1, e2⟩ := dpAll_get' da' (y ws sq')
    exact hs k d _ e1 x σ' F2 _ e2 S3 l3
  · have e : k = ds.length := by omega
    subst e
    have hg := S.len
    have l4 : (σ' ++ gs).length = (W ds.length ++ gt).length := by
      rw [List.length_append] at hg ⊢
      rw [List.length_append] at hg ⊢
      have := hw ds.length
      omega
    exact .inl ⟨⟨ws, sq', by rw [dpAll_len da']; exact Nat.le_refl _⟩, hd σ' F2 _ (S3.back l4) l3⟩
/-- a loop's target that is a name -/
theorem g_name {i : Nat} {x : V} {k : L2.St → Hp → Prop} (S : Sts K M F0 H0 F H (σ ++ gs) (ss ++ gt)) (l : σ.length = ss.length) (hi : i < ss.length) (h : Dp K F x d) (na : (ss ++ gt).all notAl = true)
    (hk : ∀ σ' F' H', Sts K M F0 H0 F' H' (σ' ++ gs) (ss.set i (.dt d) ++ gt) → σ'.length = (ss.set i (.dt d)).length → k σ' H') : gName i x σ H k :=
  hk _ F H (S.setv l hi h na) (by rw [List.length_set, List.length_set, l])
/-- a target that is a pair of names -/
theorem g_pair {i j : Nat} {x : V} {d1 d2 : PyData} {k : L2.St → Hp → Prop} (S : Sts K M F0 H0 F H (σ ++ gs) (ss ++ gt)) (l : σ.length = ss.length) (hi : i < ss.length) (hj : j < ss.length) (h : Dp K F x (.tuple [d1, d2])) (na : (ss ++ gt).all notAl = true)
    (hk : ∀ σ' F' H', Sts K M F0 H0 F' H' (σ' ++ gs) ((ss.set i (.dt d1)).set j (.dt d2) ++ gt) → σ'.length = ((ss.set i (.dt d1)).set j (.dt d2)).length → k σ' H') : gTup K 2 (gCons (gName i) (gCons (gName j) gNil)) x σ H k := by
  obtain ⟨p, vs, rfl, sq, da⟩ := rdT_of h S.fh
  cases da with
  | cons a b =>
    cases b with
    | cons b c =>
      cases c
      refine ⟨p, _, rfl, sq, rfl, _, _, rfl, _, _, rfl, rfl, ?_⟩
      have S1 := S.setv l hi a na
      have na2 : ((ss.set i (.dt d1)) ++ gt).all notAl = true := by
        rw [List.all_append, Bool.and_eq_true] at na ⊢
        refine ⟨List.all_eq_true.mpr fun s hs => ?_, na.2⟩
        rcases List.mem_or_eq_of_mem_set hs with h | h
        · exact List.all_eq_true.mp na.1 s h
        · rw [h]
          rfl
      have S2 := S1.setv (by rw [List.length_set, List.length_set, l]) (by rw [List.length_set]; exact hj) b na2
      exact hk _ F H S2 (by simp only [List.length_set, l])
/-- while -/
theorem st_while {D : Ends} {tt : TT} {tb : TS} {α : Type} (W : α → List Sl) (P : α → Prop) (μ : α → Nat) (b : α → Bool) (a0 : α) (S : Sts K M F0 H0 F H (σ ++ gs) (ss ++ gt)) (l : σ.length = ss.length) (w0 : Wk ss (W a0)) (p0 : P a0) (ht : ∀ a, P a → TvR K tt (W a) (b a))
    (hs : ∀ a, P a → b a = true → ∀ σ' F' H', Sts K M F0 H0 F' H' (σ' ++ gs) (W a ++ gt) → σ'.length = (W a).length → tb { D with nx := fun σ2 H2 => ∃ a', μ a' < μ a ∧ P a' ∧ Nxt K M F0 H0 gs gt (W a') σ2 H2, ct := fun σ2 H2 => ∃ a', μ a' < μ a ∧ P a' ∧ Nxt K M F0 H0 gs gt (W a') σ2 H2, bk := D.nx } σ' H')
    (hd : ∀ a, P a → b a = false → ∀ σ' F' H', Sts K M F0 H0 F' H' (σ' ++ gs) (W a ++ gt) → σ'.length = (W a).length → D.nx σ' H') : tWhile tt tb D σ H := by
  refine ⟨fun m σ' H' => ∃ a, m = μ a ∧ P a ∧ Nxt K M F0 H0 gs gt (W a) σ' H', ⟨_, a0, rfl, p0, F, S.weak (w0.app (Wk.refl _)), by rw [← w0.len, l]⟩, ?_⟩
  rintro m σ' H' ⟨a, rfl, pa, F2, S2, l2⟩
  refine ht a pa M F0 H0 F2 H' σ' gs gt l2 S2 _ fun F3 H3 g3 S3 => ?_
  cases e : b a with
  | true => exact ⟨_, fun σ2 H2 ⟨a', h1, h2, h3⟩ => ⟨μ a', h1, a', rfl, h2, h3⟩, hs a pa e σ' F3 H3 S3 l2⟩
  | false => exact hd a pa e σ' F3 H3 S3 l2

/-! ### the same, something behind -/
variable {tz : TS}
theorem q_asg {D : Ends} {i : Nat} (S : Sts K M F0 H0 F H (σ ++ gs) (ss ++ gt)) (l : σ.length = ss.length) (h : EvR K te ss r) (na : (ss ++ gt).all notAl = true) (nr : notAl r = true) (hi : i < ss.length)
    (k : ∀ σ' F' H', Sts K M F0 H0 F' H' (σ' ++ gs) (ss.set i r ++ gt) → σ'.length = (ss.set i r).length → tz D σ' H') : tSeq (tAsg te (gName i)) tz D σ H := st_asg (D := { D with nx := tz D }) S l h na nr hi k
theorem q_drop {D : Ends} (S : Sts K M F0 H0 F H (σ ++ gs) (ss ++ gt)) (l : σ.length = ss.length) (h : EvR K te ss r)
    (k : ∀ F' H', Sts K M F0 H0 F' H' (σ ++ gs) (ss ++ gt) → tz D σ H') : tSeq (tDrop te) tz D σ H := st_drop (D := { D with nx := tz D }) S l h k
theorem q_if {D : Ends} {tu tw : TS} {b : Bool} (S : Sts K M F0 H0 F H (σ ++ gs) (ss ++ gt)) (l : σ.length = ss.length) (h : TvR K t ss b)
    (h1 : b = true → ∀ F' H', Sts K M F0 H0 F' H' (σ ++ gs) (ss ++ gt) → tu { D with nx := tz D } σ H') (h2 : b = false → ∀ F' H', Sts K M F0 H0 F' H' (σ ++ gs) (ss ++ gt) → tw { D with nx := tz D } σ H') : tSeq (tIfS t tu tw) tz D σ H := st_if (D := { D with nx := tz D }) S l h h1 h2
/-- an if without else -/
theorem q_when {D : Ends} {tu : TS} {b : Bool} (S : Sts K M F0 H0 F H (σ ++ gs) (ss ++ gt)) (l : σ.length = ss.length) (h : TvR K t ss b)
    (h1 : b = true → ∀ F' H', Sts K M F0 H0 F' H' (σ ++ gs) (ss ++ gt) → tu { D with nx := tz D } σ H') (h2 : b = false → ∀ F' H', Sts K M F0 H0 F' H' (σ ++ gs) (ss ++ gt) → tz D σ H') : tSeq (tIfS t tu tNext) tz D σ H := st_if (D := { D with nx := tz D }) S l h h1 h2
theorem st_when {D : Ends} {tu : TS} {b : Bool} (S : Sts K M F0 H0 F H (σ ++ gs) (ss ++ gt)) (l : σ.length = ss.length) (h : TvR K t ss b)
    (h1 : b = true → ∀ F' H', Sts K M F0 H0 F' H' (σ ++ gs) (ss ++ gt) → tu D σ H') (h2 : b = false → ∀ F' H', Sts K M F0 H0 F' H' (σ ++ gs) (ss ++ gt) → D.nx σ H') : tIfS t tu tNext D σ H := st_if S l h h1 h2
theorem q_app {D : Ends} {i : Nat} (S : Sts K M F0 H0 F H (σ ++ gs) (ss ++ gt)) (l : σ.length = ss.length) (h : ss[i]? = some (.ls ds)) (he : EvR K te ss (.dt d)) (hl : ds.length < 1000000)
    (k : ∀ F' H', Sts K M F0 H0 F' H' (σ ++ gs) (ss.set i (.ls (ds ++ [d])) ++ gt) → σ.length = (ss.set i (.ls (ds ++ [d]))).length → tz D σ H') : tSeq (tDrop (tBM K "list" rAppend (tVar i) (tCons te tNil))) tz D σ H := st_app (D := { D with nx := tz D }) S l h he hl k
theorem q_setL {D : Ends} {i : Nat} {j : Nat} {z : Int} (S : Sts K M F0 H0 F H (σ ++ gs) (ss ++ gt)) (l : σ.length = ss.length) (h : ss[i]? = some (.ls ds)) (he : EvR K te ss (.dt d)) (hb : EvR K tb ss (.dt (.int z))) (hj : ixN ds.length z = some j)
    (k : ∀ F' H', Sts K M F0 H0 F' H' (σ ++ gs) (ss.set i (.ls (ds.set j d)) ++ gt) → σ.length = (ss.set i (.ls (ds.set j d))).length → tz D σ H') : tSeq (tAsg te (gSub (tVar i) tb rSetL)) tz D σ H := st_setL (D := { D with nx := tz D }) S l h he hb hj k
theorem q_aug {D : Ends} {i : Nat} {f : Int → Int → Int} {a b : Int} (S : Sts K M F0 H0 F H (σ ++ gs) (ss ++ gt)) (l : σ.length = ss.length) (h : ss[i]? = some (.dt (.int a))) (he : EvR K te ss (.dt (.int b))) (na : (ss ++ gt).all notAl = true)
    (k : ∀ σ' F' H', Sts K M F0 H0 F' H' (σ' ++ gs) (ss.set i (.dt (.int (f a b))) ++ gt) → σ'.length = (ss.set i (.dt (.int (f a b)))).length → tz D σ' H') : tSeq (tAug i te (ipI f)) tz D σ H := st_aug (D := { D with nx := tz D }) S l h he na k
theorem q_forR1 {D : Ends} {tb : TS} {i : Nat} {n : Int} {m : Nat} (S : Sts K M F0 H0 F H (σ ++ gs) (ss ++ gt)) (l : σ.length = ss.length) (h : AvR K tr ss [.dt (.int n)]) (hn : n = (m : Int)) (hm : m < 2 ^ 60) (W : Nat → List Sl) (w0 : Wk ss (W 0)) (na : ∀ k, ((W k) ++ gt).all notAl = true) (hi : i < ss.length)
    (hs : ∀ k, k < m → ∀ σ' F' H', Sts K M F0 H0 F' H' (σ' ++ gs) ((W k).set i (.dt (.int (k : Int))) ++ gt) → σ'.length = ((W k).set i (.dt (.int (k : Int)))).length → tb { D with nx := Nxt K M F0 H0 gs gt (W (k + 1)), ct := Nxt K M F0 H0 gs gt (W (k + 1)), bk := tz D } σ' H')
    (hd : ∀ σ' F' H', Sts K M F0 H0 F' H' (σ' ++ gs) (W m ++ gt) → σ'.length = (W m).length → tz D σ' H') (hw : ∀ k, (W k).length = ss.length := by intro _; rfl) : tSeq (tFor (iRng1 tr) (gName i) tb) tz D σ H := st_forR1 (D := { D with nx := tz D }) S l h hn hm W w0 na hi hs hd hw
theorem q_forR2 {D : Ends} {tb : TS} {i : Nat} {lo n : Int} {m : Nat} (S : Sts K M F0 H0 F H (σ ++ gs) (ss ++ gt)) (l : σ.length = ss.length) (h : AvR K tr ss [.dt (.int lo), .dt (.int n)]) (hn : (n - lo).toNat = m) (hm : -(2 ^ 60) < lo ∧ lo < 2 ^ 60 ∧ -(2 ^ 60) < n ∧ n < 2 ^ 60) (W : Nat → List Sl) (w0 : Wk ss (W 0)) (na : ∀ k, ((W k) ++ gt).all notAl = true) (hi : i < ss.length)
    (hs : ∀ k, k < m → ∀ σ' F' H', Sts K M F0 H0 F' H' (σ' ++ gs) ((W k).set i (.dt (.int (lo + (k : Int)))) ++ gt) → σ'.length = ((W k).set i (.dt (.int (lo + (k : Int))))).length → tb { D with nx := Nxt K M F0 H0 gs gt (W (k + 1)), ct := Nxt K M F0 H0 gs gt (W (k + 1)), bk := tz D } σ' H')
    (hd : ∀ σ' F' H', Sts K M F0 H0 F' H' (σ' ++ gs) (W m ++ gt) → σ'.length = (W m).length → tz D σ' H') (hw : ∀ k, (W k).length = ss.length := by intro _; rfl) : tSeq (tFor (iRng2 tr) (gName i) tb) tz D σ H := st_forR2 (D := { D with nx := tz D }) S l h hn hm W w0 na hi hs hd hw
theorem q_forL {D : Ends} {tb : TS} {g : TG} (S : Sts K M F0 H0 F H (σ ++ gs) (ss ++ gt)) (l : σ.length = ss.length) (h : EvR K te ss (.dt (.list ds))) (W : Nat → List Sl) (w0 : Wk ss (W 0))
    (hs : ∀ k d p, ds[k]? = some d → ∀ x σ' F' H', Dp K F' x d → Sts K M F0 H0 F' H' (σ' ++ (gs ++ [some p])) (W k ++ (gt ++ [.dt (.list ds)])) → σ'.length = (W k).length →
      g x σ' H' fun σ2 H2 => tb { D with nx := Nxt K M F0 H0 (gs ++ [some p]) (gt ++ [.dt (.list ds)]) (W (k + 1)), ct := Nxt K M F0 H0 (gs ++ [some p]) (gt ++ [.dt (.list ds)]) (W (k + 1)), bk := tz D } σ2 H2)
    (hd : ∀ σ' F' H', Sts K M F0 H0 F' H' (σ' ++ gs) (W ds.length ++ gt) → σ'.length = (W ds.length).length → tz D σ' H') (hw : ∀ k, (W k).length = ss.length := by intro _; rfl) : tSeq (tFor (iList K te) g tb) tz D σ H := st_forL (D := { D with nx := tz D }) S l h W w0 hs hd hw
theorem q_forT {D : Ends} {tb : TS} {g : TG} (S : Sts K M F0 H0 F H (σ ++ gs) (ss ++ gt)) (l : σ.length = ss.length) (h : EvR K te ss (.dt (.tuple ds))) (W : Nat → List Sl) (w0 : Wk ss (W 0))
    (hs : ∀ k d p, ds[k]? = some d → ∀ x σ' F' H', Dp K F' x d → Sts K M F0 H0 F' H' (σ' ++ (gs ++ [some p])) (W k ++ (gt ++ [.dt (.tuple ds)])) → σ'.length = (W k).length →
      g x σ' H' fun σ2 H2 => tb { D with nx := Nxt K M F0 H0 (gs ++ [some p]) (gt ++ [.dt (.tuple ds)]) (W (k + 1)), ct := Nxt K M F0 H0 (gs ++ [some p]) (gt ++ [.dt (.tuple ds)]) (W (k + 1)), bk := tz D } σ2 H2)
    (hd : ∀ σ' F' H', Sts K M F0 H0 F' H' (σ' ++ gs) (W ds.length ++ gt) → σ'.length = (W ds.length).length → tz D σ' H') (hw : ∀ k, (W k).length = ss.length := by intro _; rfl) : tSeq (tFor (iTup K te) g tb) tz D σ H := st_forT (D := { D with nx := tz D }) S l h W w0 hs hd hw
theorem q_while {D : Ends} {tt : TT} {tb : TS} {α : Type} (W : α → List Sl) (P : α → Prop) (μ : α → Nat) (b : α → Bool) (a0 : α) (S : Sts K M F0 H0 F H (σ ++ gs) (ss ++ gt)) (l : σ.length = ss.length) (w0 : Wk ss (W a0)) (p0 : P a0) (ht : ∀ a, P a → TvR K tt (W a) (b a))
    (hs : ∀ a, P a → b a = true → ∀ σ' F' H', Sts K M F0 H0 F' H' (σ' ++ gs) (W a ++ gt) → σ'.length = (W a).length → tb { D with nx := fun σ2 H2 => ∃ a', μ a' < μ a ∧ P a' ∧ Nxt K M F0 H0 gs gt (W a') σ2 H2, ct := fun σ2 H2 => ∃ a', μ a' < μ a ∧ P a' ∧ Nxt K M F0 H0 gs gt (W a') σ2 H2, bk := tz D } σ' H')
    (hd : ∀ a, P a → b a = false → ∀ σ' F' H', Sts K M F0 H0 F' H' (σ' ++ gs) (W a ++ gt) → σ'.length = (W a).length → tz D σ' H') : tSeq (tWhile tt tb) tz D σ H := st_while (D := { D with nx := tz D }) W P μ b a0 S l w0 p0 ht hs hd
/-- a, b = a tuple of two -/
theorem st_two {D : Ends} {i j : Nat} {d1 d2 : PyData} (S : Sts K M F0 H0 F H (σ ++ gs) (ss ++ gt)) (l : σ.length = ss.length) (h : EvR K te ss (.dt (.tuple [d1, d2]))) (na : (ss ++ gt).all notAl = true) (hi : i < ss.length) (hj : j < ss.length)
    (k : ∀ σ' F' H', Sts K M F0 H0 F' H' (σ' ++ gs) ((ss.set i (.dt d1)).set j (.dt d2) ++ gt) → σ'.length = ((ss.set i (.dt d1)).set j (.dt d2)).length → D.nx σ' H') : tAsg te (gTup K 2 (gCons (gName i) (gCons (gName j) gNil))) D σ H := by
  refine h M F0 H0 F H σ gs gt l S _ fun v F1 H1 g1 n1 S1 => ?_
  have S2 := S1
  rw [← List.append_assoc, ← List.append_assoc] at S2
  obtain ⟨w, e1, e2⟩ := S2.get_dt (i := (ss ++ gt).length) (by rw [List.getElem?_append_right (Nat.le_refl _), Nat.sub_self]; rfl)
  rw [← S.len2, last_at] at e1
  cases e1
  exact g_pair (S1.back S.len2) l hi hj e2 na k
theorem q_two {D : Ends} {i j : Nat} {d1 d2 : PyData} (S : Sts K M F0 H0 F H (σ ++ gs) (ss ++ gt)) (l : σ.length = ss.length) (h : EvR K te ss (.dt (.tuple [d1, d2]))) (na : (ss ++ gt).all notAl = true) (hi : i < ss.length) (hj : j < ss.length)
    (k : ∀ σ' F' H', Sts K M F0 H0 F' H' (σ' ++ gs) ((ss.set i (.dt d1)).set j (.dt d2) ++ gt) → σ'.length = ((ss.set i (.dt d1)).set j (.dt d2)).length → tz D σ' H') : tSeq (tAsg te (gTup K 2 (gCons (gName i) (gCons (gName j) gNil)))) tz D σ H := st_two (D := { D with nx := tz D }) S l h na hi hj k
/-- a, b = e, f: both of data -/
theorem q_par {D : Ends} {i j : Nat} {d1 d2 : PyData} (S : Sts K M F0 H0 F H (σ ++ gs) (ss ++ gt)) (l : σ.length = ss.length) (h1 : EvR K ta ss (.dt d1)) (h2 : EvR K tb ss (.dt d2)) (na : (ss ++ gt).all notAl = true) (hi : i < ss.length) (hj : j < ss.length)
    (k : ∀ σ' F' H', Sts K M F0 H0 F' H' (σ' ++ gs) ((ss.set i (.dt d1)).set j (.dt d2) ++ gt) → σ'.length = ((ss.set i (.dt d1)).set j (.dt d2)).length → tz D σ' H') : tSeq (tPar i j (tCons ta (tCons tb tNil))) tz D σ H := by
  refine h1 M F0 H0 F H σ gs gt l S _ fun v F1 H1 g1 n1 S1 => ?_
  refine h2 M F0 H0 F1 H1 σ _ _ l S1 _ fun w F2 H2 g2 n2 S2 => ?_
  refine ⟨v, w, rfl, ?_⟩
  have S3 := S2
  rw [← List.append_assoc σ, ← List.append_assoc ss] at S3
  obtain ⟨w', e1, e2⟩ := S3.get_dt (i := (ss ++ (gt ++ [Sl.dt d1])).length) (by rw [List.getElem?_append_right (Nat.le_refl _), Nat.sub_self]; rfl)
  rw [← S1.len2, last_at] at e1
  cases e1
  have S4 := S2.back S1.len2
  have S5 := S4
  rw [← List.append_assoc, ← List.append_assoc] at S5
  obtain ⟨v', f1, f2⟩ := S5.get_dt (i := (ss ++ gt).length) (by rw [List.getElem?_append_right (Nat.le_refl _), Nat.sub_self]; rfl)
  rw [← S.len2, last_at] at f1
  cases f1
  have S6 := (S4.back S.len2).setv l hi f2 na
  have na2 : ((ss.set i (.dt d1)) ++ gt).all notAl = true := by
    rw [List.all_append, Bool.and_eq_true] at na ⊢
    refine ⟨List.all_eq_true.mpr fun s hs => ?_, na.2⟩
    rcases List.mem_or_eq_of_mem_set hs with h | h
    · exact List.all_eq_true.mp na.1 s h
    · rw [h]
      rfl
  have S7 := S6.setv (by rw [List.length_set, List.length_set, l]) (by rw [List.length_set]; exact hj) e2 na2
  exact k _ F2 H2 S7 (by simp only [List.length_set, l])
end
end Fh
set_option Elab.async false
set_option linter.all false
set_option maxRecDepth 100000
set_option maxHeartbeats 2000000
namespace Fh
open PySem PySem.Spec PyProof.Rows L2 Evl
open PySem.W (Datum)

section
variable {K : PySem.W.Frag} {M : Addr → Prop} {F0 H0 F H F' H' : Hp} {σ xs gs : L2.St} {ss ts rs gt ss2 : List Sl} {ta tb te tc tl : TE} {tr : TA} {t u tt : TT} {r ra rb : Sl} {d da db e : PyData} {ds : List PyData} {Q : VK} {v x y : V}
/-! ### comprehensions -/
def wipeS (ss : List Sl) : List Nat → List Sl
  | [] => ss
  | v :: vs => (wipeS ss vs).set v .no
theorem wipeS_len (ss : List Sl) : ∀ vs : List Nat, (wipeS ss vs).length = ss.length
  | [] => rfl
  | v :: vs => by
    show ((wipeS ss vs).set v .no).length = _
    rw [List.length_set, wipeS_len ss vs]
def unAl (s : Sl) : Sl := if notAl s then s else .no
theorem wk_unAl : ∀ l : List Sl, Wk l (l.map unAl)
  | [] => .nil
  | s :: l => by
    rw [List.map_cons]
    by_cases h : notAl s = true
    · have e : unAl s = s := if_pos h
      rw [e]
      exact .same rfl (wk_unAl l)
    · have e : unAl s = .no := if_neg h
      rw [e]
      exact .no (wk_unAl l)
theorem all_unAl : ∀ l : List Sl, (l.map unAl).all notAl = true
  | [] => rfl
  | s :: l => by
    rw [List.map_cons, List.all_cons, all_unAl l, Bool.and_true]
    by_cases h : notAl s = true
    · have e : unAl s = s := if_pos h
      rw [e]
      exact h
    · have e : unAl s = .no := if_neg h
      rw [e]
      rfl
theorem set_app1 {α : Type} {l m : List α} {i : Nat} {a : α} (h : i < l.length) : (l ++ m).set i a = l.set i a ++ m := List.set_append_left _ _ h
theorem Sts.wipes (vs : List Nat) : ∀ {σ : L2.St} {ss : List Sl}, Sts K M F0 H0 F H (σ ++ gs) (ss ++ gt) → σ.length = ss.length → (∀ i ∈ vs, i < ss.length) → ss.all notAl = true → gt.all notAl = true →
    Sts K M F0 H0 F H (wipe σ vs ++ gs) (wipeS ss vs ++ gt) ∧ (wipeS ss vs).all notAl = true := by
  induction vs with
  | nil => intro σ ss S l hv na nb; exact ⟨S, na⟩
  | cons v vs ih =>
    intro σ ss S l hv na nb
    obtain ⟨S1, n1⟩ := ih S l (fun i hi => hv i (List.mem_cons_of_mem _ hi)) na nb
    have hv1 : v < ss.length := hv v List.mem_cons_self
    have S2 := S1.wipe1 (i := v) (ov := none) (by rw [List.all_append, n1, nb]; rfl)
    rw [set_app1 (by rw [wipe_length]; omega), set_app1 (by rw [wipeS_len]; exact hv1)] at S2
    refine ⟨S2, List.all_eq_true.mpr fun s hs => ?_⟩
    rcases List.mem_or_eq_of_mem_set hs with h | h
    · exact List.all_eq_true.mp n1 s h
    · rw [h]
      rfl
/-- what a comprehension's target does with an item d -/
def GTarget (K : PySem.W.Frag) (g : TG) (vs : List Nat) (ss : List Sl) (d : PyData) (ss2 : List Sl) : Prop := ∀ (M : Addr → Prop) (F0 H0 F H : Hp) (σ gs : L2.St) (gt : List Sl) (x : V) (k : L2.St → Hp → Prop),
  Sts K M F0 H0 F H (wipe σ vs ++ gs) (wipeS ss vs ++ gt) → σ.length = ss.length → Dp K F x d → (wipeS ss vs ++ gt).all notAl = true →
    (∀ σ2, Sts K M F0 H0 F H (σ2 ++ gs) (ss2 ++ gt) → σ2.length = ss2.length → wipe σ2 vs = wipe σ vs → k σ2 H) → g x (wipe σ vs) H k
theorem wipe_out_set {σ : L2.St} {j : Nat} {x : Option V} : ∀ {vs : List Nat}, j ∉ vs → wipe (σ.set j x) vs = (wipe σ vs).set j x
  | [], _ => rfl
  | v :: vs, h => by
    show (wipe (σ.set j x) vs).set v none = ((wipe σ vs).set v none).set j x
    rw [wipe_out_set (fun q => h (List.mem_cons_of_mem _ q)), List.set_comm _ _ (fun e => h (by rw [e]; exact List.mem_cons_self))]
theorem wipe_set {σ : L2.St} {j : Nat} {x : Option V} : ∀ {vs : List Nat}, j ∈ vs → wipe (σ.set j x) vs = wipe σ vs
  | v :: vs, h => by
    show (wipe (σ.set j x) vs).set v none = (wipe σ vs).set v none
    by_cases q : j ∈ vs
    · rw [wipe_set q]
    · rw [wipe_out_set q]
      have e : j = v := by
        rcases List.mem_cons.mp h with e | e
        · exact e
        · exact absurd e q
      rw [e, List.set_set]
theorem wipe_sub {σ : L2.St} {vs : List Nat} : ∀ {ws : List Nat}, (∀ w ∈ ws, w ∈ vs) → wipe (wipe σ ws) vs = wipe σ vs
  | [], _ => rfl
  | w :: ws, h => by
    show wipe ((wipe σ ws).set w none) vs = wipe σ vs
    rw [wipe_set (h w List.mem_cons_self), wipe_sub fun u hu => h u (List.mem_cons_of_mem _ hu)]
theorem wipe_wipe {σ : L2.St} {vs : List Nat} : wipe (wipe σ vs) vs = wipe σ vs := wipe_sub fun _ h => h
theorem gt_name {i : Nat} (hi : i < ss.length) : GTarget K (gName i) [i] ss d ((wipeS ss [i]).set i (.dt d)) := fun M F0 H0 F H σ gs gt x k S l h na hk => by
  refine hk _ (S.setv (by rw [wipe_length, wipeS_len, l]) (by rw [wipeS_len]; exact hi) h na) (by rw [List.length_set, List.length_set, wipe_length, wipeS_len, l]) ?_
  rw [wipe_set (List.mem_singleton.mpr rfl), wipe_wipe]
theorem gt_pair {i j : Nat} {d1 d2 : PyData} (hi : i < ss.length) (hj : j < ss.length) (hij : i ≠ j) : GTarget K (gTup K 2 (gCons (gName i) (gCons (gName j) gNil))) [i, j] ss (.tuple [d1, d2]) (((wipeS ss [i, j]).set i (.dt d1)).set j (.dt d2)) := fun M F0 H0 F H σ gs gt x k S l h na hk => by
  obtain ⟨p, vs, rfl, sq, da⟩ := rdT_of h S.fh
  cases da with
  | cons a b =>
    cases b with
    | cons b c =>
      cases c
      refine ⟨p, _, rfl, sq, rfl, _, _, rfl, _, _, rfl, rfl, ?_⟩
      have S1 := S.setv (i := i) (by rw [wipe_length, wipeS_len, l]) (by rw [wipeS_len]; exact hi) a na
      have na2 : (((wipeS ss [i, j]).set i (.dt d1)) ++ gt).all notAl = true := by
        rw [List.all_append, Bool.and_eq_true] at na ⊢
        refine ⟨List.all_eq_true.mpr fun s hs => ?_, na.2⟩
        rcases List.mem_or_eq_of_mem_set hs with h | h
        · exact List.all_eq_true.mp na.1 s h
        · rw [h]
          rfl
      have S2 := S1.setv (i := j) (by rw [List.length_set, List.length_set, wipe_length, wipeS_len, l]) (by rw [List.length_set, wipeS_len]; exact hj) b na2
      refine hk _ S2 (by simp only [List.length_set, wipe_length, wipeS_len, l]) ?_
      rw [wipe_set (by simp), wipe_set (by simp), wipe_wipe]
theorem gt_three {i j m : Nat} {d1 d2 d3 : PyData} (hi : i < ss.length) (hj : j < ss.length) (hm : m < ss.length) (hij : i ≠ j) (him : i ≠ m) (hjm : j ≠ m) :
    GTarget K (gTup K 3 (gCons (gName i) (gCons (gName j) (gCons (gName m) gNil)))) [i, j, m] ss (.tuple [d1, d2, d3]) ((((wipeS ss [i, j, m]).set i (.dt d1)).set j (.dt d2)).set m (.dt d3)) := fun M F0 H0 F H σ gs gt x k S l h na hk => by
  obtain ⟨p, vs, rfl, sq, da⟩ := rdT_of h S.fh
  cases da with
  | cons a b =>
    cases b with
    | cons b c =>
      cases c with
      | cons c c0 =>
        cases c0
        refine ⟨p, _, rfl, sq, rfl, _, _, rfl, _, _, rfl, _, _, rfl, rfl, ?_⟩
        have keep : ∀ {l : List Sl} {i : Nat} {d : PyData}, (l ++ gt).all notAl = true → (l.set i (.dt d) ++ gt).all notAl = true := fun {l i d} na => by
          rw [List.all_append, Bool.and_eq_true] at na ⊢
          refine ⟨List.all_eq_true.mpr fun s hs => ?_, na.2⟩
          rcases List.mem_or_eq_of_mem_set hs with h | h
          · exact List.all_eq_true.mp na.1 s h
          · rw [h]
            rfl
        have S1 := S.setv (i := i) (by rw [wipe_length, wipeS_len, l]) (by rw [wipeS_len]; exact hi) a na
        have S2 := S1.setv (i := j) (by rw [List.length_set, List.length_set, wipe_length, wipeS_len, l]) (by rw [List.length_set, wipeS_len]; exact hj) b (keep na)
        have S3 := S2.setv (i := m) (by simp only [List.length_set, wipe_length, wipeS_len, l]) (by simp only [List.length_set, wipeS_len]; exact hm) c (keep (keep na))
        refine hk _ S3 (by simp only [List.length_set, wipe_length, wipeS_len, l]) ?_
        rw [wipe_set (by simp), wipe_set (by simp), wipe_set (by simp), wipe_wipe]
/-- between two turns: the new list at D holds what reads as out -/
def LcP (K : PySem.W.Frag) (M : Addr → Prop) (F0 H0 F1 H1 : Hp) (σ xs : L2.St) (ss ts : List Sl) (D : Addr) (out : List PyData) (H' : Hp) : Prop :=
  ∃ F', Gr F1 H1 F' H' ∧ F' D = none ∧ H1 D = none ∧ Sts K M F0 H0 F' H' (σ ++ (xs ++ [some (.ref D)])) (ss ++ (ts ++ [.ls out]))
theorem lc_turn {g : TG} {vs : List Nat} {F1 H1 : Hp} {D : Addr} {out : List PyData} {b : Bool} (p : LcP K M F0 H0 F1 H1 σ xs ss ts D out H') (l : σ.length = ss.length) (hv : ∀ i ∈ vs, i < ss.length) (na : ss.all notAl = true) (hx : Dp K F1 x d) (hg : GTarget K g vs ss d ss2)
    (ht : TvR K tt ss2 b) (he : b = true → EvR K te ss2 (.dt e)) (hz : out.length < 1000000) :
    g x (wipe σ vs) H' fun σ2 H2 => wipe σ2 vs = wipe σ vs ∧ tt σ2 H2 fun b' H3 => if b' = true then te σ2 H3 fun y H4 => ∃ acc, H4 D = some (.lst acc) ∧ acc.length < sizeLine ∧ LcP K M F0 H0 F1 H1 σ xs ss ts D (if b then out ++ [e] else out) (upd H4 D (.lst (acc ++ [y]))) else LcP K M F0 H0 F1 H1 σ xs ss ts D (if b then out ++ [e] else out) H3 := by
  obtain ⟨F', g1, fD, hD, S⟩ := p
  have Sb := S.weak (ss' := ss ++ ((ts ++ [Sl.ls out]).map unAl)) ((Wk.refl ss).app (wk_unAl _))
  obtain ⟨Sw, nw⟩ := Sb.wipes vs l hv na (all_unAl _)
  refine hg M F0 H0 F' H' σ _ _ x _ Sw l (dp_ex g1.ff d x hx) (by rw [List.all_append, nw, all_unAl]; rfl) fun σ2 S2 l2 hw => ⟨hw, ?_⟩
  refine ht M F0 H0 F' H' σ2 _ _ l2 S2 _ fun F3 H3 g3 S3 => ?_
  have dix : (ss ++ (ts ++ [Sl.ls out]))[ss.length + ts.length]? = some (.ls out) := by
    rw [← List.append_assoc, List.getElem?_append_right (by rw [List.length_append]; exact Nat.le_refl _), List.length_append, Nat.sub_self]
    rfl
  have six : (σ ++ (xs ++ [some (.ref D)]))[ss.length + ts.length]? = some (some (.ref D)) := by
    have hlen := S.len
    simp only [List.length_append, List.length_cons, List.length_nil] at hlen
    rw [← List.append_assoc, List.getElem?_append_right (by rw [List.length_append]; omega), List.length_append]
    have e0 : ss.length + ts.length - (σ.length + xs.length) = 0 := by omega
    rw [e0]
    rfl
  cases b with
  | false =>
    show LcP K M F0 H0 F1 H1 σ xs ss ts D out H3
    refine ⟨F3, g1.trans g3, g3.nw D ?_ fD, hD, S.grow g3⟩
    obtain ⟨q, ws, a1, b1, c1, d1, k1⟩ := S.write dix
    rw [six] at a1
    cases a1
    rw [b1]
    exact fun z => nomatch z
  | true =>
    refine he rfl M F0 H0 F3 H3 σ2 _ _ l2 S3 _ fun w F4 H4 g4 n4 S4 => ?_
    have S5 := S.grow (g3.trans g4)
    obtain ⟨q, ws, a1, b1, c1, d1, k1⟩ := S5.write dix
    rw [six] at a1
    cases a1
    have hl : (σ2 ++ (xs ++ [some (V.ref D)])).length = (ss2 ++ ((ts ++ [Sl.ls out]).map unAl)).length := S3.len
    have S6 := S4
    rw [← List.append_assoc σ2, ← List.append_assoc ss2] at S6
    obtain ⟨w', e1, e2⟩ := S6.get_dt (i := (ss2 ++ ((ts ++ [Sl.ls out]).map unAl)).length) (by rw [List.getElem?_append_right (Nat.le_refl _), Nat.sub_self]; rfl)
    rw [← hl, last_at] at e1
    cases e1
    refine ⟨ws, b1, by rw [dpAll_len c1, sizeLine_eq]; omega, F4, ((g1.trans (g3.trans g4)).mut hD d1), d1, hD, ?_⟩
    have S7 := k1 (ws ++ [w]) (out ++ [e]) (dpAll_app c1 (.cons e2 .nil))
    have e3 : (ss ++ (ts ++ [Sl.ls out])).set (ss.length + ts.length) (.ls (out ++ [e])) = ss ++ (ts ++ [.ls (out ++ [e])]) := by
      rw [← List.append_assoc, List.set_append_right _ _ (by rw [List.length_append]; exact Nat.le_refl _), List.length_append, Nat.sub_self, List.append_assoc]
      rfl
    rw [e3] at S7
    exact S7
/-- what comes of the first n turns -/
def got (f : Nat → Option PyData) (n : Nat) : List PyData := (List.range n).filterMap f
theorem got_succ (f : Nat → Option PyData) (n : Nat) : got f (n + 1) = (if (f n).isSome then got f n ++ [(f n).getD .none] else got f n) := by
  unfold got
  rw [List.range_succ, List.filterMap_append]
  cases e : f n with
  | none => simp [e]
  | some a => simp [e]
theorem got_len (f : Nat → Option PyData) (n : Nat) : (got f n).length ≤ n := by
  unfold got
  have h := List.length_filterMap_le f (List.range n)
  rwa [List.length_range] at h
theorem ev_lcL {g : TG} {vs : List Nat} (f : Nat → Option PyData) (h : EvR K tl ss (.dt (.list ds))) (na : ss.all notAl = true) (hv : ∀ i ∈ vs, i < ss.length) (hz : ds.length ≤ 1000000)
    (hs : ∀ k d, ds[k]? = some d → ∃ ss2, GTarget K g vs ss d ss2 ∧ TvR K tt ss2 (f k).isSome ∧ ((f k).isSome = true → EvR K te ss2 (.dt ((f k).getD .none)))) : EvR K (tLc (iList K tl) g tt te vs) ss (.ls (got f ds.length)) := fun M F0 H0 F H σ xs ts l S Q q => by
  refine h M F0 H0 F H σ xs ts l S _ fun v F1 H1 g1 n1 S1 => ?_
  have hv' := (S1.lastV S.len2 (d := .list ds) rfl).lst S1.fh
  have dv : Dp K F1 v (.list ds) := by
    have S2 := S1
    rw [← List.append_assoc, ← List.append_assoc] at S2
    obtain ⟨w, e1, e2⟩ := S2.get_dt (i := (ss ++ ts).length) (by rw [List.getElem?_append_right (Nat.le_refl _), Nat.sub_self]; rfl)
    rw [← S.len2, last_at] at e1
    cases e1
    exact e2
  obtain ⟨a, vv, rfl, sq, da⟩ := rdL_of dv (Ex.refl F1)
  have S2 := S1.back S.len2
  refine ⟨a, rfl, ⟨vv, ex_l S1.fh sq⟩, fun D hD => ?_⟩
  have fD := fresh_back S1.fh hD
  refine lc_list (xs := vv) (fun k H' => LcP K M F0 H0 F1 H1 σ xs ss ts D (got f k) H') ⟨F1, Gr.newM S1.fh hD, fD, hD, ?_⟩ (fun i H' _ p => ?_) (fun k x H' hk p => ?_) fun H' p => ?_
  · have := S2.push_ls (ds := []) (vs := []) (Ex.new hD) hD upd_same .nil
    rw [List.append_assoc, List.append_assoc] at this
    exact this
  · obtain ⟨F', g', _, _, _⟩ := p
    exact ex_l (g'.ff.trans g'.fh) sq
  · obtain ⟨d, e1, e2⟩ := dpAll_get' da hk
    obtain ⟨ss2, t1, t2, t3⟩ := hs k d e1
    have := lc_turn (g := g) (tt := tt) (te := te) (b := (f k).isSome) (e := (f k).getD .none) p l hv na e2 t1 t2 t3 (by have := got_len f k; have := (List.getElem?_eq_some_iff.mp e1).1; omega)
    rw [got_succ]
    exact this
  · obtain ⟨F', g', f', _, S'⟩ := p
    rw [dpAll_len da] at S'
    exact q _ F' H' (g1.trans g') ⟨D, rfl, fresh_back g1.hh hD⟩ S'
theorem ev_lcT {g : TG} {vs : List Nat} (f : Nat → Option PyData) (h : EvR K tl ss (.dt (.tuple ds))) (na : ss.all notAl = true) (hv : ∀ i ∈ vs, i < ss.length) (hz : ds.length ≤ 1000000)
    (hs : ∀ k d, ds[k]? = some d → ∃ ss2, GTarget K g vs ss d ss2 ∧ TvR K tt ss2 (f k).isSome ∧ ((f k).isSome = true → EvR K te ss2 (.dt ((f k).getD .none)))) : EvR K (tLc (iTup K tl) g tt te vs) ss (.ls (got f ds.length)) := fun M F0 H0 F H σ xs ts l S Q q => by
  refine h M F0 H0 F H σ xs ts l S _ fun v F1 H1 g1 n1 S1 => ?_
  have dv : Dp K F1 v (.tuple ds) := by
    have S2 := S1
    rw [← List.append_assoc, ← List.append_assoc] at S2
    obtain ⟨w, e1, e2⟩ := S2.get_dt (i := (ss ++ ts).length) (by rw [List.getElem?_append_right (Nat.le_refl _), Nat.sub_self]; rfl)
    rw [← S.len2, last_at] at e1
    cases e1
    exact e2
  obtain ⟨a, vv, rfl, sq, da⟩ := rdT_of dv (Ex.refl F1)
  have S2 := S1.back S.len2
  refine ⟨a, rfl, ⟨vv, ex_t S1.fh sq⟩, fun D hD => ?_⟩
  have fD := fresh_back S1.fh hD
  refine lc_tup (xs := vv) (fun k H' => LcP K M F0 H0 F1 H1 σ xs ss ts D (got f k) H') ⟨F1, Gr.newM S1.fh hD, fD, hD, ?_⟩ (fun i H' _ p => ?_) (fun k x H' hk p => ?_) fun H' p => ?_
  · have := S2.push_ls (ds := []) (vs := []) (Ex.new hD) hD upd_same .nil
    rw [List.append_assoc, List.append_assoc] at this
    exact this
  · obtain ⟨F', g', _, _, _⟩ := p
    exact ex_t (g'.ff.trans g'.fh) sq
  · obtain ⟨d, e1, e2⟩ := dpAll_get' da hk
    obtain ⟨ss2, t1, t2, t3⟩ := hs k d e1
    have := lc_turn (g := g) (tt := tt) (te := te) (b := (f k).isSome) (e := (f k).getD .none) p l hv na e2 t1 t2 t3 (by have := got_len f k; have := (List.getElem?_eq_some_iff.mp e1).1; omega)
    rw [got_succ]
    exact this
  · obtain ⟨F', g', f', _, S'⟩ := p
    rw [dpAll_len da] at S'
    exact q _ F' H' (g1.trans g') ⟨D, rfl, fresh_back g1.hh hD⟩ S'
/-- over a range: lo, lo + 1, .. (n of them) -/
theorem ev_lcR1 {i : Nat} {n : Int} {m : Nat} (f : Nat → Option PyData) (h : AvR K tr ss [.dt (.int n)]) (hn : n.toNat = m) (na : ss.all notAl = true) (hi : i < ss.length) (hz : -(2 ^ 60) < n ∧ n ≤ 1000000)
    (hs : ∀ k : Nat, k < m → ∃ ss2, GTarget K (gName i) [i] ss (.int (k : Int)) ss2 ∧ TvR K tt ss2 (f k).isSome ∧ ((f k).isSome = true → EvR K te ss2 (.dt ((f k).getD .none)))) : EvR K (tLc (iRng1 tr) (gName i) tt te [i]) ss (.ls (got f m)) := fun M F0 H0 F H σ xs ts l S Q q => by
  refine h M F0 H0 F H σ xs ts l S _ fun vv F1 H1 hl g1 S1 => ?_
  have ha := S1.argsV (ds := [.int n]) S.len2 hl rfl
  have hv : vv = [.int n] := by
    cases ha with
    | cons a b =>
      cases b
      rw [a.int]
  have S2 := S1.backA S.len2
  refine ⟨n, hv, by omega, by omega, fun D hD => ?_⟩
  have fD := fresh_back S2.fh hD
  rw [hn]
  refine lc_range (lo := 0) (n := m) (fun k H' => LcP K M F0 H0 F1 H1 σ xs ss ts D (got f k) H') ⟨F1, Gr.newM S2.fh hD, fD, hD, ?_⟩ (fun k H' hk p => ?_) fun H' p => ?_
  · have := S2.push_ls (ds := []) (vs := []) (Ex.new hD) hD upd_same .nil
    rw [List.append_assoc, List.append_assoc] at this
    exact this
  · obtain ⟨ss2, t1, t2, t3⟩ := hs k hk
    have e0 : (0 : Int) + (k : Int) = (k : Int) := Int.zero_add _
    rw [e0]
    have := lc_turn (g := gName i) (tt := tt) (te := te) (b := (f k).isSome) (e := (f k).getD .none) p l (by intro j hj; rw [List.mem_singleton.mp hj]; exact hi) na (x := .int (k : Int)) (.int _) t1 t2 t3 (by have := got_len f k; omega)
    rw [got_succ]
    exact this
  · obtain ⟨F', g', f', _, S'⟩ := p
    exact q _ F' H' (g1.trans g') ⟨D, rfl, fresh_back g1.hh hD⟩ S'
theorem ev_lcR2 {i : Nat} {lo n : Int} {m : Nat} (f : Nat → Option PyData) (h : AvR K tr ss [.dt (.int lo), .dt (.int n)]) (hn : (n - lo).toNat = m) (na : ss.all notAl = true) (hi : i < ss.length) (hz : -(2 ^ 60) < lo ∧ lo < 2 ^ 60 ∧ -(2 ^ 60) < n ∧ n < 2 ^ 60 ∧ m ≤ 1000000)
    (hs : ∀ k : Nat, k < m → ∃ ss2, GTarget K (gName i) [i] ss (.int (lo + (k : Int))) ss2 ∧ TvR K tt ss2 (f k).isSome ∧ ((f k).isSome = true → EvR K te ss2 (.dt ((f k).getD .none)))) : EvR K (tLc (iRng2 tr) (gName i) tt te [i]) ss (.ls (got f m)) := fun M F0 H0 F H σ xs ts l S Q q => by
  refine h M F0 H0 F H σ xs ts l S _ fun vv F1 H1 hl g1 S1 => ?_
  have ha := S1.argsV (ds := [.int lo, .int n]) S.len2 hl rfl
  have hv : vv = [.int lo, .int n] := by
    cases ha with
    | cons a b =>
      cases b with
      | cons b c =>
        cases c
        rw [a.int, b.int]
  have S2 := S1.backA S.len2
  refine ⟨lo, n, hv, by omega, fun D hD => ?_⟩
  have fD := fresh_back S2.fh hD
  rw [hn]
  refine lc_range (lo := lo) (n := m) (fun k H' => LcP K M F0 H0 F1 H1 σ xs ss ts D (got f k) H') ⟨F1, Gr.newM S2.fh hD, fD, hD, ?_⟩ (fun k H' hk p => ?_) fun H' p => ?_
  · have := S2.push_ls (ds := []) (vs := []) (Ex.new hD) hD upd_same .nil
    rw [List.append_assoc, List.append_assoc] at this
    exact this
  · obtain ⟨ss2, t1, t2, t3⟩ := hs k hk
    have := lc_turn (g := gName i) (tt := tt) (te := te) (b := (f k).isSome) (e := (f k).getD .none) p l (by intro j hj; rw [List.mem_singleton.mp hj]; exact hi) na (x := .int (lo + (k : Int))) (.int _) t1 t2 t3 (by have := got_len f k; omega)
    rw [got_succ]
    exact this
  · obtain ⟨F', g', f', _, S'⟩ := p
    exact q _ F' H' (g1.trans g') ⟨D, rfl, fresh_back g1.hh hD⟩ S'
theorem in1 {i n : Nat} (h : i < n) : ∀ j ∈ [i], j < n := by
  intro j hj
  rcases List.mem_cons.mp hj with rfl | hj
  · exact h
  · cases hj
theorem in2 {i k n : Nat} (h : i < n) (h' : k < n) : ∀ j ∈ [i, k], j < n := by
  intro j hj
  rcases List.mem_cons.mp hj with rfl | hj
  · exact h
  · exact in1 h' j hj
theorem in3 {i k l n : Nat} (h : i < n) (h' : k < n) (h'' : l < n) : ∀ j ∈ [i, k, l], j < n := by
  intro j hj
  rcases List.mem_cons.mp hj with rfl | hj
  · exact h
  · exact in2 h' h'' j hj
theorem tv_yes : TvR K tYes ss true := fun M F0 H0 F H σ xs ts l S Q q => q F H (Gr.refl S.fh) S
end
end Fh
set_option Elab.async false
set_option linter.all false
set_option maxRecDepth 100000
set_option maxHeartbeats 2000000
namespace Fh
open PySem PySem.Spec PyProof.Rows L2 Evl
open PySem.W (Datum)

section
variable {K : PySem.W.Frag} {M : Addr → Prop} {F0 H0 F H F' H' : Hp} {σ xs gs : L2.St} {ss ts rs gt ss2 : List Sl} {ta tb te tc tl : TE} {tr : TA} {t u tt : TT} {r ra rb : Sl} {d da db e : PyData} {ds es : List PyData} {Q : VK} {v x y : V}
/-! ### a def's start -/
def ssOf (n : Nat) (ds : List PyData) : List Sl := ds.map .dt ++ List.replicate (n - ds.length) .no
theorem dp_init : ∀ {vs : List V} {ds : List PyData}, DpAll K F vs ds → ∀ {σ0 : L2.St} {ss0 : List Sl}, Sts K (fun _ => False) F H F H σ0 ss0 → Sts K (fun _ => False) F H F H (σ0 ++ vs.map some) (ss0 ++ ds.map .dt)
  | _, _, .nil, _, _, S => by simpa using S
  | _, _, .cons (v := v) (vs := vs) (d := d) (ds := ds) a b, σ0, ss0, S => by
    have := dp_init b (S.push_dt a)
    simpa [List.append_assoc] using this
theorem Sts.pad (S : Sts K M F0 H0 F H σ ss) : ∀ n : Nat, Sts K M F0 H0 F H (σ ++ List.replicate n none) (ss ++ List.replicate n .no)
  | 0 => by simpa using S
  | n + 1 => by
    obtain ⟨g, l, L, O⟩ := S.pad n
    have e1 : σ ++ List.replicate (n + 1) (none : Option V) = (σ ++ List.replicate n none) ++ [none] := by rw [List.replicate_succ', List.append_assoc]
    have e2 : ss ++ List.replicate (n + 1) Sl.no = (ss ++ List.replicate n .no) ++ [.no] := by rw [List.replicate_succ', List.append_assoc]
    rw [e1, e2]
    generalize σ ++ List.replicate n none = σ1 at l O
    generalize ss ++ List.replicate n Sl.no = ss1 at l O
    have cut : ∀ {i}, i < (ss1 ++ [Sl.no]).length → i < ss1.length ∨ i = ss1.length := fun {i} h => by
      rw [List.length_append] at h
      have : [Sl.no].length = 1 := rfl
      omega
    refine ⟨g, by rw [List.length_append, List.length_append, l]; rfl, fun i => if i < ss1.length then L i else [], fun i s h => ?_, fun i s p o hs hp => ?_, fun i hi => ?_, fun i j p hi hj hp hq => ?_⟩
    · rcases cut (List.getElem?_eq_some_iff.mp h).1 with hi | rfl
      · rw [List.getElem?_append_left hi] at h
        rw [if_pos hi]
        refine (O.ok i s h).cong fun j hj => ?_
        rw [List.getElem?_append_left (by omega)]
      · rw [List.getElem?_append_right (Nat.le_refl _), Nat.sub_self] at h
        cases h
        rw [if_neg (Nat.lt_irrefl _)]
        rfl
    · rcases cut (List.getElem?_eq_some_iff.mp hs).1 with hi | rfl
      · rw [if_pos hi] at hp
        rw [List.getElem?_append_left hi] at hs
        exact O.at_ i s p o hs hp
      · rw [if_neg (Nat.lt_irrefl _)] at hp
        cases hp
    · rcases cut hi with hi | rfl
      · simp only [if_pos hi]
        exact O.nd i hi
      · simp only [if_neg (Nat.lt_irrefl _)]
        exact .nil
    · rcases cut hi with hi | rfl
      · rcases cut hj with hj | rfl
        · rw [if_pos hi] at hp
          rw [if_pos hj] at hq
          exact O.ap i j p hi hj hp hq
        · rw [if_neg (Nat.lt_irrefl _)] at hq
          cases hq
      · rw [if_neg (Nat.lt_irrefl _)] at hp
        cases hp
theorem Sts.init {N : List Str} {vs : List V} (e : Ex F H) (h : DpAll K F vs ds) : Sts K (fun _ => False) F H F H (L2.start N vs ++ []) (ssOf N.length ds ++ []) := by
  have S0 : Sts K (fun _ => False) F H F H [] [] := ⟨(Gr.refl e).toM, rfl, fun _ => [], by intro i s h; simp at h, by intro i s p o h; simp at h, fun i h => by simp at h, fun i j p h => by simp at h⟩
  have S1 := (dp_init h S0).pad (N.length - vs.length)
  rw [List.append_nil, List.append_nil]
  unfold L2.start ssOf
  rw [← dpAll_len h]
  simpa using S1
theorem init_len {N : List Str} {vs : List V} (h : DpAll K F vs ds) (hl : ds.length ≤ N.length) : (L2.start N vs).length = (ssOf N.length ds).length := by
  unfold L2.start ssOf
  rw [List.length_append, List.length_append, List.length_map, List.length_map, List.length_replicate, List.length_replicate, dpAll_len h]
theorem spF_len {R : List PyData → Sl → Prop} {X : List PyData → Addr → Prop} {n : Nat} (hR : ∀ ds r, R ds r → ds.length = n) (hX : ∀ ds C, X ds C → ds.length = n) : ∀ vs H Q E, spF K R X vs H Q E → vs.length = n := fun vs H Q E h => by
  obtain ⟨F, ds, _, hv, ⟨r, h, _⟩ | ⟨C, h, _⟩⟩ := h
  · rw [dpAll_len hv, hR ds r h]
  · rw [dpAll_len hv, hX ds C h]
/-! ### built-in functions -/
def lenD : PyData → Option Nat
  | .list ds => some ds.length
  | .tuple ds => some ds.length
  | .str z => if z.length ≤ sizeLine then some z.length else none
  | _ => none
def rLenR (K : PySem.W.Frag) : List V → Hp → VK → Prop := fun xs H Q => ∃ x n, xs = [x] ∧ LenV K x H n ∧ Q (.int (n : Nat)) H
theorem call_lenR {X : Cx} : CallR X (.builtin "len") (rLenR X.K) := call_len
theorem ev_len {n : Nat} (ha : EvR K ta ss ra) (va : vw ss ra = some d) (hn : lenD d = some n) : EvR K (tCB (rLenR K) (tCons ta tNil)) ss (.dt (.int (n : Int))) := by
  refine ev_cb (ds := [d]) (av_cons ha av_nil) (by unfold vws; rw [va]; rfl) fun F H vs Q e h k => ?_
  cases h with
  | cons a b =>
    cases b
    rename_i x
    refine ⟨x, n, rfl, ?_, k.int⟩
    cases d with
    | list ds =>
      obtain ⟨p, ws, rfl, c, f⟩ := a.lst e
      cases hn
      exact .inl ⟨ws, c, (dpAll_len f).symm⟩
    | tuple ds =>
      obtain ⟨p, ws, rfl, c, f⟩ := a.tup e
      cases hn
      exact .inr ⟨ws, c, (dpAll_len f).symm⟩
    | str z =>
      rw [a.str]
      have hn' : (if z.length ≤ sizeLine then some z.length else none) = some n := hn
      by_cases hz : z.length ≤ sizeLine
      · rw [if_pos hz] at hn'
        cases hn'
        exact ⟨hz, rfl⟩
      · rw [if_neg hz] at hn'
        cases hn'
    | none => cases hn
    | bool _ => cases hn
    | int _ => cases hn
    | dict _ => cases hn
/-- the class of a thing that is data -/
def tyN : PyData → String
  | .none => "NoneType"
  | .bool _ => "bool"
  | .int _ => "int"
  | .str _ => "str"
  | .list _ => "list"
  | .tuple _ => "tuple"
  | .dict _ => "dict"
theorem tyx_of (h : Dp K H v d) : TyX K H v (.type (tyN d)) := by
  cases h with
  | non => exact .base .non
  | bl b => exact .base (.bl b)
  | int i => exact .base (.int i)
  | str x => exact .base (.str x)
  | lst a b =>
    rcases a with (a | ⟨o, a⟩) | ⟨o, its, n, a, b, _⟩
    · exact .base (.lst a)
    · exact .base (.frz a)
    · exact .kList a b
  | tup a b =>
    rcases a with (a | ⟨o, a⟩) | ⟨o, its, n, a, b, _⟩
    · exact .base (.tup a)
    · exact .fTuple a
    · exact .kTuple a b
theorem ev_ty {n : String} : EvR K (tC (.ty n)) ss (.fx fun _ v => v = .ty n) := fun M F0 H0 F H σ xs ts l S Q q => by
  have S2 := S.push_fx (v := .ty n) (φ := fun _ v => v = .ty n) fun _ _ => rfl
  rw [List.append_assoc, List.append_assoc] at S2
  exact q _ F H (Gr.refl S.fh) trivial S2
theorem ev_isi {n : String} {b : Bool} (ha : EvR K ta ss ra) (va : vw ss ra = some d) (h : kitB (tyN d) n = some b) : EvR K (tCB (rIsi K) (tCons ta (tCons (tC (.ty n)) tNil))) ss (.dt (.bool b)) := fun M F0 H0 F H σ xs ts l S Q q => by
  refine ha M F0 H0 F H σ xs ts l S _ fun v F1 H1 g1 n1 S1 => ?_
  have hv := S1.lastV S.len2 va
  exact ⟨v, .ty n, .type (tyN d), .type n, b, rfl, .ty n, tyx_of (hv.dp S1.fh), kit_ty h, (RetR.mk g1 (S1.back S.len2) q).bl⟩
def isIntB : PyData → Bool
  | .int _ => true
  | .bool _ => true
  | _ => false
def isBoolB : PyData → Bool
  | .bool _ => true
  | _ => false
def isStrB : PyData → Bool
  | .str _ => true
  | _ => false
def isListB : PyData → Bool
  | .list _ => true
  | _ => false
def isTupleB : PyData → Bool
  | .tuple _ => true
  | _ => false
theorem kit_int (d : PyData) : kitB (tyN d) "int" = some (isIntB d) := by
  cases d with
  | none => exact (show kitB "NoneType" "int" = some false by decide +kernel)
  | bool _ => exact (show kitB "bool" "int" = some true by decide +kernel)
  | int _ => exact (show kitB "int" "int" = some true by decide +kernel)
  | str _ => exact (show kitB "str" "int" = some false by decide +kernel)
  | list _ => exact (show kitB "list" "int" = some false by decide +kernel)
  | tuple _ => exact (show kitB "tuple" "int" = some false by decide +kernel)
  | dict _ => exact (show kitB "dict" "int" = some false by decide +kernel)
theorem kit_bool (d : PyData) : kitB (tyN d) "bool" = some (isBoolB d) := by
  cases d with
  | none => exact (show kitB "NoneType" "bool" = some false by decide +kernel)
  | bool _ => exact (show kitB "bool" "bool" = some true by decide +kernel)
  | int _ => exact (show kitB "int" "bool" = some false by decide +kernel)
  | str _ => exact (show kitB "str" "bool" = some false by decide +kernel)
  | list _ => exact (show kitB "list" "bool" = some false by decide +kernel)
  | tuple _ => exact (show kitB "tuple" "bool" = some false by decide +kernel)
  | dict _ => exact (show kitB "dict" "bool" = some false by decide +kernel)
theorem kit_str (d : PyData) : kitB (tyN d) "str" = some (isStrB d) := by
  cases d with
  | none => exact (show kitB "NoneType" "str" = some false by decide +kernel)
  | bool _ => exact (show kitB "bool" "str" = some false by decide +kernel)
  | int _ => exact (show kitB "int" "str" = some false by decide +kernel)
  | str _ => exact (show kitB "str" "str" = some true by decide +kernel)
  | list _ => exact (show kitB "list" "str" = some false by decide +kernel)
  | tuple _ => exact (show kitB "tuple" "str" = some false by decide +kernel)
  | dict _ => exact (show kitB "dict" "str" = some false by decide +kernel)
theorem kit_list (d : PyData) : kitB (tyN d) "list" = some (isListB d) := by
  cases d with
  | none => exact (show kitB "NoneType" "list" = some false by decide +kernel)
  | bool _ => exact (show kitB "bool" "list" = some false by decide +kernel)
  | int _ => exact (show kitB "int" "list" = some false by decide +kernel)
  | str _ => exact (show kitB "str" "list" = some false by decide +kernel)
  | list _ => exact (show kitB "list" "list" = some true by decide +kernel)
  | tuple _ => exact (show kitB "tuple" "list" = some false by decide +kernel)
  | dict _ => exact (show kitB "dict" "list" = some false by decide +kernel)
theorem kit_tuple (d : PyData) : kitB (tyN d) "tuple" = some (isTupleB d) := by
  cases d with
  | none => exact (show kitB "NoneType" "tuple" = some false by decide +kernel)
  | bool _ => exact (show kitB "bool" "tuple" = some false by decide +kernel)
  | int _ => exact (show kitB "int" "tuple" = some false by decide +kernel)
  | str _ => exact (show kitB "str" "tuple" = some false by decide +kernel)
  | list _ => exact (show kitB "list" "tuple" = some false by decide +kernel)
  | tuple _ => exact (show kitB "tuple" "tuple" = some true by decide +kernel)
  | dict _ => exact (show kitB "dict" "tuple" = some false by decide +kernel)
def rAbs : List V → Hp → VK → Prop := fun xs H Q => ∃ i, xs = [.int i] ∧ Q (.int (if i < 0 then -i else i)) H
theorem call_absR {X : Cx} : CallR X (.builtin "abs") rAbs := call_abs
theorem vw1 {F H : Hp} {vs : List V} {d : PyData} (h : VwA K F H vs [d]) : ∃ v, vs = [v] ∧ VwD K F H v d := by
  cases h with
  | cons a b =>
    cases b
    exact ⟨_, rfl, a⟩
theorem vw2 {F H : Hp} {vs : List V} {d e : PyData} (h : VwA K F H vs [d, e]) : ∃ v w, vs = [v, w] ∧ VwD K F H v d ∧ VwD K F H w e := by
  cases h with
  | cons a b =>
    cases b with
    | cons b c =>
      cases c
      exact ⟨_, _, rfl, a, b⟩
theorem ev_abs {i : Int} (ha : EvR K ta ss (.dt (.int i))) : EvR K (tCB rAbs (tCons ta tNil)) ss (.dt (.int (i.natAbs : Int))) := by
  refine ev_cb (ds := [.int i]) (av_cons ha av_nil) rfl fun F H vs Q e h k => ?_
  obtain ⟨v, rfl, a⟩ := vw1 h
  refine ⟨i, by rw [a.int], ?_⟩
  have e2 : (if i < 0 then -i else i) = (i.natAbs : Int) := by split <;> omega
  rw [e2]
  exact k.int
def rMin : List V → Hp → VK → Prop := fun xs H Q => ∃ i j, xs = [.int i, .int j] ∧ Q (.int (if j < i then j else i)) H
def rMax : List V → Hp → VK → Prop := fun xs H Q => ∃ i j, xs = [.int i, .int j] ∧ Q (.int (if j > i then j else i)) H
theorem call_minR {X : Cx} (hc : X.calm = true) : CallR X (.builtin "min") rMin := call_min2 hc
theorem call_maxR {X : Cx} (hc : X.calm = true) : CallR X (.builtin "max") rMax := call_max2 hc
theorem ev_min {i j : Int} (ha : EvR K ta ss (.dt (.int i))) (hb : EvR K tb ss (.dt (.int j))) : EvR K (tCB rMin (tCons ta (tCons tb tNil))) ss (.dt (.int (min i j))) := by
  refine ev_cb (ds := [.int i, .int j]) (av_cons ha (av_cons hb av_nil)) rfl fun F H vs Q e h k => ?_
  obtain ⟨v, w, rfl, a, b⟩ := vw2 h
  refine ⟨i, j, by rw [a.int, b.int], ?_⟩
  have e2 : (if j < i then j else i) = min i j := by rw [Int.min_def]; split <;> split <;> omega
  rw [e2]
  exact k.int
theorem ev_max {i j : Int} (ha : EvR K ta ss (.dt (.int i))) (hb : EvR K tb ss (.dt (.int j))) : EvR K (tCB rMax (tCons ta (tCons tb tNil))) ss (.dt (.int (max i j))) := by
  refine ev_cb (ds := [.int i, .int j]) (av_cons ha (av_cons hb av_nil)) rfl fun F H vs Q e h k => ?_
  obtain ⟨v, w, rfl, a, b⟩ := vw2 h
  refine ⟨i, j, by rw [a.int, b.int], ?_⟩
  have e2 : (if j > i then j else i) = max i j := by rw [Int.max_def]; split <;> split <;> omega
  rw [e2]
  exact k.int
def rIntB : List V → Hp → VK → Prop := fun xs H Q => (∃ i, xs = [.int i] ∧ Q (.int i) H) ∨ ∃ k, xs = [.bl k] ∧ Q (.int (if k then 1 else 0)) H
theorem call_intR {X : Cx} : CallR X (.type "int") rIntB := call_int1
theorem ev_intB {b : Bool} (ha : EvR K ta ss (.dt (.bool b))) : EvR K (tCB rIntB (tCons ta tNil)) ss (.dt (.int (if b then 1 else 0))) := by
  refine ev_cb (ds := [.bool b]) (av_cons ha av_nil) rfl fun F H vs Q e h k => ?_
  obtain ⟨v, rfl, a⟩ := vw1 h
  exact .inr ⟨b, by rw [a.bl], k.int⟩
def rStrI : List V → Hp → VK → Prop := fun xs H Q => ∃ i : Int, xs = [.int i] ∧ i.natAbs.log2 < 1920 ∧ Q (.str (toString i)) H
theorem call_strR {X : Cx} : CallR X (.type "str") rStrI := call_str_int
theorem ev_strI {i : Int} (ha : EvR K ta ss (.dt (.int i))) (hi : i.natAbs.log2 < 1920) : EvR K (tCB rStrI (tCons ta tNil)) ss (.dt (.str (toString i))) := by
  refine ev_cb (ds := [.int i]) (av_cons ha av_nil) rfl fun F H vs Q e h k => ?_
  obtain ⟨v, rfl, a⟩ := vw1 h
  exact ⟨i, by rw [a.int], hi, k.str⟩
/-- all(..), any(..) of a list of truths -/
theorem dpAll_bls : ∀ {bs : List Bool} {vs : List V}, DpAll K F vs (bs.map PyData.bool) → vs = bs.map V.bl
  | [], _, h => by cases h; rfl
  | b :: bs, _, h => by
    cases h with
    | cons a c =>
      cases a
      rw [dpAll_bls c]
      rfl
theorem dpAll_ints : ∀ {bs : List Int} {vs : List V}, DpAll K F vs (bs.map PyData.int) → vs = bs.map V.int
  | [], _, h => by cases h; rfl
  | b :: bs, _, h => by
    cases h with
    | cons a c =>
      cases a
      rw [dpAll_ints c]
      rfl
theorem dpAll_strs : ∀ {bs : List Str} {vs : List V}, DpAll K F vs (bs.map PyData.str) → vs = bs.map V.str
  | [], _, h => by cases h; rfl
  | b :: bs, _, h => by
    cases h with
    | cons a c =>
      cases a
      rw [dpAll_strs c]
      rfl
theorem ints_dp : ∀ {bs : List Int}, DpAll K F (bs.map V.int) (bs.map PyData.int)
  | [] => .nil
  | b :: bs => .cons (.int b) ints_dp
theorem strs_dp : ∀ {bs : List Str}, DpAll K F (bs.map V.str) (bs.map PyData.str)
  | [] => .nil
  | b :: bs => .cons (.str b) strs_dp
theorem ev_all {bs : List Bool} (ha : EvR K ta ss ra) (va : vw ss ra = some (.list (bs.map .bool))) : EvR K (tCB (rAll K) (tCons ta tNil)) ss (.dt (.bool (bs.all id))) := by
  refine ev_cb (ds := [.list (bs.map .bool)]) (av_cons ha av_nil) (by unfold vws; rw [va]; rfl) fun F H vs Q e h k => ?_
  obtain ⟨v, rfl, a⟩ := vw1 h
  obtain ⟨p, ws, rfl, c, f⟩ := a.lst e
  rw [dpAll_bls f] at c
  exact ⟨p, bs, rfl, c, k.bl⟩
theorem ev_any {bs : List Bool} (ha : EvR K ta ss ra) (va : vw ss ra = some (.list (bs.map .bool))) : EvR K (tCB (rAny K) (tCons ta tNil)) ss (.dt (.bool (bs.any id))) := by
  refine ev_cb (ds := [.list (bs.map .bool)]) (av_cons ha av_nil) (by unfold vws; rw [va]; rfl) fun F H vs Q e h k => ?_
  obtain ⟨v, rfl, a⟩ := vw1 h
  obtain ⟨p, ws, rfl, c, f⟩ := a.lst e
  rw [dpAll_bls f] at c
  exact ⟨p, bs, rfl, c, k.bl⟩
theorem ev_sum {ns : List Int} (ha : EvR K ta ss ra) (va : vw ss ra = some (.list (ns.map .int))) : EvR K (tCB (rSum K) (tCons ta tNil)) ss (.dt (.int ns.sum)) := by
  refine ev_cb (ds := [.list (ns.map .int)]) (av_cons ha av_nil) (by unfold vws; rw [va]; rfl) fun F H vs Q e h k => ?_
  obtain ⟨v, rfl, a⟩ := vw1 h
  obtain ⟨p, ws, rfl, c, f⟩ := a.lst e
  rw [dpAll_ints f] at c
  exact ⟨p, ns, rfl, c, k.int⟩
/-- list(xs), of a list or a tuple -/
def rListR (K : PySem.W.Frag) : List V → Hp → VK → Prop := fun xs H Q => ∃ p ys, xs = [.ref p] ∧ (SqL K H p ys ∨ SqT K H p ys) ∧ ∀ l, H l = none → Q (.ref l) (upd H l (.lst ys))
theorem call_listR {X : Cx} : CallR X (.type "list") (rListR X.K) := call_list_of
theorem ev_list (ha : EvR K ta ss ra) (va : vw ss ra = some (.list ds)) : EvR K (tCB (rListR K) (tCons ta tNil)) ss (.ls ds) := by
  refine ev_cb (ds := [.list ds]) (av_cons ha av_nil) (by unfold vws; rw [va]; rfl) fun F H vs Q e h k => ?_
  obtain ⟨v, rfl, a⟩ := vw1 h
  obtain ⟨p, ws, rfl, c, f⟩ := a.lst e
  exact ⟨p, ws, rfl, .inl c, fun l hl => k.lst f hl⟩
theorem ev_listT (ha : EvR K ta ss ra) (va : vw ss ra = some (.tuple ds)) : EvR K (tCB (rListR K) (tCons ta tNil)) ss (.ls ds) := by
  refine ev_cb (ds := [.tuple ds]) (av_cons ha av_nil) (by unfold vws; rw [va]; rfl) fun F H vs Q e h k => ?_
  obtain ⟨v, rfl, a⟩ := vw1 h
  obtain ⟨p, ws, rfl, c, f⟩ := a.tup e
  exact ⟨p, ws, rfl, .inr c, fun l hl => k.lst f hl⟩
/-! ### texts -/
def rCatS : R2 := fun x y H Q => ∃ i j, x = .str i ∧ y = .str j ∧ i.length + j.length ≤ sizeLine ∧ Q (.str (i ++ j)) H
theorem op_catS {X : Cx} : OpR X (binaryOp .Add) rCatS := op_add_str
theorem ev_catS {a b : Str} (ha : EvR K ta ss (.dt (.str a))) (hb : EvR K tb ss (.dt (.str b))) (h : a.length + b.length ≤ sizeLine) : EvR K (tOp rCatS ta tb) ss (.dt (.str (a ++ b))) :=
  ev_op ha hb rfl rfl fun F H x y Q e hx hy k => ⟨a, b, hx.str, hy.str, h, k.str⟩
/-! ### slices of lists -/
def cutD (xs : List PyData) (lo hi : Option Int) : List PyData := (xs.drop (HT.sIx xs.length 0 lo)).take (HT.sIx xs.length xs.length hi - HT.sIx xs.length 0 lo)
theorem dpAll_take : ∀ {vs : List V} {ds : List PyData} (n : Nat), DpAll K F vs ds → DpAll K F (vs.take n) (ds.take n)
  | _, _, 0, _ => by rw [List.take_zero, List.take_zero]; exact .nil
  | _, _, n + 1, .nil => .nil
  | _, _, n + 1, .cons a b => .cons a (dpAll_take n b)
theorem dpAll_drop : ∀ {vs : List V} {ds : List PyData} (n : Nat), DpAll K F vs ds → DpAll K F (vs.drop n) (ds.drop n)
  | _, _, 0, h => h
  | _, _, n + 1, .nil => .nil
  | _, _, n + 1, .cons a b => dpAll_drop n b
theorem dpAll_cut {vs : List V} {lo hi : Option Int} (h : DpAll K F vs ds) : DpAll K F (cutV vs lo hi) (cutD ds lo hi) := by
  unfold cutV cutD
  rw [dpAll_len h]
  exact dpAll_take _ (dpAll_drop _ h)
def OvR (K : PySem.W.Frag) (to : TO) (ss : List Sl) (o : Option Int) : Prop := ∀ (M : Addr → Prop) (F0 H0 F H : Hp) (σ xs : L2.St) (ts : List Sl), σ.length = ss.length → Sts K M F0 H0 F H (σ ++ xs) (ss ++ ts) →
  ∀ Q : Option Int → Hp → Prop, (∀ F' H', Gr F H F' H' → Sts K M F0 H0 F' H' (σ ++ xs) (ss ++ ts) → Q o H') → to σ H Q
theorem ov_none : OvR K tNoPart ss none := fun M F0 H0 F H σ xs ts l S Q q => q F H (Gr.refl S.fh) S
theorem ov_some {i : Int} (h : EvR K te ss (.dt (.int i))) : OvR K (tPart te) ss (some i) := fun M F0 H0 F H σ xs ts l S Q q => by
  refine h M F0 H0 F H σ xs ts l S _ fun v F1 H1 g1 n1 S1 => ?_
  exact ⟨i, (S1.lastV S.len2 (d := .int i) rfl).int, q F1 H1 g1 (S1.back S.len2)⟩
theorem ev_slL {to tp : TO} {lo hi : Option Int} (ha : EvR K ta ss ra) (va : vw ss ra = some (.list ds)) (h1 : OvR K to ss lo) (h2 : OvR K tp ss hi) : EvR K (tSl (rSlL K) ta to tp) ss (.ls (cutD ds lo hi)) := fun M F0 H0 F H σ xs ts l S Q q => by
  refine ha M F0 H0 F H σ xs ts l S _ fun v F1 H1 g1 n1 S1 => ?_
  refine h1 M F0 H0 F1 H1 σ _ _ l S1 _ fun F2 H2 g2 S2 => ?_
  refine h2 M F0 H0 F2 H2 σ _ _ l S2 _ fun F3 H3 g3 S3 => ?_
  obtain ⟨p, ws, rfl, c, f⟩ := (S3.lastV S.len2 va).lst S3.fh
  exact ⟨p, ws, rfl, c, fun q' hq => (RetR.mk ((g1.trans g2).trans g3) (S3.back S.len2) q).lst (dpAll_cut f) hq⟩
theorem ev_slS {to tp : TO} {lo hi : Option Int} {z : Str} (ha : EvR K ta ss (.dt (.str z))) (hz : z.length ≤ sizeLine) (h1 : OvR K to ss lo) (h2 : OvR K tp ss hi) : EvR K (tSl rSlS ta to tp) ss (.dt (.str (cutS z lo hi))) := fun M F0 H0 F H σ xs ts l S Q q => by
  refine ha M F0 H0 F H σ xs ts l S _ fun v F1 H1 g1 n1 S1 => ?_
  refine h1 M F0 H0 F1 H1 σ _ _ l S1 _ fun F2 H2 g2 S2 => ?_
  refine h2 M F0 H0 F2 H2 σ _ _ l S2 _ fun F3 H3 g3 S3 => ?_
  have hv := (S3.lastV S.len2 (d := .str z) rfl).str
  exact ⟨z, hv, hz, (RetR.mk ((g1.trans g2).trans g3) (S3.back S.len2) q).str⟩
end
end Fh
set_option Elab.async false
set_option linter.all false
set_option maxRecDepth 100000
set_option maxHeartbeats 2000000
namespace Fh
open PySem PySem.Spec PyProof.Rows L2 Evl
open PySem.W (Datum)

/-! ### a def that stands: its promise, its name, its defaults -/
structure DefOk (P : Program) (w : World) (K : PySem.W.Frag) (mg : Str → Option Value) (base : Heap) (k : Nat) (x : Str) (ps : List Str) (sp : Sp) (dvs : List V) : Prop where
  ex : ∃ f fd ds, FnOk P w K mg base (L2.CX P w) k f fd ps sp ∧ mg x = some (.ref f) ∧ PySem.W.keepIn K (.ref f) = true ∧ Binds K fd ps ds ∧ Vals dvs ds
section
variable {X : Cx} {k : Nat} {x : Str} {ps : List Str} {sp : Sp} {dvs : List V} {E : XK} {p pos : Pos} {e : Expr} {es : List Expr} {t : TA}
theorem pe_own (D : DefOk X.prog X.w X.K X.mg X.base k x ps sp dvs) (hr : Room k X.A) (hg : Gl X x) (hx : Passes (L2.CX X.prog X.w) X E) (ha : PA X (e :: es) t) (hdb : (x == ("__debug__" : Str)) = false := by decide)
    (he : starEach (e :: es) X.env = (false, eval e X.env) :: starEach es X.env := by rfl) (hpl : (backTo pos (starEach es X.env)).any (·.1) = false := by rfl) : PE X (.Call (.Name x p) (e :: es) [] pos) (tCall sp dvs E t) := by
  obtain ⟨f, fd, ds, F, m, kp, b, v⟩ := D.ex
  exact pe_call F hr hg m kp b v hx ha hdb he hpl
theorem pe_own0 (D : DefOk X.prog X.w X.K X.mg X.base k x ps sp dvs) (hr : Room k X.A) (hg : Gl X x) (hx : Passes (L2.CX X.prog X.w) X E) (hdb : (x == ("__debug__" : Str)) = false := by decide) : PE X (.Call (.Name x p) [] [] pos) (tCall sp dvs E tNil) := by
  obtain ⟨f, fd, ds, F, m, kp, b, v⟩ := D.ex
  exact pe_call0 F hr hg m kp b v hx hdb
/-- in a try's body: what the callee lets out is what the try wishes, at the slots as they are -/
def tCallW (sp : Sp) (dvs : List V) (W : WX) (t : TA) : TE := fun σ H Q => t σ H fun vs H1 => sp (vs ++ dvs) H1 Q (WE W σ)
theorem pe_ownW {W : WX} (D : DefOk X.prog X.w X.K X.mg X.base k x ps sp dvs) (hr : Room k X.A) (hg : Gl X x) (tk : Takes X W) (ha : PA X (e :: es) t) (hdb : (x == ("__debug__" : Str)) = false := by decide)
    (he : starEach (e :: es) X.env = (false, eval e X.env) :: starEach es X.env := by rfl) (hpl : (backTo pos (starEach es X.env)).any (·.1) = false := by rfl) : PE X (.Call (.Name x p) (e :: es) [] pos) (tCallW sp dvs W t) := by
  obtain ⟨f, fd, ds, F, m, kp, b, v⟩ := D.ex
  refine ⟨fun pins s σ H Q I h => ?_⟩
  refine wpAny_Call_Name_kw (ld_glob I hg m ?_ hdb)
  refine PySem.W.callWith_K (h₀ := X.base) I.ok.mod.kin kp (thn (ha.run pos pins s σ H _ I h) fun us s1 ⟨vs, H1, I1, r, q⟩ => ⟨I1.kIn, ?_⟩) he hpl
  have r2 : Vals (vs ++ dvs) (us ++ ds) := r.append v
  have hl : (us ++ ds).length = ps.length := by rw [← r2.length]; exact F.len _ _ _ _ q
  refine wpAny_call (codeAny_mono (F.run X.A X.stack s1 H1 ⟨us, []⟩ (us ++ ds) (vs ++ dvs) Q (WE W σ) hr I1.env0 (b s1 us I1.kIn hl) r2 q) fun r' s' hq => ?_)
  cases r' with
  | error e => exact passAt tk σ pins H1 s1 e s' I1 hq
  | ok fl =>
    cases fl with
    | ret u => exact I1.after hq
    | next => exact False.elim hq
    | brk => exact False.elim hq
    | cont => exact False.elim hq
end
section
variable {K : PySem.W.Frag} {M : Addr → Prop} {F0 H0 F H F' H' : Hp} {σ xs gs : L2.St} {ss ts rs gt ss2 : List Sl} {ta tb te tc tl : TE} {tr : TA} {t u tt : TT} {r ra rb : Sl} {d da db e : PyData} {ds es : List PyData} {Q : VK} {v x y : V}
theorem ev_callW {R : List PyData → Sl → Prop} {X : List PyData → Addr → Prop} {dvs : List V} {es : List PyData} {W : WX} (ha : AvR K tr ss rs) (va : dts rs = some ds) (hd : ∀ F, DpAll K F dvs es) (h : R (ds ++ es) r) : EvR K (tCallW (spF K R X) dvs W tr) ss r := fun M F0 H0 F H σ xs ts l S Q q => by
  refine ha M F0 H0 F H σ xs ts l S _ fun vs F1 H1 hl g1 S1 => ?_
  have l1 := S.len2
  exact ⟨F1, _, S1.fh, dpAll_app (S1.argsD l1 hl va) (hd F1), .inl ⟨r, h, RetR.mk g1 (S1.backA l1) q⟩⟩
/-- a call that raises, as a statement -/
theorem st_raiseW {R : List PyData → Sl → Prop} {X : List PyData → Addr → Prop} {dvs : List V} {es : List PyData} {W : WX} {D : Ends} {C : Addr} (S : Sts K M F0 H0 F H (σ ++ gs) (ss ++ gt)) (l : σ.length = ss.length) (ha : AvR K tr ss rs) (va : vws ss rs = some ds) (hd : ∀ F, DpAll K F dvs es) (h : X (ds ++ es) C)
    (k : ∀ F' H', Sts K M F0 H0 F' H' (σ ++ gs) (ss ++ gt) → W (.ref C) none σ H') : tDrop (tCallW (spF K R X) dvs W tr) D σ H := by
  refine ha M F0 H0 F H σ gs gt l S _ fun vs F1 H1 hl g1 S1 => ?_
  have l1 := S.len2
  refine ⟨H1, _, Ex.refl H1, dpAll_app (vwA_dp (S1.argsV l1 hl va) S1.fh) (hd H1), .inr ⟨C, h, fun H' e => ?_⟩⟩
  exact k F1 H' ((S1.backA l1).grow (Gr.of S1.fh e))
theorem st_raiseE {R : List PyData → Sl → Prop} {X : List PyData → Addr → Prop} {dvs : List V} {es : List PyData} {E : XK} {D : Ends} {C : Addr} (S : Sts K M F0 H0 F H (σ ++ gs) (ss ++ gt)) (l : σ.length = ss.length) (ha : AvR K tr ss rs) (va : vws ss rs = some ds) (hd : ∀ F, DpAll K F dvs es) (h : X (ds ++ es) C)
    (k : ∀ F' H', Sts K M F0 H0 F' H' (σ ++ gs) (ss ++ gt) → E (.ref C) none H') : tDrop (tCall (spF K R X) dvs E tr) D σ H := by
  refine ha M F0 H0 F H σ gs gt l S _ fun vs F1 H1 hl g1 S1 => ?_
  have l1 := S.len2
  refine ⟨H1, _, Ex.refl H1, dpAll_app (vwA_dp (S1.argsV l1 hl va) S1.fh) (hd H1), .inr ⟨C, h, fun H' e => ?_⟩⟩
  exact k F1 H' ((S1.backA l1).grow (Gr.of S1.fh e))
/-- .. handed back or stored: the same -/
theorem st_raiseA {R : List PyData → Sl → Prop} {X : List PyData → Addr → Prop} {dvs : List V} {es : List PyData} {E : XK} {D : Ends} {C : Addr} {i : Nat} (S : Sts K M F0 H0 F H (σ ++ gs) (ss ++ gt)) (l : σ.length = ss.length) (ha : AvR K tr ss rs) (va : vws ss rs = some ds) (hd : ∀ F, DpAll K F dvs es) (h : X (ds ++ es) C)
    (k : ∀ F' H', Sts K M F0 H0 F' H' (σ ++ gs) (ss ++ gt) → E (.ref C) none H') : tAsg (tCall (spF K R X) dvs E tr) (gName i) D σ H := by
  refine ha M F0 H0 F H σ gs gt l S _ fun vs F1 H1 hl g1 S1 => ?_
  have l1 := S.len2
  refine ⟨H1, _, Ex.refl H1, dpAll_app (vwA_dp (S1.argsV l1 hl va) S1.fh) (hd H1), .inr ⟨C, h, fun H' e => ?_⟩⟩
  exact k F1 H' ((S1.backA l1).grow (Gr.of S1.fh e))
theorem st_raiseR {R : List PyData → Sl → Prop} {X : List PyData → Addr → Prop} {dvs : List V} {es : List PyData} {E : XK} {D : Ends} {C : Addr} (S : Sts K M F0 H0 F H (σ ++ gs) (ss ++ gt)) (l : σ.length = ss.length) (ha : AvR K tr ss rs) (va : vws ss rs = some ds) (hd : ∀ F, DpAll K F dvs es) (h : X (ds ++ es) C)
    (k : ∀ F' H', Sts K M F0 H0 F' H' (σ ++ gs) (ss ++ gt) → E (.ref C) none H') : tRet (tCall (spF K R X) dvs E tr) D σ H := by
  refine ha M F0 H0 F H σ gs gt l S _ fun vs F1 H1 hl g1 S1 => ?_
  have l1 := S.len2
  refine ⟨H1, _, Ex.refl H1, dpAll_app (vwA_dp (S1.argsV l1 hl va) S1.fh) (hd H1), .inr ⟨C, h, fun H' e => ?_⟩⟩
  exact k F1 H' ((S1.backA l1).grow (Gr.of S1.fh e))
theorem Sts.hh (S : Sts K (fun _ => False) F0 H0 F H σ ss) : Ex H0 H := S.gr.toGr.hh
/-! ### numbers of any size that we meet -/
def bigN : Nat := 10000000
def CMulY (i j : Int) : Prop := i.natAbs < 2 ^ bigN ∧ j.natAbs < 2 ^ bigN
theorem CMulY.ok {i j : Int} (h : CMulY i j) : CMulX i j := mulx_ok h.1 h.2 (by decide)
theorem op_mulY {X : Cx} : OpR X (binaryOp .Mult) (rI CMulY fun i j => .int (i * j)) := fun pins s σ H x y v u Q I rx ry ⟨i, j, a, b, c, q⟩ => op_mulX pins s σ H x y v u Q I rx ry ⟨i, j, a, b, c.ok, q⟩
theorem two64 : (2 : Nat) ^ 64 ≤ 2 ^ bigN := Nat.pow_le_pow_right (by decide) (by decide)
theorem big_s {i : Int} (h : -(2 ^ 64) < i ∧ i < 2 ^ 64) : i.natAbs < 2 ^ bigN := Nat.lt_of_lt_of_le (show i.natAbs < 2 ^ 64 by omega) two64
theorem CMulY.s {i j : Int} (h1 : -(2 ^ 64) < i ∧ i < 2 ^ 64) (h2 : -(2 ^ 64) < j ∧ j < 2 ^ 64) : CMulY i j := ⟨big_s h1, big_s h2⟩
theorem big_le {n : Nat} {i : Int} (h : i.natAbs < 2 ^ n) (hn : n ≤ bigN) : i.natAbs < 2 ^ bigN := Nat.lt_of_lt_of_le h (Nat.pow_le_pow_right (by decide) hn)
/-- // by what lies between 1 and 2 ^ 9000 -/
def CDivY (_ j : Int) : Prop := 0 < j ∧ j.natAbs < 2 ^ 9000
theorem op_divY {X : Cx} : OpR X (binaryOp .FloorDiv) (rI CDivY fun i j => .int (i / j)) := fun pins s σ H x y v u Q I rx ry ⟨i, j, a, b, c, q⟩ => op_fdivW pins s σ H x y v u Q I rx ry ⟨i, j, a, b, wide_div c.1 c.2 (by decide) (by decide), q⟩
theorem two64' : (2 : Nat) ^ 64 ≤ 2 ^ 9000 := Nat.pow_le_pow_right (by decide) (by decide)
theorem CDivY.s {i j : Int} (h1 : 0 < j) (h2 : j < 2 ^ 64) : CDivY i j := ⟨h1, Nat.lt_of_lt_of_le (show j.natAbs < 2 ^ 64 by omega) two64'⟩
/-- divmod by such -/
def rDivm : List V → Hp → VK → Prop := fun xs H Q => ∃ i j, xs = [.int i, .int j] ∧ CDivP i j ∧ ∀ p, H p = none → Q (.ref p) (upd H p (.tup [.int (i / j), .int (i % j)]))
theorem call_divmodR {X : Cx} : CallR X (.builtin "divmod") rDivm := call_divmodW
theorem divp_of {i j : Int} (h : 0 < j) (hj : j.natAbs < 2 ^ 9000) : CDivP i j := ⟨h, PyProof.noPylong_of_log2 (Nat.lt_of_lt_of_le (PySem.Flt.log2_lt_of (by decide) hj) (by decide))⟩
theorem ev_divmod {i j : Int} (ha : EvR K ta ss (.dt (.int i))) (hb : EvR K tb ss (.dt (.int j))) (h : CDivY i j) : EvR K (tCB rDivm (tCons ta (tCons tb tNil))) ss (.dt (.tuple [.int (i / j), .int (i % j)])) := by
  refine ev_cb (ds := [.int i, .int j]) (av_cons ha (av_cons hb av_nil)) rfl fun F H vs Q e h2 k => ?_
  obtain ⟨v, w, rfl, a, b⟩ := vw2 h2
  exact ⟨i, j, by rw [a.int, b.int], divp_of h.1 h.2, fun p hp => k.tup (.cons (.int _) (.cons (.int _) .nil)) hp⟩
/-! ### is None -/
def rIsNR : R2 := fun x y H Q => y = .non ∧ Q (.bl (decide (x = .non))) H
def rNotNR : R2 := fun x y H Q => y = .non ∧ Q (.bl (!decide (x = .non))) H
theorem op_isNR {X : Cx} : OpR X (compareOp .Is) rIsNR := op_isN
theorem op_notNR {X : Cx} : OpR X (compareOp .IsNot) rNotNR := op_notN
def isNo : PyData → Bool
  | .none => true
  | _ => false
theorem isNo_of (h : Dp K F v d) : decide (v = .non) = isNo d := by
  cases h <;> rfl
theorem ev_isN (ha : EvR K ta ss ra) (va : vw ss ra = some d) : EvR K (tOp rIsNR ta (tC .non)) ss (.dt (.bool (isNo d))) :=
  ev_op ha ev_non va rfl fun F H x y Q e hx hy k => ⟨hy.non, by rw [isNo_of (hx.dp e)]; exact k.bl⟩
theorem ev_notN (ha : EvR K ta ss ra) (va : vw ss ra = some d) : EvR K (tOp rNotNR ta (tC .non)) ss (.dt (.bool (!isNo d))) :=
  ev_op ha ev_non va rfl fun F H x y Q e hx hy k => ⟨hy.non, by rw [isNo_of (hx.dp e)]; exact k.bl⟩
/-! ### f-strings -/
def tFm (te : TE) : TE := fun σ H Q => te σ H fun x H1 => (∃ y : Str, x = .str y ∧ y.length ≤ sizeLine ∧ Q (.str y) H1) ∨ ∃ i : Int, x = .int i ∧ i.natAbs.log2 < 1920 ∧ Q (.str (toString i)) H1
theorem pe_fmtI {X : Cx} {e : Expr} {te : TE} {pos : Pos} (he : PE X e te) : PE X (.FormattedValue e (-1) none pos) (tFm te) := pe_fmt he
theorem pe_fmtS {X : Cx} {e : Expr} {te : TE} {pos : Pos} (he : PE X e te) : PE X (.FormattedValue e (-1) none pos) (tFm te) := pe_fmt he
theorem ev_fmtI {i : Int} (h : EvR K te ss (.dt (.int i))) (hi : i.natAbs.log2 < 1920) : EvR K (tFm te) ss (.dt (.str (toString i))) := fun M F0 H0 F H σ xs ts l S Q q => by
  refine h M F0 H0 F H σ xs ts l S _ fun v F1 H1 g1 n1 S1 => ?_
  exact .inr ⟨i, (S1.lastV S.len2 (d := .int i) rfl).int, hi, (RetR.mk g1 (S1.back S.len2) q).str⟩
theorem ev_fmtS {z : Str} (h : EvR K te ss (.dt (.str z))) (hz : z.length ≤ sizeLine) : EvR K (tFm te) ss (.dt (.str z)) := fun M F0 H0 F H σ xs ts l S Q q => by
  refine h M F0 H0 F H σ xs ts l S _ fun v F1 H1 g1 n1 S1 => ?_
  exact .inl ⟨z, (S1.lastV S.len2 (d := .str z) rfl).str, hz, (RetR.mk g1 (S1.back S.len2) q).str⟩
def tJn (ts : List TE) : TE := fun σ H Q => tJs ts Str.empty σ H fun out H1 => Q (.str out) H1
theorem pe_joinedF {X : Cx} {v1 v2 : Expr} {rest : List Expr} {ts : List TE} {pos : Pos} (h : PJ X (v1 :: v2 :: rest) ts) : PE X (.JoinedStr (v1 :: v2 :: rest) pos) (tJn ts) := pe_joined h
/-- the parts of an f-string -/
inductive JvR (K : PySem.W.Frag) (ss : List Sl) : List TE → List Str → Prop where
  | nil : JvR K ss [] []
  | cons {te : TE} {ts : List TE} {z : Str} {zs : List Str} (h : EvR K te ss (.dt (.str z))) (r : JvR K ss ts zs) : JvR K ss (te :: ts) (z :: zs)
def catAll (acc : Str) : List Str → Str
  | [] => acc
  | z :: zs => catAll (acc ++ z) zs
def fitAll (acc : Str) : List Str → Prop
  | [] => True
  | z :: zs => (acc ++ z).length ≤ sizeLine ∧ fitAll (acc ++ z) zs
theorem jv_run {tes : List TE} {zs : List Str} (h : JvR K ss tes zs) : ∀ (acc : Str) (F : Hp) (H : Hp) (Q : Str → Hp → Prop), fitAll acc zs → σ.length = ss.length → Sts K M F0 H0 F H (σ ++ xs) (ss ++ ts) → (∀ F' H', Gr F H F' H' → Sts K M F0 H0 F' H' (σ ++ xs) (ss ++ ts) → Q (catAll acc zs) H') → tJs tes acc σ H Q := by
  induction h with
  | nil => intro acc F H Q _ l S q; exact q F H (Gr.refl S.fh) S
  | cons h r ih =>
    intro acc F H Q hf l S q
    refine h M F0 H0 F H σ xs ts l S _ fun v F1 H1 g1 n1 S1 => ?_
    exact ⟨_, (S1.lastV S.len2 (d := .str _) rfl).str, hf.1, ih _ F1 H1 Q hf.2 l (S1.back S.len2) fun F' H' g S' => q F' H' (g1.trans g) S'⟩
theorem ev_joined {tes : List TE} {zs : List Str} (h : JvR K ss tes zs) (hf : fitAll Str.empty zs) : EvR K (tJn tes) ss (.dt (.str (catAll Str.empty zs))) := fun M F0 H0 F H σ xs ts l S Q q =>
  jv_run h Str.empty F H _ hf l S fun F' H' g S' => (RetR.mk g S' q).str
end

/-! ### isinstance of a caught error -/
def rIsX (K : PySem.W.Frag) (cls : Value) (d : Option Addr) (a : Addr) : List V → Hp → VK → Prop := fun xs H Q => ∃ (D : Addr) (c : V) (cv : Value) (b : Bool), cls = .ref D ∧ d = none ∧ ExcC K D ∧ xs = [.ref a, c] ∧ (∀ u, RelV c u → u = cv) ∧ PySem.W.kitOne K (.ref D) cv = some b ∧ Q (.bl b) H
theorem call_isX {X : Cx} {a : Addr} {oe : Obj} {cls : Value} {d : Option Addr} {pn : List (Addr × Obj)} (hz : Zc cls d oe) (hf : ∃ vs, oe.data = .fields vs) : CallR (X.suite a ((a, oe) :: pn)) (.builtin "isinstance") (rIsX X.K cls d a) := by
  intro pins s σ H xs us Q I r h
  obtain ⟨D, c, cv, b, rfl, rfl, C, rfl, hc, e, q⟩ := h
  exact call_isE C hz hf pins s σ H _ us Q I r ⟨c, cv, b, rfl, hc, e, q⟩
section
variable {K : PySem.W.Frag} {M : Addr → Prop} {F0 H0 F H F' H' : Hp} {σ xs gs : L2.St} {ss ts rs gt ss2 : List Sl} {ta tb te tc tl : TE} {tr : TA} {t u tt : TT} {r ra rb : Sl} {d da db e : PyData} {ds es : List PyData} {Q : VK} {v x y : V}
/-- a slot that holds just this value -/
abbrev isV (v : V) : Sl := .fx fun _ w => w = v
theorem ev_ref {C : Addr} : EvR K (tC (.ref C)) ss (isV (.ref C)) := fun M F0 H0 F H σ xs ts l S Q q => by
  have S2 := S.push_fx (v := .ref C) (φ := fun _ v => v = .ref C) fun _ _ => rfl
  rw [List.append_assoc, List.append_assoc] at S2
  exact q _ F H (Gr.refl S.fh) trivial S2
theorem ev_isX {i : Nat} {D a : Addr} {c : V} {cv : Value} {b : Bool} (hi : ss[i]? = some (isV (.ref a))) (C : ExcC K D) (hc : ∀ u, RelV c u → u = cv) (h : PySem.W.kitOne K (.ref D) cv = some b) : EvR K (tCB (rIsX K (.ref D) none a) (tCons (tVar i) (tCons (tC c) tNil))) ss (.dt (.bool b)) := fun M F0 H0 F H σ xs ts l S Q q => by
  have hl := (List.getElem?_eq_some_iff.mp hi).1
  obtain ⟨v, e1, e2⟩ := S.get_fx (i := i) (by rw [List.getElem?_append_left hl]; exact hi)
  rw [List.getElem?_append_left (by omega)] at e1
  have e3 : v = .ref a := e2 F (Ex.refl F)
  subst e3
  exact ⟨_, e1, D, c, cv, b, rfl, rfl, C, rfl, hc, h, (RetR.mk0 S q).bl⟩
/-- slot i takes a thing told by itself -/
theorem Sts.setv_fx {i : Nat} {v : V} (S : Sts K M F0 H0 F H (σ ++ gs) (ss ++ gt)) (l : σ.length = ss.length) (hi : i < ss.length) (na : (ss ++ gt).all notAl = true) : Sts K M F0 H0 F H (σ.set i (some v) ++ gs) (ss.set i (isV v) ++ gt) := by
  have S3 := (S.push_fx (v := v) (φ := fun _ w => w = v) fun _ _ => rfl).put (i := i) S.len2 (by rw [List.length_append]; omega) na rfl
  rw [List.set_append_left _ _ (by omega), List.set_append_left _ _ hi] at S3
  exact S3
theorem Sts.setNone {i : Nat} {ov : Option V} (S : Sts K M F0 H0 F H (σ ++ gs) (ss ++ gt)) (l : σ.length = ss.length) (hi : i < ss.length) (na : (ss ++ gt).all notAl = true) : Sts K M F0 H0 F H (σ.set i ov ++ gs) (ss.set i .no ++ gt) := by
  have S3 := S.wipe1 (i := i) (ov := ov) na
  rw [List.set_append_left _ _ (by omega), List.set_append_left _ _ hi] at S3
  exact S3
end
end Fh
set_option Elab.async false
set_option linter.all false
set_option maxRecDepth 100000
set_option maxHeartbeats 2000000
namespace Fh
open PySem PySem.Spec PyProof.Rows L2 Evl
open PySem.W (Datum)

/-! ### list + list -/
def rCatL (K : PySem.W.Frag) : R2 := fun x y H Q => ∃ a b xs ys, x = .ref a ∧ y = .ref b ∧ SqL K H a xs ∧ SqL K H b ys ∧ xs.length + ys.length ≤ sizeLine ∧ ∀ p, H p = none → Q (.ref p) (upd H p (.lst (xs ++ ys)))
theorem op_catL {X : Cx} : OpR X (binaryOp .Add) (rCatL X.K) := by
  intro pins s σ H x y v u Q I rx ry h
  obtain ⟨a, b, xs, ys, rfl, rfl, ha, hb, hz, q⟩ := h
  cases rx
  cases ry
  obtain ⟨its, r, ⟨⟨cls, dd, data, sl⟩, n, e, c1, c2, c3⟩, _⟩ := I.list ha
  obtain ⟨its2, r2, ⟨⟨cls2, dd2, data2, sl2⟩, n2, e2, d1, d2, d3⟩, _⟩ := I.list hb
  simp only at c1 c2 c3 d1 d2 d3
  subst c1 c2 c3 d1 d2 d3
  have l1 := r.length
  have l2 := r2.length
  have ea : its.toArray ++ its2.toArray = (its ++ its2).toArray := by simp
  refine concat_meets ⟨_, e, rfl⟩ ⟨_, e2, rfl⟩ noFill_list_add seq_list_add PySem.F.slot_list_add PySem.F.entry_list_add (PySem.F.args_list_add_2 _ _) (list_addW a b its.toArray its2.toArray n n2 none none sl sl2 (by rw [List.size_toArray, List.size_toArray]; omega)) ⟨e, e2, ?_⟩
  rw [ea]
  exact ⟨.ref _, _, I.lnew (t' := s.toks) (r.append r2) (by rw [List.length_append]; omega), rfl, q _ I.fresh⟩
section
variable {K : PySem.W.Frag} {M : Addr → Prop} {F0 H0 F H F' H' : Hp} {σ xs gs : L2.St} {ss ts rs gt ss2 : List Sl} {ta tb te tc tl : TE} {tr : TA} {t u tt : TT} {tz : TS} {r ra rb : Sl} {d da db e : PyData} {ds es : List PyData} {Q : VK} {v x y : V}
theorem ev_catL (ha : EvR K ta ss ra) (hb : EvR K tb ss rb) (va : vw ss ra = some (.list ds)) (vb : vw ss rb = some (.list es)) (h : ds.length + es.length ≤ 1000000) : EvR K (tOp (rCatL K) ta tb) ss (.ls (ds ++ es)) :=
  ev_op ha hb va vb fun F H x y Q e hx hy k => by
    obtain ⟨p, ws, rfl, c, f⟩ := hx.lst e
    obtain ⟨p2, ws2, rfl, c2, f2⟩ := hy.lst e
    have z := sizeLine_eq
    exact ⟨p, p2, ws, ws2, rfl, rfl, c, c2, by rw [dpAll_len f, dpAll_len f2]; omega, fun l hl => k.lst (dpAll_app f f2) hl⟩
theorem nd_self {α : Type} [DecidableEq α] (a : α) : (!decide (a = a)) = false := by
  rw [decide_eq_true rfl]
  rfl
/-- an if whose both ways end alike -/
theorem q_ifJ {D : Ends} {tu tw : TS} {b : Bool} (W : List Sl) (S : Sts K M F0 H0 F H (σ ++ gs) (ss ++ gt)) (l : σ.length = ss.length) (h : TvR K t ss b)
    (h1 : b = true → ∀ nx : L2.St → Hp → Prop, (∀ σ' F' H', Sts K M F0 H0 F' H' (σ' ++ gs) (W ++ gt) → σ'.length = W.length → nx σ' H') → ∀ F' H', Sts K M F0 H0 F' H' (σ ++ gs) (ss ++ gt) → tu { D with nx := nx } σ H')
    (h2 : b = false → ∀ nx : L2.St → Hp → Prop, (∀ σ' F' H', Sts K M F0 H0 F' H' (σ' ++ gs) (W ++ gt) → σ'.length = W.length → nx σ' H') → ∀ F' H', Sts K M F0 H0 F' H' (σ ++ gs) (ss ++ gt) → tw { D with nx := nx } σ H')
    (k : ∀ σ' F' H', Sts K M F0 H0 F' H' (σ' ++ gs) (W ++ gt) → σ'.length = W.length → tz D σ' H') : tSeq (tIfS t tu tw) tz D σ H :=
  q_if S l h (fun e F' H' S' => h1 e _ k F' H' S') (fun e F' H' S' => h2 e _ k F' H' S')
/-- the law's own end -/
theorem law_ret {b : Bool} (e : Ex F H) : RetR K F H (.dt (.bool b)) (fun v _ => v = .bl b) := fun v F' H' k => by
  have S0 : Sts K (fun _ => False) F H F H [] [] := ⟨(Gr.refl e).toM, rfl, fun _ => [], by intro i s h; simp at h, by intro i s p o h; simp at h, fun i h => by simp at h, fun i j p h => by simp at h⟩
  obtain ⟨w, a, c⟩ := (k _ _ _ _ _ S0).get_dt (i := 0) rfl
  cases a
  cases c
  rfl
end
theorem cx_none {P : Program} {w : World} {H : Hp} {s : Shared} {e : Value} {s' : Shared} : L2.CX P w [] H s (fun _ _ _ => False) e s' → False := fun ⟨_, _, _, _, _, _, _, _, _, _, _, _, h⟩ => h
/-! ### what the top wrote of classes -/
theorem cls_yes {K : PySem.W.Frag} {S : Addr} (h2 : PySem.W.isClsIn K S = true) (h3 : PySem.W.typeIn K (.ref S) = some (.type "type")) : ((PySem.W.clsIn K S).isSome && PySem.W.typeIn K (.ref S) == some (.type "type")) = true := by
  have h2' : (PySem.W.clsIn K S).isSome = true := h2
  rw [h2', h3] <;> rfl
theorem kitCls_sub {K : PySem.W.Frag} {N S : Addr} {b : Bool} (h2 : PySem.W.isClsIn K S = true) (h3 : PySem.W.typeIn K (.ref S) = some (.type "type")) (h4 : PySem.W.subIn K (.ref N) (.ref S) = some b) : PySem.W.kitCls K (.ref N) (.ref S) = some b := by
  unfold PySem.W.kitCls
  simp only
  rw [if_pos (cls_yes h2 h3)]
  exact h4
theorem exm_sub {K : PySem.W.Frag} {N S : Addr} {b : Bool} (h1 : PySem.W.subIn K (.ref S) (.type "BaseException") = some true) (h2 : PySem.W.isClsIn K S = true) (h3 : PySem.W.typeIn K (.ref S) = some (.type "type")) (h4 : PySem.W.subIn K (.ref N) (.ref S) = some b) : PySem.W.exmOne K (.ref N) (.ref S) = some b := by
  have e1 : (PySem.W.subIn K (.ref S) (.type "BaseException") == some true) = true := by rw [h1] <;> rfl
  unfold PySem.W.exmOne
  rw [if_pos e1]
  exact kitCls_sub h2 h3 h4
theorem exm_ty {K : PySem.W.Frag} {N : Addr} {T : String} {b : Bool} (h1 : PySem.W.subIn K (.type T) (.type "BaseException") = some true) (h2 : PySem.W.kitMeta T = true) (h4 : PySem.W.subIn K (.ref N) (.type T) = some b) : PySem.W.exmOne K (.ref N) (.type T) = some b := by
  have e1 : (PySem.W.subIn K (.type T) (.type "BaseException") == some true) = true := by rw [h1] <;> rfl
  unfold PySem.W.exmOne
  rw [if_pos e1]
  unfold PySem.W.kitCls
  simp only
  rw [if_pos h2]
  exact h4
theorem kit_self {K : PySem.W.Frag} {N : Addr} : PySem.W.kitOne K (.ref N) (.ref N) = some true := by
  unfold PySem.W.kitOne
  simp
theorem kit_sub {K : PySem.W.Frag} {N S : Addr} {b : Bool} (ne : N ≠ S) (h2 : PySem.W.isClsIn K S = true) (h3 : PySem.W.typeIn K (.ref S) = some (.type "type")) (h4 : PySem.W.subIn K (.ref N) (.ref S) = some b) : PySem.W.kitOne K (.ref N) (.ref S) = some b := by
  unfold PySem.W.kitOne
  rw [if_neg (by simpa using ne)]
  exact kitCls_sub h2 h3 h4
theorem kit_typ {K : PySem.W.Frag} {N : Addr} {T : String} {b : Bool} (h2 : PySem.W.kitMeta T = true) (h4 : PySem.W.subIn K (.ref N) (.type T) = some b) : PySem.W.kitOne K (.ref N) (.type T) = some b := by
  unfold PySem.W.kitOne
  rw [if_neg (by simp)]
  unfold PySem.W.kitCls
  simp only
  rw [if_pos h2]
  exact h4
end Fh
set_option Elab.async false
set_option linter.all false
set_option maxRecDepth 100000
set_option maxHeartbeats 2000000
namespace Fh
open PySem PySem.Spec PyProof.Rows L2 Evl
open PySem.W (Datum)
section
variable {K : PySem.W.Frag} {M : Addr → Prop} {F0 H0 F H F' H' : Hp} {σ xs gs : L2.St} {ss ts rs gt ss2 : List Sl} {ta tb te tc tl : TE} {tr : TA} {t u tt : TT} {tz : TS} {r ra rb : Sl} {d da db e : PyData} {ds es : List PyData} {Q : VK} {v x y : V}
theorem Sts.wk2 {W : List Sl} (S : Sts K M F0 H0 F H (σ ++ gs) (ss ++ gt)) (w : Wk ss W) : Sts K M F0 H0 F H (σ ++ gs) (W ++ gt) := S.weak (w.app (Wk.refl _))
/-- an if without else whose both ways end alike -/
theorem q_whenJ {D : Ends} {tu : TS} {b : Bool} (W : List Sl) (S : Sts K M F0 H0 F H (σ ++ gs) (ss ++ gt)) (l : σ.length = ss.length) (h : TvR K t ss b)
    (h1 : b = true → ∀ nx : L2.St → Hp → Prop, (∀ σ' F' H', Sts K M F0 H0 F' H' (σ' ++ gs) (W ++ gt) → σ'.length = W.length → nx σ' H') → ∀ F' H', Sts K M F0 H0 F' H' (σ ++ gs) (ss ++ gt) → tu { D with nx := nx } σ H')
    (h2 : b = false → Wk ss W)
    (k : ∀ σ' F' H', Sts K M F0 H0 F' H' (σ' ++ gs) (W ++ gt) → σ'.length = W.length → tz D σ' H') : tSeq (tIfS t tu tNext) tz D σ H :=
  q_when S l h (fun e F' H' S' => h1 e _ k F' H' S') (fun e F' H' S' => k σ F' H' (S'.wk2 (h2 e)) (by rw [l, (h2 e).len]))
/-! ### sorted numbers -/
theorem sorted_one : ∀ {a b : List Int}, a.Perm b → a.Pairwise (· ≤ ·) → b.Pairwise (· ≤ ·) → a = b
  | [], b, p, _, _ => (List.nil_perm.mp p) ▸ rfl
  | x :: a, [], p, _, _ => by
    have := p.length_eq
    simp at this
  | x :: a, y :: b, p, ha, hb => by
    have e : x = y := by
      have h1 : x ∈ y :: b := p.mem_iff.mp List.mem_cons_self
      have h2 : y ∈ x :: a := p.mem_iff.mpr List.mem_cons_self
      rcases List.mem_cons.mp h1 with h | h
      · exact h
      · rcases List.mem_cons.mp h2 with h' | h'
        · exact h'.symm
        · have h3 := (List.pairwise_cons.mp hb).1 x h
          have h4 := (List.pairwise_cons.mp ha).1 y h'
          omega
    subst e
    rw [sorted_one (List.perm_cons x |>.mp p) (List.pairwise_cons.mp ha).2 (List.pairwise_cons.mp hb).2]
theorem ev_sortedI {ns ns' : List Int} (ha : EvR K ta ss ra) (va : vw ss ra = some (.list (ns.map .int))) (hp : ns'.Perm ns) (hs : ns'.Pairwise (· ≤ ·)) : EvR K (tCB (rSortedI K) (tCons ta tNil)) ss (.ls (ns'.map .int)) := by
  refine ev_cb (ds := [.list (ns.map .int)]) (av_cons ha av_nil) (by unfold vws; rw [va]; rfl) fun F H vs Q e h k => ?_
  obtain ⟨v, rfl, a⟩ := vw1 h
  obtain ⟨p, ws, rfl, c, f⟩ := a.lst e
  have ew := dpAll_ints f
  subst ew
  refine ⟨p, ns, rfl, c, fun ns2 l q1 q2 hl => ?_⟩
  have e2 : ns2 = ns' := sorted_one (q1.trans hp.symm) q2 hs
  subst e2
  exact k.lst ints_dp hl
end
end Fh
namespace Fh
open PySem PySem.Spec PyProof.Rows L2 Evl
theorem atI_neg1 {α : Type} {xs : List α} {x : α} (h : xs[xs.length - 1]? = some x) : atI xs (-1) = some x := by
  have hl := (List.getElem?_eq_some_iff.mp h).1
  have e : ixN xs.length (-1) = some (xs.length - 1) := by
    unfold ixN
    rw [if_neg (by decide), if_pos (by omega)]
    congr 1
    omega
  unfold atI
  rw [e]
  exact h
theorem got_some {f : Nat → Option PyData} {g : Nat → PyData} : ∀ {n : Nat}, (∀ k, k < n → f k = some (g k)) → got f n = (List.range n).map g
  | 0, _ => rfl
  | n + 1, h => by
    have e := got_some (n := n) fun k hk => h k (Nat.lt_succ_of_lt hk)
    rw [got_succ, h n (Nat.lt_succ_self _), e, List.range_succ, List.map_append]
    rfl
theorem range_get {α β : Type} (φ : α → β) (d : α) : ∀ L : List α, (List.range L.length).map (fun k => φ (L.getD k d)) = L.map φ := fun L => by
  refine List.ext_getElem (by simp) fun i h1 h2 => ?_
  have h3 : i < L.length := by simpa using h2
  simp [List.getD, h3]
theorem got_map {α : Type} (L : List α) (d : α) (φ : α → PyData) : got (fun k => some (φ (L.getD k d))) L.length = L.map φ := by
  rw [got_some (g := fun k => φ (L.getD k d)) fun _ _ => rfl, range_get]
theorem getD_of {α : Type} {L : List α} {k : Nat} {d : α} (h : k < L.length) : L[k]? = some (L.getD k d) := by
  simp [List.getD, h]
theorem atI_get {α : Type} {L : List α} {φ : α → PyData} {i : Int} {d : α} (h0 : 0 ≤ i) (h1 : i < L.length) : atI (L.map φ) i = some (φ (L.getD i.toNat d)) := by
  have e : ((i.toNat : Nat) : Int) = i := by omega
  have hl : i.toNat < L.length := by omega
  have h2 : (L.map φ)[i.toNat]? = some (φ (L.getD i.toNat d)) := by rw [List.getElem?_map, getD_of hl]; rfl
  have h3 := atI_nat h2
  rwa [e] at h3
theorem atI_getN {α : Type} {L : List α} {φ : α → PyData} {i : Nat} {d : α} (h1 : i < L.length) : atI (L.map φ) (i : Int) = some (φ (L.getD i d)) := atI_get (i := (i : Int)) (by omega) (by omega)
theorem atI_last {α : Type} {L : List α} {φ : α → PyData} {d : α} (h : L ≠ []) : atI (L.map φ) (-1) = some (φ (L.getD (L.length - 1) d)) := by
  have hl : L.length - 1 < L.length := by
    have := List.length_pos_iff.mpr h
    omega
  refine atI_neg1 ?_
  rw [List.length_map, List.getElem?_map, getD_of hl]
  rfl
theorem map_at {α β : Type} {L : List α} {φ : α → β} {k : Nat} {x : β} (d : α) (h : (L.map φ)[k]? = some x) : k < L.length ∧ x = φ (L.getD k d) := by
  have hl := (List.getElem?_eq_some_iff.mp h).1
  rw [List.length_map] at hl
  rw [List.getElem?_map, getD_of (d := d) hl] at h
  exact ⟨hl, (Option.some.inj h).symm⟩
theorem getD_mem {α : Type} {L : List α} {k : Nat} {d : α} (h : k < L.length) : L.getD k d ∈ L := by
  have := getD_of (d := d) h
  exact List.mem_of_getElem? this
theorem take_succ_get {α : Type} {L : List α} {k : Nat} {d : α} (h : k < L.length) : L.take (k + 1) = L.take k ++ [L.getD k d] := by
  rw [List.take_succ, getD_of (d := d) h]
  rfl
end Fh
namespace Fh
open PySem PySem.Spec PyProof.Rows L2 Evl
/-! ### slices -/
theorem sIx_n {n d a : Nat} (h : a ≤ n) : HT.sIx n d (some (a : Int)) = a := by
  simp only [HT.sIx]
  rw [if_neg (by omega)]
  omega
theorem cutD_take {xs : List PyData} {a : Nat} (h : a ≤ xs.length) : Fh.cutD xs none (some (a : Int)) = xs.take a := by
  unfold Fh.cutD
  rw [sIx_n h]
  show ((xs.drop 0).take (a - 0)) = _
  rw [List.drop_zero, Nat.sub_zero]
theorem cutD_drop {xs : List PyData} {a : Nat} (h : a ≤ xs.length) : Fh.cutD xs (some (a : Int)) none = xs.drop a := by
  unfold Fh.cutD
  rw [sIx_n h]
  show ((xs.drop a).take (xs.length - a)) = _
  rw [List.take_of_length_le (by simp)]
theorem cutD_mid {xs : List PyData} {a b : Nat} (h : a ≤ xs.length) (h2 : b ≤ xs.length) : Fh.cutD xs (some (a : Int)) (some (b : Int)) = (xs.drop a).take (b - a) := by
  unfold Fh.cutD
  rw [sIx_n h, sIx_n h2]
end Fh
set_option Elab.async false
set_option linter.all false
set_option maxRecDepth 100000
set_option maxHeartbeats 4000000
namespace K03
open PySem PySem.Spec PyProof.Rows L2 Fh
open Evl (Ex)
open PySem.W (Datum)
local macro_rules | `(tactic| walk_at "vw") => `(tactic| first | rfl | assumption)
local macro_rules | `(tactic| walk_at "fit") => `(tactic| first
  | (refine CMulY.s ?_ ?_ <;> (constructor <;> omega)) | (refine CDivY.s ?_ ?_ <;> omega) | assumption | omega | decide)
local macro_rules | `(tactic| walk_at "sp") => `(tactic| fail)
local macro_rules | `(tactic| walk_at "av") => `(tactic| first
  | exact av_nil
  | (refine av_cons ?_ ?_ <;> first | walk_at "ev" | walk_at "av"))
local macro_rules | `(tactic| walk_at "ov") => `(tactic| first
  | exact ov_none | (refine ov_some ?_ <;> walk_at "ev"))
local macro_rules | `(tactic| walk_at "tv") => `(tactic| first
  | exact tv_yes
  | (refine tv_not ?_ <;> walk_at "tv")
  | (refine tv_test ?_ <;> walk_at "ev")
  | (refine tv_B ?_ <;> walk_at "ev"))
local macro_rules | `(tactic| walk_at "ev") => `(tactic| first
  | exact ev_int | exact ev_bl | exact ev_str | exact ev_non
  | exact ev_var rfl
  | exact ev_varA rfl
  | (refine ev_ii ?_ ?_ <;> walk_at "ev")
  | (refine ev_ib ?_ ?_ <;> walk_at "ev")
  | (refine' ev_iC ?a ?b ?c; (case a => walk_at "ev"); (case b => walk_at "ev"); (case c => walk_at "fit"))
  | (refine ev_u ?_ <;> walk_at "ev")
  | (refine ev_not ?_ <;> walk_at "ev")
  | (refine ev_abs ?_ <;> walk_at "ev")
  | (refine ev_min ?_ ?_ <;> walk_at "ev")
  | (refine ev_max ?_ ?_ <;> walk_at "ev")
  | (refine ev_intB ?_ <;> walk_at "ev")
  | (refine' ev_len ?a ?b ?c; (case a => walk_at "ev"); (case b => walk_at "vw"); (case c => rfl))
  | (refine' ev_ixT ?a ?b ?c ?d; (case a => walk_at "ev"); (case b => walk_at "ev"); (case c => walk_at "vw"); (case d => rfl))
  | (refine' ev_tup ?a ?b ?c; (case a => walk_at "av"); (case b => rfl); (case c => (show _ ≤ _; decide)))
  | (refine' ev_lst ?a ?b ?c; (case a => walk_at "av"); (case b => rfl); (case c => (show _ ≤ _; decide)))
  | (refine' ev_isN ?a ?b; (case a => walk_at "ev"); (case b => walk_at "vw"))
  | (refine' ev_notN ?a ?b; (case a => walk_at "ev"); (case b => walk_at "vw"))
  | (refine' ev_isi ?a ?b ?c; (case a => walk_at "ev"); (case b => walk_at "vw"); (case c => first | exact kit_int _ | exact kit_bool _ | exact kit_str _ | exact kit_list _ | exact kit_tuple _))
  | (refine' ev_callF0 ?a ?b ?c ?d; (case a => walk_at "av"); (case b => walk_at "vw"); (case c => walk_at "sp"); (case d => rfl))
  | (refine' ev_call0 ?a ?b ?c; (case a => walk_at "av"); (case b => rfl); (case c => walk_at "sp")))
local macro_rules | `(tactic| walk_at "sl") => `(tactic| first
  | (intro _ _ h; obtain ⟨h, _⟩ := h; rw [h]; rfl) | (intro _ _ h; obtain ⟨_, h, _⟩ := h; rw [h]; rfl) | (intro _ _ h; obtain ⟨_, _, h, _⟩ := h; rw [h]; rfl) | (intro _ _ h; obtain ⟨_, _, _, h, _⟩ := h; rw [h]; rfl) | (intro _ _ h; obtain ⟨_, _, _, _, h, _⟩ := h; rw [h]; rfl) | (intro _ _ h; obtain ⟨_, _, _, _, _, h, _⟩ := h; rw [h]; rfl) | (intro _ _ h; obtain ⟨_, _, _, _, _, _, h, _⟩ := h; rw [h]; rfl) | (intro _ _ h; obtain ⟨_, _, _, _, _, _, _, h, _⟩ := h; rw [h]; rfl) | (intro _ _ h; obtain ⟨_, _, _, _, _, _, _, _, h, _⟩ := h; rw [h]; rfl))

def topS (i : Nat) : Stmt := PySem.Challenge.pw_findhall_k03_order_of_fractions.main.body.getD i (.Pass ⟨0, 0, 0, 0⟩)
abbrev s_is_whole : Stmt := topS 4
theorem sc_is_whole : FnScope ["thing"] ["thing"] (defScope s_is_whole) := ⟨rfl, rfl, rfl, by decide +kernel, rfl, by decide +kernel, by decide +kernel⟩
abbrev s_need_number : Stmt := topS 5
theorem sc_need_number : FnScope ["thing", "least", "most"] ["thing", "least", "most"] (defScope s_need_number) := ⟨rfl, rfl, rfl, by decide +kernel, rfl, by decide +kernel, by decide +kernel⟩
abbrev s_common : Stmt := topS 7
theorem sc_common : FnScope ["one", "other", "many", "rest"] ["one", "other"] (defScope s_common) := ⟨rfl, rfl, rfl, by decide +kernel, rfl, by decide +kernel, by decide +kernel⟩
abbrev s_fraction : Stmt := topS 8
theorem sc_fraction : FnScope ["above", "below", "shared"] ["above", "below"] (defScope s_fraction) := ⟨rfl, rfl, rfl, by decide +kernel, rfl, by decide +kernel, by decide +kernel⟩
abbrev s_sum_of : Stmt := topS 9
theorem sc_sum_of : FnScope ["one", "other"] ["one", "other"] (defScope s_sum_of) := ⟨rfl, rfl, rfl, by decide +kernel, rfl, by decide +kernel, by decide +kernel⟩
abbrev s_is_less : Stmt := topS 10
theorem sc_is_less : FnScope ["one", "other"] ["one", "other"] (defScope s_is_less) := ⟨rfl, rfl, rfl, by decide +kernel, rfl, by decide +kernel, by decide +kernel⟩
abbrev s__law_mixed : Stmt := topS 12
theorem sc__law_mixed : FnScope ["_law_number_here", "_law_k"] ["_law_number_here", "_law_k"] (defScope s__law_mixed) := ⟨rfl, rfl, rfl, by decide +kernel, rfl, by decide +kernel, by decide +kernel⟩
abbrev s__law_number : Stmt := topS 13
theorem sc__law_number : FnScope ["_law_script", "_law_k"] ["_law_script", "_law_k"] (defScope s__law_number) := ⟨rfl, rfl, rfl, by decide +kernel, rfl, by decide +kernel, by decide +kernel⟩
abbrev s__law_made : Stmt := topS 14
theorem sc__law_made : FnScope ["_law_script", "_law_made_here", "_law_k", "_law_number_here", "_law_above", "_law_below"] ["_law_script"] (defScope s__law_made) := ⟨rfl, rfl, rfl, by decide +kernel, rfl, by decide +kernel, by decide +kernel⟩
abbrev s__law_in_row : Stmt := topS 15
theorem sc__law_in_row : FnScope ["_law_made_here", "_law_row", "_law_one", "_law_at"] ["_law_made_here"] (defScope s__law_in_row) := ⟨rfl, rfl, rfl, by decide +kernel, rfl, by decide +kernel, by decide +kernel⟩
abbrev s_law : Stmt := topS 16
theorem sc_law : FnScope ["_law_script", "_law_made_here", "_law_whole", "_law_above", "_law_below", "_law_sizes", "_law_j", "_law_k", "_law_found", "_law_row"] ["_law_script"] (defScope s_law) := ⟨rfl, rfl, rfl, by decide +kernel, rfl, by decide +kernel, by decide +kernel⟩
structure Txt (K : PySem.W.Frag) (mg : Str → Option Value) (CN : Addr) : Prop where
  abs : mg "abs" = none
  bool : mg "bool" = none
  divmod : mg "divmod" = none
  int : mg "int" = none
  isinstance : mg "isinstance" = none
  len : mg "len" = none
  range : mg "range" = none
  sorted : mg "sorted" = none
  c_BadNumber : mg "BadNumber" = some (.ref CN)
  k_BadNumber : PySem.W.keepIn K (.ref CN) = true
  x_BadNumber : PySem.W.excIn K CN [.type "ValueError", .type "Exception", .type "BaseException", .type "object"] "ValueError.__new__" = true
  b_BadNumber : PySem.W.subIn K (.ref CN) (.type "BaseException") = some true
  t_BadNumber : PySem.W.typeIn K (.ref CN) = some (.type "type")
section
variable {P : Program} {w : World} {K : PySem.W.Frag} {mg : Str → Option Value} {base : Heap} {CN : Addr}
def isW : PyData → Bool
  | .int _ => true
  | _ => false
def R_is_whole (ds : List PyData) (r : Sl) : Prop := ∃ d, ds = [d] ∧ r = .dt (.bool (isW d))
theorem ok_is_whole {f : Addr} {fd : FuncData} (F : Fun K "is_whole" "is_whole" s_is_whole f fd) (T : Txt K mg CN) : FnOk P w K mg base (L2.CX P w) 1 f fd ["thing"] (spF K R_is_whole noX) := by
  refine F.okX sc_is_whole (spF_len (n := 1) (by rintro _ _ ⟨d, rfl, _⟩; rfl) (by rintro _ _ ⟨⟩)) (fun cdv A outer s H vs Q E hr h => ?_)
  obtain ⟨F0, ds, fh, hv, ⟨r, ⟨d, rfl, rfl⟩, q⟩ | ⟨_, h, _⟩⟩ := h
  · have S := Sts.init (N := ["thing"]) fh hv
    refine ⟨_, (pss_one (ps_ret (pe_and (pe_callB (id := "isinstance") (r := rIsi K) call_isi (by rfl) T.isinstance (by decide +kernel) (pa_cons (pv 0) (pa_cons (pe_bltn (v := .ty "int") (by rfl) T.int (by decide +kernel) rfl) pa_nil))) (pe_one (pe_not (pe_callB (id := "isinstance") (r := rIsi K) call_isi (by rfl) T.isinstance (by decide +kernel) (pa_cons (pv 0) (pa_cons (pe_bltn (v := .ty "bool") (by rfl) T.bool (by decide +kernel) rfl) pa_nil)))))))), ?_⟩
    refine st_ret S (init_len hv (Nat.le_of_ble_eq_true rfl)) ?_ rfl q
    have e : (isIntB d && !isBoolB d) = isW d := by cases d <;> rfl
    rw [← e]
    refine ev_and ?_ fun _ => ?_
    · walk_at "ev"
    · walk_at "ev"
  · exact h.elim
def mixed (n k : Int) : Int := (n % 2147483647 + 7919 * k * k + 31 * k) * 48271 % 2147483647 * (69621 + 2 * k) % 2147483629
def R_mixed (ds : List PyData) (r : Sl) : Prop := ∃ n k : Int, ds = [.int n, .int k] ∧ 0 ≤ k ∧ k ≤ 1000 ∧ r = .dt (.int (mixed n k))
theorem mixed_lt (n k : Int) : 0 ≤ mixed n k ∧ mixed n k < 2147483629 := by
  unfold mixed
  omega
theorem ok_mixed {f : Addr} {fd : FuncData} (F : Fun K "_law_mixed" "_law_mixed" s__law_mixed f fd) (T : Txt K mg CN) : FnOk P w K mg base (L2.CX P w) 1 f fd ["_law_number_here", "_law_k"] (spF K R_mixed noX) := by
  refine F.okX sc__law_mixed (spF_len (n := 2) (by rintro _ _ ⟨n, k, rfl, _⟩; rfl) (by rintro _ _ ⟨⟩)) (fun cdv A outer s H vs Q E hr h => ?_)
  obtain ⟨F0, ds, fh, hv, ⟨r, ⟨n, k, rfl, h0, h1, rfl⟩, q⟩ | ⟨_, h, _⟩⟩ := h
  · have S := Sts.init (N := ["_law_number_here", "_law_k"]) fh hv
    have b1 : 0 ≤ n % 2147483647 ∧ n % 2147483647 < 2147483647 := by omega
    have b2 : 0 ≤ 7919 * k ∧ 7919 * k ≤ 7919000 := by omega
    have b3 : 0 ≤ 7919 * k * k ∧ 7919 * k * k ≤ 7919000 * 1000 := ⟨Int.mul_nonneg b2.1 h0, Int.mul_le_mul b2.2 h1 h0 (by decide)⟩
    refine ⟨_, (pss_cons (ps_set (i := 0) sc__law_mixed.nd rfl (Or.inl rfl) (pe_op op_mod (pe_op op_mulY (pe_op op_add (pe_op op_add (pe_op op_mod (pv 0) pe_int) (pe_op op_mulY (pe_op op_mulY pe_int (pv 1)) (pv 1))) (pe_op op_mulY pe_int (pv 1))) pe_int) pe_int))
          (pss_one (ps_ret (pe_op op_mod (pe_op op_mulY (pv 0) (pe_op op_add pe_int (pe_op op_mulY pe_int (pv 1)))) pe_int)))), ?_⟩
    refine q_asg (r := .dt (.int ((n % 2147483647 + 7919 * k * k + 31 * k) * 48271 % 2147483647))) S (init_len hv (Nat.le_of_ble_eq_true rfl)) ?_ rfl rfl (Nat.le_of_ble_eq_true rfl) fun σ' F' H' S l => ?_
    · walk_at "ev"
    have b4 : 0 ≤ (n % 2147483647 + 7919 * k * k + 31 * k) * 48271 % 2147483647 ∧ (n % 2147483647 + 7919 * k * k + 31 * k) * 48271 % 2147483647 < 2147483647 := by omega
    unfold mixed at q
    generalize (n % 2147483647 + 7919 * k * k + 31 * k) * 48271 % 2147483647 = m at *
    refine st_ret S l ?_ rfl q
    walk_at "ev"
  · exact h.elim
abbrev iD (ns : List Int) : List PyData := ns.map .int
def number (ns : List Int) (k : Int) : Int := if ns = [] then mixed 17 k else mixed (ns.getD (k % (ns.length : Int)).toNat 0) k
theorem number_lt (ns : List Int) (k : Int) : 0 ≤ number ns k ∧ number ns k < 2147483629 := by
  unfold number
  split <;> exact mixed_lt _ _
def R_number (ds : List PyData) (r : Sl) : Prop := ∃ (ns : List Int) (k : Int), ds = [.list (iD ns), .int k] ∧ 0 ≤ k ∧ k ≤ 1000 ∧ r = .dt (.int (number ns k))
theorem atI_ints {ns : List Int} {i : Int} (h0 : 0 ≤ i) (h1 : i < ns.length) : atI (iD ns) i = some (.int (ns.getD i.toNat 0)) := by
  have e : ((i.toNat : Nat) : Int) = i := by omega
  have hl : i.toNat < ns.length := by omega
  have h2 : (iD ns)[i.toNat]? = some (.int (ns.getD i.toNat 0)) := by simp [List.getD, hl]
  have h3 := atI_nat h2
  rwa [e] at h3
theorem ok_number {f : Addr} {fd : FuncData} (F : Fun K "_law_number" "_law_number" s__law_number f fd) (T : Txt K mg CN) (d__law_mixed : DefOk P w K mg base 1 "_law_mixed" ["_law_number_here", "_law_k"] (spF K R_mixed noX) []) : FnOk P w K mg base (L2.CX P w) 2 f fd ["_law_script", "_law_k"] (spF K R_number noX) := by
  refine F.okX sc__law_number (spF_len (n := 2) (by rintro _ _ ⟨n, k, rfl, _⟩; rfl) (by rintro _ _ ⟨⟩)) (fun cdv A outer s H vs Q E hr h => ?_)
  obtain ⟨F0, ds, fh, hv, ⟨r, ⟨ns, k, rfl, h0, h1, rfl⟩, q⟩ | ⟨_, h, _⟩⟩ := h
  · have S := Sts.init (N := ["_law_script", "_law_k"]) fh hv
    have hu : (A.deeper (envOfC "_law_number" (defScope s__law_number) s.heap.objs.size f cdv)).units + 64 < cLine := hr.units
    refine ⟨_, (pss_cons (ps_if (pt_cmpR (r := rEqP K) (op_eqP hu) (pv 0) (pe_lst pa_nil) (nomark _)) (pss_one (ps_ret (pe_own d__law_mixed (hr.mono (by decide)) (by rfl) passL (pa_cons pe_int (pa_cons (pv 1) pa_nil))))) pss_nil)
          (pss_one (ps_ret (pe_own d__law_mixed (hr.mono (by decide)) (by rfl) passL (pa_cons (pe_ix (r := rIxL K) ix_list (pv 0) (pe_op op_mod (pv 1) (pe_callB (id := "len") (r := rLenR K) call_lenR (by rfl) T.len (by decide +kernel) (pa_cons (pv 0) pa_nil))) (fun _ _ => rfl)) (pa_cons (pv 1) pa_nil)))))), ?_⟩
    refine q_when S (init_len hv (Nat.le_of_ble_eq_true rfl)) (tv_test (ev_eqT (α := List Int) (a := ns) (b := []) (ev_var rfl) (ev_lst av_nil rfl (Nat.le_of_ble_eq_true rfl)) rfl rfl)) (fun hb F' H' S => ?_) (fun hb F' H' S => ?_)
    · have e : ns = [] := of_decide_eq_true hb
      unfold number at q
      rw [if_pos e] at q
      refine st_ret S (init_len hv (Nat.le_of_ble_eq_true rfl)) (ev_call0 (av_cons ev_int (av_cons (ev_var rfl) av_nil)) rfl ⟨17, k, rfl, h0, h1, rfl⟩) rfl q
    · have e : ¬ ns = [] := of_decide_eq_false hb
      unfold number at q
      rw [if_neg e] at q
      have hl : 0 < ns.length := List.length_pos_iff.mpr e
      have hk : 0 ≤ k % (ns.length : Int) ∧ k % (ns.length : Int) < ns.length := ⟨Int.emod_nonneg _ (by omega), Int.emod_lt_of_pos _ (by omega)⟩
      refine st_ret S (init_len hv (Nat.le_of_ble_eq_true rfl)) (ev_call0 (av_cons (ev_ixL (ev_var rfl) (ev_iC (ev_var rfl) (ev_len (ev_var rfl) rfl rfl) (by simp only [iD, List.length_map]; omega)) rfl (atI_ints (by simpa [iD] using hk.1) (by simpa [iD] using hk.2))) (av_cons (ev_var rfl) av_nil)) rfl ⟨_, k, rfl, h0, h1, ?_⟩) rfl q
      simp only [iD, List.length_map]
  · exact h.elim

/-! ### the greatest common divisor -/
def W1 (p : Nat × Nat) : List Sl := [.dt (.int (p.1 : Int)), .dt (.int (p.2 : Int)), .no, .no]
def lim : Nat := 2 ^ 4000
theorem lim_le : lim ≤ 2 ^ 9000 := Nat.pow_le_pow_right (by decide) (by decide)
theorem lim_big : lim ≤ 2 ^ bigN := Nat.pow_le_pow_right (by decide) (by decide)
def R_common (ds : List PyData) (r : Sl) : Prop := ∃ a b : Nat, ds = [.int (a : Int), .int (b : Int)] ∧ a < lim ∧ b < lim ∧ r = .dt (.int (Nat.gcd a b : Int))
theorem ok_common {f : Addr} {fd : FuncData} (F : Fun K "common" "common" s_common f fd) (T : Txt K mg CN) : FnOk P w K mg base (L2.CX P w) 1 f fd ["one", "other"] (spF K R_common noX) := by
  refine F.okX sc_common (spF_len (n := 2) (by rintro _ _ ⟨n, k, rfl, _⟩; rfl) (by rintro _ _ ⟨⟩)) (fun cdv A outer s H vs Q E hr h => ?_)
  obtain ⟨F0, ds, fh, hv, ⟨r, ⟨a, b, rfl, h0, h1, rfl⟩, q⟩ | ⟨_, h, _⟩⟩ := h
  · have S := Sts.init (N := ["one", "other", "many", "rest"]) fh hv
    have hu : (A.deeper (envOfC "common" (defScope s_common) s.heap.objs.size f cdv)).units + 64 < cLine := hr.units
    refine ⟨_, (pss_cons (ps_while PassesOwn.leaving (pt_cmpR (r := rNeP K) (op_neP hu) (pv 1) pe_int (nomark _)) (pss_cons (ps_asg (pe_callB (id := "divmod") (r := rDivm) call_divmodR (by rfl) T.divmod (by decide +kernel) (pa_cons (pv 0) (pa_cons (pv 1) pa_nil))) (pg_tup rfl (pgs_cons (pg_name (i := 2) sc_common.nd rfl (Or.inl rfl)) (pgs_cons (pg_name (i := 3) sc_common.nd rfl (Or.inl rfl)) pgs_nil))))
          (pss_cons (ps_set (i := 0) sc_common.nd rfl (Or.inl rfl) (pv 1))
          (pss_one (ps_set (i := 1) sc_common.nd rfl (Or.inl rfl) (pv 3))))))
          (pss_one (ps_ret (pv 0)))), ?_⟩
    refine q_while W1 (fun p => Nat.gcd p.1 p.2 = Nat.gcd a b ∧ p.1 < lim ∧ p.2 < lim) (fun p => p.2) (fun p => !decide ((p.2 : Int) = 0)) (a, b) S (init_len hv (Nat.le_of_ble_eq_true rfl)) (Wk.refl _) ⟨rfl, h0, h1⟩ (fun p hp => ?_) (fun p hp hb σ' F' H' S l => ?_) (fun p hp hb σ' F' H' S l => ?_)
    · exact tv_test (ev_neT (α := Int) (ev_var rfl) ev_int rfl rfl)
    · have hz : ¬ p.2 = 0 := by
        intro e
        rw [e] at hb
        exact absurd hb (by decide)
      refine q_two S l (ev_divmod (ev_var rfl) (ev_var rfl) ⟨by omega, ?_⟩) rfl (Nat.le_of_ble_eq_true rfl) (Nat.le_of_ble_eq_true rfl) fun σ' F' H' S l => ?_
      · exact Nat.lt_of_lt_of_le (by rw [Int.natAbs_natCast]; exact hp.2.2) lim_le
      refine q_asg S l (ev_var rfl) rfl rfl (Nat.le_of_ble_eq_true rfl) fun σ' F' H' S l => ?_
      refine st_asg S l (ev_var rfl) rfl rfl (Nat.le_of_ble_eq_true rfl) fun σ' F' H' S l => ?_
      have hm : p.1 % p.2 < p.2 := Nat.mod_lt _ (by omega)
      refine ⟨(p.2, p.1 % p.2), hm, ⟨?_, hp.2.2, Nat.lt_trans hm hp.2.2⟩, F', S.weak (.same rfl (.same ?_ (.no (.no .nil)))), l⟩
      · rw [← hp.1, Nat.gcd_comm p.2, ← Nat.gcd_rec, Nat.gcd_comm]
      · exact congrArg (fun z => Sl.dt (.int z)) (Int.natCast_emod p.1 p.2).symm
    · have hz : p.2 = 0 := by
        have := of_decide_eq_true (Bool.not_eq_false' .. ▸ hb : decide ((p.2 : Int) = 0) = true)
        omega
      have e : Nat.gcd a b = p.1 := by rw [← hp.1, hz, Nat.gcd_zero_right]
      rw [e] at q
      exact st_ret S l (ev_var rfl) rfl q
  · exact h.elim
/-! ### need_number, fraction -/
def R_need (ds : List PyData) (r : Sl) : Prop := ∃ z l : Int, ds = [.int z, .int l, .none] ∧ l ≤ z ∧ r = .dt (.int z)
def X_need (CN : Addr) (ds : List PyData) (C : Addr) : Prop := ∃ (d : PyData) (l : Int), ds = [d, .int l, .none] ∧ C = CN ∧ (isW d = false ∨ ∃ z, d = .int z ∧ z < l)
theorem ok_need_number {f : Addr} {fd : FuncData} (F : FunD K "need_number" "need_number" (defArgs s_need_number) (defBody s_need_number) (defScope s_need_number) [.non] [] f fd) (T : Txt K mg CN)
    (d_is_whole : DefOk P w K mg base 1 "is_whole" ["thing"] (spF K R_is_whole noX) []) : FnOk P w K mg base (L2.CX P w) 2 f fd ["thing", "least", "most"] (spF K R_need (X_need CN)) := by
  refine F.ok sc_need_number (spF_len (n := 3) (by rintro _ _ ⟨n, k, rfl, _⟩; rfl) (by rintro _ _ ⟨n, k, rfl, _⟩; rfl)) (fun cdv A outer s H vs Q E hr h => ?_)
  have hu : (A.deeper (envOfC "need_number" (defScope s_need_number) s.heap.objs.size f cdv)).units + 64 < cLine := hr.units
  obtain ⟨F0, ds, fh, hv, ⟨r, ⟨z, l, rfl, h0, rfl⟩, q⟩ | ⟨C, ⟨d, l, rfl, rfl, hx⟩, q⟩⟩ := h
  · have S := Sts.init (N := ["thing", "least", "most"]) fh hv
    refine ⟨_, (pss_cons (ps_if (PW.pt (pw_or (pt_not (pt_val (pe_own d_is_whole (hr.mono (by decide)) (by rfl) passL (pa_cons (pv 0) pa_nil)))) (pw_or1 (pt_cmpR op_lt (pv 0) (pv 1) (nomark _))))) (pss_one (ps_raise rfl (takes_of rfl rfl rfl rfl) (pmk_own PySem.F.excBase_ValueError T.x_BadNumber T.c_BadNumber T.k_BadNumber (raises_own T.b_BadNumber T.t_BadNumber) rfl))) pss_nil)
          (pss_cons (ps_if (PW.pt (pw_and (pt_cmpR op_notNR (pv 2) pe_non (nomark _)) (pw_and1 (pt_cmpR op_gt (pv 0) (pv 2) (nomark _))))) (pss_one (ps_raise rfl (takes_of rfl rfl rfl rfl) (pmk_own PySem.F.excBase_ValueError T.x_BadNumber T.c_BadNumber T.k_BadNumber (raises_own T.b_BadNumber T.t_BadNumber) rfl))) pss_nil)
          (pss_one (ps_ret (pv 0))))), ?_⟩
    refine q_when S (init_len hv (Nat.le_of_ble_eq_true rfl)) (b := false) (.to (tv_or (tv_not (tv_B (ev_call0 (av_cons (ev_var rfl) av_nil) rfl ⟨_, rfl, rfl⟩))) fun _ => tv_test (ev_ib (ev_var rfl) (ev_var rfl))) ?_) (fun hb => nomatch hb) (fun hb F' H' S => ?_)
    · show (!true || decide (z < l)) = false
      rw [decide_eq_false (by omega)]
      rfl
    refine q_when S (init_len hv (Nat.le_of_ble_eq_true rfl)) (b := false) (.to (tv_and (b := true) (tv_test (ev_notN (ev_var rfl) rfl)) fun h => nomatch h) rfl) (fun hb => nomatch hb) (fun hb F' H' S => ?_)
    exact st_ret S (init_len hv (Nat.le_of_ble_eq_true rfl)) (ev_var rfl) rfl q
  · have S := Sts.init (N := ["thing", "least", "most"]) fh hv
    refine ⟨_, (pss_cons (ps_if (PW.pt (pw_or (pt_not (pt_val (pe_own d_is_whole (hr.mono (by decide)) (by rfl) passL (pa_cons (pv 0) pa_nil)))) (pw_or1 (pt_cmpR op_lt (pv 0) (pv 1) (nomark _))))) (pss_one (ps_raise rfl (takes_of rfl rfl rfl rfl) (pmk_own PySem.F.excBase_ValueError T.x_BadNumber T.c_BadNumber T.k_BadNumber (raises_own T.b_BadNumber T.t_BadNumber) rfl))) pss_nil)
          (pss_cons (ps_if (PW.pt (pw_and (pt_cmpR op_notNR (pv 2) pe_non (nomark _)) (pw_and1 (pt_cmpR op_gt (pv 0) (pv 2) (nomark _))))) (pss_one (ps_raise rfl (takes_of rfl rfl rfl rfl) (pmk_own PySem.F.excBase_ValueError T.x_BadNumber T.c_BadNumber T.k_BadNumber (raises_own T.b_BadNumber T.t_BadNumber) rfl))) pss_nil)
          (pss_one (ps_ret (pv 0))))), ?_⟩
    refine q_when S (init_len hv (Nat.le_of_ble_eq_true rfl)) (b := true) (.to (tv_or (b := true) (tv_not (tv_B (ev_call0 (av_cons (ev_var rfl) av_nil) rfl ⟨_, rfl, rfl⟩))) fun hw => ?_) ?_) (fun hb F' H' S => ?_) (fun hb => nomatch hb)
    · have hw' : isW d = true := by
        cases e : isW d with
        | true => rfl
        | false => rw [e] at hw; cases hw
      rcases hx with hx | ⟨z, rfl, hz⟩
      · rw [hw'] at hx
        cases hx
      · exact .to (tv_test (ev_ib (ev_var rfl) (ev_var rfl))) (decide_eq_true hz)
    · rw [Bool.or_true]
    · exact q H' S.hh
theorem frac_gcd_pos {a : Int} {b : Int} (h : 1 ≤ b) : 0 < (Nat.gcd a.natAbs b.natAbs : Int) := by
  have := Nat.gcd_pos_of_pos_right a.natAbs (show 0 < b.natAbs by omega)
  omega
def frac (a b : Int) : Int × Int := (a / (Nat.gcd a.natAbs b.natAbs : Int), b / (Nat.gcd a.natAbs b.natAbs : Int))
abbrev pD (p : Int × Int) : PyData := .tuple [.int p.1, .int p.2]
def R_fraction (ds : List PyData) (r : Sl) : Prop := ∃ a b : Int, ds = [.int a, .int b] ∧ 1 ≤ b ∧ a.natAbs < lim ∧ b.natAbs < lim ∧ r = .dt (pD (frac a b))
def X_fraction (CN : Addr) (ds : List PyData) (C : Addr) : Prop := ∃ da db : PyData, ds = [da, db] ∧ C = CN ∧ (isW da = false ∨ (isW da = true ∧ (isW db = false ∨ ∃ z, db = .int z ∧ z < 1)))
theorem isW_int {d : PyData} (h : isW d = true) : ∃ z, d = .int z := by
  cases d with
  | int z => exact ⟨z, rfl⟩
  | _ => cases h
theorem ok_fraction {f : Addr} {fd : FuncData} (F : FunD K "fraction" "fraction" (defArgs s_fraction) (defBody s_fraction) (defScope s_fraction) [.int 1] [] f fd) (T : Txt K mg CN)
    (d_is_whole : DefOk P w K mg base 1 "is_whole" ["thing"] (spF K R_is_whole noX) []) (d_need_number_2 : DefOk P w K mg base 2 "need_number" ["thing", "least", "most"] (spF K R_need (X_need CN)) [.non])
    (d_common : DefOk P w K mg base 1 "common" ["one", "other"] (spF K R_common noX) []) : FnOk P w K mg base (L2.CX P w) 3 f fd ["above", "below"] (spF K R_fraction (X_fraction CN)) := by
  refine F.ok sc_fraction (spF_len (n := 2) (by rintro _ _ ⟨n, k, rfl, _⟩; rfl) (by rintro _ _ ⟨n, k, rfl, _⟩; rfl)) (fun cdv A outer s H vs Q E hr h => ?_)
  obtain ⟨F0, ds, fh, hv, ⟨r, ⟨a, b, rfl, h0, h1, h2, rfl⟩, q⟩ | ⟨C, ⟨da, db, rfl, rfl, hx⟩, q⟩⟩ := h
  · have S := Sts.init (N := ["above", "below", "shared"]) fh hv
    refine ⟨_, (pss_cons (ps_if (pt_not (pt_val (pe_own d_is_whole (hr.mono (by decide)) (by rfl) passL (pa_cons (pv 0) pa_nil)))) (pss_one (ps_raise rfl (takes_of rfl rfl rfl rfl) (pmk_own PySem.F.excBase_ValueError T.x_BadNumber T.c_BadNumber T.k_BadNumber (raises_own T.b_BadNumber T.t_BadNumber) rfl))) pss_nil)
          (pss_cons (ps_expr (pe_own d_need_number_2 (hr.mono (by decide)) (by rfl) (passes_call (takes_of rfl rfl rfl rfl) (fun _ _ _ _ h => h)) (pa_cons (pv 1) (pa_cons pe_int pa_nil))))
          (pss_cons (ps_set (i := 2) sc_fraction.nd rfl (Or.inl rfl) (pe_own d_common (hr.mono (by decide)) (by rfl) passL (pa_cons (pe_callB (id := "abs") (r := rAbs) call_absR (by rfl) T.abs (by decide +kernel) (pa_cons (pv 0) pa_nil)) (pa_cons (pv 1) pa_nil))))
          (pss_one (ps_ret (pe_tup (pa_cons (pe_op op_divY (pv 0) (pv 2)) (pa_cons (pe_op op_divY (pv 1) (pv 2)) pa_nil)))))))), ?_⟩
    refine q_when S (init_len hv (Nat.le_of_ble_eq_true rfl)) (b := false) (.to (tv_not (tv_B (ev_call0 (av_cons (ev_var rfl) av_nil) rfl ⟨.int a, rfl, rfl⟩))) rfl) (fun hb => nomatch hb) (fun hb F' H' S => ?_)
    refine q_drop S (init_len hv (Nat.le_of_ble_eq_true rfl)) (ev_call (R := R_need) (X := X_need CN) (es := [.none]) (av_cons (ev_var rfl) (av_cons ev_int av_nil)) rfl (fun _ => .cons .non .nil) ⟨b, 1, rfl, h0, rfl⟩) fun F' H' S => ?_
    have hg := frac_gcd_pos (a := a) h0
    have hgl : (Nat.gcd a.natAbs b.natAbs : Int).natAbs < 2 ^ 9000 := by
      rw [Int.natAbs_natCast]
      have hle : Nat.gcd a.natAbs b.natAbs ≤ b.natAbs := Nat.le_of_dvd (by omega) (Nat.gcd_dvd_right _ _)
      exact Nat.lt_of_lt_of_le (Nat.lt_of_le_of_lt hle h2) lim_le
    have hb : b = (b.natAbs : Int) := by omega
    refine q_asg S (init_len hv (Nat.le_of_ble_eq_true rfl)) (ev_call0 (r := .dt (.int (Nat.gcd a.natAbs b.natAbs : Int))) (av_cons (ev_abs (ev_var rfl)) (av_cons (ev_var rfl) av_nil)) rfl ⟨a.natAbs, b.natAbs, ?_, h1, h2, rfl⟩) rfl rfl (Nat.le_of_ble_eq_true rfl) fun σ' F' H' S l => ?_
    · show [PyData.int (a.natAbs : Int), PyData.int b] = [PyData.int (a.natAbs : Int), PyData.int (b.natAbs : Int)]
      rw [← hb]
    exact st_ret S l (ev_tup (av_cons (ev_iC (ev_var rfl) (ev_var rfl) ⟨hg, hgl⟩) (av_cons (ev_iC (ev_var rfl) (ev_var rfl) ⟨hg, hgl⟩) av_nil)) rfl (Nat.le_of_ble_eq_true rfl)) rfl q
  · have S := Sts.init (N := ["above", "below", "shared"]) fh hv
    refine ⟨_, (pss_cons (ps_if (pt_not (pt_val (pe_own d_is_whole (hr.mono (by decide)) (by rfl) passL (pa_cons (pv 0) pa_nil)))) (pss_one (ps_raise rfl (takes_of rfl rfl rfl rfl) (pmk_own PySem.F.excBase_ValueError T.x_BadNumber T.c_BadNumber T.k_BadNumber (raises_own T.b_BadNumber T.t_BadNumber) rfl))) pss_nil)
          (pss_cons (ps_expr (pe_own d_need_number_2 (hr.mono (by decide)) (by rfl) (passes_call (takes_of rfl rfl rfl rfl) (fun _ _ _ _ h => h)) (pa_cons (pv 1) (pa_cons pe_int pa_nil))))
          (pss_cons (ps_set (i := 2) sc_fraction.nd rfl (Or.inl rfl) (pe_own d_common (hr.mono (by decide)) (by rfl) passL (pa_cons (pe_callB (id := "abs") (r := rAbs) call_absR (by rfl) T.abs (by decide +kernel) (pa_cons (pv 0) pa_nil)) (pa_cons (pv 1) pa_nil))))
          (pss_one (ps_ret (pe_tup (pa_cons (pe_op op_divY (pv 0) (pv 2)) (pa_cons (pe_op op_divY (pv 1) (pv 2)) pa_nil)))))))), ?_⟩
    refine q_when S (init_len hv (Nat.le_of_ble_eq_true rfl)) (tv_not (tv_B (ev_call0 (av_cons (ev_var rfl) av_nil) rfl ⟨da, rfl, rfl⟩))) (fun hb F' H' S => ?_) (fun hb F' H' S => ?_)
    · exact q H' S.hh
    · have hw : isW da = true := by
        cases e : isW da with
        | true => rfl
        | false => rw [e] at hb; cases hb
      rcases hx with hx | ⟨_, hx⟩
      · rw [hw] at hx
        cases hx
      refine st_raiseE (D := { nx := _, rt := _ }) S (init_len hv (Nat.le_of_ble_eq_true rfl)) (es := [.none]) (C := C) (av_cons (ev_var rfl) (av_cons ev_int av_nil)) rfl (fun _ => .cons .non .nil) ⟨db, 1, rfl, rfl, hx⟩ fun F' H' S => q H' S.hh
/-! ### sums and products -/
def mid : Nat := 2 ^ 1900
theorem mid_big : mid ≤ 2 ^ bigN := Nat.pow_le_pow_right (by decide) (by decide)
theorem mid_lim : mid ≤ lim := Nat.pow_le_pow_right (by decide) (by decide)
theorem lim38 : (2 : Nat) ^ 3800 + 2 ^ 3800 ≤ lim := by
  show (2 : Nat) ^ 3800 + 2 ^ 3800 ≤ 2 ^ 4000
  have h : (2 : Nat) ^ 4000 = 2 ^ 3800 * 2 ^ 200 := (Nat.pow_add 2 3800 200)
  rw [h]
  have h2 : (2 : Nat) ≤ 2 ^ 200 := by decide
  have := Nat.mul_le_mul_left (2 ^ 3800) h2
  omega
theorem mid_mul {a b : Int} (h1 : a.natAbs < mid) (h2 : b.natAbs < mid) : (a * b).natAbs < 2 ^ 3800 := by
  rw [Int.natAbs_mul]
  have e : (2 : Nat) ^ 3800 = mid * mid := (Nat.pow_add 2 1900 1900)
  rw [e]
  exact Nat.mul_lt_mul'' h1 h2
theorem mid_add {a b : Int} (h1 : a.natAbs < 2 ^ 3800) (h2 : b.natAbs < 2 ^ 3800) : (a + b).natAbs < lim := by
  have h := Int.natAbs_add_le a b
  have := lim38
  omega
theorem mulY {a b : Int} (h1 : a.natAbs < mid) (h2 : b.natAbs < mid) : CMulY a b := ⟨Nat.lt_of_lt_of_le h1 mid_big, Nat.lt_of_lt_of_le h2 mid_big⟩
structure Fr (p : Int × Int) : Prop where
  pos : 1 ≤ p.2
  u : p.1.natAbs < mid
  d : p.2.natAbs < mid
theorem mul_pos1 {a b : Int} (h1 : 1 ≤ a) (h2 : 1 ≤ b) : 1 ≤ a * b := by
  have := Int.mul_le_mul h1 h2 (by decide) (by omega)
  omega
theorem lt38 {n : Nat} (h : n < 2 ^ 3800) : n < lim := by
  have := lim38
  omega
def sumF (p q : Int × Int) : Int × Int := frac (p.1 * q.2 + q.1 * p.2) (p.2 * q.2)
def prodF (p q : Int × Int) : Int × Int := frac (p.1 * q.1) (p.2 * q.2)
def R_sum (ds : List PyData) (r : Sl) : Prop := ∃ p q, ds = [pD p, pD q] ∧ Fr p ∧ Fr q ∧ r = .dt (pD (sumF p q))
def R_prod (ds : List PyData) (r : Sl) : Prop := ∃ p q, ds = [pD p, pD q] ∧ Fr p ∧ Fr q ∧ r = .dt (pD (prodF p q))
theorem ok_sum_of {f : Addr} {fd : FuncData} (F : Fun K "sum_of" "sum_of" s_sum_of f fd) (T : Txt K mg CN)
    (d_fraction : DefOk P w K mg base 3 "fraction" ["above", "below"] (spF K R_fraction (X_fraction CN)) []) : FnOk P w K mg base (L2.CX P w) 4 f fd ["one", "other"] (spF K R_sum noX) := by
  refine F.okX sc_sum_of (spF_len (n := 2) (by rintro _ _ ⟨n, k, rfl, _⟩; rfl) (by rintro _ _ ⟨⟩)) (fun cdv A outer s H vs Q E hr h => ?_)
  obtain ⟨F0, ds, fh, hv, ⟨r, ⟨p, q', rfl, hp, hq, rfl⟩, q⟩ | ⟨_, h, _⟩⟩ := h
  · have S := Sts.init (N := ["one", "other"]) fh hv
    refine ⟨_, (pss_one (ps_ret (pe_own d_fraction (hr.mono (by decide)) (by rfl) (passes_call (takes_of rfl rfl rfl rfl) (fun _ _ _ _ h => h)) (pa_cons (pe_op op_add (pe_op op_mulY (pe_ix (r := rIxT K) ix_tup (pv 0) pe_int (fun _ _ => rfl)) (pe_ix (r := rIxT K) ix_tup (pv 1) pe_int (fun _ _ => rfl))) (pe_op op_mulY (pe_ix (r := rIxT K) ix_tup (pv 1) pe_int (fun _ _ => rfl)) (pe_ix (r := rIxT K) ix_tup (pv 0) pe_int (fun _ _ => rfl)))) (pa_cons (pe_op op_mulY (pe_ix (r := rIxT K) ix_tup (pv 0) pe_int (fun _ _ => rfl)) (pe_ix (r := rIxT K) ix_tup (pv 1) pe_int (fun _ _ => rfl))) pa_nil))))), ?_⟩
    have i1 : EvR K (tOp (rIxT K) (tVar 0) (tC (.int 0))) [.dt (pD p), .dt (pD q')] (.dt (.int p.1)) := ev_ixT (ev_var rfl) ev_int rfl rfl
    have i2 : EvR K (tOp (rIxT K) (tVar 0) (tC (.int 1))) [.dt (pD p), .dt (pD q')] (.dt (.int p.2)) := ev_ixT (ev_var rfl) ev_int rfl rfl
    have i3 : EvR K (tOp (rIxT K) (tVar 1) (tC (.int 0))) [.dt (pD p), .dt (pD q')] (.dt (.int q'.1)) := ev_ixT (ev_var rfl) ev_int rfl rfl
    have i4 : EvR K (tOp (rIxT K) (tVar 1) (tC (.int 1))) [.dt (pD p), .dt (pD q')] (.dt (.int q'.2)) := ev_ixT (ev_var rfl) ev_int rfl rfl
    refine st_ret S (init_len hv (Nat.le_of_ble_eq_true rfl)) (ev_call0 (av_cons (ev_ii (ev_iC i1 i4 (mulY hp.u hq.d)) (ev_iC i3 i2 (mulY hq.u hp.d))) (av_cons (ev_iC i2 i4 (mulY hp.d hq.d)) av_nil)) rfl ⟨_, _, rfl, mul_pos1 hp.pos hq.pos, mid_add (mid_mul hp.u hq.d) (mid_mul hq.u hp.d), lt38 (mid_mul hp.d hq.d), rfl⟩) rfl q
  · exact h.elim
/-! ### fractions put shortest -/
theorem frac_nat {a b : Int} (h : 1 ≤ b) : ∃ (g : Nat) (a' b' : Int), a = g * a' ∧ b = g * b' ∧ frac a b = (a', b') ∧ Nat.gcd a'.natAbs b'.natAbs = 1 ∧ 1 ≤ b' ∧ a'.natAbs ≤ a.natAbs ∧ b'.natAbs ≤ b.natAbs := by
  have hg : 0 < Nat.gcd a.natAbs b.natAbs := Nat.gcd_pos_of_pos_right _ (by omega)
  obtain ⟨a', ha⟩ : ((Nat.gcd a.natAbs b.natAbs : Nat) : Int) ∣ a := Int.ofNat_dvd_left.mpr (Nat.gcd_dvd_left _ _)
  obtain ⟨b', hb⟩ : ((Nat.gcd a.natAbs b.natAbs : Nat) : Int) ∣ b := Int.ofNat_dvd_left.mpr (Nat.gcd_dvd_right _ _)
  have ef : frac a b = (a / (Nat.gcd a.natAbs b.natAbs : Int), b / (Nat.gcd a.natAbs b.natAbs : Int)) := rfl
  generalize hgd : Nat.gcd a.natAbs b.natAbs = g at *
  have gz : (g : Int) ≠ 0 := by omega
  have e1 : a / (g : Int) = a' := Int.ediv_eq_of_eq_mul_right gz ha
  have e2 : b / (g : Int) = b' := Int.ediv_eq_of_eq_mul_right gz hb
  have n1 : a.natAbs = g * a'.natAbs := by rw [ha, Int.natAbs_mul, Int.natAbs_natCast]
  have n2 : b.natAbs = g * b'.natAbs := by rw [hb, Int.natAbs_mul, Int.natAbs_natCast]
  have b0 : 0 ≤ b' := by
    rw [← e2]
    exact Int.ediv_nonneg (by omega) (by omega)
  have b1 : b' ≠ 0 := fun e => by
    rw [e, Int.mul_zero] at hb
    omega
  refine ⟨g, a', b', ha, hb, by rw [ef, e1, e2], ?_, by omega, ?_, ?_⟩
  · rw [n1, n2, Nat.gcd_mul_left] at hgd
    exact Nat.eq_of_mul_eq_mul_left hg (by rw [hgd, Nat.mul_one])
  · rw [n1]
    exact Nat.le_mul_of_pos_left _ hg
  · rw [n2]
    exact Nat.le_mul_of_pos_left _ hg
theorem frac_cross {a b : Int} (h : 1 ≤ b) : (frac a b).1 * b = a * (frac a b).2 := by
  obtain ⟨g, a', b', ha, hb, e, _⟩ := frac_nat (a := a) h
  rw [e]
  show a' * b = a * b'
  rw [hb, ha]
  ac_rfl
theorem frac_one (a : Int) : frac a 1 = (a, 1) := by
  unfold frac
  have e : Nat.gcd a.natAbs (1 : Int).natAbs = 1 := Nat.gcd_one_right _
  rw [e]
  simp
/-- a fraction as due, its numbers below 2 ^ m -/
structure Ok (m : Nat) (p : Int × Int) : Prop where
  pos : 1 ≤ p.2
  g : Nat.gcd p.1.natAbs p.2.natAbs = 1
  u : p.1.natAbs < 2 ^ m
  d : p.2.natAbs < 2 ^ m
theorem pow_le_mid {m n : Nat} (hm : m ≤ 1900) (h : n < 2 ^ m) : n < mid := Nat.lt_of_lt_of_le h (Nat.pow_le_pow_right (by decide) hm)
theorem Ok.fr {m : Nat} {p : Int × Int} (h : Ok m p) (hm : m ≤ 1900) : Fr p := ⟨h.pos, pow_le_mid hm h.u, pow_le_mid hm h.d⟩
theorem frac_ok {a b : Int} {m : Nat} (h : 1 ≤ b) (ha : a.natAbs < 2 ^ m) (hb : b.natAbs < 2 ^ m) : Ok m (frac a b) := by
  obtain ⟨g, a', b', _, _, e, h1, h2, h3, h4⟩ := frac_nat (a := a) h
  rw [e]
  exact ⟨h2, h1, Nat.lt_of_le_of_lt h3 ha, Nat.lt_of_le_of_lt h4 hb⟩
theorem mul_lt_pow {a b : Int} {m n : Nat} (ha : a.natAbs < 2 ^ m) (hb : b.natAbs < 2 ^ n) : (a * b).natAbs < 2 ^ (m + n) := by
  rw [Int.natAbs_mul, Nat.pow_add]
  exact Nat.mul_lt_mul'' ha hb
theorem sum_ok {p q : Int × Int} {m n : Nat} (hp : Ok m p) (hq : Ok n q) : Ok (m + n + 1) (sumF p q) := by
  refine frac_ok (mul_pos1 hp.pos hq.pos) ?_ ?_
  · have h1 := mul_lt_pow hp.u hq.d
    have h2 := mul_lt_pow hq.u hp.d
    rw [Nat.add_comm n m] at h2
    have h3 := Int.natAbs_add_le (p.1 * q.2) (q.1 * p.2)
    rw [Nat.pow_succ]
    omega
  · have h1 := mul_lt_pow hp.d hq.d
    rw [Nat.pow_succ]
    omega
theorem prod_ok {p q : Int × Int} {m n : Nat} (hp : Ok m p) (hq : Ok n q) : Ok (m + n + 1) (prodF p q) := by
  refine frac_ok (mul_pos1 hp.pos hq.pos) ?_ ?_
  · have h1 := mul_lt_pow hp.u hq.u
    rw [Nat.pow_succ]
    omega
  · have h1 := mul_lt_pow hp.d hq.d
    rw [Nat.pow_succ]
    omega

/-! ### less -/
def lessB (p q : Int × Int) : Bool := decide (p.1 * q.2 < q.1 * p.2)
def R_less (ds : List PyData) (r : Sl) : Prop := ∃ p q, ds = [pD p, pD q] ∧ Fr p ∧ Fr q ∧ r = .dt (.bool (lessB p q))
theorem ok_is_less {f : Addr} {fd : FuncData} (F : Fun K "is_less" "is_less" s_is_less f fd) (T : Txt K mg CN) : FnOk P w K mg base (L2.CX P w) 1 f fd ["one", "other"] (spF K R_less noX) := by
  refine F.okX sc_is_less (spF_len (n := 2) (by walk_at "sl") (by rintro _ _ ⟨⟩)) (fun cdv A outer s H vs Q E hr h => ?_)
  obtain ⟨F0, ds, fh, hv, ⟨r, ⟨p, q', rfl, hp, hq, rfl⟩, q⟩ | ⟨_, h, _⟩⟩ := h
  · --
    have S := Sts.init (N := ["one", "other"]) fh hv
    have hu : (A.deeper (envOfC "is_less" (defScope s_is_less) s.heap.objs.size f cdv)).units + 64 < cLine := hr.units
    refine ⟨_, (pss_one (ps_ret (pe_cmpR op_lt (pe_op op_mulY (pe_ix (r := rIxT K) ix_tup (pv 0) pe_int (fun _ _ => rfl)) (pe_ix (r := rIxT K) ix_tup (pv 1) pe_int (fun _ _ => rfl))) (pe_op op_mulY (pe_ix (r := rIxT K) ix_tup (pv 1) pe_int (fun _ _ => rfl)) (pe_ix (r := rIxT K) ix_tup (pv 0) pe_int (fun _ _ => rfl))) (nomark _)))), ?_⟩
    exact st_ret S (init_len hv (Nat.le_of_ble_eq_true rfl)) (ev_ib (ev_iC (ev_ixT (ev_var rfl) ev_int rfl rfl) (ev_ixT (ev_var rfl) ev_int rfl rfl) (mulY hp.u hq.d)) (ev_iC (ev_ixT (ev_var rfl) ev_int rfl rfl) (ev_ixT (ev_var rfl) ev_int rfl rfl) (mulY hq.u hp.d))) rfl q
  · exact h.elim
/-! ### the fractions -/
abbrev z1 : Int × Int := (0, 1)
def tS6 : Int := (10 : Int) ^ (6 : Int).toNat
theorem tS6_eq : tS6 = 1000000 := rfl
def modA (n : Int) : Int := [9, 60, tS6].getD (n % 3).toNat 0
def modB (n : Int) : Int := [7, 60, tS6].getD (n / 6 % 3).toNat 0
theorem mod3 (a b : Int) {m : Int} (h0 : 0 ≤ m) (h1 : m < 3) (ha : 0 < a ∧ a ≤ 1000000) (hb : 0 < b ∧ b ≤ 1000000) : 0 < [a, b, tS6].getD m.toNat 0 ∧ [a, b, tS6].getD m.toNat 0 ≤ 1000000 := by
  have : m = 0 ∨ m = 1 ∨ m = 2 := by omega
  rcases this with rfl | rfl | rfl
  · exact ha
  · exact hb
  · show 0 < tS6 ∧ tS6 ≤ 1000000
    rw [tS6_eq]
    decide
theorem modA_b (n : Int) : 0 < modA n ∧ modA n ≤ 1000000 := mod3 9 60 (by omega) (by omega) (by decide) (by decide)
theorem modB_b (n : Int) : 0 < modB n ∧ modB n ≤ 1000000 := mod3 7 60 (by omega) (by omega) (by decide) (by decide)
def pA (n : Int) : Int × Int := (n / 16 % modA n - 4 * (n / 3 % 2), 1 + n / 64 % modB n)
def c1 (n : Int) (L : List (Int × Int)) : Bool := decide (n / 18 % 3 = 1) && !decide (L = [])
def c2 (n : Int) (L : List (Int × Int)) : Bool := decide (n / 54 % 4 = 1) && !decide (L = [])
def pB (n : Int) (L : List (Int × Int)) : Int × Int := if c1 n L then ((L.getD (L.length - 1) z1).1 + 1, (L.getD (L.length - 1) z1).2 + 1) else pA n
def pC (n : Int) (L : List (Int × Int)) : Int × Int := if c2 n L then ((L.getD 0 z1).1 * (1 + n % 5), (L.getD 0 z1).2 * (1 + n % 5)) else pB n L
def made (ns : List Int) : Nat → List (Int × Int)
  | 0 => []
  | k + 1 => made ns k ++ [frac (pC (number ns (1 + (k : Int))) (made ns k)).1 (pC (number ns (1 + (k : Int))) (made ns k)).2]
theorem made_len (ns : List Int) : ∀ k, (made ns k).length = k
  | 0 => rfl
  | k + 1 => by
    show (made ns k ++ [_]).length = k + 1
    rw [List.length_append, made_len ns k]
    rfl
theorem Ok.mono {m n : Nat} {p : Int × Int} (h : Ok m p) (hm : m ≤ n) : Ok n p := ⟨h.pos, h.g, Nat.lt_of_lt_of_le h.u (Nat.pow_le_pow_right (by decide) hm), Nat.lt_of_lt_of_le h.d (Nat.pow_le_pow_right (by decide) hm)⟩
structure Pr (m : Nat) (p : Int × Int) : Prop where
  pos : 1 ≤ p.2
  u : p.1.natAbs < 2 ^ m
  d : p.2.natAbs < 2 ^ m
theorem pC_ok {n : Int} {L : List (Int × Int)} {m : Nat} (hm : 40 ≤ m) (hn : 0 ≤ n ∧ n < 2147483648) (h : ∀ p ∈ L, Ok m p) : Pr (m + 3) (pC n L) := by
  have h40 : (2 : Nat) ^ 40 ≤ 2 ^ m := Nat.pow_le_pow_right (by decide) hm
  have e3 : (2 : Nat) ^ (m + 3) = 8 * 2 ^ m := by rw [Nat.pow_add]; omega
  have hA : Pr (m + 3) (pA n) := by
    have h1 := modA_b n
    have h2 := modB_b n
    have i1 := Int.emod_nonneg (n / 16) (show modA n ≠ 0 by omega)
    have i2 := Int.emod_lt_of_pos (n / 16) h1.1
    have i3 := Int.emod_nonneg (n / 64) (show modB n ≠ 0 by omega)
    have i4 := Int.emod_lt_of_pos (n / 64) h2.1
    constructor
    · show 1 ≤ 1 + n / 64 % modB n
      omega
    · show (n / 16 % modA n - 4 * (n / 3 % 2)).natAbs < _
      rw [e3]
      omega
    · show (1 + n / 64 % modB n).natAbs < _
      rw [e3]
      omega
  have hB : Pr (m + 3) (pB n L) := by
    unfold pB
    split
    · rename_i hc
      have hL : L ≠ [] := by
        intro e
        rw [e] at hc
        simp [c1] at hc
      have hl := List.length_pos_iff.mpr hL
      have hp := h _ (getD_mem (d := z1) (show L.length - 1 < L.length by omega))
      generalize L.getD (L.length - 1) z1 = p at *
      have a := hp.pos
      have b := hp.u
      have c := hp.d
      constructor
      · show 1 ≤ p.2 + 1
        omega
      · show (p.1 + 1).natAbs < _
        rw [e3]
        omega
      · show (p.2 + 1).natAbs < _
        rw [e3]
        omega
    · exact hA
  unfold pC
  split
  · rename_i hc
    have hL : L ≠ [] := by
      intro e
      rw [e] at hc
      simp [c2] at hc
    have hl := List.length_pos_iff.mpr hL
    have hp := h _ (getD_mem (d := z1) (show 0 < L.length by omega))
    generalize L.getD 0 z1 = p at *
    have a := hp.pos
    have b := hp.u
    have c := hp.d
    have d1 : 1 ≤ 1 + n % 5 ∧ 1 + n % 5 ≤ 5 := by omega
    have d2 : (1 + n % 5).natAbs ≤ 5 := by omega
    constructor
    · exact mul_pos1 a d1.1
    · show (p.1 * (1 + n % 5)).natAbs < _
      rw [Int.natAbs_mul, e3]
      have := Nat.mul_le_mul_left p.1.natAbs d2
      omega
    · show (p.2 * (1 + n % 5)).natAbs < _
      rw [Int.natAbs_mul, e3]
      have := Nat.mul_le_mul_left p.2.natAbs d2
      omega
  · exact hB
theorem made_ok (ns : List Int) : ∀ k, ∀ p ∈ made ns k, Ok (40 + 4 * k) p
  | 0, p, h => nomatch h
  | k + 1, p, h => by
    have ih := made_ok ns k
    have h' : p ∈ made ns k ++ [frac (pC (number ns (1 + (k : Int))) (made ns k)).1 (pC (number ns (1 + (k : Int))) (made ns k)).2] := h
    rcases List.mem_append.mp h' with h | h
    · exact (ih p h).mono (by omega)
    · rw [List.mem_singleton.mp h]
      have hb := number_lt ns (1 + (k : Int))
      have hc := pC_ok (m := 40 + 4 * k) (by omega) (by omega : 0 ≤ number ns (1 + (k : Int)) ∧ number ns (1 + (k : Int)) < 2147483648) ih
      exact (frac_ok hc.pos hc.u hc.d).mono (by omega)
def cnt (ns : List Int) : Nat := (2 + number ns 0 % 7).toNat
theorem cnt_b (ns : List Int) : 2 ≤ cnt ns ∧ cnt ns ≤ 8 ∧ ((cnt ns : Nat) : Int) = 2 + number ns 0 % 7 := by
  unfold cnt
  omega
def lD (L : List (Int × Int)) : List PyData := L.map pD
def R_made (ds : List PyData) (r : Sl) : Prop := ∃ ns : List Int, ds = [.list (iD ns)] ∧ r = .ls (lD (made ns (cnt ns)))
theorem cpow6 : CPow 10 6 := ⟨by decide, by decide, by decide⟩
theorem Pr.lim {m : Nat} {p : Int × Int} (h : Pr m p) (hm : m ≤ 4000) : p.1.natAbs < lim ∧ p.2.natAbs < lim := ⟨Nat.lt_of_lt_of_le h.u (Nat.pow_le_pow_right (by decide) hm), Nat.lt_of_lt_of_le h.d (Nat.pow_le_pow_right (by decide) hm)⟩
theorem ok__law_made {f : Addr} {fd : FuncData} (F : Fun K "_law_made" "_law_made" s__law_made f fd) (T : Txt K mg CN)
    (d__law_number : DefOk P w K mg base 2 "_law_number" ["_law_script", "_law_k"] (spF K R_number noX) [])
    (d_fraction : DefOk P w K mg base 3 "fraction" ["above", "below"] (spF K R_fraction (X_fraction CN)) []) : FnOk P w K mg base (L2.CX P w) 4 f fd ["_law_script"] (spF K R_made noX) := by
  refine F.okX sc__law_made (spF_len (n := 1) (by walk_at "sl") (by rintro _ _ ⟨⟩)) (fun cdv A outer s H vs Q E hr h => ?_)
  obtain ⟨F0, ds, fh, hv, ⟨r, ⟨ns, rfl, rfl⟩, q⟩ | ⟨_, h, _⟩⟩ := h
  · --
    have S := Sts.init (N := ["_law_script", "_law_made_here", "_law_k", "_law_number_here", "_law_above", "_law_below"]) fh hv
    have hu : (A.deeper (envOfC "_law_made" (defScope s__law_made) s.heap.objs.size f cdv)).units + 64 < cLine := hr.units
    refine ⟨_, (pss_cons (ps_set (i := 1) sc__law_made.nd rfl (Or.inl rfl) (pe_lst pa_nil))
          (pss_cons (ps_for PassesOwn.leaving rfl (pi_range1 (by rfl) T.range (pa_cons (pe_op op_add pe_int (pe_op op_mod (pe_own d__law_number (hr.mono (by decide)) (by rfl) passL (pa_cons (pv 0) (pa_cons pe_int pa_nil))) pe_int)) pa_nil)) (pg_name (i := 2) sc__law_made.nd rfl (Or.inl rfl)) (pss_cons (ps_set (i := 3) sc__law_made.nd rfl (Or.inl rfl) (pe_own d__law_number (hr.mono (by decide)) (by rfl) passL (pa_cons (pv 0) (pa_cons (pe_op op_add pe_int (pv 2)) pa_nil))))
          (pss_cons (ps_set (i := 4) sc__law_made.nd rfl (Or.inl rfl) (pe_op op_sub (pe_op op_mod (pe_op op_divY (pv 3) pe_int) (pe_ix (r := rIxL K) ix_list (pe_lst (pa_cons pe_int (pa_cons pe_int (pa_cons (pe_op op_pow pe_int pe_int) pa_nil)))) (pe_op op_mod (pv 3) pe_int) (fun _ _ => rfl))) (pe_op op_mulY pe_int (pe_op op_mod (pe_op op_divY (pv 3) pe_int) pe_int))))
          (pss_cons (ps_set (i := 5) sc__law_made.nd rfl (Or.inl rfl) (pe_op op_add pe_int (pe_op op_mod (pe_op op_divY (pv 3) pe_int) (pe_ix (r := rIxL K) ix_list (pe_lst (pa_cons pe_int (pa_cons pe_int (pa_cons (pe_op op_pow pe_int pe_int) pa_nil)))) (pe_op op_mod (pe_op op_divY (pv 3) pe_int) pe_int) (fun _ _ => rfl)))))
          (pss_cons (ps_if (PW.pt (pw_and (pt_cmpR (r := rEqP K) (op_eqP hu) (pe_op op_mod (pe_op op_divY (pv 3) pe_int) pe_int) pe_int (nomark _)) (pw_and1 (pt_cmpR (r := rNeP K) (op_neP hu) (pv 1) (pe_lst pa_nil) (nomark _))))) (pss_cons (ps_set (i := 4) sc__law_made.nd rfl (Or.inl rfl) (pe_op op_add (pe_ix (r := rIxT K) ix_tup (pe_ix (r := rIxL K) ix_list (pv 1) (pe_un un_neg pe_int) (fun _ _ => rfl)) pe_int (fun _ _ => rfl)) pe_int))
          (pss_one (ps_set (i := 5) sc__law_made.nd rfl (Or.inl rfl) (pe_op op_add (pe_ix (r := rIxT K) ix_tup (pe_ix (r := rIxL K) ix_list (pv 1) (pe_un un_neg pe_int) (fun _ _ => rfl)) pe_int (fun _ _ => rfl)) pe_int)))) pss_nil)
          (pss_cons (ps_if (PW.pt (pw_and (pt_cmpR (r := rEqP K) (op_eqP hu) (pe_op op_mod (pe_op op_divY (pv 3) pe_int) pe_int) pe_int (nomark _)) (pw_and1 (pt_cmpR (r := rNeP K) (op_neP hu) (pv 1) (pe_lst pa_nil) (nomark _))))) (pss_cons (ps_set (i := 4) sc__law_made.nd rfl (Or.inl rfl) (pe_op op_mulY (pe_ix (r := rIxT K) ix_tup (pe_ix (r := rIxL K) ix_list (pv 1) pe_int (fun _ _ => rfl)) pe_int (fun _ _ => rfl)) (pe_op op_add pe_int (pe_op op_mod (pv 3) pe_int))))
          (pss_one (ps_set (i := 5) sc__law_made.nd rfl (Or.inl rfl) (pe_op op_mulY (pe_ix (r := rIxT K) ix_tup (pe_ix (r := rIxL K) ix_list (pv 1) pe_int (fun _ _ => rfl)) pe_int (fun _ _ => rfl)) (pe_op op_add pe_int (pe_op op_mod (pv 3) pe_int)))))) pss_nil)
          (pss_one (ps_expr (pe_bm PySem.F.plainAttrs_list PySem.F.slot_list_append PySem.F.type_list_append mt_append (pv 1) (pa_cons (pe_own d_fraction (hr.mono (by decide)) (by rfl) (passes_call (takes_of rfl rfl rfl rfl) (fun _ _ _ _ h => h)) (pa_cons (pv 4) (pa_cons (pv 5) pa_nil))) pa_nil))))))))))
          (pss_one (ps_ret (pv 1))))), ?_⟩
    have hc := cnt_b ns
    refine q_asg S (init_len hv (Nat.le_of_ble_eq_true rfl)) (ev_lst av_nil rfl (Nat.le_of_ble_eq_true rfl)) rfl rfl (Nat.le_of_ble_eq_true rfl) fun σ' F' H' S l => ?_ -- _law_made_here
    refine q_forR1 (n := 2 + number ns 0 % 7) (m := cnt ns) S l (av_cons (ev_ii ev_int (ev_iC (ev_call0 (av_cons (ev_var rfl) (av_cons ev_int av_nil)) rfl ⟨ns, 0, rfl, by decide, by decide, rfl⟩) ev_int (by decide))) av_nil) hc.2.2.symm (by omega) (fun k => [.dt (.list (iD ns)), .ls (lD (made ns k)), .no, .no, .no, .no]) (Wk.refl _) (fun _ => rfl) (Nat.le_of_ble_eq_true rfl) (fun k hk σ' F' H' S l => ?_) (fun σ' F' H' S l => ?_)
    · have hL := made_ok ns k
      have hlen := made_len ns k
      have hs : made ns (k + 1) = made ns k ++ [frac (pC (number ns (1 + (k : Int))) (made ns k)).1 (pC (number ns (1 + (k : Int))) (made ns k)).2] := rfl
      refine q_asg S l (ev_call0 (av_cons (ev_var rfl) (av_cons (ev_ii ev_int (ev_var rfl)) av_nil)) rfl ⟨ns, 1 + (k : Int), rfl, by omega, by omega, rfl⟩) rfl rfl (Nat.le_of_ble_eq_true rfl) fun σ' F' H' S l => ?_ -- _law_number_here
      have hn := number_lt ns (1 + (k : Int))
      generalize number ns (1 + (k : Int)) = n at *
      generalize made ns k = L at *
      generalize made ns (k + 1) = L' at *
      have hA := modA_b n
      have hB := modB_b n
      have hC := pC_ok (m := 40 + 4 * k) (by omega) (by omega : 0 ≤ n ∧ n < 2147483648) hL
      have mA : CMulY 4 (n / 3 % 2) := CMulY.s (by omega) (by omega)
      refine q_asg S l (r := .dt (.int (pA n).1)) (ev_ii (ev_iC (ev_iC (ev_var rfl) ev_int (CDivY.s (by decide) (by decide))) (ev_ixL (ds := iD [9, 60, tS6]) (i := n % 3) (ev_lst (av_cons ev_int (av_cons ev_int (av_cons (ev_iC ev_int ev_int cpow6) av_nil))) rfl (Nat.le_of_ble_eq_true rfl)) (ev_iC (ev_var rfl) ev_int (by decide)) rfl (atI_ints (by omega) (by show n % 3 < 3; omega))) hA.1) (ev_iC ev_int (ev_iC (ev_iC (ev_var rfl) ev_int (CDivY.s (by decide) (by decide))) ev_int (by decide)) mA)) rfl rfl (Nat.le_of_ble_eq_true rfl) fun σ' F' H' S l => ?_ -- _law_above
      refine q_asg S l (r := .dt (.int (pA n).2)) (ev_ii ev_int (ev_iC (ev_iC (ev_var rfl) ev_int (CDivY.s (by decide) (by decide))) (ev_ixL (ds := iD [7, 60, tS6]) (i := n / 6 % 3) (ev_lst (av_cons ev_int (av_cons ev_int (av_cons (ev_iC ev_int ev_int cpow6) av_nil))) rfl (Nat.le_of_ble_eq_true rfl)) (ev_iC (ev_iC (ev_var rfl) ev_int (CDivY.s (by decide) (by decide))) ev_int (by decide)) rfl (atI_ints (by omega) (by show n / 6 % 3 < 3; omega))) hB.1)) rfl rfl (Nat.le_of_ble_eq_true rfl) fun σ' F' H' S l => ?_ -- _law_below
      refine q_whenJ [.dt (.list (iD ns)), .ls (lD L), .dt (.int (k : Int)), .dt (.int n), .dt (.int (pB n L).1), .dt (.int (pB n L).2)] S l (b := c1 n L) (tv_and (tv_test (ev_eqT (α := Int) (b := 1) (ev_iC (ev_iC (ev_var rfl) ev_int (CDivY.s (by decide) (by decide))) ev_int (by decide)) ev_int rfl rfl)) fun _ => (tv_test (ev_neT (α := List (Int × Int)) (a := L) (b := []) (ev_varA rfl) (ev_lst av_nil rfl (Nat.le_of_ble_eq_true rfl)) rfl rfl))) (fun hb nx hk F' H' S => ?_) (fun hb => ?_) (fun σ' F' H' S l => ?_)
      · have hne : L ≠ [] := by
          intro e
          rw [e] at hb
          simp [c1] at hb
        have eB : pB n L = ((L.getD (L.length - 1) z1).1 + 1, (L.getD (L.length - 1) z1).2 + 1) := by
          unfold pB
          rw [if_pos hb]
        rw [eB] at hk
        refine q_asg S l (ev_ii (ev_ixT (ev_ixL (ds := L.map pD) (ev_varA rfl) (ev_u ev_int) rfl (atI_last (d := z1) hne)) ev_int rfl rfl) ev_int) rfl rfl (Nat.le_of_ble_eq_true rfl) fun σ' F' H' S l => ?_ -- _law_above
        refine st_asg S l (ev_ii (ev_ixT (ev_ixL (ds := L.map pD) (ev_varA rfl) (ev_u ev_int) rfl (atI_last (d := z1) hne)) ev_int rfl rfl) ev_int) rfl rfl (Nat.le_of_ble_eq_true rfl) fun σ' F' H' S l => ?_ -- _law_below
        exact hk _ _ _ S l
      · have eB : pB n L = pA n := by
          unfold pB
          rw [if_neg (by rw [hb]; decide)]
        rw [eB]
        exact Wk.refl _
      refine q_whenJ [.dt (.list (iD ns)), .ls (lD L), .dt (.int (k : Int)), .dt (.int n), .dt (.int (pC n L).1), .dt (.int (pC n L).2)] S l (b := c2 n L) (tv_and (tv_test (ev_eqT (α := Int) (b := 1) (ev_iC (ev_iC (ev_var rfl) ev_int (CDivY.s (by decide) (by decide))) ev_int (by decide)) ev_int rfl rfl)) fun _ => (tv_test (ev_neT (α := List (Int × Int)) (a := L) (b := []) (ev_varA rfl) (ev_lst av_nil rfl (Nat.le_of_ble_eq_true rfl)) rfl rfl))) (fun hb nx hk F' H' S => ?_) (fun hb => ?_) (fun σ' F' H' S l => ?_)
      · have hne : L ≠ [] := by
          intro e
          rw [e] at hb
          simp [c2] at hb
        have hl0 := List.length_pos_iff.mpr hne
        have eB : pC n L = ((L.getD 0 z1).1 * (1 + n % 5), (L.getD 0 z1).2 * (1 + n % 5)) := by
          unfold pC
          rw [if_pos hb]
        rw [eB] at hk
        have hp := (hL _ (getD_mem (d := z1) hl0)).fr (by omega)
        have m5 : (1 + n % 5).natAbs < mid := pow_le_mid (m := 10) (by decide) (by omega)
        have a0 : atI (L.map pD) 0 = some (pD (L.getD 0 z1)) := atI_get (by decide) (by omega)
        refine q_asg S l (ev_iC (ev_ixT (ev_ixL (ds := L.map pD) (ev_varA rfl) ev_int rfl a0) ev_int rfl rfl) (ev_ii ev_int (ev_iC (ev_var rfl) ev_int (by decide))) (mulY hp.u m5)) rfl rfl (Nat.le_of_ble_eq_true rfl) fun σ' F' H' S l => ?_ -- _law_above
        refine st_asg S l (ev_iC (ev_ixT (ev_ixL (ds := L.map pD) (ev_varA rfl) ev_int rfl a0) ev_int rfl rfl) (ev_ii ev_int (ev_iC (ev_var rfl) ev_int (by decide))) (mulY hp.d m5)) rfl rfl (Nat.le_of_ble_eq_true rfl) fun σ' F' H' S l => ?_ -- _law_below
        exact hk _ _ _ S l
      · have eB : pC n L = pB n L := by
          unfold pC
          rw [if_neg (by rw [hb]; decide)]
        rw [eB]
        exact Wk.refl _
      -- _law_made_here.append(fraction(_law_above, _law_below))
      have hlm := hC.lim (by omega)
      refine st_app S l (ds := lD L) (d := pD (frac (pC n L).1 (pC n L).2)) rfl (ev_call0 (av_cons (ev_var rfl) (av_cons (ev_var rfl) av_nil)) rfl ⟨_, _, rfl, hC.pos, hlm.1, hlm.2, rfl⟩) (by unfold lD; rw [List.length_map]; omega) fun F' H' S l => ?_
      refine ⟨F', S.weak (.same rfl (.same ?_ (.no (.no (.no (.no .nil)))))), l⟩
      rw [hs]
      unfold lD
      rw [List.map_append]
      rfl
    · exact st_retA S l rfl q
  · exact h.elim
/-! ### put in row -/
def insR (p : Int × Int) : List (Int × Int) → List (Int × Int)
  | [] => [p]
  | q :: R => if lessB p q then p :: q :: R else q :: insR p R
theorem ins_at (p : Int × Int) : ∀ (R : List (Int × Int)) (a : Nat), a ≤ R.length → (∀ i, i < a → lessB p (R.getD i z1) = false) → (a < R.length → lessB p (R.getD a z1) = true) → R.take a ++ [p] ++ R.drop a = insR p R
  | [], a, h, _, _ => by
    have e : a = 0 := by simpa using h
    subst e
    rfl
  | q :: R, 0, _, _, h2 => by
    have h3 := h2 (by simp)
    have h4 : lessB p q = true := h3
    unfold insR
    rw [if_pos h4]
    rfl
  | q :: R, a + 1, h, h1, h2 => by
    have h4 : lessB p q = false := h1 0 (by omega)
    unfold insR
    rw [if_neg (by rw [h4]; decide), ← ins_at p R a (by simpa using h) (fun i hi => by simpa using h1 (i + 1) (by omega)) (fun hi => by simpa using h2 (by simpa using hi))]
    rfl
def rowF (L : List (Int × Int)) : List (Int × Int) := L.foldl (fun R p => insR p R) []
theorem rowF_succ {L : List (Int × Int)} {k : Nat} (h : k < L.length) : rowF (L.take (k + 1)) = insR (L.getD k z1) (rowF (L.take k)) := by
  rw [take_succ_get (d := z1) h]
  unfold rowF
  rw [List.foldl_append]
  rfl
theorem insR_perm (p : Int × Int) : ∀ R, (insR p R).Perm (p :: R)
  | [] => .refl _
  | q :: R => by
    unfold insR
    split
    · exact .refl _
    · exact ((insR_perm p R).cons q).trans (.swap p q R)
theorem foldl_perm : ∀ (L R : List (Int × Int)), (L.foldl (fun R p => insR p R) R).Perm (L ++ R)
  | [], R => .refl _
  | p :: L, R => by
    show (L.foldl (fun R p => insR p R) (insR p R)).Perm _
    exact (foldl_perm L (insR p R)).trans (((insR_perm p R).append_left L).trans List.perm_middle)
theorem rowF_perm (L : List (Int × Int)) : (rowF L).Perm L := by
  have := foldl_perm L []
  rwa [List.append_nil] at this
theorem rowF_len (L : List (Int × Int)) : (rowF L).length = L.length := (rowF_perm L).length_eq
theorem insR_sorted {f : Int × Int → Int} (p : Int × Int) : ∀ R : List (Int × Int), (∀ q ∈ R, lessB p q = decide (f p < f q)) → R.Pairwise (fun x y => f x ≤ f y) → (insR p R).Pairwise (fun x y => f x ≤ f y)
  | [], _, _ => by
    unfold insR
    exact List.pairwise_singleton _ _
  | q :: R, h, s => by
    have hq := h q List.mem_cons_self
    have s1 := List.pairwise_cons.mp s
    unfold insR
    split
    · rename_i hc
      rw [hc] at hq
      have lt : f p < f q := of_decide_eq_true hq.symm
      refine List.pairwise_cons.mpr ⟨fun x hx => ?_, s⟩
      rcases List.mem_cons.mp hx with rfl | hx
      · omega
      · have := s1.1 x hx
        omega
    · rename_i hc
      have hc' : lessB p q = false := by simpa using hc
      rw [hc'] at hq
      have lt : ¬ f p < f q := of_decide_eq_false hq.symm
      refine List.pairwise_cons.mpr ⟨fun x hx => ?_, insR_sorted p R (fun y hy => h y (List.mem_cons_of_mem _ hy)) s1.2⟩
      rcases List.mem_cons.mp ((insR_perm p R).mem_iff.mp hx) with rfl | hx
      · omega
      · exact s1.1 x hx
theorem foldl_sorted {f : Int × Int → Int} : ∀ (L R : List (Int × Int)), (∀ p ∈ L ++ R, ∀ q ∈ L ++ R, lessB p q = decide (f p < f q)) → R.Pairwise (fun x y => f x ≤ f y) → (L.foldl (fun R p => insR p R) R).Pairwise (fun x y => f x ≤ f y)
  | [], R, _, s => s
  | p :: L, R, h, s => by
    have mm : ∀ x, x ∈ L ++ insR p R ↔ x ∈ p :: L ++ R := fun x => (((insR_perm p R).append_left L).trans List.perm_middle).mem_iff
    exact foldl_sorted L (insR p R) (fun x hx y hy => h x ((mm x).mp hx) y ((mm y).mp hy)) (insR_sorted p R (fun q hq => h p (by simp) q (by simp [hq])) s)
theorem rowF_sorted {f : Int × Int → Int} (L : List (Int × Int)) (h : ∀ p ∈ L, ∀ q ∈ L, lessB p q = decide (f p < f q)) : (rowF L).Pairwise (fun x y => f x ≤ f y) :=
  foldl_sorted L [] (by simpa using h) .nil
def R_row (ds : List PyData) (r : Sl) : Prop := ∃ L : List (Int × Int), ds = [.list (lD L)] ∧ L.length ≤ 100 ∧ (∀ p ∈ L, Fr p) ∧ r = .ls (lD (rowF L))
theorem lD_len (L : List (Int × Int)) : (lD L).length = L.length := List.length_map _
theorem cut_take (L : List (Int × Int)) (a : Nat) (h : a ≤ L.length) : Fh.cutD (lD L) none (some (a : Int)) = lD (L.take a) := by
  rw [cutD_take (by rw [lD_len]; exact h)]
  unfold lD
  rw [List.map_take]
theorem cut_drop (L : List (Int × Int)) (a : Nat) (h : a ≤ L.length) : Fh.cutD (lD L) (some (a : Int)) none = lD (L.drop a) := by
  rw [cutD_drop (by rw [lD_len]; exact h)]
  unfold lD
  rw [List.map_drop]
theorem ok__law_in_row {f : Addr} {fd : FuncData} (F : Fun K "_law_in_row" "_law_in_row" s__law_in_row f fd) (T : Txt K mg CN)
    (d_is_less : DefOk P w K mg base 1 "is_less" ["one", "other"] (spF K R_less noX) []) : FnOk P w K mg base (L2.CX P w) 2 f fd ["_law_made_here"] (spF K R_row noX) := by
  refine F.okX sc__law_in_row (spF_len (n := 1) (by walk_at "sl") (by rintro _ _ ⟨⟩)) (fun cdv A outer s H vs Q E hr h => ?_)
  obtain ⟨F0, ds, fh, hv, ⟨r, ⟨L, rfl, hl, hL, rfl⟩, q⟩ | ⟨_, h, _⟩⟩ := h
  · --
    have S := Sts.init (N := ["_law_made_here", "_law_row", "_law_one", "_law_at"]) fh hv
    have hu : (A.deeper (envOfC "_law_in_row" (defScope s__law_in_row) s.heap.objs.size f cdv)).units + 64 < cLine := hr.units
    refine ⟨_, (pss_cons (ps_set (i := 1) sc__law_in_row.nd rfl (Or.inl rfl) (pe_lst pa_nil))
          (pss_cons (ps_for PassesOwn.leaving rfl (pi_list (pv 0)) (pg_name (i := 2) sc__law_in_row.nd rfl (Or.inl rfl)) (pss_cons (ps_set (i := 3) sc__law_in_row.nd rfl (Or.inl rfl) pe_int)
          (pss_cons (ps_while PassesOwn.leaving (PW.pt (pw_and (pt_cmpR op_lt (pv 3) (pe_callB (id := "len") (r := rLenR K) call_lenR (by rfl) T.len (by decide +kernel) (pa_cons (pv 1) pa_nil)) (nomark _)) (pw_and1 (pt_not (pt_val (pe_own d_is_less (hr.mono (by decide)) (by rfl) passL (pa_cons (pv 2) (pa_cons (pe_ix (r := rIxL K) ix_list (pv 1) (pv 3) (fun _ _ => rfl)) pa_nil)))))))) (pss_one (ps_set (i := 3) sc__law_in_row.nd rfl (Or.inl rfl) (pe_op op_add (pv 3) pe_int))))
          (pss_one (ps_set (i := 1) sc__law_in_row.nd rfl (Or.inl rfl) (pe_op (r := rCatL K) op_catL (pe_op (r := rCatL K) op_catL (pe_slice (r := rSlL K) sl_list (pv 1) po_none (po_some (pv 3))) (pe_lst (pa_cons (pv 2) pa_nil))) (pe_slice (r := rSlL K) sl_list (pv 1) (po_some (pv 3)) po_none)))))))
          (pss_one (ps_ret (pv 1))))), ?_⟩
    refine q_asg S (init_len hv (Nat.le_of_ble_eq_true rfl)) (ev_lst av_nil rfl (Nat.le_of_ble_eq_true rfl)) rfl rfl (Nat.le_of_ble_eq_true rfl) fun σ' F' H' S l => ?_ -- _law_row
    refine q_forL S l (ev_var rfl) (fun k => [.dt (.list (lD L)), .ls (lD (rowF (L.take k))), .no, .no]) (Wk.refl _) (fun k d p hd x σ' F' H' hx S l => ?_) (fun σ' F' H' S l => ?_)
    · refine g_name S l (Nat.le_of_ble_eq_true rfl) hx rfl fun σ' F' H' S l => ?_
      obtain ⟨hk, rfl⟩ := map_at z1 hd
      have hs := rowF_succ hk
      have hRl : (rowF (L.take k)).length ≤ 100 := by rw [rowF_len, List.length_take]; omega
      have hRF : ∀ p ∈ rowF (L.take k), Fr p := fun p hp => hL p (List.mem_of_mem_take ((rowF_perm _).mem_iff.mp hp))
      have ho := hL _ (getD_mem (d := z1) hk)
      generalize rowF (L.take (k + 1)) = R' at *
      generalize rowF (L.take k) = R at *
      generalize L.getD k z1 = o at *
      refine q_asg S l ev_int rfl rfl (Nat.le_of_ble_eq_true rfl) fun σ' F' H' S l => ?_ -- _law_at
      refine q_while (fun a : Nat => [.dt (.list (lD L)), .ls (lD R), .dt (pD o), .dt (.int (a : Int))]) (fun a => a ≤ R.length ∧ ∀ i, i < a → lessB o (R.getD i z1) = false) (fun a => R.length - a) (fun a => decide ((a : Int) < ((lD R).length : Nat)) && !lessB o (R.getD a z1)) 0 S l (Wk.refl _) ⟨Nat.zero_le _, fun i hi => absurd hi (Nat.not_lt_zero i)⟩ (fun a ha => ?_) (fun a ha hb σ' F' H' S l => ?_) (fun a ha hb σ' F' H' S l => ?_)
      · refine tv_and (tv_test (ev_ib (ev_var rfl) (ev_len (ev_varA rfl) rfl rfl))) fun hb => ?_
        have hb' := of_decide_eq_true hb
        rw [lD_len] at hb'
        have ha' : a < R.length := by omega
        exact (tv_not (tv_B (ev_call0 (av_cons (ev_var rfl) (av_cons (ev_ixL (ds := R.map pD) (ev_varA rfl) (ev_var rfl) rfl (atI_getN (d := z1) ha')) av_nil)) rfl ⟨_, _, rfl, ho, hRF _ (getD_mem ha'), rfl⟩)))
      · rw [Bool.and_eq_true] at hb
        have hb' := of_decide_eq_true hb.1
        rw [lD_len] at hb'
        have hb2 : lessB o (R.getD a z1) = false := by simpa using hb.2
        refine st_asg S l (ev_ii (ev_var rfl) ev_int) rfl rfl (Nat.le_of_ble_eq_true rfl) fun σ' F' H' S l => ?_ -- _law_at
        refine ⟨a + 1, by omega, ⟨by omega, fun i hi => ?_⟩, F', S.weak (Wk.refl _), l⟩
        rcases Nat.lt_succ_iff_lt_or_eq.mp hi with h | rfl
        · exact ha.2 i h
        · exact hb2
      · have hr : R.take a ++ [o] ++ R.drop a = insR o R := by
          refine ins_at o R a ha.1 ha.2 fun hlt => ?_
          rw [lD_len, decide_eq_true (by omega), Bool.true_and] at hb
          simpa using hb
        refine st_asg S l (r := .ls (lD R')) (.to (ev_catL (ds := lD (R.take a) ++ [pD o]) (es := lD (R.drop a)) (.to (ev_catL (ds := lD (R.take a)) (.to (ev_slL (ev_varA rfl) rfl ov_none (ov_some (ev_var rfl))) (congrArg Sl.ls (cut_take R a ha.1))) (ev_lst (av_cons (ev_var rfl) av_nil) rfl (Nat.le_of_ble_eq_true rfl)) rfl rfl ?_) rfl) (.to (ev_slL (ev_varA rfl) rfl (ov_some (ev_var rfl)) ov_none) (congrArg Sl.ls (cut_drop R a ha.1))) rfl rfl ?_) ?_) rfl rfl (Nat.le_of_ble_eq_true rfl) fun σ' F' H' S l => ?_ -- _law_row
        · rw [lD_len, List.length_take]
          show _ + 1 ≤ _
          omega
        · rw [List.length_append, lD_len, lD_len, List.length_take, List.length_drop]
          show _ + 1 + _ ≤ _
          omega
        · rw [hs, ← hr]
          unfold lD
          rw [List.map_append, List.map_append]
          rfl
        exact ⟨F', S.wk2 (.same rfl (.same rfl (.no (.no .nil)))), l⟩
    · have S2 := S
      simp only [lD_len, List.take_length] at S2
      exact st_retA S2 l rfl q
  · exact h.elim
/-! ### sizes over one common below -/
def wh (L : List (Int × Int)) : Nat → Int
  | 0 => 1
  | k + 1 => wh L k * (L.getD k z1).2
theorem wh_ok {L : List (Int × Int)} {m : Nat} (h : ∀ p ∈ L, Ok m p) : ∀ k, k ≤ L.length → 1 ≤ wh L k ∧ (wh L k).natAbs < 2 ^ (m * k + 1)
  | 0, _ => ⟨Int.le_refl 1, by show (1 : Int).natAbs < 2 ^ (m * 0 + 1); rw [Nat.mul_zero]; decide⟩
  | k + 1, hk => by
    obtain ⟨a, b⟩ := wh_ok h k (by omega)
    have hp := h _ (getD_mem (d := z1) (show k < L.length by omega))
    refine ⟨mul_pos1 a hp.pos, ?_⟩
    have := mul_lt_pow b hp.d
    have e : m * (k + 1) + 1 = m * k + 1 + m := by rw [Nat.mul_succ]; omega
    rw [e]
    exact this
theorem wh_dvd (L : List (Int × Int)) : ∀ n j, j < n → (L.getD j z1).2 ∣ wh L n
  | 0, _, h => absurd h (Nat.not_lt_zero _)
  | n + 1, j, h => by
    rcases Nat.lt_succ_iff_lt_or_eq.mp h with h | rfl
    · exact Int.dvd_mul_of_dvd_left (wh_dvd L n j h)
    · exact Int.dvd_mul_left _ _
def sizeF (W : Int) (p : Int × Int) : Int := p.1 * (W / p.2)
theorem mul_lt_iff {a b c : Int} (h : 0 < c) : a * c < b * c ↔ a < b := ⟨fun e => Int.lt_of_mul_lt_mul_right e (Int.le_of_lt h), fun e => Int.mul_lt_mul_of_pos_right e h⟩
theorem less_size {W : Int} {p q : Int × Int} (hW : 1 ≤ W) (hp : 1 ≤ p.2) (hq : 1 ≤ q.2) (dp : p.2 ∣ W) (dq : q.2 ∣ W) : lessB p q = decide (sizeF W p < sizeF W q) := by
  unfold lessB sizeF
  have e1 : W / p.2 * p.2 = W := Int.ediv_mul_cancel dp
  have e2 : W / q.2 * q.2 = W := Int.ediv_mul_cancel dq
  generalize W / p.2 = x at *
  generalize W / q.2 = y at *
  have e : p.1 * x < q.1 * y ↔ p.1 * q.2 < q.1 * p.2 := by
    rw [← mul_lt_iff (c := p.2 * q.2) (by have := mul_pos1 hp hq; omega), ← mul_lt_iff (a := p.1 * q.2) (c := W) (by omega)]
    have f1 : p.1 * x * (p.2 * q.2) = p.1 * q.2 * W := by rw [← e1]; ac_rfl
    have f2 : q.1 * y * (p.2 * q.2) = q.1 * p.2 * W := by rw [← e2]; ac_rfl
    rw [f1, f2]
  exact decide_eq_decide.mpr e.symm
theorem less_frac {a b c d : Int} (hb : 1 ≤ b) (hd : 1 ≤ d) : lessB (frac a b) (frac c d) = decide (a * d < c * b) := by
  obtain ⟨g, a', b', ea, eb, e, _, pb, _⟩ := frac_nat (a := a) hb
  obtain ⟨g2, c', d', ec, ed, e2, _, pd, _⟩ := frac_nat (a := c) hd
  rw [e, e2]
  unfold lessB
  have hg : 0 < (g : Int) := by
    rcases Nat.eq_zero_or_pos g with z | z
    · rw [z] at eb
      simp at eb
      omega
    · omega
  have hg2 : 0 < (g2 : Int) := by
    rcases Nat.eq_zero_or_pos g2 with z | z
    · rw [z] at ed
      simp at ed
      omega
    · omega
  refine decide_eq_decide.mpr ?_
  show a' * d' < c' * b' ↔ a * d < c * b
  rw [← mul_lt_iff (c := (g : Int) * g2) (Int.mul_pos hg hg2)]
  have f1 : a' * d' * ((g : Int) * g2) = a * d := by rw [ea, ed]; ac_rfl
  have f2 : c' * b' * ((g : Int) * g2) = c * b := by rw [ec, eb]; ac_rfl
  rw [f1, f2]
theorem less_sum {p q z : Int × Int} (hp : 1 ≤ p.2) (hq : 1 ≤ q.2) (hz : 1 ≤ z.2) : lessB (sumF p z) (sumF q z) = lessB p q := by
  unfold sumF
  rw [less_frac (mul_pos1 hp hz) (mul_pos1 hq hz)]
  unfold lessB
  refine decide_eq_decide.mpr ?_
  have hzz : 0 < z.2 * z.2 := by have := mul_pos1 hz hz; omega
  rw [← mul_lt_iff (a := p.1 * q.2) hzz]
  have f1 : (p.1 * z.2 + z.1 * p.2) * (q.2 * z.2) = p.1 * q.2 * (z.2 * z.2) + z.1 * p.2 * (q.2 * z.2) := by
    rw [Int.add_mul]
    congr 1
    ac_rfl
  have f2 : (q.1 * z.2 + z.1 * q.2) * (p.2 * z.2) = q.1 * p.2 * (z.2 * z.2) + z.1 * p.2 * (q.2 * z.2) := by
    rw [Int.add_mul]
    congr 1
    · ac_rfl
    · ac_rfl
  rw [f1, f2]
  omega
def R_law (ds : List PyData) (r : Sl) : Prop := ∃ ns : List Int, ds = [.list (iD ns)] ∧ ns.length ≤ 63 ∧ r = .dt (.bool true)
theorem at_lD {L : List (Int × Int)} {k : Nat} (h : k < L.length) : atI (lD L) (k : Int) = some (pD (L.getD k z1)) := atI_getN h
theorem ok_law {f : Addr} {fd : FuncData} (F : Fun K "law" "law" s_law f fd) (T : Txt K mg CN)
    (d__law_made : DefOk P w K mg base 4 "_law_made" ["_law_script"] (spF K R_made noX) [])
    (d_is_less : DefOk P w K mg base 1 "is_less" ["one", "other"] (spF K R_less noX) [])
    (d_sum_of : DefOk P w K mg base 4 "sum_of" ["one", "other"] (spF K R_sum noX) [])
    (d__law_in_row : DefOk P w K mg base 2 "_law_in_row" ["_law_made_here"] (spF K R_row noX) []) : FnOk P w K mg base (L2.CX P w) 5 f fd ["_law_script"] (spF K R_law noX) := by
  refine F.okX sc_law (spF_len (n := 1) (by walk_at "sl") (by rintro _ _ ⟨⟩)) (fun cdv A outer s H vs Q E hr h => ?_)
  obtain ⟨F0, ds, fh, hv, ⟨r, ⟨ns, rfl, hl63, rfl⟩, q⟩ | ⟨_, h, _⟩⟩ := h
  · --
    have S := Sts.init (N := ["_law_script", "_law_made_here", "_law_whole", "_law_above", "_law_below", "_law_sizes", "_law_j", "_law_k", "_law_found", "_law_row"]) fh hv
    have hu : (A.deeper (envOfC "law" (defScope s_law) s.heap.objs.size f cdv)).units + 64 < cLine := hr.units
    refine ⟨_, (pss_cons (ps_set (i := 1) sc_law.nd rfl (Or.inl rfl) (pe_own d__law_made (hr.mono (by decide)) (by rfl) passL (pa_cons (pv 0) pa_nil)))
          (pss_cons (ps_set (i := 2) sc_law.nd rfl (Or.inr rfl) pe_int)
          (pss_cons (ps_for PassesOwn.leaving rfl (pi_list (pv 1)) (pg_tup rfl (pgs_cons (pg_name (i := 3) sc_law.nd rfl (Or.inl rfl)) (pgs_cons (pg_name (i := 4) sc_law.nd rfl (Or.inl rfl)) pgs_nil))) (pss_one (ps_set (i := 2) sc_law.nd rfl (Or.inr rfl) (pe_op op_mulY (pv 2) (pv 4)))))
          (pss_cons (ps_setLc (i := 5) (own := [("_law_above", 3), ("_law_below", 4)]) (g := (gTup K 2 (gCons (gName 3) (gCons (gName 4) gNil)))) (tt := tYes) rfl sc_law.nd rfl rfl (sw_true rfl rfl rfl (by decide +kernel)) (pi_list (pv 1)) (blkOk_by (own := [("_law_above", 3), ("_law_below", 4)]) (N := ["_law_script", "_law_made_here", "_law_whole", "_law_above", "_law_below", "_law_sizes", "_law_j", "_law_k", "_law_found", "_law_row"]) (sc := defScope s_law) (by decide +kernel)) (fun _ _ _ _ _ => pg_tup rfl (pgs_cons (pg_name (i := 3) sc_law.nd rfl (Or.inl rfl)) (pgs_cons (pg_name (i := 4) sc_law.nd rfl (Or.inl rfl)) pgs_nil))) (fun _ _ _ _ _ => pts_nil) (fun _ _ _ _ _ => (pe_op op_mulY (pv 3) (pe_op op_divY (pv 2) (pv 4)))))
          (pss_cons (ps_for PassesOwn.leaving rfl (pi_range1 (by rfl) T.range (pa_cons (pe_callB (id := "len") (r := rLenR K) call_lenR (by rfl) T.len (by decide +kernel) (pa_cons (pv 1) pa_nil)) pa_nil)) (pg_name (i := 6) sc_law.nd rfl (Or.inl rfl)) (pss_one (ps_for PassesOwn.leaving rfl (pi_range1 (by rfl) T.range (pa_cons (pe_callB (id := "len") (r := rLenR K) call_lenR (by rfl) T.len (by decide +kernel) (pa_cons (pv 1) pa_nil)) pa_nil)) (pg_name (i := 7) sc_law.nd rfl (Or.inl rfl)) (pss_cons (ps_set (i := 8) sc_law.nd rfl (Or.inl rfl) (pe_own d_is_less (hr.mono (by decide)) (by rfl) passL (pa_cons (pe_ix (r := rIxL K) ix_list (pv 1) (pv 6) (fun _ _ => rfl)) (pa_cons (pe_ix (r := rIxL K) ix_list (pv 1) (pv 7) (fun _ _ => rfl)) pa_nil))))
          (pss_cons (ps_if (PW.pt (pw_or (pt_not (pt_val (pe_callB (id := "isinstance") (r := rIsi K) call_isi (by rfl) T.isinstance (by decide +kernel) (pa_cons (pv 8) (pa_cons (pe_bltn (v := .ty "bool") (by rfl) T.bool (by decide +kernel) rfl) pa_nil))))) (pw_or1 (pt_cmpR (r := rNeP K) (op_neP hu) (pv 8) (pe_cmpR op_lt (pe_ix (r := rIxL K) ix_list (pv 5) (pv 6) (fun _ _ => rfl)) (pe_ix (r := rIxL K) ix_list (pv 5) (pv 7) (fun _ _ => rfl)) (nomark _)) (nomark _))))) (pss_one (ps_ret pe_bl)) pss_nil)
          (pss_one (ps_if (pt_cmpR (r := rNeP K) (op_neP hu) (pe_own d_is_less (hr.mono (by decide)) (by rfl) passL (pa_cons (pe_own d_sum_of (hr.mono (by decide)) (by rfl) (passes_call (takes_of rfl rfl rfl rfl) (fun _ _ _ _ h => h)) (pa_cons (pe_ix (r := rIxL K) ix_list (pv 1) (pv 6) (fun _ _ => rfl)) (pa_cons (pe_ix (r := rIxL K) ix_list (pv 1) pe_int (fun _ _ => rfl)) pa_nil))) (pa_cons (pe_own d_sum_of (hr.mono (by decide)) (by rfl) (passes_call (takes_of rfl rfl rfl rfl) (fun _ _ _ _ h => h)) (pa_cons (pe_ix (r := rIxL K) ix_list (pv 1) (pv 7) (fun _ _ => rfl)) (pa_cons (pe_ix (r := rIxL K) ix_list (pv 1) pe_int (fun _ _ => rfl)) pa_nil))) pa_nil))) (pv 8) (nomark _)) (pss_one (ps_ret pe_bl)) pss_nil)))))))
          (pss_cons (ps_set (i := 9) sc_law.nd rfl (Or.inl rfl) (pe_own d__law_in_row (hr.mono (by decide)) (by rfl) passL (pa_cons (pv 1) pa_nil)))
          (pss_one (ps_ret (pe_cmpR (r := rEqP K) (op_eqP hu) (pe_lc (own := [("_law_above", 3), ("_law_below", 4)]) (g := (gTup K 2 (gCons (gName 3) (gCons (gName 4) gNil)))) (tt := tYes) rfl sc_law.nd (pi_list (pv 9)) (blkOk_by (own := [("_law_above", 3), ("_law_below", 4)]) (N := ["_law_script", "_law_made_here", "_law_whole", "_law_above", "_law_below", "_law_sizes", "_law_j", "_law_k", "_law_found", "_law_row"]) (sc := defScope s_law) (by decide +kernel)) (fun _ _ _ _ _ => pg_tup rfl (pgs_cons (pg_name (i := 3) sc_law.nd rfl (Or.inl rfl)) (pgs_cons (pg_name (i := 4) sc_law.nd rfl (Or.inl rfl)) pgs_nil))) (fun _ _ _ _ _ => pts_nil) (fun _ _ _ _ _ => (pe_op op_mulY (pv 3) (pe_op op_divY (pv 2) (pv 4))))) (pe_callB (id := "sorted") (r := rSortedI K) cr_sortedI (by rfl) T.sorted (by decide +kernel) (pa_cons (pv 5) pa_nil)) (nomark _)))))))))), ?_⟩
    have hc := cnt_b ns
    have hL := made_ok ns (cnt ns)
    have hlen := made_len ns (cnt ns)
    refine q_asg S (init_len hv (Nat.le_of_ble_eq_true rfl)) (.frz (ev_call0 (av_cons (ev_var rfl) av_nil) rfl ⟨ns, rfl, rfl⟩)) rfl rfl (Nat.le_of_ble_eq_true rfl) fun σ' F' H' S l => ?_ -- _law_made_here
    generalize made ns (cnt ns) = L at *
    have hl8 : 2 ≤ L.length ∧ L.length ≤ 8 := by omega
    have hL' : ∀ p ∈ L, Ok 72 p := fun p hp => (hL p hp).mono (by omega)
    have hF : ∀ k, k < L.length → Ok 72 (L.getD k z1) := fun k hk => hL' _ (getD_mem hk)
    refine q_asg S l ev_int rfl rfl (Nat.le_of_ble_eq_true rfl) fun σ' F' H' S l => ?_ -- _law_whole
    refine q_forL S l (ev_var rfl) (fun k => [.dt (.list (iD ns)), .dt (.list (lD L)), .dt (.int (wh L k)), .no, .no, .no, .no, .no, .no, .no]) (Wk.refl _) (fun k d p hd x σ' F' H' hx S l => ?_) (fun σ' F' H' S l => ?_)
    · obtain ⟨hk, rfl⟩ := map_at z1 hd
      refine g_pair S l (Nat.le_of_ble_eq_true rfl) (Nat.le_of_ble_eq_true rfl) hx rfl fun σ' F' H' S l => ?_
      have hw := (wh_ok hL' k (by omega)).2
      refine st_asg S l (ev_iC (ev_var rfl) (ev_var rfl) (mulY (pow_le_mid (by omega) hw) ((hF k hk).fr (by decide)).d)) rfl rfl (Nat.le_of_ble_eq_true rfl) fun σ' F' H' S l => ?_ -- _law_whole
      exact ⟨F', S.wk2 (.same rfl (.same rfl (.same rfl (.no (.no (.no (.no (.no (.no (.no .nil)))))))))), l⟩
    have S1 := S
    simp only [lD_len] at S1
    have hw := wh_ok hL' L.length (Nat.le_refl _)
    have hd := wh_dvd L L.length
    generalize wh L L.length = W at *
    have hdm : ∀ p ∈ L, p.2 ∣ W := fun p hp => by
      obtain ⟨k, hk, e⟩ := List.getElem_of_mem hp
      have e2 : L.getD k z1 = p := by simp [List.getD, hk, e]
      rw [← e2]
      exact hd k hk
    have hWm : W.natAbs < mid := pow_le_mid (by omega) hw.2
    have hsz : ∀ {ss : List Sl} (p : Int × Int), p ∈ L → ss[2]? = some (.dt (.int W)) → ss[3]? = some (.dt (.int p.1)) → ss[4]? = some (.dt (.int p.2)) → EvR K (tOp (rI CMulY fun i j => .int (i * j)) (tVar 3) (tOp (rI CDivY fun i j => .int (i / j)) (tVar 2) (tVar 4))) ss (.dt (.int (sizeF W p))) := fun p hp h2 h3 h4 => by
      have ho := (hL' p hp).fr (by decide)
      have h9 : CDivY W p.2 := ⟨by have := ho.pos; omega, Nat.lt_of_lt_of_le ho.d (Nat.pow_le_pow_right (by decide) (by decide))⟩
      have hq : (W / p.2).natAbs < mid := Nat.lt_of_le_of_lt (Int.natAbs_ediv_le_natAbs W p.2) hWm
      exact ev_iC (ev_var h3) (ev_iC (ev_var h2) (ev_var h4) h9) (mulY ho.u hq)
    have hcomp : ∀ (L2 : List (Int × Int)) (ss : List Sl) (i : Nat), (∀ p ∈ L2, p ∈ L) → L2.length ≤ 100 → ss.all notAl = true → ss.length = 10 → ss[2]? = some (.dt (.int W)) → ss[i]? = some (.dt (.list (lD L2))) → EvR K (tLc (iList K (tVar i)) (gTup K 2 (gCons (gName 3) (gCons (gName 4) gNil))) tYes (tOp (rI CMulY fun i j => .int (i * j)) (tVar 3) (tOp (rI CDivY fun i j => .int (i / j)) (tVar 2) (tVar 4))) [3, 4]) ss (.ls (iD (L2.map (sizeF W)))) := fun L2 ss i hs hl2 na h10 h2 hi => by
      have e : Fh.got (fun k => some (PyData.int (sizeF W (L2.getD k z1)))) (lD L2).length = iD (L2.map (sizeF W)) := by
        rw [lD_len, got_map L2 z1 fun p => PyData.int (sizeF W p)]
        simp [iD]
      rw [← e]
      refine ev_lcL (ds := lD L2) _ (ev_var hi) na (in2 (by omega) (by omega)) (by rw [lD_len]; omega) fun k d hd => ?_
      obtain ⟨hk, rfl⟩ := map_at z1 hd
      refine ⟨_, gt_pair (by omega) (by omega) (by decide), tv_yes, fun _ => ?_⟩
      refine hsz _ (hs _ (getD_mem hk)) ?_ ?_ ?_
      · rw [List.getElem?_set_ne (by decide), List.getElem?_set_ne (by decide)]
        show ((ss.set 4 .no).set 3 .no)[2]? = _
        rw [List.getElem?_set_ne (by decide), List.getElem?_set_ne (by decide), h2]
      · rw [List.getElem?_set_ne (by decide), List.getElem?_set_self (by rw [wipeS_len]; omega)]
      · rw [List.getElem?_set_self (by rw [List.length_set, wipeS_len]; omega)]
    refine q_asg S1 l (.frz (hcomp L _ 1 (fun _ h => h) (by omega) rfl rfl rfl rfl)) rfl rfl (Nat.le_of_ble_eq_true rfl) fun σ' F' H' S l => ?_ -- _law_sizes
    have hls : ∀ p ∈ L, ∀ q ∈ L, lessB p q = decide (sizeF W p < sizeF W q) := fun p hp q hq => less_size hw.1 (hL' p hp).pos (hL' q hq).pos (hdm p hp) (hdm q hq)
    have hsa : ∀ k, k < L.length → atI (iD (L.map (sizeF W))) (k : Int) = some (.int (sizeF W (L.getD k z1))) := fun k hk => by
      have e : iD (L.map (sizeF W)) = L.map fun p => PyData.int (sizeF W p) := by simp [iD]
      rw [e]
      exact atI_getN (φ := fun p => PyData.int (sizeF W p)) hk
    refine q_forR1 (n := (L.length : Int)) (m := L.length) S l (av_cons (.toD (ev_len (ev_var rfl) rfl rfl) (by rw [lD_len])) av_nil) rfl (by omega) (fun k => [.dt (.list (iD ns)), .dt (.list (lD L)), .dt (.int W), .no, .no, .dt (.list (iD (L.map (sizeF W)))), .no, .no, .no, .no]) (.same rfl (.same rfl (.same rfl (.no (.no (.same rfl (.no (.no (.no (.no .nil)))))))))) (fun _ => rfl) (Nat.le_of_ble_eq_true rfl) (fun j hj σ' F' H' S l => ?_) (fun σ' F' H' S l => ?_)
    · refine st_forR1 (n := (L.length : Int)) (m := L.length) S l (av_cons (.toD (ev_len (ev_var rfl) rfl rfl) (by rw [lD_len])) av_nil) rfl (by omega) (fun k => [.dt (.list (iD ns)), .dt (.list (lD L)), .dt (.int W), .no, .no, .dt (.list (iD (L.map (sizeF W)))), .dt (.int (j : Int)), .no, .no, .no]) (Wk.refl _) (fun _ => rfl) (Nat.le_of_ble_eq_true rfl) (fun k hk σ' F' H' S l => ?_) (fun σ' F' H' S l => ?_)
      · have oj := hF j hj
        have ok := hF k hk
        have o0 := hF 0 (by omega)
        have ej := at_lD hj
        have ek := at_lD hk
        have e0 : atI (lD L) 0 = some (pD (L.getD 0 z1)) := at_lD (k := 0) (by omega)
        have sj := hsa j hj
        have sk := hsa k hk
        have hjk := hls _ (getD_mem (d := z1) hj) _ (getD_mem (d := z1) hk)
        generalize L.getD j z1 = pj at *
        generalize L.getD k z1 = pk at *
        generalize L.getD 0 z1 = p0 at *
        refine q_asg S l (ev_call0 (r := .dt (.bool (lessB pj pk))) (av_cons (ev_ixL (ev_var rfl) (ev_var rfl) rfl ej) (av_cons (ev_ixL (ev_var rfl) (ev_var rfl) rfl ek) av_nil)) rfl ⟨_, _, rfl, oj.fr (by decide), ok.fr (by decide), rfl⟩) rfl rfl (Nat.le_of_ble_eq_true rfl) fun σ' F' H' S l => ?_ -- _law_found
        refine q_when S l (b := false) (.to (tv_or (b := false) (.to (tv_not (tv_B (ev_isi (ev_var rfl) rfl (kit_bool _)))) rfl) fun _ => .to (tv_test (ev_neT (α := Bool) (ev_var rfl) (ev_ib (ev_ixL (ev_var rfl) (ev_var rfl) rfl sj) (ev_ixL (ev_var rfl) (ev_var rfl) rfl sk)) rfl rfl)) (by rw [hjk]; exact nd_self _)) rfl) (fun hb => nomatch hb) (fun hb F' H' S => ?_)
        refine st_when S l (b := false) (.to (tv_test (ev_neT (α := Bool) (ev_call0 (r := .dt (.bool (lessB (sumF pj p0) (sumF pk p0)))) (av_cons (ev_call0 (av_cons (ev_ixL (ev_var rfl) (ev_var rfl) rfl ej) (av_cons (ev_ixL (ev_var rfl) ev_int rfl e0) av_nil)) rfl ⟨_, _, rfl, oj.fr (by decide), o0.fr (by decide), rfl⟩) (av_cons (ev_call0 (av_cons (ev_ixL (ev_var rfl) (ev_var rfl) rfl ek) (av_cons (ev_ixL (ev_var rfl) ev_int rfl e0) av_nil)) rfl ⟨_, _, rfl, ok.fr (by decide), o0.fr (by decide), rfl⟩) av_nil)) rfl ⟨_, _, rfl, (sum_ok oj o0).fr (by decide), (sum_ok ok o0).fr (by decide), rfl⟩) (ev_var rfl) rfl rfl)) (by rw [less_sum oj.pos ok.pos o0.pos]; exact nd_self _)) (fun hb => nomatch hb) (fun hb F' H' S => ?_)
        exact ⟨F', S.wk2 (.same rfl (.same rfl (.same rfl (.no (.no (.same rfl (.same rfl (.no (.no (.no .nil)))))))))), l⟩
      · exact ⟨F', S.wk2 (.same rfl (.same rfl (.same rfl (.no (.no (.same rfl (.no (.no (.no (.no .nil)))))))))), l⟩
    refine q_asg S l (.frz (ev_call0 (av_cons (ev_var rfl) av_nil) rfl ⟨L, rfl, by omega, fun p hp => (hL' p hp).fr (by decide), rfl⟩)) rfl rfl (Nat.le_of_ble_eq_true rfl) fun σ' F' H' S l => ?_ -- _law_row
    have hrl := rowF_len L
    have hrp := rowF_perm L
    have hrs := rowF_sorted L hls
    generalize rowF L = R at *
    have hps : (R.map (sizeF W)).Pairwise (· ≤ ·) := List.pairwise_map.mpr hrs
    refine st_ret S l (.toD (ev_eqT (α := List Int) (a := R.map (sizeF W)) (b := R.map (sizeF W)) (hcomp R _ 9 (fun p hp => hrp.mem_iff.mp hp) (by omega) rfl rfl rfl rfl) (ev_sortedI (ns := L.map (sizeF W)) (ev_var rfl) rfl (hrp.map _) hps) rfl rfl) ?_) rfl q
    rw [decide_eq_true rfl]
  · exact h.elim
end
theorem all_mk {l : PySem.W.OpenLaw} {w : World} {K : PySem.W.Frag} {h : Heap} {mg : Str → Option Value} {fa : Addr} (X : K.In h) (G : h.Ns mainGlobals mg) (hfa : mg "law" = some (.ref fa))
    {CN : Addr}
    (z_abs : PySem.W.nsIn K mainGlobals "abs" = some none)
    (z_bool : PySem.W.nsIn K mainGlobals "bool" = some none)
    (z_divmod : PySem.W.nsIn K mainGlobals "divmod" = some none)
    (z_int : PySem.W.nsIn K mainGlobals "int" = some none)
    (z_isinstance : PySem.W.nsIn K mainGlobals "isinstance" = some none)
    (z_len : PySem.W.nsIn K mainGlobals "len" = some none)
    (z_range : PySem.W.nsIn K mainGlobals "range" = some none)
    (z_sorted : PySem.W.nsIn K mainGlobals "sorted" = some none)
    (z_c_BadNumber : PySem.W.nsIn K mainGlobals "BadNumber" = some (some (.ref CN)))
    (z_k_BadNumber : PySem.W.keepIn K (.ref CN) = true)
    (z_x_BadNumber : PySem.W.excIn K CN [.type "ValueError", .type "Exception", .type "BaseException", .type "object"] "ValueError.__new__" = true)
    (z_b_BadNumber : PySem.W.subIn K (.ref CN) (.type "BaseException") = some true)
    (z_t_BadNumber : PySem.W.typeIn K (.ref CN) = some (.type "type"))
    {f_0 : Addr} {oc_0 kV_0 dc_0 pm_0 cd_0 ct_0 : Value} {od_0 an_0 : Option Addr} {sl_0 : Array (Option Value)}
    (a_0 : PySem.W.nsIn K mainGlobals "is_whole" = some (some (.ref f_0))) (l_0 : K.lookup f_0 = some ⟨oc_0, od_0, .func (PySem.W.fnOf "is_whole" "is_whole" (defArgs s_is_whole) (defBody s_is_whole) (defScope s_is_whole) .none kV_0 dc_0 pm_0 an_0 cd_0 ct_0), sl_0⟩) (c_0 : PySem.W.codeIn K cd_0 "is_whole" = true) (k_0 : PySem.W.keepIn K (.ref f_0) = true)
    {f_1 : Addr} {oc_1 kV_1 dc_1 pm_1 cd_1 ct_1 : Value} {od_1 an_1 : Option Addr} {sl_1 : Array (Option Value)}
    (a_1 : PySem.W.nsIn K mainGlobals "_law_mixed" = some (some (.ref f_1))) (l_1 : K.lookup f_1 = some ⟨oc_1, od_1, .func (PySem.W.fnOf "_law_mixed" "_law_mixed" (defArgs s__law_mixed) (defBody s__law_mixed) (defScope s__law_mixed) .none kV_1 dc_1 pm_1 an_1 cd_1 ct_1), sl_1⟩) (c_1 : PySem.W.codeIn K cd_1 "_law_mixed" = true) (k_1 : PySem.W.keepIn K (.ref f_1) = true)
    {f_2 : Addr} {oc_2 kV_2 dc_2 pm_2 cd_2 ct_2 : Value} {od_2 an_2 : Option Addr} {sl_2 : Array (Option Value)}
    (a_2 : PySem.W.nsIn K mainGlobals "_law_number" = some (some (.ref f_2))) (l_2 : K.lookup f_2 = some ⟨oc_2, od_2, .func (PySem.W.fnOf "_law_number" "_law_number" (defArgs s__law_number) (defBody s__law_number) (defScope s__law_number) .none kV_2 dc_2 pm_2 an_2 cd_2 ct_2), sl_2⟩) (c_2 : PySem.W.codeIn K cd_2 "_law_number" = true) (k_2 : PySem.W.keepIn K (.ref f_2) = true)
    {f_3 : Addr} {oc_3 kV_3 dc_3 pm_3 cd_3 ct_3 : Value} {od_3 an_3 : Option Addr} {sl_3 : Array (Option Value)}
    (a_3 : PySem.W.nsIn K mainGlobals "common" = some (some (.ref f_3))) (l_3 : K.lookup f_3 = some ⟨oc_3, od_3, .func (PySem.W.fnOf "common" "common" (defArgs s_common) (defBody s_common) (defScope s_common) .none kV_3 dc_3 pm_3 an_3 cd_3 ct_3), sl_3⟩) (c_3 : PySem.W.codeIn K cd_3 "common" = true) (k_3 : PySem.W.keepIn K (.ref f_3) = true)
    {f_4 : Addr} {oc_4 kV_4 dc_4 pm_4 cd_4 ct_4 : Value} {od_4 an_4 : Option Addr} {sl_4 : Array (Option Value)} {T_4 : Addr}
    (a_4 : PySem.W.nsIn K mainGlobals "need_number" = some (some (.ref f_4))) (l_4 : K.lookup f_4 = some ⟨oc_4, od_4, .func (PySem.W.fnOf "need_number" "need_number" (defArgs s_need_number) (defBody s_need_number) (defScope s_need_number) (.ref T_4) kV_4 dc_4 pm_4 an_4 cd_4 ct_4), sl_4⟩) (c_4 : PySem.W.codeIn K cd_4 "need_number" = true) (k_4 : PySem.W.keepIn K (.ref f_4) = true)
    (v_4 : DflV K (.ref T_4) [.non])
    {f_5 : Addr} {oc_5 kV_5 dc_5 pm_5 cd_5 ct_5 : Value} {od_5 an_5 : Option Addr} {sl_5 : Array (Option Value)} {T_5 : Addr}
    (a_5 : PySem.W.nsIn K mainGlobals "fraction" = some (some (.ref f_5))) (l_5 : K.lookup f_5 = some ⟨oc_5, od_5, .func (PySem.W.fnOf "fraction" "fraction" (defArgs s_fraction) (defBody s_fraction) (defScope s_fraction) (.ref T_5) kV_5 dc_5 pm_5 an_5 cd_5 ct_5), sl_5⟩) (c_5 : PySem.W.codeIn K cd_5 "fraction" = true) (k_5 : PySem.W.keepIn K (.ref f_5) = true)
    (v_5 : DflV K (.ref T_5) [.int 1])
    {f_6 : Addr} {oc_6 kV_6 dc_6 pm_6 cd_6 ct_6 : Value} {od_6 an_6 : Option Addr} {sl_6 : Array (Option Value)}
    (a_6 : PySem.W.nsIn K mainGlobals "sum_of" = some (some (.ref f_6))) (l_6 : K.lookup f_6 = some ⟨oc_6, od_6, .func (PySem.W.fnOf "sum_of" "sum_of" (defArgs s_sum_of) (defBody s_sum_of) (defScope s_sum_of) .none kV_6 dc_6 pm_6 an_6 cd_6 ct_6), sl_6⟩) (c_6 : PySem.W.codeIn K cd_6 "sum_of" = true) (k_6 : PySem.W.keepIn K (.ref f_6) = true)
    {f_7 : Addr} {oc_7 kV_7 dc_7 pm_7 cd_7 ct_7 : Value} {od_7 an_7 : Option Addr} {sl_7 : Array (Option Value)}
    (a_7 : PySem.W.nsIn K mainGlobals "is_less" = some (some (.ref f_7))) (l_7 : K.lookup f_7 = some ⟨oc_7, od_7, .func (PySem.W.fnOf "is_less" "is_less" (defArgs s_is_less) (defBody s_is_less) (defScope s_is_less) .none kV_7 dc_7 pm_7 an_7 cd_7 ct_7), sl_7⟩) (c_7 : PySem.W.codeIn K cd_7 "is_less" = true) (k_7 : PySem.W.keepIn K (.ref f_7) = true)
    {f_8 : Addr} {oc_8 kV_8 dc_8 pm_8 cd_8 ct_8 : Value} {od_8 an_8 : Option Addr} {sl_8 : Array (Option Value)}
    (a_8 : PySem.W.nsIn K mainGlobals "_law_made" = some (some (.ref f_8))) (l_8 : K.lookup f_8 = some ⟨oc_8, od_8, .func (PySem.W.fnOf "_law_made" "_law_made" (defArgs s__law_made) (defBody s__law_made) (defScope s__law_made) .none kV_8 dc_8 pm_8 an_8 cd_8 ct_8), sl_8⟩) (c_8 : PySem.W.codeIn K cd_8 "_law_made" = true) (k_8 : PySem.W.keepIn K (.ref f_8) = true)
    {f_9 : Addr} {oc_9 kV_9 dc_9 pm_9 cd_9 ct_9 : Value} {od_9 an_9 : Option Addr} {sl_9 : Array (Option Value)}
    (a_9 : PySem.W.nsIn K mainGlobals "_law_in_row" = some (some (.ref f_9))) (l_9 : K.lookup f_9 = some ⟨oc_9, od_9, .func (PySem.W.fnOf "_law_in_row" "_law_in_row" (defArgs s__law_in_row) (defBody s__law_in_row) (defScope s__law_in_row) .none kV_9 dc_9 pm_9 an_9 cd_9 ct_9), sl_9⟩) (c_9 : PySem.W.codeIn K cd_9 "_law_in_row" = true) (k_9 : PySem.W.keepIn K (.ref f_9) = true)
    {f_10 : Addr} {oc_10 kV_10 dc_10 pm_10 cd_10 ct_10 : Value} {od_10 an_10 : Option Addr} {sl_10 : Array (Option Value)}
    (a_10 : PySem.W.nsIn K mainGlobals "law" = some (some (.ref f_10))) (l_10 : K.lookup f_10 = some ⟨oc_10, od_10, .func (PySem.W.fnOf "law" "law" (defArgs s_law) (defBody s_law) (defScope s_law) .none kV_10 dc_10 pm_10 an_10 cd_10 ct_10), sl_10⟩) (c_10 : PySem.W.codeIn K cd_10 "law" = true) (k_10 : PySem.W.keepIn K (.ref f_10) = true)
    : ∃ fd : FuncData, (∀ (s : Shared) (v : Value), BindsTo s fd ⟨[v], []⟩ [("_law_script", v)]) ∧ ∀ base : Heap, K.In base → base.Ns mainGlobals mg → FnOk l.prog w K mg base (L2.CX l.prog w) 5 fa fd ["_law_script"] (spF K R_law noX) := by
  have e := hfa.symm.trans (PySem.W.mg_of X G a_10)
  cases e
  have T : Txt K mg CN := ⟨PySem.W.mg_none_of X G z_abs, PySem.W.mg_none_of X G z_bool, PySem.W.mg_none_of X G z_divmod, PySem.W.mg_none_of X G z_int, PySem.W.mg_none_of X G z_isinstance, PySem.W.mg_none_of X G z_len, PySem.W.mg_none_of X G z_range, PySem.W.mg_none_of X G z_sorted, PySem.W.mg_of X G z_c_BadNumber, z_k_BadNumber, z_x_BadNumber, z_b_BadNumber, z_t_BadNumber⟩
  have F_0 := fun_mk (st := s_is_whole) l_0 c_0 k_0
  have F_1 := fun_mk (st := s__law_mixed) l_1 c_1 k_1
  have F_2 := fun_mk (st := s__law_number) l_2 c_2 k_2
  have F_3 := fun_mk (st := s_common) l_3 c_3 k_3
  have F_4 : FunD K "need_number" "need_number" (defArgs s_need_number) (defBody s_need_number) (defScope s_need_number) [.non] [] f_4 _ := ⟨⟨_, _, _, _, _, _, _, _, _, _, rfl, l_4, c_4, v_4, .inl rfl⟩, k_4⟩
  have F_5 : FunD K "fraction" "fraction" (defArgs s_fraction) (defBody s_fraction) (defScope s_fraction) [.int 1] [] f_5 _ := ⟨⟨_, _, _, _, _, _, _, _, _, _, rfl, l_5, c_5, v_5, .inl rfl⟩, k_5⟩
  have F_6 := fun_mk (st := s_sum_of) l_6 c_6 k_6
  have F_7 := fun_mk (st := s_is_less) l_7 c_7 k_7
  have F_8 := fun_mk (st := s__law_made) l_8 c_8 k_8
  have F_9 := fun_mk (st := s__law_in_row) l_9 c_9 k_9
  have F_10 := fun_mk (st := s_law) l_10 c_10 k_10
  refine ⟨PySem.W.fnOf "law" "law" (defArgs s_law) (defBody s_law) (defScope s_law) .none kV_10 dc_10 pm_10 an_10 cd_10 ct_10, fun s v => .of_eq rfl, fun base _ _ => ?_⟩
  have O_0 := ok_is_whole (P := l.prog) (w := w) (base := base) F_0 T
  have d_is_whole : DefOk l.prog w K mg base 1 "is_whole" ["thing"] (spF K R_is_whole noX) [] := ⟨f_0, _, [], O_0, PySem.W.mg_of X G a_0, k_0, F_0.binds (ps := ["thing"]) fun _ _ _ _ _ _ us hl => match us, hl with | [_], _ => rfl, .nil⟩
  have O_1 := ok_mixed (P := l.prog) (w := w) (base := base) F_1 T
  have d__law_mixed : DefOk l.prog w K mg base 1 "_law_mixed" ["_law_number_here", "_law_k"] (spF K R_mixed noX) [] := ⟨f_1, _, [], O_1, PySem.W.mg_of X G a_1, k_1, F_1.binds (ps := ["_law_number_here", "_law_k"]) fun _ _ _ _ _ _ us hl => match us, hl with | [_, _], _ => rfl, .nil⟩
  have O_2 := ok_number (P := l.prog) (w := w) (base := base) F_2 T d__law_mixed
  have d__law_number : DefOk l.prog w K mg base 2 "_law_number" ["_law_script", "_law_k"] (spF K R_number noX) [] := ⟨f_2, _, [], O_2, PySem.W.mg_of X G a_2, k_2, F_2.binds (ps := ["_law_script", "_law_k"]) fun _ _ _ _ _ _ us hl => match us, hl with | [_, _], _ => rfl, .nil⟩
  have O_3 := ok_common (P := l.prog) (w := w) (base := base) F_3 T
  have d_common : DefOk l.prog w K mg base 1 "common" ["one", "other"] (spF K R_common noX) [] := ⟨f_3, _, [], O_3, PySem.W.mg_of X G a_3, k_3, F_3.binds (ps := ["one", "other"]) fun _ _ _ _ _ _ us hl => match us, hl with | [_, _], _ => rfl, .nil⟩
  have O_4 := ok_need_number (P := l.prog) (w := w) (base := base) F_4 T d_is_whole
  have d_need_number_2 : DefOk l.prog w K mg base 2 "need_number" ["thing", "least", "most"] (spF K R_need (X_need CN)) [.non] := by
    obtain ⟨ds, r, b⟩ := F_4.binds1 (ps := ["thing", "least", "most"]) 2 0 nofun rfl (fun T kV doc pm an cdv ct us its hu hi => match us, its, hu, hi with | [_, _], [_], _, _ => ⟨_, rfl, rfl⟩)
    exact ⟨f_4, _, ds, O_4, PySem.W.mg_of X G a_4, k_4, b, r⟩
  have O_5 := ok_fraction (P := l.prog) (w := w) (base := base) F_5 T d_is_whole d_need_number_2 d_common
  have d_fraction : DefOk l.prog w K mg base 3 "fraction" ["above", "below"] (spF K R_fraction (X_fraction CN)) [] := by
    obtain ⟨ds, r, b⟩ := F_5.binds1 (ps := ["above", "below"]) 2 1 nofun rfl (fun T kV doc pm an cdv ct us its hu hi => match us, its, hu, hi with | [_, _], [_], _, _ => ⟨_, rfl, rfl⟩)
    exact ⟨f_5, _, ds, O_5, PySem.W.mg_of X G a_5, k_5, b, r⟩
  have O_6 := ok_sum_of (P := l.prog) (w := w) (base := base) F_6 T d_fraction
  have d_sum_of : DefOk l.prog w K mg base 4 "sum_of" ["one", "other"] (spF K R_sum noX) [] := ⟨f_6, _, [], O_6, PySem.W.mg_of X G a_6, k_6, F_6.binds (ps := ["one", "other"]) fun _ _ _ _ _ _ us hl => match us, hl with | [_, _], _ => rfl, .nil⟩
  have O_7 := ok_is_less (P := l.prog) (w := w) (base := base) F_7 T
  have d_is_less : DefOk l.prog w K mg base 1 "is_less" ["one", "other"] (spF K R_less noX) [] := ⟨f_7, _, [], O_7, PySem.W.mg_of X G a_7, k_7, F_7.binds (ps := ["one", "other"]) fun _ _ _ _ _ _ us hl => match us, hl with | [_, _], _ => rfl, .nil⟩
  have O_8 := ok__law_made (P := l.prog) (w := w) (base := base) F_8 T d__law_number d_fraction
  have d__law_made : DefOk l.prog w K mg base 4 "_law_made" ["_law_script"] (spF K R_made noX) [] := ⟨f_8, _, [], O_8, PySem.W.mg_of X G a_8, k_8, F_8.binds (ps := ["_law_script"]) fun _ _ _ _ _ _ us hl => match us, hl with | [_], _ => rfl, .nil⟩
  have O_9 := ok__law_in_row (P := l.prog) (w := w) (base := base) F_9 T d_is_less
  have d__law_in_row : DefOk l.prog w K mg base 2 "_law_in_row" ["_law_made_here"] (spF K R_row noX) [] := ⟨f_9, _, [], O_9, PySem.W.mg_of X G a_9, k_9, F_9.binds (ps := ["_law_made_here"]) fun _ _ _ _ _ _ us hl => match us, hl with | [_], _ => rfl, .nil⟩
  exact ok_law F_10 T d__law_made d_is_less d_sum_of d__law_in_row
theorem walk {l : PySem.W.OpenLaw} {q : Program} {loose : List Str} {XP : (Str → Option Value) → Heap → Prop} {YP : World → Heap → Prop} {d : DefRec} {K : Params → PySem.W.Frag} (hn : l.most = some 63) (hdf : d.params.defaults = [])
    (hY : ∀ (w : World) (h : Heap), YP w h → (K w.params).In h)
    (F : ∀ (w : World) (mg : Str → Option Value) (fa : Addr) (h : Heap), (K w.params).In h → h.Ns mainGlobals mg → mg d.name = some (.ref fa) →
      ∃ fd : FuncData, (∀ (s : Shared) (u : Value), BindsTo s fd ⟨[u], []⟩ [("_law_script", u)]) ∧ ∀ base : Heap, (K w.params).In base → base.Ns mainGlobals mg → FnOk l.prog w (K w.params) mg base (L2.CX l.prog w) 5 fa fd ["_law_script"] (spF (K w.params) R_law noX)) :
    PySem.W.WalkO q loose XP YP l.row.toRowW d [] (fun f vs => PySem.call f vs) :=
  L2.walk_of (n := 63) (k := 5) (x := "_law_script") (CX := fun w => L2.CX l.prog w) (sp := fun w => spF (K w.params) R_law noX) hn (by decide) hdf ⟨rfl, by decide, by decide⟩ hY F (fun w H a ns hl _ hS => ⟨H, [.list (iD ns)], Ex.refl H, .cons (.lst hS ints_dp) .nil, .inl ⟨_, ⟨ns, rfl, hl, rfl⟩, law_ret (Ex.refl H)⟩⟩) fun w H s e s1 c => cx_none c
end K03
open PySem PySem.W PyProof.Rows L2 Fh
set_option maxRecDepth 100000 in
set_option maxHeartbeats 0 in
theorem PySem.Challenge.cw_findhall_k03_order_of_fractions_holds : PySem.Challenge.rw_findhall_k03_order_of_fractions.Holds := by
  w_on; o_law; k_head; (case hw => w_witness2)
  k_fill
  refine K03.walk (l := PySem.Challenge.rw_findhall_k03_order_of_fractions) rfl rfl (fun w h Y => PySem.W.kIn_of Y) ?F
  case F =>
    intro w mg fa h KX G hmg
    refine' K03.all_mk KX G hmg ?z_abs ?z_bool ?z_divmod ?z_int ?z_isinstance ?z_len ?z_range ?z_sorted ?z_c_BadNumber ?z_k_BadNumber ?z_x_BadNumber ?z_b_BadNumber ?z_t_BadNumber ?a_0 ?l_0 ?c_0 ?k_0 ?a_1 ?l_1 ?c_1 ?k_1 ?a_2 ?l_2 ?c_2 ?k_2 ?a_3 ?l_3 ?c_3 ?k_3 ?a_4 ?l_4 ?c_4 ?k_4 ?v_4 ?a_5 ?l_5 ?c_5 ?k_5 ?v_5 ?a_6 ?l_6 ?c_6 ?k_6 ?a_7 ?l_7 ?c_7 ?k_7 ?a_8 ?l_8 ?c_8 ?k_8 ?a_9 ?l_9 ?c_9 ?k_9 ?a_10 ?l_10 ?c_10 ?k_10
    (case z_abs => k_is)
    (case z_bool => k_is)
    (case z_divmod => k_is)
    (case z_int => k_is)
    (case z_isinstance => k_is)
    (case z_len => k_is)
    (case z_range => k_is)
    (case z_sorted => k_is)
    (case z_c_BadNumber => k_is)
    (case z_k_BadNumber => k_is)
    (case z_x_BadNumber => k_exc)
    (case z_b_BadNumber => k_is)
    (case z_t_BadNumber => k_is)
    (case a_0 => k_is)
    (case l_0 => k_is)
    (case c_0 => k_is)
    (case k_0 => k_is)
    (case a_1 => k_is)
    (case l_1 => k_is)
    (case c_1 => k_is)
    (case k_1 => k_is)
    (case a_2 => k_is)
    (case l_2 => k_is)
    (case c_2 => k_is)
    (case k_2 => k_is)
    (case a_3 => k_is)
    (case l_3 => k_is)
    (case c_3 => k_is)
    (case k_3 => k_is)
    (case a_4 => k_is)
    (case l_4 => k_is)
    (case c_4 => k_is)
    (case k_4 => k_is)
    (case v_4 => exact .inr ⟨nofun, _, _, _, _, rfl, by k_is, rfl, (.cons rfl .nil)⟩)
    (case a_5 => k_is)
    (case l_5 => k_is)
    (case c_5 => k_is)
    (case k_5 => k_is)
    (case v_5 => exact .inr ⟨nofun, _, _, _, _, rfl, by k_is, rfl, (.cons ⟨_, rfl⟩ .nil)⟩)
    (case a_6 => k_is)
    (case l_6 => k_is)
    (case c_6 => k_is)
    (case k_6 => k_is)
    (case a_7 => k_is)
    (case l_7 => k_is)
    (case c_7 => k_is)
    (case k_7 => k_is)
    (case a_8 => k_is)
    (case l_8 => k_is)
    (case c_8 => k_is)
    (case k_8 => k_is)
    (case a_9 => k_is)
    (case l_9 => k_is)
    (case c_9 => k_is)
    (case k_9 => k_is)
    (case a_10 => k_is)
    (case l_10 => k_is)
    (case c_10 => k_is)
    (case k_10 => k_is)
