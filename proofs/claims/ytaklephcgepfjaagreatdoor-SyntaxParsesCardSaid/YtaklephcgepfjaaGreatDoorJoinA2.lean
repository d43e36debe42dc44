/- Plain Lean: rounds enough for the reference's parser. -/
import Derived.Test.YtaklephcgepfjaaGreatDoorJoinA1
import Derived.Test.YtaklephcgepfjaaGreatDoorProg
import Derived.WalkKit
import Derived.Deep.Draws
import Derived.StillTailTactics
import Derived.Deep.QuietTactic
import Derived.BigQuiet
import Derived.WalkLawsBesides
import Derived.Lib.Hide
import Derived.RegionTactic
import Derived.BigCall
import Derived.Shelf.Strings.Search1
import Derived.Shelf.Strings.Runes
import Derived.Deep.DeepMust
import Derived.Deep.LoopGhost
import Derived.Lib.IndexBytes
import Derived.Deep.Cut
set_option linter.unusedVariables false
set_option linter.unusedSimpArgs false
set_option linter.all false

namespace Go.Proofs.YtaklephcgepfjaaGreatDoor

/-- Failed, or as a state of the program's parser, at token k or further, d deep. -/
def Gd (T : List Tk) (k : Nat) (d : Int) (s : RS) : Prop := Failed T s ∨ ∃ p : PS, s = ofPS p ∧ k ≤ p.i ∧ p.i ≤ T.length ∧ p.deep = d ∧ 0 ≤ d ∧ d ≤ 20

section
variable {T : List Tk} {en : Int} {k l : Nat} {d : Int} {s s1 : RS}

theorem Gd.mono (h : Gd T k d s) (hk : l ≤ k) : Gd T l d s := by
  rcases h with h | ⟨p, h1, h2, h3⟩
  · exact .inl h
  · exact .inr ⟨p, h1, by omega, h3⟩

theorem Gd.take (h : Gd T k d s) (x : ByteArray) : Gd T (k + 1) d (takeR T en x s) := by
  rcases h with h | ⟨p, rfl, h2, h3, h4⟩
  · rw [h.take]; exact .inl h
  · have o := take_of (en := en) h3 x
    cases ho : takeP T en x p with
    | ok b p1 =>
      rw [ho] at o
      obtain ⟨e1, rfl, e3⟩ := o
      exact .inr ⟨_, e1, by simp only [stepP]; omega, by simp only [stepP]; omega, h4⟩
    | bad c q => rw [ho] at o; exact .inl o.failed
    | out => rw [ho] at o; exact o.elim

theorem Gd.name (h : Gd T k d s) : Gd T (k + 1) d (nameR T en s) := by
  rcases h with h | ⟨p, rfl, h2, h3, h4⟩
  · rw [h.name]; exact .inl h
  · have o := name_of (en := en) h3
    cases ho : nameP T en p with
    | ok b p1 =>
      rw [ho] at o
      obtain ⟨e1, _, rfl, e3⟩ := o
      exact .inr ⟨_, e1, by simp only [stepP]; omega, by simp only [stepP]; omega, h4⟩
    | bad c q => rw [ho] at o; exact .inl o.failed
    | out => rw [ho] at o; exact o.elim

theorem Gd.open' (h : Gd T k d s) (x : ByteArray) : Gd T (k + 1) (d + 1) (openR T en x s) := by
  rcases h with h | ⟨p, rfl, h2, h3, h4, h5, h6⟩
  · exact .inl ((h.open' x).failed h)
  · have o := open_of (en := en) h3 (by omega) (by omega) x
    cases ho : openP T en x p with
    | ok b p1 =>
      rw [ho] at o
      obtain ⟨e1, rfl, e3, e4⟩ := o
      exact .inr ⟨_, e1, by simp only [stepP]; omega, by simp only [stepP]; omega, by simp only; omega, by omega, by omega⟩
    | bad c q => rw [ho] at o; exact .inl o.failed
    | out => rw [ho] at o; exact o.elim

theorem Gd.shut (h : Gd T k d s) (hd : 1 ≤ d) (x : ByteArray) : Gd T (k + 1) (d - 1) (shutR T en x s) := by
  rcases h with h | ⟨p, rfl, h2, h3, h4, h5, h6⟩
  · exact .inl ((h.shut x).failed h)
  · have o := shut_of (en := en) h3 (by omega) (by omega) x
    cases ho : shutP T en x p with
    | ok b p1 =>
      rw [ho] at o
      obtain ⟨e1, rfl, e3⟩ := o
      exact .inr ⟨_, e1, by simp only [stepP]; omega, by simp only [stepP]; omega, by simp only; omega, by omega, by omega⟩
    | bad c q => rw [ho] at o; exact .inl o.failed
    | out => rw [ho] at o; exact o.elim

theorem Gd.node (h : Gd T k d s) (n : Nd) : Gd T k d (nodeR n s) := by
  rcases h with h | ⟨p, rfl, h2⟩
  · exact .inl ⟨h.f, h.i⟩
  · exact .inr ⟨{ p with nodes := p.nodes ++ [n] }, rfl, h2⟩

theorem Gd.run (hT : TokOk T) {n : Nat} {nt : Nt} {b : Int} (h : Gd T k d s) (hr : runR T en n nt s = some (b, s1)) (hn : k ≤ T.length → 20 * (T.length - k) + nt.rank ≤ n) (hd : nt.less ≤ d) (h4 : ∀ k, nt = .expr k → k ≤ 5) (h5 : ∀ k l, nt = .exprL k l → k ≤ 4) :
    Gd T (k + nt.gain) (d - nt.less) s1 := by
  rcases h with h | ⟨p, rfl, g2, g3, g4, g5, g6⟩
  · exact .inl ((runR_failed _ _ _ _ _ h hr).failed h)
  · have R := rel_run hT n nt p b s1 g3 (by omega) (by omega) h4 h5 hr
    have N := runP_ne (en := en) n nt p g3 (by have := hn (by omega); omega) h4 h5
    cases hp : runP T en n nt p with
    | ok c p2 =>
      rw [hp] at R
      obtain ⟨_, rfl⟩ := R
      have A := runP_adv n _ _ _ _ g3 hp
      have A1 := A.deep
      have A3 := A.le
      have : 0 ≤ nt.less := by cases nt <;> simp [Nt.less]
      exact .inr ⟨p2, rfl, by omega, A.top, by omega, by omega, by omega⟩
    | bad c q => rw [hp] at R; exact .inl R.fell.failed
    | out => exact absurd hp N

theorem runR_some (hT : TokOk T) (n : Nat) : ∀ (nt : Nt) (s : RS) (k : Nat) (d : Int), Gd T k d s → 0 ≤ d → nt.less ≤ d → (k ≤ T.length → 20 * (T.length - k) + nt.rank + 10 ≤ n) → nt.fr ≤ n → (∀ k, nt = .expr k → k ≤ 5) → (∀ k l, nt = .exprL k l → k ≤ 4) →
    ∃ a s', runR T en n nt s = some (a, s') := by
  induction n with
  | zero =>
    intro nt s k d g1 g2 g3 g4 h h4 h5
    cases nt <;> simp only [Nt.fr] at h <;> first | omega | (rename_i k; have := h4 k rfl; omega)
  | succ n ih =>
    intro nt s k d hg d0 dl hn hf h4 h5
    have GO : ∀ (nt : Nt) (s : RS) (k : Nat) (d : Int) (g : Int → RS → Option (Int × RS)), Gd T k d s → 0 ≤ d → nt.less ≤ d → (k ≤ T.length → 20 * (T.length - k) + nt.rank + 10 ≤ n) → nt.fr ≤ n → (∀ k, nt = .expr k → k ≤ 5) → (∀ k l, nt = .exprL k l → k ≤ 4) →
        (∀ b s1, Gd T (k + nt.gain) (d - nt.less) s1 → ∃ a s', g b s1 = some (a, s')) → ∃ a s', bindR (runR T en n nt s) g = some (a, s') := fun nt s k d g h1 h2 h3 h4 h5 h6 h7 h8 =>
      bindR_some' (ih nt s k d h1 h2 h3 h4 h5 h6 h7) (fun b s1 e => h8 b s1 (Gd.run hT h1 e (by omega) h3 h6 h7))
    rcases hg with hg | ⟨p, rfl, g2, g3, g4, g5, g6⟩
    · exact some_failed _ _ _ hg hf h4
    have hn := hn (by omega)
    have hg : Gd T p.i d (ofPS p) := .inr ⟨p, rfl, Nat.le_refl _, g3, g4, g5, g6⟩
    have hn2 : 20 * (T.length - p.i) + nt.rank + 10 ≤ n + 1 := by omega
    clear hn g2
    have X5 : ∀ k, Nt.expr 0 = .expr k → k ≤ 5 := by intro k e; injection e; omega
    cases nt with
    | expr k =>
      have hk := h4 k rfl
      simp only [Nt.fr, Nt.rank] at hf hn2
      unfold runR
      split
      · exact ih .unary _ p.i d hg d0 (by simp [Nt.less, d0]) (by simp only [Nt.rank]; omega) (by simp only [Nt.fr]; omega) (by simp) (by simp)
      · refine GO _ _ p.i d _ hg d0 (by simp [Nt.less, d0]) (by simp only [Nt.rank]; omega) (by simp only [Nt.fr]; omega) (by intro k' e; injection e; omega) (by simp) (fun b s1 e => ?_)
        simp only [Nt.gain, Nt.less, Int.sub_zero, Nat.add_zero] at e
        exact ih _ s1 p.i d e d0 (by simp [Nt.less, d0]) (by simp only [Nt.rank]; omega) (by simp only [Nt.fr]; omega) (by simp) (by intro k' l e; injection e; omega)
    | exprL k left =>
      have hk := h5 k left rfl
      simp only [Nt.fr, Nt.rank] at hf hn2
      unfold runR
      split
      · rename_i hq
        rw [lvl_of hT k hk] at hq
        have hi := isP_lt hq.2
        rw [stepR_of]
        have hg1 : Gd T (p.i + 1) d (ofPS (stepP p)) := .inr ⟨_, rfl, by simp only [stepP]; omega, by simp only [stepP]; omega, g4, g5, g6⟩
        refine GO _ _ (p.i + 1) d _ hg1 d0 (by simp [Nt.less, d0]) (by simp only [Nt.rank]; omega) (by simp only [Nt.fr]; omega) (by intro k' e; injection e; omega) (by simp) (fun b s1 e => ?_)
        simp only [Nt.gain, Nt.less, Int.sub_zero, Nat.add_zero] at e
        simp only [putR, bindR_some]
        exact ih _ _ (p.i + 1) d (e.node _) d0 (by simp [Nt.less, d0]) (by simp only [Nt.rank]; omega) (by simp only [Nt.fr]; omega) (by simp) (by intro k' l e; injection e; omega)
      · exact ⟨_, _, rfl⟩
    | unary =>
      simp only [Nt.fr, Nt.rank] at hf hn2
      unfold runR
      split
      · rename_i hq
        have hi : p.i < T.length := by
          rw [isR_of, isR_of] at hq
          rcases Bool.or_eq_true_iff.1 hq with e | e <;> exact isP_lt e
        have ho : ∀ x, (openR T en x (ofPS p)).fc ≠ 0 ∨ Gd T (p.i + 1) (d + 1) (openR T en x (ofPS p)) := fun x => .inr (hg.open' x)
        have go : ∀ x (kd : Int), ∃ a s', (if (openR T en x (ofPS p)).fc ≠ 0 then some (0, openR T en x (ofPS p)) else bindR (runR T en n .unary (openR T en x (ofPS p))) fun k s2 => putR kd (posR T en (ofPS p)) 0 ByteArray.empty [k] { s2 with deep := RowKit.wrap64 (s2.deep - 1) }) = some (a, s') := by
          intro x kd
          split
          · exact ⟨_, _, rfl⟩
          · exact bindR_some' (ih .unary _ (p.i + 1) (d + 1) (hg.open' x) (by omega) (by simp [Nt.less]; omega) (by simp only [Nt.rank]; omega) (by simp only [Nt.fr]; omega) (by simp) (by simp)) (fun b s1 e => ⟨_, _, rfl⟩)
        by_cases hb : isR T ((⟨#[33]⟩ : ByteArray)) (ofPS p) = true
        · simp only [hb, if_true]
          exact go _ _
        · simp only [hb, if_false]
          exact go _ _
      · split
        · exact ih .held _ p.i d hg d0 (by simp [Nt.less, d0]) (by simp only [Nt.rank]; omega) (by simp only [Nt.fr]; omega) (by simp) (by simp)
        · split
          · exact ⟨_, _, rfl⟩
          · exact ⟨_, _, rfl⟩
    | held =>
      simp only [Nt.fr, Nt.rank] at hf hn2
      unfold runR
      exact GO _ _ (p.i + 1) (d + 1) _ (hg.open' _) (by omega) (by simp [Nt.less]; omega) (by simp only [Nt.rank]; omega) (by simp only [Nt.fr]; omega) X5 (by simp) (fun b s1 e => ⟨_, _, rfl⟩)
    | block =>
      simp only [Nt.fr, Nt.rank] at hf hn2
      unfold runR
      exact ih _ _ (p.i + 1) (d + 1) (hg.open' _) (by omega) (by simp [Nt.less]; omega) (by simp only [Nt.rank]; omega) (by simp only [Nt.fr]; omega) (by simp) (by simp)
    | blockL pos kids =>
      simp only [Nt.fr, Nt.rank, Nt.less] at hf hn2 dl
      unfold runR
      split
      · exact ⟨_, _, rfl⟩
      · refine GO _ _ p.i d _ hg d0 (by simp [Nt.less, d0]) (by simp only [Nt.rank]; omega) (by simp only [Nt.fr]; omega) (by simp) (by simp) (fun b s1 e => ?_)
        simp only [Nt.gain, Nt.less, Int.sub_zero] at e
        exact ih _ s1 (p.i + 1) d e d0 dl (by simp only [Nt.rank]; omega) (by simp only [Nt.fr]; omega) (by simp) (by simp)
    | stmt =>
      simp only [Nt.fr, Nt.rank] at hf hn2
      have L0 : Nt.less .held ≤ d ∧ Nt.less .block ≤ d ∧ Nt.less (.expr 0) ≤ d := by simp [Nt.less, d0]
      unfold runR
      dsimp only
      split
      · exact GO _ _ (p.i + 1 + 1 + 1) d _ (((hg.take _).name).take _) d0 L0.2.2 (by simp only [Nt.rank]; omega) (by simp only [Nt.fr]; omega) X5 (by simp) (fun b s1 e => ⟨_, _, rfl⟩)
      split
      · refine GO _ _ (p.i + 1) d _ (hg.take _) d0 L0.1 (by simp only [Nt.rank]; omega) (by simp only [Nt.fr]; omega) (by simp) (by simp) (fun b s1 e => ?_)
        simp only [Nt.gain, Nt.less, Int.sub_zero, Nat.add_zero] at e
        refine GO _ _ (p.i + 1) d _ e d0 L0.2.1 (by simp only [Nt.rank]; omega) (by simp only [Nt.fr]; omega) (by simp) (by simp) (fun b s1 e => ?_)
        simp only [Nt.gain, Nt.less, Int.sub_zero, Nat.add_zero] at e
        split
        · exact GO _ _ (p.i + 1 + 1) d _ (e.take _) d0 L0.2.1 (by simp only [Nt.rank]; omega) (by simp only [Nt.fr]; omega) (by simp) (by simp) (fun b s1 e => ⟨_, _, rfl⟩)
        · exact ⟨_, _, rfl⟩
      split
      · refine GO _ _ (p.i + 1) d _ (hg.take _) d0 L0.1 (by simp only [Nt.rank]; omega) (by simp only [Nt.fr]; omega) (by simp) (by simp) (fun b s1 e => ?_)
        simp only [Nt.gain, Nt.less, Int.sub_zero, Nat.add_zero] at e
        exact GO _ _ (p.i + 1) d _ e d0 L0.2.1 (by simp only [Nt.rank]; omega) (by simp only [Nt.fr]; omega) (by simp) (by simp) (fun b s1 e => ⟨_, _, rfl⟩)
      split
      · exact GO _ _ (p.i + 1) d _ (hg.take _) d0 L0.1 (by simp only [Nt.rank]; omega) (by simp only [Nt.fr]; omega) (by simp) (by simp) (fun b s1 e => ⟨_, _, rfl⟩)
      split
      · exact ⟨_, _, rfl⟩
      split
      · exact ⟨_, _, rfl⟩
      unfold assignR
      dsimp only
      have h2 := (hg.name (en := en)).take (en := en) ((⟨#[61]⟩ : ByteArray))
      split
      · simp only [putR, bindR_some]
        have h3 := ((((h2.take (en := en) ((⟨#[99, 97, 115]⟩ : ByteArray))).open' (en := en) ((⟨#[40]⟩ : ByteArray))).name (en := en)).node ⟨16, 0, posR T en (openR T en ((⟨#[40]⟩ : ByteArray)) (takeR T en ((⟨#[99, 97, 115]⟩ : ByteArray)) (takeR T en ((⟨#[61]⟩ : ByteArray)) (nameR T en (ofPS p))))), nameT T (openR T en ((⟨#[40]⟩ : ByteArray)) (takeR T en ((⟨#[99, 97, 115]⟩ : ByteArray)) (takeR T en ((⟨#[61]⟩ : ByteArray)) (nameR T en (ofPS p))))), []⟩).take (en := en) ((⟨#[44]⟩ : ByteArray))
        refine GO _ _ _ (d + 1) _ h3 (by omega) (by simp [Nt.less]; omega) (by simp only [Nt.rank]; omega) (by simp only [Nt.fr]; omega) X5 (by simp) (fun b s1 e => ?_)
        simp only [Nt.gain, Nt.less, Int.sub_zero, Nat.add_zero] at e
        exact GO _ _ _ (d + 1) _ (e.take _) (by omega) (by simp [Nt.less]; omega) (by simp only [Nt.rank]; omega) (by simp only [Nt.fr]; omega) X5 (by simp) (fun b s1 e => ⟨_, _, rfl⟩)
      · exact GO _ _ _ d _ h2 d0 L0.2.2 (by simp only [Nt.rank]; omega) (by simp only [Nt.fr]; omega) X5 (by simp) (fun b s1 e => ⟨_, _, rfl⟩)

end

end Go.Proofs.YtaklephcgepfjaaGreatDoor

/- How memory turns in the walks of this claim: 'Upd w X w' X'': w' is w but for the blocks of X and new blocks. -/
namespace Go.Proofs.YtaklephcgepfjaaGreatDoor
open Go.RowKit

/-- w' is w but for blocks of X, and new ones; X' holds of X and of new ones alone. -/
structure Upd (w : World) (X : Nat → Prop) (w' : World) (X' : Nat → Prop) : Prop where
  os : w'.os = w.os
  tape : w'.tape = w.tape
  output : w'.output = w.output
  size : w.heap.size ≤ w'.heap.size
  block : ∀ k, k < w.heap.size → ¬ X k → w'.heap[k]? = w.heap[k]?
  sub : ∀ k, X' k → X k ∨ w.heap.size ≤ k

theorem Upd.refl (w : World) (X : Nat → Prop) : Upd w X w X := ⟨rfl, rfl, rfl, Nat.le_refl _, fun _ _ _ => rfl, fun _ h => .inl h⟩

theorem Upd.trans {w w1 w2 : World} {X X1 X2 : Nat → Prop} (h : Upd w X w1 X1) (h' : Upd w1 X1 w2 X2) : Upd w X w2 X2 :=
  ⟨h'.os.trans h.os, h'.tape.trans h.tape, h'.output.trans h.output, Nat.le_trans h.size h'.size,
    fun k hk hx => (h'.block k (Nat.lt_of_lt_of_le hk h.size) (fun hx1 => by rcases h.sub k hx1 with h1 | h1 <;> first | exact hx h1 | omega)).trans (h.block k hk hx),
    fun k hk => by
      rcases h'.sub k hk with h1 | h1
      · exact h.sub k h1
      · exact .inr (Nat.le_trans h.size h1)⟩

/-- Another set of blocks at the end. -/
theorem Upd.to {w w1 : World} {X X1 X2 : Nat → Prop} (h : Upd w X w1 X1) (hs : ∀ k, X2 k → X k ∨ w.heap.size ≤ k) : Upd w X w1 X2 :=
  ⟨h.os, h.tape, h.output, h.size, h.block, hs⟩

/-- More may turn. -/
theorem Upd.more {w w1 : World} {X X1 Y : Nat → Prop} (h : Upd w X w1 X1) (hs : ∀ k, X k → Y k) : Upd w Y w1 X1 :=
  ⟨h.os, h.tape, h.output, h.size, fun k hk hy => h.block k hk (fun hx => hy (hs k hx)), fun k hk => (h.sub k hk).imp (hs k) id⟩

theorem Upd.drew {w w1 : World} {X X1 : Nat → Prop} (h : Upd w X w1 X1) : Upd w X w1.drew X1 := ⟨h.os, h.tape, h.output, h.size, h.block, h.sub⟩
theorem Upd.drewN {w w1 : World} {X X1 : Nat → Prop} (h : Upd w X w1 X1) (n : Nat) : Upd w X (w1.drewN n) X1 := ⟨h.os, h.tape, h.output, h.size, h.block, h.sub⟩

theorem Upd.alloc {w w1 : World} {X X1 : Nat → Prop} (h : Upd w X w1 X1) (o : Obj) : Upd w X (w1.alloc o) X1 :=
  ⟨h.os, h.tape, h.output, by have := h.size; simp; omega, fun k hk hx => (Below.heap_alloc _ _ _ (by have := h.size; omega)).trans (h.block k hk hx), h.sub⟩

theorem Upd.setCell {w w1 : World} {X X1 : Nat → Prop} (h : Upd w X w1 X1) {a : Addr} (ha : X a.block ∨ w.heap.size ≤ a.block) (v : Value) : Upd w X (w1.setCell a v) X1 :=
  ⟨h.os, h.tape, h.output, by have := h.size; simp only [World.setCell, Array.size_modify]; omega,
    fun k hk hx => (Below.heap_setCell _ _ _ _ (fun e => by subst e; rcases ha with h1 | h1 <;> first | exact hx h1 | omega)).trans (h.block k hk hx), h.sub⟩

theorem Upd.grown {w w1 w2 : World} {X X1 : Nat → Prop} {row : Option Nat} (h : Upd w X w1 X1) (hg : w1.grownBy w2 row) (hr : ∀ k, row = some k → X k ∨ w.heap.size ≤ k) : Upd w X w2 X1 :=
  ⟨hg.os.trans h.os, hg.tape.trans h.tape, hg.output.trans h.output, Nat.le_trans h.size hg.size,
    fun k hk hx => (hg.block k (by have := h.size; omega) (fun e => by rcases hr k e.symm with h1 | h1 <;> first | exact hx h1 | omega)).trans (h.block k hk hx), h.sub⟩

theorem Upd.below {w w1 : World} {X X1 : Nat → Prop} (h : Upd w X w1 X1) {B : Nat} (hB : B ≤ w.heap.size) (hX : ∀ k, X k → B ≤ k) : Below B w w1 :=
  ⟨h.os, h.tape, h.output, h.size, fun k hk => h.block k (by omega) (fun hx => by have := hX k hx; omega)⟩

theorem Upd.of_below {w w1 : World} (h : Below w.heap.size w w1) : Upd w (fun _ => False) w1 (fun _ => False) :=
  ⟨h.os, h.tape, h.output, h.size, fun k hk _ => h.block k hk, fun _ h => h.elim⟩

/-- What a block that is not X's holds. -/
theorem Upd.keep {w w1 : World} {X X1 : Nat → Prop} (h : Upd w X w1 X1) {k : Nat} {o : Obj} (hk : w.heap[k]? = some o) (hx : ¬ X k) : w1.heap[k]? = some o :=
  (h.block k (Array.getElem?_eq_some_iff.1 hk).1 hx).trans hk

theorem Upd.notIn {w w1 : World} {X X1 : Nat → Prop} (h : Upd w X w1 X1) {k : Nat} (hk : k < w.heap.size) (hx : ¬ X k) : ¬ X1 k := fun h1 => by
  rcases h.sub k h1 with h2 | h2
  · exact hx h2
  · omega

theorem Upd.cell {w w1 : World} {X X1 : Nat → Prop} (h : Upd w X w1 X1) {a : Addr} (hk : a.block < w.heap.size) (hx : ¬ X a.block) : w1.cell? a = w.cell? a :=
  World.cell?_of_block (h.block a.block hk hx)

theorem Upd.frozen {w w1 : World} {X X1 : Nat → Prop} (h : Upd w X w1 X1) {a : Addr} (hk : a.block < w.heap.size) (hx : ¬ X a.block) : w1.frozen? a = w.frozen? a :=
  World.frozen?_of_block (h.block a.block hk hx)

/-- An owned row is where it was. -/
theorem Upd.ownsRow {w w1 : World} {X X1 : Nat → Prop} (h : Upd w X w1 X1) {base : Nat} {e : TypeId} {size n : Nat} {v : Value} {xs : List Value} (ho : w.ownsRow base e size v n xs)
    (hx : ∀ g, v.ownBlock = some g → ¬ X g) : w1.ownsRow base e size v n xs := by
  refine ⟨ho.1, ?_⟩
  rcases ho.2 with hn | ⟨g, cap, cur, rfl, hb, hg, rest⟩
  · exact .inl hn
  · exact .inr ⟨g, cap, cur, rfl, hb, h.keep hg (hx g rfl), rest⟩

abbrev NO : Nat → Prop := fun _ => False

/-- Behind an update new blocks alone turn. -/
theorem Upd.fresh {w w1 w2 : World} {X X1 Y : Nat → Prop} (h : Upd w X w1 X1) (u : Upd w1 NO w2 Y) : Upd w X w2 X1 :=
  ⟨u.os.trans h.os, u.tape.trans h.tape, u.output.trans h.output, Nat.le_trans h.size u.size, fun k hk hx => (u.block k (by have := h.size; omega) id).trans (h.block k hk hx), h.sub⟩

/-- New blocks first, then an update. -/
theorem Upd.behind {w w1 w2 : World} {X X1 Y : Nat → Prop} (h : Upd w NO w1 Y) (u : Upd w1 X w2 X1) : Upd w X w2 X1 :=
  ⟨u.os.trans h.os, u.tape.trans h.tape, u.output.trans h.output, Nat.le_trans h.size u.size, fun k hk hx => (u.block k (by have := h.size; omega) hx).trans (h.block k hk id),
    fun k hk => (u.sub k hk).imp id (fun h1 => Nat.le_trans h.size h1)⟩

theorem blk_new {w : World} {b : Nat} {o : Obj} (h : b = w.heap.size) : (w.alloc o).heap[b]? = some o := by rw [h]; exact heap_alloc_new w o

/-- The world gets a name: what is known of it is I. -/
theorem wp_gen {P : Program} {c : Code} {Q : Exit → Act → World → Prop} {a : Act} {w : World} (I : World → Prop) (hw : I w) (h : ∀ W, I W → c.wp P Q a W) : c.wp P Q a w := h w hw
theorem wpList_gen {P : Program} {ops : Array Oper} {l : List Oper} {Q : Exit → Act → World → Prop} {a : Act} {w : World} (I : World → Prop) (hw : I w) (h : ∀ W, I W → wpList P ops Q l a W) : wpList P ops Q l a w := h w hw

/-- A region that draws its order and ends in a forced tail: the world gets a name. -/
theorem wp_tail {P : Program} {id : Nat} {Q : Exit → Act → World → Prop} {a : Act} {w : World} {l : List Oper} (n : Nat) (hm : P.follows .mixedOrders = true) (hB : Region.lexTailB .any l.toArray n = true)
    (I : World → Prop) (hI : I w.drew) (h : ∀ W, I W → wpStill P l.toArray W (fun a' => wpList P l.toArray Q (l.drop n) a' W) (l.take n) a) : (Code.region id l.toArray true).wp P Q a w :=
  wp_region_still_tail n hm hB (h _ hI)

theorem ret_bool {a b : Bool} (h : a = b) : Ending.returned (.bool a) = .returned (.bool b) := by rw [h]
theorem ret_int {k : IntKind} {a b : Int} (h : a = b) : Ending.returned (.int k a) = .returned (.int k b) := by rw [h]

/-- A block of cells known whole: its cells, and that none is frozen. -/
theorem cell_blk {w : World} {b o : Nat} {c : Array Value} {e : TypeId} {f : Nat × Nat} (h : w.heap[b]? = some (.cells c e f)) : w.cell? ⟨b, o, none⟩ = c[o]? := by
  simp [World.cell?, h]

theorem free_blk {w : World} {b o : Nat} {c : Array Value} {e : TypeId} (h : w.heap[b]? = some (.cells c e (0, 0))) : w.frozen? ⟨b, o, none⟩ = false := by
  simp [World.frozen?, h]

theorem lt_blk {w : World} {b : Nat} {o : Obj} (h : w.heap[b]? = some o) : b < w.heap.size := (Array.getElem?_eq_some_iff.1 h).1

theorem blk_setCell {w : World} {b o : Nat} {c : Array Value} {e : TypeId} {f : Nat × Nat} (h : w.heap[b]? = some (.cells c e f)) (v : Value) :
    (w.setCell ⟨b, o, none⟩ v).heap[b]? = some (.cells (c.setIfInBounds o v) e f) := by
  simp [World.setCell, Array.getElem?_modify, h]

theorem blk_setCell_other {w : World} {a : Addr} {b : Nat} (v : Value) (h : b ≠ a.block) : (w.setCell a v).heap[b]? = w.heap[b]? := Below.heap_setCell _ _ _ _ h

theorem blk_alloc {w : World} {b : Nat} {o o' : Obj} (h : w.heap[b]? = some o) : (w.alloc o').heap[b]? = some o := (Below.heap_alloc _ _ _ (lt_blk h)).trans h

end Go.Proofs.YtaklephcgepfjaaGreatDoor

/- The program's parser in memory, and its smallest functions: what each call does to the parser's state. -/
namespace Go.Proofs.YtaklephcgepfjaaGreatDoor
open Go.RowKit

/-- Tokens in memory, in a block ahead of bp. -/
def TokRow (w : World) (bp : Nat) (la : Option Addr) (T : List Tk) : Prop :=
  ∀ j t, T[j]? = some t → ∃ bl, la = some ⟨bl, 0, none⟩ ∧ bl < bp ∧ bl < w.heap.size ∧ w.cell? ⟨bl, j * 4, none⟩ = some (.int .i64 t.kind) ∧ w.cell? ⟨bl, j * 4 + 1, none⟩ = some (.int .i64 t.num) ∧
    w.cell? ⟨bl, j * 4 + 2, none⟩ = some (.int .i64 t.pos) ∧ w.cell? ⟨bl, j * 4 + 3, none⟩ = some (.string t.text)

theorem TokRow.upd {w w1 : World} {Y Y1 : Nat → Prop} {bp : Nat} {la : Option Addr} {T : List Tk} (h : TokRow w bp la T) (u : Upd w Y w1 Y1) (hY : ∀ k, k < bp → ¬ Y k) : TokRow w1 bp la T := by
  intro j t ht
  obtain ⟨bl, h1, h2, h3, h4, h5, h6, h7⟩ := h j t ht
  have hx := hY bl h2
  refine ⟨bl, h1, h2, Nat.lt_of_lt_of_le h3 u.size, ?_, ?_, ?_, ?_⟩
  · rw [u.cell h3 hx]; exact h4
  · rw [u.cell h3 hx]; exact h5
  · rw [u.cell h3 hx]; exact h6
  · rw [u.cell h3 hx]; exact h7

def ndCells (n : Nd) (kv : Value) : List Value := [.int .i64 n.kind, .int .i64 n.num, .int .i64 n.pos, .string n.text, kv]

def ndRow : List Nd → List Value → List Value
  | n :: l, kv :: ks => ndCells n kv ++ ndRow l ks
  | _, _ => []

def KidsAt (w : World) (kv : Value) (kids : List Int) : Prop := w.ownsRow 0 3 1 kv kids.length (kids.map (Value.int .i64))

/-- A row of nodes in memory; all its blocks are X's, none is bp. -/
def NodeRow (w : World) (X : Nat → Prop) (bp : Nat) (nv : Value) (l : List Nd) : Prop :=
  ∃ kvs : List Value, kvs.length = l.length ∧ w.ownsRow 0 57 5 nv l.length (ndRow l kvs) ∧ (∀ g, nv.ownBlock = some g → X g ∧ g ≠ bp) ∧
    ∀ (j : Nat) (n : Nd) (kv : Value), l[j]? = some n → kvs[j]? = some kv → KidsAt w kv n.kids ∧ ∀ g, kv.ownBlock = some g → X g ∧ g ≠ bp ∧ nv.ownBlock ≠ some g

theorem NodeRow.upd {w w1 : World} {X Y Y1 : Nat → Prop} {bp : Nat} {nv : Value} {l : List Nd} (h : NodeRow w X bp nv l) (u : Upd w Y w1 Y1) (hY : ∀ k, X k → k ≠ bp → ¬ Y k) : NodeRow w1 X bp nv l := by
  obtain ⟨kvs, h1, h2, h3, h4⟩ := h
  refine ⟨kvs, h1, u.ownsRow h2 (fun g hg => hY g (h3 g hg).1 (h3 g hg).2), h3, fun j n kv hj hk => ?_⟩
  obtain ⟨h5, h6⟩ := h4 j n kv hj hk
  exact ⟨u.ownsRow h5 (fun g hg => hY g (h6 g hg).1 (h6 g hg).2.1), h6⟩

/-- The program's parser at block bp. -/
structure PR (w : World) (X : Nat → Prop) (bp : Nat) (la : Option Addr) (c : Nat) (T : List Tk) (en : Int) (s : PS) (nv : Value) : Prop where
  inX : X bp
  low : ∀ k, X k → bp ≤ k
  high : ∀ k, X k → k < w.heap.size
  blk : w.heap[bp]? = some (.cells #[.slice la T.length c, .int .i64 en, .int .i64 s.i, .int .i64 s.deep, nv] 49 (0, 0))
  toks : TokRow w bp la T
  nodes : NodeRow w X bp nv s.nodes

theorem PR.lt {w : World} {X : Nat → Prop} {bp : Nat} {la : Option Addr} {c : Nat} {T : List Tk} {en : Int} {s : PS} {nv : Value} (h : PR w X bp la c T en s nv) : bp < w.heap.size := lt_blk h.blk

section
variable {w w1 : World} {X Y Y1 : Nat → Prop} {bp : Nat} {la : Option Addr} {c : Nat} {T : List Tk} {en : Int} {s : PS} {nv : Value}

theorem PR.c0 (h : PR w X bp la c T en s nv) : w.cell? ⟨bp, 0, none⟩ = some (.slice la T.length c) := by rw [cell_blk h.blk]; rfl
theorem PR.c1 (h : PR w X bp la c T en s nv) : w.cell? ⟨bp, 1, none⟩ = some (.int .i64 en) := by rw [cell_blk h.blk]; rfl
theorem PR.c2 (h : PR w X bp la c T en s nv) : w.cell? ⟨bp, 2, none⟩ = some (.int .i64 s.i) := by rw [cell_blk h.blk]; rfl
theorem PR.c3 (h : PR w X bp la c T en s nv) : w.cell? ⟨bp, 3, none⟩ = some (.int .i64 s.deep) := by rw [cell_blk h.blk]; rfl
theorem PR.c4 (h : PR w X bp la c T en s nv) : w.cell? ⟨bp, 4, none⟩ = some nv := by rw [cell_blk h.blk]; rfl
theorem PR.free (h : PR w X bp la c T en s nv) (o : Nat) : w.frozen? ⟨bp, o, none⟩ = false := free_blk h.blk

/-- It is where it was, where new blocks alone turn. -/
theorem PR.new (h : PR w X bp la c T en s nv) (u : Upd w (fun _ => False) w1 Y1) : PR w1 X bp la c T en s nv :=
  ⟨h.inX, h.low, fun k hk => Nat.lt_of_lt_of_le (h.high k hk) u.size, u.keep h.blk id, h.toks.upd u (fun _ _ => id), h.nodes.upd u (fun _ _ _ => id)⟩

theorem PR.drewN (h : PR w X bp la c T en s nv) (n : Nat) : PR (w.drewN n) X bp la c T en s nv := h.new ((Upd.refl w (fun _ => False)).drewN n)
theorem PR.alloc (h : PR w X bp la c T en s nv) (o : Obj) : PR (w.alloc o) X bp la c T en s nv := h.new ((Upd.refl w (fun _ => False)).alloc o)

/-- A store into the parser's own cells. -/
theorem PR.set (h : PR w X bp la c T en s nv) (o : Nat) (v : Value) (s' : PS) (hs : s'.nodes = s.nodes)
    (hc : (#[.slice la T.length c, .int .i64 en, .int .i64 s.i, .int .i64 s.deep, nv] : Array Value).setIfInBounds o v = #[.slice la T.length c, .int .i64 en, .int .i64 s'.i, .int .i64 s'.deep, nv]) :
    PR (w.setCell ⟨bp, o, none⟩ v) X bp la c T en s' nv := by
  have u : Upd w (fun k => k = bp) (w.setCell ⟨bp, o, none⟩ v) (fun k => k = bp) := (Upd.refl w (fun k => k = bp)).setCell (a := ⟨bp, o, none⟩) (.inl rfl) v
  exact ⟨h.inX, h.low, fun k hk => Nat.lt_of_lt_of_le (h.high k hk) u.size, by rw [blk_setCell h.blk, hc], h.toks.upd u (fun k hk e => by omega), hs ▸ h.nodes.upd u (fun k _ hk => hk)⟩

/-- A store into a block beside it. -/
theorem PR.other (h : PR w X bp la c T en s nv) {a : Addr} (ha : ¬ X a.block) (hb : bp ≤ a.block) (v : Value) : PR (w.setCell a v) X bp la c T en s nv := by
  have u : Upd w (fun k => k = a.block) (w.setCell a v) (fun k => k = a.block) := (Upd.refl w (fun k => k = a.block)).setCell (a := a) (.inl rfl) v
  have hne : ∀ k, X k → ¬ k = a.block := fun k hk e => ha (e ▸ hk)
  exact ⟨h.inX, h.low, fun k hk => Nat.lt_of_lt_of_le (h.high k hk) u.size, u.keep h.blk (hne bp h.inX), h.toks.upd u (fun k hk e => by omega), h.nodes.upd u (fun k hk _ => hne k hk)⟩

theorem PR.setI (h : PR w X bp la c T en s nv) (i : Nat) : PR (w.setCell ⟨bp, 2, none⟩ (.int .i64 i)) X bp la c T en { s with i := i } nv := h.set 2 _ _ rfl rfl
theorem PR.setDeep (h : PR w X bp la c T en s nv) (d : Int) : PR (w.setCell ⟨bp, 3, none⟩ (.int .i64 d)) X bp la c T en { s with deep := d } nv := h.set 3 _ _ rfl rfl

end

/-- What a piece's call ends in. -/
def Done {α : Type} (w : World) (X : Nat → Prop) (bp : Nat) (la : Option Addr) (c : Nat) (T : List Tk) (en : Int) (enc : α → Value) (r : Res α) (e : Ending) (w' : World) : Prop :=
  match r with
  | .ok a s => e = .returned (enc a) ∧ ∃ X' nv', PR w' X' bp la c T en s nv' ∧ Upd w X w' X'
  | .bad code pos => e = .panicked [{ v := .iface 46 (.agg #[.int .i64 code, .int .i64 0, .int .i64 pos]), recovered := false }] ∧ Upd w X w' X
  | .out => False

theorem bytes_inj (a b : ByteArray) : a.toList = b.toList ↔ a = b := by
  rw [ByteArray.toList_eq, ByteArray.toList_eq]
  exact ⟨fun h => ByteArray.ext (Array.toList_inj.mp h), fun h => by rw [h]⟩

set_option maxHeartbeats 400000 in
/-- strings in a list: the first place, or -1. -/
theorem index_c (b o c : Nat) (l : List ByteArray) (x : ByteArray) (w : World) (hl : l.length ≤ 100000)
    (hc : ∀ j, j < l.length → w.cell? ⟨b, o + j, none⟩ = some (.string (l.getD j ByteArray.empty))) :
    Calls Tryz.prog 101 #[.slice (some ⟨b, o, none⟩) l.length c, .string x] w fun e w' => (∃ i : Int, e = .returned (.int .i64 i) ∧ -1 ≤ i ∧ i ≤ 100000 ∧ (0 ≤ i ↔ x ∈ l)) ∧ w = w' := by
  go_enter Tryz.func101, Tryz.ntmps101
  go_wp2
  go_loop [8] (fun i => ∃ k : Nat, k ≤ l.length ∧ i = .int .i64 k ∧ x ∉ l.take k) (fun i => l.length - (intOf i).toNat)
  case atStart => exact ⟨0, Nat.zero_le _, rfl, by simp⟩
  case round =>
    obtain ⟨k, hk, rfl, hno⟩ := hrel
    by_cases hlt : k < l.length
    · have hck := hc k hlt
      have h8 : l.getD k ByteArray.empty = l[k] := by simp [hlt]
      rw [h8] at hck
      clear h8 hc
      have HN := Lib.hid hno; clear hno
      go_wp2
      · have hx : (x.toList == l[k].toList) = true := by assumption
        go_ret
        refine ⟨⟨k, rfl, by omega, by omega, ?_⟩, rfl⟩
        rw [beq_iff_eq, bytes_inj] at hx
        rw [hx]
        simp [List.getElem_mem]
      · have hx : (x.toList == l[k].toList) = false := by assumption
        go_round
        case rel =>
          refine ⟨k + 1, hlt, by go_num, ?_⟩
          rw [List.take_succ_eq_append_getElem hlt, List.mem_append, not_or]
          refine ⟨HN.out, fun h => ?_⟩
          rw [beq_eq_false_iff_ne] at hx
          exact hx ((bytes_inj _ _).2 (by simpa using h))
        case measure => simp [intOf]; omega
    · have HN := Lib.hid hno; clear hno hc
      go_wp2
      go_ret
      refine ⟨⟨-1, rfl, by omega, by omega, ?_⟩, rfl⟩
      have hno := HN.out
      rw [List.take_of_length_le (by omega)] at hno
      simp [hno]

theorem contains_c (b o c : Nat) (l : List ByteArray) (x : ByteArray) (w : World) (hl : l.length ≤ 100000)
    (hc : ∀ j, j < l.length → w.cell? ⟨b, o + j, none⟩ = some (.string (l.getD j ByteArray.empty))) :
    Calls Tryz.prog 63 #[.slice (some ⟨b, o, none⟩) l.length c, .string x] w fun e w' => e = .returned (.bool (memB x l)) ∧ w = w' := by
  have H := Lib.hid hc; clear hc
  go_enter Tryz.func63, Tryz.ntmps63
  go_wp2_with fail
  refine (index_c b o c l x _ hl H.out).mono ?_
  rintro e w' ⟨⟨i, rfl, h1, h2, h3⟩, rfl⟩
  have H3 := Lib.hid h3; clear h3
  go_wp2
  go_ret
  refine ⟨ret_bool ?_, rfl⟩
  rw [Bool.eq_iff_iff, decide_eq_true_iff, memB_iff]
  exact H3.out

section
variable {w : World} {X : Nat → Prop} {bp : Nat} {la : Option Addr} {c : Nat} {T : List Tk} {en : Int} {s : PS} {nv : Value}

theorem posP_in (hi : s.i < T.length) : posP T en s = (T[s.i]).pos := by simp [posP, hi]
theorem posP_out (hi : ¬ s.i < T.length) : posP T en s = en := by simp [posP, hi]

/-- at -/
theorem at_c (h : PR w X bp la c T en s nv) :
    Calls Tryz.prog 104 #[.pointer (some ⟨bp, 0, none⟩)] w fun e w' => e = .returned (.int .i64 (posP T en s)) ∧ ∃ n, w' = w.drewN n := by
  have h0 := h.c0
  have h1 := h.c1
  have h2 := h.c2
  by_cases hi : s.i < T.length
  · obtain ⟨bl, rfl, hx, hlt, t0, t1, t2, t3⟩ := h.toks s.i _ (List.getElem?_eq_getElem hi)
    have hd : decide ((s.i : Int) < (T.length : Int)) = true := by simp; omega
    have hd2 : decide (s.i < T.length) = true := by simp; omega
    rw [posP_in hi]
    go_enter Tryz.func104, Tryz.ntmps104
    go_wp2
    go_quiet (fail)
    go_wp2
    go_quiet (fail)
    go_wp2
    go_ret
    exact ⟨rfl, _, World.drewN_drewN _ _ _⟩
  · have hd : decide ((s.i : Int) < (T.length : Int)) = false := by simp; omega
    have hd2 : decide (s.i < T.length) = false := by simp; omega
    rw [posP_out hi]
    go_enter Tryz.func104, Tryz.ntmps104
    go_wp2
    go_quiet (fail)
    go_wp2
    go_ret
    exact ⟨rfl, _, rfl⟩

/-- fail -/
theorem fail_c {α : Type} (enc : α → Value) (code : Int) (h : PR w X bp la c T en s nv) :
    Calls Tryz.prog 73 #[.pointer (some ⟨bp, 0, none⟩), .int .i64 code] w (Done w X bp la c T en enc (failP T en code s)) := by
  go_enter Tryz.func73, Tryz.ntmps73
  go_wp2_with fail
  refine (at_c h).mono ?_
  rintro e w' ⟨rfl, n, rfl⟩
  go_wp2
  exact ⟨rfl, rfl, (Upd.refl w X).drewN n⟩

/-- kind -/
theorem kind_c (k : Int) (h : PR w X bp la c T en s nv) :
    Calls Tryz.prog 72 #[.pointer (some ⟨bp, 0, none⟩), .int .i64 k] w fun e w' => e = .returned (.bool (kindP T k s)) ∧ ∃ n, w' = w.drewN n := by
  have h0 := h.c0
  have h2 := h.c2
  by_cases hi : s.i < T.length
  · obtain ⟨bl, rfl, hx, hlt, t0, t1, t2, t3⟩ := h.toks s.i _ (List.getElem?_eq_getElem hi)
    have hd : decide ((s.i : Int) < (T.length : Int)) = true := by simp; omega
    have hd2 : decide (s.i < T.length) = true := by simp; omega
    have hk : kindP T k s = ((T[s.i]).kind == k) := by simp [kindP, hi]
    rw [hk]
    clear hk
    go_enter Tryz.func72, Tryz.ntmps72
    go_wp2
    go_quiet (fail)
    go_wp2
    go_ret
    exact ⟨rfl, _, rfl⟩
  · have hd : decide ((s.i : Int) < (T.length : Int)) = false := by simp; omega
    have hd2 : decide (s.i < T.length) = false := by simp; omega
    have hk : kindP T k s = false := by simp [kindP, hi]
    rw [hk]
    clear hk
    go_enter Tryz.func72, Tryz.ntmps72
    go_wp2
    go_quiet (fail)
    go_wp2
    go_ret
    exact ⟨rfl, _, rfl⟩

theorem isP_out {l : List ByteArray} (hi : ¬ s.i < T.length) : isP T l s = false := by simp [isP, hi]
theorem isP_in {l : List ByteArray} (hi : s.i < T.length) : isP T l s = (((T[s.i]).kind == 2 || (T[s.i]).kind == 4) && memB (T[s.i]).text l) := by simp [isP, hi]

set_option maxHeartbeats 400000 in
/-- is, at a token -/
theorem is_at (b o k : Nat) (l : List ByteArray) (t : Tk) (h : PR w X bp la c T en s nv) (hl : l.length ≤ 1000) (ht : T[s.i]? = some t)
    (hc : ∀ j, j < l.length → w.cell? ⟨b, o + j, none⟩ = some (.string (l.getD j ByteArray.empty))) :
    Calls Tryz.prog 34 #[.pointer (some ⟨bp, 0, none⟩), .slice (some ⟨b, o, none⟩) l.length k] w fun e w' =>
      e = .returned (.bool ((t.kind == 2 || t.kind == 4) && memB t.text l)) ∧ ∃ n, w' = w.drewN n := by
  have h0 := h.c0
  have h2 := h.c2
  obtain ⟨bl, rfl, hx, hlt, t0, t1, t2, t3⟩ := h.toks s.i t ht
  have hi : s.i < T.length := (List.getElem?_eq_some_iff.1 ht).1
  obtain ⟨i, hI⟩ : ∃ i, i = s.i := ⟨_, rfl⟩
  rw [← hI] at h2 t0 t1 t2 t3 hi
  clear hI ht
  have hd : decide ((i : Int) < (T.length : Int)) = true := by simp; omega
  have hd2 : decide (i < T.length) = true := by simp; omega
  have HC := Lib.hid (fun n => (contains_c b o k l t.text (w.drewN n) (by omega) (fun j hj => hc j hj)).mono (fun _ _ (h : _ ∧ _) => (⟨h.1, h.2.symm⟩ : _ ∧ _)))
  clear hc h
  by_cases hk2 : t.kind = 2
  · have k2 : (t.kind == 2) = true := by simp [hk2]
    rw [k2, Bool.true_or, Bool.true_and]
    rw [hk2] at t0
    clear hk2 k2
    go_enter Tryz.func34, Tryz.ntmps34
    go_wp2
    go_quiet ((go_at_call 63; exact Calls.quiet_of_same (HC.out _)))
    go_wp2
    go_ret
    exact ⟨rfl, _, rfl⟩
  · have k2 : (t.kind == 2) = false := by simp [hk2]
    by_cases hk4 : t.kind = 4
    · have k4 : (t.kind == 4) = true := by simp [hk4]
      rw [k4, Bool.or_true, Bool.true_and]
      rw [hk4] at t0
      clear hk2 hk4 k2 k4
      go_enter Tryz.func34, Tryz.ntmps34
      go_wp2
      go_quiet ((go_at_call 63; exact Calls.quiet_of_same (HC.out _)))
      go_wp2
      go_ret
      exact ⟨rfl, _, rfl⟩
    · have k4 : (t.kind == 4) = false := by simp [hk4]
      rw [k2, k4, Bool.or_false, Bool.false_and]
      clear hk2 hk4
      go_enter Tryz.func34, Tryz.ntmps34
      go_wp2
      go_quiet (fail)
      go_wp2
      go_ret
      exact ⟨rfl, _, rfl⟩

/-- is -/
theorem is_c (b o k : Nat) (l : List ByteArray) (h : PR w X bp la c T en s nv) (hl : l.length ≤ 1000)
    (hc : ∀ j, j < l.length → w.cell? ⟨b, o + j, none⟩ = some (.string (l.getD j ByteArray.empty))) :
    Calls Tryz.prog 34 #[.pointer (some ⟨bp, 0, none⟩), .slice (some ⟨b, o, none⟩) l.length k] w fun e w' => e = .returned (.bool (isP T l s)) ∧ ∃ n, w' = w.drewN n := by
  cases ht : T[s.i]? with
  | some t =>
    have e : isP T l s = ((t.kind == 2 || t.kind == 4) && memB t.text l) := by simp only [isP, ht]
    rw [e]
    exact is_at b o k l t h hl ht hc
  | none =>
    have e : isP T l s = false := by simp only [isP, ht]
    have hi : T.length ≤ s.i := List.getElem?_eq_none_iff.1 ht
    rw [e]
    have h0 := h.c0
    have h2 := h.c2
    obtain ⟨i, hI⟩ : ∃ i, i = s.i := ⟨_, rfl⟩
    rw [← hI] at h2 hi
    clear hI ht hc e
    have hd : decide ((i : Int) < (T.length : Int)) = false := by simp; omega
    have hd2 : decide (i < T.length) = false := by simp; omega
    go_enter Tryz.func34, Tryz.ntmps34
    go_wp2
    go_quiet (fail)
    go_wp2
    go_ret
    exact ⟨rfl, _, rfl⟩

set_option maxRecDepth 100000 in
set_option maxHeartbeats 400000 in
/-- next -/
theorem next_c (h : PR w X bp la c T en s nv) (hn : T.length ≤ 5000) (hi : s.i < T.length) :
    Calls Tryz.prog 70 #[.pointer (some ⟨bp, 0, none⟩)] w fun e w' => e = .returned (.agg #[.int .i64 (tokP T s).kind, .int .i64 (tokP T s).num, .int .i64 (tokP T s).pos, .string (tokP T s).text]) ∧
      PR w' X bp la c T en (stepP s) nv ∧ Upd w X w' X := by
  obtain ⟨t, ht⟩ : ∃ t, T[s.i]? = some t := ⟨_, List.getElem?_eq_getElem hi⟩
  have hT : tokP T s = t := by simp only [tokP, List.getD_eq_getElem?_getD, ht]; rfl
  rw [hT]
  clear hT
  have HT := Lib.hid ht; clear ht
  have h0 := h.c0
  have h2 := h.c2
  have f2 := h.free 2
  have hbp := h.lt
  have HR : Hid (PR (w.setCell ⟨bp, 2, none⟩ (.int .i64 (s.i + 1 : Nat))) X bp la c T en (stepP s) nv) := h.setI (s.i + 1)
  have HU : Hid (Upd w X (w.setCell ⟨bp, 2, none⟩ (.int .i64 (s.i + 1 : Nat))) X) := (Upd.refl w X).setCell (a := ⟨bp, 2, none⟩) (.inl h.inX) _
  clear h
  obtain ⟨B, hB⟩ : ∃ B, B = w.heap.size := ⟨_, rfl⟩
  go_enter Tryz.func70, Tryz.ntmps70
  go_wp2
  rw [← hB]
  refine wp_tail 11 (by kernel_rfl) (by kernel_rfl) (fun W => Upd (w.setCell ⟨bp, 2, none⟩ (.int .i64 (s.i + 1 : Nat))) NO W NO ∧ W.heap[B]? = some (.cells #[.int .i64 0, .int .i64 0, .int .i64 0, .string ⟨#[]⟩] 81 (0, 0))) ⟨((Upd.refl _ _).alloc _).drew, blk_new (by simp [hB])⟩ ?_
  clear h0 h2 f2
  rintro W ⟨hU, hb⟩
  have hP := HR.out.new hU
  obtain ⟨bl, rfl, hx, hlt, t0, t1, t2, t3⟩ := hP.toks s.i t HT.out
  have h0 := hP.c0
  have h2 : W.cell? ⟨bp, 2, none⟩ = some (.int .i64 (↑s.i + 1)) := hP.c2
  have b0 : W.cell? ⟨B, 0, none⟩ = some (.int .i64 0) := cell_blk hb
  have b1 : W.cell? ⟨B, 1, none⟩ = some (.int .i64 0) := cell_blk hb
  have b2 : W.cell? ⟨B, 2, none⟩ = some (.int .i64 0) := cell_blk hb
  have b3 : W.cell? ⟨B, 3, none⟩ = some (.string ⟨#[]⟩) := cell_blk hb
  have bf : ∀ o, W.frozen? ⟨B, o, none⟩ = false := fun o => free_blk hb
  have HUU := Lib.hid hU; have HB := Lib.hid hB
  clear hP hU hB hb HT
  obtain ⟨i, hI⟩ : ∃ i, i = s.i := ⟨_, rfl⟩
  rw [← hI] at hi h2 t0 t1 t2 t3
  have HI := Lib.hid hI; clear hI
  have hwr : IntKind.i64.wrap (i : Int) = i := IntWalk.i64_in _ (by clear t0 t1 t2 t3 h0 h2; omega)
  simp only [List.take_succ_cons, List.take_zero, List.drop_succ_cons, List.drop_zero]
  repeat still_step
  refine wpStill_nil ?_
  go_wp2
  have hB1 : (w.setCell ⟨bp, 2, none⟩ (.int .i64 (s.i + 1 : Nat))).heap.size ≤ B := by rw [HB.out]; simp
  have U2 := (((HUU.out.setCell (a := ⟨B, 0, none⟩) (.inr hB1) (.int .i64 t.kind)).setCell (a := ⟨B, 1, none⟩) (.inr hB1) (.int .i64 t.num)).setCell (a := ⟨B, 2, none⟩) (.inr hB1) (.int .i64 t.pos)).setCell (a := ⟨B, 3, none⟩) (.inr hB1) (.string t.text)
  refine bodyPost_ret (v := .agg #[.int .i64 t.kind, .int .i64 t.num, .int .i64 t.pos, .string t.text]) ?_ rfl ⟨rfl, HR.out.new U2, HU.out.fresh U2⟩
  simp [results, Tryz.results70, go_sem, b0, b1, b2, b3]
end

end Go.Proofs.YtaklephcgepfjaaGreatDoor

/- append onto a row of the call's own: where the row lies behind it. -/
namespace Go.Proofs.YtaklephcgepfjaaGreatDoor
open Go.RowKit

section
variable {P : Program} (w : World)

theorem run_app (t ty e : TypeId) (i : TypeInfo) (z : Value) (size bytes : Nat) (ht : P.underlying t = some (.slice e)) (hi : P.info? e = some i) (hz : i.zero = some z)
    (hsize : i.size = size) (hby : i.bytes = bytes) (hzs : z.cells.size = size) (hsz : 0 < size)
    (v : Value) (n : Nat) (xs : List Value) (hown : w.ownsRow 0 e size v n xs)
    (a : Addr) (m c : Nat) (news : List Value) (hl : news.length = m * size) (hnews : ∀ j u, news[j]? = some u → w.cell? (a.add j) = some u) (h1 : ∀ u ∈ news, u.oneCell' = true)
    (h63 : n + m ≤ maxLen) (hbytes : (n + m) * bytes ≤ 140737488355328) :
    ∃ v' w', (Builtin.append_ #[t, t] ty #[v, .slice (some a) m c]).run P w = .ok v' w' ∧ w'.ownsRow 0 e size v' (n + m) (xs ++ news) ∧ w.grownBy w' v.ownBlock ∧
      ∀ k, v'.ownBlock = some k → v.ownBlock = some k ∨ w.heap.size ≤ k := by
  obtain ⟨v', w', hr, h2, h3, h4⟩ := run_append_own (P := P) w 0 t ty e i z size bytes ht hi hz hsize hby hzs hsz v n xs hown a m c news hl hnews h1 h63 hbytes (Nat.zero_le _)
  refine ⟨v', w', hr, h2, h3, ?_⟩
  subst hsize
  subst hby
  have hsmall : n + m ≤ 9223372036854775807 := by simp only [maxLen] at h63; omega
  rcases hown.2 with ⟨rfl, rfl⟩ | ⟨g, cap, cur, rfl, hbg, hg, hnc, hcm, hcs, htake⟩
  · by_cases hm : m = 0
    · have := h4.2 ⟨rfl, hm⟩
      subst this
      intro k hk
      simp [Value.ownBlock] at hk
    · have hr' := run_append_nil (P := P) w t ty e i z ht hi hz a m c news hl hnews (by omega) (by omega) (by have hb := hbytes; simp only [Nat.zero_add] at hb; omega)
      rw [hr] at hr'
      injection hr' with e1 e2
      subst e1
      intro k hk
      simp only [Value.ownBlock, Option.some.injEq] at hk
      exact .inr (by omega)
  · by_cases hroom : n + m ≤ cap
    · have hfit : n * i.size + news.length ≤ cur.size := by rw [hl, hcs, ← Nat.add_mul]; exact Nat.mul_le_mul_right _ hroom
      have hr' := run_append_room (P := P) w t ty e i ht hi g n cap cur hg a m c news hl hnews h1 hroom hfit
      rw [hr] at hr'
      injection hr' with e1 e2
      subst e1
      exact fun k hk => .inl hk
    · have holds : ∀ j u, xs[j]? = some u → w.cell? ((⟨g, 0, none⟩ : Addr).add j) = some u := hown.cells (g := g) rfl
      have hr' := run_append_grow (P := P) w t ty e i z ht hi hz ⟨g, 0, none⟩ n cap xs hown.1 holds a m c news hl hnews (by omega) (by omega) (growslice_fits (by omega) hbytes)
      rw [hr] at hr'
      injection hr' with e1 e2
      subst e1
      intro k hk
      simp only [Value.ownBlock, Option.some.injEq] at hk
      exact .inr (by omega)

/-- The same as a step of the walk. -/
theorem wpList_app {ops : Array Oper} {rest : List Oper} {o : Oper} {a : Act} {Q : Exit → Act → World → Prop} (hgd : o.guard = none) (s x : Operand) (t : TypeId)
    (ho : o.op = .call { callee := .builtin .append, args := #[s, x], argTypes := #[t, t] })
    (e : TypeId) (i : TypeInfo) (z : Value) (size bytes : Nat) (ht : P.underlying t = some (.slice e)) (hi : P.info? e = some i) (hz : i.zero = some z)
    (hsize : i.size = size) (hby : i.bytes = bytes) (hzs : z.cells.size = size) (hsz : 0 < size)
    (v : Value) (n : Nat) (xs : List Value) (hs : a.eval s = v) (hown : w.ownsRow 0 e size v n xs)
    (ad : Addr) (m c : Nat) (news : List Value) (hx : a.eval x = .slice (some ad) m c) (hl : news.length = m * size) (hnews : ∀ j u, news[j]? = some u → w.cell? (ad.add j) = some u) (h1 : ∀ u ∈ news, u.oneCell' = true)
    (h63 : n + m ≤ maxLen) (hbytes : (n + m) * bytes ≤ 140737488355328)
    (h : ∀ v' w', w'.ownsRow 0 e size v' (n + m) (xs ++ news) → w.grownBy w' v.ownBlock → (∀ k, v'.ownBlock = some k → v.ownBlock = some k ∨ w.heap.size ≤ k) → wpList P ops Q rest (a.put o.dst v') w') : wpList P ops Q (o :: rest) a w :=
  wpList_plain hgd fun K hK => by
    obtain ⟨v', w', hr, h2, h3, h4⟩ := run_app (P := P) w t o.type e i z size bytes ht hi hz hsize hby hzs hsz v n xs hown ad m c news hl hnews h1 h63 hbytes
    unfold Oper.wp execOp
    simp only [ho, resolve, invoke, builtin, Sem.run_bind, Sem.run_pure, Result.andThen_ok, List.map_toArray, List.map_cons, List.map_nil, hs, hx, hr]
    exact hK _ _ (h v' w' h2 h3 h4)
end

/-- The cells of a new block. -/
theorem news_new (w : World) (cs : List Value) (e : TypeId) : ∀ j u, cs[j]? = some u → (w.alloc (.cells cs.toArray e)).cell? ((⟨w.heap.size, 0, none⟩ : Addr).add j) = some u := by
  intro j u hj
  have hadd : (⟨w.heap.size, 0, none⟩ : Addr).add j = ⟨w.heap.size, j, none⟩ := by unfold Addr.add; split <;> simp_all
  rw [hadd, cell_blk (heap_alloc_new w _)]
  simpa using hj

theorem slice_of_row {w : World} {base : Nat} {e : TypeId} {size n : Nat} {v : Value} {xs : List Value} (h : w.ownsRow base e size v n xs) : ∃ a c, v = .slice a n c := by
  rcases h.2 with ⟨rfl, rfl⟩ | ⟨g, cap, cur, rfl, _⟩
  · exact ⟨_, _, rfl⟩
  · exact ⟨_, _, rfl⟩

end Go.Proofs.YtaklephcgepfjaaGreatDoor

/- The program's parser: what takes a token, and what puts a node. -/
namespace Go.Proofs.YtaklephcgepfjaaGreatDoor
open Go.RowKit

theorem Tryz.infoNode : (Tryz.prog.info? 57).map (fun i => (i.zero, i.size, i.bytes)) = some (some (.agg #[.int .i64 0, .int .i64 0, .int .i64 0, .string ⟨#[]⟩, .slice none 0 0]), 5, 64) := by kernel_rfl

theorem ndRow_length : ∀ (l : List Nd) (ks : List Value), ks.length = l.length → (ndRow l ks).length = l.length * 5
  | [], ks, _ => by simp [ndRow]
  | n :: l, [], h => by simp at h
  | n :: l, k :: ks, h => by simp [ndRow, ndCells, ndRow_length l ks (by simpa using h)]; omega

theorem ndRow_snoc : ∀ (l : List Nd) (ks : List Value) (n : Nd) (kv : Value), ks.length = l.length → ndRow (l ++ [n]) (ks ++ [kv]) = ndRow l ks ++ ndCells n kv
  | [], [], n, kv, _ => by simp [ndRow]
  | [], k :: ks, n, kv, h => by simp at h
  | m :: l, [], n, kv, h => by simp at h
  | m :: l, k :: ks, n, kv, h => by simp [ndRow, ndRow_snoc l ks n kv (by simpa using h)]

/-- What put leaves. -/
theorem put_left {w w1 : World} {X : Nat → Prop} {bp : Nat} {la : Option Addr} {c : Nat} {T : List Tk} {en : Int} {s : PS} {nv kv v' : Value} {nd : Nd} {kvs : List Value} {o : Obj}
    (h : PR w X bp la c T en s nv) (hk' : KidsAt w kv nd.kids) (hkx : ∀ g, kv.ownBlock = some g → ¬ X g ∧ bp ≤ g)
    (k1 : kvs.length = s.nodes.length) (k3 : ∀ g, nv.ownBlock = some g → X g ∧ g ≠ bp)
    (k4 : ∀ (j : Nat) (n : Nd) (kv : Value), s.nodes[j]? = some n → kvs[j]? = some kv → KidsAt w kv n.kids ∧ ∀ g, kv.ownBlock = some g → X g ∧ g ≠ bp ∧ nv.ownBlock ≠ some g)
    (hown : w1.ownsRow 0 57 5 v' (s.nodes.length + 1) (ndRow s.nodes kvs ++ ndCells nd kv)) (hgrow : (w.alloc o).grownBy w1 nv.ownBlock)
    (hv : ∀ k, v'.ownBlock = some k → nv.ownBlock = some k ∨ (w.alloc o).heap.size ≤ k) :
    PR (w1.setCell ⟨bp, 4, none⟩ v') (fun k => X k ∨ kv.ownBlock = some k ∨ v'.ownBlock = some k) bp la c T en { s with nodes := s.nodes ++ [nd] } v' ∧
      Upd w (fun k => X k ∨ kv.ownBlock = some k) (w1.setCell ⟨bp, 4, none⟩ v') (fun k => X k ∨ kv.ownBlock = some k ∨ v'.ownBlock = some k) := by
  have u1 : Upd w (fun k => nv.ownBlock = some k) w1 (fun k => nv.ownBlock = some k) := ((Upd.refl w _).alloc o).grown hgrow (fun k hk => .inl hk)
  have hs : (w.alloc o).heap.size = w.heap.size + 1 := by simp
  have hbp := h.lt
  have hnb : ¬ nv.ownBlock = some bp := fun e => (k3 bp e).2 rfl
  have hvb : ¬ v'.ownBlock = some bp := fun e => by
    rcases hv bp e with h1 | h1
    · exact hnb h1
    · omega
  have b1 : w1.heap[bp]? = _ := u1.keep h.blk hnb
  have u2 : Upd w (fun k => X k ∨ kv.ownBlock = some k) (w1.setCell ⟨bp, 4, none⟩ v') (fun k => X k ∨ kv.ownBlock = some k ∨ v'.ownBlock = some k) :=
    ((u1.more (Y := fun k => X k ∨ kv.ownBlock = some k) (fun k hk => .inl (k3 k hk).1)).setCell (a := ⟨bp, 4, none⟩) (.inl (.inl h.inX)) v').to (fun k hk => by
      rcases hk with hk | hk | hk
      · exact .inl (.inl hk)
      · exact .inl (.inr hk)
      · rcases hv k hk with h1 | h1
        · exact .inl (.inl (k3 k h1).1)
        · exact .inr (by omega))
  have hkv : ∀ g, kv.ownBlock = some g → ¬ v'.ownBlock = some g := fun g hg e => by
    rcases hv g e with h1 | h1
    · exact (hkx g hg).1 (k3 g h1).1
    · have := (hk'.lt g hg).2; omega
  have hrow : ∀ {v : Value} {l : List Int}, KidsAt w v l → (∀ g, v.ownBlock = some g → g ≠ bp ∧ ¬ nv.ownBlock = some g) → KidsAt (w1.setCell ⟨bp, 4, none⟩ v') v l := fun {v l} hh hg => by
    have a1 := u1.ownsRow hh (fun g e => (hg g e).2)
    exact ((Upd.refl w1 (fun k => k = bp)).setCell (a := ⟨bp, 4, none⟩) (.inl rfl) v').ownsRow a1 (fun g e => (hg g e).1)
  have hlow : ∀ k, (X k ∨ kv.ownBlock = some k ∨ v'.ownBlock = some k) → bp ≤ k := fun k hk => by
    rcases hk with hk | hk | hk
    · exact h.low k hk
    · exact (hkx k hk).2
    · rcases hv k hk with h1 | h1
      · exact h.low k (k3 k h1).1
      · omega
  have hhigh : ∀ k, (X k ∨ kv.ownBlock = some k ∨ v'.ownBlock = some k) → k < (w1.setCell ⟨bp, 4, none⟩ v').heap.size := fun k hk => by
    have hs2 : (w1.setCell ⟨bp, 4, none⟩ v').heap.size = w1.heap.size := by simp
    have hs1 := u1.size
    rcases hk with hk | hk | hk
    · have := h.high k hk; omega
    · have := (hk'.lt k hk).2; omega
    · have := (hown.lt k hk).2; omega
  refine ⟨⟨.inl h.inX, hlow, hhigh, by rw [blk_setCell b1]; rfl, h.toks.upd u2 (fun k hk hx => ?_), kvs ++ [kv], by simp [k1], ?_, ?_, ?_⟩, u2⟩
  · rcases hx with hx | hx
    · have := h.low k hx; omega
    · have := (hkx k hx).2; omega
  · have := ((Upd.refl w1 (fun k => k = bp)).setCell (a := ⟨bp, 4, none⟩) (.inl rfl) v').ownsRow hown (fun g e e' => hvb (e' ▸ e))
    simpa [ndRow_snoc _ _ _ _ k1] using this
  · exact fun g hg => ⟨.inr (.inr hg), fun e => hvb (e ▸ hg)⟩
  · intro j n kv' hn hkv'
    rcases Nat.lt_or_ge j s.nodes.length with hj | hj
    · rw [List.getElem?_append_left hj] at hn
      rw [List.getElem?_append_left (by omega)] at hkv'
      obtain ⟨a1, a2⟩ := k4 j n kv' hn hkv'
      refine ⟨hrow a1 (fun g e => ⟨(a2 g e).2.1, (a2 g e).2.2⟩), fun g e => ⟨.inl (a2 g e).1, (a2 g e).2.1, fun e' => ?_⟩⟩
      rcases hv g e' with h1 | h1
      · exact (a2 g e).2.2 h1
      · have := (a1.lt g e).2; omega
    · have hj' : j = s.nodes.length := by
        have := (List.getElem?_eq_some_iff.1 hn).1
        simp at this; omega
      subst hj'
      simp at hn
      rw [← k1] at hkv'
      simp at hkv'
      subst hn hkv'
      refine ⟨hrow hk' (fun g e => ⟨fun e' => (hkx g e).1 (e' ▸ h.inX), fun e' => (hkx g e).1 (k3 g e').1⟩), fun g e => ⟨.inr (.inl e), fun e' => (hkx g e).1 (e' ▸ h.inX), fun e' => hkv g e e'⟩⟩

section
variable {w : World} {X : Nat → Prop} {bp : Nat} {la : Option Addr} {c : Nat} {T : List Tk} {en : Int} {s : PS} {nv : Value}

set_option maxRecDepth 100000 in
set_option maxHeartbeats 400000 in
/-- put -/
theorem put_c (kind pos num : Int) (text : ByteArray) (kv : Value) (kids : List Int) (h : PR w X bp la c T en s nv) (hk : KidsAt w kv kids) (hkx : ∀ g, kv.ownBlock = some g → ¬ X g ∧ bp ≤ g) (hl : s.nodes.length ≤ 100000) :
    Calls Tryz.prog 37 #[.pointer (some ⟨bp, 0, none⟩), .int .i64 kind, .int .i64 pos, .int .i64 num, .string text, kv] w fun e w' => e = .returned (.int .i64 s.nodes.length) ∧
      ∃ X' nv', PR w' X' bp la c T en { s with nodes := s.nodes ++ [⟨kind, num, pos, text, kids⟩] } nv' ∧ Upd w (fun k => X k ∨ kv.ownBlock = some k) w' X' := by
  have h4 := h.c4
  have f4 := h.free 4
  have hbp := h.lt
  obtain ⟨kvs, k1, k2, k3, k4⟩ := h.nodes
  obtain ⟨i0, hi, hz0, hz1, hz2⟩ := info_parts Tryz.infoNode
  obtain ⟨na, nc, rfl⟩ := slice_of_row k2
  obtain ⟨ka, kc, rfl⟩ := slice_of_row hk
  obtain ⟨n, hn⟩ : ∃ n, n = s.nodes.length := ⟨_, rfl⟩
  obtain ⟨m, hm⟩ : ∃ m, m = kids.length := ⟨_, rfl⟩
  have HN := Lib.hid hn; have HM := Lib.hid hm
  rw [← hn] at hl k2 h4 h k3 k4
  rw [← hm] at hk hkx
  rw [← hn, ← hm]
  clear hn hm
  have HH := Lib.hid h; have HK := Lib.hid hk; have HX := Lib.hid hkx; have H3 := Lib.hid k3; have H4 := Lib.hid k4
  clear h hk hkx k3 k4
  go_enter Tryz.func37, Tryz.ntmps37
  go_wp2_with (at_builtin; refine wpList_app _ rfl _ _ 22 rfl 57 i0 (.agg #[.int .i64 0, .int .i64 0, .int .i64 0, .string ⟨#[]⟩, .slice none 0 0]) 5 64 Tryz.underlying22 hi hz0 hz1 hz2 rfl (by decide) _ _ _ rfl (k2.alloc _) ⟨w.heap.size, 0, none⟩ 1 1 [.int .i64 kind, .int .i64 num, .int .i64 pos, .string text, .slice ka m kc] rfl rfl ?c1 ?c2 ?c3 ?c4 ?_)
  case c1 => exact news_new w _ _
  case c2 => simp [Value.oneCell']
  case c3 => unfold maxLen; omega
  case c4 => omega
  intro v' w1 hown hgrow hv
  obtain ⟨va, vc, rfl⟩ := slice_of_row hown
  have hn := HN.out
  have hm := HM.out
  clear HN HM
  subst hn hm
  have R := put_left (nd := ⟨kind, num, pos, text, kids⟩) (kv := .slice ka kids.length kc) (HH.out) HK.out HX.out (by rw [k1]) H3.out H4.out hown hgrow (by simpa using hv)
  have u1 := ((Upd.refl w (fun k => k ≠ bp)).alloc (.cells #[.int .i64 kind, .int .i64 num, .int .i64 pos, .string text, .slice ka kids.length kc] 57)).grown hgrow (fun k hk => .inl (H3.out k hk).2)
  have b4 : w1.cell? ⟨bp, 4, none⟩ = some (.slice na s.nodes.length nc) := by rw [u1.cell hbp (by simp)]; exact h4
  have g4 : w1.frozen? ⟨bp, 4, none⟩ = false := by rw [u1.frozen hbp (by simp)]; exact f4
  have HR := Lib.hid R
  clear R hown hgrow hv u1 h4 f4
  go_wp2
  go_ret
  exact ⟨rfl, _, _, HR.out.1, HR.out.2⟩
end
end Go.Proofs.YtaklephcgepfjaaGreatDoor

/- Steps of a region that draws its order: a call of a Go function by its contract; an append onto a row of the call's own. -/
namespace Go.Proofs.YtaklephcgepfjaaGreatDoor
open Go.RowKit

section
variable {P : Program} {o : Oper} {a : Act} {w : World} {K : Act → World → Prop} {Q : Exit → Act → World → Prop} {E : Prop} {ops : Array Oper}

/-- A call by its contract. -/
theorem step_call (hg : o.guard = none) (f : FuncId) (xs : Array Operand) (ats : Array TypeId) (hop : o.op = .call { callee := .value (.func f), args := xs, argTypes := ats })
    (args : Array Value) (ha : #[] ++ xs.map a.eval ++ #[] = args) (hc : ∀ args w, (callFunc f args).run P w = .ok (.enter f args) w)
    (h : Calls P f args w fun
      | .returned v, w' => K (a.put o.dst v) w'
      | .panicked chain, w' => Q (.panic chain) a w'
      | .outgrown, _ => LetsOut Q) : if Region.wanted o (yielded ops a.tmps) = true then Oper.wp P o a w K Q else E := by
  have hw : Region.wanted o (yielded ops a.tmps) = true := by simp [Region.wanted, hg]
  rw [if_pos hw]
  unfold Oper.wp
  have e : execOp a.eval o = callFunc f (#[] ++ xs.map a.eval ++ #[]) := by
    cases o
    simp only at hop
    subst hop
    rfl
  rw [e, ha, hc, Oper.upon_enter]
  exact h

/-- An append onto a row of the call's own. -/
theorem step_app (hg : o.guard = none) (s x : Operand) (t : TypeId) (hop : o.op = .call { callee := .builtin .append, args := #[s, x], argTypes := #[t, t] })
    (e : TypeId) (i : TypeInfo) (z : Value) (size bytes : Nat) (ht : P.underlying t = some (.slice e)) (hi : P.info? e = some i) (hz : i.zero = some z)
    (hsize : i.size = size) (hby : i.bytes = bytes) (hzs : z.cells.size = size) (hsz : 0 < size)
    (v : Value) (n : Nat) (xs : List Value) (hs : a.eval s = v) (hown : w.ownsRow 0 e size v n xs)
    (ad : Addr) (m c : Nat) (news : List Value) (hx : a.eval x = .slice (some ad) m c) (hl : news.length = m * size) (hnews : ∀ j u, news[j]? = some u → w.cell? (ad.add j) = some u) (h1 : ∀ u ∈ news, u.oneCell' = true)
    (h63 : n + m ≤ maxLen) (hbytes : (n + m) * bytes ≤ 140737488355328)
    (h : ∀ v' w', w'.ownsRow 0 e size v' (n + m) (xs ++ news) → w.grownBy w' v.ownBlock → (∀ k, v'.ownBlock = some k → v.ownBlock = some k ∨ w.heap.size ≤ k) → K (a.put o.dst v') w') :
    if Region.wanted o (yielded ops a.tmps) = true then Oper.wp P o a w K Q else E := by
  have hw : Region.wanted o (yielded ops a.tmps) = true := by simp [Region.wanted, hg]
  rw [if_pos hw]
  obtain ⟨v', w', hr, h2, h3, h4⟩ := run_app (P := P) w t o.type e i z size bytes ht hi hz hsize hby hzs hsz v n xs hown ad m c news hl hnews h1 h63 hbytes
  unfold Oper.wp execOp
  simp only [hop, resolve, invoke, builtin, Sem.run_bind, Sem.run_pure, Result.andThen_ok, List.map_toArray, List.map_cons, List.map_nil, hs, hx, hr]
  exact h v' w' h2 h3 h4
end

end Go.Proofs.YtaklephcgepfjaaGreatDoor

/- Contracts of library functions, laid by the kit at this translation (plain mode): IndexByte at every string and byte, ContainsRune at an ASCII rune. -/
namespace Go.Proofs
open Go.Shelf
def Tryz.lays137_ren : Go.Shelf.Ren := ⟨fun | 137 => 138 | 217 => 153 | 266 => 158 | n => n, fun | 9 => 9 | 5 => 5 | 3 => 3 | n => n, fun | n => n⟩
theorem Tryz.lays137 : Go.Proofs.Lays.n137 Tryz.prog Tryz.lays137_ren := {
  mixed := by kernel_rfl
  f137 := Tryz.func138.trans (congrArg some (by kernel_rfl))
  f217 := Tryz.func153.trans (congrArg some (by kernel_rfl))
  f266 := Tryz.func158.trans (congrArg some (by kernel_rfl))
  t3 := Tryz.underlying3
  a3 := Tryz.isAgg3
  z3 := Tryz.sizeOf3
  v3 := Tryz.zeroValue3
  t5 := Tryz.underlying5
  a5 := Tryz.isAgg5
  z5 := Tryz.sizeOf5
  v5 := Tryz.zeroValue5
  t9 := Tryz.underlying9
  a9 := Tryz.isAgg9
  z9 := Tryz.sizeOf9
  v9 := Tryz.zeroValue9 }
open Go.RowKit in
/-- strings.IndexByte: "IndexByte returns the index of the first instance of c in s, or -1 if c is not present in s.": IT RETURNS 'Lib.indexByte s c'; the world is as it was. (LAID: no walk: one application.) -/
theorem Tryz.strings_IndexByte (s : ByteArray) (c : Int) (w : World) :
    Calls Tryz.prog 138 #[.string s, .int .u8 c] w fun e w' => e = .returned (.int .i64 (Lib.indexByte s.data.toList c.toNat.toUInt8)) ∧ w' = w := Any.strings_IndexByte Tryz.lays137 s c w
def Tryz.lays151_ren : Go.Shelf.Ren := ⟨fun | 151 => 99 | 152 => 121 | 137 => 138 | 119 => 139 | 224 => 140 | 225 => 141 | 217 => 153 | 266 => 158 | n => n, fun | 9 => 9 | 21 => 21 | 4 => 4 | 3 => 3 | 5 => 5 | 0 => 0 | 46 => 116 | n => n, fun | n => n⟩
theorem Tryz.lays151 : Go.Proofs.Lays.n151 Tryz.prog Tryz.lays151_ren := {
  mixed := by kernel_rfl
  f119 := Tryz.func139.trans (congrArg some (by kernel_rfl))
  f137 := Tryz.func138.trans (congrArg some (by kernel_rfl))
  f151 := Tryz.func99.trans (congrArg some (by kernel_rfl))
  f152 := Tryz.func121.trans (congrArg some (by kernel_rfl))
  f217 := Tryz.func153.trans (congrArg some (by kernel_rfl))
  f224 := Tryz.func140.trans (congrArg some (by kernel_rfl))
  f225 := Tryz.func141.trans (congrArg some (by kernel_rfl))
  f266 := Tryz.func158.trans (congrArg some (by kernel_rfl))
  t0 := Tryz.underlying0
  a0 := Tryz.isAgg0
  z0 := Tryz.sizeOf0
  v0 := Tryz.zeroValue0
  t3 := Tryz.underlying3
  a3 := Tryz.isAgg3
  z3 := Tryz.sizeOf3
  v3 := Tryz.zeroValue3
  t4 := Tryz.underlying4
  a4 := Tryz.isAgg4
  z4 := Tryz.sizeOf4
  v4 := Tryz.zeroValue4
  t5 := Tryz.underlying5
  a5 := Tryz.isAgg5
  z5 := Tryz.sizeOf5
  v5 := Tryz.zeroValue5
  t9 := Tryz.underlying9
  a9 := Tryz.isAgg9
  z9 := Tryz.sizeOf9
  v9 := Tryz.zeroValue9
  t21 := Tryz.underlying21
  a21 := Tryz.isAgg21
  z21 := Tryz.sizeOf21
  v21 := Tryz.zeroValue21
  t46 := Tryz.underlying116
  a46 := Tryz.isAgg116
  z46 := Tryz.sizeOf116
  v46 := Tryz.zeroValue116 }
open Go.RowKit Go.Lib in
theorem Tryz.strings_ContainsRune_ascii (s : ByteArray) (r : Int) (w : World) (h0 : 0 ≤ r) (h1 : r < 128) :
    Calls Tryz.prog 99 #[.string s, .int .i32 r] w fun e w' => e = .returned (.bool (decide (0 ≤ Lib.indexByte s.data.toList r.toNat.toUInt8))) ∧ w' = w := Any.strings_ContainsRune_ascii Tryz.lays151 s r w h0 h1
end Go.Proofs

/- The program's lexer: its smallest functions. -/
namespace Go.Proofs.YtaklephcgepfjaaGreatDoor
open Go.RowKit

theorem letter_c (c : Int) (w : World) : Calls Tryz.prog 59 #[.int .u8 c] w fun e w' => e = .returned (.bool (letterI c)) ∧ w = w' := by
  by_cases a1 : 97 ≤ c
  · by_cases a2 : c ≤ 122
    · have hr : letterI c = true := by simp [letterI, a1, a2]
      rw [hr]
      go_enter Tryz.func59, Tryz.ntmps59
      go_wp2
      go_ret
      exact ⟨rfl, rfl⟩
    · have a3 : (c == 95) = false := by simp; omega
      have hr : letterI c = false := by simp [letterI]; omega
      rw [hr]
      go_enter Tryz.func59, Tryz.ntmps59
      go_wp2
      go_ret
      exact ⟨rfl, rfl⟩
  · have hr : letterI c = (c == 95) := by simp [letterI, a1]
    rw [hr]
    clear hr
    go_enter Tryz.func59, Tryz.ntmps59
    go_wp2
    go_ret
    exact ⟨rfl, rfl⟩

theorem digit_c (c : Int) (w : World) : Calls Tryz.prog 62 #[.int .u8 c] w fun e w' => e = .returned (.bool (digitI c)) ∧ w = w' := by
  by_cases a1 : 48 ≤ c
  · have hr : digitI c = decide (c ≤ 57) := by simp [digitI, a1]
    rw [hr]
    clear hr
    go_enter Tryz.func62, Tryz.ntmps62
    go_wp2
    go_ret
    exact ⟨rfl, rfl⟩
  · have hr : digitI c = false := by simp [digitI, a1]
    rw [hr]
    clear hr
    go_enter Tryz.func62, Tryz.ntmps62
    go_wp2
    go_ret
    exact ⟨rfl, rfl⟩

/-- token's first closure -/
theorem part_c (c : Int) (w : World) : Calls Tryz.prog 61 #[.int .u8 c] w fun e w' => e = .returned (.bool (letterI c || digitI c)) ∧ w = w' := by
  cases hl : letterI c with
  | true =>
    go_enter Tryz.func61, Tryz.ntmps61
    go_wp2_with fail
    refine (letter_c c _).mono ?_
    rw [hl]
    rintro e w' ⟨rfl, rfl⟩
    go_wp2_with fail
    go_ret
    exact ⟨rfl, rfl⟩
  | false =>
    go_enter Tryz.func61, Tryz.ntmps61
    go_wp2_with fail
    refine (letter_c c _).mono ?_
    rw [hl]
    rintro e w' ⟨rfl, rfl⟩
    go_wp2_with fail
    refine (digit_c c _).mono ?_
    rintro e w' ⟨rfl, rfl⟩
    go_wp2_with fail
    go_ret
    exact ⟨rfl, rfl⟩

theorem lfail_c (p : Value) (code at_ : Int) (w : World) : Calls Tryz.prog 65 #[p, .int .i64 code, .int .i64 at_] w fun e w' =>
    e = .panicked [{ v := .iface 76 (.agg #[.int .i64 code, .int .i64 0, .int .i64 at_]), recovered := false }] ∧ w = w' := by
  go_enter Tryz.func65, Tryz.ntmps65
  go_wp2
  exact ⟨rfl, rfl, rfl⟩

/-- Is a byte a tab, a line feed, a carriage return? -/
theorem rune_ascii (c : Int) (h0 : 0 ≤ c) (h1 : c < 128) (w : World) : Calls Tryz.prog 99 #[.string (⟨#[9, 10, 13]⟩ : ByteArray), .int .i32 c] w fun e w' => e = .returned (.bool (c == 9 || c == 10 || c == 13)) ∧ w = w' := by
  refine (Tryz.strings_ContainsRune_ascii _ c w h0 h1).mono ?_
  rintro e w' ⟨rfl, rfl⟩
  refine ⟨ret_bool ?_, rfl⟩
  obtain ⟨n, rfl⟩ := Int.eq_ofNat_of_zero_le h0
  have key : ∀ n : Fin 128, decide (0 ≤ Lib.indexByte (⟨#[9, 10, 13]⟩ : ByteArray).data.toList ((n.val : Int).toNat.toUInt8)) = ((n.val : Int) == 9 || (n.val : Int) == 10 || (n.val : Int) == 13) := by decide
  exact key ⟨n, by omega⟩


set_option maxRecDepth 100000 in
theorem rune_wide (c : Int) (h0 : 128 ≤ c) (h1 : c < 256) (w : World) : Calls Tryz.prog 121 #[.string (⟨#[9, 10, 13]⟩ : ByteArray), .int .i32 c] w fun e w' => e = .returned (.int .i64 (-1)) ∧ ∃ n, w' = w.drewN n := by
  obtain ⟨b1, b2, hb, hb2⟩ : ∃ b1 b2 : UInt8, (∀ w, (convert 21 9 (.int .i32 c)).run Tryz.prog w = .ok (.string ⟨#[b1, b2]⟩) w) ∧ 128 ≤ b2.toNat := by
    refine ⟨UInt8.ofNat (0xC0 + c.toNat / 64), UInt8.ofNat (0x80 + c.toNat % 64), fun w => ?_, ?_⟩
    · have hv : Utf8.encode c = ⟨#[UInt8.ofNat (0xC0 + c.toNat / 64), UInt8.ofNat (0x80 + c.toNat % 64)]⟩ := by
        have h1 : Utf8.valid c = true := by simp [Utf8.valid]; omega
        simp only [Utf8.encode, h1, if_true]
        rw [if_neg (by omega), if_pos (by omega)]
      simp [convert, run_underlying Tryz.underlying21, run_underlying Tryz.underlying9, Conv.intToString, hv, Result.andThen]
    · rw [UInt8.toNat_ofNat']
      omega
  have hl : ¬ c < 128 := by omega
  have hlf : decide (c < 128) = false := by simp; omega
  have hn : (c == 65533) = false := by simp; omega
  go_enter Tryz.func121, Tryz.ntmps121
  go_wp2_with (go_at_call 139; go_in)
  go_step3
  go_wp2_with fail
  refine wp_loop_rounds 1 ?_
  rw [rounds_succ]
  have hx : ((10 : Int) != (b2.toNat : Int)) = true := by simp; omega
  have hwr : IntKind.i64.wrap 2 = 2 := IntWalk.i64_in _ (by omega)
  have e1 : (ByteArray.mk #[9, 10, 13])[1] = 10 := rfl
  have e2 : (ByteArray.mk #[b1, b2])[1]'(show 1 < 2 by omega) = b2 := rfl
  have HC := Lib.hid (fun w => (Tryz.strings_IndexByte ((ByteArray.mk #[9, 10, 13]).extract 2 3) (b2.toNat : Int) w))
  have HI : Hid (Lib.indexByte ((ByteArray.mk #[9, 10, 13]).extract 2 3).data.toList ((b2.toNat : Int).toNat.toUInt8) = -1) := Lib.hid (by
    have he : ((ByteArray.mk #[9, 10, 13]).extract 2 3).data.toList = [13] := by decide
    rw [he]
    simp [Lib.indexByte]
    intro h
    have := congrArg UInt8.toNat h
    simp at this
    omega)
  rw [HI.out] at HC
  go_wp2_with fail
  go_step3
  go_wp2_with fail
  go_quiet (fail)
  obtain ⟨w1, hw1⟩ : ∃ w1, w1 = w.drewN nq := ⟨_, rfl⟩
  rw [← hw1]
  have HW := Lib.hid hw1; clear hw1
  go_wp2_with fail
  go_quiet ((go_at_call 138; exact Calls.quiet_of_same (HC.out _)))
  go_wp2_with fail
  simp only [Exit.noGoto_ret, Exit.inBlock, Exit.then]
  go_ret
  exact ⟨rfl, _, by rw [HW.out]; exact World.drewN_drewN _ _ _⟩

theorem contains_rune (c : Int) (h0 : 0 ≤ c) (h1 : c < 256) (w : World) : Calls Tryz.prog 99 #[.string (⟨#[9, 10, 13]⟩ : ByteArray), .int .i32 c] w fun e w' => e = .returned (.bool (c == 9 || c == 10 || c == 13)) ∧ ∃ n, w' = w.drewN n := by
  by_cases hc : c < 128
  · exact (rune_ascii c h0 hc w).mono fun _ _ ⟨h, h'⟩ => ⟨h, 0, h' ▸ rfl⟩
  · have hr : (c == 9 || c == 10 || c == 13) = false := by simp; omega
    rw [hr]
    go_enter Tryz.func99, Tryz.ntmps99
    go_wp2_with fail
    refine (rune_wide c (by omega) h1 _).mono ?_
    rintro e w' ⟨rfl, n, rfl⟩
    go_wp2_with fail
    go_ret
    exact ⟨rfl, n, rfl⟩

/-- The lexer at block bs. -/
def SC (w : World) (bs : Nat) (s : ByteArray) (i : Nat) : Prop := w.heap[bs]? = some (.cells #[.string s, .int .i64 i] 79 (0, 0))

def lexBad (code pos : Int) : Ending := .panicked [{ v := .iface 76 (.agg #[.int .i64 code, .int .i64 0, .int .i64 pos]), recovered := false }]

section
variable (bs i : Nat) (s : ByteArray) (w : World) (h : w.heap[bs]? = some (.cells #[.string s, .int .i64 i] 79 (0, 0))) (j : Nat) (hj : j < s.size)
include h hj

set_option maxRecDepth 100000 in
/-- look -/
theorem look_c : Calls Tryz.prog 57 #[.pointer (some ⟨bs, 0, none⟩), .int .i64 j] w fun e w' =>
    e = (if standsI (bt s j) then .returned (.int .u8 (bt s j)) else lexBad 4 j) ∧ ∃ n, w' = w.drewN n := by
  have h0 : w.cell? ⟨bs, 0, none⟩ = some (.string s) := cell_blk h
  have b0 := bt_lo s j
  have b1 := bt_hi s j
  have hb := bt_eq hj
  generalize bt s j = c at *
  have hc := hb.symm
  clear hb h
  by_cases a1 : 32 ≤ c
  · have d1 : decide (c < 32) = false := by simp; omega
    by_cases a2 : c ≤ 126
    · have d2 : decide (126 < c) = false := by simp; omega
      have d3 : decide (128 ≤ c) = false := by simp; omega
      have hst : standsI c = true := by simp [standsI, a1, a2]
      rw [hst, if_pos rfl]
      clear hst
      go_enter Tryz.func57, Tryz.ntmps57
      go_wp2_with fail
      go_ret
      exact ⟨rfl, 0, rfl⟩
    · have d2 : decide (126 < c) = true := by simp; omega
      have hst : standsI c = false := by simp [standsI, blankI]; omega
      rw [hst, if_neg (by decide)]
      clear hst
      have hr : (c == 9 || c == 10 || c == 13) = false := by simp; omega
      have HC := Lib.hid (contains_rune c b0 b1)
      rw [hr] at HC
      go_enter Tryz.func57, Tryz.ntmps57
      go_wp2_with fail
      refine (HC.out _).mono ?_
      rintro e w' ⟨rfl, n, rfl⟩
      go_wp2_with fail
      refine (lfail_c _ 4 j _).mono ?_
      rintro e w' ⟨rfl, rfl⟩
      go_wp2
      exact ⟨rfl, rfl, n, rfl⟩
  · have d1 : decide (c < 32) = true := by simp; omega
    have d3 : decide (128 ≤ c) = false := by simp; omega
    have HC := Lib.hid (contains_rune c b0 b1)
    have hsi : standsI c = (c == 9 || c == 10 || c == 13) := by
      rw [Bool.eq_iff_iff]
      simp [standsI, blankI]
      omega
    rw [hsi]
    cases hr : (c == 9 || c == 10 || c == 13) with
    | true =>
      rw [hr] at HC
      rw [if_pos rfl]
      clear hsi hr
      go_enter Tryz.func57, Tryz.ntmps57
      go_wp2_with fail
      refine (HC.out _).mono ?_
      rintro e w' ⟨rfl, n, rfl⟩
      go_wp2_with fail
      go_ret
      exact ⟨rfl, n, rfl⟩
    | false =>
      rw [hr] at HC
      rw [if_neg (by decide)]
      clear hsi hr
      go_enter Tryz.func57, Tryz.ntmps57
      go_wp2_with fail
      refine (HC.out _).mono ?_
      rintro e w' ⟨rfl, n, rfl⟩
      go_wp2_with fail
      refine (lfail_c _ 4 j _).mono ?_
      rintro e w' ⟨rfl, rfl⟩
      go_wp2
      exact ⟨rfl, rfl, n, rfl⟩
end

theorem bytes_inj' (a b : ByteArray) : a.toList = b.toList ↔ a = b := by
  rw [ByteArray.toList_eq, ByteArray.toList_eq]
  exact ⟨fun h => ByteArray.ext (Array.toList_inj.mp h), fun h => by rw [h]⟩

/-- strings.HasPrefix -/
theorem hasPrefix_c (s x : ByteArray) (w : World) : Calls Tryz.prog 58 #[.string s, .string x] w fun e w' => e = .returned (.bool (decide (x.size ≤ s.size) && decide (s.extract 0 x.size = x))) ∧ ∃ n, w' = w.drewN n := by
  have hk : Calls Tryz.prog 100 #[.string s, .string x] w fun e w' => e = .returned (.bool (decide (x.size ≤ s.size) && decide (s.extract 0 x.size = x))) ∧ ∃ n, w' = w.drewN n := by
    by_cases hx : x.size ≤ s.size
    · go_enter Tryz.func100, Tryz.ntmps100
      go_wp2_with fail
      go_ret
      refine ⟨ret_bool ?_, 0, rfl⟩
      rw [Bool.eq_iff_iff]
      simp [hx, bytes_inj']
    · have hx' : decide (x.size ≤ s.size) = false := by simpa using hx
      go_enter Tryz.func100, Tryz.ntmps100
      go_wp2_with fail
      go_ret
      exact ⟨ret_bool (by simp [hx]), 0, rfl⟩
  have HK := Lib.hid hk; clear hk
  go_enter Tryz.func58, Tryz.ntmps58
  go_wp2_with fail
  refine HK.out.mono ?_
  rintro e w' ⟨rfl, n, rfl⟩
  go_wp2_with fail
  go_ret
  exact ⟨rfl, n, rfl⟩

end Go.Proofs.YtaklephcgepfjaaGreatDoor

/- The program's lexer: what goes on as long as bytes are so; blanks and notes; words, signs. -/
namespace Go.Proofs.YtaklephcgepfjaaGreatDoor
open Go.RowKit

set_option maxRecDepth 100000 in
/-- while, over part -/
theorem while_part (bs i0 i : Nat) (s : ByteArray) (w : World) (h : w.heap[bs]? = some (.cells #[.string s, .int .i64 i0] 79 (0, 0))) (hi : i ≤ s.size) (hs : s.size ≤ 5000) :
    Calls Tryz.prog 60 #[.pointer (some ⟨bs, 0, none⟩), .int .i64 i, .func (.func 61) #[] #[]] w fun e w' => e = .returned (.int .i64 (whileR (fun c => letterI c || digitI c) s i)) ∧ w' = w := by
  have h0 : w.cell? ⟨bs, 0, none⟩ = some (.string s) := cell_blk h
  clear h
  go_enter Tryz.func60, Tryz.ntmps60
  go_wp2_with fail
  go_loopg [1] s.size (fun m v wr => ∃ k : Nat, v = .int .i64 k ∧ k ≤ s.size ∧ s.size - k ≤ m ∧ whileR (fun c => letterI c || digitI c) s i = whileR (fun c => letterI c || digitI c) s k ∧ wr = w)
  case atStart => exact ⟨i, rfl, hi, by omega, rfl, rfl⟩
  case round =>
    obtain ⟨k, rfl, hk, hm, he, hw⟩ := hrel
    have HE := Lib.hid he; have HW := Lib.hid hw; clear he
    have g0 : wr.cell? ⟨bs, 0, none⟩ = some (.string s) := by rw [hw]; exact h0
    clear hw
    by_cases hlt : k < s.size
    · have hb := bt_eq hlt
      obtain ⟨c, hc⟩ : ∃ c, (s[k].toNat : Int) = c := ⟨_, rfl⟩
      rw [hc] at hb
      have HB := Lib.hid hb; clear hb
      have hd : decide ((k : Int) < (s.size : Int)) = true := by simp; omega
      have hd2 : decide (k < s.size) = true := by simp; omega
      cases hp : (fun c => letterI c || digitI c) c with
      | true =>
        have HC := Lib.hid (part_c c); simp only [hp] at HC
        have HPP := Lib.hid hp; clear hp
        go_wp2_with fail
        refine (HC.out _).mono ?_
        rintro e w' ⟨rfl, rfl⟩
        go_wp2_with fail
        go_roundg (gk - 1)
        case rel => exact ⟨k + 1, by go_num, by omega, by omega, by rw [HE.out, whileR, if_pos ⟨hlt, by rw [HB.out]; exact HPP.out⟩], HW.out⟩
        case measure => omega
      | false =>
        have HC := Lib.hid (part_c c); simp only [hp] at HC
        have HPP := Lib.hid hp; clear hp
        go_wp2_with fail
        refine (HC.out _).mono ?_
        rintro e w' ⟨rfl, rfl⟩
        go_wp2_with fail
        go_ret
        refine ⟨ret_int ?_, HW.out⟩
        rw [HE.out, whileR, if_neg (fun e => by rw [HB.out] at e; have := HPP.out; simp_all)]
    · have hd : decide ((k : Int) < (s.size : Int)) = false := by simp; omega
      have hd2 : decide (k < s.size) = false := by simp; omega
      go_wp2_with fail
      go_ret
      refine ⟨ret_int ?_, HW.out⟩
      rw [HE.out, whileR, if_neg (fun e => hlt e.1)]

set_option maxRecDepth 100000 in
/-- while, over digit -/
theorem while_digit (bs i0 i : Nat) (s : ByteArray) (w : World) (h : w.heap[bs]? = some (.cells #[.string s, .int .i64 i0] 79 (0, 0))) (hi : i ≤ s.size) (hs : s.size ≤ 5000) :
    Calls Tryz.prog 60 #[.pointer (some ⟨bs, 0, none⟩), .int .i64 i, .func (.func 62) #[] #[]] w fun e w' => e = .returned (.int .i64 (whileR digitI s i)) ∧ w' = w := by
  have h0 : w.cell? ⟨bs, 0, none⟩ = some (.string s) := cell_blk h
  clear h
  go_enter Tryz.func60, Tryz.ntmps60
  go_wp2_with fail
  go_loopg [1] s.size (fun m v wr => ∃ k : Nat, v = .int .i64 k ∧ k ≤ s.size ∧ s.size - k ≤ m ∧ whileR digitI s i = whileR digitI s k ∧ wr = w)
  case atStart => exact ⟨i, rfl, hi, by omega, rfl, rfl⟩
  case round =>
    obtain ⟨k, rfl, hk, hm, he, hw⟩ := hrel
    have HE := Lib.hid he; have HW := Lib.hid hw; clear he
    have g0 : wr.cell? ⟨bs, 0, none⟩ = some (.string s) := by rw [hw]; exact h0
    clear hw
    by_cases hlt : k < s.size
    · have hb := bt_eq hlt
      obtain ⟨c, hc⟩ : ∃ c, (s[k].toNat : Int) = c := ⟨_, rfl⟩
      rw [hc] at hb
      have HB := Lib.hid hb; clear hb
      have hd : decide ((k : Int) < (s.size : Int)) = true := by simp; omega
      have hd2 : decide (k < s.size) = true := by simp; omega
      cases hp : digitI c with
      | true =>
        have HC := Lib.hid (digit_c c); simp only [hp] at HC
        have HPP := Lib.hid hp; clear hp
        go_wp2_with fail
        refine (HC.out _).mono ?_
        rintro e w' ⟨rfl, rfl⟩
        go_wp2_with fail
        go_roundg (gk - 1)
        case rel => exact ⟨k + 1, by go_num, by omega, by omega, by rw [HE.out, whileR, if_pos ⟨hlt, by rw [HB.out]; exact HPP.out⟩], HW.out⟩
        case measure => omega
      | false =>
        have HC := Lib.hid (digit_c c); simp only [hp] at HC
        have HPP := Lib.hid hp; clear hp
        go_wp2_with fail
        refine (HC.out _).mono ?_
        rintro e w' ⟨rfl, rfl⟩
        go_wp2_with fail
        go_ret
        refine ⟨ret_int ?_, HW.out⟩
        rw [HE.out, whileR, if_neg (fun e => by rw [HB.out] at e; have := HPP.out; simp_all)]
    · have hd : decide ((k : Int) < (s.size : Int)) = false := by simp; omega
      have hd2 : decide (k < s.size) = false := by simp; omega
      go_wp2_with fail
      go_ret
      refine ⟨ret_int ?_, HW.out⟩
      rw [HE.out, whileR, if_neg (fun e => hlt e.1)]

end Go.Proofs.YtaklephcgepfjaaGreatDoor

/- The program's lexer: blanks and notes. -/
namespace Go.Proofs.YtaklephcgepfjaaGreatDoor
open Go.RowKit

theorem skip_end {s : ByteArray} {b : Bool} {i : Nat} (h : ¬ i < s.size) : skipR s b i = (i, false) := by rw [skipR, if_neg h]
theorem skip_bad {s : ByteArray} {b : Bool} {i : Nat} (h : i < s.size) (hs : standsI (bt s i) = false) : skipR s b i = (i, true) := by rw [skipR, if_pos h, if_pos hs]
theorem skip_blank {s : ByteArray} {i : Nat} (h : i < s.size) (hb : blankI (bt s i) = true) : skipR s false i = skipR s false (i + 1) := by
  have hs : standsI (bt s i) = true := by simp [standsI, hb]
  rw [skipR, if_pos h, if_neg (by rw [hs]; decide), if_neg (by decide), if_pos hb]
theorem skip_note {s : ByteArray} {i : Nat} (h : i + 1 < s.size) (h1 : bt s i = 47) (h2 : bt s (i + 1) = 47) : skipR s false i = skipR s true i := by
  have hs : standsI (bt s i) = true := by rw [h1]; decide
  have hb : blankI (bt s i) = false := by rw [h1]; decide
  rw [skipR, if_pos (by omega), if_neg (by rw [hs]; decide), if_neg (by decide), if_neg (by rw [hb]; decide), if_pos ⟨h, h1, h2⟩]
  rw [skipR.eq_def s true i, if_pos (by omega), if_neg (by rw [hs]; decide), if_pos rfl, h1]
  rfl
theorem skip_other {s : ByteArray} {i : Nat} (h : i < s.size) (hs : standsI (bt s i) = true) (hb : blankI (bt s i) = false) (hn : ¬ (i + 1 < s.size ∧ bt s i = 47 ∧ bt s (i + 1) = 47)) : skipR s false i = (i, false) := by
  rw [skipR, if_pos h, if_neg (by rw [hs]; decide), if_neg (by decide), if_neg (by rw [hb]; decide), if_neg hn]
theorem skip_on {s : ByteArray} {i : Nat} (h : i < s.size) (hs : standsI (bt s i) = true) (hb : bt s i ≠ 10) : skipR s true i = skipR s true (i + 1) := by
  rw [skipR, if_pos h, if_neg (by rw [hs]; decide), if_pos rfl]
  have : (bt s i != 10) = true := by simp [hb]
  rw [this]
theorem skip_line {s : ByteArray} {i : Nat} (h : i < s.size) (hb : bt s i = 10) : skipR s true i = skipR s false i := by
  have hs : standsI (bt s i) = true := by rw [hb]; decide
  rw [skip_blank h (by rw [hb]; decide), skipR, if_pos h, if_neg (by rw [hs]; decide), if_pos rfl, hb]
  rfl

/-- '//' stands at a place. -/
theorem size_len (s : ByteArray) : s.data.toList.length = s.size := rfl

theorem drop_cons (s : ByteArray) (i : Nat) (h : i < s.size) : s.data.toList.drop i = s[i] :: s.data.toList.drop (i + 1) := by
  rw [List.drop_eq_getElem_cons (by rw [size_len]; exact h)]
  rfl

theorem bytes_ext (a b : ByteArray) : a = b ↔ a.data.toList = b.data.toList :=
  ⟨fun h => by rw [h], fun h => ByteArray.ext (Array.toList_inj.mp h)⟩

theorem byte_eq (b : UInt8) (n : Nat) (hn : n < 256) : ((b.toNat : Int) = (n : Int)) ↔ b = UInt8.ofNat n := by
  constructor
  · intro h
    apply UInt8.toNat_inj.1
    rw [UInt8.toNat_ofNat']
    omega
  · intro h
    subst h
    rw [UInt8.toNat_ofNat']
    omega

theorem note_iff (s : ByteArray) (i : Nat) (hi : i < s.size) : (decide (2 ≤ (s.extract i s.size).size) && decide ((s.extract i s.size).extract 0 2 = (⟨#[47, 47]⟩ : ByteArray))) = true ↔ (i + 1 < s.size ∧ bt s i = 47 ∧ bt s (i + 1) = 47) := by
  rw [Bool.and_eq_true, decide_eq_true_eq, decide_eq_true_eq, ByteArray.size_extract]
  have key : ∀ h : i + 1 < s.size, ((s.extract i s.size).extract 0 2 = (⟨#[47, 47]⟩ : ByteArray) ↔ bt s i = 47 ∧ bt s (i + 1) = 47) := fun h => by
    rw [bytes_ext, Lib.extract_data, Lib.extract_to_end, drop_cons s i hi, drop_cons s (i + 1) h, bt_eq hi, bt_eq h]
    have h1 := byte_eq s[i] 47 (by omega)
    have h2 := byte_eq s[i + 1] 47 (by omega)
    simp only [List.drop_zero, Nat.sub_zero, List.take_succ_cons, List.take_zero]
    rw [show ((47 : Int)) = ((47 : Nat) : Int) from rfl, h1, h2]
    simp
  constructor
  · rintro ⟨h1, h2⟩
    have h3 : i + 1 < s.size := by omega
    exact ⟨h3, (key h3).1 h2⟩
  · rintro ⟨h1, h2⟩
    exact ⟨by omega, (key h1).2 h2⟩

def BlankPost (w : World) (bs : Nat) (s : ByteArray) (r : Nat × Bool) (e : Ending) (w' : World) : Prop :=
  Upd w (fun k => k = bs) w' (fun k => k = bs) ∧ if r.2 then e = lexBad 4 r.1 else e = .returned (.tuple #[]) ∧ w'.heap[bs]? = some (.cells #[.string s, .int .i64 r.1] 79 (0, 0))

/-- The loops of blank: at place k, in a note or not. -/
def BlankInv (w : World) (bs : Nat) (s : ByteArray) (r : Nat × Bool) (b : Bool) (m : Nat) (wr : World) : Prop :=
  ∃ k : Nat, k ≤ s.size ∧ s.size - k ≤ m ∧ r = skipR s b k ∧ wr.heap[bs]? = some (.cells #[.string s, .int .i64 k] 79 (0, 0)) ∧ Upd w (fun k => k = bs) wr (fun k => k = bs)

/-- The inner loop, begun at place k0. -/
def NoteInv (w : World) (bs : Nat) (s : ByteArray) (r : Nat × Bool) (k0 m : Nat) (wr : World) : Prop :=
  ∃ k : Nat, k0 ≤ k ∧ k ≤ s.size ∧ s.size - k ≤ m ∧ r = skipR s true k ∧ wr.heap[bs]? = some (.cells #[.string s, .int .i64 k] 79 (0, 0)) ∧ Upd w (fun k => k = bs) wr (fun k => k = bs)

set_option maxRecDepth 100000 in
set_option maxHeartbeats 3000000 in
theorem blank_c (bs i : Nat) (s : ByteArray) (w : World) (h : w.heap[bs]? = some (.cells #[.string s, .int .i64 i] 79 (0, 0))) (hi : i ≤ s.size) (hs : s.size ≤ 5000) :
    Calls Tryz.prog 32 #[.pointer (some ⟨bs, 0, none⟩)] w (BlankPost w bs s (skipR s false i)) := by
  have HI : Hid (BlankInv w bs s (skipR s false i) false s.size w) := ⟨i, hi, by omega, rfl, h, Upd.refl _ _⟩
  generalize skipR s false i = r at *
  clear h hi
  go_enter Tryz.func32, Tryz.ntmps32
  go_wp2_with fail
  go_loopg [] s.size (fun m wr => BlankInv w bs s r false m wr)
  case atStart => exact HI.out
  case round =>
    clear HI
    obtain ⟨k, hk, hm, he, hb, hu⟩ := hrel
    have h0 : wr.cell? ⟨bs, 0, none⟩ = some (.string s) := cell_blk hb
    have h1 : wr.cell? ⟨bs, 1, none⟩ = some (.int .i64 k) := cell_blk hb
    have f1 : wr.frozen? ⟨bs, 1, none⟩ = false := free_blk hb
    have HE := Lib.hid he; have HU := Lib.hid hu; have HB := Lib.hid hb; have HM := Lib.hid hm
    clear he hu hb hm
    by_cases hlt : k < s.size
    · have hd : decide ((k : Int) < (s.size : Int)) = true := by simp; omega
      have hd2 : decide (k < s.size) = true := by simp; omega
      go_wp2_with fail
      go_quiet (fail)
      generalize hw1 : wr.drewN nq = w1
      have HB1 : Hid (w1.heap[bs]? = some (.cells #[.string s, .int .i64 k] 79 (0, 0))) := by rw [← hw1]; exact HB.out
      have HU1 : Hid (Upd w (fun k => k = bs) w1 (fun k => k = bs)) := by rw [← hw1]; exact HU.out.drewN _
      clear hw1 h0 h1 f1 hd hd2 HB HU
      have h1 : w1.cell? ⟨bs, 1, none⟩ = some (.int .i64 k) := cell_blk HB1.out
      have HL := Lib.hid (look_c bs k s w1 HB1.out k hlt)
      cases hst : standsI (bt s k) with
      | false =>
        rw [hst, if_neg (by decide)] at HL
        have HS := Lib.hid hst; clear hst
        go_wp2_with fail
        refine HL.out.mono ?_
        rintro e w' ⟨he, n, rfl⟩
        unfold lexBad at he
        subst he
        go_wp2
        refine ⟨rfl, ?_⟩
        unfold BlankPost
        rw [HE.out, skip_bad hlt HS.out]
        exact ⟨HU1.out.drewN _, rfl⟩
      | true =>
        rw [hst, if_pos rfl] at HL
        have HS := Lib.hid hst; clear hst
        obtain ⟨c, hc⟩ : ∃ c, c = bt s k := ⟨_, rfl⟩
        rw [← hc] at HL
        have HC := Lib.hid hc; clear hc
        go_wp2_with fail
        refine HL.out.mono ?_
        rintro e w2 ⟨rfl, n, hw2⟩
        have HB2 : Hid (w2.heap[bs]? = some (.cells #[.string s, .int .i64 k] 79 (0, 0))) := by rw [hw2]; exact HB1.out
        have HU2 : Hid (Upd w (fun k => k = bs) w2 (fun k => k = bs)) := by rw [hw2]; exact HU1.out.drewN _
        clear hw2 h1 HL HB1 HU1
        have h0 : w2.cell? ⟨bs, 0, none⟩ = some (.string s) := cell_blk HB2.out
        have h1 : w2.cell? ⟨bs, 1, none⟩ = some (.int .i64 k) := cell_blk HB2.out
        have f1 : w2.frozen? ⟨bs, 1, none⟩ = false := free_blk HB2.out
        cases hbl : blankI c with
        | true =>
          have hcs : c = 32 ∨ c = 9 ∨ c = 13 ∨ c = 10 := by simpa [blankI, or_assoc] using hbl
          have HBL := Lib.hid hbl; clear hbl
          have HR : Hid (BlankInv w bs s r false (gk - 1) (w2.setCell ⟨bs, 1, none⟩ (.int .i64 (k + 1 : Nat)))) := ⟨k + 1, hlt, by have := HM.out; omega, by rw [HE.out, skip_blank hlt (by rw [← HC.out]; exact HBL.out)], blk_setCell HB2.out _, HU2.out.setCell (a := ⟨bs, 1, none⟩) (.inl rfl) _⟩
          have HG : Hid (gk - 1 < gk) := by have := HM.out; show gk - 1 < gk; omega
          clear HBL
          have HCS := Lib.hid hcs; clear hcs
          rcases HCS.out with e | e | e | e
          all_goals
            rw [e]
            clear e
            go_wp2_with fail
            go_roundg (gk - 1)
            case rel => exact HR.out
            case measure => exact HG.out
        | false =>
          have hcs : (c == 32) = false ∧ (c == 9) = false ∧ (c == 13) = false ∧ (c == 10) = false := by simpa [blankI, and_assoc] using hbl
          obtain ⟨q1, q2, q3, q4⟩ := hcs
          have HBL := Lib.hid hbl; clear hbl
          have HP := Lib.hid (hasPrefix_c (s.extract k s.size) (⟨#[47, 47]⟩ : ByteArray))
          cases hpx : (decide (2 ≤ (s.extract k s.size).size) && decide ((s.extract k s.size).extract 0 2 = (⟨#[47, 47]⟩ : ByteArray))) with
          | false =>
            have HN : Hid (¬ (k + 1 < s.size ∧ bt s k = 47 ∧ bt s (k + 1) = 47)) := fun e => by rw [(note_iff s k hlt).2 e] at hpx; cases hpx
            have HP2 : Hid (∀ w, Calls Tryz.prog 58 #[.string (s.extract k s.size), .string (⟨#[47, 47]⟩ : ByteArray)] w fun e w' => e = .returned (.bool false) ∧ ∃ n, w' = w.drewN n) := fun w => by
              have := HP.out w
              rw [show (decide (((⟨#[47, 47]⟩ : ByteArray) : ByteArray).size ≤ (s.extract k s.size).size) && decide ((s.extract k s.size).extract 0 ((⟨#[47, 47]⟩ : ByteArray) : ByteArray).size = (⟨#[47, 47]⟩ : ByteArray))) = false from hpx] at this
              exact this
            clear hpx HP
            go_wp2_with fail
            go_quiet ((go_at_call 58; exact Calls.quiet_of (HP2.out _)))
            go_wp2_with fail
            first | refine bodyPost_end (results_none rfl _ _ _) rfl ?_ | refine bodyPost_ret (results_none rfl _ _ _) rfl ?_
            unfold BlankPost
            rw [HE.out, skip_other hlt HS.out (by rw [← HC.out]; exact HBL.out) HN.out]
            exact ⟨HU2.out.drewN _, rfl, HB2.out⟩
          | true =>
            have HN : Hid (k + 1 < s.size ∧ bt s k = 47 ∧ bt s (k + 1) = 47) := (note_iff s k hlt).1 hpx
            have HP2 : Hid (∀ w, Calls Tryz.prog 58 #[.string (s.extract k s.size), .string (⟨#[47, 47]⟩ : ByteArray)] w fun e w' => e = .returned (.bool true) ∧ ∃ n, w' = w.drewN n) := fun w => by
              have := HP.out w
              rw [show (decide (((⟨#[47, 47]⟩ : ByteArray) : ByteArray).size ≤ (s.extract k s.size).size) && decide ((s.extract k s.size).extract 0 ((⟨#[47, 47]⟩ : ByteArray) : ByteArray).size = (⟨#[47, 47]⟩ : ByteArray))) = true from hpx] at this
              exact this
            clear hpx HP
            go_wp2_with fail
            go_quiet ((go_at_call 58; exact Calls.quiet_of (HP2.out _)))
            go_wp2_with fail
            have HI2 : Hid (NoteInv w bs s r k s.size (w2.drewN nq)) := ⟨k, Nat.le_refl _, by omega, by omega, by rw [HE.out, skip_note HN.out.1 HN.out.2.1 HN.out.2.2], HB2.out, HU2.out.drewN _⟩
            have HK : Hid (bt s k = 47) := HN.out.2.1
            have HM' : Hid (s.size - k ≤ gk) := HM.out
            have HLT : Hid (k < s.size) := hlt
            clear HP2 HB2 HU2 HE HN HM h0 h1 f1 HS HC hk hlt
            generalize w2.drewN nq = w3 at *
            obtain ⟨g0, hg0⟩ : ∃ g : Nat, g = gk := ⟨_, rfl⟩
            rw [← hg0] at HM'
            have HG0 := Lib.hid hg0; clear hg0
            go_loopg [] s.size (fun m wr => NoteInv w bs s r k m wr)
            case atStart => exact HI2.out
            case round =>
              clear HI2
              obtain ⟨k', hkk, hk, hm, he, hb, hu⟩ := hrel
              have h0 : wr.cell? ⟨bs, 0, none⟩ = some (.string s) := cell_blk hb
              have h1 : wr.cell? ⟨bs, 1, none⟩ = some (.int .i64 k') := cell_blk hb
              have f1 : wr.frozen? ⟨bs, 1, none⟩ = false := free_blk hb
              have HE := Lib.hid he; have HU := Lib.hid hu; have HB := Lib.hid hb; have HM := Lib.hid hm; have HKK := Lib.hid hkk
              clear he hu hb hm hkk
              by_cases hlt : k' < s.size
              · have hd : decide ((k' : Int) < (s.size : Int)) = true := by simp; omega
                have hd2 : decide (k' < s.size) = true := by simp; omega
                have HL := Lib.hid (fun n => look_c bs k' s (wr.drewN n) HB.out k' hlt)
                cases hst : standsI (bt s k') with
                | false => 
                  rw [hst] at HL
                  have HS := Lib.hid hst; clear hst
                  go_wp2_with fail
                  refine wp_tail 16 (by kernel_rfl) (by kernel_rfl) (fun W => W.heap[bs]? = some (.cells #[.string s, .int .i64 k'] 79 (0, 0)) ∧ Upd w (fun k => k = bs) W (fun k => k = bs)) ⟨HB.out, HU.out.drew⟩ ?_
                  clear h0 h1 f1 HL
                  rintro W ⟨hbW, huW⟩
                  have h0 : W.cell? ⟨bs, 0, none⟩ = some (.string s) := cell_blk hbW
                  have h1 : W.cell? ⟨bs, 1, none⟩ = some (.int .i64 k') := cell_blk hbW
                  have HBW := Lib.hid hbW; have HUW := Lib.hid huW; clear hbW huW
                  have HL := Lib.hid (look_c bs k' s W HBW.out k' hlt)
                  rw [HS.out, if_neg (by decide)] at HL
                  simp only [List.take_succ_cons, List.take_zero, List.drop_succ_cons, List.drop_zero]
                  repeat still_step
                  refine wpStill_nil ?_
                  go_wp2_with fail
                  refine HL.out.mono ?_
                  rintro e w' ⟨he, n, rfl⟩
                  unfold lexBad at he
                  subst he
                  go_wp2
                  refine ⟨rfl, ?_⟩
                  unfold BlankPost
                  rw [HE.out, skip_bad hlt HS.out]
                  exact ⟨HUW.out.drewN _, rfl⟩
                | true =>
                  rw [hst] at HL
                  simp only [if_true] at HL
                  have HS := Lib.hid hst; clear hst
                  obtain ⟨c, hc⟩ : ∃ c, c = bt s k' := ⟨_, rfl⟩
                  rw [← hc] at HL
                  have HC := Lib.hid hc; clear hc
                  by_cases hten : c = 10
                  · have hx : (c != 10) = false := by simp [hten]
                    have HT := Lib.hid hten; clear hten
                    go_wp2_with fail
                    go_quiet ((go_at_call 57; exact Calls.quiet_of (HL.out _)))
                    have hkne : k ≠ k' := fun e => by have := HK.out; rw [e, ← HC.out, HT.out] at this; cases this
                    have HR : Hid (BlankInv w bs s r false (g0 - 1) (wr.drewN nq)) := ⟨k', hk, by have := HM'.out; have := HKK.out; omega, by rw [HE.out, skip_line hlt (by rw [← HC.out]; exact HT.out)], HB.out, HU.out.drewN _⟩
                    have HG : Hid (g0 - 1 < g0) := by have := HM'.out; have := HLT.out; show g0 - 1 < g0; omega
                    clear hkne
                    go_wp2_with fail
                    go_roundg (g0 - 1)
                    case rel => exact HR.out
                    case measure => have h1 := HG.out; have h2 := HG0.out; omega
                  · have hx : (c != 10) = true := by simp [hten]
                    have HT := Lib.hid hten; clear hten
                    go_wp2_with fail
                    go_quiet ((go_at_call 57; exact Calls.quiet_of (HL.out _)))
                    have HR : Hid (NoteInv w bs s r k (gk - 1) ((wr.drewN nq).setCell ⟨bs, 1, none⟩ (.int .i64 (k' + 1 : Nat)))) := ⟨k' + 1, by have := HKK.out; omega, hlt, by have := HM.out; omega, by rw [HE.out, skip_on hlt HS.out (by rw [← HC.out]; exact HT.out)], blk_setCell (w := wr.drewN nq) HB.out _, (HU.out.drewN _).setCell (a := ⟨bs, 1, none⟩) (.inl rfl) _⟩
                    have HG : Hid (gk - 1 < gk) := by have := HM.out; show gk - 1 < gk; omega
                    go_wp2_with fail
                    go_roundg (gk - 1)
                    case rel => exact HR.out
                    case measure => exact HG.out
              · have hd : decide ((k' : Int) < (s.size : Int)) = false := by simp; omega
                have hd2 : decide (k' < s.size) = false := by simp; omega
                go_wp2_with fail
                go_quiet (fail)
                have HR : Hid (BlankInv w bs s r false (g0 - 1) (wr.drewN nq)) := ⟨k', hk, by have := HM'.out; have := HLT.out; omega, by rw [HE.out, skip_end hlt, skip_end hlt], HB.out, HU.out.drewN _⟩
                have HG : Hid (g0 - 1 < g0) := by have := HM'.out; have := HLT.out; show g0 - 1 < g0; omega
                go_wp2_with fail
                go_roundg (g0 - 1)
                case rel => exact HR.out
                case measure => have h1 := HG.out; have h2 := HG0.out; omega
    · have hd : decide ((k : Int) < (s.size : Int)) = false := by simp; omega
      have hd2 : decide (k < s.size) = false := by simp; omega
      go_wp2_with fail
      go_quiet (fail)
      go_wp2_with fail
      refine bodyPost_end (results_none rfl _ _ _) rfl ?_
      unfold BlankPost
      rw [HE.out, skip_end hlt]
      exact ⟨HU.out.drewN _, rfl, HB.out⟩

end Go.Proofs.YtaklephcgepfjaaGreatDoor

/- The reference's lexer: its smallest functions, and skip. -/
namespace Go.Proofs.YtaklephcgepfjaaGreatDoor
open Go.RowKit

theorem rletter_c (c : Int) (w : World) : Calls Tryz.prog 79 #[.int .u8 c] w fun e w' => e = .returned (.bool (letterI c)) ∧ w = w' := by
  by_cases a1 : 97 ≤ c
  · by_cases a2 : c ≤ 122
    · have hr : letterI c = true := by simp [letterI, a1, a2]
      rw [hr]
      go_enter Tryz.func79, Tryz.ntmps79
      go_wp2
      go_ret
      exact ⟨rfl, rfl⟩
    · have a3 : (c == 95) = false := by simp; omega
      have hr : letterI c = false := by simp [letterI]; omega
      rw [hr]
      go_enter Tryz.func79, Tryz.ntmps79
      go_wp2
      go_ret
      exact ⟨rfl, rfl⟩
  · have hr : letterI c = (c == 95) := by simp [letterI, a1]
    rw [hr]
    clear hr
    go_enter Tryz.func79, Tryz.ntmps79
    go_wp2
    go_ret
    exact ⟨rfl, rfl⟩

theorem rdigit_c (c : Int) (w : World) : Calls Tryz.prog 80 #[.int .u8 c] w fun e w' => e = .returned (.bool (digitI c)) ∧ w = w' := by
  by_cases a1 : 48 ≤ c
  · have hr : digitI c = decide (c ≤ 57) := by simp [digitI, a1]
    rw [hr]
    clear hr
    go_enter Tryz.func80, Tryz.ntmps80
    go_wp2
    go_ret
    exact ⟨rfl, rfl⟩
  · have hr : digitI c = false := by simp [digitI, a1]
    rw [hr]
    clear hr
    go_enter Tryz.func80, Tryz.ntmps80
    go_wp2
    go_ret
    exact ⟨rfl, rfl⟩

theorem rblank_c (c : Int) (w : World) : Calls Tryz.prog 78 #[.int .u8 c] w fun e w' => e = .returned (.bool (blankI c)) ∧ w = w' := by
  have key : ∀ r : Bool, (blankI c = r) → Calls Tryz.prog 78 #[.int .u8 c] w fun e w' => e = .returned (.bool r) ∧ w = w' := by
    intro r hr
    have HR := Lib.hid hr; clear hr
    by_cases a1 : c = 32
    · have e1 : (c == 32) = true := by simp [a1]
      obtain rfl : r = true := by rw [← HR.out]; simp [blankI, a1]
      clear a1
      go_enter Tryz.func78, Tryz.ntmps78
      go_wp2
      go_ret
      exact ⟨rfl, rfl⟩
    · have e1 : (c == 32) = false := by simp [a1]
      by_cases a2 : c = 9
      · have e2 : (c == 9) = true := by simp [a2]
        obtain rfl : r = true := by rw [← HR.out]; simp [blankI, a2]
        clear a1 a2
        go_enter Tryz.func78, Tryz.ntmps78
        go_wp2
        go_ret
        exact ⟨rfl, rfl⟩
      · have e2 : (c == 9) = false := by simp [a2]
        by_cases a3 : c = 13
        · have e3 : (c == 13) = true := by simp [a3]
          obtain rfl : r = true := by rw [← HR.out]; simp [blankI, a3]
          clear a1 a2 a3
          go_enter Tryz.func78, Tryz.ntmps78
          go_wp2
          go_ret
          exact ⟨rfl, rfl⟩
        · have e3 : (c == 13) = false := by simp [a3]
          obtain rfl : r = (c == 10) := by rw [← HR.out]; simp [blankI, a1, a2, a3]
          clear a1 a2 a3
          go_enter Tryz.func78, Tryz.ntmps78
          go_wp2
          go_ret
          exact ⟨rfl, rfl⟩
  exact key _ rfl

theorem rstands_c (c : Int) (w : World) : Calls Tryz.prog 77 #[.int .u8 c] w fun e w' => e = .returned (.bool (standsI c)) ∧ w = w' := by
  have HB := Lib.hid (rblank_c c w)
  cases hb : blankI c with
  | true =>
    rw [hb] at HB
    have hr : standsI c = true := by simp [standsI, hb]
    rw [hr]
    clear hr hb
    go_enter Tryz.func77, Tryz.ntmps77
    go_wp2_with fail
    refine HB.out.mono ?_
    rintro e w' ⟨rfl, rfl⟩
    go_wp2_with fail
    go_ret
    exact ⟨rfl, rfl⟩
  | false =>
    rw [hb] at HB
    by_cases a1 : 32 ≤ c
    · have hr : standsI c = decide (c ≤ 126) := by simp [standsI, hb, a1]
      rw [hr]
      clear hr hb
      go_enter Tryz.func77, Tryz.ntmps77
      go_wp2_with fail
      refine HB.out.mono ?_
      rintro e w' ⟨rfl, rfl⟩
      go_wp2_with fail
      go_ret
      exact ⟨rfl, rfl⟩
    · have hr : standsI c = false := by simp [standsI, hb, a1]
      rw [hr]
      clear hr hb
      go_enter Tryz.func77, Tryz.ntmps77
      go_wp2_with fail
      refine HB.out.mono ?_
      rintro e w' ⟨rfl, rfl⟩
      go_wp2_with fail
      go_ret
      exact ⟨rfl, rfl⟩

theorem ret_skip {a c : Int} {b d : Bool} (h : a = c) (h' : b = d) : Ending.returned (.tuple #[.int .i64 a, .bool b]) = .returned (.tuple #[.int .i64 c, .bool d]) := by rw [h, h']

def SkipInv (w : World) (s : ByteArray) (r : Nat × Bool) (m : Nat) (v1 v6 : Value) (W : World) : Prop :=
  ∃ (k : Nat) (note : Bool), v1 = .int .i64 k ∧ v6 = .bool note ∧ k ≤ s.size ∧ s.size - k ≤ m ∧ r = skipR s note k ∧ W = w

set_option maxRecDepth 100000 in
set_option maxHeartbeats 2000000 in
theorem rskip_c (i : Nat) (s : ByteArray) (w : World) (hi : i ≤ s.size) (hs : s.size ≤ 5000) (r : Nat × Bool) (HR0 : Hid (r = skipR s false i)) :
    Calls Tryz.prog 39 #[.string s, .int .i64 i] w fun e w' => e = .returned (.tuple #[.int .i64 r.1, .bool r.2]) ∧ w = w' := by
  have HI : Hid (SkipInv w s r s.size (.int .i64 i) (.bool false) w) := ⟨i, false, rfl, rfl, hi, by omega, HR0.out, rfl⟩
  clear hi HR0
  go_enter Tryz.func39, Tryz.ntmps39
  go_wp2_with fail
  go_loopg [1, 6] s.size (fun m v1 v6 wr => SkipInv w s r m v1 v6 wr)
  case atStart => exact HI.out
  case round =>
    clear HI
    obtain ⟨k, note, rfl, rfl, hk, hm, hr, hw⟩ := hrel
    have HR := Lib.hid hr; have HM := Lib.hid hm; have HW := Lib.hid hw
    clear hr hm hw
    by_cases hlt : k < s.size
    · have hd : decide ((k : Int) < (s.size : Int)) = true := by simp; omega
      have hd2 : decide (k < s.size) = true := by simp; omega
      have hb := bt_eq hlt
      obtain ⟨c, hc⟩ : ∃ c, (s[k].toNat : Int) = c := ⟨_, rfl⟩
      rw [hc] at hb
      have HB := Lib.hid hb; clear hb
      have HS := Lib.hid (rstands_c c)
      have HG : Hid (gk - 1 < gk) := Lib.hid (by have := HM.out; omega)
      cases hst : standsI c with
      | false =>
        rw [hst] at HS
        have HST := Lib.hid hst; clear hst
        go_wp2_with fail
        refine (HS.out _).mono ?_
        rintro e w' ⟨rfl, rfl⟩
        go_wp2_with fail
        go_ret2
        have e := HR.out.trans (skipR.eq_def s note k)
        rw [if_pos hlt, if_pos (by rw [HB.out]; exact HST.out)] at e
        exact ⟨ret_skip (by rw [e]) (by rw [e]), HW.out.symm⟩
      | true =>
        rw [hst] at HS
        have HST := Lib.hid hst; clear hst
        have HBC := Lib.hid (rblank_c c)
        cases note with
        | true =>
          have HR2 : Hid (r = skipR s (c != 10) (k + 1)) := Lib.hid (by
            rw [HR.out, skipR.eq_def s true k, if_pos hlt, if_neg (by rw [HB.out, HST.out]; decide), if_pos rfl, HB.out])
          obtain ⟨b2, hb2⟩ : ∃ b2, (c != 10) = b2 := ⟨_, rfl⟩
          have HR3 : Hid (r = skipR s b2 (k + 1)) := Lib.hid (by rw [← hb2]; exact HR2.out)
          clear HR HR2
          go_wp2_with fail
          refine (HS.out _).mono ?_
          rintro e w' ⟨rfl, rfl⟩
          go_wp2_with fail
          refine (HBC.out _).mono ?_
          rintro e w' ⟨rfl, rfl⟩
          go_wp2_with fail
          go_roundg (gk - 1)
          case rel => exact ⟨k + 1, b2, by go_num, by first | rfl | rw [hb2], hlt, by have := HM.out; omega, HR3.out, HW.out⟩
          case measure => exact HG.out
        | false =>
          cases hbl : blankI c with
          | true =>
            rw [hbl] at HBC
            have HR3 : Hid (r = skipR s false (k + 1)) := Lib.hid (by rw [HR.out, skip_blank hlt (by rw [HB.out]; exact hbl)])
            clear HR hbl
            go_wp2_with fail
            refine (HS.out _).mono ?_
            rintro e w' ⟨rfl, rfl⟩
            go_wp2_with fail
            refine (HBC.out _).mono ?_
            rintro e w' ⟨rfl, rfl⟩
            go_wp2_with fail
            go_roundg (gk - 1)
            case rel => exact ⟨k + 1, false, by go_num, rfl, hlt, by have := HM.out; omega, HR3.out, HW.out⟩
            case measure => exact HG.out
          | false =>
            rw [hbl] at HBC
            have HBL := Lib.hid hbl; clear hbl
            by_cases hn : k + 1 < s.size ∧ c = 47 ∧ bt s (k + 1) = 47
            · obtain ⟨n1, n2, n3⟩ := hn
              have hb2 := bt_eq n1
              rw [n3] at hb2
              have hd3 : decide ((k : Int) + 1 < (s.size : Int)) = true := by simp; omega
              have hd4 : decide (k + 1 < s.size) = true := by simp; omega
              have c1 : (c == 47) = true := by simp [n2]
              have hb3 : (s[k + 1].toNat : Int) = 47 := hb2.symm
              have c2 : ((s[k + 1].toNat : Int) == 47) = true := by simp [hb3]
              have HR3 : Hid (r = skipR s true (k + 1)) := Lib.hid (by
                rw [HR.out, skip_note n1 (by rw [HB.out, n2]) n3, skip_on hlt (by rw [HB.out]; exact HST.out) (by rw [HB.out, n2]; decide)])
              clear HR n2 n3 hb2 hb3
              go_wp2_with fail
              refine (HS.out _).mono ?_
              rintro e w' ⟨rfl, rfl⟩
              go_wp2_with fail
              refine (HBC.out _).mono ?_
              rintro e w' ⟨rfl, rfl⟩
              go_wp2_with fail
              go_roundg (gk - 1)
              case rel => exact ⟨k + 1, true, by go_num, rfl, hlt, by have := HM.out; omega, HR3.out, HW.out⟩
              case measure => exact HG.out
            · have HR3 : Hid (r = (k, false)) := Lib.hid (by
                rw [HR.out, skip_other hlt (by rw [HB.out]; exact HST.out) (by rw [HB.out]; exact HBL.out) (by rw [HB.out]; exact hn)])
              have HN := Lib.hid hn
              have FIN : Ending.returned (.tuple #[.int .i64 k, .bool false]) = Ending.returned (.tuple #[.int .i64 r.1, .bool r.2]) ∧ w = wr := ⟨ret_skip (by rw [HR3.out]) (by rw [HR3.out]), HW.out.symm⟩
              have HF := Lib.hid FIN
              clear FIN hn HR HR3
              by_cases n1 : k + 1 < s.size
              · have hd3 : decide ((k : Int) + 1 < (s.size : Int)) = true := by simp; omega
                have hd4 : decide (k + 1 < s.size) = true := by simp; omega
                by_cases n2 : c = 47
                · have c1 : (c == 47) = true := by simp [n2]
                  have c2 : ((s[k + 1].toNat : Int) == 47) = false := by
                    rw [← bt_eq n1]
                    have := HN.out
                    simp; intro h; exact this ⟨n1, n2, h⟩
                  clear n2
                  go_wp2_with fail
                  refine (HS.out _).mono ?_
                  rintro e w' ⟨rfl, rfl⟩
                  go_wp2_with fail
                  refine (HBC.out _).mono ?_
                  rintro e w' ⟨rfl, rfl⟩
                  go_wp2_with fail
                  go_ret2
                  exact HF.out
                · have c1 : (c == 47) = false := by simp [n2]
                  clear n2
                  go_wp2_with fail
                  refine (HS.out _).mono ?_
                  rintro e w' ⟨rfl, rfl⟩
                  go_wp2_with fail
                  refine (HBC.out _).mono ?_
                  rintro e w' ⟨rfl, rfl⟩
                  go_wp2_with fail
                  go_ret2
                  exact HF.out
              · have hd3 : decide ((k : Int) + 1 < (s.size : Int)) = false := by simp; omega
                have hd4 : decide (k + 1 < s.size) = false := by simp; omega
                go_wp2_with fail
                refine (HS.out _).mono ?_
                rintro e w' ⟨rfl, rfl⟩
                go_wp2_with fail
                refine (HBC.out _).mono ?_
                rintro e w' ⟨rfl, rfl⟩
                go_wp2_with fail
                go_ret2
                exact HF.out
    · have hd : decide ((k : Int) < (s.size : Int)) = false := by simp; omega
      have hd2 : decide (k < s.size) = false := by simp; omega
      go_wp2_with fail
      go_ret2
      have e := HR.out.trans (skip_end hlt)
      exact ⟨ret_skip (by rw [e]) (by rw [e]), HW.out.symm⟩

end Go.Proofs.YtaklephcgepfjaaGreatDoor

/- The reference's lexer: words, signs. -/
namespace Go.Proofs.YtaklephcgepfjaaGreatDoor
open Go.RowKit

theorem txt_eq (x : ByteArray) (l : List UInt8) : (x.toList == l) = decide (x = ⟨l.toArray⟩) := by
  rw [Bool.eq_iff_iff, beq_iff_eq, decide_eq_true_eq, ByteArray.toList_eq]
  constructor
  · intro h; rw [← h]
  · intro h; rw [h]

theorem rword_c (x : ByteArray) (w : World) : Calls Tryz.prog 81 #[.string x] w fun e w' => e = .returned (.bool (memB x wordsP)) ∧ w = w' := by
  have key : ∀ r : Bool, (memB x wordsP = r) → Calls Tryz.prog 81 #[.string x] w fun e w' => e = .returned (.bool r) ∧ w = w' := by
    intro r hr
    have HR := Lib.hid hr; clear hr
    go_enter Tryz.func81, Tryz.ntmps81
    go_wp2
    all_goals
      go_ret
      refine ⟨ret_bool ?_, rfl⟩
      rw [← HR.out]
      simp only [txt_eq, decide_eq_true_eq, decide_eq_false_iff_not] at *
      first
        | (exfalso; simp_all; done)
        | simp_all [memB, wordsP]
  exact key _ rfl

/-- How long the sign at a place is; 0: there is none. -/
def signR (s : ByteArray) (i : Nat) : Int := match signsP.find? (preAt s i) with
  | some x => x.size
  | none => 0

theorem signs_cover : ∀ x ∈ signsP, x.size = 1 ∨ x.size = 2 := by
  intro x hx
  simp only [signsP, List.mem_cons, List.not_mem_nil, or_false] at hx
  rcases hx with h | h | h | h | h | h | h | h | h | h | h | h | h | h | h | h | h | h | h <;> subst h <;> decide

theorem pre2 {s : ByteArray} {i : Nat} (h : i + 1 < s.size) (x : ByteArray) (hx : x.size = 2) : preAt s i x = decide (s.extract i (i + 2) = x) := by
  unfold preAt
  rw [hx]
  have : decide (i + 2 ≤ s.size) = true := by simp; omega
  rw [this, Bool.true_and]

theorem pre2_no {s : ByteArray} {i : Nat} (h : ¬ i + 1 < s.size) (x : ByteArray) (hx : x.size = 2) : preAt s i x = false := by
  unfold preAt
  rw [hx]
  have : decide (i + 2 ≤ s.size) = false := by simp; omega
  rw [this, Bool.false_and]

theorem pre1 {s : ByteArray} {i : Nat} (h : i < s.size) (b : UInt8) : preAt s i ⟨#[b]⟩ = decide (bt s i = (b.toNat : Int)) := by
  have h1 : (ByteArray.mk #[b]).size = 1 := rfl
  unfold preAt
  rw [h1]
  have : decide (i + 1 ≤ s.size) = true := by simp; omega
  rw [this, Bool.true_and, decide_eq_decide, bytes_ext, Lib.extract_data, drop_cons s i h, bt_eq h]
  rw [show i + 1 - i = 1 by omega]
  simp only [List.take_succ_cons, List.take_zero, List.cons.injEq, and_true]
  constructor
  · intro e; rw [e]
  · intro e; apply UInt8.toNat_inj.1; omega

theorem find_bif {α : Type} (p : α → Bool) (a : α) (l : List α) : (a :: l).find? p = bif p a then some a else l.find? p := by
  rw [List.find?_cons]; cases p a <;> rfl

theorem bif_map {α β : Type} (f : α → β) (b : Bool) (x y : α) : f (bif b then x else y) = bif b then f x else f y := by cases b <;> rfl

def sizeO : Option ByteArray → Int
  | some x => x.size
  | none => 0

theorem signR_size (s : ByteArray) (i : Nat) : signR s i = sizeO (signsP.find? (preAt s i)) := by
  unfold signR sizeO; cases signsP.find? (preAt s i) <;> rfl

theorem sizeO2 (a b : UInt8) : sizeO (some ⟨#[a, b]⟩) = 2 := rfl
theorem sizeO1 (a : UInt8) : sizeO (some ⟨#[a]⟩) = 1 := rfl
theorem sizeO0 : sizeO none = 0 := rfl

theorem dec_beq (a b : Int) : decide (a = b) = (a == b) := by rw [Bool.eq_iff_iff]; simp

theorem signR_two {s : ByteArray} {i : Nat} {c : Int} {x2 : ByteArray} (h : i + 1 < s.size) (hc : bt s i = c) (hx : s.extract i (i + 2) = x2) : signR s i = bif (x2.toList == [60, 61]) then 2 else bif (x2.toList == [62, 61]) then 2 else bif (x2.toList == [61, 61]) then 2 else bif (x2.toList == [33, 61]) then 2 else bif (x2.toList == [38, 38]) then 2 else bif (x2.toList == [124, 124]) then 2 else bif (c == 43) then 1 else bif (c == 45) then 1 else bif (c == 42) then 1 else bif (c == 60) then 1 else bif (c == 62) then 1 else bif (c == 33) then 1 else bif (c == 40) then 1 else bif (c == 41) then 1 else bif (c == 123) then 1 else bif (c == 125) then 1 else bif (c == 59) then 1 else bif (c == 44) then 1 else bif (c == 61) then 1 else 0 := by
  have hi : i < s.size := by omega
  rw [signR_size]
  have p2 : ∀ a b : UInt8, preAt s i ⟨#[a, b]⟩ = decide (x2 = ⟨[a, b].toArray⟩) := fun a b => by rw [pre2 h _ rfl, hx]
  simp only [signsP, find_bif, List.find?_nil, bif_map sizeO, sizeO2, sizeO1, sizeO0, p2, pre1 hi, hc, txt_eq, dec_beq]
  rfl

theorem signR_one {s : ByteArray} {i : Nat} {c : Int} (h : ¬ i + 1 < s.size) (hi : i < s.size) (hc : bt s i = c) : signR s i = bif (c == 43) then 1 else bif (c == 45) then 1 else bif (c == 42) then 1 else bif (c == 60) then 1 else bif (c == 62) then 1 else bif (c == 33) then 1 else bif (c == 40) then 1 else bif (c == 41) then 1 else bif (c == 123) then 1 else bif (c == 125) then 1 else bif (c == 59) then 1 else bif (c == 44) then 1 else bif (c == 61) then 1 else 0 := by
  rw [signR_size]
  have p2 : ∀ a b : UInt8, preAt s i ⟨#[a, b]⟩ = false := fun a b => pre2_no h _ rfl
  simp only [signsP, find_bif, List.find?_nil, bif_map sizeO, sizeO2, sizeO1, sizeO0, p2, pre1 hi, hc, dec_beq, cond_false]
  rfl

set_option maxRecDepth 100000 in
set_option maxHeartbeats 2000000 in
theorem rsign_c (i : Nat) (s : ByteArray) (w : World) (hi : i < s.size) (hs : s.size ≤ 5000) :
    Calls Tryz.prog 82 #[.string s, .int .i64 i] w fun e w' => e = .returned (.int .i64 (signR s i)) ∧ w = w' := by
  have hb := bt_eq hi
  obtain ⟨c, hc⟩ : ∃ c, (s[i].toNat : Int) = c := ⟨_, rfl⟩
  rw [hc] at hb
  have key : ∀ r : Int, signR s i = r → Calls Tryz.prog 82 #[.string s, .int .i64 i] w fun e w' => e = .returned (.int .i64 r) ∧ w = w' := by
    intro r hr
    have HR := Lib.hid hr; have HB := Lib.hid hb
    clear hr hb
    by_cases h2 : i + 1 < s.size
    · have hd : decide ((i : Int) + 1 < (s.size : Int)) = true := by simp; omega
      have hd2 : decide (i + 1 < s.size) = true := by simp; omega
      go_enter Tryz.func82, Tryz.ntmps82
      have hsl : ∀ w : World, (Instr.slice 9 (.string s) (some (.int .i64 (i : Int))) (some (.int .i64 ((i : Int) + 2))) none).run Tryz.prog w = .ok (.string (s.extract i (i + 2))) w := fun w => by
        have := run_slice_string (P := Tryz.prog) (w := w) 9 s .i64 .i64 (i : Int) ((i : Int) + 2) Tryz.underlying9 (by omega) (by omega) (by omega)
        rw [this]; rfl
      obtain ⟨x2, hx2⟩ : ∃ x2, s.extract i (i + 2) = x2 := ⟨_, rfl⟩
      rw [hx2] at hsl
      have HX2 := Lib.hid hx2; clear hx2
      go_wp2
      all_goals
        go_ret
        refine ⟨ret_int ?_, rfl⟩
        rw [← HR.out, signR_two h2 HB.out HX2.out]
        clear HR HB HX2
        first
          | (simp only [*, cond_true, cond_false]; done)
          | (simp only [*, cond_true, cond_false]; rfl)
          | (exfalso; simp_all; done)
    · have hd : decide ((i : Int) + 1 < (s.size : Int)) = false := by simp; omega
      have hd2 : decide (i + 1 < s.size) = false := by simp; omega
      go_enter Tryz.func82, Tryz.ntmps82
      go_wp2
      all_goals
        go_ret
        refine ⟨ret_int ?_, rfl⟩
        rw [← HR.out, signR_one h2 hi HB.out]
        clear HR HB
        first
          | (simp only [*, cond_true, cond_false]; done)
          | (simp only [*, cond_true, cond_false]; rfl)
          | (exfalso; simp_all; done)
  exact key _ rfl

end Go.Proofs.YtaklephcgepfjaaGreatDoor

/- The reference's parser in memory, and its smallest functions. -/
namespace Go.Proofs.YtaklephcgepfjaaGreatDoor
open Go.RowKit

/-- The reference's parser at block bp. -/
structure RP (w : World) (X : Nat → Prop) (bp : Nat) (la : Option Addr) (c : Nat) (T : List Tk) (en : Int) (s : RS) (nv : Value) : Prop where
  inX : X bp
  low : ∀ k, X k → bp ≤ k
  high : ∀ k, X k → k < w.heap.size
  blk : w.heap[bp]? = some (.cells #[.slice la T.length c, .int .i64 en, .int .i64 s.i, .int .i64 s.deep, nv, .int .i64 s.fc, .int .i64 0, .int .i64 s.fa] 52 (0, 0))
  toks : TokRow w bp la T
  nodes : NodeRow w X bp nv s.nodes

theorem RP.lt {w : World} {X : Nat → Prop} {bp : Nat} {la : Option Addr} {c : Nat} {T : List Tk} {en : Int} {s : RS} {nv : Value} (h : RP w X bp la c T en s nv) : bp < w.heap.size := lt_blk h.blk

section
variable {w w1 : World} {X Y Y1 : Nat → Prop} {bp : Nat} {la : Option Addr} {c : Nat} {T : List Tk} {en : Int} {s : RS} {nv : Value}

theorem RP.c0 (h : RP w X bp la c T en s nv) : w.cell? ⟨bp, 0, none⟩ = some (.slice la T.length c) := by rw [cell_blk h.blk]; rfl
theorem RP.c1 (h : RP w X bp la c T en s nv) : w.cell? ⟨bp, 1, none⟩ = some (.int .i64 en) := by rw [cell_blk h.blk]; rfl
theorem RP.c2 (h : RP w X bp la c T en s nv) : w.cell? ⟨bp, 2, none⟩ = some (.int .i64 s.i) := by rw [cell_blk h.blk]; rfl
theorem RP.c3 (h : RP w X bp la c T en s nv) : w.cell? ⟨bp, 3, none⟩ = some (.int .i64 s.deep) := by rw [cell_blk h.blk]; rfl
theorem RP.c4 (h : RP w X bp la c T en s nv) : w.cell? ⟨bp, 4, none⟩ = some nv := by rw [cell_blk h.blk]; rfl
theorem RP.c5 (h : RP w X bp la c T en s nv) : w.cell? ⟨bp, 5, none⟩ = some (.int .i64 s.fc) := by rw [cell_blk h.blk]; rfl
theorem RP.c6 (h : RP w X bp la c T en s nv) : w.cell? ⟨bp, 6, none⟩ = some (.int .i64 0) := by rw [cell_blk h.blk]; rfl
theorem RP.c7 (h : RP w X bp la c T en s nv) : w.cell? ⟨bp, 7, none⟩ = some (.int .i64 s.fa) := by rw [cell_blk h.blk]; rfl
theorem RP.free (h : RP w X bp la c T en s nv) (o : Nat) : w.frozen? ⟨bp, o, none⟩ = false := free_blk h.blk

theorem RP.new (h : RP w X bp la c T en s nv) (u : Upd w (fun _ => False) w1 Y1) : RP w1 X bp la c T en s nv :=
  ⟨h.inX, h.low, fun k hk => Nat.lt_of_lt_of_le (h.high k hk) u.size, u.keep h.blk id, h.toks.upd u (fun _ _ => id), h.nodes.upd u (fun _ _ _ => id)⟩

theorem RP.drewN (h : RP w X bp la c T en s nv) (n : Nat) : RP (w.drewN n) X bp la c T en s nv := h.new ((Upd.refl w (fun _ => False)).drewN n)
theorem RP.drew (h : RP w X bp la c T en s nv) : RP w.drew X bp la c T en s nv := h.new ((Upd.refl w (fun _ => False)).drew)
theorem RP.alloc (h : RP w X bp la c T en s nv) (o : Obj) : RP (w.alloc o) X bp la c T en s nv := h.new ((Upd.refl w (fun _ => False)).alloc o)

/-- Stores into the parser's own cells. -/
theorem RP.set (h : RP w X bp la c T en s nv) (o : Nat) (v : Value) (s' : RS) (hs : s'.nodes = s.nodes)
    (hc : (#[.slice la T.length c, .int .i64 en, .int .i64 s.i, .int .i64 s.deep, nv, .int .i64 s.fc, .int .i64 0, .int .i64 s.fa] : Array Value).setIfInBounds o v = #[.slice la T.length c, .int .i64 en, .int .i64 s'.i, .int .i64 s'.deep, nv, .int .i64 s'.fc, .int .i64 0, .int .i64 s'.fa]) :
    RP (w.setCell ⟨bp, o, none⟩ v) X bp la c T en s' nv := by
  have u : Upd w (fun k => k = bp) (w.setCell ⟨bp, o, none⟩ v) (fun k => k = bp) := (Upd.refl w (fun k => k = bp)).setCell (a := ⟨bp, o, none⟩) (.inl rfl) v
  exact ⟨h.inX, h.low, fun k hk => Nat.lt_of_lt_of_le (h.high k hk) u.size, by rw [blk_setCell h.blk, hc], h.toks.upd u (fun k hk e => by omega), hs ▸ h.nodes.upd u (fun k _ hk => hk)⟩

/-- A store into a block beside it. -/
theorem RP.other (h : RP w X bp la c T en s nv) {a : Addr} (ha : ¬ X a.block) (hb : bp ≤ a.block) (v : Value) : RP (w.setCell a v) X bp la c T en s nv := by
  have u : Upd w (fun k => k = a.block) (w.setCell a v) (fun k => k = a.block) := (Upd.refl w (fun k => k = a.block)).setCell (a := a) (.inl rfl) v
  have hne : ∀ k, X k → ¬ k = a.block := fun k hk e => ha (e ▸ hk)
  exact ⟨h.inX, h.low, fun k hk => Nat.lt_of_lt_of_le (h.high k hk) u.size, u.keep h.blk (hne bp h.inX), h.toks.upd u (fun k hk e => by omega), h.nodes.upd u (fun k hk _ => hne k hk)⟩

theorem RP.setI (h : RP w X bp la c T en s nv) (i : Nat) : RP (w.setCell ⟨bp, 2, none⟩ (.int .i64 i)) X bp la c T en { s with i := i } nv := h.set 2 _ _ rfl rfl
theorem RP.setDeep (h : RP w X bp la c T en s nv) (d : Int) : RP (w.setCell ⟨bp, 3, none⟩ (.int .i64 d)) X bp la c T en { s with deep := d } nv := h.set 3 _ _ rfl rfl
theorem RP.setF (h : RP w X bp la c T en s nv) (cd ps : Int) : RP (((w.setCell ⟨bp, 5, none⟩ (.int .i64 cd)).setCell ⟨bp, 6, none⟩ (.int .i64 0)).setCell ⟨bp, 7, none⟩ (.int .i64 ps)) X bp la c T en { s with fc := cd, fa := ps } nv :=
  (((h.set 5 (.int .i64 cd) { s with fc := cd } rfl rfl).set 6 (.int .i64 0) { s with fc := cd } rfl rfl).set 7 (.int .i64 ps) { s with fc := cd, fa := ps } rfl rfl)

/-- What a call ends in: a value, the parser in another state. -/
def RDone (w : World) (X : Nat → Prop) (bp : Nat) (la : Option Addr) (c : Nat) (T : List Tk) (en : Int) (v : Value) (s' : RS) (e : Ending) (w' : World) : Prop :=
  e = .returned v ∧ ∃ X' nv', RP w' X' bp la c T en s' nv' ∧ Upd w X w' X'

theorem posR_in (hi : s.i < T.length) : posR T en s = (T[s.i]).pos := by simp [posR, hi]
theorem posR_out (hi : ¬ s.i < T.length) : posR T en s = en := by simp [posR, hi]

/-- at -/
theorem rat_c (h : RP w X bp la c T en s nv) :
    Calls Tryz.prog 21 #[.pointer (some ⟨bp, 0, none⟩)] w fun e w' => e = .returned (.int .i64 (posR T en s)) ∧ RP w' X bp la c T en s nv ∧ Upd w X w' X := by
  have HH := Lib.hid h
  have h0 := h.c0
  have h1 := h.c1
  have h2 := h.c2
  by_cases hi : s.i < T.length
  · obtain ⟨bl, rfl, hx, hlt, t0, t1, t2, t3⟩ := h.toks s.i _ (List.getElem?_eq_getElem hi)
    have hd : decide ((s.i : Int) < (T.length : Int)) = true := by simp; omega
    have hd2 : decide (s.i < T.length) = true := by simp; omega
    rw [posR_in hi]
    clear h
    go_enter Tryz.func21, Tryz.ntmps21
    go_wp2
    go_quiet (fail)
    go_wp2
    go_quiet (fail)
    go_wp2
    go_ret
    refine ⟨rfl, ?_⟩
    rw [World.drewN_drewN]
    exact ⟨HH.out.drewN _, (Upd.refl w X).drewN _⟩
  · have hd : decide ((s.i : Int) < (T.length : Int)) = false := by simp; omega
    have hd2 : decide (s.i < T.length) = false := by simp; omega
    rw [posR_out hi]
    clear h
    go_enter Tryz.func21, Tryz.ntmps21
    go_wp2
    go_quiet (fail)
    go_wp2
    go_ret
    exact ⟨rfl, HH.out.drewN _, (Upd.refl w X).drewN _⟩

/-- fail -/
theorem rfail_c (code : Int) (h : RP w X bp la c T en s nv) :
    Calls Tryz.prog 42 #[.pointer (some ⟨bp, 0, none⟩), .int .i64 code] w (fun e w' => e = .returned (.int .i64 0) ∧ RP w' X bp la c T en (failR T en code s) nv ∧ Upd w X w' X) := by
  by_cases hf : s.fc = 0
  · have hr : failR T en code s = { { s with fc := code, fa := posR T en s } with i := T.length } := by unfold failR; rw [if_pos hf]
    rw [hr]
    have h5 := h.c5
    rw [hf] at h5
    have HA := Lib.hid (rat_c h)
    have HX := Lib.hid h.inX
    clear h hr
    go_enter Tryz.func42, Tryz.ntmps42
    go_wp2_with fail
    refine HA.out.mono ?_
    rintro e w1 ⟨rfl, h1, u1⟩
    have g0 := h1.c0
    have g5 := h1.c5
    have g6 := h1.c6
    have g7 := h1.c7
    have g2 := h1.c2
    have gf := h1.free
    have H2 := Lib.hid (h1.setF code (posR T en s)); have U1 := Lib.hid u1
    have H3 := Lib.hid (H2.out.setI T.length)
    clear h1 u1 HA h5 hf
    go_wp2
    go_ret
    exact ⟨rfl, H3.out, ((((U1.out.setCell (a := ⟨bp, 5, none⟩) (.inl HX.out) _).setCell (a := ⟨bp, 6, none⟩) (.inl HX.out) _).setCell (a := ⟨bp, 7, none⟩) (.inl HX.out) _).setCell (a := ⟨bp, 2, none⟩) (.inl HX.out) _)⟩
  · have hr : failR T en code s = s := by unfold failR; rw [if_neg hf]
    rw [hr]
    have h5 := h.c5
    have hb : (s.fc == 0) = false := by simp [hf]
    have HH := Lib.hid h
    clear h hr hf
    go_enter Tryz.func42, Tryz.ntmps42
    go_wp2
    go_ret
    exact ⟨rfl, HH.out, Upd.refl w X⟩

end

end Go.Proofs.YtaklephcgepfjaaGreatDoor

/- The reference's parser: is, take, open, shut, name, node. -/
namespace Go.Proofs.YtaklephcgepfjaaGreatDoor
open Go.RowKit

section
variable {w w1 : World} {X Y Y1 : Nat → Prop} {bp : Nat} {la : Option Addr} {c : Nat} {T : List Tk} {en : Int} {s : RS} {nv : Value}

theorem rnorm {K : Act → World → Prop} {Q : Exit → Act → World → Prop} {a : Act} {W : World} (I : World → Prop) (hI : I W) (h : ∀ W, I W → Exit.then K Q .normal a W) : Exit.then K Q .normal a W := h W hI

theorem beq_txt (a b : ByteArray) : (a.toList == b.toList) = decide (a = b) := by
  rw [Bool.eq_iff_iff, beq_iff_eq, decide_eq_true_eq, ByteArray.toList_eq, ByteArray.toList_eq]
  exact ⟨fun h => ByteArray.ext (Array.toList_inj.mp h), fun h => by rw [h]⟩

set_option maxRecDepth 100000 in
set_option maxHeartbeats 1000000 in
/-- is -/
theorem ris_c (x : ByteArray) (h : RP w X bp la c T en s nv) :
    Calls Tryz.prog 19 #[.pointer (some ⟨bp, 0, none⟩), .string x] w fun e w' => e = .returned (.bool (isR T x s)) ∧ RP w' X bp la c T en s nv ∧ Upd w X w' X := by
  cases ht : T[s.i]? with
  | none =>
    have e : isR T x s = false := by simp only [isR, ht]
    have hi : T.length ≤ s.i := List.getElem?_eq_none_iff.1 ht
    rw [e]
    have HH := Lib.hid h
    have h0 := h.c0
    have h2 := h.c2
    obtain ⟨i, hI⟩ : ∃ i, i = s.i := ⟨_, rfl⟩
    rw [← hI] at h2 hi
    clear hI ht e h
    have hd : decide ((T.length : Int) ≤ (i : Int)) = true := by simp; omega
    have hd2 : decide (T.length ≤ i) = true := by simp; omega
    go_enter Tryz.func19, Tryz.ntmps19
    go_wp2
    go_quiet (fail)
    go_wp2
    go_ret
    exact ⟨rfl, HH.out.drewN _, (Upd.refl w X).drewN _⟩
  | some t =>
    have e : isR T x s = ((t.kind == 2 || t.kind == 4) && decide (t.text = x)) := by simp only [isR, ht]
    rw [← beq_txt] at e
    obtain ⟨r, hr⟩ : ∃ r, r = ((t.kind == 2 || t.kind == 4) && (t.text.toList == x.toList)) := ⟨_, rfl⟩
    rw [e, ← hr]
    have HR := Lib.hid hr
    clear hr
    have HH := Lib.hid h
    have h0 := h.c0
    have h2 := h.c2
    have hi : s.i < T.length := (List.getElem?_eq_some_iff.1 ht).1
    have HT := Lib.hid ht
    obtain ⟨i, hI⟩ : ∃ i, i = s.i := ⟨_, rfl⟩
    rw [← hI] at h2 hi
    have hd : decide ((T.length : Int) ≤ (i : Int)) = false := by simp; omega
    have hd2 : decide (T.length ≤ i) = false := by simp; omega
    have HI := Lib.hid hI
    clear hI ht e h
    have hi1 : (0 : Int) ≤ (i : Int) := by omega
    have hi2 : (i : Int) < (T.length : Int) := by omega
    go_enter Tryz.func19, Tryz.ntmps19
    go_upto_region 1 with (fail)
    go_quiet (fail)
    generalize hw1 : w.drewN _ = w1
    have HP1 : Hid (RP w1 X bp la c T en s nv ∧ Upd w X w1 X) := Lib.hid (by rw [← hw1]; exact ⟨HH.out.drewN _, (Upd.refl w X).drewN _⟩)
    clear hw1 h0 h2 HH
    obtain ⟨bl, rfl, hx, hlt, t0, t1, t2, t3⟩ := HP1.out.1.toks s.i t HT.out
    rw [← HI.out] at t0 t1 t2 t3
    have h0 := HP1.out.1.c0
    have h2 : w1.cell? ⟨bp, 2, none⟩ = some (.int .i64 i) := by rw [HI.out]; exact HP1.out.1.c2
    have k0 : ∀ o, (w1.alloc o).cell? ⟨bp, 0, none⟩ = some (.slice (some ⟨bl, 0, none⟩) T.length c) := fun o => (HP1.out.1.alloc o).c0
    have k2 : ∀ o, (w1.alloc o).cell? ⟨bp, 2, none⟩ = some (.int .i64 i) := fun o => by rw [HI.out]; exact (HP1.out.1.alloc o).c2
    have a0 : ∀ o, (w1.alloc o).cell? ⟨bl, i * 4, none⟩ = some (.int .i64 t.kind) := fun o => by rw [((Upd.refl w1 NO).alloc o).cell (a := ⟨bl, i * 4, none⟩) hlt id]; exact t0
    have a1 : ∀ o, (w1.alloc o).cell? ⟨bl, i * 4 + 1, none⟩ = some (.int .i64 t.num) := fun o => by rw [((Upd.refl w1 NO).alloc o).cell (a := ⟨bl, i * 4 + 1, none⟩) hlt id]; exact t1
    have a2 : ∀ o, (w1.alloc o).cell? ⟨bl, i * 4 + 2, none⟩ = some (.int .i64 t.pos) := fun o => by rw [((Upd.refl w1 NO).alloc o).cell (a := ⟨bl, i * 4 + 2, none⟩) hlt id]; exact t2
    have a3 : ∀ o, (w1.alloc o).cell? ⟨bl, i * 4 + 3, none⟩ = some (.string t.text) := fun o => by rw [((Upd.refl w1 NO).alloc o).cell (a := ⟨bl, i * 4 + 3, none⟩) hlt id]; exact t3
    go_upto_region 3 with (fail)
    go_region
    refine rnorm (fun W => RP W X bp (some ⟨bl, 0, none⟩) c T en s nv ∧ Upd w X W X ∧ W.heap[w1.heap.size]? = some (.cells #[.int .i64 t.kind, .int .i64 t.num, .int .i64 t.pos, .string t.text] 81 (0, 0))) ⟨(HP1.out.1.alloc _).drew, (HP1.out.2.alloc _).drew, heap_alloc_new w1 _⟩ ?_
    obtain ⟨q, hq⟩ : ∃ q, q = w1.heap.size := ⟨_, rfl⟩
    rw [← hq]
    clear hq h0 h2 k0 k2 a0 a1 a2 a3 t0 t1 t2 t3 HP1
    rintro W ⟨hp, hu, hb⟩
    have HP := Lib.hid hp; have HU := Lib.hid hu
    have b0 : W.cell? ⟨q, 0, none⟩ = some (.int .i64 t.kind) := cell_blk hb
    have b3 : W.cell? ⟨q, 3, none⟩ = some (.string t.text) := cell_blk hb
    clear hp hu hb
    as_aux_lemma =>
    obtain ⟨k, hk⟩ : ∃ k, t.kind = k := ⟨_, rfl⟩
    rw [hk] at b0 HR
    clear hk
    by_cases hk2 : k = 2
    · subst hk2
      go_wp2_with fail
      go_ret
      exact ⟨ret_bool (by rw [HR.out]; simp), HP.out, HU.out⟩
    · have k2 : (k == 2) = false := by simp [hk2]
      by_cases hk4 : k = 4
      · subst hk4
        go_wp2_with fail
        go_ret
        exact ⟨ret_bool (by rw [HR.out]; simp), HP.out, HU.out⟩
      · have k4 : (k == 4) = false := by simp [hk4]
        clear hk2 hk4
        go_wp2_with fail
        go_ret
        exact ⟨ret_bool (by rw [HR.out, k2, k4]; rfl), HP.out, HU.out⟩

theorem isR_lt {x : ByteArray} (h : isR T x s = true) : s.i < T.length := by
  rcases Nat.lt_or_ge s.i T.length with h1 | h1
  · exact h1
  · simp [isR, List.getElem?_eq_none h1] at h

theorem kindR_lt {k : Int} (h : kindR T k s = true) : s.i < T.length := by
  rcases Nat.lt_or_ge s.i T.length with h1 | h1
  · exact h1
  · simp [kindR, List.getElem?_eq_none h1] at h

/-- take -/
theorem rtake_c (x : ByteArray) (h : RP w X bp la c T en s nv) (hn : T.length ≤ 5000) :
    Calls Tryz.prog 22 #[.pointer (some ⟨bp, 0, none⟩), .string x] w fun e w' => e = .returned (.tuple #[]) ∧ RP w' X bp la c T en (takeR T en x s) nv ∧ Upd w X w' X := by
  have HX := Lib.hid h.inX
  have HI := Lib.hid (ris_c x h)
  cases hq : isR T x s with
  | true =>
    have hr : takeR T en x s = stepR s := by simp [takeR, hq]
    have hi := isR_lt hq
    rw [hr]
    rw [hq] at HI
    clear hr hq h
    go_enter Tryz.func22, Tryz.ntmps22
    go_wp2_with fail
    refine HI.out.mono ?_
    rintro e w1 ⟨rfl, h1, u1⟩
    have g2 := h1.c2
    have gf := h1.free 2
    have H2 : Hid (RP (w1.setCell ⟨bp, 2, none⟩ (.int .i64 (s.i + 1 : Nat))) X bp la c T en (stepR s) nv) := Lib.hid (h1.setI (s.i + 1)); have U1 := Lib.hid u1
    clear h1 u1 HI
    go_wp2
    first | refine bodyPost_end (results_none rfl _ _ _) rfl ?_ | refine bodyPost_ret (results_none rfl _ _ _) rfl ?_
    exact ⟨rfl, H2.out, U1.out.setCell (a := ⟨bp, 2, none⟩) (.inl HX.out) _⟩
  | false =>
    have hr : takeR T en x s = failR T en 5 s := by simp [takeR, hq]
    rw [hr]
    rw [hq] at HI
    clear hr hq h
    go_enter Tryz.func22, Tryz.ntmps22
    go_wp2_with fail
    refine HI.out.mono ?_
    rintro e w1 ⟨rfl, h1, u1⟩
    have HF := Lib.hid (rfail_c 5 h1)
    have U1 := Lib.hid u1
    clear h1 u1 HI
    go_wp2_with fail
    refine HF.out.mono ?_
    rintro e w2 ⟨rfl, h2, u2⟩
    have H2 := Lib.hid h2; have U2 := Lib.hid u2
    clear h2 u2 HF
    go_wp2
    first | refine bodyPost_end (results_none rfl _ _ _) rfl ?_ | refine bodyPost_ret (results_none rfl _ _ _) rfl ?_
    exact ⟨rfl, H2.out, U1.out.trans U2.out⟩

/-- shut -/
theorem rshut_c (x : ByteArray) (h : RP w X bp la c T en s nv) (hn : T.length ≤ 5000) :
    Calls Tryz.prog 45 #[.pointer (some ⟨bp, 0, none⟩), .string x] w fun e w' => e = .returned (.tuple #[]) ∧ RP w' X bp la c T en (shutR T en x s) nv ∧ Upd w X w' X := by
  have HX := Lib.hid h.inX
  have HI := Lib.hid (rtake_c x h hn)
  have hr : shutR T en x s = { takeR T en x s with deep := wrap64 ((takeR T en x s).deep - 1) } := rfl
  rw [hr]
  generalize takeR T en x s = s1 at *
  clear hr h
  go_enter Tryz.func45, Tryz.ntmps45
  go_wp2_with fail
  refine HI.out.mono ?_
  rintro e w1 ⟨rfl, h1, u1⟩
  have g3 := h1.c3
  have gf := h1.free 3
  have H2 := Lib.hid (h1.setDeep (wrap64 (s1.deep - 1))); have U1 := Lib.hid u1
  clear h1 u1 HI
  go_wp2
  first | refine bodyPost_end (results_none rfl _ _ _) rfl ?_ | refine bodyPost_ret (results_none rfl _ _ _) rfl ?_
  exact ⟨rfl, H2.out, U1.out.setCell (a := ⟨bp, 3, none⟩) (.inl HX.out) _⟩

/-- open -/
theorem ropen_c (x : ByteArray) (h : RP w X bp la c T en s nv) (hn : T.length ≤ 5000) :
    Calls Tryz.prog 43 #[.pointer (some ⟨bp, 0, none⟩), .string x] w fun e w' => e = .returned (.tuple #[]) ∧ RP w' X bp la c T en (openR T en x s) nv ∧ Upd w X w' X := by
  have HX := Lib.hid h.inX
  have HI := Lib.hid (ris_c x h)
  have HN := Lib.hid hn
  -- the second half: take, one deeper
  cases hq : isR T x s with
  | false =>
    have hr : openR T en x s = { takeR T en x s with deep := wrap64 ((takeR T en x s).deep + 1) } := by simp [openR, hq]
    rw [hr]
    rw [hq] at HI
    obtain ⟨s1, hs1⟩ : ∃ s1, s1 = takeR T en x s := ⟨_, rfl⟩
    rw [← hs1]
    have HS1 := Lib.hid hs1
    clear hr hq h hn hs1
    go_enter Tryz.func43, Tryz.ntmps43
    go_wp2_with fail
    refine HI.out.mono ?_
    rintro e w1 ⟨rfl, h1, u1⟩
    have HT := Lib.hid (rtake_c x h1 HN.out)
    rw [← HS1.out] at HT
    have U1 := Lib.hid u1
    clear h1 u1 HI
    go_wp2_with fail
    refine HT.out.mono ?_
    rintro e w2 ⟨rfl, h2, u2⟩
    have g3 := h2.c3
    have gf := h2.free 3
    have H2 := Lib.hid (h2.setDeep (wrap64 (s1.deep + 1))); have U2 := Lib.hid u2
    clear h2 u2 HT
    go_wp2
    first | refine bodyPost_end (results_none rfl _ _ _) rfl ?_ | refine bodyPost_ret (results_none rfl _ _ _) rfl ?_
    exact ⟨rfl, H2.out, (U1.out.trans U2.out).setCell (a := ⟨bp, 3, none⟩) (.inl HX.out) _⟩
  | true =>
    rw [hq] at HI
    by_cases hd : s.deep = 20
    · have hr : openR T en x s = failR T en 6 s := by simp [openR, hq, hd]
      rw [hr]
      have hdb : (s.deep == 20) = true := by simp [hd]
      clear hr hq h hn hd
      go_enter Tryz.func43, Tryz.ntmps43
      go_wp2_with fail
      refine HI.out.mono ?_
      rintro e w1 ⟨rfl, h1, u1⟩
      have g3 := h1.c3
      have HF := Lib.hid (rfail_c 6 h1)
      have U1 := Lib.hid u1
      clear h1 u1 HI
      go_wp2_with fail
      refine HF.out.mono ?_
      rintro e w2 ⟨rfl, h2, u2⟩
      have H2 := Lib.hid h2; have U2 := Lib.hid u2
      clear h2 u2 HF
      go_wp2
      first | refine bodyPost_end (results_none rfl _ _ _) rfl ?_ | refine bodyPost_ret (results_none rfl _ _ _) rfl ?_
      exact ⟨rfl, H2.out, U1.out.trans U2.out⟩
    · have hr : openR T en x s = { takeR T en x s with deep := wrap64 ((takeR T en x s).deep + 1) } := by
        unfold openR
        rw [hq, Bool.true_and, if_neg (by simpa using hd)]
      rw [hr]
      have hdb : (s.deep == 20) = false := by simp [hd]
      obtain ⟨s1, hs1⟩ : ∃ s1, s1 = takeR T en x s := ⟨_, rfl⟩
      rw [← hs1]
      have HS1 := Lib.hid hs1
      clear hr hq h hn hd hs1
      go_enter Tryz.func43, Tryz.ntmps43
      go_wp2_with fail
      refine HI.out.mono ?_
      rintro e w1 ⟨rfl, h1, u1⟩
      have g3 := h1.c3
      have HT := Lib.hid (rtake_c x h1 HN.out)
      have U1 := Lib.hid u1
      clear h1 u1 HI
      go_wp2_with fail
      rw [← HS1.out] at HT
      refine HT.out.mono ?_
      rintro e w2 ⟨rfl, h2, u2⟩
      have k3 := h2.c3
      have gf := h2.free 3
      have H2 := Lib.hid (h2.setDeep (wrap64 (s1.deep + 1))); have U2 := Lib.hid u2
      clear h2 u2 HT g3
      go_wp2
      first | refine bodyPost_end (results_none rfl _ _ _) rfl ?_ | refine bodyPost_ret (results_none rfl _ _ _) rfl ?_
      exact ⟨rfl, H2.out, (U1.out.trans U2.out).setCell (a := ⟨bp, 3, none⟩) (.inl HX.out) _⟩

end

end Go.Proofs.YtaklephcgepfjaaGreatDoor
