/- The program's lexer: a token, one way of it. (Written by wip/tools/gen_lex5.py.) -/
import Derived.Test.YtaklephcgepfjaaGreatDoorJoinA1
import Derived.Test.YtaklephcgepfjaaGreatDoorJoinA2
import Derived.Test.YtaklephcgepfjaaGreatDoorJoinA4
import Derived.RegionTactic
import Derived.BigRegion
import Derived.Deep.RegionWith
import Derived.Deep.Cut
import Derived.Recover
import Derived.Defers
import Derived.Deep.RegionLaw
import Derived.Deep.LoopGhost
import Derived.MapKept
set_option linter.unusedVariables false
set_option linter.unusedSimpArgs false
set_option linter.all false

namespace Go.Proofs.YtaklephcgepfjaaGreatDoor
open Go.RowKit

theorem signs_small : ∀ x ∈ signsP, x.size ≤ 2 := by
  intro x hx
  simp only [signsP, List.mem_cons, List.not_mem_nil, or_false] at hx
  rcases hx with h | h | h | h | h | h | h | h | h | h | h | h | h | h | h | h | h | h | h <;> subst h <;> decide

theorem signs_len : signsP.length ≤ 1000 := by simp [signsP]

set_option maxRecDepth 100000 in
set_option maxHeartbeats 4000000 in
theorem token_sign (bs i : Nat) (s : ByteArray) (w : World) (hb : w.heap[bs]? = some (.cells #[.string s, .int .i64 i] 79 (0, 0))) (hi : i < s.size) (hs : s.size ≤ 5000) (HLET : Hid (letterI (bt s i) = false)) (HDIG : Hid (digitI (bt s i) = false)) :
    Calls Tryz.prog 33 #[.pointer (some ⟨bs, 0, none⟩)] w fun e w' => TokPost w bs i s (tokenR s i) e w' := by
  have hlo := lt_blk hb
  have HB := Lib.hid hb; clear hb
  go_enter Tryz.func33, Tryz.ntmps33
  go_wp2_with fail
  refine wp_gen (fun W => Upd w (fun k => k = bs) W (fun k => k = bs) ∧ W.heap[bs]? = some (.cells #[.string s, .int .i64 i] 79 (0, 0)) ∧ W.heap[w.heap.size]? = some (.cells #[.pointer (some ⟨bs, 0, none⟩)] 77 (0, 0)) ∧ W.heap[w.heap.size + 1]? = some (.cells #[.int .i64 0, .int .i64 0, .int .i64 0, .string ⟨#[]⟩] 81 (0, 0))) ⟨((Upd.refl _ _).alloc _).alloc _, blk_alloc (blk_alloc HB.out), blk_alloc (blk_new rfl), blk_new (by simp)⟩ ?_
  obtain ⟨p1, hp1⟩ : ∃ p1, p1 = w.heap.size := ⟨_, rfl⟩
  rw [← hp1]
  have HP1 := Lib.hid hp1; clear hp1
  obtain ⟨p2, hp2⟩ : ∃ p2, p2 = p1 + 1 := ⟨_, rfl⟩
  rw [← hp2]
  have HP2 := Lib.hid hp2; clear hp2
  as_aux_lemma =>
  rintro W ⟨hu, hb, h1, h2⟩
  have c0 : W.cell? ⟨bs, 0, none⟩ = some (.string s) := cell_blk hb
  have c1 : W.cell? ⟨bs, 1, none⟩ = some (.int .i64 i) := cell_blk hb
  have c2 : W.cell? ⟨p1, 0, none⟩ = some (.pointer (some ⟨bs, 0, none⟩)) := cell_blk h1
  have hi1 : (0 : Int) ≤ (i : Int) := by omega
  have hi2 : (i : Int) < (s.size : Int) := by omega
  have k0 : ∀ v, (W.alloc (.cells #[v] 3)).cell? ⟨bs, 0, none⟩ = some (.string s) := fun v => cell_blk (blk_alloc hb)
  have k1 : ∀ v, (W.alloc (.cells #[v] 3)).cell? ⟨bs, 1, none⟩ = some (.int .i64 i) := fun v => cell_blk (blk_alloc hb)
  have k2 : ∀ v, (W.alloc (.cells #[v] 3)).cell? ⟨p1, 0, none⟩ = some (.pointer (some ⟨bs, 0, none⟩)) := fun v => cell_blk (blk_alloc h1)
  have HU := Lib.hid hu; have HB := Lib.hid hb; have H1 := Lib.hid h1; have H2 := Lib.hid h2; have HLO := Lib.hid hlo
  clear hu hb h1 h2 hlo
  obtain ⟨c, hcc⟩ : ∃ c, (s[i].toNat : Int) = c := ⟨_, rfl⟩
  have HC := Lib.hid ((bt_eq hi).trans hcc)
  rw [HC.out] at HLET
  have HLC := Lib.hid (letter_c c)
  rw [HLET.out] at HLC
  go_region
  as_aux_lemma =>
  obtain ⟨W2, hW2⟩ : ∃ W2, W2 = (W.alloc (.cells #[.int .i64 i] 3)).drew := ⟨_, rfl⟩
  rw [← hW2]
  have H2' : Hid (Upd w (fun k => k = bs) W2 (fun k => k = bs) ∧ W2.heap[bs]? = some (.cells #[.string s, .int .i64 i] 79 (0, 0)) ∧ W2.heap[p1]? = some (.cells #[.pointer (some ⟨bs, 0, none⟩)] 77 (0, 0)) ∧ W2.heap[p2]? = some (.cells #[.int .i64 0, .int .i64 0, .int .i64 0, .string ⟨#[]⟩] 81 (0, 0)) ∧ W2.heap[W.heap.size]? = some (.cells #[.int .i64 i] 3 (0, 0)) ∧ p2 < W.heap.size ∧ W.heap.size < W2.heap.size) :=
    Lib.hid (by rw [hW2]; exact ⟨(HU.out.alloc _).drew, blk_alloc HB.out, blk_alloc H1.out, blk_alloc H2.out, blk_new rfl, lt_blk H2.out, by simp [World.drew]⟩)
  obtain ⟨p3, hp3⟩ : ∃ p3, p3 = W.heap.size := ⟨_, rfl⟩
  rw [← hp3] at H2' ⊢
  have d3 : W2.cell? ⟨p3, 0, none⟩ = some (.int .i64 i) := cell_blk H2'.out.2.2.2.2.1
  clear hW2 c0 c1 c2 k0 k1 k2 hi1 hi2 HU HB H1 H2 hp3
  obtain ⟨p5, hp5⟩ : ∃ p5, p5 = W2.heap.size := ⟨_, rfl⟩
  have HP5 := Lib.hid hp5; clear hp5
  go_wp2_with fail
  rw [← HP5.out]
  refine (HLC.out _).mono ?_
  as_aux_lemma =>
  rintro e W3 ⟨rfl, hW3⟩
  have T : Hid (TokW w W3 bs i i p1 p2 p3 p5 s 0 0 ⟨#[]⟩) := Lib.hid (by
    rw [← hW3]
    obtain ⟨a1, a2, a3, a4, a5, a6, a7⟩ := H2'.out
    exact ⟨a1.alloc _, HLO.out, by rw [HP1.out]; exact Nat.le_refl _, by rw [HP2.out]; exact Nat.lt_succ_self _, a6, by rw [HP5.out]; exact a7, blk_alloc a2, blk_alloc a3, blk_alloc a4, blk_alloc a5, blk_new HP5.out⟩)
  clear hW3 d3 H2' HP5 HP1 HP2 HLO HLC
  as_aux_lemma =>
  have HDC := Lib.hid (digit_c c)
  have HDIG2 := Lib.hid HDIG.out
  rw [HC.out] at HDIG2
  rw [HDIG2.out] at HDC
  have b0 : W3.cell? ⟨bs, 0, none⟩ = some (.string s) := cell_blk T.out.hb
  have b1 : W3.cell? ⟨p1, 0, none⟩ = some (.pointer (some ⟨bs, 0, none⟩)) := cell_blk T.out.h1
  have b3 : W3.cell? ⟨p3, 0, none⟩ = some (.int .i64 i) := cell_blk T.out.h3
  have b4 : W3.cell? ⟨bs, 1, none⟩ = some (.int .i64 i) := cell_blk T.out.hb
  have f4 : W3.frozen? ⟨bs, 1, none⟩ = false := free_blk T.out.hb
  go_wp2_with fail
  refine (HDC.out _).mono ?_
  rintro e w' ⟨rfl, rfl⟩
  have HSC := Lib.hid signs_c
  have HLEN := Lib.hid signs_len
  have HSM := Lib.hid signs_small
  have HTK : Hid (tokenR s i = match signsP.find? (preAt s i) with | some x => .ok ⟨4, 0, i, x⟩ (i + x.size) | none => .bad 5) := Lib.hid (by
    unfold tokenR
    rw [HC.out, HLET.out, HDIG2.out, if_neg (by decide), if_neg (by decide)]
    cases signsP.find? (preAt s i) <;> rfl)
  obtain ⟨L, hL⟩ : ∃ L, L = signsP := ⟨_, rfl⟩
  rw [← hL] at HSC HLEN HSM HTK
  have HL := Lib.hid hL; clear hL
  go_wp2_with fail
  refine (HSC.out _).mono ?_
  rintro e W4 ⟨rfl, hW4⟩
  have HLB : Hid (W4.heap[W3.heap.size]? = some (.cells (L.map Value.string).toArray 9 (0, 0)) ∧ TokW w W4 bs i i p1 p2 p3 p5 s 0 0 ⟨#[]⟩ ∧ p5 < W3.heap.size) := Lib.hid (by
    rw [hW4]; exact ⟨heap_alloc_new _ _, T.out.alloc _, lt_blk T.out.h5⟩)
  obtain ⟨lb, hlb⟩ : ∃ lb, lb = W3.heap.size := ⟨_, rfl⟩
  rw [← hlb] at HLB ⊢
  clear hlb hW4 HSC HDC
  clear b0 b1 b3 b4 f4 T
  as_aux_lemma =>
  have HIF := Lib.hid (indexFunc_c lb L.length p1 p3 bs i i L s W4 HLB.out.2.1.hb HLB.out.2.1.h1 HLB.out.2.1.h3 (by omega) hs HLEN.out (fun j hj => texts_cell HLB.out.1 j hj))
  have hmf : ∀ (fn : Fn) (first cap : Array Value) (w : World), (Instr.makeFunc fn first cap).run Tryz.prog w = .ok (.func fn first cap) w := fun _ _ _ _ => rfl
  go_wp2_with fail
  refine HIF.out.mono ?_
  rintro e W5 ⟨he, n, hW5⟩
  have HLB5 : Hid (W5.heap[lb]? = some (.cells (L.map Value.string).toArray 9 (0, 0)) ∧ TokW w W5 bs i i p1 p2 p3 p5 s 0 0 ⟨#[]⟩ ∧ p5 < lb) := Lib.hid (by rw [hW5]; exact ⟨HLB.out.1, HLB.out.2.1.drewN _, HLB.out.2.2⟩)
  clear hW5 HLB hmf HIF
  have b1 : W5.cell? ⟨p1, 0, none⟩ = some (.pointer (some ⟨bs, 0, none⟩)) := cell_blk HLB5.out.2.1.h1
  have b3 : W5.cell? ⟨p3, 0, none⟩ = some (.int .i64 i) := cell_blk HLB5.out.2.1.h3
  rcases he with ⟨k, hk, he, hf⟩ | ⟨he, hf⟩
  · rw [hf] at HTK
    have HF := Lib.hid hf; clear hf
    subst he
    have HXX : Hid (L[k].size ≤ 2 ∧ i + L[k].size ≤ s.size ∧ L[k] ∈ L) := Lib.hid (by
      have h1 := List.find?_some HF.out
      simp only [preAt, Bool.and_eq_true, decide_eq_true_eq] at h1
      exact ⟨HSM.out _ (List.getElem_mem hk), h1.1, List.getElem_mem hk⟩)
    have HCL : Hid (W5.cell? ⟨lb, k, none⟩ = some (.string L[k])) := Lib.hid (by
      rw [texts_cell HLB5.out.1 k hk]; simp [hk])
    obtain ⟨x, hx⟩ : ∃ x, x = L[k] := ⟨_, rfl⟩
    rw [← hx] at HTK HXX HCL
    have HX := Lib.hid hx; clear hx HF
    have c0 := HCL.out
    obtain ⟨z, hz⟩ : ∃ z, x.size = z := ⟨_, rfl⟩
    have HZ : Hid (z ≤ 2 ∧ i + z ≤ s.size) := Lib.hid (by rw [← hz]; exact ⟨HXX.out.1, HXX.out.2.1⟩)
    have HB : Hid (tokenR s i = .ok ⟨4, 0, i, x⟩ (i + z)) := Lib.hid (by rw [HTK.out]; dsimp only; rw [hz])
    have HZZ := Lib.hid hz; clear hz HTK
    have hd : decide ((k : Int) < 0) = false := by simp
    have hk1 : (0 : Int) ≤ (k : Int) := by omega
    have hk2 : (k : Int) < (L.length : Int) := by omega
    as_aux_lemma =>
    go_upto_region 7 with (fail)
    have T := Lib.hid HLB5.out.2.1
    have f0 : W5.frozen? ⟨p5, 0, none⟩ = false := free_blk T.out.h5
    have f3 : W5.frozen? ⟨p5, 3, none⟩ = false := free_blk T.out.h5
    have g0 : W5.cell? ⟨p5, 0, none⟩ = some (.int .i64 0) := cell_blk T.out.h5
    have g3 : W5.cell? ⟨p5, 3, none⟩ = some (.string ⟨#[]⟩) := cell_blk T.out.h5
    have T6 : Hid (∀ v, TokW w (W5.setCell ⟨p5, 0, none⟩ (.int .i64 v)) bs i i p1 p2 p3 p5 s v 0 ⟨#[]⟩ ∧ (W5.setCell ⟨p5, 0, none⟩ (.int .i64 v)).heap[lb]? = some (.cells (L.map Value.string).toArray 9 (0, 0))) := Lib.hid (fun v => ⟨T.out.set5 0 _ rfl, by rw [blk_setCell_other _ (by have := HLB5.out.2.2; show lb ≠ p5; omega)]; exact HLB5.out.1⟩)
    have HCX : Hid (∀ W : World, W.heap[lb]? = some (.cells (L.map Value.string).toArray 9 (0, 0)) → W.cell? ⟨lb, k, none⟩ = some (.string x)) := Lib.hid (fun W hW => by
      rw [texts_cell hW k hk, HX.out]; simp [hk])
    have k5 : ∀ v, (W5.setCell ⟨p5, 0, none⟩ (.int .i64 v)).cell? ⟨lb, k, none⟩ = some (.string x) := fun v => HCX.out _ (T6.out v).2
    have m3 : ∀ v, (W5.setCell ⟨p5, 0, none⟩ (.int .i64 v)).cell? ⟨p5, 3, none⟩ = some (.string ⟨#[]⟩) := fun v => cell_blk (T6.out v).1.h5
    have n3 : ∀ v, (W5.setCell ⟨p5, 0, none⟩ (.int .i64 v)).frozen? ⟨p5, 3, none⟩ = false := fun v => free_blk (T6.out v).1.h5
    go_region
    refine norm_gen (fun W => TokW w W bs i i p1 p2 p3 p5 s 4 0 x ∧ W.heap[lb]? = some (.cells (L.map Value.string).toArray 9 (0, 0))) ⟨((T6.out 4).1.set5 3 _ rfl).drew, by
      have := HLB5.out.2.2
      show (World.setCell _ _ _).heap[lb]? = _
      rw [blk_setCell_other _ (by show lb ≠ p5; omega)]
      exact (T6.out 4).2⟩ ?_
    clear T T6 f0 f3 g0 g3 k5 m3 n3 b1 b3 c0 HCL HLB5
    as_aux_lemma =>
    rintro W7 t7
    have T := Lib.hid t7; clear t7
    have b1 : W7.cell? ⟨p1, 0, none⟩ = some (.pointer (some ⟨bs, 0, none⟩)) := cell_blk T.out.1.h1
    have b4 : W7.cell? ⟨bs, 1, none⟩ = some (.int .i64 i) := cell_blk T.out.1.hb
    have f4 : W7.frozen? ⟨bs, 1, none⟩ = false := free_blk T.out.1.hb
    have c0 := HCX.out _ T.out.2
    have hxz : x.size = z := HZZ.out
    have hz1 : z ≤ 2 := HZ.out.1
    have hz2 : i + z ≤ s.size := HZ.out.2
    go_upto_region 8 with (fail)
    go_region
    go_upto_region 22 with (fail)
    refine wp_gen (fun W => TokW w W bs (i + z) i p1 p2 p3 p5 s 4 0 x) (T.out.1.seti (i + z)).drew ?_
    clear b1 b4 f4 c0 hxz hz1 hz2 T
    as_aux_lemma =>
    rintro W9 t9
    have T9 := Lib.hid t9; clear t9
    have a50 : W9.cell? ⟨p5, 0, none⟩ = some (.int .i64 4) := cell_blk T9.out.h5
    have a51 : W9.cell? ⟨p5, 1, none⟩ = some (.int .i64 0) := cell_blk T9.out.h5
    have a52 : W9.cell? ⟨p5, 2, none⟩ = some (.int .i64 i) := cell_blk T9.out.h5
    have a53 : W9.cell? ⟨p5, 3, none⟩ = some (.string x) := cell_blk T9.out.h5
    have a20 : W9.cell? ⟨p2, 0, none⟩ = some (.int .i64 0) := cell_blk T9.out.h2
    have a21 : W9.cell? ⟨p2, 1, none⟩ = some (.int .i64 0) := cell_blk T9.out.h2
    have a22 : W9.cell? ⟨p2, 2, none⟩ = some (.int .i64 0) := cell_blk T9.out.h2
    have a23 : W9.cell? ⟨p2, 3, none⟩ = some (.string ⟨#[]⟩) := cell_blk T9.out.h2
    have zz : ∀ o, W9.frozen? ⟨p2, o, none⟩ = false := fun o => free_blk T9.out.h2
    go_wp2_with fail
    refine bodyPost_ret (v := .agg #[.int .i64 4, .int .i64 0, .int .i64 i, .string x]) (by simp [results, Tryz.results33, go_sem, a20, a21, a22, a23]) rfl ?_
    rw [HB.out]
    exact ⟨rfl, T9.out.fin _ _ _ _⟩

  · rw [hf] at HTK
    subst he
    have HB : Hid (tokenR s i = .bad 5) := Lib.hid (by rw [HTK.out])
    clear hf HTK
    go_wp2_with fail
    refine (lfail_c _ 5 i _).mono ?_
    rintro e w' ⟨he, rfl⟩
    subst he
    go_wp2
    refine ⟨rfl, ?_⟩
    rw [HB.out]
    exact ⟨rfl, HLB5.out.2.1.u⟩

end Go.Proofs.YtaklephcgepfjaaGreatDoor

/- The program's lexer: a token, whole. -/
namespace Go.Proofs.YtaklephcgepfjaaGreatDoor
open Go.RowKit

theorem token_c (bs i : Nat) (s : ByteArray) (w : World) (hb : w.heap[bs]? = some (.cells #[.string s, .int .i64 i] 79 (0, 0))) (hi : i < s.size) (hs : s.size ≤ 5000) :
    Calls Tryz.prog 33 #[.pointer (some ⟨bs, 0, none⟩)] w fun e w' => TokPost w bs i s (tokenR s i) e w' := by
  cases h1 : letterI (bt s i) with
  | true => exact token_word bs i s w hb hi hs (Lib.hid h1)
  | false =>
    cases h2 : digitI (bt s i) with
    | true => exact token_num bs i s w hb hi hs (Lib.hid h1) (Lib.hid h2)
    | false => exact token_sign bs i s w hb hi hs (Lib.hid h1) (Lib.hid h2)

end Go.Proofs.YtaklephcgepfjaaGreatDoor

/- The deferred closures of lex.Scan and of syntax.Parse: what each does where its caller panics, and where it returns. (Written by wip/tools/gen_scan.py.) -/
namespace Go.Proofs.YtaklephcgepfjaaGreatDoor
open Go.RowKit

/-- Two variables of the caller, a slice and a fault. -/
def Two (w : World) (pl pf : Nat) (v : Value) (code pos : Int) (T : TypeId) : Prop :=
  w.heap[pl]? = some (.cells #[v] T (0, 0)) ∧ w.heap[pf]? = some (.cells #[.int .i64 code, .int .i64 0, .int .i64 pos] 25 (0, 0))

def CatchPost (w : World) (pl pf : Nat) (T : TypeId) (code pos : Int) (w' : World) : Prop :=
  Upd w (fun k => k = pl ∨ k = pf) w' (fun k => k = pl ∨ k = pf) ∧ Two w' pl pf (.slice none 0 0) code pos T

theorem catch_post {w W : World} {pl pf : Nat} {T : TypeId} {v : Value} {c0 p0 code pos : Int} (hu : Upd w (fun k => k = pl ∨ k = pf) W (fun k => k = pl ∨ k = pf)) (ht : Two W pl pf v c0 p0 T) (hne : pl ≠ pf) :
    CatchPost w pl pf T code pos ((((W.setCell ⟨pl, 0, none⟩ (.slice none 0 0)).setCell ⟨pf, 0, none⟩ (.int .i64 code)).setCell ⟨pf, 1, none⟩ (.int .i64 0)).setCell ⟨pf, 2, none⟩ (.int .i64 pos)).drew := by
  refine ⟨((((hu.setCell (a := ⟨pl, 0, none⟩) (.inl (.inl rfl)) _).setCell (a := ⟨pf, 0, none⟩) (.inl (.inr rfl)) _).setCell (a := ⟨pf, 1, none⟩) (.inl (.inr rfl)) _).setCell (a := ⟨pf, 2, none⟩) (.inl (.inr rfl)) _).drew, ?_, ?_⟩
  · show (World.setCell _ _ _).heap[pl]? = _
    rw [blk_setCell_other _ hne, blk_setCell_other _ hne, blk_setCell_other _ hne]
    exact blk_setCell ht.1 _
  · show (World.setCell _ _ _).heap[pf]? = _
    have h1 : (W.setCell ⟨pl, 0, none⟩ (.slice none 0 0)).heap[pf]? = some (.cells #[.int .i64 c0, .int .i64 0, .int .i64 p0] 25 (0, 0)) := by
      rw [blk_setCell_other _ (by show pf ≠ pl; exact fun e => hne e.symm)]; exact ht.2
    exact blk_setCell (blk_setCell (blk_setCell h1 _) _) _

set_option maxRecDepth 100000 in
set_option maxHeartbeats 1000000 in
theorem scan_catch (pl pf : Nat) (v : Value) (c0 p0 code pos : Int) (w : World) (h : Two w pl pf v c0 p0 42) (hne : pl ≠ pf) :
    CallsD Tryz.prog 31 #[.pointer (some ⟨pl, 0, none⟩), .pointer (some ⟨pf, 0, none⟩)] (.panicking [{ v := .iface 76 (.agg #[.int .i64 code, .int .i64 0, .int .i64 pos]), recovered := false }]) w fun e u' w' =>
      e = .returned (.tuple #[]) ∧ u' = .panicking [{ v := .iface 76 (.agg #[.int .i64 code, .int .i64 0, .int .i64 pos]), recovered := true }] ∧ CatchPost w pl pf 42 code pos w' := by
  refine callsD_of_wpS Tryz.func31 rfl fun c₀ cs hu => ?_
  apply wpS_seq
  apply wpS_region
  simp only [Tryz.ntmps31, List.size_toArray, List.length_cons, List.length_nil, Nat.reduceAdd, Nat.reduceSub, Array.replicate_succ, Array.replicate_zero, List.push_toArray, List.append_toArray, List.nil_append, List.cons_append]
  simp [wpOpsS, go_sem, recoverD, hu, Exit.thenS]
  refine wpS_of_wp ?_
  have hta : ∀ w : World, (Instr.typeAssert (.iface 76 (.agg #[.int .i64 code, .int .i64 0, .int .i64 pos])) 20 76 true).run Tryz.prog w = .ok (.tuple #[.agg #[.int .i64 code, .int .i64 0, .int .i64 pos], .bool true]) w := fun _ => by kernel_rfl
  have HH := Lib.hid h; have HN := Lib.hid hne
  clear h hne
  have l0 : pl < w.heap.size := lt_blk HH.out.1
  have l1 : pf < w.heap.size := lt_blk HH.out.2
  go_upto_region 7 with (fail)
  refine wp_gen (fun W => Upd w (fun k => k = pl ∨ k = pf) W (fun k => k = pl ∨ k = pf) ∧ Two W pl pf v c0 p0 42 ∧ W.heap[w.heap.size]? = some (.cells #[.int .i64 code, .int .i64 0, .int .i64 pos] 76 (0, 0))) ⟨(Upd.refl _ _).alloc _, ⟨blk_alloc HH.out.1, blk_alloc HH.out.2⟩, blk_new rfl⟩ ?_
  obtain ⟨px, hpx⟩ : ∃ px, px = w.heap.size := ⟨_, rfl⟩
  rw [← hpx]
  rintro W ⟨hu', ht, hb⟩
  have hp1 : pl ≠ px := by omega
  have hp2 : pf ≠ px := by omega
  have b0 : W.cell? ⟨px, 0, none⟩ = some (.int .i64 code) := cell_blk hb
  have b1 : W.cell? ⟨px, 1, none⟩ = some (.int .i64 0) := cell_blk hb
  have b2 : W.cell? ⟨px, 2, none⟩ = some (.int .i64 pos) := cell_blk hb
  have hbs : ∀ v, (W.setCell ⟨pl, 0, none⟩ v).heap[px]? = some (.cells #[.int .i64 code, .int .i64 0, .int .i64 pos] 76 (0, 0)) := fun v => by rw [blk_setCell_other _ (by show px ≠ pl; omega)]; exact hb
  have k0 : ∀ v, (W.setCell ⟨pl, 0, none⟩ v).cell? ⟨px, 0, none⟩ = some (.int .i64 code) := fun v => cell_blk (hbs v)
  have k1 : ∀ v, (W.setCell ⟨pl, 0, none⟩ v).cell? ⟨px, 1, none⟩ = some (.int .i64 0) := fun v => cell_blk (hbs v)
  have k2 : ∀ v, (W.setCell ⟨pl, 0, none⟩ v).cell? ⟨px, 2, none⟩ = some (.int .i64 pos) := fun v => cell_blk (hbs v)
  have a0 : W.cell? ⟨pl, 0, none⟩ = some v := cell_blk ht.1
  have af : W.frozen? ⟨pl, 0, none⟩ = false := free_blk ht.1
  have HS : ∀ v, Two (W.setCell ⟨pl, 0, none⟩ v) pl pf v c0 p0 42 := fun v => ⟨by exact blk_setCell ht.1 v, by rw [blk_setCell_other _ (by show pf ≠ pl; exact fun e => HN.out e.symm)]; exact ht.2⟩
  have f0 : ∀ v, (W.setCell ⟨pl, 0, none⟩ v).cell? ⟨pf, 0, none⟩ = some (.int .i64 c0) := fun v => cell_blk (HS v).2
  have f1 : ∀ v, (W.setCell ⟨pl, 0, none⟩ v).cell? ⟨pf, 1, none⟩ = some (.int .i64 0) := fun v => cell_blk (HS v).2
  have f2 : ∀ v, (W.setCell ⟨pl, 0, none⟩ v).cell? ⟨pf, 2, none⟩ = some (.int .i64 p0) := fun v => cell_blk (HS v).2
  have f3 : ∀ v o, (W.setCell ⟨pl, 0, none⟩ v).frozen? ⟨pf, o, none⟩ = false := fun v o => free_blk (HS v).2
  have HU := Lib.hid hu'; have HT := Lib.hid ht; have HSS := Lib.hid HS
  clear hu' ht HS hb hbs hpx l0 l1
  go_region
  exact ⟨rfl, _, rfl, _, results_none rfl _ _ _, rfl, rfl, catch_post HU.out HT.out HN.out⟩

set_option maxRecDepth 100000 in
theorem scan_catch_idle (pl pf : Nat) (w : World) :
    CallsD Tryz.prog 31 #[.pointer (some ⟨pl, 0, none⟩), .pointer (some ⟨pf, 0, none⟩)] .returning w fun e u' w' => e = .returned (.tuple #[]) ∧ u' = .returning ∧ w' = w := by
  refine callsD_of_wpS Tryz.func31 rfl fun c₀ cs hu => ?_
  apply wpS_seq
  apply wpS_region
  simp only [Tryz.ntmps31, List.size_toArray, List.length_cons, List.length_nil, Nat.reduceAdd, Nat.reduceSub, Array.replicate_succ, Array.replicate_zero, List.push_toArray, List.append_toArray, List.nil_append, List.cons_append]
  simp [wpOpsS, go_sem, recoverD, hu, Exit.thenS]
  refine wpS_of_wp ?_
  go_wp2
  exact ⟨rfl, .returning, by cases c₀; simp_all, _, results_none rfl _ _ _, rfl, rfl, rfl⟩

set_option maxRecDepth 100000 in
set_option maxHeartbeats 1000000 in
theorem parse_catch (pl pf : Nat) (v : Value) (c0 p0 code pos : Int) (w : World) (h : Two w pl pf v c0 p0 22) (hne : pl ≠ pf) :
    CallsD Tryz.prog 16 #[.pointer (some ⟨pl, 0, none⟩), .pointer (some ⟨pf, 0, none⟩)] (.panicking [{ v := .iface 46 (.agg #[.int .i64 code, .int .i64 0, .int .i64 pos]), recovered := false }]) w fun e u' w' =>
      e = .returned (.tuple #[]) ∧ u' = .panicking [{ v := .iface 46 (.agg #[.int .i64 code, .int .i64 0, .int .i64 pos]), recovered := true }] ∧ CatchPost w pl pf 22 code pos w' := by
  refine callsD_of_wpS Tryz.func16 rfl fun c₀ cs hu => ?_
  apply wpS_seq
  apply wpS_region
  simp only [Tryz.ntmps16, List.size_toArray, List.length_cons, List.length_nil, Nat.reduceAdd, Nat.reduceSub, Array.replicate_succ, Array.replicate_zero, List.push_toArray, List.append_toArray, List.nil_append, List.cons_append]
  simp [wpOpsS, go_sem, recoverD, hu, Exit.thenS]
  refine wpS_of_wp ?_
  have hta : ∀ w : World, (Instr.typeAssert (.iface 46 (.agg #[.int .i64 code, .int .i64 0, .int .i64 pos])) 20 46 true).run Tryz.prog w = .ok (.tuple #[.agg #[.int .i64 code, .int .i64 0, .int .i64 pos], .bool true]) w := fun _ => by kernel_rfl
  have HH := Lib.hid h; have HN := Lib.hid hne
  clear h hne
  have l0 : pl < w.heap.size := lt_blk HH.out.1
  have l1 : pf < w.heap.size := lt_blk HH.out.2
  go_upto_region 7 with (fail)
  refine wp_gen (fun W => Upd w (fun k => k = pl ∨ k = pf) W (fun k => k = pl ∨ k = pf) ∧ Two W pl pf v c0 p0 22 ∧ W.heap[w.heap.size]? = some (.cells #[.int .i64 code, .int .i64 0, .int .i64 pos] 46 (0, 0))) ⟨(Upd.refl _ _).alloc _, ⟨blk_alloc HH.out.1, blk_alloc HH.out.2⟩, blk_new rfl⟩ ?_
  obtain ⟨px, hpx⟩ : ∃ px, px = w.heap.size := ⟨_, rfl⟩
  rw [← hpx]
  rintro W ⟨hu', ht, hb⟩
  have hp1 : pl ≠ px := by omega
  have hp2 : pf ≠ px := by omega
  have b0 : W.cell? ⟨px, 0, none⟩ = some (.int .i64 code) := cell_blk hb
  have b1 : W.cell? ⟨px, 1, none⟩ = some (.int .i64 0) := cell_blk hb
  have b2 : W.cell? ⟨px, 2, none⟩ = some (.int .i64 pos) := cell_blk hb
  have hbs : ∀ v, (W.setCell ⟨pl, 0, none⟩ v).heap[px]? = some (.cells #[.int .i64 code, .int .i64 0, .int .i64 pos] 46 (0, 0)) := fun v => by rw [blk_setCell_other _ (by show px ≠ pl; omega)]; exact hb
  have k0 : ∀ v, (W.setCell ⟨pl, 0, none⟩ v).cell? ⟨px, 0, none⟩ = some (.int .i64 code) := fun v => cell_blk (hbs v)
  have k1 : ∀ v, (W.setCell ⟨pl, 0, none⟩ v).cell? ⟨px, 1, none⟩ = some (.int .i64 0) := fun v => cell_blk (hbs v)
  have k2 : ∀ v, (W.setCell ⟨pl, 0, none⟩ v).cell? ⟨px, 2, none⟩ = some (.int .i64 pos) := fun v => cell_blk (hbs v)
  have a0 : W.cell? ⟨pl, 0, none⟩ = some v := cell_blk ht.1
  have af : W.frozen? ⟨pl, 0, none⟩ = false := free_blk ht.1
  have HS : ∀ v, Two (W.setCell ⟨pl, 0, none⟩ v) pl pf v c0 p0 22 := fun v => ⟨by exact blk_setCell ht.1 v, by rw [blk_setCell_other _ (by show pf ≠ pl; exact fun e => HN.out e.symm)]; exact ht.2⟩
  have f0 : ∀ v, (W.setCell ⟨pl, 0, none⟩ v).cell? ⟨pf, 0, none⟩ = some (.int .i64 c0) := fun v => cell_blk (HS v).2
  have f1 : ∀ v, (W.setCell ⟨pl, 0, none⟩ v).cell? ⟨pf, 1, none⟩ = some (.int .i64 0) := fun v => cell_blk (HS v).2
  have f2 : ∀ v, (W.setCell ⟨pl, 0, none⟩ v).cell? ⟨pf, 2, none⟩ = some (.int .i64 p0) := fun v => cell_blk (HS v).2
  have f3 : ∀ v o, (W.setCell ⟨pl, 0, none⟩ v).frozen? ⟨pf, o, none⟩ = false := fun v o => free_blk (HS v).2
  have HU := Lib.hid hu'; have HT := Lib.hid ht; have HSS := Lib.hid HS
  clear hu' ht HS hb hbs hpx l0 l1
  go_region
  exact ⟨rfl, _, rfl, _, results_none rfl _ _ _, rfl, rfl, catch_post HU.out HT.out HN.out⟩

set_option maxRecDepth 100000 in
theorem parse_catch_idle (pl pf : Nat) (w : World) :
    CallsD Tryz.prog 16 #[.pointer (some ⟨pl, 0, none⟩), .pointer (some ⟨pf, 0, none⟩)] .returning w fun e u' w' => e = .returned (.tuple #[]) ∧ u' = .returning ∧ w' = w := by
  refine callsD_of_wpS Tryz.func16 rfl fun c₀ cs hu => ?_
  apply wpS_seq
  apply wpS_region
  simp only [Tryz.ntmps16, List.size_toArray, List.length_cons, List.length_nil, Nat.reduceAdd, Nat.reduceSub, Array.replicate_succ, Array.replicate_zero, List.push_toArray, List.append_toArray, List.nil_append, List.cons_append]
  simp [wpOpsS, go_sem, recoverD, hu, Exit.thenS]
  refine wpS_of_wp ?_
  go_wp2
  exact ⟨rfl, .returning, by cases c₀; simp_all, _, results_none rfl _ _ _, rfl, rfl, rfl⟩

end Go.Proofs.YtaklephcgepfjaaGreatDoor

/- The program's lexer: Scan. -/
namespace Go.Proofs.YtaklephcgepfjaaGreatDoor
open Go.RowKit

theorem Tryz.infoTok : (Tryz.prog.info? 81).map (fun i => (i.zero, i.size, i.bytes)) = some (some (.agg #[.int .i64 0, .int .i64 0, .int .i64 0, .string ⟨#[]⟩]), 4, 40) := by kernel_rfl

def tkCells (t : Tk) : List Value := [.int .i64 t.kind, .int .i64 t.num, .int .i64 t.pos, .string t.text]
def tkRow (l : List Tk) : List Value := l.flatMap tkCells
theorem tkRow_length (l : List Tk) : (tkRow l).length = l.length * 4 := by
  induction l with
  | nil => rfl
  | cons t l ih =>
    have h : tkRow (t :: l) = tkCells t ++ tkRow l := by simp [tkRow]
    rw [h, List.length_append, ih, List.length_cons]
    simp [tkCells]; omega
theorem tkRow_snoc (l : List Tk) (t : Tk) : tkRow (l ++ [t]) = tkRow l ++ tkCells t := by simp [tkRow]

/-- A list of tokens in memory. -/
def TokOwn (w : World) (lv : Value) (l : List Tk) : Prop := w.ownsRow 0 81 4 lv l.length (tkRow l)

/-- An update of new blocks alone. -/
theorem Upd.past {w W W1 : World} {X X1 : Nat → Prop} (h : Upd w NO W NO) (u : Upd W X W1 X1) (hX : ∀ k, X k → w.heap.size ≤ k) : Upd w NO W1 NO :=
  ⟨u.os.trans h.os, u.tape.trans h.tape, u.output.trans h.output, Nat.le_trans h.size u.size, fun k hk _ => (u.block k (Nat.lt_of_lt_of_le hk h.size) (fun e => by have := hX k e; omega)).trans (h.block k hk id), fun _ h => h.elim⟩

/-- Memory in Scan's loop. -/
structure ScanW (w W : World) (pl pf bs k : Nat) (s : ByteArray) (lv : Value) (l : List Tk) : Prop where
  u : Upd w NO W NO
  l1 : w.heap.size ≤ pl
  l2 : pl < pf
  l3 : pf < bs
  hl : W.heap[pl]? = some (.cells #[lv] 42 (0, 0))
  hf : W.heap[pf]? = some (.cells #[.int .i64 0, .int .i64 0, .int .i64 0] 25 (0, 0))
  hb : W.heap[bs]? = some (.cells #[.string s, .int .i64 k] 79 (0, 0))
  own : TokOwn W lv l
  fresh : ∀ g, lv.ownBlock = some g → bs < g

section
variable {w W W1 : World} {pl pf bs k : Nat} {s : ByteArray} {lv : Value} {l : List Tk}

theorem ScanW.drew (h : ScanW w W pl pf bs k s lv l) : ScanW w W.drew pl pf bs k s lv l := { h with u := h.u.drew }

/-- Behind an update of the scanner alone. -/
theorem ScanW.upd (h : ScanW w W pl pf bs k s lv l) (u : Upd W (fun k => k = bs) W1 (fun k => k = bs)) {k' : Nat} (hb : W1.heap[bs]? = some (.cells #[.string s, .int .i64 k'] 79 (0, 0))) : ScanW w W1 pl pf bs k' s lv l := by
  have a := h.l1; have b := h.l2; have c := h.l3
  exact { h with
    u := h.u.past u (fun k hk => by omega)
    hl := u.keep h.hl (by omega), hf := u.keep h.hf (by omega), hb := hb, own := u.ownsRow h.own (fun g hg => by have := h.fresh g hg; omega) }

theorem ScanW.upd' (h : ScanW w W pl pf bs k s lv l) (u : Upd W (fun k => k = bs) W1 (fun k => k = bs)) : Upd w NO W1 NO := by
  have a := h.l1; have b := h.l2; have c := h.l3
  exact h.u.past u (fun k hk => by omega)

theorem ScanW.kept {W2 : World} {o : Obj} (h : ScanW w W pl pf bs k s lv l) (hg : (W.alloc o).grownBy W2 lv.ownBlock) : W2.heap[pl]? = some (.cells #[lv] 42 (0, 0)) := by
  have b := h.l2; have c := h.l3
  have u1 : Upd W (fun k => lv.ownBlock = some k) W2 (fun k => lv.ownBlock = some k) := ((Upd.refl W _).alloc o).grown hg (fun k hk => .inl hk)
  exact u1.keep h.hl (fun e => by have := h.fresh _ e; omega)

/-- A token more. -/
theorem ScanW.more {W2 : World} {lv' : Value} {o : Obj} {t : Tk} (h : ScanW w W pl pf bs k s lv l) (hown : W2.ownsRow 0 81 4 lv' (l.length + 1) (tkRow l ++ tkCells t)) (hg : (W.alloc o).grownBy W2 lv.ownBlock)
    (hv : ∀ k, lv'.ownBlock = some k → lv.ownBlock = some k ∨ (W.alloc o).heap.size ≤ k) : ScanW w (W2.setCell ⟨pl, 0, none⟩ lv') pl pf bs k s lv' (l ++ [t]) := by
  have a := h.l1; have b := h.l2; have c := h.l3
  have u1 : Upd W (fun k => lv.ownBlock = some k) W2 (fun k => lv.ownBlock = some k) := ((Upd.refl W _).alloc o).grown hg (fun k hk => .inl hk)
  have hs : (W.alloc o).heap.size = W.heap.size + 1 := by simp
  have hbs := lt_blk h.hb
  have n1 : ¬ lv.ownBlock = some pl := fun e => by have := h.fresh _ e; omega
  have n2 : ¬ lv.ownBlock = some pf := fun e => by have := h.fresh _ e; omega
  have n3 : ¬ lv.ownBlock = some bs := fun e => by have := h.fresh _ e; omega
  have fr : ∀ g, lv'.ownBlock = some g → bs < g := fun g e => by
    rcases hv g e with h1 | h1
    · exact h.fresh g h1
    · omega
  have hpl : pl ≠ bs := by omega
  have u2 : Upd w NO W2 NO := h.u.past u1 (fun k hk => by have := h.fresh k hk; omega)
  refine { h with
    u := u2.setCell (a := ⟨pl, 0, none⟩) (.inr (by show w.heap.size ≤ pl; omega)) lv'
    hl := by exact blk_setCell (u1.keep h.hl n1) lv'
    hf := by rw [blk_setCell_other _ (by show pf ≠ pl; omega)]; exact u1.keep h.hf n2
    hb := by rw [blk_setCell_other _ (by show bs ≠ pl; omega)]; exact u1.keep h.hb n3
    own := ?_
    fresh := fr }
  unfold TokOwn
  rw [List.length_append, tkRow_snoc]
  exact ((Upd.refl W2 (fun k => k = pl)).setCell (a := ⟨pl, 0, none⟩) (.inl rfl) lv').ownsRow hown (fun g e => by have := fr g e; omega)
end

theorem ScanW.two {w W : World} {pl pf bs k : Nat} {s : ByteArray} {lv : Value} {l : List Tk} (h : ScanW w W pl pf bs k s lv l) : Two W pl pf lv 0 0 42 := ⟨h.hl, h.hf⟩

theorem ScanW.ne {w W : World} {pl pf bs k : Nat} {s : ByteArray} {lv : Value} {l : List Tk} (h : ScanW w W pl pf bs k s lv l) : pl ≠ pf := by have := h.l2; omega

/-- The results are laid. -/
theorem ScanW.fin {w W : World} {pl pf bs k : Nat} {s : ByteArray} {lv : Value} {l : List Tk} (h : ScanW w W pl pf bs k s lv l) :
    Upd w NO ((((W.setCell ⟨pl, 0, none⟩ lv).setCell ⟨pf, 0, none⟩ (.int .i64 0)).setCell ⟨pf, 1, none⟩ (.int .i64 0)).setCell ⟨pf, 2, none⟩ (.int .i64 0)).drew NO ∧
    Two ((((W.setCell ⟨pl, 0, none⟩ lv).setCell ⟨pf, 0, none⟩ (.int .i64 0)).setCell ⟨pf, 1, none⟩ (.int .i64 0)).setCell ⟨pf, 2, none⟩ (.int .i64 0)).drew pl pf lv 0 0 42 ∧
    TokOwn ((((W.setCell ⟨pl, 0, none⟩ lv).setCell ⟨pf, 0, none⟩ (.int .i64 0)).setCell ⟨pf, 1, none⟩ (.int .i64 0)).setCell ⟨pf, 2, none⟩ (.int .i64 0)).drew lv l := by
  have a := h.l1; have b := h.l2; have c := h.l3
  have u : Upd W (fun k => k = pl ∨ k = pf) ((((W.setCell ⟨pl, 0, none⟩ lv).setCell ⟨pf, 0, none⟩ (.int .i64 0)).setCell ⟨pf, 1, none⟩ (.int .i64 0)).setCell ⟨pf, 2, none⟩ (.int .i64 0)).drew (fun k => k = pl ∨ k = pf) :=
    (((((Upd.refl W (fun k => k = pl ∨ k = pf)).setCell (a := ⟨pl, 0, none⟩) (.inl (.inl rfl)) lv).setCell (a := ⟨pf, 0, none⟩) (.inl (.inr rfl)) _).setCell (a := ⟨pf, 1, none⟩) (.inl (.inr rfl)) _).setCell (a := ⟨pf, 2, none⟩) (.inl (.inr rfl)) _).drew
  refine ⟨h.u.past u (fun k hk => by omega), ⟨?_, ?_⟩, u.ownsRow h.own (fun g hg => by have := h.fresh g hg; omega)⟩
  · show (World.setCell _ _ _).heap[pl]? = _
    rw [blk_setCell_other _ h.ne, blk_setCell_other _ h.ne, blk_setCell_other _ h.ne]
    exact blk_setCell h.hl _
  · show (World.setCell _ _ _).heap[pf]? = _
    have h1 : (W.setCell ⟨pl, 0, none⟩ lv).heap[pf]? = some (.cells #[.int .i64 0, .int .i64 0, .int .i64 0] 25 (0, 0)) := by
      rw [blk_setCell_other _ (by show pf ≠ pl; exact fun e => h.ne e.symm)]; exact h.hf
    exact blk_setCell (blk_setCell (blk_setCell h1 _) _) _

theorem block_gen {n : Nat} {Q : Exit → Act → World → Prop} {e : Exit} {a : Act} {W : World} (I : World → Prop) (hI : I W) (h : ∀ W, I W → Exit.inBlock n Q e a W) : Exit.inBlock n Q e a W := h W hI

/-- What Scan's loop knows at the head of its test. -/
def ScanInv (w : World) (pl pf bs : Nat) (s : ByteArray) (r : LRes) (m : Nat) (W : World) : Prop :=
  ∃ (k : Nat) (lv : Value) (l : List Tk), k ≤ s.size ∧ s.size - k ≤ m ∧ l.length ≤ k ∧ r = scanH s m k l ∧ ScanW w W pl pf bs k s lv l

def ScanPost (w : World) (r : LRes) (e : Ending) (w' : World) : Prop :=
  Upd w NO w' NO ∧ match r with
    | .ok l => ∃ lv, e = .returned (.tuple #[lv, .agg #[.int .i64 0, .int .i64 0, .int .i64 0]]) ∧ TokOwn w' lv l ∧ ∀ g, lv.ownBlock = some g → w.heap.size ≤ g
    | .bad c p => e = .returned (.tuple #[.slice none 0 0, .agg #[.int .i64 c, .int .i64 0, .int .i64 p]])
    | .out => False

theorem results_scan (tmps : Array Value) (W : World) (pl pf : Nat) (lv : Value) (c p : Int) (h2 : tmps.getD 2 undef = .pointer (some ⟨pl, 0, none⟩)) (h3 : tmps.getD 3 undef = .pointer (some ⟨pf, 0, none⟩)) (ht : Two W pl pf lv c p 42) :
    (results Tryz.f15 tmps).run Tryz.prog W = .ok (.tuple #[lv, .agg #[.int .i64 c, .int .i64 0, .int .i64 p]]) W := by
  have a0 : W.cell? ⟨pl, 0, none⟩ = some lv := cell_blk ht.1
  have f0 : W.cell? ⟨pf, 0, none⟩ = some (.int .i64 c) := cell_blk ht.2
  have f1 : W.cell? ⟨pf, 1, none⟩ = some (.int .i64 0) := cell_blk ht.2
  have f2 : W.cell? ⟨pf, 2, none⟩ = some (.int .i64 p) := cell_blk ht.2
  have g2 : tmps[2]?.getD undef = .pointer (some ⟨pl, 0, none⟩) := by simpa using h2
  have g3 : tmps[3]?.getD undef = .pointer (some ⟨pf, 0, none⟩) := by simpa using h3
  simp [results, Tryz.results15, go_sem, g2, g3, a0, f0, f1, f2]

theorem scan_ret (tmps : Array Value) (W : World) (pl pf : Nat) (lv : Value) (c p : Int) (R : Ending → World → Prop) (h2 : tmps.getD 2 undef = .pointer (some ⟨pl, 0, none⟩)) (h3 : tmps.getD 3 undef = .pointer (some ⟨pf, 0, none⟩)) (ht : Two W pl pf lv c p 42)
    (hR : R (.returned (.tuple #[lv, .agg #[.int .i64 c, .int .i64 0, .int .i64 p]])) W) :
    Leaves Tryz.prog Tryz.f15 tmps R [{ target := .fn (.func 31) #[.pointer (some ⟨pl, 0, none⟩), .pointer (some ⟨pf, 0, none⟩)], args := #[] }] .returning W := by
  refine leaves_cons (f := 31) (args := #[.pointer (some ⟨pl, 0, none⟩), .pointer (some ⟨pf, 0, none⟩)]) (by simp) (by simp [go_sem]) ?_
  refine (scan_catch_idle pl pf _).mono ?_
  rintro e u' w'' ⟨rfl, rfl, rfl⟩
  exact ⟨_, results_scan tmps _ pl pf lv c p h2 h3 ht, hR⟩

theorem scan_panic (tmps : Array Value) (W : World) (pl pf : Nat) (lv : Value) (c0 p0 c p : Int) (R : Ending → World → Prop) (h2 : tmps.getD 2 undef = .pointer (some ⟨pl, 0, none⟩)) (h3 : tmps.getD 3 undef = .pointer (some ⟨pf, 0, none⟩)) (hne : pl ≠ pf) (ht : Two W pl pf lv c0 p0 42)
    (hR : ∀ W', CatchPost W pl pf 42 c p W' → R (.returned (.tuple #[.slice none 0 0, .agg #[.int .i64 c, .int .i64 0, .int .i64 p]])) W') :
    Leaves Tryz.prog Tryz.f15 tmps R [{ target := .fn (.func 31) #[.pointer (some ⟨pl, 0, none⟩), .pointer (some ⟨pf, 0, none⟩)], args := #[] }] (.panicking [{ v := .iface 76 (.agg #[.int .i64 c, .int .i64 0, .int .i64 p]), recovered := false }]) W := by
  refine leaves_cons (f := 31) (args := #[.pointer (some ⟨pl, 0, none⟩), .pointer (some ⟨pf, 0, none⟩)]) (by simp) (by simp [go_sem]) ?_
  refine (scan_catch pl pf lv c0 p0 c p W ht hne).mono ?_
  rintro e u' w'' ⟨rfl, rfl, hc⟩
  exact ⟨_, results_scan tmps _ pl pf _ c p h2 h3 hc.2, hR _ hc⟩

set_option maxRecDepth 100000 in
theorem scan_size (s : ByteArray) (w : World) (hs : 4000 < s.size) (hm : s.size ≤ maxLen) :
    Calls Tryz.prog 15 #[.string s] w (ScanPost w (.bad 1 0)) := by
  unfold maxLen at hm
  have hd : decide ((4000 : Int) < (s.size : Int)) = true := by simp; omega
  have hd2 : decide (4000 < s.size) = true := by simp; omega
  have hmf : ∀ (fn : Fn) (first cap : Array Value) (w : World), (Instr.makeFunc fn first cap).run Tryz.prog w = .ok (.func fn first cap) w := fun _ _ _ _ => rfl
  go_enter_defers Tryz.func15, Tryz.ntmps15
  go_wp2
  refine scan_ret _ _ w.heap.size (w.heap.size + 1) (.slice none 0 0) 1 0 _ rfl rfl ?_ ?_
  · exact ⟨blk_alloc (blk_new rfl), blk_new (by simp)⟩
  · exact ⟨((Upd.refl _ _).alloc _).alloc _, rfl⟩

/-- A panic out of an update of the scanner. -/
theorem ScanW.bad {w W W1 : World} {pl pf bs k : Nat} {s : ByteArray} {lv : Value} {l : List Tk} (h : ScanW w W pl pf bs k s lv l) (u : Upd W (fun k => k = bs) W1 (fun k => k = bs)) {c p : Int} {r : LRes} (hr : r = .bad c p) :
    Two W1 pl pf lv 0 0 42 ∧ ∀ W', CatchPost W1 pl pf 42 c p W' → ScanPost w r (.returned (.tuple #[.slice none 0 0, .agg #[.int .i64 c, .int .i64 0, .int .i64 p]])) W' := by
  have a := h.l1; have b := h.l2; have d := h.l3
  refine ⟨⟨u.keep h.hl (by omega), u.keep h.hf (by omega)⟩, fun W' hc => ⟨(h.upd' u).past hc.1 (fun k hk => by omega), ?_⟩⟩
  rw [hr]

set_option maxRecDepth 100000 in
set_option maxHeartbeats 2000000 in
theorem scan_text (s : ByteArray) (w : World) (hs : ¬ 4000 < s.size) (r : LRes) (HR : Hid (scanR s (s.size + 1) 0 [] = r)) :
    Calls Tryz.prog 15 #[.string s] w (ScanPost w r) := by
  have hd : decide ((4000 : Int) < (s.size : Int)) = false := by simp; omega
  have hd2 : decide (4000 < s.size) = false := by simp; omega
  have hmf : ∀ (fn : Fn) (first cap : Array Value) (w : World), (Instr.makeFunc fn first cap).run Tryz.prog w = .ok (.func fn first cap) w := fun _ _ _ _ => rfl
  go_enter_defers Tryz.func15, Tryz.ntmps15
  go_upto_region 5 with (fail)
  refine wp_gen (fun W => ScanW w W w.heap.size (w.heap.size + 1) (w.heap.size + 1 + 1) 0 s (.slice none 0 0) []) ⟨(((Upd.refl _ _).alloc _).alloc _).alloc _, by omega, by omega, by omega, blk_alloc (blk_alloc (blk_new rfl)), blk_alloc (blk_new (by simp)), blk_new (by simp), World.ownsRow_nil _ _ _ _, fun g hg => by cases hg⟩ ?_
  obtain ⟨pl, hpl⟩ : ∃ pl, pl = w.heap.size := ⟨_, rfl⟩
  rw [← hpl]
  have HPL := Lib.hid hpl; clear hpl
  obtain ⟨pf, hpf⟩ : ∃ pf, pf = pl + 1 := ⟨_, rfl⟩
  rw [← hpf]
  have HPF := Lib.hid hpf; clear hpf
  obtain ⟨bs, hbs⟩ : ∃ bs, bs = pf + 1 := ⟨_, rfl⟩
  rw [← hbs]
  have HBS := Lib.hid hbs; clear hbs
  intro W hS
  have HS := Lib.hid hS; clear hS
  have HD : Hid (s.size ≤ 5000) := Lib.hid (by omega)
  as_aux_lemma =>
  go_wp2_with fail
  have HBL := Lib.hid (blank_c bs 0 s W HS.out.hb (by omega) HD.out)
  cases hb : (skipR s false 0).2 with
  | true =>
    refine HBL.out.mono ?_
    rintro e W1 ⟨u1, h1⟩
    rw [hb, if_pos rfl] at h1
    unfold lexBad at h1
    subst h1
    have hx := HS.out.bad u1 (HR.out.symm.trans (scanR_bad hb))
    have HX := Lib.hid hx; clear hx u1 HBL hb
    go_wp2_with fail
    exact scan_panic _ _ pl pf _ 0 0 _ _ _ rfl rfl HS.out.ne HX.out.1 HX.out.2
  | false =>
    refine HBL.out.mono ?_
    rintro e W1 ⟨u1, h1⟩
    rw [hb, if_neg (by decide)] at h1
    obtain ⟨rfl, h1⟩ := h1
    have HI : Hid (ScanInv w pl pf bs s r s.size W1) := Lib.hid ⟨(skipR s false 0).1, .slice none 0 0, [], (skipR_le s false 0 (by omega)).2, by omega, by simp, HR.out.symm.trans (scanR_good hb), HS.out.upd u1 h1⟩
    clear h1 u1 hb HBL HS HR
    as_aux_lemma =>
    go_wp2_with fail
    go_loopg [] s.size (fun m wr => ScanInv w pl pf bs s r m wr)
    case atStart => exact HI.out
    case round =>
      clear HI
      obtain ⟨k, lv, l, hk, hm, hlen, hr, hS⟩ := hrel
      have HS := Lib.hid hS; have HR := Lib.hid hr; have HM := Lib.hid hm; have HLEN := Lib.hid hlen
      clear hS hr hm hlen
      have c1 : wr.cell? ⟨bs, 1, none⟩ = some (.int .i64 k) := cell_blk HS.out.hb
      have cl : wr.cell? ⟨pl, 0, none⟩ = some lv := cell_blk HS.out.hl
      by_cases hlt : k < s.size
      · have hd : decide ((k : Int) < (s.size : Int)) = true := by simp; omega
        have hd2 : decide (k < s.size) = true := by simp; omega
        have HT := Lib.hid (token_c bs k s wr.drew HS.out.drew.hb hlt HD.out)
        cases ht : tokenR s k with
        | bad c =>
          have HR2 : Hid (r = .bad c k) := Lib.hid (by rw [HR.out, scanH, if_pos hlt, ht])
          rw [ht] at HT
          clear ht HR
          go_upto_region 8 with (fail)
          as_aux_lemma =>
          refine wp_region_any (by kernel_rfl) ?_
          change wpAny _ _ _ _ _ _ _ (World.drew _)
          -- <bad>
          refine wpAny_ready (rs := [0, 1]) (by kernel_rfl) (by simp) (AllReady.cons rfl (fun K hK => ?_) (AllReady.cons rfl (fun K hK => ?_) AllReady.nil))
          · go_simp
            refine hK _ _ ?_
            clear hK K
            refine wpAny_ready (rs := [1]) (by kernel_rfl) (by simp) (AllReady.cons rfl (fun K hK => ?_) AllReady.nil)
            go_simp
            refine hK _ _ ?_
            clear hK K
            refine wpAny_ready (rs := [2]) (by kernel_rfl) (by simp) (AllReady.cons rfl (fun K hK => ?_) AllReady.nil)
            go_simp
            refine HT.out.mono ?_
            rintro e W1 ⟨h1, u1⟩
            unfold lexBad at h1
            subst h1
            have hx := HS.out.drew.bad u1 HR2.out
            exact scan_panic _ _ pl pf _ 0 0 _ _ _ rfl rfl HS.out.ne hx.1 hx.2
          · go_simp
            refine hK _ _ ?_
            clear hK K
            refine wpAny_ready (rs := [0, 2]) (by kernel_rfl) (by simp) (AllReady.cons rfl (fun K hK => ?_) (AllReady.cons rfl (fun K hK => ?_) AllReady.nil))
            · go_simp
              refine hK _ _ ?_
              clear hK K
              refine wpAny_ready (rs := [2]) (by kernel_rfl) (by simp) (AllReady.cons rfl (fun K hK => ?_) AllReady.nil)
              go_simp
              refine HT.out.mono ?_
              rintro e W1 ⟨h1, u1⟩
              unfold lexBad at h1
              subst h1
              have hx := HS.out.drew.bad u1 HR2.out
              exact scan_panic _ _ pl pf _ 0 0 _ _ _ rfl rfl HS.out.ne hx.1 hx.2
            · go_simp
              refine HT.out.mono ?_
              rintro e W1 ⟨h1, u1⟩
              unfold lexBad at h1
              subst h1
              have hx := HS.out.drew.bad u1 HR2.out
              exact scan_panic _ _ pl pf _ 0 0 _ _ _ rfl rfl HS.out.ne hx.1 hx.2
          -- </bad>
        | ok t k2 =>
          have HK := Lib.hid (tokenR_lt hlt ht)
          have HR2 : Hid (r = scanR s gk k2 (l ++ [t])) := Lib.hid (by rw [HR.out, scanH, if_pos hlt, ht])
          have HG : Hid (∃ g, gk = g + 1) := Lib.hid ⟨gk - 1, by have := HM.out; omega⟩
          rw [ht] at HT
          clear ht HR
          obtain ⟨i0, hi, hz0, hz1, hz2⟩ := info_parts Tryz.infoTok
          have HI0 := Lib.hid (And.intro hi (And.intro hz0 (And.intro hz1 hz2))); clear hi hz0 hz1 hz2
          have HCF : Hid (∀ (args : Array Value) (w : World), (callFunc 33 args).run Tryz.prog w = .ok (.enter 33 args) w) := Lib.hid (fun _ _ => by simp [go_sem])
          go_upto_region 8 with (fail)
          as_aux_lemma =>
          refine wp_region_any (by kernel_rfl) ?_
          change wpAny _ _ _ _ _ _ _ (World.drew _)
          -- <ok>
          refine wpAny_ready (rs := [0, 1]) (by kernel_rfl) (by simp) (AllReady.cons rfl (fun K hK => ?_) (AllReady.cons rfl (fun K hK => ?_) AllReady.nil))
          · go_simp
            refine hK _ _ ?_
            clear hK K
            refine wpAny_ready (rs := [1]) (by kernel_rfl) (by simp) (AllReady.cons rfl (fun K hK => ?_) AllReady.nil)
            go_simp
            refine hK _ _ ?_
            clear hK K
            refine wpAny_ready (rs := [2]) (by kernel_rfl) (by simp) (AllReady.cons rfl (fun K hK => ?_) AllReady.nil)
            go_simp
            refine HT.out.mono ?_
            rintro e W1 ⟨rfl, h1, u1⟩
            have hS1 := HS.out.drew.upd u1 h1
            have cl1 : W1.cell? ⟨pl, 0, none⟩ = some lv := cell_blk hS1.hl
            have ca1 : ∀ o, (W1.alloc o).cell? ⟨pl, 0, none⟩ = some lv := fun o => cell_blk (blk_alloc hS1.hl)
            have HS1 := Lib.hid hS1
            clear hS1 h1 u1
            dsimp only
            go_simp
            refine hK _ _ ?_
            clear hK K
            refine wpAny_ready (rs := [3]) (by kernel_rfl) (by simp) (AllReady.cons rfl (fun K hK => ?_) AllReady.nil)
            go_simp
            refine hK _ _ ?_
            clear hK K
            refine wpAny_ready (rs := [4]) (by kernel_rfl) (by simp) (AllReady.cons rfl (fun K hK => ?_) AllReady.nil)
            refine step_app (size := 4) (bytes := 40) rfl (.tmp 24) (.tmp 27) 42 rfl 81 i0 (.agg #[.int .i64 0, .int .i64 0, .int .i64 0, .string ⟨#[]⟩]) Tryz.underlying42 HI0.out.1 HI0.out.2.1 HI0.out.2.2.1 HI0.out.2.2.2 rfl (by decide) lv l.length (tkRow l) rfl (HS1.out.own.alloc _) ⟨W1.heap.size, 0, none⟩ 1 1 (tkCells t) rfl rfl (news_new W1 (tkCells t) _) (by simp [tkCells, Value.oneCell']) (by have := HLEN.out; have := HD.out; unfold maxLen; omega) (by have := HLEN.out; have := HD.out; omega) ?_
            intro v2 W2 h2 h3 h4
            obtain ⟨a2, c2, rfl⟩ := slice_of_row h2
            have HSM := Lib.hid (HS1.out.more h2 h3 h4)
            have cl2 : W2.cell? ⟨pl, 0, none⟩ = some lv := cell_blk (HS1.out.kept h3)
            have fl2 : W2.frozen? ⟨pl, 0, none⟩ = false := free_blk (HS1.out.kept h3)
            clear h2 h3 h4 cl1 ca1
            refine hK _ _ ?_
            clear hK K
            refine wpAny_ready (rs := [5]) (by kernel_rfl) (by simp) (AllReady.cons rfl (fun K hK => ?_) AllReady.nil)
            go_simp
            refine hK _ _ ?_
            clear hK K
            refine wpAny_done (by kernel_rfl) ?_ _
            refine block_gen (fun W => ScanW w W pl pf bs k2 s (.slice a2 (l.length + 1) c2) (l ++ [t])) HSM.out ?_
            clear cl HSM HS1 HS HT HCF HI0 hd hd2
            as_aux_lemma =>
            intro W5 h5
            have HS5 := Lib.hid h5; clear h5
            have HBL := Lib.hid (blank_c bs k2 s W5 HS5.out.hb HK.out.2 HD.out)
            have HG1 : Hid (gk = (gk - 1) + 1) := Lib.hid (by obtain ⟨g, hg⟩ := HG.out; omega)
            go_wp2_with fail
            cases hb : (skipR s false k2).2 with
            | true =>
              refine HBL.out.mono ?_
              rintro e W6 ⟨u1, h1⟩
              rw [hb, if_pos rfl] at h1
              unfold lexBad at h1
              subst h1
              have hx := HS5.out.bad u1 (HR2.out.trans (by rw [HG1.out]; exact scanR_bad hb))
              have HX := Lib.hid hx; clear hx u1 HBL hb
              go_wp2_with fail
              exact scan_panic _ _ pl pf _ 0 0 _ _ _ rfl rfl HS5.out.ne HX.out.1 HX.out.2
            | false =>
              refine HBL.out.mono ?_
              rintro e W6 ⟨u1, h1⟩
              rw [hb, if_neg (by decide)] at h1
              obtain ⟨rfl, h1⟩ := h1
              have HI : Hid (ScanInv w pl pf bs s r (gk - 1) W6) := Lib.hid ⟨(skipR s false k2).1, .slice a2 (l.length + 1) c2, l ++ [t], (skipR_le s false k2 HK.out.2).2, by have := (skipR_le s false k2 HK.out.2).1; have := HM.out; have := HK.out; omega, by have := (skipR_le s false k2 HK.out.2).1; have := HLEN.out; have := HK.out; simp; omega, HR2.out.trans (by rw [HG1.out]; exact scanR_good hb), HS5.out.upd u1 h1⟩
              have HGL : Hid (gk - 1 < gk) := Lib.hid (by have := HG1.out; omega)
              clear h1 u1 hb HBL HS5 HR2 HG HG1 HM HLEN HK
              go_wp2_with fail
              go_roundg (gk - 1)
              case rel => exact HI.out
              case measure => exact HGL.out
          · go_simp
            refine hK _ _ ?_
            clear hK K
            refine wpAny_ready (rs := [0, 2]) (by kernel_rfl) (by simp) (AllReady.cons rfl (fun K hK => ?_) (AllReady.cons rfl (fun K hK => ?_) AllReady.nil))
            · go_simp
              refine hK _ _ ?_
              clear hK K
              refine wpAny_ready (rs := [2]) (by kernel_rfl) (by simp) (AllReady.cons rfl (fun K hK => ?_) AllReady.nil)
              go_simp
              refine HT.out.mono ?_
              rintro e W1 ⟨rfl, h1, u1⟩
              have hS1 := HS.out.drew.upd u1 h1
              have cl1 : W1.cell? ⟨pl, 0, none⟩ = some lv := cell_blk hS1.hl
              have ca1 : ∀ o, (W1.alloc o).cell? ⟨pl, 0, none⟩ = some lv := fun o => cell_blk (blk_alloc hS1.hl)
              have HS1 := Lib.hid hS1
              clear hS1 h1 u1
              dsimp only
              go_simp
              refine hK _ _ ?_
              clear hK K
              refine wpAny_ready (rs := [3]) (by kernel_rfl) (by simp) (AllReady.cons rfl (fun K hK => ?_) AllReady.nil)
              go_simp
              refine hK _ _ ?_
              clear hK K
              refine wpAny_ready (rs := [4]) (by kernel_rfl) (by simp) (AllReady.cons rfl (fun K hK => ?_) AllReady.nil)
              refine step_app (size := 4) (bytes := 40) rfl (.tmp 24) (.tmp 27) 42 rfl 81 i0 (.agg #[.int .i64 0, .int .i64 0, .int .i64 0, .string ⟨#[]⟩]) Tryz.underlying42 HI0.out.1 HI0.out.2.1 HI0.out.2.2.1 HI0.out.2.2.2 rfl (by decide) lv l.length (tkRow l) rfl (HS1.out.own.alloc _) ⟨W1.heap.size, 0, none⟩ 1 1 (tkCells t) rfl rfl (news_new W1 (tkCells t) _) (by simp [tkCells, Value.oneCell']) (by have := HLEN.out; have := HD.out; unfold maxLen; omega) (by have := HLEN.out; have := HD.out; omega) ?_
              intro v2 W2 h2 h3 h4
              obtain ⟨a2, c2, rfl⟩ := slice_of_row h2
              have HSM := Lib.hid (HS1.out.more h2 h3 h4)
              have cl2 : W2.cell? ⟨pl, 0, none⟩ = some lv := cell_blk (HS1.out.kept h3)
              have fl2 : W2.frozen? ⟨pl, 0, none⟩ = false := free_blk (HS1.out.kept h3)
              clear h2 h3 h4 cl1 ca1
              refine hK _ _ ?_
              clear hK K
              refine wpAny_ready (rs := [5]) (by kernel_rfl) (by simp) (AllReady.cons rfl (fun K hK => ?_) AllReady.nil)
              go_simp
              refine hK _ _ ?_
              clear hK K
              refine wpAny_done (by kernel_rfl) ?_ _
              refine block_gen (fun W => ScanW w W pl pf bs k2 s (.slice a2 (l.length + 1) c2) (l ++ [t])) HSM.out ?_
              clear cl HSM HS1 HS HT HCF HI0 hd hd2
              as_aux_lemma =>
              intro W5 h5
              have HS5 := Lib.hid h5; clear h5
              have HBL := Lib.hid (blank_c bs k2 s W5 HS5.out.hb HK.out.2 HD.out)
              have HG1 : Hid (gk = (gk - 1) + 1) := Lib.hid (by obtain ⟨g, hg⟩ := HG.out; omega)
              go_wp2_with fail
              cases hb : (skipR s false k2).2 with
              | true =>
                refine HBL.out.mono ?_
                rintro e W6 ⟨u1, h1⟩
                rw [hb, if_pos rfl] at h1
                unfold lexBad at h1
                subst h1
                have hx := HS5.out.bad u1 (HR2.out.trans (by rw [HG1.out]; exact scanR_bad hb))
                have HX := Lib.hid hx; clear hx u1 HBL hb
                go_wp2_with fail
                exact scan_panic _ _ pl pf _ 0 0 _ _ _ rfl rfl HS5.out.ne HX.out.1 HX.out.2
              | false =>
                refine HBL.out.mono ?_
                rintro e W6 ⟨u1, h1⟩
                rw [hb, if_neg (by decide)] at h1
                obtain ⟨rfl, h1⟩ := h1
                have HI : Hid (ScanInv w pl pf bs s r (gk - 1) W6) := Lib.hid ⟨(skipR s false k2).1, .slice a2 (l.length + 1) c2, l ++ [t], (skipR_le s false k2 HK.out.2).2, by have := (skipR_le s false k2 HK.out.2).1; have := HM.out; have := HK.out; omega, by have := (skipR_le s false k2 HK.out.2).1; have := HLEN.out; have := HK.out; simp; omega, HR2.out.trans (by rw [HG1.out]; exact scanR_good hb), HS5.out.upd u1 h1⟩
                have HGL : Hid (gk - 1 < gk) := Lib.hid (by have := HG1.out; omega)
                clear h1 u1 hb HBL HS5 HR2 HG HG1 HM HLEN HK
                go_wp2_with fail
                go_roundg (gk - 1)
                case rel => exact HI.out
                case measure => exact HGL.out
            · go_simp
              refine HT.out.mono ?_
              rintro e W1 ⟨rfl, h1, u1⟩
              have hS1 := HS.out.drew.upd u1 h1
              have cl1 : W1.cell? ⟨pl, 0, none⟩ = some lv := cell_blk hS1.hl
              have ca1 : ∀ o, (W1.alloc o).cell? ⟨pl, 0, none⟩ = some lv := fun o => cell_blk (blk_alloc hS1.hl)
              have HS1 := Lib.hid hS1
              clear hS1 h1 u1
              dsimp only
              go_simp
              refine hK _ _ ?_
              clear hK K
              refine wpAny_ready (rs := [0, 3]) (by kernel_rfl) (by simp) (AllReady.cons rfl (fun K hK => ?_) (AllReady.cons rfl (fun K hK => ?_) AllReady.nil))
              · go_simp
                refine hK _ _ ?_
                clear hK K
                refine wpAny_ready (rs := [3]) (by kernel_rfl) (by simp) (AllReady.cons rfl (fun K hK => ?_) AllReady.nil)
                go_simp
                refine hK _ _ ?_
                clear hK K
                refine wpAny_ready (rs := [4]) (by kernel_rfl) (by simp) (AllReady.cons rfl (fun K hK => ?_) AllReady.nil)
                refine step_app (size := 4) (bytes := 40) rfl (.tmp 24) (.tmp 27) 42 rfl 81 i0 (.agg #[.int .i64 0, .int .i64 0, .int .i64 0, .string ⟨#[]⟩]) Tryz.underlying42 HI0.out.1 HI0.out.2.1 HI0.out.2.2.1 HI0.out.2.2.2 rfl (by decide) lv l.length (tkRow l) rfl (HS1.out.own.alloc _) ⟨W1.heap.size, 0, none⟩ 1 1 (tkCells t) rfl rfl (news_new W1 (tkCells t) _) (by simp [tkCells, Value.oneCell']) (by have := HLEN.out; have := HD.out; unfold maxLen; omega) (by have := HLEN.out; have := HD.out; omega) ?_
                intro v2 W2 h2 h3 h4
                obtain ⟨a2, c2, rfl⟩ := slice_of_row h2
                have HSM := Lib.hid (HS1.out.more h2 h3 h4)
                have cl2 : W2.cell? ⟨pl, 0, none⟩ = some lv := cell_blk (HS1.out.kept h3)
                have fl2 : W2.frozen? ⟨pl, 0, none⟩ = false := free_blk (HS1.out.kept h3)
                clear h2 h3 h4 cl1 ca1
                refine hK _ _ ?_
                clear hK K
                refine wpAny_ready (rs := [5]) (by kernel_rfl) (by simp) (AllReady.cons rfl (fun K hK => ?_) AllReady.nil)
                go_simp
                refine hK _ _ ?_
                clear hK K
                refine wpAny_done (by kernel_rfl) ?_ _
                refine block_gen (fun W => ScanW w W pl pf bs k2 s (.slice a2 (l.length + 1) c2) (l ++ [t])) HSM.out ?_
                clear cl HSM HS1 HS HT HCF HI0 hd hd2
                as_aux_lemma =>
                intro W5 h5
                have HS5 := Lib.hid h5; clear h5
                have HBL := Lib.hid (blank_c bs k2 s W5 HS5.out.hb HK.out.2 HD.out)
                have HG1 : Hid (gk = (gk - 1) + 1) := Lib.hid (by obtain ⟨g, hg⟩ := HG.out; omega)
                go_wp2_with fail
                cases hb : (skipR s false k2).2 with
                | true =>
                  refine HBL.out.mono ?_
                  rintro e W6 ⟨u1, h1⟩
                  rw [hb, if_pos rfl] at h1
                  unfold lexBad at h1
                  subst h1
                  have hx := HS5.out.bad u1 (HR2.out.trans (by rw [HG1.out]; exact scanR_bad hb))
                  have HX := Lib.hid hx; clear hx u1 HBL hb
                  go_wp2_with fail
                  exact scan_panic _ _ pl pf _ 0 0 _ _ _ rfl rfl HS5.out.ne HX.out.1 HX.out.2
                | false =>
                  refine HBL.out.mono ?_
                  rintro e W6 ⟨u1, h1⟩
                  rw [hb, if_neg (by decide)] at h1
                  obtain ⟨rfl, h1⟩ := h1
                  have HI : Hid (ScanInv w pl pf bs s r (gk - 1) W6) := Lib.hid ⟨(skipR s false k2).1, .slice a2 (l.length + 1) c2, l ++ [t], (skipR_le s false k2 HK.out.2).2, by have := (skipR_le s false k2 HK.out.2).1; have := HM.out; have := HK.out; omega, by have := (skipR_le s false k2 HK.out.2).1; have := HLEN.out; have := HK.out; simp; omega, HR2.out.trans (by rw [HG1.out]; exact scanR_good hb), HS5.out.upd u1 h1⟩
                  have HGL : Hid (gk - 1 < gk) := Lib.hid (by have := HG1.out; omega)
                  clear h1 u1 hb HBL HS5 HR2 HG HG1 HM HLEN HK
                  go_wp2_with fail
                  go_roundg (gk - 1)
                  case rel => exact HI.out
                  case measure => exact HGL.out
              · go_simp
                refine hK _ _ ?_
                clear hK K
                refine wpAny_ready (rs := [0]) (by kernel_rfl) (by simp) (AllReady.cons rfl (fun K hK => ?_) AllReady.nil)
                go_simp
                refine hK _ _ ?_
                clear hK K
                refine wpAny_ready (rs := [4]) (by kernel_rfl) (by simp) (AllReady.cons rfl (fun K hK => ?_) AllReady.nil)
                refine step_app (size := 4) (bytes := 40) rfl (.tmp 24) (.tmp 27) 42 rfl 81 i0 (.agg #[.int .i64 0, .int .i64 0, .int .i64 0, .string ⟨#[]⟩]) Tryz.underlying42 HI0.out.1 HI0.out.2.1 HI0.out.2.2.1 HI0.out.2.2.2 rfl (by decide) lv l.length (tkRow l) rfl (HS1.out.own.alloc _) ⟨W1.heap.size, 0, none⟩ 1 1 (tkCells t) rfl rfl (news_new W1 (tkCells t) _) (by simp [tkCells, Value.oneCell']) (by have := HLEN.out; have := HD.out; unfold maxLen; omega) (by have := HLEN.out; have := HD.out; omega) ?_
                intro v2 W2 h2 h3 h4
                obtain ⟨a2, c2, rfl⟩ := slice_of_row h2
                have HSM := Lib.hid (HS1.out.more h2 h3 h4)
                have cl2 : W2.cell? ⟨pl, 0, none⟩ = some lv := cell_blk (HS1.out.kept h3)
                have fl2 : W2.frozen? ⟨pl, 0, none⟩ = false := free_blk (HS1.out.kept h3)
                clear h2 h3 h4 cl1 ca1
                refine hK _ _ ?_
                clear hK K
                refine wpAny_ready (rs := [5]) (by kernel_rfl) (by simp) (AllReady.cons rfl (fun K hK => ?_) AllReady.nil)
                go_simp
                refine hK _ _ ?_
                clear hK K
                refine wpAny_done (by kernel_rfl) ?_ _
                refine block_gen (fun W => ScanW w W pl pf bs k2 s (.slice a2 (l.length + 1) c2) (l ++ [t])) HSM.out ?_
                clear cl HSM HS1 HS HT HCF HI0 hd hd2
                as_aux_lemma =>
                intro W5 h5
                have HS5 := Lib.hid h5; clear h5
                have HBL := Lib.hid (blank_c bs k2 s W5 HS5.out.hb HK.out.2 HD.out)
                have HG1 : Hid (gk = (gk - 1) + 1) := Lib.hid (by obtain ⟨g, hg⟩ := HG.out; omega)
                go_wp2_with fail
                cases hb : (skipR s false k2).2 with
                | true =>
                  refine HBL.out.mono ?_
                  rintro e W6 ⟨u1, h1⟩
                  rw [hb, if_pos rfl] at h1
                  unfold lexBad at h1
                  subst h1
                  have hx := HS5.out.bad u1 (HR2.out.trans (by rw [HG1.out]; exact scanR_bad hb))
                  have HX := Lib.hid hx; clear hx u1 HBL hb
                  go_wp2_with fail
                  exact scan_panic _ _ pl pf _ 0 0 _ _ _ rfl rfl HS5.out.ne HX.out.1 HX.out.2
                | false =>
                  refine HBL.out.mono ?_
                  rintro e W6 ⟨u1, h1⟩
                  rw [hb, if_neg (by decide)] at h1
                  obtain ⟨rfl, h1⟩ := h1
                  have HI : Hid (ScanInv w pl pf bs s r (gk - 1) W6) := Lib.hid ⟨(skipR s false k2).1, .slice a2 (l.length + 1) c2, l ++ [t], (skipR_le s false k2 HK.out.2).2, by have := (skipR_le s false k2 HK.out.2).1; have := HM.out; have := HK.out; omega, by have := (skipR_le s false k2 HK.out.2).1; have := HLEN.out; have := HK.out; simp; omega, HR2.out.trans (by rw [HG1.out]; exact scanR_good hb), HS5.out.upd u1 h1⟩
                  have HGL : Hid (gk - 1 < gk) := Lib.hid (by have := HG1.out; omega)
                  clear h1 u1 hb HBL HS5 HR2 HG HG1 HM HLEN HK
                  go_wp2_with fail
                  go_roundg (gk - 1)
                  case rel => exact HI.out
                  case measure => exact HGL.out
          -- </ok>
      · have hd : decide ((k : Int) < (s.size : Int)) = false := by simp; omega
        have hd2 : decide (k < s.size) = false := by simp; omega
        have HR2 : Hid (r = .ok l) := Lib.hid (by rw [HR.out, scanH, if_neg hlt])
        have HT2 : Hid (∀ v, Two (wr.setCell ⟨pl, 0, none⟩ v) pl pf v 0 0 42) := Lib.hid (fun v => ⟨by exact blk_setCell HS.out.hl v, by rw [blk_setCell_other _ (by show pf ≠ pl; have := HS.out.l2; omega)]; exact HS.out.hf⟩)
        clear HR HM HLEN
        obtain ⟨la, c, rfl⟩ := slice_of_row HS.out.own
        go_upto_region 9 with (fail)
        have fl : wr.frozen? ⟨pl, 0, none⟩ = false := free_blk HS.out.hl
        have f0 : wr.cell? ⟨pf, 0, none⟩ = some (.int .i64 0) := cell_blk HS.out.hf
        have f1 : wr.cell? ⟨pf, 1, none⟩ = some (.int .i64 0) := cell_blk HS.out.hf
        have f2 : wr.cell? ⟨pf, 2, none⟩ = some (.int .i64 0) := cell_blk HS.out.hf
        have ff : ∀ o, wr.frozen? ⟨pf, o, none⟩ = false := fun o => free_blk HS.out.hf
        have k0 : ∀ v, (wr.setCell ⟨pl, 0, none⟩ v).cell? ⟨pf, 0, none⟩ = some (.int .i64 0) := fun v => cell_blk (HT2.out v).2
        have k1 : ∀ v, (wr.setCell ⟨pl, 0, none⟩ v).cell? ⟨pf, 1, none⟩ = some (.int .i64 0) := fun v => cell_blk (HT2.out v).2
        have k2 : ∀ v, (wr.setCell ⟨pl, 0, none⟩ v).cell? ⟨pf, 2, none⟩ = some (.int .i64 0) := fun v => cell_blk (HT2.out v).2
        have kf : ∀ v o, (wr.setCell ⟨pl, 0, none⟩ v).frozen? ⟨pf, o, none⟩ = false := fun v o => free_blk (HT2.out v).2
        as_aux_lemma =>
        go_region
        refine norm_gen (fun W => Upd w NO W NO ∧ Two W pl pf (.slice la l.length c) 0 0 42 ∧ TokOwn W (.slice la l.length c) l) HS.out.fin ?_
        as_aux_lemma =>
        rintro W5 ⟨h1, h2, h3⟩
        have H1 := Lib.hid h1; have H2 := Lib.hid h2; have H3 := Lib.hid h3
        clear h1 h2 h3
        go_wp2_with fail
        refine scan_ret _ _ pl pf (.slice la l.length c) 0 0 _ rfl rfl H2.out ⟨H1.out, ?_⟩
        rw [HR2.out]
        exact ⟨_, rfl, H3.out, fun g hg => by have := HS.out.fresh g hg; have := HS.out.l1; have := HS.out.l2; have := HS.out.l3; omega⟩

/-- Scan -/
theorem scan_c (s : ByteArray) (w : World) (hm : s.size ≤ maxLen) : Calls Tryz.prog 15 #[.string s] w (ScanPost w (lexP s)) := by
  unfold lexP
  by_cases h : 4000 < s.size
  · rw [if_pos h]; exact scan_size s w h hm
  · rw [if_neg h]; exact scan_text s w h _ (Lib.hid rfl)

end Go.Proofs.YtaklephcgepfjaaGreatDoor

/- The reference's lexer: Scan. -/
namespace Go.Proofs.YtaklephcgepfjaaGreatDoor
open Go.RowKit

/-- Memory in the reference's Scan. -/
structure RScW (w W : World) (p : Nat) (lv : Value) (l : List Tk) : Prop where
  u : Upd w NO W NO
  l1 : w.heap.size ≤ p
  b : W.heap[p]? = some (.cells #[.int .i64 0, .int .i64 0, .int .i64 0] 25 (0, 0))
  own : TokOwn W lv l
  fresh : ∀ g, lv.ownBlock = some g → p < g

section
variable {w W W1 : World} {p : Nat} {lv : Value} {l : List Tk}
theorem RScW.new (h : RScW w W p lv l) (u : Upd W NO W1 NO) : RScW w W1 p lv l :=
  { h with u := h.u.past u (fun _ h => h.elim), b := u.keep h.b id, own := u.ownsRow h.own (fun _ _ => id) }
theorem RScW.app {W2 : World} {lv' : Value} {t : Tk} (h : RScW w W p lv l) (h2 : W2.ownsRow 0 81 4 lv' (l.length + 1) (tkRow l ++ tkCells t)) (hg : W.grownBy W2 lv.ownBlock)
    (hv : ∀ k, lv'.ownBlock = some k → lv.ownBlock = some k ∨ W.heap.size ≤ k) : RScW w W2 p lv' (l ++ [t]) := by
  have hp := lt_blk h.b
  have a := h.l1
  have u1 : Upd W (fun k => lv.ownBlock = some k) W2 (fun k => lv.ownBlock = some k) := (Upd.refl W _).grown hg (fun k hk => .inl hk)
  refine ⟨h.u.past u1 (fun k hk => by have := h.fresh k hk; omega), h.l1, u1.keep h.b (fun e => by have := h.fresh _ e; omega), ?_, fun g hg => ?_⟩
  · unfold TokOwn
    rw [List.length_append, tkRow_snoc]
    exact h2
  · rcases hv g hg with h1 | h1
    · exact h.fresh g h1
    · omega
theorem RScW.fault (h : RScW w W p lv l) (c q : Int) : Upd w NO (((W.setCell ⟨p, 0, none⟩ (.int .i64 c)).setCell ⟨p, 1, none⟩ (.int .i64 0)).setCell ⟨p, 2, none⟩ (.int .i64 q)) NO ∧
    TokOwn (((W.setCell ⟨p, 0, none⟩ (.int .i64 c)).setCell ⟨p, 1, none⟩ (.int .i64 0)).setCell ⟨p, 2, none⟩ (.int .i64 q)) lv l :=
  ⟨((h.u.setCell (a := ⟨p, 0, none⟩) (.inr h.l1) _).setCell (a := ⟨p, 1, none⟩) (.inr h.l1) _).setCell (a := ⟨p, 2, none⟩) (.inr h.l1) _,
   ((((Upd.refl W (fun k => k = p)).setCell (a := ⟨p, 0, none⟩) (.inl rfl) _).setCell (a := ⟨p, 1, none⟩) (.inl rfl) _).setCell (a := ⟨p, 2, none⟩) (.inl rfl) _).ownsRow h.own (fun g hg e => by have := h.fresh g hg; omega)⟩
end

def RScInv (w : World) (p : Nat) (s : ByteArray) (r : LRes) (m : Nat) (s4 s5 s6 : Value) (W : World) : Prop :=
  ∃ (k : Nat) (b : Bool) (l : List Tk), s5 = .int .i64 k ∧ s6 = .bool b ∧ k ≤ s.size ∧ s.size - k ≤ m ∧ l.length ≤ k ∧ r = (if b then .bad 4 k else scanH s m k l) ∧ RScW w W p s4 l

theorem ret_two {a b : Value} (h : a = b) : Ending.returned a = .returned b := by rw [h]

set_option maxRecDepth 100000 in
theorem rscan_size (s : ByteArray) (w : World) (hs : 4000 < s.size) (hm : s.size ≤ maxLen) :
    Calls Tryz.prog 18 #[.string s] w (ScanPost w (.bad 1 0)) := by
  unfold maxLen at hm
  have hd : decide ((4000 : Int) < (s.size : Int)) = true := by simp; omega
  have hd2 : decide (4000 < s.size) = true := by simp; omega
  go_enter Tryz.func18, Tryz.ntmps18
  go_wp2
  refine bodyPost_ret (v := .tuple #[.slice none 0 0, .agg #[.int .i64 1, .int .i64 0, .int .i64 0]]) (by simp [results, Tryz.results18, go_sem]) rfl ⟨(Upd.refl _ _).alloc _, rfl⟩

set_option maxRecDepth 100000 in
set_option maxHeartbeats 2000000 in
theorem rscan_text (s : ByteArray) (w : World) (hs : ¬ 4000 < s.size) (r : LRes) (HR : Hid (scanR s (s.size + 1) 0 [] = r)) :
    Calls Tryz.prog 18 #[.string s] w (ScanPost w r) := by
  have hd : decide ((4000 : Int) < (s.size : Int)) = false := by simp; omega
  have hd2 : decide (4000 < s.size) = false := by simp; omega
  have HD : Hid (s.size ≤ 5000) := Lib.hid (by omega)
  go_enter Tryz.func18, Tryz.ntmps18
  go_upto_region 1 with (fail)
  refine wp_gen (fun W => RScW w W w.heap.size (.slice none 0 0) []) ⟨(Upd.refl _ _).alloc _, Nat.le_refl _, blk_new rfl, World.ownsRow_nil _ _ _ _, fun g hg => by simp [Value.ownBlock] at hg⟩ ?_
  obtain ⟨p, hp⟩ : ∃ p, p = w.heap.size := ⟨_, rfl⟩
  rw [← hp]
  clear hp
  intro W h1
  have H1 := Lib.hid h1; clear h1
  have HSK := Lib.hid (rskip_c 0 s W (by omega) HD.out _ (Lib.hid rfl))
  have HI : Hid (RScInv w p s r s.size (.slice none 0 0) (.int .i64 (skipR s false 0).1) (.bool (skipR s false 0).2) W) := Lib.hid ⟨(skipR s false 0).1, (skipR s false 0).2, [], rfl, rfl, (skipR_le s false 0 (by omega)).2, by omega, by simp, by
    rw [← HR.out]
    cases hb : (skipR s false 0).2 with
    | true => rw [scanR_bad hb, if_pos rfl]
    | false => rw [scanR_good hb, if_neg (by decide)], H1.out⟩
  generalize skipR s false 0 = q at *
  obtain ⟨q1, q2⟩ := q
  clear H1 HR
  dsimp only at HSK HI
  as_aux_lemma =>
  go_wp2_with fail
  refine HSK.out.mono ?_
  rintro e w' ⟨rfl, rfl⟩
  clear HSK
  go_wp2_with fail
  go_loopg [4, 5, 6] s.size (fun m s4 s5 s6 wr => RScInv w p s r m s4 s5 s6 wr)
  case atStart => exact HI.out
  case round =>
    clear HI hd hd2
    obtain ⟨k, b, l, rfl, rfl, hk, hm, hlen, hr, hS⟩ := hrel
    have HS := Lib.hid hS; have HR := Lib.hid hr; have HM := Lib.hid hm; have HLEN := Lib.hid hlen
    clear hS hr hm hlen
    have f0 : wr.cell? ⟨p, 0, none⟩ = some (.int .i64 0) := cell_blk HS.out.b
    have f1 : wr.cell? ⟨p, 1, none⟩ = some (.int .i64 0) := cell_blk HS.out.b
    have f2 : wr.cell? ⟨p, 2, none⟩ = some (.int .i64 0) := cell_blk HS.out.b
    have ff : ∀ o, wr.frozen? ⟨p, o, none⟩ = false := fun o => free_blk HS.out.b
    cases b with
    | true =>
      have HR2 : Hid (r = .bad 4 k) := Lib.hid (by rw [HR.out, if_pos rfl])
      by_cases hlt : k < s.size
      all_goals
        go_wp2_with fail
        refine bodyPost_ret (v := .tuple #[.slice none 0 0, .agg #[.int .i64 4, .int .i64 0, .int .i64 k]]) (by simp [results, Tryz.results18, go_sem, f0, f1, f2]) rfl ⟨(HS.out.fault 4 k).1, ?_⟩
        rw [HR2.out]
    | false =>
      by_cases hlt : k < s.size
      · have hd : decide ((k : Int) < (s.size : Int)) = true := by simp; omega
        have hd2 : decide (k < s.size) = true := by simp; omega
        have HON := Lib.hid (rone_c k s wr hlt HD.out)
        cases ht : tokenR s k with
        | bad c =>
          have HR2 : Hid (r = .bad c k) := Lib.hid (by rw [HR.out, if_neg (by decide), scanH, if_pos hlt, ht])
          have HC : Hid (c ≠ 0) := Lib.hid (fun e => by
            have h0 : scanR s (s.size + 1) k [] = scanR s (s.size + 1) k [] := rfl
            subst e
            unfold tokenR at ht
            repeat' split at ht
            all_goals first | (dsimp only at ht; repeat' split at ht) | skip
            all_goals first | (injection ht with e; omega) | cases ht)
          rw [ht] at HON
          clear ht HR f0 f1 f2 ff
          go_wp2_with fail
          refine HON.out.mono ?_
          rintro e W1 ⟨u1, h1⟩
          dsimp only at h1
          subst h1
          have HS1 := Lib.hid (HS.out.new u1)
          clear u1 HON HS
          have f0 : W1.cell? ⟨p, 0, none⟩ = some (.int .i64 0) := cell_blk HS1.out.b
          have f1 : W1.cell? ⟨p, 1, none⟩ = some (.int .i64 0) := cell_blk HS1.out.b
          have f2 : W1.cell? ⟨p, 2, none⟩ = some (.int .i64 0) := cell_blk HS1.out.b
          have ff : ∀ o, W1.frozen? ⟨p, o, none⟩ = false := fun o => free_blk HS1.out.b
          have hcc : (c != 0) = true := by simp [HC.out]
          go_upto_region 7 with (fail)
          refine wp_gen (fun W => RScW w W p u4 l) (HS1.out.new ((Upd.refl _ _).alloc _)) ?_
          clear f0 f1 f2 ff HS1
          intro W2 h2
          have HS2 := Lib.hid h2; clear h2
          have f0 : W2.cell? ⟨p, 0, none⟩ = some (.int .i64 0) := cell_blk HS2.out.b
          have f1 : W2.cell? ⟨p, 1, none⟩ = some (.int .i64 0) := cell_blk HS2.out.b
          have f2 : W2.cell? ⟨p, 2, none⟩ = some (.int .i64 0) := cell_blk HS2.out.b
          have ff : ∀ o, W2.frozen? ⟨p, o, none⟩ = false := fun o => free_blk HS2.out.b
          go_wp2_with fail
          refine bodyPost_ret (v := .tuple #[.slice none 0 0, .agg #[.int .i64 c, .int .i64 0, .int .i64 k]]) (by simp [results, Tryz.results18, go_sem, f0, f1, f2]) rfl ⟨(HS2.out.fault c k).1, ?_⟩
          rw [HR2.out]
        | ok t k2 =>
          have HK := Lib.hid (tokenR_lt hlt ht)
          have HR2 : Hid (r = scanR s gk k2 (l ++ [t])) := Lib.hid (by rw [HR.out, if_neg (by decide), scanH, if_pos hlt, ht])
          have HG : Hid (gk = (gk - 1) + 1) := Lib.hid (by have := HM.out; omega)
          rw [ht] at HON
          clear ht HR f0 f1 f2 ff
          obtain ⟨n, hn⟩ : ∃ n, k2 = k + n := ⟨k2 - k, by have := HK.out; omega⟩
          subst hn
          have hkn : k + n ≤ s.size := HK.out.2
          have hss : s.size ≤ 5000 := HD.out
          go_wp2_with fail
          refine HON.out.mono ?_
          rintro e W1 ⟨u1, h1⟩
          dsimp only at h1
          rw [show k + n - k = n by omega] at h1
          subst h1
          have HS1 := Lib.hid (HS.out.new u1)
          clear u1 HON HS
          go_upto_region 9 with (fail)
          refine wp_gen (fun W => RScW w W p u4 l ∧ W.heap[W1.heap.size]? = some (.cells #[.int .i64 t.kind, .int .i64 t.num, .int .i64 t.pos, .string t.text] 81 (0, 0))) ⟨HS1.out.new ((Upd.refl _ _).alloc _), blk_new rfl⟩ ?_
          obtain ⟨q, hq⟩ : ∃ q, q = W1.heap.size := ⟨_, rfl⟩
          rw [← hq]
          clear hq HS1
          rintro W2 ⟨h2, hb2⟩
          have HS2 := Lib.hid h2; clear h2
          have b0 : W2.cell? ⟨q, 0, none⟩ = some (.int .i64 t.kind) := cell_blk hb2
          have b1 : W2.cell? ⟨q, 1, none⟩ = some (.int .i64 t.num) := cell_blk hb2
          have b2 : W2.cell? ⟨q, 2, none⟩ = some (.int .i64 t.pos) := cell_blk hb2
          have b3 : W2.cell? ⟨q, 3, none⟩ = some (.string t.text) := cell_blk hb2
          clear hb2
          have HS3 := Lib.hid (HS2.out.new ((Upd.refl _ _).alloc (.cells #[.int .i64 t.kind, .int .i64 t.num, .int .i64 t.pos, .string t.text] 81)))
          obtain ⟨i0, hi0, hz0, hz1, hz2⟩ := info_parts Tryz.infoTok
          have HI0 := Lib.hid (And.intro hi0 (And.intro hz0 (And.intro hz1 hz2))); clear hi0 hz0 hz1 hz2
          as_aux_lemma =>
          go_wp2_with (at_builtin; refine wpList_app _ rfl _ _ 42 rfl 81 i0 (.agg #[.int .i64 0, .int .i64 0, .int .i64 0, .string ⟨#[]⟩]) 4 40 Tryz.underlying42 HI0.out.1 HI0.out.2.1 HI0.out.2.2.1 HI0.out.2.2.2 rfl (by decide) u4 l.length (tkRow l) rfl HS3.out.own ⟨W2.heap.size, 0, none⟩ 1 1 (tkCells t) rfl rfl (news_new W2 (tkCells t) _) (by simp [tkCells, Value.oneCell']) (by have := HLEN.out; have := HD.out; unfold maxLen; omega) (by have := HLEN.out; have := HD.out; omega) ?_)
          intro v2 W3 h3 h4 h5
          have HS4 := Lib.hid (HS3.out.app h3 h4 (fun k hk => by have := h5 k hk; simpa using this))
          have HSK := Lib.hid (rskip_c (k + n) s W3 hkn HD.out _ (Lib.hid rfl))
          have hcast : ((k : Int) + (n : Int)) = ((k + n : Nat) : Int) := by omega
          have HI : Hid (RScInv w p s r (gk - 1) v2 (.int .i64 (skipR s false (k + n)).1) (.bool (skipR s false (k + n)).2) W3) := Lib.hid ⟨(skipR s false (k + n)).1, (skipR s false (k + n)).2, l ++ [t], rfl, rfl, (skipR_le s false (k + n) hkn).2, by
            have := (skipR_le s false (k + n) hkn).1; have := HM.out; have := HK.out; omega, by have := (skipR_le s false (k + n) hkn).1; have := HLEN.out; have := HK.out; simp; omega, by
            rw [HR2.out, HG.out]
            cases hb : (skipR s false (k + n)).2 with
            | true => rw [scanR_bad hb, if_pos rfl]
            | false => rw [scanR_good hb, if_neg (by decide)]; rfl, HS4.out⟩
          generalize skipR s false (k + n) = sq at *
          obtain ⟨q1, q2⟩ := sq
          rw [← hcast] at HSK
          dsimp only at HSK HI
          have HGL : Hid (gk - 1 < gk) := Lib.hid (by have := HG.out; omega)
          clear h3 h4 h5 HS4 HS3 HS2 HR2 HG HM HLEN HK b0 b1 b2 b3 HI0 hcast
          as_aux_lemma =>
          go_wp2_with fail
          refine HSK.out.mono ?_
          rintro e w' ⟨rfl, rfl⟩
          clear HSK
          go_wp2_with fail
          go_roundg (gk - 1)
          case rel => exact HI.out
          case measure => exact HGL.out
      · have hd : decide ((k : Int) < (s.size : Int)) = false := by simp; omega
        have hd2 : decide (k < s.size) = false := by simp; omega
        have HR2 : Hid (r = .ok l) := Lib.hid (by rw [HR.out, if_neg (by decide), scanH, if_neg hlt])
        go_wp2_with fail
        refine bodyPost_ret (v := .tuple #[u4, .agg #[.int .i64 0, .int .i64 0, .int .i64 0]]) (by simp [results, Tryz.results18, go_sem, f0, f1, f2]) rfl ⟨(HS.out.fault 0 0).1, ?_⟩
        rw [HR2.out]
        exact ⟨_, rfl, (HS.out.fault 0 0).2, fun g hg => by have := HS.out.fresh g hg; have := HS.out.l1; omega⟩

/-- Scan -/
theorem rscan_c (s : ByteArray) (w : World) (hm : s.size ≤ maxLen) : Calls Tryz.prog 18 #[.string s] w (ScanPost w (lexP s)) := by
  unfold lexP
  by_cases h : 4000 < s.size
  · rw [if_pos h]; exact rscan_size s w h hm
  · rw [if_neg h]; exact rscan_text s w h _ (Lib.hid rfl)

end Go.Proofs.YtaklephcgepfjaaGreatDoor

/- The program's parser: take, name, open, shut. -/
namespace Go.Proofs.YtaklephcgepfjaaGreatDoor
open Go.RowKit

/-- The cells of a new list of texts. -/
theorem texts_new (w : World) (l : List ByteArray) (e : TypeId) : ∀ j, j < l.length → (w.alloc (.cells (l.map Value.string).toArray e)).cell? ⟨w.heap.size, 0 + j, none⟩ = some (.string (l.getD j ByteArray.empty)) := by
  intro j hj
  rw [cell_blk (heap_alloc_new w _)]
  simp [hj]

section
variable {w : World} {X : Nat → Prop} {bp : Nat} {la : Option Addr} {c : Nat} {T : List Tk} {en : Int} {s : PS} {nv : Value}

theorem fld_at (a b c : Int) (x : ByteArray) (w : World) : (Instr.field 81 (.agg #[.int .i64 a, .int .i64 b, .int .i64 c, .string x]) 2).run Tryz.prog w = .ok (.int .i64 c) w := by kernel_rfl
theorem fld_text (a b c : Int) (x : ByteArray) (w : World) : (Instr.field 81 (.agg #[.int .i64 a, .int .i64 b, .int .i64 c, .string x]) 3).run Tryz.prog w = .ok (.string x) w := by kernel_rfl
theorem fld_num (a b c : Int) (x : ByteArray) (w : World) : (Instr.field 81 (.agg #[.int .i64 a, .int .i64 b, .int .i64 c, .string x]) 1).run Tryz.prog w = .ok (.int .i64 b) w := by kernel_rfl

/-- is, of one text in a new list -/
theorem is_one (x : ByteArray) (h : PR w X bp la c T en s nv) (e : TypeId) :
    Calls Tryz.prog 34 #[.pointer (some ⟨bp, 0, none⟩), .slice (some ⟨w.heap.size, 0, none⟩) 1 1] (w.alloc (.cells #[.string x] e)) fun r w' => r = .returned (.bool (isP T [x] s)) ∧ ∃ n, w' = (w.alloc (.cells #[.string x] e)).drewN n :=
  is_c w.heap.size 0 1 [x] (h.alloc _) (by simp) (texts_new w [x] e)

set_option maxRecDepth 100000 in
/-- take -/
theorem take_c (x : ByteArray) (h : PR w X bp la c T en s nv) (hn : T.length ≤ 5000) :
    Calls Tryz.prog 36 #[.pointer (some ⟨bp, 0, none⟩), .string x] w (Done w X bp la c T en (fun r => .int .i64 r) (takeP T en x s)) := by
  cases hq : isP T [x] s with
  | true =>
    have hr : takeP T en x s = .ok (tokP T s).pos (stepP s) := by simp [takeP, hq]
    rw [hr]
    have hi := isP_lt hq
    have hf := fld_at
    go_enter Tryz.func36, Tryz.ntmps36
    go_wp2_with fail
    refine (is_one x h _).mono ?_
    rw [hq]
    rintro e w' ⟨rfl, n, rfl⟩
    have h1 := (h.alloc (.cells #[.string x] 9)).drewN n
    go_wp2_with fail
    refine (next_c h1 hn hi).mono ?_
    rintro e w1 ⟨rfl, h2, u2⟩
    have HH := Lib.hid h2; have HU := Lib.hid u2
    clear h2 u2
    go_wp2
    go_ret
    exact ⟨rfl, _, _, HH.out, (((Upd.refl w X).alloc _).drewN n).trans HU.out⟩
  | false =>
    have hr : takeP T en x s = failP T en 5 s := by simp [takeP, hq]
    rw [hr]
    go_enter Tryz.func36, Tryz.ntmps36
    go_wp2_with fail
    refine (is_one x h _).mono ?_
    rw [hq]
    rintro e w' ⟨rfl, n, rfl⟩
    have h1 := (h.alloc (.cells #[.string x] 9)).drewN n
    go_wp2_with fail
    refine (fail_c (fun r : Int => .int .i64 r) 5 h1).mono ?_
    rintro e w1 ⟨rfl, u2⟩
    have HU := Lib.hid u2
    clear u2
    go_wp2
    exact ⟨rfl, rfl, (((Upd.refl w X).alloc _).drewN n).trans HU.out⟩

set_option maxRecDepth 100000 in
/-- name -/
theorem name_c (h : PR w X bp la c T en s nv) (hn : T.length ≤ 5000) :
    Calls Tryz.prog 71 #[.pointer (some ⟨bp, 0, none⟩)] w (Done w X bp la c T en (fun t : Tk => .agg #[.int .i64 t.kind, .int .i64 t.num, .int .i64 t.pos, .string t.text]) (nameP T en s)) := by
  cases hq : kindP T 1 s with
  | true =>
    have hr : nameP T en s = .ok (tokP T s) (stepP s) := by simp [nameP, hq]
    rw [hr]
    have hi := kindP_lt hq
    go_enter Tryz.func71, Tryz.ntmps71
    go_wp2_with fail
    refine (kind_c 1 (h.alloc _)).mono ?_
    rw [hq]
    rintro e w' ⟨rfl, n, rfl⟩
    have h1 := (h.alloc (.cells #[.int .i64 0, .int .i64 0, .int .i64 0, .string ⟨#[]⟩] 81)).drewN n
    go_wp2_with fail
    refine (next_c h1 hn hi).mono ?_
    rintro e w1 ⟨rfl, h2, u2⟩
    have HH := Lib.hid h2; have HU := Lib.hid u2
    clear h2 u2
    have hb := HU.out.keep (k := w.heap.size) (o := .cells #[.int .i64 0, .int .i64 0, .int .i64 0, .string ⟨#[]⟩] 81 (0, 0)) (heap_alloc_new w _) (fun e => by have := h.high _ e; omega)
    have b0 : w1.cell? ⟨w.heap.size, 0, none⟩ = some (.int .i64 0) := cell_blk hb
    have b1 : w1.cell? ⟨w.heap.size, 1, none⟩ = some (.int .i64 0) := cell_blk hb
    have b2 : w1.cell? ⟨w.heap.size, 2, none⟩ = some (.int .i64 0) := cell_blk hb
    have b3 : w1.cell? ⟨w.heap.size, 3, none⟩ = some (.string ⟨#[]⟩) := cell_blk hb
    have bf : ∀ o, w1.frozen? ⟨w.heap.size, o, none⟩ = false := fun o => free_blk hb
    have u0 := (((((Upd.refl w X).alloc (.cells #[.int .i64 0, .int .i64 0, .int .i64 0, .string ⟨#[]⟩] 81)).drewN n).trans HU.out))
    have hx : ¬ X w.heap.size := fun e => by have := h.high _ e; omega
    have hbp := Nat.le_of_lt h.lt
    have R4 := (((HH.out.other (a := ⟨w.heap.size, 0, none⟩) hx hbp (.int .i64 (tokP T s).kind)).other (a := ⟨w.heap.size, 1, none⟩) hx hbp (.int .i64 (tokP T s).num)).other (a := ⟨w.heap.size, 2, none⟩) hx hbp (.int .i64 (tokP T s).pos)).other (a := ⟨w.heap.size, 3, none⟩) hx hbp (.string (tokP T s).text)
    have U4 := (((u0.setCell (a := ⟨w.heap.size, 0, none⟩) (.inr (Nat.le_refl _)) (.int .i64 (tokP T s).kind)).setCell (a := ⟨w.heap.size, 1, none⟩) (.inr (Nat.le_refl _)) (.int .i64 (tokP T s).num)).setCell (a := ⟨w.heap.size, 2, none⟩) (.inr (Nat.le_refl _)) (.int .i64 (tokP T s).pos)).setCell (a := ⟨w.heap.size, 3, none⟩) (.inr (Nat.le_refl _)) (.string (tokP T s).text)
    have H4 := Lib.hid R4; have HU4 := Lib.hid U4
    clear hb R4 U4 u0 hx
    go_wp2
    refine bodyPost_ret (v := .agg #[.int .i64 (tokP T s).kind, .int .i64 (tokP T s).num, .int .i64 (tokP T s).pos, .string (tokP T s).text]) ?_ rfl ⟨rfl, _, _, H4.out, HU4.out⟩
    simp [results, Tryz.results71, go_sem, b0, b1, b2, b3]
  | false =>
    have hr : nameP T en s = failP T en 5 s := by simp [nameP, hq]
    rw [hr]
    go_enter Tryz.func71, Tryz.ntmps71
    go_wp2_with fail
    refine (kind_c 1 (h.alloc _)).mono ?_
    rw [hq]
    rintro e w' ⟨rfl, n, rfl⟩
    have h1 := (h.alloc (.cells #[.int .i64 0, .int .i64 0, .int .i64 0, .string ⟨#[]⟩] 81)).drewN n
    go_wp2_with fail
    refine (fail_c (fun r : Int => .int .i64 r) 5 h1).mono ?_
    rintro e w1 ⟨rfl, u2⟩
    have HU := Lib.hid u2
    clear u2
    go_wp2
    exact ⟨rfl, rfl, (((Upd.refl w X).alloc _).drewN n).trans HU.out⟩

set_option maxRecDepth 100000 in
/-- shut -/
theorem shut_c (x : ByteArray) (h : PR w X bp la c T en s nv) (hn : T.length ≤ 5000) (hd : 0 ≤ s.deep ∧ s.deep ≤ 20) :
    Calls Tryz.prog 76 #[.pointer (some ⟨bp, 0, none⟩), .string x] w (Done w X bp la c T en (fun _ : Unit => .tuple #[]) (shutP T en x s)) := by
  cases hq : isP T [x] s with
  | true =>
    have hr : takeP T en x s = .ok (tokP T s).pos (stepP s) := by simp [takeP, hq]
    have hr' : shutP T en x s = .ok () { stepP s with deep := s.deep - 1 } := by simp [shutP, hr, stepP]
    rw [hr']
    go_enter Tryz.func76, Tryz.ntmps76
    go_wp2_with fail
    refine (take_c x h hn).mono ?_
    rw [hr]
    rintro e w1 ⟨rfl, X1, nv1, h2, u2⟩
    have h3 := h2.c3
    have f3 := h2.free 3
    have hd1 : 0 ≤ (stepP s).deep := hd.1
    have hd2 : (stepP s).deep ≤ 20 := hd.2
    have HH := Lib.hid (h2.setDeep (s.deep - 1)); have HU := Lib.hid (u2.setCell (a := ⟨bp, 3, none⟩) (.inl h.inX) (.int .i64 (s.deep - 1)))
    clear h2 u2
    go_wp2
    refine bodyPost_end (results_none rfl _ _ _) rfl ?_
    exact ⟨rfl, _, _, HH.out, HU.out⟩
  | false =>
    have hr : takeP T en x s = failP T en 5 s := by simp [takeP, hq]
    have hr' : shutP T en x s = failP T en 5 s := by simp [shutP, hr, failP]
    rw [hr']
    go_enter Tryz.func76, Tryz.ntmps76
    go_wp2_with fail
    refine (take_c x h hn).mono ?_
    rw [hr]
    rintro e w1 ⟨rfl, u2⟩
    have HU := Lib.hid u2
    clear u2
    go_wp2
    exact ⟨rfl, rfl, HU.out⟩

set_option maxRecDepth 100000 in
/-- open -/
theorem open_c (x : ByteArray) (h : PR w X bp la c T en s nv) (hn : T.length ≤ 5000) (hd : 0 ≤ s.deep ∧ s.deep ≤ 20) :
    Calls Tryz.prog 74 #[.pointer (some ⟨bp, 0, none⟩), .string x] w (Done w X bp la c T en (fun r : Int => .int .i64 r) (openP T en x s)) := by
  cases hq : isP T [x] s with
  | true =>
    by_cases hf : s.deep = 20
    · have hr : openP T en x s = failP T en 6 s := by simp [openP, hq, hf]
      rw [hr]
      go_enter Tryz.func74, Tryz.ntmps74
      go_wp2_with fail
      refine (is_one x h _).mono ?_
      rw [hq]
      rintro e w' ⟨rfl, n, rfl⟩
      have h1 := (h.alloc (.cells #[.string x] 9)).drewN n
      have h3 := h1.c3
      rw [hf] at h3
      have HH := Lib.hid h1; clear h1
      go_wp2_with fail
      refine (fail_c (fun r : Int => .int .i64 r) 6 HH.out).mono ?_
      rintro e w1 ⟨rfl, u2⟩
      have HU := Lib.hid u2
      clear u2
      go_wp2
      exact ⟨rfl, rfl, (((Upd.refl w X).alloc _).drewN n).trans HU.out⟩
    · have hr : takeP T en x s = .ok (tokP T s).pos (stepP s) := by simp [takeP, hq]
      have hr' : openP T en x s = .ok (tokP T s).pos { stepP s with deep := s.deep + 1 } := by simp [openP, hq, hf, hr, stepP]
      rw [hr']
      have hd3 : (s.deep == 20) = false := by simp [hf]
      go_enter Tryz.func74, Tryz.ntmps74
      go_wp2_with fail
      refine (is_one x h _).mono ?_
      rw [hq]
      rintro e w' ⟨rfl, n, rfl⟩
      have h1 := (h.alloc (.cells #[.string x] 9)).drewN n
      have h3 := h1.c3
      have HH := Lib.hid h1; clear h1
      go_wp2_with fail
      refine (take_c x HH.out hn).mono ?_
      rw [hr]
      rintro e w1 ⟨rfl, X1, nv1, h2, u2⟩
      have g3 := h2.c3
      have f3 := h2.free 3
      have hd1 : 0 ≤ (stepP s).deep := hd.1
      have hd2 : (stepP s).deep ≤ 20 := hd.2
      have HH2 := Lib.hid (h2.setDeep (s.deep + 1)); have HU := Lib.hid (((((Upd.refl w X).alloc _).drewN n).trans u2).setCell (a := ⟨bp, 3, none⟩) (.inl h.inX) (.int .i64 (s.deep + 1)))
      clear h2 u2 hf
      go_wp2
      go_ret
      exact ⟨rfl, _, _, HH2.out, HU.out⟩
  | false =>
    have hr : takeP T en x s = failP T en 5 s := by simp [takeP, hq]
    have hr' : openP T en x s = failP T en 5 s := by simp [openP, hq, hr, failP]
    rw [hr']
    go_enter Tryz.func74, Tryz.ntmps74
    go_wp2_with fail
    refine (is_one x h _).mono ?_
    rw [hq]
    rintro e w' ⟨rfl, n, rfl⟩
    have h1 := (h.alloc (.cells #[.string x] 9)).drewN n
    have HH := Lib.hid h1; clear h1
    go_wp2_with fail
    refine (take_c x HH.out hn).mono ?_
    rw [hr]
    rintro e w1 ⟨rfl, u2⟩
    have HU := Lib.hid u2
    clear u2
    go_wp2
    exact ⟨rfl, rfl, (((Upd.refl w X).alloc _).drewN n).trans HU.out⟩
end
end Go.Proofs.YtaklephcgepfjaaGreatDoor

/- The program's parser: what its functions that call each other have in common. (Lines of the walks: wip/tools/steps.py.) -/
namespace Go.Proofs.YtaklephcgepfjaaGreatDoor
open Go.RowKit

/-- The state is within bounds; k tokens more than nodes. -/
structure Fit (T : List Tk) (k : Nat) (s : PS) : Prop where
  top : s.i ≤ T.length
  lo : 0 ≤ s.deep
  hi : s.deep ≤ 20
  few : s.nodes.length + k ≤ s.i
  len : T.length ≤ 5000

section
variable {T : List Tk} {en : Int} {s s' : PS} {k : Nat}

theorem Fit.zero (h : Fit T k s) : Fit T 0 s := ⟨h.top, h.lo, h.hi, by have := h.few; omega, h.len⟩
theorem Fit.deep (h : Fit T k s) : 0 ≤ s.deep ∧ s.deep ≤ 20 := ⟨h.lo, h.hi⟩
theorem Fit.few' (h : Fit T k s) : s.nodes.length ≤ 100000 := by have := h.few; have := h.top; have := h.len; omega

theorem Fit.adv {g : Nat} (h : Fit T k s) (a : Adv T 0 g s s') : Fit T k s' := by
  obtain ⟨h1, h2, h3, h4, h5⟩ := h
  obtain ⟨a1, a2, a3, a4⟩ := a
  exact ⟨a3, by omega, by omega, by omega, h5⟩

theorem Fit.step (h : Fit T k s) (hi : s.i < T.length) : Fit T (k + 1) (stepP s) := by
  obtain ⟨h1, h2, h3, h4, h5⟩ := h
  exact ⟨by simp [stepP]; omega, h2, h3, by simp [stepP]; omega, h5⟩

theorem Fit.take (h : Fit T k s) {x : ByteArray} {a : Int} (hq : takeP T en x s = .ok a s') : Fit T (k + 1) s' := by
  obtain ⟨rfl, hi⟩ := takeP_ok hq
  exact h.step hi

theorem Fit.name (h : Fit T k s) {a : Tk} (hq : nameP T en s = .ok a s') : Fit T (k + 1) s' := by
  obtain ⟨rfl, hi⟩ := nameP_ok hq
  exact h.step hi

theorem Fit.open (h : Fit T k s) {x : ByteArray} {a : Int} (hq : openP T en x s = .ok a s') : Fit T (k + 1) s' := by
  obtain ⟨rfl, hi, hd⟩ := openP_ok hq
  obtain ⟨h1, h2, h3, h4, h5⟩ := h.step hi
  simp [stepP] at h1 h2 h3 h4
  exact ⟨by simp [stepP]; omega, by simp; omega, by simp; omega, by simp [stepP]; omega, h5⟩

theorem Fit.put (h : Fit T (k + 1) s) (nd : Nd) : Fit T k { s with nodes := s.nodes ++ [nd] } := by
  obtain ⟨h1, h2, h3, h4, h5⟩ := h
  exact ⟨h1, h2, h3, by simp; omega, h5⟩
end

/-- Few nodes: what is left to know behind the last bracket. -/
structure Lim (T : List Tk) (s : PS) : Prop where
  few' : s.nodes.length ≤ 100000
  len : T.length ≤ 5000
  deep : 0 ≤ s.deep ∧ s.deep ≤ 20

section
variable {T : List Tk} {en : Int} {s s' : PS} {k : Nat}
theorem Fit.shut (h : Fit T k s) {x : ByteArray} {a : Unit} (hq : shutP T en x s = .ok a s') : s'.nodes.length ≤ 100000 ∧ T.length ≤ 5000 := by
  obtain ⟨rfl, hi⟩ := shutP_ok hq
  exact ⟨h.few', h.len⟩
theorem lim_take (h : s.nodes.length ≤ 100000 ∧ T.length ≤ 5000) {x : ByteArray} {a : Int} (hq : takeP T en x s = .ok a s') : s'.nodes.length ≤ 100000 ∧ T.length ≤ 5000 := by
  obtain ⟨rfl, hi⟩ := takeP_ok hq
  exact h
end



section
variable (bp : Nat) (la : Option Addr) (c : Nat) (T : List Tk) (en : Int)

/-- What is known of the five functions that call each other, with n rounds. -/
structure Ready (n : Nat) : Prop where
  expr : ∀ (w : World) (X : Nat → Prop) (nv : Value) (s : PS) (k : Nat) (kk : Int), kk = k → k ≤ 5 → PR w X bp la c T en s nv → Fit T 0 s → runP T en n (.expr k) s ≠ .out →
    Calls Tryz.prog 105 #[.pointer (some ⟨bp, 0, none⟩), .int .i64 kk] w (Done w X bp la c T en (fun r : Int => .int .i64 r) (runP T en n (.expr k) s))
  unary : ∀ (w : World) (X : Nat → Prop) (nv : Value) (s : PS), PR w X bp la c T en s nv → Fit T 0 s → runP T en n .unary s ≠ .out →
    Calls Tryz.prog 128 #[.pointer (some ⟨bp, 0, none⟩)] w (Done w X bp la c T en (fun r : Int => .int .i64 r) (runP T en n .unary s))
  held : ∀ (w : World) (X : Nat → Prop) (nv : Value) (s : PS), PR w X bp la c T en s nv → Fit T 0 s → runP T en n .held s ≠ .out →
    Calls Tryz.prog 106 #[.pointer (some ⟨bp, 0, none⟩)] w (Done w X bp la c T en (fun r : Int => .int .i64 r) (runP T en n .held s))
  block : ∀ (w : World) (X : Nat → Prop) (nv : Value) (s : PS), PR w X bp la c T en s nv → Fit T 0 s → runP T en n .block s ≠ .out →
    Calls Tryz.prog 38 #[.pointer (some ⟨bp, 0, none⟩)] w (Done w X bp la c T en (fun r : Int => .int .i64 r) (runP T en n .block s))
  stmt : ∀ (w : World) (X : Nat → Prop) (nv : Value) (s : PS), PR w X bp la c T en s nv → Fit T 0 s → runP T en n .stmt s ≠ .out →
    Calls Tryz.prog 75 #[.pointer (some ⟨bp, 0, none⟩)] w (Done w X bp la c T en (fun r : Int => .int .i64 r) (runP T en n .stmt s))
end

section
variable {w : World} {X : Nat → Prop} {bp : Nat} {la : Option Addr} {c : Nat} {T : List Tk} {en : Int} {s : PS} {nv : Value}

theorem Ready.expr0 {n : Nat} (R : Ready bp la c T en n) (w : World) (X : Nat → Prop) (nv : Value) (s : PS) (h : PR w X bp la c T en s nv) (hf : Fit T 0 s) (hne : runP T en n (.expr 0) s ≠ .out) :
    Calls Tryz.prog 105 #[.pointer (some ⟨bp, 0, none⟩), .int .i64 0] w (Done w X bp la c T en (fun r : Int => .int .i64 r) (runP T en n (.expr 0) s)) := R.expr w X nv s 0 0 rfl (by omega) h hf hne

/-- is, of a new list of texts -/
theorem is_new (l : List ByteArray) (hl : l.length ≤ 1000) (h : PR w X bp la c T en s nv) :
    Calls Tryz.prog 34 #[.pointer (some ⟨bp, 0, none⟩), .slice (some ⟨w.heap.size, 0, none⟩) l.length l.length] (w.alloc (.cells (l.map Value.string).toArray 9)) fun r w' =>
      r = .returned (.bool (isP T l s)) ∧ PR w' X bp la c T en s nv ∧ Upd w X w' X :=
  (is_c w.heap.size 0 l.length l (h.alloc _) hl (texts_new w l _)).mono fun _ _ ⟨h1, n, h2⟩ => ⟨h1, by subst h2; exact (h.alloc _).drewN n, by subst h2; exact ((Upd.refl w X).alloc _).drewN n⟩

theorem kind_n (k : Int) (h : PR w X bp la c T en s nv) :
    Calls Tryz.prog 72 #[.pointer (some ⟨bp, 0, none⟩), .int .i64 k] w fun r w' =>
      r = .returned (.bool (kindP T k s)) ∧ PR w' X bp la c T en s nv ∧ Upd w X w' X :=
  (kind_c k h).mono fun _ _ ⟨h1, n, h2⟩ => ⟨h1, by subst h2; exact h.drewN n, by subst h2; exact (Upd.refl w X).drewN n⟩

theorem at_n (h : PR w X bp la c T en s nv) :
    Calls Tryz.prog 104 #[.pointer (some ⟨bp, 0, none⟩)] w fun r w' =>
      r = .returned (.int .i64 (posP T en s)) ∧ PR w' X bp la c T en s nv ∧ Upd w X w' X :=
  (at_c h).mono fun _ _ ⟨h1, n, h2⟩ => ⟨h1, by subst h2; exact h.drewN n, by subst h2; exact (Upd.refl w X).drewN n⟩

/-- put, of kids in a new list -/
theorem put_new (kind pos num : Int) (text : ByteArray) (kids : List Int) (h : PR w X bp la c T en s nv) (hl : s.nodes.length ≤ 100000) (hk : kids.length ≤ 1000) :
    Calls Tryz.prog 37 #[.pointer (some ⟨bp, 0, none⟩), .int .i64 kind, .int .i64 pos, .int .i64 num, .string text, .slice (some ⟨w.heap.size, 0, none⟩) kids.length kids.length]
      (w.alloc (.cells (kids.map (Value.int .i64)).toArray 3)) fun e w' => e = .returned (.int .i64 s.nodes.length) ∧
      ∃ X' nv', PR w' X' bp la c T en { s with nodes := s.nodes ++ [⟨kind, num, pos, text, kids⟩] } nv' ∧ Upd w X w' X' := by
  refine (put_c kind pos num text _ kids (h.alloc _) ⟨by simp, .inr ⟨w.heap.size, kids.length, _, rfl, Nat.zero_le _, heap_alloc_new w _, Nat.le_refl _, by unfold maxLen; omega, by simp, by simp [List.take_of_length_le]⟩⟩ ?_ hl).mono ?_
  · intro g hg
    simp only [Value.ownBlock, Option.some.injEq] at hg
    subst hg
    exact ⟨fun e => by have := h.high _ e; omega, Nat.le_of_lt h.lt⟩
  · rintro e w' ⟨rfl, X', nv', h1, u1⟩
    refine ⟨rfl, X', nv', h1, ?_⟩
    have hs : (w.alloc (.cells (kids.map (Value.int .i64)).toArray 3)).heap.size = w.heap.size + 1 := by simp
    refine ⟨u1.os, u1.tape, u1.output, by have := u1.size; omega, fun k hk hx => (u1.block k (by omega) (fun e => ?_)).trans (Below.heap_alloc _ _ _ hk), fun k hk => ?_⟩
    · rcases e with e | e
      · exact hx e
      · simp only [Value.ownBlock, Option.some.injEq] at e; omega
    · rcases u1.sub k hk with (e | e) | e
      · exact .inl e
      · simp only [Value.ownBlock, Option.some.injEq] at e; exact .inr (by omega)
      · exact .inr (by omega)

/-- put, without kids -/
theorem put_nil (kind pos num : Int) (text : ByteArray) (h : PR w X bp la c T en s nv) (hl : s.nodes.length ≤ 100000) :
    Calls Tryz.prog 37 #[.pointer (some ⟨bp, 0, none⟩), .int .i64 kind, .int .i64 pos, .int .i64 num, .string text, .slice none 0 0] w fun e w' => e = .returned (.int .i64 s.nodes.length) ∧
      ∃ X' nv', PR w' X' bp la c T en { s with nodes := s.nodes ++ [⟨kind, num, pos, text, []⟩] } nv' ∧ Upd w X w' X' :=
  (put_c kind pos num text (.slice none 0 0) [] h (World.ownsRow_nil _ _ _ _) (fun g hg => by simp [Value.ownBlock] at hg) hl).mono fun _ _ ⟨h1, X', nv', h2, h3⟩ =>
    ⟨h1, X', nv', h2, h3.os, h3.tape, h3.output, h3.size, fun k hk hx => h3.block k hk (by simp [Value.ownBlock, hx]), fun k hk => by simpa [Value.ownBlock] using h3.sub k hk⟩

set_option maxRecDepth 100000 in
/-- held -/
theorem held_c (n : Nat) (R : Ready bp la c T en n) (h : PR w X bp la c T en s nv) (hf : Fit T 0 s) (hne : runP T en (n + 1) .held s ≠ .out) :
    Calls Tryz.prog 106 #[.pointer (some ⟨bp, 0, none⟩)] w (Done w X bp la c T en (fun r : Int => .int .i64 r) (runP T en (n + 1) .held s)) := by
  have HN := Lib.hid hne; have HF := Lib.hid hf
  clear hne hf
  go_enter Tryz.func106, Tryz.ntmps106
  go_wp2_with fail
  refine (open_c (⟨#[40]⟩ : ByteArray) h HF.out.len HF.out.deep).mono ?_
  rcases hq1 : openP T en (⟨#[40]⟩ : ByteArray) s with ⟨a1, s1⟩ | ⟨cd, ps⟩ | _
  rotate_left
  · rintro e w1 ⟨rfl, u1⟩
    have Q1 := Lib.hid hq1; have V := Lib.hid u1; clear hq1 u1 h
    go_wp2
    refine ⟨rfl, ?_⟩
    simp only [runP, Q1.out, Res.bind_ok, Res.bind_bad, Bool.false_eq_true, reduceIte, putP]
    exact ⟨rfl, (V.out).to (fun k hk => .inl hk)⟩
  · exact fun e w1 h => h.elim
  rintro e w1 ⟨rfl, X1, nv1, h1, u1⟩
  have HF1 := Lib.hid (Fit.open HF.out hq1)
  have Q1 := Lib.hid hq1; clear hq1 h
  have U1 := Lib.hid u1; clear u1
  rcases hq2 : runP T en n (.expr 0) s1 with ⟨k, s2⟩ | ⟨cd, ps⟩ | _
  rotate_right
  · exact (HN.out (by simp only [runP, Q1.out,  hq2, Res.bind_ok, Res.bind_out, Bool.false_eq_true, reduceIte, putP])).elim
  all_goals
    have C2 := R.expr0 _ _ _ s1 h1 HF1.out.zero (by rw [hq2]; simp)
    rw [hq2] at C2
    have D2 := Lib.hid C2; clear C2
    go_wp2_with fail
    refine D2.out.mono ?_
  rotate_left
  · rintro e w2 ⟨rfl, u2⟩
    have Q2 := Lib.hid hq2; have V := Lib.hid (U1.out.trans u2); clear hq2 u2 h1
    go_wp2
    refine ⟨rfl, ?_⟩
    simp only [runP, Q1.out, Q2.out, Res.bind_ok, Res.bind_bad, Bool.false_eq_true, reduceIte, putP]
    exact ⟨rfl, (V.out).to (fun k hk => .inl hk)⟩
  rintro e w2 ⟨rfl, X2, nv2, h2, u2⟩
  have HF2 := Lib.hid (HF1.out.adv (runP_adv _ _ _ _ _ HF1.out.top hq2))
  have Q2 := Lib.hid hq2; clear hq2 h1 D2
  have U2 := Lib.hid (U1.out.trans u2); clear u2
  go_wp2_with fail
  refine (shut_c (⟨#[41]⟩ : ByteArray) h2 HF2.out.len HF2.out.deep).mono ?_
  rcases hq3 : shutP T en (⟨#[41]⟩ : ByteArray) s2 with ⟨a3, s3⟩ | ⟨cd, ps⟩ | _
  rotate_left
  · rintro e w3 ⟨rfl, u3⟩
    have Q3 := Lib.hid hq3; have V := Lib.hid (U2.out.trans u3); clear hq3 u3 h2
    go_wp2
    refine ⟨rfl, ?_⟩
    simp only [runP, Q1.out, Q2.out, Q3.out, Res.bind_ok, Res.bind_bad, Bool.false_eq_true, reduceIte, putP]
    exact ⟨rfl, (V.out).to (fun k hk => .inl hk)⟩
  · exact fun e w3 h => h.elim
  rintro e w3 ⟨rfl, X3, nv3, h3, u3⟩
  have Q3 := Lib.hid hq3; clear hq3 h2
  have U3 := Lib.hid (U2.out.trans u3); clear u3
  go_wp2
  go_ret
  simp only [runP, Q1.out, Q2.out, Q3.out, Res.bind_ok, Res.bind_bad, Bool.false_eq_true, reduceIte, putP]
  exact ⟨rfl, _, _, h3, U3.out⟩
end
end Go.Proofs.YtaklephcgepfjaaGreatDoor

/- Maps of the call's own, as lists of pairs: what a look-up, a store, an insert does. -/
namespace Go.Proofs.YtaklephcgepfjaaGreatDoor
open Go.RowKit Go.MapKept

/-- Block b is a map whose entries are m, in the order of their making; all keys are of the plain kind d. -/
def AMap (w : World) (b : Nat) (d : TypeDesc) (m : List (Value × Value)) : Prop :=
  ∃ (es : Array MapEntry) (clock : Nat), w.heap[b]? = some (.map es clock) ∧ es.toList.map (fun e => (e.key, e.val)) = m ∧ ∀ p ∈ m, IsKey d p.1

theorem str_ne {a b : ByteArray} (h : a ≠ b) : Value.string a ≠ Value.string b := fun e => h (by injection e)

theorem AMap.made (w : World) (d : TypeDesc) : AMap (w.alloc (.map #[] 0)) w.heap.size d [] := ⟨#[], 0, heap_alloc_new w _, rfl, by simp⟩

theorem AMap.made' {w : World} {b : Nat} {d : TypeDesc} (hb : b = w.heap.size) : AMap (w.alloc (.map #[] 0)) b d [] := hb ▸ AMap.made w d

theorem AMap.keep {w w1 : World} {X X1 : Nat → Prop} {b : Nat} {d : TypeDesc} {m : List (Value × Value)} (h : AMap w b d m) (u : Upd w X w1 X1) (hx : ¬ X b) : AMap w1 b d m := by
  obtain ⟨es, clock, h1, h2⟩ := h
  exact ⟨es, clock, u.keep h1 hx, h2⟩

theorem AMap.lt {w : World} {b : Nat} {d : TypeDesc} {m : List (Value × Value)} (h : AMap w b d m) : b < w.heap.size := by
  obtain ⟨es, clock, h1, h2⟩ := h
  exact lt_blk h1

theorem findNow_no {d : TypeDesc} {k : Value} (hk : IsKey d k) : ∀ (l : List MapEntry) (i : Nat), (∀ x ∈ l, IsKey d x.key) → (∀ x ∈ l, x.key ≠ k) → Instr.findNow d k l i = some none
  | [], _, _, _ => rfl
  | e :: es, i, h, hn => by
    obtain ⟨r, hr, hiff⟩ := sameNow_of_keys hk (h e (.head _))
    cases r with
    | true => exact absurd (hiff.1 rfl).symm (hn e (.head _))
    | false => simp only [Instr.findNow, hr]; exact findNow_no hk es (i + 1) (fun x hx => h x (.tail _ hx)) (fun x hx => hn x (.tail _ hx))

theorem findNow_at {d : TypeDesc} {k : Value} (hk : IsKey d k) : ∀ (l post : List MapEntry) (e : MapEntry) (i : Nat), (∀ x ∈ l, IsKey d x.key) → (∀ x ∈ l, x.key ≠ k) → e.key = k → Instr.findNow d k (l ++ e :: post) i = some (some (i + l.length, e.val))
  | [], post, e, i, _, _, he => by
    obtain ⟨r, hr, hiff⟩ := sameNow_of_keys hk (he ▸ hk : IsKey d e.key)
    rw [hiff.2 he.symm] at hr
    simp only [List.nil_append, Instr.findNow, hr]; rfl
  | a :: l, post, e, i, h, hn, he => by
    obtain ⟨r, hr, hiff⟩ := sameNow_of_keys hk (h a (.head _))
    cases r with
    | true => exact absurd (hiff.1 rfl).symm (hn a (.head _))
    | false =>
      simp only [List.cons_append, Instr.findNow, hr]
      rw [findNow_at hk l post e (i + 1) (fun x hx => h x (.tail _ hx)) (fun x hx => hn x (.tail _ hx)) he]
      simp; omega

theorem modify_mid {α : Type} (f : α → α) (e : α) (l2 : List α) : ∀ l1 : List α, (l1 ++ e :: l2).modify l1.length f = l1 ++ f e :: l2
  | [] => rfl
  | a :: l1 => by simp [modify_mid f e l2 l1]

theorem same_key {d : TypeDesc} {k : Value} (hk : IsKey d k) : Instr.sameBits 10000 k k = true := by
  cases d <;> cases k <;> simp_all [IsKey, Instr.sameBits, (Go.MapKept.bytes_beq _ _).2 rfl]

section
variable {P : Program} {w : World} {T K E : TypeId} {d : TypeDesc} {b : Nat} {m pre post : List (Value × Value)} {k v z : Value}

theorem run_find_no {es : Array MapEntry} (hK : P.underlying K = some d) (hk : IsKey d k) (h2 : es.toList.map (fun e => (e.key, e.val)) = m) (h3 : ∀ p ∈ m, IsKey d p.1) (hn : ∀ p ∈ m, p.1 ≠ k) : (Instr.findKey K k es.toList).run P w = .ok none w :=
  run_findKey hK (findNow_no hk _ _ (fun x hx => h3 (x.key, x.val) (h2 ▸ List.mem_map.2 ⟨x, hx, rfl⟩)) (fun x hx => hn (x.key, x.val) (h2 ▸ List.mem_map.2 ⟨x, hx, rfl⟩)))

theorem split_ents {l : List MapEntry} (h : l.map (fun e => (e.key, e.val)) = pre ++ (k, v) :: post) : ∃ l1 e l2, l = l1 ++ e :: l2 ∧ l1.map (fun e => (e.key, e.val)) = pre ∧ e.key = k ∧ e.val = v ∧ l2.map (fun e => (e.key, e.val)) = post := by
  obtain ⟨l1, r, rfl, h1, h2⟩ := List.map_eq_append_iff.1 h
  obtain ⟨e, l2, rfl, h3, h4⟩ := List.map_eq_cons_iff.1 h2
  simp only [Prod.mk.injEq] at h3
  exact ⟨l1, e, l2, rfl, h1, h3.1, h3.2, h4⟩

theorem run_find_at {es : Array MapEntry} (hK : P.underlying K = some d) (hk : IsKey d k) (h2 : es.toList.map (fun e => (e.key, e.val)) = pre ++ (k, v) :: post) (h3 : ∀ p ∈ pre, IsKey d p.1) (hn : ∀ p ∈ pre, p.1 ≠ k) :
    (Instr.findKey K k es.toList).run P w = .ok (some (pre.length, v)) w := by
  obtain ⟨l1, e, l2, h4, h5, h6, h7, h8⟩ := split_ents h2
  refine run_findKey hK ?_
  rw [h4, findNow_at hk l1 l2 e 0 (fun x hx => h3 (x.key, x.val) (h5 ▸ List.mem_map.2 ⟨x, hx, rfl⟩)) (fun x hx => hn (x.key, x.val) (h5 ▸ List.mem_map.2 ⟨x, hx, rfl⟩)) h6, h7, ← h5]
  simp

/-- A look-up that finds nothing. -/
theorem run_look_no (hT : P.underlying T = some (.map K E)) (hK : P.underlying K = some d) (h : AMap w b d m) (hk : IsKey d k) (hn : ∀ p ∈ m, p.1 ≠ k) (hz : (zeroValue E).run P w = .ok z w) (co : Bool) :
    (Instr.lookup T (.map (some b)) k co).run P w = .ok (if co then .tuple #[z, .bool false] else z) w := by
  obtain ⟨es, clock, h1, h2, h3⟩ := h
  unfold Instr.lookup
  simp [run_underlying hT, Go.MapKept.run_getObj_map h1, Go.MapKept.run_checkKey hK hk, run_find_no hK hk h2 h3 hn, hz, Result.andThen]

/-- A look-up that finds v. -/
theorem run_look_at (hT : P.underlying T = some (.map K E)) (hK : P.underlying K = some d) (h : AMap w b d (pre ++ (k, v) :: post)) (hn : ∀ p ∈ pre, p.1 ≠ k) (co : Bool) :
    (Instr.lookup T (.map (some b)) k co).run P w = .ok (if co then .tuple #[v, .bool true] else v) w := by
  obtain ⟨es, clock, h1, h2, h3⟩ := h
  have hk : IsKey d k := h3 (k, v) (by simp)
  unfold Instr.lookup
  simp [run_underlying hT, Go.MapKept.run_getObj_map h1, Go.MapKept.run_checkKey hK hk, run_find_at hK hk h2 (fun p hp => h3 p (by simp [hp])) hn, Result.andThen]

/-- A store of a new key. -/
theorem run_put_no (hT : P.underlying T = some (.map K E)) (hK : P.underlying K = some d) (h : AMap w b d m) (hk : IsKey d k) (hn : ∀ p ∈ m, p.1 ≠ k) :
    ∃ w', (Instr.mapUpdate T (.map (some b)) k v).run P w = .ok () w' ∧ AMap w' b d (m ++ [(k, v)]) ∧ w.grownBy w' (some b) := by
  obtain ⟨es, clock, h1, h2, h3⟩ := h
  have hs := Go.MapKept.heap_set (o' := .map (es.push { key := k, val := v, born := clock }) (clock + 1)) h1
  refine ⟨{ w with heap := w.heap.setIfInBounds b (.map (es.push { key := k, val := v, born := clock }) (clock + 1)) }, ?_, ⟨_, _, hs.1, by simp [h2], fun p hp => ?_⟩, ⟨rfl, rfl, rfl, by simp, fun k' _ hne => hs.2 k' (fun e => hne (by rw [e]))⟩⟩
  · unfold Instr.mapUpdate
    simp [run_underlying hT, Go.MapKept.run_getObj_map h1, Go.MapKept.run_checkKey hK hk, run_find_no hK hk h2 h3 hn, Go.MapKept.run_setObj_map _ h1, Result.andThen]
  · rcases List.mem_append.1 hp with hp | hp
    · exact h3 p hp
    · simp at hp; rw [hp]; exact hk

/-- A store at a key that is there. -/
theorem run_put_at {v' : Value} (hT : P.underlying T = some (.map K E)) (hK : P.underlying K = some d) (h : AMap w b d (pre ++ (k, v) :: post)) (hn : ∀ p ∈ pre, p.1 ≠ k) :
    ∃ w', (Instr.mapUpdate T (.map (some b)) k v').run P w = .ok () w' ∧ AMap w' b d (pre ++ (k, v') :: post) ∧ w.grownBy w' (some b) := by
  obtain ⟨es, clock, h1, h2, h3⟩ := h
  have hk : IsKey d k := h3 (k, v) (by simp)
  obtain ⟨l1, e, l2, h4, h5, h6, h7, h8⟩ := split_ents h2
  have hl : l1.length = pre.length := by rw [← h5]; simp
  have hs := Go.MapKept.heap_set (o' := .map (es.modify pre.length fun e => { e with key := k, val := v' }) clock) h1
  have he : es[pre.length]? = some e := by rw [← Array.getElem?_toList, h4, ← hl]; simp
  refine ⟨{ w with heap := w.heap.setIfInBounds b (.map (es.modify pre.length fun e => { e with key := k, val := v' }) clock) }, ?_, ⟨_, _, hs.1, ?_, fun p hp => ?_⟩, ⟨rfl, rfl, rfl, by simp, fun k' _ hne => hs.2 k' (fun e => hne (by rw [e]))⟩⟩
  · unfold Instr.mapUpdate Instr.keyThatStays
    simp [run_underlying hT, Go.MapKept.run_getObj_map h1, Go.MapKept.run_checkKey hK hk, run_find_at hK hk h2 (fun p hp => h3 p (by simp [hp])) hn, Go.MapKept.run_setObj_map _ h1, Result.andThen, he, h6, same_key hk]
  · rw [Array.toList_modify, h4, ← hl]
    rw [show l1.length = l1.length from rfl, modify_mid]
    simp [h5, h8]
  · rcases List.mem_append.1 hp with hp | hp
    · exact h3 p (by simp [hp])
    · rcases List.mem_cons.1 hp with hp | hp
      · rw [hp]; exact hk
      · exact h3 p (by simp [hp])

/-- A literal's entry. -/
theorem wpList_insert_no {ops : Array Oper} {rest : List Oper} {o : Oper} {a : Act} {Q : Exit → Act → World → Prop} (hg : o.guard = none) (x y u : Operand) (T : TypeId) (ho : o.op = .insert T x y u)
    (hx : a.eval x = .map (some b)) (hy : a.eval y = k) (hu : a.eval u = v) (hT : P.underlying T = some (.map K E)) (hK : P.underlying K = some d) (h : AMap w b d m) (hk : IsKey d k) (hn : ∀ p ∈ m, p.1 ≠ k)
    (hnext : ∀ w', AMap w' b d (m ++ [(k, v)]) → w.grownBy w' (some b) → wpList P ops Q rest (a.put o.dst undef) w') : wpList P ops Q (o :: rest) a w :=
  wpList_plain hg fun K' hK' => by
    obtain ⟨w', h1, h2, h3⟩ := run_put_no (P := P) (v := v) hT hK h hk hn
    unfold Oper.wp execOp
    simp only [ho, hx, hy, hu, Sem.run_bind, Sem.run_pure, Result.andThen_ok, h1]
    exact hK' _ _ (hnext w' h2 h3)

/-- A store of a new key. -/
theorem wpList_put_no {ops : Array Oper} {rest : List Oper} {o : Oper} {a : Act} {Q : Exit → Act → World → Prop} (hg : o.guard = none) (x y u : Operand) (T : TypeId) (ho : o.op = .mapUpdate T x y u)
    (hx : a.eval x = .map (some b)) (hy : a.eval y = k) (hu : a.eval u = v) (hT : P.underlying T = some (.map K E)) (hK : P.underlying K = some d) (h : AMap w b d m) (hk : IsKey d k) (hn : ∀ p ∈ m, p.1 ≠ k)
    (hnext : ∀ w', AMap w' b d (m ++ [(k, v)]) → w.grownBy w' (some b) → wpList P ops Q rest (a.put o.dst undef) w') : wpList P ops Q (o :: rest) a w :=
  wpList_plain hg fun K' hK' => by
    obtain ⟨w', h1, h2, h3⟩ := run_put_no (P := P) (v := v) hT hK h hk hn
    unfold Oper.wp execOp
    simp only [ho, hx, hy, hu, Sem.run_bind, Sem.run_pure, Result.andThen_ok, h1]
    exact hK' _ _ (hnext w' h2 h3)

/-- A store at a key that is there. -/
theorem wpList_put_at {ops : Array Oper} {rest : List Oper} {o : Oper} {a : Act} {Q : Exit → Act → World → Prop} {v' : Value} (hg : o.guard = none) (x y u : Operand) (T : TypeId) (ho : o.op = .mapUpdate T x y u)
    (hx : a.eval x = .map (some b)) (hy : a.eval y = k) (hu : a.eval u = v') (hT : P.underlying T = some (.map K E)) (hK : P.underlying K = some d) (h : AMap w b d (pre ++ (k, v) :: post)) (hn : ∀ p ∈ pre, p.1 ≠ k)
    (hnext : ∀ w', AMap w' b d (pre ++ (k, v') :: post) → w.grownBy w' (some b) → wpList P ops Q rest (a.put o.dst undef) w') : wpList P ops Q (o :: rest) a w :=
  wpList_plain hg fun K' hK' => by
    obtain ⟨w', h1, h2, h3⟩ := run_put_at (P := P) (v' := v') hT hK h hn
    unfold Oper.wp execOp
    simp only [ho, hx, hy, hu, Sem.run_bind, Sem.run_pure, Result.andThen_ok, h1]
    exact hK' _ _ (hnext w' h2 h3)
end
end Go.Proofs.YtaklephcgepfjaaGreatDoor

/- The program's parser: unary expressions. (Lines of the walks: wip/tools/steps.py.) -/
namespace Go.Proofs.YtaklephcgepfjaaGreatDoor
open Go.RowKit

section
variable {w : World} {X : Nat → Prop} {bp : Nat} {la : Option Addr} {c : Nat} {T : List Tk} {en : Int} {s : PS} {nv : Value}

theorem look_sign {w : World} {b : Nat} {x : ByteArray} {kd : Int} (hx : x = (⟨#[45]⟩ : ByteArray) ∨ x = (⟨#[33]⟩ : ByteArray)) (hkd : kd = if x = (⟨#[45]⟩ : ByteArray) then 17 else 18) (h : AMap w b .string ([] ++ [(.string (⟨#[45]⟩ : ByteArray), .int .i64 17)] ++ [(.string (⟨#[33]⟩ : ByteArray), .int .i64 18)])) :
    (Instr.lookup 93 (.map (some b)) (.string x) false).run Tryz.prog w = .ok (.int .i64 kd) w := by
  subst hkd
  rcases hx with rfl | rfl
  · rw [if_pos rfl]
    exact run_look_at (pre := []) (post := [(.string (⟨#[33]⟩ : ByteArray), .int .i64 18)]) Tryz.underlying93 Tryz.underlying9 h (by simp) false
  · rw [if_neg (by decide)]
    exact run_look_at (pre := [(.string (⟨#[45]⟩ : ByteArray), .int .i64 17)]) (post := []) Tryz.underlying93 Tryz.underlying9 h (by intro p hp; simp at hp; subst hp; exact str_ne (by decide)) false

theorem isP_text {l : List ByteArray} {t : Tk} (h : isP T l s = true) (ht : T[s.i]? = some t) : t.text ∈ l := by
  unfold isP at h
  rw [ht] at h
  simp only [Bool.and_eq_true] at h
  exact (memB_iff _ _).1 h.2

set_option maxRecDepth 100000 in
theorem unary_name (n : Nat) (h : PR w X bp la c T en s nv) (hf : Fit T 0 s) (hne : runP T en (n + 1) .unary s ≠ .out) (hb1 : isP T [(⟨#[45]⟩ : ByteArray), (⟨#[33]⟩ : ByteArray)] s = false) (hb2 : isP T [(⟨#[40]⟩ : ByteArray)] s = false) (hb3 : kindP T 3 s = false) :
    Calls Tryz.prog 128 #[.pointer (some ⟨bp, 0, none⟩)] w (Done w X bp la c T en (fun r : Int => .int .i64 r) (runP T en (n + 1) .unary s)) := by
  have HF := Lib.hid hf
  clear hne hf
  go_enter Tryz.func128, Tryz.ntmps128
  go_wp2_with fail
  refine (at_n h).mono ?_
  rintro e w1 ⟨rfl, h1, u1⟩
  clear h
  have U1 := Lib.hid u1; clear u1
  have B1 := Lib.hid hb1; have B2 := Lib.hid hb2; have B3 := Lib.hid hb3; clear hb1 hb2 hb3
  go_wp2_with fail
  refine (is_new [(⟨#[45]⟩ : ByteArray), (⟨#[33]⟩ : ByteArray)] (by simp) h1).mono ?_
  rw [B1.out]
  rintro e w2 ⟨rfl, h2, u2⟩
  clear h1
  have U2 := Lib.hid (U1.out.trans u2); clear u2
  go_wp2_with fail
  refine (is_new [(⟨#[40]⟩ : ByteArray)] (by simp) h2).mono ?_
  rw [B2.out]
  rintro e w3 ⟨rfl, h3, u3⟩
  clear h2
  have U3 := Lib.hid (U2.out.trans u3); clear u3
  go_wp2_with fail
  refine (kind_n 3 h3).mono ?_
  rw [B3.out]
  rintro e w4 ⟨rfl, h4, u4⟩
  clear h3
  have U4 := Lib.hid (U3.out.trans u4); clear u4
  go_wp2_with fail
  refine (name_c h4 HF.out.len).mono ?_
  rcases hq5 : nameP T en s with ⟨t, s5⟩ | ⟨cd, ps⟩ | _
  rotate_left
  · rintro e w5 ⟨rfl, u5⟩
    have Q5 := Lib.hid hq5; have V := Lib.hid (U4.out.trans u5); clear hq5 u5 h4
    go_wp2
    refine ⟨rfl, ?_⟩
    simp only [runP, B1.out, B2.out, B3.out, Q5.out, Res.bind_ok, Res.bind_bad, Bool.false_eq_true, reduceIte, putP]
    exact ⟨rfl, (V.out).to (fun k hk => .inl hk)⟩
  · exact fun e w5 h => h.elim
  rintro e w5 ⟨rfl, X5, nv5, h5, u5⟩
  have HF5 := Lib.hid (Fit.name HF.out hq5)
  have Q5 := Lib.hid hq5; clear hq5 h4
  have U5 := Lib.hid (U4.out.trans u5); clear u5
  have h6 := h5.alloc (.cells #[.int .i64 t.kind, .int .i64 t.num, .int .i64 t.pos, .string t.text] 81)
  have u6 : Upd w5 X5 _ X5 := (Upd.refl w5 X5).alloc (.cells #[.int .i64 t.kind, .int .i64 t.num, .int .i64 t.pos, .string t.text] 81)
  clear h5
  have U6 := Lib.hid (U5.out.trans u6); clear u6
  go_wp2_with fail
  refine (put_nil 16 _ _ _ h6 HF5.out.few').mono ?_
  rintro e w7 ⟨rfl, X7, nv7, h7, u7⟩
  have HP := Lib.hid h7; clear h6 h7
  have U7 := Lib.hid (U6.out.trans u7); clear u7
  go_wp2
  go_ret
  simp only [runP, B1.out, B2.out, B3.out, Q5.out, Res.bind_ok, Res.bind_bad, Bool.false_eq_true, reduceIte, putP]
  exact ⟨rfl, _, _, HP.out, U7.out⟩

set_option maxRecDepth 100000 in
theorem unary_number (n : Nat) (h : PR w X bp la c T en s nv) (hf : Fit T 0 s) (hne : runP T en (n + 1) .unary s ≠ .out) (hb1 : isP T [(⟨#[45]⟩ : ByteArray), (⟨#[33]⟩ : ByteArray)] s = false) (hb2 : isP T [(⟨#[40]⟩ : ByteArray)] s = false) (hb3 : kindP T 3 s = true) :
    Calls Tryz.prog 128 #[.pointer (some ⟨bp, 0, none⟩)] w (Done w X bp la c T en (fun r : Int => .int .i64 r) (runP T en (n + 1) .unary s)) := by
  have HF := Lib.hid hf
  clear hne hf
  go_enter Tryz.func128, Tryz.ntmps128
  go_wp2_with fail
  refine (at_n h).mono ?_
  rintro e w1 ⟨rfl, h1, u1⟩
  clear h
  have U1 := Lib.hid u1; clear u1
  have hi := kindP_lt hb3
  have B1 := Lib.hid hb1; have B2 := Lib.hid hb2; have B3 := Lib.hid hb3; clear hb1 hb2 hb3
  have hfn := fld_num
  go_wp2_with fail
  refine (is_new [(⟨#[45]⟩ : ByteArray), (⟨#[33]⟩ : ByteArray)] (by simp) h1).mono ?_
  rw [B1.out]
  rintro e w2 ⟨rfl, h2, u2⟩
  clear h1
  have U2 := Lib.hid (U1.out.trans u2); clear u2
  go_wp2_with fail
  refine (is_new [(⟨#[40]⟩ : ByteArray)] (by simp) h2).mono ?_
  rw [B2.out]
  rintro e w3 ⟨rfl, h3, u3⟩
  clear h2
  have U3 := Lib.hid (U2.out.trans u3); clear u3
  go_wp2_with fail
  refine (kind_n 3 h3).mono ?_
  rw [B3.out]
  rintro e w4 ⟨rfl, h4, u4⟩
  clear h3
  have U4 := Lib.hid (U3.out.trans u4); clear u4
  go_wp2_with fail
  refine (next_c h4 HF.out.len hi).mono ?_
  rintro e w5 ⟨rfl, h5, u5⟩
  have HF5 := Lib.hid (HF.out.step hi)
  clear h4
  have U5 := Lib.hid (U4.out.trans u5); clear u5
  go_wp2_with fail
  refine (put_nil 15 _ _ _ h5 HF5.out.few').mono ?_
  rintro e w6 ⟨rfl, X6, nv6, h6, u6⟩
  have HP := Lib.hid h6; clear h5 h6
  have U6 := Lib.hid (U5.out.trans u6); clear u6
  go_wp2
  go_ret
  simp only [runP, B1.out, B2.out, B3.out, Res.bind_ok, Res.bind_bad, Bool.false_eq_true, reduceIte, putP]
  exact ⟨rfl, _, _, HP.out, U6.out⟩

set_option maxRecDepth 100000 in
theorem unary_held (n : Nat) (R : Ready bp la c T en n) (h : PR w X bp la c T en s nv) (hf : Fit T 0 s) (hne : runP T en (n + 1) .unary s ≠ .out) (hb1 : isP T [(⟨#[45]⟩ : ByteArray), (⟨#[33]⟩ : ByteArray)] s = false) (hb2 : isP T [(⟨#[40]⟩ : ByteArray)] s = true) :
    Calls Tryz.prog 128 #[.pointer (some ⟨bp, 0, none⟩)] w (Done w X bp la c T en (fun r : Int => .int .i64 r) (runP T en (n + 1) .unary s)) := by
  have HN := Lib.hid hne; have HF := Lib.hid hf
  clear hne hf
  go_enter Tryz.func128, Tryz.ntmps128
  go_wp2_with fail
  refine (at_n h).mono ?_
  rintro e w1 ⟨rfl, h1, u1⟩
  clear h
  have U1 := Lib.hid u1; clear u1
  have B1 := Lib.hid hb1; have B2 := Lib.hid hb2; clear hb1 hb2
  go_wp2_with fail
  refine (is_new [(⟨#[45]⟩ : ByteArray), (⟨#[33]⟩ : ByteArray)] (by simp) h1).mono ?_
  rw [B1.out]
  rintro e w2 ⟨rfl, h2, u2⟩
  clear h1
  have U2 := Lib.hid (U1.out.trans u2); clear u2
  go_wp2_with fail
  refine (is_new [(⟨#[40]⟩ : ByteArray)] (by simp) h2).mono ?_
  rw [B2.out]
  rintro e w3 ⟨rfl, h3, u3⟩
  clear h2
  have U3 := Lib.hid (U2.out.trans u3); clear u3
  rcases hq4 : runP T en n .held s with ⟨k, s4⟩ | ⟨cd, ps⟩ | _
  rotate_right
  · exact (HN.out (by simp only [runP, B1.out, B2.out,  hq4, Res.bind_ok, Res.bind_out, Bool.false_eq_true, reduceIte, putP])).elim
  all_goals
    have C4 := R.held _ _ _ s h3 HF.out.zero (by rw [hq4]; simp)
    rw [hq4] at C4
    have D4 := Lib.hid C4; clear C4
    go_wp2_with fail
    refine D4.out.mono ?_
  rotate_left
  · rintro e w4 ⟨rfl, u4⟩
    have Q4 := Lib.hid hq4; have V := Lib.hid (U3.out.trans u4); clear hq4 u4 h3
    go_wp2
    refine ⟨rfl, ?_⟩
    simp only [runP, B1.out, B2.out, Q4.out, Res.bind_ok, Res.bind_bad, Bool.false_eq_true, reduceIte, putP]
    exact ⟨rfl, (V.out).to (fun k hk => .inl hk)⟩
  rintro e w4 ⟨rfl, X4, nv4, h4, u4⟩
  have HF4 := Lib.hid (HF.out.adv (runP_adv _ _ _ _ _ HF.out.top hq4))
  have Q4 := Lib.hid hq4; clear hq4 h3 D4
  have U4 := Lib.hid (U3.out.trans u4); clear u4
  go_wp2
  go_ret
  simp only [runP, B1.out, B2.out, Q4.out, Res.bind_ok, Res.bind_bad, Bool.false_eq_true, reduceIte, putP]
  exact ⟨rfl, _, _, h4, U4.out⟩

set_option maxRecDepth 100000 in
theorem unary_sign (n : Nat) (R : Ready bp la c T en n) (h : PR w X bp la c T en s nv) (hf : Fit T 0 s) (hne : runP T en (n + 1) .unary s ≠ .out) (hb1 : isP T [(⟨#[45]⟩ : ByteArray), (⟨#[33]⟩ : ByteArray)] s = true) :
    Calls Tryz.prog 128 #[.pointer (some ⟨bp, 0, none⟩)] w (Done w X bp la c T en (fun r : Int => .int .i64 r) (runP T en (n + 1) .unary s)) := by
  have HN := Lib.hid hne; have HF := Lib.hid hf
  have hbX := h.inX
  clear hne hf
  go_enter Tryz.func128, Tryz.ntmps128
  go_wp2_with fail
  refine (at_n h).mono ?_
  rintro e w1 ⟨rfl, h1, u1⟩
  clear h
  have U1 := Lib.hid u1; clear u1
  have hi := isP_lt hb1
  have B1 := Lib.hid hb1; clear hb1
  go_wp2_with fail
  refine (is_new [(⟨#[45]⟩ : ByteArray), (⟨#[33]⟩ : ByteArray)] (by simp) h1).mono ?_
  rw [B1.out]
  rintro e w2 ⟨rfl, h2, u2⟩
  clear h1
  have U2 := Lib.hid (U1.out.trans u2); clear u2
  go_wp2_with fail
  have g0 := h2.c0
  have g2 := h2.c2
  obtain ⟨t, ht⟩ : ∃ t, T[s.i]? = some t := ⟨_, List.getElem?_eq_getElem hi⟩
  obtain ⟨bl, rfl, hx, hlt, t0, t1, t2, t3⟩ := h2.toks s.i t ht
  have hT : tokP T s = t := by simp only [tokP, List.getD_eq_getElem?_getD, ht]; rfl
  have HH := Lib.hid h2; have HT := Lib.hid hT
  have HX := Lib.hid (isP_text B1.out ht)
  clear h2 hT ht hx hlt t0 t1 t2
  go_quiet (fail)

  have h3 := HH.out.drewN nq
  have u3 : Upd w2 X _ X := (Upd.refl w2 X).drewN nq
  clear t3 g0 g2 HH
  have U3 := Lib.hid (U2.out.trans u3); clear u3
  go_wp2_with fail
  refine (open_c t.text h3 HF.out.len HF.out.deep).mono ?_
  rcases hq4 : openP T en t.text s with ⟨a1, s4⟩ | ⟨cd, ps⟩ | _
  rotate_left
  · rintro e w4 ⟨rfl, u4⟩
    have Q4 := Lib.hid hq4; have V := Lib.hid (U3.out.trans u4); clear hq4 u4 h3
    go_wp2
    refine ⟨rfl, ?_⟩
    simp only [runP, B1.out, HT.out, Q4.out, Res.bind_ok, Res.bind_bad, Bool.false_eq_true, reduceIte, putP]
    exact ⟨rfl, (V.out).to (fun k hk => .inl hk)⟩
  · exact fun e w4 h => h.elim
  rintro e w4 ⟨rfl, X4, nv4, h4, u4⟩
  have HF4 := Lib.hid (Fit.open HF.out hq4)
  have Q4 := Lib.hid hq4; clear hq4 h3
  have U4 := Lib.hid (U3.out.trans u4); clear u4
  rcases hq5 : runP T en n .unary s4 with ⟨k, s5⟩ | ⟨cd, ps⟩ | _
  rotate_right
  · exact (HN.out (by simp only [runP, B1.out, HT.out, Q4.out,  hq5, Res.bind_ok, Res.bind_out, Bool.false_eq_true, reduceIte, putP])).elim
  all_goals
    have C5 := R.unary _ _ _ s4 h4 HF4.out.zero (by rw [hq5]; simp)
    rw [hq5] at C5
    have D5 := Lib.hid C5; clear C5
    go_wp2_with fail
    refine D5.out.mono ?_
  rotate_left
  · rintro e w5 ⟨rfl, u5⟩
    have Q5 := Lib.hid hq5; have V := Lib.hid (U4.out.trans u5); clear hq5 u5 h4
    go_wp2
    refine ⟨rfl, ?_⟩
    simp only [runP, B1.out, HT.out, Q4.out, Q5.out, Res.bind_ok, Res.bind_bad, Bool.false_eq_true, reduceIte, putP]
    exact ⟨rfl, (V.out).to (fun k hk => .inl hk)⟩
  rintro e w5 ⟨rfl, X5, nv5, h5, u5⟩
  have HF5 := Lib.hid (HF4.out.adv (runP_adv _ _ _ _ _ HF4.out.top hq5))
  have Q5 := Lib.hid hq5; clear hq5 h4 D5
  have U5 := Lib.hid (U4.out.trans u5); clear u5
  have g3 := h5.c3
  have f3 := h5.free 3
  have d1 : 0 ≤ s5.deep := HF5.out.lo
  have d2 : s5.deep ≤ 20 := HF5.out.hi
  have HH5 := Lib.hid (h5.setDeep (s5.deep - 1)); have V5 := Lib.hid (U5.out.setCell (a := ⟨bp, 3, none⟩) (.inl hbX) (.int .i64 (s5.deep - 1)))
  clear h5
  have hmm := @run_makeMap Tryz.prog
  have HTX := Lib.hid (show t.text = (⟨#[45]⟩ : ByteArray) ∨ t.text = (⟨#[33]⟩ : ByteArray) by simpa using HX.out)
  obtain ⟨kd, hkd⟩ : ∃ kd : Int, kd = if t.text = (⟨#[45]⟩ : ByteArray) then 17 else 18 := ⟨_, rfl⟩
  have HKD := Lib.hid hkd; clear hkd
  go_wp2_with (first | (refine wpList_insert_no rfl _ _ _ _ rfl rfl (k := .string (⟨#[33]⟩ : ByteArray)) rfl (v := .int .i64 18) rfl Tryz.underlying93 Tryz.underlying9 hA6 trivial ?_ ?_; (· intro p hp; simp at hp; subst hp; exact str_ne (by decide)); intro w7 hA7 hG7; have hlk := look_sign HTX.out HKD.out hA7) | (refine wpList_insert_no (m := []) rfl _ _ _ _ rfl rfl (k := .string (⟨#[45]⟩ : ByteArray)) rfl (v := .int .i64 17) rfl Tryz.underlying93 Tryz.underlying9 (AMap.made' ?_) trivial ?_ ?_; (· simp); (· simp); intro w6 hA6 hG6))
  have hs5 : (w5.setCell ⟨bp, 3, none⟩ (.int .i64 (s5.deep - 1))).heap.size = w5.heap.size := by simp
  have u7 : Upd (w5.setCell ⟨bp, 3, none⟩ (.int .i64 (s5.deep - 1))) NO w7 NO := (((Upd.refl _ NO).alloc (.map #[] 0)).grown hG6 (fun k hk => .inr (by simp at hk; omega))).grown hG7 (fun k hk => .inr (by simp at hk; omega))
  have h7 := HH5.out.new u7
  have HU7 := Lib.hid (V5.out.fresh u7)
  clear u7 hA6 hG6 hA7 hG7 hlk

  go_wp2_with fail
  refine (put_new _ _ _ _ [k] h7 HF5.out.few' (by simp)).mono ?_
  rintro e w8 ⟨rfl, X8, nv8, h8, u8⟩
  have HP := Lib.hid h8; clear h7 h8
  have U8 := Lib.hid (HU7.out.trans u8); clear u8
  have HKD2 := Lib.hid HKD.out.symm
  go_wp2
  go_ret
  simp only [runP, B1.out, HT.out, Q4.out, Q5.out, HKD2.out, Res.bind_ok, Res.bind_bad, Bool.false_eq_true, reduceIte, putP]
  exact ⟨rfl, _, _, HP.out, U8.out⟩


/-- unary -/
theorem unary_c (n : Nat) (R : Ready bp la c T en n) (h : PR w X bp la c T en s nv) (hf : Fit T 0 s) (hne : runP T en (n + 1) .unary s ≠ .out) :
    Calls Tryz.prog 128 #[.pointer (some ⟨bp, 0, none⟩)] w (Done w X bp la c T en (fun r : Int => .int .i64 r) (runP T en (n + 1) .unary s)) := by
  cases hb1 : isP T [(⟨#[45]⟩ : ByteArray), (⟨#[33]⟩ : ByteArray)] s with
  | true => exact unary_sign n R h hf hne hb1
  | false =>
    cases hb2 : isP T [(⟨#[40]⟩ : ByteArray)] s with
    | true => exact unary_held n R h hf hne hb1 hb2
    | false =>
      cases hb3 : kindP T 3 s with
      | true => exact unary_number n h hf hne hb1 hb2 hb3
      | false => exact unary_name n h hf hne hb1 hb2 hb3
end
end Go.Proofs.YtaklephcgepfjaaGreatDoor

/- The program's parser: expressions of two sides, and blocks: the two loops. (Lines of the walks: wip/tools/steps.py.) -/
namespace Go.Proofs.YtaklephcgepfjaaGreatDoor
open Go.RowKit

/-- levels -/
theorem levels_c (w : World) : Calls Tryz.prog 127 #[] w fun e w' => e = .returned (.slice (some ⟨w.heap.size + 5, 0, none⟩) 5 5) ∧
    w' = (((((w.alloc (.cells #[.string (⟨#[124, 124]⟩ : ByteArray)] 9)).alloc (.cells #[.string (⟨#[38, 38]⟩ : ByteArray)] 9)).alloc (.cells #[.string (⟨#[61, 61]⟩ : ByteArray), .string (⟨#[33, 61]⟩ : ByteArray), .string (⟨#[60]⟩ : ByteArray), .string (⟨#[60, 61]⟩ : ByteArray), .string (⟨#[62]⟩ : ByteArray), .string (⟨#[62, 61]⟩ : ByteArray)] 9)).alloc
      (.cells #[.string (⟨#[43]⟩ : ByteArray), .string (⟨#[45]⟩ : ByteArray)] 9)).alloc (.cells #[.string (⟨#[42]⟩ : ByteArray)] 9)).alloc (.cells #[.slice (some ⟨w.heap.size, 0, none⟩) 1 1, .slice (some ⟨w.heap.size + 1, 0, none⟩) 1 1,
      .slice (some ⟨w.heap.size + 2, 0, none⟩) 6 6, .slice (some ⟨w.heap.size + 3, 0, none⟩) 2 2, .slice (some ⟨w.heap.size + 4, 0, none⟩) 1 1] 103) := by
  go_enter Tryz.func127, Tryz.ntmps127
  go_wp2
  go_ret
  exact ⟨rfl, rfl⟩

/-- The signs L of level k lie in block bk, its list in block b. -/
structure Lev (w : World) (b bk k : Nat) (L : List ByteArray) : Prop where
  lb : b < w.heap.size
  lk : bk < w.heap.size
  few : L.length ≤ 1000
  cell : w.cell? ⟨b, k, none⟩ = some (.slice (some ⟨bk, 0, none⟩) L.length L.length)
  texts : ∀ j, j < L.length → w.cell? ⟨bk, 0 + j, none⟩ = some (.string (L.getD j ByteArray.empty))

theorem Lev.upd {w w1 : World} {X X1 : Nat → Prop} {b bk k : Nat} {L : List ByteArray} (h : Lev w b bk k L) (u : Upd w X w1 X1) (hb : ¬ X b) (hk : ¬ X bk) : Lev w1 b bk k L :=
  ⟨Nat.lt_of_lt_of_le h.lb u.size, Nat.lt_of_lt_of_le h.lk u.size, h.few, by rw [u.cell h.lb hb]; exact h.cell, fun j hj => by rw [u.cell h.lk hk]; exact h.texts j hj⟩

theorem levels_small (k : Nat) : (levelsP.getD k []).length ≤ 1000 := by
  match k with
  | 0 => decide
  | 1 => decide
  | 2 => decide
  | 3 => decide
  | 4 => decide
  | k + 5 => simp [levelsP]

theorem levels_n (w : World) (k : Nat) (hk : k < 5) : Calls Tryz.prog 127 #[] w fun e w' => ∃ b bk, e = .returned (.slice (some ⟨b, 0, none⟩) 5 5) ∧ Upd w NO w' NO ∧ Lev w' b bk k (levelsP.getD k []) ∧ w.heap.size ≤ b ∧ w.heap.size ≤ bk := by
  refine (levels_c w).mono ?_
  rintro e w' ⟨rfl, rfl⟩
  refine ⟨w.heap.size + 5, w.heap.size + k, rfl, (((((((Upd.refl w NO).alloc _).alloc _).alloc _).alloc _).alloc _).alloc _), ?_, by omega, by omega⟩
  refine ⟨by simp, by simp; omega, levels_small k, ?_, ?_⟩
  · rw [cell_blk (blk_new (by simp))]
    match k, hk with
    | 0, _ => rfl
    | 1, _ => rfl
    | 2, _ => rfl
    | 3, _ => rfl
    | 4, _ => rfl
  · match k, hk with
    | 0, _ => intro j hj; rw [cell_blk (blk_alloc (blk_alloc (blk_alloc (blk_alloc (blk_alloc (blk_new (by simp)))))))]; match j, hj with | 0, _ => rfl
    | 1, _ => intro j hj; rw [cell_blk (blk_alloc (blk_alloc (blk_alloc (blk_alloc (blk_new (by simp))))))]; match j, hj with | 0, _ => rfl
    | 2, _ => intro j hj; rw [cell_blk (blk_alloc (blk_alloc (blk_alloc (blk_new (by simp)))))]; match j, hj with | 0, _ => rfl | 1, _ => rfl | 2, _ => rfl | 3, _ => rfl | 4, _ => rfl | 5, _ => rfl
    | 3, _ => intro j hj; rw [cell_blk (blk_alloc (blk_alloc (blk_new (by simp))))]; match j, hj with | 0, _ => rfl | 1, _ => rfl
    | 4, _ => intro j hj; rw [cell_blk (blk_alloc (blk_new (by simp)))]; match j, hj with | 0, _ => rfl

section
variable {w : World} {X : Nat → Prop} {bp : Nat} {la : Option Addr} {c : Nat} {T : List Tk} {en : Int} {s : PS} {nv : Value}

theorem is_n (b k : Nat) (l : List ByteArray) (hl : l.length ≤ 1000) (h : PR w X bp la c T en s nv) (hc : ∀ j, j < l.length → w.cell? ⟨b, 0 + j, none⟩ = some (.string (l.getD j ByteArray.empty))) :
    Calls Tryz.prog 34 #[.pointer (some ⟨bp, 0, none⟩), .slice (some ⟨b, 0, none⟩) l.length k] w fun r w' =>
      r = .returned (.bool (isP T l s)) ∧ PR w' X bp la c T en s nv ∧ Upd w X w' X :=
  (is_c b 0 k l h hl hc).mono fun _ _ ⟨h1, n, h2⟩ => ⟨h1, by subst h2; exact h.drewN n, by subst h2; exact (Upd.refl w X).drewN n⟩

set_option maxRecDepth 100000 in
/-- expr, at the last level -/
theorem expr_5 (n : Nat) (R : Ready bp la c T en n) (h : PR w X bp la c T en s nv) (hf : Fit T 0 s) (hne : runP T en (n + 1) (.expr 5) s ≠ .out) :
    Calls Tryz.prog 105 #[.pointer (some ⟨bp, 0, none⟩), .int .i64 5] w (Done w X bp la c T en (fun r : Int => .int .i64 r) (runP T en (n + 1) (.expr 5) s)) := by
  have HN := Lib.hid hne; have HF := Lib.hid hf
  clear hne hf
  go_enter Tryz.func105, Tryz.ntmps105
  go_wp2_with fail
  refine (levels_c w).mono ?_
  rintro e w1 ⟨rfl, hw1⟩
  have u1 : Upd w X w1 X := hw1 ▸ ((((((Upd.refl w X).alloc _).alloc _).alloc _).alloc _).alloc _).alloc _
  have h1 : PR w1 X bp la c T en s nv := hw1 ▸ (((((h.alloc _).alloc _).alloc _).alloc _).alloc _).alloc _
  clear h hw1

  have U1 := Lib.hid u1; clear u1
  rcases hq2 : runP T en n .unary s with ⟨k, s2⟩ | ⟨cd, ps⟩ | _
  rotate_right
  · exact (HN.out (by simp only [runP,  hq2, Res.bind_ok, Res.bind_out, Bool.false_eq_true, reduceIte, putP])).elim
  all_goals
    have C2 := R.unary _ _ _ s h1 HF.out.zero (by rw [hq2]; simp)
    rw [hq2] at C2
    have D2 := Lib.hid C2; clear C2
    go_wp2_with fail
    refine D2.out.mono ?_
  rotate_left
  · rintro e w2 ⟨rfl, u2⟩
    have Q2 := Lib.hid hq2; have V := Lib.hid (U1.out.trans u2); clear hq2 u2 h1
    go_wp2
    refine ⟨rfl, ?_⟩
    simp only [runP, Q2.out, Res.bind_ok, Res.bind_bad, Bool.false_eq_true, reduceIte, putP]
    exact ⟨rfl, (V.out).to (fun k hk => .inl hk)⟩
  rintro e w2 ⟨rfl, X2, nv2, h2, u2⟩
  have HF2 := Lib.hid (HF.out.adv (runP_adv _ _ _ _ _ HF.out.top hq2))
  have Q2 := Lib.hid hq2; clear hq2 h1 D2
  have U2 := Lib.hid (U1.out.trans u2); clear u2
  go_wp2
  go_ret
  simp only [runP, Q2.out, Res.bind_ok, Res.bind_bad, Bool.false_eq_true, reduceIte, putP]
  exact ⟨rfl, _, _, h2, U2.out⟩

/-- The loop of expr: what is left to come is R0. -/
def ExprInv (w : World) (X : Nat → Prop) (bp : Nat) (la : Option Addr) (c : Nat) (T : List Tk) (en : Int) (k b bk : Nat) (L : List ByteArray) (n : Nat) (R0 : Res Int) (m : Nat) (v : Value) (wr : World) : Prop :=
  ∃ (left : Int) (s' : PS) (X' : Nat → Prop) (nv' : Value), v = .int .i64 left ∧ m ≤ n ∧ PR wr X' bp la c T en s' nv' ∧ Upd w X wr X' ∧ Fit T 0 s' ∧ R0 = runP T en m (.exprL k left) s' ∧ Lev wr b bk k L ∧ ¬ X' b ∧ ¬ X' bk

set_option maxRecDepth 100000 in
/-- expr -/
theorem expr_lt (n k : Nat) (hk : k < 5) (RR : ∀ m, m ≤ n → Ready bp la c T en m) (h : PR w X bp la c T en s nv) (hf : Fit T 0 s) (hne : runP T en (n + 1) (.expr k) s ≠ .out) :
    Calls Tryz.prog 105 #[.pointer (some ⟨bp, 0, none⟩), .int .i64 k] w (Done w X bp la c T en (fun r : Int => .int .i64 r) (runP T en (n + 1) (.expr k) s)) := by
  have R := RR n (Nat.le_refl n)
  have hk5 : ((k : Int) == 5) = false := by simp; omega
  have hkn : ¬ k = 5 := by omega
  have HN := Lib.hid hne; have HF := Lib.hid hf; have HK5 := Lib.hid hkn; have H2 := Lib.hid RR
  clear hne hf hkn RR
  go_enter Tryz.func105, Tryz.ntmps105
  go_wp2_with fail
  refine (levels_n w k hk).mono ?_
  rintro e w1 ⟨b, bk, rfl, v1, hl1, hb1, hb2⟩
  obtain ⟨L, hL⟩ : ∃ L, L = levelsP.getD k [] := ⟨_, rfl⟩
  rw [← hL] at hl1
  have HLL := Lib.hid hL; clear hL
  have u1 : Upd w X w1 X := (Upd.refl w X).fresh v1
  have h1 := h.new v1
  have hxb : ¬ X b := fun e => by have := h.high _ e; omega
  have hxk : ¬ X bk := fun e => by have := h.high _ e; omega
  have HL1 := Lib.hid hl1; have HXB := Lib.hid hxb; have HXK := Lib.hid hxk
  clear h v1 hl1 hxb hxk hb1 hb2

  have U1 := Lib.hid u1; clear u1
  rcases hq2 : runP T en n (.expr (k + 1)) s with ⟨l0, s2⟩ | ⟨cd, ps⟩ | _
  rotate_right
  · exact (HN.out (by simp only [runP, HK5.out,  hq2, Res.bind_ok, Res.bind_out, Bool.false_eq_true, reduceIte, putP])).elim
  all_goals
    have C2 := R.expr _ _ _ s (k + 1) (k + 1) rfl (by omega) h1 HF.out.zero (by rw [hq2]; simp)
    rw [hq2] at C2
    have D2 := Lib.hid C2; clear C2
    go_wp2_with fail
    refine D2.out.mono ?_
  rotate_left
  · rintro e w2 ⟨rfl, u2⟩
    have Q2 := Lib.hid hq2; have V := Lib.hid (U1.out.trans u2); clear hq2 u2 h1
    go_wp2
    refine ⟨rfl, ?_⟩
    simp only [runP, HK5.out, Q2.out, Res.bind_ok, Res.bind_bad, Bool.false_eq_true, reduceIte, putP]
    exact ⟨rfl, (V.out).to (fun k hk => .inl hk)⟩
  rintro e w2 ⟨rfl, X2, nv2, h2, u2⟩
  have HF2 := Lib.hid (HF.out.adv (runP_adv _ _ _ _ _ HF.out.top hq2))
  have Q2 := Lib.hid hq2; clear hq2 h1 D2
  have V2 := Lib.hid u2
  have U2 := Lib.hid (U1.out.trans u2); clear u2
  have hlc : Lev w2 b bk k L ∧ ¬ X2 b ∧ ¬ X2 bk := ⟨HL1.out.upd V2.out HXB.out HXK.out, V2.out.notIn HL1.out.lb HXB.out, V2.out.notIn HL1.out.lk HXK.out⟩
  have HLC := Lib.hid hlc; clear hlc
  have HNE : Hid (runP T en n (.exprL k l0) s2 ≠ .out) := Lib.hid (fun e => HN.out (by simp only [runP, HK5.out, Q2.out, Res.bind_ok, reduceIte]; exact e))
  have HI : Hid (ExprInv w X bp la c T en k b bk L n (runP T en n (.exprL k l0) s2) n (.int .i64 l0) w2) := ⟨l0, s2, X2, nv2, rfl, Nat.le_refl _, h2, U2.out, HF2.out, rfl, HLC.out⟩
  clear h2 HLC R
  go_wp2_with fail
  go_loopg [6] n (fun m v wr => ExprInv w X bp la c T en k b bk L n (runP T en n (.exprL k l0) s2) m v wr)
  case atStart => exact HI.out
  case round =>
    clear HI U1 U2 V2 HL1 HXB HXK HF2
    obtain ⟨left, sr, Xr, nvr, rfl, hm, hr, ur, fr, er, lr, xb, xk⟩ := hrel
    have ER := Lib.hid er; have HM := Lib.hid hm; have UR := Lib.hid ur; have HFr := Lib.hid fr; have LR := Lib.hid (⟨lr, xb, xk⟩ : _ ∧ _ ∧ _)
    have hcell := lr.cell
    clear er hm ur fr lr xb xk
    obtain ⟨m, rfl⟩ : ∃ m, gk = m + 1 := by
      cases gk with
      | zero => exact absurd ER.out HNE.out
      | succ m => exact ⟨m, rfl⟩
    have Rm := H2.out m (by have := HM.out; omega)
    have H2' := Lib.hid Rm; clear Rm
    cases hb : isP T L sr with
    | false =>
      have B1 := Lib.hid (show isP T (levelsP.getD k []) sr = _ from HLL.out ▸ hb); have B2 := Lib.hid hb; clear hb
      go_wp2_with fail
      refine (is_n bk _ L LR.out.1.few hr LR.out.1.texts).mono ?_
      rw [B2.out]
      rintro e w11 ⟨rfl, h11, u11⟩
      clear hr
      have U11 := Lib.hid u11; clear u11
      have FE := Lib.hid (show runP T en (n + 1) (.expr k) s = .ok left sr from by simp only [runP, HK5.out, Q2.out, Res.bind_ok, reduceIte]; rw [ER.out]; simp only [runP, B1.out, Bool.false_eq_true, reduceIte])
      go_wp2
      go_ret
      rw [FE.out]
      exact ⟨rfl, _, _, h11, UR.out.trans U11.out⟩
    | true =>
      have hi := isP_lt hb
      have B1 := Lib.hid (show isP T (levelsP.getD k []) sr = _ from HLL.out ▸ hb); have B2 := Lib.hid hb; clear hb
      go_wp2_with fail
      refine (is_n bk _ L LR.out.1.few hr LR.out.1.texts).mono ?_
      rw [B2.out]
      rintro e w11 ⟨rfl, h11, u11⟩
      clear hr
      have U11 := Lib.hid u11; clear u11
      go_wp2_with fail
      refine (next_c h11 HFr.out.len hi).mono ?_
      rintro e w12 ⟨rfl, h12, u12⟩
      have HF12 := Lib.hid (HFr.out.step hi)
      clear h11
      have U12 := Lib.hid (U11.out.trans u12); clear u12
      have hXB : ¬ Xr w12.heap.size := fun e => by have := h12.high _ e; omega
      have hB : (w12.alloc (.cells #[.int .i64 (tokP T sr).kind, .int .i64 (tokP T sr).num, .int .i64 (tokP T sr).pos, .string (tokP T sr).text] 81)).heap[w12.heap.size]? = some (.cells #[.int .i64 (tokP T sr).kind, .int .i64 (tokP T sr).num, .int .i64 (tokP T sr).pos, .string (tokP T sr).text] 81 (0, 0)) := heap_alloc_new _ _
      have HB := Lib.hid hB; have HXB2 := Lib.hid hXB; clear hB hXB
      have h13 := h12.alloc (.cells #[.int .i64 (tokP T sr).kind, .int .i64 (tokP T sr).num, .int .i64 (tokP T sr).pos, .string (tokP T sr).text] 81)
      have u13 : Upd w12 Xr _ Xr := (Upd.refl w12 Xr).alloc (.cells #[.int .i64 (tokP T sr).kind, .int .i64 (tokP T sr).num, .int .i64 (tokP T sr).pos, .string (tokP T sr).text] 81)
      clear h12
      have U13 := Lib.hid (U12.out.trans u13); clear u13
      rcases hq14 : runP T en m (.expr (k + 1)) (stepP sr) with ⟨right, s14⟩ | ⟨cd, ps⟩ | _
      rotate_right
      · exact (HN.out (by simp only [runP, HK5.out, Q2.out, ER.out, B1.out,  hq14, Res.bind_ok, Res.bind_out, Bool.false_eq_true, reduceIte, putP])).elim
      all_goals
        have C14 := H2'.out.expr _ _ _ (stepP sr) (k + 1) (k + 1) rfl (by omega) h13 HF12.out.zero (by rw [hq14]; simp)
        rw [hq14] at C14
        have D14 := Lib.hid C14; clear C14
        go_wp2_with fail
        refine D14.out.mono ?_
      rotate_left
      · rintro e w14 ⟨rfl, u14⟩
        have Q14 := Lib.hid hq14; have V := Lib.hid (U13.out.trans u14); clear hq14 u14 h13
        go_wp2
        refine ⟨rfl, ?_⟩
        simp only [runP, HK5.out, Q2.out, ER.out, B1.out, Q14.out, Res.bind_ok, Res.bind_bad, Bool.false_eq_true, reduceIte, putP]
        exact ⟨rfl, (UR.out.trans V.out).to (fun k hk => .inl hk)⟩
      rintro e w14 ⟨rfl, X14, nv14, h14, u14⟩
      have HF14 := Lib.hid (HF12.out.adv (runP_adv _ _ _ _ _ HF12.out.top hq14))
      have Q14 := Lib.hid hq14; clear hq14 h13 D14
      have V14 := Lib.hid u14
      have U14 := Lib.hid (U13.out.trans u14); clear u14
      have hB2 := V14.out.keep HB.out HXB2.out
      have c2 : w14.cell? ⟨w12.heap.size, 2, none⟩ = some (.int .i64 (tokP T sr).pos) := cell_blk hB2
      have c3 : w14.cell? ⟨w12.heap.size, 3, none⟩ = some (.string (tokP T sr).text) := cell_blk hB2
      clear hB2
      go_wp2_with fail
      refine (put_new _ _ _ _ [left, right] h14 HF14.out.few' (by simp)).mono ?_
      rintro e w15 ⟨rfl, X15, nv15, h15, u15⟩
      have HP := Lib.hid h15; clear h14 h15
      have U15 := Lib.hid (U14.out.trans u15); clear u15
      have LR2 : Hid (Lev w15 b bk k L ∧ ¬ X15 b ∧ ¬ X15 bk) := ⟨LR.out.1.upd U15.out LR.out.2.1 LR.out.2.2, U15.out.notIn LR.out.1.lb LR.out.2.1, U15.out.notIn LR.out.1.lk LR.out.2.2⟩
      go_wp2
      go_roundg m
      case rel =>
        refine ⟨_, _, _, _, rfl, by have := HM.out; omega, HP.out, UR.out.trans U15.out, HF14.out.put _, ?_, LR2.out.1, LR2.out.2.1, LR2.out.2.2⟩
        rw [ER.out]; simp only [runP, B1.out, reduceIte, Q14.out, Res.bind_ok, putP]
      case measure => omega


end
end Go.Proofs.YtaklephcgepfjaaGreatDoor

/- The program's parser: blocks. (Lines of the walks: wip/tools/steps.py.) -/
namespace Go.Proofs.YtaklephcgepfjaaGreatDoor
open Go.RowKit

theorem Tryz.infoInt : (Tryz.prog.info? 3).map (fun i => (i.zero, i.size, i.bytes)) = some (some (.int .i64 0), 1, 8) := by kernel_rfl

/-- The loop of block: what is left to come is R0. -/
def BlockInv (w : World) (X : Nat → Prop) (bp : Nat) (la : Option Addr) (c : Nat) (T : List Tk) (en : Int) (pos : Int) (n : Nat) (R0 : Res Int) (m : Nat) (v : Value) (wr : World) : Prop :=
  ∃ (kids : List Int) (ka : Option Addr) (kc : Nat) (s' : PS) (X' : Nat → Prop) (nv' : Value), v = .slice ka kids.length kc ∧ KidsAt wr v kids ∧ (∀ g, v.ownBlock = some g → ¬ X' g ∧ w.heap.size ≤ g) ∧ kids.length ≤ s'.i ∧
    m ≤ n ∧ PR wr X' bp la c T en s' nv' ∧ Upd w X wr X' ∧ Fit T 1 s' ∧ R0 = runP T en m (.blockL pos kids) s'

section
variable {w : World} {X : Nat → Prop} {bp : Nat} {la : Option Addr} {c : Nat} {T : List Tk} {en : Int} {s : PS} {nv : Value}

/-- It is where it was, where no block of X and none ahead of bp turns. -/
theorem PR.beside {w w1 : World} {Y Y1 : Nat → Prop} (h : PR w X bp la c T en s nv) (u : Upd w Y w1 Y1) (hY : ∀ k, Y k → ¬ X k) (hb : ∀ k, Y k → bp ≤ k) : PR w1 X bp la c T en s nv :=
  ⟨h.inX, h.low, fun k hk => Nat.lt_of_lt_of_le (h.high k hk) u.size, u.keep h.blk (fun e => hY bp e h.inX), h.toks.upd u (fun k hk e => by have := hb k e; omega), h.nodes.upd u (fun k hk _ e => hY k e hk)⟩

set_option maxRecDepth 100000 in
set_option maxHeartbeats 400000 in
/-- block -/
theorem block_c (n : Nat) (RR : ∀ m, m ≤ n → Ready bp la c T en m) (h : PR w X bp la c T en s nv) (hf : Fit T 0 s) (hne : runP T en (n + 1) .block s ≠ .out) :
    Calls Tryz.prog 38 #[.pointer (some ⟨bp, 0, none⟩)] w (Done w X bp la c T en (fun r : Int => .int .i64 r) (runP T en (n + 1) .block s)) := by
  have HN := Lib.hid hne; have HF := Lib.hid hf; have H2 := Lib.hid RR; have HBP := Lib.hid h.lt
  clear hne hf RR
  go_enter Tryz.func38, Tryz.ntmps38
  go_wp2_with fail
  refine (open_c (⟨#[123]⟩ : ByteArray) h HF.out.len HF.out.deep).mono ?_
  rcases hq1 : openP T en (⟨#[123]⟩ : ByteArray) s with ⟨pos, s1⟩ | ⟨cd, ps⟩ | _
  rotate_left
  · rintro e w1 ⟨rfl, u1⟩
    have Q1 := Lib.hid hq1; have V := Lib.hid u1; clear hq1 u1 h
    go_wp2
    refine ⟨rfl, ?_⟩
    simp only [runP, Q1.out, Res.bind_ok, Res.bind_bad, Bool.false_eq_true, reduceIte, putP]
    exact ⟨rfl, (V.out).to (fun k hk => .inl hk)⟩
  · exact fun e w1 h => h.elim
  rintro e w1 ⟨rfl, X1, nv1, h1, u1⟩
  have HF1 := Lib.hid (Fit.open HF.out hq1)
  have Q1 := Lib.hid hq1; clear hq1 h
  have U1 := Lib.hid u1; clear u1
  have HNE : Hid (runP T en n (.blockL pos []) s1 ≠ .out) := Lib.hid (fun e => HN.out (by simp only [runP, Q1.out, Res.bind_ok]; exact e))
  have HI : Hid (BlockInv w X bp la c T en pos n (runP T en n (.blockL pos []) s1) n (.slice none 0 0) w1) := ⟨[], none, 0, s1, X1, nv1, rfl, World.ownsRow_nil _ _ _ _, fun g hg => by simp [Value.ownBlock] at hg, Nat.zero_le _, Nat.le_refl _, h1, U1.out, HF1.out, rfl⟩
  clear h1
  go_wp2_with fail
  go_loopg [4] n (fun m v wr => BlockInv w X bp la c T en pos n (runP T en n (.blockL pos []) s1) m v wr)
  case atStart => exact HI.out
  case round =>
    clear HI U1 HF1
    obtain ⟨kids, ka, kc, sr, Xr, nvr, rfl, hkid, hkx, hkl, hm, hr, ur, fr, er⟩ := hrel
    have ER := Lib.hid er; have HM := Lib.hid hm; have UR := Lib.hid ur; have HFr := Lib.hid fr; have HKX := Lib.hid hkx; have HKL := Lib.hid hkl; have HKI := Lib.hid hkid
    clear er hm ur fr hkx hkl hkid
    obtain ⟨m, rfl⟩ : ∃ m, gk = m + 1 := by
      cases gk with
      | zero => exact absurd ER.out HNE.out
      | succ m => exact ⟨m, rfl⟩
    have H2' := Lib.hid (H2.out m (by have := HM.out; omega))
    cases hb : isP T [(⟨#[125]⟩ : ByteArray)] sr with
    | true =>
      have B1 := Lib.hid hb; clear hb
      go_wp2_with fail
      refine (is_new [(⟨#[125]⟩ : ByteArray)] (by simp) hr).mono ?_
      rw [B1.out]
      rintro e w11 ⟨rfl, h11, u11⟩
      clear hr
      have U11 := Lib.hid u11; clear u11
      go_wp2_with fail
      refine (shut_c (⟨#[125]⟩ : ByteArray) h11 HFr.out.len HFr.out.deep).mono ?_
      rcases hq12 : shutP T en (⟨#[125]⟩ : ByteArray) sr with ⟨u, s12⟩ | ⟨cd, ps⟩ | _
      rotate_left
      · rintro e w12 ⟨rfl, u12⟩
        have Q12 := Lib.hid hq12; have V := Lib.hid (U11.out.trans u12); clear hq12 u12 h11
        go_wp2
        refine ⟨rfl, ?_⟩
        simp only [runP, Q1.out, ER.out, B1.out, Q12.out, Res.bind_ok, Res.bind_bad, Bool.false_eq_true, reduceIte, putP]
        exact ⟨rfl, (UR.out.trans V.out).to (fun k hk => .inl hk)⟩
      · exact fun e w12 h => h.elim
      rintro e w12 ⟨rfl, X12, nv12, h12, u12⟩
      have HF12 := Lib.hid (Fit.shut HFr.out hq12)
      have Q12 := Lib.hid hq12; clear hq12 h11
      have U12 := Lib.hid (U11.out.trans u12); clear u12
      have hk2 : KidsAt w12 (.slice ka kids.length kc) kids := U12.out.ownsRow HKI.out (fun g hg => (HKX.out g hg).1)
      have hx2 : ∀ g, (Value.slice ka kids.length kc).ownBlock = some g → ¬ X12 g ∧ bp ≤ g := fun g hg => ⟨U12.out.notIn (HKI.out.lt g hg).2 (HKX.out g hg).1, by have := (HKX.out g hg).2; have := HBP.out; omega⟩
      have HK2 := Lib.hid hk2; have HX2 := Lib.hid hx2; clear hk2 hx2
      go_wp2_with fail
      refine (put_c 5 _ _ _ _ kids h12 HK2.out HX2.out HF12.out.1).mono ?_
      rintro e wz ⟨rfl, Xz, nvz, hz, uz⟩
      have HP := Lib.hid hz
      have UZ : Hid (Upd w X wz Xz) := by
        have u0 := UR.out.trans U12.out
        refine Lib.hid ⟨uz.os.trans u0.os, uz.tape.trans u0.tape, uz.output.trans u0.output, Nat.le_trans u0.size uz.size, fun k hk hx => (uz.block k (by have := u0.size; omega) ?_).trans (u0.block k hk hx), fun k hk => ?_⟩
        · rintro (e | e)
          · rcases u0.sub k e with h1 | h1
            · exact hx h1
            · omega
          · have := (HKX.out k e).2; omega
        · rcases uz.sub k hk with (e | e) | e
          · exact u0.sub k e
          · exact .inr (HKX.out k e).2
          · exact .inr (Nat.le_trans u0.size e)
      clear h12 hz uz
      go_wp2
      go_ret
      simp only [runP, Q1.out, ER.out, B1.out, Q12.out, Res.bind_ok, Res.bind_bad, Bool.false_eq_true, reduceIte, putP]
      exact ⟨rfl, _, _, HP.out, UZ.out⟩
    | false =>
      have B1 := Lib.hid hb; clear hb
      go_wp2_with fail
      refine (is_new [(⟨#[125]⟩ : ByteArray)] (by simp) hr).mono ?_
      rw [B1.out]
      rintro e w11 ⟨rfl, h11, u11⟩
      clear hr
      have U11 := Lib.hid u11; clear u11
      rcases hq12 : runP T en m .stmt sr with ⟨k, s12⟩ | ⟨cd, ps⟩ | _
      rotate_right
      · exact (HN.out (by simp only [runP, Q1.out, ER.out, B1.out,  hq12, Res.bind_ok, Res.bind_out, Bool.false_eq_true, reduceIte, putP])).elim
      all_goals
        have C12 := H2'.out.stmt _ _ _ sr h11 HFr.out.zero (by rw [hq12]; simp)
        rw [hq12] at C12
        have D12 := Lib.hid C12; clear C12
        go_wp2_with fail
        refine D12.out.mono ?_
      rotate_left
      · rintro e w12 ⟨rfl, u12⟩
        have Q12 := Lib.hid hq12; have V := Lib.hid (U11.out.trans u12); clear hq12 u12 h11
        go_wp2
        refine ⟨rfl, ?_⟩
        simp only [runP, Q1.out, ER.out, B1.out, Q12.out, Res.bind_ok, Res.bind_bad, Bool.false_eq_true, reduceIte, putP]
        exact ⟨rfl, (UR.out.trans V.out).to (fun k hk => .inl hk)⟩
      rintro e w12 ⟨rfl, X12, nv12, h12, u12⟩
      have HF12 := Lib.hid (HFr.out.adv (runP_adv _ _ _ _ _ HFr.out.top hq12))
      have Q12 := Lib.hid hq12; clear hq12 h11 D12
      have V12 := Lib.hid u12
      have U12 := Lib.hid (U11.out.trans u12); clear u12
      have hk2 : KidsAt w12 (.slice ka kids.length kc) kids := U12.out.ownsRow HKI.out (fun g hg => (HKX.out g hg).1)
      have hx2 : ∀ g, (Value.slice ka kids.length kc).ownBlock = some g → ¬ X12 g := fun g hg => U12.out.notIn (HKI.out.lt g hg).2 (HKX.out g hg).1
      have HX2 := Lib.hid hx2; clear hx2
      have hlen : kids.length ≤ 5000 := by have := HKL.out; have := HFr.out.top; have := HFr.out.len; omega
      obtain ⟨i0, hi0, hz0, hz1, hz2⟩ := info_parts Tryz.infoInt
      go_wp2_with (at_builtin; refine wpList_app _ rfl _ _ 30 rfl 3 i0 (.int .i64 0) 1 8 Tryz.underlying30 hi0 hz0 hz1 hz2 rfl (by decide) _ _ _ rfl (hk2.alloc _) ⟨w12.heap.size, 0, none⟩ 1 1 [.int .i64 k] rfl rfl ?c1 ?c2 ?c3 ?c4 ?_)
      case c1 => exact news_new w12 _ _
      case c2 => simp [Value.oneCell']
      case c3 => unfold maxLen; omega
      case c4 => omega
      intro v' w1 hown hgrow hv
      obtain ⟨va, vc, rfl⟩ := slice_of_row hown
      have ug : Upd w12 (fun k => (Value.slice ka kids.length kc).ownBlock = some k) w1 (fun k => (Value.slice ka kids.length kc).ownBlock = some k) := ((Upd.refl w12 _).alloc _).grown hgrow (fun k hk => .inl hk)
      have hP2 : PR w1 X12 bp la c T en s12 nv12 := h12.beside ug HX2.out (fun g hg => by have := (HKX.out g hg).2; have := HBP.out; omega)
      have hU2 : Upd w X w1 X12 := by
        have u0 := UR.out.trans U12.out
        exact ⟨ug.os.trans u0.os, ug.tape.trans u0.tape, ug.output.trans u0.output, Nat.le_trans u0.size ug.size, fun k hk hx => (ug.block k (by have := u0.size; omega) (fun e => by have := (HKX.out k e).2; omega)).trans (u0.block k hk hx), u0.sub⟩
      have hs' : (w12.alloc (.cells #[.int .i64 k] 3)).heap.size = w12.heap.size + 1 := by simp
      have hvx : ∀ g, (Value.slice va (kids.length + 1) vc).ownBlock = some g → ¬ X12 g ∧ w.heap.size ≤ g := fun g hg => by
        rcases hv g hg with h1 | h1
        · exact ⟨HX2.out g h1, (HKX.out g h1).2⟩
        · have := (UR.out.trans U12.out).size
          exact ⟨fun e => by have := h12.high _ e; omega, by omega⟩
      have HP := Lib.hid hP2; have HU := Lib.hid hU2; have HVX := Lib.hid hvx; have HO := Lib.hid hown
      clear hP2 hU2 hvx hown hgrow hv ug hs' h12 hlen hk2
      go_wp2
      go_roundg m
      case rel =>
        refine ⟨kids ++ [k], va, vc, _, _, _, by simp, ?_, HVX.out, ?_, by have := HM.out; omega, HP.out, HU.out, HF12.out, ?_⟩
        · have := HO.out
          simpa [KidsAt] using this
        · have := HKL.out
          have := (runP_adv _ _ _ _ _ HFr.out.top Q12.out).le
          simp [Nt.gain] at this ⊢
          omega
        · rw [ER.out]; simp only [runP, B1.out, reduceIte, Bool.false_eq_true, Q12.out, Res.bind_ok]
      case measure => omega

end
end Go.Proofs.YtaklephcgepfjaaGreatDoor
