/- The reference's parser: node, name, Level. (Written by wip/tools/gen_ref3.py.) -/
import Derived.Test.YtaklephcgepfjaaGreatDoorJoinA1
import Derived.Test.YtaklephcgepfjaaGreatDoorJoinA2
import Derived.Deep.RegionLaw
import Derived.Deep.LoopGhost
set_option linter.unusedVariables false
set_option linter.unusedSimpArgs false
set_option linter.all false

namespace Go.Proofs.YtaklephcgepfjaaGreatDoor
open Go.RowKit

/-- What node leaves. -/
theorem rput_left {w w1 : World} {X : Nat → Prop} {bp : Nat} {la : Option Addr} {c : Nat} {T : List Tk} {en : Int} {s : RS} {nv kv v' : Value} {nd : Nd} {kvs : List Value} {o : Obj}
    (h : RP w X bp la c T en s nv) (hk' : KidsAt w kv nd.kids) (hkx : ∀ g, kv.ownBlock = some g → ¬ X g ∧ bp ≤ g)
    (k1 : kvs.length = s.nodes.length) (k3 : ∀ g, nv.ownBlock = some g → X g ∧ g ≠ bp)
    (k4 : ∀ (j : Nat) (n : Nd) (kv : Value), s.nodes[j]? = some n → kvs[j]? = some kv → KidsAt w kv n.kids ∧ ∀ g, kv.ownBlock = some g → X g ∧ g ≠ bp ∧ nv.ownBlock ≠ some g)
    (hown : w1.ownsRow 0 57 5 v' (s.nodes.length + 1) (ndRow s.nodes kvs ++ ndCells nd kv)) (hgrow : (w.alloc o).grownBy w1 nv.ownBlock)
    (hv : ∀ k, v'.ownBlock = some k → nv.ownBlock = some k ∨ (w.alloc o).heap.size ≤ k) :
    RP (w1.setCell ⟨bp, 4, none⟩ v') (fun k => X k ∨ kv.ownBlock = some k ∨ v'.ownBlock = some k) bp la c T en { s with nodes := s.nodes ++ [nd] } v' ∧
      Upd w (fun k => X k ∨ kv.ownBlock = some k) (w1.setCell ⟨bp, 4, none⟩ v') (fun k => X k ∨ kv.ownBlock = some k ∨ v'.ownBlock = some k) := by
  have u1 : Upd w (fun k => nv.ownBlock = some k) w1 (fun k => nv.ownBlock = some k) := ((Upd.refl w _).alloc o).grown hgrow (fun k hk => .inl hk)
  have hs : (w.alloc o).heap.size = w.heap.size + 1 := by simp
  have hbp := h.lt
  have hnb : ¬ nv.ownBlock = some bp := fun e => (k3 bp e).2 rfl
  have hvb : ¬ v'.ownBlock = some bp := fun e => by
    rcases hv bp e with h1 | h1
    · exact hnb h1
    · omega
  have b1 : w1.heap[bp]? = _ := u1.keep h.blk hnb
  have u2 : Upd w (fun k => X k ∨ kv.ownBlock = some k) (w1.setCell ⟨bp, 4, none⟩ v') (fun k => X k ∨ kv.ownBlock = some k ∨ v'.ownBlock = some k) :=
    ((u1.more (Y := fun k => X k ∨ kv.ownBlock = some k) (fun k hk => .inl (k3 k hk).1)).setCell (a := ⟨bp, 4, none⟩) (.inl (.inl h.inX)) v').to (fun k hk => by
      rcases hk with hk | hk | hk
      · exact .inl (.inl hk)
      · exact .inl (.inr hk)
      · rcases hv k hk with h1 | h1
        · exact .inl (.inl (k3 k h1).1)
        · exact .inr (by omega))
  have hkv : ∀ g, kv.ownBlock = some g → ¬ v'.ownBlock = some g := fun g hg e => by
    rcases hv g e with h1 | h1
    · exact (hkx g hg).1 (k3 g h1).1
    · have := (hk'.lt g hg).2; omega
  have hrow : ∀ {v : Value} {l : List Int}, KidsAt w v l → (∀ g, v.ownBlock = some g → g ≠ bp ∧ ¬ nv.ownBlock = some g) → KidsAt (w1.setCell ⟨bp, 4, none⟩ v') v l := fun {v l} hh hg => by
    have a1 := u1.ownsRow hh (fun g e => (hg g e).2)
    exact ((Upd.refl w1 (fun k => k = bp)).setCell (a := ⟨bp, 4, none⟩) (.inl rfl) v').ownsRow a1 (fun g e => (hg g e).1)
  have hlow : ∀ k, (X k ∨ kv.ownBlock = some k ∨ v'.ownBlock = some k) → bp ≤ k := fun k hk => by
    rcases hk with hk | hk | hk
    · exact h.low k hk
    · exact (hkx k hk).2
    · rcases hv k hk with h1 | h1
      · exact h.low k (k3 k h1).1
      · omega
  have hhigh : ∀ k, (X k ∨ kv.ownBlock = some k ∨ v'.ownBlock = some k) → k < (w1.setCell ⟨bp, 4, none⟩ v').heap.size := fun k hk => by
    have hs2 : (w1.setCell ⟨bp, 4, none⟩ v').heap.size = w1.heap.size := by simp
    have hs1 := u1.size
    rcases hk with hk | hk | hk
    · have := h.high k hk; omega
    · have := (hk'.lt k hk).2; omega
    · have := (hown.lt k hk).2; omega
  refine ⟨⟨.inl h.inX, hlow, hhigh, by rw [blk_setCell b1]; rfl, h.toks.upd u2 (fun k hk hx => ?_), kvs ++ [kv], by simp [k1], ?_, ?_, ?_⟩, u2⟩
  · rcases hx with hx | hx
    · have := h.low k hx; omega
    · have := (hkx k hx).2; omega
  · have := ((Upd.refl w1 (fun k => k = bp)).setCell (a := ⟨bp, 4, none⟩) (.inl rfl) v').ownsRow hown (fun g e e' => hvb (e' ▸ e))
    simpa [ndRow_snoc _ _ _ _ k1] using this
  · exact fun g hg => ⟨.inr (.inr hg), fun e => hvb (e ▸ hg)⟩
  · intro j n kv' hn hkv'
    rcases Nat.lt_or_ge j s.nodes.length with hj | hj
    · rw [List.getElem?_append_left hj] at hn
      rw [List.getElem?_append_left (by omega)] at hkv'
      obtain ⟨a1, a2⟩ := k4 j n kv' hn hkv'
      refine ⟨hrow a1 (fun g e => ⟨(a2 g e).2.1, (a2 g e).2.2⟩), fun g e => ⟨.inl (a2 g e).1, (a2 g e).2.1, fun e' => ?_⟩⟩
      rcases hv g e' with h1 | h1
      · exact (a2 g e).2.2 h1
      · have := (a1.lt g e).2; omega
    · have hj' : j = s.nodes.length := by
        have := (List.getElem?_eq_some_iff.1 hn).1
        simp at this; omega
      subst hj'
      simp at hn
      rw [← k1] at hkv'
      simp at hkv'
      subst hn hkv'
      refine ⟨hrow hk' (fun g e => ⟨fun e' => (hkx g e).1 (e' ▸ h.inX), fun e' => (hkx g e).1 (k3 g e').1⟩), fun g e => ⟨.inr (.inl e), fun e' => (hkx g e).1 (e' ▸ h.inX), fun e' => hkv g e e'⟩⟩

section
variable {w : World} {X : Nat → Prop} {bp : Nat} {la : Option Addr} {c : Nat} {T : List Tk} {en : Int} {s : RS} {nv : Value}

set_option maxRecDepth 100000 in
set_option maxHeartbeats 2000000 in
/-- node -/
theorem rnode_c (kind num pos : Int) (text : ByteArray) (kv : Value) (kids : List Int) (h : RP w X bp la c T en s nv) (hk : KidsAt w kv kids) (hkx : ∀ g, kv.ownBlock = some g → ¬ X g ∧ bp ≤ g) (hl : s.nodes.length ≤ 1000000) :
    Calls Tryz.prog 24 #[.pointer (some ⟨bp, 0, none⟩), .agg #[.int .i64 kind, .int .i64 num, .int .i64 pos, .string text, kv]] w fun e w' => e = .returned (.int .i64 s.nodes.length) ∧
      ∃ X' nv', RP w' X' bp la c T en (nodeR ⟨kind, num, pos, text, kids⟩ s) nv' ∧ Upd w (fun k => X k ∨ kv.ownBlock = some k) w' X' := by
  obtain ⟨i0, hi, hz0, hz1, hz2⟩ := info_parts Tryz.infoNode
  have HI0 := Lib.hid (And.intro hi (And.intro hz0 (And.intro hz1 hz2))); clear hi hz0 hz1 hz2
  obtain ⟨ka, kc, rfl⟩ := slice_of_row hk
  obtain ⟨m, hm⟩ : ∃ m, m = kids.length := ⟨_, rfl⟩
  have HM := Lib.hid hm
  rw [← hm] at hk hkx
  rw [← hm]
  clear hm
  have HH := Lib.hid h; have HK := Lib.hid hk; have HX := Lib.hid hkx
  have HL := Lib.hid hl
  clear h hk hkx
  go_enter Tryz.func24, Tryz.ntmps24
  go_upto_region 1 with (fail)
  obtain ⟨B, hB⟩ : ∃ B, B = w.heap.size := ⟨_, rfl⟩
  rw [← hB]
  refine wp_gen (fun W => RP W X bp la c T en s nv ∧ KidsAt W (.slice ka m kc) kids ∧ Upd w NO W NO ∧ W.heap[B]? = some (.cells #[.int .i64 kind, .int .i64 num, .int .i64 pos, .string text, .slice ka m kc] 57 (0, 0))) ⟨HH.out.alloc _, by
    have := ((Upd.refl w NO).alloc (.cells #[.int .i64 kind, .int .i64 num, .int .i64 pos, .string text, .slice ka m kc] 57)).ownsRow HK.out (fun _ _ => id)
    exact this, (Upd.refl w NO).alloc _, blk_new hB⟩ ?_
  have HB := Lib.hid hB
  clear hB
  rintro W ⟨h, hk, hu, hb⟩
  have h4 := h.c4
  have f4 := h.free 4
  have hbp := h.lt
  have b0 : W.cell? ⟨B, 0, none⟩ = some (.int .i64 kind) := cell_blk hb
  have b1 : W.cell? ⟨B, 1, none⟩ = some (.int .i64 num) := cell_blk hb
  have b2 : W.cell? ⟨B, 2, none⟩ = some (.int .i64 pos) := cell_blk hb
  have b3 : W.cell? ⟨B, 3, none⟩ = some (.string text) := cell_blk hb
  have b4 : W.cell? ⟨B, 4, none⟩ = some (.slice ka m kc) := cell_blk hb
  have c4 : ∀ o, (W.alloc o).cell? ⟨bp, 4, none⟩ = some nv := fun o => (h.alloc o).c4
  have HKX : Hid (∀ g, (Value.slice ka m kc).ownBlock = some g → ¬ X g ∧ bp ≤ g) := HX
  have HP := Lib.hid h; have HKW := Lib.hid hk; have HU := Lib.hid hu
  obtain ⟨kvs, k1, k2, k3, k4⟩ := h.nodes
  have K1 := Lib.hid k1; have K2 := Lib.hid k2; have K3 := Lib.hid k3; have K4 := Lib.hid k4
  have F4 := Lib.hid f4; have H4 := Lib.hid h4; have HBP := Lib.hid hbp
  obtain ⟨n, hn⟩ : ∃ n, n = s.nodes.length := ⟨_, rfl⟩
  have HN := Lib.hid hn
  rw [← hn] at K2 HL
  have HE : Hid (Ending.returned (.int .i64 (n : Int)) = Ending.returned (.int .i64 (s.nodes.length : Int))) := Lib.hid (by rw [hn])
  clear hn
  clear h hk hu hb k1 k2 k3 k4 f4 hbp hl
  refine wp_region_any (by kernel_rfl) ?_
  change wpAny _ _ _ _ _ _ _ (World.drew _)
  refine wpAny_take (i := 0) (v := .pointer (some ⟨bp, 0, none⟩)) rfl (by kernel_rfl) (by kernel_rfl) (by kernel_rfl) (fun _ _ _ h => h) (Or.inl ⟨by rfl, fun w => ?_⟩) ?_
  · first | rfl | go_simp
  refine wpAny_take (i := 1) (v := .pointer (some ⟨bp, 0, none⟩)) rfl (by kernel_rfl) (by kernel_rfl) (by kernel_rfl) (fun _ _ _ h => h) (Or.inl ⟨by rfl, fun w => ?_⟩) ?_
  · first | rfl | go_simp
  refine wpAny_take (i := 2) (v := .pointer (some ⟨bp, 0, none⟩)) rfl (by kernel_rfl) (by kernel_rfl) (by kernel_rfl) (fun _ _ _ h => h) (Or.inl ⟨by rfl, fun w => ?_⟩) ?_
  · first | rfl | go_simp
  refine wpAny_take (i := 3) (v := .pointer (some ⟨bp, 4, none⟩)) rfl (by kernel_rfl) (by kernel_rfl) (by kernel_rfl) (fun _ _ _ h => h) (Or.inl ⟨by rfl, fun w => ?_⟩) ?_
  · first | rfl | go_simp
  refine wpAny_ready (rs := [4, 5]) (by kernel_rfl) (by simp) (AllReady.cons rfl (fun K hK => ?_) (AllReady.cons rfl (fun K hK => ?_) AllReady.nil))
  · go_simp
    refine hK _ _ ?_
    clear hK K
    refine wpAny_ready (rs := [5]) (by kernel_rfl) (by simp) (AllReady.cons rfl (fun K hK => ?_) AllReady.nil)
    go_simp
    refine hK _ _ ?_
    clear hK K
    refine wpAny_ready (rs := [6]) (by kernel_rfl) (by simp) (AllReady.cons rfl (fun K hK => ?_) AllReady.nil)
    go_simp
    refine hK _ _ ?_
    clear hK K
    refine wpAny_ready (rs := [7]) (by kernel_rfl) (by simp) (AllReady.cons rfl (fun K hK => ?_) AllReady.nil)
    refine step_app (size := 5) (bytes := 64) rfl (.tmp 9) (.tmp 11) 22 rfl 57 i0 (.agg #[.int .i64 0, .int .i64 0, .int .i64 0, .string ⟨#[]⟩, .slice none 0 0]) Tryz.underlying22 HI0.out.1 HI0.out.2.1 HI0.out.2.2.1 HI0.out.2.2.2 rfl (by decide) nv n (ndRow s.nodes kvs) rfl (K2.out.drew.alloc _) ⟨W.heap.size, 0, none⟩ 1 1 [.int .i64 kind, .int .i64 num, .int .i64 pos, .string text, .slice ka m kc] rfl rfl (news_new W.drew [.int .i64 kind, .int .i64 num, .int .i64 pos, .string text, .slice ka m kc] _) (by simp [Value.oneCell']) (by have := HL.out; unfold maxLen; omega) (by have := HL.out; omega) ?_
    intro v2 W2 a1 a2 a3
    obtain ⟨va, vc, rfl⟩ := slice_of_row a1
    have u1 := ((Upd.refl W.drew (fun k => k ≠ bp)).alloc (.cells #[.int .i64 kind, .int .i64 num, .int .i64 pos, .string text, .slice ka m kc] 57)).grown a2 (fun k hk => .inl (K3.out k hk).2)
    have d4 : W2.cell? ⟨bp, 4, none⟩ = some nv := by rw [u1.cell (a := ⟨bp, 4, none⟩) HBP.out (by simp)]; exact H4.out
    have g4 : W2.frozen? ⟨bp, 4, none⟩ = false := by rw [u1.frozen (a := ⟨bp, 4, none⟩) HBP.out (by simp)]; exact F4.out
    have HA := Lib.hid (And.intro a1 (And.intro a2 a3))
    clear a1 a2 a3 u1
    refine hK _ _ ?_
    clear hK K
    refine wpAny_ready (rs := [8]) (by kernel_rfl) (by simp) (AllReady.cons rfl (fun K hK => ?_) AllReady.nil)
    go_simp
    refine hK _ _ ?_
    clear hK K
    refine wpAny_ready (rs := [9]) (by kernel_rfl) (by simp) (AllReady.cons rfl (fun K hK => ?_) AllReady.nil)
    go_simp
    refine hK _ _ ?_
    clear hK K
    refine wpAny_ready (rs := [10]) (by kernel_rfl) (by simp) (AllReady.cons rfl (fun K hK => ?_) AllReady.nil)
    go_simp
    refine hK _ _ ?_
    clear hK K
    refine wpAny_done (by kernel_rfl) ?_ _
    have R := rput_left (nd := ⟨kind, num, pos, text, kids⟩) (kv := .slice ka m kc) HP.out.drew (HKW.out) (HX.out) K1.out K3.out K4.out (by have h0 := HA.out.1; generalize (Value.slice va (n + 1) vc) = v3 at h0 ⊢; rw [HN.out] at h0; exact h0) HA.out.2.1 HA.out.2.2
    have R2 : RP (W2.setCell ⟨bp, 4, none⟩ (.slice va (n + 1) vc)) (fun k => X k ∨ (Value.slice ka m kc).ownBlock = some k ∨ (Value.slice va (n + 1) vc).ownBlock = some k) bp la c T en (nodeR ⟨kind, num, pos, text, kids⟩ s) (.slice va (n + 1) vc) ∧ Upd w (fun k => X k ∨ (Value.slice ka m kc).ownBlock = some k) (W2.setCell ⟨bp, 4, none⟩ (.slice va (n + 1) vc)) (fun k => X k ∨ (Value.slice ka m kc).ownBlock = some k ∨ (Value.slice va (n + 1) vc).ownBlock = some k) :=
      ⟨R.1, HU.out.drew.behind R.2⟩
    have HR := Lib.hid R2
    clear R R2
    refine rnorm (fun W' => ∃ va vc X', RP W' X' bp la c T en (nodeR ⟨kind, num, pos, text, kids⟩ s) (.slice va (n + 1) vc) ∧ Upd w (fun k => X k ∨ (Value.slice ka m kc).ownBlock = some k) W' X') ⟨va, vc, _, HR.out.1, HR.out.2⟩ ?_
    clear HR HA d4 g4 b0 b1 b2 b3 b4 c4 h4
    as_aux_lemma =>
    rintro W5 ⟨va, vc, X5, h5, u5⟩
    have H5 := Lib.hid h5; have U5 := Lib.hid u5
    have d4 := h5.c4
    have hl5 : n ≤ 1000000 := HL.out
    clear h5 u5
    go_wp2
    go_ret
    exact ⟨HE.out, _, _, H5.out, U5.out⟩
  · go_simp
    refine hK _ _ ?_
    clear hK K
    refine wpAny_ready (rs := [4, 6]) (by kernel_rfl) (by simp) (AllReady.cons rfl (fun K hK => ?_) (AllReady.cons rfl (fun K hK => ?_) AllReady.nil))
    · go_simp
      refine hK _ _ ?_
      clear hK K
      refine wpAny_ready (rs := [6]) (by kernel_rfl) (by simp) (AllReady.cons rfl (fun K hK => ?_) AllReady.nil)
      go_simp
      refine hK _ _ ?_
      clear hK K
      refine wpAny_ready (rs := [7]) (by kernel_rfl) (by simp) (AllReady.cons rfl (fun K hK => ?_) AllReady.nil)
      refine step_app (size := 5) (bytes := 64) rfl (.tmp 9) (.tmp 11) 22 rfl 57 i0 (.agg #[.int .i64 0, .int .i64 0, .int .i64 0, .string ⟨#[]⟩, .slice none 0 0]) Tryz.underlying22 HI0.out.1 HI0.out.2.1 HI0.out.2.2.1 HI0.out.2.2.2 rfl (by decide) nv n (ndRow s.nodes kvs) rfl (K2.out.drew.alloc _) ⟨W.heap.size, 0, none⟩ 1 1 [.int .i64 kind, .int .i64 num, .int .i64 pos, .string text, .slice ka m kc] rfl rfl (news_new W.drew [.int .i64 kind, .int .i64 num, .int .i64 pos, .string text, .slice ka m kc] _) (by simp [Value.oneCell']) (by have := HL.out; unfold maxLen; omega) (by have := HL.out; omega) ?_
      intro v2 W2 a1 a2 a3
      obtain ⟨va, vc, rfl⟩ := slice_of_row a1
      have u1 := ((Upd.refl W.drew (fun k => k ≠ bp)).alloc (.cells #[.int .i64 kind, .int .i64 num, .int .i64 pos, .string text, .slice ka m kc] 57)).grown a2 (fun k hk => .inl (K3.out k hk).2)
      have d4 : W2.cell? ⟨bp, 4, none⟩ = some nv := by rw [u1.cell (a := ⟨bp, 4, none⟩) HBP.out (by simp)]; exact H4.out
      have g4 : W2.frozen? ⟨bp, 4, none⟩ = false := by rw [u1.frozen (a := ⟨bp, 4, none⟩) HBP.out (by simp)]; exact F4.out
      have HA := Lib.hid (And.intro a1 (And.intro a2 a3))
      clear a1 a2 a3 u1
      refine hK _ _ ?_
      clear hK K
      refine wpAny_ready (rs := [8]) (by kernel_rfl) (by simp) (AllReady.cons rfl (fun K hK => ?_) AllReady.nil)
      go_simp
      refine hK _ _ ?_
      clear hK K
      refine wpAny_ready (rs := [9]) (by kernel_rfl) (by simp) (AllReady.cons rfl (fun K hK => ?_) AllReady.nil)
      go_simp
      refine hK _ _ ?_
      clear hK K
      refine wpAny_ready (rs := [10]) (by kernel_rfl) (by simp) (AllReady.cons rfl (fun K hK => ?_) AllReady.nil)
      go_simp
      refine hK _ _ ?_
      clear hK K
      refine wpAny_done (by kernel_rfl) ?_ _
      have R := rput_left (nd := ⟨kind, num, pos, text, kids⟩) (kv := .slice ka m kc) HP.out.drew (HKW.out) (HX.out) K1.out K3.out K4.out (by have h0 := HA.out.1; generalize (Value.slice va (n + 1) vc) = v3 at h0 ⊢; rw [HN.out] at h0; exact h0) HA.out.2.1 HA.out.2.2
      have R2 : RP (W2.setCell ⟨bp, 4, none⟩ (.slice va (n + 1) vc)) (fun k => X k ∨ (Value.slice ka m kc).ownBlock = some k ∨ (Value.slice va (n + 1) vc).ownBlock = some k) bp la c T en (nodeR ⟨kind, num, pos, text, kids⟩ s) (.slice va (n + 1) vc) ∧ Upd w (fun k => X k ∨ (Value.slice ka m kc).ownBlock = some k) (W2.setCell ⟨bp, 4, none⟩ (.slice va (n + 1) vc)) (fun k => X k ∨ (Value.slice ka m kc).ownBlock = some k ∨ (Value.slice va (n + 1) vc).ownBlock = some k) :=
        ⟨R.1, HU.out.drew.behind R.2⟩
      have HR := Lib.hid R2
      clear R R2
      refine rnorm (fun W' => ∃ va vc X', RP W' X' bp la c T en (nodeR ⟨kind, num, pos, text, kids⟩ s) (.slice va (n + 1) vc) ∧ Upd w (fun k => X k ∨ (Value.slice ka m kc).ownBlock = some k) W' X') ⟨va, vc, _, HR.out.1, HR.out.2⟩ ?_
      clear HR HA d4 g4 b0 b1 b2 b3 b4 c4 h4
      as_aux_lemma =>
      rintro W5 ⟨va, vc, X5, h5, u5⟩
      have H5 := Lib.hid h5; have U5 := Lib.hid u5
      have d4 := h5.c4
      have hl5 : n ≤ 1000000 := HL.out
      clear h5 u5
      go_wp2
      go_ret
      exact ⟨HE.out, _, _, H5.out, U5.out⟩
    · go_simp
      refine hK _ _ ?_
      clear hK K
      refine wpAny_ready (rs := [4]) (by kernel_rfl) (by simp) (AllReady.cons rfl (fun K hK => ?_) AllReady.nil)
      go_simp
      refine hK _ _ ?_
      clear hK K
      refine wpAny_ready (rs := [7]) (by kernel_rfl) (by simp) (AllReady.cons rfl (fun K hK => ?_) AllReady.nil)
      refine step_app (size := 5) (bytes := 64) rfl (.tmp 9) (.tmp 11) 22 rfl 57 i0 (.agg #[.int .i64 0, .int .i64 0, .int .i64 0, .string ⟨#[]⟩, .slice none 0 0]) Tryz.underlying22 HI0.out.1 HI0.out.2.1 HI0.out.2.2.1 HI0.out.2.2.2 rfl (by decide) nv n (ndRow s.nodes kvs) rfl (K2.out.drew.alloc _) ⟨W.heap.size, 0, none⟩ 1 1 [.int .i64 kind, .int .i64 num, .int .i64 pos, .string text, .slice ka m kc] rfl rfl (news_new W.drew [.int .i64 kind, .int .i64 num, .int .i64 pos, .string text, .slice ka m kc] _) (by simp [Value.oneCell']) (by have := HL.out; unfold maxLen; omega) (by have := HL.out; omega) ?_
      intro v2 W2 a1 a2 a3
      obtain ⟨va, vc, rfl⟩ := slice_of_row a1
      have u1 := ((Upd.refl W.drew (fun k => k ≠ bp)).alloc (.cells #[.int .i64 kind, .int .i64 num, .int .i64 pos, .string text, .slice ka m kc] 57)).grown a2 (fun k hk => .inl (K3.out k hk).2)
      have d4 : W2.cell? ⟨bp, 4, none⟩ = some nv := by rw [u1.cell (a := ⟨bp, 4, none⟩) HBP.out (by simp)]; exact H4.out
      have g4 : W2.frozen? ⟨bp, 4, none⟩ = false := by rw [u1.frozen (a := ⟨bp, 4, none⟩) HBP.out (by simp)]; exact F4.out
      have HA := Lib.hid (And.intro a1 (And.intro a2 a3))
      clear a1 a2 a3 u1
      refine hK _ _ ?_
      clear hK K
      refine wpAny_ready (rs := [8]) (by kernel_rfl) (by simp) (AllReady.cons rfl (fun K hK => ?_) AllReady.nil)
      go_simp
      refine hK _ _ ?_
      clear hK K
      refine wpAny_ready (rs := [9]) (by kernel_rfl) (by simp) (AllReady.cons rfl (fun K hK => ?_) AllReady.nil)
      go_simp
      refine hK _ _ ?_
      clear hK K
      refine wpAny_ready (rs := [10]) (by kernel_rfl) (by simp) (AllReady.cons rfl (fun K hK => ?_) AllReady.nil)
      go_simp
      refine hK _ _ ?_
      clear hK K
      refine wpAny_done (by kernel_rfl) ?_ _
      have R := rput_left (nd := ⟨kind, num, pos, text, kids⟩) (kv := .slice ka m kc) HP.out.drew (HKW.out) (HX.out) K1.out K3.out K4.out (by have h0 := HA.out.1; generalize (Value.slice va (n + 1) vc) = v3 at h0 ⊢; rw [HN.out] at h0; exact h0) HA.out.2.1 HA.out.2.2
      have R2 : RP (W2.setCell ⟨bp, 4, none⟩ (.slice va (n + 1) vc)) (fun k => X k ∨ (Value.slice ka m kc).ownBlock = some k ∨ (Value.slice va (n + 1) vc).ownBlock = some k) bp la c T en (nodeR ⟨kind, num, pos, text, kids⟩ s) (.slice va (n + 1) vc) ∧ Upd w (fun k => X k ∨ (Value.slice ka m kc).ownBlock = some k) (W2.setCell ⟨bp, 4, none⟩ (.slice va (n + 1) vc)) (fun k => X k ∨ (Value.slice ka m kc).ownBlock = some k ∨ (Value.slice va (n + 1) vc).ownBlock = some k) :=
        ⟨R.1, HU.out.drew.behind R.2⟩
      have HR := Lib.hid R2
      clear R R2
      refine rnorm (fun W' => ∃ va vc X', RP W' X' bp la c T en (nodeR ⟨kind, num, pos, text, kids⟩ s) (.slice va (n + 1) vc) ∧ Upd w (fun k => X k ∨ (Value.slice ka m kc).ownBlock = some k) W' X') ⟨va, vc, _, HR.out.1, HR.out.2⟩ ?_
      clear HR HA d4 g4 b0 b1 b2 b3 b4 c4 h4
      as_aux_lemma =>
      rintro W5 ⟨va, vc, X5, h5, u5⟩
      have H5 := Lib.hid h5; have U5 := Lib.hid u5
      have d4 := h5.c4
      have hl5 : n ≤ 1000000 := HL.out
      clear h5 u5
      go_wp2
      go_ret
      exact ⟨HE.out, _, _, H5.out, U5.out⟩
end

end Go.Proofs.YtaklephcgepfjaaGreatDoor

/- The reference's parser: name, Level. -/
namespace Go.Proofs.YtaklephcgepfjaaGreatDoor
open Go.RowKit

theorem rlevel_c (x : ByteArray) (w : World) : Calls Tryz.prog 109 #[.string x] w fun e w' => e = .returned (.int .i64 (levelR x)) ∧ w = w' := by
  have key : ∀ r : Int, (levelR x = r) → Calls Tryz.prog 109 #[.string x] w fun e w' => e = .returned (.int .i64 r) ∧ w = w' := by
    intro r hr
    have HR := Lib.hid hr; clear hr
    go_enter Tryz.func109, Tryz.ntmps109
    go_wp2
    all_goals
      go_ret
      refine ⟨ret_int ?_, rfl⟩
      rw [← HR.out]
      simp only [txt_eq, decide_eq_true_eq, decide_eq_false_iff_not] at *
      first
        | (exfalso; simp_all; done)
        | simp_all [levelR, memB]
  exact key _ rfl

section
variable {w : World} {X : Nat → Prop} {bp : Nat} {la : Option Addr} {c : Nat} {T : List Tk} {en : Int} {s : RS} {nv : Value}

theorem toks_cells (h : RP w X bp la c T en s nv) {t : Tk} (ht : T[s.i]? = some t) : ∃ bl, la = some ⟨bl, 0, none⟩ ∧ w.cell? ⟨bl, s.i * 4, none⟩ = some (.int .i64 t.kind) ∧ w.cell? ⟨bl, s.i * 4 + 1, none⟩ = some (.int .i64 t.num) ∧
    w.cell? ⟨bl, s.i * 4 + 2, none⟩ = some (.int .i64 t.pos) ∧ w.cell? ⟨bl, s.i * 4 + 3, none⟩ = some (.string t.text) := by
  obtain ⟨bl, h1, _, _, h2⟩ := h.toks s.i t ht
  exact ⟨bl, h1, h2⟩

set_option maxRecDepth 100000 in
set_option maxHeartbeats 1000000 in
/-- name -/
theorem rname_c (h : RP w X bp la c T en s nv) (hn : T.length ≤ 5000) :
    Calls Tryz.prog 41 #[.pointer (some ⟨bp, 0, none⟩)] w fun e w' => e = .returned (.string (nameT T s)) ∧ RP w' X bp la c T en (nameR T en s) nv ∧ Upd w X w' X := by
  have HX := Lib.hid h.inX
  have HH := Lib.hid h
  cases ht : T[s.i]? with
  | none =>
    have hk : kindR T 1 s = false := by simp only [kindR, ht]
    have hr : nameR T en s = failR T en 5 s := by simp [nameR, hk]
    have hv : nameT T s = ByteArray.empty := by simp [nameT, hk]
    have hi : T.length ≤ s.i := List.getElem?_eq_none_iff.1 ht
    rw [hr, hv]
    have h0 := h.c0
    have h2 := h.c2
    obtain ⟨i, hI⟩ : ∃ i, i = s.i := ⟨_, rfl⟩
    rw [← hI] at h2 hi
    clear hI ht hk hr hv h
    have hd : decide ((i : Int) < (T.length : Int)) = false := by simp; omega
    have hd2 : decide (i < T.length) = false := by simp; omega
    go_enter Tryz.func41, Tryz.ntmps41
    go_upto_region 1 with (fail)
    go_quiet (fail)
    have HF := Lib.hid (rfail_c 5 (HH.out.drewN nq))
    clear h0 h2
    go_wp2_with fail
    refine HF.out.mono ?_
    rintro e w2 ⟨rfl, h2, u2⟩
    have H2 := Lib.hid h2; have U2 := Lib.hid u2
    clear h2 u2 HF
    go_wp2_with fail
    go_ret
    exact ⟨rfl, H2.out, ((Upd.refl w X).drewN _).trans U2.out⟩
  | some t =>
    obtain ⟨bl, rfl, t0, t1, t2, t3⟩ := toks_cells h ht
    have hi : s.i < T.length := (List.getElem?_eq_some_iff.1 ht).1
    have h0 := h.c0
    have h2 := h.c2
    have f2 := h.free 2
    have htk : tokR T s = t := by simp only [tokR, List.getD_eq_getElem?_getD, ht]; rfl
    by_cases hk1 : t.kind = 1
    · have hk : kindR T 1 s = true := by simp [kindR, ht, hk1]
      have hr : nameR T en s = stepR s := by simp [nameR, hk]
      have hv : nameT T s = t.text := by simp [nameT, hk, htk]
      rw [hr, hv]
      rw [hk1] at t0
      have HT := Lib.hid ht
      obtain ⟨i, hI⟩ : ∃ i, i = s.i := ⟨_, rfl⟩
      rw [← hI] at h2 hi t0 t1 t2 t3
      have HI := Lib.hid hI
      clear hI ht hk hr hv htk hk1 h
      have hd : decide ((i : Int) < (T.length : Int)) = true := by simp; omega
      have hd2 : decide (i < T.length) = true := by simp; omega
      go_enter Tryz.func41, Tryz.ntmps41
      go_upto_region 1 with (fail)
      go_quiet (fail)
      generalize hw1 : w.drewN _ = w1
      have HP1 : Hid (RP w1 X bp (some ⟨bl, 0, none⟩) c T en s nv ∧ Upd w X w1 X) := Lib.hid (by rw [← hw1]; exact ⟨HH.out.drewN _, (Upd.refl w X).drewN _⟩)
      clear hw1 h0 h2 f2 t0 t1 t2 t3 HH
      have h2 : w1.cell? ⟨bp, 2, none⟩ = some (.int .i64 i) := by rw [HI.out]; exact HP1.out.1.c2
      have f2 := HP1.out.1.free 2
      go_upto_region 3 with (fail)
      refine wp_gen (fun W => RP W X bp (some ⟨bl, 0, none⟩) c T en (stepR s) nv ∧ Upd w X W X) ⟨by
        have := HP1.out.1.setI (s.i + 1)
        rw [HI.out]
        exact this, HP1.out.2.setCell (a := ⟨bp, 2, none⟩) (.inl HX.out) _⟩ ?_
      clear h2 f2 HP1
      rintro W ⟨hp, hu⟩
      have HP := Lib.hid hp; have HU := Lib.hid hu
      obtain ⟨bl', e', _, _, t0, t1, t2, t3⟩ := hp.toks i t (by rw [HI.out]; exact HT.out)
      obtain rfl : bl = bl' := by injection e' with e'; injection e'
      clear e'
      have h0 := hp.c0
      have h2 : W.cell? ⟨bp, 2, none⟩ = some (.int .i64 ((i : Int) + 1)) := by rw [HI.out]; exact hp.c2
      clear hp hu
      have hi1 : (0 : Int) ≤ (i : Int) := by omega
      have hi2 : (i : Int) < (T.length : Int) := by omega
      have hwr : IntKind.i64.wrap (i : Int) = i := IntWalk.i64_in _ (by omega)
      go_quiet (fail)
      go_wp2_with fail
      go_ret
      exact ⟨rfl, HP.out.drewN _, HU.out.drewN _⟩
    · have hk : kindR T 1 s = false := by simp [kindR, ht, hk1]
      have hr : nameR T en s = failR T en 5 s := by simp [nameR, hk]
      have hv : nameT T s = ByteArray.empty := by simp [nameT, hk]
      rw [hr, hv]
      have hkb : (t.kind == 1) = false := by simp [hk1]
      obtain ⟨i, hI⟩ : ∃ i, i = s.i := ⟨_, rfl⟩
      rw [← hI] at h2 hi t0 t1 t2 t3
      clear hI ht hk hr hv htk hk1 h
      have hd : decide ((i : Int) < (T.length : Int)) = true := by simp; omega
      have hd2 : decide (i < T.length) = true := by simp; omega
      go_enter Tryz.func41, Tryz.ntmps41
      go_upto_region 1 with (fail)
      go_quiet (fail)
      have HF := Lib.hid (rfail_c 5 (HH.out.drewN nq))
      clear h0 h2 f2 t0 t1 t2 t3
      go_wp2_with fail
      refine HF.out.mono ?_
      rintro e w2 ⟨rfl, h2, u2⟩
      have H2 := Lib.hid h2; have U2 := Lib.hid u2
      clear h2 u2 HF
      go_wp2_with fail
      go_ret
      exact ⟨rfl, H2.out, ((Upd.refl w X).drewN _).trans U2.out⟩

end

end Go.Proofs.YtaklephcgepfjaaGreatDoor

/- The reference's parser: what is known of the functions that call each other; held. (Written by wip/tools/gen_ref5.py.) -/
namespace Go.Proofs.YtaklephcgepfjaaGreatDoor
open Go.RowKit

section
variable (bp : Nat) (la : Option Addr) (c : Nat) (T : List Tk) (en : Int)

/-- What a call of one of the five comes to, with n rounds. -/
def RCall (n : Nat) (nt : Nt) (f : FuncId) (args : Array Value) : Prop := ∀ (w : World) (X : Nat → Prop) (nv : Value) (s : RS) (a : Int) (s' : RS),
  RP w X bp la c T en s nv → runR T en n nt s = some (a, s') → s'.nodes.length ≤ 1000000 → Calls Tryz.prog f args w (RDone w X bp la c T en (.int .i64 a) s')

structure RR (n : Nat) : Prop where
  len : T.length ≤ 5000
  num : ∀ t ∈ T, 0 ≤ t.num ∧ t.num ≤ 999999999
  expr : ∀ (k : Nat) (kk : Int), kk = k → k ≤ 5 → RCall bp la c T en n (.expr k) 83 #[.pointer (some ⟨bp, 0, none⟩), .int .i64 kk]
  unary : RCall bp la c T en n .unary 108 #[.pointer (some ⟨bp, 0, none⟩)]
  held : RCall bp la c T en n .held 84 #[.pointer (some ⟨bp, 0, none⟩)]
  block : RCall bp la c T en n .block 23 #[.pointer (some ⟨bp, 0, none⟩)]
  stmt : RCall bp la c T en n .stmt 44 #[.pointer (some ⟨bp, 0, none⟩)]
end

section
variable {bp : Nat} {la : Option Addr} {c : Nat} {T : List Tk} {en : Int}

theorem RR.expr0 {n : Nat} (R : RR bp la c T en n) : RCall bp la c T en n (.expr 0) 83 #[.pointer (some ⟨bp, 0, none⟩), .int .i64 0] := R.expr 0 0 rfl (by omega)

variable {w : World} {X : Nat → Prop} {s : RS} {nv : Value}

/-- kids in a block of their own -/
theorem kids_blk {W : World} {B : Nat} {kids : List Int} (h : W.heap[B]? = some (.cells (kids.map (Value.int .i64)).toArray 3 (0, 0))) (hk : kids.length ≤ 1000) : KidsAt W (.slice (some ⟨B, 0, none⟩) kids.length kids.length) kids :=
  ⟨by simp, .inr ⟨B, kids.length, _, rfl, Nat.zero_le _, h, Nat.le_refl _, by unfold maxLen; omega, by simp, by simp [List.take_of_length_le]⟩⟩

/-- node, without kids -/
theorem rnode_nil (kind num pos : Int) (text : ByteArray) (h : RP w X bp la c T en s nv) (hl : s.nodes.length ≤ 1000000) :
    Calls Tryz.prog 24 #[.pointer (some ⟨bp, 0, none⟩), .agg #[.int .i64 kind, .int .i64 num, .int .i64 pos, .string text, .slice none 0 0]] w
      (RDone w X bp la c T en (.int .i64 s.nodes.length) (nodeR ⟨kind, num, pos, text, []⟩ s)) :=
  (rnode_c kind num pos text (.slice none 0 0) [] h (World.ownsRow_nil _ _ _ _) (fun g hg => by simp [Value.ownBlock] at hg) hl).mono fun _ _ ⟨h1, X', nv', h2, h3⟩ =>
    ⟨h1, X', nv', h2, h3.os, h3.tape, h3.output, h3.size, fun k hk hx => h3.block k hk (by simp [Value.ownBlock, hx]), fun k hk => by simpa [Value.ownBlock] using h3.sub k hk⟩

/-- node, of a slice of kids that is not X's: an update of X, seen from an older world w0 in which the slice's block was not -/
theorem rnode_kids {w0 : World} {X0 : Nat → Prop} (kind num pos : Int) (text : ByteArray) (kv : Value) (kids : List Int) (h : RP w X bp la c T en s nv) (u : Upd w0 X0 w X) (hl : s.nodes.length ≤ 1000000)
    (hk : KidsAt w kv kids) (hkx : ∀ g, kv.ownBlock = some g → ¬ X g ∧ bp ≤ g ∧ w0.heap.size ≤ g) :
    Calls Tryz.prog 24 #[.pointer (some ⟨bp, 0, none⟩), .agg #[.int .i64 kind, .int .i64 num, .int .i64 pos, .string text, kv]] w fun e w' =>
      e = .returned (.int .i64 s.nodes.length) ∧ ∃ X' nv', RP w' X' bp la c T en (nodeR ⟨kind, num, pos, text, kids⟩ s) nv' ∧ Upd w0 X0 w' X' :=
  (rnode_c kind num pos text kv kids h hk (fun g hg => ⟨(hkx g hg).1, (hkx g hg).2.1⟩) hl).mono fun _ _ ⟨h1, X', nv', h2, h3⟩ =>
    ⟨h1, X', nv', h2, (u.to (fun k hk' => hk'.elim (u.sub k) (fun e => .inr (hkx k e).2.2))).trans h3⟩

set_option maxRecDepth 100000 in
/-- held -/
theorem rheld_c (n : Nat) (R : RR bp la c T en n) : RCall bp la c T en (n + 1) .held 84 #[.pointer (some ⟨bp, 0, none⟩)] := by
  intro w X nv s a s' h hq hl
  unfold runR at hq
  obtain ⟨k, s1, q1, hq⟩ := bindR_eq.1 hq
  injection hq with hq
  injection hq with e1 e2
  subst e1 e2
  have hb : s1.nodes.length ≤ 1000000 := by simpa using hl
  have Q1 := Lib.hid q1; have HB := Lib.hid hb
  clear q1 hb hl
  go_enter Tryz.func84, Tryz.ntmps84
  go_wp2_with fail
  refine (ropen_c ((⟨#[40]⟩ : ByteArray)) h R.len).mono ?_
  rintro e w1 ⟨rfl, h1, u1⟩
  clear h
  have U1 := Lib.hid u1; clear u1
  go_wp2_with fail
  refine (R.expr0 _ _ _ _ _ _ h1 Q1.out HB.out).mono ?_
  rintro e w2 ⟨rfl, X2, nv2, h2, u2⟩
  clear h1
  have U2 := Lib.hid (U1.out.trans u2); clear u2
  clear U1
  go_wp2_with fail
  refine (rshut_c ((⟨#[41]⟩ : ByteArray)) h2 R.len).mono ?_
  rintro e w3 ⟨rfl, h3, u3⟩
  clear h2
  have U3 := Lib.hid (U2.out.trans u3); clear u3
  clear U2
  go_wp2_with fail
  go_ret
  exact ⟨rfl, _, _, h3, U3.out⟩

end

end Go.Proofs.YtaklephcgepfjaaGreatDoor

/- The reference's parser: global. (Written by wip/tools/gen_ref6.py.) -/
namespace Go.Proofs.YtaklephcgepfjaaGreatDoor
open Go.RowKit

section
variable {bp : Nat} {la : Option Addr} {c : Nat} {T : List Tk} {en : Int}

theorem numR_yes {s : RS} {t : Tk} (ht : T[s.i]? = some t) (hk : t.kind = 3) : numR T en s = stepR s ∧ numT T s = t.num := by
  have h1 : kindR T 3 s = true := by simp [kindR, ht, hk]
  have h2 : tokR T s = t := by simp only [tokR, List.getD_eq_getElem?_getD, ht]; rfl
  simp [numR, numT, h1, h2]
theorem numR_no {s : RS} {t : Tk} (ht : T[s.i]? = some t) (hk : t.kind ≠ 3) : numR T en s = failR T en 5 s ∧ numT T s = 0 := by
  have h1 : kindR T 3 s = false := by simp [kindR, ht, hk]
  simp [numR, numT, h1]
theorem numR_end {s : RS} (ht : T[s.i]? = none) : numR T en s = failR T en 5 s ∧ numT T s = 0 := by
  have h1 : kindR T 3 s = false := by simp [kindR, ht]
  simp [numR, numT, h1]

/-- What global comes to. -/
def GCall (bp : Nat) (la : Option Addr) (c : Nat) (T : List Tk) (en : Int) : Prop := ∀ (w : World) (X : Nat → Prop) (nv : Value) (s : RS) (a : Int) (s' : RS),
  RP w X bp la c T en s nv → globalR T en s = some (a, s') → s'.nodes.length ≤ 1000000 → Calls Tryz.prog 20 #[.pointer (some ⟨bp, 0, none⟩)] w (RDone w X bp la c T en (.int .i64 a) s')

set_option maxRecDepth 100000 in
theorem rglobal_lock (hlen : T.length ≤ 5000) (hnum : ∀ t ∈ T, 0 ≤ t.num ∧ t.num ≤ 999999999) (w : World) (X : Nat → Prop) (nv : Value) (s : RS) (a : Int) (s' : RS) (h : RP w X bp la c T en s nv) (hq : globalR T en s = some (a, s')) (hl : s'.nodes.length ≤ 1000000) (K : Hid (isR T ((⟨#[108, 111, 99, 107]⟩ : ByteArray)) s = true)) : Calls Tryz.prog 20 #[.pointer (some ⟨bp, 0, none⟩)] w (RDone w X bp la c T en (.int .i64 a) s') := by
  unfold globalR at hq
  dsimp only at hq
  rw [if_pos K.out] at hq
  unfold putR at hq
  injection hq with hq
  injection hq with e1 e2
  subst e1 e2
  have hb : s.nodes.length ≤ 1000000 := by simp at hl; omega
  clear hl
  go_enter Tryz.func20, Tryz.ntmps20
  go_wp2_with fail
  refine (rat_c h).mono ?_
  rintro e w1 ⟨rfl, h1, u1⟩
  clear h
  have U1 := Lib.hid u1; clear u1
  go_wp2_with fail
  refine (ris_c ((⟨#[108, 111, 99, 107]⟩ : ByteArray)) h1).mono ?_
  rw [K.out]
  rintro e w2 ⟨rfl, h2, u2⟩
  clear h1
  have U2 := Lib.hid (U1.out.trans u2); clear u2
  clear U1
  go_wp2_with fail
  refine (rtake_c ((⟨#[108, 111, 99, 107]⟩ : ByteArray)) h2 hlen).mono ?_
  rintro e w3 ⟨rfl, h3, u3⟩
  clear h2
  have U3 := Lib.hid (U2.out.trans u3); clear u3
  clear U2
  go_wp2_with fail
  refine (rname_c h3 hlen).mono ?_
  rintro e w4 ⟨rfl, h4, u4⟩
  clear h3
  have U4 := Lib.hid (U3.out.trans u4); clear u4
  clear U3
  go_wp2_with fail
  refine (rtake_c ((⟨#[59]⟩ : ByteArray)) h4 hlen).mono ?_
  rintro e w5 ⟨rfl, h5, u5⟩
  clear h4
  have U5 := Lib.hid (U4.out.trans u5); clear u5
  clear U4
  go_wp2_with fail
  refine (rnode_nil 3 0 _ _ h5 (by simpa using hb)).mono ?_
  rintro e w6 ⟨rfl, X6, nv6, h6, u6⟩
  clear h5
  have U6 := Lib.hid (U5.out.trans u6); clear u6
  clear U5
  go_wp2_with fail
  go_ret
  exact ⟨ret_int (by simp), _, _, h6, U6.out⟩

set_option maxRecDepth 100000 in
theorem rglobal_plain (hlen : T.length ≤ 5000) (hnum : ∀ t ∈ T, 0 ≤ t.num ∧ t.num ≤ 999999999) (w : World) (X : Nat → Prop) (nv : Value) (s : RS) (a : Int) (s' : RS) (h : RP w X bp la c T en s nv) (hq : globalR T en s = some (a, s')) (hl : s'.nodes.length ≤ 1000000) (K : Hid (isR T ((⟨#[108, 111, 99, 107]⟩ : ByteArray)) s = false)) (K2 : Hid (isR T ((⟨#[61]⟩ : ByteArray)) (nameR T en (takeR T en ((⟨#[105, 110, 116]⟩ : ByteArray)) s)) = false)) : Calls Tryz.prog 20 #[.pointer (some ⟨bp, 0, none⟩)] w (RDone w X bp la c T en (.int .i64 a) s') := by
  obtain ⟨s1, hs1⟩ : ∃ s1, s1 = takeR T en ((⟨#[105, 110, 116]⟩ : ByteArray)) s := ⟨_, rfl⟩
  obtain ⟨s2, hs2⟩ : ∃ s2, s2 = nameR T en s1 := ⟨_, rfl⟩
  unfold globalR at hq
  dsimp only at hq
  rw [if_neg (by rw [K.out]; decide)] at hq
  rw [← hs1] at hq K2
  rw [← hs2] at hq K2
  rw [if_neg (by rw [K2.out]; decide)] at hq
  unfold putR at hq
  injection hq with hq
  injection hq with e1 e2
  subst e1 e2
  have HB : Hid (s2.nodes.length ≤ 1000000) := Lib.hid (by simp at hl; omega)
  clear hl
  have HS1 := Lib.hid hs1; have HS2 := Lib.hid hs2
  clear hs1 hs2
  go_enter Tryz.func20, Tryz.ntmps20
  go_wp2_with fail
  refine (rat_c h).mono ?_
  rintro e w1 ⟨rfl, h1, u1⟩
  clear h
  have U1 := Lib.hid u1; clear u1
  go_wp2_with fail
  refine (ris_c ((⟨#[108, 111, 99, 107]⟩ : ByteArray)) h1).mono ?_
  rw [K.out]
  rintro e w2 ⟨rfl, h2, u2⟩
  clear h1
  have U2 := Lib.hid (U1.out.trans u2); clear u2
  clear U1
  go_wp2_with fail
  refine (rtake_c ((⟨#[105, 110, 116]⟩ : ByteArray)) h2 hlen).mono ?_
  rintro e w3 ⟨rfl, h3, u3⟩
  clear h2
  have U3 := Lib.hid (U2.out.trans u3); clear u3
  clear U2
  rw [← HS1.out] at h3
  go_wp2_with fail
  refine (rname_c h3 hlen).mono ?_
  rintro e w4 ⟨rfl, h4, u4⟩
  clear h3
  have U4 := Lib.hid (U3.out.trans u4); clear u4
  clear U3
  rw [← HS2.out] at h4
  go_wp2_with fail
  refine (ris_c ((⟨#[61]⟩ : ByteArray)) h4).mono ?_
  rw [K2.out]
  rintro e w5 ⟨rfl, h5, u5⟩
  clear h4
  have U5 := Lib.hid (U4.out.trans u5); clear u5
  clear U4
  go_wp2_with fail
  refine (rtake_c ((⟨#[59]⟩ : ByteArray)) h5 hlen).mono ?_
  rintro e w6 ⟨rfl, h6, u6⟩
  clear h5
  have U6 := Lib.hid (U5.out.trans u6); clear u6
  clear U5
  go_wp2_with fail
  refine (rnode_nil 2 (0) _ _ h6 (by rw [takeR_nodes]; exact HB.out)).mono ?_
  rintro e w7 ⟨rfl, X7, nv7, h7, u7⟩
  clear h6
  have U7 := Lib.hid (U6.out.trans u7); clear u7
  clear U6
  go_wp2_with fail
  go_ret
  exact ⟨ret_int (by simp), _, _, h7, U7.out⟩

set_option maxRecDepth 100000 in
set_option maxHeartbeats 1000000 in
theorem rglobal_minus_yes (hlen : T.length ≤ 5000) (hnum : ∀ t ∈ T, 0 ≤ t.num ∧ t.num ≤ 999999999) (w : World) (X : Nat → Prop) (nv : Value) (s : RS) (a : Int) (s' : RS) (h : RP w X bp la c T en s nv) (hq : globalR T en s = some (a, s')) (hl : s'.nodes.length ≤ 1000000) (K : Hid (isR T ((⟨#[108, 111, 99, 107]⟩ : ByteArray)) s = false)) (K2 : Hid (isR T ((⟨#[61]⟩ : ByteArray)) (nameR T en (takeR T en ((⟨#[105, 110, 116]⟩ : ByteArray)) s)) = true)) (K3 : Hid (isR T ((⟨#[45]⟩ : ByteArray)) (takeR T en ((⟨#[61]⟩ : ByteArray)) (nameR T en (takeR T en ((⟨#[105, 110, 116]⟩ : ByteArray)) s))) = true)) (t : Tk) (HT : Hid (T[(takeR T en ((⟨#[45]⟩ : ByteArray)) (takeR T en ((⟨#[61]⟩ : ByteArray)) (nameR T en (takeR T en ((⟨#[105, 110, 116]⟩ : ByteArray)) s)))).i]? = some t)) (hk : t.kind = 3) : Calls Tryz.prog 20 #[.pointer (some ⟨bp, 0, none⟩)] w (RDone w X bp la c T en (.int .i64 a) s') := by
  obtain ⟨s1, hs1⟩ : ∃ s1, s1 = takeR T en ((⟨#[105, 110, 116]⟩ : ByteArray)) s := ⟨_, rfl⟩
  obtain ⟨s2, hs2⟩ : ∃ s2, s2 = nameR T en s1 := ⟨_, rfl⟩
  unfold globalR at hq
  dsimp only at hq
  rw [if_neg (by rw [K.out]; decide)] at hq
  rw [← hs1] at hq K2
  rw [← hs2] at hq K2
  rw [if_pos K2.out] at hq
  obtain ⟨s3, hs3⟩ : ∃ s3, s3 = takeR T en ((⟨#[61]⟩ : ByteArray)) s2 := ⟨_, rfl⟩
  rw [← hs3] at hq
  rw [← hs1, ← hs2, ← hs3] at K3
  rw [if_pos K3.out] at hq
  obtain ⟨s4, hs4⟩ : ∃ s4, s4 = takeR T en ((⟨#[45]⟩ : ByteArray)) s3 := ⟨_, rfl⟩
  rw [← hs4] at hq
  rw [← hs1, ← hs2, ← hs3, ← hs4] at HT
  obtain ⟨n1, n2⟩ := (numR_yes HT.out hk : numR T en s4 = _ ∧ _)
  rw [n1, n2] at hq
  clear n1 n2
  unfold putR at hq
  injection hq with hq
  injection hq with e1 e2
  subst e1 e2
  have HB : Hid ((stepR s4).nodes.length ≤ 1000000) := Lib.hid (by simp at hl ⊢; omega)
  clear hl
  have HS1 := Lib.hid hs1; have HS2 := Lib.hid hs2; have HS3 := Lib.hid hs3; have HS4 := Lib.hid hs4
  clear hs1 hs2 hs3 hs4
  go_enter Tryz.func20, Tryz.ntmps20
  go_wp2_with fail
  refine (rat_c h).mono ?_
  rintro e w1 ⟨rfl, h1, u1⟩
  clear h
  have U1 := Lib.hid u1; clear u1
  go_wp2_with fail
  refine (ris_c ((⟨#[108, 111, 99, 107]⟩ : ByteArray)) h1).mono ?_
  rw [K.out]
  rintro e w2 ⟨rfl, h2, u2⟩
  clear h1
  have U2 := Lib.hid (U1.out.trans u2); clear u2
  clear U1
  go_wp2_with fail
  refine (rtake_c ((⟨#[105, 110, 116]⟩ : ByteArray)) h2 hlen).mono ?_
  rintro e w3 ⟨rfl, h3, u3⟩
  clear h2
  have U3 := Lib.hid (U2.out.trans u3); clear u3
  clear U2
  rw [← HS1.out] at h3
  go_wp2_with fail
  refine (rname_c h3 hlen).mono ?_
  rintro e w4 ⟨rfl, h4, u4⟩
  clear h3
  have U4 := Lib.hid (U3.out.trans u4); clear u4
  clear U3
  rw [← HS2.out] at h4
  go_wp2_with fail
  refine (ris_c ((⟨#[61]⟩ : ByteArray)) h4).mono ?_
  rw [K2.out]
  rintro e w5 ⟨rfl, h5, u5⟩
  clear h4
  have U5 := Lib.hid (U4.out.trans u5); clear u5
  clear U4
  go_wp2_with fail
  refine (rtake_c ((⟨#[61]⟩ : ByteArray)) h5 hlen).mono ?_
  rintro e w6 ⟨rfl, h6, u6⟩
  clear h5
  have U6 := Lib.hid (U5.out.trans u6); clear u6
  clear U5
  rw [← HS3.out] at h6
  go_wp2_with fail
  refine (ris_c ((⟨#[45]⟩ : ByteArray)) h6).mono ?_
  rw [K3.out]
  rintro e w7 ⟨rfl, h7, u7⟩
  clear h6
  have U7 := Lib.hid (U6.out.trans u7); clear u7
  clear U6
  go_wp2_with fail
  refine (rtake_c ((⟨#[45]⟩ : ByteArray)) h7 hlen).mono ?_
  rintro e w8 ⟨rfl, h8, u8⟩
  clear h7
  have U8 := Lib.hid (U7.out.trans u8); clear u8
  clear U7
  rw [← HS4.out] at h8
  have HX := Lib.hid h8.inX
  have HH := Lib.hid h8
  have c0 := h8.c0
  have c2 := h8.c2
  obtain ⟨i, hI⟩ : ∃ i, i = s4.i := ⟨_, rfl⟩
  rw [← hI] at c2
  have hi : i < T.length := by rw [hI]; exact (List.getElem?_eq_some_iff.1 HT.out).1
  obtain ⟨bl, rfl, t0, t1, t2, t3⟩ := toks_cells h8 HT.out
  rw [← hI] at t0 t1 t2 t3
  have HI := Lib.hid hI
  clear hI h8
  have hd : decide ((i : Int) < (T.length : Int)) = true := by simp; omega
  have hd2 : decide (i < T.length) = true := by simp; omega
  rw [hk] at t0
  go_upto_region 17 with (fail)
  go_quiet (fail)
  go_upto_region 18 with (fail)
  go_quiet (fail)
  generalize hw9 : World.drewN (World.drewN w8 _) _ = w9
  have HP9 : Hid (RP w9 X bp (some ⟨bl, 0, none⟩) c T en s4 nv ∧ Upd w X w9 X) := Lib.hid (by rw [← hw9]; exact ⟨(HH.out.drewN _).drewN _, (U8.out.drewN _).drewN _⟩)
  clear hw9 c0 c2 t0 t1 t2 t3 HH
  have c2 : w9.cell? ⟨bp, 2, none⟩ = some (.int .i64 i) := by rw [HI.out]; exact HP9.out.1.c2
  have f2 := HP9.out.1.free 2
  have hn9 := hnum t (List.mem_of_getElem? HT.out)
  obtain ⟨hn1, hn2⟩ := hn9
  go_upto_region 23 with (fail)
  refine wp_gen (fun W => RP W X bp (some ⟨bl, 0, none⟩) c T en (stepR s4) nv ∧ Upd w X W X) ⟨by
    have := HP9.out.1.setI (s4.i + 1)
    rw [HI.out]
    exact this, HP9.out.2.setCell (a := ⟨bp, 2, none⟩) (.inl HX.out) _⟩ ?_
  rintro w10 ⟨h10, u10⟩
  have U10 := Lib.hid u10
  clear u10 c2 f2 HP9
  go_wp2_with fail
  refine (rtake_c ((⟨#[59]⟩ : ByteArray)) h10 hlen).mono ?_
  rintro e w11 ⟨rfl, h11, u11⟩
  clear h10
  have U11 := Lib.hid (U10.out.trans u11); clear u11
  clear U10
  go_wp2_with fail
  refine (rnode_nil 2 (-t.num) _ _ h11 (by rw [takeR_nodes]; exact HB.out)).mono ?_
  rintro e w12 ⟨rfl, X12, nv12, h12, u12⟩
  clear h11
  have U12 := Lib.hid (U11.out.trans u12); clear u12
  clear U11
  go_wp2_with fail
  go_ret
  exact ⟨ret_int (by simp), _, _, h12, U12.out⟩

set_option maxRecDepth 100000 in
set_option maxHeartbeats 1000000 in
theorem rglobal_minus_no (hlen : T.length ≤ 5000) (hnum : ∀ t ∈ T, 0 ≤ t.num ∧ t.num ≤ 999999999) (w : World) (X : Nat → Prop) (nv : Value) (s : RS) (a : Int) (s' : RS) (h : RP w X bp la c T en s nv) (hq : globalR T en s = some (a, s')) (hl : s'.nodes.length ≤ 1000000) (K : Hid (isR T ((⟨#[108, 111, 99, 107]⟩ : ByteArray)) s = false)) (K2 : Hid (isR T ((⟨#[61]⟩ : ByteArray)) (nameR T en (takeR T en ((⟨#[105, 110, 116]⟩ : ByteArray)) s)) = true)) (K3 : Hid (isR T ((⟨#[45]⟩ : ByteArray)) (takeR T en ((⟨#[61]⟩ : ByteArray)) (nameR T en (takeR T en ((⟨#[105, 110, 116]⟩ : ByteArray)) s))) = true)) (t : Tk) (HT : Hid (T[(takeR T en ((⟨#[45]⟩ : ByteArray)) (takeR T en ((⟨#[61]⟩ : ByteArray)) (nameR T en (takeR T en ((⟨#[105, 110, 116]⟩ : ByteArray)) s)))).i]? = some t)) (hk : t.kind ≠ 3) : Calls Tryz.prog 20 #[.pointer (some ⟨bp, 0, none⟩)] w (RDone w X bp la c T en (.int .i64 a) s') := by
  obtain ⟨s1, hs1⟩ : ∃ s1, s1 = takeR T en ((⟨#[105, 110, 116]⟩ : ByteArray)) s := ⟨_, rfl⟩
  obtain ⟨s2, hs2⟩ : ∃ s2, s2 = nameR T en s1 := ⟨_, rfl⟩
  unfold globalR at hq
  dsimp only at hq
  rw [if_neg (by rw [K.out]; decide)] at hq
  rw [← hs1] at hq K2
  rw [← hs2] at hq K2
  rw [if_pos K2.out] at hq
  obtain ⟨s3, hs3⟩ : ∃ s3, s3 = takeR T en ((⟨#[61]⟩ : ByteArray)) s2 := ⟨_, rfl⟩
  rw [← hs3] at hq
  rw [← hs1, ← hs2, ← hs3] at K3
  rw [if_pos K3.out] at hq
  obtain ⟨s4, hs4⟩ : ∃ s4, s4 = takeR T en ((⟨#[45]⟩ : ByteArray)) s3 := ⟨_, rfl⟩
  rw [← hs4] at hq
  rw [← hs1, ← hs2, ← hs3, ← hs4] at HT
  obtain ⟨n1, n2⟩ := (numR_no HT.out hk : numR T en s4 = _ ∧ _)
  rw [n1, n2] at hq
  clear n1 n2
  rw [Int.neg_zero] at hq
  unfold putR at hq
  injection hq with hq
  injection hq with e1 e2
  subst e1 e2
  have HB : Hid ((failR T en 5 s4).nodes.length ≤ 1000000) := Lib.hid (by simp at hl ⊢; omega)
  clear hl
  have HS1 := Lib.hid hs1; have HS2 := Lib.hid hs2; have HS3 := Lib.hid hs3; have HS4 := Lib.hid hs4
  clear hs1 hs2 hs3 hs4
  go_enter Tryz.func20, Tryz.ntmps20
  go_wp2_with fail
  refine (rat_c h).mono ?_
  rintro e w1 ⟨rfl, h1, u1⟩
  clear h
  have U1 := Lib.hid u1; clear u1
  go_wp2_with fail
  refine (ris_c ((⟨#[108, 111, 99, 107]⟩ : ByteArray)) h1).mono ?_
  rw [K.out]
  rintro e w2 ⟨rfl, h2, u2⟩
  clear h1
  have U2 := Lib.hid (U1.out.trans u2); clear u2
  clear U1
  go_wp2_with fail
  refine (rtake_c ((⟨#[105, 110, 116]⟩ : ByteArray)) h2 hlen).mono ?_
  rintro e w3 ⟨rfl, h3, u3⟩
  clear h2
  have U3 := Lib.hid (U2.out.trans u3); clear u3
  clear U2
  rw [← HS1.out] at h3
  go_wp2_with fail
  refine (rname_c h3 hlen).mono ?_
  rintro e w4 ⟨rfl, h4, u4⟩
  clear h3
  have U4 := Lib.hid (U3.out.trans u4); clear u4
  clear U3
  rw [← HS2.out] at h4
  go_wp2_with fail
  refine (ris_c ((⟨#[61]⟩ : ByteArray)) h4).mono ?_
  rw [K2.out]
  rintro e w5 ⟨rfl, h5, u5⟩
  clear h4
  have U5 := Lib.hid (U4.out.trans u5); clear u5
  clear U4
  go_wp2_with fail
  refine (rtake_c ((⟨#[61]⟩ : ByteArray)) h5 hlen).mono ?_
  rintro e w6 ⟨rfl, h6, u6⟩
  clear h5
  have U6 := Lib.hid (U5.out.trans u6); clear u6
  clear U5
  rw [← HS3.out] at h6
  go_wp2_with fail
  refine (ris_c ((⟨#[45]⟩ : ByteArray)) h6).mono ?_
  rw [K3.out]
  rintro e w7 ⟨rfl, h7, u7⟩
  clear h6
  have U7 := Lib.hid (U6.out.trans u7); clear u7
  clear U6
  go_wp2_with fail
  refine (rtake_c ((⟨#[45]⟩ : ByteArray)) h7 hlen).mono ?_
  rintro e w8 ⟨rfl, h8, u8⟩
  clear h7
  have U8 := Lib.hid (U7.out.trans u8); clear u8
  clear U7
  rw [← HS4.out] at h8
  have HX := Lib.hid h8.inX
  have HH := Lib.hid h8
  have c0 := h8.c0
  have c2 := h8.c2
  obtain ⟨i, hI⟩ : ∃ i, i = s4.i := ⟨_, rfl⟩
  rw [← hI] at c2
  have hi : i < T.length := by rw [hI]; exact (List.getElem?_eq_some_iff.1 HT.out).1
  obtain ⟨bl, rfl, t0, t1, t2, t3⟩ := toks_cells h8 HT.out
  rw [← hI] at t0 t1 t2 t3
  have HI := Lib.hid hI
  clear hI h8
  have hd : decide ((i : Int) < (T.length : Int)) = true := by simp; omega
  have hd2 : decide (i < T.length) = true := by simp; omega
  have hkb : (t.kind == 3) = false := by simp [hk]
  go_upto_region 17 with (fail)
  go_quiet (fail)
  have HF := Lib.hid (HH.out.drewN nq)
  clear c0 c2 t0 t1 t2 t3
  go_wp2_with fail
  refine (rfail_c 5 HF.out).mono ?_
  rintro e w10 ⟨rfl, h10, u10⟩
  have U10 := Lib.hid ((U8.out.drewN nq).trans u10)
  clear u10
  go_wp2_with fail
  refine (rtake_c ((⟨#[59]⟩ : ByteArray)) h10 hlen).mono ?_
  rintro e w11 ⟨rfl, h11, u11⟩
  clear h10
  have U11 := Lib.hid (U10.out.trans u11); clear u11
  clear U10
  go_wp2_with fail
  refine (rnode_nil 2 (0) _ _ h11 (by rw [takeR_nodes]; exact HB.out)).mono ?_
  rintro e w12 ⟨rfl, X12, nv12, h12, u12⟩
  clear h11
  have U12 := Lib.hid (U11.out.trans u12); clear u12
  clear U11
  go_wp2_with fail
  go_ret
  exact ⟨ret_int (by simp), _, _, h12, U12.out⟩

set_option maxRecDepth 100000 in
set_option maxHeartbeats 1000000 in
theorem rglobal_minus_end (hlen : T.length ≤ 5000) (hnum : ∀ t ∈ T, 0 ≤ t.num ∧ t.num ≤ 999999999) (w : World) (X : Nat → Prop) (nv : Value) (s : RS) (a : Int) (s' : RS) (h : RP w X bp la c T en s nv) (hq : globalR T en s = some (a, s')) (hl : s'.nodes.length ≤ 1000000) (K : Hid (isR T ((⟨#[108, 111, 99, 107]⟩ : ByteArray)) s = false)) (K2 : Hid (isR T ((⟨#[61]⟩ : ByteArray)) (nameR T en (takeR T en ((⟨#[105, 110, 116]⟩ : ByteArray)) s)) = true)) (K3 : Hid (isR T ((⟨#[45]⟩ : ByteArray)) (takeR T en ((⟨#[61]⟩ : ByteArray)) (nameR T en (takeR T en ((⟨#[105, 110, 116]⟩ : ByteArray)) s))) = true)) (HT : Hid (T[(takeR T en ((⟨#[45]⟩ : ByteArray)) (takeR T en ((⟨#[61]⟩ : ByteArray)) (nameR T en (takeR T en ((⟨#[105, 110, 116]⟩ : ByteArray)) s)))).i]? = none)) : Calls Tryz.prog 20 #[.pointer (some ⟨bp, 0, none⟩)] w (RDone w X bp la c T en (.int .i64 a) s') := by
  obtain ⟨s1, hs1⟩ : ∃ s1, s1 = takeR T en ((⟨#[105, 110, 116]⟩ : ByteArray)) s := ⟨_, rfl⟩
  obtain ⟨s2, hs2⟩ : ∃ s2, s2 = nameR T en s1 := ⟨_, rfl⟩
  unfold globalR at hq
  dsimp only at hq
  rw [if_neg (by rw [K.out]; decide)] at hq
  rw [← hs1] at hq K2
  rw [← hs2] at hq K2
  rw [if_pos K2.out] at hq
  obtain ⟨s3, hs3⟩ : ∃ s3, s3 = takeR T en ((⟨#[61]⟩ : ByteArray)) s2 := ⟨_, rfl⟩
  rw [← hs3] at hq
  rw [← hs1, ← hs2, ← hs3] at K3
  rw [if_pos K3.out] at hq
  obtain ⟨s4, hs4⟩ : ∃ s4, s4 = takeR T en ((⟨#[45]⟩ : ByteArray)) s3 := ⟨_, rfl⟩
  rw [← hs4] at hq
  rw [← hs1, ← hs2, ← hs3, ← hs4] at HT
  obtain ⟨n1, n2⟩ := (numR_end HT.out : numR T en s4 = _ ∧ _)
  rw [n1, n2] at hq
  clear n1 n2
  rw [Int.neg_zero] at hq
  unfold putR at hq
  injection hq with hq
  injection hq with e1 e2
  subst e1 e2
  have HB : Hid ((failR T en 5 s4).nodes.length ≤ 1000000) := Lib.hid (by simp at hl ⊢; omega)
  clear hl
  have HS1 := Lib.hid hs1; have HS2 := Lib.hid hs2; have HS3 := Lib.hid hs3; have HS4 := Lib.hid hs4
  clear hs1 hs2 hs3 hs4
  go_enter Tryz.func20, Tryz.ntmps20
  go_wp2_with fail
  refine (rat_c h).mono ?_
  rintro e w1 ⟨rfl, h1, u1⟩
  clear h
  have U1 := Lib.hid u1; clear u1
  go_wp2_with fail
  refine (ris_c ((⟨#[108, 111, 99, 107]⟩ : ByteArray)) h1).mono ?_
  rw [K.out]
  rintro e w2 ⟨rfl, h2, u2⟩
  clear h1
  have U2 := Lib.hid (U1.out.trans u2); clear u2
  clear U1
  go_wp2_with fail
  refine (rtake_c ((⟨#[105, 110, 116]⟩ : ByteArray)) h2 hlen).mono ?_
  rintro e w3 ⟨rfl, h3, u3⟩
  clear h2
  have U3 := Lib.hid (U2.out.trans u3); clear u3
  clear U2
  rw [← HS1.out] at h3
  go_wp2_with fail
  refine (rname_c h3 hlen).mono ?_
  rintro e w4 ⟨rfl, h4, u4⟩
  clear h3
  have U4 := Lib.hid (U3.out.trans u4); clear u4
  clear U3
  rw [← HS2.out] at h4
  go_wp2_with fail
  refine (ris_c ((⟨#[61]⟩ : ByteArray)) h4).mono ?_
  rw [K2.out]
  rintro e w5 ⟨rfl, h5, u5⟩
  clear h4
  have U5 := Lib.hid (U4.out.trans u5); clear u5
  clear U4
  go_wp2_with fail
  refine (rtake_c ((⟨#[61]⟩ : ByteArray)) h5 hlen).mono ?_
  rintro e w6 ⟨rfl, h6, u6⟩
  clear h5
  have U6 := Lib.hid (U5.out.trans u6); clear u6
  clear U5
  rw [← HS3.out] at h6
  go_wp2_with fail
  refine (ris_c ((⟨#[45]⟩ : ByteArray)) h6).mono ?_
  rw [K3.out]
  rintro e w7 ⟨rfl, h7, u7⟩
  clear h6
  have U7 := Lib.hid (U6.out.trans u7); clear u7
  clear U6
  go_wp2_with fail
  refine (rtake_c ((⟨#[45]⟩ : ByteArray)) h7 hlen).mono ?_
  rintro e w8 ⟨rfl, h8, u8⟩
  clear h7
  have U8 := Lib.hid (U7.out.trans u8); clear u8
  clear U7
  rw [← HS4.out] at h8
  have HX := Lib.hid h8.inX
  have HH := Lib.hid h8
  have c0 := h8.c0
  have c2 := h8.c2
  obtain ⟨i, hI⟩ : ∃ i, i = s4.i := ⟨_, rfl⟩
  rw [← hI] at c2
  have hi : T.length ≤ i := by rw [hI]; exact List.getElem?_eq_none_iff.1 HT.out
  have HI := Lib.hid hI
  clear hI h8
  have hd : decide ((i : Int) < (T.length : Int)) = false := by simp; omega
  have hd2 : decide (i < T.length) = false := by simp; omega
  go_upto_region 17 with (fail)
  go_quiet (fail)
  have HF := Lib.hid (HH.out.drewN nq)
  clear c0 c2
  go_wp2_with fail
  refine (rfail_c 5 HF.out).mono ?_
  rintro e w10 ⟨rfl, h10, u10⟩
  have U10 := Lib.hid ((U8.out.drewN nq).trans u10)
  clear u10
  go_wp2_with fail
  refine (rtake_c ((⟨#[59]⟩ : ByteArray)) h10 hlen).mono ?_
  rintro e w11 ⟨rfl, h11, u11⟩
  clear h10
  have U11 := Lib.hid (U10.out.trans u11); clear u11
  clear U10
  go_wp2_with fail
  refine (rnode_nil 2 (0) _ _ h11 (by rw [takeR_nodes]; exact HB.out)).mono ?_
  rintro e w12 ⟨rfl, X12, nv12, h12, u12⟩
  clear h11
  have U12 := Lib.hid (U11.out.trans u12); clear u12
  clear U11
  go_wp2_with fail
  go_ret
  exact ⟨ret_int (by simp), _, _, h12, U12.out⟩

set_option maxRecDepth 100000 in
set_option maxHeartbeats 1000000 in
theorem rglobal_plus_yes (hlen : T.length ≤ 5000) (hnum : ∀ t ∈ T, 0 ≤ t.num ∧ t.num ≤ 999999999) (w : World) (X : Nat → Prop) (nv : Value) (s : RS) (a : Int) (s' : RS) (h : RP w X bp la c T en s nv) (hq : globalR T en s = some (a, s')) (hl : s'.nodes.length ≤ 1000000) (K : Hid (isR T ((⟨#[108, 111, 99, 107]⟩ : ByteArray)) s = false)) (K2 : Hid (isR T ((⟨#[61]⟩ : ByteArray)) (nameR T en (takeR T en ((⟨#[105, 110, 116]⟩ : ByteArray)) s)) = true)) (K3 : Hid (isR T ((⟨#[45]⟩ : ByteArray)) (takeR T en ((⟨#[61]⟩ : ByteArray)) (nameR T en (takeR T en ((⟨#[105, 110, 116]⟩ : ByteArray)) s))) = false)) (t : Tk) (HT : Hid (T[(takeR T en ((⟨#[61]⟩ : ByteArray)) (nameR T en (takeR T en ((⟨#[105, 110, 116]⟩ : ByteArray)) s))).i]? = some t)) (hk : t.kind = 3) : Calls Tryz.prog 20 #[.pointer (some ⟨bp, 0, none⟩)] w (RDone w X bp la c T en (.int .i64 a) s') := by
  obtain ⟨s1, hs1⟩ : ∃ s1, s1 = takeR T en ((⟨#[105, 110, 116]⟩ : ByteArray)) s := ⟨_, rfl⟩
  obtain ⟨s2, hs2⟩ : ∃ s2, s2 = nameR T en s1 := ⟨_, rfl⟩
  unfold globalR at hq
  dsimp only at hq
  rw [if_neg (by rw [K.out]; decide)] at hq
  rw [← hs1] at hq K2
  rw [← hs2] at hq K2
  rw [if_pos K2.out] at hq
  obtain ⟨s3, hs3⟩ : ∃ s3, s3 = takeR T en ((⟨#[61]⟩ : ByteArray)) s2 := ⟨_, rfl⟩
  rw [← hs3] at hq
  rw [← hs1, ← hs2, ← hs3] at K3
  rw [if_neg (by rw [K3.out]; decide)] at hq
  rw [← hs1, ← hs2, ← hs3] at HT
  obtain ⟨n1, n2⟩ := (numR_yes HT.out hk : numR T en s3 = _ ∧ _)
  rw [n1, n2] at hq
  clear n1 n2
  unfold putR at hq
  injection hq with hq
  injection hq with e1 e2
  subst e1 e2
  have HB : Hid ((stepR s3).nodes.length ≤ 1000000) := Lib.hid (by simp at hl ⊢; omega)
  clear hl
  have HS1 := Lib.hid hs1; have HS2 := Lib.hid hs2; have HS3 := Lib.hid hs3
  clear hs1 hs2 hs3
  go_enter Tryz.func20, Tryz.ntmps20
  go_wp2_with fail
  refine (rat_c h).mono ?_
  rintro e w1 ⟨rfl, h1, u1⟩
  clear h
  have U1 := Lib.hid u1; clear u1
  go_wp2_with fail
  refine (ris_c ((⟨#[108, 111, 99, 107]⟩ : ByteArray)) h1).mono ?_
  rw [K.out]
  rintro e w2 ⟨rfl, h2, u2⟩
  clear h1
  have U2 := Lib.hid (U1.out.trans u2); clear u2
  clear U1
  go_wp2_with fail
  refine (rtake_c ((⟨#[105, 110, 116]⟩ : ByteArray)) h2 hlen).mono ?_
  rintro e w3 ⟨rfl, h3, u3⟩
  clear h2
  have U3 := Lib.hid (U2.out.trans u3); clear u3
  clear U2
  rw [← HS1.out] at h3
  go_wp2_with fail
  refine (rname_c h3 hlen).mono ?_
  rintro e w4 ⟨rfl, h4, u4⟩
  clear h3
  have U4 := Lib.hid (U3.out.trans u4); clear u4
  clear U3
  rw [← HS2.out] at h4
  go_wp2_with fail
  refine (ris_c ((⟨#[61]⟩ : ByteArray)) h4).mono ?_
  rw [K2.out]
  rintro e w5 ⟨rfl, h5, u5⟩
  clear h4
  have U5 := Lib.hid (U4.out.trans u5); clear u5
  clear U4
  go_wp2_with fail
  refine (rtake_c ((⟨#[61]⟩ : ByteArray)) h5 hlen).mono ?_
  rintro e w6 ⟨rfl, h6, u6⟩
  clear h5
  have U6 := Lib.hid (U5.out.trans u6); clear u6
  clear U5
  rw [← HS3.out] at h6
  go_wp2_with fail
  refine (ris_c ((⟨#[45]⟩ : ByteArray)) h6).mono ?_
  rw [K3.out]
  rintro e w7 ⟨rfl, h7, u7⟩
  clear h6
  have U7 := Lib.hid (U6.out.trans u7); clear u7
  clear U6
  have HX := Lib.hid h7.inX
  have HH := Lib.hid h7
  have c0 := h7.c0
  have c2 := h7.c2
  obtain ⟨i, hI⟩ : ∃ i, i = s3.i := ⟨_, rfl⟩
  rw [← hI] at c2
  have hi : i < T.length := by rw [hI]; exact (List.getElem?_eq_some_iff.1 HT.out).1
  obtain ⟨bl, rfl, t0, t1, t2, t3⟩ := toks_cells h7 HT.out
  rw [← hI] at t0 t1 t2 t3
  have HI := Lib.hid hI
  clear hI h7
  have hd : decide ((i : Int) < (T.length : Int)) = true := by simp; omega
  have hd2 : decide (i < T.length) = true := by simp; omega
  rw [hk] at t0
  go_upto_region 17 with (fail)
  go_quiet (fail)
  go_upto_region 18 with (fail)
  go_quiet (fail)
  generalize hw9 : World.drewN (World.drewN w7 _) _ = w9
  have HP9 : Hid (RP w9 X bp (some ⟨bl, 0, none⟩) c T en s3 nv ∧ Upd w X w9 X) := Lib.hid (by rw [← hw9]; exact ⟨(HH.out.drewN _).drewN _, (U7.out.drewN _).drewN _⟩)
  clear hw9 c0 c2 t0 t1 t2 t3 HH
  have c2 : w9.cell? ⟨bp, 2, none⟩ = some (.int .i64 i) := by rw [HI.out]; exact HP9.out.1.c2
  have f2 := HP9.out.1.free 2
  have hn9 := hnum t (List.mem_of_getElem? HT.out)
  obtain ⟨hn1, hn2⟩ := hn9
  go_upto_region 23 with (fail)
  refine wp_gen (fun W => RP W X bp (some ⟨bl, 0, none⟩) c T en (stepR s3) nv ∧ Upd w X W X) ⟨by
    have := HP9.out.1.setI (s3.i + 1)
    rw [HI.out]
    exact this, HP9.out.2.setCell (a := ⟨bp, 2, none⟩) (.inl HX.out) _⟩ ?_
  rintro w10 ⟨h10, u10⟩
  have U10 := Lib.hid u10
  clear u10 c2 f2 HP9
  go_wp2_with fail
  refine (rtake_c ((⟨#[59]⟩ : ByteArray)) h10 hlen).mono ?_
  rintro e w11 ⟨rfl, h11, u11⟩
  clear h10
  have U11 := Lib.hid (U10.out.trans u11); clear u11
  clear U10
  go_wp2_with fail
  refine (rnode_nil 2 (t.num) _ _ h11 (by rw [takeR_nodes]; exact HB.out)).mono ?_
  rintro e w12 ⟨rfl, X12, nv12, h12, u12⟩
  clear h11
  have U12 := Lib.hid (U11.out.trans u12); clear u12
  clear U11
  go_wp2_with fail
  go_ret
  exact ⟨ret_int (by simp), _, _, h12, U12.out⟩

set_option maxRecDepth 100000 in
set_option maxHeartbeats 1000000 in
theorem rglobal_plus_no (hlen : T.length ≤ 5000) (hnum : ∀ t ∈ T, 0 ≤ t.num ∧ t.num ≤ 999999999) (w : World) (X : Nat → Prop) (nv : Value) (s : RS) (a : Int) (s' : RS) (h : RP w X bp la c T en s nv) (hq : globalR T en s = some (a, s')) (hl : s'.nodes.length ≤ 1000000) (K : Hid (isR T ((⟨#[108, 111, 99, 107]⟩ : ByteArray)) s = false)) (K2 : Hid (isR T ((⟨#[61]⟩ : ByteArray)) (nameR T en (takeR T en ((⟨#[105, 110, 116]⟩ : ByteArray)) s)) = true)) (K3 : Hid (isR T ((⟨#[45]⟩ : ByteArray)) (takeR T en ((⟨#[61]⟩ : ByteArray)) (nameR T en (takeR T en ((⟨#[105, 110, 116]⟩ : ByteArray)) s))) = false)) (t : Tk) (HT : Hid (T[(takeR T en ((⟨#[61]⟩ : ByteArray)) (nameR T en (takeR T en ((⟨#[105, 110, 116]⟩ : ByteArray)) s))).i]? = some t)) (hk : t.kind ≠ 3) : Calls Tryz.prog 20 #[.pointer (some ⟨bp, 0, none⟩)] w (RDone w X bp la c T en (.int .i64 a) s') := by
  obtain ⟨s1, hs1⟩ : ∃ s1, s1 = takeR T en ((⟨#[105, 110, 116]⟩ : ByteArray)) s := ⟨_, rfl⟩
  obtain ⟨s2, hs2⟩ : ∃ s2, s2 = nameR T en s1 := ⟨_, rfl⟩
  unfold globalR at hq
  dsimp only at hq
  rw [if_neg (by rw [K.out]; decide)] at hq
  rw [← hs1] at hq K2
  rw [← hs2] at hq K2
  rw [if_pos K2.out] at hq
  obtain ⟨s3, hs3⟩ : ∃ s3, s3 = takeR T en ((⟨#[61]⟩ : ByteArray)) s2 := ⟨_, rfl⟩
  rw [← hs3] at hq
  rw [← hs1, ← hs2, ← hs3] at K3
  rw [if_neg (by rw [K3.out]; decide)] at hq
  rw [← hs1, ← hs2, ← hs3] at HT
  obtain ⟨n1, n2⟩ := (numR_no HT.out hk : numR T en s3 = _ ∧ _)
  rw [n1, n2] at hq
  clear n1 n2
  unfold putR at hq
  injection hq with hq
  injection hq with e1 e2
  subst e1 e2
  have HB : Hid ((failR T en 5 s3).nodes.length ≤ 1000000) := Lib.hid (by simp at hl ⊢; omega)
  clear hl
  have HS1 := Lib.hid hs1; have HS2 := Lib.hid hs2; have HS3 := Lib.hid hs3
  clear hs1 hs2 hs3
  go_enter Tryz.func20, Tryz.ntmps20
  go_wp2_with fail
  refine (rat_c h).mono ?_
  rintro e w1 ⟨rfl, h1, u1⟩
  clear h
  have U1 := Lib.hid u1; clear u1
  go_wp2_with fail
  refine (ris_c ((⟨#[108, 111, 99, 107]⟩ : ByteArray)) h1).mono ?_
  rw [K.out]
  rintro e w2 ⟨rfl, h2, u2⟩
  clear h1
  have U2 := Lib.hid (U1.out.trans u2); clear u2
  clear U1
  go_wp2_with fail
  refine (rtake_c ((⟨#[105, 110, 116]⟩ : ByteArray)) h2 hlen).mono ?_
  rintro e w3 ⟨rfl, h3, u3⟩
  clear h2
  have U3 := Lib.hid (U2.out.trans u3); clear u3
  clear U2
  rw [← HS1.out] at h3
  go_wp2_with fail
  refine (rname_c h3 hlen).mono ?_
  rintro e w4 ⟨rfl, h4, u4⟩
  clear h3
  have U4 := Lib.hid (U3.out.trans u4); clear u4
  clear U3
  rw [← HS2.out] at h4
  go_wp2_with fail
  refine (ris_c ((⟨#[61]⟩ : ByteArray)) h4).mono ?_
  rw [K2.out]
  rintro e w5 ⟨rfl, h5, u5⟩
  clear h4
  have U5 := Lib.hid (U4.out.trans u5); clear u5
  clear U4
  go_wp2_with fail
  refine (rtake_c ((⟨#[61]⟩ : ByteArray)) h5 hlen).mono ?_
  rintro e w6 ⟨rfl, h6, u6⟩
  clear h5
  have U6 := Lib.hid (U5.out.trans u6); clear u6
  clear U5
  rw [← HS3.out] at h6
  go_wp2_with fail
  refine (ris_c ((⟨#[45]⟩ : ByteArray)) h6).mono ?_
  rw [K3.out]
  rintro e w7 ⟨rfl, h7, u7⟩
  clear h6
  have U7 := Lib.hid (U6.out.trans u7); clear u7
  clear U6
  have HX := Lib.hid h7.inX
  have HH := Lib.hid h7
  have c0 := h7.c0
  have c2 := h7.c2
  obtain ⟨i, hI⟩ : ∃ i, i = s3.i := ⟨_, rfl⟩
  rw [← hI] at c2
  have hi : i < T.length := by rw [hI]; exact (List.getElem?_eq_some_iff.1 HT.out).1
  obtain ⟨bl, rfl, t0, t1, t2, t3⟩ := toks_cells h7 HT.out
  rw [← hI] at t0 t1 t2 t3
  have HI := Lib.hid hI
  clear hI h7
  have hd : decide ((i : Int) < (T.length : Int)) = true := by simp; omega
  have hd2 : decide (i < T.length) = true := by simp; omega
  have hkb : (t.kind == 3) = false := by simp [hk]
  go_upto_region 17 with (fail)
  go_quiet (fail)
  have HF := Lib.hid (HH.out.drewN nq)
  clear c0 c2 t0 t1 t2 t3
  go_wp2_with fail
  refine (rfail_c 5 HF.out).mono ?_
  rintro e w10 ⟨rfl, h10, u10⟩
  have U10 := Lib.hid ((U7.out.drewN nq).trans u10)
  clear u10
  go_wp2_with fail
  refine (rtake_c ((⟨#[59]⟩ : ByteArray)) h10 hlen).mono ?_
  rintro e w11 ⟨rfl, h11, u11⟩
  clear h10
  have U11 := Lib.hid (U10.out.trans u11); clear u11
  clear U10
  go_wp2_with fail
  refine (rnode_nil 2 (0) _ _ h11 (by rw [takeR_nodes]; exact HB.out)).mono ?_
  rintro e w12 ⟨rfl, X12, nv12, h12, u12⟩
  clear h11
  have U12 := Lib.hid (U11.out.trans u12); clear u12
  clear U11
  go_wp2_with fail
  go_ret
  exact ⟨ret_int (by simp), _, _, h12, U12.out⟩

set_option maxRecDepth 100000 in
set_option maxHeartbeats 1000000 in
theorem rglobal_plus_end (hlen : T.length ≤ 5000) (hnum : ∀ t ∈ T, 0 ≤ t.num ∧ t.num ≤ 999999999) (w : World) (X : Nat → Prop) (nv : Value) (s : RS) (a : Int) (s' : RS) (h : RP w X bp la c T en s nv) (hq : globalR T en s = some (a, s')) (hl : s'.nodes.length ≤ 1000000) (K : Hid (isR T ((⟨#[108, 111, 99, 107]⟩ : ByteArray)) s = false)) (K2 : Hid (isR T ((⟨#[61]⟩ : ByteArray)) (nameR T en (takeR T en ((⟨#[105, 110, 116]⟩ : ByteArray)) s)) = true)) (K3 : Hid (isR T ((⟨#[45]⟩ : ByteArray)) (takeR T en ((⟨#[61]⟩ : ByteArray)) (nameR T en (takeR T en ((⟨#[105, 110, 116]⟩ : ByteArray)) s))) = false)) (HT : Hid (T[(takeR T en ((⟨#[61]⟩ : ByteArray)) (nameR T en (takeR T en ((⟨#[105, 110, 116]⟩ : ByteArray)) s))).i]? = none)) : Calls Tryz.prog 20 #[.pointer (some ⟨bp, 0, none⟩)] w (RDone w X bp la c T en (.int .i64 a) s') := by
  obtain ⟨s1, hs1⟩ : ∃ s1, s1 = takeR T en ((⟨#[105, 110, 116]⟩ : ByteArray)) s := ⟨_, rfl⟩
  obtain ⟨s2, hs2⟩ : ∃ s2, s2 = nameR T en s1 := ⟨_, rfl⟩
  unfold globalR at hq
  dsimp only at hq
  rw [if_neg (by rw [K.out]; decide)] at hq
  rw [← hs1] at hq K2
  rw [← hs2] at hq K2
  rw [if_pos K2.out] at hq
  obtain ⟨s3, hs3⟩ : ∃ s3, s3 = takeR T en ((⟨#[61]⟩ : ByteArray)) s2 := ⟨_, rfl⟩
  rw [← hs3] at hq
  rw [← hs1, ← hs2, ← hs3] at K3
  rw [if_neg (by rw [K3.out]; decide)] at hq
  rw [← hs1, ← hs2, ← hs3] at HT
  obtain ⟨n1, n2⟩ := (numR_end HT.out : numR T en s3 = _ ∧ _)
  rw [n1, n2] at hq
  clear n1 n2
  unfold putR at hq
  injection hq with hq
  injection hq with e1 e2
  subst e1 e2
  have HB : Hid ((failR T en 5 s3).nodes.length ≤ 1000000) := Lib.hid (by simp at hl ⊢; omega)
  clear hl
  have HS1 := Lib.hid hs1; have HS2 := Lib.hid hs2; have HS3 := Lib.hid hs3
  clear hs1 hs2 hs3
  go_enter Tryz.func20, Tryz.ntmps20
  go_wp2_with fail
  refine (rat_c h).mono ?_
  rintro e w1 ⟨rfl, h1, u1⟩
  clear h
  have U1 := Lib.hid u1; clear u1
  go_wp2_with fail
  refine (ris_c ((⟨#[108, 111, 99, 107]⟩ : ByteArray)) h1).mono ?_
  rw [K.out]
  rintro e w2 ⟨rfl, h2, u2⟩
  clear h1
  have U2 := Lib.hid (U1.out.trans u2); clear u2
  clear U1
  go_wp2_with fail
  refine (rtake_c ((⟨#[105, 110, 116]⟩ : ByteArray)) h2 hlen).mono ?_
  rintro e w3 ⟨rfl, h3, u3⟩
  clear h2
  have U3 := Lib.hid (U2.out.trans u3); clear u3
  clear U2
  rw [← HS1.out] at h3
  go_wp2_with fail
  refine (rname_c h3 hlen).mono ?_
  rintro e w4 ⟨rfl, h4, u4⟩
  clear h3
  have U4 := Lib.hid (U3.out.trans u4); clear u4
  clear U3
  rw [← HS2.out] at h4
  go_wp2_with fail
  refine (ris_c ((⟨#[61]⟩ : ByteArray)) h4).mono ?_
  rw [K2.out]
  rintro e w5 ⟨rfl, h5, u5⟩
  clear h4
  have U5 := Lib.hid (U4.out.trans u5); clear u5
  clear U4
  go_wp2_with fail
  refine (rtake_c ((⟨#[61]⟩ : ByteArray)) h5 hlen).mono ?_
  rintro e w6 ⟨rfl, h6, u6⟩
  clear h5
  have U6 := Lib.hid (U5.out.trans u6); clear u6
  clear U5
  rw [← HS3.out] at h6
  go_wp2_with fail
  refine (ris_c ((⟨#[45]⟩ : ByteArray)) h6).mono ?_
  rw [K3.out]
  rintro e w7 ⟨rfl, h7, u7⟩
  clear h6
  have U7 := Lib.hid (U6.out.trans u7); clear u7
  clear U6
  have HX := Lib.hid h7.inX
  have HH := Lib.hid h7
  have c0 := h7.c0
  have c2 := h7.c2
  obtain ⟨i, hI⟩ : ∃ i, i = s3.i := ⟨_, rfl⟩
  rw [← hI] at c2
  have hi : T.length ≤ i := by rw [hI]; exact List.getElem?_eq_none_iff.1 HT.out
  have HI := Lib.hid hI
  clear hI h7
  have hd : decide ((i : Int) < (T.length : Int)) = false := by simp; omega
  have hd2 : decide (i < T.length) = false := by simp; omega
  go_upto_region 17 with (fail)
  go_quiet (fail)
  have HF := Lib.hid (HH.out.drewN nq)
  clear c0 c2
  go_wp2_with fail
  refine (rfail_c 5 HF.out).mono ?_
  rintro e w10 ⟨rfl, h10, u10⟩
  have U10 := Lib.hid ((U7.out.drewN nq).trans u10)
  clear u10
  go_wp2_with fail
  refine (rtake_c ((⟨#[59]⟩ : ByteArray)) h10 hlen).mono ?_
  rintro e w11 ⟨rfl, h11, u11⟩
  clear h10
  have U11 := Lib.hid (U10.out.trans u11); clear u11
  clear U10
  go_wp2_with fail
  refine (rnode_nil 2 (0) _ _ h11 (by rw [takeR_nodes]; exact HB.out)).mono ?_
  rintro e w12 ⟨rfl, X12, nv12, h12, u12⟩
  clear h11
  have U12 := Lib.hid (U11.out.trans u12); clear u12
  clear U11
  go_wp2_with fail
  go_ret
  exact ⟨ret_int (by simp), _, _, h12, U12.out⟩

/-- global -/
theorem rglobal_c (hlen : T.length ≤ 5000) (hnum : ∀ t ∈ T, 0 ≤ t.num ∧ t.num ≤ 999999999) : GCall bp la c T en := by
  intro w X nv s a s' h hq hl
  cases k1 : isR T ((⟨#[108, 111, 99, 107]⟩ : ByteArray)) s with
  | true => exact rglobal_lock hlen hnum w X nv s a s' h hq hl (Lib.hid k1)
  | false =>
    cases k2 : isR T ((⟨#[61]⟩ : ByteArray)) (nameR T en (takeR T en ((⟨#[105, 110, 116]⟩ : ByteArray)) s)) with
    | false => exact rglobal_plain hlen hnum w X nv s a s' h hq hl (Lib.hid k1) (Lib.hid k2)
    | true =>
      cases k3 : isR T ((⟨#[45]⟩ : ByteArray)) (takeR T en ((⟨#[61]⟩ : ByteArray)) (nameR T en (takeR T en ((⟨#[105, 110, 116]⟩ : ByteArray)) s))) with
      | true =>
        cases ht : T[(takeR T en ((⟨#[45]⟩ : ByteArray)) (takeR T en ((⟨#[61]⟩ : ByteArray)) (nameR T en (takeR T en ((⟨#[105, 110, 116]⟩ : ByteArray)) s)))).i]? with
        | none => exact rglobal_minus_end hlen hnum w X nv s a s' h hq hl (Lib.hid k1) (Lib.hid k2) (Lib.hid k3) (Lib.hid ht)
        | some t =>
          by_cases hk : t.kind = 3
          · exact rglobal_minus_yes hlen hnum w X nv s a s' h hq hl (Lib.hid k1) (Lib.hid k2) (Lib.hid k3) t (Lib.hid ht) hk
          · exact rglobal_minus_no hlen hnum w X nv s a s' h hq hl (Lib.hid k1) (Lib.hid k2) (Lib.hid k3) t (Lib.hid ht) hk
      | false =>
        cases ht : T[(takeR T en ((⟨#[61]⟩ : ByteArray)) (nameR T en (takeR T en ((⟨#[105, 110, 116]⟩ : ByteArray)) s))).i]? with
        | none => exact rglobal_plus_end hlen hnum w X nv s a s' h hq hl (Lib.hid k1) (Lib.hid k2) (Lib.hid k3) (Lib.hid ht)
        | some t =>
          by_cases hk : t.kind = 3
          · exact rglobal_plus_yes hlen hnum w X nv s a s' h hq hl (Lib.hid k1) (Lib.hid k2) (Lib.hid k3) t (Lib.hid ht) hk
          · exact rglobal_plus_no hlen hnum w X nv s a s' h hq hl (Lib.hid k1) (Lib.hid k2) (Lib.hid k3) t (Lib.hid ht) hk

end

end Go.Proofs.YtaklephcgepfjaaGreatDoor

/- The reference's parser: unary. (Written by wip/tools/gen_ref7.py.) -/
namespace Go.Proofs.YtaklephcgepfjaaGreatDoor
open Go.RowKit

section
variable {bp : Nat} {la : Option Addr} {c : Nat} {T : List Tk} {en : Int}

set_option maxRecDepth 100000 in
set_option maxHeartbeats 1000000 in
theorem runary_m_bad (n : Nat) (R : RR bp la c T en n) (w : World) (X : Nat → Prop) (nv : Value) (s : RS) (a : Int) (s' : RS) (h : RP w X bp la c T en s nv) (hq : runR T en (n + 1) .unary s = some (a, s')) (hl : s'.nodes.length ≤ 1000000) (K1 : Hid (isR T ((⟨#[45]⟩ : ByteArray)) s = true)) (K2 : Hid (isR T ((⟨#[33]⟩ : ByteArray)) s = false)) (HF : Hid ((openR T en ((⟨#[45]⟩ : ByteArray)) s).fc ≠ 0)) : Calls Tryz.prog 108 #[.pointer (some ⟨bp, 0, none⟩)] w (RDone w X bp la c T en (.int .i64 a) s') := by
  unfold runR at hq
  rw [if_pos (by rw [K1.out, K2.out]; decide)] at hq
  dsimp only at hq
  simp only [K2.out, Bool.false_eq_true, reduceIte] at hq
  obtain ⟨s1, hs1⟩ : ∃ s1, s1 = openR T en ((⟨#[45]⟩ : ByteArray)) s := ⟨_, rfl⟩
  rw [← hs1] at hq HF
  rw [if_pos HF.out] at hq
  injection hq with hq
  injection hq with e1 e2
  subst e1 e2
  have HS1 := Lib.hid hs1
  clear hs1
  go_enter Tryz.func108, Tryz.ntmps108
  go_wp2_with fail
  refine (rat_c h).mono ?_
  rintro e w1 ⟨rfl, h1, u1⟩
  clear h
  have U1 := Lib.hid u1; clear u1
  go_wp2_with fail
  refine (ris_c ((⟨#[45]⟩ : ByteArray)) h1).mono ?_
  rw [K1.out]
  rintro e w2 ⟨rfl, h2, u2⟩
  clear h1
  have U2 := Lib.hid (U1.out.trans u2); clear u2
  clear U1
  go_wp2_with fail
  refine (ris_c ((⟨#[33]⟩ : ByteArray)) h2).mono ?_
  rw [K2.out]
  rintro e w3 ⟨rfl, h3, u3⟩
  clear h2
  have U3 := Lib.hid (U2.out.trans u3); clear u3
  clear U2
  have HX := Lib.hid h3.high; have HLO := Lib.hid (Nat.le_of_lt h3.lt)
  go_upto_region 9 with (fail)
  refine wp_gen (fun W => RP W X bp la c T en s nv ∧ Upd w X W X ∧ W.heap[w3.heap.size]? = some (.cells #[.int .i64 17, .int .i64 0, .int .i64 (posR T en s), .string ⟨#[]⟩, .slice none 0 0] 57 (0, 0))) ⟨h3.alloc _, U3.out.alloc _, heap_alloc_new _ _⟩ ?_
  have HQX : Hid (¬ X w3.heap.size) := Lib.hid (fun e => by have := HX.out _ e; omega)
  have HQB : Hid (bp ≤ w3.heap.size) := HLO
  have HQ0 : Hid (w.heap.size ≤ w3.heap.size) := Lib.hid U3.out.size
  obtain ⟨q, hqq⟩ : ∃ q, q = w3.heap.size := ⟨_, rfl⟩
  rw [← hqq] at HQX HQB HQ0 ⊢
  clear hqq HX HLO h3
  rintro w20 ⟨h20, u20, hb20⟩
  have U20 := Lib.hid u20; have B20 := Lib.hid hb20
  clear u20 hb20 U3
  as_aux_lemma =>
  go_wp2_with fail
  refine (ropen_c ((⟨#[45]⟩ : ByteArray)) h20 R.len).mono ?_
  rintro e w21 ⟨rfl, h21, u21⟩
  clear h20
  have B_21 := Lib.hid (u21.keep B20.out HQX.out); have Bx_21 := Lib.hid (u21.notIn (lt_blk B20.out) HQX.out)
  clear B20 HQX
  have U21 := Lib.hid (U20.out.trans u21); clear u21
  clear U20
  rw [← HS1.out] at h21
  have g5 := h21.c5
  have hfb : (s1.fc != 0) = true := by simp [HF.out]
  go_wp2_with fail
  go_ret
  exact ⟨rfl, _, _, h21, U21.out⟩

set_option maxRecDepth 100000 in
set_option maxHeartbeats 1000000 in
theorem runary_m_ok (n : Nat) (R : RR bp la c T en n) (w : World) (X : Nat → Prop) (nv : Value) (s : RS) (a : Int) (s' : RS) (h : RP w X bp la c T en s nv) (hq : runR T en (n + 1) .unary s = some (a, s')) (hl : s'.nodes.length ≤ 1000000) (K1 : Hid (isR T ((⟨#[45]⟩ : ByteArray)) s = true)) (K2 : Hid (isR T ((⟨#[33]⟩ : ByteArray)) s = false)) (HF : Hid ((openR T en ((⟨#[45]⟩ : ByteArray)) s).fc = 0)) : Calls Tryz.prog 108 #[.pointer (some ⟨bp, 0, none⟩)] w (RDone w X bp la c T en (.int .i64 a) s') := by
  unfold runR at hq
  rw [if_pos (by rw [K1.out, K2.out]; decide)] at hq
  dsimp only at hq
  simp only [K2.out, Bool.false_eq_true, reduceIte] at hq
  obtain ⟨s1, hs1⟩ : ∃ s1, s1 = openR T en ((⟨#[45]⟩ : ByteArray)) s := ⟨_, rfl⟩
  rw [← hs1] at hq HF
  rw [if_neg (by rw [HF.out]; decide)] at hq
  obtain ⟨k, s2, q2, hq⟩ := bindR_eq.1 hq
  unfold putR at hq
  injection hq with hq
  injection hq with e1 e2
  subst e1 e2
  have HB : Hid (s2.nodes.length ≤ 1000000) := Lib.hid (by simp at hl; omega)
  have Q2 := Lib.hid q2
  clear hl q2
  have HS1 := Lib.hid hs1
  clear hs1
  go_enter Tryz.func108, Tryz.ntmps108
  go_wp2_with fail
  refine (rat_c h).mono ?_
  rintro e w1 ⟨rfl, h1, u1⟩
  clear h
  have U1 := Lib.hid u1; clear u1
  go_wp2_with fail
  refine (ris_c ((⟨#[45]⟩ : ByteArray)) h1).mono ?_
  rw [K1.out]
  rintro e w2 ⟨rfl, h2, u2⟩
  clear h1
  have U2 := Lib.hid (U1.out.trans u2); clear u2
  clear U1
  go_wp2_with fail
  refine (ris_c ((⟨#[33]⟩ : ByteArray)) h2).mono ?_
  rw [K2.out]
  rintro e w3 ⟨rfl, h3, u3⟩
  clear h2
  have U3 := Lib.hid (U2.out.trans u3); clear u3
  clear U2
  have HX := Lib.hid h3.high; have HLO := Lib.hid (Nat.le_of_lt h3.lt)
  go_upto_region 9 with (fail)
  refine wp_gen (fun W => RP W X bp la c T en s nv ∧ Upd w X W X ∧ W.heap[w3.heap.size]? = some (.cells #[.int .i64 17, .int .i64 0, .int .i64 (posR T en s), .string ⟨#[]⟩, .slice none 0 0] 57 (0, 0))) ⟨h3.alloc _, U3.out.alloc _, heap_alloc_new _ _⟩ ?_
  have HQX : Hid (¬ X w3.heap.size) := Lib.hid (fun e => by have := HX.out _ e; omega)
  have HQB : Hid (bp ≤ w3.heap.size) := HLO
  have HQ0 : Hid (w.heap.size ≤ w3.heap.size) := Lib.hid U3.out.size
  obtain ⟨q, hqq⟩ : ∃ q, q = w3.heap.size := ⟨_, rfl⟩
  rw [← hqq] at HQX HQB HQ0 ⊢
  clear hqq HX HLO h3
  rintro w20 ⟨h20, u20, hb20⟩
  have U20 := Lib.hid u20; have B20 := Lib.hid hb20
  clear u20 hb20 U3
  as_aux_lemma =>
  go_wp2_with fail
  refine (ropen_c ((⟨#[45]⟩ : ByteArray)) h20 R.len).mono ?_
  rintro e w21 ⟨rfl, h21, u21⟩
  clear h20
  have B_21 := Lib.hid (u21.keep B20.out HQX.out); have Bx_21 := Lib.hid (u21.notIn (lt_blk B20.out) HQX.out)
  clear B20 HQX
  have U21 := Lib.hid (U20.out.trans u21); clear u21
  clear U20
  rw [← HS1.out] at h21
  have g5 := h21.c5
  have hfb : (s1.fc != 0) = false := by simp [HF.out]
  go_wp2_with fail
  refine (R.unary _ _ _ _ _ _ h21 Q2.out HB.out).mono ?_
  rintro e w22 ⟨rfl, X22, nv22, h22, u22⟩
  clear h21
  have B_22 := Lib.hid (u22.keep B_21.out Bx_21.out); have Bx_22 := Lib.hid (u22.notIn (lt_blk B_21.out) Bx_21.out)
  clear B_21 Bx_21
  have U22 := Lib.hid (U21.out.trans u22); clear u22
  clear U21
  clear g5 hfb
  have g3 := h22.c3
  have f3 := h22.free 3
  have HP := Lib.hid (h22.setDeep (wrap64 (s2.deep - 1)))
  have HIX := Lib.hid h22.inX
  go_upto_region 14 with (fail)
  refine wp_gen (fun W => RP W X22 bp la c T en { s2 with deep := wrap64 (s2.deep - 1) } nv22 ∧ Upd w X W X22 ∧ W.heap[q]? = some (.cells #[.int .i64 17, .int .i64 0, .int .i64 (posR T en s), .string ⟨#[]⟩, .slice none 0 0] 57 (0, 0))) ⟨HP.out, (U22.out.trans ((Upd.refl w22 X22).setCell (a := ⟨bp, 3, none⟩) (.inl HIX.out) _)), by rw [blk_setCell_other _ (by show q ≠ bp; exact fun e => Bx_22.out (e ▸ HIX.out))]; exact B_22.out⟩ ?_
  clear g3 f3 HP h22 B_22
  rintro w30 ⟨h30, u30, hb30⟩
  have B30 := Lib.hid hb30
  have b0 : w30.cell? ⟨q, 0, none⟩ = some (.int .i64 17) := cell_blk hb30
  have b1 : w30.cell? ⟨q, 1, none⟩ = some (.int .i64 0) := cell_blk hb30
  have b2 : w30.cell? ⟨q, 2, none⟩ = some (.int .i64 (posR T en s)) := cell_blk hb30
  have b3 : w30.cell? ⟨q, 3, none⟩ = some (.string ⟨#[]⟩) := cell_blk hb30
  have b4 : w30.cell? ⟨q, 4, none⟩ = some (.slice none 0 0) := cell_blk hb30
  have bf : ∀ o, w30.frozen? ⟨q, o, none⟩ = false := fun o => free_blk hb30
  have hql : q < w30.heap.size := lt_blk hb30
  clear hb30
  have HP31 := Lib.hid ((h30.other (a := ⟨q, 4, none⟩) Bx_22.out HQB.out (.slice (some ⟨w30.heap.size, 0, none⟩) 1 1)).alloc (.cells #[.int .i64 k] 3))
  have HU31 : Hid (Upd w X ((w30.setCell ⟨q, 4, none⟩ (.slice (some ⟨w30.heap.size, 0, none⟩) 1 1)).alloc (.cells #[.int .i64 k] 3)) X22) := Lib.hid ((u30.setCell (a := ⟨q, 4, none⟩) (.inr HQ0.out) _).alloc _)
  have HK31 : Hid (KidsAt ((w30.setCell ⟨q, 4, none⟩ (.slice (some ⟨w30.heap.size, 0, none⟩) 1 1)).alloc (.cells #[.int .i64 k] 3)) (.slice (some ⟨w30.heap.size, 0, none⟩) 1 1) [k]) := Lib.hid (kids_blk (kids := [k]) (blk_new (by simp)) (by simp))
  have HX31 : Hid (∀ g, (Value.slice (some ⟨w30.heap.size, 0, none⟩) 1 1).ownBlock = some g → ¬ X22 g ∧ bp ≤ g ∧ w.heap.size ≤ g) := Lib.hid (fun g hg => by
    simp only [Value.ownBlock, Option.some.injEq] at hg
    subst hg
    exact ⟨fun e => by have := h30.high _ e; omega, Nat.le_of_lt h30.lt, u30.size⟩)
  clear h30 u30
  as_aux_lemma =>
  go_wp2_with fail
  refine (rnode_kids 17 0 _ _ _ [k] HP31.out HU31.out HB.out HK31.out HX31.out).mono ?_
  rintro e w40 ⟨rfl, X40, nv40, h40, u40⟩
  clear b0 b1 b2 b3 b4 bf
  go_wp2_with fail
  go_ret
  exact ⟨rfl, _, _, h40, u40⟩

set_option maxRecDepth 100000 in
set_option maxHeartbeats 1000000 in
theorem runary_n_bad (n : Nat) (R : RR bp la c T en n) (w : World) (X : Nat → Prop) (nv : Value) (s : RS) (a : Int) (s' : RS) (h : RP w X bp la c T en s nv) (hq : runR T en (n + 1) .unary s = some (a, s')) (hl : s'.nodes.length ≤ 1000000) (K1 : Hid (isR T ((⟨#[45]⟩ : ByteArray)) s = false)) (K2 : Hid (isR T ((⟨#[33]⟩ : ByteArray)) s = true)) (HF : Hid ((openR T en ((⟨#[33]⟩ : ByteArray)) s).fc ≠ 0)) : Calls Tryz.prog 108 #[.pointer (some ⟨bp, 0, none⟩)] w (RDone w X bp la c T en (.int .i64 a) s') := by
  unfold runR at hq
  rw [if_pos (by rw [K1.out, K2.out]; decide)] at hq
  dsimp only at hq
  simp only [K2.out, Bool.false_eq_true, reduceIte] at hq
  obtain ⟨s1, hs1⟩ : ∃ s1, s1 = openR T en ((⟨#[33]⟩ : ByteArray)) s := ⟨_, rfl⟩
  rw [← hs1] at hq HF
  rw [if_pos HF.out] at hq
  injection hq with hq
  injection hq with e1 e2
  subst e1 e2
  have HS1 := Lib.hid hs1
  clear hs1
  go_enter Tryz.func108, Tryz.ntmps108
  go_wp2_with fail
  refine (rat_c h).mono ?_
  rintro e w1 ⟨rfl, h1, u1⟩
  clear h
  have U1 := Lib.hid u1; clear u1
  go_wp2_with fail
  refine (ris_c ((⟨#[45]⟩ : ByteArray)) h1).mono ?_
  rw [K1.out]
  rintro e w2 ⟨rfl, h2, u2⟩
  clear h1
  have U2 := Lib.hid (U1.out.trans u2); clear u2
  clear U1
  go_wp2_with fail
  refine (ris_c ((⟨#[33]⟩ : ByteArray)) h2).mono ?_
  rw [K2.out]
  rintro e w3 ⟨rfl, h3, u3⟩
  clear h2
  have U3 := Lib.hid (U2.out.trans u3); clear u3
  clear U2
  have HX := Lib.hid h3.high; have HLO := Lib.hid (Nat.le_of_lt h3.lt)
  go_upto_region 8 with (fail)
  refine wp_gen (fun W => RP W X bp la c T en s nv ∧ Upd w X W X ∧ W.heap[w3.heap.size]? = some (.cells #[.int .i64 18, .int .i64 0, .int .i64 (posR T en s), .string ⟨#[]⟩, .slice none 0 0] 57 (0, 0))) ⟨h3.alloc _, U3.out.alloc _, heap_alloc_new _ _⟩ ?_
  have HQX : Hid (¬ X w3.heap.size) := Lib.hid (fun e => by have := HX.out _ e; omega)
  have HQB : Hid (bp ≤ w3.heap.size) := HLO
  have HQ0 : Hid (w.heap.size ≤ w3.heap.size) := Lib.hid U3.out.size
  obtain ⟨q, hqq⟩ : ∃ q, q = w3.heap.size := ⟨_, rfl⟩
  rw [← hqq] at HQX HQB HQ0 ⊢
  clear hqq HX HLO h3
  rintro w20 ⟨h20, u20, hb20⟩
  have U20 := Lib.hid u20; have B20 := Lib.hid hb20
  clear u20 hb20 U3
  as_aux_lemma =>
  go_wp2_with fail
  refine (ropen_c ((⟨#[33]⟩ : ByteArray)) h20 R.len).mono ?_
  rintro e w21 ⟨rfl, h21, u21⟩
  clear h20
  have B_21 := Lib.hid (u21.keep B20.out HQX.out); have Bx_21 := Lib.hid (u21.notIn (lt_blk B20.out) HQX.out)
  clear B20 HQX
  have U21 := Lib.hid (U20.out.trans u21); clear u21
  clear U20
  rw [← HS1.out] at h21
  have g5 := h21.c5
  have hfb : (s1.fc != 0) = true := by simp [HF.out]
  go_wp2_with fail
  go_ret
  exact ⟨rfl, _, _, h21, U21.out⟩

set_option maxRecDepth 100000 in
set_option maxHeartbeats 1000000 in
theorem runary_n_ok (n : Nat) (R : RR bp la c T en n) (w : World) (X : Nat → Prop) (nv : Value) (s : RS) (a : Int) (s' : RS) (h : RP w X bp la c T en s nv) (hq : runR T en (n + 1) .unary s = some (a, s')) (hl : s'.nodes.length ≤ 1000000) (K1 : Hid (isR T ((⟨#[45]⟩ : ByteArray)) s = false)) (K2 : Hid (isR T ((⟨#[33]⟩ : ByteArray)) s = true)) (HF : Hid ((openR T en ((⟨#[33]⟩ : ByteArray)) s).fc = 0)) : Calls Tryz.prog 108 #[.pointer (some ⟨bp, 0, none⟩)] w (RDone w X bp la c T en (.int .i64 a) s') := by
  unfold runR at hq
  rw [if_pos (by rw [K1.out, K2.out]; decide)] at hq
  dsimp only at hq
  simp only [K2.out, Bool.false_eq_true, reduceIte] at hq
  obtain ⟨s1, hs1⟩ : ∃ s1, s1 = openR T en ((⟨#[33]⟩ : ByteArray)) s := ⟨_, rfl⟩
  rw [← hs1] at hq HF
  rw [if_neg (by rw [HF.out]; decide)] at hq
  obtain ⟨k, s2, q2, hq⟩ := bindR_eq.1 hq
  unfold putR at hq
  injection hq with hq
  injection hq with e1 e2
  subst e1 e2
  have HB : Hid (s2.nodes.length ≤ 1000000) := Lib.hid (by simp at hl; omega)
  have Q2 := Lib.hid q2
  clear hl q2
  have HS1 := Lib.hid hs1
  clear hs1
  go_enter Tryz.func108, Tryz.ntmps108
  go_wp2_with fail
  refine (rat_c h).mono ?_
  rintro e w1 ⟨rfl, h1, u1⟩
  clear h
  have U1 := Lib.hid u1; clear u1
  go_wp2_with fail
  refine (ris_c ((⟨#[45]⟩ : ByteArray)) h1).mono ?_
  rw [K1.out]
  rintro e w2 ⟨rfl, h2, u2⟩
  clear h1
  have U2 := Lib.hid (U1.out.trans u2); clear u2
  clear U1
  go_wp2_with fail
  refine (ris_c ((⟨#[33]⟩ : ByteArray)) h2).mono ?_
  rw [K2.out]
  rintro e w3 ⟨rfl, h3, u3⟩
  clear h2
  have U3 := Lib.hid (U2.out.trans u3); clear u3
  clear U2
  have HX := Lib.hid h3.high; have HLO := Lib.hid (Nat.le_of_lt h3.lt)
  go_upto_region 8 with (fail)
  refine wp_gen (fun W => RP W X bp la c T en s nv ∧ Upd w X W X ∧ W.heap[w3.heap.size]? = some (.cells #[.int .i64 18, .int .i64 0, .int .i64 (posR T en s), .string ⟨#[]⟩, .slice none 0 0] 57 (0, 0))) ⟨h3.alloc _, U3.out.alloc _, heap_alloc_new _ _⟩ ?_
  have HQX : Hid (¬ X w3.heap.size) := Lib.hid (fun e => by have := HX.out _ e; omega)
  have HQB : Hid (bp ≤ w3.heap.size) := HLO
  have HQ0 : Hid (w.heap.size ≤ w3.heap.size) := Lib.hid U3.out.size
  obtain ⟨q, hqq⟩ : ∃ q, q = w3.heap.size := ⟨_, rfl⟩
  rw [← hqq] at HQX HQB HQ0 ⊢
  clear hqq HX HLO h3
  rintro w20 ⟨h20, u20, hb20⟩
  have U20 := Lib.hid u20; have B20 := Lib.hid hb20
  clear u20 hb20 U3
  as_aux_lemma =>
  go_wp2_with fail
  refine (ropen_c ((⟨#[33]⟩ : ByteArray)) h20 R.len).mono ?_
  rintro e w21 ⟨rfl, h21, u21⟩
  clear h20
  have B_21 := Lib.hid (u21.keep B20.out HQX.out); have Bx_21 := Lib.hid (u21.notIn (lt_blk B20.out) HQX.out)
  clear B20 HQX
  have U21 := Lib.hid (U20.out.trans u21); clear u21
  clear U20
  rw [← HS1.out] at h21
  have g5 := h21.c5
  have hfb : (s1.fc != 0) = false := by simp [HF.out]
  go_wp2_with fail
  refine (R.unary _ _ _ _ _ _ h21 Q2.out HB.out).mono ?_
  rintro e w22 ⟨rfl, X22, nv22, h22, u22⟩
  clear h21
  have B_22 := Lib.hid (u22.keep B_21.out Bx_21.out); have Bx_22 := Lib.hid (u22.notIn (lt_blk B_21.out) Bx_21.out)
  clear B_21 Bx_21
  have U22 := Lib.hid (U21.out.trans u22); clear u22
  clear U21
  clear g5 hfb
  have g3 := h22.c3
  have f3 := h22.free 3
  have HP := Lib.hid (h22.setDeep (wrap64 (s2.deep - 1)))
  have HIX := Lib.hid h22.inX
  go_upto_region 14 with (fail)
  refine wp_gen (fun W => RP W X22 bp la c T en { s2 with deep := wrap64 (s2.deep - 1) } nv22 ∧ Upd w X W X22 ∧ W.heap[q]? = some (.cells #[.int .i64 18, .int .i64 0, .int .i64 (posR T en s), .string ⟨#[]⟩, .slice none 0 0] 57 (0, 0))) ⟨HP.out, (U22.out.trans ((Upd.refl w22 X22).setCell (a := ⟨bp, 3, none⟩) (.inl HIX.out) _)), by rw [blk_setCell_other _ (by show q ≠ bp; exact fun e => Bx_22.out (e ▸ HIX.out))]; exact B_22.out⟩ ?_
  clear g3 f3 HP h22 B_22
  rintro w30 ⟨h30, u30, hb30⟩
  have B30 := Lib.hid hb30
  have b0 : w30.cell? ⟨q, 0, none⟩ = some (.int .i64 18) := cell_blk hb30
  have b1 : w30.cell? ⟨q, 1, none⟩ = some (.int .i64 0) := cell_blk hb30
  have b2 : w30.cell? ⟨q, 2, none⟩ = some (.int .i64 (posR T en s)) := cell_blk hb30
  have b3 : w30.cell? ⟨q, 3, none⟩ = some (.string ⟨#[]⟩) := cell_blk hb30
  have b4 : w30.cell? ⟨q, 4, none⟩ = some (.slice none 0 0) := cell_blk hb30
  have bf : ∀ o, w30.frozen? ⟨q, o, none⟩ = false := fun o => free_blk hb30
  have hql : q < w30.heap.size := lt_blk hb30
  clear hb30
  have HP31 := Lib.hid ((h30.other (a := ⟨q, 4, none⟩) Bx_22.out HQB.out (.slice (some ⟨w30.heap.size, 0, none⟩) 1 1)).alloc (.cells #[.int .i64 k] 3))
  have HU31 : Hid (Upd w X ((w30.setCell ⟨q, 4, none⟩ (.slice (some ⟨w30.heap.size, 0, none⟩) 1 1)).alloc (.cells #[.int .i64 k] 3)) X22) := Lib.hid ((u30.setCell (a := ⟨q, 4, none⟩) (.inr HQ0.out) _).alloc _)
  have HK31 : Hid (KidsAt ((w30.setCell ⟨q, 4, none⟩ (.slice (some ⟨w30.heap.size, 0, none⟩) 1 1)).alloc (.cells #[.int .i64 k] 3)) (.slice (some ⟨w30.heap.size, 0, none⟩) 1 1) [k]) := Lib.hid (kids_blk (kids := [k]) (blk_new (by simp)) (by simp))
  have HX31 : Hid (∀ g, (Value.slice (some ⟨w30.heap.size, 0, none⟩) 1 1).ownBlock = some g → ¬ X22 g ∧ bp ≤ g ∧ w.heap.size ≤ g) := Lib.hid (fun g hg => by
    simp only [Value.ownBlock, Option.some.injEq] at hg
    subst hg
    exact ⟨fun e => by have := h30.high _ e; omega, Nat.le_of_lt h30.lt, u30.size⟩)
  clear h30 u30
  as_aux_lemma =>
  go_wp2_with fail
  refine (rnode_kids 18 0 _ _ _ [k] HP31.out HU31.out HB.out HK31.out HX31.out).mono ?_
  rintro e w40 ⟨rfl, X40, nv40, h40, u40⟩
  clear b0 b1 b2 b3 b4 bf
  go_wp2_with fail
  go_ret
  exact ⟨rfl, _, _, h40, u40⟩

set_option maxRecDepth 100000 in
set_option maxHeartbeats 1000000 in
theorem runary_mn_bad (n : Nat) (R : RR bp la c T en n) (w : World) (X : Nat → Prop) (nv : Value) (s : RS) (a : Int) (s' : RS) (h : RP w X bp la c T en s nv) (hq : runR T en (n + 1) .unary s = some (a, s')) (hl : s'.nodes.length ≤ 1000000) (K1 : Hid (isR T ((⟨#[45]⟩ : ByteArray)) s = true)) (K2 : Hid (isR T ((⟨#[33]⟩ : ByteArray)) s = true)) (HF : Hid ((openR T en ((⟨#[33]⟩ : ByteArray)) s).fc ≠ 0)) : Calls Tryz.prog 108 #[.pointer (some ⟨bp, 0, none⟩)] w (RDone w X bp la c T en (.int .i64 a) s') := by
  unfold runR at hq
  rw [if_pos (by rw [K1.out, K2.out]; decide)] at hq
  dsimp only at hq
  simp only [K2.out, Bool.false_eq_true, reduceIte] at hq
  obtain ⟨s1, hs1⟩ : ∃ s1, s1 = openR T en ((⟨#[33]⟩ : ByteArray)) s := ⟨_, rfl⟩
  rw [← hs1] at hq HF
  rw [if_pos HF.out] at hq
  injection hq with hq
  injection hq with e1 e2
  subst e1 e2
  have HS1 := Lib.hid hs1
  clear hs1
  go_enter Tryz.func108, Tryz.ntmps108
  go_wp2_with fail
  refine (rat_c h).mono ?_
  rintro e w1 ⟨rfl, h1, u1⟩
  clear h
  have U1 := Lib.hid u1; clear u1
  go_wp2_with fail
  refine (ris_c ((⟨#[45]⟩ : ByteArray)) h1).mono ?_
  rw [K1.out]
  rintro e w2 ⟨rfl, h2, u2⟩
  clear h1
  have U2 := Lib.hid (U1.out.trans u2); clear u2
  clear U1
  go_wp2_with fail
  refine (ris_c ((⟨#[33]⟩ : ByteArray)) h2).mono ?_
  rw [K2.out]
  rintro e w3 ⟨rfl, h3, u3⟩
  clear h2
  have U3 := Lib.hid (U2.out.trans u3); clear u3
  clear U2
  have HX := Lib.hid h3.high; have HLO := Lib.hid (Nat.le_of_lt h3.lt)
  go_upto_region 8 with (fail)
  refine wp_gen (fun W => RP W X bp la c T en s nv ∧ Upd w X W X ∧ W.heap[w3.heap.size]? = some (.cells #[.int .i64 18, .int .i64 0, .int .i64 (posR T en s), .string ⟨#[]⟩, .slice none 0 0] 57 (0, 0))) ⟨h3.alloc _, U3.out.alloc _, heap_alloc_new _ _⟩ ?_
  have HQX : Hid (¬ X w3.heap.size) := Lib.hid (fun e => by have := HX.out _ e; omega)
  have HQB : Hid (bp ≤ w3.heap.size) := HLO
  have HQ0 : Hid (w.heap.size ≤ w3.heap.size) := Lib.hid U3.out.size
  obtain ⟨q, hqq⟩ : ∃ q, q = w3.heap.size := ⟨_, rfl⟩
  rw [← hqq] at HQX HQB HQ0 ⊢
  clear hqq HX HLO h3
  rintro w20 ⟨h20, u20, hb20⟩
  have U20 := Lib.hid u20; have B20 := Lib.hid hb20
  clear u20 hb20 U3
  as_aux_lemma =>
  go_wp2_with fail
  refine (ropen_c ((⟨#[33]⟩ : ByteArray)) h20 R.len).mono ?_
  rintro e w21 ⟨rfl, h21, u21⟩
  clear h20
  have B_21 := Lib.hid (u21.keep B20.out HQX.out); have Bx_21 := Lib.hid (u21.notIn (lt_blk B20.out) HQX.out)
  clear B20 HQX
  have U21 := Lib.hid (U20.out.trans u21); clear u21
  clear U20
  rw [← HS1.out] at h21
  have g5 := h21.c5
  have hfb : (s1.fc != 0) = true := by simp [HF.out]
  go_wp2_with fail
  go_ret
  exact ⟨rfl, _, _, h21, U21.out⟩

set_option maxRecDepth 100000 in
set_option maxHeartbeats 1000000 in
theorem runary_mn_ok (n : Nat) (R : RR bp la c T en n) (w : World) (X : Nat → Prop) (nv : Value) (s : RS) (a : Int) (s' : RS) (h : RP w X bp la c T en s nv) (hq : runR T en (n + 1) .unary s = some (a, s')) (hl : s'.nodes.length ≤ 1000000) (K1 : Hid (isR T ((⟨#[45]⟩ : ByteArray)) s = true)) (K2 : Hid (isR T ((⟨#[33]⟩ : ByteArray)) s = true)) (HF : Hid ((openR T en ((⟨#[33]⟩ : ByteArray)) s).fc = 0)) : Calls Tryz.prog 108 #[.pointer (some ⟨bp, 0, none⟩)] w (RDone w X bp la c T en (.int .i64 a) s') := by
  unfold runR at hq
  rw [if_pos (by rw [K1.out, K2.out]; decide)] at hq
  dsimp only at hq
  simp only [K2.out, Bool.false_eq_true, reduceIte] at hq
  obtain ⟨s1, hs1⟩ : ∃ s1, s1 = openR T en ((⟨#[33]⟩ : ByteArray)) s := ⟨_, rfl⟩
  rw [← hs1] at hq HF
  rw [if_neg (by rw [HF.out]; decide)] at hq
  obtain ⟨k, s2, q2, hq⟩ := bindR_eq.1 hq
  unfold putR at hq
  injection hq with hq
  injection hq with e1 e2
  subst e1 e2
  have HB : Hid (s2.nodes.length ≤ 1000000) := Lib.hid (by simp at hl; omega)
  have Q2 := Lib.hid q2
  clear hl q2
  have HS1 := Lib.hid hs1
  clear hs1
  go_enter Tryz.func108, Tryz.ntmps108
  go_wp2_with fail
  refine (rat_c h).mono ?_
  rintro e w1 ⟨rfl, h1, u1⟩
  clear h
  have U1 := Lib.hid u1; clear u1
  go_wp2_with fail
  refine (ris_c ((⟨#[45]⟩ : ByteArray)) h1).mono ?_
  rw [K1.out]
  rintro e w2 ⟨rfl, h2, u2⟩
  clear h1
  have U2 := Lib.hid (U1.out.trans u2); clear u2
  clear U1
  go_wp2_with fail
  refine (ris_c ((⟨#[33]⟩ : ByteArray)) h2).mono ?_
  rw [K2.out]
  rintro e w3 ⟨rfl, h3, u3⟩
  clear h2
  have U3 := Lib.hid (U2.out.trans u3); clear u3
  clear U2
  have HX := Lib.hid h3.high; have HLO := Lib.hid (Nat.le_of_lt h3.lt)
  go_upto_region 8 with (fail)
  refine wp_gen (fun W => RP W X bp la c T en s nv ∧ Upd w X W X ∧ W.heap[w3.heap.size]? = some (.cells #[.int .i64 18, .int .i64 0, .int .i64 (posR T en s), .string ⟨#[]⟩, .slice none 0 0] 57 (0, 0))) ⟨h3.alloc _, U3.out.alloc _, heap_alloc_new _ _⟩ ?_
  have HQX : Hid (¬ X w3.heap.size) := Lib.hid (fun e => by have := HX.out _ e; omega)
  have HQB : Hid (bp ≤ w3.heap.size) := HLO
  have HQ0 : Hid (w.heap.size ≤ w3.heap.size) := Lib.hid U3.out.size
  obtain ⟨q, hqq⟩ : ∃ q, q = w3.heap.size := ⟨_, rfl⟩
  rw [← hqq] at HQX HQB HQ0 ⊢
  clear hqq HX HLO h3
  rintro w20 ⟨h20, u20, hb20⟩
  have U20 := Lib.hid u20; have B20 := Lib.hid hb20
  clear u20 hb20 U3
  as_aux_lemma =>
  go_wp2_with fail
  refine (ropen_c ((⟨#[33]⟩ : ByteArray)) h20 R.len).mono ?_
  rintro e w21 ⟨rfl, h21, u21⟩
  clear h20
  have B_21 := Lib.hid (u21.keep B20.out HQX.out); have Bx_21 := Lib.hid (u21.notIn (lt_blk B20.out) HQX.out)
  clear B20 HQX
  have U21 := Lib.hid (U20.out.trans u21); clear u21
  clear U20
  rw [← HS1.out] at h21
  have g5 := h21.c5
  have hfb : (s1.fc != 0) = false := by simp [HF.out]
  go_wp2_with fail
  refine (R.unary _ _ _ _ _ _ h21 Q2.out HB.out).mono ?_
  rintro e w22 ⟨rfl, X22, nv22, h22, u22⟩
  clear h21
  have B_22 := Lib.hid (u22.keep B_21.out Bx_21.out); have Bx_22 := Lib.hid (u22.notIn (lt_blk B_21.out) Bx_21.out)
  clear B_21 Bx_21
  have U22 := Lib.hid (U21.out.trans u22); clear u22
  clear U21
  clear g5 hfb
  have g3 := h22.c3
  have f3 := h22.free 3
  have HP := Lib.hid (h22.setDeep (wrap64 (s2.deep - 1)))
  have HIX := Lib.hid h22.inX
  go_upto_region 14 with (fail)
  refine wp_gen (fun W => RP W X22 bp la c T en { s2 with deep := wrap64 (s2.deep - 1) } nv22 ∧ Upd w X W X22 ∧ W.heap[q]? = some (.cells #[.int .i64 18, .int .i64 0, .int .i64 (posR T en s), .string ⟨#[]⟩, .slice none 0 0] 57 (0, 0))) ⟨HP.out, (U22.out.trans ((Upd.refl w22 X22).setCell (a := ⟨bp, 3, none⟩) (.inl HIX.out) _)), by rw [blk_setCell_other _ (by show q ≠ bp; exact fun e => Bx_22.out (e ▸ HIX.out))]; exact B_22.out⟩ ?_
  clear g3 f3 HP h22 B_22
  rintro w30 ⟨h30, u30, hb30⟩
  have B30 := Lib.hid hb30
  have b0 : w30.cell? ⟨q, 0, none⟩ = some (.int .i64 18) := cell_blk hb30
  have b1 : w30.cell? ⟨q, 1, none⟩ = some (.int .i64 0) := cell_blk hb30
  have b2 : w30.cell? ⟨q, 2, none⟩ = some (.int .i64 (posR T en s)) := cell_blk hb30
  have b3 : w30.cell? ⟨q, 3, none⟩ = some (.string ⟨#[]⟩) := cell_blk hb30
  have b4 : w30.cell? ⟨q, 4, none⟩ = some (.slice none 0 0) := cell_blk hb30
  have bf : ∀ o, w30.frozen? ⟨q, o, none⟩ = false := fun o => free_blk hb30
  have hql : q < w30.heap.size := lt_blk hb30
  clear hb30
  have HP31 := Lib.hid ((h30.other (a := ⟨q, 4, none⟩) Bx_22.out HQB.out (.slice (some ⟨w30.heap.size, 0, none⟩) 1 1)).alloc (.cells #[.int .i64 k] 3))
  have HU31 : Hid (Upd w X ((w30.setCell ⟨q, 4, none⟩ (.slice (some ⟨w30.heap.size, 0, none⟩) 1 1)).alloc (.cells #[.int .i64 k] 3)) X22) := Lib.hid ((u30.setCell (a := ⟨q, 4, none⟩) (.inr HQ0.out) _).alloc _)
  have HK31 : Hid (KidsAt ((w30.setCell ⟨q, 4, none⟩ (.slice (some ⟨w30.heap.size, 0, none⟩) 1 1)).alloc (.cells #[.int .i64 k] 3)) (.slice (some ⟨w30.heap.size, 0, none⟩) 1 1) [k]) := Lib.hid (kids_blk (kids := [k]) (blk_new (by simp)) (by simp))
  have HX31 : Hid (∀ g, (Value.slice (some ⟨w30.heap.size, 0, none⟩) 1 1).ownBlock = some g → ¬ X22 g ∧ bp ≤ g ∧ w.heap.size ≤ g) := Lib.hid (fun g hg => by
    simp only [Value.ownBlock, Option.some.injEq] at hg
    subst hg
    exact ⟨fun e => by have := h30.high _ e; omega, Nat.le_of_lt h30.lt, u30.size⟩)
  clear h30 u30
  as_aux_lemma =>
  go_wp2_with fail
  refine (rnode_kids 18 0 _ _ _ [k] HP31.out HU31.out HB.out HK31.out HX31.out).mono ?_
  rintro e w40 ⟨rfl, X40, nv40, h40, u40⟩
  clear b0 b1 b2 b3 b4 bf
  go_wp2_with fail
  go_ret
  exact ⟨rfl, _, _, h40, u40⟩

set_option maxRecDepth 100000 in
set_option maxHeartbeats 1000000 in
theorem runary_held (n : Nat) (R : RR bp la c T en n) (w : World) (X : Nat → Prop) (nv : Value) (s : RS) (a : Int) (s' : RS) (h : RP w X bp la c T en s nv) (hq : runR T en (n + 1) .unary s = some (a, s')) (hl : s'.nodes.length ≤ 1000000) (K1 : Hid (isR T ((⟨#[45]⟩ : ByteArray)) s = false)) (K2 : Hid (isR T ((⟨#[33]⟩ : ByteArray)) s = false)) (K3 : Hid (isR T ((⟨#[40]⟩ : ByteArray)) s = true)) : Calls Tryz.prog 108 #[.pointer (some ⟨bp, 0, none⟩)] w (RDone w X bp la c T en (.int .i64 a) s') := by
  unfold runR at hq
  rw [if_neg (by rw [K1.out, K2.out]; decide), if_pos K3.out] at hq
  have HQ := Lib.hid hq; have HL := Lib.hid hl
  clear hq hl
  go_enter Tryz.func108, Tryz.ntmps108
  go_wp2_with fail
  refine (rat_c h).mono ?_
  rintro e w1 ⟨rfl, h1, u1⟩
  clear h
  have U1 := Lib.hid u1; clear u1
  go_wp2_with fail
  refine (ris_c ((⟨#[45]⟩ : ByteArray)) h1).mono ?_
  rw [K1.out]
  rintro e w2 ⟨rfl, h2, u2⟩
  clear h1
  have U2 := Lib.hid (U1.out.trans u2); clear u2
  clear U1
  go_wp2_with fail
  refine (ris_c ((⟨#[33]⟩ : ByteArray)) h2).mono ?_
  rw [K2.out]
  rintro e w3 ⟨rfl, h3, u3⟩
  clear h2
  have U3 := Lib.hid (U2.out.trans u3); clear u3
  clear U2
  go_wp2_with fail
  refine (ris_c ((⟨#[40]⟩ : ByteArray)) h3).mono ?_
  rw [K3.out]
  rintro e w4 ⟨rfl, h4, u4⟩
  clear h3
  have U4 := Lib.hid (U3.out.trans u4); clear u4
  clear U3
  go_wp2_with fail
  refine (R.held _ _ _ _ _ _ h4 HQ.out HL.out).mono ?_
  rintro e w5 ⟨rfl, X5, nv5, h5, u5⟩
  clear h4
  have U5 := Lib.hid (U4.out.trans u5); clear u5
  clear U4
  go_wp2_with fail
  go_ret
  exact ⟨rfl, _, _, h5, U5.out⟩

set_option maxRecDepth 100000 in
set_option maxHeartbeats 1000000 in
theorem runary_yes (n : Nat) (R : RR bp la c T en n) (w : World) (X : Nat → Prop) (nv : Value) (s : RS) (a : Int) (s' : RS) (h : RP w X bp la c T en s nv) (hq : runR T en (n + 1) .unary s = some (a, s')) (hl : s'.nodes.length ≤ 1000000) (K1 : Hid (isR T ((⟨#[45]⟩ : ByteArray)) s = false)) (K2 : Hid (isR T ((⟨#[33]⟩ : ByteArray)) s = false)) (K3 : Hid (isR T ((⟨#[40]⟩ : ByteArray)) s = false)) (t : Tk) (HT : Hid (T[s.i]? = some t)) (hk : t.kind = 3) : Calls Tryz.prog 108 #[.pointer (some ⟨bp, 0, none⟩)] w (RDone w X bp la c T en (.int .i64 a) s') := by
  unfold runR at hq
  rw [if_neg (by rw [K1.out, K2.out]; decide), if_neg (by rw [K3.out]; decide)] at hq
  have hkk : kindR T 3 s = true := by simp [kindR, HT.out, hk]
  have htk : tokR T s = t := by simp only [tokR, List.getD_eq_getElem?_getD, HT.out]; rfl
  rw [if_pos hkk, htk] at hq
  clear hkk htk
  unfold putR at hq
  injection hq with hq
  injection hq with e1 e2
  subst e1 e2
  have HB : Hid (s.nodes.length ≤ 1000000) := Lib.hid (by simp at hl; omega)
  clear hl
  go_enter Tryz.func108, Tryz.ntmps108
  go_wp2_with fail
  refine (rat_c h).mono ?_
  rintro e w1 ⟨rfl, h1, u1⟩
  clear h
  have U1 := Lib.hid u1; clear u1
  go_wp2_with fail
  refine (ris_c ((⟨#[45]⟩ : ByteArray)) h1).mono ?_
  rw [K1.out]
  rintro e w2 ⟨rfl, h2, u2⟩
  clear h1
  have U2 := Lib.hid (U1.out.trans u2); clear u2
  clear U1
  go_wp2_with fail
  refine (ris_c ((⟨#[33]⟩ : ByteArray)) h2).mono ?_
  rw [K2.out]
  rintro e w3 ⟨rfl, h3, u3⟩
  clear h2
  have U3 := Lib.hid (U2.out.trans u3); clear u3
  clear U2
  go_wp2_with fail
  refine (ris_c ((⟨#[40]⟩ : ByteArray)) h3).mono ?_
  rw [K3.out]
  rintro e w4 ⟨rfl, h4, u4⟩
  clear h3
  have U4 := Lib.hid (U3.out.trans u4); clear u4
  clear U3
  have HX := Lib.hid h4.inX
  have HH := Lib.hid h4
  have c0 := h4.c0
  have c2 := h4.c2
  obtain ⟨i, hI⟩ : ∃ i, i = s.i := ⟨_, rfl⟩
  rw [← hI] at c2
  have hi : i < T.length := by rw [hI]; exact (List.getElem?_eq_some_iff.1 HT.out).1
  obtain ⟨bl, rfl, t0, t1, t2, t3⟩ := toks_cells h4 HT.out
  rw [← hI] at t0 t1 t2 t3
  have HI := Lib.hid hI
  clear hI h4
  have hd : decide ((i : Int) < (T.length : Int)) = true := by simp; omega
  have hd2 : decide (i < T.length) = true := by simp; omega
  rw [hk] at t0
  go_upto_region 19 with (fail)
  go_quiet (fail)
  generalize hw9 : World.drewN w4 _ = w9
  have HP9 : Hid (RP w9 X bp (some ⟨bl, 0, none⟩) c T en s nv ∧ Upd w X w9 X) := Lib.hid (by rw [← hw9]; exact ⟨HH.out.drewN _, U4.out.drewN _⟩)
  clear hw9 c0 c2 t0 t1 t2 t3 HH
  have c2 : w9.cell? ⟨bp, 2, none⟩ = some (.int .i64 i) := by rw [HI.out]; exact HP9.out.1.c2
  have f2 := HP9.out.1.free 2
  have hi5 : T.length ≤ 5000 := R.len
  go_upto_region 21 with (fail)
  refine wp_gen (fun W => RP W X bp (some ⟨bl, 0, none⟩) c T en (stepR s) nv ∧ Upd w X W X) ⟨by
    have := HP9.out.1.setI (s.i + 1)
    rw [HI.out]
    exact this, HP9.out.2.setCell (a := ⟨bp, 2, none⟩) (.inl HX.out) _⟩ ?_
  clear c2 f2 HP9
  rintro w10 ⟨h10, u10⟩
  have U10 := Lib.hid u10; have H10 := Lib.hid h10
  obtain ⟨bl', e', _, _, t0, t1, t2, t3⟩ := h10.toks i t (by rw [HI.out]; exact HT.out)
  obtain rfl : bl = bl' := by injection e' with e'; injection e'
  clear e'
  have c0 := h10.c0
  have c2 : w10.cell? ⟨bp, 2, none⟩ = some (.int .i64 ((i : Int) + 1)) := by rw [HI.out]; exact h10.c2
  clear h10 u10
  have hi1 : (0 : Int) ≤ (i : Int) := by omega
  have hi2 : (i : Int) < (T.length : Int) := by omega
  have hwr : IntKind.i64.wrap (i : Int) = i := IntWalk.i64_in _ (by omega)
  go_region_with ((go_at_call 24; refine (rnode_nil 15 t.num (posR T en s) ⟨#[]⟩ H10.out.drew (by simpa using HB.out)).mono ?_; rintro e w11 ⟨rfl, X11, nv11, h11, u11⟩))
  all_goals
    refine rnorm (fun W => ∃ X11 nv11, RP W X11 bp (some ⟨bl, 0, none⟩) c T en (nodeR ⟨15, t.num, posR T en s, ⟨#[]⟩, []⟩ (stepR s)) nv11 ∧ Upd w X W X11) ⟨_, _, h11, U10.out.trans (((Upd.refl _ _).drew).trans u11)⟩ ?_
    rintro w12 ⟨X12, nv12, h12, u12⟩
    clear h11 u11
    go_wp2_with fail
    go_ret
    exact ⟨ret_int (by simp), _, _, h12, u12⟩

set_option maxRecDepth 100000 in
set_option maxHeartbeats 1000000 in
theorem runary_no (n : Nat) (R : RR bp la c T en n) (w : World) (X : Nat → Prop) (nv : Value) (s : RS) (a : Int) (s' : RS) (h : RP w X bp la c T en s nv) (hq : runR T en (n + 1) .unary s = some (a, s')) (hl : s'.nodes.length ≤ 1000000) (K1 : Hid (isR T ((⟨#[45]⟩ : ByteArray)) s = false)) (K2 : Hid (isR T ((⟨#[33]⟩ : ByteArray)) s = false)) (K3 : Hid (isR T ((⟨#[40]⟩ : ByteArray)) s = false)) (t : Tk) (HT : Hid (T[s.i]? = some t)) (hk : t.kind ≠ 3) : Calls Tryz.prog 108 #[.pointer (some ⟨bp, 0, none⟩)] w (RDone w X bp la c T en (.int .i64 a) s') := by
  unfold runR at hq
  rw [if_neg (by rw [K1.out, K2.out]; decide), if_neg (by rw [K3.out]; decide)] at hq
  have hkk : kindR T 3 s = false := by simp [kindR, HT.out, hk]
  rw [if_neg (by rw [hkk]; decide)] at hq
  clear hkk
  unfold putR at hq
  injection hq with hq
  injection hq with e1 e2
  subst e1 e2
  have HB : Hid (s.nodes.length ≤ 1000000) := Lib.hid (by simp at hl; omega)
  clear hl
  go_enter Tryz.func108, Tryz.ntmps108
  go_wp2_with fail
  refine (rat_c h).mono ?_
  rintro e w1 ⟨rfl, h1, u1⟩
  clear h
  have U1 := Lib.hid u1; clear u1
  go_wp2_with fail
  refine (ris_c ((⟨#[45]⟩ : ByteArray)) h1).mono ?_
  rw [K1.out]
  rintro e w2 ⟨rfl, h2, u2⟩
  clear h1
  have U2 := Lib.hid (U1.out.trans u2); clear u2
  clear U1
  go_wp2_with fail
  refine (ris_c ((⟨#[33]⟩ : ByteArray)) h2).mono ?_
  rw [K2.out]
  rintro e w3 ⟨rfl, h3, u3⟩
  clear h2
  have U3 := Lib.hid (U2.out.trans u3); clear u3
  clear U2
  go_wp2_with fail
  refine (ris_c ((⟨#[40]⟩ : ByteArray)) h3).mono ?_
  rw [K3.out]
  rintro e w4 ⟨rfl, h4, u4⟩
  clear h3
  have U4 := Lib.hid (U3.out.trans u4); clear u4
  clear U3
  have HX := Lib.hid h4.inX
  have HH := Lib.hid h4
  have c0 := h4.c0
  have c2 := h4.c2
  obtain ⟨i, hI⟩ : ∃ i, i = s.i := ⟨_, rfl⟩
  rw [← hI] at c2
  have hi : i < T.length := by rw [hI]; exact (List.getElem?_eq_some_iff.1 HT.out).1
  obtain ⟨bl, rfl, t0, t1, t2, t3⟩ := toks_cells h4 HT.out
  rw [← hI] at t0 t1 t2 t3
  have HI := Lib.hid hI
  clear hI h4
  have hd : decide ((i : Int) < (T.length : Int)) = true := by simp; omega
  have hd2 : decide (i < T.length) = true := by simp; omega
  have hkb : (t.kind == 3) = false := by simp [hk]
  go_upto_region 19 with (fail)
  go_quiet (fail)
  have HF := Lib.hid (HH.out.drewN nq)
  clear c0 c2 t0 t1 t2 t3
  have U9 := Lib.hid (U4.out.drewN nq)
  go_wp2_with fail
  refine (rname_c HF.out R.len).mono ?_
  rintro e w10 ⟨rfl, h10, u10⟩
  have U10 := Lib.hid (U9.out.trans u10); clear u10
  go_wp2_with fail
  refine (rnode_nil 16 0 _ _ h10 (by simpa using HB.out)).mono ?_
  rintro e w11 ⟨rfl, X11, nv11, h11, u11⟩
  clear h10
  have U11 := Lib.hid (U10.out.trans u11); clear u11
  clear U10
  go_wp2_with fail
  go_ret
  exact ⟨ret_int (by simp), _, _, h11, U11.out⟩

set_option maxRecDepth 100000 in
set_option maxHeartbeats 1000000 in
theorem runary_end (n : Nat) (R : RR bp la c T en n) (w : World) (X : Nat → Prop) (nv : Value) (s : RS) (a : Int) (s' : RS) (h : RP w X bp la c T en s nv) (hq : runR T en (n + 1) .unary s = some (a, s')) (hl : s'.nodes.length ≤ 1000000) (K1 : Hid (isR T ((⟨#[45]⟩ : ByteArray)) s = false)) (K2 : Hid (isR T ((⟨#[33]⟩ : ByteArray)) s = false)) (K3 : Hid (isR T ((⟨#[40]⟩ : ByteArray)) s = false)) (HT : Hid (T[s.i]? = none)) : Calls Tryz.prog 108 #[.pointer (some ⟨bp, 0, none⟩)] w (RDone w X bp la c T en (.int .i64 a) s') := by
  unfold runR at hq
  rw [if_neg (by rw [K1.out, K2.out]; decide), if_neg (by rw [K3.out]; decide)] at hq
  have hkk : kindR T 3 s = false := by simp [kindR, HT.out]
  rw [if_neg (by rw [hkk]; decide)] at hq
  clear hkk
  unfold putR at hq
  injection hq with hq
  injection hq with e1 e2
  subst e1 e2
  have HB : Hid (s.nodes.length ≤ 1000000) := Lib.hid (by simp at hl; omega)
  clear hl
  go_enter Tryz.func108, Tryz.ntmps108
  go_wp2_with fail
  refine (rat_c h).mono ?_
  rintro e w1 ⟨rfl, h1, u1⟩
  clear h
  have U1 := Lib.hid u1; clear u1
  go_wp2_with fail
  refine (ris_c ((⟨#[45]⟩ : ByteArray)) h1).mono ?_
  rw [K1.out]
  rintro e w2 ⟨rfl, h2, u2⟩
  clear h1
  have U2 := Lib.hid (U1.out.trans u2); clear u2
  clear U1
  go_wp2_with fail
  refine (ris_c ((⟨#[33]⟩ : ByteArray)) h2).mono ?_
  rw [K2.out]
  rintro e w3 ⟨rfl, h3, u3⟩
  clear h2
  have U3 := Lib.hid (U2.out.trans u3); clear u3
  clear U2
  go_wp2_with fail
  refine (ris_c ((⟨#[40]⟩ : ByteArray)) h3).mono ?_
  rw [K3.out]
  rintro e w4 ⟨rfl, h4, u4⟩
  clear h3
  have U4 := Lib.hid (U3.out.trans u4); clear u4
  clear U3
  have HX := Lib.hid h4.inX
  have HH := Lib.hid h4
  have c0 := h4.c0
  have c2 := h4.c2
  obtain ⟨i, hI⟩ : ∃ i, i = s.i := ⟨_, rfl⟩
  rw [← hI] at c2
  have hi : T.length ≤ i := by rw [hI]; exact List.getElem?_eq_none_iff.1 HT.out
  have HI := Lib.hid hI
  clear hI h4
  have hd : decide ((i : Int) < (T.length : Int)) = false := by simp; omega
  have hd2 : decide (i < T.length) = false := by simp; omega
  go_upto_region 19 with (fail)
  go_quiet (fail)
  have HF := Lib.hid (HH.out.drewN nq)
  clear c0 c2
  have U9 := Lib.hid (U4.out.drewN nq)
  go_wp2_with fail
  refine (rname_c HF.out R.len).mono ?_
  rintro e w10 ⟨rfl, h10, u10⟩
  have U10 := Lib.hid (U9.out.trans u10); clear u10
  go_wp2_with fail
  refine (rnode_nil 16 0 _ _ h10 (by simpa using HB.out)).mono ?_
  rintro e w11 ⟨rfl, X11, nv11, h11, u11⟩
  clear h10
  have U11 := Lib.hid (U10.out.trans u11); clear u11
  clear U10
  go_wp2_with fail
  go_ret
  exact ⟨ret_int (by simp), _, _, h11, U11.out⟩

/-- unary -/
theorem runary_c (n : Nat) (R : RR bp la c T en n) : RCall bp la c T en (n + 1) .unary 108 #[.pointer (some ⟨bp, 0, none⟩)] := by
  intro w X nv s a s' h hq hl
  cases k1 : isR T ((⟨#[45]⟩ : ByteArray)) s with
  | true =>
    cases k2 : isR T ((⟨#[33]⟩ : ByteArray)) s with
    | true =>
      by_cases hf : (openR T en ((⟨#[33]⟩ : ByteArray)) s).fc = 0
      · exact runary_mn_ok n R w X nv s a s' h hq hl (Lib.hid k1) (Lib.hid k2) (Lib.hid hf)
      · exact runary_mn_bad n R w X nv s a s' h hq hl (Lib.hid k1) (Lib.hid k2) (Lib.hid hf)
    | false =>
      by_cases hf : (openR T en ((⟨#[45]⟩ : ByteArray)) s).fc = 0
      · exact runary_m_ok n R w X nv s a s' h hq hl (Lib.hid k1) (Lib.hid k2) (Lib.hid hf)
      · exact runary_m_bad n R w X nv s a s' h hq hl (Lib.hid k1) (Lib.hid k2) (Lib.hid hf)
  | false =>
    cases k2 : isR T ((⟨#[33]⟩ : ByteArray)) s with
    | true =>
      by_cases hf : (openR T en ((⟨#[33]⟩ : ByteArray)) s).fc = 0
      · exact runary_n_ok n R w X nv s a s' h hq hl (Lib.hid k1) (Lib.hid k2) (Lib.hid hf)
      · exact runary_n_bad n R w X nv s a s' h hq hl (Lib.hid k1) (Lib.hid k2) (Lib.hid hf)
    | false =>
      cases k3 : isR T ((⟨#[40]⟩ : ByteArray)) s with
      | true => exact runary_held n R w X nv s a s' h hq hl (Lib.hid k1) (Lib.hid k2) (Lib.hid k3)
      | false =>
        cases ht : T[s.i]? with
        | none => exact runary_end n R w X nv s a s' h hq hl (Lib.hid k1) (Lib.hid k2) (Lib.hid k3) (Lib.hid ht)
        | some t =>
          by_cases hk : t.kind = 3
          · exact runary_yes n R w X nv s a s' h hq hl (Lib.hid k1) (Lib.hid k2) (Lib.hid k3) t (Lib.hid ht) hk
          · exact runary_no n R w X nv s a s' h hq hl (Lib.hid k1) (Lib.hid k2) (Lib.hid k3) t (Lib.hid ht) hk

end

end Go.Proofs.YtaklephcgepfjaaGreatDoor

/- The reference's parser: expr. (Written by wip/tools/gen_ref8.py.) -/
namespace Go.Proofs.YtaklephcgepfjaaGreatDoor
open Go.RowKit

section
variable {bp : Nat} {la : Option Addr} {c : Nat} {T : List Tk} {en : Int}

/-- expr's loop, with m rounds left. -/
def ExInv (w : World) (X : Nat → Prop) (bp : Nat) (la : Option Addr) (c : Nat) (T : List Tk) (en : Int) (k n : Nat) (a : Int) (s' : RS) (m : Nat) (v : Value) (W : World) : Prop :=
  ∃ (left : Int) (s1 : RS) (X1 : Nat → Prop) (nv1 : Value), v = .int .i64 left ∧ m ≤ n ∧ RP W X1 bp la c T en s1 nv1 ∧ Upd w X W X1 ∧ runR T en m (.exprL k left) s1 = some (a, s')

theorem exprL_stop {m k : Nat} {left a : Int} {s1 s' : RS} (h : runR T en m (.exprL k left) s1 = some (a, s')) (hs : ¬ (s1.fc = 0 ∧ lvlR T k s1 = true)) : a = left ∧ s' = s1 := by
  cases m with
  | zero => cases h
  | succ m =>
    unfold runR at h
    rw [if_neg hs] at h
    injection h with h
    injection h with h1 h2
    exact ⟨h1.symm, h2.symm⟩

theorem exprL_go {m k : Nat} {left a : Int} {s1 s' : RS} (h : runR T en m (.exprL k left) s1 = some (a, s')) (hs : s1.fc = 0 ∧ lvlR T k s1 = true) :
    m = m - 1 + 1 ∧ ∃ right s2, runR T en (m - 1) (.expr (k + 1)) (stepR s1) = some (right, s2) ∧
      runR T en (m - 1) (.exprL k s2.nodes.length) (nodeR ⟨19, 0, (tokR T s1).pos, (tokR T s1).text, [left, right]⟩ s2) = some (a, s') := by
  cases m with
  | zero => cases h
  | succ m =>
    refine ⟨by omega, ?_⟩
    unfold runR at h
    rw [if_pos hs] at h
    obtain ⟨r, s2, q, h⟩ := bindR_eq.1 h
    exact ⟨r, s2, q, h⟩

set_option maxRecDepth 100000 in
/-- expr, at the tightest level -/
theorem rexpr_five (n : Nat) (R : RR bp la c T en n) : RCall bp la c T en (n + 1) (.expr 5) 83 #[.pointer (some ⟨bp, 0, none⟩), .int .i64 5] := by
  intro w X nv s a s' h hq hl
  unfold runR at hq
  rw [if_pos rfl] at hq
  have HQ := Lib.hid hq; have HL := Lib.hid hl
  clear hq hl
  go_enter Tryz.func83, Tryz.ntmps83
  go_wp2_with fail
  refine (R.unary _ _ _ _ _ _ h HQ.out HL.out).mono ?_
  rintro e w1 ⟨rfl, X1, nv1, h1, u1⟩
  clear h
  go_wp2_with fail
  go_ret
  exact ⟨rfl, _, _, h1, u1⟩

set_option maxRecDepth 100000 in
set_option maxHeartbeats 4000000 in
theorem rexpr_loop (n : Nat) (R : ∀ m, m ≤ n → RR bp la c T en m) (k : Nat) (kk : Int) (hkk : kk = k) (hk5 : k < 5) : RCall bp la c T en (n + 1) (.expr k) 83 #[.pointer (some ⟨bp, 0, none⟩), .int .i64 kk] := by
  intro w X nv s a s' h hq hl
  unfold runR at hq
  rw [if_neg (by omega)] at hq
  obtain ⟨l0, s0, q0, hq⟩ := bindR_eq.1 hq
  have hm0 := runR_mono _ _ _ _ _ hq
  have HL := Lib.hid hl
  have HC := Lib.hid ((R n (Nat.le_refl n)).expr (k + 1) (kk + 1) (by omega) (by omega) w X nv s l0 s0 h q0 (by omega))
  have HQ := Lib.hid hq
  have HLEN := Lib.hid (R n (Nat.le_refl n)).len
  have HR := Lib.hid R
  have HKK := Lib.hid hkk
  have e5 : (kk == 5) = false := by simp; omega
  have e6 : 0 ≤ kk := by omega
  have e7 : kk < 5 := by omega
  clear hq q0 hm0 hl h R hkk
  go_enter Tryz.func83, Tryz.ntmps83
  go_wp2_with fail
  refine HC.out.mono ?_
  rintro e w1 ⟨rfl, X1, nv1, h1, u1⟩
  have HI : Hid (ExInv w X bp la c T en k n a s' n (.int .i64 l0) w1) := Lib.hid ⟨l0, s0, X1, nv1, rfl, Nat.le_refl n, h1, u1, HQ.out⟩
  clear HC HQ h1 u1 e5
  as_aux_lemma =>
  go_wp2_with fail
  go_loopg [5] n (fun m v wr => ExInv w X bp la c T en k n a s' m v wr)
  case atStart => exact HI.out
  case round =>
    clear HI
    obtain ⟨left, s1, X1, nv1, rfl, hmn, h, u, hq⟩ := hrel
    have HP := Lib.hid h; have HU := Lib.hid u; have HQ := Lib.hid hq; have HMN := Lib.hid hmn
    have c5 := h.c5
    have c0 := h.c0
    have c2 := h.c2
    clear u hq hmn
    by_cases hf : s1.fc = 0
    · cases ht : T[s1.i]? with
      | none =>
        have hst := exprL_stop HQ.out (fun e => by have := e.2; simp [lvlR, ht] at this)
        obtain ⟨rfl, rfl⟩ := hst
        rw [hf] at c5
        obtain ⟨i, hI⟩ : ∃ i, i = s'.i := ⟨_, rfl⟩
        rw [← hI] at c2
        have hi : T.length ≤ i := by rw [hI]; exact List.getElem?_eq_none_iff.1 ht
        have hd : decide ((i : Int) < (T.length : Int)) = false := by simp; omega
        have hd2 : decide (i < T.length) = false := by simp; omega
        clear hI ht hf h
        go_upto_region 4 with (fail)
        go_quiet (fail)
        clear c0 c2 c5
        go_wp2_with fail
        go_ret
        exact ⟨rfl, _, _, HP.out.drewN _, HU.out.drewN _⟩
      | some t =>
        have HT := Lib.hid ht
        rw [hf] at c5
        have HF := Lib.hid hf
        obtain ⟨bl, rfl, t0, t1, t2, t3⟩ := toks_cells h ht
        obtain ⟨i, hI⟩ : ∃ i, i = s1.i := ⟨_, rfl⟩
        rw [← hI] at c2 t0 t1 t2 t3
        have hi : i < T.length := by rw [hI]; exact (List.getElem?_eq_some_iff.1 ht).1
        have hd : decide ((i : Int) < (T.length : Int)) = true := by simp; omega
        have hd2 : decide (i < T.length) = true := by simp; omega
        have HI := Lib.hid hI
        clear hI ht hf h
        by_cases hk4 : t.kind = 4
        · rw [hk4] at t0
          have HK4 := Lib.hid hk4
          clear hk4
          go_upto_region 4 with (fail)
          go_quiet (fail)
          generalize hw9 : World.drewN wr _ = w9
          have HP9 : Hid (RP w9 X1 bp (some ⟨bl, 0, none⟩) c T en s1 nv1 ∧ Upd w X w9 X1) := Lib.hid (by rw [← hw9]; exact ⟨HP.out.drewN _, HU.out.drewN _⟩)
          clear hw9 c0 c2 c5 t0 t1 t2 t3 HP HU
          obtain ⟨bl', e', hx, hlt, t0, t1, t2, t3⟩ := HP9.out.1.toks i t (by rw [HI.out]; exact HT.out)
          obtain rfl : bl = bl' := by injection e' with e'; injection e'
          clear e'
          have c0 := HP9.out.1.c0
          have c2 : w9.cell? ⟨bp, 2, none⟩ = some (.int .i64 i) := by rw [HI.out]; exact HP9.out.1.c2
          have k0 : ∀ o, (w9.alloc o).cell? ⟨bp, 0, none⟩ = some (.slice (some ⟨bl, 0, none⟩) T.length c) := fun o => (HP9.out.1.alloc o).c0
          have k2 : ∀ o, (w9.alloc o).cell? ⟨bp, 2, none⟩ = some (.int .i64 i) := fun o => by rw [HI.out]; exact (HP9.out.1.alloc o).c2
          have a0 : ∀ o, (w9.alloc o).cell? ⟨bl, i * 4, none⟩ = some (.int .i64 t.kind) := fun o => by rw [((Upd.refl w9 NO).alloc o).cell (a := ⟨bl, i * 4, none⟩) hlt id]; exact t0
          have a1 : ∀ o, (w9.alloc o).cell? ⟨bl, i * 4 + 1, none⟩ = some (.int .i64 t.num) := fun o => by rw [((Upd.refl w9 NO).alloc o).cell (a := ⟨bl, i * 4 + 1, none⟩) hlt id]; exact t1
          have a2 : ∀ o, (w9.alloc o).cell? ⟨bl, i * 4 + 2, none⟩ = some (.int .i64 t.pos) := fun o => by rw [((Upd.refl w9 NO).alloc o).cell (a := ⟨bl, i * 4 + 2, none⟩) hlt id]; exact t2
          have a3 : ∀ o, (w9.alloc o).cell? ⟨bl, i * 4 + 3, none⟩ = some (.string t.text) := fun o => by rw [((Upd.refl w9 NO).alloc o).cell (a := ⟨bl, i * 4 + 3, none⟩) hlt id]; exact t3
          have hi1 : (0 : Int) ≤ (i : Int) := by omega
          have hi2 : (i : Int) < (T.length : Int) := by omega
          go_upto_region 5 with (fail)
          go_region
          refine rnorm (fun W => RP W X1 bp (some ⟨bl, 0, none⟩) c T en s1 nv1 ∧ Upd w X W X1 ∧ W.heap[w9.heap.size]? = some (.cells #[.int .i64 t.kind, .int .i64 t.num, .int .i64 t.pos, .string t.text] 81 (0, 0))) ⟨(HP9.out.1.alloc _).drew, (HP9.out.2.alloc _).drew, heap_alloc_new w9 _⟩ ?_
          have HQX : Hid (¬ X1 w9.heap.size) := Lib.hid (fun e => by have := HP9.out.1.high _ e; omega)
          have HQ0 : Hid (w.heap.size ≤ w9.heap.size) := Lib.hid HP9.out.2.size
          obtain ⟨q, hqq⟩ : ∃ q, q = w9.heap.size := ⟨_, rfl⟩
          rw [← hqq] at HQX HQ0 ⊢
          clear hqq c0 c2 k0 k2 a0 a1 a2 a3 t0 t1 t2 t3 HP9 hx hlt
          rintro w10 ⟨h10, u10, hb10⟩
          have H10 := Lib.hid h10; have U10 := Lib.hid u10; have B10 := Lib.hid hb10
          have b3 : w10.cell? ⟨q, 3, none⟩ = some (.string t.text) := cell_blk hb10
          have c2 : w10.cell? ⟨bp, 2, none⟩ = some (.int .i64 i) := by rw [HI.out]; exact h10.c2
          have f2 := h10.free 2
          have HIX := Lib.hid h10.inX
          clear h10 u10 hb10
          have HLV := Lib.hid (rlevel_c t.text)
          by_cases hlv : levelR t.text = (k : Int)
          · have hgo := exprL_go HQ.out ⟨HF.out, by simp [lvlR, HT.out, HK4.out, hlv]⟩
            obtain ⟨hgk, right, s2, q2, q3⟩ := hgo
            have htk : tokR T s1 = t := by simp only [tokR, List.getD_eq_getElem?_getD, HT.out]; rfl
            rw [htk] at q3
            have hm3 := runR_mono _ _ _ _ _ q3
            have hb2 : s2.nodes.length ≤ 1000000 := by have := HL.out; simp at hm3; omega
            have HQ3 := Lib.hid q3; have HB2 := Lib.hid hb2
            have hle : gk - 1 ≤ n := by have := HMN.out; omega
            have HGL : Hid (gk - 1 < gk) := Lib.hid (by omega)
            have HLE := Lib.hid hle
            have HEX := Lib.hid ((HR.out (gk - 1) hle).expr (k + 1) (kk + 1) (by have := HKK.out; omega) (by omega))
            have HQ2 := Lib.hid q2
            have hne : (levelR t.text != kk) = false := by rw [hlv, HKK.out]; simp
            have hlv2 : levelR t.text = kk := by rw [hlv, HKK.out]
            rw [hlv2] at HLV
            clear hlv hlv2 hne hm3 hb2 hle q2 q3 htk HQ
            have hne : (kk != kk) = false := by simp
            have hi5 : T.length ≤ 5000 := HLEN.out
            as_aux_lemma =>
            go_wp2_with fail
            refine (HLV.out _).mono ?_
            rintro e w' ⟨rfl, rfl⟩
            go_upto_region 9 with (fail)
            refine wp_gen (fun W => RP W X1 bp (some ⟨bl, 0, none⟩) c T en (stepR s1) nv1 ∧ Upd w X W X1 ∧ W.heap[q]? = some (.cells #[.int .i64 t.kind, .int .i64 t.num, .int .i64 t.pos, .string t.text] 81 (0, 0))) ⟨by
              have := H10.out.setI (s1.i + 1)
              rw [HI.out]
              exact this, U10.out.trans ((Upd.refl w10 X1).setCell (a := ⟨bp, 2, none⟩) (.inl HIX.out) _), by rw [blk_setCell_other _ (by show q ≠ bp; exact fun e => HQX.out (e ▸ HIX.out))]; exact B10.out⟩ ?_
            clear c2 f2 b3 H10 U10 B10 HIX HLV hne
            rintro w11 ⟨h11, u11, hb11⟩
            have HC := Lib.hid (HEX.out w11 X1 nv1 (stepR s1) right s2 h11 HQ2.out HB2.out)
            have U11 := Lib.hid u11; have B11 := Lib.hid hb11
            clear h11 u11 hb11 HEX
            as_aux_lemma =>
            go_wp2_with fail
            refine HC.out.mono ?_
            rintro e w12 ⟨rfl, X12, nv12, h12, u12⟩
            have hb12 := u12.keep B11.out HQX.out
            have U12 := Lib.hid (U11.out.trans u12)
            have b2 : w12.cell? ⟨q, 2, none⟩ = some (.int .i64 t.pos) := cell_blk hb12
            have b3 : w12.cell? ⟨q, 3, none⟩ = some (.string t.text) := cell_blk hb12
            have HP13 := Lib.hid (h12.alloc (.cells #[.int .i64 left, .int .i64 right] 3))
            have HU13 := Lib.hid (U12.out.alloc (.cells #[.int .i64 left, .int .i64 right] 3))
            have HK13 : Hid (KidsAt (w12.alloc (.cells #[.int .i64 left, .int .i64 right] 3)) (.slice (some ⟨w12.heap.size, 0, none⟩) 2 2) [left, right]) := Lib.hid (kids_blk (kids := [left, right]) (blk_new rfl) (by simp))
            have HX13 : Hid (∀ g, (Value.slice (some ⟨w12.heap.size, 0, none⟩) 2 2).ownBlock = some g → ¬ X12 g ∧ bp ≤ g ∧ w.heap.size ≤ g) := Lib.hid (fun g hg => by
              simp only [Value.ownBlock, Option.some.injEq] at hg
              subst hg
              exact ⟨fun e => by have := h12.high _ e; omega, Nat.le_of_lt h12.lt, U12.out.size⟩)
            clear h12 u12 hb12 HC U11 B11
            as_aux_lemma =>
            go_wp2_with fail
            refine (rnode_kids 19 0 t.pos t.text _ [left, right] HP13.out HU13.out HB2.out HK13.out HX13.out).mono ?_
            rintro e w14 ⟨rfl, X14, nv14, h14, u14⟩
            have HIN : Hid (ExInv w X bp (some ⟨bl, 0, none⟩) c T en k n a s' (gk - 1) (.int .i64 s2.nodes.length) w14) := Lib.hid ⟨_, _, X14, nv14, rfl, HLE.out, h14, u14, HQ3.out⟩
            clear h14 u14 b2 b3
            go_wp2_with fail
            go_roundg (gk - 1)
            case rel => exact HIN.out
            case measure => exact HGL.out
          · have hst := exprL_stop HQ.out (fun e => by have h2 := e.2; simp [lvlR, HT.out, HK4.out] at h2; exact hlv h2)
            obtain ⟨rfl, rfl⟩ := hst
            have hne : (levelR t.text != kk) = true := by rw [HKK.out]; simp [hlv]
            clear hlv
            as_aux_lemma =>
            go_wp2_with fail
            refine (HLV.out _).mono ?_
            rintro e w' ⟨rfl, rfl⟩
            go_wp2_with fail
            go_ret
            exact ⟨rfl, _, _, H10.out, U10.out⟩
        · have hst := exprL_stop HQ.out (fun e => by have h2 := e.2; simp [lvlR, HT.out] at h2; exact hk4 h2.1)
          obtain ⟨rfl, rfl⟩ := hst
          have hkb : (t.kind == 4) = false := by simp [hk4]
          clear hk4
          go_upto_region 4 with (fail)
          go_quiet (fail)
          clear c0 c2 c5 t0 t1 t2 t3
          go_wp2_with fail
          go_ret
          exact ⟨rfl, _, _, HP.out.drewN _, HU.out.drewN _⟩
    · have hst := exprL_stop HQ.out (fun e => hf e.1)
      obtain ⟨rfl, rfl⟩ := hst
      have hfb : (s'.fc == 0) = false := by simp [hf]
      clear hf h
      go_upto_region 4 with (fail)
      go_quiet (fail)
      clear c0 c2 c5
      go_wp2_with fail
      go_ret
      exact ⟨rfl, _, _, HP.out.drewN _, HU.out.drewN _⟩

/-- expr -/
theorem rexpr_c (n : Nat) (R : ∀ m, m ≤ n → RR bp la c T en m) (k : Nat) (kk : Int) (hkk : kk = k) (hk5 : k ≤ 5) : RCall bp la c T en (n + 1) (.expr k) 83 #[.pointer (some ⟨bp, 0, none⟩), .int .i64 kk] := by
  by_cases h : k = 5
  · subst h
    subst hkk
    exact rexpr_five n (R n (Nat.le_refl n))
  · exact rexpr_loop n R k kk hkk (by omega)

end

end Go.Proofs.YtaklephcgepfjaaGreatDoor

/- The reference's parser: block. (Written by wip/tools/gen_ref9.py.) -/
namespace Go.Proofs.YtaklephcgepfjaaGreatDoor
open Go.RowKit

theorem Tryz.infoI : (Tryz.prog.info? 3).map (fun i => (i.zero, i.size, i.bytes)) = some (some (.int .i64 0), 1, 8) := by kernel_rfl

section
variable {bp : Nat} {la : Option Addr} {c : Nat} {T : List Tk} {en : Int}

/-- block's loop, with m rounds left. -/
def BkInv (w : World) (X : Nat → Prop) (bp : Nat) (la : Option Addr) (c : Nat) (T : List Tk) (en : Int) (pos : Int) (n : Nat) (a : Int) (s' : RS) (m : Nat) (v : Value) (W : World) : Prop :=
  ∃ (kids : List Int) (s1 : RS) (X1 : Nat → Prop) (nv1 : Value), KidsAt W v kids ∧ (∀ g, v.ownBlock = some g → ¬ X1 g ∧ bp ≤ g ∧ w.heap.size ≤ g) ∧ kids.length + m ≤ n ∧ RP W X1 bp la c T en s1 nv1 ∧ Upd w X W X1 ∧
    runR T en m (.blockL pos kids) s1 = some (a, s')

theorem blockL_stop {m : Nat} {pos a : Int} {kids : List Int} {s1 s' : RS} (h : runR T en m (.blockL pos kids) s1 = some (a, s')) (hs : s1.fc ≠ 0 ∨ isR T ((⟨#[125]⟩ : ByteArray)) s1 = true) :
    a = s1.nodes.length ∧ s' = nodeR ⟨5, 0, pos, ⟨#[]⟩, kids⟩ (shutR T en ((⟨#[125]⟩ : ByteArray)) s1) := by
  cases m with
  | zero => cases h
  | succ m =>
    unfold runR at h
    rw [if_pos hs] at h
    unfold putR at h
    injection h with h
    injection h with h1 h2
    exact ⟨by rw [← h1, shutR_nodes], h2.symm⟩

theorem blockL_go {m : Nat} {pos a : Int} {kids : List Int} {s1 s' : RS} (h : runR T en m (.blockL pos kids) s1 = some (a, s')) (hs : ¬ (s1.fc ≠ 0 ∨ isR T ((⟨#[125]⟩ : ByteArray)) s1 = true)) :
    m = m - 1 + 1 ∧ ∃ k s2, runR T en (m - 1) .stmt s1 = some (k, s2) ∧ runR T en (m - 1) (.blockL pos (kids ++ [k])) s2 = some (a, s') := by
  cases m with
  | zero => cases h
  | succ m =>
    refine ⟨by omega, ?_⟩
    unfold runR at h
    rw [if_neg hs] at h
    obtain ⟨r, s2, q, h⟩ := bindR_eq.1 h
    exact ⟨r, s2, q, h⟩

set_option maxRecDepth 100000 in
set_option maxHeartbeats 2000000 in
theorem rblock_c (n : Nat) (hn6 : n ≤ 1000000) (R : ∀ m, m ≤ n → RR bp la c T en m) : RCall bp la c T en (n + 1) .block 23 #[.pointer (some ⟨bp, 0, none⟩)] := by
  intro w X nv s a s' h hq hl
  unfold runR at hq
  have HQ := Lib.hid hq; have HL := Lib.hid hl; have HR := Lib.hid R
  have HLEN := Lib.hid (R n (Nat.le_refl n)).len
  have HN6 := Lib.hid hn6
  clear hq hl R hn6
  obtain ⟨ps, hps⟩ : ∃ ps, ps = posR T en s := ⟨_, rfl⟩
  have HPS := Lib.hid hps
  rw [← hps] at HQ
  clear hps
  go_enter Tryz.func23, Tryz.ntmps23
  go_wp2_with fail
  refine (rat_c h).mono ?_
  rw [← HPS.out]
  rintro e w1 ⟨rfl, h1, u1⟩
  clear h
  have U1 := Lib.hid u1; clear u1
  go_wp2_with fail
  refine (ropen_c ((⟨#[123]⟩ : ByteArray)) h1 HLEN.out).mono ?_
  rintro e w2 ⟨rfl, h2, u2⟩
  clear h1
  have HI : Hid (BkInv w X bp la c T en ps n a s' n (.slice none 0 0) w2) := Lib.hid ⟨[], openR T en ((⟨#[123]⟩ : ByteArray)) s, X, nv, World.ownsRow_nil _ _ _ _, fun g hg => by simp [Value.ownBlock] at hg, by simp, h2, U1.out.trans u2, HQ.out⟩
  clear h2 u2 U1 HQ
  as_aux_lemma =>
  go_wp2_with fail
  go_loopg [4] n (fun m v wr => BkInv w X bp la c T en ps n a s' m v wr)
  case atStart => exact HI.out
  case round =>
    clear HI
    obtain ⟨kids, s1, X1, nv1, hk, hkx, hkm, h, u, hq⟩ := hrel
    obtain ⟨ka, kc, hv⟩ := slice_of_row hk
    subst hv
    have HP := Lib.hid h; have HU := Lib.hid u; have HQ := Lib.hid hq; have HKM := Lib.hid hkm; have HK := Lib.hid hk; have HKX := Lib.hid hkx
    have c5 := h.c5
    clear u hq hk hkx hkm h
    -- what stands behind the loop
    by_cases hf : s1.fc = 0
    · rw [hf] at c5
      have HI := Lib.hid (ris_c ((⟨#[125]⟩ : ByteArray)) HP.out)
      cases hq2 : isR T ((⟨#[125]⟩ : ByteArray)) s1 with
      | true =>
        obtain ⟨ha, hs⟩ := blockL_stop HQ.out (.inr hq2)
        have HA := Lib.hid ha; have HS := Lib.hid hs
        rw [hq2] at HI
        clear ha hs hq2 hf
        go_wp2_with fail
        refine HI.out.mono ?_
        rintro e w3 ⟨rfl, h3, u3⟩
        have U3 := Lib.hid (HU.out.trans u3)
        have K3 := Lib.hid (u3.ownsRow HK.out (fun g hg => (HKX.out g hg).1))
        clear c5 HI u3
        go_wp2_with fail
        refine (rshut_c ((⟨#[125]⟩ : ByteArray)) h3 HLEN.out).mono ?_
        rintro e w4 ⟨rfl, h4, u4'⟩
        have U4 := Lib.hid (U3.out.trans u4')
        have K4 := Lib.hid (u4'.ownsRow K3.out (fun g hg => (HKX.out g hg).1))
        clear h3 u4'
        go_wp2_with fail
        refine (rnode_kids 5 0 ps ⟨#[]⟩ (.slice ka kids.length kc) kids h4 U4.out (by rw [shutR_nodes]; have := HL.out; rw [HS.out] at this; simp at this; omega) K4.out HKX.out).mono ?_
        rintro e w5 ⟨rfl, X5, nv5, h5, u5⟩
        clear h4
        go_wp2_with fail
        go_ret
        refine ⟨ret_int (by rw [HA.out]; first | done | simp), X5, nv5, ?_, u5⟩
        rw [HS.out]
        exact h5
      | false =>
        obtain ⟨hm, k, s2, q2, q3⟩ := blockL_go HQ.out (fun e => by rcases e with e | e; exact e hf; rw [hq2] at e; cases e)
        have hm3 := runR_mono _ _ _ _ _ q3
        have hle : gk - 1 ≤ n := by have := HKM.out; omega
        have HGL : Hid (gk - 1 < gk) := Lib.hid (by omega)
        have hb2 : s2.nodes.length ≤ 1000000 := by have := HL.out; omega
        have HST := Lib.hid (fun w h => (HR.out (gk - 1) hle).stmt w X1 nv1 s1 k s2 h q2 hb2)
        have HQ3 := Lib.hid q3
        have HKL : Hid (kids.length + 1 + (gk - 1) ≤ n) := Lib.hid (by have := HKM.out; omega)
        rw [hq2] at HI
        clear hm q2 q3 hm3 hle hb2 hq2 hf HQ
        obtain ⟨i0, hi0, hz0, hz1, hz2⟩ := info_parts Tryz.infoI
        have HI0 := Lib.hid (And.intro hi0 (And.intro hz0 (And.intro hz1 hz2))); clear hi0 hz0 hz1 hz2
        go_wp2_with fail
        refine HI.out.mono ?_
        rintro e w3 ⟨rfl, h3, u3⟩
        have U3 := Lib.hid (HU.out.trans u3)
        have K3 := Lib.hid (u3.ownsRow HK.out (fun g hg => (HKX.out g hg).1))
        clear c5 HI u3
        go_wp2_with fail
        refine (HST.out w3 h3).mono ?_
        rintro e w4 ⟨rfl, X4, nv4, h4, u4'⟩
        have U4 := Lib.hid (U3.out.trans u4')
        have K4 := Lib.hid (u4'.ownsRow K3.out (fun g hg => (HKX.out g hg).1))
        have KX4 : Hid (∀ g, (Value.slice ka kids.length kc).ownBlock = some g → ¬ X4 g ∧ bp ≤ g ∧ w.heap.size ≤ g) := Lib.hid (fun g hg => ⟨u4'.notIn (K3.out.lt g hg).2 (HKX.out g hg).1, (HKX.out g hg).2⟩)
        have H4 := Lib.hid h4
        clear h3 u4' h4 HST
        go_wp2_with (at_builtin; refine wpList_app _ rfl _ _ 30 rfl 3 i0 (.int .i64 0) 1 8 Tryz.underlying30 HI0.out.1 HI0.out.2.1 HI0.out.2.2.1 HI0.out.2.2.2 rfl (by decide) (.slice ka kids.length kc) kids.length (kids.map (Value.int .i64)) rfl (K4.out.alloc _) ⟨w4.heap.size, 0, none⟩ 1 1 [.int .i64 k] rfl rfl (news_new w4 [.int .i64 k] _) (by simp [Value.oneCell']) (by have := HKL.out; have := HN6.out; unfold maxLen; omega) (by have := HKL.out; have := HN6.out; omega) ?_)
        intro v5 w5 o5 g5 f5
        have HIN : Hid (BkInv w X bp la c T en ps n a s' (gk - 1) v5 w5) := Lib.hid (by
          have u5 : Upd w4 (fun g => (Value.slice ka kids.length kc).ownBlock = some g) w5 (fun g => (Value.slice ka kids.length kc).ownBlock = some g) := ((Upd.refl w4 _).alloc _).grown g5 (fun g hg => .inl hg)
          have r5 : Upd w4 NO w4 NO := Upd.refl _ _
          have hs4 : (w4.alloc (.cells #[.int .i64 k] 3)).heap.size = w4.heap.size + 1 := by simp
          refine ⟨kids ++ [k], s2, X4, nv4, ?_, fun g hg => ?_, by have := HKL.out; simp; omega, ?_, ?_, HQ3.out⟩
          · unfold KidsAt
            rw [List.length_append, List.map_append]
            exact o5
          · rcases f5 g hg with e | e
            · exact KX4.out g e
            · have h1 := H4.out.lt
              have h2 := U4.out.size
              exact ⟨fun e' => by have := H4.out.high _ e'; omega, by omega, by omega⟩
          · exact ⟨H4.out.inX, H4.out.low, fun g hg => Nat.lt_of_lt_of_le (H4.out.high g hg) u5.size, u5.keep H4.out.blk (fun e => (KX4.out _ e).1 H4.out.inX), H4.out.toks.upd u5 (fun g hg e => by have := (KX4.out _ e).2.1; omega), H4.out.nodes.upd u5 (fun g hg _ e => (KX4.out _ e).1 hg)⟩
          · exact ⟨u5.os.trans U4.out.os, u5.tape.trans U4.out.tape, u5.output.trans U4.out.output, Nat.le_trans U4.out.size u5.size, fun g hg hx => (u5.block g (Nat.lt_of_lt_of_le hg U4.out.size) (fun e => by have := (KX4.out _ e).2.2; omega)).trans (U4.out.block g hg hx), U4.out.sub⟩)
        clear o5 g5 f5
        go_wp2_with fail
        go_roundg (gk - 1)
        case rel => exact HIN.out
        case measure => exact HGL.out
    · obtain ⟨ha, hs⟩ := blockL_stop HQ.out (.inl hf)
      have HA := Lib.hid ha; have HS := Lib.hid hs
      have hfb : (s1.fc == 0) = false := by simp [hf]
      clear ha hs hf
      go_wp2_with fail
      refine (rshut_c ((⟨#[125]⟩ : ByteArray)) HP.out HLEN.out).mono ?_
      rintro e w4 ⟨rfl, h4, u4'⟩
      have U4 := Lib.hid (HU.out.trans u4')
      have K4 := Lib.hid (u4'.ownsRow HK.out (fun g hg => (HKX.out g hg).1))
      clear u4' c5 hfb
      go_wp2_with fail
      refine (rnode_kids 5 0 ps ⟨#[]⟩ (.slice ka kids.length kc) kids h4 U4.out (by rw [shutR_nodes]; have := HL.out; rw [HS.out] at this; simp at this; omega) K4.out HKX.out).mono ?_
      rintro e w5 ⟨rfl, X5, nv5, h5, u5⟩
      clear h4
      go_wp2_with fail
      go_ret
      refine ⟨ret_int (by rw [HA.out]; first | done | simp), X5, nv5, ?_, u5⟩
      rw [HS.out]
      exact h5

end

end Go.Proofs.YtaklephcgepfjaaGreatDoor

/- The reference's parser: stmt, the ways that begin with a word. (Written by wip/tools/gen_ref10.py.) -/
namespace Go.Proofs.YtaklephcgepfjaaGreatDoor
open Go.RowKit

section
variable {bp : Nat} {la : Option Addr} {c : Nat} {T : List Tk} {en : Int}

/-- What is known of a slice of kids, seen from an older world w0: its block is none of X's, nor q. -/
def KX (w0 : World) (X : Nat → Prop) (bp q : Nat) (kv : Value) : Prop := ∀ g, kv.ownBlock = some g → ¬ X g ∧ bp ≤ g ∧ w0.heap.size ≤ g ∧ g ≠ q

theorem KX.nil {w0 : World} {X : Nat → Prop} {bp q : Nat} : KX w0 X bp q (.slice none 0 0) := fun g hg => by simp [Value.ownBlock] at hg

theorem KX.upd {w0 w1 w2 : World} {X X' : Nat → Prop} {bp q : Nat} {kv : Value} {kids : List Int} (h : KX w0 X bp q kv) (k : KidsAt w1 kv kids) (u : Upd w1 X w2 X') : KX w0 X' bp q kv ∧ KidsAt w2 kv kids :=
  ⟨fun g hg => ⟨u.notIn (k.lt g hg).2 (h g hg).1, (h g hg).2⟩, u.ownsRow k (fun g hg => (h g hg).1)⟩

/-- The memory of a statement: the parser, the statement's own node at q. -/
structure StW (w0 W : World) (X0 X : Nat → Prop) (bp : Nat) (la : Option Addr) (c : Nat) (T : List Tk) (en : Int) (s : RS) (nv : Value) (q : Nat) (kind pos : Int) (text : ByteArray) (kv : Value) (kids : List Int) : Prop where
  p : RP W X bp la c T en s nv
  u : Upd w0 X0 W X
  b : W.heap[q]? = some (.cells #[.int .i64 kind, .int .i64 0, .int .i64 pos, .string text, kv] 57 (0, 0))
  qx : ¬ X q
  qb : bp ≤ q
  q0 : w0.heap.size ≤ q
  k : KidsAt W kv kids
  kx : KX w0 X bp q kv

section
variable {w0 W W1 : World} {X0 X X1 : Nat → Prop} {s s1 : RS} {nv nv1 : Value} {q : Nat} {kind pos : Int} {text : ByteArray} {kv : Value} {kids : List Int}

/-- Behind a call. -/
theorem StW.call (h : StW w0 W X0 X bp la c T en s nv q kind pos text kv kids) (p : RP W1 X1 bp la c T en s1 nv1) (u : Upd W X W1 X1) : StW w0 W1 X0 X1 bp la c T en s1 nv1 q kind pos text kv kids :=
  { p := p, u := h.u.trans u, b := u.keep h.b h.qx, qx := u.notIn (lt_blk h.b) h.qx, qb := h.qb, q0 := h.q0, k := (h.kx.upd h.k u).2, kx := (h.kx.upd h.k u).1 }

theorem StW.set (h : StW w0 W X0 X bp la c T en s nv q kind pos text kv kids) (o : Nat) (v : Value) {kind' : Int} {text' : ByteArray}
    (hv : #[Value.int .i64 kind, .int .i64 0, .int .i64 pos, .string text, kv].setIfInBounds o v = #[.int .i64 kind', .int .i64 0, .int .i64 pos, .string text', kv]) : StW w0 (W.setCell ⟨q, o, none⟩ v) X0 X bp la c T en s nv q kind' pos text' kv kids :=
  { p := h.p.other (a := ⟨q, o, none⟩) h.qx h.qb v, u := h.u.setCell (a := ⟨q, o, none⟩) (.inr h.q0) v, b := by rw [blk_setCell h.b, hv], qx := h.qx, qb := h.qb, q0 := h.q0,
    k := ((Upd.refl W (fun k => k = q)).setCell (a := ⟨q, o, none⟩) (.inl rfl) v).ownsRow h.k (fun g hg e => (h.kx g hg).2.2.2 e), kx := h.kx }

/-- Kids in a new list. -/
theorem StW.kid (h : StW w0 W X0 X bp la c T en s nv q kind pos text kv kids) (l : List Int) (hl : l.length ≤ 1000) :
    StW w0 ((W.setCell ⟨q, 4, none⟩ (.slice (some ⟨W.heap.size, 0, none⟩) l.length l.length)).alloc (.cells (l.map (Value.int .i64)).toArray 3)) X0 X bp la c T en s nv q kind pos text (.slice (some ⟨W.heap.size, 0, none⟩) l.length l.length) l :=
  have hq := lt_blk h.b
  { p := (h.p.other (a := ⟨q, 4, none⟩) h.qx h.qb _).alloc _, u := (h.u.setCell (a := ⟨q, 4, none⟩) (.inr h.q0) _).alloc _, b := blk_alloc (by exact blk_setCell h.b _), qx := h.qx, qb := h.qb, q0 := h.q0,
    k := kids_blk (blk_new (by simp)) hl,
    kx := fun g hg => by
      simp only [Value.ownBlock, Option.some.injEq] at hg
      subst hg
      exact ⟨fun e => by have := h.p.high _ e; omega, Nat.le_of_lt h.p.lt, h.u.size, by omega⟩ }

/-- node, at the end. -/
theorem StW.node (h : StW w0 W X0 X bp la c T en s nv q kind pos text kv kids) (hl : s.nodes.length ≤ 1000000) :
    Calls Tryz.prog 24 #[.pointer (some ⟨bp, 0, none⟩), .agg #[.int .i64 kind, .int .i64 0, .int .i64 pos, .string text, kv]] W fun e w' =>
      e = .returned (.int .i64 s.nodes.length) ∧ ∃ X' nv', RP w' X' bp la c T en (nodeR ⟨kind, 0, pos, text, kids⟩ s) nv' ∧ Upd w0 X0 w' X' :=
  rnode_kids kind 0 pos text kv kids h.p h.u hl h.k (fun g hg => ⟨(h.kx g hg).1, (h.kx g hg).2.1, (h.kx g hg).2.2.1⟩)

theorem StW.c0 (h : StW w0 W X0 X bp la c T en s nv q kind pos text kv kids) : W.cell? ⟨q, 0, none⟩ = some (.int .i64 kind) := cell_blk h.b
theorem StW.c1 (h : StW w0 W X0 X bp la c T en s nv q kind pos text kv kids) : W.cell? ⟨q, 1, none⟩ = some (.int .i64 0) := cell_blk h.b
theorem StW.c2 (h : StW w0 W X0 X bp la c T en s nv q kind pos text kv kids) : W.cell? ⟨q, 2, none⟩ = some (.int .i64 pos) := cell_blk h.b
theorem StW.c3 (h : StW w0 W X0 X bp la c T en s nv q kind pos text kv kids) : W.cell? ⟨q, 3, none⟩ = some (.string text) := cell_blk h.b
theorem StW.c4 (h : StW w0 W X0 X bp la c T en s nv q kind pos text kv kids) : W.cell? ⟨q, 4, none⟩ = some kv := cell_blk h.b
theorem StW.free (h : StW w0 W X0 X bp la c T en s nv q kind pos text kv kids) (o : Nat) : W.frozen? ⟨q, o, none⟩ = false := free_blk h.b
end

end

end Go.Proofs.YtaklephcgepfjaaGreatDoor

/- The reference's parser: stmt, the ways that begin with a word. (Written by wip/tools/gen_ref11.py.) -/
namespace Go.Proofs.YtaklephcgepfjaaGreatDoor
open Go.RowKit

section
variable {bp : Nat} {la : Option Addr} {c : Nat} {T : List Tk} {en : Int}

/-- One kid more. -/
theorem StW.app {w0 W W5 : World} {X0 X : Nat → Prop} {s : RS} {nv : Value} {q : Nat} {kind pos : Int} {text : ByteArray} {kv v5 : Value} {kids : List Int} {o : Obj} {d : Int} (h : StW w0 W X0 X bp la c T en s nv q kind pos text kv kids)
    (ho : W5.ownsRow 0 3 1 v5 (kids.length + 1) (kids.map (Value.int .i64) ++ [.int .i64 d])) (hg : (W.alloc o).grownBy W5 kv.ownBlock) (hv : ∀ k, v5.ownBlock = some k → kv.ownBlock = some k ∨ (W.alloc o).heap.size ≤ k) :
    StW w0 (W5.setCell ⟨q, 4, none⟩ v5) X0 X bp la c T en s nv q kind pos text v5 (kids ++ [d]) ∧ W5.cell? ⟨q, 4, none⟩ = some kv ∧ W5.frozen? ⟨q, 4, none⟩ = false := by
  have u : Upd W (fun g => kv.ownBlock = some g) W5 (fun g => kv.ownBlock = some g) := ((Upd.refl W _).alloc o).grown hg (fun g hg => .inl hg)
  have hs : (W.alloc o).heap.size = W.heap.size + 1 := by simp
  have hq := lt_blk h.b
  have nq : ¬ kv.ownBlock = some q := fun e => (h.kx q e).2.2.2 rfl
  have kx5 : KX w0 X bp q v5 := fun g hg => by
    rcases hv g hg with e | e
    · exact h.kx g e
    · have := h.p.lt; have := h.u.size
      exact ⟨fun e' => by have := h.p.high _ e'; omega, by omega, by omega, by omega⟩
  have b5 := u.keep h.b nq
  refine ⟨?_, cell_blk b5, free_blk b5⟩
  have p5 : RP W5 X bp la c T en s nv := ⟨h.p.inX, h.p.low, fun g hg => Nat.lt_of_lt_of_le (h.p.high g hg) u.size, u.keep h.p.blk (fun e => (h.kx _ e).1 h.p.inX), h.p.toks.upd u (fun g hg e => by have := (h.kx _ e).2.1; omega), h.p.nodes.upd u (fun g hg _ e => (h.kx _ e).1 hg)⟩
  have u5 : Upd w0 X0 W5 X := ⟨u.os.trans h.u.os, u.tape.trans h.u.tape, u.output.trans h.u.output, Nat.le_trans h.u.size u.size, fun g hg hx => (u.block g (Nat.lt_of_lt_of_le hg h.u.size) (fun e => by have := (h.kx _ e).2.2.1; omega)).trans (h.u.block g hg hx), h.u.sub⟩
  refine { p := p5.other (a := ⟨q, 4, none⟩) h.qx h.qb v5, u := u5.setCell (a := ⟨q, 4, none⟩) (.inr h.q0) v5, b := by exact blk_setCell b5 v5, qx := h.qx, qb := h.qb, q0 := h.q0, k := ?_, kx := kx5 }
  have : KidsAt W5 v5 (kids ++ [d]) := by
    unfold KidsAt
    rw [List.length_append, List.map_append]
    exact ho
  exact ((Upd.refl W5 (fun k => k = q)).setCell (a := ⟨q, 4, none⟩) (.inl rfl) v5).ownsRow this (fun g hg e => (kx5 g hg).2.2.2 e)

set_option maxRecDepth 100000 in
set_option maxHeartbeats 2000000 in
theorem rstmt_fence (n : Nat) (R : RR bp la c T en n) (w : World) (X : Nat → Prop) (nv : Value) (s : RS) (a : Int) (s' : RS) (h : RP w X bp la c T en s nv) (hq : runR T en (n + 1) .stmt s = some (a, s')) (hl : s'.nodes.length ≤ 1000000) (t : Tk) (HT : Hid (T[s.i]? = some t)) (hk : t.kind = 2) (hx : t.text = (⟨#[102, 101, 110, 99, 101]⟩ : ByteArray)) : Calls Tryz.prog 44 #[.pointer (some ⟨bp, 0, none⟩)] w (RDone w X bp la c T en (.int .i64 a) s') := by
  have hw : wordR T s = (⟨#[102, 101, 110, 99, 101]⟩ : ByteArray) := by simp [wordR, HT.out, hk, hx]
  unfold runR at hq
  dsimp only at hq
  rw [hw] at hq
  clear hw
  rw [if_neg (by decide)] at hq
  rw [if_neg (by decide)] at hq
  rw [if_neg (by decide)] at hq
  rw [if_neg (by decide)] at hq
  rw [if_neg (by decide), if_pos rfl] at hq
  obtain ⟨ps, hps⟩ : ∃ ps, ps = posR T en s := ⟨_, rfl⟩
  rw [← hps] at hq
  have HPS := Lib.hid hps; clear hps
  obtain ⟨s1, hs1⟩ : ∃ s1, s1 = takeR T en ((⟨#[102, 101, 110, 99, 101]⟩ : ByteArray)) s := ⟨_, rfl⟩
  rw [← hs1] at hq
  have HS1 := Lib.hid hs1; clear hs1
  unfold putR at hq
  injection hq with hq
  injection hq with e1 e2
  subst e1 e2
  have HB : Hid (s1.nodes.length ≤ 1000000) := Lib.hid (by simp at hl; omega)
  clear hl
  go_enter Tryz.func44, Tryz.ntmps44
  go_wp2_with fail
  refine (rat_c h).mono ?_
  rw [← HPS.out]
  rintro e w1 ⟨rfl, h1, u1⟩
  clear h
  have HH := Lib.hid h1; have U1 := Lib.hid u1; clear u1
  have c0 := h1.c0
  have c2 := h1.c2
  obtain ⟨i, hI⟩ : ∃ i, i = s.i := ⟨_, rfl⟩
  rw [← hI] at c2
  have hi : i < T.length := by rw [hI]; exact (List.getElem?_eq_some_iff.1 HT.out).1
  obtain ⟨bl, rfl, t0, t1, t2, t3⟩ := toks_cells h1 HT.out
  rw [← hI] at t0 t1 t2 t3
  clear hI h1
  have hd : decide ((i : Int) < (T.length : Int)) = true := by simp; omega
  have hd2 : decide (i < T.length) = true := by simp; omega
  rw [hk] at t0
  go_upto_region 3 with (fail)
  go_quiet (fail)
  go_upto_region 4 with (fail)
  go_quiet (fail)
  generalize hw9 : World.drewN (World.drewN w1 _) _ = w9
  have HP9 : Hid (RP w9 X bp (some ⟨bl, 0, none⟩) c T en s nv ∧ Upd w X w9 X) := Lib.hid (by rw [← hw9]; exact ⟨((HH.out.drewN _).drewN _), ((U1.out.drewN _).drewN _)⟩)
  clear hw9 c0 c2 HH U1 t0 t1 t2 t3
  go_upto_region 6 with (fail)
  refine wp_gen (fun W => RP W X bp (some ⟨bl, 0, none⟩) c T en s nv ∧ Upd w X W X ∧ W.heap[w9.heap.size]? = some (.cells #[.int .i64 0, .int .i64 0, .int .i64 ps, .string ⟨#[]⟩, .slice none 0 0] 57 (0, 0))) ⟨HP9.out.1.alloc _, HP9.out.2.alloc _, blk_new rfl⟩ ?_
  obtain ⟨q, hqq⟩ : ∃ q, q = w9.heap.size := ⟨_, rfl⟩
  have HQ1 : Hid (¬ X q ∧ bp ≤ q ∧ w.heap.size ≤ q) := Lib.hid (by rw [hqq]; exact ⟨fun e => by have := HP9.out.1.high _ e; omega, Nat.le_of_lt HP9.out.1.lt, HP9.out.2.size⟩)
  rw [← hqq]
  clear hqq HP9
  rintro w30 ⟨h30, u30, hb30⟩
  have T30 : Hid (StW w w30 X X bp (some ⟨bl, 0, none⟩) c T en s nv q 0 ps ⟨#[]⟩ (.slice none 0 0) []) := Lib.hid ⟨h30, u30, hb30, HQ1.out.1, HQ1.out.2.1, HQ1.out.2.2, World.ownsRow_nil _ _ _ _, KX.nil⟩
  clear h30 u30 hb30 HQ1
  as_aux_lemma =>
  have E_int : (t.text.toList == [105, 110, 116]) = false := by rw [txt_eq, hx]; decide
  have E_if : (t.text.toList == [105, 102]) = false := by rw [txt_eq, hx]; decide
  have E_while : (t.text.toList == [119, 104, 105, 108, 101]) = false := by rw [txt_eq, hx]; decide
  have E_print : (t.text.toList == [112, 114, 105, 110, 116]) = false := by rw [txt_eq, hx]; decide
  have E_lock : (t.text.toList == [108, 111, 99, 107]) = false := by rw [txt_eq, hx]; decide
  have E_unlock : (t.text.toList == [117, 110, 108, 111, 99, 107]) = false := by rw [txt_eq, hx]; decide
  have E_fence : (t.text.toList == [102, 101, 110, 99, 101]) = true := by rw [txt_eq, hx]; decide
  go_wp2_with fail
  refine (rtake_c ((⟨#[102, 101, 110, 99, 101]⟩ : ByteArray)) T30.out.p R.len).mono ?_
  rintro e w31 ⟨rfl, h31, u31⟩
  rw [← HS1.out] at h31
  have T31 := Lib.hid (T30.out.call h31 u31)
  clear h31 u31 T30
  have st0 := T31.out.c0; have st1 := T31.out.free 0
  go_upto_region 52 with (fail)
  refine wp_gen (fun W => StW w W X X bp (some ⟨bl, 0, none⟩) c T en (s1) nv q (14) ps (⟨#[]⟩) (.slice none 0 0) []) (T31.out.set 0 (.int .i64 14) rfl) ?_
  clear st0 st1 T31
  as_aux_lemma =>
  intro w32 t32
  have T32 := Lib.hid t32; clear t32
  go_wp2_with fail
  refine (rtake_c ((⟨#[59]⟩ : ByteArray)) T32.out.p R.len).mono ?_
  rintro e w33 ⟨rfl, h33, u33⟩
  have T33 := Lib.hid (T32.out.call h33 u33)
  clear h33 u33 T32
  have n0 := T33.out.c0; have n1 := T33.out.c1; have n2 := T33.out.c2; have n3 := T33.out.c3; have n4 := T33.out.c4
  go_wp2_with fail
  refine (T33.out.node (by simpa using HB.out)).mono ?_
  rintro e w90 ⟨rfl, X90, nv90, h90, u90⟩
  clear n0 n1 n2 n3 n4
  go_wp2_with fail
  go_ret
  exact ⟨ret_int (by simp), _, _, h90, u90⟩

end

end Go.Proofs.YtaklephcgepfjaaGreatDoor
