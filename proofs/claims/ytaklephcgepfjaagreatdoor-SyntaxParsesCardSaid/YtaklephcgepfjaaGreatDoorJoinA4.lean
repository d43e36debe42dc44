/- The reference's parser: stmt, the ways that begin with a word. (Written by wip/tools/gen_ref11.py.) -/
import Derived.Test.YtaklephcgepfjaaGreatDoorJoinA1
import Derived.Test.YtaklephcgepfjaaGreatDoorJoinA2
import Derived.Test.YtaklephcgepfjaaGreatDoorJoinA3
import Derived.Deep.Cut
import Derived.Deep.CutBlock
import Derived.Deep.CutRange
import Derived.Lib.ConvBytes
import Derived.Lib.Atoi
import Derived.RegionTactic
import Derived.BigRegion
import Derived.Deep.RegionWith
set_option linter.unusedVariables false
set_option linter.unusedSimpArgs false
set_option linter.all false

namespace Go.Proofs.YtaklephcgepfjaaGreatDoor
open Go.RowKit

section
variable {bp : Nat} {la : Option Addr} {c : Nat} {T : List Tk} {en : Int}

set_option maxRecDepth 100000 in
set_option maxHeartbeats 2000000 in
theorem rstmt_print (n : Nat) (R : RR bp la c T en n) (w : World) (X : Nat → Prop) (nv : Value) (s : RS) (a : Int) (s' : RS) (h : RP w X bp la c T en s nv) (hq : runR T en (n + 1) .stmt s = some (a, s')) (hl : s'.nodes.length ≤ 1000000) (t : Tk) (HT : Hid (T[s.i]? = some t)) (hk : t.kind = 2) (hx : t.text = (⟨#[112, 114, 105, 110, 116]⟩ : ByteArray)) : Calls Tryz.prog 44 #[.pointer (some ⟨bp, 0, none⟩)] w (RDone w X bp la c T en (.int .i64 a) s') := by
  have hw : wordR T s = (⟨#[112, 114, 105, 110, 116]⟩ : ByteArray) := by simp [wordR, HT.out, hk, hx]
  unfold runR at hq
  dsimp only at hq
  rw [hw] at hq
  clear hw
  rw [if_neg (by decide)] at hq
  rw [if_neg (by decide)] at hq
  rw [if_neg (by decide)] at hq
  rw [if_pos rfl] at hq
  obtain ⟨ps, hps⟩ : ∃ ps, ps = posR T en s := ⟨_, rfl⟩
  rw [← hps] at hq
  have HPS := Lib.hid hps; clear hps
  obtain ⟨s1, hs1⟩ : ∃ s1, s1 = takeR T en ((⟨#[112, 114, 105, 110, 116]⟩ : ByteArray)) s := ⟨_, rfl⟩
  rw [← hs1] at hq
  have HS1 := Lib.hid hs1; clear hs1
  obtain ⟨k, s2, q2, hq⟩ := bindR_eq.1 hq
  have Q2 := Lib.hid q2; clear q2
  unfold putR at hq
  injection hq with hq
  injection hq with e1 e2
  subst e1 e2
  have HB : Hid (s2.nodes.length ≤ 1000000) := Lib.hid (by simp at hl; omega)
  clear hl
  go_enter Tryz.func44, Tryz.ntmps44
  go_wp2_with fail
  refine (rat_c h).mono ?_
  rw [← HPS.out]
  rintro e w1 ⟨rfl, h1, u1⟩
  clear h
  have HH := Lib.hid h1; have U1 := Lib.hid u1; clear u1
  have c0 := h1.c0
  have c2 := h1.c2
  obtain ⟨i, hI⟩ : ∃ i, i = s.i := ⟨_, rfl⟩
  rw [← hI] at c2
  have hi : i < T.length := by rw [hI]; exact (List.getElem?_eq_some_iff.1 HT.out).1
  obtain ⟨bl, rfl, t0, t1, t2, t3⟩ := toks_cells h1 HT.out
  rw [← hI] at t0 t1 t2 t3
  clear hI h1
  have hd : decide ((i : Int) < (T.length : Int)) = true := by simp; omega
  have hd2 : decide (i < T.length) = true := by simp; omega
  rw [hk] at t0
  go_upto_region 3 with (fail)
  go_quiet (fail)
  go_upto_region 4 with (fail)
  go_quiet (fail)
  generalize hw9 : World.drewN (World.drewN w1 _) _ = w9
  have HP9 : Hid (RP w9 X bp (some ⟨bl, 0, none⟩) c T en s nv ∧ Upd w X w9 X) := Lib.hid (by rw [← hw9]; exact ⟨((HH.out.drewN _).drewN _), ((U1.out.drewN _).drewN _)⟩)
  clear hw9 c0 c2 HH U1 t0 t1 t2 t3
  go_upto_region 6 with (fail)
  refine wp_gen (fun W => RP W X bp (some ⟨bl, 0, none⟩) c T en s nv ∧ Upd w X W X ∧ W.heap[w9.heap.size]? = some (.cells #[.int .i64 0, .int .i64 0, .int .i64 ps, .string ⟨#[]⟩, .slice none 0 0] 57 (0, 0))) ⟨HP9.out.1.alloc _, HP9.out.2.alloc _, blk_new rfl⟩ ?_
  obtain ⟨q, hqq⟩ : ∃ q, q = w9.heap.size := ⟨_, rfl⟩
  have HQ1 : Hid (¬ X q ∧ bp ≤ q ∧ w.heap.size ≤ q) := Lib.hid (by rw [hqq]; exact ⟨fun e => by have := HP9.out.1.high _ e; omega, Nat.le_of_lt HP9.out.1.lt, HP9.out.2.size⟩)
  rw [← hqq]
  clear hqq HP9
  rintro w30 ⟨h30, u30, hb30⟩
  have T30 : Hid (StW w w30 X X bp (some ⟨bl, 0, none⟩) c T en s nv q 0 ps ⟨#[]⟩ (.slice none 0 0) []) := Lib.hid ⟨h30, u30, hb30, HQ1.out.1, HQ1.out.2.1, HQ1.out.2.2, World.ownsRow_nil _ _ _ _, KX.nil⟩
  clear h30 u30 hb30 HQ1
  as_aux_lemma =>
  have E_int : (t.text.toList == [105, 110, 116]) = false := by rw [txt_eq, hx]; decide
  have E_if : (t.text.toList == [105, 102]) = false := by rw [txt_eq, hx]; decide
  have E_while : (t.text.toList == [119, 104, 105, 108, 101]) = false := by rw [txt_eq, hx]; decide
  have E_print : (t.text.toList == [112, 114, 105, 110, 116]) = true := by rw [txt_eq, hx]; decide
  go_wp2_with fail
  refine (rtake_c ((⟨#[112, 114, 105, 110, 116]⟩ : ByteArray)) T30.out.p R.len).mono ?_
  rintro e w31 ⟨rfl, h31, u31⟩
  rw [← HS1.out] at h31
  have T31 := Lib.hid (T30.out.call h31 u31)
  clear h31 u31 T30
  have st0 := T31.out.c0; have st1 := T31.out.free 0
  go_upto_region 36 with (fail)
  refine wp_gen (fun W => StW w W X X bp (some ⟨bl, 0, none⟩) c T en (s1) nv q (11) ps (⟨#[]⟩) (.slice none 0 0) []) (T31.out.set 0 (.int .i64 11) rfl) ?_
  clear st0 st1 T31
  as_aux_lemma =>
  intro w32 t32
  have T32 := Lib.hid t32; clear t32
  go_wp2_with fail
  refine (R.held _ _ _ _ _ _ T32.out.p Q2.out HB.out).mono ?_
  rintro e w33 ⟨rfl, X33, nv33, h33, u33⟩
  have T33 := Lib.hid (T32.out.call h33 u33)
  clear h33 u33 T32
  have st0 := T33.out.c4; have st1 := T33.out.free 4; have st2 : q < w33.heap.size := lt_blk T33.out.b
  go_upto_region 38 with (fail)
  obtain ⟨g34, hg34⟩ : ∃ g, g = w33.heap.size := ⟨_, rfl⟩
  have TK := Lib.hid (T33.out.kid [k] (by simp))
  rw [← hg34] at TK ⊢
  clear hg34
  refine wp_gen (fun W => StW w W X X33 bp (some ⟨bl, 0, none⟩) c T en (s2) nv33 q (11) ps (⟨#[]⟩) (.slice (some ⟨g34, 0, none⟩) 1 1) [k]) TK.out ?_
  clear st0 st1 st2 TK T33
  as_aux_lemma =>
  intro w34 t34
  have T34 := Lib.hid t34; clear t34
  go_wp2_with fail
  refine (rtake_c ((⟨#[59]⟩ : ByteArray)) T34.out.p R.len).mono ?_
  rintro e w35 ⟨rfl, h35, u35⟩
  have T35 := Lib.hid (T34.out.call h35 u35)
  clear h35 u35 T34
  have n0 := T35.out.c0; have n1 := T35.out.c1; have n2 := T35.out.c2; have n3 := T35.out.c3; have n4 := T35.out.c4
  go_wp2_with fail
  refine (T35.out.node (by simpa using HB.out)).mono ?_
  rintro e w90 ⟨rfl, X90, nv90, h90, u90⟩
  clear n0 n1 n2 n3 n4
  go_wp2_with fail
  go_ret
  exact ⟨ret_int (by simp), _, _, h90, u90⟩

end

end Go.Proofs.YtaklephcgepfjaaGreatDoor

/- The reference's parser: stmt, the ways that begin with a word. (Written by wip/tools/gen_ref11.py.) -/
namespace Go.Proofs.YtaklephcgepfjaaGreatDoor
open Go.RowKit

section
variable {bp : Nat} {la : Option Addr} {c : Nat} {T : List Tk} {en : Int}

set_option maxRecDepth 100000 in
set_option maxHeartbeats 2000000 in
theorem rstmt_int (n : Nat) (R : RR bp la c T en n) (w : World) (X : Nat → Prop) (nv : Value) (s : RS) (a : Int) (s' : RS) (h : RP w X bp la c T en s nv) (hq : runR T en (n + 1) .stmt s = some (a, s')) (hl : s'.nodes.length ≤ 1000000) (t : Tk) (HT : Hid (T[s.i]? = some t)) (hk : t.kind = 2) (hx : t.text = (⟨#[105, 110, 116]⟩ : ByteArray)) : Calls Tryz.prog 44 #[.pointer (some ⟨bp, 0, none⟩)] w (RDone w X bp la c T en (.int .i64 a) s') := by
  have hw : wordR T s = (⟨#[105, 110, 116]⟩ : ByteArray) := by simp [wordR, HT.out, hk, hx]
  unfold runR at hq
  dsimp only at hq
  rw [hw] at hq
  clear hw
  rw [if_pos rfl] at hq
  obtain ⟨ps, hps⟩ : ∃ ps, ps = posR T en s := ⟨_, rfl⟩
  rw [← hps] at hq
  have HPS := Lib.hid hps; clear hps
  obtain ⟨s1, hs1⟩ : ∃ s1, s1 = takeR T en ((⟨#[105, 110, 116]⟩ : ByteArray)) s := ⟨_, rfl⟩
  rw [← hs1] at hq
  have HS1 := Lib.hid hs1; clear hs1
  obtain ⟨s2, hs2⟩ : ∃ s2, s2 = takeR T en ((⟨#[61]⟩ : ByteArray)) (nameR T en s1) := ⟨_, rfl⟩
  rw [← hs2] at hq
  have HS2 := Lib.hid hs2; clear hs2
  obtain ⟨k, s3, q3, hq⟩ := bindR_eq.1 hq
  have Q3 := Lib.hid q3; clear q3
  unfold putR at hq
  injection hq with hq
  injection hq with e1 e2
  subst e1 e2
  have HB : Hid (s3.nodes.length ≤ 1000000) := Lib.hid (by simp at hl; omega)
  clear hl
  go_enter Tryz.func44, Tryz.ntmps44
  go_wp2_with fail
  refine (rat_c h).mono ?_
  rw [← HPS.out]
  rintro e w1 ⟨rfl, h1, u1⟩
  clear h
  have HH := Lib.hid h1; have U1 := Lib.hid u1; clear u1
  have c0 := h1.c0
  have c2 := h1.c2
  obtain ⟨i, hI⟩ : ∃ i, i = s.i := ⟨_, rfl⟩
  rw [← hI] at c2
  have hi : i < T.length := by rw [hI]; exact (List.getElem?_eq_some_iff.1 HT.out).1
  obtain ⟨bl, rfl, t0, t1, t2, t3⟩ := toks_cells h1 HT.out
  rw [← hI] at t0 t1 t2 t3
  clear hI h1
  have hd : decide ((i : Int) < (T.length : Int)) = true := by simp; omega
  have hd2 : decide (i < T.length) = true := by simp; omega
  rw [hk] at t0
  go_upto_region 3 with (fail)
  go_quiet (fail)
  go_upto_region 4 with (fail)
  go_quiet (fail)
  generalize hw9 : World.drewN (World.drewN w1 _) _ = w9
  have HP9 : Hid (RP w9 X bp (some ⟨bl, 0, none⟩) c T en s nv ∧ Upd w X w9 X) := Lib.hid (by rw [← hw9]; exact ⟨((HH.out.drewN _).drewN _), ((U1.out.drewN _).drewN _)⟩)
  clear hw9 c0 c2 HH U1 t0 t1 t2 t3
  go_upto_region 6 with (fail)
  refine wp_gen (fun W => RP W X bp (some ⟨bl, 0, none⟩) c T en s nv ∧ Upd w X W X ∧ W.heap[w9.heap.size]? = some (.cells #[.int .i64 0, .int .i64 0, .int .i64 ps, .string ⟨#[]⟩, .slice none 0 0] 57 (0, 0))) ⟨HP9.out.1.alloc _, HP9.out.2.alloc _, blk_new rfl⟩ ?_
  obtain ⟨q, hqq⟩ : ∃ q, q = w9.heap.size := ⟨_, rfl⟩
  have HQ1 : Hid (¬ X q ∧ bp ≤ q ∧ w.heap.size ≤ q) := Lib.hid (by rw [hqq]; exact ⟨fun e => by have := HP9.out.1.high _ e; omega, Nat.le_of_lt HP9.out.1.lt, HP9.out.2.size⟩)
  rw [← hqq]
  clear hqq HP9
  rintro w30 ⟨h30, u30, hb30⟩
  have T30 : Hid (StW w w30 X X bp (some ⟨bl, 0, none⟩) c T en s nv q 0 ps ⟨#[]⟩ (.slice none 0 0) []) := Lib.hid ⟨h30, u30, hb30, HQ1.out.1, HQ1.out.2.1, HQ1.out.2.2, World.ownsRow_nil _ _ _ _, KX.nil⟩
  clear h30 u30 hb30 HQ1
  as_aux_lemma =>
  have E_int : (t.text.toList == [105, 110, 116]) = true := by rw [txt_eq, hx]; decide
  go_wp2_with fail
  refine (rtake_c ((⟨#[105, 110, 116]⟩ : ByteArray)) T30.out.p R.len).mono ?_
  rintro e w31 ⟨rfl, h31, u31⟩
  rw [← HS1.out] at h31
  have T31 := Lib.hid (T30.out.call h31 u31)
  clear h31 u31 T30
  have st0 := T31.out.c0; have st1 := T31.out.free 0
  go_upto_region 11 with (fail)
  refine wp_gen (fun W => StW w W X X bp (some ⟨bl, 0, none⟩) c T en (s1) nv q (6) ps (⟨#[]⟩) (.slice none 0 0) []) (T31.out.set 0 (.int .i64 6) rfl) ?_
  clear st0 st1 T31
  as_aux_lemma =>
  intro w32 t32
  have T32 := Lib.hid t32; clear t32
  go_wp2_with fail
  refine (rname_c T32.out.p R.len).mono ?_
  rintro e w33 ⟨rfl, h33, u33⟩
  have T33 := Lib.hid (T32.out.call h33 u33)
  clear h33 u33 T32
  have st0 := T33.out.c3; have st1 := T33.out.free 3
  go_upto_region 12 with (fail)
  refine wp_gen (fun W => StW w W X X bp (some ⟨bl, 0, none⟩) c T en (nameR T en s1) nv q (6) ps (nameT T s1) (.slice none 0 0) []) (T33.out.set 3 (.string (nameT T s1)) rfl) ?_
  clear st0 st1 T33
  as_aux_lemma =>
  intro w34 t34
  have T34 := Lib.hid t34; clear t34
  go_wp2_with fail
  refine (rtake_c ((⟨#[61]⟩ : ByteArray)) T34.out.p R.len).mono ?_
  rintro e w35 ⟨rfl, h35, u35⟩
  rw [← HS2.out] at h35
  have T35 := Lib.hid (T34.out.call h35 u35)
  clear h35 u35 T34
  go_wp2_with fail
  refine (R.expr0 _ _ _ _ _ _ T35.out.p Q3.out HB.out).mono ?_
  rintro e w36 ⟨rfl, X36, nv36, h36, u36⟩
  have T36 := Lib.hid (T35.out.call h36 u36)
  clear h36 u36 T35
  have st0 := T36.out.c4; have st1 := T36.out.free 4; have st2 : q < w36.heap.size := lt_blk T36.out.b
  go_upto_region 15 with (fail)
  obtain ⟨g37, hg37⟩ : ∃ g, g = w36.heap.size := ⟨_, rfl⟩
  have TK := Lib.hid (T36.out.kid [k] (by simp))
  rw [← hg37] at TK ⊢
  clear hg37
  refine wp_gen (fun W => StW w W X X36 bp (some ⟨bl, 0, none⟩) c T en (s3) nv36 q (6) ps (nameT T s1) (.slice (some ⟨g37, 0, none⟩) 1 1) [k]) TK.out ?_
  clear st0 st1 st2 TK T36
  as_aux_lemma =>
  intro w37 t37
  have T37 := Lib.hid t37; clear t37
  go_wp2_with fail
  refine (rtake_c ((⟨#[59]⟩ : ByteArray)) T37.out.p R.len).mono ?_
  rintro e w38 ⟨rfl, h38, u38⟩
  have T38 := Lib.hid (T37.out.call h38 u38)
  clear h38 u38 T37
  have n0 := T38.out.c0; have n1 := T38.out.c1; have n2 := T38.out.c2; have n3 := T38.out.c3; have n4 := T38.out.c4
  go_wp2_with fail
  refine (T38.out.node (by simpa using HB.out)).mono ?_
  rintro e w90 ⟨rfl, X90, nv90, h90, u90⟩
  clear n0 n1 n2 n3 n4
  go_wp2_with fail
  go_ret
  exact ⟨ret_int (by simp), _, _, h90, u90⟩

end

end Go.Proofs.YtaklephcgepfjaaGreatDoor

/- The reference's parser: stmt, the ways that begin with a word. (Written by wip/tools/gen_ref11.py.) -/
namespace Go.Proofs.YtaklephcgepfjaaGreatDoor
open Go.RowKit

section
variable {bp : Nat} {la : Option Addr} {c : Nat} {T : List Tk} {en : Int}

set_option maxRecDepth 100000 in
set_option maxHeartbeats 2000000 in
theorem rstmt_while (n : Nat) (R : RR bp la c T en n) (w : World) (X : Nat → Prop) (nv : Value) (s : RS) (a : Int) (s' : RS) (h : RP w X bp la c T en s nv) (hq : runR T en (n + 1) .stmt s = some (a, s')) (hl : s'.nodes.length ≤ 1000000) (t : Tk) (HT : Hid (T[s.i]? = some t)) (hk : t.kind = 2) (hx : t.text = (⟨#[119, 104, 105, 108, 101]⟩ : ByteArray)) : Calls Tryz.prog 44 #[.pointer (some ⟨bp, 0, none⟩)] w (RDone w X bp la c T en (.int .i64 a) s') := by
  have hw : wordR T s = (⟨#[119, 104, 105, 108, 101]⟩ : ByteArray) := by simp [wordR, HT.out, hk, hx]
  unfold runR at hq
  dsimp only at hq
  rw [hw] at hq
  clear hw
  rw [if_neg (by decide)] at hq
  rw [if_neg (by decide)] at hq
  rw [if_pos rfl] at hq
  obtain ⟨ps, hps⟩ : ∃ ps, ps = posR T en s := ⟨_, rfl⟩
  rw [← hps] at hq
  have HPS := Lib.hid hps; clear hps
  obtain ⟨s1, hs1⟩ : ∃ s1, s1 = takeR T en ((⟨#[119, 104, 105, 108, 101]⟩ : ByteArray)) s := ⟨_, rfl⟩
  rw [← hs1] at hq
  have HS1 := Lib.hid hs1; clear hs1
  obtain ⟨k, s2, q2, hq⟩ := bindR_eq.1 hq
  obtain ⟨b, s3, q3, hq⟩ := bindR_eq.1 hq
  have hm := runR_mono _ _ _ _ _ q3
  have Q2 := Lib.hid q2; have Q3 := Lib.hid q3; clear q2 q3
  unfold putR at hq
  injection hq with hq
  injection hq with e1 e2
  subst e1 e2
  have HB : Hid (s3.nodes.length ≤ 1000000) := Lib.hid (by simp at hl; omega)
  clear hl
  have HB2 : Hid (s2.nodes.length ≤ 1000000) := Lib.hid (by have := HB.out; omega)
  clear hm
  go_enter Tryz.func44, Tryz.ntmps44
  go_wp2_with fail
  refine (rat_c h).mono ?_
  rw [← HPS.out]
  rintro e w1 ⟨rfl, h1, u1⟩
  clear h
  have HH := Lib.hid h1; have U1 := Lib.hid u1; clear u1
  have c0 := h1.c0
  have c2 := h1.c2
  obtain ⟨i, hI⟩ : ∃ i, i = s.i := ⟨_, rfl⟩
  rw [← hI] at c2
  have hi : i < T.length := by rw [hI]; exact (List.getElem?_eq_some_iff.1 HT.out).1
  obtain ⟨bl, rfl, t0, t1, t2, t3⟩ := toks_cells h1 HT.out
  rw [← hI] at t0 t1 t2 t3
  clear hI h1
  have hd : decide ((i : Int) < (T.length : Int)) = true := by simp; omega
  have hd2 : decide (i < T.length) = true := by simp; omega
  rw [hk] at t0
  go_upto_region 3 with (fail)
  go_quiet (fail)
  go_upto_region 4 with (fail)
  go_quiet (fail)
  generalize hw9 : World.drewN (World.drewN w1 _) _ = w9
  have HP9 : Hid (RP w9 X bp (some ⟨bl, 0, none⟩) c T en s nv ∧ Upd w X w9 X) := Lib.hid (by rw [← hw9]; exact ⟨((HH.out.drewN _).drewN _), ((U1.out.drewN _).drewN _)⟩)
  clear hw9 c0 c2 HH U1 t0 t1 t2 t3
  go_upto_region 6 with (fail)
  refine wp_gen (fun W => RP W X bp (some ⟨bl, 0, none⟩) c T en s nv ∧ Upd w X W X ∧ W.heap[w9.heap.size]? = some (.cells #[.int .i64 0, .int .i64 0, .int .i64 ps, .string ⟨#[]⟩, .slice none 0 0] 57 (0, 0))) ⟨HP9.out.1.alloc _, HP9.out.2.alloc _, blk_new rfl⟩ ?_
  obtain ⟨q, hqq⟩ : ∃ q, q = w9.heap.size := ⟨_, rfl⟩
  have HQ1 : Hid (¬ X q ∧ bp ≤ q ∧ w.heap.size ≤ q) := Lib.hid (by rw [hqq]; exact ⟨fun e => by have := HP9.out.1.high _ e; omega, Nat.le_of_lt HP9.out.1.lt, HP9.out.2.size⟩)
  rw [← hqq]
  clear hqq HP9
  rintro w30 ⟨h30, u30, hb30⟩
  have T30 : Hid (StW w w30 X X bp (some ⟨bl, 0, none⟩) c T en s nv q 0 ps ⟨#[]⟩ (.slice none 0 0) []) := Lib.hid ⟨h30, u30, hb30, HQ1.out.1, HQ1.out.2.1, HQ1.out.2.2, World.ownsRow_nil _ _ _ _, KX.nil⟩
  clear h30 u30 hb30 HQ1
  as_aux_lemma =>
  have E_int : (t.text.toList == [105, 110, 116]) = false := by rw [txt_eq, hx]; decide
  have E_if : (t.text.toList == [105, 102]) = false := by rw [txt_eq, hx]; decide
  have E_while : (t.text.toList == [119, 104, 105, 108, 101]) = true := by rw [txt_eq, hx]; decide
  go_wp2_with fail
  refine (rtake_c ((⟨#[119, 104, 105, 108, 101]⟩ : ByteArray)) T30.out.p R.len).mono ?_
  rintro e w31 ⟨rfl, h31, u31⟩
  rw [← HS1.out] at h31
  have T31 := Lib.hid (T30.out.call h31 u31)
  clear h31 u31 T30
  have st0 := T31.out.c0; have st1 := T31.out.free 0
  go_upto_region 30 with (fail)
  refine wp_gen (fun W => StW w W X X bp (some ⟨bl, 0, none⟩) c T en (s1) nv q (10) ps (⟨#[]⟩) (.slice none 0 0) []) (T31.out.set 0 (.int .i64 10) rfl) ?_
  clear st0 st1 T31
  as_aux_lemma =>
  intro w32 t32
  have T32 := Lib.hid t32; clear t32
  go_wp2_with fail
  refine (R.held _ _ _ _ _ _ T32.out.p Q2.out HB2.out).mono ?_
  rintro e w33 ⟨rfl, X33, nv33, h33, u33⟩
  have T33 := Lib.hid (T32.out.call h33 u33)
  clear h33 u33 T32
  go_wp2_with fail
  refine (R.block _ _ _ _ _ _ T33.out.p Q3.out HB.out).mono ?_
  rintro e w34 ⟨rfl, X34, nv34, h34, u34⟩
  have T34 := Lib.hid (T33.out.call h34 u34)
  clear h34 u34 T33
  have st0 := T34.out.c4; have st1 := T34.out.free 4; have st2 : q < w34.heap.size := lt_blk T34.out.b
  go_upto_region 53 with (fail)
  obtain ⟨g35, hg35⟩ : ∃ g, g = w34.heap.size := ⟨_, rfl⟩
  have TK := Lib.hid (T34.out.kid [k, b] (by simp))
  rw [← hg35] at TK ⊢
  clear hg35
  refine wp_gen (fun W => StW w W X X34 bp (some ⟨bl, 0, none⟩) c T en (s3) nv34 q (10) ps (⟨#[]⟩) (.slice (some ⟨g35, 0, none⟩) 2 2) [k, b]) TK.out ?_
  clear st0 st1 st2 TK T34
  as_aux_lemma =>
  intro w35 t35
  have T35 := Lib.hid t35; clear t35
  have n0 := T35.out.c0; have n1 := T35.out.c1; have n2 := T35.out.c2; have n3 := T35.out.c3; have n4 := T35.out.c4
  go_wp2_with fail
  refine (T35.out.node (by simpa using HB.out)).mono ?_
  rintro e w90 ⟨rfl, X90, nv90, h90, u90⟩
  clear n0 n1 n2 n3 n4
  go_wp2_with fail
  go_ret
  exact ⟨ret_int (by simp), _, _, h90, u90⟩

end

end Go.Proofs.YtaklephcgepfjaaGreatDoor

/- The reference's parser: stmt, the ways that begin with a word. (Written by wip/tools/gen_ref11.py.) -/
namespace Go.Proofs.YtaklephcgepfjaaGreatDoor
open Go.RowKit

section
variable {bp : Nat} {la : Option Addr} {c : Nat} {T : List Tk} {en : Int}

set_option maxRecDepth 100000 in
set_option maxHeartbeats 2000000 in
theorem rstmt_lock (n : Nat) (R : RR bp la c T en n) (w : World) (X : Nat → Prop) (nv : Value) (s : RS) (a : Int) (s' : RS) (h : RP w X bp la c T en s nv) (hq : runR T en (n + 1) .stmt s = some (a, s')) (hl : s'.nodes.length ≤ 1000000) (t : Tk) (HT : Hid (T[s.i]? = some t)) (hk : t.kind = 2) (hx : t.text = (⟨#[108, 111, 99, 107]⟩ : ByteArray)) : Calls Tryz.prog 44 #[.pointer (some ⟨bp, 0, none⟩)] w (RDone w X bp la c T en (.int .i64 a) s') := by
  have hw : wordR T s = (⟨#[108, 111, 99, 107]⟩ : ByteArray) := by simp [wordR, HT.out, hk, hx]
  unfold runR at hq
  dsimp only at hq
  rw [hw] at hq
  clear hw
  rw [if_neg (by decide)] at hq
  rw [if_neg (by decide)] at hq
  rw [if_neg (by decide)] at hq
  rw [if_neg (by decide)] at hq
  rw [if_pos (by decide)] at hq
  rw [if_neg (by decide)] at hq
  obtain ⟨ps, hps⟩ : ∃ ps, ps = posR T en s := ⟨_, rfl⟩
  rw [← hps] at hq
  have HPS := Lib.hid hps; clear hps
  obtain ⟨s1, hs1⟩ : ∃ s1, s1 = takeR T en ((⟨#[108, 111, 99, 107]⟩ : ByteArray)) s := ⟨_, rfl⟩
  rw [← hs1] at hq
  have HS1 := Lib.hid hs1; clear hs1
  obtain ⟨s2, hs2⟩ : ∃ s2, s2 = openR T en ((⟨#[40]⟩ : ByteArray)) s1 := ⟨_, rfl⟩
  rw [← hs2] at hq
  have HS2 := Lib.hid hs2
  unfold putR at hq
  injection hq with hq
  injection hq with e1 e2
  subst e1 e2
  have HB : Hid (s2.nodes.length ≤ 1000000) := Lib.hid (by simp at hl; omega)
  clear hl hs2
  have HXT := Lib.hid hx
  go_enter Tryz.func44, Tryz.ntmps44
  go_wp2_with fail
  refine (rat_c h).mono ?_
  rw [← HPS.out]
  rintro e w1 ⟨rfl, h1, u1⟩
  clear h
  have HH := Lib.hid h1; have U1 := Lib.hid u1; clear u1
  have c0 := h1.c0
  have c2 := h1.c2
  obtain ⟨i, hI⟩ : ∃ i, i = s.i := ⟨_, rfl⟩
  rw [← hI] at c2
  have hi : i < T.length := by rw [hI]; exact (List.getElem?_eq_some_iff.1 HT.out).1
  obtain ⟨bl, rfl, t0, t1, t2, t3⟩ := toks_cells h1 HT.out
  rw [← hI] at t0 t1 t2 t3
  clear hI h1
  have hd : decide ((i : Int) < (T.length : Int)) = true := by simp; omega
  have hd2 : decide (i < T.length) = true := by simp; omega
  rw [hk] at t0
  go_upto_region 3 with (fail)
  go_quiet (fail)
  go_upto_region 4 with (fail)
  go_quiet (fail)
  generalize hw9 : World.drewN (World.drewN w1 _) _ = w9
  have HP9 : Hid (RP w9 X bp (some ⟨bl, 0, none⟩) c T en s nv ∧ Upd w X w9 X) := Lib.hid (by rw [← hw9]; exact ⟨((HH.out.drewN _).drewN _), ((U1.out.drewN _).drewN _)⟩)
  clear hw9 c0 c2 HH U1 t0 t1 t2 t3
  go_upto_region 6 with (fail)
  refine wp_gen (fun W => RP W X bp (some ⟨bl, 0, none⟩) c T en s nv ∧ Upd w X W X ∧ W.heap[w9.heap.size]? = some (.cells #[.int .i64 0, .int .i64 0, .int .i64 ps, .string ⟨#[]⟩, .slice none 0 0] 57 (0, 0))) ⟨HP9.out.1.alloc _, HP9.out.2.alloc _, blk_new rfl⟩ ?_
  obtain ⟨q, hqq⟩ : ∃ q, q = w9.heap.size := ⟨_, rfl⟩
  have HQ1 : Hid (¬ X q ∧ bp ≤ q ∧ w.heap.size ≤ q) := Lib.hid (by rw [hqq]; exact ⟨fun e => by have := HP9.out.1.high _ e; omega, Nat.le_of_lt HP9.out.1.lt, HP9.out.2.size⟩)
  rw [← hqq]
  clear hqq HP9
  rintro w30 ⟨h30, u30, hb30⟩
  have T30 : Hid (StW w w30 X X bp (some ⟨bl, 0, none⟩) c T en s nv q 0 ps ⟨#[]⟩ (.slice none 0 0) []) := Lib.hid ⟨h30, u30, hb30, HQ1.out.1, HQ1.out.2.1, HQ1.out.2.2, World.ownsRow_nil _ _ _ _, KX.nil⟩
  clear h30 u30 hb30 HQ1
  as_aux_lemma =>
  have E_int : (t.text.toList == [105, 110, 116]) = false := by rw [txt_eq, hx]; decide
  have E_if : (t.text.toList == [105, 102]) = false := by rw [txt_eq, hx]; decide
  have E_while : (t.text.toList == [119, 104, 105, 108, 101]) = false := by rw [txt_eq, hx]; decide
  have E_print : (t.text.toList == [112, 114, 105, 110, 116]) = false := by rw [txt_eq, hx]; decide
  have E_lock : (t.text.toList == [108, 111, 99, 107]) = true := by rw [txt_eq, hx]; decide
  have E_unlock2 : (t.text.toList == [117, 110, 108, 111, 99, 107]) = false := by rw [txt_eq, hx]; decide
  skip
  go_wp2_with fail
  refine (rtake_c ((⟨#[108, 111, 99, 107]⟩ : ByteArray)) T30.out.p R.len).mono ?_
  rintro e w31 ⟨rfl, h31, u31⟩
  rw [← HS1.out] at h31
  have T31 := Lib.hid (T30.out.call h31 u31)
  clear h31 u31 T30
  have st0 := T31.out.c0; have st1 := T31.out.free 0
  go_upto_region 43 with (fail)
  refine wp_gen (fun W => StW w W X X bp (some ⟨bl, 0, none⟩) c T en (s1) nv q (12) ps (⟨#[]⟩) (.slice none 0 0) []) (T31.out.set 0 (.int .i64 12) rfl) ?_
  clear st0 st1 T31
  as_aux_lemma =>
  intro w32 t32
  have T32 := Lib.hid t32; clear t32
  go_wp2_with fail
  refine (ropen_c ((⟨#[40]⟩ : ByteArray)) T32.out.p R.len).mono ?_
  rintro e w33 ⟨rfl, h33, u33⟩
  rw [← HS2.out] at h33
  have T33 := Lib.hid (T32.out.call h33 u33)
  clear h33 u33 T32
  go_wp2_with fail
  refine (rname_c T33.out.p R.len).mono ?_
  rintro e w34 ⟨rfl, h34, u34⟩
  have T34 := Lib.hid (T33.out.call h34 u34)
  clear h34 u34 T33
  have st0 := T34.out.c3; have st1 := T34.out.free 3
  go_upto_region 47 with (fail)
  refine wp_gen (fun W => StW w W X X bp (some ⟨bl, 0, none⟩) c T en (nameR T en s2) nv q (12) ps (nameT T s2) (.slice none 0 0) []) (T34.out.set 3 (.string (nameT T s2)) rfl) ?_
  clear st0 st1 T34
  as_aux_lemma =>
  intro w35 t35
  have T35 := Lib.hid t35; clear t35
  go_wp2_with fail
  refine (rshut_c ((⟨#[41]⟩ : ByteArray)) T35.out.p R.len).mono ?_
  rintro e w36 ⟨rfl, h36, u36⟩
  have T36 := Lib.hid (T35.out.call h36 u36)
  clear h36 u36 T35
  go_wp2_with fail
  refine (rtake_c ((⟨#[59]⟩ : ByteArray)) T36.out.p R.len).mono ?_
  rintro e w37 ⟨rfl, h37, u37⟩
  have T37 := Lib.hid (T36.out.call h37 u37)
  clear h37 u37 T36
  have n0 := T37.out.c0; have n1 := T37.out.c1; have n2 := T37.out.c2; have n3 := T37.out.c3; have n4 := T37.out.c4
  go_wp2_with fail
  refine (T37.out.node (by simpa using HB.out)).mono ?_
  rintro e w90 ⟨rfl, X90, nv90, h90, u90⟩
  clear n0 n1 n2 n3 n4
  go_wp2_with fail
  go_ret
  exact ⟨ret_int (by simp), _, _, h90, u90⟩

end

end Go.Proofs.YtaklephcgepfjaaGreatDoor

/- The reference's parser: stmt, the ways that begin with a word. (Written by wip/tools/gen_ref11.py.) -/
namespace Go.Proofs.YtaklephcgepfjaaGreatDoor
open Go.RowKit

section
variable {bp : Nat} {la : Option Addr} {c : Nat} {T : List Tk} {en : Int}

set_option maxRecDepth 100000 in
set_option maxHeartbeats 2000000 in
theorem rstmt_unlock (n : Nat) (R : RR bp la c T en n) (w : World) (X : Nat → Prop) (nv : Value) (s : RS) (a : Int) (s' : RS) (h : RP w X bp la c T en s nv) (hq : runR T en (n + 1) .stmt s = some (a, s')) (hl : s'.nodes.length ≤ 1000000) (t : Tk) (HT : Hid (T[s.i]? = some t)) (hk : t.kind = 2) (hx : t.text = (⟨#[117, 110, 108, 111, 99, 107]⟩ : ByteArray)) : Calls Tryz.prog 44 #[.pointer (some ⟨bp, 0, none⟩)] w (RDone w X bp la c T en (.int .i64 a) s') := by
  have hw : wordR T s = (⟨#[117, 110, 108, 111, 99, 107]⟩ : ByteArray) := by simp [wordR, HT.out, hk, hx]
  unfold runR at hq
  dsimp only at hq
  rw [hw] at hq
  clear hw
  rw [if_neg (by decide)] at hq
  rw [if_neg (by decide)] at hq
  rw [if_neg (by decide)] at hq
  rw [if_neg (by decide)] at hq
  rw [if_pos (by decide)] at hq
  rw [if_pos rfl] at hq
  obtain ⟨ps, hps⟩ : ∃ ps, ps = posR T en s := ⟨_, rfl⟩
  rw [← hps] at hq
  have HPS := Lib.hid hps; clear hps
  obtain ⟨s1, hs1⟩ : ∃ s1, s1 = takeR T en ((⟨#[117, 110, 108, 111, 99, 107]⟩ : ByteArray)) s := ⟨_, rfl⟩
  rw [← hs1] at hq
  have HS1 := Lib.hid hs1; clear hs1
  obtain ⟨s2, hs2⟩ : ∃ s2, s2 = openR T en ((⟨#[40]⟩ : ByteArray)) s1 := ⟨_, rfl⟩
  rw [← hs2] at hq
  have HS2 := Lib.hid hs2
  unfold putR at hq
  injection hq with hq
  injection hq with e1 e2
  subst e1 e2
  have HB : Hid (s2.nodes.length ≤ 1000000) := Lib.hid (by simp at hl; omega)
  clear hl hs2
  have HXT := Lib.hid hx
  go_enter Tryz.func44, Tryz.ntmps44
  go_wp2_with fail
  refine (rat_c h).mono ?_
  rw [← HPS.out]
  rintro e w1 ⟨rfl, h1, u1⟩
  clear h
  have HH := Lib.hid h1; have U1 := Lib.hid u1; clear u1
  have c0 := h1.c0
  have c2 := h1.c2
  obtain ⟨i, hI⟩ : ∃ i, i = s.i := ⟨_, rfl⟩
  rw [← hI] at c2
  have hi : i < T.length := by rw [hI]; exact (List.getElem?_eq_some_iff.1 HT.out).1
  obtain ⟨bl, rfl, t0, t1, t2, t3⟩ := toks_cells h1 HT.out
  rw [← hI] at t0 t1 t2 t3
  clear hI h1
  have hd : decide ((i : Int) < (T.length : Int)) = true := by simp; omega
  have hd2 : decide (i < T.length) = true := by simp; omega
  rw [hk] at t0
  go_upto_region 3 with (fail)
  go_quiet (fail)
  go_upto_region 4 with (fail)
  go_quiet (fail)
  generalize hw9 : World.drewN (World.drewN w1 _) _ = w9
  have HP9 : Hid (RP w9 X bp (some ⟨bl, 0, none⟩) c T en s nv ∧ Upd w X w9 X) := Lib.hid (by rw [← hw9]; exact ⟨((HH.out.drewN _).drewN _), ((U1.out.drewN _).drewN _)⟩)
  clear hw9 c0 c2 HH U1 t0 t1 t2 t3
  go_upto_region 6 with (fail)
  refine wp_gen (fun W => RP W X bp (some ⟨bl, 0, none⟩) c T en s nv ∧ Upd w X W X ∧ W.heap[w9.heap.size]? = some (.cells #[.int .i64 0, .int .i64 0, .int .i64 ps, .string ⟨#[]⟩, .slice none 0 0] 57 (0, 0))) ⟨HP9.out.1.alloc _, HP9.out.2.alloc _, blk_new rfl⟩ ?_
  obtain ⟨q, hqq⟩ : ∃ q, q = w9.heap.size := ⟨_, rfl⟩
  have HQ1 : Hid (¬ X q ∧ bp ≤ q ∧ w.heap.size ≤ q) := Lib.hid (by rw [hqq]; exact ⟨fun e => by have := HP9.out.1.high _ e; omega, Nat.le_of_lt HP9.out.1.lt, HP9.out.2.size⟩)
  rw [← hqq]
  clear hqq HP9
  rintro w30 ⟨h30, u30, hb30⟩
  have T30 : Hid (StW w w30 X X bp (some ⟨bl, 0, none⟩) c T en s nv q 0 ps ⟨#[]⟩ (.slice none 0 0) []) := Lib.hid ⟨h30, u30, hb30, HQ1.out.1, HQ1.out.2.1, HQ1.out.2.2, World.ownsRow_nil _ _ _ _, KX.nil⟩
  clear h30 u30 hb30 HQ1
  as_aux_lemma =>
  have E_int : (t.text.toList == [105, 110, 116]) = false := by rw [txt_eq, hx]; decide
  have E_if : (t.text.toList == [105, 102]) = false := by rw [txt_eq, hx]; decide
  have E_while : (t.text.toList == [119, 104, 105, 108, 101]) = false := by rw [txt_eq, hx]; decide
  have E_print : (t.text.toList == [112, 114, 105, 110, 116]) = false := by rw [txt_eq, hx]; decide
  have E_lock : (t.text.toList == [108, 111, 99, 107]) = false := by rw [txt_eq, hx]; decide
  have E_unlock : (t.text.toList == [117, 110, 108, 111, 99, 107]) = true := by rw [txt_eq, hx]; decide
  skip
  go_wp2_with fail
  refine (rtake_c ((⟨#[117, 110, 108, 111, 99, 107]⟩ : ByteArray)) T30.out.p R.len).mono ?_
  rintro e w31 ⟨rfl, h31, u31⟩
  rw [← HS1.out] at h31
  have T31 := Lib.hid (T30.out.call h31 u31)
  clear h31 u31 T30
  have st0 := T31.out.c0; have st1 := T31.out.free 0
  go_upto_region 43 with (fail)
  refine wp_gen (fun W => StW w W X X bp (some ⟨bl, 0, none⟩) c T en (s1) nv q (12) ps (⟨#[]⟩) (.slice none 0 0) []) (T31.out.set 0 (.int .i64 12) rfl) ?_
  clear st0 st1 T31
  as_aux_lemma =>
  intro w32 t32
  have T32 := Lib.hid t32; clear t32
  have st0 := T32.out.c0; have st1 := T32.out.free 0
  go_upto_region 45 with (fail)
  refine wp_gen (fun W => StW w W X X bp (some ⟨bl, 0, none⟩) c T en (s1) nv q (13) ps (⟨#[]⟩) (.slice none 0 0) []) (T32.out.set 0 (.int .i64 13) rfl) ?_
  clear st0 st1 T32
  as_aux_lemma =>
  intro w33 t33
  have T33 := Lib.hid t33; clear t33
  go_wp2_with fail
  refine (ropen_c ((⟨#[40]⟩ : ByteArray)) T33.out.p R.len).mono ?_
  rintro e w34 ⟨rfl, h34, u34⟩
  rw [← HS2.out] at h34
  have T34 := Lib.hid (T33.out.call h34 u34)
  clear h34 u34 T33
  go_wp2_with fail
  refine (rname_c T34.out.p R.len).mono ?_
  rintro e w35 ⟨rfl, h35, u35⟩
  have T35 := Lib.hid (T34.out.call h35 u35)
  clear h35 u35 T34
  have st0 := T35.out.c3; have st1 := T35.out.free 3
  go_upto_region 47 with (fail)
  refine wp_gen (fun W => StW w W X X bp (some ⟨bl, 0, none⟩) c T en (nameR T en s2) nv q (13) ps (nameT T s2) (.slice none 0 0) []) (T35.out.set 3 (.string (nameT T s2)) rfl) ?_
  clear st0 st1 T35
  as_aux_lemma =>
  intro w36 t36
  have T36 := Lib.hid t36; clear t36
  go_wp2_with fail
  refine (rshut_c ((⟨#[41]⟩ : ByteArray)) T36.out.p R.len).mono ?_
  rintro e w37 ⟨rfl, h37, u37⟩
  have T37 := Lib.hid (T36.out.call h37 u37)
  clear h37 u37 T36
  go_wp2_with fail
  refine (rtake_c ((⟨#[59]⟩ : ByteArray)) T37.out.p R.len).mono ?_
  rintro e w38 ⟨rfl, h38, u38⟩
  have T38 := Lib.hid (T37.out.call h38 u38)
  clear h38 u38 T37
  have n0 := T38.out.c0; have n1 := T38.out.c1; have n2 := T38.out.c2; have n3 := T38.out.c3; have n4 := T38.out.c4
  go_wp2_with fail
  refine (T38.out.node (by simpa using HB.out)).mono ?_
  rintro e w90 ⟨rfl, X90, nv90, h90, u90⟩
  clear n0 n1 n2 n3 n4
  go_wp2_with fail
  go_ret
  exact ⟨ret_int (by simp), _, _, h90, u90⟩

end

end Go.Proofs.YtaklephcgepfjaaGreatDoor

/- The reference's parser: stmt, the ways that begin with a word. (Written by wip/tools/gen_ref11.py.) -/
namespace Go.Proofs.YtaklephcgepfjaaGreatDoor
open Go.RowKit

section
variable {bp : Nat} {la : Option Addr} {c : Nat} {T : List Tk} {en : Int}

set_option maxRecDepth 100000 in
set_option maxHeartbeats 2000000 in
theorem rstmt_if (n : Nat) (R : RR bp la c T en n) (w : World) (X : Nat → Prop) (nv : Value) (s : RS) (a : Int) (s' : RS) (h : RP w X bp la c T en s nv) (hq : runR T en (n + 1) .stmt s = some (a, s')) (hl : s'.nodes.length ≤ 1000000) (t : Tk) (HT : Hid (T[s.i]? = some t)) (hk : t.kind = 2) (hx : t.text = (⟨#[105, 102]⟩ : ByteArray)) : Calls Tryz.prog 44 #[.pointer (some ⟨bp, 0, none⟩)] w (RDone w X bp la c T en (.int .i64 a) s') := by
  have hw : wordR T s = (⟨#[105, 102]⟩ : ByteArray) := by simp [wordR, HT.out, hk, hx]
  unfold runR at hq
  dsimp only at hq
  rw [hw] at hq
  clear hw
  rw [if_neg (by decide)] at hq
  rw [if_pos rfl] at hq
  obtain ⟨ps, hps⟩ : ∃ ps, ps = posR T en s := ⟨_, rfl⟩
  rw [← hps] at hq
  have HPS := Lib.hid hps; clear hps
  obtain ⟨s1, hs1⟩ : ∃ s1, s1 = takeR T en ((⟨#[105, 102]⟩ : ByteArray)) s := ⟨_, rfl⟩
  rw [← hs1] at hq
  have HS1 := Lib.hid hs1; clear hs1
  obtain ⟨k, s2, q2, hq⟩ := bindR_eq.1 hq
  obtain ⟨b, s3, q3, hq⟩ := bindR_eq.1 hq
  have hm := runR_mono _ _ _ _ _ q3
  cases hel : isR T ((⟨#[101, 108, 115, 101]⟩ : ByteArray)) s3 with
  | true =>
    have HEL := Lib.hid hel; clear hel
    have Q2 := Lib.hid q2; have Q3 := Lib.hid q3; clear q2 q3
    rw [if_pos HEL.out] at hq
    obtain ⟨s4, hs4⟩ : ∃ s4, s4 = takeR T en ((⟨#[101, 108, 115, 101]⟩ : ByteArray)) s3 := ⟨_, rfl⟩
    rw [← hs4] at hq
    have HN4 : s4.nodes = s3.nodes := by rw [hs4]; simp
    have HS4 := Lib.hid hs4; clear hs4
    obtain ⟨d, s5, q5, hq⟩ := bindR_eq.1 hq
    have hm5 := runR_mono _ _ _ _ _ q5
    rw [HN4] at hm5
    clear HN4
    have Q5 := Lib.hid q5; clear q5
    unfold putR at hq
    injection hq with hq
    injection hq with e1 e2
    subst e1 e2
    have HB : Hid (s5.nodes.length ≤ 1000000) := Lib.hid (by simp at hl; omega)
    have HB3 : Hid (s3.nodes.length ≤ 1000000) := Lib.hid (by have := HB.out; omega)
    have HB2 : Hid (s2.nodes.length ≤ 1000000) := Lib.hid (by have := HB3.out; omega)
    clear hl hm hm5
    go_enter Tryz.func44, Tryz.ntmps44
    go_wp2_with fail
    refine (rat_c h).mono ?_
    rw [← HPS.out]
    rintro e w1 ⟨rfl, h1, u1⟩
    clear h
    have HH := Lib.hid h1; have U1 := Lib.hid u1; clear u1
    have c0 := h1.c0
    have c2 := h1.c2
    obtain ⟨i, hI⟩ : ∃ i, i = s.i := ⟨_, rfl⟩
    rw [← hI] at c2
    have hi : i < T.length := by rw [hI]; exact (List.getElem?_eq_some_iff.1 HT.out).1
    obtain ⟨bl, rfl, t0, t1, t2, t3⟩ := toks_cells h1 HT.out
    rw [← hI] at t0 t1 t2 t3
    clear hI h1
    have hd : decide ((i : Int) < (T.length : Int)) = true := by simp; omega
    have hd2 : decide (i < T.length) = true := by simp; omega
    rw [hk] at t0
    go_upto_region 3 with (fail)
    go_quiet (fail)
    go_upto_region 4 with (fail)
    go_quiet (fail)
    generalize hw9 : World.drewN (World.drewN w1 _) _ = w9
    have HP9 : Hid (RP w9 X bp (some ⟨bl, 0, none⟩) c T en s nv ∧ Upd w X w9 X) := Lib.hid (by rw [← hw9]; exact ⟨((HH.out.drewN _).drewN _), ((U1.out.drewN _).drewN _)⟩)
    clear hw9 c0 c2 HH U1 t0 t1 t2 t3
    go_upto_region 6 with (fail)
    refine wp_gen (fun W => RP W X bp (some ⟨bl, 0, none⟩) c T en s nv ∧ Upd w X W X ∧ W.heap[w9.heap.size]? = some (.cells #[.int .i64 0, .int .i64 0, .int .i64 ps, .string ⟨#[]⟩, .slice none 0 0] 57 (0, 0))) ⟨HP9.out.1.alloc _, HP9.out.2.alloc _, blk_new rfl⟩ ?_
    obtain ⟨q, hqq⟩ : ∃ q, q = w9.heap.size := ⟨_, rfl⟩
    have HQ1 : Hid (¬ X q ∧ bp ≤ q ∧ w.heap.size ≤ q) := Lib.hid (by rw [hqq]; exact ⟨fun e => by have := HP9.out.1.high _ e; omega, Nat.le_of_lt HP9.out.1.lt, HP9.out.2.size⟩)
    rw [← hqq]
    clear hqq HP9
    rintro w30 ⟨h30, u30, hb30⟩
    have T30 : Hid (StW w w30 X X bp (some ⟨bl, 0, none⟩) c T en s nv q 0 ps ⟨#[]⟩ (.slice none 0 0) []) := Lib.hid ⟨h30, u30, hb30, HQ1.out.1, HQ1.out.2.1, HQ1.out.2.2, World.ownsRow_nil _ _ _ _, KX.nil⟩
    clear h30 u30 hb30 HQ1
    as_aux_lemma =>
    have E_int : (t.text.toList == [105, 110, 116]) = false := by rw [txt_eq, hx]; decide
    have E_if : (t.text.toList == [105, 102]) = true := by rw [txt_eq, hx]; decide
    go_wp2_with fail
    refine (rtake_c ((⟨#[105, 102]⟩ : ByteArray)) T30.out.p R.len).mono ?_
    rintro e w31 ⟨rfl, h31, u31⟩
    rw [← HS1.out] at h31
    have T31 := Lib.hid (T30.out.call h31 u31)
    clear h31 u31 T30
    have st0 := T31.out.c0; have st1 := T31.out.free 0
    go_upto_region 19 with (fail)
    refine wp_gen (fun W => StW w W X X bp (some ⟨bl, 0, none⟩) c T en (s1) nv q (9) ps (⟨#[]⟩) (.slice none 0 0) []) (T31.out.set 0 (.int .i64 9) rfl) ?_
    clear st0 st1 T31
    as_aux_lemma =>
    intro w32 t32
    have T32 := Lib.hid t32; clear t32
    go_wp2_with fail
    refine (R.held _ _ _ _ _ _ T32.out.p Q2.out HB2.out).mono ?_
    rintro e w33 ⟨rfl, X33, nv33, h33, u33⟩
    have T33 := Lib.hid (T32.out.call h33 u33)
    clear h33 u33 T32
    go_wp2_with fail
    refine (R.block _ _ _ _ _ _ T33.out.p Q3.out HB3.out).mono ?_
    rintro e w34 ⟨rfl, X34, nv34, h34, u34⟩
    have T34 := Lib.hid (T33.out.call h34 u34)
    clear h34 u34 T33
    have st0 := T34.out.c4; have st1 := T34.out.free 4; have st2 : q < w34.heap.size := lt_blk T34.out.b
    go_upto_region 22 with (fail)
    obtain ⟨g35, hg35⟩ : ∃ g, g = w34.heap.size := ⟨_, rfl⟩
    have TK := Lib.hid (T34.out.kid [k, b] (by simp))
    rw [← hg35] at TK ⊢
    clear hg35
    refine wp_gen (fun W => StW w W X X34 bp (some ⟨bl, 0, none⟩) c T en (s3) nv34 q (9) ps (⟨#[]⟩) (.slice (some ⟨g35, 0, none⟩) 2 2) [k, b]) TK.out ?_
    clear st0 st1 st2 TK T34
    as_aux_lemma =>
    intro w35 t35
    have T35 := Lib.hid t35; clear t35
    go_wp2_with fail
    refine (ris_c ((⟨#[101, 108, 115, 101]⟩ : ByteArray)) T35.out.p).mono ?_
    rw [HEL.out]
    rintro e w36 ⟨rfl, h36, u36⟩
    have T36 := Lib.hid (T35.out.call h36 u36)
    clear h36 u36 T35
    go_wp2_with fail
    refine (rtake_c ((⟨#[101, 108, 115, 101]⟩ : ByteArray)) T36.out.p R.len).mono ?_
    rintro e w37 ⟨rfl, h37, u37⟩
    rw [← HS4.out] at h37
    have T37 := Lib.hid (T36.out.call h37 u37)
    clear h37 u37 T36
    go_wp2_with fail
    refine (R.block _ _ _ _ _ _ T37.out.p Q5.out HB.out).mono ?_
    rintro e w38 ⟨rfl, X38, nv38, h38, u38⟩
    have T38 := Lib.hid (T37.out.call h38 u38)
    clear h38 u38 T37
    obtain ⟨i0, hi0, hz0, hz1, hz2⟩ := info_parts Tryz.infoI
    have HI0 := Lib.hid (And.intro hi0 (And.intro hz0 (And.intro hz1 hz2))); clear hi0 hz0 hz1 hz2
    have k4 := T38.out.c4
    go_wp2_with (at_builtin; refine wpList_app _ rfl _ _ 30 rfl 3 i0 (.int .i64 0) 1 8 Tryz.underlying30 HI0.out.1 HI0.out.2.1 HI0.out.2.2.1 HI0.out.2.2.2 rfl (by decide) (.slice (some ⟨g35, 0, none⟩) 2 2) 2 [.int .i64 k, .int .i64 b] rfl (T38.out.k.alloc _) ⟨w38.heap.size, 0, none⟩ 1 1 [.int .i64 d] rfl rfl (news_new w38 [.int .i64 d] _) (by simp [Value.oneCell']) (by unfold maxLen; omega) (by omega) ?_)
    intro v5 w5 o5 g5 f5
    obtain ⟨va, vc, hv5⟩ := slice_of_row o5
    subst hv5
    have TA := Lib.hid (T38.out.app (d := d) o5 g5 (fun k hk => by have := f5 k hk; simpa using this))
    have x4 := TA.out.2.1; have y4 := TA.out.2.2
    clear o5 g5 f5 k4 T38
    go_upto_region 53 with (fail)
    refine wp_gen (fun W => StW w W X X38 bp (some ⟨bl, 0, none⟩) c T en (s5) nv38 q (9) ps (⟨#[]⟩) (.slice va 3 vc) [k, b, d]) TA.out.1 ?_
    clear x4 y4 TA
    as_aux_lemma =>
    intro w80 t80
    have T80 := Lib.hid t80; clear t80
    have n0 := T80.out.c0; have n1 := T80.out.c1; have n2 := T80.out.c2; have n3 := T80.out.c3; have n4 := T80.out.c4
    go_wp2_with fail
    refine (T80.out.node (by simpa using HB.out)).mono ?_
    rintro e w90 ⟨rfl, X90, nv90, h90, u90⟩
    clear n0 n1 n2 n3 n4
    go_wp2_with fail
    go_ret
    exact ⟨ret_int (by simp), _, _, h90, u90⟩
  | false =>
    have HEL := Lib.hid hel; clear hel
    have Q2 := Lib.hid q2; have Q3 := Lib.hid q3; clear q2 q3
    rw [if_neg (by rw [HEL.out]; decide)] at hq
    unfold putR at hq
    injection hq with hq
    injection hq with e1 e2
    subst e1 e2
    have HB : Hid (s3.nodes.length ≤ 1000000) := Lib.hid (by simp at hl; omega)
    have HB3 := HB
    have HB2 : Hid (s2.nodes.length ≤ 1000000) := Lib.hid (by have := HB3.out; omega)
    clear hl hm
    go_enter Tryz.func44, Tryz.ntmps44
    go_wp2_with fail
    refine (rat_c h).mono ?_
    rw [← HPS.out]
    rintro e w1 ⟨rfl, h1, u1⟩
    clear h
    have HH := Lib.hid h1; have U1 := Lib.hid u1; clear u1
    have c0 := h1.c0
    have c2 := h1.c2
    obtain ⟨i, hI⟩ : ∃ i, i = s.i := ⟨_, rfl⟩
    rw [← hI] at c2
    have hi : i < T.length := by rw [hI]; exact (List.getElem?_eq_some_iff.1 HT.out).1
    obtain ⟨bl, rfl, t0, t1, t2, t3⟩ := toks_cells h1 HT.out
    rw [← hI] at t0 t1 t2 t3
    clear hI h1
    have hd : decide ((i : Int) < (T.length : Int)) = true := by simp; omega
    have hd2 : decide (i < T.length) = true := by simp; omega
    rw [hk] at t0
    go_upto_region 3 with (fail)
    go_quiet (fail)
    go_upto_region 4 with (fail)
    go_quiet (fail)
    generalize hw9 : World.drewN (World.drewN w1 _) _ = w9
    have HP9 : Hid (RP w9 X bp (some ⟨bl, 0, none⟩) c T en s nv ∧ Upd w X w9 X) := Lib.hid (by rw [← hw9]; exact ⟨((HH.out.drewN _).drewN _), ((U1.out.drewN _).drewN _)⟩)
    clear hw9 c0 c2 HH U1 t0 t1 t2 t3
    go_upto_region 6 with (fail)
    refine wp_gen (fun W => RP W X bp (some ⟨bl, 0, none⟩) c T en s nv ∧ Upd w X W X ∧ W.heap[w9.heap.size]? = some (.cells #[.int .i64 0, .int .i64 0, .int .i64 ps, .string ⟨#[]⟩, .slice none 0 0] 57 (0, 0))) ⟨HP9.out.1.alloc _, HP9.out.2.alloc _, blk_new rfl⟩ ?_
    obtain ⟨q, hqq⟩ : ∃ q, q = w9.heap.size := ⟨_, rfl⟩
    have HQ1 : Hid (¬ X q ∧ bp ≤ q ∧ w.heap.size ≤ q) := Lib.hid (by rw [hqq]; exact ⟨fun e => by have := HP9.out.1.high _ e; omega, Nat.le_of_lt HP9.out.1.lt, HP9.out.2.size⟩)
    rw [← hqq]
    clear hqq HP9
    rintro w30 ⟨h30, u30, hb30⟩
    have T30 : Hid (StW w w30 X X bp (some ⟨bl, 0, none⟩) c T en s nv q 0 ps ⟨#[]⟩ (.slice none 0 0) []) := Lib.hid ⟨h30, u30, hb30, HQ1.out.1, HQ1.out.2.1, HQ1.out.2.2, World.ownsRow_nil _ _ _ _, KX.nil⟩
    clear h30 u30 hb30 HQ1
    as_aux_lemma =>
    have E_int : (t.text.toList == [105, 110, 116]) = false := by rw [txt_eq, hx]; decide
    have E_if : (t.text.toList == [105, 102]) = true := by rw [txt_eq, hx]; decide
    go_wp2_with fail
    refine (rtake_c ((⟨#[105, 102]⟩ : ByteArray)) T30.out.p R.len).mono ?_
    rintro e w31 ⟨rfl, h31, u31⟩
    rw [← HS1.out] at h31
    have T31 := Lib.hid (T30.out.call h31 u31)
    clear h31 u31 T30
    have st0 := T31.out.c0; have st1 := T31.out.free 0
    go_upto_region 19 with (fail)
    refine wp_gen (fun W => StW w W X X bp (some ⟨bl, 0, none⟩) c T en (s1) nv q (9) ps (⟨#[]⟩) (.slice none 0 0) []) (T31.out.set 0 (.int .i64 9) rfl) ?_
    clear st0 st1 T31
    as_aux_lemma =>
    intro w32 t32
    have T32 := Lib.hid t32; clear t32
    go_wp2_with fail
    refine (R.held _ _ _ _ _ _ T32.out.p Q2.out HB2.out).mono ?_
    rintro e w33 ⟨rfl, X33, nv33, h33, u33⟩
    have T33 := Lib.hid (T32.out.call h33 u33)
    clear h33 u33 T32
    go_wp2_with fail
    refine (R.block _ _ _ _ _ _ T33.out.p Q3.out HB3.out).mono ?_
    rintro e w34 ⟨rfl, X34, nv34, h34, u34⟩
    have T34 := Lib.hid (T33.out.call h34 u34)
    clear h34 u34 T33
    have st0 := T34.out.c4; have st1 := T34.out.free 4; have st2 : q < w34.heap.size := lt_blk T34.out.b
    go_upto_region 22 with (fail)
    obtain ⟨g35, hg35⟩ : ∃ g, g = w34.heap.size := ⟨_, rfl⟩
    have TK := Lib.hid (T34.out.kid [k, b] (by simp))
    rw [← hg35] at TK ⊢
    clear hg35
    refine wp_gen (fun W => StW w W X X34 bp (some ⟨bl, 0, none⟩) c T en (s3) nv34 q (9) ps (⟨#[]⟩) (.slice (some ⟨g35, 0, none⟩) 2 2) [k, b]) TK.out ?_
    clear st0 st1 st2 TK T34
    as_aux_lemma =>
    intro w35 t35
    have T35 := Lib.hid t35; clear t35
    go_wp2_with fail
    refine (ris_c ((⟨#[101, 108, 115, 101]⟩ : ByteArray)) T35.out.p).mono ?_
    rw [HEL.out]
    rintro e w36 ⟨rfl, h36, u36⟩
    have T36 := Lib.hid (T35.out.call h36 u36)
    clear h36 u36 T35
    have n0 := T36.out.c0; have n1 := T36.out.c1; have n2 := T36.out.c2; have n3 := T36.out.c3; have n4 := T36.out.c4
    go_wp2_with fail
    refine (T36.out.node (by simpa using HB.out)).mono ?_
    rintro e w90 ⟨rfl, X90, nv90, h90, u90⟩
    clear n0 n1 n2 n3 n4
    go_wp2_with fail
    go_ret
    exact ⟨ret_int (by simp), _, _, h90, u90⟩

end

end Go.Proofs.YtaklephcgepfjaaGreatDoor

/- The reference's parser: assign. (Written by wip/tools/gen_ref18.py.) -/
namespace Go.Proofs.YtaklephcgepfjaaGreatDoor
open Go.RowKit

section
variable {bp : Nat} {la : Option Addr} {c : Nat} {T : List Tk} {en : Int}

/-- What assign leaves. -/
def AsPost (w : World) (X : Nat → Prop) (bp : Nat) (la : Option Addr) (c : Nat) (T : List Tk) (en : Int) (q : Nat) (ps a : Int) (s' : RS) (e : Ending) (w' : World) : Prop :=
  e = .returned (.tuple #[]) ∧ ∃ X' nv' s1 kind text kv kids, StW w w' X X' bp la c T en s1 nv' q kind ps text kv kids ∧ a = s1.nodes.length ∧ s' = nodeR ⟨kind, 0, ps, text, kids⟩ s1

set_option maxRecDepth 100000 in
set_option maxHeartbeats 2000000 in
theorem rassign_plain (n : Nat) (R : RR bp la c T en n) (w w30 : World) (X X30 : Nat → Prop) (nv30 : Value) (q : Nat) (ps : Int) (s : RS) (a : Int) (s' : RS) (T30 : Hid (StW w w30 X X30 bp la c T en s nv30 q 0 ps ⟨#[]⟩ (.slice none 0 0) [])) (hq : assignR T en (runR T en n (.expr 0)) ps s = some (a, s')) (hl : s'.nodes.length ≤ 1000000) (KC : Hid (isR T ((⟨#[99, 97, 115]⟩ : ByteArray)) (takeR T en ((⟨#[61]⟩ : ByteArray)) (nameR T en s)) = false)) : Calls Tryz.prog 85 #[.pointer (some ⟨bp, 0, none⟩), .pointer (some ⟨q, 0, none⟩)] w30 (AsPost w X bp la c T en q ps a s') := by
  obtain ⟨s1, hs1⟩ : ∃ s1, s1 = takeR T en ((⟨#[61]⟩ : ByteArray)) (nameR T en s) := ⟨_, rfl⟩
  unfold assignR at hq
  dsimp only at hq
  rw [← hs1] at hq KC
  have HS1 := Lib.hid hs1; clear hs1
  rw [if_neg (by rw [KC.out]; decide)] at hq
  obtain ⟨k, s2, q2, hq⟩ := bindR_eq.1 hq
  have Q2 := Lib.hid q2; clear q2
  unfold putR at hq
  injection hq with hq
  injection hq with e1 e2
  subst e1 e2
  have HB : Hid (s2.nodes.length ≤ 1000000) := Lib.hid (by simp at hl; omega)
  clear hl
  go_enter Tryz.func85, Tryz.ntmps85
  have st0 := T30.out.c0; have st1 := T30.out.free 0
  go_upto_region 1 with (fail)
  refine wp_gen (fun W => StW w W X X30 bp la c T en (s) nv30 q (7) ps (⟨#[]⟩) (.slice none 0 0) []) (T30.out.set 0 (.int .i64 7) rfl) ?_
  clear st0 st1 T30
  as_aux_lemma =>
  intro w31 t31
  have T31 := Lib.hid t31; clear t31
  go_wp2_with fail
  refine (rname_c T31.out.p R.len).mono ?_
  rintro e w32 ⟨rfl, h32, u32⟩
  have T32 := Lib.hid (T31.out.call h32 u32)
  clear h32 u32 T31
  have st0 := T32.out.c3; have st1 := T32.out.free 3
  go_upto_region 2 with (fail)
  refine wp_gen (fun W => StW w W X X30 bp la c T en (nameR T en s) nv30 q (7) ps (nameT T s) (.slice none 0 0) []) (T32.out.set 3 (.string (nameT T s)) rfl) ?_
  clear st0 st1 T32
  as_aux_lemma =>
  intro w33 t33
  have T33 := Lib.hid t33; clear t33
  go_wp2_with fail
  refine (rtake_c ((⟨#[61]⟩ : ByteArray)) T33.out.p R.len).mono ?_
  rintro e w34 ⟨rfl, h34, u34⟩
  rw [← HS1.out] at h34
  have T34 := Lib.hid (T33.out.call h34 u34)
  clear h34 u34 T33
  go_wp2_with fail
  refine (ris_c ((⟨#[99, 97, 115]⟩ : ByteArray)) T34.out.p).mono ?_
  rw [KC.out]
  rintro e w35 ⟨rfl, h35, u35⟩
  have T35 := Lib.hid (T34.out.call h35 u35)
  clear h35 u35 T34
  go_wp2_with fail
  refine (R.expr0 _ _ _ _ _ _ T35.out.p Q2.out HB.out).mono ?_
  rintro e w36 ⟨rfl, X36, nv36, h36, u36⟩
  have T36 := Lib.hid (T35.out.call h36 u36)
  clear h36 u36 T35
  have st0 := T36.out.c4; have st1 := T36.out.free 4; have st2 : q < w36.heap.size := lt_blk T36.out.b
  go_upto_region 7 with (fail)
  obtain ⟨g37, hg37⟩ : ∃ g, g = w36.heap.size := ⟨_, rfl⟩
  have TK := Lib.hid (T36.out.kid [k] (by simp))
  rw [← hg37] at TK ⊢
  clear hg37
  refine wp_gen (fun W => StW w W X X36 bp la c T en (s2) nv36 q (7) ps (nameT T s) (.slice (some ⟨g37, 0, none⟩) 1 1) [k]) TK.out ?_
  clear st0 st1 st2 TK T36
  as_aux_lemma =>
  intro w37 t37
  have T37 := Lib.hid t37; clear t37
  go_wp2_with fail
  refine (rtake_c ((⟨#[59]⟩ : ByteArray)) T37.out.p R.len).mono ?_
  rintro e w38 ⟨rfl, h38, u38⟩
  have T38 := Lib.hid (T37.out.call h38 u38)
  clear h38 u38 T37
  go_wp2_with fail
  first | refine bodyPost_end (results_none rfl _ _ _) rfl ?_ | refine bodyPost_ret (results_none rfl _ _ _) rfl ?_
  exact ⟨rfl, _, _, _, _, _, _, _, T38.out, rfl, rfl⟩

set_option maxRecDepth 100000 in
set_option maxHeartbeats 2000000 in
theorem rassign_cas (n : Nat) (R : RR bp la c T en n) (w w30 : World) (X X30 : Nat → Prop) (nv30 : Value) (q : Nat) (ps : Int) (s : RS) (a : Int) (s' : RS) (T30 : Hid (StW w w30 X X30 bp la c T en s nv30 q 0 ps ⟨#[]⟩ (.slice none 0 0) [])) (hq : assignR T en (runR T en n (.expr 0)) ps s = some (a, s')) (hl : s'.nodes.length ≤ 1000000) (KC : Hid (isR T ((⟨#[99, 97, 115]⟩ : ByteArray)) (takeR T en ((⟨#[61]⟩ : ByteArray)) (nameR T en s)) = true)) : Calls Tryz.prog 85 #[.pointer (some ⟨bp, 0, none⟩), .pointer (some ⟨q, 0, none⟩)] w30 (AsPost w X bp la c T en q ps a s') := by
  obtain ⟨s1, hs1⟩ : ∃ s1, s1 = takeR T en ((⟨#[61]⟩ : ByteArray)) (nameR T en s) := ⟨_, rfl⟩
  unfold assignR at hq
  dsimp only at hq
  rw [← hs1] at hq KC
  have HS1 := Lib.hid hs1; clear hs1
  rw [if_pos KC.out] at hq
  obtain ⟨s2, hs2⟩ : ∃ s2, s2 = openR T en ((⟨#[40]⟩ : ByteArray)) (takeR T en ((⟨#[99, 97, 115]⟩ : ByteArray)) s1) := ⟨_, rfl⟩
  rw [← hs2] at hq
  have HS2 := Lib.hid hs2; clear hs2
  obtain ⟨a0, s3, q3, hq⟩ := bindR_eq.1 hq
  unfold putR at q3
  injection q3 with q3
  injection q3 with ha0 hs3
  obtain ⟨s4, hs4⟩ : ∃ s4, s4 = takeR T en ((⟨#[44]⟩ : ByteArray)) s3 := ⟨_, rfl⟩
  rw [← hs4] at hq
  have HN4 : s4.nodes = s3.nodes := by rw [hs4]; simp
  have HS4 := Lib.hid hs4; clear hs4
  obtain ⟨b, s5, q5, hq⟩ := bindR_eq.1 hq
  obtain ⟨s6, hs6⟩ : ∃ s6, s6 = takeR T en ((⟨#[44]⟩ : ByteArray)) s5 := ⟨_, rfl⟩
  rw [← hs6] at hq
  have HN6 : s6.nodes = s5.nodes := by rw [hs6]; simp
  have HS6 := Lib.hid hs6; clear hs6
  obtain ⟨d, s7, q7, hq⟩ := bindR_eq.1 hq
  have hm5 := runR_mono _ _ _ _ _ q5
  have hm7 := runR_mono _ _ _ _ _ q7
  rw [HN4] at hm5
  rw [HN6] at hm7
  clear HN4 HN6
  have Q5 := Lib.hid q5; have Q7 := Lib.hid q7; clear q5 q7
  unfold putR at hq
  injection hq with hq
  injection hq with e1 e2
  subst e1 e2
  have HB : Hid (s7.nodes.length ≤ 1000000) := Lib.hid (by simp at hl; omega)
  have HB5 : Hid (s5.nodes.length ≤ 1000000) := Lib.hid (by have := HB.out; omega)
  have HB2 : Hid (s2.nodes.length ≤ 1000000) := Lib.hid (by have := HB5.out; rw [← hs3] at hm5; simp at hm5; omega)
  have HND : Hid (∀ (W : World) (X : Nat → Prop) (nv : Value), RP W X bp la c T en (nameR T en s2) nv → Calls Tryz.prog 24 #[.pointer (some ⟨bp, 0, none⟩), .agg #[.int .i64 16, .int .i64 0, .int .i64 (posR T en s2), .string (nameT T s2), .slice none 0 0]] W (RDone W X bp la c T en (.int .i64 a0) s3)) := Lib.hid (fun W X nv h => by
    rw [← ha0, ← hs3]
    exact rnode_nil 16 0 _ _ h (by simpa using HB2.out))
  clear hl hm5 hm7 ha0 hs3
  go_enter Tryz.func85, Tryz.ntmps85
  have st0 := T30.out.c0; have st1 := T30.out.free 0
  go_upto_region 1 with (fail)
  refine wp_gen (fun W => StW w W X X30 bp la c T en (s) nv30 q (7) ps (⟨#[]⟩) (.slice none 0 0) []) (T30.out.set 0 (.int .i64 7) rfl) ?_
  clear st0 st1 T30
  as_aux_lemma =>
  intro w31 t31
  have T31 := Lib.hid t31; clear t31
  go_wp2_with fail
  refine (rname_c T31.out.p R.len).mono ?_
  rintro e w32 ⟨rfl, h32, u32⟩
  have T32 := Lib.hid (T31.out.call h32 u32)
  clear h32 u32 T31
  have st0 := T32.out.c3; have st1 := T32.out.free 3
  go_upto_region 2 with (fail)
  refine wp_gen (fun W => StW w W X X30 bp la c T en (nameR T en s) nv30 q (7) ps (nameT T s) (.slice none 0 0) []) (T32.out.set 3 (.string (nameT T s)) rfl) ?_
  clear st0 st1 T32
  as_aux_lemma =>
  intro w33 t33
  have T33 := Lib.hid t33; clear t33
  go_wp2_with fail
  refine (rtake_c ((⟨#[61]⟩ : ByteArray)) T33.out.p R.len).mono ?_
  rintro e w34 ⟨rfl, h34, u34⟩
  rw [← HS1.out] at h34
  have T34 := Lib.hid (T33.out.call h34 u34)
  clear h34 u34 T33
  go_wp2_with fail
  refine (ris_c ((⟨#[99, 97, 115]⟩ : ByteArray)) T34.out.p).mono ?_
  rw [KC.out]
  rintro e w35 ⟨rfl, h35, u35⟩
  have T35 := Lib.hid (T34.out.call h35 u35)
  clear h35 u35 T34
  have st0 := T35.out.c0; have st1 := T35.out.free 0
  go_upto_region 9 with (fail)
  refine wp_gen (fun W => StW w W X X30 bp la c T en (s1) nv30 q (8) ps (nameT T s) (.slice none 0 0) []) (T35.out.set 0 (.int .i64 8) rfl) ?_
  clear st0 st1 T35
  as_aux_lemma =>
  intro w36 t36
  have T36 := Lib.hid t36; clear t36
  go_wp2_with fail
  refine (rtake_c ((⟨#[99, 97, 115]⟩ : ByteArray)) T36.out.p R.len).mono ?_
  rintro e w37 ⟨rfl, h37, u37⟩
  have T37 := Lib.hid (T36.out.call h37 u37)
  clear h37 u37 T36
  go_wp2_with fail
  refine (ropen_c ((⟨#[40]⟩ : ByteArray)) T37.out.p R.len).mono ?_
  rintro e w38 ⟨rfl, h38, u38⟩
  rw [← HS2.out] at h38
  have T38 := Lib.hid (T37.out.call h38 u38)
  clear h38 u38 T37
  go_wp2_with fail
  refine (rat_c T38.out.p).mono ?_
  rintro e w39 ⟨rfl, h39, u39⟩
  have T39 := Lib.hid (T38.out.call h39 u39)
  clear h39 u39 T38
  go_wp2_with fail
  refine (rname_c T39.out.p R.len).mono ?_
  rintro e w40 ⟨rfl, h40, u40⟩
  have T40 := Lib.hid (T39.out.call h40 u40)
  clear h40 u40 T39
  go_wp2_with fail
  refine (HND.out _ _ _ T40.out.p).mono ?_
  rintro e w41 ⟨rfl, X41, nv41, h41, u41⟩
  have T41 := Lib.hid (T40.out.call h41 u41)
  clear h41 u41 T40
  go_wp2_with fail
  refine (rtake_c ((⟨#[44]⟩ : ByteArray)) T41.out.p R.len).mono ?_
  rintro e w42 ⟨rfl, h42, u42⟩
  rw [← HS4.out] at h42
  have T42 := Lib.hid (T41.out.call h42 u42)
  clear h42 u42 T41
  go_wp2_with fail
  refine (R.expr0 _ _ _ _ _ _ T42.out.p Q5.out HB5.out).mono ?_
  rintro e w43 ⟨rfl, X43, nv43, h43, u43⟩
  have T43 := Lib.hid (T42.out.call h43 u43)
  clear h43 u43 T42
  go_wp2_with fail
  refine (rtake_c ((⟨#[44]⟩ : ByteArray)) T43.out.p R.len).mono ?_
  rintro e w44 ⟨rfl, h44, u44⟩
  rw [← HS6.out] at h44
  have T44 := Lib.hid (T43.out.call h44 u44)
  clear h44 u44 T43
  go_wp2_with fail
  refine (R.expr0 _ _ _ _ _ _ T44.out.p Q7.out HB.out).mono ?_
  rintro e w45 ⟨rfl, X45, nv45, h45, u45⟩
  have T45 := Lib.hid (T44.out.call h45 u45)
  clear h45 u45 T44
  go_wp2_with fail
  refine (rshut_c ((⟨#[41]⟩ : ByteArray)) T45.out.p R.len).mono ?_
  rintro e w46 ⟨rfl, h46, u46⟩
  have T46 := Lib.hid (T45.out.call h46 u46)
  clear h46 u46 T45
  go_wp2_with fail
  refine (rtake_c ((⟨#[59]⟩ : ByteArray)) T46.out.p R.len).mono ?_
  rintro e w47 ⟨rfl, h47, u47⟩
  have T47 := Lib.hid (T46.out.call h47 u47)
  clear h47 u47 T46
  have st0 := T47.out.c4; have st1 := T47.out.free 4; have st2 : q < w47.heap.size := lt_blk T47.out.b
  have TK := Lib.hid (T47.out.kid [a0, b, d] (by simp))
  clear T47
  go_wp2_with fail
  first | refine bodyPost_end (results_none rfl _ _ _) rfl ?_ | refine bodyPost_ret (results_none rfl _ _ _) rfl ?_
  exact ⟨rfl, _, _, _, _, _, _, _, TK.out, rfl, rfl⟩

theorem rassign_c (n : Nat) (R : RR bp la c T en n) (w w30 : World) (X X30 : Nat → Prop) (nv30 : Value) (q : Nat) (ps : Int) (s : RS) (a : Int) (s' : RS) (T30 : Hid (StW w w30 X X30 bp la c T en s nv30 q 0 ps ⟨#[]⟩ (.slice none 0 0) [])) (hq : assignR T en (runR T en n (.expr 0)) ps s = some (a, s')) (hl : s'.nodes.length ≤ 1000000) : Calls Tryz.prog 85 #[.pointer (some ⟨bp, 0, none⟩), .pointer (some ⟨q, 0, none⟩)] w30 (AsPost w X bp la c T en q ps a s') := by
  cases k : isR T ((⟨#[99, 97, 115]⟩ : ByteArray)) (takeR T en ((⟨#[61]⟩ : ByteArray)) (nameR T en s)) with
  | true => exact rassign_cas n R w w30 X X30 nv30 q ps s a s' T30 hq hl (Lib.hid k)
  | false => exact rassign_plain n R w w30 X X30 nv30 q ps s a s' T30 hq hl (Lib.hid k)

end

end Go.Proofs.YtaklephcgepfjaaGreatDoor

/- The reference's parser: stmt whole; what is known with any number of rounds. (Written by wip/tools/gen_ref19.py.) -/
namespace Go.Proofs.YtaklephcgepfjaaGreatDoor
open Go.RowKit

section
variable {bp : Nat} {la : Option Addr} {c : Nat} {T : List Tk} {en : Int}

set_option maxRecDepth 100000 in
set_option maxHeartbeats 2000000 in
theorem rstmt_dnone (n : Nat) (R : RR bp la c T en n) (w : World) (X : Nat → Prop) (nv : Value) (s : RS) (a : Int) (s' : RS) (h : RP w X bp la c T en s nv) (hq : runR T en (n + 1) .stmt s = some (a, s')) (hl : s'.nodes.length ≤ 1000000) (HT : Hid (T[s.i]? = none)) : Calls Tryz.prog 44 #[.pointer (some ⟨bp, 0, none⟩)] w (RDone w X bp la c T en (.int .i64 a) s') := by
  have hw : wordR T s = ByteArray.empty := by simp [wordR, HT.out]
  unfold runR at hq
  dsimp only at hq
  rw [hw] at hq
  clear hw
  rw [if_neg (by decide), if_neg (by decide), if_neg (by decide), if_neg (by decide), if_neg (by decide), if_neg (by decide)] at hq
  obtain ⟨ps, hps⟩ : ∃ ps, ps = posR T en s := ⟨_, rfl⟩
  rw [← hps] at hq
  have HPS := Lib.hid hps; clear hps
  have HQ := Lib.hid hq; have HL := Lib.hid hl
  clear hq hl
  go_enter Tryz.func44, Tryz.ntmps44
  go_wp2_with fail
  refine (rat_c h).mono ?_
  rw [← HPS.out]
  rintro e w1 ⟨rfl, h1, u1⟩
  clear h
  have HH := Lib.hid h1; have U1 := Lib.hid u1; clear u1
  have c0 := h1.c0
  have c2 := h1.c2
  obtain ⟨i, hI⟩ : ∃ i, i = s.i := ⟨_, rfl⟩
  rw [← hI] at c2
  have hi : T.length ≤ i := by rw [hI]; exact List.getElem?_eq_none_iff.1 HT.out
  clear hI h1
  have hd : decide ((i : Int) < (T.length : Int)) = false := by simp; omega
  have hd2 : decide (i < T.length) = false := by simp; omega
  go_upto_region 3 with (fail)
  go_quiet (fail)
  generalize hw9 : World.drewN w1 _ = w9
  have HP9 : Hid (RP w9 X bp la c T en s nv ∧ Upd w X w9 X) := Lib.hid (by rw [← hw9]; exact ⟨(HH.out.drewN _), (U1.out.drewN _)⟩)
  clear hw9 c0 c2 HH U1
  go_upto_region 6 with (fail)
  refine wp_gen (fun W => RP W X bp la c T en s nv ∧ Upd w X W X ∧ W.heap[w9.heap.size]? = some (.cells #[.int .i64 0, .int .i64 0, .int .i64 ps, .string ⟨#[]⟩, .slice none 0 0] 57 (0, 0))) ⟨HP9.out.1.alloc _, HP9.out.2.alloc _, blk_new rfl⟩ ?_
  obtain ⟨q, hqq⟩ : ∃ q, q = w9.heap.size := ⟨_, rfl⟩
  have HQ1 : Hid (¬ X q ∧ bp ≤ q ∧ w.heap.size ≤ q) := Lib.hid (by rw [hqq]; exact ⟨fun e => by have := HP9.out.1.high _ e; omega, Nat.le_of_lt HP9.out.1.lt, HP9.out.2.size⟩)
  rw [← hqq]
  clear hqq HP9
  rintro w30 ⟨h30, u30, hb30⟩
  have T30 : Hid (StW w w30 X X bp la c T en s nv q 0 ps ⟨#[]⟩ (.slice none 0 0) []) := Lib.hid ⟨h30, u30, hb30, HQ1.out.1, HQ1.out.2.1, HQ1.out.2.2, World.ownsRow_nil _ _ _ _, KX.nil⟩
  clear h30 u30 hb30 HQ1
  as_aux_lemma =>
  have E_int : ((⟨#[]⟩ : ByteArray).toList == [105, 110, 116]) = false := by rw [txt_eq]; decide
  have E_if : ((⟨#[]⟩ : ByteArray).toList == [105, 102]) = false := by rw [txt_eq]; decide
  have E_while : ((⟨#[]⟩ : ByteArray).toList == [119, 104, 105, 108, 101]) = false := by rw [txt_eq]; decide
  have E_print : ((⟨#[]⟩ : ByteArray).toList == [112, 114, 105, 110, 116]) = false := by rw [txt_eq]; decide
  have E_lock : ((⟨#[]⟩ : ByteArray).toList == [108, 111, 99, 107]) = false := by rw [txt_eq]; decide
  have E_unlock : ((⟨#[]⟩ : ByteArray).toList == [117, 110, 108, 111, 99, 107]) = false := by rw [txt_eq]; decide
  have E_fence : ((⟨#[]⟩ : ByteArray).toList == [102, 101, 110, 99, 101]) = false := by rw [txt_eq]; decide
  go_wp2_with fail
  refine (rassign_c n R w w30 X X nv q ps s a s' T30 HQ.out HL.out).mono ?_
  rintro e w60 ⟨rfl, X60, nv60, s1, kd, tx, kv, kids, t60, ha, hs⟩
  have T60 := Lib.hid t60; have HA := Lib.hid ha; have HS := Lib.hid hs
  clear t60 ha hs T30
  have HB : Hid (s1.nodes.length ≤ 1000000) := Lib.hid (by have := HL.out; rw [HS.out] at this; simp at this; omega)
  obtain ⟨ka, kc, hkv⟩ := slice_of_row T60.out.k
  subst hkv
  have n0 := T60.out.c0; have n1 := T60.out.c1; have n2 := T60.out.c2; have n3 := T60.out.c3; have n4 := T60.out.c4
  as_aux_lemma =>
  go_wp2_with fail
  refine (T60.out.node HB.out).mono ?_
  rintro e w90 ⟨rfl, X90, nv90, h90, u90⟩
  clear n0 n1 n2 n3 n4
  go_wp2_with fail
  go_ret
  exact ⟨ret_int HA.out.symm, X90, nv90, by rw [HS.out]; exact h90, u90⟩

set_option maxRecDepth 100000 in
set_option maxHeartbeats 2000000 in
theorem rstmt_dother (n : Nat) (R : RR bp la c T en n) (w : World) (X : Nat → Prop) (nv : Value) (s : RS) (a : Int) (s' : RS) (h : RP w X bp la c T en s nv) (hq : runR T en (n + 1) .stmt s = some (a, s')) (hl : s'.nodes.length ≤ 1000000) (t : Tk) (HT : Hid (T[s.i]? = some t)) (hk : ¬ t.kind = 2) : Calls Tryz.prog 44 #[.pointer (some ⟨bp, 0, none⟩)] w (RDone w X bp la c T en (.int .i64 a) s') := by
  have hw : wordR T s = ByteArray.empty := by simp [wordR, HT.out, hk]
  unfold runR at hq
  dsimp only at hq
  rw [hw] at hq
  clear hw
  rw [if_neg (by decide), if_neg (by decide), if_neg (by decide), if_neg (by decide), if_neg (by decide), if_neg (by decide)] at hq
  obtain ⟨ps, hps⟩ : ∃ ps, ps = posR T en s := ⟨_, rfl⟩
  rw [← hps] at hq
  have HPS := Lib.hid hps; clear hps
  have HQ := Lib.hid hq; have HL := Lib.hid hl
  clear hq hl
  go_enter Tryz.func44, Tryz.ntmps44
  go_wp2_with fail
  refine (rat_c h).mono ?_
  rw [← HPS.out]
  rintro e w1 ⟨rfl, h1, u1⟩
  clear h
  have HH := Lib.hid h1; have U1 := Lib.hid u1; clear u1
  have c0 := h1.c0
  have c2 := h1.c2
  obtain ⟨i, hI⟩ : ∃ i, i = s.i := ⟨_, rfl⟩
  rw [← hI] at c2
  have hi : i < T.length := by rw [hI]; exact (List.getElem?_eq_some_iff.1 HT.out).1
  obtain ⟨bl, rfl, t0, t1, t2, t3⟩ := toks_cells h1 HT.out
  rw [← hI] at t0 t1 t2 t3
  clear hI h1
  have hd : decide ((i : Int) < (T.length : Int)) = true := by simp; omega
  have hd2 : decide (i < T.length) = true := by simp; omega
  have hkb : (t.kind == 2) = false := by simp [hk]
  go_upto_region 3 with (fail)
  go_quiet (fail)
  generalize hw9 : World.drewN w1 _ = w9
  have HP9 : Hid (RP w9 X bp (some ⟨bl, 0, none⟩) c T en s nv ∧ Upd w X w9 X) := Lib.hid (by rw [← hw9]; exact ⟨(HH.out.drewN _), (U1.out.drewN _)⟩)
  clear hw9 c0 c2 HH U1 t0 t1 t2 t3
  go_upto_region 6 with (fail)
  refine wp_gen (fun W => RP W X bp (some ⟨bl, 0, none⟩) c T en s nv ∧ Upd w X W X ∧ W.heap[w9.heap.size]? = some (.cells #[.int .i64 0, .int .i64 0, .int .i64 ps, .string ⟨#[]⟩, .slice none 0 0] 57 (0, 0))) ⟨HP9.out.1.alloc _, HP9.out.2.alloc _, blk_new rfl⟩ ?_
  obtain ⟨q, hqq⟩ : ∃ q, q = w9.heap.size := ⟨_, rfl⟩
  have HQ1 : Hid (¬ X q ∧ bp ≤ q ∧ w.heap.size ≤ q) := Lib.hid (by rw [hqq]; exact ⟨fun e => by have := HP9.out.1.high _ e; omega, Nat.le_of_lt HP9.out.1.lt, HP9.out.2.size⟩)
  rw [← hqq]
  clear hqq HP9
  rintro w30 ⟨h30, u30, hb30⟩
  have T30 : Hid (StW w w30 X X bp (some ⟨bl, 0, none⟩) c T en s nv q 0 ps ⟨#[]⟩ (.slice none 0 0) []) := Lib.hid ⟨h30, u30, hb30, HQ1.out.1, HQ1.out.2.1, HQ1.out.2.2, World.ownsRow_nil _ _ _ _, KX.nil⟩
  clear h30 u30 hb30 HQ1
  as_aux_lemma =>
  have E_int : ((⟨#[]⟩ : ByteArray).toList == [105, 110, 116]) = false := by rw [txt_eq]; decide
  have E_if : ((⟨#[]⟩ : ByteArray).toList == [105, 102]) = false := by rw [txt_eq]; decide
  have E_while : ((⟨#[]⟩ : ByteArray).toList == [119, 104, 105, 108, 101]) = false := by rw [txt_eq]; decide
  have E_print : ((⟨#[]⟩ : ByteArray).toList == [112, 114, 105, 110, 116]) = false := by rw [txt_eq]; decide
  have E_lock : ((⟨#[]⟩ : ByteArray).toList == [108, 111, 99, 107]) = false := by rw [txt_eq]; decide
  have E_unlock : ((⟨#[]⟩ : ByteArray).toList == [117, 110, 108, 111, 99, 107]) = false := by rw [txt_eq]; decide
  have E_fence : ((⟨#[]⟩ : ByteArray).toList == [102, 101, 110, 99, 101]) = false := by rw [txt_eq]; decide
  go_wp2_with fail
  refine (rassign_c n R w w30 X X nv q ps s a s' T30 HQ.out HL.out).mono ?_
  rintro e w60 ⟨rfl, X60, nv60, s1, kd, tx, kv, kids, t60, ha, hs⟩
  have T60 := Lib.hid t60; have HA := Lib.hid ha; have HS := Lib.hid hs
  clear t60 ha hs T30
  have HB : Hid (s1.nodes.length ≤ 1000000) := Lib.hid (by have := HL.out; rw [HS.out] at this; simp at this; omega)
  obtain ⟨ka, kc, hkv⟩ := slice_of_row T60.out.k
  subst hkv
  have n0 := T60.out.c0; have n1 := T60.out.c1; have n2 := T60.out.c2; have n3 := T60.out.c3; have n4 := T60.out.c4
  as_aux_lemma =>
  go_wp2_with fail
  refine (T60.out.node HB.out).mono ?_
  rintro e w90 ⟨rfl, X90, nv90, h90, u90⟩
  clear n0 n1 n2 n3 n4
  go_wp2_with fail
  go_ret
  exact ⟨ret_int HA.out.symm, X90, nv90, by rw [HS.out]; exact h90, u90⟩

set_option maxRecDepth 100000 in
set_option maxHeartbeats 2000000 in
theorem rstmt_dword (n : Nat) (R : RR bp la c T en n) (w : World) (X : Nat → Prop) (nv : Value) (s : RS) (a : Int) (s' : RS) (h : RP w X bp la c T en s nv) (hq : runR T en (n + 1) .stmt s = some (a, s')) (hl : s'.nodes.length ≤ 1000000) (t : Tk) (HT : Hid (T[s.i]? = some t)) (hk : t.kind = 2) (n1 : ¬ t.text = (⟨#[105, 110, 116]⟩ : ByteArray)) (n2 : ¬ t.text = (⟨#[105, 102]⟩ : ByteArray)) (n3 : ¬ t.text = (⟨#[119, 104, 105, 108, 101]⟩ : ByteArray)) (n4 : ¬ t.text = (⟨#[112, 114, 105, 110, 116]⟩ : ByteArray)) (n5 : ¬ t.text = (⟨#[108, 111, 99, 107]⟩ : ByteArray)) (n6 : ¬ t.text = (⟨#[117, 110, 108, 111, 99, 107]⟩ : ByteArray)) (n7 : ¬ t.text = (⟨#[102, 101, 110, 99, 101]⟩ : ByteArray)) : Calls Tryz.prog 44 #[.pointer (some ⟨bp, 0, none⟩)] w (RDone w X bp la c T en (.int .i64 a) s') := by
  have hw : wordR T s = t.text := by simp [wordR, HT.out, hk]
  unfold runR at hq
  dsimp only at hq
  rw [hw] at hq
  clear hw
  rw [if_neg n1, if_neg n2, if_neg n3, if_neg n4, if_neg (by rintro (e | e); exact n5 e; exact n6 e), if_neg n7] at hq
  obtain ⟨ps, hps⟩ : ∃ ps, ps = posR T en s := ⟨_, rfl⟩
  rw [← hps] at hq
  have HPS := Lib.hid hps; clear hps
  have HQ := Lib.hid hq; have HL := Lib.hid hl
  clear hq hl
  go_enter Tryz.func44, Tryz.ntmps44
  go_wp2_with fail
  refine (rat_c h).mono ?_
  rw [← HPS.out]
  rintro e w1 ⟨rfl, h1, u1⟩
  clear h
  have HH := Lib.hid h1; have U1 := Lib.hid u1; clear u1
  have c0 := h1.c0
  have c2 := h1.c2
  obtain ⟨i, hI⟩ : ∃ i, i = s.i := ⟨_, rfl⟩
  rw [← hI] at c2
  have hi : i < T.length := by rw [hI]; exact (List.getElem?_eq_some_iff.1 HT.out).1
  obtain ⟨bl, rfl, t0, t1, t2, t3⟩ := toks_cells h1 HT.out
  rw [← hI] at t0 t1 t2 t3
  clear hI h1
  have hd : decide ((i : Int) < (T.length : Int)) = true := by simp; omega
  have hd2 : decide (i < T.length) = true := by simp; omega
  rw [hk] at t0
  go_upto_region 3 with (fail)
  go_quiet (fail)
  go_upto_region 4 with (fail)
  go_quiet (fail)
  generalize hw9 : World.drewN (World.drewN w1 _) _ = w9
  have HP9 : Hid (RP w9 X bp (some ⟨bl, 0, none⟩) c T en s nv ∧ Upd w X w9 X) := Lib.hid (by rw [← hw9]; exact ⟨((HH.out.drewN _).drewN _), ((U1.out.drewN _).drewN _)⟩)
  clear hw9 c0 c2 HH U1 t0 t1 t2 t3
  go_upto_region 6 with (fail)
  refine wp_gen (fun W => RP W X bp (some ⟨bl, 0, none⟩) c T en s nv ∧ Upd w X W X ∧ W.heap[w9.heap.size]? = some (.cells #[.int .i64 0, .int .i64 0, .int .i64 ps, .string ⟨#[]⟩, .slice none 0 0] 57 (0, 0))) ⟨HP9.out.1.alloc _, HP9.out.2.alloc _, blk_new rfl⟩ ?_
  obtain ⟨q, hqq⟩ : ∃ q, q = w9.heap.size := ⟨_, rfl⟩
  have HQ1 : Hid (¬ X q ∧ bp ≤ q ∧ w.heap.size ≤ q) := Lib.hid (by rw [hqq]; exact ⟨fun e => by have := HP9.out.1.high _ e; omega, Nat.le_of_lt HP9.out.1.lt, HP9.out.2.size⟩)
  rw [← hqq]
  clear hqq HP9
  rintro w30 ⟨h30, u30, hb30⟩
  have T30 : Hid (StW w w30 X X bp (some ⟨bl, 0, none⟩) c T en s nv q 0 ps ⟨#[]⟩ (.slice none 0 0) []) := Lib.hid ⟨h30, u30, hb30, HQ1.out.1, HQ1.out.2.1, HQ1.out.2.2, World.ownsRow_nil _ _ _ _, KX.nil⟩
  clear h30 u30 hb30 HQ1
  as_aux_lemma =>
  have E_int : (t.text.toList == [105, 110, 116]) = false := by rw [txt_eq, decide_eq_false_iff_not]; exact n1
  have E_if : (t.text.toList == [105, 102]) = false := by rw [txt_eq, decide_eq_false_iff_not]; exact n2
  have E_while : (t.text.toList == [119, 104, 105, 108, 101]) = false := by rw [txt_eq, decide_eq_false_iff_not]; exact n3
  have E_print : (t.text.toList == [112, 114, 105, 110, 116]) = false := by rw [txt_eq, decide_eq_false_iff_not]; exact n4
  have E_lock : (t.text.toList == [108, 111, 99, 107]) = false := by rw [txt_eq, decide_eq_false_iff_not]; exact n5
  have E_unlock : (t.text.toList == [117, 110, 108, 111, 99, 107]) = false := by rw [txt_eq, decide_eq_false_iff_not]; exact n6
  have E_fence : (t.text.toList == [102, 101, 110, 99, 101]) = false := by rw [txt_eq, decide_eq_false_iff_not]; exact n7
  have N := Lib.hid n1
  clear n1 n2 n3 n4 n5 n6 n7
  go_wp2_with fail
  refine (rassign_c n R w w30 X X nv q ps s a s' T30 HQ.out HL.out).mono ?_
  rintro e w60 ⟨rfl, X60, nv60, s1, kd, tx, kv, kids, t60, ha, hs⟩
  have T60 := Lib.hid t60; have HA := Lib.hid ha; have HS := Lib.hid hs
  clear t60 ha hs T30
  have HB : Hid (s1.nodes.length ≤ 1000000) := Lib.hid (by have := HL.out; rw [HS.out] at this; simp at this; omega)
  obtain ⟨ka, kc, hkv⟩ := slice_of_row T60.out.k
  subst hkv
  have n0 := T60.out.c0; have n1 := T60.out.c1; have n2 := T60.out.c2; have n3 := T60.out.c3; have n4 := T60.out.c4
  as_aux_lemma =>
  go_wp2_with fail
  refine (T60.out.node HB.out).mono ?_
  rintro e w90 ⟨rfl, X90, nv90, h90, u90⟩
  clear n0 n1 n2 n3 n4
  go_wp2_with fail
  go_ret
  exact ⟨ret_int HA.out.symm, X90, nv90, by rw [HS.out]; exact h90, u90⟩

/-- stmt -/
theorem rstmt_c (n : Nat) (R : RR bp la c T en n) : RCall bp la c T en (n + 1) .stmt 44 #[.pointer (some ⟨bp, 0, none⟩)] := by
  intro w X nv s a s' h hq hl
  cases ht : T[s.i]? with
  | none => exact rstmt_dnone n R w X nv s a s' h hq hl (Lib.hid ht)
  | some t =>
    by_cases hk : t.kind = 2
    · by_cases n1 : t.text = (⟨#[105, 110, 116]⟩ : ByteArray)
      · exact rstmt_int n R w X nv s a s' h hq hl t (Lib.hid ht) hk n1
      by_cases n2 : t.text = (⟨#[105, 102]⟩ : ByteArray)
      · exact rstmt_if n R w X nv s a s' h hq hl t (Lib.hid ht) hk n2
      by_cases n3 : t.text = (⟨#[119, 104, 105, 108, 101]⟩ : ByteArray)
      · exact rstmt_while n R w X nv s a s' h hq hl t (Lib.hid ht) hk n3
      by_cases n4 : t.text = (⟨#[112, 114, 105, 110, 116]⟩ : ByteArray)
      · exact rstmt_print n R w X nv s a s' h hq hl t (Lib.hid ht) hk n4
      by_cases n5 : t.text = (⟨#[108, 111, 99, 107]⟩ : ByteArray)
      · exact rstmt_lock n R w X nv s a s' h hq hl t (Lib.hid ht) hk n5
      by_cases n6 : t.text = (⟨#[117, 110, 108, 111, 99, 107]⟩ : ByteArray)
      · exact rstmt_unlock n R w X nv s a s' h hq hl t (Lib.hid ht) hk n6
      by_cases n7 : t.text = (⟨#[102, 101, 110, 99, 101]⟩ : ByteArray)
      · exact rstmt_fence n R w X nv s a s' h hq hl t (Lib.hid ht) hk n7
      exact rstmt_dword n R w X nv s a s' h hq hl t (Lib.hid ht) hk n1 n2 n3 n4 n5 n6 n7
    · exact rstmt_dother n R w X nv s a s' h hq hl t (Lib.hid ht) hk

/-- With any number of rounds. -/
theorem rready (hlen : T.length ≤ 5000) (hnum : ∀ t ∈ T, 0 ≤ t.num ∧ t.num ≤ 999999999) (n : Nat) (hn : n ≤ 1000000) : ∀ m, m ≤ n → RR bp la c T en m := by
  induction n with
  | zero =>
    intro m hm
    obtain rfl : m = 0 := by omega
    have Z : ∀ nt f args, RCall bp la c T en 0 nt f args := fun nt f args w X nv s a s' _ h _ => by
      unfold runR at h
      cases h
    exact ⟨hlen, hnum, fun _ _ _ _ => Z _ _ _, Z _ _ _, Z _ _ _, Z _ _ _, Z _ _ _⟩
  | succ n ih =>
    intro m hm
    have R := ih (by omega)
    rcases Nat.lt_or_ge m (n + 1) with h | h
    · exact R m (by omega)
    · obtain rfl : m = n + 1 := by omega
      have Rn := R n (Nat.le_refl n)
      exact ⟨hlen, hnum, fun k kk h1 h2 => rexpr_c n R k kk h1 h2, runary_c n Rn, rheld_c n Rn, rblock_c n (by omega) R, rstmt_c n Rn⟩

end

end Go.Proofs.YtaklephcgepfjaaGreatDoor

/- The reference's lexer: one token, by ways. (Written by wip/tools/gen_refl.py.) -/
namespace Go.Proofs.YtaklephcgepfjaaGreatDoor
open Go.RowKit

def OnePost (w : World) (i : Nat) (r : TRes) (e : Ending) (w' : World) : Prop :=
  Upd w NO w' NO ∧ match r with
    | .ok t k => e = .returned (.tuple #[.agg #[.int .i64 t.kind, .int .i64 t.num, .int .i64 t.pos, .string t.text], .int .i64 (k - i : Nat), .int .i64 0])
    | .bad c => e = .returned (.tuple #[.agg #[.int .i64 0, .int .i64 0, .int .i64 0, .string ⟨#[]⟩], .int .i64 0, .int .i64 c])

/-- The memory of 'one': the token to be handed back. -/
structure OneW (w W : World) (p : Nat) : Prop where
  u : Upd w NO W NO
  l : w.heap.size ≤ p
  b : W.heap[p]? = some (.cells #[.int .i64 0, .int .i64 0, .int .i64 0, .string ⟨#[]⟩] 81 (0, 0))

theorem OneW.set {w W : World} {p : Nat} (h : OneW w W p) (v0 v1 v2 v3 : Value) : Upd w NO ((((W.setCell ⟨p, 0, none⟩ v0).setCell ⟨p, 1, none⟩ v1).setCell ⟨p, 2, none⟩ v2).setCell ⟨p, 3, none⟩ v3) NO :=
  (((h.u.setCell (a := ⟨p, 0, none⟩) (.inr h.l) v0).setCell (a := ⟨p, 1, none⟩) (.inr h.l) v1).setCell (a := ⟨p, 2, none⟩) (.inr h.l) v2).setCell (a := ⟨p, 3, none⟩) (.inr h.l) v3

theorem run_sl (s : ByteArray) (i n : Nat) (h : i + n ≤ s.size) (w : World) : (Instr.slice 9 (.string s) (some (.int .i64 (i : Int))) (some (.int .i64 ((i : Int) + (n : Int)))) none).run Tryz.prog w = .ok (.string (s.extract i (i + n))) w := by
  have := run_slice_string (P := Tryz.prog) (w := w) 9 s .i64 .i64 (i : Int) ((i : Int) + (n : Int)) Tryz.underlying9 (by omega) (by omega) (by omega)
  rw [this]
  rfl

set_option maxRecDepth 100000 in
set_option maxHeartbeats 2000000 in
theorem rone_word (i : Nat) (s : ByteArray) (w : World) (hi : i < s.size) (hs : s.size ≤ 5000) (HLET : Hid (letterI (bt s i) = true)) :
    Calls Tryz.prog 40 #[.string s, .int .i64 i] w (OnePost w i (tokenR s i)) := by
  have hb := bt_eq hi
  obtain ⟨c, hc⟩ : ∃ c, (s[i].toNat : Int) = c := ⟨_, rfl⟩
  rw [hc] at hb
  have HB := Lib.hid hb; clear hb
  rw [HB.out] at HLET
  have HL := Lib.hid (rletter_c c)
  rw [HLET.out] at HL
  go_enter Tryz.func40, Tryz.ntmps40
  go_upto_region 2 with (fail)
  refine wp_gen (fun W => OneW w W w.heap.size) ⟨(Upd.refl _ _).alloc _, Nat.le_refl _, blk_new rfl⟩ ?_
  obtain ⟨p, hp⟩ : ∃ p, p = w.heap.size := ⟨_, rfl⟩
  rw [← hp]
  clear hp
  intro W h1
  have H1 := Lib.hid h1; clear h1
  as_aux_lemma =>
  go_wp2_with fail
  refine (HL.out _).mono ?_
  rintro e w' ⟨rfl, rfl⟩
  have HJ : Hid (i + 1 ≤ s.size ∧ whileR (fun c => letterI c || digitI c) s i = whileR (fun c => letterI c || digitI c) s (i + 1)) := Lib.hid ⟨hi, by
    rw [whileR, if_pos ⟨hi, by rw [HB.out, HLET.out]; rfl⟩]⟩
  obtain ⟨j, hj⟩ : ∃ j, j = whileR (fun c => letterI c || digitI c) s i := ⟨_, rfl⟩
  have HJJ := Lib.hid hj
  rw [← hj] at HJ
  clear hj
  go_upto_block 0 with (fail)
  go_cut [7] from 19 to 45 (fun s7 wx => W = wx ∧ ∃ n : Nat, s7 = .int .i64 n ∧ i + n ≤ s.size ∧ i + n = j)
  case first =>
    go_wp2_with fail
    go_loopg [7] s.size (fun m s7 wx => W = wx ∧ ∃ n : Nat, s7 = .int .i64 n ∧ i + n ≤ s.size ∧ s.size - (i + n) ≤ m ∧ Hid (j = whileR (fun c => letterI c || digitI c) s (i + n)))
    case atStart => exact ⟨rfl, 1, rfl, HJ.out.1, by omega, Lib.hid HJ.out.2⟩
    case round =>
      obtain ⟨rfl, n, rfl, hn, hm, HR⟩ := hrel
      have HM := Lib.hid hm; clear hm HJ
      by_cases hlt : i + n < s.size
      · have hd : decide ((i : Int) + (n : Int) < (s.size : Int)) = true := by simp; omega
        have hd2 : decide (i + n < s.size) = true := by simp; omega
        have hb2 := bt_eq hlt
        obtain ⟨d, hdd⟩ : ∃ d, (s[i + n].toNat : Int) = d := ⟨_, rfl⟩
        rw [hdd] at hb2
        have HB2 := Lib.hid hb2; clear hb2
        have HL2 := Lib.hid (rletter_c d)
        have HD2 := Lib.hid (rdigit_c d)
        have HG : Hid (gk - 1 < gk) := Lib.hid (by have := HM.out; omega)
        cases hl : letterI d with
        | true =>
          rw [hl] at HL2
          have HN : Hid (j = whileR (fun c => letterI c || digitI c) s (i + (n + 1))) := Lib.hid (by rw [HR.out, whileR, if_pos ⟨hlt, by rw [HB2.out, hl]; rfl⟩]; rfl)
          clear hl
          go_wp2_with fail
          refine (HL2.out _).mono ?_
          rintro e w' ⟨rfl, rfl⟩
          go_wp2_with fail
          refine (HD2.out _).mono ?_
          rintro e w' ⟨rfl, rfl⟩
          go_wp2_with fail
          go_roundg (gk - 1)
          case rel => exact ⟨rfl, n + 1, by go_num, by omega, by have := HM.out; omega, HN⟩
          case measure => exact HG.out
        | false =>
          rw [hl] at HL2
          cases hg : digitI d with
          | true =>
            rw [hg] at HD2
            have HN : Hid (j = whileR (fun c => letterI c || digitI c) s (i + (n + 1))) := Lib.hid (by rw [HR.out, whileR, if_pos ⟨hlt, by rw [HB2.out, hl, hg]; rfl⟩]; rfl)
            clear hl hg
            go_wp2_with fail
            refine (HL2.out _).mono ?_
            rintro e w' ⟨rfl, rfl⟩
            go_wp2_with fail
            refine (HD2.out _).mono ?_
            rintro e w' ⟨rfl, rfl⟩
            go_wp2_with fail
            go_roundg (gk - 1)
            case rel => exact ⟨rfl, n + 1, by go_num, by omega, by have := HM.out; omega, HN⟩
            case measure => exact HG.out
          | false =>
            rw [hg] at HD2
            have HN : Hid (i + n = j) := Lib.hid (by rw [HR.out, whileR, if_neg (by rw [HB2.out, hl, hg]; simp)])
            clear hl hg
            go_wp2_with fail
            refine (HL2.out _).mono ?_
            rintro e w' ⟨rfl, rfl⟩
            go_wp2_with fail
            refine (HD2.out _).mono ?_
            rintro e w' ⟨rfl, rfl⟩
            go_wp2_with fail
            go_meet
            exact ⟨rfl, n, rfl, hn, HN.out⟩
      · have hd : decide ((i : Int) + (n : Int) < (s.size : Int)) = false := by simp; omega
        have hd2 : decide (i + n < s.size) = false := by simp; omega
        have HN : Hid (i + n = j) := Lib.hid (by rw [HR.out, whileR, if_neg (by omega)])
        go_wp2_with fail
        go_meet
        exact ⟨rfl, n, rfl, hn, HN.out⟩
  case rest =>
    obtain ⟨rfl, n, rfl, hn, hnj⟩ := hcut
    have hsl := run_sl s i n hn
    obtain ⟨x, hx⟩ : ∃ x, s.extract i (i + n) = x := ⟨_, rfl⟩
    rw [hx] at hsl
    obtain ⟨m, hm⟩ : ∃ m, memB x wordsP = m := ⟨_, rfl⟩
    have HW := Lib.hid (rword_c x)
    rw [hm] at HW
    have HTK0 : Hid (tokenR s i = if m = true then .ok ⟨2, 0, i, x⟩ (i + n) else if 12 < n then .bad 5 else .ok ⟨1, 0, i, x⟩ (i + n)) := Lib.hid (by
      unfold tokenR
      rw [HB.out, HLET.out, if_pos rfl, ← HJJ.out, ← hnj]
      dsimp only
      rw [hx, hm, show i + n - i = n by omega])
    clear hm hx hnj HJ HJJ
    as_aux_lemma =>
    go_wp2_with fail
    refine (HW.out _).mono ?_
    rintro e w' ⟨rfl, rfl⟩
    cases m with
    | true =>
      have HTK : Hid (tokenR s i = .ok ⟨2, 0, i, x⟩ (i + n)) := Lib.hid (by rw [HTK0.out, if_pos rfl])
      have a0 : W.cell? ⟨p, 0, none⟩ = some (.int .i64 0) := cell_blk H1.out.b
      have a1 : W.cell? ⟨p, 1, none⟩ = some (.int .i64 0) := cell_blk H1.out.b
      have a2 : W.cell? ⟨p, 2, none⟩ = some (.int .i64 0) := cell_blk H1.out.b
      have a3 : W.cell? ⟨p, 3, none⟩ = some (.string ⟨#[]⟩) := cell_blk H1.out.b
      have af : ∀ o, W.frozen? ⟨p, o, none⟩ = false := fun o => free_blk H1.out.b
      go_wp2_with fail
      refine bodyPost_ret (v := .tuple #[.agg #[.int .i64 2, .int .i64 0, .int .i64 i, .string x], .int .i64 n, .int .i64 0]) (by simp [results, Tryz.results40, go_sem, a0, a1, a2, a3]) rfl ⟨H1.out.set _ _ _ _, ?_⟩
      rw [HTK.out]
      show _ = _
      rw [show i + n - i = n by omega]
    | false =>
      by_cases h12 : 12 < n
      · have hd : decide ((12 : Int) < (n : Int)) = true := by simp; omega
        have hd2 : decide (12 < n) = true := by simp; omega
        have HTK : Hid (tokenR s i = .bad 5) := Lib.hid (by rw [HTK0.out, if_neg (by decide), if_pos h12])
        have a0 : W.cell? ⟨p, 0, none⟩ = some (.int .i64 0) := cell_blk H1.out.b
        have a1 : W.cell? ⟨p, 1, none⟩ = some (.int .i64 0) := cell_blk H1.out.b
        have a2 : W.cell? ⟨p, 2, none⟩ = some (.int .i64 0) := cell_blk H1.out.b
        have a3 : W.cell? ⟨p, 3, none⟩ = some (.string ⟨#[]⟩) := cell_blk H1.out.b
        have af : ∀ o, W.frozen? ⟨p, o, none⟩ = false := fun o => free_blk H1.out.b
        go_wp2_with fail
        refine bodyPost_ret (v := .tuple #[.agg #[.int .i64 0, .int .i64 0, .int .i64 0, .string ⟨#[]⟩], .int .i64 0, .int .i64 5]) (by simp [results, Tryz.results40, go_sem, a0, a1, a2, a3]) rfl ⟨H1.out.set _ _ _ _, ?_⟩
        rw [HTK.out]
      · have hd : decide ((12 : Int) < (n : Int)) = false := by simp; omega
        have hd2 : decide (12 < n) = false := by simp; omega
        have HTK : Hid (tokenR s i = .ok ⟨1, 0, i, x⟩ (i + n)) := Lib.hid (by rw [HTK0.out, if_neg (by decide), if_neg h12])
        have a0 : W.cell? ⟨p, 0, none⟩ = some (.int .i64 0) := cell_blk H1.out.b
        have a1 : W.cell? ⟨p, 1, none⟩ = some (.int .i64 0) := cell_blk H1.out.b
        have a2 : W.cell? ⟨p, 2, none⟩ = some (.int .i64 0) := cell_blk H1.out.b
        have a3 : W.cell? ⟨p, 3, none⟩ = some (.string ⟨#[]⟩) := cell_blk H1.out.b
        have af : ∀ o, W.frozen? ⟨p, o, none⟩ = false := fun o => free_blk H1.out.b
        go_wp2_with fail
        refine bodyPost_ret (v := .tuple #[.agg #[.int .i64 1, .int .i64 0, .int .i64 i, .string x], .int .i64 n, .int .i64 0]) (by simp [results, Tryz.results40, go_sem, a0, a1, a2, a3]) rfl ⟨H1.out.set _ _ _ _, ?_⟩
        rw [HTK.out]
        show _ = _
        rw [show i + n - i = n by omega]

end Go.Proofs.YtaklephcgepfjaaGreatDoor

/- The reference's lexer: one token, by ways. (Written by wip/tools/gen_refl.py.) -/
namespace Go.Proofs.YtaklephcgepfjaaGreatDoor
open Go.RowKit

theorem decR_step (s : ByteArray) (i n : Nat) : decR s i (i + (n + 1)) = decR s i (i + n) * 10 + (bt s (i + n) - 48) := by
  unfold decR
  rw [show i + (n + 1) - i = n + 1 by omega, show i + n - i = n by omega, List.range_succ, List.foldl_append]
  rfl

theorem decR_one (s : ByteArray) (i : Nat) : decR s i (i + 1) = bt s i - 48 := by
  unfold decR
  rw [show i + 1 - i = 1 by omega]
  simp [List.range_succ]

/-- What the loop over digits knows. -/
def NumInv (W : World) (s : ByteArray) (i j m : Nat) (s7 s12 : Value) (wx : World) : Prop :=
  W = wx ∧ ∃ (n : Nat) (a : Int), s7 = .int .i64 n ∧ s12 = .int .i64 a ∧ 1 ≤ n ∧ i + n ≤ s.size ∧ s.size - (i + n) ≤ m ∧ j = whileR digitI s (i + n) ∧ a = decR s i (i + min n 9)

def NumOut (W : World) (s : ByteArray) (i j : Nat) (s7 s12 : Value) (wx : World) : Prop :=
  W = wx ∧ ∃ (n : Nat) (a : Int), s7 = .int .i64 n ∧ s12 = .int .i64 a ∧ 1 ≤ n ∧ i + n ≤ s.size ∧ i + n = j ∧ a = decR s i (i + min n 9)

set_option maxRecDepth 100000 in
set_option maxHeartbeats 2000000 in
theorem rone_num (i : Nat) (s : ByteArray) (w : World) (hi : i < s.size) (hs : s.size ≤ 5000) (HLET : Hid (letterI (bt s i) = false)) (HDIG : Hid (digitI (bt s i) = true)) :
    Calls Tryz.prog 40 #[.string s, .int .i64 i] w (OnePost w i (tokenR s i)) := by
  have hb := bt_eq hi
  obtain ⟨c, hc⟩ : ∃ c, (s[i].toNat : Int) = c := ⟨_, rfl⟩
  rw [hc] at hb
  have HB := Lib.hid hb; clear hb
  rw [HB.out] at HLET
  have HL := Lib.hid (rletter_c c)
  rw [HLET.out] at HL
  go_enter Tryz.func40, Tryz.ntmps40
  go_upto_region 2 with (fail)
  refine wp_gen (fun W => OneW w W w.heap.size) ⟨(Upd.refl _ _).alloc _, Nat.le_refl _, blk_new rfl⟩ ?_
  obtain ⟨p, hp⟩ : ∃ p, p = w.heap.size := ⟨_, rfl⟩
  rw [← hp]
  clear hp
  intro W h1
  have H1 := Lib.hid h1; clear h1
  as_aux_lemma =>
  go_wp2_with fail
  refine (HL.out _).mono ?_
  rintro e w' ⟨rfl, rfl⟩
  rw [HB.out] at HDIG
  have HDC := Lib.hid (rdigit_c c)
  rw [HDIG.out] at HDC
  obtain ⟨hc1, hc2⟩ : 48 ≤ c ∧ c ≤ 57 := by simpa [digitI] using HDIG.out
  obtain ⟨j, hj⟩ : ∃ j, j = whileR digitI s i := ⟨_, rfl⟩
  have HJJ := Lib.hid hj
  have HIV : Hid (NumInv W s i j s.size (.int .i64 1) (.int .i64 (c - 48)) W) := Lib.hid ⟨rfl, 1, c - 48, rfl, rfl, by omega, by omega, by omega, by rw [hj, whileR, if_pos ⟨hi, by rw [HB.out]; exact HDIG.out⟩], by rw [show i + min 1 9 = i + 1 by omega, decR_one, HB.out]⟩
  clear hj
  go_wp2_with fail
  refine (HDC.out _).mono ?_
  rintro e w' ⟨rfl, rfl⟩
  go_upto_block 2 with (fail)
  as_aux_lemma =>
  go_cut [7, 12] from 84 to 112 (fun s7 s12 wx => NumOut W s i j s7 s12 wx)
  case first =>
    go_wp2_with fail
    go_loopg [7, 12] s.size (fun m s7 s12 wx => NumInv W s i j m s7 s12 wx)
    case atStart => exact HIV.out
    case round =>
      clear HIV
      obtain ⟨rfl, n, a, rfl, rfl, hn1, hn, hm, hjr, har⟩ := hrel
      have HM := Lib.hid hm; have HJR := Lib.hid hjr; have HA := Lib.hid har; clear hm hjr har
      by_cases hlt : i + n < s.size
      · have hd : decide ((i : Int) + (n : Int) < (s.size : Int)) = true := by simp; omega
        have hd2 : decide (i + n < s.size) = true := by simp; omega
        have hb2 := bt_eq hlt
        obtain ⟨d, hdd⟩ : ∃ d, (s[i + n].toNat : Int) = d := ⟨_, rfl⟩
        rw [hdd] at hb2
        have HB2 := Lib.hid hb2; clear hb2
        have HD2 := Lib.hid (rdigit_c d)
        have HG : Hid (gk - 1 < gk) := Lib.hid (by have := HM.out; omega)
        cases hg : digitI d with
        | true =>
          rw [hg] at HD2
          obtain ⟨e1, e2⟩ : 48 ≤ d ∧ d ≤ 57 := by simpa [digitI] using hg
          have HN : Hid (j = whileR digitI s (i + (n + 1))) := Lib.hid (by rw [HJR.out, whileR, if_pos ⟨hlt, by rw [HB2.out, hg]⟩]; rfl)
          clear hg
          by_cases h9 : n < 9
          · have q1 : decide ((n : Int) < 9) = true := by simp; omega
            have q2 : decide (n < 9) = true := by simp; omega
            have hjn : i + n ≤ j := by have := (whileR_le digitI s (i + n) (by omega)).1; rw [← HJR.out] at this; exact this
            have hsm := decR_small s i (i + n) (fun k k1 k2 => whileR_all digitI s i k k1 (by rw [← HJJ.out]; omega))
            have hmin : min n 9 = n := by omega
            have hp : (10 : Int) ^ (i + n - i) ≤ 10 ^ 8 := by
              have := Nat.pow_le_pow_right (n := 10) (by decide) (show i + n - i ≤ 8 by omega)
              exact_mod_cast this
            have ha0 : 0 ≤ a := by rw [HA.out, hmin]; exact hsm.1
            have ha1 : a < 100000000 := by
              have h1 : a < 10 ^ (i + n - i) := by rw [HA.out, hmin]; exact hsm.2
              have h2 : (10 : Int) ^ 8 = 100000000 := by decide
              omega
            have HNEW : Hid (10 * a + (d - 48) = decR s i (i + min (n + 1) 9)) := Lib.hid (by
              have h1 := HA.out
              rw [hmin] at h1
              rw [show min (n + 1) 9 = n + 1 by omega, decR_step, ← h1, HB2.out]
              omega)
            clear hsm hp hmin hjn
            go_wp2_with fail
            refine (HD2.out _).mono ?_
            rintro e w' ⟨rfl, rfl⟩
            go_wp2_with fail
            go_roundg (gk - 1)
            case rel => exact ⟨rfl, n + 1, 10 * a + (d - 48), by go_num, by first | rfl | (congr 1; omega), by omega, by omega, by have := HM.out; omega, HN.out, HNEW.out⟩
            case measure => exact HG.out
          · have q1 : decide ((n : Int) < 9) = false := by simp; omega
            have q2 : decide (n < 9) = false := by simp; omega
            have HNEW : Hid (a = decR s i (i + min (n + 1) 9)) := Lib.hid (by rw [HA.out, show min (n + 1) 9 = min n 9 by omega])
            go_wp2_with fail
            refine (HD2.out _).mono ?_
            rintro e w' ⟨rfl, rfl⟩
            go_wp2_with fail
            go_roundg (gk - 1)
            case rel => exact ⟨rfl, n + 1, a, by go_num, rfl, by omega, by omega, by have := HM.out; omega, HN.out, HNEW.out⟩
            case measure => exact HG.out
        | false =>
          rw [hg] at HD2
          have HN : Hid (i + n = j) := Lib.hid (by rw [HJR.out, whileR, if_neg (by rw [HB2.out, hg]; simp)])
          clear hg
          go_wp2_with fail
          refine (HD2.out _).mono ?_
          rintro e w' ⟨rfl, rfl⟩
          go_wp2_with fail
          go_meet
          exact ⟨rfl, n, a, rfl, rfl, hn1, hn, HN.out, HA.out⟩
      · have hd : decide ((i : Int) + (n : Int) < (s.size : Int)) = false := by simp; omega
        have hd2 : decide (i + n < s.size) = false := by simp; omega
        have HN : Hid (i + n = j) := Lib.hid (by rw [HJR.out, whileR, if_neg (by omega)])
        go_wp2_with fail
        go_meet
        exact ⟨rfl, n, a, rfl, rfl, hn1, hn, HN.out, HA.out⟩
  case rest =>
    clear HIV
    obtain ⟨rfl, n, a, rfl, rfl, hn1, hn, hnj, har⟩ := hcut
    have hsl := run_sl s i n hn
    obtain ⟨x, hx⟩ : ∃ x, s.extract i (i + n) = x := ⟨_, rfl⟩
    rw [hx] at hsl
    have HTK0 : Hid (tokenR s i = if 9 < n ∨ 1 < n ∧ c = 48 then .bad 5 else .ok ⟨3, decR s i (i + n), i, x⟩ (i + n)) := Lib.hid (by
      unfold tokenR
      rw [HB.out, HLET.out, HDIG.out, if_neg (by decide), if_pos rfl, ← HJJ.out, ← hnj]
      dsimp only
      rw [hx, show i + n - i = n by omega])
    have HA := Lib.hid har
    clear hx hnj HJJ har
    as_aux_lemma =>
    by_cases h9 : 9 < n
    · have q1 : decide ((9 : Int) < (n : Int)) = true := by simp; omega
      have q2 : decide (9 < n) = true := by simp; omega
      have HTK : Hid (tokenR s i = .bad 5) := Lib.hid (by rw [HTK0.out, if_pos (.inl h9)])
      have a0 : W.cell? ⟨p, 0, none⟩ = some (.int .i64 0) := cell_blk H1.out.b
      have a1 : W.cell? ⟨p, 1, none⟩ = some (.int .i64 0) := cell_blk H1.out.b
      have a2 : W.cell? ⟨p, 2, none⟩ = some (.int .i64 0) := cell_blk H1.out.b
      have a3 : W.cell? ⟨p, 3, none⟩ = some (.string ⟨#[]⟩) := cell_blk H1.out.b
      have af : ∀ o, W.frozen? ⟨p, o, none⟩ = false := fun o => free_blk H1.out.b
      go_wp2_with fail
      refine bodyPost_ret (v := .tuple #[.agg #[.int .i64 0, .int .i64 0, .int .i64 0, .string ⟨#[]⟩], .int .i64 0, .int .i64 5]) (by simp [results, Tryz.results40, go_sem, a0, a1, a2, a3]) rfl ⟨H1.out.set _ _ _ _, ?_⟩
      rw [HTK.out]
    · have q1 : decide ((9 : Int) < (n : Int)) = false := by simp; omega
      have q2 : decide (9 < n) = false := by simp; omega
      have HAA : Hid (a = decR s i (i + n)) := Lib.hid (by rw [HA.out, show min n 9 = n by omega])
      by_cases h1 : 1 < n
      · have q3 : decide ((1 : Int) < (n : Int)) = true := by simp; omega
        have q4 : decide (1 < n) = true := by simp; omega
        by_cases h48 : c = 48
        · have q5 : (c == 48) = true := by simp [h48]
          have HTK : Hid (tokenR s i = .bad 5) := Lib.hid (by rw [HTK0.out, if_pos (.inr ⟨h1, h48⟩)])
          clear h48
          have a0 : W.cell? ⟨p, 0, none⟩ = some (.int .i64 0) := cell_blk H1.out.b
          have a1 : W.cell? ⟨p, 1, none⟩ = some (.int .i64 0) := cell_blk H1.out.b
          have a2 : W.cell? ⟨p, 2, none⟩ = some (.int .i64 0) := cell_blk H1.out.b
          have a3 : W.cell? ⟨p, 3, none⟩ = some (.string ⟨#[]⟩) := cell_blk H1.out.b
          have af : ∀ o, W.frozen? ⟨p, o, none⟩ = false := fun o => free_blk H1.out.b
          go_wp2_with fail
          refine bodyPost_ret (v := .tuple #[.agg #[.int .i64 0, .int .i64 0, .int .i64 0, .string ⟨#[]⟩], .int .i64 0, .int .i64 5]) (by simp [results, Tryz.results40, go_sem, a0, a1, a2, a3]) rfl ⟨H1.out.set _ _ _ _, ?_⟩
          rw [HTK.out]
        · have q5 : (c == 48) = false := by simp [h48]
          have HTK : Hid (tokenR s i = .ok ⟨3, a, i, x⟩ (i + n)) := Lib.hid (by rw [HTK0.out, if_neg (by omega), HAA.out])
          clear h48
          have a0 : W.cell? ⟨p, 0, none⟩ = some (.int .i64 0) := cell_blk H1.out.b
          have a1 : W.cell? ⟨p, 1, none⟩ = some (.int .i64 0) := cell_blk H1.out.b
          have a2 : W.cell? ⟨p, 2, none⟩ = some (.int .i64 0) := cell_blk H1.out.b
          have a3 : W.cell? ⟨p, 3, none⟩ = some (.string ⟨#[]⟩) := cell_blk H1.out.b
          have af : ∀ o, W.frozen? ⟨p, o, none⟩ = false := fun o => free_blk H1.out.b
          go_wp2_with fail
          refine bodyPost_ret (v := .tuple #[.agg #[.int .i64 3, .int .i64 a, .int .i64 i, .string x], .int .i64 n, .int .i64 0]) (by simp [results, Tryz.results40, go_sem, a0, a1, a2, a3]) rfl ⟨H1.out.set _ _ _ _, ?_⟩
          rw [HTK.out]
          show _ = _
          rw [show i + n - i = n by omega]
      · have q3 : decide ((1 : Int) < (n : Int)) = false := by simp; omega
        have q4 : decide (1 < n) = false := by simp; omega
        have HTK : Hid (tokenR s i = .ok ⟨3, a, i, x⟩ (i + n)) := Lib.hid (by rw [HTK0.out, if_neg (by omega), HAA.out])
        have a0 : W.cell? ⟨p, 0, none⟩ = some (.int .i64 0) := cell_blk H1.out.b
        have a1 : W.cell? ⟨p, 1, none⟩ = some (.int .i64 0) := cell_blk H1.out.b
        have a2 : W.cell? ⟨p, 2, none⟩ = some (.int .i64 0) := cell_blk H1.out.b
        have a3 : W.cell? ⟨p, 3, none⟩ = some (.string ⟨#[]⟩) := cell_blk H1.out.b
        have af : ∀ o, W.frozen? ⟨p, o, none⟩ = false := fun o => free_blk H1.out.b
        go_wp2_with fail
        refine bodyPost_ret (v := .tuple #[.agg #[.int .i64 3, .int .i64 a, .int .i64 i, .string x], .int .i64 n, .int .i64 0]) (by simp [results, Tryz.results40, go_sem, a0, a1, a2, a3]) rfl ⟨H1.out.set _ _ _ _, ?_⟩
        rw [HTK.out]
        show _ = _
        rw [show i + n - i = n by omega]

set_option maxRecDepth 100000 in
set_option maxHeartbeats 2000000 in
theorem rone_sign (i : Nat) (s : ByteArray) (w : World) (hi : i < s.size) (hs : s.size ≤ 5000) (HLET : Hid (letterI (bt s i) = false)) (HDIG : Hid (digitI (bt s i) = false)) :
    Calls Tryz.prog 40 #[.string s, .int .i64 i] w (OnePost w i (tokenR s i)) := by
  have hb := bt_eq hi
  obtain ⟨c, hc⟩ : ∃ c, (s[i].toNat : Int) = c := ⟨_, rfl⟩
  rw [hc] at hb
  have HB := Lib.hid hb; clear hb
  rw [HB.out] at HLET
  have HL := Lib.hid (rletter_c c)
  rw [HLET.out] at HL
  go_enter Tryz.func40, Tryz.ntmps40
  go_upto_region 2 with (fail)
  refine wp_gen (fun W => OneW w W w.heap.size) ⟨(Upd.refl _ _).alloc _, Nat.le_refl _, blk_new rfl⟩ ?_
  obtain ⟨p, hp⟩ : ∃ p, p = w.heap.size := ⟨_, rfl⟩
  rw [← hp]
  clear hp
  intro W h1
  have H1 := Lib.hid h1; clear h1
  as_aux_lemma =>
  go_wp2_with fail
  refine (HL.out _).mono ?_
  rintro e w' ⟨rfl, rfl⟩
  rw [HB.out] at HDIG
  have HDC := Lib.hid (rdigit_c c)
  rw [HDIG.out] at HDC
  have HSI := Lib.hid (rsign_c i s)
  have HTK0 : Hid (tokenR s i = match signsP.find? (preAt s i) with | some x => .ok ⟨4, 0, i, x⟩ (i + x.size) | none => .bad 5) := Lib.hid (by
    unfold tokenR
    rw [HB.out, HLET.out, HDIG.out, if_neg (by decide), if_neg (by decide)]
    cases signsP.find? (preAt s i) <;> rfl)
  cases hf : signsP.find? (preAt s i) with
  | none =>
    have HTK : Hid (tokenR s i = .bad 5) := Lib.hid (by rw [HTK0.out, hf])
    have HS2 : Hid (signR s i = 0) := Lib.hid (by rw [signR, hf])
    rw [HS2.out] at HSI
    clear hf HTK0
    go_wp2_with fail
    refine (HDC.out _).mono ?_
    rintro e w' ⟨rfl, rfl⟩
    go_wp2_with fail
    refine (HSI.out _ hi hs).mono ?_
    rintro e w' ⟨rfl, rfl⟩
    have a0 : W.cell? ⟨p, 0, none⟩ = some (.int .i64 0) := cell_blk H1.out.b
    have a1 : W.cell? ⟨p, 1, none⟩ = some (.int .i64 0) := cell_blk H1.out.b
    have a2 : W.cell? ⟨p, 2, none⟩ = some (.int .i64 0) := cell_blk H1.out.b
    have a3 : W.cell? ⟨p, 3, none⟩ = some (.string ⟨#[]⟩) := cell_blk H1.out.b
    have af : ∀ o, W.frozen? ⟨p, o, none⟩ = false := fun o => free_blk H1.out.b
    go_wp2_with fail
    refine bodyPost_ret (v := .tuple #[.agg #[.int .i64 0, .int .i64 0, .int .i64 0, .string ⟨#[]⟩], .int .i64 0, .int .i64 5]) (by simp [results, Tryz.results40, go_sem, a0, a1, a2, a3]) rfl ⟨H1.out.set _ _ _ _, ?_⟩
    rw [HTK.out]
  | some x =>
    obtain ⟨n, hn⟩ : ∃ n, x.size = n := ⟨_, rfl⟩
    have HS2 : Hid (signR s i = (n : Int)) := Lib.hid (by rw [signR, hf]; dsimp only; rw [hn])
    have h1 := List.find?_some hf
    simp only [preAt, Bool.and_eq_true, decide_eq_true_eq] at h1
    rw [hn] at h1
    obtain ⟨hin, hx⟩ := h1
    have hsl := run_sl s i n hin
    rw [hx] at hsl
    have hn1 : 1 ≤ n := by have := signs_cover x (List.mem_of_find?_eq_some hf); omega
    have HTK : Hid (tokenR s i = .ok ⟨4, 0, i, x⟩ (i + n)) := Lib.hid (by rw [HTK0.out, hf]; dsimp only; rw [hn])
    have q1 : ((n : Int) == 0) = false := by simp; omega
    rw [HS2.out] at HSI
    clear hf HTK0 hx hn
    go_wp2_with fail
    refine (HDC.out _).mono ?_
    rintro e w' ⟨rfl, rfl⟩
    go_wp2_with fail
    refine (HSI.out _ hi hs).mono ?_
    rintro e w' ⟨rfl, rfl⟩
    have a0 : W.cell? ⟨p, 0, none⟩ = some (.int .i64 0) := cell_blk H1.out.b
    have a1 : W.cell? ⟨p, 1, none⟩ = some (.int .i64 0) := cell_blk H1.out.b
    have a2 : W.cell? ⟨p, 2, none⟩ = some (.int .i64 0) := cell_blk H1.out.b
    have a3 : W.cell? ⟨p, 3, none⟩ = some (.string ⟨#[]⟩) := cell_blk H1.out.b
    have af : ∀ o, W.frozen? ⟨p, o, none⟩ = false := fun o => free_blk H1.out.b
    go_wp2_with fail
    refine bodyPost_ret (v := .tuple #[.agg #[.int .i64 4, .int .i64 0, .int .i64 i, .string x], .int .i64 n, .int .i64 0]) (by simp [results, Tryz.results40, go_sem, a0, a1, a2, a3]) rfl ⟨H1.out.set _ _ _ _, ?_⟩
    rw [HTK.out]
    show _ = _
    rw [show i + n - i = n by omega]

theorem rone_c (i : Nat) (s : ByteArray) (w : World) (hi : i < s.size) (hs : s.size ≤ 5000) : Calls Tryz.prog 40 #[.string s, .int .i64 i] w (OnePost w i (tokenR s i)) := by
  cases h1 : letterI (bt s i) with
  | true => exact rone_word i s w hi hs (Lib.hid h1)
  | false =>
    cases h2 : digitI (bt s i) with
    | true => exact rone_num i s w hi hs (Lib.hid h1) (Lib.hid h2)
    | false => exact rone_sign i s w hi hs (Lib.hid h1) (Lib.hid h2)

end Go.Proofs.YtaklephcgepfjaaGreatDoor

/- The program's lexer: the lists of words and signs; the sign that stands at a place; the number that digits tell. -/
namespace Go.Proofs.YtaklephcgepfjaaGreatDoor
open Go.RowKit

/-- A list of texts in one new block. -/
def Texts (w : World) (l : List ByteArray) : World := w.alloc (.cells (l.map Value.string).toArray 9)

theorem words_c (w : World) : Calls Tryz.prog 64 #[] w fun e w' => e = .returned (.slice (some ⟨w.heap.size, 0, none⟩) wordsP.length wordsP.length) ∧ w' = Texts w wordsP := by
  go_enter Tryz.func64, Tryz.ntmps64
  go_wp2
  go_ret
  exact ⟨rfl, rfl⟩

theorem signs_c (w : World) : Calls Tryz.prog 67 #[] w fun e w' => e = .returned (.slice (some ⟨w.heap.size, 0, none⟩) signsP.length signsP.length) ∧ w' = Texts w signsP := by
  go_enter Tryz.func67, Tryz.ntmps67
  go_wp2
  go_ret
  exact ⟨rfl, rfl⟩

theorem texts_cell {w : World} {b : Nat} {l : List ByteArray} (h : w.heap[b]? = some (.cells (l.map Value.string).toArray 9 (0, 0))) (j : Nat) (hj : j < l.length) :
    w.cell? ⟨b, j, none⟩ = some (.string (l.getD j ByteArray.empty)) := by
  rw [cell_blk h]
  simp [hj]

set_option maxRecDepth 100000 in
/-- the closure that asks whether a sign stands at a place -/
theorem stands_c (p1 p2 bs i at_ : Nat) (s x : ByteArray) (w : World) (hb : w.heap[bs]? = some (.cells #[.string s, .int .i64 i] 79 (0, 0)))
    (h1 : w.heap[p1]? = some (.cells #[.pointer (some ⟨bs, 0, none⟩)] 77 (0, 0))) (h2 : w.heap[p2]? = some (.cells #[.int .i64 at_] 3 (0, 0))) (ha : at_ ≤ s.size) (hs : s.size ≤ 5000) :
    Calls Tryz.prog 69 #[.string x, .pointer (some ⟨p1, 0, none⟩), .pointer (some ⟨p2, 0, none⟩)] w fun e w' => e = .returned (.bool (preAt s at_ x)) ∧ ∃ n, w' = w.drewN n := by
  have g0 : w.cell? ⟨bs, 0, none⟩ = some (.string s) := cell_blk hb
  have g1 : w.cell? ⟨p1, 0, none⟩ = some (.pointer (some ⟨bs, 0, none⟩)) := cell_blk h1
  have g2 : w.cell? ⟨p2, 0, none⟩ = some (.int .i64 at_) := cell_blk h2
  have HP := Lib.hid (fun W => hasPrefix_c (s.extract at_ s.size) x W)
  have hr : (decide (x.size ≤ (s.extract at_ s.size).size) && decide ((s.extract at_ s.size).extract 0 x.size = x)) = preAt s at_ x := by
    rw [ByteArray.size_extract]
    unfold preAt
    congr 1
    · rw [decide_eq_decide]; omega
    · rw [decide_eq_decide, bytes_ext, bytes_ext, Lib.extract_data, Lib.extract_to_end, Lib.extract_data, List.drop_zero]
      rw [show at_ + x.size - at_ = x.size - 0 by omega]
  rw [hr] at HP
  clear hr hb h1 h2
  go_enter Tryz.func69, Tryz.ntmps69
  go_wp2_with fail
  go_quiet ((go_at_call 58; exact Calls.quiet_of (HP.out _)))
  go_wp2_with fail
  go_ret
  exact ⟨rfl, _, rfl⟩

theorem find_step (p : ByteArray → Bool) (l : List ByteArray) (k : Nat) (hk : k < l.length) (h : p l[k] = false) : (l.drop k).find? p = (l.drop (k + 1)).find? p := by
  rw [List.drop_eq_getElem_cons hk, List.find?_cons_of_neg (by rw [h]; decide)]
theorem find_hit (p : ByteArray → Bool) (l : List ByteArray) (k : Nat) (hk : k < l.length) (h : p l[k] = true) : (l.drop k).find? p = some l[k] := by
  rw [List.drop_eq_getElem_cons hk, List.find?_cons_of_pos h]

set_option maxRecDepth 100000 in
theorem indexFunc_c (lb c p1 p2 bs i at_ : Nat) (l : List ByteArray) (s : ByteArray) (w : World) (hb : w.heap[bs]? = some (.cells #[.string s, .int .i64 i] 79 (0, 0)))
    (h1 : w.heap[p1]? = some (.cells #[.pointer (some ⟨bs, 0, none⟩)] 77 (0, 0))) (h2 : w.heap[p2]? = some (.cells #[.int .i64 at_] 3 (0, 0))) (ha : at_ ≤ s.size) (hs : s.size ≤ 5000)
    (hl : l.length ≤ 1000) (hc : ∀ j, j < l.length → w.cell? ⟨lb, j, none⟩ = some (.string (l.getD j ByteArray.empty))) :
    Calls Tryz.prog 68 #[.slice (some ⟨lb, 0, none⟩) l.length c, .func (.func 69) #[] #[.pointer (some ⟨p1, 0, none⟩), .pointer (some ⟨p2, 0, none⟩)]] w fun e w' =>
      ((∃ k : Nat, ∃ hk : k < l.length, e = .returned (.int .i64 k) ∧ l.find? (preAt s at_) = some l[k]) ∨ (e = .returned (.int .i64 (-1)) ∧ l.find? (preAt s at_) = none)) ∧ ∃ n, w' = w.drewN n := by
  have HP := Lib.hid (fun n x => stands_c p1 p2 bs i at_ s x (w.drewN n) hb h1 h2 ha hs)
  clear hb h1 h2 ha hs
  have HCC := Lib.hid hc; clear hc
  go_enter Tryz.func68, Tryz.ntmps68
  go_wp2_with fail
  go_loopg [8] l.length (fun m v wr => ∃ k : Nat, v = .int .i64 k ∧ k ≤ l.length ∧ l.length - k ≤ m ∧ Hid (l.find? (preAt s at_) = (l.drop k).find? (preAt s at_)) ∧ ∃ n, wr = w.drewN n)
  case atStart => exact ⟨0, rfl, Nat.zero_le _, Nat.le_refl _, Lib.hid rfl, 0, rfl⟩
  case round =>
    obtain ⟨k, rfl, hk, hm, HE, nd, hw⟩ := hrel
    have HW := Lib.hid hw
    by_cases hlt : k < l.length
    · have hck : wr.cell? ⟨lb, k, none⟩ = some (.string l[k]) := by
        have := HCC.out k hlt
        rw [show l.getD k ByteArray.empty = l[k] by simp [hlt]] at this
        rw [hw]; exact this
      clear hw
      have hd : decide ((k : Int) < (l.length : Int)) = true := by simp; omega
      have hd2 : decide (k < l.length) = true := by simp; omega
      obtain ⟨x, hx⟩ : ∃ x, l[k] = x := ⟨_, rfl⟩
      rw [hx] at hck
      have HX := Lib.hid hx; clear hx
      have HC := Lib.hid (HP.out nd x)
      rw [← HW.out] at HC
      cases hp : preAt s at_ x with
      | true =>
        rw [hp] at HC
        have HPP := Lib.hid hp; clear hp
        go_wp2_with fail
        refine HC.out.mono ?_
        rintro e w' ⟨rfl, n, rfl⟩
        go_wp2_with fail
        go_ret
        refine ⟨.inl ⟨k, hlt, rfl, ?_⟩, _, by rw [HW.out]; exact World.drewN_drewN _ _ _⟩
        rw [HE.out, find_hit _ _ _ hlt (by rw [HX.out]; exact HPP.out)]
      | false =>
        rw [hp] at HC
        have HPP := Lib.hid hp; clear hp
        go_wp2_with fail
        refine HC.out.mono ?_
        rintro e w' ⟨rfl, n, rfl⟩
        go_wp2_with fail
        go_roundg (gk - 1)
        case rel => exact ⟨k + 1, by go_num, by omega, by omega, Lib.hid (by rw [HE.out, find_step _ _ _ hlt (by rw [HX.out]; exact HPP.out)]), _, by rw [HW.out]; exact World.drewN_drewN _ _ _⟩
        case measure => omega
    · clear hw
      have hd : decide ((k : Int) < (l.length : Int)) = false := by simp; omega
      have hd2 : decide (k < l.length) = false := by simp; omega
      go_wp2_with fail
      go_ret
      refine ⟨.inr ⟨rfl, ?_⟩, _, HW.out⟩
      rw [HE.out, List.drop_eq_nil_of_le (by omega)]
      rfl

theorem decR_succ (s : ByteArray) (k : Nat) : decR s 0 (k + 1) = decR s 0 k * 10 + (bt s k - 48) := by
  unfold decR
  simp only [Nat.sub_zero, List.range_succ, List.foldl_append, List.foldl_cons, List.foldl_nil, Nat.zero_add]

set_option maxRecDepth 100000 in
set_option maxHeartbeats 1000000 in
theorem atoi_in (t : ByteArray) (h1 : 1 ≤ t.size) (h9 : t.size ≤ 9) (hd : ∀ k, k < t.size → digitI (bt t k) = true) (w : World) :
    Calls Tryz.prog 102 #[.string t] w fun e w' => e = .returned (.tuple #[.int .i64 (decR t 0 t.size), .nilIface]) ∧ ∃ u, w' = Lib.bytesWorld w 5 u := by
  have hcv := Lib.run_convert_string_bytes (P := Tryz.prog) w 9 68 5 t (u := .string) Tryz.underlying9 Tryz.underlying68 Tryz.underlying5
  have hB : ∀ j, j < t.size → (Lib.bytesWorld w 5 t).cell? ⟨w.heap.size, j, none⟩ = some (.int .u8 (bt t j)) := fun j hj => by
    rw [Lib.bytesWorld_cell w 5 t j hj, bt_eq hj]
    simp [List.getD, hj]
    rfl
  obtain ⟨W1, hW1⟩ : ∃ W1, W1 = Lib.bytesWorld w 5 t := ⟨_, rfl⟩
  rw [← hW1] at hcv hB
  have HW := Lib.hid hW1; clear hW1
  have HB := Lib.hid hB; clear hB
  have HD := Lib.hid hd; clear hd
  have b0 := HD.out 0 (by omega)
  have c0 : ((t[0]'(by omega)).toNat : Int) = bt t 0 := (bt_eq (by omega)).symm
  have hb0 : 48 ≤ bt t 0 ∧ bt t 0 ≤ 57 := by simpa [digitI] using b0
  obtain ⟨c, hc⟩ : ∃ c, c = bt t 0 := ⟨_, rfl⟩
  rw [← hc] at c0 hb0
  clear hc b0
  obtain ⟨hc1, hc2⟩ := hb0
  have e1 : (c == 45) = false := by simp; omega
  have e2 : (c == 43) = false := by simp; omega
  go_enter Tryz.func102, Tryz.ntmps102
  go_wp2_with fail
  go_loop [49, 6] (fun vi vn => ∃ (k acc : Nat), k ≤ t.size ∧ vi = .int .i64 k ∧ vn = .int .i64 acc ∧ acc < 10 ^ k ∧ Hid ((acc : Int) = decR t 0 k)) (fun vi _ => t.size - (RowKit.intOf vi).toNat)
  case atStart => exact ⟨0, 0, Nat.zero_le _, rfl, rfl, by decide, Lib.hid rfl⟩
  case round =>
    obtain ⟨k, acc, hk, rfl, rfl, hacc, HA⟩ := hrel
    have hp : 10 ^ k ≤ 10 ^ 9 := Nat.pow_le_pow_right (by decide) (by omega)
    by_cases hkn : k < t.size
    · have hp2 : 10 ^ (k + 1) = 10 ^ k * 10 := Nat.pow_succ 10 k
      have hc1 := HB.out k hkn
      have hd2 := HD.out k hkn
      have HS := Lib.hid (decR_succ t k)
      obtain ⟨x, hx⟩ : ∃ x, x = bt t k := ⟨_, rfl⟩
      rw [← hx] at hc1 hd2
      have HX := Lib.hid hx; clear hx
      obtain ⟨y, rfl⟩ : ∃ y : Nat, x = (y : Int) + 48 := ⟨(x - 48).toNat, by simp [digitI] at hd2; omega⟩
      have hy : y ≤ 9 := by simp [digitI] at hd2; omega
      clear hd2
      have hd : decide ((k : Int) < (t.size : Int)) = true := by simp; omega
      have hd2 : decide (k < t.size) = true := by simp; omega
      have hz : acc * 10 + y < 10 ^ (k + 1) := by omega
      have hbd : acc < 1000000000 := by omega
      have HZ := Lib.hid hz
      clear hz hp hp2 hacc
      go_wp2_with fail
      go_round
      case rel => exact ⟨k + 1, acc * 10 + y, by omega, by go_num, by first | go_num | (congr 1; omega), HZ.out, Lib.hid (by rw [HS.out, ← HX.out, ← HA.out]; push_cast; omega)⟩
      case measure => simp [RowKit.intOf]; omega
    · have hke : k = t.size := by omega
      subst hke
      go_wp2_with fail
      go_ret2
      exact ⟨by rw [← HA.out]; rfl, t, HW.out⟩

theorem atoi_c (t : ByteArray) (h1 : 1 ≤ t.size) (h9 : t.size ≤ 9) (hd : ∀ k, k < t.size → digitI (bt t k) = true) (w : World) :
    Calls Tryz.prog 66 #[.string t] w fun e w' => e = .returned (.tuple #[.int .i64 (decR t 0 t.size), .nilIface]) ∧ ∃ u, w' = Lib.bytesWorld w 5 u := by
  go_enter Tryz.func66, Tryz.ntmps66
  go_wp2_with fail
  refine (atoi_in t h1 h9 hd _).mono ?_
  rintro e w' ⟨rfl, u, rfl⟩
  go_wp2_with fail
  go_ret2
  exact ⟨rfl, u, rfl⟩

end Go.Proofs.YtaklephcgepfjaaGreatDoor

/- The program's lexer: a token. (Written by wip/tools/gen_lex5.py.) -/
namespace Go.Proofs.YtaklephcgepfjaaGreatDoor
open Go.RowKit

/-- The memory while a token is made: the scanner at i', the token's place at_, what the token holds so far. -/
structure TokW (w W : World) (bs i' at_ p1 p2 p3 p5 : Nat) (s : ByteArray) (kind num : Int) (text : ByteArray) : Prop where
  u : Upd w (fun k => k = bs) W (fun k => k = bs)
  lo : bs < w.heap.size
  l1 : w.heap.size ≤ p1
  l2 : p1 < p2
  l3 : p2 < p3
  l5 : p3 < p5
  hb : W.heap[bs]? = some (.cells #[.string s, .int .i64 i'] 79 (0, 0))
  h1 : W.heap[p1]? = some (.cells #[.pointer (some ⟨bs, 0, none⟩)] 77 (0, 0))
  h2 : W.heap[p2]? = some (.cells #[.int .i64 0, .int .i64 0, .int .i64 0, .string ⟨#[]⟩] 81 (0, 0))
  h3 : W.heap[p3]? = some (.cells #[.int .i64 at_] 3 (0, 0))
  h5 : W.heap[p5]? = some (.cells #[.int .i64 kind, .int .i64 num, .int .i64 at_, .string text] 81 (0, 0))

section
variable {w W : World} {bs i' at_ p1 p2 p3 p5 : Nat} {s : ByteArray} {kind num : Int} {text : ByteArray}

theorem TokW.drew (h : TokW w W bs i' at_ p1 p2 p3 p5 s kind num text) : TokW w W.drew bs i' at_ p1 p2 p3 p5 s kind num text := { h with u := h.u.drew }
theorem TokW.drewN (h : TokW w W bs i' at_ p1 p2 p3 p5 s kind num text) (n : Nat) : TokW w (W.drewN n) bs i' at_ p1 p2 p3 p5 s kind num text := { h with u := h.u.drewN n }
theorem TokW.alloc (h : TokW w W bs i' at_ p1 p2 p3 p5 s kind num text) (o : Obj) : TokW w (W.alloc o) bs i' at_ p1 p2 p3 p5 s kind num text :=
  { h with u := h.u.alloc o, hb := blk_alloc h.hb, h1 := blk_alloc h.h1, h2 := blk_alloc h.h2, h3 := blk_alloc h.h3, h5 := blk_alloc h.h5 }
theorem TokW.seti (h : TokW w W bs i' at_ p1 p2 p3 p5 s kind num text) (j : Nat) : TokW w (W.setCell ⟨bs, 1, none⟩ (.int .i64 j)) bs j at_ p1 p2 p3 p5 s kind num text := by
  have a := h.lo; have b := h.l1; have c := h.l2; have d := h.l3; have e := h.l5
  exact { h with u := h.u.setCell (a := ⟨bs, 1, none⟩) (.inl rfl) _, hb := by exact blk_setCell h.hb _, h1 := by rw [blk_setCell_other _ (by show p1 ≠ bs; omega)]; exact h.h1, h2 := by rw [blk_setCell_other _ (by show p2 ≠ bs; omega)]; exact h.h2, h3 := by rw [blk_setCell_other _ (by show p3 ≠ bs; omega)]; exact h.h3, h5 := by rw [blk_setCell_other _ (by show p5 ≠ bs; omega)]; exact h.h5 }
theorem TokW.set5 (h : TokW w W bs i' at_ p1 p2 p3 p5 s kind num text) (o : Nat) (v : Value) {kind' num' : Int} {text' : ByteArray} (hv : #[Value.int .i64 kind, .int .i64 num, .int .i64 at_, .string text].setIfInBounds o v = #[.int .i64 kind', .int .i64 num', .int .i64 at_, .string text']) :
    TokW w (W.setCell ⟨p5, o, none⟩ v) bs i' at_ p1 p2 p3 p5 s kind' num' text' := by
  have a := h.lo; have b := h.l1; have c := h.l2; have d := h.l3; have e := h.l5
  exact { h with u := h.u.setCell (a := ⟨p5, o, none⟩) (.inr (by show w.heap.size ≤ p5; omega)) _, hb := by rw [blk_setCell_other _ (by show bs ≠ p5; omega)]; exact h.hb, h1 := by rw [blk_setCell_other _ (by show p1 ≠ p5; omega)]; exact h.h1, h2 := by rw [blk_setCell_other _ (by show p2 ≠ p5; omega)]; exact h.h2, h3 := by rw [blk_setCell_other _ (by show p3 ≠ p5; omega)]; exact h.h3, h5 := by rw [blk_setCell h.h5, hv] }
end

theorem Upd.bytes {w w1 : World} {X X1 : Nat → Prop} (h : Upd w X w1 X1) (e : TypeId) (t : ByteArray) : Upd w X (Lib.bytesWorld w1 e t) X1 :=
  ⟨h.os, h.tape, h.output, by have := h.size; rw [Lib.bytesWorld_size]; omega, fun k hk hx => (Lib.bytesWorld_at_old w1 e t k (by have := h.size; omega)).trans (h.block k hk hx), h.sub⟩

theorem blk_bytes {w : World} {b : Nat} {o : Obj} (h : w.heap[b]? = some o) (e : TypeId) (t : ByteArray) : (Lib.bytesWorld w e t).heap[b]? = some o := (Lib.bytesWorld_at_old w e t b (lt_blk h)).trans h

theorem TokW.bytes {w W : World} {bs i' at_ p1 p2 p3 p5 : Nat} {s : ByteArray} {kind num : Int} {text : ByteArray} (h : TokW w W bs i' at_ p1 p2 p3 p5 s kind num text) (e : TypeId) (t : ByteArray) :
    TokW w (Lib.bytesWorld W e t) bs i' at_ p1 p2 p3 p5 s kind num text :=
  { h with u := h.u.bytes e t, hb := blk_bytes h.hb e t, h1 := blk_bytes h.h1 e t, h2 := blk_bytes h.h2 e t, h3 := blk_bytes h.h3 e t, h5 := blk_bytes h.h5 e t }

/-- The result is laid into its own variable. -/
theorem TokW.fin {w W : World} {bs i' at_ p1 p2 p3 p5 : Nat} {s : ByteArray} {kind num : Int} {text : ByteArray} (h : TokW w W bs i' at_ p1 p2 p3 p5 s kind num text) (v0 v1 v2 v3 : Value) :
    SC ((((W.setCell ⟨p2, 0, none⟩ v0).setCell ⟨p2, 1, none⟩ v1).setCell ⟨p2, 2, none⟩ v2).setCell ⟨p2, 3, none⟩ v3) bs s i' ∧ Upd w (fun k => k = bs) ((((W.setCell ⟨p2, 0, none⟩ v0).setCell ⟨p2, 1, none⟩ v1).setCell ⟨p2, 2, none⟩ v2).setCell ⟨p2, 3, none⟩ v3) (fun k => k = bs) := by
  have a := h.lo; have b := h.l1; have c := h.l2
  have hp : w.heap.size ≤ p2 := by omega
  have hne : bs ≠ p2 := by omega
  refine ⟨?_, (((h.u.setCell (a := ⟨p2, 0, none⟩) (.inr hp) v0).setCell (a := ⟨p2, 1, none⟩) (.inr hp) v1).setCell (a := ⟨p2, 2, none⟩) (.inr hp) v2).setCell (a := ⟨p2, 3, none⟩) (.inr hp) v3⟩
  unfold SC
  rw [blk_setCell_other _ hne, blk_setCell_other _ hne, blk_setCell_other _ hne, blk_setCell_other _ hne]
  exact h.hb

theorem norm_gen {K : Act → World → Prop} {Q : Exit → Act → World → Prop} {a : Act} {W : World} (I : World → Prop) (hI : I W) (h : ∀ W, I W → Exit.then K Q .normal a W) : Exit.then K Q .normal a W := h W hI

theorem words_len : wordsP.length ≤ 100000 := by simp [wordsP]

def TokPost (w : World) (bs i : Nat) (s : ByteArray) : TRes → Ending → World → Prop
  | .ok t k, e, w' => e = .returned (.agg #[.int .i64 t.kind, .int .i64 t.num, .int .i64 t.pos, .string t.text]) ∧ SC w' bs s k ∧ Upd w (fun k => k = bs) w' (fun k => k = bs)
  | .bad c, e, w' => e = lexBad c i ∧ Upd w (fun k => k = bs) w' (fun k => k = bs)

end Go.Proofs.YtaklephcgepfjaaGreatDoor

/- The program's lexer: a token, one way of it. (Written by wip/tools/gen_lex5.py.) -/
namespace Go.Proofs.YtaklephcgepfjaaGreatDoor
open Go.RowKit

set_option maxRecDepth 100000 in
set_option maxHeartbeats 4000000 in
theorem token_word (bs i : Nat) (s : ByteArray) (w : World) (hb : w.heap[bs]? = some (.cells #[.string s, .int .i64 i] 79 (0, 0))) (hi : i < s.size) (hs : s.size ≤ 5000) (HLET : Hid (letterI (bt s i) = true)) :
    Calls Tryz.prog 33 #[.pointer (some ⟨bs, 0, none⟩)] w fun e w' => TokPost w bs i s (tokenR s i) e w' := by
  have hlo := lt_blk hb
  have HB := Lib.hid hb; clear hb
  go_enter Tryz.func33, Tryz.ntmps33
  go_wp2_with fail
  refine wp_gen (fun W => Upd w (fun k => k = bs) W (fun k => k = bs) ∧ W.heap[bs]? = some (.cells #[.string s, .int .i64 i] 79 (0, 0)) ∧ W.heap[w.heap.size]? = some (.cells #[.pointer (some ⟨bs, 0, none⟩)] 77 (0, 0)) ∧ W.heap[w.heap.size + 1]? = some (.cells #[.int .i64 0, .int .i64 0, .int .i64 0, .string ⟨#[]⟩] 81 (0, 0))) ⟨((Upd.refl _ _).alloc _).alloc _, blk_alloc (blk_alloc HB.out), blk_alloc (blk_new rfl), blk_new (by simp)⟩ ?_
  obtain ⟨p1, hp1⟩ : ∃ p1, p1 = w.heap.size := ⟨_, rfl⟩
  rw [← hp1]
  have HP1 := Lib.hid hp1; clear hp1
  obtain ⟨p2, hp2⟩ : ∃ p2, p2 = p1 + 1 := ⟨_, rfl⟩
  rw [← hp2]
  have HP2 := Lib.hid hp2; clear hp2
  as_aux_lemma =>
  rintro W ⟨hu, hb, h1, h2⟩
  have c0 : W.cell? ⟨bs, 0, none⟩ = some (.string s) := cell_blk hb
  have c1 : W.cell? ⟨bs, 1, none⟩ = some (.int .i64 i) := cell_blk hb
  have c2 : W.cell? ⟨p1, 0, none⟩ = some (.pointer (some ⟨bs, 0, none⟩)) := cell_blk h1
  have hi1 : (0 : Int) ≤ (i : Int) := by omega
  have hi2 : (i : Int) < (s.size : Int) := by omega
  have k0 : ∀ v, (W.alloc (.cells #[v] 3)).cell? ⟨bs, 0, none⟩ = some (.string s) := fun v => cell_blk (blk_alloc hb)
  have k1 : ∀ v, (W.alloc (.cells #[v] 3)).cell? ⟨bs, 1, none⟩ = some (.int .i64 i) := fun v => cell_blk (blk_alloc hb)
  have k2 : ∀ v, (W.alloc (.cells #[v] 3)).cell? ⟨p1, 0, none⟩ = some (.pointer (some ⟨bs, 0, none⟩)) := fun v => cell_blk (blk_alloc h1)
  have HU := Lib.hid hu; have HB := Lib.hid hb; have H1 := Lib.hid h1; have H2 := Lib.hid h2; have HLO := Lib.hid hlo
  clear hu hb h1 h2 hlo
  obtain ⟨c, hcc⟩ : ∃ c, (s[i].toNat : Int) = c := ⟨_, rfl⟩
  have HC := Lib.hid ((bt_eq hi).trans hcc)
  rw [HC.out] at HLET
  have HLC := Lib.hid (letter_c c)
  rw [HLET.out] at HLC
  go_region
  as_aux_lemma =>
  obtain ⟨W2, hW2⟩ : ∃ W2, W2 = (W.alloc (.cells #[.int .i64 i] 3)).drew := ⟨_, rfl⟩
  rw [← hW2]
  have H2' : Hid (Upd w (fun k => k = bs) W2 (fun k => k = bs) ∧ W2.heap[bs]? = some (.cells #[.string s, .int .i64 i] 79 (0, 0)) ∧ W2.heap[p1]? = some (.cells #[.pointer (some ⟨bs, 0, none⟩)] 77 (0, 0)) ∧ W2.heap[p2]? = some (.cells #[.int .i64 0, .int .i64 0, .int .i64 0, .string ⟨#[]⟩] 81 (0, 0)) ∧ W2.heap[W.heap.size]? = some (.cells #[.int .i64 i] 3 (0, 0)) ∧ p2 < W.heap.size ∧ W.heap.size < W2.heap.size) :=
    Lib.hid (by rw [hW2]; exact ⟨(HU.out.alloc _).drew, blk_alloc HB.out, blk_alloc H1.out, blk_alloc H2.out, blk_new rfl, lt_blk H2.out, by simp [World.drew]⟩)
  obtain ⟨p3, hp3⟩ : ∃ p3, p3 = W.heap.size := ⟨_, rfl⟩
  rw [← hp3] at H2' ⊢
  have d3 : W2.cell? ⟨p3, 0, none⟩ = some (.int .i64 i) := cell_blk H2'.out.2.2.2.2.1
  clear hW2 c0 c1 c2 k0 k1 k2 hi1 hi2 HU HB H1 H2 hp3
  obtain ⟨p5, hp5⟩ : ∃ p5, p5 = W2.heap.size := ⟨_, rfl⟩
  have HP5 := Lib.hid hp5; clear hp5
  go_wp2_with fail
  rw [← HP5.out]
  refine (HLC.out _).mono ?_
  as_aux_lemma =>
  rintro e W3 ⟨rfl, hW3⟩
  have T : Hid (TokW w W3 bs i i p1 p2 p3 p5 s 0 0 ⟨#[]⟩) := Lib.hid (by
    rw [← hW3]
    obtain ⟨a1, a2, a3, a4, a5, a6, a7⟩ := H2'.out
    exact ⟨a1.alloc _, HLO.out, by rw [HP1.out]; exact Nat.le_refl _, by rw [HP2.out]; exact Nat.lt_succ_self _, a6, by rw [HP5.out]; exact a7, blk_alloc a2, blk_alloc a3, blk_alloc a4, blk_alloc a5, blk_new HP5.out⟩)
  clear hW3 d3 H2' HP5 HP1 HP2 HLO HLC
  as_aux_lemma =>
  have b0 : W3.cell? ⟨bs, 0, none⟩ = some (.string s) := cell_blk T.out.hb
  have b1 : W3.cell? ⟨p1, 0, none⟩ = some (.pointer (some ⟨bs, 0, none⟩)) := cell_blk T.out.h1
  have b3 : W3.cell? ⟨p3, 0, none⟩ = some (.int .i64 i) := cell_blk T.out.h3
  have b4 : W3.cell? ⟨bs, 1, none⟩ = some (.int .i64 i) := cell_blk T.out.hb
  have f4 : W3.frozen? ⟨bs, 1, none⟩ = false := free_blk T.out.hb
  go_wp2_with fail
  refine wp_tail 6 (by kernel_rfl) (by kernel_rfl) (fun W => TokW w W bs i i p1 p2 p3 p5 s 0 0 ⟨#[]⟩) T.out.drew ?_
  clear b0 b1 b3 b4 f4 T
  as_aux_lemma =>
  rintro W4 t4
  have T := Lib.hid t4; clear t4
  have b0 : W4.cell? ⟨bs, 0, none⟩ = some (.string s) := cell_blk T.out.hb
  have b1 : W4.cell? ⟨p1, 0, none⟩ = some (.pointer (some ⟨bs, 0, none⟩)) := cell_blk T.out.h1
  have b3 : W4.cell? ⟨p3, 0, none⟩ = some (.int .i64 i) := cell_blk T.out.h3
  have b4 : W4.cell? ⟨bs, 1, none⟩ = some (.int .i64 i) := cell_blk T.out.hb
  have f4 : W4.frozen? ⟨bs, 1, none⟩ = false := free_blk T.out.hb
  obtain ⟨j, hj⟩ : ∃ j, j = whileR (fun c => letterI c || digitI c) s i := ⟨_, rfl⟩
  have HW := Lib.hid (while_part bs i i s W4 T.out.hb (by omega) hs)
  rw [← hj] at HW
  have HJ := Lib.hid hj; clear hj
  simp only [List.take_succ_cons, List.take_zero, List.drop_succ_cons, List.drop_zero]
  still_step
  still_step
  still_step
  still_call HW.out
  repeat still_step
  refine wpStill_nil ?_
  have hij : i ≤ j ∧ j ≤ s.size := by rw [HJ.out]; exact whileR_le _ s i (by omega)
  clear HW
  go_wp2_with fail
  clear b0 b1 b3 b4 f4
  refine wp_gen (fun W => TokW w W bs j i p1 p2 p3 p5 s 0 0 ⟨#[]⟩) (T.out.seti j) ?_
  clear T
  as_aux_lemma =>
  rintro W5 t5
  have T := Lib.hid t5; clear t5
  have b0 : W5.cell? ⟨bs, 0, none⟩ = some (.string s) := cell_blk T.out.hb
  have b1 : W5.cell? ⟨p1, 0, none⟩ = some (.pointer (some ⟨bs, 0, none⟩)) := cell_blk T.out.h1
  have b3 : W5.cell? ⟨p3, 0, none⟩ = some (.int .i64 i) := cell_blk T.out.h3
  have b4 : W5.cell? ⟨bs, 1, none⟩ = some (.int .i64 j) := cell_blk T.out.hb
  have f4 : W5.frozen? ⟨bs, 1, none⟩ = false := free_blk T.out.hb
  have f0 : W5.frozen? ⟨p5, 0, none⟩ = false := free_blk T.out.h5
  have f3 : W5.frozen? ⟨p5, 3, none⟩ = false := free_blk T.out.h5
  have g0 : W5.cell? ⟨p5, 0, none⟩ = some (.int .i64 0) := cell_blk T.out.h5
  have g3 : W5.cell? ⟨p5, 3, none⟩ = some (.string ⟨#[]⟩) := cell_blk T.out.h5
  have T6 : Hid (∀ v, TokW w (W5.setCell ⟨p5, 0, none⟩ (.int .i64 v)) bs j i p1 p2 p3 p5 s v 0 ⟨#[]⟩) := Lib.hid (fun v => T.out.set5 0 _ rfl)
  have k0 : ∀ v, (W5.setCell ⟨p5, 0, none⟩ (.int .i64 v)).cell? ⟨bs, 0, none⟩ = some (.string s) := fun v => cell_blk (T6.out v).hb
  have k1 : ∀ v, (W5.setCell ⟨p5, 0, none⟩ (.int .i64 v)).cell? ⟨p1, 0, none⟩ = some (.pointer (some ⟨bs, 0, none⟩)) := fun v => cell_blk (T6.out v).h1
  have k3 : ∀ v, (W5.setCell ⟨p5, 0, none⟩ (.int .i64 v)).cell? ⟨p3, 0, none⟩ = some (.int .i64 i) := fun v => cell_blk (T6.out v).h3
  have k4 : ∀ v, (W5.setCell ⟨p5, 0, none⟩ (.int .i64 v)).cell? ⟨bs, 1, none⟩ = some (.int .i64 j) := fun v => cell_blk (T6.out v).hb
  have m3 : ∀ v, (W5.setCell ⟨p5, 0, none⟩ (.int .i64 v)).cell? ⟨p5, 3, none⟩ = some (.string ⟨#[]⟩) := fun v => cell_blk (T6.out v).h5
  have n3 : ∀ v, (W5.setCell ⟨p5, 0, none⟩ (.int .i64 v)).frozen? ⟨p5, 3, none⟩ = false := fun v => free_blk (T6.out v).h5
  obtain ⟨hij1, hij2⟩ := hij
  have q1 : (0 : Int) ≤ (i : Int) := by omega
  have q2 : (i : Int) ≤ (j : Int) := by omega
  have q3 : (j : Int) ≤ (s.size : Int) := by omega
  go_region
  as_aux_lemma =>
  refine norm_gen (fun W => TokW w W bs j i p1 p2 p3 p5 s 1 0 (s.extract i j)) ((T6.out 1).set5 3 _ rfl).drew ?_
  clear b0 b1 b3 b4 f4 f0 f3 g0 g3 T6 k0 k1 k3 k4 m3 n3 T
  as_aux_lemma =>
  rintro W7 t7
  have T := Lib.hid t7; clear t7
  obtain ⟨d, hd⟩ : ∃ d, d = j - i := ⟨_, rfl⟩
  have hd5 : d ≤ 5000 := by omega
  have HX : Hid ((s.extract i j).size = d) := Lib.hid (by rw [ByteArray.size_extract]; omega)
  obtain ⟨m, hm⟩ : ∃ m, memB (s.extract i j) wordsP = m := ⟨_, rfl⟩
  have HTK : Hid (tokenR s i = if m = true then .ok ⟨2, 0, i, s.extract i j⟩ j else if 12 < d then .bad 5 else .ok ⟨1, 0, i, s.extract i j⟩ j) := Lib.hid (by
    unfold tokenR
    rw [HC.out, HLET.out, if_pos rfl, ← HJ.out]
    dsimp only
    rw [hm, ← hd])
  have HIJ := Lib.hid hij1; have HJS := Lib.hid hij2; have HI := Lib.hid hi; have HSS := Lib.hid hs
  clear hcc hd hij1 hij2 hi hs q1 q2 q3
  have b5 : W7.cell? ⟨p5, 3, none⟩ = some (.string (s.extract i j)) := cell_blk T.out.h5
  have HWC := Lib.hid words_c
  have HLEN := Lib.hid words_len
  obtain ⟨L, hL⟩ : ∃ L, L = wordsP := ⟨_, rfl⟩
  rw [← hL] at HWC HLEN hm
  have HL := Lib.hid hL; clear hL
  have HCC := Lib.hid (fun (b : Nat) (W : World) (h : W.heap[b]? = some (.cells (L.map Value.string).toArray 9 (0, 0))) => contains_c b 0 L.length L (s.extract i j) W HLEN.out (fun j hj => by rw [Nat.zero_add]; exact texts_cell h j hj))
  rw [hm] at HCC
  have HM := Lib.hid hm; clear hm
  as_aux_lemma =>
  go_wp2_with fail
  go_region_with (first
    | (go_at_call 64
       refine (HWC.out _).mono ?_
       rintro e W8 ⟨rfl, hW8⟩
       have HB8 : Hid (W8.heap[W7.heap.size]? = some (.cells (L.map Value.string).toArray 9 (0, 0)) ∧ TokW w W8 bs j i p1 p2 p3 p5 s 1 0 (s.extract i j)) := Lib.hid (by rw [hW8]; exact ⟨heap_alloc_new _ _, T.out.drew.alloc _⟩)
       have b6 : W8.cell? ⟨p5, 3, none⟩ = some (.string (s.extract i j)) := cell_blk HB8.out.2.h5
       clear hW8)
    | (go_at_call 63
       refine (HCC.out _ _ HB8.out.1).mono ?_
       rintro e W9 ⟨rfl, hW9⟩
       subst hW9))
  all_goals
    refine norm_gen (fun W => TokW w W bs j i p1 p2 p3 p5 s 1 0 (s.extract i j)) HB8.out.2 ?_
    clear HB8 b6 b5 T HCC HWC HLEN HM HL
    as_aux_lemma =>
    rintro WA tA
    have T := Lib.hid tA; clear tA
    cases m with
    | true =>
      have HB : Hid (tokenR s i = .ok ⟨2, 0, i, s.extract i j⟩ j) := Lib.hid (by rw [HTK.out, if_pos rfl])
      have b5 : WA.cell? ⟨p5, 0, none⟩ = some (.int .i64 1) := cell_blk T.out.h5
      have f5 : WA.frozen? ⟨p5, 0, none⟩ = false := free_blk T.out.h5
      go_upto_region 22 with (fail)
      refine wp_gen (fun W => TokW w W bs j i p1 p2 p3 p5 s 2 0 (s.extract i j)) (T.out.set5 0 (.int .i64 2) (kind':=2) (num':=0) (text':=s.extract i j) rfl) ?_
      clear b5 f5 T
      as_aux_lemma =>
      rintro W9 t9
      have T9 := Lib.hid t9; clear t9
      have a50 : W9.cell? ⟨p5, 0, none⟩ = some (.int .i64 2) := cell_blk T9.out.h5
      have a51 : W9.cell? ⟨p5, 1, none⟩ = some (.int .i64 0) := cell_blk T9.out.h5
      have a52 : W9.cell? ⟨p5, 2, none⟩ = some (.int .i64 i) := cell_blk T9.out.h5
      have a53 : W9.cell? ⟨p5, 3, none⟩ = some (.string (s.extract i j)) := cell_blk T9.out.h5
      have a20 : W9.cell? ⟨p2, 0, none⟩ = some (.int .i64 0) := cell_blk T9.out.h2
      have a21 : W9.cell? ⟨p2, 1, none⟩ = some (.int .i64 0) := cell_blk T9.out.h2
      have a22 : W9.cell? ⟨p2, 2, none⟩ = some (.int .i64 0) := cell_blk T9.out.h2
      have a23 : W9.cell? ⟨p2, 3, none⟩ = some (.string ⟨#[]⟩) := cell_blk T9.out.h2
      have zz : ∀ o, W9.frozen? ⟨p2, o, none⟩ = false := fun o => free_blk T9.out.h2
      go_wp2_with fail
      refine bodyPost_ret (v := .agg #[.int .i64 2, .int .i64 0, .int .i64 i, .string (s.extract i j)]) (by simp [results, Tryz.results33, go_sem, a20, a21, a22, a23]) rfl ?_
      rw [HB.out]
      exact ⟨rfl, T9.out.fin _ _ _ _⟩

    | false =>
      have b5 : WA.cell? ⟨p5, 3, none⟩ = some (.string (s.extract i j)) := cell_blk T.out.h5
      have hxs : (s.extract i j).size = d := HX.out
      have b1 : WA.cell? ⟨p1, 0, none⟩ = some (.pointer (some ⟨bs, 0, none⟩)) := cell_blk T.out.h1
      have b3 : WA.cell? ⟨p3, 0, none⟩ = some (.int .i64 i) := cell_blk T.out.h3
      by_cases h12 : 12 < d
      · have d1 : decide ((12 : Int) < ((d : Nat) : Int)) = true := by simp; omega
        have d2 : decide (12 < d) = true := by simp; omega
        have HB : Hid (tokenR s i = .bad 5) := Lib.hid (by rw [HTK.out, if_neg (by decide), if_pos h12])
        go_wp2_with fail
        refine (lfail_c _ 5 i _).mono ?_
        rintro e w' ⟨he, rfl⟩
        subst he
        go_wp2
        refine ⟨rfl, ?_⟩
        rw [HB.out]
        exact ⟨rfl, T.out.u⟩
      · have d1 : decide ((12 : Int) < ((d : Nat) : Int)) = false := by simp; omega
        have d2 : decide (12 < d) = false := by simp; omega
        have HB : Hid (tokenR s i = .ok ⟨1, 0, i, s.extract i j⟩ j) := Lib.hid (by rw [HTK.out, if_neg (by decide), if_neg h12])
        go_upto_region 22 with (fail)
        refine wp_gen (fun W => TokW w W bs j i p1 p2 p3 p5 s 1 0 (s.extract i j)) T.out ?_
        clear b5 b1 b3 hxs T
        as_aux_lemma =>
        rintro W9 t9
        have T9 := Lib.hid t9; clear t9
        have a50 : W9.cell? ⟨p5, 0, none⟩ = some (.int .i64 1) := cell_blk T9.out.h5
        have a51 : W9.cell? ⟨p5, 1, none⟩ = some (.int .i64 0) := cell_blk T9.out.h5
        have a52 : W9.cell? ⟨p5, 2, none⟩ = some (.int .i64 i) := cell_blk T9.out.h5
        have a53 : W9.cell? ⟨p5, 3, none⟩ = some (.string (s.extract i j)) := cell_blk T9.out.h5
        have a20 : W9.cell? ⟨p2, 0, none⟩ = some (.int .i64 0) := cell_blk T9.out.h2
        have a21 : W9.cell? ⟨p2, 1, none⟩ = some (.int .i64 0) := cell_blk T9.out.h2
        have a22 : W9.cell? ⟨p2, 2, none⟩ = some (.int .i64 0) := cell_blk T9.out.h2
        have a23 : W9.cell? ⟨p2, 3, none⟩ = some (.string ⟨#[]⟩) := cell_blk T9.out.h2
        have zz : ∀ o, W9.frozen? ⟨p2, o, none⟩ = false := fun o => free_blk T9.out.h2
        go_wp2_with fail
        refine bodyPost_ret (v := .agg #[.int .i64 1, .int .i64 0, .int .i64 i, .string (s.extract i j)]) (by simp [results, Tryz.results33, go_sem, a20, a21, a22, a23]) rfl ?_
        rw [HB.out]
        exact ⟨rfl, T9.out.fin _ _ _ _⟩


end Go.Proofs.YtaklephcgepfjaaGreatDoor

/- The program's lexer: a token, one way of it. (Written by wip/tools/gen_lex5.py.) -/
namespace Go.Proofs.YtaklephcgepfjaaGreatDoor
open Go.RowKit

set_option maxRecDepth 100000 in
set_option maxHeartbeats 4000000 in
theorem token_num (bs i : Nat) (s : ByteArray) (w : World) (hb : w.heap[bs]? = some (.cells #[.string s, .int .i64 i] 79 (0, 0))) (hi : i < s.size) (hs : s.size ≤ 5000) (HLET : Hid (letterI (bt s i) = false)) (HDIG : Hid (digitI (bt s i) = true)) :
    Calls Tryz.prog 33 #[.pointer (some ⟨bs, 0, none⟩)] w fun e w' => TokPost w bs i s (tokenR s i) e w' := by
  have hlo := lt_blk hb
  have HB := Lib.hid hb; clear hb
  go_enter Tryz.func33, Tryz.ntmps33
  go_wp2_with fail
  refine wp_gen (fun W => Upd w (fun k => k = bs) W (fun k => k = bs) ∧ W.heap[bs]? = some (.cells #[.string s, .int .i64 i] 79 (0, 0)) ∧ W.heap[w.heap.size]? = some (.cells #[.pointer (some ⟨bs, 0, none⟩)] 77 (0, 0)) ∧ W.heap[w.heap.size + 1]? = some (.cells #[.int .i64 0, .int .i64 0, .int .i64 0, .string ⟨#[]⟩] 81 (0, 0))) ⟨((Upd.refl _ _).alloc _).alloc _, blk_alloc (blk_alloc HB.out), blk_alloc (blk_new rfl), blk_new (by simp)⟩ ?_
  obtain ⟨p1, hp1⟩ : ∃ p1, p1 = w.heap.size := ⟨_, rfl⟩
  rw [← hp1]
  have HP1 := Lib.hid hp1; clear hp1
  obtain ⟨p2, hp2⟩ : ∃ p2, p2 = p1 + 1 := ⟨_, rfl⟩
  rw [← hp2]
  have HP2 := Lib.hid hp2; clear hp2
  as_aux_lemma =>
  rintro W ⟨hu, hb, h1, h2⟩
  have c0 : W.cell? ⟨bs, 0, none⟩ = some (.string s) := cell_blk hb
  have c1 : W.cell? ⟨bs, 1, none⟩ = some (.int .i64 i) := cell_blk hb
  have c2 : W.cell? ⟨p1, 0, none⟩ = some (.pointer (some ⟨bs, 0, none⟩)) := cell_blk h1
  have hi1 : (0 : Int) ≤ (i : Int) := by omega
  have hi2 : (i : Int) < (s.size : Int) := by omega
  have k0 : ∀ v, (W.alloc (.cells #[v] 3)).cell? ⟨bs, 0, none⟩ = some (.string s) := fun v => cell_blk (blk_alloc hb)
  have k1 : ∀ v, (W.alloc (.cells #[v] 3)).cell? ⟨bs, 1, none⟩ = some (.int .i64 i) := fun v => cell_blk (blk_alloc hb)
  have k2 : ∀ v, (W.alloc (.cells #[v] 3)).cell? ⟨p1, 0, none⟩ = some (.pointer (some ⟨bs, 0, none⟩)) := fun v => cell_blk (blk_alloc h1)
  have HU := Lib.hid hu; have HB := Lib.hid hb; have H1 := Lib.hid h1; have H2 := Lib.hid h2; have HLO := Lib.hid hlo
  clear hu hb h1 h2 hlo
  obtain ⟨c, hcc⟩ : ∃ c, (s[i].toNat : Int) = c := ⟨_, rfl⟩
  have HC := Lib.hid ((bt_eq hi).trans hcc)
  rw [HC.out] at HLET
  have HLC := Lib.hid (letter_c c)
  rw [HLET.out] at HLC
  go_region
  as_aux_lemma =>
  obtain ⟨W2, hW2⟩ : ∃ W2, W2 = (W.alloc (.cells #[.int .i64 i] 3)).drew := ⟨_, rfl⟩
  rw [← hW2]
  have H2' : Hid (Upd w (fun k => k = bs) W2 (fun k => k = bs) ∧ W2.heap[bs]? = some (.cells #[.string s, .int .i64 i] 79 (0, 0)) ∧ W2.heap[p1]? = some (.cells #[.pointer (some ⟨bs, 0, none⟩)] 77 (0, 0)) ∧ W2.heap[p2]? = some (.cells #[.int .i64 0, .int .i64 0, .int .i64 0, .string ⟨#[]⟩] 81 (0, 0)) ∧ W2.heap[W.heap.size]? = some (.cells #[.int .i64 i] 3 (0, 0)) ∧ p2 < W.heap.size ∧ W.heap.size < W2.heap.size) :=
    Lib.hid (by rw [hW2]; exact ⟨(HU.out.alloc _).drew, blk_alloc HB.out, blk_alloc H1.out, blk_alloc H2.out, blk_new rfl, lt_blk H2.out, by simp [World.drew]⟩)
  obtain ⟨p3, hp3⟩ : ∃ p3, p3 = W.heap.size := ⟨_, rfl⟩
  rw [← hp3] at H2' ⊢
  have d3 : W2.cell? ⟨p3, 0, none⟩ = some (.int .i64 i) := cell_blk H2'.out.2.2.2.2.1
  clear hW2 c0 c1 c2 k0 k1 k2 hi1 hi2 HU HB H1 H2 hp3
  obtain ⟨p5, hp5⟩ : ∃ p5, p5 = W2.heap.size := ⟨_, rfl⟩
  have HP5 := Lib.hid hp5; clear hp5
  go_wp2_with fail
  rw [← HP5.out]
  refine (HLC.out _).mono ?_
  as_aux_lemma =>
  rintro e W3 ⟨rfl, hW3⟩
  have T : Hid (TokW w W3 bs i i p1 p2 p3 p5 s 0 0 ⟨#[]⟩) := Lib.hid (by
    rw [← hW3]
    obtain ⟨a1, a2, a3, a4, a5, a6, a7⟩ := H2'.out
    exact ⟨a1.alloc _, HLO.out, by rw [HP1.out]; exact Nat.le_refl _, by rw [HP2.out]; exact Nat.lt_succ_self _, a6, by rw [HP5.out]; exact a7, blk_alloc a2, blk_alloc a3, blk_alloc a4, blk_alloc a5, blk_new HP5.out⟩)
  clear hW3 d3 H2' HP5 HP1 HP2 HLO HLC
  as_aux_lemma =>
  have HDC := Lib.hid (digit_c c)
  have HDIG2 := Lib.hid HDIG.out
  rw [HC.out] at HDIG2
  rw [HDIG2.out] at HDC
  have b0 : W3.cell? ⟨bs, 0, none⟩ = some (.string s) := cell_blk T.out.hb
  have b1 : W3.cell? ⟨p1, 0, none⟩ = some (.pointer (some ⟨bs, 0, none⟩)) := cell_blk T.out.h1
  have b3 : W3.cell? ⟨p3, 0, none⟩ = some (.int .i64 i) := cell_blk T.out.h3
  have b4 : W3.cell? ⟨bs, 1, none⟩ = some (.int .i64 i) := cell_blk T.out.hb
  have f4 : W3.frozen? ⟨bs, 1, none⟩ = false := free_blk T.out.hb
  go_wp2_with fail
  refine (HDC.out _).mono ?_
  rintro e w' ⟨rfl, rfl⟩
  go_wp2_with fail
  refine wp_tail 6 (by kernel_rfl) (by kernel_rfl) (fun W => TokW w W bs i i p1 p2 p3 p5 s 0 0 ⟨#[]⟩) T.out.drew ?_
  clear b0 b1 b3 b4 f4 T
  as_aux_lemma =>
  rintro W4 t4
  have T := Lib.hid t4; clear t4
  have b0 : W4.cell? ⟨bs, 0, none⟩ = some (.string s) := cell_blk T.out.hb
  have b1 : W4.cell? ⟨p1, 0, none⟩ = some (.pointer (some ⟨bs, 0, none⟩)) := cell_blk T.out.h1
  have b3 : W4.cell? ⟨p3, 0, none⟩ = some (.int .i64 i) := cell_blk T.out.h3
  have b4 : W4.cell? ⟨bs, 1, none⟩ = some (.int .i64 i) := cell_blk T.out.hb
  have f4 : W4.frozen? ⟨bs, 1, none⟩ = false := free_blk T.out.hb
  obtain ⟨j, hj⟩ : ∃ j, j = whileR digitI s i := ⟨_, rfl⟩
  have HW := Lib.hid (while_digit bs i i s W4 T.out.hb (by omega) hs)
  rw [← hj] at HW
  have HJ := Lib.hid hj; clear hj
  simp only [List.take_succ_cons, List.take_zero, List.drop_succ_cons, List.drop_zero]
  still_step
  still_step
  still_step
  still_call HW.out
  repeat still_step
  refine wpStill_nil ?_
  have hij : i ≤ j ∧ j ≤ s.size := by rw [HJ.out]; exact whileR_le _ s i (by omega)
  clear HW
  go_wp2_with fail
  clear b0 b1 b3 b4 f4
  refine wp_gen (fun W => TokW w W bs j i p1 p2 p3 p5 s 0 0 ⟨#[]⟩) (T.out.seti j) ?_
  clear T
  as_aux_lemma =>
  rintro W5 t5
  have T := Lib.hid t5; clear t5
  have b0 : W5.cell? ⟨bs, 0, none⟩ = some (.string s) := cell_blk T.out.hb
  have b1 : W5.cell? ⟨p1, 0, none⟩ = some (.pointer (some ⟨bs, 0, none⟩)) := cell_blk T.out.h1
  have b3 : W5.cell? ⟨p3, 0, none⟩ = some (.int .i64 i) := cell_blk T.out.h3
  have b4 : W5.cell? ⟨bs, 1, none⟩ = some (.int .i64 j) := cell_blk T.out.hb
  have f4 : W5.frozen? ⟨bs, 1, none⟩ = false := free_blk T.out.hb
  have f0 : W5.frozen? ⟨p5, 0, none⟩ = false := free_blk T.out.h5
  have f3 : W5.frozen? ⟨p5, 3, none⟩ = false := free_blk T.out.h5
  have g0 : W5.cell? ⟨p5, 0, none⟩ = some (.int .i64 0) := cell_blk T.out.h5
  have g3 : W5.cell? ⟨p5, 3, none⟩ = some (.string ⟨#[]⟩) := cell_blk T.out.h5
  have T6 : Hid (∀ v, TokW w (W5.setCell ⟨p5, 0, none⟩ (.int .i64 v)) bs j i p1 p2 p3 p5 s v 0 ⟨#[]⟩) := Lib.hid (fun v => T.out.set5 0 _ rfl)
  have k0 : ∀ v, (W5.setCell ⟨p5, 0, none⟩ (.int .i64 v)).cell? ⟨bs, 0, none⟩ = some (.string s) := fun v => cell_blk (T6.out v).hb
  have k1 : ∀ v, (W5.setCell ⟨p5, 0, none⟩ (.int .i64 v)).cell? ⟨p1, 0, none⟩ = some (.pointer (some ⟨bs, 0, none⟩)) := fun v => cell_blk (T6.out v).h1
  have k3 : ∀ v, (W5.setCell ⟨p5, 0, none⟩ (.int .i64 v)).cell? ⟨p3, 0, none⟩ = some (.int .i64 i) := fun v => cell_blk (T6.out v).h3
  have k4 : ∀ v, (W5.setCell ⟨p5, 0, none⟩ (.int .i64 v)).cell? ⟨bs, 1, none⟩ = some (.int .i64 j) := fun v => cell_blk (T6.out v).hb
  have m3 : ∀ v, (W5.setCell ⟨p5, 0, none⟩ (.int .i64 v)).cell? ⟨p5, 3, none⟩ = some (.string ⟨#[]⟩) := fun v => cell_blk (T6.out v).h5
  have n3 : ∀ v, (W5.setCell ⟨p5, 0, none⟩ (.int .i64 v)).frozen? ⟨p5, 3, none⟩ = false := fun v => free_blk (T6.out v).h5
  obtain ⟨hij1, hij2⟩ := hij
  have q1 : (0 : Int) ≤ (i : Int) := by omega
  have q2 : (i : Int) ≤ (j : Int) := by omega
  have q3 : (j : Int) ≤ (s.size : Int) := by omega
  go_region
  as_aux_lemma =>
  refine norm_gen (fun W => TokW w W bs j i p1 p2 p3 p5 s 3 0 (s.extract i j)) ((T6.out 3).set5 3 _ rfl).drew ?_
  clear b0 b1 b3 b4 f4 f0 f3 g0 g3 T6 k0 k1 k3 k4 m3 n3 T q1 q2 q3
  as_aux_lemma =>
  rintro W7 t7
  have T := Lib.hid t7; clear t7
  obtain ⟨d, hd⟩ : ∃ d, d = j - i := ⟨_, rfl⟩
  have hd5 : d ≤ 5000 := by omega
  have HX : Hid ((s.extract i j).size = d ∧ (∀ k, k < (s.extract i j).size → digitI (bt (s.extract i j) k) = true) ∧ decR (s.extract i j) 0 (s.extract i j).size = decR s i j) := Lib.hid (by
    have hz : (s.extract i j).size = d := by rw [ByteArray.size_extract]; omega
    refine ⟨hz, fun k hk => ?_, decR_extract s i j hij1 hij2⟩
    rw [hz] at hk
    rw [bt_extract s i j k hij2 (by omega)]
    exact whileR_all digitI s i (i + k) (by omega) (by rw [← HJ.out]; omega))
  have hd1 : 1 ≤ d := by have : i < j := by rw [HJ.out]; exact whileR_lt digitI s i hi HDIG.out
                         omega
  have HTK : Hid (tokenR s i = if 9 < d ∨ 1 < d ∧ c = 48 then .bad 5 else .ok ⟨3, decR s i j, i, s.extract i j⟩ j) := Lib.hid (by
    unfold tokenR
    rw [HC.out, HLET.out, HDIG2.out, if_neg (by decide), if_pos rfl, ← HJ.out, hd])
  have HIJ := Lib.hid hij1; have HJS := Lib.hid hij2; have HI := Lib.hid hi; have HSS := Lib.hid hs
  clear hcc hd hij1 hij2 hi hs
  have b5 : W7.cell? ⟨p5, 3, none⟩ = some (.string (s.extract i j)) := cell_blk T.out.h5
  have hxs : (s.extract i j).size = d := HX.out.1
  have b1 : W7.cell? ⟨p1, 0, none⟩ = some (.pointer (some ⟨bs, 0, none⟩)) := cell_blk T.out.h1
  have b3 : W7.cell? ⟨p3, 0, none⟩ = some (.int .i64 i) := cell_blk T.out.h3
  by_cases h9 : 9 < d
  · have HB : Hid (tokenR s i = .bad 5) := Lib.hid (by rw [HTK.out, if_pos (.inl (h9))])
    have d1 : decide ((9 : Int) < ((d : Nat) : Int)) = true := by simp; omega
    have d2 : decide (9 < d) = true := by simp; omega
    clear HX HTK
    go_wp2_with fail
    refine (lfail_c _ 5 i _).mono ?_
    rintro e w' ⟨he, rfl⟩
    subst he
    go_wp2
    refine ⟨rfl, ?_⟩
    rw [HB.out]
    exact ⟨rfl, T.out.u⟩
  · have d1 : decide ((9 : Int) < ((d : Nat) : Int)) = false := by simp; omega
    have d2 : decide (9 < d) = false := by simp; omega
    by_cases hbad : 1 < d ∧ c = 48
    · obtain ⟨hb1, hb2⟩ := hbad
      have HB : Hid (tokenR s i = .bad 5) := Lib.hid (by rw [HTK.out, if_pos (.inr ⟨hb1, hb2⟩)])
      have d3 : decide ((1 : Int) < ((d : Nat) : Int)) = true := by simp; omega
      have d4 : decide (1 < d) = true := by simp; omega
      have d5 : (c == 48) = true := by simp [hb2]
      clear HX HTK hb2
      as_aux_lemma =>
      go_wp2_with fail
      refine (lfail_c _ 5 i _).mono ?_
      rintro e w' ⟨he, rfl⟩
      subst he
      go_wp2
      refine ⟨rfl, ?_⟩
      rw [HB.out]
      exact ⟨rfl, T.out.u⟩
    · have HB : Hid (tokenR s i = .ok ⟨3, decR s i j, i, s.extract i j⟩ j) := Lib.hid (by rw [HTK.out, if_neg (by omega)])
      have HQ : Hid (Calls Tryz.prog 66 #[.string (s.extract i j)] W7 fun e w' => e = .returned (.tuple #[.int .i64 (decR s i j), .nilIface]) ∧ ∃ u, w' = Lib.bytesWorld W7 5 u) := Lib.hid (by
        have := atoi_c (s.extract i j) (by rw [HX.out.1]; exact hd1) (by rw [HX.out.1]; omega) HX.out.2.1 W7
        rw [HX.out.2.2] at this
        exact this)
      have HW8 : Hid (∀ u : ByteArray, TokW w (Lib.bytesWorld W7 5 u) bs j i p1 p2 p3 p5 s 3 0 (s.extract i j)) := Lib.hid (fun u => T.out.bytes _ _)
      clear HX HTK
      by_cases h1 : 1 < d
      · have d3 : decide ((1 : Int) < ((d : Nat) : Int)) = true := by simp; omega
        have d4 : decide (1 < d) = true := by simp; omega
        have d5 : (c == 48) = false := by simp; omega
        as_aux_lemma =>
        go_wp2_with fail
        refine HQ.out.mono ?_
        rintro e W8 ⟨he, u, hW8⟩
        subst he
        have T8 : Hid (TokW w W8 bs j i p1 p2 p3 p5 s 3 0 (s.extract i j)) := Lib.hid (by rw [hW8]; exact HW8.out u)
        clear hW8 b1 b3 b5 hxs T
        have z51 : W8.frozen? ⟨p5, 1, none⟩ = false := free_blk T8.out.h5
        have a51 : W8.cell? ⟨p5, 1, none⟩ = some (.int .i64 0) := cell_blk T8.out.h5
        go_upto_region 22 with (fail)
        refine wp_gen (fun W => TokW w W bs j i p1 p2 p3 p5 s 3 (decR s i j) (s.extract i j)) (T8.out.set5 1 (.int .i64 (decR s i j)) (kind':=3) (num':=decR s i j) (text':=s.extract i j) rfl) ?_
        clear T8
        as_aux_lemma =>
        rintro W9 t9
        have T9 := Lib.hid t9; clear t9
        have a50 : W9.cell? ⟨p5, 0, none⟩ = some (.int .i64 3) := cell_blk T9.out.h5
        have a51 : W9.cell? ⟨p5, 1, none⟩ = some (.int .i64 (decR s i j)) := cell_blk T9.out.h5
        have a52 : W9.cell? ⟨p5, 2, none⟩ = some (.int .i64 i) := cell_blk T9.out.h5
        have a53 : W9.cell? ⟨p5, 3, none⟩ = some (.string (s.extract i j)) := cell_blk T9.out.h5
        have a20 : W9.cell? ⟨p2, 0, none⟩ = some (.int .i64 0) := cell_blk T9.out.h2
        have a21 : W9.cell? ⟨p2, 1, none⟩ = some (.int .i64 0) := cell_blk T9.out.h2
        have a22 : W9.cell? ⟨p2, 2, none⟩ = some (.int .i64 0) := cell_blk T9.out.h2
        have a23 : W9.cell? ⟨p2, 3, none⟩ = some (.string ⟨#[]⟩) := cell_blk T9.out.h2
        have zz : ∀ o, W9.frozen? ⟨p2, o, none⟩ = false := fun o => free_blk T9.out.h2
        go_wp2_with fail
        refine bodyPost_ret (v := .agg #[.int .i64 3, .int .i64 (decR s i j), .int .i64 i, .string (s.extract i j)]) (by simp [results, Tryz.results33, go_sem, a20, a21, a22, a23]) rfl ?_
        rw [HB.out]
        exact ⟨rfl, T9.out.fin _ _ _ _⟩

      · have d3 : decide ((1 : Int) < ((d : Nat) : Int)) = false := by simp; omega
        have d4 : decide (1 < d) = false := by simp; omega
        as_aux_lemma =>
        go_wp2_with fail
        refine HQ.out.mono ?_
        rintro e W8 ⟨he, u, hW8⟩
        subst he
        have T8 : Hid (TokW w W8 bs j i p1 p2 p3 p5 s 3 0 (s.extract i j)) := Lib.hid (by rw [hW8]; exact HW8.out u)
        clear hW8 b1 b3 b5 hxs T
        have z51 : W8.frozen? ⟨p5, 1, none⟩ = false := free_blk T8.out.h5
        have a51 : W8.cell? ⟨p5, 1, none⟩ = some (.int .i64 0) := cell_blk T8.out.h5
        go_upto_region 22 with (fail)
        refine wp_gen (fun W => TokW w W bs j i p1 p2 p3 p5 s 3 (decR s i j) (s.extract i j)) (T8.out.set5 1 (.int .i64 (decR s i j)) (kind':=3) (num':=decR s i j) (text':=s.extract i j) rfl) ?_
        clear T8
        as_aux_lemma =>
        rintro W9 t9
        have T9 := Lib.hid t9; clear t9
        have a50 : W9.cell? ⟨p5, 0, none⟩ = some (.int .i64 3) := cell_blk T9.out.h5
        have a51 : W9.cell? ⟨p5, 1, none⟩ = some (.int .i64 (decR s i j)) := cell_blk T9.out.h5
        have a52 : W9.cell? ⟨p5, 2, none⟩ = some (.int .i64 i) := cell_blk T9.out.h5
        have a53 : W9.cell? ⟨p5, 3, none⟩ = some (.string (s.extract i j)) := cell_blk T9.out.h5
        have a20 : W9.cell? ⟨p2, 0, none⟩ = some (.int .i64 0) := cell_blk T9.out.h2
        have a21 : W9.cell? ⟨p2, 1, none⟩ = some (.int .i64 0) := cell_blk T9.out.h2
        have a22 : W9.cell? ⟨p2, 2, none⟩ = some (.int .i64 0) := cell_blk T9.out.h2
        have a23 : W9.cell? ⟨p2, 3, none⟩ = some (.string ⟨#[]⟩) := cell_blk T9.out.h2
        have zz : ∀ o, W9.frozen? ⟨p2, o, none⟩ = false := fun o => free_blk T9.out.h2
        go_wp2_with fail
        refine bodyPost_ret (v := .agg #[.int .i64 3, .int .i64 (decR s i j), .int .i64 i, .string (s.extract i j)]) (by simp [results, Tryz.results33, go_sem, a20, a21, a22, a23]) rfl ?_
        rw [HB.out]
        exact ⟨rfl, T9.out.fin _ _ _ _⟩


end Go.Proofs.YtaklephcgepfjaaGreatDoor
