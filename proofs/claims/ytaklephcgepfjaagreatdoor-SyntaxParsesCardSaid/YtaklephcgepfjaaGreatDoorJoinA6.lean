/- The program's parser: the order 'cas'. (Lines of the walks: wip/tools/steps.py.) -/
import Derived.Test.YtaklephcgepfjaaGreatDoorJoinA2
import Derived.Test.YtaklephcgepfjaaGreatDoorJoinA4
import Derived.Test.YtaklephcgepfjaaGreatDoorJoinA5
import Derived.Deep.CutBlock
import Derived.Deep.CutRange
set_option linter.unusedVariables false
set_option linter.unusedSimpArgs false
set_option linter.all false

namespace Go.Proofs.YtaklephcgepfjaaGreatDoor
open Go.RowKit

theorem Res.bind_assoc {α β γ : Type} (r : Res α) (f : α → PS → Res β) (g : β → PS → Res γ) : (r.bind f).bind g = r.bind fun a s => (f a s).bind g := by cases r <;> rfl

/-- The order 'cas' from its word on: its three kids. -/
def casP (T : List Tk) (en : Int) (n : Nat) (s : PS) : Res (List Int) :=
  (openP T en (⟨#[40]⟩ : ByteArray) (stepP s)).bind fun _ s => (nameP T en s).bind fun u s => (putP 16 u.pos 0 u.text [] s).bind fun a s =>
    (takeP T en (⟨#[44]⟩ : ByteArray) s).bind fun _ s => (runP T en n (.expr 0) s).bind fun x s =>
      (takeP T en (⟨#[44]⟩ : ByteArray) s).bind fun _ s => (runP T en n (.expr 0) s).bind fun y s => (shutP T en (⟨#[41]⟩ : ByteArray) s).bind fun _ s => .ok [a, x, y] s

/-- What a call ends in that hands back a list of kids. -/
def DoneL (w : World) (X : Nat → Prop) (bp : Nat) (la : Option Addr) (c : Nat) (T : List Tk) (en : Int) (r : Res (List Int)) (e : Ending) (w' : World) : Prop :=
  match r with
  | .ok l s => ∃ (va : Option Addr) (vc : Nat), e = .returned (.slice va l.length vc) ∧ KidsAt w' (.slice va l.length vc) l ∧ ∃ X' nv', (∀ g, (Value.slice va l.length vc).ownBlock = some g → ¬ X' g ∧ w.heap.size ≤ g) ∧ PR w' X' bp la c T en s nv' ∧ Upd w X w' X'
  | .bad code pos => e = .panicked [{ v := .iface 46 (.agg #[.int .i64 code, .int .i64 0, .int .i64 pos]), recovered := false }] ∧ Upd w X w' X
  | .out => False

section
variable {w : World} {X : Nat → Prop} {bp : Nat} {la : Option Addr} {c : Nat} {T : List Tk} {en : Int} {s : PS} {nv : Value}

/-- What an append onto a row of the call's own leaves of the parser, and of the row. -/
theorem app_left {w0 w1 w2 : World} {X1 : Nat → Prop} {v v' : Value} {o : Obj} (h : PR w1 X1 bp la c T en s nv) (u : Upd w0 X w1 X1) (hb : bp < w0.heap.size)
    (hv : ∀ g, v.ownBlock = some g → ¬ X1 g ∧ w0.heap.size ≤ g) (hgrow : (w1.alloc o).grownBy w2 v.ownBlock) (hv' : ∀ k, v'.ownBlock = some k → v.ownBlock = some k ∨ w1.heap.size + 1 ≤ k) :
    PR w2 X1 bp la c T en s nv ∧ Upd w0 X w2 X1 ∧ ∀ g, v'.ownBlock = some g → ¬ X1 g ∧ w0.heap.size ≤ g := by
  have ug : Upd w1 (fun k => v.ownBlock = some k) w2 (fun k => v.ownBlock = some k) := ((Upd.refl w1 _).alloc o).grown hgrow (fun k hk => .inl hk)
  refine ⟨h.beside ug (fun g hg => (hv g hg).1) (fun g hg => by have := (hv g hg).2; omega),
    ⟨ug.os.trans u.os, ug.tape.trans u.tape, ug.output.trans u.output, Nat.le_trans u.size ug.size, fun k hk hx => (ug.block k (by have := u.size; omega) (fun e => by have := (hv k e).2; omega)).trans (u.block k hk hx), u.sub⟩, fun g hg => ?_⟩
  rcases hv' g hg with h1 | h1
  · exact hv g h1
  · have := u.size
    exact ⟨fun e => by have := h.high _ e; omega, by omega⟩

set_option maxRecDepth 100000 in
set_option maxHeartbeats 800000 in
/-- cas -/
theorem cas_c (n : Nat) (R : Ready bp la c T en n) (h : PR w X bp la c T en s nv) (hf : Fit T 1 s) (hi : s.i < T.length) (hne : casP T en n s ≠ .out) :
    Calls Tryz.prog 107 #[.pointer (some ⟨bp, 0, none⟩)] w (DoneL w X bp la c T en (casP T en n s)) := by
  have HN := Lib.hid hne; have HF := Lib.hid hf; have HBP := Lib.hid h.lt
  clear hne hf
  go_enter Tryz.func107, Tryz.ntmps107
  go_wp2_with fail
  refine (next_c h HF.out.len hi).mono ?_
  rintro e w1 ⟨rfl, h1, u1⟩
  have HF1 := Lib.hid (HF.out.step hi)
  clear h
  have VV1 := Lib.hid u1; have U1 := Lib.hid u1; clear u1
  go_wp2_with fail
  refine (open_c (⟨#[40]⟩ : ByteArray) h1 HF1.out.len HF1.out.deep).mono ?_
  rcases hq2 : openP T en (⟨#[40]⟩ : ByteArray) (stepP s) with ⟨a1, s2⟩ | ⟨cd, ps⟩ | _
  rotate_left
  · rintro e w2 ⟨rfl, u2⟩
    have Q2 := Lib.hid hq2; have V := Lib.hid (U1.out.trans u2); clear hq2 u2 h1
    go_wp2
    refine ⟨rfl, ?_⟩
    simp only [casP, Q2.out, Res.bind_ok, Res.bind_bad, Bool.false_eq_true, reduceIte, putP]
    exact ⟨rfl, (V.out).to (fun k hk => .inl hk)⟩
  · exact fun e w2 h => h.elim
  rintro e w2 ⟨rfl, X2, nv2, h2, u2⟩
  have HF2 := Lib.hid (Fit.open HF1.out hq2)
  have Q2 := Lib.hid hq2; clear hq2 h1
  have VV2 := Lib.hid u2; have U2 := Lib.hid (U1.out.trans u2); clear u2
  go_wp2_with fail
  refine (name_c h2 HF2.out.len).mono ?_
  rcases hq3 : nameP T en s2 with ⟨t, s3⟩ | ⟨cd, ps⟩ | _
  rotate_left
  · rintro e w3 ⟨rfl, u3⟩
    have Q3 := Lib.hid hq3; have V := Lib.hid (U2.out.trans u3); clear hq3 u3 h2
    go_wp2
    refine ⟨rfl, ?_⟩
    simp only [casP, Q2.out, Q3.out, Res.bind_ok, Res.bind_bad, Bool.false_eq_true, reduceIte, putP]
    exact ⟨rfl, (V.out).to (fun k hk => .inl hk)⟩
  · exact fun e w3 h => h.elim
  rintro e w3 ⟨rfl, X3, nv3, h3, u3⟩
  have HF3 := Lib.hid (Fit.name HF2.out hq3)
  have Q3 := Lib.hid hq3; clear hq3 h2
  have VV3 := Lib.hid u3; have U3 := Lib.hid (U2.out.trans u3); clear u3
  have h4 := h3.alloc (.cells #[.int .i64 t.kind, .int .i64 t.num, .int .i64 t.pos, .string t.text] 81)
  have u4 : Upd w3 X3 _ X3 := (Upd.refl w3 X3).alloc (.cells #[.int .i64 t.kind, .int .i64 t.num, .int .i64 t.pos, .string t.text] 81)
  clear h3
  have VV4 := Lib.hid u4; have U4 := Lib.hid (U3.out.trans u4); clear u4
  go_wp2_with fail
  refine (put_nil 16 _ _ _ h4 HF3.out.few').mono ?_
  rintro e w5 ⟨rfl, X5, nv5, h5, u5⟩
  have HF5 := Lib.hid (HF3.out.put ⟨16, 0, t.pos, t.text, []⟩)
  clear h4
  have VV5 := Lib.hid u5; have U5 := Lib.hid (U4.out.trans u5); clear u5
  have r0 : (w5.alloc (.cells #[.int .i64 s3.nodes.length] 3)).ownsRow 0 3 1 (.slice (some ⟨w5.heap.size, 0, none⟩) 1 1) 1 [.int .i64 s3.nodes.length] := ⟨by simp, .inr ⟨w5.heap.size, 1, _, rfl, Nat.zero_le _, heap_alloc_new _ _, Nat.le_refl _, by unfold maxLen; omega, by simp, by simp⟩⟩
  have x0 : ∀ g, (Value.slice (some ⟨w5.heap.size, 0, none⟩) 1 1).ownBlock = some g → ¬ X5 g ∧ w.heap.size ≤ g := fun g hg => by
    simp only [Value.ownBlock, Option.some.injEq] at hg
    exact ⟨fun e => by have := h5.high _ e; omega, by have := U5.out.size; omega⟩
  have R0 := Lib.hid r0; have XX0 := Lib.hid x0; clear r0 x0
  have h6 := h5.alloc (.cells #[.int .i64 s3.nodes.length] 3)
  have u6 : Upd w5 X5 _ X5 := (Upd.refl w5 X5).alloc (.cells #[.int .i64 s3.nodes.length] 3)
  clear h5
  have VV6 := Lib.hid u6; have U6 := Lib.hid (U5.out.trans u6); clear u6
  go_wp2_with fail
  refine wp_loop_rounds 3 ?_
  rw [rounds_succ]
  go_wp2_with fail
  refine (take_c (⟨#[44]⟩ : ByteArray) h6 HF5.out.len).mono ?_
  rcases hq7 : takeP T en (⟨#[44]⟩ : ByteArray) { s3 with nodes := s3.nodes ++ [⟨16, 0, t.pos, t.text, []⟩] } with ⟨b0, s7⟩ | ⟨cd, ps⟩ | _
  rotate_left
  · rintro e w7 ⟨rfl, u7⟩
    have Q7 := Lib.hid hq7; have V := Lib.hid (U6.out.trans u7); clear hq7 u7 h6
    go_wp2
    refine ⟨rfl, ?_⟩
    simp only [casP, Q2.out, Q3.out, Q7.out, Res.bind_ok, Res.bind_bad, Bool.false_eq_true, reduceIte, putP]
    exact ⟨rfl, (V.out).to (fun k hk => .inl hk)⟩
  · exact fun e w7 h => h.elim
  rintro e w7 ⟨rfl, X7, nv7, h7, u7⟩
  have HF7 := Lib.hid (Fit.take HF5.out hq7)
  have Q7 := Lib.hid hq7; clear hq7 h6
  have VV7 := Lib.hid u7; have U7 := Lib.hid (U6.out.trans u7); clear u7
  have R1a := Lib.hid (VV7.out.ownsRow R0.out (fun g hg => (XX0.out g hg).1)); have XX1a := Lib.hid (fun g hg => (⟨VV7.out.notIn (R0.out.lt g hg).2 (XX0.out g hg).1, (XX0.out g hg).2⟩ : _ ∧ _))
  rcases hq8 : runP T en n (.expr 0) s7 with ⟨x0, s8⟩ | ⟨cd, ps⟩ | _
  rotate_right
  · exact (HN.out (by simp only [casP, Q2.out, Q3.out, Q7.out,  hq8, Res.bind_ok, Res.bind_out, Bool.false_eq_true, reduceIte, putP])).elim
  all_goals
    have C8 := R.expr0 _ _ _ s7 h7 HF7.out.zero (by rw [hq8]; simp)
    rw [hq8] at C8
    have D8 := Lib.hid C8; clear C8
    go_wp2_with fail
    refine D8.out.mono ?_
  rotate_left
  · rintro e w8 ⟨rfl, u8⟩
    have Q8 := Lib.hid hq8; have V := Lib.hid (U7.out.trans u8); clear hq8 u8 h7
    go_wp2
    refine ⟨rfl, ?_⟩
    simp only [casP, Q2.out, Q3.out, Q7.out, Q8.out, Res.bind_ok, Res.bind_bad, Bool.false_eq_true, reduceIte, putP]
    exact ⟨rfl, (V.out).to (fun k hk => .inl hk)⟩
  rintro e w8 ⟨rfl, X8, nv8, h8, u8⟩
  have HF8 := Lib.hid (HF7.out.adv (runP_adv _ _ _ _ _ HF7.out.top hq8))
  have Q8 := Lib.hid hq8; clear hq8 h7 D8
  have V8 := Lib.hid u8
  have VV8 := Lib.hid u8; have U8 := Lib.hid (U7.out.trans u8); clear u8
  have R1b := Lib.hid (V8.out.ownsRow R1a.out (fun g hg => (XX1a.out g hg).1)); have XX1b := Lib.hid (fun g hg => (⟨V8.out.notIn (R1a.out.lt g hg).2 (XX1a.out g hg).1, (XX1a.out g hg).2⟩ : _ ∧ _))
  obtain ⟨i0, hi0, hz0, hz1, hz2⟩ := info_parts Tryz.infoInt
  have hrow := R1b.out
  go_wp2_with (at_builtin; refine wpList_app _ rfl _ _ 30 rfl 3 i0 (.int .i64 0) 1 8 Tryz.underlying30 hi0 hz0 hz1 hz2 rfl (by decide) _ _ _ rfl (hrow.alloc _) ⟨w8.heap.size, 0, none⟩ 1 1 [.int .i64 x0] rfl rfl ?c1 ?c2 ?c3 ?c4 ?_)
  case c1 => exact news_new w8 _ _
  case c2 => simp [Value.oneCell']
  case c3 => unfold maxLen; omega
  case c4 => omega
  intro v' w8' hown hgrow hv
  obtain ⟨va0, vc0, rfl⟩ := slice_of_row hown
  obtain ⟨hp, hu, hx⟩ := app_left h8 U8.out HBP.out XX1b.out hgrow hv
  have R1 := Lib.hid hown; have XX1 := Lib.hid hx; have UU1 := Lib.hid hu
  clear hown hgrow hv hx hu hrow h8
  go_wp2_with fail
  try rw [rounds_succ]
  clear hi0 hz0 hz1 hz2
  go_wp2_with fail
  refine (take_c (⟨#[44]⟩ : ByteArray) hp HF8.out.len).mono ?_
  rcases hq9 : takeP T en (⟨#[44]⟩ : ByteArray) s8 with ⟨b1, s9⟩ | ⟨cd, ps⟩ | _
  rotate_left
  · rintro e w9 ⟨rfl, u9⟩
    have Q9 := Lib.hid hq9; have V := Lib.hid (UU1.out.trans u9); clear hq9 u9 hp
    go_wp2
    refine ⟨rfl, ?_⟩
    simp only [casP, Q2.out, Q3.out, Q7.out, Q8.out, Q9.out, Res.bind_ok, Res.bind_bad, Bool.false_eq_true, reduceIte, putP]
    exact ⟨rfl, (V.out).to (fun k hk => .inl hk)⟩
  · exact fun e w9 h => h.elim
  rintro e w9 ⟨rfl, X9, nv9, h9, u9⟩
  have HF9 := Lib.hid (Fit.take HF8.out hq9)
  have Q9 := Lib.hid hq9; clear hq9 hp
  have VV9 := Lib.hid u9; have U9 := Lib.hid (UU1.out.trans u9); clear u9
  have R2a := Lib.hid (VV9.out.ownsRow R1.out (fun g hg => (XX1.out g hg).1)); have XX2a := Lib.hid (fun g hg => (⟨VV9.out.notIn (R1.out.lt g hg).2 (XX1.out g hg).1, (XX1.out g hg).2⟩ : _ ∧ _))
  rcases hq10 : runP T en n (.expr 0) s9 with ⟨x1, s10⟩ | ⟨cd, ps⟩ | _
  rotate_right
  · exact (HN.out (by simp only [casP, Q2.out, Q3.out, Q7.out, Q8.out, Q9.out,  hq10, Res.bind_ok, Res.bind_out, Bool.false_eq_true, reduceIte, putP])).elim
  all_goals
    have C10 := R.expr0 _ _ _ s9 h9 HF9.out.zero (by rw [hq10]; simp)
    rw [hq10] at C10
    have D10 := Lib.hid C10; clear C10
    go_wp2_with fail
    refine D10.out.mono ?_
  rotate_left
  · rintro e w10 ⟨rfl, u10⟩
    have Q10 := Lib.hid hq10; have V := Lib.hid (U9.out.trans u10); clear hq10 u10 h9
    go_wp2
    refine ⟨rfl, ?_⟩
    simp only [casP, Q2.out, Q3.out, Q7.out, Q8.out, Q9.out, Q10.out, Res.bind_ok, Res.bind_bad, Bool.false_eq_true, reduceIte, putP]
    exact ⟨rfl, (V.out).to (fun k hk => .inl hk)⟩
  rintro e w10 ⟨rfl, X10, nv10, h10, u10⟩
  have HF10 := Lib.hid (HF9.out.adv (runP_adv _ _ _ _ _ HF9.out.top hq10))
  have Q10 := Lib.hid hq10; clear hq10 h9 D10
  have V10 := Lib.hid u10
  have VV10 := Lib.hid u10; have U10 := Lib.hid (U9.out.trans u10); clear u10
  have R2b := Lib.hid (V10.out.ownsRow R2a.out (fun g hg => (XX2a.out g hg).1)); have XX2b := Lib.hid (fun g hg => (⟨V10.out.notIn (R2a.out.lt g hg).2 (XX2a.out g hg).1, (XX2a.out g hg).2⟩ : _ ∧ _))
  obtain ⟨i0, hi0, hz0, hz1, hz2⟩ := info_parts Tryz.infoInt
  have hrow := R2b.out
  go_wp2_with (at_builtin; refine wpList_app _ rfl _ _ 30 rfl 3 i0 (.int .i64 0) 1 8 Tryz.underlying30 hi0 hz0 hz1 hz2 rfl (by decide) _ _ _ rfl (hrow.alloc _) ⟨w10.heap.size, 0, none⟩ 1 1 [.int .i64 x1] rfl rfl ?c1 ?c2 ?c3 ?c4 ?_)
  case c1 => exact news_new w10 _ _
  case c2 => simp [Value.oneCell']
  case c3 => unfold maxLen; omega
  case c4 => omega
  intro v' w10' hown hgrow hv
  obtain ⟨va1, vc1, rfl⟩ := slice_of_row hown
  obtain ⟨hp, hu, hx⟩ := app_left h10 U10.out HBP.out XX2b.out hgrow hv
  have R2 := Lib.hid hown; have XX2 := Lib.hid hx; have UU2 := Lib.hid hu
  clear hown hgrow hv hx hu hrow h10
  go_wp2_with fail
  try rw [rounds_succ]
  go_wp2_with fail
  refine (shut_c (⟨#[41]⟩ : ByteArray) hp HF10.out.len HF10.out.deep).mono ?_
  rcases hq11 : shutP T en (⟨#[41]⟩ : ByteArray) s10 with ⟨u, s11⟩ | ⟨cd, ps⟩ | _
  rotate_left
  · rintro e w11 ⟨rfl, u11⟩
    have Q11 := Lib.hid hq11; have V := Lib.hid (UU2.out.trans u11); clear hq11 u11 hp
    go_wp2
    refine ⟨rfl, ?_⟩
    simp only [casP, Q2.out, Q3.out, Q7.out, Q8.out, Q9.out, Q10.out, Q11.out, Res.bind_ok, Res.bind_bad, Bool.false_eq_true, reduceIte, putP]
    exact ⟨rfl, (V.out).to (fun k hk => .inl hk)⟩
  · exact fun e w11 h => h.elim
  rintro e w11 ⟨rfl, X11, nv11, h11, u11⟩
  have HF11 := Lib.hid (Fit.shut HF10.out hq11)
  have Q11 := Lib.hid hq11; clear hq11 hp
  have VV11 := Lib.hid u11; have U11 := Lib.hid (UU2.out.trans u11); clear u11
  have R3 := Lib.hid (VV11.out.ownsRow R2.out (fun g hg => (XX2.out g hg).1)); have XX3 := Lib.hid (fun g hg => (⟨VV11.out.notIn (R2.out.lt g hg).2 (XX2.out g hg).1, (XX2.out g hg).2⟩ : _ ∧ _))
  go_wp2
  go_ret
  simp only [casP, Q2.out, Q3.out, Q7.out, Q8.out, Q9.out, Q10.out, Q11.out, Res.bind_ok, Res.bind_bad, Bool.false_eq_true, reduceIte, putP]
  exact ⟨_, _, rfl, R3.out, _, _, XX3.out, h11, U11.out⟩
end
end Go.Proofs.YtaklephcgepfjaaGreatDoor

/- The program's parser: statements of one word. (Lines of the walks: wip/tools/steps.py.) -/
namespace Go.Proofs.YtaklephcgepfjaaGreatDoor
open Go.RowKit

theorem is_newb {w : World} {X : Nat → Prop} {bp : Nat} {la : Option Addr} {c : Nat} {T : List Tk} {en : Int} {s : PS} {nv : Value} (b : Nat) (hb : b = w.heap.size) (l : List ByteArray) (hl : l.length ≤ 1000) (h : PR w X bp la c T en s nv) :
    Calls Tryz.prog 34 #[.pointer (some ⟨bp, 0, none⟩), .slice (some ⟨b, 0, none⟩) l.length l.length] (w.alloc (.cells (l.map Value.string).toArray 9)) fun r w' =>
      r = .returned (.bool (isP T l s)) ∧ PR w' X bp la c T en s nv ∧ Upd w X w' X := hb ▸ is_new l hl h

theorem cas_use (T : List Tk) (en : Int) (n : Nat) (s : PS) {β : Type} (F : List Int → PS → Res β) : (casP T en n s).bind F =
    (openP T en (⟨#[40]⟩ : ByteArray) (stepP s)).bind fun _ s => (nameP T en s).bind fun u s => (putP 16 u.pos 0 u.text [] s).bind fun a s =>
      (takeP T en (⟨#[44]⟩ : ByteArray) s).bind fun _ s => (runP T en n (.expr 0) s).bind fun x s =>
        (takeP T en (⟨#[44]⟩ : ByteArray) s).bind fun _ s => (runP T en n (.expr 0) s).bind fun y s => (shutP T en (⟨#[41]⟩ : ByteArray) s).bind fun _ s => F [a, x, y] s := by
  simp only [casP, Res.bind_assoc, Res.bind_ok]

theorem Fit.weak {T : List Tk} {k : Nat} {s : PS} (h : Fit T (k + 1) s) : Fit T 1 s := ⟨h.top, h.lo, h.hi, by have := h.few; omega, h.len⟩

theorem casP_lim {T : List Tk} {en : Int} {n k : Nat} {s s' : PS} {l : List Int} (h : Fit T (k + 1) s) (hq : casP T en n s = .ok l s') : s'.nodes.length ≤ 100000 ∧ T.length ≤ 5000 := by
  unfold casP at hq
  obtain ⟨_, s1, h1, hq⟩ := Res.bind_eq_ok.1 hq
  obtain ⟨u, s2, h2, hq⟩ := Res.bind_eq_ok.1 hq
  obtain ⟨a, s3, h3, hq⟩ := Res.bind_eq_ok.1 hq
  obtain ⟨_, s4, h4, hq⟩ := Res.bind_eq_ok.1 hq
  obtain ⟨x, s5, h5, hq⟩ := Res.bind_eq_ok.1 hq
  obtain ⟨_, s6, h6, hq⟩ := Res.bind_eq_ok.1 hq
  obtain ⟨y, s7, h7, hq⟩ := Res.bind_eq_ok.1 hq
  obtain ⟨_, s8, h8, hq⟩ := Res.bind_eq_ok.1 hq
  injection hq with e1 e2
  subst e2
  obtain ⟨rfl, g1, g1'⟩ := openP_ok h1
  obtain ⟨rfl, g2⟩ := nameP_ok h2
  obtain ⟨rfl, rfl⟩ := putP_ok h3
  obtain ⟨rfl, g4⟩ := takeP_ok h4
  have a5 := runP_adv _ _ _ _ _ (by simp only [stepP] at *; omega) h5
  obtain ⟨rfl, g6⟩ := takeP_ok h6
  have a7 := runP_adv _ _ _ _ _ (by simp only [stepP] at *; omega) h7
  obtain ⟨rfl, g8⟩ := shutP_ok h8
  obtain ⟨_, b2, b3, b4⟩ := a5
  obtain ⟨_, c2, c3, c4⟩ := a7
  have hl := h.len
  have hw := h.few
  simp [stepP, Nt.gain] at *
  omega

/-- An update, and behind it one of a row of the call's own. -/
theorem Upd.andRow {w w1 w2 : World} {X X1 X2 : Nat → Prop} {v : Value} (h : Upd w X w1 X1) (u : Upd w1 (fun k => X1 k ∨ v.ownBlock = some k) w2 X2) (hv : ∀ g, v.ownBlock = some g → w.heap.size ≤ g) : Upd w X w2 X2 := by
  refine ⟨u.os.trans h.os, u.tape.trans h.tape, u.output.trans h.output, Nat.le_trans h.size u.size, fun k hk hx => (u.block k (by have := h.size; omega) ?_).trans (h.block k hk hx), fun k hk => ?_⟩
  · rintro (e | e)
    · rcases h.sub k e with h1 | h1
      · exact hx h1
      · omega
    · have := hv k e; omega
  · rcases u.sub k hk with (e | e) | e
    · exact h.sub k e
    · exact .inr (hv k e)
    · exact .inr (Nat.le_trans h.size e)

section
variable {w : World} {X : Nat → Prop} {bp : Nat} {la : Option Addr} {c : Nat} {T : List Tk} {en : Int} {s : PS} {nv : Value}

set_option maxRecDepth 100000 in
set_option maxHeartbeats 400000 in
theorem stmt_int (n : Nat) (R : Ready bp la c T en n) (h : PR w X bp la c T en s nv) (hf : Fit T 0 s) (hne : runP T en (n + 1) .stmt s ≠ .out) (hb0 : isP T [(⟨#[105, 110, 116]⟩ : ByteArray)] s = true) :
    Calls Tryz.prog 75 #[.pointer (some ⟨bp, 0, none⟩)] w (Done w X bp la c T en (fun r : Int => .int .i64 r) (runP T en (n + 1) .stmt s)) := by
  have HN := Lib.hid hne; have HF := Lib.hid hf; have HBP := Lib.hid h.lt
  clear hne hf
  have hi := isP_lt hb0
  have B0 := Lib.hid hb0; clear hb0
  go_enter Tryz.func75, Tryz.ntmps75
  go_wp2_with fail
  refine (at_n h).mono ?_
  rintro e w1 ⟨rfl, h1, u1⟩
  clear h
  have U1 := Lib.hid u1; clear u1
  go_wp2_with fail
  refine (is_new [(⟨#[105, 110, 116]⟩ : ByteArray)] (by simp) h1).mono ?_
  rw [B0.out]
  rintro e w2 ⟨rfl, h2, u2⟩
  clear h1
  have U2 := Lib.hid (U1.out.trans u2); clear u2
  go_wp2_with fail
  refine (next_c h2 HF.out.len hi).mono ?_
  rintro e w3 ⟨rfl, h3, u3⟩
  have HF3 := Lib.hid (HF.out.step hi)
  clear h2
  have U3 := Lib.hid (U2.out.trans u3); clear u3
  go_wp2_with fail
  refine (name_c h3 HF3.out.len).mono ?_
  rcases hq4 : nameP T en (stepP s) with ⟨t, s4⟩ | ⟨cd, ps⟩ | _
  rotate_left
  · rintro e w4 ⟨rfl, u4⟩
    have Q4 := Lib.hid hq4; have V := Lib.hid (U3.out.trans u4); clear hq4 u4 h3
    go_wp2
    refine ⟨rfl, ?_⟩
    simp only [runP, B0.out, Q4.out, Res.bind_ok, Res.bind_bad, Bool.false_eq_true, reduceIte, putP]
    exact ⟨rfl, (V.out).to (fun k hk => .inl hk)⟩
  · exact fun e w4 h => h.elim
  rintro e w4 ⟨rfl, X4, nv4, h4, u4⟩
  have HF4 := Lib.hid (Fit.name HF3.out hq4)
  have Q4 := Lib.hid hq4; clear hq4 h3
  have U4 := Lib.hid (U3.out.trans u4); clear u4
  have Bt_5 : Hid ((w4.alloc (.cells #[.int .i64 t.kind, .int .i64 t.num, .int .i64 t.pos, .string t.text] 81)).heap[w4.heap.size]? = some (.cells #[.int .i64 t.kind, .int .i64 t.num, .int .i64 t.pos, .string t.text] 81 (0, 0))) := Lib.hid (heap_alloc_new _ _); have Btx_5 : Hid (¬ X4 w4.heap.size) := Lib.hid (fun e => by have := h4.high _ e; omega)
  have h5 := h4.alloc (.cells #[.int .i64 t.kind, .int .i64 t.num, .int .i64 t.pos, .string t.text] 81)
  have u5 : Upd w4 X4 _ X4 := (Upd.refl w4 X4).alloc (.cells #[.int .i64 t.kind, .int .i64 t.num, .int .i64 t.pos, .string t.text] 81)
  clear h4
  have U5 := Lib.hid (U4.out.trans u5); clear u5
  go_wp2_with fail
  refine (take_c (⟨#[61]⟩ : ByteArray) h5 HF4.out.len).mono ?_
  rcases hq6 : takeP T en (⟨#[61]⟩ : ByteArray) s4 with ⟨a1, s6⟩ | ⟨cd, ps⟩ | _
  rotate_left
  · rintro e w6 ⟨rfl, u6⟩
    have Q6 := Lib.hid hq6; have V := Lib.hid (U5.out.trans u6); clear hq6 u6 h5
    go_wp2
    refine ⟨rfl, ?_⟩
    simp only [runP, B0.out, Q4.out, Q6.out, Res.bind_ok, Res.bind_bad, Bool.false_eq_true, reduceIte, putP]
    exact ⟨rfl, (V.out).to (fun k hk => .inl hk)⟩
  · exact fun e w6 h => h.elim
  rintro e w6 ⟨rfl, X6, nv6, h6, u6⟩
  have HF6 := Lib.hid (Fit.take HF4.out hq6)
  have Q6 := Lib.hid hq6; clear hq6 h5
  have Bt_6 := Lib.hid (u6.keep Bt_5.out Btx_5.out); have Btx_6 := Lib.hid (u6.notIn (lt_blk Bt_5.out) Btx_5.out)
  clear Bt_5 Btx_5
  have U6 := Lib.hid (U5.out.trans u6); clear u6
  rcases hq7 : runP T en n (.expr 0) s6 with ⟨k, s7⟩ | ⟨cd, ps⟩ | _
  rotate_right
  · exact (HN.out (by simp only [runP, B0.out, Q4.out, Q6.out,  hq7, Res.bind_ok, Res.bind_out, Bool.false_eq_true, reduceIte, putP])).elim
  all_goals
    have C7 := R.expr0 _ _ _ s6 h6 HF6.out.zero (by rw [hq7]; simp)
    rw [hq7] at C7
    have D7 := Lib.hid C7; clear C7
    go_wp2_with fail
    refine D7.out.mono ?_
  rotate_left
  · rintro e w7 ⟨rfl, u7⟩
    have Q7 := Lib.hid hq7; have V := Lib.hid (U6.out.trans u7); clear hq7 u7 h6
    go_wp2
    refine ⟨rfl, ?_⟩
    simp only [runP, B0.out, Q4.out, Q6.out, Q7.out, Res.bind_ok, Res.bind_bad, Bool.false_eq_true, reduceIte, putP]
    exact ⟨rfl, (V.out).to (fun k hk => .inl hk)⟩
  rintro e w7 ⟨rfl, X7, nv7, h7, u7⟩
  have HF7 := Lib.hid (HF6.out.adv (runP_adv _ _ _ _ _ HF6.out.top hq7))
  have Q7 := Lib.hid hq7; clear hq7 h6 D7
  have Bt_7 := Lib.hid (u7.keep Bt_6.out Btx_6.out); have Btx_7 := Lib.hid (u7.notIn (lt_blk Bt_6.out) Btx_6.out)
  clear Bt_6 Btx_6
  have U7 := Lib.hid (U6.out.trans u7); clear u7
  go_wp2_with fail
  refine (take_c (⟨#[59]⟩ : ByteArray) h7 HF7.out.len).mono ?_
  rcases hq8 : takeP T en (⟨#[59]⟩ : ByteArray) s7 with ⟨a2, s8⟩ | ⟨cd, ps⟩ | _
  rotate_left
  · rintro e w8 ⟨rfl, u8⟩
    have Q8 := Lib.hid hq8; have V := Lib.hid (U7.out.trans u8); clear hq8 u8 h7
    go_wp2
    refine ⟨rfl, ?_⟩
    simp only [runP, B0.out, Q4.out, Q6.out, Q7.out, Q8.out, Res.bind_ok, Res.bind_bad, Bool.false_eq_true, reduceIte, putP]
    exact ⟨rfl, (V.out).to (fun k hk => .inl hk)⟩
  · exact fun e w8 h => h.elim
  rintro e w8 ⟨rfl, X8, nv8, h8, u8⟩
  have HF8 := Lib.hid (Fit.take HF7.out hq8)
  have Q8 := Lib.hid hq8; clear hq8 h7
  have Bt_8 := Lib.hid (u8.keep Bt_7.out Btx_7.out); have Btx_8 := Lib.hid (u8.notIn (lt_blk Bt_7.out) Btx_7.out)
  clear Bt_7 Btx_7
  have U8 := Lib.hid (U7.out.trans u8); clear u8
  have Btc2 : w8.cell? ⟨w4.heap.size, 2, none⟩ = some (.int .i64 t.pos) := cell_blk Bt_8.out; have Btc3 : w8.cell? ⟨w4.heap.size, 3, none⟩ = some (.string t.text) := cell_blk Bt_8.out
  go_wp2_with fail
  refine (put_new 6 _ _ _ [k] h8 HF8.out.few' (by simp)).mono ?_
  rintro e w9 ⟨rfl, X9, nv9, h9, u9⟩
  have HP := Lib.hid h9; clear h8 h9
  have U9 := Lib.hid (U8.out.trans u9); clear u9
  go_wp2
  go_ret
  simp only [runP, B0.out, Q4.out, Q6.out, Q7.out, Q8.out, Res.bind_ok, Res.bind_bad, Bool.false_eq_true, reduceIte, putP]
  exact ⟨rfl, _, _, HP.out, U9.out⟩

set_option maxRecDepth 100000 in
set_option maxHeartbeats 400000 in
theorem stmt_while (n : Nat) (R : Ready bp la c T en n) (h : PR w X bp la c T en s nv) (hf : Fit T 0 s) (hne : runP T en (n + 1) .stmt s ≠ .out) (hb0 : isP T [(⟨#[105, 110, 116]⟩ : ByteArray)] s = false) (hb1 : isP T [(⟨#[105, 102]⟩ : ByteArray)] s = false) (hb2 : isP T [(⟨#[119, 104, 105, 108, 101]⟩ : ByteArray)] s = true) :
    Calls Tryz.prog 75 #[.pointer (some ⟨bp, 0, none⟩)] w (Done w X bp la c T en (fun r : Int => .int .i64 r) (runP T en (n + 1) .stmt s)) := by
  have HN := Lib.hid hne; have HF := Lib.hid hf; have HBP := Lib.hid h.lt
  clear hne hf
  have hi := isP_lt hb2
  have B0 := Lib.hid hb0; clear hb0
  have B1 := Lib.hid hb1; clear hb1
  have B2 := Lib.hid hb2; clear hb2
  go_enter Tryz.func75, Tryz.ntmps75
  go_wp2_with fail
  refine (at_n h).mono ?_
  rintro e w1 ⟨rfl, h1, u1⟩
  clear h
  have U1 := Lib.hid u1; clear u1
  go_wp2_with fail
  refine (is_new [(⟨#[105, 110, 116]⟩ : ByteArray)] (by simp) h1).mono ?_
  rw [B0.out]
  rintro e w2 ⟨rfl, h2, u2⟩
  clear h1
  have U2 := Lib.hid (U1.out.trans u2); clear u2
  go_wp2_with fail
  refine (is_new [(⟨#[105, 102]⟩ : ByteArray)] (by simp) h2).mono ?_
  rw [B1.out]
  rintro e w3 ⟨rfl, h3, u3⟩
  clear h2
  have U3 := Lib.hid (U2.out.trans u3); clear u3
  go_wp2_with fail
  refine (is_new [(⟨#[119, 104, 105, 108, 101]⟩ : ByteArray)] (by simp) h3).mono ?_
  rw [B2.out]
  rintro e w4 ⟨rfl, h4, u4⟩
  clear h3
  have U4 := Lib.hid (U3.out.trans u4); clear u4
  go_wp2_with fail
  refine (next_c h4 HF.out.len hi).mono ?_
  rintro e w5 ⟨rfl, h5, u5⟩
  have HF5 := Lib.hid (HF.out.step hi)
  clear h4
  have U5 := Lib.hid (U4.out.trans u5); clear u5
  rcases hq6 : runP T en n .held (stepP s) with ⟨k, s6⟩ | ⟨cd, ps⟩ | _
  rotate_right
  · exact (HN.out (by simp only [runP, B0.out, B1.out, B2.out,  hq6, Res.bind_ok, Res.bind_out, Bool.false_eq_true, reduceIte, putP])).elim
  all_goals
    have C6 := R.held _ _ _ (stepP s) h5 HF5.out.zero (by rw [hq6]; simp)
    rw [hq6] at C6
    have D6 := Lib.hid C6; clear C6
    go_wp2_with fail
    refine D6.out.mono ?_
  rotate_left
  · rintro e w6 ⟨rfl, u6⟩
    have Q6 := Lib.hid hq6; have V := Lib.hid (U5.out.trans u6); clear hq6 u6 h5
    go_wp2
    refine ⟨rfl, ?_⟩
    simp only [runP, B0.out, B1.out, B2.out, Q6.out, Res.bind_ok, Res.bind_bad, Bool.false_eq_true, reduceIte, putP]
    exact ⟨rfl, (V.out).to (fun k hk => .inl hk)⟩
  rintro e w6 ⟨rfl, X6, nv6, h6, u6⟩
  have HF6 := Lib.hid (HF5.out.adv (runP_adv _ _ _ _ _ HF5.out.top hq6))
  have Q6 := Lib.hid hq6; clear hq6 h5 D6
  have U6 := Lib.hid (U5.out.trans u6); clear u6
  rcases hq7 : runP T en n .block s6 with ⟨b, s7⟩ | ⟨cd, ps⟩ | _
  rotate_right
  · exact (HN.out (by simp only [runP, B0.out, B1.out, B2.out, Q6.out,  hq7, Res.bind_ok, Res.bind_out, Bool.false_eq_true, reduceIte, putP])).elim
  all_goals
    have C7 := R.block _ _ _ s6 h6 HF6.out.zero (by rw [hq7]; simp)
    rw [hq7] at C7
    have D7 := Lib.hid C7; clear C7
    go_wp2_with fail
    refine D7.out.mono ?_
  rotate_left
  · rintro e w7 ⟨rfl, u7⟩
    have Q7 := Lib.hid hq7; have V := Lib.hid (U6.out.trans u7); clear hq7 u7 h6
    go_wp2
    refine ⟨rfl, ?_⟩
    simp only [runP, B0.out, B1.out, B2.out, Q6.out, Q7.out, Res.bind_ok, Res.bind_bad, Bool.false_eq_true, reduceIte, putP]
    exact ⟨rfl, (V.out).to (fun k hk => .inl hk)⟩
  rintro e w7 ⟨rfl, X7, nv7, h7, u7⟩
  have HF7 := Lib.hid (HF6.out.adv (runP_adv _ _ _ _ _ HF6.out.top hq7))
  have Q7 := Lib.hid hq7; clear hq7 h6 D7
  have U7 := Lib.hid (U6.out.trans u7); clear u7
  go_wp2_with fail
  refine (put_new 10 _ _ _ [k, b] h7 HF7.out.few' (by simp)).mono ?_
  rintro e w8 ⟨rfl, X8, nv8, h8, u8⟩
  have HP := Lib.hid h8; clear h7 h8
  have U8 := Lib.hid (U7.out.trans u8); clear u8
  go_wp2
  go_ret
  simp only [runP, B0.out, B1.out, B2.out, Q6.out, Q7.out, Res.bind_ok, Res.bind_bad, Bool.false_eq_true, reduceIte, putP]
  exact ⟨rfl, _, _, HP.out, U8.out⟩

set_option maxRecDepth 100000 in
set_option maxHeartbeats 400000 in
theorem stmt_print (n : Nat) (R : Ready bp la c T en n) (h : PR w X bp la c T en s nv) (hf : Fit T 0 s) (hne : runP T en (n + 1) .stmt s ≠ .out) (hb0 : isP T [(⟨#[105, 110, 116]⟩ : ByteArray)] s = false) (hb1 : isP T [(⟨#[105, 102]⟩ : ByteArray)] s = false) (hb2 : isP T [(⟨#[119, 104, 105, 108, 101]⟩ : ByteArray)] s = false) (hb3 : isP T [(⟨#[112, 114, 105, 110, 116]⟩ : ByteArray)] s = true) :
    Calls Tryz.prog 75 #[.pointer (some ⟨bp, 0, none⟩)] w (Done w X bp la c T en (fun r : Int => .int .i64 r) (runP T en (n + 1) .stmt s)) := by
  have HN := Lib.hid hne; have HF := Lib.hid hf; have HBP := Lib.hid h.lt
  clear hne hf
  have hi := isP_lt hb3
  have B0 := Lib.hid hb0; clear hb0
  have B1 := Lib.hid hb1; clear hb1
  have B2 := Lib.hid hb2; clear hb2
  have B3 := Lib.hid hb3; clear hb3
  go_enter Tryz.func75, Tryz.ntmps75
  go_wp2_with fail
  refine (at_n h).mono ?_
  rintro e w1 ⟨rfl, h1, u1⟩
  clear h
  have U1 := Lib.hid u1; clear u1
  go_wp2_with fail
  refine (is_new [(⟨#[105, 110, 116]⟩ : ByteArray)] (by simp) h1).mono ?_
  rw [B0.out]
  rintro e w2 ⟨rfl, h2, u2⟩
  clear h1
  have U2 := Lib.hid (U1.out.trans u2); clear u2
  go_wp2_with fail
  refine (is_new [(⟨#[105, 102]⟩ : ByteArray)] (by simp) h2).mono ?_
  rw [B1.out]
  rintro e w3 ⟨rfl, h3, u3⟩
  clear h2
  have U3 := Lib.hid (U2.out.trans u3); clear u3
  go_wp2_with fail
  refine (is_new [(⟨#[119, 104, 105, 108, 101]⟩ : ByteArray)] (by simp) h3).mono ?_
  rw [B2.out]
  rintro e w4 ⟨rfl, h4, u4⟩
  clear h3
  have U4 := Lib.hid (U3.out.trans u4); clear u4
  go_wp2_with fail
  refine (is_new [(⟨#[112, 114, 105, 110, 116]⟩ : ByteArray)] (by simp) h4).mono ?_
  rw [B3.out]
  rintro e w5 ⟨rfl, h5, u5⟩
  clear h4
  have U5 := Lib.hid (U4.out.trans u5); clear u5
  go_wp2_with fail
  refine (next_c h5 HF.out.len hi).mono ?_
  rintro e w6 ⟨rfl, h6, u6⟩
  have HF6 := Lib.hid (HF.out.step hi)
  clear h5
  have U6 := Lib.hid (U5.out.trans u6); clear u6
  rcases hq7 : runP T en n .held (stepP s) with ⟨k, s7⟩ | ⟨cd, ps⟩ | _
  rotate_right
  · exact (HN.out (by simp only [runP, B0.out, B1.out, B2.out, B3.out,  hq7, Res.bind_ok, Res.bind_out, Bool.false_eq_true, reduceIte, putP])).elim
  all_goals
    have C7 := R.held _ _ _ (stepP s) h6 HF6.out.zero (by rw [hq7]; simp)
    rw [hq7] at C7
    have D7 := Lib.hid C7; clear C7
    go_wp2_with fail
    refine D7.out.mono ?_
  rotate_left
  · rintro e w7 ⟨rfl, u7⟩
    have Q7 := Lib.hid hq7; have V := Lib.hid (U6.out.trans u7); clear hq7 u7 h6
    go_wp2
    refine ⟨rfl, ?_⟩
    simp only [runP, B0.out, B1.out, B2.out, B3.out, Q7.out, Res.bind_ok, Res.bind_bad, Bool.false_eq_true, reduceIte, putP]
    exact ⟨rfl, (V.out).to (fun k hk => .inl hk)⟩
  rintro e w7 ⟨rfl, X7, nv7, h7, u7⟩
  have HF7 := Lib.hid (HF6.out.adv (runP_adv _ _ _ _ _ HF6.out.top hq7))
  have Q7 := Lib.hid hq7; clear hq7 h6 D7
  have U7 := Lib.hid (U6.out.trans u7); clear u7
  go_wp2_with fail
  refine (take_c (⟨#[59]⟩ : ByteArray) h7 HF7.out.len).mono ?_
  rcases hq8 : takeP T en (⟨#[59]⟩ : ByteArray) s7 with ⟨a2, s8⟩ | ⟨cd, ps⟩ | _
  rotate_left
  · rintro e w8 ⟨rfl, u8⟩
    have Q8 := Lib.hid hq8; have V := Lib.hid (U7.out.trans u8); clear hq8 u8 h7
    go_wp2
    refine ⟨rfl, ?_⟩
    simp only [runP, B0.out, B1.out, B2.out, B3.out, Q7.out, Q8.out, Res.bind_ok, Res.bind_bad, Bool.false_eq_true, reduceIte, putP]
    exact ⟨rfl, (V.out).to (fun k hk => .inl hk)⟩
  · exact fun e w8 h => h.elim
  rintro e w8 ⟨rfl, X8, nv8, h8, u8⟩
  have HF8 := Lib.hid (Fit.take HF7.out hq8)
  have Q8 := Lib.hid hq8; clear hq8 h7
  have U8 := Lib.hid (U7.out.trans u8); clear u8
  go_wp2_with fail
  refine (put_new 11 _ _ _ [k] h8 HF8.out.few' (by simp)).mono ?_
  rintro e w9 ⟨rfl, X9, nv9, h9, u9⟩
  have HP := Lib.hid h9; clear h8 h9
  have U9 := Lib.hid (U8.out.trans u9); clear u9
  go_wp2
  go_ret
  simp only [runP, B0.out, B1.out, B2.out, B3.out, Q7.out, Q8.out, Res.bind_ok, Res.bind_bad, Bool.false_eq_true, reduceIte, putP]
  exact ⟨rfl, _, _, HP.out, U9.out⟩

set_option maxRecDepth 100000 in
set_option maxHeartbeats 400000 in
theorem stmt_fence (n : Nat) (R : Ready bp la c T en n) (h : PR w X bp la c T en s nv) (hf : Fit T 0 s) (hne : runP T en (n + 1) .stmt s ≠ .out) (hb0 : isP T [(⟨#[105, 110, 116]⟩ : ByteArray)] s = false) (hb1 : isP T [(⟨#[105, 102]⟩ : ByteArray)] s = false) (hb2 : isP T [(⟨#[119, 104, 105, 108, 101]⟩ : ByteArray)] s = false) (hb3 : isP T [(⟨#[112, 114, 105, 110, 116]⟩ : ByteArray)] s = false) (hb4 : isP T [(⟨#[108, 111, 99, 107]⟩ : ByteArray), (⟨#[117, 110, 108, 111, 99, 107]⟩ : ByteArray)] s = false) (hb5 : isP T [(⟨#[102, 101, 110, 99, 101]⟩ : ByteArray)] s = true) :
    Calls Tryz.prog 75 #[.pointer (some ⟨bp, 0, none⟩)] w (Done w X bp la c T en (fun r : Int => .int .i64 r) (runP T en (n + 1) .stmt s)) := by
  have HN := Lib.hid hne; have HF := Lib.hid hf; have HBP := Lib.hid h.lt
  clear hne hf
  have hi := isP_lt hb5
  have B0 := Lib.hid hb0; clear hb0
  have B1 := Lib.hid hb1; clear hb1
  have B2 := Lib.hid hb2; clear hb2
  have B3 := Lib.hid hb3; clear hb3
  have B4 := Lib.hid hb4; clear hb4
  have B5 := Lib.hid hb5; clear hb5
  go_enter Tryz.func75, Tryz.ntmps75
  go_wp2_with fail
  refine (at_n h).mono ?_
  rintro e w1 ⟨rfl, h1, u1⟩
  clear h
  have U1 := Lib.hid u1; clear u1
  go_wp2_with fail
  refine (is_new [(⟨#[105, 110, 116]⟩ : ByteArray)] (by simp) h1).mono ?_
  rw [B0.out]
  rintro e w2 ⟨rfl, h2, u2⟩
  clear h1
  have U2 := Lib.hid (U1.out.trans u2); clear u2
  go_wp2_with fail
  refine (is_new [(⟨#[105, 102]⟩ : ByteArray)] (by simp) h2).mono ?_
  rw [B1.out]
  rintro e w3 ⟨rfl, h3, u3⟩
  clear h2
  have U3 := Lib.hid (U2.out.trans u3); clear u3
  go_wp2_with fail
  refine (is_new [(⟨#[119, 104, 105, 108, 101]⟩ : ByteArray)] (by simp) h3).mono ?_
  rw [B2.out]
  rintro e w4 ⟨rfl, h4, u4⟩
  clear h3
  have U4 := Lib.hid (U3.out.trans u4); clear u4
  go_wp2_with fail
  refine (is_new [(⟨#[112, 114, 105, 110, 116]⟩ : ByteArray)] (by simp) h4).mono ?_
  rw [B3.out]
  rintro e w5 ⟨rfl, h5, u5⟩
  clear h4
  have U5 := Lib.hid (U4.out.trans u5); clear u5
  go_wp2_with fail
  refine (is_new [(⟨#[108, 111, 99, 107]⟩ : ByteArray), (⟨#[117, 110, 108, 111, 99, 107]⟩ : ByteArray)] (by simp) h5).mono ?_
  rw [B4.out]
  rintro e w6 ⟨rfl, h6, u6⟩
  clear h5
  have U6 := Lib.hid (U5.out.trans u6); clear u6
  go_wp2_with fail
  refine (is_new [(⟨#[102, 101, 110, 99, 101]⟩ : ByteArray)] (by simp) h6).mono ?_
  rw [B5.out]
  rintro e w7 ⟨rfl, h7, u7⟩
  clear h6
  have U7 := Lib.hid (U6.out.trans u7); clear u7
  go_wp2_with fail
  refine (next_c h7 HF.out.len hi).mono ?_
  rintro e w8 ⟨rfl, h8, u8⟩
  have HF8 := Lib.hid (HF.out.step hi)
  clear h7
  have U8 := Lib.hid (U7.out.trans u8); clear u8
  go_wp2_with fail
  refine (take_c (⟨#[59]⟩ : ByteArray) h8 HF8.out.len).mono ?_
  rcases hq9 : takeP T en (⟨#[59]⟩ : ByteArray) (stepP s) with ⟨a2, s9⟩ | ⟨cd, ps⟩ | _
  rotate_left
  · rintro e w9 ⟨rfl, u9⟩
    have Q9 := Lib.hid hq9; have V := Lib.hid (U8.out.trans u9); clear hq9 u9 h8
    go_wp2
    refine ⟨rfl, ?_⟩
    simp only [runP, B0.out, B1.out, B2.out, B3.out, B4.out, B5.out, Q9.out, Res.bind_ok, Res.bind_bad, Bool.false_eq_true, reduceIte, putP]
    exact ⟨rfl, (V.out).to (fun k hk => .inl hk)⟩
  · exact fun e w9 h => h.elim
  rintro e w9 ⟨rfl, X9, nv9, h9, u9⟩
  have HF9 := Lib.hid (Fit.take HF8.out hq9)
  have Q9 := Lib.hid hq9; clear hq9 h8
  have U9 := Lib.hid (U8.out.trans u9); clear u9
  go_wp2_with fail
  refine (put_nil 14 _ _ _ h9 HF9.out.few').mono ?_
  rintro e w10 ⟨rfl, X10, nv10, h10, u10⟩
  have HP := Lib.hid h10; clear h9 h10
  have U10 := Lib.hid (U9.out.trans u10); clear u10
  go_wp2
  go_ret
  simp only [runP, B0.out, B1.out, B2.out, B3.out, B4.out, B5.out, Q9.out, Res.bind_ok, Res.bind_bad, Bool.false_eq_true, reduceIte, putP]
  exact ⟨rfl, _, _, HP.out, U10.out⟩

set_option maxRecDepth 100000 in
set_option maxHeartbeats 400000 in
theorem stmt_unlock (n : Nat) (R : Ready bp la c T en n) (h : PR w X bp la c T en s nv) (hf : Fit T 0 s) (hne : runP T en (n + 1) .stmt s ≠ .out) (hb0 : isP T [(⟨#[105, 110, 116]⟩ : ByteArray)] s = false) (hb1 : isP T [(⟨#[105, 102]⟩ : ByteArray)] s = false) (hb2 : isP T [(⟨#[119, 104, 105, 108, 101]⟩ : ByteArray)] s = false) (hb3 : isP T [(⟨#[112, 114, 105, 110, 116]⟩ : ByteArray)] s = false) (hb4 : isP T [(⟨#[108, 111, 99, 107]⟩ : ByteArray), (⟨#[117, 110, 108, 111, 99, 107]⟩ : ByteArray)] s = true) (ht : (tokP T s).text = (⟨#[117, 110, 108, 111, 99, 107]⟩ : ByteArray)) :
    Calls Tryz.prog 75 #[.pointer (some ⟨bp, 0, none⟩)] w (Done w X bp la c T en (fun r : Int => .int .i64 r) (runP T en (n + 1) .stmt s)) := by
  have HN := Lib.hid hne; have HF := Lib.hid hf; have HBP := Lib.hid h.lt
  clear hne hf
  have HTX := Lib.hid (show ((tokP T s).text.toList == [117, 110, 108, 111, 99, 107]) = true from by rw [ht, ByteArray.toList_eq]; rfl)
  have HTE := Lib.hid ht; clear ht
  have hi := isP_lt hb4
  have B0 := Lib.hid hb0; clear hb0
  have B1 := Lib.hid hb1; clear hb1
  have B2 := Lib.hid hb2; clear hb2
  have B3 := Lib.hid hb3; clear hb3
  have B4 := Lib.hid hb4; clear hb4
  go_enter Tryz.func75, Tryz.ntmps75
  go_wp2_with fail
  refine (at_n h).mono ?_
  rintro e w1 ⟨rfl, h1, u1⟩
  clear h
  have U1 := Lib.hid u1; clear u1
  go_wp2_with fail
  refine (is_new [(⟨#[105, 110, 116]⟩ : ByteArray)] (by simp) h1).mono ?_
  rw [B0.out]
  rintro e w2 ⟨rfl, h2, u2⟩
  clear h1
  have U2 := Lib.hid (U1.out.trans u2); clear u2
  go_wp2_with fail
  refine (is_new [(⟨#[105, 102]⟩ : ByteArray)] (by simp) h2).mono ?_
  rw [B1.out]
  rintro e w3 ⟨rfl, h3, u3⟩
  clear h2
  have U3 := Lib.hid (U2.out.trans u3); clear u3
  go_wp2_with fail
  refine (is_new [(⟨#[119, 104, 105, 108, 101]⟩ : ByteArray)] (by simp) h3).mono ?_
  rw [B2.out]
  rintro e w4 ⟨rfl, h4, u4⟩
  clear h3
  have U4 := Lib.hid (U3.out.trans u4); clear u4
  go_wp2_with fail
  refine (is_new [(⟨#[112, 114, 105, 110, 116]⟩ : ByteArray)] (by simp) h4).mono ?_
  rw [B3.out]
  rintro e w5 ⟨rfl, h5, u5⟩
  clear h4
  have U5 := Lib.hid (U4.out.trans u5); clear u5
  go_wp2_with fail
  refine (is_new [(⟨#[108, 111, 99, 107]⟩ : ByteArray), (⟨#[117, 110, 108, 111, 99, 107]⟩ : ByteArray)] (by simp) h5).mono ?_
  rw [B4.out]
  rintro e w6 ⟨rfl, h6, u6⟩
  clear h5
  have U6 := Lib.hid (U5.out.trans u6); clear u6
  have hft := fld_text
  have htx := HTX.out
  go_wp2_with fail
  refine (next_c h6 HF.out.len hi).mono ?_
  rintro e w7 ⟨rfl, h7, u7⟩
  have HF7 := Lib.hid (HF.out.step hi)
  clear h6
  have U7 := Lib.hid (U6.out.trans u7); clear u7
  go_wp2_with fail
  refine (open_c (⟨#[40]⟩ : ByteArray) h7 HF7.out.len HF7.out.deep).mono ?_
  rcases hq8 : openP T en (⟨#[40]⟩ : ByteArray) (stepP s) with ⟨a1, s8⟩ | ⟨cd, ps⟩ | _
  rotate_left
  · rintro e w8 ⟨rfl, u8⟩
    have Q8 := Lib.hid hq8; have V := Lib.hid (U7.out.trans u8); clear hq8 u8 h7
    go_wp2
    refine ⟨rfl, ?_⟩
    simp only [runP, B0.out, B1.out, B2.out, B3.out, B4.out, Q8.out, Res.bind_ok, Res.bind_bad, Bool.false_eq_true, reduceIte, putP]
    exact ⟨rfl, (V.out).to (fun k hk => .inl hk)⟩
  · exact fun e w8 h => h.elim
  rintro e w8 ⟨rfl, X8, nv8, h8, u8⟩
  have HF8 := Lib.hid (Fit.open HF7.out hq8)
  have Q8 := Lib.hid hq8; clear hq8 h7
  have U8 := Lib.hid (U7.out.trans u8); clear u8
  go_wp2_with fail
  refine (name_c h8 HF8.out.len).mono ?_
  rcases hq9 : nameP T en s8 with ⟨t, s9⟩ | ⟨cd, ps⟩ | _
  rotate_left
  · rintro e w9 ⟨rfl, u9⟩
    have Q9 := Lib.hid hq9; have V := Lib.hid (U8.out.trans u9); clear hq9 u9 h8
    go_wp2
    refine ⟨rfl, ?_⟩
    simp only [runP, B0.out, B1.out, B2.out, B3.out, B4.out, Q8.out, Q9.out, Res.bind_ok, Res.bind_bad, Bool.false_eq_true, reduceIte, putP]
    exact ⟨rfl, (V.out).to (fun k hk => .inl hk)⟩
  · exact fun e w9 h => h.elim
  rintro e w9 ⟨rfl, X9, nv9, h9, u9⟩
  have HF9 := Lib.hid (Fit.name HF8.out hq9)
  have Q9 := Lib.hid hq9; clear hq9 h8
  have U9 := Lib.hid (U8.out.trans u9); clear u9
  have Bt_10 : Hid ((w9.alloc (.cells #[.int .i64 t.kind, .int .i64 t.num, .int .i64 t.pos, .string t.text] 81)).heap[w9.heap.size]? = some (.cells #[.int .i64 t.kind, .int .i64 t.num, .int .i64 t.pos, .string t.text] 81 (0, 0))) := Lib.hid (heap_alloc_new _ _); have Btx_10 : Hid (¬ X9 w9.heap.size) := Lib.hid (fun e => by have := h9.high _ e; omega)
  have h10 := h9.alloc (.cells #[.int .i64 t.kind, .int .i64 t.num, .int .i64 t.pos, .string t.text] 81)
  have u10 : Upd w9 X9 _ X9 := (Upd.refl w9 X9).alloc (.cells #[.int .i64 t.kind, .int .i64 t.num, .int .i64 t.pos, .string t.text] 81)
  clear h9
  have U10 := Lib.hid (U9.out.trans u10); clear u10
  go_wp2_with fail
  refine (shut_c (⟨#[41]⟩ : ByteArray) h10 HF9.out.len HF9.out.deep).mono ?_
  rcases hq11 : shutP T en (⟨#[41]⟩ : ByteArray) s9 with ⟨u, s11⟩ | ⟨cd, ps⟩ | _
  rotate_left
  · rintro e w11 ⟨rfl, u11⟩
    have Q11 := Lib.hid hq11; have V := Lib.hid (U10.out.trans u11); clear hq11 u11 h10
    go_wp2
    refine ⟨rfl, ?_⟩
    simp only [runP, B0.out, B1.out, B2.out, B3.out, B4.out, Q8.out, Q9.out, Q11.out, Res.bind_ok, Res.bind_bad, Bool.false_eq_true, reduceIte, putP]
    exact ⟨rfl, (V.out).to (fun k hk => .inl hk)⟩
  · exact fun e w11 h => h.elim
  rintro e w11 ⟨rfl, X11, nv11, h11, u11⟩
  have HF11 := Lib.hid (Fit.shut HF9.out hq11)
  have Q11 := Lib.hid hq11; clear hq11 h10
  have Bt_11 := Lib.hid (u11.keep Bt_10.out Btx_10.out); have Btx_11 := Lib.hid (u11.notIn (lt_blk Bt_10.out) Btx_10.out)
  clear Bt_10 Btx_10
  have U11 := Lib.hid (U10.out.trans u11); clear u11
  go_wp2_with fail
  refine (take_c (⟨#[59]⟩ : ByteArray) h11 HF11.out.2).mono ?_
  rcases hq12 : takeP T en (⟨#[59]⟩ : ByteArray) s11 with ⟨a2, s12⟩ | ⟨cd, ps⟩ | _
  rotate_left
  · rintro e w12 ⟨rfl, u12⟩
    have Q12 := Lib.hid hq12; have V := Lib.hid (U11.out.trans u12); clear hq12 u12 h11
    go_wp2
    refine ⟨rfl, ?_⟩
    simp only [runP, B0.out, B1.out, B2.out, B3.out, B4.out, Q8.out, Q9.out, Q11.out, Q12.out, Res.bind_ok, Res.bind_bad, Bool.false_eq_true, reduceIte, putP]
    exact ⟨rfl, (V.out).to (fun k hk => .inl hk)⟩
  · exact fun e w12 h => h.elim
  rintro e w12 ⟨rfl, X12, nv12, h12, u12⟩
  have HF12 := Lib.hid (lim_take HF11.out hq12)
  have Q12 := Lib.hid hq12; clear hq12 h11
  have Bt_12 := Lib.hid (u12.keep Bt_11.out Btx_11.out); have Btx_12 := Lib.hid (u12.notIn (lt_blk Bt_11.out) Btx_11.out)
  clear Bt_11 Btx_11
  have U12 := Lib.hid (U11.out.trans u12); clear u12
  have Btc2 : w12.cell? ⟨w9.heap.size, 2, none⟩ = some (.int .i64 t.pos) := cell_blk Bt_12.out; have Btc3 : w12.cell? ⟨w9.heap.size, 3, none⟩ = some (.string t.text) := cell_blk Bt_12.out
  go_wp2_with fail
  refine (put_nil 13 _ _ _ h12 HF12.out.1).mono ?_
  rintro e w13 ⟨rfl, X13, nv13, h13, u13⟩
  have HP := Lib.hid h13; clear h12 h13
  have U13 := Lib.hid (U12.out.trans u13); clear u13
  go_wp2
  go_ret
  simp only [runP, B0.out, B1.out, B2.out, B3.out, B4.out, Q8.out, Q9.out, Q11.out, Q12.out, HTE.out, Res.bind_ok, Res.bind_bad, Bool.false_eq_true, reduceIte, putP]
  exact ⟨rfl, _, _, HP.out, U13.out⟩

set_option maxRecDepth 100000 in
set_option maxHeartbeats 400000 in
theorem stmt_lock (n : Nat) (R : Ready bp la c T en n) (h : PR w X bp la c T en s nv) (hf : Fit T 0 s) (hne : runP T en (n + 1) .stmt s ≠ .out) (hb0 : isP T [(⟨#[105, 110, 116]⟩ : ByteArray)] s = false) (hb1 : isP T [(⟨#[105, 102]⟩ : ByteArray)] s = false) (hb2 : isP T [(⟨#[119, 104, 105, 108, 101]⟩ : ByteArray)] s = false) (hb3 : isP T [(⟨#[112, 114, 105, 110, 116]⟩ : ByteArray)] s = false) (hb4 : isP T [(⟨#[108, 111, 99, 107]⟩ : ByteArray), (⟨#[117, 110, 108, 111, 99, 107]⟩ : ByteArray)] s = true) (ht : (tokP T s).text ≠ (⟨#[117, 110, 108, 111, 99, 107]⟩ : ByteArray)) :
    Calls Tryz.prog 75 #[.pointer (some ⟨bp, 0, none⟩)] w (Done w X bp la c T en (fun r : Int => .int .i64 r) (runP T en (n + 1) .stmt s)) := by
  have HN := Lib.hid hne; have HF := Lib.hid hf; have HBP := Lib.hid h.lt
  clear hne hf
  have HTX := Lib.hid (show ((tokP T s).text.toList == [117, 110, 108, 111, 99, 107]) = false from by rw [beq_eq_false_iff_ne]; exact fun e => ht ((bytes_inj _ _).1 (e.trans (by rw [ByteArray.toList_eq]))))
  have HTE := Lib.hid ht; clear ht
  have hi := isP_lt hb4
  have B0 := Lib.hid hb0; clear hb0
  have B1 := Lib.hid hb1; clear hb1
  have B2 := Lib.hid hb2; clear hb2
  have B3 := Lib.hid hb3; clear hb3
  have B4 := Lib.hid hb4; clear hb4
  go_enter Tryz.func75, Tryz.ntmps75
  go_wp2_with fail
  refine (at_n h).mono ?_
  rintro e w1 ⟨rfl, h1, u1⟩
  clear h
  have U1 := Lib.hid u1; clear u1
  go_wp2_with fail
  refine (is_new [(⟨#[105, 110, 116]⟩ : ByteArray)] (by simp) h1).mono ?_
  rw [B0.out]
  rintro e w2 ⟨rfl, h2, u2⟩
  clear h1
  have U2 := Lib.hid (U1.out.trans u2); clear u2
  go_wp2_with fail
  refine (is_new [(⟨#[105, 102]⟩ : ByteArray)] (by simp) h2).mono ?_
  rw [B1.out]
  rintro e w3 ⟨rfl, h3, u3⟩
  clear h2
  have U3 := Lib.hid (U2.out.trans u3); clear u3
  go_wp2_with fail
  refine (is_new [(⟨#[119, 104, 105, 108, 101]⟩ : ByteArray)] (by simp) h3).mono ?_
  rw [B2.out]
  rintro e w4 ⟨rfl, h4, u4⟩
  clear h3
  have U4 := Lib.hid (U3.out.trans u4); clear u4
  go_wp2_with fail
  refine (is_new [(⟨#[112, 114, 105, 110, 116]⟩ : ByteArray)] (by simp) h4).mono ?_
  rw [B3.out]
  rintro e w5 ⟨rfl, h5, u5⟩
  clear h4
  have U5 := Lib.hid (U4.out.trans u5); clear u5
  go_wp2_with fail
  refine (is_new [(⟨#[108, 111, 99, 107]⟩ : ByteArray), (⟨#[117, 110, 108, 111, 99, 107]⟩ : ByteArray)] (by simp) h5).mono ?_
  rw [B4.out]
  rintro e w6 ⟨rfl, h6, u6⟩
  clear h5
  have U6 := Lib.hid (U5.out.trans u6); clear u6
  have hft := fld_text
  have htx := HTX.out
  go_wp2_with fail
  refine (next_c h6 HF.out.len hi).mono ?_
  rintro e w7 ⟨rfl, h7, u7⟩
  have HF7 := Lib.hid (HF.out.step hi)
  clear h6
  have U7 := Lib.hid (U6.out.trans u7); clear u7
  go_wp2_with fail
  refine (open_c (⟨#[40]⟩ : ByteArray) h7 HF7.out.len HF7.out.deep).mono ?_
  rcases hq8 : openP T en (⟨#[40]⟩ : ByteArray) (stepP s) with ⟨a1, s8⟩ | ⟨cd, ps⟩ | _
  rotate_left
  · rintro e w8 ⟨rfl, u8⟩
    have Q8 := Lib.hid hq8; have V := Lib.hid (U7.out.trans u8); clear hq8 u8 h7
    go_wp2
    refine ⟨rfl, ?_⟩
    simp only [runP, B0.out, B1.out, B2.out, B3.out, B4.out, Q8.out, Res.bind_ok, Res.bind_bad, Bool.false_eq_true, reduceIte, putP]
    exact ⟨rfl, (V.out).to (fun k hk => .inl hk)⟩
  · exact fun e w8 h => h.elim
  rintro e w8 ⟨rfl, X8, nv8, h8, u8⟩
  have HF8 := Lib.hid (Fit.open HF7.out hq8)
  have Q8 := Lib.hid hq8; clear hq8 h7
  have U8 := Lib.hid (U7.out.trans u8); clear u8
  go_wp2_with fail
  refine (name_c h8 HF8.out.len).mono ?_
  rcases hq9 : nameP T en s8 with ⟨t, s9⟩ | ⟨cd, ps⟩ | _
  rotate_left
  · rintro e w9 ⟨rfl, u9⟩
    have Q9 := Lib.hid hq9; have V := Lib.hid (U8.out.trans u9); clear hq9 u9 h8
    go_wp2
    refine ⟨rfl, ?_⟩
    simp only [runP, B0.out, B1.out, B2.out, B3.out, B4.out, Q8.out, Q9.out, Res.bind_ok, Res.bind_bad, Bool.false_eq_true, reduceIte, putP]
    exact ⟨rfl, (V.out).to (fun k hk => .inl hk)⟩
  · exact fun e w9 h => h.elim
  rintro e w9 ⟨rfl, X9, nv9, h9, u9⟩
  have HF9 := Lib.hid (Fit.name HF8.out hq9)
  have Q9 := Lib.hid hq9; clear hq9 h8
  have U9 := Lib.hid (U8.out.trans u9); clear u9
  have Bt_10 : Hid ((w9.alloc (.cells #[.int .i64 t.kind, .int .i64 t.num, .int .i64 t.pos, .string t.text] 81)).heap[w9.heap.size]? = some (.cells #[.int .i64 t.kind, .int .i64 t.num, .int .i64 t.pos, .string t.text] 81 (0, 0))) := Lib.hid (heap_alloc_new _ _); have Btx_10 : Hid (¬ X9 w9.heap.size) := Lib.hid (fun e => by have := h9.high _ e; omega)
  have h10 := h9.alloc (.cells #[.int .i64 t.kind, .int .i64 t.num, .int .i64 t.pos, .string t.text] 81)
  have u10 : Upd w9 X9 _ X9 := (Upd.refl w9 X9).alloc (.cells #[.int .i64 t.kind, .int .i64 t.num, .int .i64 t.pos, .string t.text] 81)
  clear h9
  have U10 := Lib.hid (U9.out.trans u10); clear u10
  go_wp2_with fail
  refine (shut_c (⟨#[41]⟩ : ByteArray) h10 HF9.out.len HF9.out.deep).mono ?_
  rcases hq11 : shutP T en (⟨#[41]⟩ : ByteArray) s9 with ⟨u, s11⟩ | ⟨cd, ps⟩ | _
  rotate_left
  · rintro e w11 ⟨rfl, u11⟩
    have Q11 := Lib.hid hq11; have V := Lib.hid (U10.out.trans u11); clear hq11 u11 h10
    go_wp2
    refine ⟨rfl, ?_⟩
    simp only [runP, B0.out, B1.out, B2.out, B3.out, B4.out, Q8.out, Q9.out, Q11.out, Res.bind_ok, Res.bind_bad, Bool.false_eq_true, reduceIte, putP]
    exact ⟨rfl, (V.out).to (fun k hk => .inl hk)⟩
  · exact fun e w11 h => h.elim
  rintro e w11 ⟨rfl, X11, nv11, h11, u11⟩
  have HF11 := Lib.hid (Fit.shut HF9.out hq11)
  have Q11 := Lib.hid hq11; clear hq11 h10
  have Bt_11 := Lib.hid (u11.keep Bt_10.out Btx_10.out); have Btx_11 := Lib.hid (u11.notIn (lt_blk Bt_10.out) Btx_10.out)
  clear Bt_10 Btx_10
  have U11 := Lib.hid (U10.out.trans u11); clear u11
  go_wp2_with fail
  refine (take_c (⟨#[59]⟩ : ByteArray) h11 HF11.out.2).mono ?_
  rcases hq12 : takeP T en (⟨#[59]⟩ : ByteArray) s11 with ⟨a2, s12⟩ | ⟨cd, ps⟩ | _
  rotate_left
  · rintro e w12 ⟨rfl, u12⟩
    have Q12 := Lib.hid hq12; have V := Lib.hid (U11.out.trans u12); clear hq12 u12 h11
    go_wp2
    refine ⟨rfl, ?_⟩
    simp only [runP, B0.out, B1.out, B2.out, B3.out, B4.out, Q8.out, Q9.out, Q11.out, Q12.out, Res.bind_ok, Res.bind_bad, Bool.false_eq_true, reduceIte, putP]
    exact ⟨rfl, (V.out).to (fun k hk => .inl hk)⟩
  · exact fun e w12 h => h.elim
  rintro e w12 ⟨rfl, X12, nv12, h12, u12⟩
  have HF12 := Lib.hid (lim_take HF11.out hq12)
  have Q12 := Lib.hid hq12; clear hq12 h11
  have Bt_12 := Lib.hid (u12.keep Bt_11.out Btx_11.out); have Btx_12 := Lib.hid (u12.notIn (lt_blk Bt_11.out) Btx_11.out)
  clear Bt_11 Btx_11
  have U12 := Lib.hid (U11.out.trans u12); clear u12
  have Btc2 : w12.cell? ⟨w9.heap.size, 2, none⟩ = some (.int .i64 t.pos) := cell_blk Bt_12.out; have Btc3 : w12.cell? ⟨w9.heap.size, 3, none⟩ = some (.string t.text) := cell_blk Bt_12.out
  go_wp2_with fail
  refine (put_nil 12 _ _ _ h12 HF12.out.1).mono ?_
  rintro e w13 ⟨rfl, X13, nv13, h13, u13⟩
  have HP := Lib.hid h13; clear h12 h13
  have U13 := Lib.hid (U12.out.trans u13); clear u13
  go_wp2
  go_ret
  simp only [runP, B0.out, B1.out, B2.out, B3.out, B4.out, Q8.out, Q9.out, Q11.out, Q12.out, HTE.out, Res.bind_ok, Res.bind_bad, Bool.false_eq_true, reduceIte, putP]
  exact ⟨rfl, _, _, HP.out, U13.out⟩

end
end Go.Proofs.YtaklephcgepfjaaGreatDoor

/- The program's parser: statements, the others. (Lines of the walks: wip/tools/steps.py.) -/
namespace Go.Proofs.YtaklephcgepfjaaGreatDoor
open Go.RowKit

section
variable {w : World} {X : Nat → Prop} {bp : Nat} {la : Option Addr} {c : Nat} {T : List Tk} {en : Int} {s : PS} {nv : Value}

set_option maxRecDepth 100000 in
set_option maxHeartbeats 400000 in
theorem stmt_assign (n : Nat) (R : Ready bp la c T en n) (h : PR w X bp la c T en s nv) (hf : Fit T 0 s) (hne : runP T en (n + 1) .stmt s ≠ .out) (hb0 : isP T [(⟨#[105, 110, 116]⟩ : ByteArray)] s = false) (hb1 : isP T [(⟨#[105, 102]⟩ : ByteArray)] s = false) (hb2 : isP T [(⟨#[119, 104, 105, 108, 101]⟩ : ByteArray)] s = false) (hb3 : isP T [(⟨#[112, 114, 105, 110, 116]⟩ : ByteArray)] s = false) (hb4 : isP T [(⟨#[108, 111, 99, 107]⟩ : ByteArray), (⟨#[117, 110, 108, 111, 99, 107]⟩ : ByteArray)] s = false) (hb5 : isP T [(⟨#[102, 101, 110, 99, 101]⟩ : ByteArray)] s = false) :
    Calls Tryz.prog 75 #[.pointer (some ⟨bp, 0, none⟩)] w (Done w X bp la c T en (fun r : Int => .int .i64 r) (runP T en (n + 1) .stmt s)) := by
  have HN := Lib.hid hne; have HF := Lib.hid hf; have HBP := Lib.hid h.lt
  clear hne hf
  have B0 := Lib.hid hb0; clear hb0
  have B1 := Lib.hid hb1; clear hb1
  have B2 := Lib.hid hb2; clear hb2
  have B3 := Lib.hid hb3; clear hb3
  have B4 := Lib.hid hb4; clear hb4
  have B5 := Lib.hid hb5; clear hb5
  go_enter Tryz.func75, Tryz.ntmps75
  go_wp2_with fail
  refine (at_n h).mono ?_
  rintro e w1 ⟨rfl, h1, u1⟩
  clear h
  have U1 := Lib.hid u1; clear u1
  go_wp2_with fail
  refine (is_new [(⟨#[105, 110, 116]⟩ : ByteArray)] (by simp) h1).mono ?_
  rw [B0.out]
  rintro e w2 ⟨rfl, h2, u2⟩
  clear h1
  have U2 := Lib.hid (U1.out.trans u2); clear u2
  go_wp2_with fail
  refine (is_new [(⟨#[105, 102]⟩ : ByteArray)] (by simp) h2).mono ?_
  rw [B1.out]
  rintro e w3 ⟨rfl, h3, u3⟩
  clear h2
  have U3 := Lib.hid (U2.out.trans u3); clear u3
  go_wp2_with fail
  refine (is_new [(⟨#[119, 104, 105, 108, 101]⟩ : ByteArray)] (by simp) h3).mono ?_
  rw [B2.out]
  rintro e w4 ⟨rfl, h4, u4⟩
  clear h3
  have U4 := Lib.hid (U3.out.trans u4); clear u4
  go_wp2_with fail
  refine (is_new [(⟨#[112, 114, 105, 110, 116]⟩ : ByteArray)] (by simp) h4).mono ?_
  rw [B3.out]
  rintro e w5 ⟨rfl, h5, u5⟩
  clear h4
  have U5 := Lib.hid (U4.out.trans u5); clear u5
  go_wp2_with fail
  refine (is_new [(⟨#[108, 111, 99, 107]⟩ : ByteArray), (⟨#[117, 110, 108, 111, 99, 107]⟩ : ByteArray)] (by simp) h5).mono ?_
  rw [B4.out]
  rintro e w6 ⟨rfl, h6, u6⟩
  clear h5
  have U6 := Lib.hid (U5.out.trans u6); clear u6
  go_wp2_with fail
  refine (is_new [(⟨#[102, 101, 110, 99, 101]⟩ : ByteArray)] (by simp) h6).mono ?_
  rw [B5.out]
  rintro e w7 ⟨rfl, h7, u7⟩
  clear h6
  have U7 := Lib.hid (U6.out.trans u7); clear u7
  go_wp2_with fail
  refine (name_c h7 HF.out.len).mono ?_
  rcases hq8 : nameP T en s with ⟨t, s8⟩ | ⟨cd, ps⟩ | _
  rotate_left
  · rintro e w8 ⟨rfl, u8⟩
    have Q8 := Lib.hid hq8; have V := Lib.hid (U7.out.trans u8); clear hq8 u8 h7
    go_wp2
    refine ⟨rfl, ?_⟩
    simp only [runP, B0.out, B1.out, B2.out, B3.out, B4.out, B5.out, Q8.out, Res.bind_ok, Res.bind_bad, Bool.false_eq_true, reduceIte, putP]
    exact ⟨rfl, (V.out).to (fun k hk => .inl hk)⟩
  · exact fun e w8 h => h.elim
  rintro e w8 ⟨rfl, X8, nv8, h8, u8⟩
  have HF8 := Lib.hid (Fit.name HF.out hq8)
  have Q8 := Lib.hid hq8; clear hq8 h7
  have U8 := Lib.hid (U7.out.trans u8); clear u8
  have Bt_9 : Hid ((w8.alloc (.cells #[.int .i64 t.kind, .int .i64 t.num, .int .i64 t.pos, .string t.text] 81)).heap[w8.heap.size]? = some (.cells #[.int .i64 t.kind, .int .i64 t.num, .int .i64 t.pos, .string t.text] 81 (0, 0))) := Lib.hid (heap_alloc_new _ _); have Btx_9 : Hid (¬ X8 w8.heap.size) := Lib.hid (fun e => by have := h8.high _ e; omega)
  have h9 := h8.alloc (.cells #[.int .i64 t.kind, .int .i64 t.num, .int .i64 t.pos, .string t.text] 81)
  have u9 : Upd w8 X8 _ X8 := (Upd.refl w8 X8).alloc (.cells #[.int .i64 t.kind, .int .i64 t.num, .int .i64 t.pos, .string t.text] 81)
  clear h8
  have U9 := Lib.hid (U8.out.trans u9); clear u9
  go_wp2_with fail
  refine (take_c (⟨#[61]⟩ : ByteArray) h9 HF8.out.len).mono ?_
  rcases hq10 : takeP T en (⟨#[61]⟩ : ByteArray) s8 with ⟨a1, s10⟩ | ⟨cd, ps⟩ | _
  rotate_left
  · rintro e w10 ⟨rfl, u10⟩
    have Q10 := Lib.hid hq10; have V := Lib.hid (U9.out.trans u10); clear hq10 u10 h9
    go_wp2
    refine ⟨rfl, ?_⟩
    simp only [runP, B0.out, B1.out, B2.out, B3.out, B4.out, B5.out, Q8.out, Q10.out, Res.bind_ok, Res.bind_bad, Bool.false_eq_true, reduceIte, putP]
    exact ⟨rfl, (V.out).to (fun k hk => .inl hk)⟩
  · exact fun e w10 h => h.elim
  rintro e w10 ⟨rfl, X10, nv10, h10, u10⟩
  have HF10 := Lib.hid (Fit.take HF8.out hq10)
  have Q10 := Lib.hid hq10; clear hq10 h9
  have Bt_10 := Lib.hid (u10.keep Bt_9.out Btx_9.out); have Btx_10 := Lib.hid (u10.notIn (lt_blk Bt_9.out) Btx_9.out)
  clear Bt_9 Btx_9
  have U10 := Lib.hid (U9.out.trans u10); clear u10
  cases hbc : isP T [(⟨#[99, 97, 115]⟩ : ByteArray)] s10 with
  | false =>
    have BC := Lib.hid hbc; clear hbc
    go_wp2_with fail
    refine (is_new [(⟨#[99, 97, 115]⟩ : ByteArray)] (by simp) h10).mono ?_
    rw [BC.out]
    rintro e w11 ⟨rfl, h11, u11⟩
    clear h10
    have Bt_11 := Lib.hid (u11.keep Bt_10.out Btx_10.out); have Btx_11 := Lib.hid (u11.notIn (lt_blk Bt_10.out) Btx_10.out)
    clear Bt_10 Btx_10
    have U11 := Lib.hid (U10.out.trans u11); clear u11
    rcases hq12 : runP T en n (.expr 0) s10 with ⟨k, s12⟩ | ⟨cd, ps⟩ | _
    rotate_right
    · exact (HN.out (by simp only [runP, B0.out, B1.out, B2.out, B3.out, B4.out, B5.out, Q8.out, Q10.out, BC.out,  hq12, Res.bind_ok, Res.bind_out, Bool.false_eq_true, reduceIte, putP])).elim
    all_goals
      have C12 := R.expr0 _ _ _ s10 h11 HF10.out.zero (by rw [hq12]; simp)
      rw [hq12] at C12
      have D12 := Lib.hid C12; clear C12
      go_wp2_with fail
      refine D12.out.mono ?_
    rotate_left
    · rintro e w12 ⟨rfl, u12⟩
      have Q12 := Lib.hid hq12; have V := Lib.hid (U11.out.trans u12); clear hq12 u12 h11
      go_wp2
      refine ⟨rfl, ?_⟩
      simp only [runP, B0.out, B1.out, B2.out, B3.out, B4.out, B5.out, Q8.out, Q10.out, BC.out, Q12.out, Res.bind_ok, Res.bind_bad, Bool.false_eq_true, reduceIte, putP]
      exact ⟨rfl, (V.out).to (fun k hk => .inl hk)⟩
    rintro e w12 ⟨rfl, X12, nv12, h12, u12⟩
    have HF12 := Lib.hid (HF10.out.adv (runP_adv _ _ _ _ _ HF10.out.top hq12))
    have Q12 := Lib.hid hq12; clear hq12 h11 D12
    have Bt_12 := Lib.hid (u12.keep Bt_11.out Btx_11.out); have Btx_12 := Lib.hid (u12.notIn (lt_blk Bt_11.out) Btx_11.out)
    clear Bt_11 Btx_11
    have U12 := Lib.hid (U11.out.trans u12); clear u12
    go_wp2_with fail
    refine (take_c (⟨#[59]⟩ : ByteArray) h12 HF12.out.len).mono ?_
    rcases hq13 : takeP T en (⟨#[59]⟩ : ByteArray) s12 with ⟨a2, s13⟩ | ⟨cd, ps⟩ | _
    rotate_left
    · rintro e w13 ⟨rfl, u13⟩
      have Q13 := Lib.hid hq13; have V := Lib.hid (U12.out.trans u13); clear hq13 u13 h12
      go_wp2
      refine ⟨rfl, ?_⟩
      simp only [runP, B0.out, B1.out, B2.out, B3.out, B4.out, B5.out, Q8.out, Q10.out, BC.out, Q12.out, Q13.out, Res.bind_ok, Res.bind_bad, Bool.false_eq_true, reduceIte, putP]
      exact ⟨rfl, (V.out).to (fun k hk => .inl hk)⟩
    · exact fun e w13 h => h.elim
    rintro e w13 ⟨rfl, X13, nv13, h13, u13⟩
    have HF13 := Lib.hid (Fit.take HF12.out hq13)
    have Q13 := Lib.hid hq13; clear hq13 h12
    have Bt_13 := Lib.hid (u13.keep Bt_12.out Btx_12.out); have Btx_13 := Lib.hid (u13.notIn (lt_blk Bt_12.out) Btx_12.out)
    clear Bt_12 Btx_12
    have U13 := Lib.hid (U12.out.trans u13); clear u13
    have Btc2 : w13.cell? ⟨w8.heap.size, 2, none⟩ = some (.int .i64 t.pos) := cell_blk Bt_13.out; have Btc3 : w13.cell? ⟨w8.heap.size, 3, none⟩ = some (.string t.text) := cell_blk Bt_13.out
    go_wp2_with fail
    refine (put_new 7 _ _ _ [k] h13 HF13.out.few' (by simp)).mono ?_
    rintro e w14 ⟨rfl, X14, nv14, h14, u14⟩
    have HP := Lib.hid h14; clear h13 h14
    have U14 := Lib.hid (U13.out.trans u14); clear u14
    go_wp2
    go_ret
    simp only [runP, B0.out, B1.out, B2.out, B3.out, B4.out, B5.out, Q8.out, Q10.out, BC.out, Q12.out, Q13.out, Res.bind_ok, Res.bind_bad, Bool.false_eq_true, reduceIte, putP]
    exact ⟨rfl, _, _, HP.out, U14.out⟩
  | true =>
    have hic := isP_lt hbc
    have BC := Lib.hid hbc; clear hbc
    go_wp2_with fail
    refine (is_new [(⟨#[99, 97, 115]⟩ : ByteArray)] (by simp) h10).mono ?_
    rw [BC.out]
    rintro e w11 ⟨rfl, h11, u11⟩
    clear h10
    have Bt_11 := Lib.hid (u11.keep Bt_10.out Btx_10.out); have Btx_11 := Lib.hid (u11.notIn (lt_blk Bt_10.out) Btx_10.out)
    clear Bt_10 Btx_10
    have U11 := Lib.hid (U10.out.trans u11); clear u11
    have HCA : Hid (casP T en n s10 ≠ .out) := Lib.hid (fun e => HN.out (by
      simp only [runP, B0.out, B1.out, B2.out, B3.out, B4.out, B5.out, Q8.out, Q10.out, BC.out, Res.bind_ok, Bool.false_eq_true, reduceIte]
      have := cas_use T en n s10 (fun l s' => (takeP T en (⟨#[59]⟩ : ByteArray) s').bind fun _ s' => putP 8 (posP T en s) 0 t.text l s')
      rw [e] at this
      exact this.symm))
    rcases hq12 : casP T en n s10 with ⟨l, s12⟩ | ⟨cd, ps⟩ | _
    rotate_right
    · exact absurd hq12 HCA.out
    all_goals
      have C12 := cas_c n R h11 HF10.out.weak hic HCA.out
      rw [hq12] at C12
      have D12 := Lib.hid C12; clear C12
      go_wp2_with fail
      refine D12.out.mono ?_
    rotate_left
    · rintro e w12 ⟨rfl, u12⟩
      have Q12 := Lib.hid hq12; have V := Lib.hid (U11.out.trans u12); clear hq12 u12 h11
      go_wp2
      refine ⟨rfl, ?_⟩
      simp only [runP, B0.out, B1.out, B2.out, B3.out, B4.out, B5.out, Q8.out, Q10.out, BC.out, Res.bind_ok, Bool.false_eq_true, reduceIte]
      have := cas_use T en n s10 (fun l s' => (takeP T en (⟨#[59]⟩ : ByteArray) s').bind fun _ s' => putP 8 (posP T en s) 0 t.text l s')
      rw [Q12.out] at this
      rw [← this]
      exact ⟨rfl, V.out.to (fun k hk => .inl hk)⟩
    rintro e w12 ⟨va, vc, rfl, hrow, X12, nv12, hxr, h12, u12⟩
    have hlim := casP_lim HF10.out hq12
    have HLI := Lib.hid hlim; clear hlim
    have Q12 := Lib.hid hq12; clear hq12 h11 D12
    have Rl := Lib.hid hrow; have Rlx := Lib.hid (fun g hg => (⟨(hxr g hg).1, Nat.le_trans U11.out.size (hxr g hg).2⟩ : _ ∧ _)); clear hrow hxr
    have Bt_12 := Lib.hid (u12.keep Bt_11.out Btx_11.out); have Btx_12 := Lib.hid (u12.notIn (lt_blk Bt_11.out) Btx_11.out)
    clear Bt_11 Btx_11
    have U12 := Lib.hid (U11.out.trans u12); clear u12
    go_wp2_with fail
    refine (take_c (⟨#[59]⟩ : ByteArray) h12 HLI.out.2).mono ?_
    rcases hq13 : takeP T en (⟨#[59]⟩ : ByteArray) s12 with ⟨a3, s13⟩ | ⟨cd, ps⟩ | _
    rotate_left
    · rintro e w13 ⟨rfl, u13⟩
      have Q13 := Lib.hid hq13; have V := Lib.hid (U12.out.trans u13); clear hq13 u13 h12
      go_wp2
      refine ⟨rfl, ?_⟩
      simp only [runP, B0.out, B1.out, B2.out, B3.out, B4.out, B5.out, Q8.out, Q10.out, BC.out, Res.bind_ok, Bool.false_eq_true, reduceIte]
      rw [← cas_use T en n s10 (fun l s' => (takeP T en (⟨#[59]⟩ : ByteArray) s').bind fun _ s' => putP 8 (posP T en s) 0 t.text l s')]
      simp only [Q12.out, Q13.out, Res.bind_ok, Res.bind_bad, putP]
      exact ⟨rfl, (V.out).to (fun k hk => .inl hk)⟩
    · exact fun e w13 h => h.elim
    rintro e w13 ⟨rfl, X13, nv13, h13, u13⟩
    have HF13 := Lib.hid (lim_take HLI.out hq13)
    have Q13 := Lib.hid hq13; clear hq13 h12
    have Bt_13 := Lib.hid (u13.keep Bt_12.out Btx_12.out); have Btx_13 := Lib.hid (u13.notIn (lt_blk Bt_12.out) Btx_12.out)
    clear Bt_12 Btx_12
    have Rl_13 := Lib.hid (u13.ownsRow Rl.out (fun g hg => (Rlx.out g hg).1)); have Rlx_13 := Lib.hid (fun g hg => (⟨u13.notIn (Rl.out.lt g hg).2 (Rlx.out g hg).1, (Rlx.out g hg).2⟩ : _ ∧ _))
    clear Rl Rlx
    have U13 := Lib.hid (U12.out.trans u13); clear u13
    have Btc2 : w13.cell? ⟨w8.heap.size, 2, none⟩ = some (.int .i64 t.pos) := cell_blk Bt_13.out; have Btc3 : w13.cell? ⟨w8.heap.size, 3, none⟩ = some (.string t.text) := cell_blk Bt_13.out
    go_wp2_with fail
    refine (put_c 8 _ _ _ _ l h13 Rl_13.out (fun g hg => ⟨(Rlx_13.out g hg).1, by have := (Rlx_13.out g hg).2; have := HBP.out; omega⟩) HF13.out.1).mono ?_
    rintro e wz ⟨rfl, Xz, nvz, hz, uz⟩
    have HP := Lib.hid hz
    have UZ : Hid (Upd w X wz Xz) := Lib.hid (U13.out.andRow uz (fun g hg => (Rlx_13.out g hg).2))
    clear h13 hz uz
    go_wp2
    go_ret
    simp only [runP, B0.out, B1.out, B2.out, B3.out, B4.out, B5.out, Q8.out, Q10.out, BC.out, Res.bind_ok, Bool.false_eq_true, reduceIte]
    rw [← cas_use T en n s10 (fun l s' => (takeP T en (⟨#[59]⟩ : ByteArray) s').bind fun _ s' => putP 8 (posP T en s) 0 t.text l s')]
    simp only [Q12.out, Q13.out, Res.bind_ok, Res.bind_bad, putP]
    exact ⟨rfl, _, _, HP.out, UZ.out⟩

set_option maxRecDepth 100000 in
set_option maxHeartbeats 400000 in
theorem stmt_if (n : Nat) (R : Ready bp la c T en n) (h : PR w X bp la c T en s nv) (hf : Fit T 0 s) (hne : runP T en (n + 1) .stmt s ≠ .out) (hb0 : isP T [(⟨#[105, 110, 116]⟩ : ByteArray)] s = false) (hb1 : isP T [(⟨#[105, 102]⟩ : ByteArray)] s = true) :
    Calls Tryz.prog 75 #[.pointer (some ⟨bp, 0, none⟩)] w (Done w X bp la c T en (fun r : Int => .int .i64 r) (runP T en (n + 1) .stmt s)) := by
  have HN := Lib.hid hne; have HF := Lib.hid hf; have HBP := Lib.hid h.lt
  clear hne hf
  have hi := isP_lt hb1
  have B0 := Lib.hid hb0; clear hb0
  have B1 := Lib.hid hb1; clear hb1
  go_enter Tryz.func75, Tryz.ntmps75
  go_wp2_with fail
  refine (at_n h).mono ?_
  rintro e w1 ⟨rfl, h1, u1⟩
  clear h
  have U1 := Lib.hid u1; clear u1
  go_wp2_with fail
  refine (is_new [(⟨#[105, 110, 116]⟩ : ByteArray)] (by simp) h1).mono ?_
  rw [B0.out]
  rintro e w2 ⟨rfl, h2, u2⟩
  clear h1
  have U2 := Lib.hid (U1.out.trans u2); clear u2
  go_wp2_with fail
  refine (is_new [(⟨#[105, 102]⟩ : ByteArray)] (by simp) h2).mono ?_
  rw [B1.out]
  rintro e w3 ⟨rfl, h3, u3⟩
  clear h2
  have U3 := Lib.hid (U2.out.trans u3); clear u3
  go_wp2_with fail
  refine (next_c h3 HF.out.len hi).mono ?_
  rintro e w4 ⟨rfl, h4, u4⟩
  have HF4 := Lib.hid (HF.out.step hi)
  clear h3
  have U4 := Lib.hid (U3.out.trans u4); clear u4
  rcases hq5 : runP T en n .held (stepP s) with ⟨k, s5⟩ | ⟨cd, ps⟩ | _
  rotate_right
  · exact (HN.out (by simp only [runP, B0.out, B1.out,  hq5, Res.bind_ok, Res.bind_out, Bool.false_eq_true, reduceIte, putP])).elim
  all_goals
    have C5 := R.held _ _ _ (stepP s) h4 HF4.out.zero (by rw [hq5]; simp)
    rw [hq5] at C5
    have D5 := Lib.hid C5; clear C5
    go_wp2_with fail
    refine D5.out.mono ?_
  rotate_left
  · rintro e w5 ⟨rfl, u5⟩
    have Q5 := Lib.hid hq5; have V := Lib.hid (U4.out.trans u5); clear hq5 u5 h4
    go_wp2
    refine ⟨rfl, ?_⟩
    simp only [runP, B0.out, B1.out, Q5.out, Res.bind_ok, Res.bind_bad, Bool.false_eq_true, reduceIte, putP]
    exact ⟨rfl, (V.out).to (fun k hk => .inl hk)⟩
  rintro e w5 ⟨rfl, X5, nv5, h5, u5⟩
  have HF5 := Lib.hid (HF4.out.adv (runP_adv _ _ _ _ _ HF4.out.top hq5))
  have Q5 := Lib.hid hq5; clear hq5 h4 D5
  have U5 := Lib.hid (U4.out.trans u5); clear u5
  rcases hq6 : runP T en n .block s5 with ⟨b, s6⟩ | ⟨cd, ps⟩ | _
  rotate_right
  · exact (HN.out (by simp only [runP, B0.out, B1.out, Q5.out,  hq6, Res.bind_ok, Res.bind_out, Bool.false_eq_true, reduceIte, putP])).elim
  all_goals
    have C6 := R.block _ _ _ s5 h5 HF5.out.zero (by rw [hq6]; simp)
    rw [hq6] at C6
    have D6 := Lib.hid C6; clear C6
    go_wp2_with fail
    refine D6.out.mono ?_
  rotate_left
  · rintro e w6 ⟨rfl, u6⟩
    have Q6 := Lib.hid hq6; have V := Lib.hid (U5.out.trans u6); clear hq6 u6 h5
    go_wp2
    refine ⟨rfl, ?_⟩
    simp only [runP, B0.out, B1.out, Q5.out, Q6.out, Res.bind_ok, Res.bind_bad, Bool.false_eq_true, reduceIte, putP]
    exact ⟨rfl, (V.out).to (fun k hk => .inl hk)⟩
  rintro e w6 ⟨rfl, X6, nv6, h6, u6⟩
  have HF6 := Lib.hid (HF5.out.adv (runP_adv _ _ _ _ _ HF5.out.top hq6))
  have Q6 := Lib.hid hq6; clear hq6 h5 D6
  have U6 := Lib.hid (U5.out.trans u6); clear u6
  have r0 : (w6.alloc (.cells #[.int .i64 k, .int .i64 b] 3)).ownsRow 0 3 1 (.slice (some ⟨w6.heap.size, 0, none⟩) 2 2) 2 [.int .i64 k, .int .i64 b] := ⟨by simp, .inr ⟨w6.heap.size, 2, _, rfl, Nat.zero_le _, heap_alloc_new _ _, Nat.le_refl _, by unfold maxLen; omega, by simp, by simp⟩⟩
  have x0 : ∀ g, (Value.slice (some ⟨w6.heap.size, 0, none⟩) 2 2).ownBlock = some g → ¬ X6 g ∧ w.heap.size ≤ g := fun g hg => by
    simp only [Value.ownBlock, Option.some.injEq] at hg
    exact ⟨fun e => by have := h6.high _ e; omega, by have := U6.out.size; omega⟩
  have Rk := Lib.hid r0; have Rkx := Lib.hid x0; clear r0 x0
  have h7 := h6.alloc (.cells #[.int .i64 k, .int .i64 b] 3)
  have u7 : Upd w6 X6 _ X6 := (Upd.refl w6 X6).alloc (.cells #[.int .i64 k, .int .i64 b] 3)
  clear h6
  have U7 := Lib.hid (U6.out.trans u7); clear u7
  cases hbc : isP T [(⟨#[101, 108, 115, 101]⟩ : ByteArray)] s6 with
  | false =>
    have BC := Lib.hid hbc; clear hbc
    go_wp2_with fail
    refine (is_newb _ (by simp) [(⟨#[101, 108, 115, 101]⟩ : ByteArray)] (by simp) h7).mono ?_
    rw [BC.out]
    rintro e w8 ⟨rfl, h8, u8⟩
    clear h7
    have Rk_8 := Lib.hid (u8.ownsRow Rk.out (fun g hg => (Rkx.out g hg).1)); have Rkx_8 := Lib.hid (fun g hg => (⟨u8.notIn (Rk.out.lt g hg).2 (Rkx.out g hg).1, (Rkx.out g hg).2⟩ : _ ∧ _))
    clear Rk Rkx
    have U8 := Lib.hid (U7.out.trans u8); clear u8
    go_wp2_with fail
    refine (put_c 9 _ _ _ _ [k, b] h8 Rk_8.out (fun g hg => ⟨(Rkx_8.out g hg).1, by have := (Rkx_8.out g hg).2; have := HBP.out; omega⟩) HF6.out.few').mono ?_
    rintro e wz ⟨rfl, Xz, nvz, hz, uz⟩
    have HP := Lib.hid hz
    have UZ : Hid (Upd w X wz Xz) := Lib.hid (U8.out.andRow uz (fun g hg => (Rkx_8.out g hg).2))
    clear h8 hz uz
    go_wp2
    go_ret
    simp only [runP, B0.out, B1.out, Q5.out, Q6.out, BC.out, Res.bind_ok, Res.bind_bad, Bool.false_eq_true, reduceIte, putP]
    exact ⟨rfl, _, _, HP.out, UZ.out⟩
  | true =>
    have hic := isP_lt hbc
    have BC := Lib.hid hbc; clear hbc
    go_wp2_with fail
    refine (is_newb _ (by simp) [(⟨#[101, 108, 115, 101]⟩ : ByteArray)] (by simp) h7).mono ?_
    rw [BC.out]
    rintro e w8 ⟨rfl, h8, u8⟩
    clear h7
    have Rk_8 := Lib.hid (u8.ownsRow Rk.out (fun g hg => (Rkx.out g hg).1)); have Rkx_8 := Lib.hid (fun g hg => (⟨u8.notIn (Rk.out.lt g hg).2 (Rkx.out g hg).1, (Rkx.out g hg).2⟩ : _ ∧ _))
    clear Rk Rkx
    have U8 := Lib.hid (U7.out.trans u8); clear u8
    go_wp2_with fail
    refine (next_c h8 HF6.out.len hic).mono ?_
    rintro e w9 ⟨rfl, h9, u9⟩
    have HF9 := Lib.hid (HF6.out.step hic)
    clear h8
    have Rk_9 := Lib.hid (u9.ownsRow Rk_8.out (fun g hg => (Rkx_8.out g hg).1)); have Rkx_9 := Lib.hid (fun g hg => (⟨u9.notIn (Rk_8.out.lt g hg).2 (Rkx_8.out g hg).1, (Rkx_8.out g hg).2⟩ : _ ∧ _))
    clear Rk_8 Rkx_8
    have U9 := Lib.hid (U8.out.trans u9); clear u9
    rcases hq10 : runP T en n .block (stepP s6) with ⟨d, s10⟩ | ⟨cd, ps⟩ | _
    rotate_right
    · exact (HN.out (by simp only [runP, B0.out, B1.out, Q5.out, Q6.out, BC.out,  hq10, Res.bind_ok, Res.bind_out, Bool.false_eq_true, reduceIte, putP])).elim
    all_goals
      have C10 := R.block _ _ _ (stepP s6) h9 HF9.out.zero (by rw [hq10]; simp)
      rw [hq10] at C10
      have D10 := Lib.hid C10; clear C10
      go_wp2_with fail
      refine D10.out.mono ?_
    rotate_left
    · rintro e w10 ⟨rfl, u10⟩
      have Q10 := Lib.hid hq10; have V := Lib.hid (U9.out.trans u10); clear hq10 u10 h9
      go_wp2
      refine ⟨rfl, ?_⟩
      simp only [runP, B0.out, B1.out, Q5.out, Q6.out, BC.out, Q10.out, Res.bind_ok, Res.bind_bad, Bool.false_eq_true, reduceIte, putP]
      exact ⟨rfl, (V.out).to (fun k hk => .inl hk)⟩
    rintro e w10 ⟨rfl, X10, nv10, h10, u10⟩
    have HF10 := Lib.hid (HF9.out.adv (runP_adv _ _ _ _ _ HF9.out.top hq10))
    have Q10 := Lib.hid hq10; clear hq10 h9 D10
    have Rk_10 := Lib.hid (u10.ownsRow Rk_9.out (fun g hg => (Rkx_9.out g hg).1)); have Rkx_10 := Lib.hid (fun g hg => (⟨u10.notIn (Rk_9.out.lt g hg).2 (Rkx_9.out g hg).1, (Rkx_9.out g hg).2⟩ : _ ∧ _))
    clear Rk_9 Rkx_9
    have U10 := Lib.hid (U9.out.trans u10); clear u10
    obtain ⟨i0, hi0, hz0, hz1, hz2⟩ := info_parts Tryz.infoInt
    have hrow := Rk_10.out
    go_wp2_with (at_builtin; refine wpList_app _ rfl _ _ 30 rfl 3 i0 (.int .i64 0) 1 8 Tryz.underlying30 hi0 hz0 hz1 hz2 rfl (by decide) _ _ _ rfl (hrow.alloc _) ⟨w10.heap.size, 0, none⟩ 1 1 [.int .i64 d] rfl rfl ?c1 ?c2 ?c3 ?c4 ?_)
    case c1 => exact news_new w10 _ _
    case c2 => simp [Value.oneCell']
    case c3 => unfold maxLen; omega
    case c4 => omega
    intro v' wy hown hgrow hv
    obtain ⟨va, vc, rfl⟩ := slice_of_row hown
    obtain ⟨hp, hu, hx⟩ := app_left h10 U10.out HBP.out Rkx_10.out hgrow hv
    have Ry := Lib.hid hown; have Ryx := Lib.hid hx; have UY := Lib.hid hu
    clear hown hgrow hv hx hu hrow hi0 hz0 hz1 hz2 h10
    go_wp2_with fail
    refine (put_c 9 _ _ _ _ [k, b, d] hp Ry.out (fun g hg => ⟨(Ryx.out g hg).1, by have := (Ryx.out g hg).2; have := HBP.out; omega⟩) HF10.out.few').mono ?_
    rintro e wz ⟨rfl, Xz, nvz, hz, uz⟩
    have HP := Lib.hid hz
    have UZ : Hid (Upd w X wz Xz) := Lib.hid (UY.out.andRow uz (fun g hg => (Ryx.out g hg).2))
    clear hp hz uz
    go_wp2
    go_ret
    simp only [runP, B0.out, B1.out, Q5.out, Q6.out, BC.out, Q10.out, Res.bind_ok, Res.bind_bad, Bool.false_eq_true, reduceIte, putP]
    exact ⟨rfl, _, _, HP.out, UZ.out⟩

end
end Go.Proofs.YtaklephcgepfjaaGreatDoor

/- The program's parser: every statement; globals. (Lines of the walks: wip/tools/steps.py.) -/
namespace Go.Proofs.YtaklephcgepfjaaGreatDoor
open Go.RowKit

section
variable {w : World} {X : Nat → Prop} {bp : Nat} {la : Option Addr} {c : Nat} {T : List Tk} {en : Int} {s : PS} {nv : Value}

theorem stmt_c (n : Nat) (R : Ready bp la c T en n) (h : PR w X bp la c T en s nv) (hf : Fit T 0 s) (hne : runP T en (n + 1) .stmt s ≠ .out) :
    Calls Tryz.prog 75 #[.pointer (some ⟨bp, 0, none⟩)] w (Done w X bp la c T en (fun r : Int => .int .i64 r) (runP T en (n + 1) .stmt s)) := by
  cases hb0 : isP T [(⟨#[105, 110, 116]⟩ : ByteArray)] s with
  | true => exact stmt_int n R h hf hne hb0
  | false =>
  cases hb1 : isP T [(⟨#[105, 102]⟩ : ByteArray)] s with
  | true => exact stmt_if n R h hf hne hb0 hb1
  | false =>
  cases hb2 : isP T [(⟨#[119, 104, 105, 108, 101]⟩ : ByteArray)] s with
  | true => exact stmt_while n R h hf hne hb0 hb1 hb2
  | false =>
  cases hb3 : isP T [(⟨#[112, 114, 105, 110, 116]⟩ : ByteArray)] s with
  | true => exact stmt_print n R h hf hne hb0 hb1 hb2 hb3
  | false =>
  cases hb4 : isP T [(⟨#[108, 111, 99, 107]⟩ : ByteArray), (⟨#[117, 110, 108, 111, 99, 107]⟩ : ByteArray)] s with
  | true =>
    by_cases ht : (tokP T s).text = (⟨#[117, 110, 108, 111, 99, 107]⟩ : ByteArray)
    · exact stmt_unlock n R h hf hne hb0 hb1 hb2 hb3 hb4 ht
    · exact stmt_lock n R h hf hne hb0 hb1 hb2 hb3 hb4 ht
  | false =>
  cases hb5 : isP T [(⟨#[102, 101, 110, 99, 101]⟩ : ByteArray)] s with
  | true => exact stmt_fence n R h hf hne hb0 hb1 hb2 hb3 hb4 hb5
  | false => exact stmt_assign n R h hf hne hb0 hb1 hb2 hb3 hb4 hb5
end

theorem ready (bp : Nat) (la : Option Addr) (c : Nat) (T : List Tk) (en : Int) (n : Nat) : ∀ m, m ≤ n → Ready bp la c T en m := by
  induction n with
  | zero =>
    intro m hm
    obtain rfl : m = 0 := by omega
    exact ⟨fun _ _ _ _ _ _ _ _ _ _ h => absurd rfl h, fun _ _ _ _ _ _ h => absurd rfl h, fun _ _ _ _ _ _ h => absurd rfl h, fun _ _ _ _ _ _ h => absurd rfl h, fun _ _ _ _ _ _ h => absurd rfl h⟩
  | succ n ih =>
    intro m hm
    rcases Nat.lt_or_ge n m with h | h
    · obtain rfl : m = n + 1 := by omega
      have R := ih n (Nat.le_refl n)
      refine ⟨fun w X nv s k kk hk hk5 h hf hne => ?_, fun w X nv s h hf hne => unary_c n R h hf hne, fun w X nv s h hf hne => held_c n R h hf hne, fun w X nv s h hf hne => block_c n ih h hf hne, fun w X nv s h hf hne => stmt_c n R h hf hne⟩
      subst hk
      by_cases h5 : k = 5
      · subst h5
        exact expr_5 n R h hf hne
      · exact expr_lt n k (by omega) ih h hf hne
    · exact ih m h

section
variable {w : World} {X : Nat → Prop} {bp : Nat} {la : Option Addr} {c : Nat} {T : List Tk} {en : Int} {s : PS} {nv : Value}

set_option maxRecDepth 100000 in
set_option maxHeartbeats 400000 in
theorem global_lock (h : PR w X bp la c T en s nv) (hf : Fit T 0 s) (hb0 : isP T [(⟨#[108, 111, 99, 107]⟩ : ByteArray)] s = true) :
    Calls Tryz.prog 35 #[.pointer (some ⟨bp, 0, none⟩)] w (Done w X bp la c T en (fun r : Int => .int .i64 r) (globalP T en s)) := by
  have HF := Lib.hid hf
  clear hf
  have hi := isP_lt hb0
  have B0 := Lib.hid hb0; clear hb0
  have hfa := fld_at
  go_enter Tryz.func35, Tryz.ntmps35
  go_wp2_with fail
  refine (is_new [(⟨#[108, 111, 99, 107]⟩ : ByteArray)] (by simp) h).mono ?_
  rw [B0.out]
  rintro e w1 ⟨rfl, h1, u1⟩
  clear h
  have U1 := Lib.hid u1; clear u1
  go_wp2_with fail
  refine (next_c h1 HF.out.len hi).mono ?_
  rintro e w2 ⟨rfl, h2, u2⟩
  have HF2 := Lib.hid (HF.out.step hi)
  clear h1
  have U2 := Lib.hid (U1.out.trans u2); clear u2
  go_wp2_with fail
  refine (name_c h2 HF2.out.len).mono ?_
  rcases hq3 : nameP T en (stepP s) with ⟨t, s3⟩ | ⟨cd, ps⟩ | _
  rotate_left
  · rintro e w3 ⟨rfl, u3⟩
    have Q3 := Lib.hid hq3; have V := Lib.hid (U2.out.trans u3); clear hq3 u3 h2
    go_wp2
    refine ⟨rfl, ?_⟩
    simp only [globalP, B0.out, Q3.out, Res.bind_ok, Res.bind_bad, Bool.false_eq_true, reduceIte, putP]
    exact ⟨rfl, (V.out).to (fun k hk => .inl hk)⟩
  · exact fun e w3 h => h.elim
  rintro e w3 ⟨rfl, X3, nv3, h3, u3⟩
  have HF3 := Lib.hid (Fit.name HF2.out hq3)
  have Q3 := Lib.hid hq3; clear hq3 h2
  have U3 := Lib.hid (U2.out.trans u3); clear u3
  have Bt_4 : Hid ((w3.alloc (.cells #[.int .i64 t.kind, .int .i64 t.num, .int .i64 t.pos, .string t.text] 81)).heap[w3.heap.size]? = some (.cells #[.int .i64 t.kind, .int .i64 t.num, .int .i64 t.pos, .string t.text] 81 (0, 0))) := Lib.hid (heap_alloc_new _ _); have Btx_4 : Hid (¬ X3 w3.heap.size) := Lib.hid (fun e => by have := h3.high _ e; omega)
  have h4 := h3.alloc (.cells #[.int .i64 t.kind, .int .i64 t.num, .int .i64 t.pos, .string t.text] 81)
  have u4 : Upd w3 X3 _ X3 := (Upd.refl w3 X3).alloc (.cells #[.int .i64 t.kind, .int .i64 t.num, .int .i64 t.pos, .string t.text] 81)
  clear h3
  have U4 := Lib.hid (U3.out.trans u4); clear u4
  go_wp2_with fail
  refine (take_c (⟨#[59]⟩ : ByteArray) h4 HF3.out.len).mono ?_
  rcases hq5 : takeP T en (⟨#[59]⟩ : ByteArray) s3 with ⟨a2, s5⟩ | ⟨cd, ps⟩ | _
  rotate_left
  · rintro e w5 ⟨rfl, u5⟩
    have Q5 := Lib.hid hq5; have V := Lib.hid (U4.out.trans u5); clear hq5 u5 h4
    go_wp2
    refine ⟨rfl, ?_⟩
    simp only [globalP, B0.out, Q3.out, Q5.out, Res.bind_ok, Res.bind_bad, Bool.false_eq_true, reduceIte, putP]
    exact ⟨rfl, (V.out).to (fun k hk => .inl hk)⟩
  · exact fun e w5 h => h.elim
  rintro e w5 ⟨rfl, X5, nv5, h5, u5⟩
  have HF5 := Lib.hid (Fit.take HF3.out hq5)
  have Q5 := Lib.hid hq5; clear hq5 h4
  have Bt_5 := Lib.hid (u5.keep Bt_4.out Btx_4.out); have Btx_5 := Lib.hid (u5.notIn (lt_blk Bt_4.out) Btx_4.out)
  clear Bt_4 Btx_4
  have U5 := Lib.hid (U4.out.trans u5); clear u5
  have Btc2 : w5.cell? ⟨w3.heap.size, 2, none⟩ = some (.int .i64 t.pos) := cell_blk Bt_5.out; have Btc3 : w5.cell? ⟨w3.heap.size, 3, none⟩ = some (.string t.text) := cell_blk Bt_5.out
  go_wp2_with fail
  refine (put_nil 3 _ _ _ h5 HF5.out.few').mono ?_
  rintro e w6 ⟨rfl, X6, nv6, h6, u6⟩
  have HP := Lib.hid h6; clear h5 h6
  have U6 := Lib.hid (U5.out.trans u6); clear u6
  go_wp2
  go_ret
  simp only [globalP, B0.out, Q3.out, Q5.out, Res.bind_ok, Res.bind_bad, Bool.false_eq_true, reduceIte, putP]
  exact ⟨rfl, _, _, HP.out, U6.out⟩

theorem tok_mem (hi : s.i < T.length) : tokP T s ∈ T := by
  simp only [tokP, List.getD_eq_getElem?_getD, List.getElem?_eq_getElem hi, Option.getD_some]
  exact List.getElem_mem hi

set_option maxRecDepth 100000 in
set_option maxHeartbeats 400000 in
theorem global_int (h : PR w X bp la c T en s nv) (hf : Fit T 0 s) (hb0 : isP T [(⟨#[108, 111, 99, 107]⟩ : ByteArray)] s = false) (hT : ∀ t ∈ T, 0 ≤ t.num ∧ t.num ≤ 999999999) :
    Calls Tryz.prog 35 #[.pointer (some ⟨bp, 0, none⟩)] w (Done w X bp la c T en (fun r : Int => .int .i64 r) (globalP T en s)) := by
  have HF := Lib.hid hf
  clear hf
  have B0 := Lib.hid hb0; clear hb0
  go_enter Tryz.func35, Tryz.ntmps35
  go_wp2_with fail
  refine (is_new [(⟨#[108, 111, 99, 107]⟩ : ByteArray)] (by simp) h).mono ?_
  rw [B0.out]
  rintro e w1 ⟨rfl, h1, u1⟩
  clear h
  have U1 := Lib.hid u1; clear u1
  go_wp2_with fail
  refine (take_c (⟨#[105, 110, 116]⟩ : ByteArray) h1 HF.out.len).mono ?_
  rcases hq2 : takeP T en (⟨#[105, 110, 116]⟩ : ByteArray) s with ⟨a0, s2⟩ | ⟨cd, ps⟩ | _
  rotate_left
  · rintro e w2 ⟨rfl, u2⟩
    have Q2 := Lib.hid hq2; have V := Lib.hid (U1.out.trans u2); clear hq2 u2 h1
    go_wp2
    refine ⟨rfl, ?_⟩
    simp only [globalP, B0.out, Q2.out, Res.bind_ok, Res.bind_bad, Bool.false_eq_true, reduceIte, putP]
    exact ⟨rfl, (V.out).to (fun k hk => .inl hk)⟩
  · exact fun e w2 h => h.elim
  rintro e w2 ⟨rfl, X2, nv2, h2, u2⟩
  have HF2 := Lib.hid (Fit.take HF.out hq2)
  have Q2 := Lib.hid hq2; clear hq2 h1
  have U2 := Lib.hid (U1.out.trans u2); clear u2
  go_wp2_with fail
  refine (name_c h2 HF2.out.len).mono ?_
  rcases hq3 : nameP T en s2 with ⟨t, s3⟩ | ⟨cd, ps⟩ | _
  rotate_left
  · rintro e w3 ⟨rfl, u3⟩
    have Q3 := Lib.hid hq3; have V := Lib.hid (U2.out.trans u3); clear hq3 u3 h2
    go_wp2
    refine ⟨rfl, ?_⟩
    simp only [globalP, B0.out, Q2.out, Q3.out, Res.bind_ok, Res.bind_bad, Bool.false_eq_true, reduceIte, putP]
    exact ⟨rfl, (V.out).to (fun k hk => .inl hk)⟩
  · exact fun e w3 h => h.elim
  rintro e w3 ⟨rfl, X3, nv3, h3, u3⟩
  have HF3 := Lib.hid (Fit.name HF2.out hq3)
  have Q3 := Lib.hid hq3; clear hq3 h2
  have U3 := Lib.hid (U2.out.trans u3); clear u3
  have Bt_4 : Hid ((w3.alloc (.cells #[.int .i64 t.kind, .int .i64 t.num, .int .i64 t.pos, .string t.text] 81)).heap[w3.heap.size]? = some (.cells #[.int .i64 t.kind, .int .i64 t.num, .int .i64 t.pos, .string t.text] 81 (0, 0))) := Lib.hid (heap_alloc_new _ _); have Btx_4 : Hid (¬ X3 w3.heap.size) := Lib.hid (fun e => by have := h3.high _ e; omega)
  have h4 := h3.alloc (.cells #[.int .i64 t.kind, .int .i64 t.num, .int .i64 t.pos, .string t.text] 81)
  have u4 : Upd w3 X3 _ X3 := (Upd.refl w3 X3).alloc (.cells #[.int .i64 t.kind, .int .i64 t.num, .int .i64 t.pos, .string t.text] 81)
  clear h3
  have U4 := Lib.hid (U3.out.trans u4); clear u4
  cases be : isP T [(⟨#[61]⟩ : ByteArray)] s3 with
  | false =>
    have Hbe := Lib.hid be; clear be
    go_wp2_with fail
    refine (is_newb _ (by simp) [(⟨#[61]⟩ : ByteArray)] (by simp) h4).mono ?_
    rw [Hbe.out]
    rintro e w5 ⟨rfl, h5, u5⟩
    clear h4
    have Bt_5 := Lib.hid (u5.keep Bt_4.out Btx_4.out); have Btx_5 := Lib.hid (u5.notIn (lt_blk Bt_4.out) Btx_4.out)
    clear Bt_4 Btx_4
    have U5 := Lib.hid (U4.out.trans u5); clear u5
    go_wp2_with fail
    refine (take_c (⟨#[59]⟩ : ByteArray) h5 HF3.out.len).mono ?_
    rcases hq6 : takeP T en (⟨#[59]⟩ : ByteArray) s3 with ⟨a9, s6⟩ | ⟨cd, ps⟩ | _
    rotate_left
    · rintro e w6 ⟨rfl, u6⟩
      have Q6 := Lib.hid hq6; have V := Lib.hid (U5.out.trans u6); clear hq6 u6 h5
      go_wp2
      refine ⟨rfl, ?_⟩
      simp only [globalP, B0.out, Q2.out, Q3.out, Hbe.out, Q6.out, Res.bind_ok, Res.bind_bad, Bool.false_eq_true, reduceIte, putP]
      exact ⟨rfl, (V.out).to (fun k hk => .inl hk)⟩
    · exact fun e w6 h => h.elim
    rintro e w6 ⟨rfl, X6, nv6, h6, u6⟩
    have HF6 := Lib.hid (Fit.take HF3.out hq6)
    have Q6 := Lib.hid hq6; clear hq6 h5
    have Bt_6 := Lib.hid (u6.keep Bt_5.out Btx_5.out); have Btx_6 := Lib.hid (u6.notIn (lt_blk Bt_5.out) Btx_5.out)
    clear Bt_5 Btx_5
    have U6 := Lib.hid (U5.out.trans u6); clear u6
    have Btc2 : w6.cell? ⟨w3.heap.size, 2, none⟩ = some (.int .i64 t.pos) := cell_blk Bt_6.out; have Btc3 : w6.cell? ⟨w3.heap.size, 3, none⟩ = some (.string t.text) := cell_blk Bt_6.out
    go_wp2_with fail
    refine (put_nil 2 _ _ _ h6 HF6.out.few').mono ?_
    rintro e w7 ⟨rfl, X7, nv7, h7, u7⟩
    have HP := Lib.hid h7; clear h6 h7
    have U7 := Lib.hid (U6.out.trans u7); clear u7
    go_wp2
    go_ret
    simp only [globalP, B0.out, Q2.out, Q3.out, Hbe.out, Q6.out, Res.bind_ok, Res.bind_bad, Bool.false_eq_true, reduceIte, putP]
    exact ⟨rfl, _, _, HP.out, U7.out⟩
  | true =>
    have Hbe := Lib.hid be; clear be
    have hi := isP_lt Hbe.out
    go_wp2_with fail
    refine (is_newb _ (by simp) [(⟨#[61]⟩ : ByteArray)] (by simp) h4).mono ?_
    rw [Hbe.out]
    rintro e w5 ⟨rfl, h5, u5⟩
    clear h4
    have Bt_5 := Lib.hid (u5.keep Bt_4.out Btx_4.out); have Btx_5 := Lib.hid (u5.notIn (lt_blk Bt_4.out) Btx_4.out)
    clear Bt_4 Btx_4
    have U5 := Lib.hid (U4.out.trans u5); clear u5
    go_wp2_with fail
    refine (next_c h5 HF3.out.len hi).mono ?_
    rintro e w6 ⟨rfl, h6, u6⟩
    have HF6 := Lib.hid (HF3.out.step hi)
    clear h5
    have Bt_6 := Lib.hid (u6.keep Bt_5.out Btx_5.out); have Btx_6 := Lib.hid (u6.notIn (lt_blk Bt_5.out) Btx_5.out)
    clear Bt_5 Btx_5
    have U6 := Lib.hid (U5.out.trans u6); clear u6
    cases bm : isP T [(⟨#[45]⟩ : ByteArray)] (stepP s3) with
    | false =>
      have Hbm := Lib.hid bm; clear bm
      go_wp2_with fail
      refine (is_new [(⟨#[45]⟩ : ByteArray)] (by simp) h6).mono ?_
      rw [Hbm.out]
      rintro e w7 ⟨rfl, h7, u7⟩
      clear h6
      have Bt_7 := Lib.hid (u7.keep Bt_6.out Btx_6.out); have Btx_7 := Lib.hid (u7.notIn (lt_blk Bt_6.out) Btx_6.out)
      clear Bt_6 Btx_6
      have U7 := Lib.hid (U6.out.trans u7); clear u7
      cases bk : kindP T 3 (stepP s3) with
      | false =>
        have Hbk := Lib.hid bk; clear bk
        go_wp2_with fail
        refine (kind_n 3 h7).mono ?_
        rw [Hbk.out]
        rintro e w8 ⟨rfl, h8, u8⟩
        clear h7
        have Bt_8 := Lib.hid (u8.keep Bt_7.out Btx_7.out); have Btx_8 := Lib.hid (u8.notIn (lt_blk Bt_7.out) Btx_7.out)
        clear Bt_7 Btx_7
        have U8 := Lib.hid (U7.out.trans u8); clear u8
        go_wp2_with fail
        refine (fail_c (fun r : Int => .int .i64 r) 5 h8).mono ?_
        rintro e wz ⟨rfl, uz⟩
        have V := Lib.hid (U8.out.trans uz); clear uz h8
        go_wp2
        refine ⟨rfl, ?_⟩
        simp only [globalP, B0.out, Q2.out, Q3.out, Hbe.out, Hbm.out, Hbk.out, Res.bind_ok, Res.bind_bad, Bool.false_eq_true, reduceIte, putP, failP]
        exact ⟨rfl, V.out.to (fun k hk => .inl hk)⟩
      | true =>
        have Hbk := Lib.hid bk; clear bk
        have hk := kindP_lt Hbk.out
        have hfn := fld_num
        have hn1 := (hT _ (tok_mem hk)).1; have hn2 := (hT _ (tok_mem hk)).2
        go_wp2_with fail
        refine (kind_n 3 h7).mono ?_
        rw [Hbk.out]
        rintro e w8 ⟨rfl, h8, u8⟩
        clear h7
        have Bt_8 := Lib.hid (u8.keep Bt_7.out Btx_7.out); have Btx_8 := Lib.hid (u8.notIn (lt_blk Bt_7.out) Btx_7.out)
        clear Bt_7 Btx_7
        have U8 := Lib.hid (U7.out.trans u8); clear u8
        go_wp2_with fail
        refine (next_c h8 HF6.out.len hk).mono ?_
        rintro e w9 ⟨rfl, h9, u9⟩
        have HF9 := Lib.hid (HF6.out.step hk)
        clear h8
        have Bt_9 := Lib.hid (u9.keep Bt_8.out Btx_8.out); have Btx_9 := Lib.hid (u9.notIn (lt_blk Bt_8.out) Btx_8.out)
        clear Bt_8 Btx_8
        have U9 := Lib.hid (U8.out.trans u9); clear u9
        go_wp2_with fail
        refine (take_c (⟨#[59]⟩ : ByteArray) h9 HF9.out.len).mono ?_
        rcases hq10 : takeP T en (⟨#[59]⟩ : ByteArray) (stepP (stepP s3)) with ⟨a9, s10⟩ | ⟨cd, ps⟩ | _
        rotate_left
        · rintro e w10 ⟨rfl, u10⟩
          have Q10 := Lib.hid hq10; have V := Lib.hid (U9.out.trans u10); clear hq10 u10 h9
          go_wp2
          refine ⟨rfl, ?_⟩
          simp only [globalP, B0.out, Q2.out, Q3.out, Hbe.out, Hbm.out, Hbk.out, Q10.out, Res.bind_ok, Res.bind_bad, Bool.false_eq_true, reduceIte, putP]
          exact ⟨rfl, (V.out).to (fun k hk => .inl hk)⟩
        · exact fun e w10 h => h.elim
        rintro e w10 ⟨rfl, X10, nv10, h10, u10⟩
        have HF10 := Lib.hid (Fit.take HF9.out hq10)
        have Q10 := Lib.hid hq10; clear hq10 h9
        have Bt_10 := Lib.hid (u10.keep Bt_9.out Btx_9.out); have Btx_10 := Lib.hid (u10.notIn (lt_blk Bt_9.out) Btx_9.out)
        clear Bt_9 Btx_9
        have U10 := Lib.hid (U9.out.trans u10); clear u10
        have Btc2 : w10.cell? ⟨w3.heap.size, 2, none⟩ = some (.int .i64 t.pos) := cell_blk Bt_10.out; have Btc3 : w10.cell? ⟨w3.heap.size, 3, none⟩ = some (.string t.text) := cell_blk Bt_10.out
        go_wp2_with fail
        refine (put_nil 2 _ _ _ h10 HF10.out.few').mono ?_
        rintro e w11 ⟨rfl, X11, nv11, h11, u11⟩
        have HP := Lib.hid h11; clear h10 h11
        have U11 := Lib.hid (U10.out.trans u11); clear u11
        go_wp2
        go_ret
        simp only [globalP, B0.out, Q2.out, Q3.out, Hbe.out, Hbm.out, Hbk.out, Q10.out, Res.bind_ok, Res.bind_bad, Bool.false_eq_true, reduceIte, putP]
        exact ⟨rfl, _, _, HP.out, U11.out⟩
    | true =>
      have Hbm := Lib.hid bm; clear bm
      have hi2 := isP_lt Hbm.out
      go_wp2_with fail
      refine (is_new [(⟨#[45]⟩ : ByteArray)] (by simp) h6).mono ?_
      rw [Hbm.out]
      rintro e w7 ⟨rfl, h7, u7⟩
      clear h6
      have Bt_7 := Lib.hid (u7.keep Bt_6.out Btx_6.out); have Btx_7 := Lib.hid (u7.notIn (lt_blk Bt_6.out) Btx_6.out)
      clear Bt_6 Btx_6
      have U7 := Lib.hid (U6.out.trans u7); clear u7
      go_wp2_with fail
      refine (next_c h7 HF6.out.len hi2).mono ?_
      rintro e w8 ⟨rfl, h8, u8⟩
      have HF8 := Lib.hid (HF6.out.step hi2)
      clear h7
      have Bt_8 := Lib.hid (u8.keep Bt_7.out Btx_7.out); have Btx_8 := Lib.hid (u8.notIn (lt_blk Bt_7.out) Btx_7.out)
      clear Bt_7 Btx_7
      have U8 := Lib.hid (U7.out.trans u8); clear u8
      cases bk : kindP T 3 (stepP (stepP s3)) with
      | false =>
        have Hbk := Lib.hid bk; clear bk
        go_wp2_with fail
        refine (kind_n 3 h8).mono ?_
        rw [Hbk.out]
        rintro e w9 ⟨rfl, h9, u9⟩
        clear h8
        have Bt_9 := Lib.hid (u9.keep Bt_8.out Btx_8.out); have Btx_9 := Lib.hid (u9.notIn (lt_blk Bt_8.out) Btx_8.out)
        clear Bt_8 Btx_8
        have U9 := Lib.hid (U8.out.trans u9); clear u9
        go_wp2_with fail
        refine (fail_c (fun r : Int => .int .i64 r) 5 h9).mono ?_
        rintro e wz ⟨rfl, uz⟩
        have V := Lib.hid (U9.out.trans uz); clear uz h9
        go_wp2
        refine ⟨rfl, ?_⟩
        simp only [globalP, B0.out, Q2.out, Q3.out, Hbe.out, Hbm.out, Hbk.out, Res.bind_ok, Res.bind_bad, Bool.false_eq_true, reduceIte, putP, failP]
        exact ⟨rfl, V.out.to (fun k hk => .inl hk)⟩
      | true =>
        have Hbk := Lib.hid bk; clear bk
        have hk := kindP_lt Hbk.out
        have hfn := fld_num
        have hn1 := (hT _ (tok_mem hk)).1; have hn2 := (hT _ (tok_mem hk)).2
        go_wp2_with fail
        refine (kind_n 3 h8).mono ?_
        rw [Hbk.out]
        rintro e w9 ⟨rfl, h9, u9⟩
        clear h8
        have Bt_9 := Lib.hid (u9.keep Bt_8.out Btx_8.out); have Btx_9 := Lib.hid (u9.notIn (lt_blk Bt_8.out) Btx_8.out)
        clear Bt_8 Btx_8
        have U9 := Lib.hid (U8.out.trans u9); clear u9
        go_wp2_with fail
        refine (next_c h9 HF8.out.len hk).mono ?_
        rintro e w10 ⟨rfl, h10, u10⟩
        have HF10 := Lib.hid (HF8.out.step hk)
        clear h9
        have Bt_10 := Lib.hid (u10.keep Bt_9.out Btx_9.out); have Btx_10 := Lib.hid (u10.notIn (lt_blk Bt_9.out) Btx_9.out)
        clear Bt_9 Btx_9
        have U10 := Lib.hid (U9.out.trans u10); clear u10
        go_wp2_with fail
        refine (take_c (⟨#[59]⟩ : ByteArray) h10 HF10.out.len).mono ?_
        rcases hq11 : takeP T en (⟨#[59]⟩ : ByteArray) (stepP (stepP (stepP s3))) with ⟨a9, s11⟩ | ⟨cd, ps⟩ | _
        rotate_left
        · rintro e w11 ⟨rfl, u11⟩
          have Q11 := Lib.hid hq11; have V := Lib.hid (U10.out.trans u11); clear hq11 u11 h10
          go_wp2
          refine ⟨rfl, ?_⟩
          simp only [globalP, B0.out, Q2.out, Q3.out, Hbe.out, Hbm.out, Hbk.out, Q11.out, Res.bind_ok, Res.bind_bad, Bool.false_eq_true, reduceIte, putP]
          exact ⟨rfl, (V.out).to (fun k hk => .inl hk)⟩
        · exact fun e w11 h => h.elim
        rintro e w11 ⟨rfl, X11, nv11, h11, u11⟩
        have HF11 := Lib.hid (Fit.take HF10.out hq11)
        have Q11 := Lib.hid hq11; clear hq11 h10
        have Bt_11 := Lib.hid (u11.keep Bt_10.out Btx_10.out); have Btx_11 := Lib.hid (u11.notIn (lt_blk Bt_10.out) Btx_10.out)
        clear Bt_10 Btx_10
        have U11 := Lib.hid (U10.out.trans u11); clear u11
        have Btc2 : w11.cell? ⟨w3.heap.size, 2, none⟩ = some (.int .i64 t.pos) := cell_blk Bt_11.out; have Btc3 : w11.cell? ⟨w3.heap.size, 3, none⟩ = some (.string t.text) := cell_blk Bt_11.out
        go_wp2_with fail
        refine (put_nil 2 _ _ _ h11 HF11.out.few').mono ?_
        rintro e w12 ⟨rfl, X12, nv12, h12, u12⟩
        have HP := Lib.hid h12; clear h11 h12
        have U12 := Lib.hid (U11.out.trans u12); clear u12
        go_wp2
        go_ret
        simp only [globalP, B0.out, Q2.out, Q3.out, Hbe.out, Hbm.out, Hbk.out, Q11.out, Res.bind_ok, Res.bind_bad, Bool.false_eq_true, reduceIte, putP]
        exact ⟨rfl, _, _, HP.out, U12.out⟩

end
end Go.Proofs.YtaklephcgepfjaaGreatDoor

/- The program's parser: the whole program. (Lines of the walks: wip/tools/steps.py.) -/
namespace Go.Proofs.YtaklephcgepfjaaGreatDoor
open Go.RowKit

theorem globalP_adv {T : List Tk} {en : Int} {s s' : PS} {r : Int} (h : globalP T en s = .ok r s') : Adv T 0 1 s s' := by
  unfold globalP at h
  split at h
  · rename_i hq
    have hi := isP_lt hq
    obtain ⟨t, s1, h1, h⟩ := Res.bind_eq_ok.1 h
    obtain ⟨_, s2, h2, h⟩ := Res.bind_eq_ok.1 h
    obtain ⟨rfl, g1⟩ := nameP_ok h1
    obtain ⟨rfl, g2⟩ := takeP_ok h2
    obtain ⟨rfl, rfl⟩ := putP_ok h
    simp [stepP] at g1 g2
    exact ⟨by simp [stepP], by simp [stepP] <;> omega, by simp only [stepP]; omega, by simp [stepP] <;> omega⟩
  · obtain ⟨_, s1, h1, h⟩ := Res.bind_eq_ok.1 h
    obtain ⟨t, s2, h2, h⟩ := Res.bind_eq_ok.1 h
    obtain ⟨rfl, g1⟩ := takeP_ok h1
    obtain ⟨rfl, g2⟩ := nameP_ok h2
    split at h
    · rename_i hq
      have hi := isP_lt hq
      split at h
      · rename_i hq2
        have hi2 := isP_lt hq2
        split at h
        · rename_i hq3
          have hi3 := kindP_lt hq3
          obtain ⟨_, s3, h3, h⟩ := Res.bind_eq_ok.1 h
          obtain ⟨rfl, g3⟩ := takeP_ok h3
          obtain ⟨rfl, rfl⟩ := putP_ok h
          simp [stepP] at g1 g2 g3
          exact ⟨by simp [stepP], by simp [stepP] <;> omega, by simp only [stepP]; omega, by simp [stepP] <;> omega⟩
        · simp [failP] at h
      · split at h
        · rename_i hq3
          have hi3 := kindP_lt hq3
          obtain ⟨_, s3, h3, h⟩ := Res.bind_eq_ok.1 h
          obtain ⟨rfl, g3⟩ := takeP_ok h3
          obtain ⟨rfl, rfl⟩ := putP_ok h
          simp [stepP] at g1 g2 g3
          exact ⟨by simp [stepP], by simp [stepP] <;> omega, by simp only [stepP]; omega, by simp [stepP] <;> omega⟩
        · simp [failP] at h
    · obtain ⟨_, s3, h3, h⟩ := Res.bind_eq_ok.1 h
      obtain ⟨rfl, g3⟩ := takeP_ok h3
      obtain ⟨rfl, rfl⟩ := putP_ok h
      simp [stepP] at g1 g2 g3
      exact ⟨by simp [stepP], by simp [stepP] <;> omega, by simp only [stepP]; omega, by simp [stepP] <;> omega⟩

theorem globalP_out {T : List Tk} {en : Int} {s : PS} : globalP T en s ≠ .out := by
  unfold globalP failP
  have ht : ∀ x s, takeP T en x s ≠ .out := fun x s => by unfold takeP failP; split <;> simp
  have hn : ∀ s, nameP T en s ≠ .out := fun s => by unfold nameP failP; split <;> simp
  have hb : ∀ {α β : Type} (r : Res α) (f : α → PS → Res β), r ≠ .out → (∀ a s, f a s ≠ .out) → r.bind f ≠ .out := fun r f h1 h2 => by cases r <;> simp [Res.bind, h2] at h1 ⊢
  split
  · exact hb _ _ (hn _) fun _ _ => hb _ _ (ht _ _) fun _ _ => by simp [putP]
  · refine hb _ _ (ht _ _) fun _ _ => hb _ _ (hn _) fun _ _ => ?_
    split
    · split
      · split
        · exact hb _ _ (ht _ _) fun _ _ => by simp [putP]
        · simp
      · split
        · exact hb _ _ (ht _ _) fun _ _ => by simp [putP]
        · simp
    · exact hb _ _ (ht _ _) fun _ _ => by simp [putP]

/-- The loops of program: what is left to come is R0. -/
def ProgInv (w : World) (X : Nat → Prop) (bp : Nat) (la : Option Addr) (c : Nat) (T : List Tk) (en : Int) (F : Nat → List Int → PS → Res Int) (R0 : Res Int) (m : Nat) (v : Value) (wr : World) : Prop :=
  ∃ (kids : List Int) (ka : Option Addr) (kc : Nat) (s' : PS) (X' : Nat → Prop) (nv' : Value), v = .slice ka kids.length kc ∧ KidsAt wr v kids ∧ (∀ g, v.ownBlock = some g → ¬ X' g ∧ w.heap.size ≤ g) ∧ kids.length ≤ s'.i ∧
    PR wr X' bp la c T en s' nv' ∧ Upd w X wr X' ∧ Fit T 0 s' ∧ R0 = F m kids s'

section
variable {w : World} {X : Nat → Prop} {bp : Nat} {la : Option Addr} {c : Nat} {T : List Tk} {en : Int} {s : PS} {nv : Value}

theorem global_c (h : PR w X bp la c T en s nv) (hf : Fit T 0 s) (hT : ∀ t ∈ T, 0 ≤ t.num ∧ t.num ≤ 999999999) :
    Calls Tryz.prog 35 #[.pointer (some ⟨bp, 0, none⟩)] w (Done w X bp la c T en (fun r : Int => .int .i64 r) (globalP T en s)) := by
  cases hb0 : isP T [(⟨#[108, 111, 99, 107]⟩ : ByteArray)] s with
  | true => exact global_lock h hf hb0
  | false => exact global_int h hf hb0 hT

/-- What the call of program ends in. -/
def DoneP (w : World) (X : Nat → Prop) (bp : Nat) (la : Option Addr) (c : Nat) (T : List Tk) (en : Int) (r : Res Int) (e : Ending) (w' : World) : Prop :=
  match r with
  | .ok _ s => e = .returned (.tuple #[]) ∧ ∃ X' nv', PR w' X' bp la c T en s nv' ∧ Upd w X w' X'
  | .bad code pos => e = .panicked [{ v := .iface 46 (.agg #[.int .i64 code, .int .i64 0, .int .i64 pos]), recovered := false }] ∧ Upd w X w' X
  | .out => False

set_option maxRecDepth 100000 in
set_option maxHeartbeats 800000 in
/-- program -/
theorem program_c (n : Nat) (h : PR w X bp la c T en s nv) (hf : Fit T 0 s) (hT' : ∀ t ∈ T, 0 ≤ t.num ∧ t.num ≤ 999999999) (hne : progG T en n [] s ≠ .out) :
    Calls Tryz.prog 17 #[.pointer (some ⟨bp, 0, none⟩)] w (DoneP w X bp la c T en (progG T en n [] s)) := by
  have HN := Lib.hid hne; have HF := Lib.hid hf; have HBP := Lib.hid h.lt; have hT := Lib.hid hT'
  have RR' := Lib.hid (fun m => ready bp la c T en m m (Nat.le_refl m))
  clear hne hf hT'
  go_enter Tryz.func17, Tryz.ntmps17
  have HNE : Hid (progG T en n [] s ≠ .out) := HN
  have HI : Hid (ProgInv w X bp la c T en (progG T en) (progG T en n [] s) n (.slice none 0 0) w) := ⟨[], none, 0, s, X, nv, rfl, World.ownsRow_nil _ _ _ _, fun g hg => by simp [Value.ownBlock] at hg, Nat.zero_le _, h, Upd.refl _ _, HF.out, rfl⟩
  clear h
  go_wp2_with fail
  go_loopg [2] n (fun m v wr => ProgInv w X bp la c T en (progG T en) (progG T en n [] s) m v wr)
  case atStart => exact HI.out
  case round =>
    clear HI
    obtain ⟨kids, ka, kc, sr, Xr, nvr, rfl, hkid, hkx, hkl, hr, ur, fr, er⟩ := hrel
    have ER := Lib.hid er; have UR := Lib.hid ur; have HFr := Lib.hid fr; have HKX := Lib.hid hkx; have HKL := Lib.hid hkl; have HKI := Lib.hid hkid
    clear er ur fr hkx hkl hkid
    obtain ⟨m, rfl⟩ : ∃ m, gk = m + 1 := by
      cases gk with
      | zero => exact absurd ER.out HNE.out
      | succ m => exact ⟨m, rfl⟩
    cases hb : isP T [(⟨#[105, 110, 116]⟩ : ByteArray), (⟨#[108, 111, 99, 107]⟩ : ByteArray)] sr with
    | true =>
      have B1 := Lib.hid hb; clear hb
      go_wp2_with fail
      refine (is_new [(⟨#[105, 110, 116]⟩ : ByteArray), (⟨#[108, 111, 99, 107]⟩ : ByteArray)] (by simp) hr).mono ?_
      rw [B1.out]
      rintro e w11 ⟨rfl, h11, u11⟩
      clear hr
      have Rk_11 := Lib.hid (u11.ownsRow HKI.out (fun g hg => (HKX.out g hg).1)); have Rkx_11 := Lib.hid (fun g hg => (⟨u11.notIn (HKI.out.lt g hg).2 (HKX.out g hg).1, (HKX.out g hg).2⟩ : _ ∧ _))
      clear HKI HKX
      have U11 := Lib.hid u11; clear u11
      rcases hq12 : globalP T en sr with ⟨k, s12⟩ | ⟨cd, ps⟩ | _
      rotate_right
      · exact absurd hq12 globalP_out
      all_goals
        have C12 := global_c h11 HFr.out hT.out
        rw [hq12] at C12
        have D12 := Lib.hid C12; clear C12
        go_wp2_with fail
        refine D12.out.mono ?_
      rotate_left
      · rintro e w12 ⟨rfl, u12⟩
        have Q12 := Lib.hid hq12; have V := Lib.hid (U11.out.trans u12); clear hq12 u12 h11
        go_wp2
        refine ⟨rfl, ?_⟩
        simp only [progG, ER.out, B1.out, Q12.out, Res.bind_ok, Res.bind_bad, Bool.false_eq_true, reduceIte, putP]
        exact ⟨rfl, (UR.out.trans V.out).to (fun k hk => .inl hk)⟩
      rintro e w12 ⟨rfl, X12, nv12, h12, u12⟩
      have HF12 := Lib.hid (HFr.out.adv (globalP_adv hq12))
      have Q12 := Lib.hid hq12; clear hq12 h11 D12
      have Rk_12 := Lib.hid (u12.ownsRow Rk_11.out (fun g hg => (Rkx_11.out g hg).1)); have Rkx_12 := Lib.hid (fun g hg => (⟨u12.notIn (Rk_11.out.lt g hg).2 (Rkx_11.out g hg).1, (Rkx_11.out g hg).2⟩ : _ ∧ _))
      clear Rk_11 Rkx_11
      have U12 := Lib.hid (U11.out.trans u12); clear u12
      obtain ⟨i0, hi0, hz0, hz1, hz2⟩ := info_parts Tryz.infoInt
      have hrow : World.ownsRow w12 0 3 1 (.slice ka kids.length kc) kids.length (kids.map (Value.int .i64)) := Rk_12.out
      have hlen : kids.length ≤ 5000 := by have := HKL.out; have := HFr.out.top; have := HFr.out.len; omega
      go_wp2_with (at_builtin; refine wpList_app _ rfl _ _ 30 rfl 3 i0 (.int .i64 0) 1 8 Tryz.underlying30 hi0 hz0 hz1 hz2 rfl (by decide) _ _ _ rfl (hrow.alloc _) ⟨w12.heap.size, 0, none⟩ 1 1 [.int .i64 k] rfl rfl ?c1 ?c2 ?c3 ?c4 ?_)
      case c1 => exact news_new w12 _ _
      case c2 => simp [Value.oneCell']
      case c3 => unfold maxLen; omega
      case c4 => omega
      intro v' wy hown hgrow hv
      obtain ⟨va, vc, rfl⟩ := slice_of_row hown
      obtain ⟨hp, hu, hx⟩ := app_left h12 (UR.out.trans U12.out) HBP.out Rkx_12.out hgrow hv
      have Ry := Lib.hid hown; have Ryx := Lib.hid hx; have UY := Lib.hid hu; have HP := Lib.hid hp
      clear hown hgrow hv hx hu hrow hi0 hz0 hz1 hz2 hp hlen h12
      go_wp2
      go_roundg m
      case rel =>
        refine ⟨kids ++ [k], va, vc, _, _, _, by simp, ?_, Ryx.out, ?_, HP.out, UY.out, HF12.out, ?_⟩
        · have := Ry.out
          simpa [KidsAt] using this
        · have := HKL.out
          have := (globalP_adv Q12.out).le
          simp at this ⊢
          omega
        · rw [ER.out]; simp only [progG, B1.out, Q12.out, Res.bind_ok, reduceIte]
      case measure => omega
    | false =>
      have B1 := Lib.hid hb; clear hb
      go_wp2_with fail
      refine (is_new [(⟨#[105, 110, 116]⟩ : ByteArray), (⟨#[108, 111, 99, 107]⟩ : ByteArray)] (by simp) hr).mono ?_
      rw [B1.out]
      rintro e w11 ⟨rfl, h11, u11⟩
      clear hr
      have Rk_11 := Lib.hid (u11.ownsRow HKI.out (fun g hg => (HKX.out g hg).1)); have Rkx_11 := Lib.hid (fun g hg => (⟨u11.notIn (HKI.out.lt g hg).2 (HKX.out g hg).1, (HKX.out g hg).2⟩ : _ ∧ _))
      clear HKI HKX
      have U11 := Lib.hid u11; clear u11
      have HNE2 : Hid (progT T en m kids sr ≠ .out) := Lib.hid (fun e => HNE.out (by rw [ER.out]; simp only [progG, B1.out, Bool.false_eq_true, reduceIte]; exact e))
      have ER1 : Hid (progG T en n [] s = progT T en m kids sr) := Lib.hid (by rw [ER.out]; simp only [progG, B1.out, Bool.false_eq_true, reduceIte])
      have HI2 : Hid (ProgInv w X bp la c T en (progT T en) (progT T en m kids sr) m (.slice ka kids.length kc) w11) := ⟨kids, ka, kc, sr, Xr, nvr, rfl, Rk_11.out, Rkx_11.out, HKL.out, h11, UR.out.trans U11.out, HFr.out, rfl⟩
      clear h11 U11 Rk_11 Rkx_11 UR ER HNE HFr HKL B1
      obtain ⟨R00, hR00⟩ : ∃ r, r = progT T en m kids sr := ⟨_, rfl⟩
      rw [← hR00] at HNE2 ER1 HI2
      clear hR00
      go_wp2_with fail
      go_loopg [2] m (fun m' v wr => ProgInv w X bp la c T en (progT T en) R00 m' v wr)
      case atStart => exact HI2.out
      case round =>
        clear HI2
        obtain ⟨kids, ka, kc, sr, Xr, nvr, rfl, hkid, hkx, hkl, hr, ur, fr, er⟩ := hrel
        have ER := Lib.hid er; have UR := Lib.hid ur; have HFr := Lib.hid fr; have HKX := Lib.hid hkx; have HKL := Lib.hid hkl; have HKI := Lib.hid hkid
        clear er ur fr hkx hkl hkid
        obtain ⟨m, rfl⟩ : ∃ m, gk = m + 1 := by
          cases gk with
          | zero => exact absurd ER.out HNE2.out
          | succ m => exact ⟨m, rfl⟩
        have h0 := hr.c0
        have h2 := hr.c2
        by_cases hlt : sr.i < T.length
        · have B1 := Lib.hid hlt
          have hd : decide ((sr.i : Int) < (T.length : Int)) = true := by simp; omega
          have hd2 : decide (sr.i < T.length) = true := by simp; omega
          clear hlt
          go_wp2_with fail
          go_quiet (fail)
          clear h0 h2
          have h11 := hr.drewN nq
          have u11 : Upd wr Xr _ Xr := (Upd.refl wr Xr).drewN nq
          clear hr hd hd2
          have Rk_11 := Lib.hid (u11.ownsRow HKI.out (fun g hg => (HKX.out g hg).1)); have Rkx_11 := Lib.hid (fun g hg => (⟨u11.notIn (HKI.out.lt g hg).2 (HKX.out g hg).1, (HKX.out g hg).2⟩ : _ ∧ _))
          clear HKI HKX
          have U11 := Lib.hid u11; clear u11
          go_wp2_with fail
          refine (take_c (⟨#[116, 104, 114, 101, 97, 100]⟩ : ByteArray) h11 HFr.out.len).mono ?_
          rcases hq12 : takeP T en (⟨#[116, 104, 114, 101, 97, 100]⟩ : ByteArray) sr with ⟨pos, s12⟩ | ⟨cd, ps⟩ | _
          rotate_left
          · rintro e w12 ⟨rfl, u12⟩
            have Q12 := Lib.hid hq12; have V := Lib.hid (U11.out.trans u12); clear hq12 u12 h11
            go_wp2
            refine ⟨rfl, ?_⟩
            simp only [progT, ER1.out, ER.out, B1.out, Q12.out, Res.bind_ok, Res.bind_bad, Bool.false_eq_true, reduceIte, putP]
            exact ⟨rfl, (UR.out.trans V.out).to (fun k hk => .inl hk)⟩
          · exact fun e w12 h => h.elim
          rintro e w12 ⟨rfl, X12, nv12, h12, u12⟩
          have HF12 := Lib.hid (Fit.take HFr.out hq12)
          have Q12 := Lib.hid hq12; clear hq12 h11
          have Rk_12 := Lib.hid (u12.ownsRow Rk_11.out (fun g hg => (Rkx_11.out g hg).1)); have Rkx_12 := Lib.hid (fun g hg => (⟨u12.notIn (Rk_11.out.lt g hg).2 (Rkx_11.out g hg).1, (Rkx_11.out g hg).2⟩ : _ ∧ _))
          clear Rk_11 Rkx_11
          have U12 := Lib.hid (U11.out.trans u12); clear u12
          rcases hq13 : runP T en m .block s12 with ⟨b, s13⟩ | ⟨cd, ps⟩ | _
          rotate_right
          · exact (HN.out (by simp only [progT, ER1.out, ER.out, B1.out, Q12.out,  hq13, Res.bind_ok, Res.bind_out, Bool.false_eq_true, reduceIte, putP])).elim
          all_goals
            have C13 := (RR'.out m).block _ _ _ s12 h12 HF12.out.zero (by rw [hq13]; simp)
            rw [hq13] at C13
            have D13 := Lib.hid C13; clear C13
            go_wp2_with fail
            refine D13.out.mono ?_
          rotate_left
          · rintro e w13 ⟨rfl, u13⟩
            have Q13 := Lib.hid hq13; have V := Lib.hid (U12.out.trans u13); clear hq13 u13 h12
            go_wp2
            refine ⟨rfl, ?_⟩
            simp only [progT, ER1.out, ER.out, B1.out, Q12.out, Q13.out, Res.bind_ok, Res.bind_bad, Bool.false_eq_true, reduceIte, putP]
            exact ⟨rfl, (UR.out.trans V.out).to (fun k hk => .inl hk)⟩
          rintro e w13 ⟨rfl, X13, nv13, h13, u13⟩
          have HF13 := Lib.hid (HF12.out.adv (runP_adv _ _ _ _ _ HF12.out.top hq13))
          have Q13 := Lib.hid hq13; clear hq13 h12 D13
          have Rk_13 := Lib.hid (u13.ownsRow Rk_12.out (fun g hg => (Rkx_12.out g hg).1)); have Rkx_13 := Lib.hid (fun g hg => (⟨u13.notIn (Rk_12.out.lt g hg).2 (Rkx_12.out g hg).1, (Rkx_12.out g hg).2⟩ : _ ∧ _))
          clear Rk_12 Rkx_12
          have U13 := Lib.hid (U12.out.trans u13); clear u13
          go_wp2_with fail
          refine (put_new _ _ _ _ [b] h13 HF13.out.few' (by simp)).mono ?_
          rintro e w14 ⟨rfl, X14, nv14, h14, u14⟩
          have HF14 := Lib.hid (HF13.out.put ⟨4, 0, pos, (⟨#[]⟩ : ByteArray), [b]⟩)
          clear h13
          have Rk_14 := Lib.hid (u14.ownsRow Rk_13.out (fun g hg => (Rkx_13.out g hg).1)); have Rkx_14 := Lib.hid (fun g hg => (⟨u14.notIn (Rk_13.out.lt g hg).2 (Rkx_13.out g hg).1, (Rkx_13.out g hg).2⟩ : _ ∧ _))
          clear Rk_13 Rkx_13
          have U14 := Lib.hid (U13.out.trans u14); clear u14
          obtain ⟨i0, hi0, hz0, hz1, hz2⟩ := info_parts Tryz.infoInt
          have hrow : World.ownsRow w14 0 3 1 (.slice ka kids.length kc) kids.length (kids.map (Value.int .i64)) := Rk_14.out
          have hlen : kids.length ≤ 5000 := by have := HKL.out; have := HFr.out.top; have := HFr.out.len; omega
          go_wp2_with (at_builtin; refine wpList_app _ rfl _ _ 30 rfl 3 i0 (.int .i64 0) 1 8 Tryz.underlying30 hi0 hz0 hz1 hz2 rfl (by decide) _ _ _ rfl (hrow.alloc _) ⟨w14.heap.size, 0, none⟩ 1 1 [.int .i64 ((s13.nodes.length : Nat) : Int)] rfl rfl ?c1 ?c2 ?c3 ?c4 ?_)
          case c1 => exact news_new w14 _ _
          case c2 => simp [Value.oneCell']
          case c3 => unfold maxLen; omega
          case c4 => omega
          intro v' wy hown hgrow hv
          obtain ⟨va, vc, rfl⟩ := slice_of_row hown
          obtain ⟨hp, hu, hx⟩ := app_left h14 (UR.out.trans U14.out) HBP.out Rkx_14.out hgrow hv
          have Ry := Lib.hid hown; have Ryx := Lib.hid hx; have UY := Lib.hid hu; have HP := Lib.hid hp
          clear hown hgrow hv hx hu hrow hi0 hz0 hz1 hz2 hp hlen h14
          go_wp2
          go_roundg m
          case rel =>
            refine ⟨kids ++ [((s13.nodes.length : Nat) : Int)], va, vc, _, _, _, by simp, ?_, Ryx.out, ?_, HP.out, UY.out, HF14.out, ?_⟩
            · have := Ry.out
              simpa [KidsAt] using this
            · have := HKL.out
              have h1 := (runP_adv _ _ _ _ _ (HFr.out.take Q12.out).top Q13.out).le
              have h2 := (takeP_ok Q12.out).1
              subst h2
              simp [Nt.gain, stepP] at h1 ⊢
              omega
            · rw [ER.out]; simp only [progT, B1.out, Q12.out, Q13.out, Res.bind_ok, reduceIte, putP]; rfl
          case measure => omega
        · have B1 := Lib.hid hlt
          have hd : decide ((sr.i : Int) < (T.length : Int)) = false := by simp; omega
          have hd2 : decide (sr.i < T.length) = false := by simp; omega
          clear hlt
          go_wp2_with fail
          go_quiet (fail)
          clear h0 h2
          have h11 := hr.drewN nq
          have u11 : Upd wr Xr _ Xr := (Upd.refl wr Xr).drewN nq
          clear hr hd hd2
          have Rk_11 := Lib.hid (u11.ownsRow HKI.out (fun g hg => (HKX.out g hg).1)); have Rkx_11 := Lib.hid (fun g hg => (⟨u11.notIn (HKI.out.lt g hg).2 (HKX.out g hg).1, (HKX.out g hg).2⟩ : _ ∧ _))
          clear HKI HKX
          have U11 := Lib.hid u11; clear u11
          go_wp2_with fail
          refine (put_c 1 _ _ _ _ kids h11 Rk_11.out (fun g hg => ⟨(Rkx_11.out g hg).1, by have := (Rkx_11.out g hg).2; have := HBP.out; omega⟩) HFr.out.few').mono ?_
          rintro e wz ⟨rfl, Xz, nvz, hz, uz⟩
          have HP := Lib.hid hz
          have UZ : Hid (Upd w X wz Xz) := Lib.hid ((UR.out.trans U11.out).andRow uz (fun g hg => (Rkx_11.out g hg).2))
          clear h11 hz uz
          go_wp2
          refine bodyPost_end (results_none rfl _ _ _) rfl ?_
          unfold DoneP
          rw [ER1.out, ER.out]
          simp only [progT, B1.out, Bool.false_eq_true, reduceIte, putP]
          exact ⟨by first | rfl | trivial, _, _, HP.out, UZ.out⟩
end
end Go.Proofs.YtaklephcgepfjaaGreatDoor

/- The program's parser: Parse. -/
namespace Go.Proofs.YtaklephcgepfjaaGreatDoor
open Go.RowKit

def ParsePost (w : World) (r : PRes) (e : Ending) (w' : World) : Prop :=
  Upd w NO w' NO ∧ match r with
    | .ok l => ∃ nv X bp, e = .returned (.tuple #[nv, .agg #[.int .i64 0, .int .i64 0, .int .i64 0]]) ∧ NodeRow w' X bp nv l
    | .bad c p => e = .returned (.tuple #[.slice none 0 0, .agg #[.int .i64 c, .int .i64 0, .int .i64 p]])

theorem results_parse (tmps : Array Value) (W : World) (pl pf : Nat) (lv : Value) (c p : Int) (h2 : tmps.getD 2 undef = .pointer (some ⟨pl, 0, none⟩)) (h3 : tmps.getD 3 undef = .pointer (some ⟨pf, 0, none⟩)) (ht : Two W pl pf lv c p 22) :
    (results Tryz.f7 tmps).run Tryz.prog W = .ok (.tuple #[lv, .agg #[.int .i64 c, .int .i64 0, .int .i64 p]]) W := by
  have a0 : W.cell? ⟨pl, 0, none⟩ = some lv := cell_blk ht.1
  have f0 : W.cell? ⟨pf, 0, none⟩ = some (.int .i64 c) := cell_blk ht.2
  have f1 : W.cell? ⟨pf, 1, none⟩ = some (.int .i64 0) := cell_blk ht.2
  have f2 : W.cell? ⟨pf, 2, none⟩ = some (.int .i64 p) := cell_blk ht.2
  have g2 : tmps[2]?.getD undef = .pointer (some ⟨pl, 0, none⟩) := by simpa using h2
  have g3 : tmps[3]?.getD undef = .pointer (some ⟨pf, 0, none⟩) := by simpa using h3
  simp [results, Tryz.results7, go_sem, g2, g3, a0, f0, f1, f2]

theorem parse_ret (tmps : Array Value) (W : World) (pl pf : Nat) (lv : Value) (c p : Int) (R : Ending → World → Prop) (h2 : tmps.getD 2 undef = .pointer (some ⟨pl, 0, none⟩)) (h3 : tmps.getD 3 undef = .pointer (some ⟨pf, 0, none⟩)) (ht : Two W pl pf lv c p 22)
    (hR : R (.returned (.tuple #[lv, .agg #[.int .i64 c, .int .i64 0, .int .i64 p]])) W) :
    Leaves Tryz.prog Tryz.f7 tmps R [{ target := .fn (.func 16) #[.pointer (some ⟨pl, 0, none⟩), .pointer (some ⟨pf, 0, none⟩)], args := #[] }] .returning W := by
  refine leaves_cons (f := 16) (args := #[.pointer (some ⟨pl, 0, none⟩), .pointer (some ⟨pf, 0, none⟩)]) (by simp) (by simp [go_sem]) ?_
  refine (parse_catch_idle pl pf _).mono ?_
  rintro e u' w'' ⟨rfl, rfl, rfl⟩
  exact ⟨_, results_parse tmps _ pl pf lv c p h2 h3 ht, hR⟩

theorem parse_panic (tmps : Array Value) (W : World) (pl pf : Nat) (lv : Value) (c0 p0 c p : Int) (R : Ending → World → Prop) (h2 : tmps.getD 2 undef = .pointer (some ⟨pl, 0, none⟩)) (h3 : tmps.getD 3 undef = .pointer (some ⟨pf, 0, none⟩)) (hne : pl ≠ pf) (ht : Two W pl pf lv c0 p0 22)
    (hR : ∀ W', CatchPost W pl pf 22 c p W' → R (.returned (.tuple #[.slice none 0 0, .agg #[.int .i64 c, .int .i64 0, .int .i64 p]])) W') :
    Leaves Tryz.prog Tryz.f7 tmps R [{ target := .fn (.func 16) #[.pointer (some ⟨pl, 0, none⟩), .pointer (some ⟨pf, 0, none⟩)], args := #[] }] (.panicking [{ v := .iface 46 (.agg #[.int .i64 c, .int .i64 0, .int .i64 p]), recovered := false }]) W := by
  refine leaves_cons (f := 16) (args := #[.pointer (some ⟨pl, 0, none⟩), .pointer (some ⟨pf, 0, none⟩)]) (by simp) (by simp [go_sem]) ?_
  refine (parse_catch pl pf lv c0 p0 c p W ht hne).mono ?_
  rintro e u' w'' ⟨rfl, rfl, hc⟩
  exact ⟨_, results_parse tmps _ pl pf _ c p h2 h3 hc.2, hR _ hc⟩

/-- Memory in Parse: its two results' variables. -/
structure ParW (w W : World) (pl pf : Nat) (v : Value) (c p : Int) : Prop where
  u : Upd w NO W NO
  l1 : w.heap.size ≤ pl
  l2 : pl < pf
  two : Two W pl pf v c p 22

section
variable {w W W1 : World} {pl pf : Nat} {v : Value} {c p : Int}
theorem ParW.ne (h : ParW w W pl pf v c p) : pl ≠ pf := by have := h.l2; omega
theorem ParW.past (h : ParW w W pl pf v c p) {X X1 : Nat → Prop} (u : Upd W X W1 X1) (hX : ∀ k, X k → pf < k) : ParW w W1 pl pf v c p := by
  have a := h.l1; have b := h.l2
  exact { h with u := h.u.past u (fun k hk => by have := hX k hk; omega), two := ⟨u.keep h.two.1 (fun e => by have := hX _ e; omega), u.keep h.two.2 (fun e => by have := hX _ e; omega)⟩ }
theorem ParW.drew (h : ParW w W pl pf v c p) : ParW w W.drew pl pf v c p := { h with u := h.u.drew }
theorem ParW.setl (h : ParW w W pl pf v c p) (v' : Value) : ParW w (W.setCell ⟨pl, 0, none⟩ v') pl pf v' c p := by
  have a := h.l1; have b := h.l2
  exact { h with u := h.u.setCell (a := ⟨pl, 0, none⟩) (.inr a) v', two := ⟨by exact blk_setCell h.two.1 v', by rw [blk_setCell_other _ (by show pf ≠ pl; omega)]; exact h.two.2⟩ }
theorem ParW.setf (h : ParW w W pl pf v c p) (c' p' : Int) : ParW w (((W.setCell ⟨pf, 0, none⟩ (.int .i64 c')).setCell ⟨pf, 1, none⟩ (.int .i64 0)).setCell ⟨pf, 2, none⟩ (.int .i64 p')) pl pf v c' p' := by
  have a := h.l1; have b := h.l2
  have hp : w.heap.size ≤ pf := by omega
  refine { h with u := ((h.u.setCell (a := ⟨pf, 0, none⟩) (.inr hp) _).setCell (a := ⟨pf, 1, none⟩) (.inr hp) _).setCell (a := ⟨pf, 2, none⟩) (.inr hp) _, two := ⟨?_, ?_⟩ }
  · rw [blk_setCell_other _ h.ne, blk_setCell_other _ h.ne, blk_setCell_other _ h.ne]; exact h.two.1
  · exact blk_setCell (blk_setCell (blk_setCell h.two.2 _) _) _
end

/-- Tokens of a list of the call's own, as the parser reads them. -/
theorem TokOwn.row {W : World} {la : Option Addr} {n c bp : Nat} {T : List Tk} (h : TokOwn W (.slice la n c) T) (hb : ∀ g, (Value.slice la n c).ownBlock = some g → g < bp) : n = T.length ∧ TokRow W bp la T := by
  have hn : n = T.length := by
    rcases h.2 with ⟨e, h5⟩ | ⟨g, cap, cur, e, _⟩
    · injection e with e1 e2 e3
      omega
    · injection e
  refine ⟨hn, fun j t hj => ?_⟩
  have hcell : ∀ i u, (tkCells t)[i]? = some u → (tkRow T)[j * 4 + i]? = some u := by
    clear h hb hn
    induction T generalizing j with
    | nil => simp at hj
    | cons a T ih =>
      have hr : tkRow (a :: T) = tkCells a ++ tkRow T := by simp [tkRow]
      have hl : ∀ x : Tk, (tkCells x).length = 4 := fun _ => rfl
      intro i u hu
      cases j with
      | zero =>
        simp at hj
        subst hj
        have : i < 4 := by have := (List.getElem?_eq_some_iff.1 hu).1; rw [hl] at this; exact this
        rw [hr, List.getElem?_append_left (by rw [hl]; omega)]
        simpa using hu
      | succ j =>
        simp at hj
        rw [hr, List.getElem?_append_right (by rw [hl]; omega), hl]
        have := ih j hj i u hu
        rw [show (j + 1) * 4 + i - 4 = j * 4 + i by omega]
        exact this
  rcases h.2 with ⟨e, h5⟩ | ⟨g, cap, cur, e, hbg, hg, rest⟩
  · have h1 := h.1
    rw [tkRow_length] at h1
    have := (List.getElem?_eq_some_iff.1 hj).1
    omega
  · have e0 := e
    injection e0 with e1 e2 e3
    have hlt := (h.lt g (by rw [e]; rfl)).2
    have hc := h.cells (g := g) (by rw [e]; rfl)
    have add : ∀ k, ((⟨g, 0, none⟩ : Addr).add k) = ⟨g, k, none⟩ := fun k => by unfold Addr.add; split <;> simp_all
    refine ⟨g, e1, hb g (by rw [e]; rfl), hlt, ?_, ?_, ?_, ?_⟩
    · have := hc _ _ (hcell 0 _ rfl); rwa [add] at this
    · have := hc _ _ (hcell 1 _ rfl); rwa [add] at this
    · have := hc _ _ (hcell 2 _ rfl); rwa [add] at this
    · have := hc _ _ (hcell 3 _ rfl); rwa [add] at this


/-- The parser, newly made. -/
theorem PR.made {W : World} {la : Option Addr} {c : Nat} {T : List Tk} {en : Int} (ht : TokRow W W.heap.size la T) :
    PR (W.alloc (.cells #[.slice la T.length c, .int .i64 en, .int .i64 0, .int .i64 0, .slice none 0 0] 49)) (fun k => k = W.heap.size) W.heap.size la c T en ⟨0, 0, []⟩ (.slice none 0 0) :=
  ⟨rfl, fun k hk => by show W.heap.size ≤ k; have : k = W.heap.size := hk; omega, fun k hk => by have : k = W.heap.size := hk; simp; omega, heap_alloc_new W _,
    ht.upd ((Upd.refl W NO).alloc _) (fun _ _ h => h), [], rfl, World.ownsRow_nil _ _ _ _, fun g hg => by simp [Value.ownBlock] at hg, fun j n kv hj _ => by simp at hj⟩

set_option maxRecDepth 100000 in
set_option maxHeartbeats 2000000 in
theorem parse_c (s : ByteArray) (w : World) (hm : s.size ≤ maxLen) (r : PRes) (HR : Hid (parseR s = r)) :
    Calls Tryz.prog 7 #[.string s] w (ParsePost w r) := by
  have hmf : ∀ (fn : Fn) (first cap : Array Value) (w : World), (Instr.makeFunc fn first cap).run Tryz.prog w = .ok (.func fn first cap) w := fun _ _ _ _ => rfl
  have HM := Lib.hid hm; clear hm
  go_enter_defers Tryz.func7, Tryz.ntmps7
  go_upto_region 1 with (fail)
  refine wp_gen (fun W => ParW w W w.heap.size (w.heap.size + 1) (.slice none 0 0) 0 0) ⟨((Upd.refl _ _).alloc _).alloc _, by omega, by omega, blk_alloc (blk_new rfl), blk_new (by simp)⟩ ?_
  obtain ⟨pl, hpl⟩ : ∃ pl, pl = w.heap.size := ⟨_, rfl⟩
  rw [← hpl]
  have HPL := Lib.hid hpl; clear hpl
  obtain ⟨pf, hpf⟩ : ∃ pf, pf = pl + 1 := ⟨_, rfl⟩
  rw [← hpf]
  have HPF := Lib.hid hpf; clear hpf
  intro W hS
  have HS := Lib.hid hS; clear hS
  as_aux_lemma =>
  have HSC := Lib.hid (scan_c s W HM.out)
  go_wp2_with fail
  cases hl : lexP s with
  | out => exact absurd hl (lexP_ne s)
  | bad cd ps =>
    have HRR : Hid (r = .bad cd ps) := Lib.hid (by rw [← HR.out, parseR, hl])
    have HCD : Hid (cd ≠ 0) := Lib.hid (lexP_code hl)
    rw [hl] at HSC
    refine HSC.out.mono ?_
    rintro e W1 ⟨u1, h1⟩
    dsimp only at h1
    subst h1
    have HS1 := Lib.hid (HS.out.past u1 (fun _ h => h.elim))
    clear HSC hl u1 HR
    have f0 : W1.cell? ⟨pf, 0, none⟩ = some (.int .i64 0) := cell_blk HS1.out.two.2
    have f1 : W1.cell? ⟨pf, 1, none⟩ = some (.int .i64 0) := cell_blk HS1.out.two.2
    have f2 : W1.cell? ⟨pf, 2, none⟩ = some (.int .i64 0) := cell_blk HS1.out.two.2
    have ff : ∀ o, W1.frozen? ⟨pf, o, none⟩ = false := fun o => free_blk HS1.out.two.2
    go_upto_region 2 with (fail)
    refine wp_gen (fun W => ParW w W pl pf (.slice none 0 0) cd ps) (HS1.out.setf cd ps) ?_
    clear f0 f1 f2 ff HS1
    rintro W2 h2
    have HS2 := Lib.hid h2; clear h2
    have f0 : W2.cell? ⟨pf, 0, none⟩ = some (.int .i64 cd) := cell_blk HS2.out.two.2
    have f1 : W2.cell? ⟨pf, 1, none⟩ = some (.int .i64 0) := cell_blk HS2.out.two.2
    have f2 : W2.cell? ⟨pf, 2, none⟩ = some (.int .i64 ps) := cell_blk HS2.out.two.2
    have hne : (cd != 0) = true := by simp [HCD.out]
    have HL2 : Hid (∀ v, ParW w (W2.setCell ⟨pl, 0, none⟩ v) pl pf v cd ps) := Lib.hid (fun v => HS2.out.setl v)
    have ff : ∀ o, W2.frozen? ⟨pf, o, none⟩ = false := fun o => free_blk HS2.out.two.2
    have l0 : W2.cell? ⟨pl, 0, none⟩ = some (.slice none 0 0) := cell_blk HS2.out.two.1
    have fl : W2.frozen? ⟨pl, 0, none⟩ = false := free_blk HS2.out.two.1
    have k0 : ∀ v, (W2.setCell ⟨pl, 0, none⟩ v).cell? ⟨pf, 0, none⟩ = some (.int .i64 cd) := fun v => cell_blk (HL2.out v).two.2
    have k1 : ∀ v, (W2.setCell ⟨pl, 0, none⟩ v).cell? ⟨pf, 1, none⟩ = some (.int .i64 0) := fun v => cell_blk (HL2.out v).two.2
    have k2 : ∀ v, (W2.setCell ⟨pl, 0, none⟩ v).cell? ⟨pf, 2, none⟩ = some (.int .i64 ps) := fun v => cell_blk (HL2.out v).two.2
    have kf : ∀ v o, (W2.setCell ⟨pl, 0, none⟩ v).frozen? ⟨pf, o, none⟩ = false := fun v o => free_blk (HL2.out v).two.2
    as_aux_lemma =>
    go_upto_region 3 with (fail)
    go_region
    refine norm_gen (fun W => ParW w W pl pf (.slice none 0 0) cd ps) ((HL2.out (.slice none 0 0)).setf cd ps).drew ?_
    clear f0 f1 f2 hne HL2 ff l0 fl k0 k1 k2 kf
    rintro W3 h3
    have HS3 := Lib.hid h3; clear h3
    go_wp2_with fail
    exact ⟨_, results_parse _ _ pl pf _ cd ps rfl rfl HS3.out.two, HS3.out.u, by rw [HRR.out]⟩
  | ok T =>
    have HT := Lib.hid (lexP_ok hl)
    rw [hl] at HSC
    refine HSC.out.mono ?_
    rintro e W1 ⟨u1, lv, h1, ho, hfr⟩
    subst h1
    obtain ⟨la, c, rfl⟩ := slice_of_row ho
    have HS1 := Lib.hid (HS.out.past u1 (fun _ h => h.elim))
    have HO := Lib.hid ho
    have HFR : Hid (∀ g, (Value.slice la T.length c).ownBlock = some g → pf < g) := Lib.hid (fun g hg => by have := hfr g hg; have := lt_blk HS.out.two.2; omega)
    have HRR : Hid (r = progR s.size T) := Lib.hid (by rw [← HR.out, parseR, hl])
    clear HSC hl u1 HR ho hfr HS
    have f0 : W1.cell? ⟨pf, 0, none⟩ = some (.int .i64 0) := cell_blk HS1.out.two.2
    have f1 : W1.cell? ⟨pf, 1, none⟩ = some (.int .i64 0) := cell_blk HS1.out.two.2
    have f2 : W1.cell? ⟨pf, 2, none⟩ = some (.int .i64 0) := cell_blk HS1.out.two.2
    have ff : ∀ o, W1.frozen? ⟨pf, o, none⟩ = false := fun o => free_blk HS1.out.two.2
    go_upto_region 2 with (fail)
    refine wp_gen (fun W => ParW w W pl pf (.slice none 0 0) 0 0 ∧ TokOwn W (.slice la T.length c) T) ⟨HS1.out.setf 0 0,
      ((((Upd.refl W1 (fun k => k = pf)).setCell (a := ⟨pf, 0, none⟩) (.inl rfl) _).setCell (a := ⟨pf, 1, none⟩) (.inl rfl) _).setCell (a := ⟨pf, 2, none⟩) (.inl rfl) _).ownsRow HO.out (fun g hg => by have := HFR.out g hg; omega)⟩ ?_
    clear f0 f1 f2 ff HS1 HO
    rintro W2 ⟨h2, ho⟩
    have HS2 := Lib.hid h2; have HO := Lib.hid ho; clear h2 ho
    have f0 : W2.cell? ⟨pf, 0, none⟩ = some (.int .i64 0) := cell_blk HS2.out.two.2
    have HS3 : Hid (∀ o, ParW w (W2.alloc o) pl pf (.slice none 0 0) 0 0) := Lib.hid (fun o => HS2.out.past ((Upd.refl W2 NO).alloc o) (fun _ h => h.elim))
    have HP : Hid (PR (W2.alloc (.cells #[.slice la T.length c, .int .i64 s.size, .int .i64 0, .int .i64 0, .slice none 0 0] 49)) (fun k => k = W2.heap.size) W2.heap.size la c T s.size ⟨0, 0, []⟩ (.slice none 0 0)) :=
      Lib.hid (PR.made (HO.out.row (fun g hg => (HO.out.lt g hg).2)).2)
    have HBP : Hid (pf < W2.heap.size) := Lib.hid (lt_blk HS2.out.two.2)
    as_aux_lemma =>
    go_upto_region 6 with (fail)
    obtain ⟨bp, hbp⟩ : ∃ bp, bp = W2.heap.size := ⟨_, rfl⟩
    rw [← hbp] at HP HBP ⊢
    clear hbp
    refine wp_gen (fun W => ParW w W pl pf (.slice none 0 0) 0 0 ∧ PR W (fun k => k = bp) bp la c T s.size ⟨0, 0, []⟩ (.slice none 0 0)) ⟨HS3.out _, HP.out⟩ ?_
    clear f0 HS3 HP HS2 HO HFR
    rintro W3 ⟨h3, hp⟩
    have HS3 := Lib.hid h3; clear h3
    have HNE : Hid (progG T s.size (20 * T.length + 40) [] ⟨0, 0, []⟩ ≠ .out) := Lib.hid (progG_ne _ _ _ (Nat.zero_le _) (by simp))
    have HPC := Lib.hid (program_c (20 * T.length + 40) hp ⟨Nat.zero_le _, by decide, by decide, by simp, by have := HT.out.2.1; omega⟩ (fun t ht => by have := HT.out.2.2 t ht; omega) HNE.out)
    clear hp
    as_aux_lemma =>
    go_wp2_with fail
    cases hg : progG T s.size (20 * T.length + 40) [] ⟨0, 0, []⟩ with
    | out => exact absurd hg HNE.out
    | bad cd ps =>
      have HR2 : Hid (r = .bad cd ps) := Lib.hid (by rw [HRR.out, progR, hg])
      rw [hg] at HPC
      refine HPC.out.mono ?_
      rintro e W4 ⟨he, u4⟩
      subst he
      have HS4 := Lib.hid (HS3.out.past u4 (fun k hk => by have : k = bp := hk; have := HBP.out; omega))
      clear u4 HPC hg HRR HNE HT HM
      go_wp2_with fail
      exact parse_panic _ _ pl pf _ 0 0 _ _ _ rfl rfl HS4.out.ne HS4.out.two (fun W' hc => ⟨HS4.out.u.past hc.1 (fun k hk => by have := HS4.out.l1; have := HS4.out.l2; omega), by rw [HR2.out]⟩)
    | ok a st =>
      have HR2 : Hid (r = if 600 < st.nodes.length then .bad 10 s.size else .ok st.nodes) := Lib.hid (by rw [HRR.out, progR, hg])
      rw [hg] at HPC
      refine HPC.out.mono ?_
      rintro e W4 ⟨he, X', nv', hp', u4⟩
      subst he
      have HS4 := Lib.hid (HS3.out.past u4 (fun k hk => by have : k = bp := hk; have := HBP.out; omega))
      have HP4 := Lib.hid hp'
      obtain ⟨an, cn, hnv⟩ := slice_of_row (hp'.nodes.choose_spec.2.1)
      subst hnv
      have HLEN : Hid (st.nodes.length ≤ 100000) := Lib.hid (by have h1 := progG_few _ _ _ _ _ (Nat.zero_le _) hg; have h2 := HT.out.2.1; simp at h1; omega)
      clear u4 HPC hg HRR HNE hp'
      have d4 : W4.cell? ⟨bp, 4, none⟩ = some (.slice an st.nodes.length cn) := HP4.out.c4
      obtain ⟨n, hn⟩ : ∃ n, n = st.nodes.length := ⟨_, rfl⟩
      rw [← hn] at d4 HLEN HR2
      have hn5 := HLEN.out
      have HN := Lib.hid hn; clear hn
      as_aux_lemma =>
      by_cases h6 : 600 < n
      · have hd : decide ((600 : Int) < (n : Int)) = true := by simp; omega
        have hd2 : decide (600 < n) = true := by simp; omega
        have HR3 : Hid (r = .bad 10 s.size) := Lib.hid (by rw [HR2.out, if_pos h6])
        have HS5 : Hid (ParW w (((( W4.setCell ⟨pl, 0, none⟩ (.slice none 0 0)).setCell ⟨pf, 0, none⟩ (.int .i64 10)).setCell ⟨pf, 1, none⟩ (.int .i64 0)).setCell ⟨pf, 2, none⟩ (.int .i64 s.size)) pl pf (.slice none 0 0) 10 s.size) := Lib.hid ((HS4.out.setl _).setf 10 s.size)
        have HL2 : Hid (∀ v, ParW w (W4.setCell ⟨pl, 0, none⟩ v) pl pf v 0 0) := Lib.hid (fun v => HS4.out.setl v)
        have hm' : s.size ≤ 9223372036854775807 := by have := HM.out; unfold maxLen at this; omega
        have l0 : W4.cell? ⟨pl, 0, none⟩ = some (.slice none 0 0) := cell_blk HS4.out.two.1
        have fl : W4.frozen? ⟨pl, 0, none⟩ = false := free_blk HS4.out.two.1
        have k0 : ∀ v, (W4.setCell ⟨pl, 0, none⟩ v).cell? ⟨pf, 0, none⟩ = some (.int .i64 0) := fun v => cell_blk (HL2.out v).two.2
        have k1 : ∀ v, (W4.setCell ⟨pl, 0, none⟩ v).cell? ⟨pf, 1, none⟩ = some (.int .i64 0) := fun v => cell_blk (HL2.out v).two.2
        have k2 : ∀ v, (W4.setCell ⟨pl, 0, none⟩ v).cell? ⟨pf, 2, none⟩ = some (.int .i64 0) := fun v => cell_blk (HL2.out v).two.2
        have kf : ∀ v o, (W4.setCell ⟨pl, 0, none⟩ v).frozen? ⟨pf, o, none⟩ = false := fun v o => free_blk (HL2.out v).two.2
        go_wp2_with fail
        refine parse_ret _ _ pl pf (.slice none 0 0) 10 s.size _ rfl rfl HS5.out.two ⟨HS5.out.u, ?_⟩
        rw [HR3.out]
      · have hd : decide ((600 : Int) < (n : Int)) = false := by simp; omega
        have hd2 : decide (600 < n) = false := by simp; omega
        have HR3 : Hid (r = .ok st.nodes) := Lib.hid (by rw [HR2.out, if_neg h6])
        have HL2 : Hid (∀ v, ParW w (W4.setCell ⟨pl, 0, none⟩ v) pl pf v 0 0) := Lib.hid (fun v => HS4.out.setl v)
        have l0 : W4.cell? ⟨pl, 0, none⟩ = some (.slice none 0 0) := cell_blk HS4.out.two.1
        have fl : W4.frozen? ⟨pl, 0, none⟩ = false := free_blk HS4.out.two.1
        have f0 : W4.cell? ⟨pf, 0, none⟩ = some (.int .i64 0) := cell_blk HS4.out.two.2
        have f1 : W4.cell? ⟨pf, 1, none⟩ = some (.int .i64 0) := cell_blk HS4.out.two.2
        have f2 : W4.cell? ⟨pf, 2, none⟩ = some (.int .i64 0) := cell_blk HS4.out.two.2
        have ff : ∀ o, W4.frozen? ⟨pf, o, none⟩ = false := fun o => free_blk HS4.out.two.2
        have k0 : ∀ v, (W4.setCell ⟨pl, 0, none⟩ v).cell? ⟨pf, 0, none⟩ = some (.int .i64 0) := fun v => cell_blk (HL2.out v).two.2
        have k1 : ∀ v, (W4.setCell ⟨pl, 0, none⟩ v).cell? ⟨pf, 1, none⟩ = some (.int .i64 0) := fun v => cell_blk (HL2.out v).two.2
        have k2 : ∀ v, (W4.setCell ⟨pl, 0, none⟩ v).cell? ⟨pf, 2, none⟩ = some (.int .i64 0) := fun v => cell_blk (HL2.out v).two.2
        have kf : ∀ v o, (W4.setCell ⟨pl, 0, none⟩ v).frozen? ⟨pf, o, none⟩ = false := fun v o => free_blk (HL2.out v).two.2
        go_upto_region 9 with (fail)
        as_aux_lemma =>
        go_region
        refine norm_gen (fun W => ParW w W pl pf (.slice an n cn) 0 0 ∧ NodeRow W X' bp (.slice an n cn) st.nodes) ⟨((HL2.out (.slice an n cn)).setf 0 0).drew, by
          have hlow := HP4.out.low
          have hb := HBP.out
          have hpp := HS4.out.l2
          rw [← HN.out] at HP4
          refine HP4.out.nodes.upd ((((((Upd.refl W4 (fun k => k = pl ∨ k = pf)).setCell (a := ⟨pl, 0, none⟩) (.inl (.inl rfl)) _).setCell (a := ⟨pf, 0, none⟩) (.inl (.inr rfl)) _).setCell (a := ⟨pf, 1, none⟩) (.inl (.inr rfl)) _).setCell (a := ⟨pf, 2, none⟩) (.inl (.inr rfl)) _).drew) (fun k hk _ e => ?_)
          have := hlow k hk
          omega⟩ ?_
        as_aux_lemma =>
        rintro W5 ⟨h5, hn5⟩
        have HS5 := Lib.hid h5; have HN5 := Lib.hid hn5
        clear h5 hn5
        go_wp2_with fail
        refine parse_ret _ _ pl pf (.slice an n cn) 0 0 _ rfl rfl HS5.out.two ⟨HS5.out.u, ?_⟩
        rw [HR3.out]
        exact ⟨_, _, _, rfl, HN5.out⟩

end Go.Proofs.YtaklephcgepfjaaGreatDoor

/- The reference's parser: Parse. (Written by wip/tools/gen_ref20.py.) -/
namespace Go.Proofs.YtaklephcgepfjaaGreatDoor
open Go.RowKit

/-- What the reference's tokens come to. -/
def finR (en : Nat) (s : RS) : PRes := if s.fc = 0 then (if 600 < s.nodes.length then .bad 10 en else .ok s.nodes) else .bad s.fc s.fa

section
variable {bp : Nat} {la : Option Addr} {c : Nat} {T : List Tk} {en : Int}

theorem RP.made {W : World} (ht : TokRow W W.heap.size la T) :
    RP (W.alloc (.cells #[.slice la T.length c, .int .i64 en, .int .i64 0, .int .i64 0, .slice none 0 0, .int .i64 0, .int .i64 0, .int .i64 0] 52)) (fun k => k = W.heap.size) W.heap.size la c T en ⟨0, 0, [], 0, 0⟩ (.slice none 0 0) :=
  ⟨rfl, fun k hk => by show W.heap.size ≤ k; have : k = W.heap.size := hk; omega, fun k hk => by have : k = W.heap.size := hk; simp; omega, heap_alloc_new W _,
    ht.upd ((Upd.refl W NO).alloc _) (fun _ _ h => h), [], rfl, World.ownsRow_nil _ _ _ _, fun g hg => by simp [Value.ownBlock] at hg, fun j n kv hj _ => by simp at hj⟩

/-- Parse's loops, with m rounds left: F says what is still to come. -/
def PgInv (W0 : World) (X0 : Nat → Prop) (bp : Nat) (la : Option Addr) (c : Nat) (T : List Tk) (en : Int) (F : Nat → List Int → RS → Option (Int × RS)) (n : Nat) (a : Int) (s' : RS) (m : Nat) (v : Value) (W : World) : Prop :=
  ∃ (kids : List Int) (s1 : RS) (X1 : Nat → Prop) (nv1 : Value), KidsAt W v kids ∧ (∀ g, v.ownBlock = some g → ¬ X1 g ∧ bp ≤ g ∧ W0.heap.size ≤ g) ∧ kids.length + m ≤ n ∧ RP W X1 bp la c T en s1 nv1 ∧ Upd W0 X0 W X1 ∧ F m kids s1 = some (a, s')

/-- One kid more. -/
theorem kid_more {W0 w4 w5 : World} {X0 X4 : Nat → Prop} {nv4 kv v5 : Value} {kids : List Int} {k : Int} {s2 : RS} (H4 : RP w4 X4 bp la c T en s2 nv4) (U4 : Upd W0 X0 w4 X4)
    (KX4 : ∀ g, kv.ownBlock = some g → ¬ X4 g ∧ bp ≤ g ∧ W0.heap.size ≤ g) (o5 : w5.ownsRow 0 3 1 v5 (kids.length + 1) (kids.map (Value.int .i64) ++ [.int .i64 k]))
    (g5 : (w4.alloc (.cells #[.int .i64 k] 3)).grownBy w5 kv.ownBlock) (f5 : ∀ g, v5.ownBlock = some g → kv.ownBlock = some g ∨ (w4.alloc (.cells #[.int .i64 k] 3)).heap.size ≤ g) :
    KidsAt w5 v5 (kids ++ [k]) ∧ (∀ g, v5.ownBlock = some g → ¬ X4 g ∧ bp ≤ g ∧ W0.heap.size ≤ g) ∧ RP w5 X4 bp la c T en s2 nv4 ∧ Upd W0 X0 w5 X4 := by
  have u5 : Upd w4 (fun g => kv.ownBlock = some g) w5 (fun g => kv.ownBlock = some g) := ((Upd.refl w4 _).alloc _).grown g5 (fun g hg => .inl hg)
  have hs4 : (w4.alloc (.cells #[.int .i64 k] 3)).heap.size = w4.heap.size + 1 := by simp
  refine ⟨?_, fun g hg => ?_, ?_, ?_⟩
  · unfold KidsAt
    rw [List.length_append, List.map_append]
    exact o5
  · rcases f5 g hg with e | e
    · exact KX4 g e
    · have h1 := H4.lt
      have h2 := U4.size
      exact ⟨fun e' => by have := H4.high _ e'; omega, by omega, by omega⟩
  · exact ⟨H4.inX, H4.low, fun g hg => Nat.lt_of_lt_of_le (H4.high g hg) u5.size, u5.keep H4.blk (fun e => (KX4 _ e).1 H4.inX), H4.toks.upd u5 (fun g hg e => by have := (KX4 _ e).2.1; omega), H4.nodes.upd u5 (fun g hg _ e => (KX4 _ e).1 hg)⟩
  · exact ⟨u5.os.trans U4.os, u5.tape.trans U4.tape, u5.output.trans U4.output, Nat.le_trans U4.size u5.size, fun g hg hx => (u5.block g (Nat.lt_of_lt_of_le hg U4.size) (fun e => by have := (KX4 _ e).2.2; omega)).trans (U4.block g hg hx), U4.sub⟩

theorem progGR_go {m : Nat} {a : Int} {kids : List Int} {s1 s' : RS} (h : progGR T en m kids s1 = some (a, s')) (hs : s1.fc = 0 ∧ (isR T ((⟨#[105, 110, 116]⟩ : ByteArray)) s1 || isR T ((⟨#[108, 111, 99, 107]⟩ : ByteArray)) s1) = true) :
    m = m - 1 + 1 ∧ ∃ k s2, globalR T en s1 = some (k, s2) ∧ progGR T en (m - 1) (kids ++ [k]) s2 = some (a, s') := by
  cases m with
  | zero => cases h
  | succ m =>
    refine ⟨by omega, ?_⟩
    unfold progGR at h
    rw [if_pos hs] at h
    obtain ⟨r, s2, q, h⟩ := bindR_eq.1 h
    exact ⟨r, s2, q, h⟩

theorem progGR_stop {m : Nat} {a : Int} {kids : List Int} {s1 s' : RS} (h : progGR T en m kids s1 = some (a, s')) (hs : ¬ (s1.fc = 0 ∧ (isR T ((⟨#[105, 110, 116]⟩ : ByteArray)) s1 || isR T ((⟨#[108, 111, 99, 107]⟩ : ByteArray)) s1) = true)) :
    m = m - 1 + 1 ∧ progTR T en (m - 1) kids s1 = some (a, s') := by
  cases m with
  | zero => cases h
  | succ m =>
    refine ⟨by omega, ?_⟩
    unfold progGR at h
    rw [if_neg hs] at h
    exact h

theorem progTR_go {m : Nat} {a : Int} {kids : List Int} {s1 s' : RS} (h : progTR T en m kids s1 = some (a, s')) (hs : s1.fc = 0 ∧ s1.i < T.length) :
    m = m - 1 + 1 ∧ ∃ b s2, runR T en (m - 1) .block (takeR T en ((⟨#[116, 104, 114, 101, 97, 100]⟩ : ByteArray)) s1) = some (b, s2) ∧ progTR T en (m - 1) (kids ++ [(s2.nodes.length : Int)]) (nodeR ⟨4, 0, posR T en s1, ⟨#[]⟩, [b]⟩ s2) = some (a, s') := by
  cases m with
  | zero => cases h
  | succ m =>
    refine ⟨by omega, ?_⟩
    unfold progTR at h
    rw [if_pos hs] at h
    obtain ⟨r, s2, q, h⟩ := bindR_eq.1 h
    exact ⟨r, s2, q, h⟩

theorem progTR_stop {m : Nat} {a : Int} {kids : List Int} {s1 s' : RS} (h : progTR T en m kids s1 = some (a, s')) (hs : ¬ (s1.fc = 0 ∧ s1.i < T.length)) :
    a = s1.nodes.length ∧ s' = nodeR ⟨1, 0, 0, ⟨#[]⟩, kids⟩ s1 := by
  cases m with
  | zero => cases h
  | succ m =>
    unfold progTR at h
    rw [if_neg hs] at h
    unfold putR at h
    injection h with h
    injection h with h1 h2
    exact ⟨h1.symm, h2.symm⟩

theorem progTR_mono (n : Nat) : ∀ (kids : List Int) (s : RS) (a : Int) (s' : RS), progTR T en n kids s = some (a, s') → s.nodes.length ≤ s'.nodes.length := by
  induction n with
  | zero => intro kids s a s' h; cases h
  | succ n ih =>
    intro kids s a s' h
    by_cases hs : s.fc = 0 ∧ s.i < T.length
    · obtain ⟨_, b, s2, q, h⟩ := progTR_go h hs
      have m1 := runR_mono _ _ _ _ _ q
      have m2 := ih _ _ _ _ h
      simp at *; omega
    · obtain ⟨_, rfl⟩ := progTR_stop h hs
      simp

theorem globalR_mono {s s' : RS} {a : Int} (h : globalR T en s = some (a, s')) : s.nodes.length ≤ s'.nodes.length := by
  unfold globalR at h
  dsimp only at h
  repeat' split at h
  all_goals (have := putR_mono h; simpa using this)

theorem progGR_mono (n : Nat) : ∀ (kids : List Int) (s : RS) (a : Int) (s' : RS), progGR T en n kids s = some (a, s') → s.nodes.length ≤ s'.nodes.length := by
  induction n with
  | zero => intro kids s a s' h; cases h
  | succ n ih =>
    intro kids s a s' h
    by_cases hs : s.fc = 0 ∧ (isR T ((⟨#[105, 110, 116]⟩ : ByteArray)) s || isR T ((⟨#[108, 111, 99, 107]⟩ : ByteArray)) s) = true
    · obtain ⟨_, k, s2, q, h⟩ := progGR_go h hs
      have m1 := globalR_mono q
      have m2 := ih _ _ _ _ h
      omega
    · exact progTR_mono _ _ _ _ _ (progGR_stop h hs).2

end

end Go.Proofs.YtaklephcgepfjaaGreatDoor

/- Plain Lean: the two parsers come to the same, of the lexer's tokens. -/
namespace Go.Proofs.YtaklephcgepfjaaGreatDoor

section
variable {T : List Tk} {en : Int}

theorem progTR_some (hT : TokOk T) (n : Nat) : ∀ (kids : List Int) (s : RS) (k : Nat), Gd T k 0 s → 1 ≤ n → (k ≤ T.length → 20 * (T.length - k) + 30 ≤ n) → ∃ a s', progTR T en n kids s = some (a, s') := by
  induction n with
  | zero => intro kids s k _ h; omega
  | succ n ih =>
    intro kids s k g _ hn
    unfold progTR
    split
    · rename_i hq
      have hk : k ≤ T.length := by
        rcases g with g | ⟨p, rfl, g2, g3, _⟩
        · exact absurd hq.1 g.f
        · omega
      have hk2 : k + 1 ≤ T.length := by
        rcases g with g | ⟨p, rfl, g2, g3, _⟩
        · exact absurd hq.1 g.f
        · have : p.i < T.length := hq.2
          omega
      have h := hn hk
      have gt := g.take (en := en) ((⟨#[116, 104, 114, 101, 97, 100]⟩ : ByteArray))
      have nl : Nt.less .block ≤ 0 := by simp [Nt.less]
      refine bindR_some' (runR_some hT n .block _ (k + 1) 0 gt (by omega) nl (by intro _; simp only [Nt.rank]; omega) (by simp only [Nt.fr]; omega) (by simp) (by simp)) (fun b s1 e => ?_)
      have ge := Gd.run hT gt e (by intro _; simp only [Nt.rank]; omega) nl (by simp) (by simp)
      simp only [Nt.less, Int.sub_zero] at ge
      simp only [putR, bindR_some]
      exact ih _ _ (k + 1) ((ge.mono (Nat.le_add_right _ _)).node _) (by omega) (by omega)
    · exact ⟨_, _, rfl⟩

theorem globalR_some (s : RS) : ∃ a s', globalR T en s = some (a, s') := by
  unfold globalR
  dsimp only
  repeat' split
  all_goals exact ⟨_, _, rfl⟩

theorem progGR_some (hT : TokOk T) (n : Nat) : ∀ (kids : List Int) (s : RS) (k : Nat), Gd T k 0 s → 2 ≤ n → (k ≤ T.length → 20 * (T.length - k) + 32 ≤ n) → ∃ a s', progGR T en n kids s = some (a, s') := by
  induction n with
  | zero => intro kids s k _ h; omega
  | succ n ih =>
    intro kids s k g h2 hn
    unfold progGR
    split
    · rename_i hq
      obtain ⟨a, s1, e⟩ := globalR_some (T := T) (en := en) s
      rcases g with g | ⟨p, rfl, g2, g3, g4, g5, g6⟩
      · exact absurd hq.1 g.f
      rw [e, bindR_some]
      have h := hn (by omega)
      have R := rel_global g3 e
      cases hp : globalP T en p with
      | ok c p2 =>
        rw [hp] at R
        obtain ⟨_, rfl⟩ := R
        have A := globalP_ok hp
        have D := globalP_deep hp
        exact ih _ _ (k + 1) (.inr ⟨p2, rfl, by omega, A.1, by omega, by omega, by omega⟩) (by omega) (by omega)
      | bad c q => 
        rw [hp] at R
        exact ih _ _ (T.length + 1) (.inl R.fell.failed) (by omega) (by omega)
      | out => exact absurd hp globalP_ne
    · exact progTR_some hT n _ _ k g (by omega) (by intro hk; have := hn hk; omega)

end

/-- The reference, of the tokens: a run, and what it comes to. -/
theorem ref_run {T : List Tk} {en : Nat} (hT : TokOk T) (hl : T.length ≤ 4000) :
    ∃ n a s', n ≤ 1000000 ∧ progGR T en n [] ⟨0, 0, [], 0, 0⟩ = some (a, s') ∧ s'.nodes.length ≤ 1000000 ∧ finR en s' = progR en T := by
  have g : Gd T 0 0 (ofPS ⟨0, 0, []⟩) := .inr ⟨⟨0, 0, []⟩, rfl, Nat.le_refl _, Nat.zero_le _, rfl, Int.le_refl _, by decide⟩
  obtain ⟨a, s', e⟩ := progGR_some (en := en) hT (20 * T.length + 40) [] _ 0 g (by omega) (by omega)
  have R := rel_progG hT (20 * T.length + 40) [] ⟨0, 0, []⟩ a s' (Nat.zero_le _) (Int.le_refl _) (by decide) e
  refine ⟨20 * T.length + 40, a, s', by omega, e, ?_, ?_⟩
  · cases hp : progG T en (20 * T.length + 40) [] ⟨0, 0, []⟩ with
    | ok c p2 =>
      rw [hp] at R
      obtain ⟨_, rfl⟩ := R
      have := progG_few _ _ _ _ _ (Nat.zero_le _) hp
      show p2.nodes.length ≤ 1000000
      simp at this
      omega
    | bad c q =>
      rw [hp] at R
      have := R.2.2.2.2
      simp at this
      omega
    | out => exact absurd hp (progG_ne _ _ _ (Nat.zero_le _) (by simp))
  · unfold progR
    cases hp : progG T en (20 * T.length + 40) [] ⟨0, 0, []⟩ with
    | ok c p2 =>
      rw [hp] at R
      obtain ⟨_, rfl⟩ := R
      rfl
    | bad c q =>
      rw [hp] at R
      obtain ⟨h1, h2, _, h3, _⟩ := R
      subst h1 h2
      unfold finR
      rw [if_neg h3]
    | out => exact absurd hp (progG_ne _ _ _ (Nat.zero_le _) (by simp))

end Go.Proofs.YtaklephcgepfjaaGreatDoor
