/- Plain Lean, no program in sight: the parser of the program and the parser of the reference as functions on tokens, with rounds as a first argument. -/
import Derived.Lib.Strings
import Derived.RowKit
set_option linter.unusedVariables false
set_option linter.unusedSimpArgs false
set_option linter.all false

namespace Go.Proofs.YtaklephcgepfjaaGreatDoor

structure Tk where
  kind : Int
  num : Int
  pos : Int
  text : ByteArray

structure Nd where
  kind : Int
  num : Int
  pos : Int
  text : ByteArray
  kids : List Int

structure PS where
  i : Nat
  deep : Int
  nodes : List Nd

/-- What a piece of the program's parser comes to: a node's number and a state; a fault; or its rounds are used up. -/
inductive Res (α : Type) where
  | ok (a : α) (s : PS)
  | bad (code pos : Int)
  | out

def Res.bind {α β : Type} (r : Res α) (f : α → PS → Res β) : Res β :=
  match r with
  | .ok a s => f a s
  | .bad c p => .bad c p
  | .out => .out

@[simp] theorem Res.bind_ok {α β : Type} (a : α) (s : PS) (f : α → PS → Res β) : (Res.ok a s).bind f = f a s := rfl
@[simp] theorem Res.bind_bad {α β : Type} (c p : Int) (f : α → PS → Res β) : (Res.bad c p : Res α).bind f = .bad c p := rfl
@[simp] theorem Res.bind_out {α β : Type} (f : α → PS → Res β) : (Res.out : Res α).bind f = .out := rfl


/-- Is a text one of some? -/
def memB (x : ByteArray) (l : List ByteArray) : Bool := l.any fun y => decide (x = y)
theorem memB_iff (x : ByteArray) (l : List ByteArray) : memB x l = true ↔ x ∈ l := by simp [memB, List.any_eq_true]

section
variable (T : List Tk) (en : Int)

def posP (s : PS) : Int := match T[s.i]? with
  | some t => t.pos
  | none => en

def failP {α : Type} (code : Int) (s : PS) : Res α := .bad code (posP T en s)

def isP (l : List ByteArray) (s : PS) : Bool := match T[s.i]? with
  | some t => (t.kind == 2 || t.kind == 4) && memB t.text l
  | none => false

def kindP (k : Int) (s : PS) : Bool := match T[s.i]? with
  | some t => t.kind == k
  | none => false

def tokP (s : PS) : Tk := T.getD s.i ⟨0, 0, 0, ByteArray.empty⟩

def stepP (s : PS) : PS := { s with i := s.i + 1 }

def takeP (x : ByteArray) (s : PS) : Res Int := if isP T [x] s then .ok (tokP T s).pos (stepP s) else failP T en 5 s

def nameP (s : PS) : Res Tk := if kindP T 1 s then .ok (tokP T s) (stepP s) else failP T en 5 s

def openP (x : ByteArray) (s : PS) : Res Int :=
  if isP T [x] s && s.deep == 20 then failP T en 6 s
  else (takeP T en x s).bind fun a s => .ok a { s with deep := s.deep + 1 }

def shutP (x : ByteArray) (s : PS) : Res Unit := (takeP T en x s).bind fun _ s => .ok () { s with deep := s.deep - 1 }

def putP (kind pos num : Int) (text : ByteArray) (kids : List Int) (s : PS) : Res Int :=
  .ok s.nodes.length { s with nodes := s.nodes ++ [⟨kind, num, pos, text, kids⟩] }

end

/-- The pieces of the grammar; 'blockL', 'exprL' are loops, 'progG', 'progT' the program's two. -/
inductive Nt where
  | expr (k : Nat)
  | exprL (k : Nat) (left : Int)
  | unary
  | held
  | block
  | blockL (pos : Int) (kids : List Int)
  | stmt

def levelsP : List (List ByteArray) := [[(⟨#[124, 124]⟩ : ByteArray)], [(⟨#[38, 38]⟩ : ByteArray)], [(⟨#[61, 61]⟩ : ByteArray), (⟨#[33, 61]⟩ : ByteArray), (⟨#[60]⟩ : ByteArray), (⟨#[60, 61]⟩ : ByteArray), (⟨#[62]⟩ : ByteArray), (⟨#[62, 61]⟩ : ByteArray)], [(⟨#[43]⟩ : ByteArray), (⟨#[45]⟩ : ByteArray)], [(⟨#[42]⟩ : ByteArray)]]

def runP (T : List Tk) (en : Int) : Nat → Nt → PS → Res Int
  | 0, _, _ => .out
  | n + 1, .expr k, s =>
    if k = 5 then runP T en n .unary s
    else (runP T en n (.expr (k + 1)) s).bind fun left s => runP T en n (.exprL k left) s
  | n + 1, .exprL k left, s =>
    if isP T (levelsP.getD k []) s then
      (runP T en n (.expr (k + 1)) (stepP s)).bind fun right s' =>
        (putP 19 (tokP T s).pos 0 (tokP T s).text [left, right] s').bind fun left s => runP T en n (.exprL k left) s
    else .ok left s
  | n + 1, .unary, s =>
    if isP T [(⟨#[45]⟩ : ByteArray), (⟨#[33]⟩ : ByteArray)] s then
      (openP T en (tokP T s).text s).bind fun _ s' =>
        (runP T en n .unary s').bind fun k s'' =>
          putP (if (tokP T s).text = (⟨#[45]⟩ : ByteArray) then 17 else 18) (posP T en s) 0 ByteArray.empty [k] { s'' with deep := s''.deep - 1 }
    else if isP T [(⟨#[40]⟩ : ByteArray)] s then runP T en n .held s
    else if kindP T 3 s then putP 15 (posP T en s) (tokP T s).num ByteArray.empty [] (stepP s)
    else (nameP T en s).bind fun t s' => putP 16 (posP T en s) 0 t.text [] s'
  | n + 1, .held, s =>
    (openP T en ((⟨#[40]⟩ : ByteArray)) s).bind fun _ s => (runP T en n (.expr 0) s).bind fun k s => (shutP T en ((⟨#[41]⟩ : ByteArray)) s).bind fun _ s => .ok k s
  | n + 1, .block, s =>
    (openP T en ((⟨#[123]⟩ : ByteArray)) s).bind fun pos s => runP T en n (.blockL pos []) s
  | n + 1, .blockL pos kids, s =>
    if isP T [(⟨#[125]⟩ : ByteArray)] s then (shutP T en ((⟨#[125]⟩ : ByteArray)) s).bind fun _ s => putP 5 pos 0 ByteArray.empty kids s
    else (runP T en n .stmt s).bind fun k s => runP T en n (.blockL pos (kids ++ [k])) s
  | n + 1, .stmt, s =>
    let pos := posP T en s
    if isP T [(⟨#[105, 110, 116]⟩ : ByteArray)] s then
      (nameP T en (stepP s)).bind fun t s => (takeP T en ((⟨#[61]⟩ : ByteArray)) s).bind fun _ s => (runP T en n (.expr 0) s).bind fun k s =>
        (takeP T en ((⟨#[59]⟩ : ByteArray)) s).bind fun _ s => putP 6 pos 0 t.text [k] s
    else if isP T [(⟨#[105, 102]⟩ : ByteArray)] s then
      (runP T en n .held (stepP s)).bind fun k s => (runP T en n .block s).bind fun b s =>
        if isP T [(⟨#[101, 108, 115, 101]⟩ : ByteArray)] s then (runP T en n .block (stepP s)).bind fun c s => putP 9 pos 0 ByteArray.empty [k, b, c] s
        else putP 9 pos 0 ByteArray.empty [k, b] s
    else if isP T [(⟨#[119, 104, 105, 108, 101]⟩ : ByteArray)] s then
      (runP T en n .held (stepP s)).bind fun k s => (runP T en n .block s).bind fun b s => putP 10 pos 0 ByteArray.empty [k, b] s
    else if isP T [(⟨#[112, 114, 105, 110, 116]⟩ : ByteArray)] s then
      (runP T en n .held (stepP s)).bind fun k s => (takeP T en ((⟨#[59]⟩ : ByteArray)) s).bind fun _ s => putP 11 pos 0 ByteArray.empty [k] s
    else if isP T [(⟨#[108, 111, 99, 107]⟩ : ByteArray), (⟨#[117, 110, 108, 111, 99, 107]⟩ : ByteArray)] s then
      (openP T en ((⟨#[40]⟩ : ByteArray)) (stepP s)).bind fun _ s' => (nameP T en s').bind fun t s' => (shutP T en ((⟨#[41]⟩ : ByteArray)) s').bind fun _ s' =>
        (takeP T en ((⟨#[59]⟩ : ByteArray)) s').bind fun _ s' => putP (if (tokP T s).text = (⟨#[117, 110, 108, 111, 99, 107]⟩ : ByteArray) then 13 else 12) pos 0 t.text [] s'
    else if isP T [(⟨#[102, 101, 110, 99, 101]⟩ : ByteArray)] s then
      (takeP T en ((⟨#[59]⟩ : ByteArray)) (stepP s)).bind fun _ s => putP 14 pos 0 ByteArray.empty [] s
    else
      (nameP T en s).bind fun t s => (takeP T en ((⟨#[61]⟩ : ByteArray)) s).bind fun _ s =>
        if isP T [(⟨#[99, 97, 115]⟩ : ByteArray)] s then
          (openP T en ((⟨#[40]⟩ : ByteArray)) (stepP s)).bind fun _ s => (nameP T en s).bind fun u s => (putP 16 u.pos 0 u.text [] s).bind fun a s =>
            (takeP T en ((⟨#[44]⟩ : ByteArray)) s).bind fun _ s => (runP T en n (.expr 0) s).bind fun x s =>
              (takeP T en ((⟨#[44]⟩ : ByteArray)) s).bind fun _ s => (runP T en n (.expr 0) s).bind fun y s =>
                (shutP T en ((⟨#[41]⟩ : ByteArray)) s).bind fun _ s => (takeP T en ((⟨#[59]⟩ : ByteArray)) s).bind fun _ s => putP 8 pos 0 t.text [a, x, y] s
        else (runP T en n (.expr 0) s).bind fun k s => (takeP T en ((⟨#[59]⟩ : ByteArray)) s).bind fun _ s => putP 7 pos 0 t.text [k] s

def globalP (T : List Tk) (en : Int) (s : PS) : Res Int :=
  if isP T [(⟨#[108, 111, 99, 107]⟩ : ByteArray)] s then
    (nameP T en (stepP s)).bind fun t s' => (takeP T en (⟨#[59]⟩ : ByteArray) s').bind fun _ s' => putP 3 (tokP T s).pos 0 t.text [] s'
  else
    (takeP T en (⟨#[105, 110, 116]⟩ : ByteArray) s).bind fun pos s => (nameP T en s).bind fun t s =>
      if isP T [(⟨#[61]⟩ : ByteArray)] s then
        if isP T [(⟨#[45]⟩ : ByteArray)] (stepP s) then
          if kindP T 3 (stepP (stepP s)) then (takeP T en (⟨#[59]⟩ : ByteArray) (stepP (stepP (stepP s)))).bind fun _ s' => putP 2 pos (-(tokP T (stepP (stepP s))).num) t.text [] s'
          else failP T en 5 (stepP (stepP s))
        else
          if kindP T 3 (stepP s) then (takeP T en (⟨#[59]⟩ : ByteArray) (stepP (stepP s))).bind fun _ s' => putP 2 pos (tokP T (stepP s)).num t.text [] s'
          else failP T en 5 (stepP s)
      else (takeP T en (⟨#[59]⟩ : ByteArray) s).bind fun _ s' => putP 2 pos 0 t.text [] s'

def progT (T : List Tk) (en : Int) : Nat → List Int → PS → Res Int
  | 0, _, _ => .out
  | n + 1, kids, s =>
    if s.i < T.length then
      (takeP T en ((⟨#[116, 104, 114, 101, 97, 100]⟩ : ByteArray)) s).bind fun pos s => (runP T en n .block s).bind fun b s =>
        (putP 4 pos 0 ByteArray.empty [b] s).bind fun k s => progT T en n (kids ++ [k]) s
    else putP 1 0 0 ByteArray.empty kids s

def progG (T : List Tk) (en : Int) : Nat → List Int → PS → Res Int
  | 0, _, _ => .out
  | n + 1, kids, s =>
    if isP T [(⟨#[105, 110, 116]⟩ : ByteArray), (⟨#[108, 111, 99, 107]⟩ : ByteArray)] s then (globalP T en s).bind fun k s => progG T en n (kids ++ [k]) s
    else progT T en n kids s

end Go.Proofs.YtaklephcgepfjaaGreatDoor

/- Plain Lean: how far the program's parser goes: places, depths, how many nodes. -/
namespace Go.Proofs.YtaklephcgepfjaaGreatDoor

theorem Res.bind_eq_ok {α β : Type} {r : Res α} {f : α → PS → Res β} {b : β} {s' : PS} : r.bind f = .ok b s' ↔ ∃ a s1, r = .ok a s1 ∧ f a s1 = .ok b s' := by
  cases r with
  | ok a s => exact ⟨fun h => ⟨a, s, rfl, h⟩, fun ⟨_, _, h1, h2⟩ => by injection h1 with h3 h4; subst h3 h4; exact h2⟩
  | bad c p => simp
  | out => simp

section
variable {T : List Tk} {en : Int} {s s' : PS}

theorem isP_lt {l : List ByteArray} (h : isP T l s = true) : s.i < T.length := by
  rcases Nat.lt_or_ge s.i T.length with h1 | h1
  · exact h1
  · simp [isP, List.getElem?_eq_none h1] at h

theorem kindP_lt {k : Int} (h : kindP T k s = true) : s.i < T.length := by
  rcases Nat.lt_or_ge s.i T.length with h1 | h1
  · exact h1
  · simp [kindP, List.getElem?_eq_none h1] at h

theorem takeP_ok {x : ByteArray} {a : Int} (h : takeP T en x s = .ok a s') : s' = stepP s ∧ s.i < T.length := by
  unfold takeP at h
  split at h
  · rename_i hq
    injection h with h1 h2
    exact ⟨h2.symm, isP_lt hq⟩
  · simp [failP] at h

theorem nameP_ok {a : Tk} (h : nameP T en s = .ok a s') : s' = stepP s ∧ s.i < T.length := by
  unfold nameP at h
  split at h
  · rename_i hq
    injection h with h1 h2
    exact ⟨h2.symm, kindP_lt hq⟩
  · simp [failP] at h

theorem openP_ok {x : ByteArray} {a : Int} (h : openP T en x s = .ok a s') : s' = { stepP s with deep := s.deep + 1 } ∧ s.i < T.length ∧ s.deep ≠ 20 := by
  unfold openP at h
  split at h
  · simp [failP] at h
  · rename_i hq
    obtain ⟨b, s1, h1, h2⟩ := Res.bind_eq_ok.1 h
    obtain ⟨rfl, hi⟩ := takeP_ok h1
    injection h2 with h3 h4
    refine ⟨h4.symm, hi, fun e => hq ?_⟩
    unfold takeP at h1
    split at h1
    · rename_i h5; simp [h5, e]
    · simp [failP] at h1

theorem shutP_ok {x : ByteArray} {a : Unit} (h : shutP T en x s = .ok a s') : s' = { stepP s with deep := s.deep - 1 } ∧ s.i < T.length := by
  unfold shutP at h
  obtain ⟨b, s1, h1, h2⟩ := Res.bind_eq_ok.1 h
  obtain ⟨rfl, hi⟩ := takeP_ok h1
  injection h2 with h3 h4
  exact ⟨h4.symm, hi⟩

theorem putP_ok {kind pos num : Int} {text : ByteArray} {kids : List Int} {a : Int} (h : putP kind pos num text kids s = .ok a s') : s' = { s with nodes := s.nodes ++ [⟨kind, num, pos, text, kids⟩] } ∧ a = s.nodes.length := by
  unfold putP at h
  injection h with h3 h4
  exact ⟨h4.symm, h3.symm⟩

/-- From s to s': d less deep; not back, not beyond the end; no more nodes than tokens. -/
structure Adv (T : List Tk) (d : Int) (g : Nat) (s s' : PS) : Prop where
  deep : s'.deep = s.deep - d
  le : s.i + g ≤ s'.i
  top : s'.i ≤ T.length
  few : s'.nodes.length + s.i ≤ s.nodes.length + s'.i

def Nt.less : Nt → Int
  | .blockL _ _ => 1
  | _ => 0


def Nt.gain : Nt → Nat
  | .stmt => 1
  | _ => 0

theorem runP_adv (n : Nat) : ∀ (nt : Nt) (s : PS) (r : Int) (s' : PS), s.i ≤ T.length → runP T en n nt s = .ok r s' → Adv T nt.less nt.gain s s' := by
  induction n with
  | zero => intro nt s r s' _ h; simp [runP] at h
  | succ n ih =>
    intro nt s r s' hs h
    cases nt with
    | expr k =>
      simp only [runP] at h
      split at h
      · show Adv T 0 0 s s'
        exact ih .unary s r s' hs h
      · obtain ⟨l, s1, h1, h2⟩ := Res.bind_eq_ok.1 h
        obtain ⟨a1, a2, a3, a4⟩ := ih _ _ _ _ hs h1
        obtain ⟨b1, b2, b3, b4⟩ := ih _ _ _ _ a3 h2
        simp [Nt.less, Nt.gain] at a1 b1
        exact ⟨by simp [Nt.less, Nt.gain]; omega, by simp [Nt.gain]; omega, b3, by omega⟩
    | exprL k left =>
      simp only [runP] at h
      split at h
      · rename_i hq
        have hi := isP_lt hq
        obtain ⟨l, s1, h1, h2⟩ := Res.bind_eq_ok.1 h
        obtain ⟨m, s2, h3, h4⟩ := Res.bind_eq_ok.1 h2
        obtain ⟨a1, a2, a3, a4⟩ := ih _ _ _ _ (by simp only [stepP]; omega) h1
        obtain ⟨rfl, rfl⟩ := putP_ok h3
        obtain ⟨b1, b2, b3, b4⟩ := ih _ _ _ _ (by simpa using a3) h4
        simp [stepP, Nt.less, Nt.gain] at a1 a2 a4 b1 b2 b4
        exact ⟨by simp [Nt.less, Nt.gain]; omega, by simp [Nt.gain]; omega, b3, by omega⟩
      · injection h with h1 h2
        subst h2
        exact ⟨by simp [Nt.less], Nat.le_refl _, hs, Nat.le_refl _⟩
    | unary =>
      simp only [runP] at h
      split at h
      · obtain ⟨l, s1, h1, h2⟩ := Res.bind_eq_ok.1 h
        obtain ⟨m, s2, h3, h4⟩ := Res.bind_eq_ok.1 h2
        obtain ⟨rfl, hi, hd⟩ := openP_ok h1
        obtain ⟨a1, a2, a3, a4⟩ := ih _ _ _ _ (by simp only [stepP]; omega) h3
        obtain ⟨rfl, rfl⟩ := putP_ok h4
        simp [stepP, Nt.less, Nt.gain] at a1 a2 a4
        exact ⟨by simp [a1, Nt.less, Nt.gain], by simp [Nt.gain]; omega, a3, by simp; omega⟩
      · split at h
        · show Adv T 0 0 s s'
          exact ih .held s r s' hs h
        · split at h
          · rename_i hq
            have hi := kindP_lt hq
            obtain ⟨rfl, rfl⟩ := putP_ok h
            exact ⟨by simp [stepP, Nt.less, Nt.gain], by simp [stepP, Nt.gain], by simp only [stepP]; omega, by simp [stepP]; omega⟩
          · obtain ⟨l, s1, h1, h2⟩ := Res.bind_eq_ok.1 h
            obtain ⟨rfl, hi⟩ := nameP_ok h1
            obtain ⟨rfl, rfl⟩ := putP_ok h2
            exact ⟨by simp [stepP, Nt.less, Nt.gain], by simp [stepP, Nt.gain], by simp only [stepP]; omega, by simp [stepP]; omega⟩
    | held =>
      simp only [runP] at h
      obtain ⟨l, s1, h1, h2⟩ := Res.bind_eq_ok.1 h
      obtain ⟨m, s2, h3, h4⟩ := Res.bind_eq_ok.1 h2
      obtain ⟨o, s3, h5, h6⟩ := Res.bind_eq_ok.1 h4
      obtain ⟨rfl, hi, hd⟩ := openP_ok h1
      obtain ⟨a1, a2, a3, a4⟩ := ih _ _ _ _ (by simp only [stepP]; omega) h3
      obtain ⟨rfl, hj⟩ := shutP_ok h5
      injection h6 with h7 h8
      subst h8
      simp [stepP, Nt.less, Nt.gain] at a1 a2 a4
      exact ⟨by simp [a1, Nt.less, Nt.gain], by simp [stepP, Nt.gain]; omega, by simp only [stepP]; omega, by simp [stepP]; omega⟩
    | block =>
      simp only [runP] at h
      obtain ⟨l, s1, h1, h2⟩ := Res.bind_eq_ok.1 h
      obtain ⟨rfl, hi, hd⟩ := openP_ok h1
      obtain ⟨a1, a2, a3, a4⟩ := ih _ _ _ _ (by simp only [stepP]; omega) h2
      simp [stepP, Nt.less, Nt.gain] at a1 a2 a4
      exact ⟨by simp [a1, Nt.less, Nt.gain], by simp [Nt.gain]; omega, a3, by omega⟩
    | blockL pos kids =>
      simp only [runP] at h
      split at h
      · obtain ⟨l, s1, h1, h2⟩ := Res.bind_eq_ok.1 h
        obtain ⟨rfl, hi⟩ := shutP_ok h1
        obtain ⟨rfl, rfl⟩ := putP_ok h2
        exact ⟨by simp [Nt.less, Nt.gain], by simp [stepP, Nt.gain], by simp only [stepP]; omega, by simp [stepP]; omega⟩
      · obtain ⟨l, s1, h1, h2⟩ := Res.bind_eq_ok.1 h
        obtain ⟨a1, a2, a3, a4⟩ := ih _ _ _ _ hs h1
        obtain ⟨b1, b2, b3, b4⟩ := ih _ _ _ _ a3 h2
        simp [Nt.less, Nt.gain] at a1 b1
        exact ⟨by simp [Nt.less, Nt.gain]; omega, by simp [Nt.gain]; omega, b3, by omega⟩
    | stmt =>
      simp only [runP] at h
      split at h
      · rename_i hq
        have hi := isP_lt hq
        obtain ⟨t, s1, h1, h⟩ := Res.bind_eq_ok.1 h
        obtain ⟨_, s2, h2, h⟩ := Res.bind_eq_ok.1 h
        obtain ⟨k, s3, h3, h⟩ := Res.bind_eq_ok.1 h
        obtain ⟨_, s4, h4, h⟩ := Res.bind_eq_ok.1 h
        obtain ⟨rfl, g1⟩ := nameP_ok h1
        obtain ⟨rfl, g2⟩ := takeP_ok h2
        obtain ⟨a1, a2, a3, a4⟩ := ih _ _ _ _ (by simp only [stepP] at *; omega) h3
        obtain ⟨rfl, g4⟩ := takeP_ok h4
        obtain ⟨rfl, rfl⟩ := putP_ok h
        simp [stepP, Nt.less, Nt.gain] at a1 a2 a4 g1 g2 g4
        exact ⟨by simp [stepP, Nt.less, Nt.gain, a1], by simp [stepP, Nt.gain]; omega, by simp only [stepP]; omega, by simp [stepP]; omega⟩
      split at h
      · rename_i hq0 hq
        have hi := isP_lt hq
        obtain ⟨k, s1, h1, h⟩ := Res.bind_eq_ok.1 h
        obtain ⟨b, s2, h2, h⟩ := Res.bind_eq_ok.1 h
        obtain ⟨a1, a2, a3, a4⟩ := ih _ _ _ _ (by simp only [stepP] at *; omega) h1
        obtain ⟨b1, b2, b3, b4⟩ := ih _ _ _ _ a3 h2
        split at h
        · rename_i hq2
          have hi2 := isP_lt hq2
          obtain ⟨c, s3, h3, h⟩ := Res.bind_eq_ok.1 h
          obtain ⟨c1, c2, c3, c4⟩ := ih _ _ _ _ (by simp only [stepP] at *; omega) h3
          obtain ⟨rfl, rfl⟩ := putP_ok h
          simp [stepP, Nt.less, Nt.gain] at a1 a2 a4 b1 b2 b4 c1 c2 c4
          exact ⟨by simp [Nt.less, Nt.gain, a1, b1, c1], by simp [Nt.gain]; omega, c3, by simp; omega⟩
        · obtain ⟨rfl, rfl⟩ := putP_ok h
          simp [stepP, Nt.less, Nt.gain] at a1 a2 a4 b1 b2 b4
          exact ⟨by simp [Nt.less, Nt.gain, a1, b1], by simp [Nt.gain]; omega, b3, by simp; omega⟩
      split at h
      · rename_i hq0 hq1 hq
        have hi := isP_lt hq
        obtain ⟨k, s1, h1, h⟩ := Res.bind_eq_ok.1 h
        obtain ⟨b, s2, h2, h⟩ := Res.bind_eq_ok.1 h
        obtain ⟨a1, a2, a3, a4⟩ := ih _ _ _ _ (by simp only [stepP] at *; omega) h1
        obtain ⟨b1, b2, b3, b4⟩ := ih _ _ _ _ a3 h2
        obtain ⟨rfl, rfl⟩ := putP_ok h
        simp [stepP, Nt.less, Nt.gain] at a1 a2 a4 b1 b2 b4
        exact ⟨by simp [Nt.less, Nt.gain, a1, b1], by simp [Nt.gain]; omega, b3, by simp; omega⟩
      split at h
      · rename_i hq0 hq1 hq2 hq
        have hi := isP_lt hq
        obtain ⟨k, s1, h1, h⟩ := Res.bind_eq_ok.1 h
        obtain ⟨b, s2, h2, h⟩ := Res.bind_eq_ok.1 h
        obtain ⟨a1, a2, a3, a4⟩ := ih _ _ _ _ (by simp only [stepP] at *; omega) h1
        obtain ⟨rfl, g2⟩ := takeP_ok h2
        obtain ⟨rfl, rfl⟩ := putP_ok h
        simp [stepP, Nt.less, Nt.gain] at a1 a2 a4
        exact ⟨by simp [stepP, Nt.less, Nt.gain, a1], by simp [stepP, Nt.gain]; omega, by simp only [stepP]; omega, by simp [stepP]; omega⟩
      split at h
      · rename_i hq0 hq1 hq2 hq3 hq
        have hi := isP_lt hq
        obtain ⟨k, s1, h1, h⟩ := Res.bind_eq_ok.1 h
        obtain ⟨t, s2, h2, h⟩ := Res.bind_eq_ok.1 h
        obtain ⟨_, s3, h3, h⟩ := Res.bind_eq_ok.1 h
        obtain ⟨_, s4, h4, h⟩ := Res.bind_eq_ok.1 h
        obtain ⟨rfl, g1, g1'⟩ := openP_ok h1
        obtain ⟨rfl, g2⟩ := nameP_ok h2
        obtain ⟨rfl, g3⟩ := shutP_ok h3
        obtain ⟨rfl, g4⟩ := takeP_ok h4
        obtain ⟨rfl, rfl⟩ := putP_ok h
        simp [stepP] at g1 g2 g3 g4
        exact ⟨by simp [stepP, Nt.less, Nt.gain], by simp [stepP, Nt.gain] <;> omega, by simp only [stepP]; omega, by simp [stepP]; omega⟩
      split at h
      · rename_i hq0 hq1 hq2 hq3 hq4 hq
        have hi := isP_lt hq
        obtain ⟨k, s1, h1, h⟩ := Res.bind_eq_ok.1 h
        obtain ⟨rfl, g1⟩ := takeP_ok h1
        obtain ⟨rfl, rfl⟩ := putP_ok h
        simp [stepP] at g1
        exact ⟨by simp [stepP, Nt.less, Nt.gain], by simp [stepP, Nt.gain] <;> omega, by simp only [stepP]; omega, by simp [stepP]; omega⟩
      obtain ⟨t, s1, h1, h⟩ := Res.bind_eq_ok.1 h
      obtain ⟨_, s2, h2, h⟩ := Res.bind_eq_ok.1 h
      obtain ⟨rfl, g1⟩ := nameP_ok h1
      obtain ⟨rfl, g2⟩ := takeP_ok h2
      split at h
      · rename_i hq
        have hi := isP_lt hq
        obtain ⟨_, s3, h3, h⟩ := Res.bind_eq_ok.1 h
        obtain ⟨u, s4, h4, h⟩ := Res.bind_eq_ok.1 h
        obtain ⟨a, s5, h5, h⟩ := Res.bind_eq_ok.1 h
        obtain ⟨_, s6, h6, h⟩ := Res.bind_eq_ok.1 h
        obtain ⟨x, s7, h7, h⟩ := Res.bind_eq_ok.1 h
        obtain ⟨_, s8, h8, h⟩ := Res.bind_eq_ok.1 h
        obtain ⟨y, s9, h9, h⟩ := Res.bind_eq_ok.1 h
        obtain ⟨_, s10, h10, h⟩ := Res.bind_eq_ok.1 h
        obtain ⟨_, s11, h11, h⟩ := Res.bind_eq_ok.1 h
        obtain ⟨rfl, g3, g3'⟩ := openP_ok h3
        obtain ⟨rfl, g4⟩ := nameP_ok h4
        obtain ⟨rfl, rfl⟩ := putP_ok h5
        obtain ⟨rfl, g6⟩ := takeP_ok h6
        obtain ⟨a1, a2, a3, a4⟩ := ih _ _ _ _ (by simp only [stepP] at *; omega) h7
        obtain ⟨rfl, g8⟩ := takeP_ok h8
        obtain ⟨b1, b2, b3, b4⟩ := ih _ _ _ _ (by simp only [stepP] at *; omega) h9
        obtain ⟨rfl, g10⟩ := shutP_ok h10
        obtain ⟨rfl, g11⟩ := takeP_ok h11
        obtain ⟨rfl, rfl⟩ := putP_ok h
        simp [stepP, Nt.less, Nt.gain] at a1 a2 a4 b1 b2 b4 g1 g2 g3 g4 g6 g8 g10 g11
        exact ⟨by simp [stepP, Nt.less, Nt.gain, a1, b1], by simp [stepP, Nt.gain]; omega, by simp only [stepP]; omega, by simp [stepP]; omega⟩
      · obtain ⟨k, s3, h3, h⟩ := Res.bind_eq_ok.1 h
        obtain ⟨_, s4, h4, h⟩ := Res.bind_eq_ok.1 h
        obtain ⟨a1, a2, a3, a4⟩ := ih _ _ _ _ (by simp only [stepP] at *; omega) h3
        obtain ⟨rfl, g4⟩ := takeP_ok h4
        obtain ⟨rfl, rfl⟩ := putP_ok h
        simp [stepP, Nt.less, Nt.gain] at a1 a2 a4 g1 g2 g4
        exact ⟨by simp [stepP, Nt.less, Nt.gain, a1], by simp [stepP, Nt.gain]; omega, by simp only [stepP]; omega, by simp [stepP]; omega⟩
end
end Go.Proofs.YtaklephcgepfjaaGreatDoor

/- Plain Lean, no program in sight: tokens of a text, by places. -/
namespace Go.Proofs.YtaklephcgepfjaaGreatDoor

/-- The byte at a place, as a number. -/
def bt (s : ByteArray) (i : Nat) : Int := if h : i < s.size then (s[i].toNat : Int) else 0
theorem bt_eq {s : ByteArray} {i : Nat} (h : i < s.size) : bt s i = (s[i].toNat : Int) := by simp [bt, h]
theorem bt_lo (s : ByteArray) (i : Nat) : 0 ≤ bt s i := by unfold bt; split <;> omega
theorem bt_hi (s : ByteArray) (i : Nat) : bt s i < 256 := by
  unfold bt
  split
  · have := s[i].toNat_lt; omega
  · omega

def letterI (c : Int) : Bool := (decide (97 ≤ c) && decide (c ≤ 122)) || c == 95
def digitI (c : Int) : Bool := decide (48 ≤ c) && decide (c ≤ 57)
def blankI (c : Int) : Bool := c == 32 || c == 9 || c == 13 || c == 10
def standsI (c : Int) : Bool := blankI c || (decide (32 ≤ c) && decide (c ≤ 126))

/-- Over blanks and notes: the place, and whether a byte there cannot stand. -/
def skipR (s : ByteArray) (note : Bool) (i : Nat) : Nat × Bool :=
  if i < s.size then
    if standsI (bt s i) = false then (i, true)
    else if note then skipR s (bt s i != 10) (i + 1)
    else if blankI (bt s i) then skipR s false (i + 1)
    else if i + 1 < s.size ∧ bt s i = 47 ∧ bt s (i + 1) = 47 then skipR s true (i + 1)
    else (i, false)
  else (i, false)
termination_by s.size - i

def whileR (p : Int → Bool) (s : ByteArray) (i : Nat) : Nat :=
  if i < s.size ∧ p (bt s i) = true then whileR p s (i + 1) else i
termination_by s.size - i

def wordsP : List ByteArray := [(⟨#[105, 110, 116]⟩ : ByteArray), (⟨#[108, 111, 99, 107]⟩ : ByteArray), (⟨#[117, 110, 108, 111, 99, 107]⟩ : ByteArray), (⟨#[116, 104, 114, 101, 97, 100]⟩ : ByteArray), (⟨#[105, 102]⟩ : ByteArray), (⟨#[101, 108, 115, 101]⟩ : ByteArray), (⟨#[119, 104, 105, 108, 101]⟩ : ByteArray), (⟨#[112, 114, 105, 110, 116]⟩ : ByteArray), (⟨#[102, 101, 110, 99, 101]⟩ : ByteArray), (⟨#[99, 97, 115]⟩ : ByteArray)]
def signsP : List ByteArray := [(⟨#[60, 61]⟩ : ByteArray), (⟨#[62, 61]⟩ : ByteArray), (⟨#[61, 61]⟩ : ByteArray), (⟨#[33, 61]⟩ : ByteArray), (⟨#[38, 38]⟩ : ByteArray), (⟨#[124, 124]⟩ : ByteArray), (⟨#[43]⟩ : ByteArray), (⟨#[45]⟩ : ByteArray), (⟨#[42]⟩ : ByteArray), (⟨#[60]⟩ : ByteArray), (⟨#[62]⟩ : ByteArray), (⟨#[33]⟩ : ByteArray), (⟨#[40]⟩ : ByteArray), (⟨#[41]⟩ : ByteArray), (⟨#[123]⟩ : ByteArray), (⟨#[125]⟩ : ByteArray), (⟨#[59]⟩ : ByteArray), (⟨#[44]⟩ : ByteArray), (⟨#[61]⟩ : ByteArray)]

/-- Does x stand at place i? -/
def preAt (s : ByteArray) (i : Nat) (x : ByteArray) : Bool := decide (i + x.size ≤ s.size) && decide (s.extract i (i + x.size) = x)

/-- The number that digits tell. -/
def decR (s : ByteArray) (i j : Nat) : Int := ((List.range (j - i)).foldl (fun n k => n * 10 + (bt s (i + k) - 48)) 0)

inductive TRes where
  | ok (t : Tk) (j : Nat)
  | bad (code : Int)

def tokenR (s : ByteArray) (i : Nat) : TRes :=
  if letterI (bt s i) then
    let j := whileR (fun c => letterI c || digitI c) s i
    if memB (s.extract i j) wordsP then .ok ⟨2, 0, i, s.extract i j⟩ j
    else if 12 < j - i then .bad 5
    else .ok ⟨1, 0, i, s.extract i j⟩ j
  else if digitI (bt s i) then
    let j := whileR digitI s i
    if 9 < j - i ∨ 1 < j - i ∧ bt s i = 48 then .bad 5
    else .ok ⟨3, decR s i j, i, s.extract i j⟩ j
  else match signsP.find? (preAt s i) with
    | some x => .ok ⟨4, 0, i, x⟩ (i + x.size)
    | none => .bad 5

inductive LRes where
  | ok (l : List Tk)
  | bad (code pos : Int)
  | out

def scanR (s : ByteArray) : Nat → Nat → List Tk → LRes
  | 0, _, _ => .out
  | n + 1, i, acc =>
    let (j, bad) := skipR s false i
    if bad then .bad 4 j
    else if j < s.size then
      match tokenR s j with
      | .ok t k => scanR s n k (acc ++ [t])
      | .bad c => .bad c j
    else .ok acc

/-! Facts on places. -/

theorem skipR_le (s : ByteArray) (note : Bool) (i : Nat) (h : i ≤ s.size) : i ≤ (skipR s note i).1 ∧ (skipR s note i).1 ≤ s.size := by
  fun_induction skipR s note i
  all_goals first
    | (rename_i ih; obtain ⟨a, b⟩ := ih (by omega); exact ⟨by omega, b⟩)
    | exact ⟨Nat.le_refl _, h⟩

theorem whileR_le (p : Int → Bool) (s : ByteArray) (i : Nat) (h : i ≤ s.size) : i ≤ whileR p s i ∧ whileR p s i ≤ s.size := by
  fun_induction whileR p s i with
  | case1 i h1 ih => obtain ⟨a, b⟩ := ih (by omega); exact ⟨by omega, b⟩
  | case2 => omega

theorem whileR_lt (p : Int → Bool) (s : ByteArray) (i : Nat) (h : i < s.size) (hp : p (bt s i) = true) : i < whileR p s i := by
  rw [whileR, if_pos ⟨h, hp⟩]
  have := (whileR_le p s (i + 1) (by omega)).1
  omega

end Go.Proofs.YtaklephcgepfjaaGreatDoor

/- Plain Lean: more on the lexer's places. -/
namespace Go.Proofs.YtaklephcgepfjaaGreatDoor

theorem whileR_all (p : Int → Bool) (s : ByteArray) (i : Nat) : ∀ k, i ≤ k → k < whileR p s i → p (bt s k) = true := by
  fun_induction whileR p s i with
  | case1 i h ih =>
    intro k h1 h2
    by_cases e : k = i
    · subst e; exact h.2
    · exact ih k (by omega) h2
  | case2 i h => intro k h1 h2; omega

theorem bt_extract (s : ByteArray) (i j k : Nat) (hj : j ≤ s.size) (hk : i + k < j) : bt (s.extract i j) k = bt s (i + k) := by
  have h1 : k < (s.extract i j).size := by rw [ByteArray.size_extract]; omega
  rw [bt_eq h1, bt_eq (by omega), ByteArray.getElem_extract]

theorem foldl_ext {α : Type} (f g : Int → α → Int) (l : List α) (h : ∀ x ∈ l, ∀ n, f n x = g n x) (n : Int) : l.foldl f n = l.foldl g n := by
  induction l generalizing n with
  | nil => rfl
  | cons a l ih =>
    rw [List.foldl_cons, List.foldl_cons, h a (by simp)]
    exact ih (fun x hx => h x (by simp [hx])) _

theorem decR_extract (s : ByteArray) (i j : Nat) (hi : i ≤ j) (hj : j ≤ s.size) : decR (s.extract i j) 0 (s.extract i j).size = decR s i j := by
  have hs : (s.extract i j).size = j - i := by rw [ByteArray.size_extract]; omega
  unfold decR
  rw [hs, Nat.sub_zero]
  refine foldl_ext _ _ _ (fun k hk n => ?_) _
  have := List.mem_range.1 hk
  rw [Nat.zero_add, bt_extract s i j k hj (by omega)]

end Go.Proofs.YtaklephcgepfjaaGreatDoor

/- Plain Lean: the lexer's loop, at the places where a token begins. -/
namespace Go.Proofs.YtaklephcgepfjaaGreatDoor

/-- At a place where blanks are passed already. -/
def scanH (s : ByteArray) (m i : Nat) (acc : List Tk) : LRes :=
  if i < s.size then
    match tokenR s i with
    | .ok t k => scanR s m k (acc ++ [t])
    | .bad c => .bad c i
  else .ok acc

theorem scanR_bad {s : ByteArray} {n i : Nat} {acc : List Tk} (h : (skipR s false i).2 = true) : scanR s (n + 1) i acc = .bad 4 (skipR s false i).1 := by
  rw [scanR]; simp [h]

theorem scanR_good {s : ByteArray} {n i : Nat} {acc : List Tk} (h : (skipR s false i).2 = false) : scanR s (n + 1) i acc = scanH s n (skipR s false i).1 acc := by
  rw [scanR]
  simp only [h, Bool.false_eq_true, if_false, scanH]
  all_goals rfl

theorem tokenR_lt {s : ByteArray} {i k : Nat} {t : Tk} (hi : i < s.size) (h : tokenR s i = .ok t k) : i < k ∧ k ≤ s.size := by
  unfold tokenR at h
  split at h
  · rename_i h1
    have a := whileR_lt (fun c => letterI c || digitI c) s i hi (by simp [h1])
    have b := (whileR_le (fun c => letterI c || digitI c) s i (by omega)).2
    dsimp only at h
    split at h
    · injection h with h2 h3; subst h3; exact ⟨a, b⟩
    · split at h
      · cases h
      · injection h with h2 h3; subst h3; exact ⟨a, b⟩
  · split at h
    · rename_i h1
      have a := whileR_lt digitI s i hi (by simp [h1])
      have b := (whileR_le digitI s i (by omega)).2
      dsimp only at h
      split at h
      · cases h
      · injection h with h2 h3; subst h3; exact ⟨a, b⟩
    · split at h
      · rename_i x hx
        injection h with h2 h3
        have h4 := List.find?_some hx
        simp only [preAt, Bool.and_eq_true, decide_eq_true_eq] at h4
        have h5 : ∀ x ∈ signsP, 1 ≤ x.size := by
          intro x hx
          simp only [signsP, List.mem_cons, List.not_mem_nil, or_false] at hx
          rcases hx with h | h | h | h | h | h | h | h | h | h | h | h | h | h | h | h | h | h | h <;> subst h <;> decide
        have h6 := h5 x (List.mem_of_find?_eq_some hx)
        omega
      · cases h

/-- The bytes of a token's text are not more than the text's; a number is small. -/
theorem decR_small (s : ByteArray) (i j : Nat) (h : ∀ k, i ≤ k → k < j → digitI (bt s k) = true) : 0 ≤ decR s i j ∧ decR s i j < 10 ^ (j - i) := by
  have key : ∀ n, i + n ≤ j → 0 ≤ ((List.range n).foldl (fun a k => a * 10 + (bt s (i + k) - 48)) 0 : Int) ∧ ((List.range n).foldl (fun a k => a * 10 + (bt s (i + k) - 48)) 0 : Int) < 10 ^ n := by
    intro n
    induction n with
    | zero => intro _; simp
    | succ n ih =>
      intro hn
      obtain ⟨a, b⟩ := ih (by omega)
      have hd := h (i + n) (by omega) (by omega)
      simp only [digitI, Bool.and_eq_true, decide_eq_true_eq] at hd
      rw [List.range_succ, List.foldl_append, List.foldl_cons, List.foldl_nil, Int.pow_succ]
      omega
  rcases Nat.lt_or_ge i j with hij | hij
  · have := key (j - i) (by omega)
    unfold decR
    exact this
  · have : j - i = 0 := by omega
    unfold decR
    rw [this]; simp

theorem tokenR_num {s : ByteArray} {i k : Nat} {t : Tk} (h : tokenR s i = .ok t k) : 0 ≤ t.num ∧ t.num < 1000000000 := by
  unfold tokenR at h
  split at h
  · dsimp only at h
    split at h
    · injection h with h2 h3; subst h2; exact ⟨by simp, by simp⟩
    · split at h
      · cases h
      · injection h with h2 h3; subst h2; exact ⟨by simp, by simp⟩
  · split at h
    · dsimp only at h
      split at h
      · cases h
      · rename_i hn
        injection h with h2 h3; subst h2; subst h3
        have a := decR_small s i (whileR digitI s i) (whileR_all digitI s i)
        have hp : (10 : Int) ^ (whileR digitI s i - i) ≤ 10 ^ 9 := by
          have := Nat.pow_le_pow_right (n := 10) (by decide) (show whileR digitI s i - i ≤ 9 by omega)
          exact_mod_cast this
        refine ⟨a.1, ?_⟩
        have := a.2
        show decR s i _ < _
        omega
    · split at h
      · injection h with h2 h3; subst h2; exact ⟨by simp, by simp⟩
      · cases h

/-- With rounds enough it does not run out. -/
theorem scanR_out (s : ByteArray) : ∀ (n i : Nat) (acc : List Tk), i ≤ s.size → s.size - i < n → scanR s n i acc ≠ .out := by
  intro n
  induction n with
  | zero => intro i acc _ h; omega
  | succ n ih =>
    intro i acc hi hn
    have hle := skipR_le s false i hi
    cases hb : (skipR s false i).2 with
    | true => rw [scanR_bad hb]; exact fun e => by cases e
    | false =>
      rw [scanR_good hb]
      unfold scanH
      split
      · rename_i hlt
        cases ht : tokenR s (skipR s false i).1 with
        | ok t k =>
          have := tokenR_lt hlt ht
          exact ih k _ this.2 (by omega)
        | bad c => exact fun e => by cases e
      · exact fun e => by cases e

/-- What the tokens hold: as many as bytes at most; numbers small. -/
theorem scanR_facts (s : ByteArray) : ∀ (n i : Nat) (acc l : List Tk), i ≤ s.size → acc.length ≤ i → (∀ t ∈ acc, 0 ≤ t.num ∧ t.num < 1000000000) → scanR s n i acc = .ok l → l.length ≤ s.size ∧ ∀ t ∈ l, 0 ≤ t.num ∧ t.num < 1000000000 := by
  intro n
  induction n with
  | zero => intro i acc l _ _ _ h; cases h
  | succ n ih =>
    intro i acc l hi ha hn h
    have hle := skipR_le s false i hi
    cases hb : (skipR s false i).2 with
    | true => rw [scanR_bad hb] at h; cases h
    | false =>
      rw [scanR_good hb] at h
      unfold scanH at h
      split at h
      · rename_i hlt
        cases ht : tokenR s (skipR s false i).1 with
        | ok t k =>
          rw [ht] at h
          have := tokenR_lt hlt ht
          refine ih k _ l this.2 (by simp; omega) ?_ h
          intro u hu
          rcases List.mem_append.1 hu with hu | hu
          · exact hn u hu
          · simp at hu; subst hu; exact tokenR_num ht
        | bad c => rw [ht] at h; cases h
      · injection h with h; subst h
        exact ⟨by omega, hn⟩

end Go.Proofs.YtaklephcgepfjaaGreatDoor

/- Plain Lean: rounds enough for the program's parser; what a text comes to. -/
namespace Go.Proofs.YtaklephcgepfjaaGreatDoor

/-- The lexer's answer to a text. -/
def lexP (s : ByteArray) : LRes := if 4000 < s.size then .bad 1 0 else scanR s (s.size + 1) 0 []

theorem scanR_code (s : ByteArray) : ∀ (n i : Nat) (acc : List Tk) (c p : Int), scanR s n i acc = .bad c p → c ≠ 0 := by
  intro n
  induction n with
  | zero => intro i acc c p h; cases h
  | succ n ih =>
    intro i acc c p h
    cases hb : (skipR s false i).2 with
    | true => rw [scanR_bad hb] at h; injection h with h1 h2; omega
    | false =>
      rw [scanR_good hb] at h
      unfold scanH at h
      split at h
      · cases ht : tokenR s (skipR s false i).1 with
        | ok t k => rw [ht] at h; exact ih _ _ _ _ h
        | bad c' =>
          rw [ht] at h
          injection h with h1 h2
          subst h1
          unfold tokenR at ht
          repeat' split at ht
          all_goals first | (dsimp only at ht; repeat' split at ht) | skip
          all_goals first | (injection ht with e; omega) | cases ht
      · cases h

theorem lexP_code {s : ByteArray} {c p : Int} (h : lexP s = .bad c p) : c ≠ 0 := by
  unfold lexP at h
  split at h
  · injection h with h1 h2; omega
  · exact scanR_code _ _ _ _ _ _ h

theorem lexP_ok {s : ByteArray} {l : List Tk} (h : lexP s = .ok l) : s.size ≤ 4000 ∧ l.length ≤ 4000 ∧ ∀ t ∈ l, 0 ≤ t.num ∧ t.num < 1000000000 := by
  unfold lexP at h
  split at h
  · cases h
  · have := scanR_facts s _ 0 [] l (by omega) (by simp) (by simp) h
    exact ⟨by omega, by omega, this.2⟩

theorem lexP_ne (s : ByteArray) : lexP s ≠ .out := by
  unfold lexP
  split
  · simp
  · exact scanR_out s _ 0 [] (by omega) (by omega)

/-- What a piece wants beside twenty rounds a token. -/
def Nt.rank : Nt → Nat
  | .expr k => 9 - k
  | .exprL _ _ => 1
  | .unary => 2
  | .held => 1
  | .block => 1
  | .blockL _ _ => 3
  | .stmt => 1

section
variable {T : List Tk} {en : Int}

theorem bind_ne_out {α β : Type} {r : Res α} {f : α → PS → Res β} (h : r ≠ .out) (hf : ∀ a s, r = .ok a s → f a s ≠ .out) : r.bind f ≠ .out := by
  cases r with
  | ok a s => exact hf a s rfl
  | bad c p => simp
  | out => exact absurd rfl h

theorem takeP_ne {x : ByteArray} {s : PS} : takeP T en x s ≠ .out := by unfold takeP; split <;> simp [failP]
theorem nameP_ne {s : PS} : nameP T en s ≠ .out := by unfold nameP; split <;> simp [failP]
theorem openP_ne {x : ByteArray} {s : PS} : openP T en x s ≠ .out := by
  unfold openP
  split
  · simp [failP]
  · exact bind_ne_out takeP_ne (fun _ _ _ => by simp)
theorem shutP_ne {x : ByteArray} {s : PS} : shutP T en x s ≠ .out := by unfold shutP; exact bind_ne_out takeP_ne (fun _ _ _ => by simp)
theorem putP_ne {a b c : Int} {x : ByteArray} {l : List Int} {s : PS} : putP a b c x l s ≠ .out := by simp [putP]

theorem runP_ne (n : Nat) : ∀ (nt : Nt) (s : PS), s.i ≤ T.length → 20 * (T.length - s.i) + nt.rank ≤ n → (∀ k, nt = .expr k → k ≤ 5) → (∀ k l, nt = .exprL k l → k ≤ 4) → runP T en n nt s ≠ .out := by
  induction n with
  | zero =>
    intro nt s hs h h1 h2
    cases nt <;> simp only [Nt.rank] at h <;> first | omega | (rename_i k; have := h1 k rfl; omega)
  | succ n ih =>
    intro nt s hs h h1 h2
    have E5 : ∀ (nt : Nt) (s : PS), s.i ≤ T.length → 20 * (T.length - s.i) + nt.rank ≤ n → (∀ k, nt = .expr k → k ≤ 5) → (∀ k l, nt = .exprL k l → k ≤ 4) → runP T en n nt s ≠ .out := ih
    have GO : ∀ {β : Type} (nt : Nt) (s : PS) (f : Int → PS → Res β), s.i ≤ T.length → 20 * (T.length - s.i) + nt.rank ≤ n → (∀ k, nt = .expr k → k ≤ 5) → (∀ k l, nt = .exprL k l → k ≤ 4) →
        (∀ a s', s'.i ≤ T.length → s.i + nt.gain ≤ s'.i → f a s' ≠ .out) → (runP T en n nt s).bind f ≠ .out := fun nt s f h1 h2 h3 h4 h5 =>
      bind_ne_out (ih nt s h1 h2 h3 h4) (fun a s' e => by
        have A := runP_adv n nt s a s' h1 e
        exact h5 a s' A.top A.le)
    have TK : ∀ {β : Type} (x : ByteArray) (s : PS) (f : Int → PS → Res β), (s.i < T.length → ∀ a, f a (stepP s) ≠ .out) → (takeP T en x s).bind f ≠ .out := fun x s f h =>
      bind_ne_out takeP_ne (fun a s' e => by obtain ⟨rfl, hi⟩ := takeP_ok e; exact h hi a)
    have NM : ∀ {β : Type} (s : PS) (f : Tk → PS → Res β), (s.i < T.length → ∀ a, f a (stepP s) ≠ .out) → (nameP T en s).bind f ≠ .out := fun s f h =>
      bind_ne_out nameP_ne (fun a s' e => by obtain ⟨rfl, hi⟩ := nameP_ok e; exact h hi a)
    have OP : ∀ {β : Type} (x : ByteArray) (s : PS) (f : Int → PS → Res β), (s.i < T.length → ∀ a (s' : PS), s'.i = s.i + 1 → f a s' ≠ .out) → (openP T en x s).bind f ≠ .out := fun x s f h =>
      bind_ne_out openP_ne (fun a s' e => by obtain ⟨rfl, hi, _⟩ := openP_ok e; exact h hi a _ rfl)
    have SH : ∀ {β : Type} (x : ByteArray) (s : PS) (f : Unit → PS → Res β), (s.i < T.length → ∀ a (s' : PS), s'.i = s.i + 1 → f a s' ≠ .out) → (shutP T en x s).bind f ≠ .out := fun x s f h =>
      bind_ne_out shutP_ne (fun a s' e => by obtain ⟨rfl, hi⟩ := shutP_ok e; exact h hi a _ rfl)
    clear ih
    cases nt with
    | expr k =>
      have hk := h1 k rfl
      simp only [Nt.rank] at h
      unfold runP
      split
      · exact E5 _ _ hs (by simp only [Nt.rank]; omega) (by simp) (by simp)
      · refine GO _ _ _ hs (by simp only [Nt.rank]; omega) (by intro k' e; injection e; omega) (by simp) (fun a s' t1 t2 => ?_)
        exact E5 _ _ t1 (by simp only [Nt.rank]; omega) (by simp) (by intro k' l e; injection e; omega)
    | exprL k left =>
      have hk := h2 k left rfl
      simp only [Nt.rank] at h
      unfold runP
      split
      · rename_i hq
        have hi := isP_lt hq
        refine GO _ _ _ (by simp only [stepP]; omega) (by simp only [Nt.rank, stepP]; omega) (by intro k' e; injection e; omega) (by simp) (fun a s' t1 t2 => ?_)
        simp only [stepP, Nt.gain] at t2
        simp only [putP, Res.bind_ok]
        exact E5 _ _ t1 (by simp only [Nt.rank]; omega) (by simp) (by intro k' l e; injection e; omega)
      · simp
    | unary =>
      simp only [Nt.rank] at h
      unfold runP
      split
      · refine OP _ _ _ (fun hi a s1 e1 => ?_)
        refine GO _ _ _ (by omega) (by simp only [Nt.rank]; omega) (by simp) (by simp) (fun a s' t1 t2 => ?_)
        simp [putP]
      · split
        · exact E5 _ _ hs (by simp only [Nt.rank]; omega) (by simp) (by simp)
        · split
          · simp [putP]
          · exact NM _ _ (fun _ _ => by simp [putP])
    | held =>
      simp only [Nt.rank] at h
      unfold runP
      refine OP _ _ _ (fun hi a s1 e1 => ?_)
      refine GO _ _ _ (by omega) (by simp only [Nt.rank]; omega) (by intro k' e; injection e; omega) (by simp) (fun a s' t1 t2 => ?_)
      exact SH _ _ _ (fun _ _ _ _ => by simp)
    | block =>
      simp only [Nt.rank] at h
      unfold runP
      refine OP _ _ _ (fun hi a s1 e1 => ?_)
      exact E5 _ _ (by omega) (by simp only [Nt.rank]; omega) (by simp) (by simp)
    | blockL pos kids =>
      simp only [Nt.rank] at h
      unfold runP
      split
      · exact SH _ _ _ (fun _ _ _ _ => by simp [putP])
      · refine GO _ _ _ hs (by simp only [Nt.rank]; omega) (by simp) (by simp) (fun a s' t1 t2 => ?_)
        simp only [Nt.gain] at t2
        exact E5 _ _ t1 (by simp only [Nt.rank]; omega) (by simp) (by simp)
    | stmt =>
      simp only [Nt.rank] at h
      have P0 : ∀ (a b c : Int) (x : ByteArray) (l : List Int) (s : PS), putP a b c x l s ≠ .out := fun _ _ _ _ _ _ => putP_ne
      have R0 : ∀ k, Nt.rank (.expr k) = 9 - k := fun _ => rfl
      unfold runP
      dsimp only
      split
      · rename_i hq
        have hi := isP_lt hq
        refine NM _ _ (fun i1 _ => TK _ _ _ (fun i2 _ => ?_))
        simp only [stepP] at i1 i2
        refine GO _ _ _ (by simp only [stepP]; omega) (by simp only [Nt.rank, stepP]; omega) (by intro k' e; injection e; omega) (by simp) (fun a s' t1 t2 => ?_)
        exact TK _ _ _ (fun _ _ => P0 _ _ _ _ _ _)
      split
      · rename_i hq
        have hi := isP_lt hq
        refine GO _ _ _ (by simp only [stepP]; omega) (by simp only [Nt.rank, stepP]; omega) (by simp) (by simp) (fun a s' t1 t2 => ?_)
        simp only [stepP, Nt.gain] at t2
        refine GO _ _ _ t1 (by simp only [Nt.rank]; omega) (by simp) (by simp) (fun a s2 t3 t4 => ?_)
        simp only [Nt.gain] at t4
        split
        · rename_i hq2
          have hi2 := isP_lt hq2
          refine GO _ _ _ (by simp only [stepP]; omega) (by simp only [Nt.rank, stepP]; omega) (by simp) (by simp) (fun a s3 t5 t6 => ?_)
          exact P0 _ _ _ _ _ _
        · exact P0 _ _ _ _ _ _
      split
      · rename_i hq
        have hi := isP_lt hq
        refine GO _ _ _ (by simp only [stepP]; omega) (by simp only [Nt.rank, stepP]; omega) (by simp) (by simp) (fun a s' t1 t2 => ?_)
        simp only [stepP, Nt.gain] at t2
        refine GO _ _ _ t1 (by simp only [Nt.rank]; omega) (by simp) (by simp) (fun a s2 t3 t4 => ?_)
        exact P0 _ _ _ _ _ _
      split
      · rename_i hq
        have hi := isP_lt hq
        refine GO _ _ _ (by simp only [stepP]; omega) (by simp only [Nt.rank, stepP]; omega) (by simp) (by simp) (fun a s' t1 t2 => ?_)
        exact TK _ _ _ (fun _ _ => P0 _ _ _ _ _ _)
      split
      · refine OP _ _ _ (fun _ _ _ _ => NM _ _ (fun _ _ => SH _ _ _ (fun _ _ _ _ => TK _ _ _ (fun _ _ => P0 _ _ _ _ _ _))))
      split
      · exact TK _ _ _ (fun _ _ => P0 _ _ _ _ _ _)
      refine NM _ _ (fun i1 _ => TK _ _ _ (fun i2 _ => ?_))
      simp only [stepP] at i2
      split
      · rename_i hq
        have hi := isP_lt hq
        simp only [stepP] at hi
        refine OP _ _ _ (fun i3 _ s3 e3 => NM _ _ (fun i4 _ => ?_))
        simp only [stepP] at i3 e3
        simp only [putP, Res.bind_ok]
        refine TK _ _ _ (fun i5 _ => ?_)
        simp only [stepP] at i5
        refine GO _ _ _ (by simp only [stepP]; omega) (by simp only [Nt.rank, stepP]; omega) (by intro k' e; injection e; omega) (by simp) (fun a s' t1 t2 => ?_)
        simp only [stepP, Nt.gain] at t2
        refine TK _ _ _ (fun i6 _ => ?_)
        refine GO _ _ _ (by simp only [stepP]; omega) (by simp only [Nt.rank, stepP]; omega) (by intro k' e; injection e; omega) (by simp) (fun a s'' t3 t4 => ?_)
        exact SH _ _ _ (fun _ _ _ _ => TK _ _ _ (fun _ _ => by simp))
      · refine GO _ _ _ (by simp only [stepP]; omega) (by simp only [Nt.rank, stepP]; omega) (by intro k' e; injection e; omega) (by simp) (fun a s' t1 t2 => ?_)
        exact TK _ _ _ (fun _ _ => P0 _ _ _ _ _ _)

theorem globalP_ne {s : PS} : globalP T en s ≠ .out := by
  have P0 : ∀ (a b c : Int) (x : ByteArray) (l : List Int) (s : PS), putP a b c x l s ≠ .out := fun _ _ _ _ _ _ => putP_ne
  unfold globalP
  split
  · exact bind_ne_out nameP_ne (fun _ _ _ => bind_ne_out takeP_ne (fun _ _ _ => P0 _ _ _ _ _ _))
  · refine bind_ne_out takeP_ne (fun _ _ _ => bind_ne_out nameP_ne (fun _ _ _ => ?_))
    repeat' split
    all_goals first | exact bind_ne_out takeP_ne (fun _ _ _ => P0 _ _ _ _ _ _) | simp [failP]

theorem progT_ne (n : Nat) : ∀ (kids : List Int) (s : PS), s.i ≤ T.length → 20 * (T.length - s.i) + 1 ≤ n → progT T en n kids s ≠ .out := by
  induction n with
  | zero => intro kids s hs h; omega
  | succ n ih =>
    intro kids s hs h
    unfold progT
    split
    · refine bind_ne_out takeP_ne (fun a s' e => ?_)
      obtain ⟨rfl, hi⟩ := takeP_ok e
      have h1 : (stepP s).i ≤ T.length := by simp only [stepP]; omega
      refine bind_ne_out (runP_ne n _ _ h1 (by simp only [Nt.rank, stepP]; omega) (by simp) (by simp)) (fun b s2 e2 => ?_)
      have A := runP_adv n _ _ _ _ h1 e2
      have A2 := A.le
      simp only [stepP, Nt.gain] at A2
      simp only [putP, Res.bind_ok]
      exact ih _ _ A.top (by show 20 * (T.length - s2.i) + 1 ≤ n; omega)
    · exact putP_ne

theorem globalP_ok {s s' : PS} {a : Int} (h : globalP T en s = .ok a s') : s'.i ≤ T.length ∧ s.i < s'.i := by
  unfold globalP at h
  split at h
  · rename_i hq
    have hi := isP_lt hq
    obtain ⟨t, s1, e1, h⟩ := Res.bind_eq_ok.1 h
    obtain ⟨rfl, i1⟩ := nameP_ok e1
    obtain ⟨u, s2, e2, h⟩ := Res.bind_eq_ok.1 h
    obtain ⟨rfl, i2⟩ := takeP_ok e2
    obtain ⟨rfl, _⟩ := putP_ok h
    simp only [stepP] at *
    omega
  · obtain ⟨u, s2, e2, h⟩ := Res.bind_eq_ok.1 h
    obtain ⟨rfl, i2⟩ := takeP_ok e2
    obtain ⟨t, s1, e1, h⟩ := Res.bind_eq_ok.1 h
    obtain ⟨rfl, i1⟩ := nameP_ok e1
    repeat' split at h
    all_goals first
      | (obtain ⟨u, s3, e3, h⟩ := Res.bind_eq_ok.1 h
         obtain ⟨rfl, i3⟩ := takeP_ok e3
         obtain ⟨rfl, _⟩ := putP_ok h
         simp only [stepP] at *
         omega)
      | simp [failP] at h

theorem progG_ne (n : Nat) : ∀ (kids : List Int) (s : PS), s.i ≤ T.length → 20 * (T.length - s.i) + 2 ≤ n → progG T en n kids s ≠ .out := by
  induction n with
  | zero => intro kids s hs h; omega
  | succ n ih =>
    intro kids s hs h
    unfold progG
    split
    · refine bind_ne_out globalP_ne (fun a s' e => ?_)
      obtain ⟨h1, h2⟩ := globalP_ok e
      exact ih _ _ h1 (by omega)
    · exact progT_ne _ _ _ hs (by omega)

theorem progT_few (n : Nat) : ∀ (kids : List Int) (s : PS) (a : Int) (st : PS), s.i ≤ T.length → progT T en n kids s = .ok a st → st.nodes.length ≤ s.nodes.length + (T.length - s.i) + 1 := by
  induction n with
  | zero => intro kids s a st hs h; cases h
  | succ n ih =>
    intro kids s a st hs h
    unfold progT at h
    split at h
    · obtain ⟨p, s1, e1, h⟩ := Res.bind_eq_ok.1 h
      obtain ⟨rfl, hi⟩ := takeP_ok e1
      have h1 : (stepP s).i ≤ T.length := by simp only [stepP]; omega
      obtain ⟨b, s2, e2, h⟩ := Res.bind_eq_ok.1 h
      have A := runP_adv n _ _ _ _ h1 e2
      have A1 := A.few
      have A2 := A.top
      have A3 := A.le
      obtain ⟨k, s3, e3, h⟩ := Res.bind_eq_ok.1 h
      obtain ⟨rfl, _⟩ := putP_ok e3
      have := ih _ _ _ _ (by exact A2) h
      simp only [stepP, Nt.gain, List.length_append, List.length_cons, List.length_nil] at *
      omega
    · obtain ⟨rfl, _⟩ := putP_ok h
      simp

theorem globalP_few {s s' : PS} {a : Int} (h : globalP T en s = .ok a s') : s'.nodes.length = s.nodes.length + 1 := by
  unfold globalP at h
  split at h
  · obtain ⟨t, s1, e1, h⟩ := Res.bind_eq_ok.1 h
    obtain ⟨rfl, i1⟩ := nameP_ok e1
    obtain ⟨u, s2, e2, h⟩ := Res.bind_eq_ok.1 h
    obtain ⟨rfl, i2⟩ := takeP_ok e2
    obtain ⟨rfl, _⟩ := putP_ok h
    simp [stepP]
  · obtain ⟨u, s2, e2, h⟩ := Res.bind_eq_ok.1 h
    obtain ⟨rfl, i2⟩ := takeP_ok e2
    obtain ⟨t, s1, e1, h⟩ := Res.bind_eq_ok.1 h
    obtain ⟨rfl, i1⟩ := nameP_ok e1
    repeat' split at h
    all_goals first
      | (obtain ⟨u, s3, e3, h⟩ := Res.bind_eq_ok.1 h
         obtain ⟨rfl, i3⟩ := takeP_ok e3
         obtain ⟨rfl, _⟩ := putP_ok h
         simp [stepP])
      | simp [failP] at h

theorem progG_few (n : Nat) : ∀ (kids : List Int) (s : PS) (a : Int) (st : PS), s.i ≤ T.length → progG T en n kids s = .ok a st → st.nodes.length ≤ s.nodes.length + (T.length - s.i) + 1 := by
  induction n with
  | zero => intro kids s a st hs h; cases h
  | succ n ih =>
    intro kids s a st hs h
    unfold progG at h
    split at h
    · obtain ⟨k, s1, e1, h⟩ := Res.bind_eq_ok.1 h
      obtain ⟨h1, h2⟩ := globalP_ok e1
      have h3 := globalP_few e1
      have := ih _ _ _ _ h1 h
      omega
    · exact progT_few _ _ _ _ _ hs h

end

inductive PRes where
  | ok (nodes : List Nd)
  | bad (code pos : Int)

/-- What tokens come to. -/
def progR (en : Nat) (T : List Tk) : PRes := match progG T en (20 * T.length + 40) [] ⟨0, 0, []⟩ with
  | .ok _ st => if 600 < st.nodes.length then .bad 10 en else .ok st.nodes
  | .bad c p => .bad c p
  | .out => .bad 0 0

/-- What a text comes to. -/
def parseR (s : ByteArray) : PRes := match lexP s with
  | .ok T => progR s.size T
  | .bad c p => .bad c p
  | .out => .bad 0 0

end Go.Proofs.YtaklephcgepfjaaGreatDoor

/- Plain Lean, no program in sight: the reference's parser as a function on tokens, with rounds as a first argument. It never gives up: a fault is kept in its state. -/
namespace Go.Proofs.YtaklephcgepfjaaGreatDoor

structure RS where
  i : Nat
  deep : Int
  nodes : List Nd
  fc : Int
  fa : Int

section
variable (T : List Tk) (en : Int)

def posR (s : RS) : Int := match T[s.i]? with
  | some t => t.pos
  | none => en

def failR (code : Int) (s : RS) : RS := if s.fc = 0 then { s with fc := code, fa := posR T en s, i := T.length } else s

def isR (x : ByteArray) (s : RS) : Bool := match T[s.i]? with
  | some t => (t.kind == 2 || t.kind == 4) && decide (t.text = x)
  | none => false

def kindR (k : Int) (s : RS) : Bool := match T[s.i]? with
  | some t => t.kind == k
  | none => false

def tokR (s : RS) : Tk := T.getD s.i ⟨0, 0, 0, ByteArray.empty⟩

def stepR (s : RS) : RS := { s with i := s.i + 1 }

def takeR (x : ByteArray) (s : RS) : RS := if isR T x s then stepR s else failR T en 5 s

def openR (x : ByteArray) (s : RS) : RS :=
  if isR T x s && s.deep == 20 then failR T en 6 s
  else { takeR T en x s with deep := RowKit.wrap64 ((takeR T en x s).deep + 1) }

def shutR (x : ByteArray) (s : RS) : RS := { takeR T en x s with deep := RowKit.wrap64 ((takeR T en x s).deep - 1) }

def nameT (s : RS) : ByteArray := if kindR T 1 s then (tokR T s).text else ByteArray.empty
def nameR (s : RS) : RS := if kindR T 1 s then stepR s else failR T en 5 s

/-- A number at a place: its value; the state behind it. -/
def numT (s : RS) : Int := if kindR T 3 s then (tokR T s).num else 0
def numR (s : RS) : RS := if kindR T 3 s then stepR s else failR T en 5 s

def nodeR (n : Nd) (s : RS) : RS := { s with nodes := s.nodes ++ [n] }

/-- How tight a sign binds. -/
def levelR (x : ByteArray) : Int :=
  if memB x [(⟨#[124, 124]⟩ : ByteArray)] then 0 else if memB x [(⟨#[38, 38]⟩ : ByteArray)] then 1 else if memB x [(⟨#[61, 61]⟩ : ByteArray), (⟨#[33, 61]⟩ : ByteArray), (⟨#[60]⟩ : ByteArray), (⟨#[60, 61]⟩ : ByteArray), (⟨#[62]⟩ : ByteArray), (⟨#[62, 61]⟩ : ByteArray)] then 2 else if memB x [(⟨#[43]⟩ : ByteArray), (⟨#[45]⟩ : ByteArray)] then 3 else if memB x [(⟨#[42]⟩ : ByteArray)] then 4 else -1

/-- Is the next token a sign of this level? -/
def lvlR (k : Nat) (s : RS) : Bool := match T[s.i]? with
  | some t => t.kind == 4 && levelR t.text == (k : Int)
  | none => false

/-- The word that is next. -/
def wordR (s : RS) : ByteArray := match T[s.i]? with
  | some t => if t.kind = 2 then t.text else ByteArray.empty
  | none => ByteArray.empty

end

def bindR (r : Option (Int × RS)) (f : Int → RS → Option (Int × RS)) : Option (Int × RS) := match r with
  | some (a, s) => f a s
  | none => none
@[simp] theorem bindR_some (a : Int) (s : RS) (f : Int → RS → Option (Int × RS)) : bindR (some (a, s)) f = f a s := rfl
@[simp] theorem bindR_none (f : Int → RS → Option (Int × RS)) : bindR none f = none := rfl

/-- A node put: its number, the state. -/
def putR (kind pos num : Int) (text : ByteArray) (kids : List Int) (s : RS) : Option (Int × RS) := some ((s.nodes.length : Int), nodeR ⟨kind, num, pos, text, kids⟩ s)

def assignR (T : List Tk) (en : Int) (ex : RS → Option (Int × RS)) (pos : Int) (s : RS) : Option (Int × RS) :=
  let t := nameT T s
  let s1 := takeR T en ((⟨#[61]⟩ : ByteArray)) (nameR T en s)
  if isR T ((⟨#[99, 97, 115]⟩ : ByteArray)) s1 then
    let s2 := openR T en ((⟨#[40]⟩ : ByteArray)) (takeR T en ((⟨#[99, 97, 115]⟩ : ByteArray)) s1)
    let p := posR T en s2
    let u := nameT T s2
    bindR (putR 16 p 0 u [] (nameR T en s2)) fun a s => bindR (ex (takeR T en ((⟨#[44]⟩ : ByteArray)) s)) fun b s => bindR (ex (takeR T en ((⟨#[44]⟩ : ByteArray)) s)) fun c s =>
      putR 8 pos 0 t [a, b, c] (takeR T en ((⟨#[59]⟩ : ByteArray)) (shutR T en ((⟨#[41]⟩ : ByteArray)) s))
  else bindR (ex s1) fun k s => putR 7 pos 0 t [k] (takeR T en ((⟨#[59]⟩ : ByteArray)) s)

def runR (T : List Tk) (en : Int) : Nat → Nt → RS → Option (Int × RS)
  | 0, _, _ => none
  | n + 1, .expr k, s =>
    if k = 5 then runR T en n .unary s
    else bindR (runR T en n (.expr (k + 1)) s) fun left s => runR T en n (.exprL k left) s
  | n + 1, .exprL k left, s =>
    if s.fc = 0 ∧ lvlR T k s = true then
      bindR (runR T en n (.expr (k + 1)) (stepR s)) fun right s' => bindR (putR 19 (tokR T s).pos 0 (tokR T s).text [left, right] s') fun left s => runR T en n (.exprL k left) s
    else some (left, s)
  | n + 1, .unary, s =>
    if isR T ((⟨#[45]⟩ : ByteArray)) s || isR T ((⟨#[33]⟩ : ByteArray)) s then
      let s1 := if isR T ((⟨#[33]⟩ : ByteArray)) s then openR T en ((⟨#[33]⟩ : ByteArray)) s else openR T en ((⟨#[45]⟩ : ByteArray)) s
      if s1.fc ≠ 0 then some (0, s1)
      else bindR (runR T en n .unary s1) fun k s2 => putR (if isR T ((⟨#[33]⟩ : ByteArray)) s then 18 else 17) (posR T en s) 0 ByteArray.empty [k] { s2 with deep := RowKit.wrap64 (s2.deep - 1) }
    else if isR T ((⟨#[40]⟩ : ByteArray)) s then runR T en n .held s
    else if kindR T 3 s then putR 15 (posR T en s) (tokR T s).num ByteArray.empty [] (stepR s)
    else putR 16 (posR T en s) 0 (nameT T s) [] (nameR T en s)
  | n + 1, .held, s => bindR (runR T en n (.expr 0) (openR T en ((⟨#[40]⟩ : ByteArray)) s)) fun k s => some (k, shutR T en ((⟨#[41]⟩ : ByteArray)) s)
  | n + 1, .block, s => runR T en n (.blockL (posR T en s) []) (openR T en ((⟨#[123]⟩ : ByteArray)) s)
  | n + 1, .blockL pos kids, s =>
    if s.fc ≠ 0 ∨ isR T ((⟨#[125]⟩ : ByteArray)) s = true then putR 5 pos 0 ByteArray.empty kids (shutR T en ((⟨#[125]⟩ : ByteArray)) s)
    else bindR (runR T en n .stmt s) fun k s => runR T en n (.blockL pos (kids ++ [k])) s
  | n + 1, .stmt, s =>
    let pos := posR T en s
    let x := wordR T s
    if x = (⟨#[105, 110, 116]⟩ : ByteArray) then
      let s1 := takeR T en ((⟨#[105, 110, 116]⟩ : ByteArray)) s
      let s2 := takeR T en ((⟨#[61]⟩ : ByteArray)) (nameR T en s1)
      bindR (runR T en n (.expr 0) s2) fun k s => putR 6 pos 0 (nameT T s1) [k] (takeR T en ((⟨#[59]⟩ : ByteArray)) s)
    else if x = (⟨#[105, 102]⟩ : ByteArray) then
      bindR (runR T en n .held (takeR T en ((⟨#[105, 102]⟩ : ByteArray)) s)) fun k s => bindR (runR T en n .block s) fun b s =>
        if isR T ((⟨#[101, 108, 115, 101]⟩ : ByteArray)) s then bindR (runR T en n .block (takeR T en ((⟨#[101, 108, 115, 101]⟩ : ByteArray)) s)) fun c s => putR 9 pos 0 ByteArray.empty [k, b, c] s
        else putR 9 pos 0 ByteArray.empty [k, b] s
    else if x = (⟨#[119, 104, 105, 108, 101]⟩ : ByteArray) then
      bindR (runR T en n .held (takeR T en ((⟨#[119, 104, 105, 108, 101]⟩ : ByteArray)) s)) fun k s => bindR (runR T en n .block s) fun b s => putR 10 pos 0 ByteArray.empty [k, b] s
    else if x = (⟨#[112, 114, 105, 110, 116]⟩ : ByteArray) then
      bindR (runR T en n .held (takeR T en ((⟨#[112, 114, 105, 110, 116]⟩ : ByteArray)) s)) fun k s => putR 11 pos 0 ByteArray.empty [k] (takeR T en ((⟨#[59]⟩ : ByteArray)) s)
    else if x = (⟨#[108, 111, 99, 107]⟩ : ByteArray) ∨ x = (⟨#[117, 110, 108, 111, 99, 107]⟩ : ByteArray) then
      let s1 := openR T en ((⟨#[40]⟩ : ByteArray)) (takeR T en x s)
      putR (if x = (⟨#[117, 110, 108, 111, 99, 107]⟩ : ByteArray) then 13 else 12) pos 0 (nameT T s1) [] (takeR T en ((⟨#[59]⟩ : ByteArray)) (shutR T en ((⟨#[41]⟩ : ByteArray)) (nameR T en s1)))
    else if x = (⟨#[102, 101, 110, 99, 101]⟩ : ByteArray) then putR 14 pos 0 ByteArray.empty [] (takeR T en ((⟨#[59]⟩ : ByteArray)) (takeR T en ((⟨#[102, 101, 110, 99, 101]⟩ : ByteArray)) s))
    else assignR T en (runR T en n (.expr 0)) pos s

def globalR (T : List Tk) (en : Int) (s : RS) : Option (Int × RS) :=
  let pos := posR T en s
  if isR T ((⟨#[108, 111, 99, 107]⟩ : ByteArray)) s then
    let s1 := takeR T en ((⟨#[108, 111, 99, 107]⟩ : ByteArray)) s
    putR 3 pos 0 (nameT T s1) [] (takeR T en ((⟨#[59]⟩ : ByteArray)) (nameR T en s1))
  else
    let s1 := takeR T en ((⟨#[105, 110, 116]⟩ : ByteArray)) s
    let s2 := nameR T en s1
    if isR T ((⟨#[61]⟩ : ByteArray)) s2 then
      let s3 := takeR T en ((⟨#[61]⟩ : ByteArray)) s2
      if isR T ((⟨#[45]⟩ : ByteArray)) s3 then
        let s4 := takeR T en ((⟨#[45]⟩ : ByteArray)) s3
        putR 2 pos (-(numT T s4)) (nameT T s1) [] (takeR T en ((⟨#[59]⟩ : ByteArray)) (numR T en s4))
      else putR 2 pos (numT T s3) (nameT T s1) [] (takeR T en ((⟨#[59]⟩ : ByteArray)) (numR T en s3))
    else putR 2 pos 0 (nameT T s1) [] (takeR T en ((⟨#[59]⟩ : ByteArray)) s2)

def progTR (T : List Tk) (en : Int) : Nat → List Int → RS → Option (Int × RS)
  | 0, _, _ => none
  | n + 1, kids, s =>
    if s.fc = 0 ∧ s.i < T.length then
      bindR (runR T en n .block (takeR T en ((⟨#[116, 104, 114, 101, 97, 100]⟩ : ByteArray)) s)) fun b s' => bindR (putR 4 (posR T en s) 0 ByteArray.empty [b] s') fun k s => progTR T en n (kids ++ [k]) s
    else putR 1 0 0 ByteArray.empty kids s

def progGR (T : List Tk) (en : Int) : Nat → List Int → RS → Option (Int × RS)
  | 0, _, _ => none
  | n + 1, kids, s =>
    if s.fc = 0 ∧ (isR T ((⟨#[105, 110, 116]⟩ : ByteArray)) s || isR T ((⟨#[108, 111, 99, 107]⟩ : ByteArray)) s) = true then bindR (globalR T en s) fun k s => progGR T en n (kids ++ [k]) s
    else progTR T en n kids s

end Go.Proofs.YtaklephcgepfjaaGreatDoor

/- Plain Lean: the reference's parser puts nodes and never takes one away. -/
namespace Go.Proofs.YtaklephcgepfjaaGreatDoor

section
variable {T : List Tk} {en : Int} {s s' : RS}

@[simp] theorem failR_nodes (cd : Int) : (failR T en cd s).nodes = s.nodes := by unfold failR; split <;> rfl
@[simp] theorem stepR_nodes : (stepR s).nodes = s.nodes := rfl
@[simp] theorem takeR_nodes (x : ByteArray) : (takeR T en x s).nodes = s.nodes := by unfold takeR; split <;> simp
@[simp] theorem openR_nodes (x : ByteArray) : (openR T en x s).nodes = s.nodes := by unfold openR; split <;> simp
@[simp] theorem shutR_nodes (x : ByteArray) : (shutR T en x s).nodes = s.nodes := by simp [shutR]
@[simp] theorem nameR_nodes : (nameR T en s).nodes = s.nodes := by unfold nameR; split <;> simp
@[simp] theorem numR_nodes : (numR T en s).nodes = s.nodes := by unfold numR; split <;> simp
@[simp] theorem nodeR_nodes (n : Nd) : (nodeR n s).nodes = s.nodes ++ [n] := rfl

theorem bindR_eq {r : Option (Int × RS)} {f : Int → RS → Option (Int × RS)} {b : Int × RS} : bindR r f = some b ↔ ∃ a s, r = some (a, s) ∧ f a s = some b := by
  cases r with
  | none => simp
  | some p =>
    obtain ⟨a, s⟩ := p
    constructor
    · intro h; exact ⟨a, s, rfl, h⟩
    · rintro ⟨_, _, e, h⟩
      injection e with e
      injection e with e1 e2
      subst e1 e2
      exact h

theorem putR_mono {k p m : Int} {x : ByteArray} {l : List Int} {a : Int} (h : putR k p m x l s = some (a, s')) : s.nodes.length ≤ s'.nodes.length := by
  unfold putR at h
  injection h with h
  injection h with h1 h2
  subst h2
  simp

theorem assignR_mono {ex : RS → Option (Int × RS)} (hex : ∀ s a s', ex s = some (a, s') → s.nodes.length ≤ s'.nodes.length) {p a : Int} (h : assignR T en ex p s = some (a, s')) : s.nodes.length ≤ s'.nodes.length := by
  unfold assignR at h
  dsimp only at h
  split at h
  · obtain ⟨a1, s1, e1, h⟩ := bindR_eq.1 h
    obtain ⟨a2, s2, e2, h⟩ := bindR_eq.1 h
    obtain ⟨a3, s3, e3, h⟩ := bindR_eq.1 h
    have m1 := putR_mono e1
    have m2 := hex _ _ _ e2
    have m3 := hex _ _ _ e3
    have m4 := putR_mono h
    simp at *
    omega
  · obtain ⟨a1, s1, e1, h⟩ := bindR_eq.1 h
    have m1 := hex _ _ _ e1
    have m4 := putR_mono h
    simp at *
    omega

theorem runR_mono (n : Nat) : ∀ (nt : Nt) (s : RS) (a : Int) (s' : RS), runR T en n nt s = some (a, s') → s.nodes.length ≤ s'.nodes.length := by
  induction n with
  | zero => intro nt s a s' h; cases h
  | succ n ih =>
    intro nt s a s' h
    cases nt with
    | expr k =>
      unfold runR at h
      split at h
      · exact ih _ _ _ _ h
      · obtain ⟨a1, s1, e1, h⟩ := bindR_eq.1 h
        have := ih _ _ _ _ e1; have := ih _ _ _ _ h; omega
    | exprL k left =>
      unfold runR at h
      split at h
      · obtain ⟨a1, s1, e1, h⟩ := bindR_eq.1 h
        obtain ⟨a2, s2, e2, h⟩ := bindR_eq.1 h
        have m1 := ih _ _ _ _ e1; have m2 := putR_mono e2; have m3 := ih _ _ _ _ h
        simp at *; omega
      · injection h with h; injection h with h1 h2; subst h2; omega
    | unary =>
      unfold runR at h
      split at h
      · dsimp only at h
        generalize hg : (if isR T ((⟨#[33]⟩ : ByteArray)) s = true then openR T en ((⟨#[33]⟩ : ByteArray)) s else openR T en ((⟨#[45]⟩ : ByteArray)) s) = s0 at h
        have hs : s0.nodes = s.nodes := by rw [← hg]; split <;> simp
        clear hg
        split at h
        · injection h with h; injection h with h1 h2; subst h2; rw [hs]; omega
        · obtain ⟨a1, s1, e1, h⟩ := bindR_eq.1 h
          have m1 := ih _ _ _ _ e1; have m2 := putR_mono h
          rw [hs] at m1
          simp at *; omega
      · split at h
        · exact ih _ _ _ _ h
        · split at h
          · have := putR_mono h; simpa using this
          · have := putR_mono h; simpa using this
    | held =>
      unfold runR at h
      obtain ⟨a1, s1, e1, h⟩ := bindR_eq.1 h
      have m1 := ih _ _ _ _ e1
      injection h with h; injection h with h1 h2; subst h2
      simp at *; omega
    | block =>
      unfold runR at h
      have m1 := ih _ _ _ _ h
      simpa using m1
    | blockL pos kids =>
      unfold runR at h
      split at h
      · have := putR_mono h; simpa using this
      · obtain ⟨a1, s1, e1, h⟩ := bindR_eq.1 h
        have := ih _ _ _ _ e1; have := ih _ _ _ _ h; omega
    | stmt =>
      unfold runR at h
      dsimp only at h
      split at h
      · obtain ⟨a1, s1, e1, h⟩ := bindR_eq.1 h
        have m1 := ih _ _ _ _ e1; have m2 := putR_mono h
        simp at *; omega
      split at h
      · obtain ⟨a1, s1, e1, h⟩ := bindR_eq.1 h
        obtain ⟨a2, s2, e2, h⟩ := bindR_eq.1 h
        have m1 := ih _ _ _ _ e1; have m2 := ih _ _ _ _ e2
        split at h
        · obtain ⟨a3, s3, e3, h⟩ := bindR_eq.1 h
          have m3 := ih _ _ _ _ e3; have m4 := putR_mono h
          simp at *; omega
        · have m4 := putR_mono h
          simp at *; omega
      split at h
      · obtain ⟨a1, s1, e1, h⟩ := bindR_eq.1 h
        obtain ⟨a2, s2, e2, h⟩ := bindR_eq.1 h
        have m1 := ih _ _ _ _ e1; have m2 := ih _ _ _ _ e2; have m4 := putR_mono h
        simp at *; omega
      split at h
      · obtain ⟨a1, s1, e1, h⟩ := bindR_eq.1 h
        have m1 := ih _ _ _ _ e1; have m4 := putR_mono h
        simp at *; omega
      split at h
      · have := putR_mono h; simpa using this
      split at h
      · have := putR_mono h; simpa using this
      exact assignR_mono (fun s a s' e => ih _ _ _ _ e) h

end

end Go.Proofs.YtaklephcgepfjaaGreatDoor

/- Plain Lean: the reference's parser behind its first fault. -/
namespace Go.Proofs.YtaklephcgepfjaaGreatDoor

/-- A fault is kept, nothing is left to read. -/
structure Failed (T : List Tk) (s : RS) : Prop where
  f : s.fc ≠ 0
  i : s.i = T.length

/-- Behind a fault: the same fault, the same place, some nodes more. -/
structure After (s s' : RS) (k : Nat) : Prop where
  fc : s'.fc = s.fc
  fa : s'.fa = s.fa
  i : s'.i = s.i
  few : s'.nodes.length ≤ s.nodes.length + k

section
variable {T : List Tk} {en : Int} {s s' s2 : RS}

theorem After.failed {k : Nat} (h : After s s' k) (hs : Failed T s) : Failed T s' := ⟨h.fc ▸ hs.f, h.i.trans hs.i⟩
theorem After.trans {k l m : Nat} (h : After s s' k) (h' : After s' s2 l) (hm : k + l ≤ m) : After s s2 m :=
  ⟨h'.fc.trans h.fc, h'.fa.trans h.fa, h'.i.trans h.i, by have := h.few; have := h'.few; omega⟩
theorem After.refl {k : Nat} : After s s k := ⟨rfl, rfl, rfl, by omega⟩

section
variable (hs : Failed T s)
include hs
theorem Failed.none : T[s.i]? = none := by rw [hs.i]; simp
theorem Failed.is (x : ByteArray) : isR T x s = false := by simp [isR, hs.none]
theorem Failed.kind (k : Int) : kindR T k s = false := by simp [kindR, hs.none]
theorem Failed.lvl (k : Nat) : lvlR T k s = false := by simp [lvlR, hs.none]
theorem Failed.word : wordR T s = ByteArray.empty := by simp [wordR, hs.none]
theorem Failed.fail (c : Int) : failR T en c s = s := by unfold failR; rw [if_neg hs.f]
theorem Failed.take (x : ByteArray) : takeR T en x s = s := by unfold takeR; rw [hs.is]; exact hs.fail 5
theorem Failed.name : nameR T en s = s := by unfold nameR; rw [hs.kind]; exact hs.fail 5
theorem Failed.nmt : nameT T s = ByteArray.empty := by unfold nameT; rw [hs.kind]; rfl
theorem Failed.num : numR T en s = s := by unfold numR; rw [hs.kind]; exact hs.fail 5
theorem Failed.open' (x : ByteArray) : After s (openR T en x s) 0 := by
  unfold openR
  rw [hs.is, Bool.false_and, if_neg (by decide), hs.take]
  exact ⟨rfl, rfl, rfl, by simp⟩
theorem Failed.shut (x : ByteArray) : After s (shutR T en x s) 0 := by
  unfold shutR
  rw [hs.take]
  exact ⟨rfl, rfl, rfl, by simp⟩
end

theorem put_after {k p m a : Int} {x : ByteArray} {l : List Int} (h : putR k p m x l s = some (a, s')) : After s s' 1 := by
  unfold putR at h
  injection h with h
  injection h with h1 h2
  subst h2
  exact ⟨rfl, rfl, rfl, by simp⟩

def Nt.more : Nt → Nat
  | .exprL _ _ => 0
  | .stmt => 2
  | _ => 1

theorem assignR_failed {ex : RS → Option (Int × RS)} (hex : ∀ s a s', Failed T s → ex s = some (a, s') → After s s' 1) {p a : Int} (hs : Failed T s) (h : assignR T en ex p s = some (a, s')) : After s s' 2 := by
  unfold assignR at h
  dsimp only at h
  rw [hs.name, hs.take, hs.is, if_neg (by decide)] at h
  obtain ⟨k, s1, q1, h⟩ := bindR_eq.1 h
  have A := hex _ _ _ hs q1
  rw [(A.failed hs).take] at h
  exact A.trans (put_after h) (by omega)

theorem runR_failed (n : Nat) : ∀ (nt : Nt) (s : RS) (a : Int) (s' : RS), Failed T s → runR T en n nt s = some (a, s') → After s s' nt.more := by
  induction n with
  | zero => intro nt s a s' _ h; cases h
  | succ n ih =>
    intro nt s a s' hs h
    cases nt with
    | expr k =>
      unfold runR at h
      split at h
      · exact ih .unary _ _ _ hs h
      · obtain ⟨l, s1, q1, h⟩ := bindR_eq.1 h
        have A := ih _ _ _ _ hs q1
        exact A.trans (ih _ _ _ _ (A.failed hs) h) (by simp [Nt.more])
    | exprL k left =>
      unfold runR at h
      rw [if_neg (fun e => hs.f e.1)] at h
      injection h with h
      injection h with h1 h2
      subst h2
      exact After.refl
    | unary =>
      unfold runR at h
      rw [hs.is, hs.is, hs.is, hs.kind, if_neg (by decide), if_neg (by decide), if_neg (by decide), hs.name] at h
      exact put_after h
    | held =>
      unfold runR at h
      obtain ⟨k, s1, q1, h⟩ := bindR_eq.1 h
      have O := hs.open' (en := en) ((⟨#[40]⟩ : ByteArray))
      have A := ih _ _ _ _ (O.failed hs) q1
      injection h with h
      injection h with h1 h2
      subst h2
      exact (O.trans A (Nat.le_refl _)).trans ((A.failed (O.failed hs)).shut _) (by simp [Nt.more])
    | block =>
      unfold runR at h
      have O := hs.open' (en := en) ((⟨#[123]⟩ : ByteArray))
      exact O.trans (ih _ _ _ _ (O.failed hs) h) (by simp [Nt.more])
    | blockL pos kids =>
      unfold runR at h
      rw [if_pos (.inl hs.f)] at h
      have O := hs.shut (en := en) ((⟨#[125]⟩ : ByteArray))
      exact O.trans (put_after h) (by simp [Nt.more])
    | stmt =>
      unfold runR at h
      dsimp only at h
      rw [hs.word, if_neg (by decide), if_neg (by decide), if_neg (by decide), if_neg (by decide), if_neg (by decide), if_neg (by decide)] at h
      exact assignR_failed (fun s a s' f e => ih (.expr 0) _ _ _ f e) hs h

end

end Go.Proofs.YtaklephcgepfjaaGreatDoor

/- Plain Lean: the reference's parser does as the program's does. -/
namespace Go.Proofs.YtaklephcgepfjaaGreatDoor

def ofPS (p : PS) : RS := ⟨p.i, p.deep, p.nodes, 0, 0⟩

theorem wrap_small {d : Int} (h1 : -1000 ≤ d) (h2 : d ≤ 1000) : RowKit.wrap64 d = d := by unfold RowKit.wrap64; omega

/-- The run from p, compared. -/
def Rel (T : List Tk) (K : Nat) (p : PS) (r : Res Int) (a : Int) (s' : RS) : Prop := match r with
  | .ok b p' => a = b ∧ s' = ofPS p'
  | .bad c q => s'.fc = c ∧ s'.fa = q ∧ s'.i = T.length ∧ c ≠ 0 ∧ s'.nodes.length + 30 * p.i ≤ p.nodes.length + 30 * T.length + K
  | .out => True

/-- A first fault: the state it leaves. -/
structure Fell (T : List Tk) (p : PS) (s' : RS) (c q : Int) (k : Nat) : Prop where
  fc : s'.fc = c
  fa : s'.fa = q
  i : s'.i = T.length
  c0 : c ≠ 0
  few : s'.nodes.length + 30 * p.i ≤ p.nodes.length + 30 * T.length + k

section
variable {T : List Tk} {en : Int} {p p' : PS} {s' s2 : RS}

theorem Fell.failed {c q : Int} {k : Nat} (h : Fell T p s' c q k) : Failed T s' := ⟨h.fc ▸ h.c0, h.i⟩
theorem Fell.after {c q : Int} {k l m : Nat} (h : Fell T p s' c q k) (a : After s' s2 l) (hm : k + l ≤ m) : Fell T p s2 c q m :=
  ⟨a.fc.trans h.fc, a.fa.trans h.fa, a.i.trans h.i, h.c0, by have := h.few; have := a.few; omega⟩
theorem Fell.rel {c q a : Int} {k : Nat} (h : Fell T p s' c q k) : Rel T k p (.bad c q) a s' := ⟨h.fc, h.fa, h.i, h.c0, h.few⟩
theorem Rel.fell {c q a : Int} {k : Nat} (h : Rel T k p (.bad c q) a s') : Fell T p s' c q k := ⟨h.1, h.2.1, h.2.2.1, h.2.2.2.1, h.2.2.2.2⟩
/-- Seen from an earlier place. -/
theorem Fell.from {p0 : PS} {c q : Int} {k l : Nat} (h : Fell T p s' c q k) (hf : p.nodes.length + 30 * p0.i + k ≤ p0.nodes.length + 30 * p.i + l) : Fell T p0 s' c q l :=
  ⟨h.fc, h.fa, h.i, h.c0, by have := h.few; omega⟩

theorem posR_of : posR T en (ofPS p) = posP T en p := by unfold posR posP ofPS; rfl
theorem isR_of (x : ByteArray) : isR T x (ofPS p) = isP T [x] p := by
  unfold isR isP ofPS
  cases T[p.i]? with
  | none => rfl
  | some t => simp [memB]
theorem kindR_of (k : Int) : kindR T k (ofPS p) = kindP T k p := rfl
theorem tokR_of : tokR T (ofPS p) = tokP T p := rfl
theorem stepR_of : stepR (ofPS p) = ofPS (stepP p) := rfl

theorem fail_of (hp : p.i ≤ T.length) (c : Int) (hc : c ≠ 0) : Fell T p (failR T en c (ofPS p)) c (posP T en p) 0 := by
  unfold failR
  rw [if_pos (show (ofPS p).fc = 0 from rfl)]
  exact ⟨rfl, by rw [← posR_of], rfl, hc, by show p.nodes.length + 30 * p.i ≤ p.nodes.length + 30 * T.length + 0; omega⟩

theorem take_of (hp : p.i ≤ T.length) (x : ByteArray) : match takeP T en x p with
    | .ok _ p1 => takeR T en x (ofPS p) = ofPS p1 ∧ p1 = stepP p ∧ p.i < T.length
    | .bad c q => Fell T p (takeR T en x (ofPS p)) c q 0
    | .out => False := by
  unfold takeP takeR
  rw [isR_of]
  cases h : isP T [x] p with
  | true => exact ⟨rfl, rfl, isP_lt h⟩
  | false => exact fail_of hp 5 (by decide)

theorem name_of (hp : p.i ≤ T.length) : match nameP T en p with
    | .ok t p1 => nameR T en (ofPS p) = ofPS p1 ∧ nameT T (ofPS p) = t.text ∧ p1 = stepP p ∧ p.i < T.length
    | .bad c q => Fell T p (nameR T en (ofPS p)) c q 0
    | .out => False := by
  unfold nameP nameR nameT
  rw [kindR_of, tokR_of]
  cases h : kindP T 1 p with
  | true => exact ⟨rfl, rfl, rfl, kindP_lt h⟩
  | false => exact fail_of hp 5 (by decide)

theorem open_of (hp : p.i ≤ T.length) (h1 : 0 ≤ p.deep) (h2 : p.deep ≤ 20) (x : ByteArray) : match openP T en x p with
    | .ok _ p1 => openR T en x (ofPS p) = ofPS p1 ∧ p1 = { stepP p with deep := p.deep + 1 } ∧ p.i < T.length ∧ p.deep ≠ 20
    | .bad c q => Fell T p (openR T en x (ofPS p)) c q 0
    | .out => False := by
  unfold openP openR
  rw [isR_of]
  cases h : isP T [x] p && p.deep == 20 with
  | true =>
    have h' : (isP T [x] p && (ofPS p).deep == 20) = true := h
    rw [if_pos rfl]
    simp only [h', if_true]
    exact fail_of hp 6 (by decide)
  | false =>
    have h' : (isP T [x] p && (ofPS p).deep == 20) = false := h
    rw [if_neg (by decide)]
    simp only [h', Bool.false_eq_true, if_false]
    have tk := take_of (en := en) hp x
    cases ht : takeP T en x p with
    | ok a p1 =>
      rw [ht] at tk
      obtain ⟨e1, e2, e3⟩ := tk
      subst e2
      have hq : isP T [x] p = true := by
        unfold takeP at ht
        split at ht
        · assumption
        · cases ht
      rw [hq, Bool.true_and] at h
      have hne : p.deep ≠ 20 := by simpa using h
      simp only [Res.bind_ok]
      rw [e1]
      refine ⟨?_, rfl, e3, hne⟩
      show RS.mk _ (RowKit.wrap64 (p.deep + 1)) _ _ _ = _
      rw [wrap_small (by omega) (by omega)]
      rfl
    | bad c q =>
      rw [ht] at tk
      simp only [Res.bind_bad]
      exact ⟨tk.fc, tk.fa, tk.i, tk.c0, tk.few⟩
    | out => rw [ht] at tk; exact tk.elim

theorem shut_of (hp : p.i ≤ T.length) (h1 : 0 ≤ p.deep) (h2 : p.deep ≤ 20) (x : ByteArray) : match shutP T en x p with
    | .ok _ p1 => shutR T en x (ofPS p) = ofPS p1 ∧ p1 = { stepP p with deep := p.deep - 1 } ∧ p.i < T.length
    | .bad c q => Fell T p (shutR T en x (ofPS p)) c q 0
    | .out => False := by
  unfold shutP shutR
  have tk := take_of (en := en) hp x
  cases ht : takeP T en x p with
  | ok a p1 =>
    rw [ht] at tk
    obtain ⟨e1, e2, e3⟩ := tk
    subst e2
    simp only [Res.bind_ok]
    rw [e1]
    refine ⟨?_, rfl, e3⟩
    show RS.mk _ (RowKit.wrap64 (p.deep - 1)) _ _ _ = _
    rw [wrap_small (by omega) (by omega)]
    rfl
  | bad c q =>
    rw [ht] at tk
    simp only [Res.bind_bad]
    exact ⟨tk.fc, tk.fa, tk.i, tk.c0, tk.few⟩
  | out => rw [ht] at tk; exact tk.elim

end

end Go.Proofs.YtaklephcgepfjaaGreatDoor

/- Plain Lean: the reference's parser does as the program's does: the pieces. -/
namespace Go.Proofs.YtaklephcgepfjaaGreatDoor

section
variable {T : List Tk} {en : Int} {p p1 : PS} {s' : RS} {a : Int}

/-- How many nodes more a piece may leave behind a fault. -/
def Nt.slack : Nt → Nat
  | .blockL _ _ => 3
  | _ => 2

/-- What is known with n rounds. -/
def IH (T : List Tk) (en : Int) (n : Nat) : Prop := ∀ (nt : Nt) (p : PS) (a : Int) (s' : RS), p.i ≤ T.length → 0 ≤ p.deep → p.deep ≤ 20 → (∀ k, nt = .expr k → k ≤ 5) → (∀ k l, nt = .exprL k l → k ≤ 4) →
  runR T en n nt (ofPS p) = some (a, s') → Rel T nt.slack p (runP T en n nt p) a s'

theorem IH.r {n : Nat} (ih : IH T en n) (nt : Nt) (p : PS) (a : Int) (s' : RS) (h1 : p.i ≤ T.length) (h2 : 0 ≤ p.deep) (h3 : p.deep ≤ 20) (h4 : ∀ k, nt = .expr k → k ≤ 5) (h5 : ∀ k l, nt = .exprL k l → k ≤ 4)
    (h : runR T en n nt (ofPS p) = some (a, s')) (hs : nt.slack = 2 := by rfl) : Rel T 2 p (runP T en n nt p) a s' := hs ▸ ih nt p a s' h1 h2 h3 h4 h5 h

theorem rel_bind {k K : Nat} {r : Res Int} {f : Int → PS → Res Int} {x : Option (Int × RS)} {g : Int → RS → Option (Int × RS)} (hx : bindR x g = some (a, s')) (hr : ∀ b s1, x = some (b, s1) → Rel T k p1 r b s1)
    (hok : ∀ b p2, r = .ok b p2 → g b (ofPS p2) = some (a, s') → Rel T K p (f b p2) a s')
    (hbad : ∀ b s1 c q, r = .bad c q → Fell T p1 s1 c q k → g b s1 = some (a, s') → Fell T p s' c q K) : Rel T K p (r.bind f) a s' := by
  obtain ⟨b, s1, e, hg⟩ := bindR_eq.1 hx
  have R := hr b s1 e
  cases r with
  | ok b' p2 =>
    obtain ⟨e1, e2⟩ := R
    subst e1 e2
    exact hok _ _ rfl hg
  | bad c q => exact (hbad _ _ _ _ rfl R.fell hg).rel
  | out => trivial

theorem rel_held {n : Nat} (ih : IH T en n) (hi : p.i ≤ T.length) (h1 : 0 ≤ p.deep) (h2 : p.deep ≤ 20) (h : runR T en (n + 1) .held (ofPS p) = some (a, s')) : Rel T 2 p (runP T en (n + 1) .held p) a s' := by
  unfold runR at h
  unfold runP
  have o := open_of (en := en) hi h1 h2 ((⟨#[40]⟩ : ByteArray))
  cases ho : openP T en ((⟨#[40]⟩ : ByteArray)) p with
  | ok b p1 =>
    rw [ho] at o
    obtain ⟨e1, rfl, e3, e4⟩ := o
    rw [e1] at h
    simp only [Res.bind_ok]
    have hi1 : ({ stepP p with deep := p.deep + 1 } : PS).i ≤ T.length := by simp only [stepP]; omega
    refine rel_bind h (fun b s1 e => ih.r (.expr 0) _ _ _ hi1 (by simp only; omega) (by simp only; omega) (by intro k e; injection e; omega) (by simp) e) (fun b p2 e hg => ?_) (fun b s1 c q e F hg => ?_)
    · have A := runP_adv n _ _ _ _ hi1 e
      have A1 := A.deep
      simp only [Nt.less] at A1
      have sh := shut_of (en := en) (p := p2) A.top (by omega) (by omega) ((⟨#[41]⟩ : ByteArray))
      injection hg with hg
      injection hg with g1 g2
      cases hs : shutP T en ((⟨#[41]⟩ : ByteArray)) p2 with
      | ok u p3 =>
        rw [hs] at sh
        obtain ⟨e5, e6, e7⟩ := sh
        rw [e5] at g2
        simp only [Res.bind_ok]
        exact ⟨g1.symm, g2.symm⟩
      | bad c q =>
        rw [hs] at sh
        simp only [Res.bind_bad]
        rw [g2] at sh
        have A2 := A.few
        have A3 := A.le
        simp only [stepP, Nt.gain] at A2 A3
        exact (sh.from (p0 := p) (l := 2) (by omega)).rel
      | out => rw [hs] at sh; exact sh.elim
    · injection hg with hg
      injection hg with g1 g2
      have F2 := F.after (F.failed.shut (en := en) ((⟨#[41]⟩ : ByteArray))) (Nat.le_refl _)
      rw [g2] at F2
      exact F2.from (by simp only [stepP]; omega)
  | bad c q =>
    rw [ho] at o
    simp only [Res.bind_bad]
    obtain ⟨b, s1, e, hg⟩ := bindR_eq.1 h
    injection hg with hg
    injection hg with g1 g2
    have A := runR_failed _ _ _ _ _ o.failed e
    have F := o.after A (Nat.le_refl _)
    have F2 := F.after (F.failed.shut (en := en) ((⟨#[41]⟩ : ByteArray))) (Nat.le_refl _)
    rw [g2] at F2
    exact (F2.from (p0 := p) (l := 2) (by simp only [Nt.more]; omega)).rel
  | out => rw [ho] at o; exact o.elim

theorem rel_expr {n k : Nat} (ih : IH T en n) (hk : k ≤ 5) (hi : p.i ≤ T.length) (h1 : 0 ≤ p.deep) (h2 : p.deep ≤ 20) (h : runR T en (n + 1) (.expr k) (ofPS p) = some (a, s')) : Rel T 2 p (runP T en (n + 1) (.expr k) p) a s' := by
  unfold runR at h
  unfold runP
  by_cases h5 : k = 5
  · rw [if_pos h5] at h ⊢
    exact ih.r .unary _ _ _ hi h1 h2 (by simp) (by simp) h
  · rw [if_neg h5] at h ⊢
    refine rel_bind h (fun b s1 e => ih.r (.expr (k + 1)) _ _ _ hi h1 h2 (by intro k' e; injection e; omega) (by simp) e) (fun b p2 e hg => ?_) (fun b s1 c q e F hg => ?_)
    · have A := runP_adv n _ _ _ _ hi e
      have A1 := A.deep
      simp only [Nt.less] at A1
      have R := ih.r (.exprL k b) _ _ _ A.top (by omega) (by omega) (by simp) (by intro k' l e; injection e; omega) hg
      revert R
      have A2 := A.few
      have A3 := A.le
      simp only [Nt.gain] at A3
      cases runP T en n (.exprL k b) p2 with
      | ok b' p3 => exact id
      | bad c q => exact fun R => (R.fell.from (by omega)).rel
      | out => exact id
    · exact F.after (runR_failed _ _ _ _ _ F.failed hg) (Nat.le_refl _)

/-- Words are words, signs are signs. -/
def TokOk (T : List Tk) : Prop := ∀ t ∈ T, (t.kind = 2 → t.text ∈ wordsP) ∧ (t.kind = 4 → t.text ∈ signsP)

theorem word_level : ∀ x ∈ wordsP, ∀ k, k ≤ 4 → memB x (levelsP.getD k []) = false := by
  intro x hx k hk
  simp only [wordsP, List.mem_cons, List.not_mem_nil, or_false] at hx
  have hk' : k = 0 ∨ k = 1 ∨ k = 2 ∨ k = 3 ∨ k = 4 := by omega
  rcases hk' with rfl | rfl | rfl | rfl | rfl <;> rcases hx with h | h | h | h | h | h | h | h | h | h <;> subst h <;> decide

theorem sign_level : ∀ x ∈ signsP, ∀ k : Nat, k ≤ 4 → (levelR x == (k : Int)) = memB x (levelsP.getD k []) := by
  intro x hx k hk
  simp only [signsP, List.mem_cons, List.not_mem_nil, or_false] at hx
  have hk' : k = 0 ∨ k = 1 ∨ k = 2 ∨ k = 3 ∨ k = 4 := by omega
  rcases hk' with rfl | rfl | rfl | rfl | rfl <;> rcases hx with h | h | h | h | h | h | h | h | h | h | h | h | h | h | h | h | h | h | h <;> subst h <;> decide

theorem lvl_of (hT : TokOk T) (k : Nat) (hk : k ≤ 4) : lvlR T k (ofPS p) = isP T (levelsP.getD k []) p := by
  unfold lvlR isP ofPS
  cases ht : T[p.i]? with
  | none => simp only [ht]
  | some t =>
    simp only [ht]
    have hm := hT t (List.mem_of_getElem? ht)
    by_cases h2 : t.kind = 2
    · rw [word_level _ (hm.1 h2) k hk, Bool.and_false]
      simp [h2]
    · by_cases h4 : t.kind = 4
      · rw [sign_level _ (hm.2 h4) k hk]
        simp [h4]
      · have e2 : (t.kind == 2) = false := by simp [h2]
        have e4 : (t.kind == 4) = false := by simp [h4]
        rw [e2, e4]; rfl

theorem tokenR_kind {s : ByteArray} {i k : Nat} {t : Tk} (h : tokenR s i = .ok t k) : (t.kind = 2 → t.text ∈ wordsP) ∧ (t.kind = 4 → t.text ∈ signsP) := by
  unfold tokenR at h
  split at h
  · dsimp only at h
    split at h
    · rename_i hw
      injection h with h2 h3; subst h2
      exact ⟨fun _ => (memB_iff _ _).1 hw, fun e => by simp at e⟩
    · split at h
      · cases h
      · injection h with h2 h3; subst h2; exact ⟨fun e => by simp at e, fun e => by simp at e⟩
  · split at h
    · dsimp only at h
      split at h
      · cases h
      · injection h with h2 h3; subst h2; exact ⟨fun e => by simp at e, fun e => by simp at e⟩
    · split at h
      · rename_i x hx
        injection h with h2 h3; subst h2
        exact ⟨fun e => by simp at e, fun _ => List.mem_of_find?_eq_some hx⟩
      · cases h

theorem rel_exprL {n k : Nat} {left : Int} (hT : TokOk T) (ih : IH T en n) (hk : k ≤ 4) (hi : p.i ≤ T.length) (h1 : 0 ≤ p.deep) (h2 : p.deep ≤ 20) (h : runR T en (n + 1) (.exprL k left) (ofPS p) = some (a, s')) :
    Rel T 2 p (runP T en (n + 1) (.exprL k left) p) a s' := by
  unfold runR at h
  unfold runP
  rw [lvl_of hT k hk] at h
  cases hq : isP T (levelsP.getD k []) p with
  | true =>
    have hlt := isP_lt hq
    rw [if_pos ⟨rfl, hq⟩] at h
    rw [if_pos rfl]
    rw [stepR_of] at h
    have hi1 : (stepP p).i ≤ T.length := by simp only [stepP]; omega
    refine rel_bind h (fun b s1 e => ih.r (.expr (k + 1)) _ _ _ hi1 h1 h2 (by intro k' e; injection e; omega) (by simp) e) (fun b p2 e hg => ?_) (fun b s1 c q e F hg => ?_)
    · have A := runP_adv n _ _ _ _ hi1 e
      have A1 := A.deep
      have A2 := A.few
      have A3 := A.le
      simp only [Nt.less, Nt.gain, stepP] at A1 A2 A3
      simp only [putR, bindR_some] at hg
      simp only [putP, Res.bind_ok]
      have R := ih.r (.exprL k p2.nodes.length) { p2 with nodes := p2.nodes ++ [⟨19, 0, (tokP T p).pos, (tokP T p).text, [left, b]⟩] } a s' A.top (by simp only; omega) (by simp only; omega) (by simp) (by intro k' l e; injection e; omega) hg
      revert R
      cases runP T en n (.exprL k p2.nodes.length) { p2 with nodes := p2.nodes ++ [⟨19, 0, (tokP T p).pos, (tokP T p).text, [left, b]⟩] } with
      | ok b' p3 => exact id
      | bad c q => exact fun R => (R.fell.from (by simp; omega)).rel
      | out => exact id
    · simp only [putR, bindR_some] at hg
      have P : After s1 (nodeR ⟨19, 0, (tokR T (ofPS p)).pos, (tokR T (ofPS p)).text, [left, b]⟩ s1) 1 := ⟨rfl, rfl, rfl, by simp⟩
      have F2 := F.after P (Nat.le_refl _)
      have F3 := F2.after (runR_failed _ _ _ _ _ F2.failed hg) (Nat.le_refl _)
      exact F3.from (by simp only [Nt.more, stepP]; omega)
  | false =>
    rw [if_neg (fun e => by rw [hq] at e; exact absurd e.2 (by decide))] at h
    rw [if_neg (by decide)]
    injection h with h
    injection h with e1 e2
    exact ⟨e1.symm, e2.symm⟩

theorem rel_block {n : Nat} (ih : IH T en n) (hi : p.i ≤ T.length) (h1 : 0 ≤ p.deep) (h2 : p.deep ≤ 20) (h : runR T en (n + 1) .block (ofPS p) = some (a, s')) : Rel T 2 p (runP T en (n + 1) .block p) a s' := by
  unfold runR at h
  unfold runP
  have o := open_of (en := en) hi h1 h2 ((⟨#[123]⟩ : ByteArray))
  have hpos : ∀ b p1, openP T en ((⟨#[123]⟩ : ByteArray)) p = .ok b p1 → b = posP T en p := by
    intro b p1 e
    unfold openP at e
    split at e
    · cases e
    · obtain ⟨c, s1, e1, e2⟩ := Res.bind_eq_ok.1 e
      unfold takeP at e1
      split at e1
      · rename_i hq
        injection e1 with e3 e4
        injection e2 with e5 e6
        have hlt := isP_lt hq
        rw [← e5, ← e3]
        simp [tokP, posP, hlt]
      · cases e1
  cases ho : openP T en ((⟨#[123]⟩ : ByteArray)) p with
  | ok b p1 =>
    rw [ho] at o
    obtain ⟨e1, e2, e3, e4⟩ := o
    rw [e1, posR_of, ← hpos b p1 ho] at h
    simp only [Res.bind_ok]
    subst e2
    have R : Rel T 3 _ _ _ _ := ih (.blockL b []) { stepP p with deep := p.deep + 1 } a s' (by simp only [stepP]; omega) (by simp only; omega) (by simp only; omega) (by simp) (by simp) h
    revert R
    cases runP T en n (.blockL b []) { stepP p with deep := p.deep + 1 } with
    | ok b' p3 => exact id
    | bad c q => exact fun R => (R.fell.from (by simp only [stepP]; omega)).rel
    | out => exact id
  | bad c q =>
    rw [ho] at o
    simp only [Res.bind_bad]
    exact (o.after (runR_failed _ _ _ _ _ o.failed h) (by simp [Nt.more])).rel
  | out => rw [ho] at o; exact o.elim

theorem rel_blockL {n : Nat} {pos : Int} {kids : List Int} (ih : IH T en n) (hi : p.i ≤ T.length) (h1 : 0 ≤ p.deep) (h2 : p.deep ≤ 20) (h : runR T en (n + 1) (.blockL pos kids) (ofPS p) = some (a, s')) :
    Rel T 3 p (runP T en (n + 1) (.blockL pos kids) p) a s' := by
  unfold runR at h
  unfold runP
  cases hq : isP T [(⟨#[125]⟩ : ByteArray)] p with
  | true =>
    rw [if_pos (.inr (by rw [isR_of]; exact hq))] at h
    rw [if_pos rfl]
    have sh := shut_of (en := en) hi h1 h2 ((⟨#[125]⟩ : ByteArray))
    cases hs : shutP T en ((⟨#[125]⟩ : ByteArray)) p with
    | ok u p3 =>
      rw [hs] at sh
      obtain ⟨e5, e6, e7⟩ := sh
      rw [e5] at h
      simp only [Res.bind_ok]
      unfold putR at h
      injection h with h
      injection h with g1 g2
      exact ⟨g1.symm, g2.symm⟩
    | bad c q =>
      rw [hs] at sh
      simp only [Res.bind_bad]
      exact (sh.after (put_after h) (by omega)).rel
    | out => rw [hs] at sh; exact sh.elim
  | false =>
    rw [if_neg (fun e => by rcases e with e | e; exact e rfl; rw [isR_of, hq] at e; cases e)] at h
    rw [if_neg (by decide)]
    refine rel_bind h (fun b s1 e => ih.r .stmt _ _ _ hi h1 h2 (by simp) (by simp) e) (fun b p2 e hg => ?_) (fun b s1 c q e F hg => ?_)
    · have A := runP_adv n _ _ _ _ hi e
      have A1 := A.deep
      have A2 := A.few
      have A3 := A.le
      simp only [Nt.less, Nt.gain] at A1 A2 A3
      have R : Rel T 3 _ _ _ _ := ih (.blockL pos (kids ++ [b])) p2 a s' A.top (by omega) (by omega) (by simp) (by simp) hg
      revert R
      cases runP T en n (.blockL pos (kids ++ [b])) p2 with
      | ok b' p3 => exact id
      | bad c q => exact fun R => (R.fell.from (by omega)).rel
      | out => exact id
    · exact F.after (runR_failed _ _ _ _ _ F.failed hg) (by simp [Nt.more])

theorem is_two (x y : ByteArray) (h : isP T [x, y] p = true) : ((tokP T p).text = x ∧ isP T [x] p = true) ∨ ((tokP T p).text = y ∧ isP T [y] p = true) := by
  unfold isP at *
  cases ht : T[p.i]? with
  | none => rw [ht] at h; cases h
  | some t =>
    rw [ht] at h
    have e : tokP T p = t := by simp only [tokP, List.getD_eq_getElem?_getD, ht]; rfl
    simp only [Bool.and_eq_true, memB_iff, List.mem_cons, List.not_mem_nil, or_false] at h
    simp only [Bool.and_eq_true, memB_iff, List.mem_cons, List.not_mem_nil, or_false, e]
    rcases h.2 with h2 | h2
    · exact .inl ⟨h2, h.1, h2⟩
    · exact .inr ⟨h2, h.1, h2⟩

theorem is_two_no (x y : ByteArray) (h : isP T [x, y] p = false) : isP T [x] p = false ∧ isP T [y] p = false := by
  unfold isP at *
  cases ht : T[p.i]? with
  | none => exact ⟨rfl, rfl⟩
  | some t =>
    rw [ht] at h
    simp only [memB, List.any_cons, List.any_nil, Bool.or_false, Bool.and_eq_false_iff, Bool.or_eq_false_iff] at h ⊢
    rcases h with h | h
    · exact ⟨.inl h, .inl h⟩
    · exact ⟨.inr h.1, .inr h.2⟩

theorem is_text {x : ByteArray} (h : isP T [x] p = true) : (tokP T p).text = x := by
  unfold isP at h
  cases ht : T[p.i]? with
  | none => rw [ht] at h; cases h
  | some t =>
    rw [ht] at h
    have e : tokP T p = t := by simp only [tokP, List.getD_eq_getElem?_getD, ht]; rfl
    simp only [Bool.and_eq_true, memB_iff, List.mem_cons, List.not_mem_nil, or_false] at h
    rw [e]; exact h.2

theorem rel_unary_sign {n : Nat} (ih : IH T en n) (hi : p.i ≤ T.length) (h1 : 0 ≤ p.deep) (h2 : p.deep ≤ 20) (x : ByteArray) (kd : Int) (hr : (let s1 := openR T en x (ofPS p); if s1.fc ≠ 0 then some (0, s1) else bindR (runR T en n .unary s1) fun k s2 => putR kd (posR T en (ofPS p)) 0 ByteArray.empty [k] { s2 with deep := RowKit.wrap64 (s2.deep - 1) }) = some (a, s')) :
    Rel T 2 p ((openP T en x p).bind fun _ s' => (runP T en n .unary s').bind fun k s'' => putP kd (posP T en p) 0 ByteArray.empty [k] { s'' with deep := s''.deep - 1 }) a s' := by
  dsimp only at hr
  have o := open_of (en := en) hi h1 h2 x
  cases ho : openP T en x p with
  | ok b p1 =>
    rw [ho] at o
    obtain ⟨e1, rfl, e3, e4⟩ := o
    rw [e1, if_neg (by simp [ofPS])] at hr
    simp only [Res.bind_ok]
    have hi1 : ({ stepP p with deep := p.deep + 1 } : PS).i ≤ T.length := by simp only [stepP]; omega
    refine rel_bind hr (fun b s1 e => ih.r .unary _ _ _ hi1 (by simp only; omega) (by simp only; omega) (by simp) (by simp) e) (fun b p2 e hg => ?_) (fun b s1 c q e F hg => ?_)
    · have A := runP_adv n _ _ _ _ hi1 e
      have A1 := A.deep
      simp only [Nt.less] at A1
      unfold putR at hg
      injection hg with hg
      injection hg with g1 g2
      refine ⟨g1.symm, ?_⟩
      rw [← g2, posR_of]
      have hw : RowKit.wrap64 (p2.deep - 1) = p2.deep - 1 := wrap_small (by omega) (by omega)
      show nodeR _ (RS.mk p2.i (RowKit.wrap64 (p2.deep - 1)) p2.nodes 0 0) = _
      rw [hw]
      rfl
    · have P := put_after hg
      have F2 := F.after (show After s1 s' 1 from ⟨P.fc, P.fa, P.i, P.few⟩) (Nat.le_refl _)
      exact F2.from (by simp only [stepP]; omega)
  | bad c q =>
    rw [ho] at o
    simp only [Res.bind_bad]
    rw [if_pos (by rw [o.fc]; exact o.c0)] at hr
    injection hr with hr
    injection hr with g1 g2
    rw [g2] at o
    exact (o.from (by omega)).rel
  | out => rw [ho] at o; exact o.elim

theorem rel_unary {n : Nat} (ih : IH T en n) (hi : p.i ≤ T.length) (h1 : 0 ≤ p.deep) (h2 : p.deep ≤ 20) (h : runR T en (n + 1) .unary (ofPS p) = some (a, s')) : Rel T 2 p (runP T en (n + 1) .unary p) a s' := by
  unfold runR at h
  unfold runP
  rw [isR_of, isR_of, isR_of, kindR_of] at h
  cases hq : isP T [(⟨#[45]⟩ : ByteArray), (⟨#[33]⟩ : ByteArray)] p with
  | true =>
    rw [if_pos rfl]
    rcases is_two _ _ hq with ⟨e1, e2⟩ | ⟨e1, e2⟩
    · have e3 : isP T [(⟨#[33]⟩ : ByteArray)] p = false := by
        cases h3 : isP T [(⟨#[33]⟩ : ByteArray)] p with
        | false => rfl
        | true => have := is_text h3; rw [e1] at this; exact absurd this (by decide)
      rw [e2, e3, Bool.or_false, if_pos rfl] at h
      simp only [Bool.false_eq_true, if_false] at h
      rw [e1, if_pos rfl]
      exact rel_unary_sign ih hi h1 h2 _ 17 h
    · rw [e2, Bool.or_true, if_pos rfl] at h
      simp only [if_true] at h
      rw [e1, if_neg (by decide)]
      exact rel_unary_sign ih hi h1 h2 _ 18 h
  | false =>
    obtain ⟨e1, e2⟩ := is_two_no _ _ hq
    rw [e1, e2, Bool.or_false, if_neg (by decide)] at h
    rw [if_neg (by decide)]
    cases h3 : isP T [(⟨#[40]⟩ : ByteArray)] p with
    | true =>
      rw [h3, if_pos rfl] at h
      rw [if_pos rfl]
      exact ih.r .held _ _ _ hi h1 h2 (by simp) (by simp) h
    | false =>
      rw [h3, if_neg (by decide)] at h
      rw [if_neg (by decide)]
      cases h4 : kindP T 3 p with
      | true =>
        rw [h4, if_pos rfl] at h
        rw [if_pos rfl]
        unfold putR at h
        injection h with h
        injection h with g1 g2
        refine ⟨g1.symm, ?_⟩
        rw [← g2, posR_of, tokR_of, stepR_of]
        rfl
      | false =>
        rw [h4, if_neg (by decide)] at h
        rw [if_neg (by decide)]
        have nm := name_of (en := en) hi
        cases hn : nameP T en p with
        | ok t p1 =>
          rw [hn] at nm
          obtain ⟨e5, e6, e7, e8⟩ := nm
          rw [e5, e6, posR_of] at h
          simp only [Res.bind_ok]
          unfold putR at h
          injection h with h
          injection h with g1 g2
          exact ⟨g1.symm, g2.symm⟩
        | bad c q =>
          rw [hn] at nm
          simp only [Res.bind_bad]
          exact (nm.after (put_after h) (by omega)).rel
        | out => rw [hn] at nm; exact nm.elim

end

end Go.Proofs.YtaklephcgepfjaaGreatDoor

/- Plain Lean: the reference's parser does as the program's does: statements. -/
namespace Go.Proofs.YtaklephcgepfjaaGreatDoor

section
variable {T : List Tk} {en : Int} {p p1 : PS} {s' : RS} {a : Int} {K : Nat}

theorem Rel.from {r : Res Int} {k : Nat} (h : Rel T k p1 r a s') (hf : p1.nodes.length + 30 * p.i + k ≤ p.nodes.length + 30 * p1.i + K) : Rel T K p r a s' := by
  cases r with
  | ok b q => exact h
  | bad c q => exact (Rel.fell h |>.from hf).rel
  | out => trivial

theorem go_take {f : Int → PS → Res Int} {G : RS → Option (Int × RS)} (x : ByteArray) (hi : p.i ≤ T.length) (h : G (takeR T en x (ofPS p)) = some (a, s')) (hbad : ∀ s0, Failed T s0 → G s0 = some (a, s') → After s0 s' K)
    (hok : p.i < T.length → ∀ b, G (ofPS (stepP p)) = some (a, s') → Rel T (K + 30) (stepP p) (f b (stepP p)) a s') : Rel T K p ((takeP T en x p).bind f) a s' := by
  have o := take_of (en := en) hi x
  cases ho : takeP T en x p with
  | ok b p1 =>
    rw [ho] at o
    obtain ⟨e1, rfl, e3⟩ := o
    rw [e1] at h
    simp only [Res.bind_ok]
    exact (hok e3 b h).from (by simp only [stepP]; omega)
  | bad c q =>
    rw [ho] at o
    simp only [Res.bind_bad]
    exact (o.after (hbad _ o.failed h) (by omega)).rel
  | out => rw [ho] at o; exact o.elim

theorem go_name {f : Tk → PS → Res Int} {G : ByteArray → RS → Option (Int × RS)} (hi : p.i ≤ T.length) (h : G (nameT T (ofPS p)) (nameR T en (ofPS p)) = some (a, s')) (hbad : ∀ x s0, Failed T s0 → G x s0 = some (a, s') → After s0 s' K)
    (hok : p.i < T.length → ∀ t : Tk, t = tokP T p → G t.text (ofPS (stepP p)) = some (a, s') → Rel T (K + 30) (stepP p) (f t (stepP p)) a s') : Rel T K p ((nameP T en p).bind f) a s' := by
  have o := name_of (en := en) hi
  cases ho : nameP T en p with
  | ok b p1 =>
    rw [ho] at o
    obtain ⟨e1, e2, rfl, e3⟩ := o
    rw [e1, e2] at h
    simp only [Res.bind_ok]
    have e4 : b = tokP T p := by
      unfold nameP at ho
      split at ho
      · injection ho with ho; exact ho.symm
      · cases ho
    exact (hok e3 b e4 h).from (by simp only [stepP]; omega)
  | bad c q =>
    rw [ho] at o
    simp only [Res.bind_bad]
    exact (o.after (hbad _ _ o.failed h) (by omega)).rel
  | out => rw [ho] at o; exact o.elim

theorem go_open {f : Int → PS → Res Int} {G : RS → Option (Int × RS)} (x : ByteArray) (hi : p.i ≤ T.length) (h1 : 0 ≤ p.deep) (h2 : p.deep ≤ 20) (h : G (openR T en x (ofPS p)) = some (a, s')) (hbad : ∀ s0, Failed T s0 → G s0 = some (a, s') → After s0 s' K)
    (hok : p.i < T.length → p.deep < 20 → ∀ b, G (ofPS { stepP p with deep := p.deep + 1 }) = some (a, s') → Rel T (K + 30) { stepP p with deep := p.deep + 1 } (f b { stepP p with deep := p.deep + 1 }) a s') : Rel T K p ((openP T en x p).bind f) a s' := by
  have o := open_of (en := en) hi h1 h2 x
  cases ho : openP T en x p with
  | ok b p1 =>
    rw [ho] at o
    obtain ⟨e1, rfl, e3, e4⟩ := o
    rw [e1] at h
    simp only [Res.bind_ok]
    exact (hok e3 (by omega) b h).from (by simp only [stepP]; omega)
  | bad c q =>
    rw [ho] at o
    simp only [Res.bind_bad]
    exact (o.after (hbad _ o.failed h) (by omega)).rel
  | out => rw [ho] at o; exact o.elim

theorem go_shut {f : Unit → PS → Res Int} {G : RS → Option (Int × RS)} (x : ByteArray) (hi : p.i ≤ T.length) (h1 : 0 ≤ p.deep) (h2 : p.deep ≤ 20) (h : G (shutR T en x (ofPS p)) = some (a, s')) (hbad : ∀ s0, Failed T s0 → G s0 = some (a, s') → After s0 s' K)
    (hok : p.i < T.length → G (ofPS { stepP p with deep := p.deep - 1 }) = some (a, s') → Rel T (K + 30) { stepP p with deep := p.deep - 1 } (f () { stepP p with deep := p.deep - 1 }) a s') : Rel T K p ((shutP T en x p).bind f) a s' := by
  have o := shut_of (en := en) hi h1 h2 x
  cases ho : shutP T en x p with
  | ok b p1 =>
    rw [ho] at o
    obtain ⟨e1, rfl, e3⟩ := o
    rw [e1] at h
    simp only [Res.bind_ok]
    exact (hok e3 h).from (by simp only [stepP]; omega)
  | bad c q =>
    rw [ho] at o
    simp only [Res.bind_bad]
    exact (o.after (hbad _ o.failed h) (by omega)).rel
  | out => rw [ho] at o; exact o.elim

/-- A piece, then the rest: not a list, so that it leaves its depth as it was. -/
theorem go_run {n k : Nat} {nt : Nt} (ih : IH T en n) (hs : nt.slack = 2) (hl : nt.less = 0) {f : Int → PS → Res Int} {g : Int → RS → Option (Int × RS)} (hi : p.i ≤ T.length) (h1 : 0 ≤ p.deep) (h2 : p.deep ≤ 20)
    (h3 : ∀ k, nt = .expr k → k ≤ 5) (h4 : ∀ k l, nt = .exprL k l → k ≤ 4) (h : bindR (runR T en n nt (ofPS p)) g = some (a, s')) (hk : k + 2 ≤ K) (hbad : ∀ b s0, Failed T s0 → g b s0 = some (a, s') → After s0 s' k)
    (hok : ∀ b p2, p2.i ≤ T.length → p2.deep = p.deep → g b (ofPS p2) = some (a, s') → Rel T K p2 (f b p2) a s') : Rel T K p ((runP T en n nt p).bind f) a s' := by
  refine rel_bind h (fun b s1 e => ih.r nt _ _ _ hi h1 h2 h3 h4 e hs) (fun b p2 e hg => ?_) (fun b s1 c q e F hg => ?_)
  · have A := runP_adv n _ _ _ _ hi e
    have A1 := A.deep
    have A2 := A.few
    have A3 := A.le
    exact (hok b p2 A.top (by omega) hg).from (by omega)
  · exact F.after (hbad _ _ F.failed hg) (by omega)

theorem word_of (hT : TokOk T) {x : ByteArray} (hx : x ∈ wordsP) : isP T [x] p = decide (wordR T (ofPS p) = x) := by
  have h0 : ∀ y ∈ wordsP, ¬ ByteArray.empty = y ∧ ∀ z ∈ signsP, z ≠ y := by
    intro y hy
    simp only [wordsP, List.mem_cons, List.not_mem_nil, or_false] at hy
    rcases hy with h | h | h | h | h | h | h | h | h | h <;> subst h <;> refine ⟨by decide, ?_⟩ <;> intro z hz <;>
      simp only [signsP, List.mem_cons, List.not_mem_nil, or_false] at hz <;>
      rcases hz with h | h | h | h | h | h | h | h | h | h | h | h | h | h | h | h | h | h | h <;> subst h <;> decide
  unfold isP wordR ofPS
  cases ht : T[p.i]? with
  | none => simp [(h0 x hx).1]
  | some t =>
    simp only
    have hm := hT t (List.mem_of_getElem? ht)
    by_cases h2 : t.kind = 2
    · simp [h2, memB]
    · by_cases h4 : t.kind = 4
      · have := (h0 x hx).2 _ (hm.2 h4)
        simp [h4, memB, (h0 x hx).1, this]
      · simp [h2, h4, (h0 x hx).1]

theorem take_is {x : ByteArray} (h : isP T [x] p = true) : takeR T en x (ofPS p) = ofPS (stepP p) := by
  unfold takeR
  rw [isR_of, h, if_pos rfl, stepR_of]

end

end Go.Proofs.YtaklephcgepfjaaGreatDoor

/- Plain Lean: the reference's parser does as the program's does: a statement. -/
namespace Go.Proofs.YtaklephcgepfjaaGreatDoor

section
variable {T : List Tk} {en : Int} {p p1 : PS} {s' : RS} {a : Int} {K : Nat}

theorem rel_put {kind pos num : Int} {x : ByteArray} {l : List Int} (h : putR kind pos num x l (ofPS p) = some (a, s')) : Rel T K p (putP kind pos num x l p) a s' := by
  unfold putR at h
  injection h with h
  injection h with g1 g2
  exact ⟨g1.symm, g2.symm⟩

/-- A fault, then a closing sign, then a node. -/
theorem bad_take_put {k c m : Int} {y x : ByteArray} {l : List Int} {s0 : RS} (f : Failed T s0) (h : putR k c m y l (takeR T en x s0) = some (a, s')) : After s0 s' 1 := by
  rw [f.take] at h; exact put_after h

theorem bad_run {n k l : Nat} {nt : Nt} {g : Int → RS → Option (Int × RS)} {s0 : RS} (f : Failed T s0) (h : bindR (runR T en n nt s0) g = some (a, s')) (hg : ∀ b s1, Failed T s1 → g b s1 = some (a, s') → After s1 s' k) (hl : nt.more + k ≤ l) : After s0 s' l := by
  obtain ⟨b, s1, e, hg'⟩ := bindR_eq.1 h
  have A := runR_failed _ _ _ _ _ f e
  exact A.trans (hg _ _ (A.failed f) hg') hl

theorem rel_assign {n : Nat} (ih : IH T en n) (hi : p.i ≤ T.length) (h1 : 0 ≤ p.deep) (h2 : p.deep ≤ 20) (pos : Int) (h : assignR T en (runR T en n (.expr 0)) pos (ofPS p) = some (a, s')) :
    Rel T 2 p ((nameP T en p).bind fun t s => (takeP T en ((⟨#[61]⟩ : ByteArray)) s).bind fun _ s =>
        if isP T [(⟨#[99, 97, 115]⟩ : ByteArray)] s then
          (openP T en ((⟨#[40]⟩ : ByteArray)) (stepP s)).bind fun _ s => (nameP T en s).bind fun u s => (putP 16 u.pos 0 u.text [] s).bind fun a s =>
            (takeP T en ((⟨#[44]⟩ : ByteArray)) s).bind fun _ s => (runP T en n (.expr 0) s).bind fun x s =>
              (takeP T en ((⟨#[44]⟩ : ByteArray)) s).bind fun _ s => (runP T en n (.expr 0) s).bind fun y s =>
                (shutP T en ((⟨#[41]⟩ : ByteArray)) s).bind fun _ s => (takeP T en ((⟨#[59]⟩ : ByteArray)) s).bind fun _ s => putP 8 pos 0 t.text [a, x, y] s
        else (runP T en n (.expr 0) s).bind fun k s => (takeP T en ((⟨#[59]⟩ : ByteArray)) s).bind fun _ s => putP 7 pos 0 t.text [k] s) a s' := by
  unfold assignR at h
  dsimp only at h
  refine go_name (G := fun x s => (if isR T ((⟨#[99, 97, 115]⟩ : ByteArray)) (takeR T en ((⟨#[61]⟩ : ByteArray)) s) = true then
        bindR (putR 16 (posR T en (openR T en ((⟨#[40]⟩ : ByteArray)) (takeR T en ((⟨#[99, 97, 115]⟩ : ByteArray)) (takeR T en ((⟨#[61]⟩ : ByteArray)) s)))) 0 (nameT T (openR T en ((⟨#[40]⟩ : ByteArray)) (takeR T en ((⟨#[99, 97, 115]⟩ : ByteArray)) (takeR T en ((⟨#[61]⟩ : ByteArray)) s)))) [] (nameR T en (openR T en ((⟨#[40]⟩ : ByteArray)) (takeR T en ((⟨#[99, 97, 115]⟩ : ByteArray)) (takeR T en ((⟨#[61]⟩ : ByteArray)) s))))) fun a s => bindR (runR T en n (.expr 0) (takeR T en ((⟨#[44]⟩ : ByteArray)) s)) fun b s => bindR (runR T en n (.expr 0) (takeR T en ((⟨#[44]⟩ : ByteArray)) s)) fun c s =>
          putR 8 pos 0 x [a, b, c] (takeR T en ((⟨#[59]⟩ : ByteArray)) (shutR T en ((⟨#[41]⟩ : ByteArray)) s))
      else bindR (runR T en n (.expr 0) (takeR T en ((⟨#[61]⟩ : ByteArray)) s)) fun k s => putR 7 pos 0 x [k] (takeR T en ((⟨#[59]⟩ : ByteArray)) s))) hi h ?_ ?_
  · intro x s0 f e
    rw [f.take, f.is, if_neg (by decide)] at e
    exact bad_run f e (fun b s1 f1 e1 => bad_take_put f1 e1) (by simp [Nt.more])
  intro i1 t ht h
  refine go_take (G := fun s => (if isR T ((⟨#[99, 97, 115]⟩ : ByteArray)) s = true then
        bindR (putR 16 (posR T en (openR T en ((⟨#[40]⟩ : ByteArray)) (takeR T en ((⟨#[99, 97, 115]⟩ : ByteArray)) s))) 0 (nameT T (openR T en ((⟨#[40]⟩ : ByteArray)) (takeR T en ((⟨#[99, 97, 115]⟩ : ByteArray)) s))) [] (nameR T en (openR T en ((⟨#[40]⟩ : ByteArray)) (takeR T en ((⟨#[99, 97, 115]⟩ : ByteArray)) s)))) fun a s => bindR (runR T en n (.expr 0) (takeR T en ((⟨#[44]⟩ : ByteArray)) s)) fun b s => bindR (runR T en n (.expr 0) (takeR T en ((⟨#[44]⟩ : ByteArray)) s)) fun c s =>
          putR 8 pos 0 t.text [a, b, c] (takeR T en ((⟨#[59]⟩ : ByteArray)) (shutR T en ((⟨#[41]⟩ : ByteArray)) s))
      else bindR (runR T en n (.expr 0) s) fun k s => putR 7 pos 0 t.text [k] (takeR T en ((⟨#[59]⟩ : ByteArray)) s))) _ (by simp only [stepP]; omega) h ?_ ?_
  · intro s0 f e
    rw [f.is, if_neg (by decide)] at e
    exact (bad_run f e (fun b s1 f1 e1 => bad_take_put f1 e1) (l := 2) (by simp [Nt.more])).trans After.refl (k := 2) (l := 0) (by omega)
  intro i2 b h
  simp only [stepP] at i2
  have i3 : (stepP (stepP p)).i ≤ T.length := by simp only [stepP]; omega
  rw [isR_of] at h
  cases hq : isP T [(⟨#[99, 97, 115]⟩ : ByteArray)] (stepP (stepP p)) with
  | false =>
    rw [hq, if_neg (by decide)] at h
    rw [if_neg (by decide)]
    refine go_run (k := 1) ih rfl rfl i3 h1 h2 (by intro k e; injection e; omega) (by simp) h (by omega) (fun b s0 f e => bad_take_put f e) (fun b p2 j1 j2 h => ?_)
    exact go_take (G := fun s => putR 7 pos 0 t.text [b] s) _ j1 h (fun s0 f e => (put_after e).trans After.refl (l := 0) (by omega)) (fun _ _ h => rel_put h)
  | true =>
    rw [hq, if_pos rfl] at h
    rw [if_pos rfl]
    rw [take_is hq] at h
    have i4 : (stepP (stepP (stepP p))).i ≤ T.length := by have := isP_lt hq; simp only [stepP] at *; omega
    have BR : ∀ (u : Int) (s0 : RS), Failed T s0 → (bindR (runR T en n (.expr 0) (takeR T en ((⟨#[44]⟩ : ByteArray)) s0)) fun b s => bindR (runR T en n (.expr 0) (takeR T en ((⟨#[44]⟩ : ByteArray)) s)) fun c s =>
          putR 8 pos 0 t.text [u, b, c] (takeR T en ((⟨#[59]⟩ : ByteArray)) (shutR T en ((⟨#[41]⟩ : ByteArray)) s))) = some (a, s') → After s0 s' 3 := by
      intro u s0 f e
      rw [f.take] at e
      refine bad_run (k := 2) f e (fun b s1 f1 e1 => ?_) (by simp [Nt.more])
      rw [f1.take] at e1
      refine bad_run (k := 1) f1 e1 (fun b s2 f2 e2 => ?_) (by simp [Nt.more])
      have S := f2.shut (en := en) ((⟨#[41]⟩ : ByteArray))
      exact S.trans (bad_take_put (S.failed f2) e2) (by omega)
    refine Rel.from (p1 := stepP (stepP (stepP p))) (k := 10) ?_ (by simp only [stepP]; omega)
    refine go_open (G := fun s => bindR (putR 16 (posR T en s) 0 (nameT T s) [] (nameR T en s)) fun a s => bindR (runR T en n (.expr 0) (takeR T en ((⟨#[44]⟩ : ByteArray)) s)) fun b s => bindR (runR T en n (.expr 0) (takeR T en ((⟨#[44]⟩ : ByteArray)) s)) fun c s =>
          putR 8 pos 0 t.text [a, b, c] (takeR T en ((⟨#[59]⟩ : ByteArray)) (shutR T en ((⟨#[41]⟩ : ByteArray)) s))) _ i4 h1 h2 h ?_ ?_
    · intro s0 f e
      simp only [putR, bindR_some] at e
      rw [f.name] at e
      have P : After s0 (nodeR ⟨16, 0, posR T en s0, nameT T s0, []⟩ s0) 1 := ⟨rfl, rfl, rfl, by simp [nodeR]⟩
      exact P.trans (BR _ _ (P.failed f) e) (by omega)
    intro i5 d1 b h
    have d2 : p.deep < 20 := d1
    have i6 : (stepP (stepP (stepP p))).i + 1 ≤ T.length := by omega
    simp only [stepP] at i5 i6
    rw [posR_of] at h
    refine go_name (G := fun x s => bindR (putR 16 (posP T en { stepP (stepP (stepP (stepP p))) with deep := p.deep + 1 }) 0 x [] s) fun a s => bindR (runR T en n (.expr 0) (takeR T en ((⟨#[44]⟩ : ByteArray)) s)) fun b s => bindR (runR T en n (.expr 0) (takeR T en ((⟨#[44]⟩ : ByteArray)) s)) fun c s =>
          putR 8 pos 0 t.text [a, b, c] (takeR T en ((⟨#[59]⟩ : ByteArray)) (shutR T en ((⟨#[41]⟩ : ByteArray)) s))) (by simp only [stepP]; omega) h ?_ ?_
    · intro x s0 f e
      simp only [putR, bindR_some] at e
      have P : After s0 (nodeR ⟨16, 0, posP T en { stepP (stepP (stepP (stepP p))) with deep := p.deep + 1 }, x, []⟩ s0) 1 := ⟨rfl, rfl, rfl, by simp [nodeR]⟩
      exact P.trans (BR _ _ (P.failed f) e) (by omega)
    intro i7 u hu h
    have eu : posP T en { stepP (stepP (stepP (stepP p))) with deep := p.deep + 1 } = u.pos := by
      rw [hu]; simp only [posP, tokP]; rw [List.getD_eq_getElem?_getD, List.getElem?_eq_getElem i7]; rfl
    rw [eu] at h
    simp only [putP, Res.bind_ok]
    simp only [putR, bindR_some] at h
    simp only [stepP] at i7
    refine Rel.from (p1 := { stepP { stepP (stepP (stepP (stepP p))) with deep := p.deep + 1 } with nodes := p.nodes ++ [⟨16, 0, u.pos, u.text, []⟩] }) (k := 10) ?_ (by simp [stepP]; omega)
    refine go_take (G := fun s => bindR (runR T en n (.expr 0) s) fun b s => bindR (runR T en n (.expr 0) (takeR T en ((⟨#[44]⟩ : ByteArray)) s)) fun c s =>
          putR 8 pos 0 t.text [(p.nodes.length : Int), b, c] (takeR T en ((⟨#[59]⟩ : ByteArray)) (shutR T en ((⟨#[41]⟩ : ByteArray)) s))) _ (by simp only [stepP]; omega) h ?_ ?_
    · intro s0 f e
      have e2 := BR (p.nodes.length : Int) s0 f (by rw [f.take]; exact e)
      exact e2.trans After.refl (l := 0) (by omega)
    intro i8 _ h
    simp only [stepP] at i8
    refine go_run (k := 2) ih rfl rfl (by simp only [stepP]; omega) (by simp only [stepP]; omega) (by simp only [stepP]; omega) (by intro k e; injection e; omega) (by simp) h (by omega) ?_ ?_
    · intro b s0 f e
      rw [f.take] at e
      refine bad_run (k := 1) f e (fun b s2 f2 e2 => ?_) (by simp [Nt.more])
      have S := f2.shut (en := en) ((⟨#[41]⟩ : ByteArray))
      exact S.trans (bad_take_put (S.failed f2) e2) (by omega)
    intro x p2 j1 j2 h
    simp only [stepP] at j2
    refine go_take (G := fun s => bindR (runR T en n (.expr 0) s) fun c s => putR 8 pos 0 t.text [(p.nodes.length : Int), x, c] (takeR T en ((⟨#[59]⟩ : ByteArray)) (shutR T en ((⟨#[41]⟩ : ByteArray)) s))) _ j1 h ?_ ?_
    · intro s0 f e
      refine (bad_run (k := 1) (l := 2) f e (fun b s2 f2 e2 => ?_) (by simp [Nt.more])).trans After.refl (l := 0) (by omega)
      have S := f2.shut (en := en) ((⟨#[41]⟩ : ByteArray))
      exact S.trans (bad_take_put (S.failed f2) e2) (by omega)
    intro i9 _ h
    refine go_run (k := 1) ih rfl rfl (by simp only [stepP]; omega) (by simp only [stepP]; omega) (by simp only [stepP]; omega) (by intro k e; injection e; omega) (by simp) h (by omega) ?_ ?_
    · intro b s0 f e
      have S := f.shut (en := en) ((⟨#[41]⟩ : ByteArray))
      exact S.trans (bad_take_put (S.failed f) e) (by omega)
    intro y p3 k1 k2 h
    simp only [stepP] at k2
    refine go_shut (G := fun s => putR 8 pos 0 t.text [(p.nodes.length : Int), x, y] (takeR T en ((⟨#[59]⟩ : ByteArray)) s)) _ k1 (by omega) (by omega) h (fun s0 f e => (bad_take_put f e).trans After.refl (l := 0) (by omega)) (fun i10 h => ?_)
    exact go_take (G := fun s => putR 8 pos 0 t.text [(p.nodes.length : Int), x, y] s) _ (by simp only [stepP]; omega) h (fun s0 f e => (put_after e).trans After.refl (l := 0) (by omega)) (fun _ _ h => rel_put h)

theorem rel_stmt {n : Nat} (hT : TokOk T) (ih : IH T en n) (hi : p.i ≤ T.length) (h1 : 0 ≤ p.deep) (h2 : p.deep ≤ 20) (h : runR T en (n + 1) .stmt (ofPS p) = some (a, s')) : Rel T 2 p (runP T en (n + 1) .stmt p) a s' := by
  unfold runR at h
  unfold runP
  dsimp only at h ⊢
  rw [posR_of] at h
  rw [word_of hT (x := (⟨#[105, 110, 116]⟩ : ByteArray)) (by simp [wordsP]), word_of hT (x := (⟨#[105, 102]⟩ : ByteArray)) (by simp [wordsP]), word_of hT (x := (⟨#[119, 104, 105, 108, 101]⟩ : ByteArray)) (by simp [wordsP]), word_of hT (x := (⟨#[112, 114, 105, 110, 116]⟩ : ByteArray)) (by simp [wordsP]), word_of hT (x := (⟨#[102, 101, 110, 99, 101]⟩ : ByteArray)) (by simp [wordsP])]
  have hw : ∀ x, x ∈ wordsP → wordR T (ofPS p) = x → isP T [x] p = true := fun x hx e => by rw [word_of hT hx, e]; simp
  have I1 : ∀ x, isP T [x] p = true → (stepP p).i ≤ T.length := fun x e => by have := isP_lt e; simp only [stepP]; omega
  have X5 : ∀ k, Nt.expr 0 = .expr k → k ≤ 5 := by intro k e; injection e; omega
  by_cases c1 : wordR T (ofPS p) = (⟨#[105, 110, 116]⟩ : ByteArray)
  · rw [if_pos c1] at h
    rw [if_pos (by simpa using c1)]
    have hq := hw _ (by simp [wordsP]) c1
    rw [take_is hq] at h
    refine Rel.from (p1 := stepP p) (k := 10) ?_ (by simp only [stepP]; omega)
    refine go_name (G := fun x s => bindR (runR T en n (.expr 0) (takeR T en ((⟨#[61]⟩ : ByteArray)) s)) fun k s => putR 6 (posP T en p) 0 x [k] (takeR T en ((⟨#[59]⟩ : ByteArray)) s)) (I1 _ hq) h ?_ ?_
    · intro x s0 f e
      rw [f.take] at e
      exact bad_run f e (fun b s1 f1 e1 => bad_take_put f1 e1) (by simp [Nt.more])
    intro i1 t ht h
    simp only [stepP] at i1
    refine go_take (G := fun s => bindR (runR T en n (.expr 0) s) fun k s => putR 6 (posP T en p) 0 t.text [k] (takeR T en ((⟨#[59]⟩ : ByteArray)) s)) _ (by simp only [stepP]; omega) h (fun s0 f e => bad_run f e (fun b s1 f1 e1 => bad_take_put f1 e1) (by simp [Nt.more])) ?_
    intro i2 _ h
    simp only [stepP] at i2
    refine go_run (k := 1) ih rfl rfl (by simp only [stepP]; omega) h1 h2 X5 (by simp) h (by omega) (fun b s0 f e => bad_take_put f e) (fun b p2 j1 j2 h => ?_)
    exact go_take (G := fun s => putR 6 (posP T en p) 0 t.text [b] s) _ j1 h (fun s0 f e => (put_after e).trans After.refl (l := 0) (by omega)) (fun _ _ h => rel_put h)
  rw [if_neg c1] at h
  rw [if_neg (by simpa using c1)]
  by_cases c2 : wordR T (ofPS p) = (⟨#[105, 102]⟩ : ByteArray)
  · rw [if_pos c2] at h
    rw [if_pos (by simpa using c2)]
    have hq := hw _ (by simp [wordsP]) c2
    rw [take_is hq] at h
    refine Rel.from (p1 := stepP p) (k := 10) ?_ (by simp only [stepP]; omega)
    refine go_run (k := 2) ih rfl rfl (I1 _ hq) h1 h2 (by simp) (by simp) h (by omega) ?_ ?_
    · intro b s0 f e
      refine bad_run (k := 1) f e (fun b s1 f1 e1 => ?_) (by simp [Nt.more])
      rw [f1.is, if_neg (by decide)] at e1
      exact put_after e1
    intro k p2 j1 j2 h
    have j3 : p2.deep = p.deep := j2
    refine go_run (k := 1) ih rfl rfl j1 (by omega) (by omega) (by simp) (by simp) h (by omega) ?_ ?_
    · intro b s0 f e
      rw [f.is, if_neg (by decide)] at e
      exact put_after e
    intro b p3 k1 k2 h
    have k3 : p3.deep = p.deep := k2.trans j3
    rw [isR_of] at h
    cases hq2 : isP T [(⟨#[101, 108, 115, 101]⟩ : ByteArray)] p3 with
    | true =>
      rw [hq2, if_pos rfl, take_is hq2] at h
      rw [if_pos rfl]
      have hl := isP_lt hq2
      refine Rel.from (p1 := stepP p3) (k := 10) ?_ (by simp only [stepP]; omega)
      refine go_run (k := 1) ih rfl rfl (by simp only [stepP]; omega) (by simp only [stepP]; omega) (by simp only [stepP]; omega) (by simp) (by simp) h (by omega) (fun b s0 f e => put_after e) (fun c p4 l1 l2 h => rel_put h)
    | false =>
      rw [hq2, if_neg (by decide)] at h
      rw [if_neg (by decide)]
      exact rel_put h
  rw [if_neg c2] at h
  rw [if_neg (by simpa using c2)]
  by_cases c3 : wordR T (ofPS p) = (⟨#[119, 104, 105, 108, 101]⟩ : ByteArray)
  · rw [if_pos c3] at h
    rw [if_pos (by simpa using c3)]
    have hq := hw _ (by simp [wordsP]) c3
    rw [take_is hq] at h
    refine Rel.from (p1 := stepP p) (k := 10) ?_ (by simp only [stepP]; omega)
    refine go_run (k := 2) ih rfl rfl (I1 _ hq) h1 h2 (by simp) (by simp) h (by omega) ?_ ?_
    · intro b s0 f e
      exact bad_run (k := 1) f e (fun b s1 f1 e1 => put_after e1) (by simp [Nt.more])
    intro k p2 j1 j2 h
    have j3 : p2.deep = p.deep := j2
    exact go_run (k := 1) ih rfl rfl j1 (by omega) (by omega) (by simp) (by simp) h (by omega) (fun b s0 f e => put_after e) (fun b p3 k1 k2 h => rel_put h)
  rw [if_neg c3] at h
  rw [if_neg (by simpa using c3)]
  by_cases c4 : wordR T (ofPS p) = (⟨#[112, 114, 105, 110, 116]⟩ : ByteArray)
  · rw [if_pos c4] at h
    rw [if_pos (by simpa using c4)]
    have hq := hw _ (by simp [wordsP]) c4
    rw [take_is hq] at h
    refine Rel.from (p1 := stepP p) (k := 10) ?_ (by simp only [stepP]; omega)
    refine go_run (k := 1) ih rfl rfl (I1 _ hq) h1 h2 (by simp) (by simp) h (by omega) (fun b s0 f e => bad_take_put f e) (fun k p2 j1 j2 h => ?_)
    exact go_take (G := fun s => putR 11 (posP T en p) 0 ByteArray.empty [k] s) _ j1 h (fun s0 f e => (put_after e).trans After.refl (l := 0) (by omega)) (fun _ _ h => rel_put h)
  rw [if_neg c4] at h
  rw [if_neg (by simpa using c4)]
  have hl2 : isP T [(⟨#[108, 111, 99, 107]⟩ : ByteArray), (⟨#[117, 110, 108, 111, 99, 107]⟩ : ByteArray)] p = decide (wordR T (ofPS p) = (⟨#[108, 111, 99, 107]⟩ : ByteArray) ∨ wordR T (ofPS p) = (⟨#[117, 110, 108, 111, 99, 107]⟩ : ByteArray)) := by
    cases hq : isP T [(⟨#[108, 111, 99, 107]⟩ : ByteArray), (⟨#[117, 110, 108, 111, 99, 107]⟩ : ByteArray)] p with
    | true =>
      rcases is_two _ _ hq with ⟨_, e⟩ | ⟨_, e⟩
      · rw [word_of hT (by simp [wordsP])] at e
        have e' := of_decide_eq_true e
        simp [e']
      · rw [word_of hT (by simp [wordsP])] at e
        have e' := of_decide_eq_true e
        simp [e']
    | false =>
      obtain ⟨e1, e2⟩ := is_two_no _ _ hq
      rw [word_of hT (by simp [wordsP])] at e1 e2
      have e3 := of_decide_eq_false e1
      have e4 := of_decide_eq_false e2
      simp [e3, e4]
  rw [hl2]
  by_cases c5 : wordR T (ofPS p) = (⟨#[108, 111, 99, 107]⟩ : ByteArray) ∨ wordR T (ofPS p) = (⟨#[117, 110, 108, 111, 99, 107]⟩ : ByteArray)
  · rw [if_pos c5] at h
    rw [if_pos (by simpa using c5)]
    obtain ⟨x, hx, hq⟩ : ∃ x, wordR T (ofPS p) = x ∧ isP T [x] p = true := by
      rcases c5 with c | c
      · exact ⟨_, c, hw _ (by simp [wordsP]) c⟩
      · exact ⟨_, c, hw _ (by simp [wordsP]) c⟩
    rw [hx, take_is hq] at h
    rw [is_text hq]
    refine Rel.from (p1 := stepP p) (k := 10) ?_ (by simp only [stepP]; omega)
    refine go_open (G := fun s => putR (if x = (⟨#[117, 110, 108, 111, 99, 107]⟩ : ByteArray) then 13 else 12) (posP T en p) 0 (nameT T s) [] (takeR T en ((⟨#[59]⟩ : ByteArray)) (shutR T en ((⟨#[41]⟩ : ByteArray)) (nameR T en s)))) _ (I1 _ hq) h1 h2 h ?_ ?_
    · intro s0 f e
      rw [f.name] at e
      have S := f.shut (en := en) ((⟨#[41]⟩ : ByteArray))
      exact S.trans (bad_take_put (S.failed f) e) (by omega)
    intro i1 d1 _ h
    have d2 : p.deep < 20 := d1
    simp only [stepP] at i1
    refine go_name (G := fun y s => putR (if x = (⟨#[117, 110, 108, 111, 99, 107]⟩ : ByteArray) then 13 else 12) (posP T en p) 0 y [] (takeR T en ((⟨#[59]⟩ : ByteArray)) (shutR T en ((⟨#[41]⟩ : ByteArray)) s))) (by simp only [stepP]; omega) h ?_ ?_
    · intro y s0 f e
      have S := f.shut (en := en) ((⟨#[41]⟩ : ByteArray))
      exact S.trans (bad_take_put (S.failed f) e) (by omega)
    intro i2 t ht h
    simp only [stepP] at i2
    refine go_shut (G := fun s => putR (if x = (⟨#[117, 110, 108, 111, 99, 107]⟩ : ByteArray) then 13 else 12) (posP T en p) 0 t.text [] (takeR T en ((⟨#[59]⟩ : ByteArray)) s)) _ (by simp only [stepP]; omega) (by simp only [stepP]; omega) (by simp only [stepP]; omega) h (fun s0 f e => (bad_take_put f e).trans After.refl (l := 0) (by omega)) (fun i3 h => ?_)
    simp only [stepP] at i3
    exact go_take (G := fun s => putR (if x = (⟨#[117, 110, 108, 111, 99, 107]⟩ : ByteArray) then 13 else 12) (posP T en p) 0 t.text [] s) _ (by simp only [stepP]; omega) h (fun s0 f e => (put_after e).trans After.refl (l := 0) (by omega)) (fun _ _ h => rel_put h)
  rw [if_neg c5] at h
  rw [if_neg (by simpa using c5)]
  by_cases c6 : wordR T (ofPS p) = (⟨#[102, 101, 110, 99, 101]⟩ : ByteArray)
  · rw [if_pos c6] at h
    rw [if_pos (by simpa using c6)]
    have hq := hw _ (by simp [wordsP]) c6
    rw [take_is hq] at h
    refine Rel.from (p1 := stepP p) (k := 10) ?_ (by simp only [stepP]; omega)
    exact go_take (G := fun s => putR 14 (posP T en p) 0 ByteArray.empty [] s) _ (I1 _ hq) h (fun s0 f e => (put_after e).trans After.refl (l := 0) (by omega)) (fun _ _ h => rel_put h)
  rw [if_neg c6] at h
  rw [if_neg (by simpa using c6)]
  exact rel_assign ih hi h1 h2 _ h

theorem rel_run (hT : TokOk T) (n : Nat) : IH T en n := by
  induction n with
  | zero => intro nt p a s' _ _ _ _ _ h; cases h
  | succ n ih =>
    intro nt p a s' h1 h2 h3 h4 h5 h
    cases nt with
    | expr k => exact rel_expr ih (h4 k rfl) h1 h2 h3 h
    | exprL k left => exact rel_exprL hT ih (h5 k left rfl) h1 h2 h3 h
    | unary => exact rel_unary ih h1 h2 h3 h
    | held => exact rel_held ih h1 h2 h3 h
    | block => exact rel_block ih h1 h2 h3 h
    | blockL pos kids => exact rel_blockL ih h1 h2 h3 h
    | stmt => exact rel_stmt hT ih h1 h2 h3 h

end

end Go.Proofs.YtaklephcgepfjaaGreatDoor

/- Plain Lean: the reference's parser does as the program's does: globals, the program. -/
namespace Go.Proofs.YtaklephcgepfjaaGreatDoor

section
variable {T : List Tk} {en : Int} {p p1 : PS} {s' : RS} {a : Int} {K : Nat}

theorem take_pos {x : ByteArray} {b : Int} {q : PS} (h : takeP T en x p = .ok b q) : b = posP T en p := by
  unfold takeP at h
  split at h
  · rename_i hq
    injection h with e3 e4
    have hlt := isP_lt hq
    rw [← e3]
    simp [tokP, posP, hlt]
  · cases h

theorem go_takeb {f : Int → PS → Res Int} {G : RS → Option (Int × RS)} (x : ByteArray) (hi : p.i ≤ T.length) (h : G (takeR T en x (ofPS p)) = some (a, s')) (hbad : ∀ s0, Failed T s0 → G s0 = some (a, s') → After s0 s' K)
    (hok : p.i < T.length → G (ofPS (stepP p)) = some (a, s') → Rel T (K + 30) (stepP p) (f (posP T en p) (stepP p)) a s') : Rel T K p ((takeP T en x p).bind f) a s' := by
  have o := take_of (en := en) hi x
  cases ho : takeP T en x p with
  | ok b p1 =>
    have hb := take_pos ho
    rw [ho] at o
    obtain ⟨e1, rfl, e3⟩ := o
    rw [e1] at h
    simp only [Res.bind_ok]
    subst hb
    exact (hok e3 h).from (by simp only [stepP]; omega)
  | bad c q =>
    rw [ho] at o
    simp only [Res.bind_bad]
    exact (o.after (hbad _ o.failed h) (by omega)).rel
  | out => rw [ho] at o; exact o.elim

theorem go_num {F : Res Int} {G : Int → RS → Option (Int × RS)} (hi : p.i ≤ T.length) (h : G (numT T (ofPS p)) (numR T en (ofPS p)) = some (a, s')) (hbad : ∀ x s0, Failed T s0 → G x s0 = some (a, s') → After s0 s' K)
    (hok : p.i < T.length → G (tokP T p).num (ofPS (stepP p)) = some (a, s') → Rel T (K + 30) (stepP p) F a s') : Rel T K p (if kindP T 3 p then F else failP T en 5 p) a s' := by
  unfold numT numR at h
  rw [kindR_of, tokR_of] at h
  cases hq : kindP T 3 p with
  | true =>
    rw [hq, if_pos rfl, if_pos rfl] at h
    rw [if_pos rfl]
    exact (hok (kindP_lt hq) h).from (by simp only [stepP]; omega)
  | false =>
    rw [hq, if_neg (by decide), if_neg (by decide)] at h
    rw [if_neg (by decide)]
    have o := fail_of (en := en) hi 5 (by decide)
    exact (o.after (hbad _ _ o.failed h) (by omega)).rel

theorem globalR_failed {s0 : RS} (f : Failed T s0) (h : globalR T en s0 = some (a, s')) : After s0 s' 1 := by
  unfold globalR at h
  dsimp only at h
  rw [f.is, if_neg (by decide), f.take, f.name, f.is, if_neg (by decide)] at h
  exact bad_take_put f h

theorem rel_global (hi : p.i ≤ T.length) (h : globalR T en (ofPS p) = some (a, s')) : Rel T 1 p (globalP T en p) a s' := by
  unfold globalR at h
  unfold globalP
  dsimp only at h
  rw [isR_of, posR_of] at h
  cases hq : isP T [(⟨#[108, 111, 99, 107]⟩ : ByteArray)] p with
  | true =>
    rw [hq, if_pos rfl, take_is hq] at h
    rw [if_pos rfl]
    have hl := isP_lt hq
    have ep : (tokP T p).pos = posP T en p := by simp [tokP, posP, hl]
    rw [ep]
    refine Rel.from (p1 := stepP p) (k := 10) ?_ (by simp only [stepP]; omega)
    refine go_name (G := fun x s => putR 3 (posP T en p) 0 x [] (takeR T en ((⟨#[59]⟩ : ByteArray)) s)) (by simp only [stepP]; omega) h (fun x s0 f e => (bad_take_put f e).trans After.refl (l := 0) (by omega)) (fun i1 t ht h => ?_)
    simp only [stepP] at i1
    exact go_take (G := fun s => putR 3 (posP T en p) 0 t.text [] s) _ (by simp only [stepP]; omega) h (fun s0 f e => (put_after e).trans After.refl (l := 0) (by omega)) (fun _ _ h => rel_put h)
  | false =>
    rw [hq, if_neg (by decide)] at h
    rw [if_neg (by decide)]
    refine go_takeb (G := fun s1 => (if isR T ((⟨#[61]⟩ : ByteArray)) (nameR T en s1) then
      if isR T ((⟨#[45]⟩ : ByteArray)) (takeR T en ((⟨#[61]⟩ : ByteArray)) (nameR T en s1)) then
        putR 2 (posP T en p) (-(numT T (takeR T en ((⟨#[45]⟩ : ByteArray)) (takeR T en ((⟨#[61]⟩ : ByteArray)) (nameR T en s1))))) (nameT T s1) [] (takeR T en ((⟨#[59]⟩ : ByteArray)) (numR T en (takeR T en ((⟨#[45]⟩ : ByteArray)) (takeR T en ((⟨#[61]⟩ : ByteArray)) (nameR T en s1)))))
      else putR 2 (posP T en p) (numT T (takeR T en ((⟨#[61]⟩ : ByteArray)) (nameR T en s1))) (nameT T s1) [] (takeR T en ((⟨#[59]⟩ : ByteArray)) (numR T en (takeR T en ((⟨#[61]⟩ : ByteArray)) (nameR T en s1))))
    else putR 2 (posP T en p) 0 (nameT T s1) [] (takeR T en ((⟨#[59]⟩ : ByteArray)) (nameR T en s1)))) _ hi h ?_ ?_
    · intro s0 f e
      rw [f.name, f.is, if_neg (by decide)] at e
      exact bad_take_put f e
    intro i1 h
    refine go_name (G := fun x s2 => (if isR T ((⟨#[61]⟩ : ByteArray)) s2 then
      if isR T ((⟨#[45]⟩ : ByteArray)) (takeR T en ((⟨#[61]⟩ : ByteArray)) s2) then
        putR 2 (posP T en p) (-(numT T (takeR T en ((⟨#[45]⟩ : ByteArray)) (takeR T en ((⟨#[61]⟩ : ByteArray)) s2)))) x [] (takeR T en ((⟨#[59]⟩ : ByteArray)) (numR T en (takeR T en ((⟨#[45]⟩ : ByteArray)) (takeR T en ((⟨#[61]⟩ : ByteArray)) s2))))
      else putR 2 (posP T en p) (numT T (takeR T en ((⟨#[61]⟩ : ByteArray)) s2)) x [] (takeR T en ((⟨#[59]⟩ : ByteArray)) (numR T en (takeR T en ((⟨#[61]⟩ : ByteArray)) s2)))
    else putR 2 (posP T en p) 0 x [] (takeR T en ((⟨#[59]⟩ : ByteArray)) s2))) (by simp only [stepP]; omega) h ?_ ?_
    · intro x s0 f e
      rw [f.is, if_neg (by decide)] at e
      exact (bad_take_put f e).trans After.refl (l := 0) (by omega)
    intro i2 t ht h
    simp only [stepP] at i2
    rw [isR_of] at h
    cases hq2 : isP T [(⟨#[61]⟩ : ByteArray)] (stepP (stepP p)) with
    | false =>
      rw [hq2, if_neg (by decide)] at h
      rw [if_neg (by decide)]
      exact go_take (G := fun s => putR 2 (posP T en p) 0 t.text [] s) _ (by simp only [stepP]; omega) h (fun s0 f e => (put_after e).trans After.refl (l := 0) (by omega)) (fun _ _ h => rel_put h)
    | true =>
      rw [hq2, if_pos rfl, take_is hq2, isR_of] at h
      rw [if_pos rfl]
      have i3 := isP_lt hq2
      simp only [stepP] at i3
      refine Rel.from (p1 := stepP (stepP (stepP p))) (k := 10) ?_ (by simp only [stepP]; omega)
      cases hq3 : isP T [(⟨#[45]⟩ : ByteArray)] (stepP (stepP (stepP p))) with
      | true =>
        rw [hq3, if_pos rfl, take_is hq3] at h
        rw [if_pos rfl]
        have i4 := isP_lt hq3
        simp only [stepP] at i4
        refine Rel.from (p1 := stepP (stepP (stepP (stepP p)))) (k := 10) ?_ (by simp only [stepP]; omega)
        refine go_num (G := fun x s => putR 2 (posP T en p) (-x) t.text [] (takeR T en ((⟨#[59]⟩ : ByteArray)) s)) (by simp only [stepP]; omega) h (fun x s0 f e => (bad_take_put f e).trans After.refl (l := 0) (by omega)) (fun i5 h => ?_)
        simp only [stepP] at i5
        exact go_take (G := fun s => putR 2 (posP T en p) (-(tokP T (stepP (stepP (stepP (stepP p))))).num) t.text [] s) _ (by simp only [stepP]; omega) h (fun s0 f e => (put_after e).trans After.refl (l := 0) (by omega)) (fun _ _ h => rel_put h)
      | false =>
        rw [hq3, if_neg (by decide)] at h
        rw [if_neg (by decide)]
        refine go_num (G := fun x s => putR 2 (posP T en p) x t.text [] (takeR T en ((⟨#[59]⟩ : ByteArray)) s)) (by simp only [stepP]; omega) h (fun x s0 f e => (bad_take_put f e).trans After.refl (l := 0) (by omega)) (fun i5 h => ?_)
        simp only [stepP] at i5
        exact go_take (G := fun s => putR 2 (posP T en p) (tokP T (stepP (stepP (stepP p)))).num t.text [] s) _ (by simp only [stepP]; omega) h (fun s0 f e => (put_after e).trans After.refl (l := 0) (by omega)) (fun _ _ h => rel_put h)

theorem progTR_failed {n : Nat} {kids : List Int} {s0 : RS} (f : Failed T s0) (h : progTR T en n kids s0 = some (a, s')) : After s0 s' 1 := by
  cases n with
  | zero => cases h
  | succ n =>
    unfold progTR at h
    rw [if_neg (fun e => f.f e.1)] at h
    exact put_after h

theorem progGR_failed {n : Nat} {kids : List Int} {s0 : RS} (f : Failed T s0) (h : progGR T en n kids s0 = some (a, s')) : After s0 s' 1 := by
  cases n with
  | zero => cases h
  | succ n =>
    unfold progGR at h
    rw [if_neg (fun e => f.f e.1)] at h
    exact progTR_failed f h

theorem rel_progT (hT : TokOk T) (n : Nat) : ∀ (kids : List Int) (p : PS) (a : Int) (s' : RS), p.i ≤ T.length → 0 ≤ p.deep → p.deep ≤ 20 → progTR T en n kids (ofPS p) = some (a, s') → Rel T 3 p (progT T en n kids p) a s' := by
  induction n with
  | zero => intro kids p a s' _ _ _ h; cases h
  | succ n ih =>
    intro kids p a s' hi h1 h2 h
    unfold progTR at h
    unfold progT
    by_cases hl : p.i < T.length
    · rw [if_pos ⟨rfl, hl⟩, posR_of] at h
      rw [if_pos hl]
      refine go_takeb (G := fun s => bindR (runR T en n .block s) fun b s' => bindR (putR 4 (posP T en p) 0 ByteArray.empty [b] s') fun k s => progTR T en n (kids ++ [k]) s) _ hi h ?_ ?_
      · intro s0 f e
        refine bad_run (k := 2) f e (fun b s1 f1 e1 => ?_) (by simp [Nt.more])
        simp only [putR, bindR_some] at e1
        have P : After s1 (nodeR ⟨4, 0, posP T en p, ByteArray.empty, [b]⟩ s1) 1 := ⟨rfl, rfl, rfl, by simp [nodeR]⟩
        exact P.trans (progTR_failed (P.failed f1) e1) (by omega)
      intro i1 h
      refine go_run (k := 2) (rel_run hT n) rfl rfl (by simp only [stepP]; omega) h1 h2 (by simp) (by simp) h (by omega) ?_ ?_
      · intro b s1 f1 e1
        simp only [putR, bindR_some] at e1
        have P : After s1 (nodeR ⟨4, 0, posP T en p, ByteArray.empty, [b]⟩ s1) 1 := ⟨rfl, rfl, rfl, by simp [nodeR]⟩
        exact P.trans (progTR_failed (P.failed f1) e1) (by omega)
      intro b p2 j1 j2 h
      have j3 : p2.deep = p.deep := j2
      simp only [putR, bindR_some] at h
      simp only [putP, Res.bind_ok]
      exact (ih (kids ++ [(p2.nodes.length : Int)]) { p2 with nodes := p2.nodes ++ [⟨4, 0, posP T en p, ByteArray.empty, [b]⟩] } a s' j1 (by simp only; omega) (by simp only; omega) h).from (by simp; omega)
    · rw [if_neg (fun e => hl e.2)] at h
      rw [if_neg hl]
      exact rel_put h

theorem globalP_deep {s s' : PS} {a : Int} (h : globalP T en s = .ok a s') : s'.deep = s.deep := by
  unfold globalP at h
  split at h
  · obtain ⟨t, s1, e1, h⟩ := Res.bind_eq_ok.1 h
    obtain ⟨rfl, i1⟩ := nameP_ok e1
    obtain ⟨u, s2, e2, h⟩ := Res.bind_eq_ok.1 h
    obtain ⟨rfl, i2⟩ := takeP_ok e2
    obtain ⟨rfl, _⟩ := putP_ok h
    simp [stepP]
  · obtain ⟨u, s2, e2, h⟩ := Res.bind_eq_ok.1 h
    obtain ⟨rfl, i2⟩ := takeP_ok e2
    obtain ⟨t, s1, e1, h⟩ := Res.bind_eq_ok.1 h
    obtain ⟨rfl, i1⟩ := nameP_ok e1
    repeat' split at h
    all_goals first
      | (obtain ⟨u, s3, e3, h⟩ := Res.bind_eq_ok.1 h
         obtain ⟨rfl, i3⟩ := takeP_ok e3
         obtain ⟨rfl, _⟩ := putP_ok h
         simp [stepP])
      | simp [failP] at h


theorem rel_progG (hT : TokOk T) (n : Nat) : ∀ (kids : List Int) (p : PS) (a : Int) (s' : RS), p.i ≤ T.length → 0 ≤ p.deep → p.deep ≤ 20 → progGR T en n kids (ofPS p) = some (a, s') → Rel T 3 p (progG T en n kids p) a s' := by
  induction n with
  | zero => intro kids p a s' _ _ _ h; cases h
  | succ n ih =>
    intro kids p a s' hi h1 h2 h
    unfold progGR at h
    unfold progG
    rw [isR_of, isR_of] at h
    cases hq : isP T [(⟨#[105, 110, 116]⟩ : ByteArray), (⟨#[108, 111, 99, 107]⟩ : ByteArray)] p with
    | true =>
      have hc : (isP T [(⟨#[105, 110, 116]⟩ : ByteArray)] p || isP T [(⟨#[108, 111, 99, 107]⟩ : ByteArray)] p) = true := by
        rcases is_two _ _ hq with ⟨_, e⟩ | ⟨_, e⟩ <;> simp [e]
      rw [if_pos ⟨rfl, hc⟩] at h
      rw [if_pos rfl]
      refine rel_bind h (fun b s1 e => rel_global hi e) (fun b p2 e hg => ?_) (fun b s1 c q e F hg => ?_)
      · have A1 := globalP_ok e
        have A2 := globalP_few e
        have A3 := globalP_deep e
        exact (ih _ p2 a s' A1.1 (by omega) (by omega) hg).from (by omega)
      · exact F.after (progGR_failed F.failed hg) (by omega)
    | false =>
      obtain ⟨e1, e2⟩ := is_two_no _ _ hq
      rw [e1, e2, if_neg (by simp)] at h
      rw [if_neg (by decide)]
      exact rel_progT hT n kids p a s' hi h1 h2 h

end

end Go.Proofs.YtaklephcgepfjaaGreatDoor

/- Plain Lean: the lexer's tokens; rounds enough for the reference's parser. -/
namespace Go.Proofs.YtaklephcgepfjaaGreatDoor

theorem scanR_tok (s : ByteArray) : ∀ (n i : Nat) (acc l : List Tk), TokOk acc → scanR s n i acc = .ok l → TokOk l := by
  intro n
  induction n with
  | zero => intro i acc l _ h; cases h
  | succ n ih =>
    intro i acc l hn h
    cases hb : (skipR s false i).2 with
    | true => rw [scanR_bad hb] at h; cases h
    | false =>
      rw [scanR_good hb] at h
      unfold scanH at h
      split at h
      · cases ht : tokenR s (skipR s false i).1 with
        | ok t k =>
          rw [ht] at h
          refine ih k _ l ?_ h
          intro u hu
          rcases List.mem_append.1 hu with hu | hu
          · exact hn u hu
          · simp at hu; subst hu; exact tokenR_kind ht
        | bad c => rw [ht] at h; cases h
      · injection h with h; subst h
        exact hn

theorem lexP_tok {s : ByteArray} {l : List Tk} (h : lexP s = .ok l) : TokOk l := by
  unfold lexP at h
  split at h
  · cases h
  · exact scanR_tok s _ 0 [] l (fun t ht => by cases ht) h

/-- Rounds wanted behind a fault. -/
def Nt.fr : Nt → Nat
  | .expr k => 7 - k
  | .exprL _ _ => 1
  | .unary => 1
  | .held => 8
  | .block => 2
  | .blockL _ _ => 1
  | .stmt => 8

section
variable {T : List Tk} {en : Int}

theorem bindR_some' {r : Option (Int × RS)} {g : Int → RS → Option (Int × RS)} (hr : ∃ b s1, r = some (b, s1)) (hg : ∀ b s1, r = some (b, s1) → ∃ a s', g b s1 = some (a, s')) : ∃ a s', bindR r g = some (a, s') := by
  obtain ⟨b, s1, e⟩ := hr
  obtain ⟨a, s', e2⟩ := hg b s1 e
  exact ⟨a, s', by rw [e]; exact e2⟩

theorem some_failed (n : Nat) : ∀ (nt : Nt) (s : RS), Failed T s → nt.fr ≤ n → (∀ k, nt = .expr k → k ≤ 5) → ∃ a s', runR T en n nt s = some (a, s') := by
  induction n with
  | zero =>
    intro nt s _ h h4
    cases nt <;> simp only [Nt.fr] at h <;> first | omega | (rename_i k; have := h4 k rfl; omega)
  | succ n ih =>
    intro nt s f h h4
    cases nt with
    | expr k =>
      have hk := h4 k rfl
      simp only [Nt.fr] at h
      unfold runR
      split
      · exact ih .unary s f (by simp only [Nt.fr]; omega) (by simp)
      · refine bindR_some' (ih _ s f (by simp only [Nt.fr]; omega) (by intro k' e; injection e; omega)) (fun b s1 e => ?_)
        exact ih _ s1 ((runR_failed _ _ _ _ _ f e).failed f) (by simp only [Nt.fr]; omega) (by simp)
    | exprL k left =>
      unfold runR
      rw [if_neg (fun e => f.f e.1)]
      exact ⟨_, _, rfl⟩
    | unary =>
      unfold runR
      rw [f.is, f.is, f.is, f.kind, if_neg (by decide), if_neg (by decide), if_neg (by decide)]
      exact ⟨_, _, rfl⟩
    | held =>
      simp only [Nt.fr] at h
      unfold runR
      refine bindR_some' (ih _ _ ((f.open' _).failed f) (by simp only [Nt.fr]; omega) (by intro k' e; injection e; omega)) (fun b s1 e => ⟨_, _, rfl⟩)
    | block =>
      simp only [Nt.fr] at h
      unfold runR
      exact ih _ _ ((f.open' _).failed f) (by simp only [Nt.fr]; omega) (by simp)
    | blockL pos kids =>
      unfold runR
      rw [if_pos (.inl f.f)]
      exact ⟨_, _, rfl⟩
    | stmt =>
      simp only [Nt.fr] at h
      unfold runR
      dsimp only
      rw [f.word, if_neg (by decide), if_neg (by decide), if_neg (by decide), if_neg (by decide), if_neg (by decide), if_neg (by decide)]
      unfold assignR
      dsimp only
      rw [f.name, f.take, f.is, if_neg (by decide)]
      exact bindR_some' (ih _ _ f (by simp only [Nt.fr]; omega) (by intro k' e; injection e; omega)) (fun b s1 e => ⟨_, _, rfl⟩)

end

end Go.Proofs.YtaklephcgepfjaaGreatDoor
