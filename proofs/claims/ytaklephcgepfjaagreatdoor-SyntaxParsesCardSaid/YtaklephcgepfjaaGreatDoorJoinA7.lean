/- For every text: SyntaxParses returns true; the text reads as it did; memory that was there is as it was. No condition on the text; the variables listed hold what the program's text lays (tied). -/
import Derived.Test.YtaklephcgepfjaaGreatDoorJoinA1
import Derived.Test.YtaklephcgepfjaaGreatDoorJoinA2
import Derived.Test.YtaklephcgepfjaaGreatDoorJoinA6
import Derived.Test.YtaklephcgepfjaaGreatDoorRows
import Derived.Test.YtaklephcgepfjaaGreatDoorCards
import Derived.Test.YtaklephcgepfjaaGreatDoorTie
import Derived.Deep.LoopGhost
import Derived.Deep.Cut
import Derived.ProofKit
import Derived.LaidMore
import Derived.OpenShut
import Derived.Stop.Joined
import Derived.SevenTiedAt
set_option linter.unusedVariables false
set_option linter.unusedSimpArgs false
set_option linter.all false

namespace Go.Proofs.YtaklephcgepfjaaGreatDoor

inductive Tr where
  | node (kind num pos : Int) (text : ByteArray) (kids : List Tr)

namespace Tr
def kind : Tr → Int | .node k _ _ _ _ => k
def num : Tr → Int | .node _ n _ _ _ => n
def pos : Tr → Int | .node _ _ p _ _ => p
def text : Tr → ByteArray | .node _ _ _ x _ => x
def kids : Tr → List Tr | .node _ _ _ _ l => l
end Tr

mutual
def Tr.size : Tr → Nat
  | .node _ _ _ _ l => sizes l + 1
def sizes : List Tr → Nat
  | [] => 0
  | t :: r => t.size + sizes r
end

theorem Tr.size_pos (t : Tr) : 0 < t.size := by cases t; simp [Tr.size]

/-- The kids' numbers, the first one's nodes beginning at o. -/
def roots : Nat → List Tr → List Int
  | _, [] => []
  | o, t :: r => ((o + t.size - 1 : Nat) : Int) :: roots (o + t.size) r

mutual
def Tr.flat : Tr → Nat → List Nd
  | .node k n p x l, o => flats l o ++ [⟨k, n, p, x, roots o l⟩]
def flats : List Tr → Nat → List Nd
  | [], _ => []
  | t :: r, o => t.flat o ++ flats r (o + t.size)
end

mutual
theorem Tr.flat_length : ∀ (t : Tr) (o : Nat), (t.flat o).length = t.size
  | .node k n p x l, o => by simp [Tr.flat, Tr.size, flats_length l o]
theorem flats_length : ∀ (l : List Tr) (o : Nat), (flats l o).length = sizes l
  | [], _ => rfl
  | t :: r, o => by simp [flats, sizes, Tr.flat_length t o, flats_length r]
end

theorem sizes_append : ∀ (l r : List Tr), sizes (l ++ r) = sizes l + sizes r
  | [], r => by simp [sizes]
  | t :: l, r => by simp [sizes, sizes_append l r]; omega

theorem flats_append : ∀ (l r : List Tr) (o : Nat), flats (l ++ r) o = flats l o ++ flats r (o + sizes l)
  | [], r, o => by simp [flats, sizes]
  | t :: l, r, o => by simp [flats, sizes, flats_append l r, Nat.add_assoc]

theorem roots_append : ∀ (l r : List Tr) (o : Nat), roots o (l ++ r) = roots o l ++ roots (o + sizes l) r
  | [], r, o => by simp [roots, sizes]
  | t :: l, r, o => by simp [roots, sizes, roots_append l r, Nat.add_assoc]

theorem roots_length : ∀ (l : List Tr) (o : Nat), (roots o l).length = l.length
  | [], _ => rfl
  | t :: l, o => by simp [roots, roots_length l]

theorem length_le_sizes : ∀ (l : List Tr), l.length ≤ sizes l
  | [] => Nat.le_refl _
  | t :: l => by have := t.size_pos; have := length_le_sizes l; simp [sizes]; omega

def Tr.root (t : Tr) (o : Nat) : Int := ((o + t.size - 1 : Nat) : Int)

mutual
theorem Tr.kids_few : ∀ (t : Tr) (o : Nat) (n : Nd), n ∈ t.flat o → n.kids.length ≤ t.size
  | .node k m p x l, o, n, h => by
    simp only [Tr.flat, List.mem_append, List.mem_singleton] at h
    rcases h with h | rfl
    · have := kids_fews l o n h
      simp [Tr.size]; omega
    · have := length_le_sizes l
      simp [roots_length, Tr.size]; omega
theorem kids_fews : ∀ (l : List Tr) (o : Nat) (n : Nd), n ∈ flats l o → n.kids.length ≤ sizes l
  | [], o, n, h => by simp [flats] at h
  | t :: r, o, n, h => by
    simp only [flats, List.mem_append] at h
    rcases h with h | h
    · have := Tr.kids_few t o n h
      simp [sizes]; omega
    · have := kids_fews r _ n h
      simp [sizes]; omega
end

/-! The grammar. -/

/-- A name, a number of the tokens. -/
def NameT (T : List Tk) (x : ByteArray) : Prop := ∃ t ∈ T, t.kind = 1 ∧ t.text = x
def NumT (T : List Tk) (n : Int) : Prop := ∃ t ∈ T, t.kind = 3 ∧ t.num = n

/-- How tight a sign binds. -/
def levB (x : ByteArray) : Nat := levelsP.findIdx (memB x)
/-- How tight a tree binds. -/
def Tr.lev (t : Tr) : Nat := if t.kind = 19 then levB t.text else 5

inductive IsEx (T : List Tk) : Tr → Prop where
  | num (n p : Int) : NumT T n → IsEx T (.node 15 n p ByteArray.empty [])
  | name (p : Int) (x : ByteArray) : NameT T x → IsEx T (.node 16 0 p x [])
  | un (k p : Int) (e : Tr) : k = 17 ∨ k = 18 → IsEx T e → IsEx T (.node k 0 p ByteArray.empty [e])
  | bin (p : Int) (x : ByteArray) (a b : Tr) : levB x < 5 → IsEx T a → IsEx T b → IsEx T (.node 19 0 p x [a, b])

mutual
inductive IsSt (T : List Tk) : Tr → Prop where
  | loc (p : Int) (x : ByteArray) (e : Tr) : NameT T x → IsEx T e → IsSt T (.node 6 0 p x [e])
  | asg (p : Int) (x : ByteArray) (e : Tr) : NameT T x → IsEx T e → IsSt T (.node 7 0 p x [e])
  | cas (p q : Int) (x y : ByteArray) (a b : Tr) : NameT T x → NameT T y → IsEx T a → IsEx T b → IsSt T (.node 8 0 p x [.node 16 0 q y [], a, b])
  | ifs (p : Int) (e b : Tr) : IsEx T e → IsBk T b → IsSt T (.node 9 0 p ByteArray.empty [e, b])
  | ife (p : Int) (e b c : Tr) : IsEx T e → IsBk T b → IsBk T c → IsSt T (.node 9 0 p ByteArray.empty [e, b, c])
  | whl (p : Int) (e b : Tr) : IsEx T e → IsBk T b → IsSt T (.node 10 0 p ByteArray.empty [e, b])
  | prt (p : Int) (e : Tr) : IsEx T e → IsSt T (.node 11 0 p ByteArray.empty [e])
  | lck (k p : Int) (x : ByteArray) : k = 12 ∨ k = 13 → NameT T x → IsSt T (.node k 0 p x [])
  | fen (p : Int) : IsSt T (.node 14 0 p ByteArray.empty [])
inductive IsBk (T : List Tk) : Tr → Prop where
  | mk (p : Int) (l : List Tr) : IsSts T l → IsBk T (.node 5 0 p ByteArray.empty l)
inductive IsSts (T : List Tk) : List Tr → Prop where
  | nil : IsSts T []
  | cons (t : Tr) (l : List Tr) : IsSt T t → IsSts T l → IsSts T (t :: l)
end

inductive IsGl (T : List Tk) : Tr → Prop where
  | int (p n : Int) (x : ByteArray) : NameT T x → (n = 0 ∨ NumT T n ∨ NumT T (-n)) → IsGl T (.node 2 n p x [])
  | lock (p : Int) (x : ByteArray) : NameT T x → IsGl T (.node 3 0 p x [])

inductive IsTh (T : List Tk) : Tr → Prop where
  | mk (p : Int) (b : Tr) : IsBk T b → IsTh T (.node 4 0 p ByteArray.empty [b])

/-- A program: globals, threads. -/
inductive IsPg (T : List Tk) : Tr → Prop where
  | mk (g h : List Tr) : (∀ t ∈ g, IsGl T t) → (∀ t ∈ h, IsTh T t) → IsPg T (.node 1 0 0 ByteArray.empty (g ++ h))

theorem IsSts.snoc {T : List Tk} {t : Tr} (ht : IsSt T t) : ∀ {l : List Tr}, IsSts T l → IsSts T (l ++ [t])
  | _, .nil => .cons t [] ht .nil
  | _, .cons u l hu hl => .cons u _ hu (IsSts.snoc ht hl)

/-- The kids given. -/
def Nt.pre (T : List Tk) (pre : List Nd) (s : PS) : Nt → List Tr → Prop
  | .expr _, G | .unary, G | .held, G | .block, G | .stmt, G => G = []
  | .exprL _ left, G => ∃ t, G = [t] ∧ left = t.root pre.length ∧ IsEx T t
  | .blockL _ kids, G => kids = roots pre.length G ∧ IsSts T G

def Nt.post (T : List Tk) (t : Tr) : Nt → Prop
  | .expr _ | .unary | .held | .exprL _ _ => IsEx T t
  | .block | .blockL _ _ => IsBk T t
  | .stmt => IsSt T t

section
variable {T : List Tk} {en : Int}

theorem tok_memT {s : PS} (h : s.i < T.length) : tokP T s ∈ T := by
  unfold tokP
  rw [List.getD_eq_getElem?_getD, List.getElem?_eq_getElem h]
  exact List.getElem_mem h

theorem kind_tok {s : PS} {k : Int} (h : kindP T k s = true) : tokP T s ∈ T ∧ (tokP T s).kind = k := by
  have hi := kindP_lt h
  refine ⟨tok_memT hi, ?_⟩
  unfold kindP at h
  unfold tokP
  rw [List.getD_eq_getElem?_getD]
  rw [List.getElem?_eq_getElem hi] at h ⊢
  simpa using h

theorem nameP_name {s s' : PS} {a : Tk} (h : nameP T en s = .ok a s') : NameT T a.text := by
  unfold nameP at h
  split at h
  · rename_i hq
    injection h with h1 h2
    subst h1
    obtain ⟨h3, h4⟩ := kind_tok hq
    exact ⟨_, h3, h4, rfl⟩
  · simp [failP] at h

theorem isP_mem {l : List ByteArray} {s : PS} (h : isP T l s = true) : (tokP T s).text ∈ l := by
  have hi := isP_lt h
  unfold isP at h
  unfold tokP
  rw [List.getD_eq_getElem?_getD]
  rw [List.getElem?_eq_getElem hi] at h ⊢
  simp only [Bool.and_eq_true] at h
  exact (memB_iff _ _).1 h.2

theorem levB_lt {k : Nat} {x : ByteArray} (h : x ∈ levelsP.getD k []) : levB x < 5 := by
  have hk : k < 5 := by
    rcases Nat.lt_or_ge k 5 with h5 | h5
    · exact h5
    · have e : levelsP.getD k [] = [] := by
        rw [List.getD_eq_getElem?_getD, List.getElem?_eq_none (by simpa [levelsP] using h5)]; rfl
      rw [e] at h
      cases h
  show levelsP.findIdx (memB x) < levelsP.length
  refine List.findIdx_lt_length_of_exists ⟨levelsP.getD k [], ?_, (memB_iff _ _).2 h⟩
  rw [List.getD_eq_getElem?_getD, List.getElem?_eq_getElem (show k < levelsP.length from hk)]
  exact List.getElem_mem _

theorem node_lay {pre : List Nd} {k n p : Int} {x : ByteArray} {G : List Tr} {ns : List Nd} (h : ns = pre ++ flats G pre.length) :
    ns ++ [⟨k, n, p, x, roots pre.length G⟩] = pre ++ (Tr.node k n p x G).flat pre.length ∧ ((ns.length : Nat) : Int) = (Tr.node k n p x G).root pre.length := by
  subst h
  refine ⟨by simp [Tr.flat], ?_⟩
  simp [Tr.root, Tr.size, flats_length]

theorem roots_one (t : Tr) (o : Nat) : roots o [t] = [t.root o] := rfl
theorem flats_one (t : Tr) (o : Nat) : flats [t] o = t.flat o := by simp [flats]

end

end Go.Proofs.YtaklephcgepfjaaGreatDoor

/- Plain Lean: what the parser makes is a tree of the grammar. -/
namespace Go.Proofs.YtaklephcgepfjaaGreatDoor

section
variable {T : List Tk} {en : Int}

/-- What a run makes: t behind what was there. -/
def Made (pre : List Nd) (r : Int) (s' : PS) (t : Tr) : Prop := s'.nodes = pre ++ t.flat pre.length ∧ r = t.root pre.length

theorem Made.put {pre : List Nd} {G : List Tr} {k n p : Int} {x : ByteArray} {kids : List Int} {s s' : PS} {a : Int} (h : putP k p n x kids s = .ok a s') (hs : s.nodes = pre ++ flats G pre.length) (hk : kids = roots pre.length G) :
    Made pre a s' (.node k n p x G) := by
  obtain ⟨rfl, rfl⟩ := putP_ok h
  subst hk
  exact node_lay hs

theorem Made.flat1 {pre : List Nd} {r : Int} {s' : PS} {t : Tr} (h : Made pre r s' t) : s'.nodes = pre ++ flats [t] pre.length ∧ [r] = roots pre.length [t] := by
  rw [flats_one, roots_one, h.2]
  exact ⟨h.1, rfl⟩

/-- One more behind others. -/
theorem Made.more {pre : List Nd} {G : List Tr} {r : Int} {s s' : PS} {t : Tr} (hs : s.nodes = pre ++ flats G pre.length) (h : Made s.nodes r s' t) :
    s'.nodes = pre ++ flats (G ++ [t]) pre.length ∧ roots pre.length G ++ [r] = roots pre.length (G ++ [t]) := by
  obtain ⟨h1, h2⟩ := h
  rw [hs] at h1 h2
  simp only [List.length_append, flats_length] at h1 h2
  rw [flats_append, roots_append, flats_one, roots_one, h1, h2, List.append_assoc]
  exact ⟨rfl, rfl⟩

theorem runP_tree (n : Nat) : ∀ (nt : Nt) (pre : List Nd) (G : List Tr) (s : PS) (r : Int) (s' : PS), s.i ≤ T.length → s.nodes = pre ++ flats G pre.length → nt.pre T pre s G → runP T en n nt s = .ok r s' →
    ∃ t, Made pre r s' t ∧ nt.post T t := by
  induction n with
  | zero => intro nt pre G s r s' _ _ _ h; simp [runP] at h
  | succ n ih =>
    intro nt pre G s r s' hs hn hp h
    -- a piece that has nothing given
    have go : ∀ {nt : Nt} {s : PS} {r : Int} {s' : PS}, runP T en n nt s = .ok r s' → s.i ≤ T.length → nt.pre T s.nodes s [] → s'.i ≤ T.length ∧ ∃ t, Made s.nodes r s' t ∧ nt.post T t := fun {nt s r s'} h3 h1 h2 =>
      ⟨(runP_adv n nt s r s' h1 h3).top, ih nt s.nodes [] s r s' h1 (by simp [flats]) h2 h3⟩
    cases nt with
    | expr k =>
      have hG : G = [] := hp
      subst hG
      simp only [flats, List.append_nil] at hn
      subst hn
      simp only [runP] at h
      split at h
      · obtain ⟨_, t, h1, h2⟩ := go h hs rfl
        exact ⟨t, h1, h2⟩
      · obtain ⟨l, s1, h1, h2⟩ := Res.bind_eq_ok.1 h
        obtain ⟨i1, t, m1, m2⟩ := go h1 hs rfl
        obtain ⟨t2, q1, q2⟩ := ih (.exprL k l) s.nodes [t] _ _ _ i1 m1.flat1.1 ⟨t, rfl, m1.2, m2⟩ h2
        exact ⟨t2, q1, q2⟩
    | exprL k left =>
      obtain ⟨tl, rfl, hl, hex⟩ := hp
      simp only [runP] at h
      split at h
      · rename_i hq
        have hi := isP_lt hq
        obtain ⟨l, s1, h1, h2⟩ := Res.bind_eq_ok.1 h
        obtain ⟨m, s2, h3, h4⟩ := Res.bind_eq_ok.1 h2
        obtain ⟨i1, t, m1, m2⟩ := go h1 (by simp only [stepP]; omega) rfl
        obtain ⟨e1, e2⟩ := Made.more (s := stepP s) (G := [tl]) hn m1
        have M := Made.put (G := [tl, t]) h3 e1 (by rw [hl]; exact e2)
        have is2 : s2.i ≤ T.length := by obtain ⟨rfl, rfl⟩ := putP_ok h3; exact i1
        obtain ⟨t2, q1, q2⟩ := ih (.exprL k m) pre [_] _ _ _ is2 M.flat1.1 ⟨_, rfl, M.2, .bin _ _ _ _ (levB_lt (isP_mem hq)) hex m2⟩ h4
        exact ⟨t2, q1, q2⟩
      · injection h with h1 h2
        subst h1 h2
        exact ⟨tl, ⟨by rw [hn, flats_one], hl⟩, hex⟩
    | unary =>
      have hG : G = [] := hp
      subst hG
      simp only [flats, List.append_nil] at hn
      subst hn
      simp only [runP] at h
      split at h
      · obtain ⟨l, s1, h1, h2⟩ := Res.bind_eq_ok.1 h
        obtain ⟨m, s2, h3, h4⟩ := Res.bind_eq_ok.1 h2
        obtain ⟨rfl, hi, hd⟩ := openP_ok h1
        obtain ⟨i1, t, m1, m2⟩ := go h3 (by simp only [stepP]; omega) rfl
        have M := Made.put (pre := s.nodes) (G := [t]) h4 m1.flat1.1 m1.flat1.2
        exact ⟨_, M, .un _ _ _ (by split <;> simp) m2⟩
      · split at h
        · obtain ⟨_, t, h1, h2⟩ := go h hs rfl
          exact ⟨t, h1, h2⟩
        · split at h
          · rename_i hq
            exact ⟨_, Made.put (pre := s.nodes) (G := []) h (by simp [flats, stepP]) rfl, .num _ _ ⟨_, (kind_tok hq).1, (kind_tok hq).2, rfl⟩⟩
          · obtain ⟨l, s1, h1, h2⟩ := Res.bind_eq_ok.1 h
            have hnm := nameP_name h1
            obtain ⟨rfl, hi⟩ := nameP_ok h1
            exact ⟨_, Made.put (pre := s.nodes) (G := []) h2 (by simp [flats, stepP]) rfl, .name _ _ hnm⟩
    | held =>
      have hG : G = [] := hp
      subst hG
      simp only [flats, List.append_nil] at hn
      subst hn
      simp only [runP] at h
      obtain ⟨l, s1, h1, h2⟩ := Res.bind_eq_ok.1 h
      obtain ⟨m, s2, h3, h4⟩ := Res.bind_eq_ok.1 h2
      obtain ⟨o, s3, h5, h6⟩ := Res.bind_eq_ok.1 h4
      obtain ⟨rfl, hi, hd⟩ := openP_ok h1
      obtain ⟨i1, t, m1, m2⟩ := go h3 (by simp only [stepP]; omega) rfl
      obtain ⟨rfl, hj⟩ := shutP_ok h5
      injection h6 with h7 h8
      subst h7 h8
      exact ⟨t, m1, m2⟩
    | block =>
      have hG : G = [] := hp
      subst hG
      simp only [flats, List.append_nil] at hn
      subst hn
      simp only [runP] at h
      obtain ⟨l, s1, h1, h2⟩ := Res.bind_eq_ok.1 h
      obtain ⟨rfl, hi, hd⟩ := openP_ok h1
      obtain ⟨t, m1, m2⟩ := ih (.blockL l []) s.nodes [] _ _ _ (by simp only [stepP]; omega) (by simp [flats, stepP]) ⟨rfl, .nil⟩ h2
      exact ⟨t, m1, m2⟩
    | blockL pos kids =>
      obtain ⟨hk, hst⟩ := hp
      simp only [runP] at h
      split at h
      · obtain ⟨l, s1, h1, h2⟩ := Res.bind_eq_ok.1 h
        obtain ⟨rfl, hi⟩ := shutP_ok h1
        exact ⟨_, Made.put (G := G) h2 hn hk, .mk _ _ hst⟩
      · obtain ⟨l, s1, h1, h2⟩ := Res.bind_eq_ok.1 h
        obtain ⟨i1, t, m1, m2⟩ := go h1 hs rfl
        obtain ⟨e1, e2⟩ := Made.more hn m1
        obtain ⟨t2, q1, q2⟩ := ih (.blockL pos (kids ++ [l])) pre (G ++ [t]) _ _ _ i1 e1 ⟨by rw [hk, e2], hst.snoc m2⟩ h2
        exact ⟨t2, q1, q2⟩
    | stmt =>
      have hG : G = [] := hp
      subst hG
      simp only [flats, List.append_nil] at hn
      subst hn
      simp only [runP] at h
      split at h
      · rename_i hq
        have hi := isP_lt hq
        obtain ⟨t, s1, h1, h⟩ := Res.bind_eq_ok.1 h
        obtain ⟨_, s2, h2, h⟩ := Res.bind_eq_ok.1 h
        obtain ⟨k, s3, h3, h⟩ := Res.bind_eq_ok.1 h
        obtain ⟨_, s4, h4, h⟩ := Res.bind_eq_ok.1 h
        have hnm := nameP_name h1
        obtain ⟨rfl, g1⟩ := nameP_ok h1
        obtain ⟨rfl, g2⟩ := takeP_ok h2
        obtain ⟨i1, e, m1, m2⟩ := go h3 (by simp only [stepP] at *; omega) rfl
        obtain ⟨rfl, g4⟩ := takeP_ok h4
        exact ⟨_, Made.put (pre := s.nodes) (G := [e]) h m1.flat1.1 m1.flat1.2, .loc _ _ _ hnm m2⟩
      split at h
      · rename_i hq0 hq
        have hi := isP_lt hq
        obtain ⟨k, s1, h1, h⟩ := Res.bind_eq_ok.1 h
        obtain ⟨b, s2, h2, h⟩ := Res.bind_eq_ok.1 h
        obtain ⟨i1, e, m1, m2⟩ := go h1 (by simp only [stepP] at *; omega) rfl
        obtain ⟨i2, tb, n1, n2⟩ := go h2 i1 rfl
        obtain ⟨e1, e2⟩ := Made.more (G := [e]) m1.flat1.1 n1
        rw [← m1.flat1.2] at e2
        split at h
        · rename_i hq2
          have hi2 := isP_lt hq2
          obtain ⟨c, s3, h3, h⟩ := Res.bind_eq_ok.1 h
          obtain ⟨i3, tc, o1, o2⟩ := go h3 (by simp only [stepP] at *; omega) rfl
          obtain ⟨f1, f2⟩ := Made.more (s := stepP s2) (G := [e, tb]) e1 o1
          exact ⟨_, Made.put (pre := s.nodes) (G := [e, tb, tc]) h f1 (by have f3 : roots s.nodes.length [e, tb] ++ [c] = roots s.nodes.length [e, tb, tc] := f2; rw [show roots s.nodes.length [e, tb] = [k, b] from e2.symm] at f3; exact f3), .ife _ _ _ _ m2 n2 o2⟩
        · exact ⟨_, Made.put (pre := s.nodes) (G := [e, tb]) h e1 (by exact e2), .ifs _ _ _ m2 n2⟩
      split at h
      · rename_i hq0 hq1 hq
        have hi := isP_lt hq
        obtain ⟨k, s1, h1, h⟩ := Res.bind_eq_ok.1 h
        obtain ⟨b, s2, h2, h⟩ := Res.bind_eq_ok.1 h
        obtain ⟨i1, e, m1, m2⟩ := go h1 (by simp only [stepP] at *; omega) rfl
        obtain ⟨i2, tb, n1, n2⟩ := go h2 i1 rfl
        obtain ⟨e1, e2⟩ := Made.more (G := [e]) m1.flat1.1 n1
        rw [← m1.flat1.2] at e2
        exact ⟨_, Made.put (pre := s.nodes) (G := [e, tb]) h e1 (by exact e2), .whl _ _ _ m2 n2⟩
      split at h
      · rename_i hq0 hq1 hq2 hq
        have hi := isP_lt hq
        obtain ⟨k, s1, h1, h⟩ := Res.bind_eq_ok.1 h
        obtain ⟨b, s2, h2, h⟩ := Res.bind_eq_ok.1 h
        obtain ⟨i1, e, m1, m2⟩ := go h1 (by simp only [stepP] at *; omega) rfl
        obtain ⟨rfl, g2⟩ := takeP_ok h2
        exact ⟨_, Made.put (pre := s.nodes) (G := [e]) h m1.flat1.1 m1.flat1.2, .prt _ _ m2⟩
      split at h
      · rename_i hq0 hq1 hq2 hq3 hq
        have hi := isP_lt hq
        obtain ⟨k, s1, h1, h⟩ := Res.bind_eq_ok.1 h
        obtain ⟨t, s2, h2, h⟩ := Res.bind_eq_ok.1 h
        obtain ⟨_, s3, h3, h⟩ := Res.bind_eq_ok.1 h
        obtain ⟨_, s4, h4, h⟩ := Res.bind_eq_ok.1 h
        obtain ⟨rfl, g1, g1'⟩ := openP_ok h1
        have hnm := nameP_name h2
        obtain ⟨rfl, g2⟩ := nameP_ok h2
        obtain ⟨rfl, g3⟩ := shutP_ok h3
        obtain ⟨rfl, g4⟩ := takeP_ok h4
        exact ⟨_, Made.put (pre := s.nodes) (G := []) h (by simp [flats, stepP]) rfl, .lck _ _ _ (by split <;> simp) hnm⟩
      split at h
      · rename_i hq0 hq1 hq2 hq3 hq4 hq
        have hi := isP_lt hq
        obtain ⟨k, s1, h1, h⟩ := Res.bind_eq_ok.1 h
        obtain ⟨rfl, g1⟩ := takeP_ok h1
        exact ⟨_, Made.put (pre := s.nodes) (G := []) h (by simp [flats, stepP]) rfl, .fen _⟩
      obtain ⟨t, s1, h1, h⟩ := Res.bind_eq_ok.1 h
      obtain ⟨_, s2, h2, h⟩ := Res.bind_eq_ok.1 h
      have hnm := nameP_name h1
      obtain ⟨rfl, g1⟩ := nameP_ok h1
      obtain ⟨rfl, g2⟩ := takeP_ok h2
      split at h
      · rename_i hq
        have hi := isP_lt hq
        obtain ⟨_, s3, h3, h⟩ := Res.bind_eq_ok.1 h
        obtain ⟨u, s4, h4, h⟩ := Res.bind_eq_ok.1 h
        obtain ⟨a, s5, h5, h⟩ := Res.bind_eq_ok.1 h
        obtain ⟨_, s6, h6, h⟩ := Res.bind_eq_ok.1 h
        obtain ⟨x, s7, h7, h⟩ := Res.bind_eq_ok.1 h
        obtain ⟨_, s8, h8, h⟩ := Res.bind_eq_ok.1 h
        obtain ⟨y, s9, h9, h⟩ := Res.bind_eq_ok.1 h
        obtain ⟨_, s10, h10, h⟩ := Res.bind_eq_ok.1 h
        obtain ⟨_, s11, h11, h⟩ := Res.bind_eq_ok.1 h
        have hnm2 := nameP_name h4
        obtain ⟨rfl, g3, g3'⟩ := openP_ok h3
        obtain ⟨rfl, g4⟩ := nameP_ok h4
        have M := Made.put (pre := s.nodes) (G := []) h5 (by simp [flats, stepP]) rfl
        obtain ⟨rfl, g6⟩ := takeP_ok h6
        have i5 : s5.i = s.i + 1 + 1 + 1 + 1 + 1 := by obtain ⟨rfl, rfl⟩ := putP_ok h5; rfl
        obtain ⟨i1, ta, m1, m2⟩ := go h7 (by simp only [stepP] at *; omega) rfl
        obtain ⟨e1, e2⟩ := Made.more (s := stepP s5) (G := [_]) M.flat1.1 m1
        rw [← M.flat1.2] at e2
        obtain ⟨rfl, g8⟩ := takeP_ok h8
        obtain ⟨i2, tb, n1, n2⟩ := go h9 (by simp only [stepP] at *; omega) rfl
        obtain ⟨f1, f2⟩ := Made.more (s := stepP s7) e1 n1
        rw [← e2] at f2
        obtain ⟨rfl, g10⟩ := shutP_ok h10
        obtain ⟨rfl, g11⟩ := takeP_ok h11
        exact ⟨_, Made.put (pre := s.nodes) h f1 f2, .cas _ _ _ _ _ _ hnm hnm2 m2 n2⟩
      · obtain ⟨k, s3, h3, h⟩ := Res.bind_eq_ok.1 h
        obtain ⟨_, s4, h4, h⟩ := Res.bind_eq_ok.1 h
        obtain ⟨i1, e, m1, m2⟩ := go h3 (by simp only [stepP] at *; omega) rfl
        obtain ⟨rfl, g4⟩ := takeP_ok h4
        exact ⟨_, Made.put (pre := s.nodes) (G := [e]) h m1.flat1.1 m1.flat1.2, .asg _ _ _ hnm m2⟩

theorem globalP_tree {s s' : PS} {a : Int} (h : globalP T en s = .ok a s') : ∃ t, Made s.nodes a s' t ∧ IsGl T t := by
  unfold globalP at h
  split at h
  · obtain ⟨t, s1, e1, h⟩ := Res.bind_eq_ok.1 h
    have hnm := nameP_name e1
    obtain ⟨rfl, i1⟩ := nameP_ok e1
    obtain ⟨u, s2, e2, h⟩ := Res.bind_eq_ok.1 h
    obtain ⟨rfl, i2⟩ := takeP_ok e2
    exact ⟨_, Made.put (pre := s.nodes) (G := []) h (by simp [flats, stepP]) rfl, .lock _ _ hnm⟩
  · obtain ⟨u, s2, e2, h⟩ := Res.bind_eq_ok.1 h
    obtain ⟨rfl, i2⟩ := takeP_ok e2
    obtain ⟨t, s1, e1, h⟩ := Res.bind_eq_ok.1 h
    have hnm := nameP_name e1
    obtain ⟨rfl, i1⟩ := nameP_ok e1
    split at h
    · split at h
      · split at h
        · rename_i hk
          obtain ⟨u, s3, e3, h⟩ := Res.bind_eq_ok.1 h
          obtain ⟨rfl, i3⟩ := takeP_ok e3
          exact ⟨_, Made.put (pre := s.nodes) (G := []) h (by simp [flats, stepP]) rfl, .int _ _ _ hnm (.inr (.inr ⟨_, (kind_tok hk).1, (kind_tok hk).2, (Int.neg_neg _).symm⟩))⟩
        · simp [failP] at h
      · split at h
        · rename_i hk
          obtain ⟨u, s3, e3, h⟩ := Res.bind_eq_ok.1 h
          obtain ⟨rfl, i3⟩ := takeP_ok e3
          exact ⟨_, Made.put (pre := s.nodes) (G := []) h (by simp [flats, stepP]) rfl, .int _ _ _ hnm (.inr (.inl ⟨_, (kind_tok hk).1, (kind_tok hk).2, rfl⟩))⟩
        · simp [failP] at h
    · obtain ⟨u, s3, e3, h⟩ := Res.bind_eq_ok.1 h
      obtain ⟨rfl, i3⟩ := takeP_ok e3
      exact ⟨_, Made.put (pre := s.nodes) (G := []) h (by simp [flats, stepP]) rfl, .int _ _ _ hnm (.inl rfl)⟩

theorem progT_tree (n : Nat) : ∀ (kids : List Int) (g h : List Tr) (s : PS) (a : Int) (s' : PS), s.i ≤ T.length → s.nodes = flats (g ++ h) 0 → kids = roots 0 (g ++ h) → (∀ t ∈ g, IsGl T t) → (∀ t ∈ h, IsTh T t) → progT T en n kids s = .ok a s' →
    ∃ t, s'.nodes = t.flat 0 ∧ IsPg T t := by
  induction n with
  | zero => intro kids g h s a s' _ _ _ _ _ e; cases e
  | succ n ih =>
    intro kids g h s a s' hs hn hk hg hh e
    unfold progT at e
    split at e
    · obtain ⟨p, s1, e1, e⟩ := Res.bind_eq_ok.1 e
      obtain ⟨rfl, i1⟩ := takeP_ok e1
      obtain ⟨b, s2, e2, e⟩ := Res.bind_eq_ok.1 e
      obtain ⟨k, s3, e3, e⟩ := Res.bind_eq_ok.1 e
      have i2 : (stepP s).i ≤ T.length := by simp only [stepP]; omega
      obtain ⟨tb, m1, m2⟩ := runP_tree n .block (stepP s).nodes [] (stepP s) b s2 i2 (by simp [flats]) rfl e2
      have M := Made.put (pre := s.nodes) (G := [tb]) e3 m1.flat1.1 m1.flat1.2
      obtain ⟨f1, f2⟩ := Made.more (pre := []) (G := g ++ h) (s := s) (by simpa using hn) M
      have i3 : s3.i ≤ T.length := by
        have := (runP_adv n .block _ _ _ i2 e2).top
        obtain ⟨rfl, rfl⟩ := putP_ok e3
        exact this
      refine ih _ g (h ++ [_]) s3 a s' i3 (by rw [← List.append_assoc]; simpa using f1) (by rw [← List.append_assoc, hk]; simpa using f2) hg (fun t ht => ?_) e
      rcases List.mem_append.1 ht with ht | ht
      · exact hh t ht
      · rw [List.mem_singleton] at ht
        subst ht
        exact .mk _ _ m2
    · have M := Made.put (pre := []) (G := g ++ h) e (by simpa using hn) hk
      exact ⟨_, by simpa using M.1, .mk g h hg hh⟩

theorem progG_tree (n : Nat) : ∀ (kids : List Int) (g : List Tr) (s : PS) (a : Int) (s' : PS), s.i ≤ T.length → s.nodes = flats g 0 → kids = roots 0 g → (∀ t ∈ g, IsGl T t) → progG T en n kids s = .ok a s' →
    ∃ t, s'.nodes = t.flat 0 ∧ IsPg T t := by
  induction n with
  | zero => intro kids g s a s' _ _ _ _ e; cases e
  | succ n ih =>
    intro kids g s a s' hs hn hk hg e
    unfold progG at e
    split at e
    · obtain ⟨k, s1, e1, e⟩ := Res.bind_eq_ok.1 e
      have A := globalP_ok e1
      obtain ⟨t, m1, m2⟩ := globalP_tree e1
      obtain ⟨f1, f2⟩ := Made.more (pre := []) (G := g) (s := s) (by simpa using hn) m1
      refine ih _ (g ++ [t]) s1 a s' A.1 (by simpa using f1) (by rw [hk]; simpa using f2) (fun u hu => ?_) e
      rcases List.mem_append.1 hu with hu | hu
      · exact hg u hu
      · rw [List.mem_singleton] at hu
        subst hu
        exact m2
    · exact progT_tree n kids g [] s a s' hs (by simpa using hn) (by simpa using hk) hg (fun t ht => by cases ht) e

/-- What is parsed is a tree: a program, of at most 600 nodes. -/
theorem parseR_tree {s : ByteArray} {l : List Nd} (h : parseR s = .ok l) : ∃ T t, lexP s = .ok T ∧ l = t.flat 0 ∧ IsPg T t ∧ t.size ≤ 600 := by
  unfold parseR at h
  cases hl : lexP s with
  | ok T =>
    rw [hl] at h
    refine ⟨T, ?_⟩
    unfold progR at h
    dsimp only at h
    split at h
    · rename_i st hg
      split at h
      · cases h
      · injection h with h
        obtain ⟨t, h1, h2⟩ := progG_tree _ _ [] _ _ _ (Nat.zero_le _) (by simp [flats]) rfl (fun t ht => by cases ht) hg
        subst h
        exact ⟨t, rfl, h1, h2, by have := t.flat_length 0; rw [← h1] at this; omega⟩
    · cases h
    · cases h
  | bad c p => rw [hl] at h; cases h
  | out => rw [hl] at h; cases h

end

end Go.Proofs.YtaklephcgepfjaaGreatDoor

/- The reference's parser: Parse, walked. (Written by wip/tools/gen_ref21.py.) -/
namespace Go.Proofs.YtaklephcgepfjaaGreatDoor
open Go.RowKit

set_option maxRecDepth 100000 in
set_option maxHeartbeats 2000000 in
/-- where the lexer gives up -/
theorem rparse_bad (s : ByteArray) (w : World) (hm : s.size ≤ maxLen) (cd ps : Int) (hl : lexP s = .bad cd ps) :
    Calls Tryz.prog 8 #[.string s] w (ParsePost w (.bad cd ps)) := by
  have HCD : Hid (cd ≠ 0) := Lib.hid (lexP_code hl)
  have HSC := Lib.hid (fun W => rscan_c s W hm)
  rw [hl] at HSC
  clear hl hm
  go_enter Tryz.func8, Tryz.ntmps8
  go_upto_region 1 with (fail)
  refine wp_gen (fun W => Upd w NO W NO ∧ W.heap[w.heap.size]? = some (.cells #[.int .i64 0, .int .i64 0, .int .i64 0] 25 (0, 0))) ⟨(Upd.refl _ _).alloc _, blk_new rfl⟩ ?_
  obtain ⟨p3, hp3⟩ : ∃ p3, p3 = w.heap.size := ⟨_, rfl⟩
  have HP3 : Hid (w.heap.size ≤ p3) := Lib.hid (by omega)
  rw [← hp3]
  clear hp3
  rintro W ⟨hu, hb⟩
  have HU := Lib.hid hu; have HB := Lib.hid hb; clear hu hb
  go_wp2_with fail
  refine (HSC.out W).mono ?_
  rintro e W1 ⟨u1, h1⟩
  dsimp only at h1
  subst h1
  have HU1 := Lib.hid (HU.out.past u1 (fun _ h => h.elim)); have HB1 := Lib.hid (u1.keep HB.out id)
  clear u1 HU HB HSC
  go_upto_region 2 with (fail)
  refine wp_gen (fun W => Upd w NO W NO ∧ W.heap[p3]? = some (.cells #[.int .i64 0, .int .i64 0, .int .i64 0] 25 (0, 0)) ∧ W.heap[W1.heap.size]? = some (.cells #[.int .i64 cd, .int .i64 0, .int .i64 ps] 25 (0, 0))) ⟨HU1.out.alloc _, blk_alloc HB1.out, blk_new rfl⟩ ?_
  have HNE : Hid (p3 ≠ W1.heap.size) := Lib.hid (fun e => by have := lt_blk HB1.out; omega)
  obtain ⟨p5, hp5⟩ : ∃ p5, p5 = W1.heap.size := ⟨_, rfl⟩
  rw [← hp5] at HNE ⊢
  clear hp5 HU1 HB1
  rintro W2 ⟨hu, hb3, hb5⟩
  have HU := Lib.hid hu
  have a0 : W2.cell? ⟨p3, 0, none⟩ = some (.int .i64 0) := cell_blk hb3
  have a1 : W2.cell? ⟨p3, 1, none⟩ = some (.int .i64 0) := cell_blk hb3
  have a2 : W2.cell? ⟨p3, 2, none⟩ = some (.int .i64 0) := cell_blk hb3
  have af : ∀ o, W2.frozen? ⟨p3, o, none⟩ = false := fun o => free_blk hb3
  have b0 : W2.cell? ⟨p5, 0, none⟩ = some (.int .i64 cd) := cell_blk hb5
  have b1 : W2.cell? ⟨p5, 1, none⟩ = some (.int .i64 0) := cell_blk hb5
  have b2 : W2.cell? ⟨p5, 2, none⟩ = some (.int .i64 ps) := cell_blk hb5
  have hne : (cd != 0) = true := by simp [HCD.out]
  have HB3 := Lib.hid hb3
  clear hu hb3 hb5
  go_upto_region 3 with (fail)
  go_region
  refine rnorm (fun W => Upd w NO W NO ∧ W.heap[p3]? = some (.cells #[.int .i64 cd, .int .i64 0, .int .i64 ps] 25 (0, 0))) ⟨(((HU.out.setCell (a := ⟨p3, 0, none⟩) (.inr HP3.out) _).setCell (a := ⟨p3, 1, none⟩) (.inr HP3.out) _).setCell (a := ⟨p3, 2, none⟩) (.inr HP3.out) _).drew, by exact blk_setCell (blk_setCell (blk_setCell HB3.out _) _) _⟩ ?_
  clear a0 a1 a2 af b0 b1 b2 hne HB3 HU
  rintro W3 ⟨hu, hb⟩
  have HU := Lib.hid hu
  have a0 : W3.cell? ⟨p3, 0, none⟩ = some (.int .i64 cd) := cell_blk hb
  have a1 : W3.cell? ⟨p3, 1, none⟩ = some (.int .i64 0) := cell_blk hb
  have a2 : W3.cell? ⟨p3, 2, none⟩ = some (.int .i64 ps) := cell_blk hb
  clear hu hb
  go_wp2_with fail
  exact bodyPost_ret (v := .tuple #[.slice none 0 0, .agg #[.int .i64 cd, .int .i64 0, .int .i64 ps]]) (by simp [results, Tryz.results8, go_sem, a0, a1, a2]) rfl ⟨HU.out, rfl⟩

/-- The memory while the reference parses: its result's fault at p3, the parser's world W0. -/
structure RpW (w W0 : World) (X0 : Nat → Prop) (p3 bp : Nat) : Prop where
  u : Upd w NO W0 NO
  l : w.heap.size ≤ p3
  lt : p3 < bp
  b : W0.heap[p3]? = some (.cells #[.int .i64 0, .int .i64 0, .int .i64 0] 25 (0, 0))
  x0 : ∀ k, X0 k → bp ≤ k

/-- What the loops leave. -/
def PgEnd (W0 : World) (X0 : Nat → Prop) (bp : Nat) (la : Option Addr) (c : Nat) (T : List Tk) (en : Int) (a : Int) (s' : RS) (v : Value) (W : World) : Prop :=
  ∃ (kids : List Int) (s1 : RS) (X1 : Nat → Prop) (nv1 : Value), KidsAt W v kids ∧ (∀ g, v.ownBlock = some g → ¬ X1 g ∧ bp ≤ g ∧ W0.heap.size ≤ g) ∧ RP W X1 bp la c T en s1 nv1 ∧ Upd W0 X0 W X1 ∧ a = s1.nodes.length ∧ s' = nodeR ⟨1, 0, 0, ⟨#[]⟩, kids⟩ s1

set_option maxRecDepth 100000 in
set_option maxHeartbeats 4000000 in
theorem rparse_ok (s : ByteArray) (w : World) (hm : s.size ≤ maxLen) (T : List Tk) (hl : lexP s = .ok T) (n : Nat) (hn : n ≤ 1000000) (a : Int) (s' : RS) (hq : progGR T s.size n [] ⟨0, 0, [], 0, 0⟩ = some (a, s')) (hb : s'.nodes.length ≤ 1000000) :
    Calls Tryz.prog 8 #[.string s] w (ParsePost w (finR s.size s')) := by
  have HLX := Lib.hid (lexP_ok hl)
  have HSC := Lib.hid (fun W => rscan_c s W hm)
  rw [hl] at HSC
  have HQ := Lib.hid hq; have HBD := Lib.hid hb; have HN := Lib.hid hn
  clear hl hm hq hb hn
  have hlen : T.length ≤ 5000 := by have := HLX.out.2.1; omega
  have hnum : ∀ t ∈ T, 0 ≤ t.num ∧ t.num ≤ 999999999 := fun t ht => by have := HLX.out.2.2 t ht; omega
  have HLN := Lib.hid hlen; have HNM := Lib.hid hnum
  clear hlen hnum
  have hsz : s.size ≤ 4000 := HLX.out.1
  go_enter Tryz.func8, Tryz.ntmps8
  go_upto_region 1 with (fail)
  refine wp_gen (fun W => Upd w NO W NO ∧ W.heap[w.heap.size]? = some (.cells #[.int .i64 0, .int .i64 0, .int .i64 0] 25 (0, 0))) ⟨(Upd.refl _ _).alloc _, blk_new rfl⟩ ?_
  obtain ⟨p3, hp3⟩ : ∃ p3, p3 = w.heap.size := ⟨_, rfl⟩
  have HP3 : Hid (w.heap.size ≤ p3) := Lib.hid (by omega)
  rw [← hp3]
  clear hp3
  rintro W ⟨hu, hb⟩
  have HU := Lib.hid hu; have HB := Lib.hid hb; clear hu hb
  go_wp2_with fail
  refine (HSC.out W).mono ?_
  rintro e W1 ⟨u1, lv, h1, ho, hfr⟩
  subst h1
  obtain ⟨la, c, rfl⟩ := slice_of_row ho
  have HU1 := Lib.hid (HU.out.past u1 (fun _ h => h.elim)); have HB1 := Lib.hid (u1.keep HB.out id)
  have HO := Lib.hid ho
  clear u1 HU HB HSC ho hfr
  go_upto_region 2 with (fail)
  refine wp_gen (fun W => Upd w NO W NO ∧ W.heap[p3]? = some (.cells #[.int .i64 0, .int .i64 0, .int .i64 0] 25 (0, 0)) ∧ W.heap[W1.heap.size]? = some (.cells #[.int .i64 0, .int .i64 0, .int .i64 0] 25 (0, 0)) ∧ TokOwn W (.slice la T.length c) T) ⟨HU1.out.alloc _, blk_alloc HB1.out, blk_new rfl, ((Upd.refl _ NO).alloc _).ownsRow HO.out (fun _ _ => id)⟩ ?_
  obtain ⟨p5, hp5⟩ : ∃ p5, p5 = W1.heap.size := ⟨_, rfl⟩
  rw [← hp5]
  clear hp5 HU1 HB1 HO
  rintro W2 ⟨hu, hb3, hb5, ho⟩
  have HU := Lib.hid hu; have HB3 := Lib.hid hb3
  have b0 : W2.cell? ⟨p5, 0, none⟩ = some (.int .i64 0) := cell_blk hb5
  have HP : Hid (RP (W2.alloc (.cells #[.slice la T.length c, .int .i64 s.size, .int .i64 0, .int .i64 0, .slice none 0 0, .int .i64 0, .int .i64 0, .int .i64 0] 52)) (fun k => k = W2.heap.size) W2.heap.size la c T s.size ⟨0, 0, [], 0, 0⟩ (.slice none 0 0)) :=
    Lib.hid (RP.made (ho.row (fun g hg => (ho.lt g hg).2)).2)
  have HRW : Hid (RpW w (W2.alloc (.cells #[.slice la T.length c, .int .i64 s.size, .int .i64 0, .int .i64 0, .slice none 0 0, .int .i64 0, .int .i64 0, .int .i64 0] 52)) (fun k => k = W2.heap.size) p3 W2.heap.size) :=
    Lib.hid ⟨HU.out.alloc _, HP3.out, lt_blk HB3.out, blk_alloc HB3.out, fun k hk => by have : k = W2.heap.size := hk; omega⟩
  clear hu hb3 hb5 ho HU HB3 HP3
  as_aux_lemma =>
  go_upto_region 5 with (fail)
  obtain ⟨bp, hbp⟩ : ∃ bp, bp = W2.heap.size := ⟨_, rfl⟩
  rw [← hbp] at HP HRW ⊢
  clear hbp
  refine wp_gen (fun W => RP W (fun k => k = bp) bp la c T s.size ⟨0, 0, [], 0, 0⟩ (.slice none 0 0) ∧ RpW w W (fun k => k = bp) p3 bp) ⟨HP.out, HRW.out⟩ ?_
  clear b0 HP HRW
  rintro W0 ⟨hp, hrw⟩
  have HRW := Lib.hid hrw
  have HI : Hid (PgInv W0 (fun k => k = bp) bp la c T s.size (progGR T s.size) n a s' n (.slice none 0 0) W0) := Lib.hid ⟨[], _, _, _, World.ownsRow_nil _ _ _ _, fun g hg => by simp [Value.ownBlock] at hg, by simp, hp, Upd.refl _ _, HQ.out⟩
  clear hp hrw HQ
  have HGC := Lib.hid (rglobal_c (bp := bp) (la := la) (c := c) (en := s.size) HLN.out HNM.out)
  have HRB := Lib.hid (fun m (hm : m ≤ n) => (rready (bp := bp) (la := la) (c := c) (T := T) (en := s.size) HLN.out HNM.out n HN.out m hm).block)
  obtain ⟨i0, hi0, hz0, hz1, hz2⟩ := info_parts Tryz.infoI
  have HI0 := Lib.hid (And.intro hi0 (And.intro hz0 (And.intro hz1 hz2))); clear hi0 hz0 hz1 hz2
  go_upto_block 0 with (fail)
  go_cut [7] from 28 to 50 (fun v wx => ∃ m, m ≤ n ∧ PgInv W0 (fun k => k = bp) bp la c T s.size (progTR T s.size) n a s' m v wx)
  case first =>
    go_wp2_with fail
    go_loopg [7] n (fun m v wr => PgInv W0 (fun k => k = bp) bp la c T s.size (progGR T s.size) n a s' m v wr)
    case atStart => exact HI.out
    case round =>
      clear HI
      obtain ⟨kids, s1, X1, nv1, hk, hkx, hkm, h, u, hq⟩ := hrel
      obtain ⟨ka, kc, hv⟩ := slice_of_row hk
      subst hv
      have HP := Lib.hid h; have HU := Lib.hid u; have HQ := Lib.hid hq; have HKM := Lib.hid hkm; have HK := Lib.hid hk; have HKX := Lib.hid hkx
      have c5 := h.c5
      clear u hq hk hkx hkm h
      by_cases hf : s1.fc = 0
      · rw [hf] at c5
        have HF := Lib.hid hf; clear hf
        obtain ⟨b1, hb1⟩ : ∃ b1, isR T ((⟨#[105, 110, 116]⟩ : ByteArray)) s1 = b1 := ⟨_, rfl⟩
        obtain ⟨b2, hb2⟩ : ∃ b2, isR T ((⟨#[108, 111, 99, 107]⟩ : ByteArray)) s1 = b2 := ⟨_, rfl⟩
        have B1 := Lib.hid hb1; have B2 := Lib.hid hb2; clear hb1 hb2
        go_wp2_with fail
        refine (ris_c ((⟨#[105, 110, 116]⟩ : ByteArray)) HP.out).mono ?_
        rw [B1.out]
        rintro e w3 ⟨rfl, h3, u3⟩
        have U3 := Lib.hid (HU.out.trans u3)
        have K3 := Lib.hid (u3.ownsRow HK.out (fun g hg => (HKX.out g hg).1))
        clear c5 u3
        go_wp2_with fail
        refine (ris_c ((⟨#[108, 111, 99, 107]⟩ : ByteArray)) h3).mono ?_
        rw [B2.out]
        rintro e w4 ⟨rfl, h4, u4'⟩
        have U4 := Lib.hid (U3.out.trans u4')
        have K4 := Lib.hid (u4'.ownsRow K3.out (fun g hg => (HKX.out g hg).1))
        have H4 := Lib.hid h4
        clear h3 u4' h4
        cases hor : (b1 || b2) with
        | true =>
          obtain ⟨hm, k, s2, q2, q3⟩ := progGR_go HQ.out ⟨HF.out, by rw [B1.out, B2.out]; exact hor⟩
          have hm3 := progGR_mono _ _ _ _ _ q3
          have hb2 : s2.nodes.length ≤ 1000000 := by have := HBD.out; omega
          have HST := Lib.hid (HGC.out w4 X1 nv1 s1 k s2 H4.out q2 hb2)
          have HQ3 := Lib.hid q3
          have HKL : Hid (kids.length + 1 + (gk - 1) ≤ n) := Lib.hid (by have := HKM.out; omega)
          have HGL : Hid (gk - 1 < gk) := Lib.hid (by omega)
          clear hm q2 q3 hm3 hb2 HQ
          rcases b1 with _ | _ <;> rcases b2 with _ | _ <;> first | (exfalso; revert hor; decide) | skip
          all_goals
            clear hor
            as_aux_lemma =>
            go_wp2_with fail
            refine HST.out.mono ?_
            rintro e w5 ⟨rfl, X5, nv5, h5, u5'⟩
            have U5 := Lib.hid (U4.out.trans u5')
            have K5 := Lib.hid (u5'.ownsRow K4.out (fun g hg => (HKX.out g hg).1))
            have KX5 : Hid (∀ g, (Value.slice ka kids.length kc).ownBlock = some g → ¬ X5 g ∧ bp ≤ g ∧ W0.heap.size ≤ g) := Lib.hid (fun g hg => ⟨u5'.notIn (K4.out.lt g hg).2 (HKX.out g hg).1, (HKX.out g hg).2⟩)
            have H5 := Lib.hid h5
            clear u5' h5 HST
            go_wp2_with (at_builtin; refine wpList_app _ rfl _ _ 30 rfl 3 i0 (.int .i64 0) 1 8 Tryz.underlying30 HI0.out.1 HI0.out.2.1 HI0.out.2.2.1 HI0.out.2.2.2 rfl (by decide) (.slice ka kids.length kc) kids.length (kids.map (Value.int .i64)) rfl (K5.out.alloc _) ⟨w5.heap.size, 0, none⟩ 1 1 [.int .i64 k] rfl rfl (news_new w5 [.int .i64 k] _) (by simp [Value.oneCell']) (by have := HKL.out; have := HN.out; unfold maxLen; omega) (by have := HKL.out; have := HN.out; omega) ?_)
            intro v6 w6 o6 g6 f6
            have hmore := kid_more H5.out U5.out KX5.out o6 g6 (fun g hg => by have := f6 g hg; simpa using this)
            have HIN : Hid (PgInv W0 (fun k => k = bp) bp la c T s.size (progGR T s.size) n a s' (gk - 1) v6 w6) := Lib.hid ⟨kids ++ [k], s2, X5, nv5, hmore.1, hmore.2.1, by have := HKL.out; simp; omega, hmore.2.2.1, hmore.2.2.2, HQ3.out⟩
            clear o6 g6 f6 hmore
            go_wp2_with fail
            go_roundg (gk - 1)
            case rel => exact HIN.out
            case measure => exact HGL.out
        | false =>
          obtain ⟨hm, q3⟩ := progGR_stop HQ.out (fun e => by have := e.2; rw [B1.out, B2.out, hor] at this; cases this)
          have HIN : Hid (∃ m, m ≤ n ∧ PgInv W0 (fun k => k = bp) bp la c T s.size (progTR T s.size) n a s' m (.slice ka kids.length kc) w4) := Lib.hid ⟨gk - 1, by have := HKM.out; omega, kids, s1, X1, nv1, K4.out, HKX.out, by have := HKM.out; omega, H4.out, U4.out, q3⟩
          clear hm q3 HQ
          rcases b1 with _ | _ <;> rcases b2 with _ | _ <;> first | (exfalso; revert hor; decide) | skip
          clear hor
          go_wp2_with fail
          go_meet
          exact HIN.out
      · obtain ⟨hm, q3⟩ := progGR_stop HQ.out (fun e => hf e.1)
        have hfb : (s1.fc == 0) = false := by simp [hf]
        have HIN : Hid (∃ m, m ≤ n ∧ PgInv W0 (fun k => k = bp) bp la c T s.size (progTR T s.size) n a s' m (.slice ka kids.length kc) wr) := Lib.hid ⟨gk - 1, by have := HKM.out; omega, kids, s1, X1, nv1, HK.out, HKX.out, by have := HKM.out; omega, HP.out, HU.out, q3⟩
        clear hm q3 HQ hf
        go_wp2_with fail
        go_meet
        exact HIN.out
  case rest =>
    clear HI
    obtain ⟨m, hmn, hpg⟩ := hcut
    have HMN := Lib.hid hmn; have HI := Lib.hid hpg
    clear hmn hpg
    as_aux_lemma =>
    go_upto_block 2 with (fail)
    go_cut [7] from 50 to 84 (fun v wx => PgEnd W0 (fun k => k = bp) bp la c T s.size a s' v wx)
    case first =>
      go_wp2_with fail
      go_loopg [7] m (fun m v wr => PgInv W0 (fun k => k = bp) bp la c T s.size (progTR T s.size) n a s' m v wr)
      case atStart => exact HI.out
      case round =>
        clear HI HMN HGC
        obtain ⟨kids, s1, X1, nv1, hk, hkx, hkm, h, u, hq⟩ := hrel
        obtain ⟨ka, kc, hv⟩ := slice_of_row hk
        subst hv
        have HP := Lib.hid h; have HU := Lib.hid u; have HQ := Lib.hid hq; have HKM := Lib.hid hkm; have HK := Lib.hid hk; have HKX := Lib.hid hkx
        have c5 := h.c5
        have c0 := h.c0
        have c2 := h.c2
        clear u hq hk hkx hkm h
        obtain ⟨i, hI⟩ : ∃ i, i = s1.i := ⟨_, rfl⟩
        rw [← hI] at c2
        have HI := Lib.hid hI; clear hI
        by_cases hf : s1.fc = 0
        · rw [hf] at c5
          by_cases hi : i < T.length
          · have hd : decide ((i : Int) < (T.length : Int)) = true := by simp; omega
            have hd2 : decide (i < T.length) = true := by simp; omega
            obtain ⟨hm, b, s2, q2, q3⟩ := progTR_go HQ.out ⟨hf, by rw [← HI.out]; exact hi⟩
            have hm3 := progTR_mono _ _ _ _ _ q3
            have hb2 : s2.nodes.length ≤ 1000000 := by have := HBD.out; simp at hm3; omega
            have HST := Lib.hid (fun w X nv h => HRB.out (gk - 1) (by have := HKM.out; omega) w X nv (takeR T s.size ((⟨#[116, 104, 114, 101, 97, 100]⟩ : ByteArray)) s1) b s2 h q2 hb2)
            have HQ3 := Lib.hid q3; have HB2 := Lib.hid hb2
            have HKL : Hid (kids.length + 1 + (gk - 1) ≤ n) := Lib.hid (by have := HKM.out; omega)
            have HGL : Hid (gk - 1 < gk) := Lib.hid (by omega)
            obtain ⟨ps, hps⟩ : ∃ ps, ps = posR T s.size s1 := ⟨_, rfl⟩
            rw [← hps] at HQ3
            have HPS := Lib.hid hps
            clear hm q2 q3 hm3 hb2 HQ hf hps
            go_upto_region 12 with (fail)
            go_quiet (fail)
            generalize hw9 : World.drewN wr _ = w9
            have HP9 : Hid (RP w9 X1 bp la c T s.size s1 nv1 ∧ Upd W0 (fun k => k = bp) w9 X1 ∧ KidsAt w9 (.slice ka kids.length kc) kids) := Lib.hid (by rw [← hw9]; exact ⟨HP.out.drewN _, HU.out.drewN _, ((Upd.refl wr NO).drewN _).ownsRow HK.out (fun _ _ => id)⟩)
            clear hw9 c0 c2 c5 HP HU HK
            go_wp2_with fail
            refine (rat_c HP9.out.1).mono ?_
            rw [← HPS.out]
            rintro e w10 ⟨rfl, h10, u10'⟩
            have U10 := Lib.hid (HP9.out.2.1.trans u10')
            have K10 := Lib.hid (u10'.ownsRow HP9.out.2.2 (fun g hg => (HKX.out g hg).1))
            clear u10' HP9
            go_wp2_with fail
            refine (rtake_c ((⟨#[116, 104, 114, 101, 97, 100]⟩ : ByteArray)) h10 HLN.out).mono ?_
            rintro e w11 ⟨rfl, h11, u11'⟩
            have U11 := Lib.hid (U10.out.trans u11')
            have K11 := Lib.hid (u11'.ownsRow K10.out (fun g hg => (HKX.out g hg).1))
            clear u11' h10 U10 K10
            go_wp2_with fail
            refine (HST.out _ _ _ h11).mono ?_
            rintro e w12 ⟨rfl, X12, nv12, h12, u12'⟩
            have U12 := Lib.hid (U11.out.trans u12')
            have K12 := Lib.hid (u12'.ownsRow K11.out (fun g hg => (HKX.out g hg).1))
            have KX12 : Hid (∀ g, (Value.slice ka kids.length kc).ownBlock = some g → ¬ X12 g ∧ bp ≤ g ∧ W0.heap.size ≤ g) := Lib.hid (fun g hg => ⟨u12'.notIn (K11.out.lt g hg).2 (HKX.out g hg).1, (HKX.out g hg).2⟩)
            have HND := Lib.hid (rnode_kids 4 0 ps ⟨#[]⟩ (.slice (some ⟨w12.heap.size, 0, none⟩) 1 1) [b] (h12.alloc (.cells #[.int .i64 b] 3)) ((Upd.refl w12 X12).alloc (.cells #[.int .i64 b] 3)) HB2.out (kids_blk (kids := [b]) (blk_new rfl) (by simp)) (fun g hg => by
              simp only [Value.ownBlock, Option.some.injEq] at hg
              subst hg
              exact ⟨fun e => by have := h12.high _ e; omega, Nat.le_of_lt h12.lt, Nat.le_refl _⟩))
            clear u12' h11 U11 K11 h12 HST
            as_aux_lemma =>
            go_wp2_with fail
            refine HND.out.mono ?_
            rintro e w13 ⟨rfl, X13, nv13, h13, u13'⟩
            have U13 := Lib.hid (U12.out.trans u13')
            have K13 := Lib.hid (u13'.ownsRow K12.out (fun g hg => (KX12.out g hg).1))
            have KX13 : Hid (∀ g, (Value.slice ka kids.length kc).ownBlock = some g → ¬ X13 g ∧ bp ≤ g ∧ W0.heap.size ≤ g) := Lib.hid (fun g hg => ⟨u13'.notIn (K12.out.lt g hg).2 (KX12.out g hg).1, (KX12.out g hg).2⟩)
            have H13 := Lib.hid h13
            obtain ⟨k, hkk⟩ : ∃ k : Int, k = s2.nodes.length := ⟨_, rfl⟩
            rw [← hkk] at HQ3 ⊢
            clear u13' h13 U12 K12 KX12 HND hkk
            as_aux_lemma =>
            go_wp2_with (at_builtin; refine wpList_app _ rfl _ _ 30 rfl 3 i0 (.int .i64 0) 1 8 Tryz.underlying30 HI0.out.1 HI0.out.2.1 HI0.out.2.2.1 HI0.out.2.2.2 rfl (by decide) (.slice ka kids.length kc) kids.length (kids.map (Value.int .i64)) rfl (K13.out.alloc _) ⟨w13.heap.size, 0, none⟩ 1 1 [.int .i64 k] rfl rfl (news_new w13 [.int .i64 k] _) (by simp [Value.oneCell']) (by have := HKL.out; have := HN.out; unfold maxLen; omega) (by have := HKL.out; have := HN.out; omega) ?_)
            intro v6 w6 o6 g6 f6
            have hmore := kid_more H13.out U13.out KX13.out o6 g6 (fun g hg => by have := f6 g hg; simpa using this)
            have HIN : Hid (PgInv W0 (fun k => k = bp) bp la c T s.size (progTR T s.size) n a s' (gk - 1) v6 w6) := Lib.hid ⟨kids ++ [k], _, X13, nv13, hmore.1, hmore.2.1, by have := HKL.out; simp; omega, hmore.2.2.1, hmore.2.2.2, HQ3.out⟩
            clear o6 g6 f6 hmore
            go_wp2_with fail
            go_roundg (gk - 1)
            case rel => exact HIN.out
            case measure => exact HGL.out
          · have hd : decide ((i : Int) < (T.length : Int)) = false := by simp; omega
            have hd2 : decide (i < T.length) = false := by simp; omega
            have hst := progTR_stop HQ.out (fun e => hi (by rw [HI.out]; exact e.2))
            have HST := Lib.hid hst
            clear hst HQ hf
            go_upto_region 12 with (fail)
            go_quiet (fail)
            go_wp2_with fail
            go_meet
            exact ⟨kids, s1, X1, nv1, ((Upd.refl wr NO).drewN _).ownsRow HK.out (fun _ _ => id), HKX.out, HP.out.drewN _, HU.out.drewN _, HST.out.1, HST.out.2⟩
        · have hst := progTR_stop HQ.out (fun e => hf e.1)
          have HST := Lib.hid hst
          have hfb : (s1.fc == 0) = false := by simp [hf]
          clear hst HQ hf
          go_upto_region 12 with (fail)
          go_quiet (fail)
          go_wp2_with fail
          go_meet
          exact ⟨kids, s1, X1, nv1, ((Upd.refl wr NO).drewN _).ownsRow HK.out (fun _ _ => id), HKX.out, HP.out.drewN _, HU.out.drewN _, HST.out.1, HST.out.2⟩
    case rest =>
      clear HI HMN HGC HRB HI0
      obtain ⟨kids, s1, X1, nv1, hk, hkx, h, u, ha, hs⟩ := hcut
      obtain ⟨ka, kc, hv⟩ := slice_of_row hk
      subst hv
      have hb1 : s1.nodes.length ≤ 1000000 := by have := HBD.out; rw [hs] at this; simp at this; omega
      have HND := Lib.hid (rnode_kids 1 0 0 ⟨#[]⟩ (.slice ka kids.length kc) kids h u hb1 hk hkx)
      rw [← hs] at HND
      clear hk hkx h u ha hs hb1
      as_aux_lemma =>
      go_wp2_with fail
      refine HND.out.mono ?_
      rintro e w20 ⟨rfl, X2, nv2, h2, u2⟩
      have HP := Lib.hid h2
      have HPW : Hid (Upd w NO w20 NO ∧ w20.heap[p3]? = some (.cells #[.int .i64 0, .int .i64 0, .int .i64 0] 25 (0, 0)) ∧ p3 < bp ∧ w.heap.size ≤ p3) := Lib.hid ⟨HRW.out.u.past u2 (fun k hk => by have := HRW.out.x0 k hk; have := HRW.out.l; have := HRW.out.lt; omega), u2.keep HRW.out.b (fun e => by have := HRW.out.x0 _ e; have := HRW.out.lt; omega), HRW.out.lt, HRW.out.l⟩
      obtain ⟨kvs, k1, k2, k3⟩ := h2.nodes
      obtain ⟨an, cn, hnv⟩ := slice_of_row k2
      subst hnv
      have c4 := h2.c4
      have c5 := h2.c5
      have c6 := h2.c6
      have c7 := h2.c7
      have cf := h2.free
      have HIX := Lib.hid h2.inX
      obtain ⟨m, hm⟩ : ∃ m, m = s'.nodes.length := ⟨_, rfl⟩
      rw [← hm] at c4
      have hm6 : m ≤ 1000000 := by rw [hm]; exact HBD.out
      have HM := Lib.hid hm
      clear h2 u2 k1 k2 k3 HND HRW hm
      as_aux_lemma =>
      by_cases hf : s'.fc = 0
      · rw [hf] at c5
        by_cases h6 : 600 < m
        · have hd : decide ((600 : Int) < (m : Int)) = true := by simp; omega
          have hd2 : decide (600 < m) = true := by simp; omega
          have HFIN : Hid (finR s.size s' = .bad 10 s.size) := Lib.hid (by rw [finR, if_pos hf, if_pos (by rw [← HM.out]; exact h6)])
          clear hf
          go_upto_region 21 with (fail)
          refine wp_gen (fun W => Upd w NO W NO ∧ W.heap[p3]? = some (.cells #[.int .i64 0, .int .i64 0, .int .i64 0] 25 (0, 0)) ∧ W.cell? ⟨bp, 5, none⟩ = some (.int .i64 10) ∧ W.cell? ⟨bp, 6, none⟩ = some (.int .i64 0) ∧ W.cell? ⟨bp, 7, none⟩ = some (.int .i64 s.size)) ⟨by
            have q : w.heap.size ≤ bp := by have := HPW.out.2.2; omega
            exact ((HPW.out.1.setCell (a := ⟨bp, 5, none⟩) (.inr q) _).setCell (a := ⟨bp, 6, none⟩) (.inr q) _).setCell (a := ⟨bp, 7, none⟩) (.inr q) _, by
            have q : p3 ≠ bp := by have := HPW.out.2.2; omega
            rw [blk_setCell_other _ q, blk_setCell_other _ q, blk_setCell_other _ q]; exact HPW.out.2.1, (HP.out.setF 10 s.size).c5, (HP.out.setF 10 s.size).c6, (HP.out.setF 10 s.size).c7⟩ ?_
          clear c4 c5 c6 c7 cf hd hd2
          rintro W ⟨hu, hb3, c5, c6, c7⟩
          have a0 : W.cell? ⟨p3, 0, none⟩ = some (.int .i64 0) := cell_blk hb3
          have a1 : W.cell? ⟨p3, 1, none⟩ = some (.int .i64 0) := cell_blk hb3
          have a2 : W.cell? ⟨p3, 2, none⟩ = some (.int .i64 0) := cell_blk hb3
          have af : ∀ o, W.frozen? ⟨p3, o, none⟩ = false := fun o => free_blk hb3
          have HU := Lib.hid hu; have HB3 := Lib.hid hb3
          clear hu hb3
          go_upto_region 22 with (fail)
          go_region
          refine rnorm (fun W => Upd w NO W NO ∧ W.heap[p3]? = some (.cells #[.int .i64 10, .int .i64 0, .int .i64 s.size] 25 (0, 0))) ⟨(((HU.out.setCell (a := ⟨p3, 0, none⟩) (.inr HPW.out.2.2.2) _).setCell (a := ⟨p3, 1, none⟩) (.inr HPW.out.2.2.2) _).setCell (a := ⟨p3, 2, none⟩) (.inr HPW.out.2.2.2) _).drew, by exact blk_setCell (blk_setCell (blk_setCell HB3.out _) _) _⟩ ?_
          clear a0 a1 a2 af c5 c6 c7 HB3 HU
          rintro W3 ⟨hu, hb⟩
          have HU := Lib.hid hu
          have a0 : W3.cell? ⟨p3, 0, none⟩ = some (.int .i64 10) := cell_blk hb
          have a1 : W3.cell? ⟨p3, 1, none⟩ = some (.int .i64 0) := cell_blk hb
          have a2 : W3.cell? ⟨p3, 2, none⟩ = some (.int .i64 s.size) := cell_blk hb
          clear hu hb
          go_wp2_with fail
          refine bodyPost_ret (v := .tuple #[.slice none 0 0, .agg #[.int .i64 10, .int .i64 0, .int .i64 s.size]]) (by simp [results, Tryz.results8, go_sem, a0, a1, a2]) rfl ⟨HU.out, ?_⟩
          rw [HFIN.out]
        · have hd : decide ((600 : Int) < (m : Int)) = false := by simp; omega
          have hd2 : decide (600 < m) = false := by simp; omega
          have HFIN : Hid (finR s.size s' = .ok s'.nodes) := Lib.hid (by rw [finR, if_pos hf, if_neg (by rw [← HM.out]; exact h6)])
          have a0 : w20.cell? ⟨p3, 0, none⟩ = some (.int .i64 0) := cell_blk HPW.out.2.1
          have a1 : w20.cell? ⟨p3, 1, none⟩ = some (.int .i64 0) := cell_blk HPW.out.2.1
          have a2 : w20.cell? ⟨p3, 2, none⟩ = some (.int .i64 0) := cell_blk HPW.out.2.1
          have af : ∀ o, w20.frozen? ⟨p3, o, none⟩ = false := fun o => free_blk HPW.out.2.1
          clear hf
          go_wp2_with fail
          refine bodyPost_ret (v := .tuple #[.slice an m cn, .agg #[.int .i64 0, .int .i64 0, .int .i64 0]]) (by simp [results, Tryz.results8, go_sem, a0, a1, a2]) rfl ⟨((HPW.out.1.setCell (a := ⟨p3, 0, none⟩) (.inr HPW.out.2.2.2) _).setCell (a := ⟨p3, 1, none⟩) (.inr HPW.out.2.2.2) _).setCell (a := ⟨p3, 2, none⟩) (.inr HPW.out.2.2.2) _, ?_⟩
          rw [HFIN.out]
          refine ⟨.slice an m cn, X2, bp, rfl, ?_⟩
          rw [HM.out]
          exact HP.out.nodes.upd ((((Upd.refl w20 (fun k => k = p3)).setCell (a := ⟨p3, 0, none⟩) (.inl rfl) _).setCell (a := ⟨p3, 1, none⟩) (.inl rfl) _).setCell (a := ⟨p3, 2, none⟩) (.inl rfl) _) (fun k hk _ e => by have := HP.out.low k hk; have := HPW.out.2.2.1; omega)
      · have hfb : (s'.fc == 0) = false := by simp [hf]
        have hfn : (s'.fc != 0) = true := by simp [hf]
        have HFIN : Hid (finR s.size s' = .bad s'.fc s'.fa) := Lib.hid (by rw [finR, if_neg hf])
        have a0 : w20.cell? ⟨p3, 0, none⟩ = some (.int .i64 0) := cell_blk HPW.out.2.1
        have a1 : w20.cell? ⟨p3, 1, none⟩ = some (.int .i64 0) := cell_blk HPW.out.2.1
        have a2 : w20.cell? ⟨p3, 2, none⟩ = some (.int .i64 0) := cell_blk HPW.out.2.1
        have af : ∀ o, w20.frozen? ⟨p3, o, none⟩ = false := fun o => free_blk HPW.out.2.1
        clear hf
        go_upto_region 22 with (fail)
        go_region
        refine rnorm (fun W => Upd w NO W NO ∧ W.heap[p3]? = some (.cells #[.int .i64 s'.fc, .int .i64 0, .int .i64 s'.fa] 25 (0, 0))) ⟨(((HPW.out.1.setCell (a := ⟨p3, 0, none⟩) (.inr HPW.out.2.2.2) _).setCell (a := ⟨p3, 1, none⟩) (.inr HPW.out.2.2.2) _).setCell (a := ⟨p3, 2, none⟩) (.inr HPW.out.2.2.2) _).drew, by exact blk_setCell (blk_setCell (blk_setCell HPW.out.2.1 _) _) _⟩ ?_
        clear a0 a1 a2 af c4 c5 c6 c7 cf hfb hfn
        rintro W3 ⟨hu, hb⟩
        have HU := Lib.hid hu
        have a0 : W3.cell? ⟨p3, 0, none⟩ = some (.int .i64 s'.fc) := cell_blk hb
        have a1 : W3.cell? ⟨p3, 1, none⟩ = some (.int .i64 0) := cell_blk hb
        have a2 : W3.cell? ⟨p3, 2, none⟩ = some (.int .i64 s'.fa) := cell_blk hb
        clear hu hb
        go_wp2_with fail
        refine bodyPost_ret (v := .tuple #[.slice none 0 0, .agg #[.int .i64 s'.fc, .int .i64 0, .int .i64 s'.fa]]) (by simp [results, Tryz.results8, go_sem, a0, a1, a2]) rfl ⟨HU.out, ?_⟩
        rw [HFIN.out]

end Go.Proofs.YtaklephcgepfjaaGreatDoor

/- Same, of nodes that are the same; Ints, of integers that are the same. -/
namespace Go.Proofs.YtaklephcgepfjaaGreatDoor
open Go.RowKit

/-- Integers in a row: a slice's elements. -/
theorem kids_cells {W : World} {kv : Value} {kids : List Int} (h : KidsAt W kv kids) : ∃ la c, kv = .slice la kids.length c ∧ ∀ j (hj : j < kids.length), ∃ b, la = some ⟨b, 0, none⟩ ∧ W.cell? ⟨b, j, none⟩ = some (.int .i64 kids[j]) := by
  obtain ⟨la, c, rfl⟩ := slice_of_row h
  refine ⟨la, c, rfl, fun j hj => ?_⟩
  rcases h.2 with ⟨e, h5⟩ | ⟨g, cap, cur, e, hbg, hg, rest⟩
  · omega
  · have e0 := e
    injection e0 with e1 e2 e3
    have hc := h.cells (g := g) (by rw [e]; rfl) j (.int .i64 kids[j]) (by simp [hj])
    have add : ∀ k, ((⟨g, 0, none⟩ : Addr).add k) = ⟨g, k, none⟩ := fun k => by unfold Addr.add; split <;> simp_all
    rw [add] at hc
    exact ⟨g, e1, hc⟩

set_option maxRecDepth 100000 in
set_option maxHeartbeats 1000000 in
theorem ints_same (w : World) (v1 v2 : Value) (l : List Int) (h1 : KidsAt w v1 l) (h2 : KidsAt w v2 l) (hl : l.length ≤ 1000000) :
    Calls Tryz.prog 12 #[v1, v2] w fun e w' => e = .returned (.bool true) ∧ ∃ n, w' = w.drewN n := by
  obtain ⟨a1, c1, rfl, k1⟩ := kids_cells h1
  obtain ⟨a2, c2, rfl, k2⟩ := kids_cells h2
  have K1 := Lib.hid k1; have K2 := Lib.hid k2
  clear h1 h2 k1 k2
  go_enter Tryz.func12, Tryz.ntmps12
  go_wp2_with fail
  go_loopg [5] l.length (fun m v wr => ∃ k : Nat, v = .int .i64 k ∧ k ≤ l.length ∧ l.length - k ≤ m ∧ ∃ n, wr = w.drewN n)
  case atStart => exact ⟨0, rfl, Nat.zero_le _, Nat.le_refl _, 0, rfl⟩
  case round =>
    obtain ⟨k, rfl, hk, hm, nd, hw⟩ := hrel
    have HW := Lib.hid hw; have HM := Lib.hid hm
    by_cases hlt : k < l.length
    · obtain ⟨b1, e1, g1⟩ := K1.out k hlt
      obtain ⟨b2, e2, g2⟩ := K2.out k hlt
      subst e1 e2
      have q1 : wr.cell? ⟨b1, k, none⟩ = some (.int .i64 l[k]) := by rw [hw]; exact g1
      have q2 : wr.cell? ⟨b2, k, none⟩ = some (.int .i64 l[k]) := by rw [hw]; exact g2
      obtain ⟨x, hx⟩ : ∃ x, l[k] = x := ⟨_, rfl⟩
      rw [hx] at q1 q2
      have hne : (x != x) = false := by simp
      have hd : decide ((k : Int) < (l.length : Int)) = true := by simp; omega
      have hd2 : decide (k < l.length) = true := by simp; omega
      have hi1 : (0 : Int) ≤ (k : Int) := by omega
      have hi2 : (k : Int) < (l.length : Int) := by omega
      clear hw g1 g2 hx hm
      go_wp2_with fail
      go_quiet (fail)
      go_wp2_with fail
      go_roundg (gk - 1)
      case rel => exact ⟨k + 1, by go_num, by omega, by have := HM.out; omega, _, by rw [HW.out]; exact World.drewN_drewN _ _ _⟩
      case measure => have := HM.out; omega
    · clear hw
      have hd : decide ((k : Int) < (l.length : Int)) = false := by simp; omega
      have hd2 : decide (k < l.length) = false := by simp; omega
      go_wp2_with fail
      go_ret
      exact ⟨rfl, _, HW.out⟩

/-- A node in memory. -/
theorem node_cells {W : World} {X : Nat → Prop} {bp : Nat} {nv : Value} {l : List Nd} (h : NodeRow W X bp nv l) : ∃ la c, nv = .slice la l.length c ∧ ∀ j (hj : j < l.length), ∃ b kv, la = some ⟨b, 0, none⟩ ∧
    W.cell? ⟨b, j * 5, none⟩ = some (.int .i64 l[j].kind) ∧ W.cell? ⟨b, j * 5 + 1, none⟩ = some (.int .i64 l[j].num) ∧ W.cell? ⟨b, j * 5 + 2, none⟩ = some (.int .i64 l[j].pos) ∧ W.cell? ⟨b, j * 5 + 3, none⟩ = some (.string l[j].text) ∧
    W.cell? ⟨b, j * 5 + 4, none⟩ = some kv ∧ KidsAt W kv l[j].kids := by
  obtain ⟨kvs, k1, k2, k3, k4⟩ := h
  obtain ⟨la, c, rfl⟩ := slice_of_row k2
  refine ⟨la, c, rfl, fun j hj => ?_⟩
  have hjk : j < kvs.length := by omega
  have hrow : ∀ (l : List Nd) (ks : List Value) (j : Nat) (hj : j < l.length) (hk : j < ks.length) i u, (ndCells l[j] ks[j])[i]? = some u → (ndRow l ks)[j * 5 + i]? = some u := by
    intro l
    induction l with
    | nil => intro ks j hj; simp at hj
    | cons n l ih =>
      intro ks j hj hk i u hu
      cases ks with
      | nil => simp at hk
      | cons kv ks =>
        have hl : ∀ n kv, (ndCells n kv).length = 5 := fun _ _ => rfl
        show (ndCells n kv ++ ndRow l ks)[j * 5 + i]? = some u
        cases j with
        | zero =>
          have : i < 5 := by have := (List.getElem?_eq_some_iff.1 hu).1; rw [hl] at this; exact this
          rw [List.getElem?_append_left (by rw [hl]; omega)]
          simpa using hu
        | succ j =>
          rw [List.getElem?_append_right (by rw [hl]; omega), hl]
          rw [show (j + 1) * 5 + i - 5 = j * 5 + i by omega]
          exact ih ks j (by simpa using hj) (by simpa using hk) i u (by simpa using hu)
  rcases k2.2 with ⟨e, h5⟩ | ⟨g, cap, cur, e, hbg, hg, rest⟩
  · omega
  · have e0 := e
    injection e0 with e1 e2 e3
    have hc := k2.cells (g := g) (by rw [e]; rfl)
    have add : ∀ k, ((⟨g, 0, none⟩ : Addr).add k) = ⟨g, k, none⟩ := fun k => by unfold Addr.add; split <;> simp_all
    have hr := hrow l kvs j hj hjk
    refine ⟨g, kvs[j], e1, ?_, ?_, ?_, ?_, ?_, (k4 j l[j] kvs[j] (by simp [hj]) (by simp [hjk])).1⟩
    · have := hc _ _ (hr 0 _ rfl); rwa [add] at this
    · have := hc _ _ (hr 1 _ rfl); rwa [add] at this
    · have := hc _ _ (hr 2 _ rfl); rwa [add] at this
    · have := hc _ _ (hr 3 _ rfl); rwa [add] at this
    · have := hc _ _ (hr 4 _ rfl); rwa [add] at this

set_option maxRecDepth 100000 in
set_option maxHeartbeats 2000000 in
theorem same_same (w : World) (X1 X2 : Nat → Prop) (p1 p2 : Nat) (v1 v2 : Value) (l : List Nd) (h1 : NodeRow w X1 p1 v1 l) (h2 : NodeRow w X2 p2 v2 l) (hl : l.length ≤ 1000000) (hk : ∀ n ∈ l, n.kids.length ≤ 1000000) :
    Calls Tryz.prog 9 #[v1, v2, .bool true] w fun e w' => e = .returned (.bool true) ∧ ∃ n, w' = w.drewN n := by
  obtain ⟨a1, c1, rfl, k1⟩ := node_cells h1
  obtain ⟨a2, c2, rfl, k2⟩ := node_cells h2
  have K1 := Lib.hid k1; have K2 := Lib.hid k2; have HK := Lib.hid hk
  clear h1 h2 k1 k2 hk
  go_enter Tryz.func9, Tryz.ntmps9
  go_wp2_with fail
  go_loopg [7] l.length (fun m v wr => ∃ k : Nat, v = .int .i64 k ∧ k ≤ l.length ∧ l.length - k ≤ m ∧ ∃ n, wr = w.drewN n)
  case atStart => exact ⟨0, rfl, Nat.zero_le _, Nat.le_refl _, 0, rfl⟩
  case round =>
    obtain ⟨k, rfl, hkl, hm, nd, hw⟩ := hrel
    have HW := Lib.hid hw; have HM := Lib.hid hm
    by_cases hlt : k < l.length
    · obtain ⟨b1, w1, e1, x0, x1, x2, x3, x4, xk⟩ := K1.out k hlt
      obtain ⟨b2, w2, e2, y0, y1, y2, y3, y4, yk⟩ := K2.out k hlt
      subst e1 e2
      obtain ⟨d, hdd⟩ : ∃ d, l[k] = d := ⟨_, rfl⟩
      rw [hdd] at x0 x1 x2 x3 xk y0 y1 y2 y3 yk
      have hkd : d.kids.length ≤ 1000000 := HK.out d (by rw [← hdd]; exact List.getElem_mem hlt)
      have HI := Lib.hid (fun n => ints_same (w.drewN n) w1 w2 d.kids (((Upd.refl w NO).drewN n).ownsRow xk (fun _ _ => id)) (((Upd.refl w NO).drewN n).ownsRow yk (fun _ _ => id)) hkd)
      have q0 : wr.cell? ⟨b1, k * 5, none⟩ = some (.int .i64 d.kind) := by rw [hw]; exact x0
      have q1 : wr.cell? ⟨b1, k * 5 + 1, none⟩ = some (.int .i64 d.num) := by rw [hw]; exact x1
      have q2 : wr.cell? ⟨b1, k * 5 + 2, none⟩ = some (.int .i64 d.pos) := by rw [hw]; exact x2
      have q3 : wr.cell? ⟨b1, k * 5 + 3, none⟩ = some (.string d.text) := by rw [hw]; exact x3
      have q4 : wr.cell? ⟨b1, k * 5 + 4, none⟩ = some w1 := by rw [hw]; exact x4
      have r0 : wr.cell? ⟨b2, k * 5, none⟩ = some (.int .i64 d.kind) := by rw [hw]; exact y0
      have r1 : wr.cell? ⟨b2, k * 5 + 1, none⟩ = some (.int .i64 d.num) := by rw [hw]; exact y1
      have r2 : wr.cell? ⟨b2, k * 5 + 2, none⟩ = some (.int .i64 d.pos) := by rw [hw]; exact y2
      have r3 : wr.cell? ⟨b2, k * 5 + 3, none⟩ = some (.string d.text) := by rw [hw]; exact y3
      have r4 : wr.cell? ⟨b2, k * 5 + 4, none⟩ = some w2 := by rw [hw]; exact y4
      have HI2 : Hid (∀ m, Calls Tryz.prog 12 #[w1, w2] (wr.drewN m) fun e w' => e = .returned (.bool true) ∧ ∃ n, w' = (wr.drewN m).drewN n) := Lib.hid (fun m => by rw [hw, World.drewN_drewN]; exact HI.out _)
      have hd : decide ((k : Int) < (l.length : Int)) = true := by simp; omega
      have hd2 : decide (k < l.length) = true := by simp; omega
      have hi1 : (0 : Int) ≤ (k : Int) := by omega
      have hi2 : (k : Int) < (l.length : Int) := by omega
      have n0 : (d.kind != d.kind) = false := by simp
      have n1 : (d.num != d.num) = false := by simp
      have n2 : (d.pos != d.pos) = false := by simp
      have n3 : (d.text.toList != d.text.toList) = false := by simp
      clear hw x0 x1 x2 x3 x4 xk y0 y1 y2 y3 y4 yk hdd hm hkd HI
      go_wp2_with fail
      go_quiet ((go_at_call 12; exact Calls.quiet_of (HI2.out _)))
      go_wp2_with fail
      go_quiet (fail)
      go_wp2_with fail
      go_roundg (gk - 1)
      case rel => exact ⟨k + 1, by go_num, by omega, by have := HM.out; omega, _, by rw [HW.out, World.drewN_drewN]⟩
      case measure => have := HM.out; omega
    · clear hw
      have hd : decide ((k : Int) < (l.length : Int)) = false := by simp; omega
      have hd2 : decide (k < l.length) = false := by simp; omega
      go_wp2_with fail
      go_ret
      exact ⟨rfl, _, HW.out⟩

end Go.Proofs.YtaklephcgepfjaaGreatDoor

/- For every text the program's parser and the reference's come to the same nodes, or to the same fault: SyntaxParses returns true. -/
namespace Go.Proofs.YtaklephcgepfjaaGreatDoor
open Go.RowKit

/-- The reference's Parse. -/
theorem rparse_c (s : ByteArray) (w : World) (hm : s.size ≤ maxLen) : Calls Tryz.prog 8 #[.string s] w (ParsePost w (parseR s)) := by
  cases hl : lexP s with
  | ok T =>
    obtain ⟨n, a, s', h1, h2, h3, h4⟩ := ref_run (en := s.size) (lexP_tok hl) (lexP_ok hl).2.1
    have e : parseR s = finR s.size s' := by rw [h4]; unfold parseR; rw [hl]
    rw [e]
    exact rparse_ok s w hm T hl n h1 a s' h2 h3
  | bad c p =>
    have e : parseR s = .bad c p := by unfold parseR; rw [hl]
    rw [e]
    exact rparse_bad s w hm c p hl
  | out => exact absurd hl (lexP_ne s)

theorem NodeRow.empty (w : World) (bp : Nat) : NodeRow w NO bp (.slice none 0 0) [] :=
  ⟨[], rfl, World.ownsRow_nil _ _ _ _, fun g hg => by simp [Value.ownBlock] at hg, fun j n kv hj _ => by simp at hj⟩

def PRes.code : PRes → Int
  | .ok _ => 0
  | .bad c _ => c
def PRes.pos : PRes → Int
  | .ok _ => 0
  | .bad _ p => p
def PRes.nodes : PRes → List Nd
  | .ok l => l
  | .bad _ _ => []

/-- Both ways in one form. -/
theorem ParsePost.one {w w' : World} {r : PRes} {e : Ending} (h : ParsePost w r e w') :
    Upd w NO w' NO ∧ ∃ nv X bp, e = .returned (.tuple #[nv, .agg #[.int .i64 r.code, .int .i64 0, .int .i64 r.pos]]) ∧ NodeRow w' X bp nv r.nodes := by
  refine ⟨h.1, ?_⟩
  cases r with
  | ok l =>
    obtain ⟨nv, X, bp, he, hn⟩ := h.2
    exact ⟨nv, X, bp, he, hn⟩
  | bad c p => exact ⟨.slice none 0 0, NO, 0, h.2, NodeRow.empty _ _⟩

theorem nodes_few (s : ByteArray) : (parseR s).nodes.length ≤ 600 ∧ ∀ n ∈ (parseR s).nodes, n.kids.length ≤ 600 := by
  cases h : parseR s with
  | ok l =>
    obtain ⟨T, t, _, rfl, _, h4⟩ := parseR_tree h
    exact ⟨by simp only [PRes.nodes, t.flat_length]; exact h4, fun n hn => Nat.le_trans (t.kids_few 0 n hn) h4⟩
  | bad c p => exact ⟨Nat.zero_le _, fun n hn => by cases hn⟩

set_option maxRecDepth 100000 in
set_option maxHeartbeats 2000000 in
theorem law1_c (s : ByteArray) (w : World) (hm : s.size ≤ maxLen) :
    Calls Tryz.prog 3 #[.string s] w fun e w' => e = .returned (.bool true) ∧ Upd w NO w' NO := by
  have hf := nodes_few s
  obtain ⟨r, hr⟩ : ∃ r, parseR s = r := ⟨_, rfl⟩
  have H1 := Lib.hid ((parse_c s w hm r (Lib.hid hr)).mono fun _ _ => ParsePost.one)
  have H2 := Lib.hid (fun W => (rparse_c s W hm).mono fun _ _ => ParsePost.one)
  rw [hr] at H2 hf
  have HF := Lib.hid hf
  clear hr hm hf
  go_enter Tryz.func3, Tryz.ntmps3
  go_wp2_with fail
  refine H1.out.mono ?_
  rintro e W1 ⟨u1, nv, X, bp, rfl, hn⟩
  go_upto_region 2 with (fail)
  refine wp_gen (fun W => Upd w NO W NO ∧ W.heap[W1.heap.size]? = some (.cells #[.int .i64 r.code, .int .i64 0, .int .i64 r.pos] 25 (0, 0)) ∧ NodeRow W X bp nv r.nodes) ⟨(u1.trans ((Upd.refl _ _).alloc _)), blk_new rfl, hn.upd ((Upd.refl _ NO).alloc _) (fun _ _ _ => id)⟩ ?_
  obtain ⟨p4, hp4⟩ : ∃ p4, p4 = W1.heap.size := ⟨_, rfl⟩
  rw [← hp4]
  clear hp4 u1 hn H1
  rintro W2 ⟨hu, hb, hn⟩
  have HU := Lib.hid hu; have HB := Lib.hid hb; have HN := Lib.hid hn; clear hu hb hn
  go_wp2_with fail
  refine (H2.out W2).mono ?_
  rintro e W3 ⟨u3, nv2, X2, bp2, rfl, hn⟩
  have HB3 := Lib.hid (u3.keep HB.out id); have HN3 := Lib.hid (HN.out.upd u3 (fun _ _ _ => id)); have HM := Lib.hid hn; have HU3 := Lib.hid (HU.out.trans u3)
  clear HB HN HU hn u3 H2
  go_upto_region 3 with (fail)
  refine wp_gen (fun W => Upd w NO W NO ∧ W.heap[p4]? = some (.cells #[.int .i64 r.code, .int .i64 0, .int .i64 r.pos] 25 (0, 0)) ∧ W.heap[W3.heap.size]? = some (.cells #[.int .i64 r.code, .int .i64 0, .int .i64 r.pos] 25 (0, 0)) ∧ NodeRow W X bp nv r.nodes ∧ NodeRow W X2 bp2 nv2 r.nodes)
    ⟨(HU3.out.trans ((Upd.refl _ _).alloc _)), blk_alloc HB3.out, blk_new rfl, HN3.out.upd ((Upd.refl _ NO).alloc _) (fun _ _ _ => id), HM.out.upd ((Upd.refl _ NO).alloc _) (fun _ _ _ => id)⟩ ?_
  obtain ⟨p6, hp6⟩ : ∃ p6, p6 = W3.heap.size := ⟨_, rfl⟩
  rw [← hp6]
  clear hp6 HU3 HB3 HN3 HM
  rintro W4 ⟨hu, hb4, hb6, hn, hm⟩
  have HU := Lib.hid hu
  have HS := Lib.hid (same_same W4 X X2 bp bp2 nv nv2 r.nodes hn hm (by have := HF.out.1; omega) (fun n h => by have := HF.out.2 n h; omega))
  have HB4 := Lib.hid hb4; have HB6 := Lib.hid hb6
  clear hn hm hu hb4 hb6 HF
  go_wp2_with fail
  refine HS.out.mono ?_
  rintro e W5 ⟨rfl, n, hw⟩
  have HW := Lib.hid hw
  have a0 : W5.cell? ⟨p4, 0, none⟩ = some (.int .i64 r.code) := by rw [hw]; exact cell_blk HB4.out
  have a1 : W5.cell? ⟨p4, 1, none⟩ = some (.int .i64 0) := by rw [hw]; exact cell_blk HB4.out
  have a2 : W5.cell? ⟨p4, 2, none⟩ = some (.int .i64 r.pos) := by rw [hw]; exact cell_blk HB4.out
  have b0 : W5.cell? ⟨p6, 0, none⟩ = some (.int .i64 r.code) := by rw [hw]; exact cell_blk HB6.out
  have b1 : W5.cell? ⟨p6, 1, none⟩ = some (.int .i64 0) := by rw [hw]; exact cell_blk HB6.out
  have b2 : W5.cell? ⟨p6, 2, none⟩ = some (.int .i64 r.pos) := by rw [hw]; exact cell_blk HB6.out
  clear hw
  go_wp2_with fail
  go_ret
  exact ⟨rfl, by rw [HW.out]; exact HU.out.drewN n⟩

end Go.Proofs.YtaklephcgepfjaaGreatDoor

/- A row of this seat from its law's walk: the witness, the condition, the form. -/
namespace Go.Proofs.YtaklephcgepfjaaGreatDoor
open Go.ChangeShapes Go.WideShapes Go.ChangeAt Go.WideMaps Go.WideElems Go.RowKit
open Go.ChangeMaps (open_string shut_string)

theorem Tryz.ownKnobNo : ownKnob Tryz.prog.godebug = none := by kernel_rfl

def laid5 : List (String × DataW Unit) := [("math/bits.deBruijn32tab", Rows.laid_math_bits_deBruijn32tab), ("math/bits.deBruijn64tab", Rows.laid_math_bits_deBruijn64tab), ("internal/strconv.uint64pow10", Rows.laid_internal_strconv_uint64pow10), ("strconv.ErrRange", Rows.laid_strconv_ErrRange), ("strconv.ErrSyntax", Rows.laid_strconv_ErrSyntax)]

/-- The door's own heap meets the condition. -/
theorem door_met (os : Os) (args : Array Value) : laidMetH Tryz.prog laid5 ((World.doorLaid Tryz.prog 62 os).forCall (fun _ _ => 0) ⟨#[], args, []⟩).memory :=
  laidMetH_of_parts3 (fuel := 8) (laidMet_of_run' 8 (by kernel_rfl) (by kernel_rfl)) (by kernel_rfl) (by kernel_rfl)

/-- Only new blocks: what was there is as it was. -/
theorem Upd.kept {w w' : World} (h : Upd w NO w' NO) : Below w.heap.size w w' := h.below (Nat.le_refl _) (fun _ h => h.elim)

end Go.Proofs.YtaklephcgepfjaaGreatDoor

namespace Go.Proofs.YtaklephcgepfjaaGreatDoor
open Go.ChangeShapes Go.WideShapes Go.ChangeAt Go.WideMaps Go.WideElems Go.RowKit
open Go.ChangeMaps (open_string shut_string)

set_option maxRecDepth 100000 in
theorem syntaxParses_lifted (os : Os) (started : os.Started) (H : Type) (enc : TypeId × Value → H) :
    ReturnsInHanded {} Tryz.checked os 3 .any (fun w args => (Rows.syntaxParsesSpec.pre enc Tryz.prog Tryz.f3 [] false w args ∧ laidMetH Tryz.prog laid5 w) ∧ sizedMet enc Tryz.prog Tryz.f3 (OpenSpec.ofChange Rows.syntaxParsesSpec) false w args)
      (Rows.syntaxParsesSpec.post enc Tryz.prog Tryz.f3 false true false false) := by
  refine returnsInHanded_of_change_and (C := Tryz.checked) (X := fun w _ => laidMetH Tryz.prog laid5 w) (fun _ _ _ hh h => h.of_heap hh) Tryz.ownKnobNo started (by kernel_rfl) Tryz.func3
    (ChangeSpec.witness_shaped (enc := enc) (C := Tryz.checked) (os := os) (X := fun w _ => laidMetH Tryz.prog laid5 w) false (World.doorLaid Tryz.prog 62 os) #[.string ⟨#[]⟩] 8 rfl (World.shaped_of_RefB (by kernel_rfl) (by kernel_rfl)) (by kernel_rfl) (by kernel_rfl) (by kernel_rfl) (door_met os _)) ?_
  intro W base args ds gs before hval0 hW _ _ hL _
  have hval : ∀ (j : Nat) t v, Tryz.f3.params[j]? = some t → args[j]? = some v → Value.okWide Tryz.prog W .any base t v := hval0
  have hW' := hW
  obtain ⟨p, q, hA0, hV, rfl, hfz, hnd⟩ := hW
  have hA : DataW.TrodAll enc Tryz.prog W 0 (fun _ => true) true Tryz.f3.params.toList args.toList ds p := hA0
  rw [Tryz.params3] at hA hval
  obtain ⟨v0, d0, rfl, rfl, h0⟩ := trodAll_one hA
  obtain ⟨rfl, rfl⟩ := trodVars_none hV
  obtain ⟨s, rfl, rfl, rfl, hs⟩ := open_string Tryz.underlying9 (hval 0 9 v0 rfl rfl) h0
  refine (law1_c s W hs).mono fun e W' ⟨he, hu⟩ => ?_
  subst he
  have e1 : (Rows.syntaxParsesSpec.fn H ([.lit (.string s.data.toList)] ++ [])) = { results := [.lit (.bool true)], args := [.lit (.string s.data.toList)] } := rfl
  refine ⟨_, rfl, _, _, _, [], [], [], hW', ?_, ?_, ?_, (hu.kept).frame _, fun h => by cases h⟩
  · rw [e1]; exact trodAll_mk1 (shut_bool Tryz.underlying4 true)
  · rw [e1]; exact trodAll_mk1 (shut_string Tryz.underlying9 hs)
  · rw [e1]; rfl

theorem syntaxParses_row : Rows.SyntaxParsesSaid :=
  OpenClaim.holds_of_wide 3 Tryz.f3 rfl rfl rfl rfl rfl rfl rfl ⟨rfl, rfl, rfl, rfl, rfl⟩ rfl rfl rfl rfl rfl (by kernel_rfl) Tryz.func3 (by kernel_rfl)
    (of_decide_eq_true (by kernel_rfl)) (by unfold Func.isWrapper; rw [if_neg (of_decide_eq_false (by kernel_rfl))]; exact ⟨rfl, rfl⟩)
    (fun os started H enc _ => syntaxParses_lifted os started H enc)

theorem syntaxParses_holds : Rows.SyntaxParsesCardSaid :=
  Claim7.holds_tied_plain_at .later [] [.data, .data, .data, .sentinel, .sentinel] true Rows.syntaxParsesCard.stood.harness true
    syntaxParses_row (fun _ h => by cases h) (by kernel_rfl) (fun _ h => by cases h) syntaxParses_row_tie rfl ⟨rfl, rfl⟩ (by kernel_rfl) rfl
    (fun f fn hf hfn => by
      obtain rfl : f = 3 := Option.some.inj ((show Tryz.prog.funcNamed "sluice/sluicelaw.SyntaxParses" = some 3 by kernel_rfl).symm.trans hf) |>.symm
      obtain rfl : fn = Tryz.f3 := (Option.some.inj (Tryz.func3.symm.trans hfn)).symm
      exact ⟨by kernel_rfl, fun j t ht => by
        rw [Tryz.params3] at ht
        have hm : t ∈ [9] := by simpa using Array.mem_of_getElem? ht
        have hall : ([9].all fun u => !Tryz.prog.wantsStandIn u) = true := by kernel_rfl
        exact (show Tryz.prog.wantsStandIn t = false by simpa using List.all_eq_true.1 hall t hm)⟩)
    (by kernel_rfl)
#print axioms syntaxParses_holds
end Go.Proofs.YtaklephcgepfjaaGreatDoor
