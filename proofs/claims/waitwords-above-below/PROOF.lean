import PyProof.Rows.All
import Wide.All
import OpenK.AllK
import Wide.FinOn
import KE.KStateDown
import KE.KExcInit
import Lean
import HandS.ForMost
import HandS.ForExc
import HandS.ExcInit
import HandS.ExcField
import HandS.Defaults
import HandS.More
import HandS.Head0
import HandS.Head1
import HandS.Head2
import HandS.HeadEnd
import HandS.HeadHook1
import HandS.HeadHook2
import HandS.HeadHook3
import HandS.HeadHook4
import KE.KDictKeyed
import KE.KeyNested
import KE.GoesMore
import KE.GoesEnum
import PyProof.ReprRoads
import PyProof.Rows.StrStrike
import HandS.TryMany
import HandS.CallSlots
import HandS.Wide
import HandS.Walk
import HandS.TupAny
import HandS.Star
import HandS.IsInst
import HandS.Deep
import HandS.Style
import HandS.Flow
import HandS.Replace
import HandS.ReplaceLit
import HandS.EndBits
import HandS.NoneIn
import HandS.StrMore
import PySem.Challenge.RW_waitwords_k63_whole_kinds_above_and_belo
set_option Elab.async false
set_option linter.all false
set_option maxRecDepth 100000
set_option maxHeartbeats 0
/-! Plain law: kinds, papers without cut, the lines that always may be the last, the core. No program in sight. -/
namespace WW
inductive Fm | b | a | w
  deriving DecidableEq
/-- a kind; nd f x y: the tuple (f, x, y) as it stands -/
inductive Kd | pl (c : Nat) | nd (f : Fm) (x y : Kd)
  deriving DecidableEq
open Kd
def Kd.size : Kd → Nat
  | pl _ => 1
  | nd _ x y => x.size + y.size
theorem Kd.size_pos : ∀ k : Kd, 0 < k.size
  | pl _ => Nat.one_pos
  | nd _ x y => Nat.add_pos_left (size_pos x) _
/-- how many forms stand in a kind -/
def Kd.forms : Kd → Nat
  | pl _ => 0
  | nd _ x y => x.forms + y.forms + 1
theorem Kd.forms_size : ∀ k : Kd, k.forms + 1 = k.size
  | pl _ => rfl
  | nd _ x y => by
    have h1 := forms_size x
    have h2 := forms_size y
    show x.forms + y.forms + 1 + 1 = x.size + y.size
    omega
def Kd.isW : Kd → Bool
  | nd .w _ _ => true
  | _ => false
def Kd.core : Kd → Option Nat
  | pl c => some c
  | nd .b x _ => x.core
  | nd .a _ y => y.core
  | nd .w _ _ => none

/-- a row comes to a kind: papers without cut -/
inductive D : List Kd → Kd → Prop
  | same (A) : D [A] A
  | gb {Γ A B} : Γ ≠ [] → D (Γ ++ [B]) A → D Γ (nd .b A B)
  | ga {Γ A B} : Γ ≠ [] → D (B :: Γ) A → D Γ (nd .a B A)
  | jn {Γ Δ A B} : D Γ A → D Δ B → D (Γ ++ Δ) (nd .w A B)
  | pt {Γ Δ A B C} : D (Γ ++ A :: B :: Δ) C → D (Γ ++ nd .w A B :: Δ) C
  | be {Γ Δ Θ A B C} : D (Γ ++ A :: Δ) C → D Θ B → D (Γ ++ (nd .b A B :: Θ) ++ Δ) C
  | ah {Γ Δ Θ A B C} : D (Γ ++ A :: Δ) C → D Θ B → D (Γ ++ (Θ ++ [nd .a B A]) ++ Δ) C

theorem D.ne {Γ C} (h : D Γ C) : Γ ≠ [] := by
  induction h with
  | same A => simp
  | gb h _ _ => exact h
  | ga h _ _ => exact h
  | jn _ _ h _ => simp [h]
  | pt _ _ => simp
  | be _ _ _ _ => simp
  | ah _ _ _ _ => simp

/-- a stretch that is put together to A -/
def R (S : List Kd) (A : Kd) : Prop := (∃ B Θ, S = nd .b A B :: Θ ∧ D Θ B) ∨ (∃ B Θ, S = Θ ++ [nd .a B A] ∧ D Θ B)
theorem D.put {Γ Δ S A C} (h : D (Γ ++ A :: Δ) C) (r : R S A) : D (Γ ++ S ++ Δ) C := by
  rcases r with ⟨B, Θ, rfl, d⟩ | ⟨B, Θ, rfl, d⟩
  · exact .be h d
  · exact .ah h d
theorem R.ne {S A} (r : R S A) : S ≠ [] := by
  rcases r with ⟨B, Θ, rfl, d⟩ | ⟨B, Θ, rfl, d⟩ <;> simp

/-- where an item of X ++ Y stands -/
theorem split2 {α : Type} {z : α} : ∀ {X Y P S : List α}, X ++ Y = P ++ z :: S → (∃ S', X = P ++ z :: S' ∧ S = S' ++ Y) ∨ (∃ P', P = X ++ P' ∧ Y = P' ++ z :: S)
  | [], Y, P, S, h => .inr ⟨P, rfl, h⟩
  | x :: X, Y, [], S, h => by
    injection h with h1 h2
    subst h1
    exact .inl ⟨X, rfl, h2.symm⟩
  | x :: X, Y, p :: P, S, h => by
    injection h with h1 h2
    subst h1
    rcases split2 (X := X) (P := P) h2 with ⟨S', e1, e2⟩ | ⟨P', e1, e2⟩
    · exact .inl ⟨S', by rw [e1]; rfl, e2⟩
    · exact .inr ⟨P', by rw [e1]; rfl, e2⟩
/-- .. of X ++ S ++ Y -/
theorem split3 {α : Type} {z : α} {X M Y P S : List α} (h : X ++ M ++ Y = P ++ z :: S) :
    (∃ S', X = P ++ z :: S' ∧ S = S' ++ M ++ Y) ∨ (∃ P' S', M = P' ++ z :: S' ∧ P = X ++ P' ∧ S = S' ++ Y) ∨ (∃ P', P = X ++ M ++ P' ∧ Y = P' ++ z :: S) := by
  rcases split2 h with ⟨S', e1, e2⟩ | ⟨P', e1, e2⟩
  · rcases split2 e1 with ⟨S'', e3, e4⟩ | ⟨P'', e3, e4⟩
    · exact .inl ⟨S'', e3, by rw [e2, e4]⟩
    · exact .inr (.inl ⟨P'', S', e4, e3, e2⟩)
  · exact .inr (.inr ⟨P', e1, e2⟩)

/-! ### the lines that always may be the last -/
theorem D.inv_b {Γ G} (h : D Γ G) : ∀ {A B}, G = nd .b A B → D (Γ ++ [B]) A := by
  induction h with
  | same C =>
    intro A B e; subst e
    have h := D.be (Γ := []) (Δ := []) (D.same A) (D.same B)
    simpa using h
  | gb _ h _ => intro A B e; cases e; exact h
  | ga _ _ _ => intro A B e; cases e
  | jn _ _ _ _ => intro A B e; cases e
  | @pt Γ Δ A' B' C _ ih =>
    intro A B e
    have h := ih e
    rw [List.append_assoc] at h ⊢
    exact .pt h
  | @be Γ Δ Θ A' B' C _ d ih _ =>
    intro A B e
    have h := ih e
    rw [List.append_assoc] at h ⊢
    exact .be h d
  | @ah Γ Δ Θ A' B' C _ d ih _ =>
    intro A B e
    have h := ih e
    rw [List.append_assoc] at h ⊢
    exact .ah h d
theorem D.inv_a {Γ G} (h : D Γ G) : ∀ {A B}, G = nd .a B A → D (B :: Γ) A := by
  induction h with
  | same C =>
    intro A B e; subst e
    have h := D.ah (Γ := []) (Δ := []) (D.same A) (D.same B)
    simpa using h
  | gb _ _ _ => intro A B e; cases e
  | ga _ h _ => intro A B e; cases e; exact h
  | jn _ _ _ _ => intro A B e; cases e
  | @pt Γ Δ A' B' C _ ih =>
    intro A B e
    exact .pt (Γ := B :: Γ) (ih e)
  | @be Γ Δ Θ A' B' C _ d ih _ =>
    intro A B e
    exact .be (Γ := B :: Γ) (ih e) d
  | @ah Γ Δ Θ A' B' C _ d ih _ =>
    intro A B e
    exact .ah (Γ := B :: Γ) (ih e) d
theorem D.inv_w {L G} (h : D L G) : ∀ {Γ A B Δ}, L = Γ ++ nd .w A B :: Δ → D (Γ ++ A :: B :: Δ) G := by
  induction h with
  | same C =>
    intro Γ A B Δ e
    have e' : ([] : List Kd) ++ [C] ++ [] = Γ ++ nd .w A B :: Δ := by simpa using e
    rcases split3 e' with ⟨S', e1, _⟩ | ⟨P', S', e1, e2, e3⟩ | ⟨P', _, e1⟩
    · exact absurd e1 (by simp)
    · cases P' with
      | nil =>
        injection e1 with e4 e5
        subst e4; subst e5; subst e2; subst e3
        have h := D.jn (D.same A) (D.same B)
        simpa using h
      | cons p P => injection e1 with _ e5; exact absurd e5 (by simp)
    · exact absurd e1 (by simp)
  | @gb L A' B' hne _ ih =>
    intro Γ A B Δ e
    refine .gb (by simp) ?_
    have := ih (Γ := Γ) (A := A) (B := B) (Δ := Δ ++ [B']) (by rw [e]; simp)
    simpa using this
  | @ga L A' B' hne _ ih =>
    intro Γ A B Δ e
    refine .ga (by simp) ?_
    exact ih (Γ := B' :: Γ) (A := A) (B := B) (Δ := Δ) (by rw [e]; rfl)
  | @jn L1 L2 A' B' d1 d2 ih1 ih2 =>
    intro Γ A B Δ e
    rcases split2 e with ⟨S', e1, e2⟩ | ⟨P', e1, e2⟩
    · have := D.jn (ih1 e1) d2
      rw [e2]; simpa using this
    · have := D.jn d1 (ih2 e2)
      rw [e1]; simpa using this
  | @pt L1 L2 A' B' C d ih =>
    intro Γ A B Δ e
    have e' : L1 ++ [nd .w A' B'] ++ L2 = Γ ++ nd .w A B :: Δ := by simpa using e
    rcases split3 e' with ⟨S', e1, e2⟩ | ⟨P', S', e1, e2, e3⟩ | ⟨P', e1, e2⟩
    · have h := ih (Γ := Γ) (A := A) (B := B) (Δ := S' ++ A' :: B' :: L2) (by rw [e1]; simp)
      have h2 := D.pt (Γ := Γ ++ A :: B :: S') (Δ := L2) (A := A') (B := B') (by simpa using h)
      rw [e2]; simpa using h2
    · cases P' with
      | nil =>
        injection e1 with e4 e5
        cases e4; subst e5; subst e2; subst e3
        simpa using d
      | cons p P => injection e1 with _ e5; exact absurd e5 (by simp)
    · have h := ih (Γ := L1 ++ A' :: B' :: P') (A := A) (B := B) (Δ := Δ) (by rw [e2]; simp)
      have h2 := D.pt (Γ := L1) (Δ := P' ++ A :: B :: Δ) (A := A') (B := B') (by simpa using h)
      rw [e1]; simpa using h2
  | @be L1 L2 Θ A' B' C d dt ih ih2 =>
    intro Γ A B Δ e
    rcases split3 e with ⟨S', e1, e2⟩ | ⟨P', S', e1, e2, e3⟩ | ⟨P', e1, e2⟩
    · have h := ih (Γ := Γ) (A := A) (B := B) (Δ := S' ++ A' :: L2) (by rw [e1]; simp)
      have h2 := D.be (Γ := Γ ++ A :: B :: S') (Δ := L2) (A := A') (B := B') (by simpa using h) dt
      rw [e2]; simpa using h2
    · cases P' with
      | nil => injection e1 with e4 e5; cases e4
      | cons p P =>
        injection e1 with e4 e5
        subst e4
        have h2 := D.be (Γ := L1) (Δ := L2) (A := A') (B := B') d (ih2 e5)
        rw [e2, e3]; simpa using h2
    · have h := ih (Γ := L1 ++ A' :: P') (A := A) (B := B) (Δ := Δ) (by rw [e2]; simp)
      have h2 := D.be (Γ := L1) (Δ := P' ++ A :: B :: Δ) (A := A') (B := B') (by simpa using h) dt
      rw [e1]; simpa using h2
  | @ah L1 L2 Θ A' B' C d dt ih ih2 =>
    intro Γ A B Δ e
    rcases split3 e with ⟨S', e1, e2⟩ | ⟨P', S', e1, e2, e3⟩ | ⟨P', e1, e2⟩
    · have h := ih (Γ := Γ) (A := A) (B := B) (Δ := S' ++ A' :: L2) (by rw [e1]; simp)
      have h2 := D.ah (Γ := Γ ++ A :: B :: S') (Δ := L2) (A := A') (B := B') (by simpa using h) dt
      rw [e2]; simpa using h2
    · rcases split2 e1 with ⟨S'', e4, e5⟩ | ⟨P'', e4, e5⟩
      · have h2 := D.ah (Γ := L1) (Δ := L2) (A := A') (B := B') d (ih2 e4)
        rw [e2, e3, e5]; simpa using h2
      · cases P'' with
        | nil => injection e5 with e6 _; cases e6
        | cons p P => injection e5 with _ e6; exact absurd e6 (by simp)
    · have h := ih (Γ := L1 ++ A' :: P') (A := A) (B := B) (Δ := Δ) (by rw [e2]; simp)
      have h2 := D.ah (Γ := L1) (Δ := P' ++ A :: B :: Δ) (A := A') (B := B') (by simpa using h) dt
      rw [e1]; simpa using h2

/-! ### the core -/
def okA (A G : Kd) : Prop := A.core = none ∨ A.core = G.core
/-- a last line of the searched forms -/
def Last (L : List Kd) (G : Kd) : Prop := L = [G] ∨ (∃ A B X Y, G = nd .w A B ∧ L = X ++ Y ∧ D X A ∧ D Y B) ∨
  (∃ X S Y A, L = X ++ S ++ Y ∧ R S A ∧ D (X ++ A :: Y) G ∧ okA A G)
theorem noW_core {A : Kd} (h : A.core ≠ none) : A.isW = false := by
  cases A with
  | pl c => rfl
  | nd f x y => cases f <;> first | rfl | exact absurd rfl h
/-- a left line that is not of the searched forms goes ahead of a last line -/
theorem Last.under {X S Y A G} (r : R S A) (na : ¬ okA A G) (l : Last (X ++ A :: Y) G) : Last (X ++ S ++ Y) G := by
  rcases l with e | ⟨P, Q, U, V, rfl, e, d1, d2⟩ | ⟨U, T, V, B, e, rt, d, ok⟩
  · have e' : ([] : List Kd) ++ [G] ++ [] = X ++ A :: Y := by simpa using e.symm
    rcases split3 e' with ⟨S', e1, _⟩ | ⟨P', S', e1, e2, e3⟩ | ⟨P', _, e1⟩
    · exact absurd e1 (by simp)
    · cases P' with
      | nil => injection e1 with e4 _; subst e4; exact absurd (.inr rfl) na
      | cons p P => injection e1 with _ e5; exact absurd e5 (by simp)
    · exact absurd e1 (by simp)
  · rcases split2 e.symm with ⟨S', e1, e2⟩ | ⟨P', e1, e2⟩
    · subst e1; subst e2
      exact .inr (.inl ⟨P, Q, X ++ S ++ S', V, rfl, by simp, D.put d1 r, d2⟩)
    · subst e1; subst e2
      exact .inr (.inl ⟨P, Q, U, P' ++ S ++ Y, rfl, by simp, d1, D.put d2 r⟩)
  · rcases split3 e.symm with ⟨S', e1, e2⟩ | ⟨P', S', e1, e2, e3⟩ | ⟨P', e1, e2⟩
    · subst e1; subst e2
      refine .inr (.inr ⟨X ++ S ++ S', T, V, B, by simp, rt, ?_, ok⟩)
      have := D.put (Γ := X) (Δ := S' ++ B :: V) (by simpa using d) r
      simpa using this
    · subst e2; subst e3
      refine .inr (.inr ⟨U, P' ++ S ++ S', V, B, by simp, ?_, d, ok⟩)
      rcases rt with ⟨C, Θ, e4, dt⟩ | ⟨C, Θ, e4, dt⟩
      · rw [e1] at e4
        cases P' with
        | nil =>
          injection e4 with e5 _
          subst e5
          exact absurd ok na
        | cons p P =>
          injection e4 with e5 e6
          subst e5; subst e6
          exact .inl ⟨C, P ++ S ++ S', by simp, D.put dt r⟩
      · have e4' : Θ ++ [nd .a C B] = P' ++ A :: S' := by rw [← e1, e4]
        rcases split2 e4' with ⟨S'', e5, e6⟩ | ⟨P'', e5, e6⟩
        · subst e5; subst e6
          exact .inr ⟨C, P' ++ S ++ S'', by simp, D.put dt r⟩
        · cases P'' with
          | nil =>
            injection e6 with e7 _
            subst e7
            exact absurd ok na
          | cons p P => injection e6 with _ e7; exact absurd e7 (by simp)
    · subst e1; subst e2
      refine .inr (.inr ⟨U, T, P' ++ S ++ Y, B, by simp, rt, ?_, ok⟩)
      have := D.put (Γ := U ++ B :: P') (Δ := Y) (by simpa using d) r
      simpa using this
theorem last_of {L G} (h : D L G) : (∀ k ∈ L, k.isW = false) → (∀ A B, G ≠ nd .b A B) → (∀ A B, G ≠ nd .a A B) → Last L G := by
  have left : ∀ {X S Y A G}, R S A → D (X ++ A :: Y) G → ((∀ k ∈ X ++ A :: Y, k.isW = false) → (∀ A B, G ≠ nd .b A B) → (∀ A B, G ≠ nd .a A B) → Last (X ++ A :: Y) G) →
      (∀ k ∈ X ++ S ++ Y, k.isW = false) → (∀ A B, G ≠ nd .b A B) → (∀ A B, G ≠ nd .a A B) → Last (X ++ S ++ Y) G := by
    intro X S Y A G r d ih hw hb ha
    by_cases ok : okA A G
    · exact .inr (.inr ⟨X, S, Y, A, rfl, r, d, ok⟩)
    · refine Last.under r ok (ih (fun k hk => ?_) hb ha)
      rcases List.mem_append.mp hk with h | h
      · exact hw k (by simp [h])
      · rcases List.mem_cons.mp h with h | h
        · subst h
          exact noW_core fun q => ok (.inl q)
        · exact hw k (by simp [h])
  induction h with
  | same C => exact fun _ _ _ => .inl rfl
  | @gb L A B _ _ _ => exact fun _ hb _ => absurd rfl (hb A B)
  | @ga L A B _ _ _ => exact fun _ _ ha => absurd rfl (ha B A)
  | @jn X Y A B d1 d2 _ _ => exact fun _ _ _ => .inr (.inl ⟨A, B, X, Y, rfl, rfl, d1, d2⟩)
  | @pt X Y A B C _ _ => exact fun hw _ _ => absurd (hw (nd .w A B) (by simp)) (by simp [Kd.isW])
  | @be X Y Θ A B C d dt ih _ => exact left (.inl ⟨B, Θ, rfl, dt⟩) d ih
  | @ah X Y Θ A B C d dt ih _ => exact left (.inr ⟨B, Θ, rfl, dt⟩) d ih

/-! ### kinds above and below two -/
def aboveK (one other low : Kd) : Kd := nd .b (nd .a (nd .b low one) low) (nd .a other low)
def belowK (one other high : Kd) : Kd := nd .w (nd .w (nd .b one high) high) (nd .a high other)
theorem above_one {one other low} (h1 : D [low] one) (h2 : D [low] other) : D [one] (aboveK one other low) := by
  refine .gb (by simp) (.ga (by simp) ?_)
  have e1 : D [nd .b low one, one] other := by simpa using D.be (Γ := []) (Δ := []) (Θ := [one]) (A := low) (B := one) h2 (.same one)
  have := D.ah (Γ := []) (Δ := []) (Θ := [nd .b low one, one]) (A := low) (B := other) (.same low) e1
  simpa using this
theorem above_other {one other low} (h1 : D [low] one) (h2 : D [low] other) : D [other] (aboveK one other low) := by
  refine .gb (by simp) (.ga (by simp) ?_)
  have e1 : D [nd .b low one, low] low := by simpa using D.be (Γ := []) (Δ := []) (Θ := [low]) (A := low) (B := one) (.same low) h1
  have := D.ah (Γ := [nd .b low one]) (Δ := []) (Θ := [other]) (A := low) (B := other) e1 (.same other)
  simpa using this
theorem below_one {one other high} (h1 : D [one] high) (h2 : D [other] high) : D [belowK one other high] one := by
  refine D.pt (Γ := []) (Δ := []) (D.pt (Γ := []) (Δ := [nd .a high other]) ?_)
  have e1 : D [high, nd .a high other] high := by simpa using D.ah (Γ := []) (Δ := []) (Θ := [high]) (A := other) (B := high) h2 (.same high)
  have := D.be (Γ := []) (Δ := []) (Θ := [high, nd .a high other]) (A := one) (B := high) (.same one) e1
  simpa using this
theorem below_other {one other high} (h1 : D [one] high) (h2 : D [other] high) : D [belowK one other high] other := by
  refine D.pt (Γ := []) (Δ := []) (D.pt (Γ := []) (Δ := [nd .a high other]) ?_)
  have e1 : D [nd .b one high, high] high := by simpa using D.be (Γ := []) (Δ := []) (Θ := [high]) (A := one) (B := high) h1 (.same high)
  have := D.ah (Γ := []) (Δ := []) (Θ := [nd .b one high, high]) (A := other) (B := high) (.same other) e1
  simpa using this
end WW
/-! Plain law, second part: the words (free of what cancels), the sums, and how many rows are asked. -/
namespace WW
open Kd
/-! ### words -/
def push (x : Int) : List Int → List Int
  | [] => [x]
  | y :: t => if y = -x then t else x :: y :: t
def act (u s : List Int) : List Int := u.foldr push s
def inv (u : List Int) : List Int := (u.map fun x => -x).reverse
/-- nothing side by side cancels -/
def Red (l : List Int) : Prop := ∀ p s x y, l = p ++ x :: y :: s → y ≠ -x
theorem red_nil : Red [] := fun p s x y h => by cases p <;> simp at h
theorem red_one (z : Int) : Red [z] := fun p s x y h => by
  cases p with
  | nil => simp at h
  | cons a p => cases p <;> simp at h
theorem Red.tail {x l} (h : Red (x :: l)) : Red l := fun p s a b e => h (x :: p) s a b (by rw [e]; rfl)
theorem Red.head {x y l} (h : Red (x :: y :: l)) : y ≠ -x := h [] l x y rfl
theorem Red.cons {x l} (h : Red l) (hh : ∀ y t, l = y :: t → y ≠ -x) : Red (x :: l) := fun p s a b e => by
  cases p with
  | nil =>
    injection e with e1 e2
    subst e1
    exact hh b s e2
  | cons c p =>
    injection e with _ e2
    exact h p s a b e2
theorem Red.inv {l} (h : Red l) : Red (inv l) := fun p s x y e => by
  have e2 : l = (s.map fun z => -z).reverse ++ (-y) :: (-x) :: (p.map fun z => -z).reverse := by
    have e3 := congrArg (fun t => (t.map fun z : Int => -z).reverse) e
    simp only [WW.inv, List.map_reverse, List.reverse_reverse, List.map_map] at e3
    have e4 : (List.map ((fun z : Int => -z) ∘ fun z => -z) l) = l := by
      rw [show ((fun z : Int => -z) ∘ fun z => -z) = id from by funext z; simp]
      simp
    rw [e4] at e3
    rw [e3]; simp
  have := h _ _ _ _ e2
  omega
theorem inv_inv (l : List Int) : inv (inv l) = l := by
  unfold inv
  rw [List.map_reverse, List.reverse_reverse, List.map_map, show ((fun z : Int => -z) ∘ fun z => -z) = id from by funext z; simp]
  simp
theorem inv_length (l : List Int) : (inv l).length = l.length := by unfold inv; simp
theorem Red.push {x s} (h : Red s) : Red (push x s) := by
  cases s with
  | nil => exact red_one x
  | cons y t =>
    show Red (if y = -x then t else x :: y :: t)
    split
    · exact h.tail
    · rename_i hn
      exact h.cons fun z u e => by injection e with e1 _; subst e1; exact hn
theorem Red.act {s} (h : Red s) : ∀ u, Red (act u s)
  | [] => h
  | _ :: u => (Red.act h u).push
theorem push_neg {x s} (h : Red s) : push (-x) (push x s) = s := by
  cases s with
  | nil => simp [push]
  | cons y t =>
    by_cases e : y = -x
    · subst e
      rw [show push x (-x :: t) = t from if_pos rfl]
      cases t with
      | nil => rfl
      | cons z u =>
        have := h.head
        exact if_neg this
    · rw [show push x (y :: t) = x :: y :: t from if_neg e]
      exact if_pos (by omega)
theorem push_act {x w s} (hs : Red s) : act (push x w) s = push x (act w s) := by
  cases w with
  | nil => rfl
  | cons y t =>
    by_cases e : y = -x
    · subst e
      rw [show push x (-x :: t) = t from if_pos rfl]
      have := push_neg (x := -x) (Red.act hs t)
      rw [Int.neg_neg] at this
      exact this.symm
    · rw [show push x (y :: t) = x :: y :: t from if_neg e]
      rfl
theorem act_act {v s} (hs : Red s) : ∀ u, act (act u v) s = act u (act v s)
  | [] => rfl
  | x :: u => (push_act hs).trans (congrArg (push x) (act_act hs u))
theorem act_append (u v s : List Int) : act (u ++ v) s = act u (act v s) := List.foldr_append
theorem inv_act {s} (hs : Red s) : ∀ u, act (inv u) (act u s) = s
  | [] => rfl
  | x :: u => by
    have e : inv (x :: u) = inv u ++ [-x] := by unfold inv; simp
    rw [e, act_append]
    show act (inv u) (push (-x) (push x (act u s))) = s
    rw [push_neg (Red.act hs u)]
    exact inv_act hs u
theorem act_inv {s} (hs : Red s) (u : List Int) : act u (act (inv u) s) = s := by
  have := inv_act hs (inv u)
  rw [inv_inv] at this
  exact this
theorem act_red : ∀ {p s}, Red (p ++ s) → act p s = p ++ s
  | [], _, _ => rfl
  | x :: p, s, h => by
    show push x (act p s) = x :: (p ++ s)
    rw [act_red (p := p) h.tail]
    cases e : p ++ s with
    | nil => rfl
    | cons y t =>
      have h2 : Red (x :: y :: t) := by rw [← e]; exact h
      exact if_neg h2.head
theorem act_nil {p} (h : Red p) : act p [] = p := by
  have := act_red (p := p) (s := []) (by simpa using h)
  simpa using this
theorem red_join {u v : List Int} (hu : Red u) (hv : Red v) (hj : ∀ p x y q, u = p ++ [x] → v = y :: q → y ≠ -x) : Red (u ++ v) := by
  induction u with
  | nil => exact hv
  | cons a u ih =>
    refine Red.cons (ih hu.tail fun p x y q e1 e2 => hj (a :: p) x y q (by rw [e1]; rfl) e2) fun y t e => ?_
    cases u with
    | nil => exact hj [] a y t rfl e
    | cons b u =>
      injection e with e1 _
      subst e1
      exact hu.head
/-- what the loop of joined_words finds -/
structure Cut (u v : List Int) (c : Nat) : Prop where
  lu : c ≤ u.length
  lv : c ≤ v.length
  same : ∀ i, i < c → ∃ x, u[u.length - 1 - i]? = some x ∧ v[i]? = some (-x)
theorem Cut.act {u v : List Int} : ∀ {c}, Cut u v c → act u v = act (u.take (u.length - c)) (v.drop c)
  | 0, _ => by simp
  | c + 1, h => by
    have hc : Cut u v c := ⟨Nat.le_of_succ_le h.lu, Nat.le_of_succ_le h.lv, fun i hi => h.same i (by omega)⟩
    rw [hc.act]
    obtain ⟨x, e1, e2⟩ := h.same c (by omega)
    have l1 := h.lu
    have l2 := h.lv
    have h1 : u.length - 1 - c < u.length := by omega
    have e3 : u.take (u.length - c) = u.take (u.length - (c + 1)) ++ [x] := by
      have : u.length - c = (u.length - 1 - c) + 1 := by omega
      rw [this, List.take_add_one, e1, show u.length - 1 - c = u.length - (c + 1) from by omega]
      rfl
    have e4 : v.drop c = -x :: v.drop (c + 1) := by
      have h2 : c < v.length := by omega
      rw [List.drop_eq_getElem_cons h2]
      rw [List.getElem?_eq_getElem h2] at e2
      injection e2 with e2
      rw [e2]
    rw [e3, e4, act_append]
    show WW.act _ (push x (-x :: v.drop (c + 1))) = _
    rw [show push x (-x :: v.drop (c + 1)) = v.drop (c + 1) from if_pos rfl]
theorem Red.take {u} (h : Red u) (n : Nat) : Red (u.take n) := fun p s x y e => h p (s ++ u.drop n) x y (by
  have h9 := List.take_append_drop n u
  rw [e] at h9
  simpa using h9.symm)
theorem Red.drop {u} (h : Red u) (n : Nat) : Red (u.drop n) := fun p s x y e => h (u.take n ++ p) s x y (by
  have h9 := List.take_append_drop n u
  rw [e] at h9
  simpa using h9.symm)
theorem Cut.join {u v : List Int} {c : Nat} (h : Cut u v c) (hu : Red u) (hv : Red v) (he : c = u.length ∨ c = v.length ∨ ∃ x y, u[u.length - 1 - c]? = some x ∧ v[c]? = some y ∧ x ≠ -y) :
    u.take (u.length - c) ++ v.drop c = WW.act u v := by
  rw [h.act]
  refine (act_red (red_join (hu.take _) (hv.drop _) fun p x y q e1 e2 => ?_)).symm
  have l1 := h.lu
  have l2 := h.lv
  rcases he with e | e | ⟨a, b, e3, e4, hn⟩
  · subst e; simp at e1
  · subst e; simp at e2
  · have h1 : c < u.length := by
      have := (List.getElem?_eq_some_iff.mp e3).1
      have h9 := congrArg List.length e1
      rw [List.length_take, List.length_append, List.length_singleton] at h9
      omega
    have h2 := (List.getElem?_eq_some_iff.mp e4).1
    rw [List.drop_eq_getElem_cons h2] at e2
    injection e2 with e5 _
    rw [List.getElem?_eq_getElem h2] at e4
    injection e4 with e4
    have e6 : (u.take (u.length - c))[u.length - 1 - c]? = some x := by
      rw [e1]
      have : p.length = u.length - 1 - c := by
        have h9 := congrArg List.length e1
        rw [List.length_take, List.length_append, List.length_singleton] at h9
        omega
      rw [← this]; simp
    rw [List.getElem?_take_of_lt (by omega), e3] at e6
    injection e6 with e6
    omega

/-! ### the word of a kind, of a row -/
def nf (num : Nat → Int) : Kd → List Int
  | pl c => [num c]
  | nd .b x y => act (nf num x) (inv (nf num y))
  | nd .a x y => act (inv (nf num x)) (nf num y)
  | nd .w x y => act (nf num x) (nf num y)
theorem nf_red (num : Nat → Int) : ∀ k, Red (nf num k)
  | pl c => red_one _
  | nd .b x y => (nf_red num y).inv.act _
  | nd .a x y => (nf_red num y).act _
  | nd .w x y => (nf_red num y).act _
def told (num : Nat → Int) (L : List Kd) : List Int := L.foldl (fun t k => act t (nf num k)) []
def actR (num : Nat → Int) (L : List Kd) (s : List Int) : List Int := L.foldr (fun k s => act (nf num k) s) s
theorem actR_append (num : Nat → Int) (L M : List Kd) (s : List Int) : actR num (L ++ M) s = actR num L (actR num M s) := List.foldr_append
theorem actR_red (num : Nat → Int) {s} (hs : Red s) : ∀ L, Red (actR num L s)
  | [] => hs
  | _ :: L => (actR_red num hs L).act _
theorem told_red (num : Nat → Int) (L : List Kd) : Red (told num L) := by
  have all : ∀ (L : List Kd) (t : List Int), Red t → Red (L.foldl (fun t k => act t (nf num k)) t) := by
    intro L
    induction L with
    | nil => exact fun t h => h
    | cons k L ih => exact fun t h => ih _ ((nf_red num k).act _)
  exact all L [] red_nil
theorem told_act (num : Nat → Int) (L : List Kd) {s} (hs : Red s) : act (told num L) s = actR num L s := by
  have all : ∀ (L : List Kd) (t : List Int), act (L.foldl (fun t k => act t (nf num k)) t) s = act t (actR num L s) := by
    intro L
    induction L with
    | nil => exact fun t => rfl
    | cons k L ih =>
      intro t
      show act (L.foldl _ (act t (nf num k))) s = _
      rw [ih, act_act (actR_red num hs L)]
      rfl
  exact all L []
theorem D.word (num : Nat → Int) {L G} (h : D L G) : ∀ s, Red s → actR num L s = act (nf num G) s := by
  have hb : ∀ x y s, Red s → act (nf num (nd .b x y)) s = act (nf num x) (act (inv (nf num y)) s) := fun x y s hs => act_act hs _
  have ha : ∀ x y s, Red s → act (nf num (nd .a x y)) s = act (inv (nf num x)) (act (nf num y) s) := fun x y s hs => act_act hs _
  have hw : ∀ x y s, Red s → act (nf num (nd .w x y)) s = act (nf num x) (act (nf num y) s) := fun x y s hs => act_act hs _
  induction h with
  | same C => exact fun s hs => rfl
  | @gb L A B _ _ ih =>
    intro s hs
    have h1 : Red (act (inv (nf num B)) s) := hs.act _
    have h2 := ih _ h1
    rw [actR_append] at h2
    have h3 : actR num [B] (act (inv (nf num B)) s) = s := act_inv hs _
    rw [h3] at h2
    rw [h2, hb _ _ _ hs]
  | @ga L A B _ _ ih =>
    intro s hs
    have h2 := ih s hs
    have h3 : actR num (B :: L) s = act (nf num B) (actR num L s) := rfl
    rw [h3] at h2
    rw [ha _ _ _ hs, ← h2, inv_act (actR_red num hs L)]
  | @jn X Y A B _ _ i1 i2 =>
    intro s hs
    rw [actR_append, i2 s hs, i1 _ (hs.act _), hw _ _ _ hs]
  | @pt X Y A B C _ ih =>
    intro s hs
    rw [← ih s hs, actR_append, actR_append]
    show actR num X (act (nf num (nd .w A B)) (actR num Y s)) = actR num X (act (nf num A) (act (nf num B) (actR num Y s)))
    rw [hw _ _ _ (actR_red num hs Y)]
  | @be X Y Z A B C _ _ i1 i2 =>
    intro s hs
    rw [← i1 s hs, actR_append, actR_append, actR_append]
    show actR num X (act (nf num (nd .b A B)) (actR num Z (actR num Y s))) = actR num X (act (nf num A) (actR num Y s))
    have hy := actR_red num hs Y
    rw [i2 _ hy, hb _ _ _ (hy.act _), inv_act hy]
  | @ah X Y Z A B C _ _ i1 i2 =>
    intro s hs
    rw [← i1 s hs, actR_append, actR_append, actR_append, actR_append]
    show actR num X (actR num Z (act (nf num (nd .a B A)) (actR num Y s))) = actR num X (act (nf num A) (actR num Y s))
    have hy := actR_red num hs Y
    rw [ha _ _ _ hy, i2 _ ((hy.act _).act _), act_inv (hy.act _)]
theorem D.told (num : Nat → Int) {L G} (h : D L G) : WW.told num L = nf num G := by
  have h1 := told_act num L red_nil
  rw [h.word num [] red_nil, act_nil (told_red num L), act_nil (nf_red num G)] at h1
  exact h1
/-! ### the sum of a kind, of a row -/
def sm (wt : Nat → Int) : Kd → Int
  | pl c => wt c
  | nd .b x y => sm wt x - sm wt y
  | nd .a x y => sm wt y - sm wt x
  | nd .w x y => sm wt x + sm wt y
theorem D.sum (wt : Nat → Int) {L G} (h : D L G) : (L.map (sm wt)).sum = sm wt G := by
  induction h with
  | same C => simp
  | @gb L A B _ _ ih => simp at ih ⊢; show _ = sm wt A - sm wt B; omega
  | @ga L A B _ _ ih => simp at ih ⊢; show _ = sm wt A - sm wt B; omega
  | @jn X Y A B _ _ i1 i2 => simp at i1 i2 ⊢; show _ = sm wt A + sm wt B; omega
  | @pt X Y A B C _ ih => simp at ih ⊢; have e : sm wt (nd .w A B) = sm wt A + sm wt B := rfl; omega
  | @be X Y Z A B C _ _ i1 i2 => simp at i1 i2 ⊢; have e : sm wt (nd .b A B) = sm wt A - sm wt B := rfl; omega
  | @ah X Y Z A B C _ _ i1 i2 => simp at i1 i2 ⊢; have e : sm wt (nd .a B A) = sm wt A - sm wt B := rfl; omega

/-! ### which rows are asked, and how many -/
abbrev Sg := List (Bool × Kd)
def parts : Bool → Fm → Kd → Kd → (Bool × Kd) × (Bool × Kd)
  | true, .b, x, y => ((true, x), (false, y))
  | true, .a, x, y => ((false, x), (true, y))
  | true, .w, x, y => ((true, x), (true, y))
  | false, .b, x, y => ((true, y), (false, x))
  | false, .a, x, y => ((false, y), (true, x))
  | false, .w, x, y => ((false, y), (false, x))
def cmb (L M : List Sg) : List Sg := L.flatMap fun u => M.map fun v => u ++ v
theorem mem_cmb {L M : List Sg} {l : Sg} : l ∈ cmb L M ↔ ∃ u v, u ∈ L ∧ v ∈ M ∧ l = u ++ v := by
  unfold cmb
  simp only [List.mem_flatMap, List.mem_map]
  constructor
  · rintro ⟨u, hu, v, hv, rfl⟩; exact ⟨u, v, hu, hv, rfl⟩
  · rintro ⟨u, v, hu, hv, rfl⟩; exact ⟨u, hu, v, hv, rfl⟩
theorem cmb_length (L M : List Sg) : (cmb L M).length = L.length * M.length := by
  unfold cmb
  induction L with
  | nil => simp
  | cons u L ih => simp [List.flatMap_cons, ih, Nat.succ_mul, Nat.add_comm]
def subs : Bool → Kd → List Sg
  | s, pl c => [[], [(s, pl c)]]
  | true, nd .b x y => [(true, nd .b x y)] :: cmb (subs true x) (subs false y)
  | true, nd .a x y => [(true, nd .a x y)] :: cmb (subs false x) (subs true y)
  | true, nd .w x y => [(true, nd .w x y)] :: cmb (subs true x) (subs true y)
  | false, nd .b x y => [(false, nd .b x y)] :: cmb (subs true y) (subs false x)
  | false, nd .a x y => [(false, nd .a x y)] :: cmb (subs false y) (subs true x)
  | false, nd .w x y => [(false, nd .w x y)] :: cmb (subs false y) (subs false x)
theorem subs_nd (s : Bool) (f : Fm) (x y : Kd) : subs s (nd f x y) = [(s, nd f x y)] :: cmb (subs (parts s f x y).1.1 (parts s f x y).1.2) (subs (parts s f x y).2.1 (parts s f x y).2.2) := by
  cases s <;> cases f <;> rfl
theorem parts_size (s : Bool) (f : Fm) (x y : Kd) : (parts s f x y).1.2.size + (parts s f x y).2.2.size = x.size + y.size := by
  cases s <;> cases f <;> simp [parts] <;> omega
theorem subs_self (s : Bool) (k : Kd) : [(s, k)] ∈ subs s k := by
  cases k with
  | pl c => cases s <;> simp [subs]
  | nd f x y => rw [subs_nd]; exact List.mem_cons_self
/-- induction over both parts of a kind, by its size -/
theorem kd_ind {P : Kd → Prop} (h1 : ∀ c, P (pl c)) (h2 : ∀ f x y, (∀ z, z.size < (nd f x y).size → P z) → P (nd f x y)) : ∀ k, P k := by
  have all : ∀ n k, k.size ≤ n → P k := by
    intro n
    induction n with
    | zero => exact fun k h => absurd k.size_pos (by omega)
    | succ n ih =>
      intro k h
      cases k with
      | pl c => exact h1 c
      | nd f x y => exact h2 f x y fun z hz => ih z (by omega)
  exact fun k => all k.size k (Nat.le_refl _)
theorem parts_lt (s : Bool) (f : Fm) (x y : Kd) : (parts s f x y).1.2.size < (nd f x y).size ∧ (parts s f x y).2.2.size < (nd f x y).size := by
  have h := parts_size s f x y
  have h1 := (parts s f x y).1.2.size_pos
  have h2 := (parts s f x y).2.2.size_pos
  have e : (nd f x y).size = x.size + y.size := rfl
  omega
theorem subs_nil (s : Bool) (k : Kd) : [] ∈ subs s k := by
  revert s
  induction k using kd_ind with
  | h1 c => intro s; cases s <;> simp [subs]
  | h2 f x y ih =>
    intro s
    have hl := parts_lt s f x y
    rw [subs_nd]
    exact List.mem_cons_of_mem _ (mem_cmb.mpr ⟨[], [], ih _ hl.1 _, ih _ hl.2 _, rfl⟩)
theorem one_split {α : Type} {z m : α} {p q : List α} (h : [z] = p ++ m :: q) : p = [] ∧ q = [] ∧ m = z := by
  cases p with
  | nil => injection h with a b; exact ⟨rfl, b.symm, a.symm⟩
  | cons a p => injection h with _ b; exact absurd b (by simp)
theorem cmb_trans {L M : List Sg} {t : Bool} {m : Kd} {p q w : Sg} (hL : ∀ p q, p ++ (t, m) :: q ∈ L → p ++ w ++ q ∈ L) (hM : ∀ p q, p ++ (t, m) :: q ∈ M → p ++ w ++ q ∈ M) (h : p ++ (t, m) :: q ∈ cmb L M) : p ++ w ++ q ∈ cmb L M := by
  obtain ⟨u, v, hu, hv, e⟩ := mem_cmb.mp h
  rcases split2 e.symm with ⟨S', e1, e2⟩ | ⟨P', e1, e2⟩
  · subst e1; subst e2
    exact mem_cmb.mpr ⟨_, v, hL _ _ hu, hv, by simp⟩
  · subst e1; subst e2
    exact mem_cmb.mpr ⟨u, _, hu, hM _ _ hv, by simp⟩
theorem subs_trans {t : Bool} {m : Kd} {w : Sg} (hw : w ∈ subs t m) : ∀ (k : Kd) (s : Bool) (p q : Sg), p ++ (t, m) :: q ∈ subs s k → p ++ w ++ q ∈ subs s k := by
  intro k
  induction k using kd_ind with
  | h1 c =>
    intro s p q h
    have h' : p ++ (t, m) :: q ∈ ([[], [(s, pl c)]] : List Sg) := by cases s <;> exact h
    rcases List.mem_cons.mp h' with e | e
    · exact absurd e (by simp)
    · obtain ⟨rfl, rfl, e2⟩ := one_split (List.mem_singleton.mp e).symm
      cases e2
      simpa using hw
  | h2 f x y ih =>
    intro s p q h
    have hl := parts_lt s f x y
    rw [subs_nd] at h ⊢
    rcases List.mem_cons.mp h with e | e
    · obtain ⟨rfl, rfl, e2⟩ := one_split e.symm
      cases e2
      rw [subs_nd] at hw
      simpa using hw
    · exact List.mem_cons_of_mem _ (cmb_trans (fun p q => ih _ hl.1 _ p q) (fun p q => ih _ hl.2 _ p q) e)
def subsL : Sg → List Sg
  | [] => [[]]
  | z :: r => cmb (subs z.1 z.2) (subsL r)
theorem subsL_self : ∀ L, L ∈ subsL L
  | [] => by simp [subsL]
  | z :: r => mem_cmb.mpr ⟨[z], r, subs_self _ _, subsL_self r, rfl⟩
theorem subsL_trans {t : Bool} {m : Kd} {w : Sg} (hw : w ∈ subs t m) : ∀ (L p q : Sg), p ++ (t, m) :: q ∈ subsL L → p ++ w ++ q ∈ subsL L
  | [], p, q, h => by
    have h' : p ++ (t, m) :: q = [] := by simpa [subsL] using h
    exact absurd h' (by simp)
  | z :: r, p, q, h => cmb_trans (fun p q => subs_trans hw z.2 z.1 p q) (subsL_trans hw r) h
def Sg.size (L : Sg) : Nat := (L.map fun z => z.2.size).sum
theorem subs_length (k : Kd) : ∀ s, (subs s k).length + 1 ≤ 3 ^ k.size := by
  induction k using kd_ind with
  | h1 c => intro s; cases s <;> exact Nat.le_refl _
  | h2 f x y ih =>
    intro s
    have hl := parts_lt s f x y
    have hs := parts_size s f x y
    have i1 := ih _ hl.1 (parts s f x y).1.1
    have i2 := ih _ hl.2 (parts s f x y).2.1
    have p1 := (parts s f x y).1.2.size_pos
    have p2 := (parts s f x y).2.2.size_pos
    rw [subs_nd, List.length_cons, cmb_length]
    have e : (nd f x y).size = x.size + y.size := rfl
    rw [e, ← hs, Nat.pow_add]
    have q1 : 3 ≤ 3 ^ (parts s f x y).1.2.size := by
      have := Nat.pow_le_pow_right (n := 3) (by omega) p1
      simpa using this
    generalize 3 ^ (parts s f x y).1.2.size = a at *
    generalize 3 ^ (parts s f x y).2.2.size = b at *
    generalize (subs (parts s f x y).1.1 (parts s f x y).1.2).length = m at *
    generalize (subs (parts s f x y).2.1 (parts s f x y).2.2).length = n at *
    have q2 : (m + 1) * (n + 1) ≤ a * b := Nat.mul_le_mul i1 i2
    have q3 : (m + 1) * (n + 1) = m * n + m + n + 1 := by rw [Nat.add_mul, Nat.mul_add]; omega
    by_cases hm : m = 0
    · subst hm
      have q4 : 3 * 1 ≤ a * b := Nat.mul_le_mul q1 (by omega)
      omega
    · omega
theorem subsL_length : ∀ L : Sg, (subsL L).length ≤ 3 ^ L.size
  | [] => Nat.le_refl _
  | z :: r => by
    have h1 := subs_length z.2 z.1
    have h2 := subsL_length r
    show (cmb _ _).length ≤ 3 ^ (((z :: r).map fun z => z.2.size).sum)
    rw [cmb_length, List.map_cons, List.sum_cons, Nat.pow_add]
    exact Nat.mul_le_mul (by omega) h2
/-- some turn of the ring is a part of L -/
def Cyc (L l : Sg) : Prop := ∃ x y, l = y ++ x ∧ x ++ y ∈ subsL L
theorem Cyc.turn {L u v : Sg} (h : Cyc L (u ++ v)) : Cyc L (v ++ u) := by
  obtain ⟨x, y, e, m⟩ := h
  -- u ++ v = y ++ x
  rcases List.append_eq_append_iff.mp e with ⟨w, e1, e2⟩ | ⟨w, e1, e2⟩
  · -- y = u ++ w, v = w ++ x ; v ++ u = w ++ x ++ u
    subst e1; subst e2
    exact ⟨x ++ u, w, by simp, by simpa using m⟩
  · -- u = y ++ w, x = w ++ v ; v ++ u = v ++ y ++ w
    subst e1; subst e2
    exact ⟨w, v ++ y, by simp, by simpa using m⟩
theorem Cyc.put {L u v w : Sg} {t : Bool} {m : Kd} (h : Cyc L (u ++ (t, m) :: v)) (hw : w ∈ subs t m) : Cyc L (u ++ w ++ v) := by
  obtain ⟨x, y, e, mm⟩ := h
  rcases split2 e.symm with ⟨S', e1, e2⟩ | ⟨P', e1, e2⟩
  · subst e1; subst e2
    refine ⟨x, u ++ w ++ S', by simp, ?_⟩
    have := subsL_trans hw L (x ++ u) S' (by simpa using mm)
    simpa using this
  · subst e1; subst e2
    refine ⟨P' ++ w ++ v, y, by simp, ?_⟩
    have := subsL_trans hw L P' (v ++ y) (by simpa using mm)
    simpa using this
theorem Cyc.del {L v : Sg} : ∀ {M u : Sg}, Cyc L (u ++ M ++ v) → Cyc L (u ++ v)
  | [], u, h => by simpa using h
  | (t, m) :: M, u, h => by
    have h1 := Cyc.put (u := u) (v := M ++ v) (w := []) (t := t) (m := m) (by simpa using h) (subs_nil t m)
    exact Cyc.del (M := M) (u := u) (by simpa using h1)
theorem Cyc.drop2 {L M : Sg} (u : Sg) (h : Cyc L (u ++ M)) : Cyc L u := by
  have := Cyc.del (u := u) (M := M) (v := []) (by simpa using h)
  simpa using this
theorem Cyc.two {L u v : Sg} {s : Bool} {f : Fm} {x y : Kd} (h : Cyc L (u ++ (s, nd f x y) :: v)) : Cyc L (u ++ [(parts s f x y).1, (parts s f x y).2] ++ v) :=
  h.put (by rw [subs_nd]; exact List.mem_cons_of_mem _ (mem_cmb.mpr ⟨_, _, subs_self _ _, subs_self _ _, rfl⟩))
abbrev pos (Γ : List Kd) : Sg := Γ.map fun k => (true, k)
def sg (Γ : List Kd) (C : Kd) : Sg := pos Γ ++ [(false, C)]
/-- what is asked of a row when it is asked -/
structure Closed (U : List Kd → Kd → Prop) : Prop where
  gb : ∀ {Γ A B}, U Γ (nd .b A B) → U (Γ ++ [B]) A
  ga : ∀ {Γ A B}, U Γ (nd .a B A) → U (B :: Γ) A
  jn1 : ∀ {Γ Δ A B}, U (Γ ++ Δ) (nd .w A B) → U Γ A
  jn2 : ∀ {Γ Δ A B}, U (Γ ++ Δ) (nd .w A B) → U Δ B
  pt : ∀ {Γ Δ A B C}, U (Γ ++ nd .w A B :: Δ) C → U (Γ ++ A :: B :: Δ) C
  be1 : ∀ {Γ Δ Θ A B C}, U (Γ ++ (nd .b A B :: Θ) ++ Δ) C → U (Γ ++ A :: Δ) C
  be2 : ∀ {Γ Δ Θ A B C}, U (Γ ++ (nd .b A B :: Θ) ++ Δ) C → U Θ B
  ah1 : ∀ {Γ Δ Θ A B C}, U (Γ ++ (Θ ++ [nd .a B A]) ++ Δ) C → U (Γ ++ A :: Δ) C
  ah2 : ∀ {Γ Δ Θ A B C}, U (Γ ++ (Θ ++ [nd .a B A]) ++ Δ) C → U Θ B
def Of (L : Sg) (Γ : List Kd) (C : Kd) : Prop := Cyc L (sg Γ C)
theorem of_closed (L : Sg) : Closed (Of L) where
  gb := fun {Γ A B} h => by
    have := Cyc.two (u := pos Γ) (v := []) h
    simpa [parts, sg, Of, pos] using this
  ga := fun {Γ A B} h => by
    have h1 : Cyc L ((pos Γ ++ [(false, A)]) ++ [(true, B)]) := by
      have := Cyc.two (u := pos Γ) (v := []) h
      simpa [parts] using this
    have := h1.turn
    simpa [sg, Of, pos] using this
  jn1 := fun {Γ Δ A B} h => by
    have h1 : Cyc L (pos Γ ++ (pos Δ ++ [(false, B)]) ++ [(false, A)]) := by
      have := Cyc.two (u := pos (Γ ++ Δ)) (v := []) h
      simpa [parts, pos] using this
    exact h1.del
  jn2 := fun {Γ Δ A B} h => by
    have h1 : Cyc L ([] ++ pos Γ ++ (pos Δ ++ [(false, B)] ++ [(false, A)])) := by
      have := Cyc.two (u := pos (Γ ++ Δ)) (v := []) h
      simpa [parts, pos] using this
    have h2 := h1.del
    exact Cyc.drop2 (M := [(false, A)]) _ (by simpa [sg] using h2)
  pt := fun {Γ Δ A B C} h => by
    have := Cyc.two (u := pos Γ) (v := pos Δ ++ [(false, C)]) (s := true) (f := .w) (x := A) (y := B) (by simpa [sg, Of, pos] using h)
    simpa [parts, sg, Of, pos] using this
  be1 := fun {Γ Δ Θ A B C} h => by
    have h1 := Cyc.two (u := pos Γ) (v := pos Θ ++ pos Δ ++ [(false, C)]) (s := true) (f := .b) (x := A) (y := B) (by simpa [sg, Of, pos] using h)
    have h2 := Cyc.del (u := pos Γ ++ [(true, A)]) (M := (false, B) :: pos Θ) (v := pos Δ ++ [(false, C)]) (by simpa [parts] using h1)
    simpa [sg, Of, pos] using h2
  be2 := fun {Γ Δ Θ A B C} h => by
    have h1 := Cyc.two (u := pos Γ) (v := pos Θ ++ pos Δ ++ [(false, C)]) (s := true) (f := .b) (x := A) (y := B) (by simpa [sg, Of, pos] using h)
    have h2 := Cyc.del (u := []) (M := pos Γ ++ [(true, A)]) (v := (false, B) :: pos Θ ++ (pos Δ ++ [(false, C)])) (by simpa [parts] using h1)
    have h3 : Cyc L ([(false, B)] ++ pos Θ) := Cyc.drop2 (M := pos Δ ++ [(false, C)]) _ (by simpa using h2)
    exact h3.turn
  ah1 := fun {Γ Δ Θ A B C} h => by
    have h1 := Cyc.two (u := pos Γ ++ pos Θ) (v := pos Δ ++ [(false, C)]) (s := true) (f := .a) (x := B) (y := A) (by simpa [sg, Of, pos] using h)
    have h2 := Cyc.del (u := pos Γ) (M := pos Θ ++ [(false, B)]) (v := (true, A) :: (pos Δ ++ [(false, C)])) (by simpa [parts] using h1)
    simpa [sg, Of, pos] using h2
  ah2 := fun {Γ Δ Θ A B C} h => by
    have h1 := Cyc.two (u := pos Γ ++ pos Θ) (v := pos Δ ++ [(false, C)]) (s := true) (f := .a) (x := B) (y := A) (by simpa [sg, Of, pos] using h)
    have h2 := Cyc.del (u := []) (M := pos Γ) (v := (pos Θ ++ [(false, B)]) ++ (true, A) :: (pos Δ ++ [(false, C)])) (by simpa [parts] using h1)
    exact Cyc.drop2 (M := (true, A) :: (pos Δ ++ [(false, C)])) _ (by simpa [sg, pos] using h2)
theorem closed_or {U V : List Kd → Kd → Prop} (hU : Closed U) (hV : Closed V) : Closed fun Γ C => U Γ C ∨ V Γ C where
  gb := fun h => h.imp hU.gb hV.gb
  ga := fun h => h.imp hU.ga hV.ga
  jn1 := fun h => h.imp hU.jn1 hV.jn1
  jn2 := fun h => h.imp hU.jn2 hV.jn2
  pt := fun h => h.imp hU.pt hV.pt
  be1 := fun h => h.imp hU.be1 hV.be1
  be2 := fun h => h.imp hU.be2 hV.be2
  ah1 := fun h => h.imp hU.ah1 hV.ah1
  ah2 := fun h => h.imp hU.ah2 hV.ah2
theorem of_self (Γ : List Kd) (C : Kd) : Of (sg Γ C) Γ C := ⟨sg Γ C, [], by simp, by simpa using subsL_self (sg Γ C)⟩
/-- the row and the kind of a turned ring -/
def dec : Sg → Sg → Option (List Kd × Kd)
  | _, [] => none
  | p, (true, k) :: r => dec (p ++ [(true, k)]) r
  | p, (false, C) :: r => some (r.map (·.2) ++ p.map (·.2), C)
theorem dec_pos (q : Sg) (C : Kd) : ∀ (Γ : List Kd) (p : Sg), dec p (pos Γ ++ (false, C) :: q) = some (q.map (·.2) ++ (p.map (·.2) ++ Γ), C)
  | [], p => by simp [dec]
  | k :: Γ, p => by
    show dec (p ++ [(true, k)]) (pos Γ ++ (false, C) :: q) = _
    rw [dec_pos q C Γ]
    simp
def univ (L : Sg) : List (List Kd × Kd) := (subsL L).filterMap (dec [])
theorem univ_length (L : Sg) : (univ L).length ≤ 3 ^ L.size := Nat.le_trans (List.length_filterMap_le _ _) (subsL_length L)
theorem mem_univ {L : Sg} {Γ : List Kd} {C : Kd} (h : Of L Γ C) : (Γ, C) ∈ univ L := by
  obtain ⟨x, y, e, m⟩ := h
  refine List.mem_filterMap.mpr ⟨x ++ y, m, ?_⟩
  have e' : pos Γ ++ [(false, C)] = y ++ x := e
  rcases List.append_eq_append_iff.mp e' with ⟨w, e1, e2⟩ | ⟨w, e1, e2⟩
  · -- y = pos Γ ++ w, [C] = w ++ x
    cases w with
    | nil =>
      simp at e1 e2
      subst e1; subst e2
      have := dec_pos (pos Γ) C [] []
      simpa [Function.comp_def] using this
    | cons a w =>
      injection e2 with e3 e4
      have e5 : w = [] ∧ x = [] := List.append_eq_nil_iff.mp e4.symm
      obtain ⟨rfl, rfl⟩ := e5
      subst e3; subst e1
      have := dec_pos [] C Γ []
      simpa using this
  · -- pos Γ = y ++ w, x = w ++ [C]
    obtain ⟨G1, G2, rfl, e3, e4⟩ := List.map_eq_append_iff.mp e1
    subst e3; subst e4; subst e2
    have := dec_pos (pos G1) C G2 []
    simpa [Function.comp_def] using this
theorem nodup_le {α : Type} : ∀ {l M : List α}, l.Nodup → (∀ x ∈ l, x ∈ M) → l.length ≤ M.length
  | [], _, _, _ => Nat.zero_le _
  | x :: l, M, hn, hs => by
    obtain ⟨a, b, rfl⟩ := List.append_of_mem (hs x List.mem_cons_self)
    have hn' := List.nodup_cons.mp hn
    have := nodup_le (l := l) (M := a ++ b) hn'.2 fun y hy => by
      have h := hs y (List.mem_cons_of_mem _ hy)
      rcases List.mem_append.mp h with h | h
      · exact List.mem_append_left _ h
      · rcases List.mem_cons.mp h with h | h
        · subst h; exact absurd hy hn'.1
        · exact List.mem_append_right _ h
    simp at this ⊢
    omega
end WW
/-! The text by places: printed by gen_text.py. -/
namespace WW
open PySem L2
def top (i : Nat) : Stmt := PySem.Challenge.pw_waitwords_k63_whole_kinds_above_and_belo.main.body.getD i (.Pass ⟨0, 0, 0, 0⟩)
abbrev s_WaitError_new : Stmt := inClass (top 1) 0
abbrev s_fresh : Stmt := top 6
abbrev s_is_letter : Stmt := top 10
abbrev s_wrong_part : Stmt := top 11
abbrev s_checked_kind : Stmt := top 12
abbrev s_checked_kinds : Stmt := top 13
abbrev s_joined_words : Stmt := top 16
abbrev s_back_word : Stmt := top 17
abbrev s_Table_new : Stmt := inClass (top 18) 0
abbrev s_Table_number : Stmt := inClass (top 18) 1
abbrev s_Table_keep : Stmt := inClass (top 18) 2
abbrev s_Table_letters_of : Stmt := inClass (top 18) 3
abbrev s_Table_may_come : Stmt := inClass (top 18) 4
abbrev s_Table_paper : Stmt := inClass (top 18) 5
abbrev s_Table_paper_anew : Stmt := inClass (top 18) 6
abbrev s_Table_joined_paper : Stmt := inClass (top 18) 7
abbrev s_Table_waiting_paper : Stmt := inClass (top 18) 8
abbrev s_Table_behind_paper : Stmt := inClass (top 18) 9
abbrev s_Table_ahead_paper : Stmt := inClass (top 18) 10
abbrev s_prove : Stmt := top 19
abbrev s_row_comes : Stmt := top 21
abbrev s_leads : Stmt := top 22
abbrev s_check_asked : Stmt := top 23
abbrev s_leads_to : Stmt := top 24
abbrev s_above : Stmt := top 25
abbrev s_below : Stmt := top 26
abbrev s_paper_for : Stmt := top 28
abbrev s_l_spring : Stmt := top 30
abbrev s_l_sip : Stmt := top 31
abbrev s_l_letters : Stmt := top 32
abbrev s_l_drawn : Stmt := top 33
abbrev s_l_size : Stmt := top 34
abbrev s_l_depth : Stmt := top 35
abbrev s_l_waits : Stmt := top 36
abbrev s_l_fits : Stmt := top 37
abbrev s_l_sum : Stmt := top 38
abbrev s_l_comes : Stmt := top 39
abbrev s_l_comes_anew : Stmt := top 40
abbrev s_l_put_together : Stmt := top 41
abbrev s_l_shown : Stmt := top 42
abbrev s_l_shown_at : Stmt := top 43
abbrev s_l_pool : Stmt := top 44
abbrev s_l_even : Stmt := top 45
abbrev s_l_three : Stmt := top 46
abbrev s_l_due : Stmt := top 47
abbrev s_l_told : Stmt := top 48
abbrev s_l_walked : Stmt := top 49
abbrev s_l_right : Stmt := top 50
abbrev s_law : Stmt := top 51
abbrev N_WaitError_new : List Str := ["self", "value"]
abbrev P_WaitError_new : List Str := ["self", "value"]
theorem sc_WaitError_new : FnScope N_WaitError_new P_WaitError_new (defScope s_WaitError_new) := ⟨rfl, rfl, rfl, by decide +kernel, rfl, by decide +kernel, by decide +kernel⟩
abbrev N_fresh : List Str := ["thing", "part"]
abbrev P_fresh : List Str := ["thing"]
theorem sc_fresh : FnScope N_fresh P_fresh (defScope s_fresh) := ⟨rfl, rfl, rfl, by decide +kernel, rfl, by decide +kernel, by decide +kernel⟩
abbrev N_is_letter : List Str := ["text"]
abbrev P_is_letter : List Str := ["text"]
theorem sc_is_letter : FnScope N_is_letter P_is_letter (defScope s_is_letter) := ⟨rfl, rfl, rfl, by decide +kernel, rfl, by decide +kernel, by decide +kernel⟩
abbrev N_wrong_part : List Str := ["kind", "wrong"]
abbrev P_wrong_part : List Str := ["kind"]
theorem sc_wrong_part : FnScope N_wrong_part P_wrong_part (defScope s_wrong_part) := ⟨rfl, rfl, rfl, by decide +kernel, rfl, by decide +kernel, by decide +kernel⟩
abbrev N_checked_kind : List Str := ["kind", "wrong"]
abbrev P_checked_kind : List Str := ["kind"]
theorem sc_checked_kind : FnScope N_checked_kind P_checked_kind (defScope s_checked_kind) := ⟨rfl, rfl, rfl, by decide +kernel, rfl, by decide +kernel, by decide +kernel⟩
abbrev N_checked_kinds : List Str := ["kinds", "kind"]
abbrev P_checked_kinds : List Str := ["kinds"]
theorem sc_checked_kinds : FnScope N_checked_kinds P_checked_kinds (defScope s_checked_kinds) := ⟨rfl, rfl, rfl, by decide +kernel, rfl, by decide +kernel, by decide +kernel⟩
abbrev N_joined_words : List Str := ["one", "other", "cut", "most"]
abbrev P_joined_words : List Str := ["one", "other"]
theorem sc_joined_words : FnScope N_joined_words P_joined_words (defScope s_joined_words) := ⟨rfl, rfl, rfl, by decide +kernel, rfl, by decide +kernel, by decide +kernel⟩
abbrev N_back_word : List Str := ["told", "sign"]
abbrev P_back_word : List Str := ["told"]
theorem sc_back_word : FnScope N_back_word P_back_word (defScope s_back_word) := ⟨rfl, rfl, rfl, by decide +kernel, rfl, by decide +kernel, by decide +kernel⟩
abbrev N_Table_new : List Str := ["self"]
abbrev P_Table_new : List Str := ["self"]
theorem sc_Table_new : FnScope N_Table_new P_Table_new (defScope s_Table_new) := ⟨rfl, rfl, rfl, by decide +kernel, rfl, by decide +kernel, by decide +kernel⟩
abbrev N_Table_number : List Str := ["self", "kind", "mark"]
abbrev P_Table_number : List Str := ["self", "kind"]
theorem sc_Table_number : FnScope N_Table_number P_Table_number (defScope s_Table_number) := ⟨rfl, rfl, rfl, by decide +kernel, rfl, by decide +kernel, by decide +kernel⟩
abbrev N_Table_keep : List Str := ["self", "mark", "kind", "pair", "told"]
abbrev P_Table_keep : List Str := ["self", "mark", "kind", "pair", "told"]
theorem sc_Table_keep : FnScope N_Table_keep P_Table_keep (defScope s_Table_keep) := ⟨rfl, rfl, rfl, by decide +kernel, rfl, by decide +kernel, by decide +kernel⟩
abbrev N_Table_letters_of : List Str := ["self", "mark", "form", "one", "other", "first", "second"]
abbrev P_Table_letters_of : List Str := ["self", "mark"]
theorem sc_Table_letters_of : FnScope N_Table_letters_of P_Table_letters_of (defScope s_Table_letters_of) := ⟨rfl, rfl, rfl, by decide +kernel, rfl, by decide +kernel, by decide +kernel⟩
abbrev N_Table_may_come : List Str := ["self", "row", "goal", "one", "told"]
abbrev P_Table_may_come : List Str := ["self", "row", "goal"]
theorem sc_Table_may_come : FnScope N_Table_may_come P_Table_may_come (defScope s_Table_may_come) := ⟨rfl, rfl, rfl, by decide +kernel, rfl, by decide +kernel, by decide +kernel⟩
-- cells: ['self']
abbrev N_Table_paper : List Str := ["self", "row", "goal"]
abbrev P_Table_paper : List Str := ["self", "row", "goal"]
theorem sc_Table_paper : FnScope N_Table_paper P_Table_paper (defScope s_Table_paper) := ⟨rfl, rfl, rfl, by decide +kernel, rfl, by decide +kernel, by decide +kernel⟩
abbrev N_Table_paper_anew : List Str := ["self", "row", "goal", "form", "one", "other", "found", "at", "part"]
abbrev P_Table_paper_anew : List Str := ["self", "row", "goal"]
theorem sc_Table_paper_anew : FnScope N_Table_paper_anew P_Table_paper_anew (defScope s_Table_paper_anew) := ⟨rfl, rfl, rfl, by decide +kernel, rfl, by decide +kernel, by decide +kernel⟩
abbrev N_Table_joined_paper : List Str := ["self", "row", "one", "other", "cut", "first", "second"]
abbrev P_Table_joined_paper : List Str := ["self", "row", "one", "other"]
theorem sc_Table_joined_paper : FnScope N_Table_joined_paper P_Table_joined_paper (defScope s_Table_joined_paper) := ⟨rfl, rfl, rfl, by decide +kernel, rfl, by decide +kernel, by decide +kernel⟩
abbrev N_Table_waiting_paper : List Str := ["self", "row", "goal", "at", "part", "found"]
abbrev P_Table_waiting_paper : List Str := ["self", "row", "goal"]
theorem sc_Table_waiting_paper : FnScope N_Table_waiting_paper P_Table_waiting_paper (defScope s_Table_waiting_paper) := ⟨rfl, rfl, rfl, by decide +kernel, rfl, by decide +kernel, by decide +kernel⟩
abbrev N_Table_behind_paper : List Str := ["self", "row", "at", "goal", "then", "wants", "end", "second", "first"]
abbrev P_Table_behind_paper : List Str := ["self", "row", "at", "goal"]
theorem sc_Table_behind_paper : FnScope N_Table_behind_paper P_Table_behind_paper (defScope s_Table_behind_paper) := ⟨rfl, rfl, rfl, by decide +kernel, rfl, by decide +kernel, by decide +kernel⟩
abbrev N_Table_ahead_paper : List Str := ["self", "row", "at", "goal", "wants", "then", "start", "second", "first"]
abbrev P_Table_ahead_paper : List Str := ["self", "row", "at", "goal"]
theorem sc_Table_ahead_paper : FnScope N_Table_ahead_paper P_Table_ahead_paper (defScope s_Table_ahead_paper) := ⟨rfl, rfl, rfl, by decide +kernel, rfl, by decide +kernel, by decide +kernel⟩
abbrev N_prove : List Str := ["row", "kind", "table", "one"]
abbrev P_prove : List Str := ["row", "kind"]
theorem sc_prove : FnScope N_prove P_prove (defScope s_prove) := ⟨rfl, rfl, rfl, by decide +kernel, rfl, by decide +kernel, by decide +kernel⟩
-- cells: ['table']
abbrev N_row_comes : List Str := ["row", "kind"]
abbrev P_row_comes : List Str := ["row", "kind"]
theorem sc_row_comes : FnScope N_row_comes P_row_comes (defScope s_row_comes) := ⟨rfl, rfl, rfl, by decide +kernel, rfl, by decide +kernel, by decide +kernel⟩
abbrev N_leads : List Str := ["one", "other"]
abbrev P_leads : List Str := ["one", "other"]
theorem sc_leads : FnScope N_leads P_leads (defScope s_leads) := ⟨rfl, rfl, rfl, by decide +kernel, rfl, by decide +kernel, by decide +kernel⟩
abbrev N_check_asked : List Str := ["row", "kinds", "kind"]
abbrev P_check_asked : List Str := ["row", "kinds"]
theorem sc_check_asked : FnScope N_check_asked P_check_asked (defScope s_check_asked) := ⟨rfl, rfl, rfl, by decide +kernel, rfl, by decide +kernel, by decide +kernel⟩
abbrev N_leads_to : List Str := ["one", "other"]
abbrev P_leads_to : List Str := ["one", "other"]
theorem sc_leads_to : FnScope N_leads_to P_leads_to (defScope s_leads_to) := ⟨rfl, rfl, rfl, by decide +kernel, rfl, by decide +kernel, by decide +kernel⟩
abbrev N_above : List Str := ["one", "other", "low", "kind"]
abbrev P_above : List Str := ["one", "other", "low"]
theorem sc_above : FnScope N_above P_above (defScope s_above) := ⟨rfl, rfl, rfl, by decide +kernel, rfl, by decide +kernel, by decide +kernel⟩
abbrev N_below : List Str := ["one", "other", "high", "kind"]
abbrev P_below : List Str := ["one", "other", "high"]
theorem sc_below : FnScope N_below P_below (defScope s_below) := ⟨rfl, rfl, rfl, by decide +kernel, rfl, by decide +kernel, by decide +kernel⟩
abbrev N_paper_for : List Str := ["row", "kind"]
abbrev P_paper_for : List Str := ["row", "kind"]
theorem sc_paper_for : FnScope N_paper_for P_paper_for (defScope s_paper_for) := ⟨rfl, rfl, rfl, by decide +kernel, rfl, by decide +kernel, by decide +kernel⟩
abbrev N_l_spring : List Str := ["_law_script", "_law_spot", "_law_cell", "_law_mixed"]
abbrev P_l_spring : List Str := ["_law_script", "_law_spot"]
theorem sc_l_spring : FnScope N_l_spring P_l_spring (defScope s_l_spring) := ⟨rfl, rfl, rfl, by decide +kernel, rfl, by decide +kernel, by decide +kernel⟩
abbrev N_l_sip : List Str := ["_law_spring_here", "_law_many", "_law_drawn_here", "_law_mixed"]
abbrev P_l_sip : List Str := ["_law_spring_here", "_law_many"]
theorem sc_l_sip : FnScope N_l_sip P_l_sip (defScope s_l_sip) := ⟨rfl, rfl, rfl, by decide +kernel, rfl, by decide +kernel, by decide +kernel⟩
abbrev N_l_letters : List Str := ["_law_spring_here", "_law_rest", "_law_found", "_law_turn", "_law_letter"]
abbrev P_l_letters : List Str := ["_law_spring_here"]
theorem sc_l_letters : FnScope N_l_letters P_l_letters (defScope s_l_letters) := ⟨rfl, rfl, rfl, by decide +kernel, rfl, by decide +kernel, by decide +kernel⟩
abbrev N_l_drawn : List Str := ["_law_spring_here", "_law_names", "_law_many", "_law_forms", "_law_cut", "_law_form"]
abbrev P_l_drawn : List Str := ["_law_spring_here", "_law_names", "_law_many", "_law_forms"]
theorem sc_l_drawn : FnScope N_l_drawn P_l_drawn (defScope s_l_drawn) := ⟨rfl, rfl, rfl, by decide +kernel, rfl, by decide +kernel, by decide +kernel⟩
abbrev N_l_size : List Str := ["_law_thing"]
abbrev P_l_size : List Str := ["_law_thing"]
theorem sc_l_size : FnScope N_l_size P_l_size (defScope s_l_size) := ⟨rfl, rfl, rfl, by decide +kernel, rfl, by decide +kernel, by decide +kernel⟩
abbrev N_l_depth : List Str := ["_law_thing"]
abbrev P_l_depth : List Str := ["_law_thing"]
theorem sc_l_depth : FnScope N_l_depth P_l_depth (defScope s_l_depth) := ⟨rfl, rfl, rfl, by decide +kernel, rfl, by decide +kernel, by decide +kernel⟩
abbrev N_l_waits : List Str := ["_law_thing"]
abbrev P_l_waits : List Str := ["_law_thing"]
theorem sc_l_waits : FnScope N_l_waits P_l_waits (defScope s_l_waits) := ⟨rfl, rfl, rfl, by decide +kernel, rfl, by decide +kernel, by decide +kernel⟩
abbrev N_l_fits : List Str := ["_law_line", "_law_goal", "_law_things", "_law_total", "_law_thing"]
abbrev P_l_fits : List Str := ["_law_line", "_law_goal"]
theorem sc_l_fits : FnScope N_l_fits P_l_fits (defScope s_l_fits) := ⟨rfl, rfl, rfl, by decide +kernel, rfl, by decide +kernel, by decide +kernel⟩
abbrev N_l_sum : List Str := ["_law_thing", "_law_names"]
abbrev P_l_sum : List Str := ["_law_thing", "_law_names"]
theorem sc_l_sum : FnScope N_l_sum P_l_sum (defScope s_l_sum) := ⟨rfl, rfl, rfl, by decide +kernel, rfl, by decide +kernel, by decide +kernel⟩
abbrev N_l_comes : List Str := ["_law_line", "_law_goal", "_law_names", "_law_known", "_law_mark", "_law_thing"]
abbrev P_l_comes : List Str := ["_law_line", "_law_goal", "_law_names", "_law_known"]
theorem sc_l_comes : FnScope N_l_comes P_l_comes (defScope s_l_comes) := ⟨rfl, rfl, rfl, by decide +kernel, rfl, by decide +kernel, by decide +kernel⟩
-- cells: ['_law_names']
abbrev N_l_comes_anew : List Str := ["_law_line", "_law_goal", "_law_names", "_law_known", "_law_spot", "_law_here", "_law_cut"]
abbrev P_l_comes_anew : List Str := ["_law_line", "_law_goal", "_law_names", "_law_known"]
theorem sc_l_comes_anew : FnScope N_l_comes_anew P_l_comes_anew (defScope s_l_comes_anew) := ⟨rfl, rfl, rfl, by decide +kernel, rfl, by decide +kernel, by decide +kernel⟩
abbrev N_l_put_together : List Str := ["_law_line", "_law_spot", "_law_goal", "_law_names", "_law_known", "_law_here", "_law_cut"]
abbrev P_l_put_together : List Str := ["_law_line", "_law_spot", "_law_goal", "_law_names", "_law_known"]
theorem sc_l_put_together : FnScope N_l_put_together P_l_put_together (defScope s_l_put_together) := ⟨rfl, rfl, rfl, by decide +kernel, rfl, by decide +kernel, by decide +kernel⟩
abbrev N_l_shown : List Str := ["_law_paper", "_law_form", "_law_sizes", "_law_known", "_law_line", "_law_goal", "_law_part"]
abbrev P_l_shown : List Str := ["_law_paper"]
theorem sc_l_shown : FnScope N_l_shown P_l_shown (defScope s_l_shown) := ⟨rfl, rfl, rfl, by decide +kernel, rfl, by decide +kernel, by decide +kernel⟩
abbrev N_l_shown_at : List Str := ["_law_form", "_law_spot", "_law_known", "_law_line", "_law_goal", "_law_left", "_law_here", "_law_right_here", "_law_more", "_law_wanted"]
abbrev P_l_shown_at : List Str := ["_law_form", "_law_spot", "_law_known"]
theorem sc_l_shown_at : FnScope N_l_shown_at P_l_shown_at (defScope s_l_shown_at) := ⟨rfl, rfl, rfl, by decide +kernel, rfl, by decide +kernel, by decide +kernel⟩
abbrev N_l_pool : List Str := ["_law_spring_here", "_law_names", "_law_thing", "_law_rows", "_law_turn", "_law_more", "_law_found", "_law_whole"]
abbrev P_l_pool : List Str := ["_law_spring_here", "_law_names"]
theorem sc_l_pool : FnScope N_l_pool P_l_pool (defScope s_l_pool) := ⟨rfl, rfl, rfl, by decide +kernel, rfl, by decide +kernel, by decide +kernel⟩
abbrev N_l_even : List Str := ["_law_thing", "_law_form", "_law_first", "_law_second"]
abbrev P_l_even : List Str := ["_law_thing"]
theorem sc_l_even : FnScope N_l_even P_l_even (defScope s_l_even) := ⟨rfl, rfl, rfl, by decide +kernel, rfl, by decide +kernel, by decide +kernel⟩
abbrev N_l_three : List Str := ["_law_spring_here", "_law_pool_here", "_law_rising", "_law_way"]
abbrev P_l_three : List Str := ["_law_spring_here", "_law_pool_here", "_law_rising"]
theorem sc_l_three : FnScope N_l_three P_l_three (defScope s_l_three) := ⟨rfl, rfl, rfl, by decide +kernel, rfl, by decide +kernel, by decide +kernel⟩
abbrev N_l_due : List Str := ["_law_three_here", "_law_rising", "_law_names", "_law_known", "_law_first", "_law_second", "_law_third", "_law_thing", "_law_comes_here"]
abbrev P_l_due : List Str := ["_law_three_here", "_law_rising", "_law_names", "_law_known"]
theorem sc_l_due : FnScope N_l_due P_l_due (defScope s_l_due) := ⟨rfl, rfl, rfl, by decide +kernel, rfl, by decide +kernel, by decide +kernel⟩
abbrev N_l_told : List Str := ["_law_three_here", "_law_rising", "_law_named", "_law_told_here", "e"]
abbrev P_l_told : List Str := ["_law_three_here", "_law_rising", "_law_named"]
theorem sc_l_told : FnScope N_l_told P_l_told (defScope s_l_told) := ⟨rfl, rfl, rfl, by decide +kernel, rfl, by decide +kernel, by decide +kernel⟩
abbrev N_l_walked : List Str := ["_law_line", "_law_goal"]
abbrev P_l_walked : List Str := ["_law_line", "_law_goal"]
theorem sc_l_walked : FnScope N_l_walked P_l_walked (defScope s_l_walked) := ⟨rfl, rfl, rfl, by decide +kernel, rfl, by decide +kernel, by decide +kernel⟩
abbrev N_l_right : List Str := ["_law_spring_here", "_law_rising", "_law_names", "_law_known", "_law_three_here", "_law_due_here", "_law_thing", "_law_line", "_law_goal", "_law_part"]
abbrev P_l_right : List Str := ["_law_spring_here", "_law_rising"]
theorem sc_l_right : FnScope N_l_right P_l_right (defScope s_l_right) := ⟨rfl, rfl, rfl, by decide +kernel, rfl, by decide +kernel, by decide +kernel⟩
abbrev N_law : List Str := ["_law_script", "_law_spot", "_law_spring_here"]
abbrev P_law : List Str := ["_law_script"]
theorem sc_law : FnScope N_law P_law (defScope s_law) := ⟨rfl, rfl, rfl, by decide +kernel, rfl, by decide +kernel, by decide +kernel⟩
/-! the head's lists -/
def fnL : List He.DefD := [
  ⟨("WaitError", some "__init__"), "__init__", "WaitError.__init__", defArgs s_WaitError_new, defBody s_WaitError_new, defScope s_WaitError_new, [], []⟩,
  ⟨("fresh", none), "fresh", "fresh", defArgs s_fresh, defBody s_fresh, defScope s_fresh, [], []⟩,
  ⟨("is_letter", none), "is_letter", "is_letter", defArgs s_is_letter, defBody s_is_letter, defScope s_is_letter, [], []⟩,
  ⟨("wrong_part", none), "wrong_part", "wrong_part", defArgs s_wrong_part, defBody s_wrong_part, defScope s_wrong_part, [], []⟩,
  ⟨("checked_kind", none), "checked_kind", "checked_kind", defArgs s_checked_kind, defBody s_checked_kind, defScope s_checked_kind, [], []⟩,
  ⟨("checked_kinds", none), "checked_kinds", "checked_kinds", defArgs s_checked_kinds, defBody s_checked_kinds, defScope s_checked_kinds, [], []⟩,
  ⟨("joined_words", none), "joined_words", "joined_words", defArgs s_joined_words, defBody s_joined_words, defScope s_joined_words, [], []⟩,
  ⟨("back_word", none), "back_word", "back_word", defArgs s_back_word, defBody s_back_word, defScope s_back_word, [], []⟩,
  ⟨("Table", some "__init__"), "__init__", "Table.__init__", defArgs s_Table_new, defBody s_Table_new, defScope s_Table_new, [], []⟩,
  ⟨("Table", some "number"), "number", "Table.number", defArgs s_Table_number, defBody s_Table_number, defScope s_Table_number, [], []⟩,
  ⟨("Table", some "keep"), "keep", "Table.keep", defArgs s_Table_keep, defBody s_Table_keep, defScope s_Table_keep, [], []⟩,
  ⟨("Table", some "letters_of"), "letters_of", "Table.letters_of", defArgs s_Table_letters_of, defBody s_Table_letters_of, defScope s_Table_letters_of, [], []⟩,
  ⟨("Table", some "may_come"), "may_come", "Table.may_come", defArgs s_Table_may_come, defBody s_Table_may_come, defScope s_Table_may_come, [], []⟩,
  ⟨("Table", some "paper"), "paper", "Table.paper", defArgs s_Table_paper, defBody s_Table_paper, defScope s_Table_paper, [], []⟩,
  ⟨("Table", some "paper_anew"), "paper_anew", "Table.paper_anew", defArgs s_Table_paper_anew, defBody s_Table_paper_anew, defScope s_Table_paper_anew, [], []⟩,
  ⟨("Table", some "joined_paper"), "joined_paper", "Table.joined_paper", defArgs s_Table_joined_paper, defBody s_Table_joined_paper, defScope s_Table_joined_paper, [], []⟩,
  ⟨("Table", some "waiting_paper"), "waiting_paper", "Table.waiting_paper", defArgs s_Table_waiting_paper, defBody s_Table_waiting_paper, defScope s_Table_waiting_paper, [], []⟩,
  ⟨("Table", some "behind_paper"), "behind_paper", "Table.behind_paper", defArgs s_Table_behind_paper, defBody s_Table_behind_paper, defScope s_Table_behind_paper, [], []⟩,
  ⟨("Table", some "ahead_paper"), "ahead_paper", "Table.ahead_paper", defArgs s_Table_ahead_paper, defBody s_Table_ahead_paper, defScope s_Table_ahead_paper, [], []⟩,
  ⟨("prove", none), "prove", "prove", defArgs s_prove, defBody s_prove, defScope s_prove, [], []⟩,
  ⟨("row_comes", none), "row_comes", "row_comes", defArgs s_row_comes, defBody s_row_comes, defScope s_row_comes, [], []⟩,
  ⟨("leads", none), "leads", "leads", defArgs s_leads, defBody s_leads, defScope s_leads, [], []⟩,
  ⟨("check_asked", none), "check_asked", "check_asked", defArgs s_check_asked, defBody s_check_asked, defScope s_check_asked, [], []⟩,
  ⟨("leads_to", none), "leads_to", "leads_to", defArgs s_leads_to, defBody s_leads_to, defScope s_leads_to, [], []⟩,
  ⟨("above", none), "above", "above", defArgs s_above, defBody s_above, defScope s_above, [], []⟩,
  ⟨("below", none), "below", "below", defArgs s_below, defBody s_below, defScope s_below, [], []⟩,
  ⟨("paper_for", none), "paper_for", "paper_for", defArgs s_paper_for, defBody s_paper_for, defScope s_paper_for, [], []⟩,
  ⟨("_law_spring", none), "_law_spring", "_law_spring", defArgs s_l_spring, defBody s_l_spring, defScope s_l_spring, [], []⟩,
  ⟨("_law_sip", none), "_law_sip", "_law_sip", defArgs s_l_sip, defBody s_l_sip, defScope s_l_sip, [], []⟩,
  ⟨("_law_letters", none), "_law_letters", "_law_letters", defArgs s_l_letters, defBody s_l_letters, defScope s_l_letters, [], []⟩,
  ⟨("_law_drawn", none), "_law_drawn", "_law_drawn", defArgs s_l_drawn, defBody s_l_drawn, defScope s_l_drawn, [], []⟩,
  ⟨("_law_size", none), "_law_size", "_law_size", defArgs s_l_size, defBody s_l_size, defScope s_l_size, [], []⟩,
  ⟨("_law_depth", none), "_law_depth", "_law_depth", defArgs s_l_depth, defBody s_l_depth, defScope s_l_depth, [], []⟩,
  ⟨("_law_waits", none), "_law_waits", "_law_waits", defArgs s_l_waits, defBody s_l_waits, defScope s_l_waits, [], []⟩,
  ⟨("_law_fits", none), "_law_fits", "_law_fits", defArgs s_l_fits, defBody s_l_fits, defScope s_l_fits, [], []⟩,
  ⟨("_law_sum", none), "_law_sum", "_law_sum", defArgs s_l_sum, defBody s_l_sum, defScope s_l_sum, [], []⟩,
  ⟨("_law_comes", none), "_law_comes", "_law_comes", defArgs s_l_comes, defBody s_l_comes, defScope s_l_comes, [], []⟩,
  ⟨("_law_comes_anew", none), "_law_comes_anew", "_law_comes_anew", defArgs s_l_comes_anew, defBody s_l_comes_anew, defScope s_l_comes_anew, [], []⟩,
  ⟨("_law_put_together", none), "_law_put_together", "_law_put_together", defArgs s_l_put_together, defBody s_l_put_together, defScope s_l_put_together, [], []⟩,
  ⟨("_law_shown", none), "_law_shown", "_law_shown", defArgs s_l_shown, defBody s_l_shown, defScope s_l_shown, [], []⟩,
  ⟨("_law_shown_at", none), "_law_shown_at", "_law_shown_at", defArgs s_l_shown_at, defBody s_l_shown_at, defScope s_l_shown_at, [], []⟩,
  ⟨("_law_pool", none), "_law_pool", "_law_pool", defArgs s_l_pool, defBody s_l_pool, defScope s_l_pool, [], []⟩,
  ⟨("_law_even", none), "_law_even", "_law_even", defArgs s_l_even, defBody s_l_even, defScope s_l_even, [], []⟩,
  ⟨("_law_three", none), "_law_three", "_law_three", defArgs s_l_three, defBody s_l_three, defScope s_l_three, [], []⟩,
  ⟨("_law_due", none), "_law_due", "_law_due", defArgs s_l_due, defBody s_l_due, defScope s_l_due, [], []⟩,
  ⟨("_law_told", none), "_law_told", "_law_told", defArgs s_l_told, defBody s_l_told, defScope s_l_told, [], []⟩,
  ⟨("_law_walked", none), "_law_walked", "_law_walked", defArgs s_l_walked, defBody s_l_walked, defScope s_l_walked, [], []⟩,
  ⟨("_law_right", none), "_law_right", "_law_right", defArgs s_l_right, defBody s_l_right, defScope s_l_right, [], []⟩,
  ⟨("law", none), "law", "law", defArgs s_law, defBody s_law, defScope s_law, [], []⟩]
-- fnL 0: WaitError.__init__
-- fnL 1: fresh
-- fnL 2: is_letter
-- fnL 3: wrong_part
-- fnL 4: checked_kind
-- fnL 5: checked_kinds
-- fnL 6: joined_words
-- fnL 7: back_word
-- fnL 8: Table.__init__
-- fnL 9: Table.number
-- fnL 10: Table.keep
-- fnL 11: Table.letters_of
-- fnL 12: Table.may_come
-- fnL 13: Table.paper
-- fnL 14: Table.paper_anew
-- fnL 15: Table.joined_paper
-- fnL 16: Table.waiting_paper
-- fnL 17: Table.behind_paper
-- fnL 18: Table.ahead_paper
-- fnL 19: prove
-- fnL 20: row_comes
-- fnL 21: leads
-- fnL 22: check_asked
-- fnL 23: leads_to
-- fnL 24: above
-- fnL 25: below
-- fnL 26: paper_for
-- fnL 27: _law_spring
-- fnL 28: _law_sip
-- fnL 29: _law_letters
-- fnL 30: _law_drawn
-- fnL 31: _law_size
-- fnL 32: _law_depth
-- fnL 33: _law_waits
-- fnL 34: _law_fits
-- fnL 35: _law_sum
-- fnL 36: _law_comes
-- fnL 37: _law_comes_anew
-- fnL 38: _law_put_together
-- fnL 39: _law_shown
-- fnL 40: _law_shown_at
-- fnL 41: _law_pool
-- fnL 42: _law_even
-- fnL 43: _law_three
-- fnL 44: _law_due
-- fnL 45: _law_told
-- fnL 46: _law_walked
-- fnL 47: _law_right
-- fnL 48: law
def loose1 : List PySem.Str := ["WaitError", "InvalidKind", "InvalidRow", "NotLeading", "fresh", "LETTERS", "TURNS", "is_letter", "wrong_part", "checked_kind", "checked_kinds", "STEP", "joined_words", "back_word", "Table", "prove", "row_comes", "leads", "check_asked", "leads_to", "above", "below"]
def loose2 : List PySem.Str := ["paper_for", "_law_spring", "_law_sip", "_law_letters", "_law_drawn", "_law_size", "_law_depth", "_law_waits", "_law_fits", "_law_sum", "_law_comes", "_law_comes_anew", "_law_put_together", "_law_shown", "_law_shown_at", "_law_pool", "_law_even", "_law_three", "_law_due", "_law_told", "_law_walked", "_law_right"]
def fa0 : List He.Fa := [.glo "WaitError", .glo "InvalidKind", .glo "InvalidRow", .glo "NotLeading", .glo "fresh", .glo "TURNS", .glo "is_letter", .glo "wrong_part", .glo "checked_kind", .glo "checked_kinds", .glo "joined_words", .glo "back_word", .glo "Table", .glo "prove", .glo "row_comes", .glo "leads", .glo "check_asked", .glo "leads_to", .glo "above", .glo "below", .glo "paper_for", .glo "_law_spring", .glo "_law_sip", .glo "_law_letters", .glo "_law_drawn", .glo "_law_size", .glo "_law_depth", .glo "_law_waits", .glo "_law_fits", .glo "_law_sum"]
def fa1 : List He.Fa := [.glo "_law_comes", .glo "_law_comes_anew", .glo "_law_put_together", .glo "_law_shown", .glo "_law_shown_at", .glo "_law_pool", .glo "_law_even", .glo "_law_three", .glo "_law_due", .glo "_law_told", .glo "_law_walked", .glo "_law_right", .glo "law", .free "ValueError", .free "isinstance", .free "list", .free "tuple", .free "len", .free "min", .free "max", .free "sum", .free "range", .free "enumerate", .free "repr", .free "int", .free "abs", .free "bool", .int "STEP" 4096, .str "LETTERS" "abcdefghijklmnopqrstuvwxyz", .cls "Table"]
def fa2 : List He.Fa := [.mkr "Table", .noat "Table" "marks", .noat "Table" "shapes", .noat "Table" "forms", .noat "Table" "pairs", .noat "Table" "sums", .noat "Table" "spelled", .noat "Table" "cores", .noat "Table" "weight", .noat "Table" "met", .noat "Table" "known", .meth "Table" "number", .meth "Table" "keep", .meth "Table" "letters_of", .meth "Table" "may_come", .meth "Table" "paper", .meth "Table" "paper_anew", .meth "Table" "joined_paper", .meth "Table" "waiting_paper", .meth "Table" "behind_paper", .meth "Table" "ahead_paper", .noat "NotLeading" "value", .exm "NotLeading" "NotLeading" true, .keep "NotLeading", .glo "law"]
def faL : List He.Fa := fa0 ++ fa1 ++ fa2
end WW
namespace WW
open PySem PySem.Spec PyProof.Rows L2
/-- what the class of an error must have -/
def oexB (K : PySem.W.Frag) (C : Addr) : Bool := match K.lookup C with
  | some ⟨.type t, _, .cls cd, sl⟩ => t == "type" && (match cd.mro, sl.toList with
    | .ref C' :: bm, [_, _, _, _, some (.builtin n), _] => C' == C && (n == "ValueError.__new__" && (!cd.hasDel && (cd.hasDict && PySem.HandSPX.refsVE bm)))
    | _, _ => false)
  | _ => false
def exB (K : PySem.W.Frag) : Bool := oexB K (He.ga K "NotLeading") && (xfB K (He.ga K "NotLeading") &&
  (decide (PySem.W.findIn K (.ref (He.ga K "NotLeading")) "__setattr__" = some (some (.builtin "object.__setattr__"))) &&
  (decide (PySem.W.subIn K (.ref (He.ga K "NotLeading")) (.type "BaseException") = some true) &&
  (decide (PySem.W.typeIn K (.ref (He.ga K "NotLeading")) = some (.type "type")) &&
  (decide (PySem.W.findIn K (.ref (He.ga K "NotLeading")) "__init__" = some (some (.ref (He.fAd K ("WaitError", some "__init__"))))) &&
  (decide (PySem.W.typeIn K (.ref (He.fAd K ("WaitError", some "__init__"))) = some (.type "function")) &&
  (["behind", "ahead", "with"] : List PySem.Str).all fun z => match PySem.W.nsIn K (He.ga K "TURNS") z with
    | some (some _) => true
    | _ => false))))))
def tsL : List He.Tab := [(fun K => He.ga K "TURNS", ["behind", "ahead", "with"])]
abbrev RWr : PySem.W.OpenRow := PySem.W.OpenLaw.row PySem.Challenge.rw_waitwords_k63_whole_kinds_above_and_belo
abbrev hk : PySem.W.Hook := He.hookX 5 faL fnL tsL [] exB
def ob (s : PySem.W.SharedT) : He.AlX := He.obsX 5 faL fnL tsL [] exB (HandSHeadRun.getT s)
theorem ob_eq (s : PySem.W.SharedT) : ob s = hk.obs s.abs := He.obsX_eq (HandSHeadRun.getT_eq s)
end WW
namespace WW
open PySem PySem.Spec PyProof.Rows L2
theorem rAll (w : World) : HandSHeadRun.RunEq RWr (PySem.W.view RWr.prog [51]) (hk) (ob) 4000 (loose1 ++ loose2) w :=
  PySem.W.byRow2 "special-get-raises" (P := fun w => HandSHeadRun.RunEq RWr (PySem.W.view RWr.prog [51]) (hk) (ob) 4000 (loose1 ++ loose2) w) (fun w os => by kernel_rfl) (fun w os => by kernel_rfl) w
end WW
/-! Rules of our own, over the layer. -/
namespace WW
open PySem PySem.Spec PyProof.Rows L2

/-! ### great powers, *= on an attribute -/
theorem op_powB {X : Cx} : OpR X (binaryOp .Pow) (rI (fun i j => 0 ≤ j ∧ (Builtin.Int.intBits i : Int) * j ≤ 2 ^ 27) fun i j => .int (i ^ j.toNat)) :=
  opI fun _ _ _ _ _ _ _ hc q => PyProof.Rows.pow_int hc.1 hc.2 q
def rMulA : V → V → Hp → VK → Prop := fun x y H Q => ∃ i j, x = .int i ∧ y = .int j ∧ CMulW i j ∧ Q (.int (i * j)) H
theorem in_mulW {X : Cx} : InOp X .Mult rMulA := by
  intro pins s σ H x y u v Q I rx ry h
  obtain ⟨i, j, rfl, rfl, hc, q⟩ := h
  obtain ⟨t, rfl⟩ := rx
  obtain ⟨t', rfl⟩ := ry
  exact PyProof.Rows.imul_int ⟨.int (i * j), H, I.tok _, ⟨_, rfl⟩, q⟩ hc.ok

/-! ### repr of data -/
theorem call_reprD {X : Cx} (hg : X.A.guards = some []) (hu : X.A.units + 64 < cLine) : CallR X (.builtin "repr") (fun xs H Q => ∃ a d, xs = [.ref a] ∧ Dp X.K H (.ref a) d ∧ d.showable = true ∧ d.hasDict = false ∧ d.depth ≤ 40 ∧ d.shown.length ≤ sizeLine ∧ Q (.str d.shown) H) := by
  intro pins s σ H xs us Q I r h
  obtain ⟨a, d, rfl, hd, h1, h2, h3, h4, q⟩ := h
  obtain ⟨u, rfl, ru⟩ := vals1 r
  cases ru
  obtain ⟨as, rd⟩ := Dp.reads I d _ _ hd rfl
  exact repr_of_reads' rd h1 (PyData.noDict_hsm h2) hg (by omega) (fun b o e => e) (fun h' u tk k => ⟨.str _, H, I.kept k, ⟨_, rfl⟩, q⟩) h4

/-! ### defs that want to know what is being shown around them (nothing) -/
structure FnG (P : Program) (w : World) (K : PySem.W.Frag) (mg : Str → Option Value) (base : Heap) (CX : CXT) (k : Nat) (f : Addr) (fd : FuncData) (ps : List Str) (sp : Sp) : Prop where
  len : ∀ vs H Q E, sp vs H Q E → vs.length = ps.length
  go : ∀ (A : Around) (outer : List Env) (s : Shared) (H : Hp) (args : Args) (us : List Value) (vs : List V) (Q : VK) (E : XK), A.guards = some [] → Room k A → Env0 P w K mg base A outer s H →
    BindsTo s fd args (ps.zip us) → Vals vs us → sp vs H Q E → codeAny (model P w) A (.call (.ref f) args) (CR CX outer P w H s Q E) s
section
variable {P : Program} {w : World} {K : PySem.W.Frag} {mg : Str → Option Value} {base : Heap} {CX : CXT} {x qual : Str} {params : Arguments} {body : List Stmt} {scope : Scope} {dvs : List V} {kws : List (Str × V)} {f : Addr} {fd : FuncData} {N ps : List Str} {k : Nat} {sp : Sp}
theorem FnG.mono {j : Nat} (F : FnG P w K mg base CX j f fd ps sp) (h : j ≤ k) : FnG P w K mg base CX k f fd ps sp :=
  ⟨F.len, fun A outer s H args us vs Q E hg hr => F.go A outer s H args us vs Q E hg (hr.mono h)⟩
theorem funD_okG (F : FunD K x qual params body scope dvs kws f fd) (S : FnScope N ps scope) (len : ∀ vs H Q E, sp vs H Q E → vs.length = ps.length)
    (hb : ∀ (cdv : Value) (A : Around) (outer : List Env) (s : Shared) (H : Hp) (vs : List V) (Q : VK) (E : XK), (A.deeper (envOfC qual scope s.heap.objs.size f cdv)).guards = some [] →
      Room k (A.deeper (envOfC qual scope s.heap.objs.size f cdv)) → sp vs H Q E →
      ∃ t, PSs (cxOf CX P w K mg base N qual scope f cdv A outer s H E) body t ∧ t { nx := fun _ H' => Q .non H', rt := Q } (start N vs) H) : FnG P w K mg base CX (k + 1) f fd ps sp := by
  obtain ⟨oc, od, dV, kV, doc, pm, an, cdv, ct, osl, rfl, lk, hcd, _, _⟩ := F.ex
  refine ⟨len, fun A outer s H args us vs Q E hg hr e0 bn rv hsp => ?_⟩
  have hk : ∀ y ∈ ps.zip us, scope.names.lookup y.1 = some .local ∨ (scope.names.lookup y.1 = some .cell ∧ ((cellsFrom (s.heap.objs.size + 1) scope.names []).lookup y.1).isSome = true) := by
    intro y hy
    obtain ⟨n, v⟩ := y
    exact (S.par n (List.of_mem_zip hy).1).imp id fun q => ⟨q, PySem.W.cellsFrom_some _ _ _ (.inl q)⟩
  have back : ∀ b o, base.get? b = some o → s.heap.get? b = some o := fun b o e => (e0.bs b o e).1
  have hin := e0.mod.kin.keeps back
  refine codeAny_call_function hr.depth (hin _ _ lk) rfl S.co S.gen rfl (PySem.W.codeRec_of hin hcd) (bn _ _ _ _ (wpAny_newFunctionEnv_cells S.kind hk fun env he s1 x1 => ?_))
  subst he
  refine ⟨(e0.mod.nolimit.keeps back).keeps x1.toInCall.keep, codeAny_func ?_⟩
  obtain ⟨t, ht, hq⟩ := hb cdv A outer s H vs Q E hg (hr.deeper _) hsp
  have J := inv_start (CX := CX) (E := E) (K := K) (mg := mg) (base := base) S hr.hd e0 (len _ _ _ _ hsp) rv x1
  refine wpAny_mono (ht.run [] s1 _ H _ J hq) (fun fl s' hs => ?_) fun e s' hs => hs
  cases fl with
  | ret u =>
    obtain ⟨v, σ', H', J', rv', q⟩ := hs
    exact ⟨v, H', J'.os, J'.bare, J'.base, J'.hok, rv', q⟩
  | next =>
    obtain ⟨σ', H', J', q⟩ := hs
    exact ⟨.non, H', J'.os, J'.bare, J'.base, J'.hok, rfl, q⟩
  | brk => exact (let ⟨_, _, _, q⟩ := hs; q : False).elim
  | cont => exact (let ⟨_, _, _, q⟩ := hs; q : False).elim
end
section
variable {X : Cx} {CX : CXT} {k : Nat} {f : Addr} {fd : FuncData} {ps : List Str} {sp : Sp} {E : XK} {x : Str} {p pos : Pos} {e : Expr} {es : List Expr} {t : TA}
theorem pe_callG (F : FnG X.prog X.w X.K X.mg X.base CX k f fd ps sp) (hgd : X.A.guards = some []) (hr : Room k X.A) (hg : Gl X x) (hm : X.mg x = some (.ref f)) (hk : PySem.W.keepIn X.K (.ref f) = true) (hb : Binds X.K fd ps []) (hx : Passes CX X E)
    (ha : PA X (e :: es) t) (hdb : (x == ("__debug__" : Str)) = false := by decide) (he : starEach (e :: es) X.env = (false, eval e X.env) :: starEach es X.env := by rfl)
    (hpl : (backTo pos (starEach es X.env)).any (·.1) = false := by rfl) : PE X (.Call (.Name x p) (e :: es) [] pos) (tCall sp [] E t) := by
  refine ⟨fun pins s σ H Q I h => wpAny_Call_Name_kw (ld_glob I hg hm (PySem.W.callWith_K (h₀ := X.base) I.ok.mod.kin hk (thn (ha.run pos pins s σ H _ I h) fun us s1 ⟨vs, H1, I1, r, q⟩ => ⟨I1.kIn, ?_⟩) he hpl) hdb)⟩
  have q : sp vs H1 Q E := by
    have q' : sp (vs ++ []) H1 Q E := q
    rwa [List.append_nil] at q'
  have hl : (us ++ []).length = ps.length := by
    rw [List.append_nil, ← r.length]
    exact F.len _ _ _ _ q
  have bn := hb s1 us I1.kIn hl
  rw [List.append_nil] at bn
  refine wpAny_call (codeAny_mono (F.go X.A X.stack s1 H1 ⟨us, []⟩ us vs Q E hgd hr I1.env0 bn r q) fun rs s' hq => ?_)
  match rs, hq with
  | .error er, hq => exact hx pins σ H1 s1 er s' I1 hq
  | .ok (.ret u), hq => exact I1.after hq
  | .ok .next, hq => exact False.elim hq
  | .ok .brk, hq => exact False.elim hq
  | .ok .cont, hq => exact False.elim hq
end

/-! ### a dict whose keys are (a tuple of numbers, a number) -/
abbrev RK := List Nat × Nat
def nk (k : RK) : NestedKey := .tup [.tup (k.1.map fun (n : Nat) => .num (n : Int)), .num (k.2 : Int)]
theorem nums_inj : ∀ {l m : List Nat}, l.map (fun (n : Nat) => NestedKey.num (n : Int)) = m.map (fun (n : Nat) => NestedKey.num (n : Int)) → l = m
  | [], [], _ => rfl
  | [], b :: m, h => by cases h
  | a :: l, [], h => by cases h
  | a :: l, b :: m, h => by
    rw [List.map_cons, List.map_cons] at h
    injection h with h1 h2
    injection h1 with h1
    rw [nums_inj h2, Int.ofNat.inj h1]
theorem nk_inj {a b : RK} (h : nk a = nk b) : a = b := by
  obtain ⟨l, n⟩ := a
  obtain ⟨m, j⟩ := b
  unfold nk at h
  injection h with h
  injection h with h1 h2
  injection h1 with h1
  injection h2 with h2 _
  injection h2 with h2
  have e1 : l = m := nums_inj h1
  have e2 : n = j := Int.ofNat.inj h2
  rw [e1, e2]
abbrev nums (l : List Nat) : List V := l.map fun (n : Nat) => V.int (n : Int)
/-- at a: the tuple that is the key k -/
def KeyAt (H : Hp) (a : Addr) (k : RK) : Prop := ∃ r, H a = some (.tup [.ref r, .int (k.2 : Int)]) ∧ H r = some (.tup (nums k.1))
def nD (P : Program) (w : World) (d : Addr) (xs : List (NestedKey × Addr × Value)) : HO := .ext fun h => (d == sysModules) = false ∧
  ∃ o es ep, h.get? d = some o ∧ o.ExactDict ∧ o.data = .dict es ep ∧ es.toList = xs.map (entryOfKey (nestedKind P w)) ∧ (xs.map (·.1)).Nodup
abbrev NP (H : Hp) (kvs : List (RK × V)) (xs : List (NestedKey × Addr × Value)) : Prop := Paired (fun (p : RK × V) (q : NestedKey × Addr × Value) => q.1 = nk p.1 ∧ KeyAt H q.2.1 p.1 ∧ RelV p.2 q.2.2) kvs xs
/-- at d: the dict of these keys and values -/
def ND (P : Program) (w : World) (H : Hp) (d : Addr) (kvs : List (RK × V)) : Prop := ∃ xs, H d = some (nD P w d xs) ∧ NP H kvs xs
theorem KeyAt.keep {H H' : Hp} {a : Addr} {k : RK} (h : KeyAt H a k) (ht : ∀ b xs, H b = some (.tup xs) → H' b = some (.tup xs)) : KeyAt H' a k :=
  let ⟨r, h1, h2⟩ := h
  ⟨r, ht _ _ h1, ht _ _ h2⟩
theorem ND.keep {P : Program} {w : World} {H H' : Hp} {d : Addr} {kvs : List (RK × V)} (h : ND P w H d kvs) (ht : ∀ b xs, H b = some (.tup xs) → H' b = some (.tup xs)) (hd : ∀ o, H d = some o → H' d = some o) : ND P w H' d kvs :=
  let ⟨xs, h1, h2⟩ := h
  ⟨xs, hd _ h1, Paired.mapP h2 fun _ _ z => ⟨z.1, z.2.1.keep ht, z.2.2⟩⟩
section
variable {P : Program} {w : World} {H : Hp} {h : Heap} {a d : Addr}
theorem nested_ints {h : Heap} : ∀ {l : List Nat} {us : List Value}, Vals (nums l) us → NestedAll h (l.map fun (n : Nat) => .num (n : Int)) us
  | [], _, r => by cases r; exact .nil
  | n :: l, _, r => by
    cases r with
    | cons r rr =>
      obtain ⟨t, rfl⟩ := r
      exact .cons (.int _ t) (nested_ints rr)
theorem depth_nums : ∀ l : List Nat, NestedKey.depthAll (l.map fun (n : Nat) => .num (n : Int)) = 0
  | [] => by simp [NestedKey.depthAll]
  | n :: l => by simp [NestedKey.depthAll, NestedKey.depth, depth_nums l]
theorem isKey {k : RK} (ok : HOk P w H h) (e : KeyAt H a k) : (nestedKind P w).is h (nk k) a := by
  obtain ⟨r, h1, h2⟩ := e
  obtain ⟨_, i1, r1, o1, g1, c1, n1, d1⟩ := (show ObjOk P w H h a (.tup _) from ok a _ h1)
  obtain ⟨_, i2, r2, o2, g2, c2, n2, d2⟩ := (show ObjOk P w H h r (.tup _) from ok r _ h2)
  cases r1 with
  | cons ra rr =>
    cases rr with
    | cons rb rn =>
      cases rn
      cases ra
      obtain ⟨t, rfl⟩ := rb
      refine ⟨.tup g1 c1 d1 ?_, ?_⟩
      · exact .cons (.tup g2 c2 d2 (by simpa using nested_ints r2)) (.cons (.int _ t) .nil)
      · unfold nk
        simp [NestedKey.depth, NestedKey.depthAll, depth_nums]
theorem isKeys {kvs : List (RK × V)} {xs : List (NestedKey × Addr × Value)} (ok : HOk P w H h) (r : NP H kvs xs) : ∀ x ∈ xs, (nestedKind P w).is h x.1 x.2.1 := by
  induction r with
  | nil => exact fun x hx => nomatch hx
  | @cons p q ps qs hq t ih =>
    intro x hx
    rcases List.mem_cons.mp hx with e | hx
    · subst e
      rw [hq.1]
      exact isKey ok hq.2.1
    · exact ih x hx
theorem nD_at {xs : List (NestedKey × Addr × Value)} (ok : HOk P w H h) (e : H d = some (nD P w d xs)) : (d == sysModules) = false ∧
    ∃ o es ep, h.get? d = some o ∧ o.ExactDict ∧ o.data = .dict es ep ∧ es.toList = xs.map (entryOfKey (nestedKind P w)) ∧ (xs.map (·.1)).Nodup := by
  have q : ObjOk P w H h d (.ext _) := ok d _ e
  exact q.1
theorem ND.read {kvs : List (RK × V)} (ok : HOk P w H h) (e : ND P w H d kvs) : (d == sysModules) = false ∧ ∃ xs, H d = some (nD P w d xs) ∧ NP H kvs xs ∧ h.DictOfH (nestedKind P w) d xs := by
  obtain ⟨xs, e1, r⟩ := e
  obtain ⟨z, o, es, ep, h1, h2, h3, h4, h5⟩ := nD_at ok e1
  exact ⟨z, xs, e1, r, o, es, ep, h1, h2, h3, h4, isKeys ok r, h5⟩
theorem NP.val {kvs : List (RK × V)} {xs : List (NestedKey × Addr × Value)} (r : NP H kvs xs) (k : RK) : RelO (valV kvs k) ((atKey xs (nk k)).map (·.2)) := by
  induction r with
  | nil => exact True.intro
  | @cons p q ps qs hq t ih =>
    by_cases e : p.1 = k
    · have e2 : q.1 = nk k := by rw [hq.1, e]
      have h1 : valV (p :: ps) k = some p.2 := by simp [valV, e]
      have h2 : (atKey (q :: qs) (nk k)).map (·.2) = some q.2.2 := by simp [atKey, e2]
      rw [h1, h2]
      exact hq.2.2
    · have e2 : ¬ q.1 = nk k := fun z => e (nk_inj (hq.1.symm.trans z))
      have h1 : valV (p :: ps) k = valV ps k := by simp [valV, e]
      have h2 : atKey (q :: qs) (nk k) = atKey qs (nk k) := by simp [atKey, e2]
      rw [h1, h2]
      exact ih
end

section
variable {X : Cx}
theorem NP.put {H : Hp} {kvs : List (RK × V)} {xs : List (NestedKey × Addr × Value)} {k : RK} {a : Addr} {v : V} {u : Value} (r : NP H kvs xs) (ha : KeyAt H a k) (rv : RelV v u) : NP H (putK kvs k v) (storedH xs (nk k) a u) := by
  have e : (kvs.any fun kv => decide (kv.1 = k)) = (atKey xs (nk k)).isSome := by
    rw [valV_any, (r.val k).isSome_eq, Option.isSome_map]
  unfold putK storedH
  rw [e]
  by_cases q : (atKey xs (nk k)).isSome = true
  · rw [if_pos q, if_pos q]
    clear q e
    induction r with
    | nil => exact .nil
    | @cons p z ps zs hz t ih =>
      refine .cons ?_ ih
      by_cases e : p.1 = k
      · have e2 : z.1 = nk k := by rw [hz.1, e]
        have g1 : putAt (nk k) u z = (z.1, z.2.1, u) := by simp [putAt, e2]
        have g2 : (fun kv : RK × V => if kv.1 = k then (kv.1, v) else kv) p = (p.1, v) := if_pos e
        rw [g1, g2]
        exact ⟨hz.1, hz.2.1, rv⟩
      · have e2 : ¬ z.1 = nk k := fun y => e (nk_inj (hz.1.symm.trans y))
        have g1 : putAt (nk k) u z = z := by simp [putAt, e2]
        have g2 : (fun kv : RK × V => if kv.1 = k then (kv.1, v) else kv) p = p := if_neg e
        rw [g1, g2]
        exact hz
  · rw [if_neg q, if_neg q]
    exact Paired.snoc r ⟨rfl, ha, rv⟩
def rInN (P : Program) (w : World) (neg : Bool) : R2 := fun x y H Q => ∃ a d k kvs, x = .ref a ∧ y = .ref d ∧ KeyAt H a k ∧ ND P w H d kvs ∧ Q (.bl (if neg then !(valV kvs k).isSome else (valV kvs k).isSome)) H
theorem op_notInN (hu : X.A.units + 16 < cLine) : OpR X (compareOp .NotIn) (rInN X.prog X.w true) := by
  intro pins s σ H x y v u Q I rx ry h
  obtain ⟨a, d, k, kvs, rfl, rfl, hk, hd, q⟩ := h
  cases rx
  cases ry
  obtain ⟨z, xs, e1, r, dd⟩ := hd.read I.hok
  refine notIn_keyed (knd := nestedKind X.prog X.w) (show X.A.units + 1 + 8 < cLine by omega) (isKey I.hok hk) z ⟨xs, dd, rfl⟩ ⟨.bl (!(valueAt (pairsH xs) (nk k)).isSome), H, I.tok _, rfl, ?_⟩
  have e2 := (r.val k).isSome_eq
  rw [valueAt_pairsH, ← e2]
  exact q
def rGetN (P : Program) (w : World) : R2 := fun x y H Q => ∃ a d k kvs v, x = .ref d ∧ y = .ref a ∧ KeyAt H a k ∧ ND P w H d kvs ∧ valV kvs k = some v ∧ Q v H
theorem ix_N (hu : X.A.units + 16 < cLine) : IxR X (rGetN X.prog X.w) := by
  intro value slice pins s σ H x y v u Q I rx ry h hs
  obtain ⟨a, d, k, kvs, v0, rfl, rfl, hk, hd, hv, q⟩ := h
  cases rx
  cases ry
  obtain ⟨z, xs, e1, r, dd⟩ := hd.read I.hok
  obtain ⟨w', hw, rw'⟩ := RelO.some_of (v := v0) (o := (atKey xs (nk k)).map (·.2)) (by rw [← hv]; exact r.val k)
  refine tail_any dd.typeIs PySem.F.slot_dict_getitem.lookup ?_ hs
  exact getItem_keyed (knd := nestedKind X.prog X.w) (show X.A.units + 1 + 8 < cLine by omega) (isKey I.hok hk) ⟨xs, dd, rfl⟩ (by rw [valueAt_pairsH]; exact hw) ⟨v0, H, I.tok _, rw', q⟩
def rSetN (P : Program) (w : World) : V → V → V → Hp → (Hp → Prop) → Prop := fun o i v H Q => ∃ a d k kvs, o = .ref d ∧ i = .ref a ∧ KeyAt H a k ∧ ND P w H d kvs ∧ kvs.length < sizeLine ∧
  ∀ xs', ND P w (upd H d (nD P w d xs')) d (putK kvs k v) → Q (upd H d (nD P w d xs'))
theorem set_N (hu : X.A.units + 16 < cLine) : PSet X (rSetN X.prog X.w) := by
  intro pins s σ H o i v ov iv u Q I ro ri rv h
  obtain ⟨a, d, k, kvs, rfl, rfl, hk, hd, hl, q⟩ := h
  cases ro
  cases ri
  obtain ⟨z, xs, e1, r, dd⟩ := hd.read I.hok
  have hz : xs.length ≤ sizeLine := by
    rw [← Paired.length r]
    exact Nat.le_of_lt hl
  refine wpAny_setItem_heap (hsz := hz) (knd := nestedKind X.prog X.w) (show X.A.units + 1 + 8 < cLine by omega) (isKey I.hok hk) dd fun h' dd' hs => ?_
  obtain ⟨ob, es, ep, h1, h2, h3, h4, h5, h6⟩ := dd'
  have nt : ∀ b ys, H b = some (.tup ys) → upd H d (nD X.prog X.w d (storedH xs (nk k) a u)) b = some (.tup ys) := fun b ys e => by
    rw [upd_ne (ne_of e e1 (fun z => nomatch z))]
    exact e
  refine ⟨_, d_write I (by rw [e1]; exact True.intro) hs ⟨ob, h1⟩ ?_, q _ ⟨_, upd_same, Paired.mapP (NP.put r hk rv) fun _ _ y => ⟨y.1, y.2.1.keep nt, y.2.2⟩⟩⟩
  refine ⟨⟨z, ob, es, ep, h1, h2, h3, h4, h6⟩, ⟨ob, h1⟩, fun g1 g2 y kk => ?_⟩
  obtain ⟨y0, y1, y2, y3, y4, y5⟩ := y
  exact ⟨y0, y1, y2, y3, kk _ y4, y5⟩
def tNewN (P : Program) (w : World) : TE := fun _ H Q => ∀ d, H d = none → Q (.ref d) (upd H d (nD P w d []))
theorem pe_newN {pos : Pos} : PE X (.Dict [] [] pos) (tNewN X.prog X.w) := by
  refine ⟨fun pins s σ H Q I h => wpAny_Dict_empty ?_⟩
  refine ⟨.ref s.heap.objs.size, _, I.laid (t' := s.toks) (a := s.heap.objs.size) (o := nD X.prog X.w s.heap.objs.size []) (fun _ _ q => Heap.get?_push_of_some _ q) (Nat.le_refl _) ?_, rfl, h _ (I.hok.fresh (Nat.le_refl _))⟩
  have hn : (s.heap.objs.size == sysModules) = false := by
    have := I.big
    exact beq_eq_false_iff_ne.mpr (Nat.ne_of_gt this)
  refine ⟨⟨hn, _, #[], 0, Heap.get?_push_size _ rfl, ⟨rfl, rfl, rfl⟩, rfl, rfl, List.nodup_nil⟩, ⟨_, Heap.get?_push_size _ rfl⟩, fun g1 g2 y kk => ?_⟩
  obtain ⟨y0, y1, y2, y3, y4, y5⟩ := y
  exact ⟨y0, y1, y2, y3, kk _ y4, y5⟩
end

/-! ### enumerate(tuple) -/
theorem enumT_new (t : Addr) (items : Array Value) (n : Nat) (dct : Option Addr) (sl : Array (Option Value)) :
    Meets (Builtin.«enumerate.__new__» ⟨[.type "enumerate", .ref t], []⟩) (fun _ R s => s.heap.get? t = some { cls := .type "tuple", dict := dct, data := .seq items n, slots := sl } ∧
      R (.ok (.ret (.ref (s.heap.push { cls := .type "tuple_iterator", data := .fields #[.ref t, .int 0 0] }).objs.size)))
        { s with heap := (s.heap.push { cls := .type "tuple_iterator", data := .fields #[.ref t, .int 0 0] }).push { cls := .type "enumerate", data := .fields #[.none, .bool false, .ref s.heap.objs.size, rawInt 0, .none, .none] } }) := by
  refine .of_wp fun prog w A R s h => ?_
  obtain ⟨hp, g, d, tk, os⟩ := s
  obtain ⟨hl, h⟩ := h
  have hsub := sub_enumerate
  have hT : Heap.IsTuple (Shared.heap ⟨hp, g, d, tk, os⟩) t items := ⟨_, hl, rfl, n, rfl⟩
  wp_walk using AutoSeq1.wpAny_loadPart' hT
  refine wpAny_stack_any fun st => wpAny_pure ?_
  split
  · rename_i c _ _ _ _ _
    cases (c == Value.type "enumerate")
    all_goals
      wp_walk using AutoSeq1.wpAny_loadPart' hT, wpAny_pyIter_tuple hT
      exact ⟨_, rfl, h⟩
  · wp_walk using AutoSeq1.wpAny_loadPart' hT, wpAny_pyIter_tuple hT
    exact ⟨_, rfl, h⟩
end WW
/-! Rules of our own, second part: enumerate(tuple), tuple[::-1]. -/
namespace WW
open PySem PySem.Spec PyProof.Rows L2
section
variable {prog : Program} {w : World} {A : Around} {E : Value → Shared → Prop} {s : Shared}
theorem enumT_call {t : Addr} {items : Array Value} {Q : Value → Shared → Prop} (hT : IsTup s.heap t items)
    (h : ∀ h', IsEnum h' (s.heap.objs.size + 1) s.heap.objs.size 0 .none → h'.IsTupleIter s.heap.objs.size t 0 → (∀ b o, s.heap.get? b = some o → h'.get? b = some o) → Q (.ref (s.heap.objs.size + 1)) { s with heap := h' }) :
    wpAny (model prog w) A (call (.type "enumerate") [.ref t]) Q E s := by
  obtain ⟨⟨c, dct, dt, sl⟩, hl, hc, n, hd⟩ := hT
  obtain rfl : c = .type "tuple" := hc
  obtain rfl : dt = .seq items n := hd
  refine callType_new F.called_enumerate (by decide) (F.typeCall_enumerate_1 _) (F.newCall_enumerate_1 _) (fun obj => F.args_object_init_2 obj _) F.entry_enumerate_new (enumT_new t items n dct sl) ⟨hl, ?_⟩
  generalize hg : s.heap.push { cls := .type "tuple_iterator", data := .fields #[.ref t, .int 0 0] } = g
  have hz : g.objs.size = s.heap.objs.size + 1 := by rw [← hg]; exact Heap.size_push ..
  have he := Heap.get?_push_size g (o := { cls := .type "enumerate", data := .fields #[.none, .bool false, .ref s.heap.objs.size, rawInt 0, .none, .none] }) rfl
  rw [hz] at he ⊢
  have h0 : g.get? s.heap.objs.size = some { cls := .type "tuple_iterator", data := .fields #[.ref t, .int 0 0] } := by rw [← hg]; exact Heap.get?_push_size _ rfl
  refine ⟨⟨_, he, rfl⟩, h _ he ⟨_, Heap.get?_push_of_some _ h0, rfl, rfl⟩ fun b o x => Heap.get?_push_of_some _ ?_⟩
  rw [← hg]
  exact Heap.get?_push_of_some _ x
end
def IteT (K : PySem.W.Frag) (a : Addr) : It :=
  ⟨fun i H => ∃ (xs : List V) (x : V), SqT K H a xs ∧ xs[i]? = some x,
   fun i H v H' => ∃ T x, v = .ref T ∧ H T = none ∧ H' = upd H T (.tup [.int (i : Nat), x]) ∧ ∀ xs, SqT K H a xs → xs[i]? = some x,
   fun i H => ∃ xs : List V, SqT K H a xs ∧ xs.length ≤ i⟩
theorem enumT_turn {P : Program} {w : World} {K : PySem.W.Frag} {elts : List Expr} {kk : Nat} {tpos : Pos} {a e it : Addr} (hai : a ≠ it) (hae : a ≠ e) :
    Turn P w K (.Tuple elts kk tpos) (IteT K a) [e, it] e (fun i h => (∃ old, IsEnum h e it ((i : Nat) : Int) old) ∧ h.IsTupleIter it a i ∧ e ≠ it) where
  mem := List.mem_cons_self
  obj := by
    intro i h st b hb
    obtain ⟨⟨old, he⟩, ⟨o, ho, hc, hd⟩, _⟩ := st
    rcases List.mem_cons.mp hb with rfl | hb
    · exact ⟨_, he, fun v q => nomatch q⟩
    · obtain rfl := List.mem_singleton.mp hb
      exact ⟨o, ho, fun v q => by rw [hd] at q; cases q⟩
  keep := by
    intro i h h' st k
    obtain ⟨⟨old, he⟩, hi, hne⟩ := st
    exact ⟨⟨old, k e List.mem_cons_self _ he⟩, hi.at fun o q => k it (List.mem_cons_of_mem _ List.mem_cons_self) o q, hne⟩
  item := by
    intro X hP hw hK hc i pins s σ H E I hf st hg
    subst hP hw hK
    obtain ⟨⟨old, he⟩, hit, hne⟩ := st
    obtain ⟨xs, x, hq, hx⟩ := hg
    obtain ⟨its, rv, ht, hz⟩ := I.tuple hq
    obtain ⟨u, hu, ru⟩ := rv.get hx
    have hlt : i < its.toArray.size := by
      have := (List.getElem?_eq_some_iff.mp hu).1
      simpa using this
    have D := Draws.tuple (prog := X.prog) (w := X.w) (A := X.A.in1) (I.ok.hd hc) it a hai its.toArray
    have hT : s.heap.IsTuple a its.toArray := ht
    refine wpAny_pyNext_enum_itemD D he ⟨hit, hT⟩ hlt hne (by
      intro z
      rcases List.mem_cons.mp z with z | z
      · exact hne z
      · exact hae (List.mem_singleton.mp z).symm) fun u' h' tk hP' ho hst' hT' hsz hk => ?_
    have eu : u' = u := by
      have h1 : its.toArray[i]? = some u' := hP'
      have h2 : its.toArray[i]? = some u := by simpa using hu
      rw [h2] at h1
      exact (Option.some.inj h1).symm
    subst eu
    refine ⟨_, rfl, wpAny_letOwnedTupleGo_enum (s := { s with heap := h', toks := tk + 1 }) ho fun h2 he2 sb => ?_⟩
    have hel : e < s.heap.objs.size := Heap.lt_size he
    have hT2 : h2.get? s.heap.objs.size = some { cls := .type "tuple", data := .seq #[.int i tk, u'] } := (sb.2 _ (Nat.ne_of_gt hel)).trans hT'
    have new : ObjOk X.prog X.w (upd H s.heap.objs.size (.tup [.int (i : Nat), x])) h2 s.heap.objs.size (.tup [.int (i : Nat), x]) :=
      ⟨by show 2 ≤ sizeLine; decide, [.int i tk, u'], .cons ⟨_, rfl⟩ (.cons ru .nil), ⟨_, hT2, rfl, _, rfl⟩⟩
    have I1 : Inv X pins σ (upd H s.heap.objs.size (.tup [.int (i : Nat), x])) { s with heap := h2, toks := tk + 1 } :=
      I.turnedNew (ch := [e, it]) (fun b ob hb q => (sb.2 b fun z => hb (by simp [z])).trans (hk b ob (fun z => hb (by simp [z])) (fun z => hb (by simp [z])) q)) hf (Nat.le_refl _) new
    refine ⟨.ref s.heap.objs.size, _, I1, rfl, ⟨_, x, rfl, I.hok.fresh (Nat.le_refl _), rfl, fun ys hy => by rw [I.tuple_inj hy hq]; exact hx⟩, ⟨⟨u', ?_⟩, ?_, hne⟩, fun b hb => ?_⟩
    · have e1 : ((i + 1 : Nat) : Int) = (i : Int) + 1 := by omega
      rw [e1]
      exact he2
    · exact hst'.1.at fun o q => (sb.2 it (Ne.symm hne)).trans q
    · have hb' : b < s.heap.objs.size := by
        rcases List.mem_cons.mp hb with z | z
        · rw [z]; exact hel
        · rw [List.mem_singleton.mp z]
          obtain ⟨_, q, _⟩ := hit
          exact Heap.lt_size q
      rw [upd_ne (Nat.ne_of_lt hb')]
      exact (hf b hb).1
  done := by
    intro X hP hw hK hc i pins s σ H E I hf st hg
    subst hP hw hK
    obtain ⟨⟨old, he⟩, hit, hne⟩ := st
    obtain ⟨xs, hq, hx⟩ := hg
    obtain ⟨its, rv, ht, hz⟩ := I.tuple hq
    obtain ⟨f0, f1, f2, f3, f4, f5⟩ := hf it (List.mem_cons_of_mem _ List.mem_cons_self)
    have hl := rv.length
    have hT : s.heap.IsTuple a its.toArray := ht
    have nx : wpAny (model X.prog X.w) X.A (pyNext (.ref e)) (fun r s1 => r = none ∧ Inv X pins σ H s1) E s := by
      have hTy : s.TypeIs (.ref e) "enumerate" := ⟨_, he, rfl⟩
      unfold pyNext
      refine wpAny_bind (wpAny_attempt (wpAny_callSpecial?_slot (name := Str.ofString "__next__") hTy F.slot_enumerate_next (wpAny_call_entry F.slot_enumerate_next hTy F.entry_enumerate_next ?_ (F.args_enumerate_next_1 _))))
      show wpAny _ _ (field (.ref e) 2 >>= _) _ _ _
      refine wpAny_bind (wpAny_field he rfl (x := .ref it) rfl ?_)
      refine wpAny_bind (wpAny_nextOf_tuple_end (I.ok.hd hc) hit hT (by simp; omega) fun h' x he' hx' => ?_)
      obtain ⟨o, ho, hcc⟩ := hx'
      refine wpAny_bind (wpAny_isInstance (T := "StopIteration") (b := true) ⟨o, ho, hcc⟩ isSubtype_stop ?_)
      exact wpAny_pure ⟨rfl, I.turned (t' := s.toks) (fun b o hb q => he' b o hb q) f0 f1 f3 f4 f5⟩
    exact nx
  self := fun A i s Q E st h => let ⟨⟨_, he⟩, _⟩ := st; wpAny_pyIter_enum he h
def iEnumT (K : PySem.W.Frag) (ta : TA) : TI := fun σ H R => ta σ H fun vs H1 => ∃ a xs, vs = [.ref a] ∧ SqT K H1 a xs ∧ R (IteT K a) H1
theorem pi_enumT {X : Cx} {e : Expr} {ta : TA} {p pos tpos : Pos} {elts : List Expr} {kk : Nat} (hg : Gl X "enumerate") (hm : X.mg "enumerate" = none) (ha : PA X [e] ta) (hs : starEach [e] X.env = [(false, eval e X.env)] := by rfl) :
    PI X (.Tuple elts kk tpos) (.Call (.Name "enumerate" p) [e] [] pos) (iEnumT X.K ta) := by
  refine ⟨fun pins s σ H R I h => Call_ (ld_blt I hg hm boot_enumerate (PyProof.Rows.callWith_type1 (thn (ha.run pos pins s σ H _ I h) fun us s1 ⟨vs, H1, I1, r1, q1⟩ => ?_) hs rfl))⟩
  obtain ⟨a, xs, ex, hq, q⟩ := q1
  subst ex
  cases r1 with
  | cons r rr =>
    cases rr
    cases r
    obtain ⟨its, rv, ht, hz⟩ := I1.tuple hq
    have hlt := ht.lt
    refine enumT_call ht fun h' he hit hk => wpAny_pyIter_enum he ?_
    have I2 : Inv X pins σ H1 { s1 with heap := h' } := I1.kept (t' := s1.toks) hk
    refine ⟨s1.heap.objs.size + 1, [s1.heap.objs.size + 1, s1.heap.objs.size], _, _, H1, rfl, I2, enumT_turn (Nat.ne_of_lt hlt) (Nat.ne_of_lt (Nat.lt_succ_of_lt hlt)), ⟨⟨.none, he⟩, hit, Nat.succ_ne_self _⟩, fun b hb => ?_, q⟩
    have hle : s1.heap.objs.size ≤ b := by
      rcases List.mem_cons.mp hb with z | z
      · rw [z]; exact Nat.le_succ _
      · rw [List.mem_singleton.mp z]; exact Nat.le_refl _
    exact I1.fpOk hle (I1.hok.fresh hle)
theorem walk_enumT {K : PySem.W.Frag} {a : Addr} {xs : List V} : Walk (IteT K a) xs.length (fun H => SqT K H a xs) (YPair (fun i => some (.int (i : Nat))) (fun i => xs[i]?)) := by
  refine ⟨fun i _ hi q => ⟨xs, xs[i], q, by simp [hi]⟩, fun _ q => ⟨xs, q, Nat.le_refl _⟩, fun i H v H' _ q y => ?_⟩
  obtain ⟨T, x, h1, h2, h3, h4⟩ := y
  exact ⟨T, .int (i : Nat), x, h1, h2, h3, rfl, h4 xs q⟩

/-! ### tuple[::-1] -/
theorem adjust_rev (n : Nat) : Builtin.Slice.sliceAdjust none none (-1) (n : Int) = ((n : Int) - 1, -1) := by
  unfold Builtin.Slice.sliceAdjust
  simp
theorem places_rev (n : Nat) : Builtin.Slice.slicePlaces ((n : Int) - 1) (-1) (-1) = n := by
  unfold Builtin.Slice.slicePlaces
  simp
  all_goals first | omega | (split <;> omega)
theorem fm_congr {α β : Type} {f g : α → Option β} : ∀ {l : List α}, (∀ a ∈ l, f a = g a) → l.filterMap f = l.filterMap g
  | [], _ => rfl
  | a :: l, h => by
    rw [List.filterMap_cons, List.filterMap_cons, h a List.mem_cons_self, fm_congr (l := l) fun b hb => h b (List.mem_cons_of_mem _ hb)]
theorem pick_rev (xs : Array Value) : ((List.range xs.size).filterMap fun (m : Nat) => xs[((xs.size : Int) - 1 + (m : Int) * (-1)).toNat]?) = xs.toList.reverse := by
  have e : ∀ m ∈ List.range xs.size, xs[((xs.size : Int) - 1 + (m : Int) * (-1)).toNat]? = (fun k => xs.toList.reverse.toArray[k]?) m := by
    intro m hm
    have hm' : m < xs.size := List.mem_range.mp hm
    have e1 : ((xs.size : Int) - 1 + (m : Int) * (-1)).toNat = xs.size - 1 - m := by omega
    show _ = xs.toList.reverse.toArray[m]?
    rw [e1]
    have h2 : xs.toList.reverse.toArray[m]? = xs.toList.reverse[m]? := by simp
    rw [h2, List.getElem?_reverse (show m < xs.toList.length by rw [Array.length_toList]; exact hm')]
    simp
  rw [fm_congr e]
  have h := PySem.W.krv_all xs.toList.reverse.toArray
  simpa using h
section
variable {prog : Program} {w : World} {A : Around} {E : Value → Shared → Prop} {s : Shared}
theorem sliced_rev {sl : Addr} {vs : Value} {n : Nat} {Q : Int × Int × Nat → Shared → Prop} (hs : s.heap.IsSliceOf sl .none .none vs) (pv : IsPart vs (some (-1)))
    (h : Q ((n : Int) - 1, -1, n) s) : wpAny (model prog w) A (Builtin.Slice.sliceApplied (.ref sl) (pure (n : Int))) Q E s := by
  obtain ⟨os, hos, hcs, hds⟩ := id hs
  unfold Builtin.Slice.sliceApplied Builtin.Slice.sliceFields
  refine wpAny_bind (wpAny_bind (wpAny_field hos hds (x := .none) rfl (wpAny_bind (wpAny_field hos hds (x := .none) rfl (wpAny_bind (wpAny_field hos hds (x := vs) rfl (wpAny_pure ?_)))))))
  refine wpAny_bind (HT.slicePart_ pv ?_)
  show wpAny _ _ (if ((-1 : Int) == 0) = true then _ else _) _ _ s
  rw [if_neg (by decide)]
  refine wpAny_bind (slicePart_none (wpAny_bind (slicePart_none (wpAny_bind (wpAny_pure ?_)))))
  show wpAny _ _ (match Builtin.Slice.sliceAdjust none none (-1) (n : Int) with | (lo, hi) => pure (lo, (-1 : Int), Builtin.Slice.slicePlaces lo hi (-1))) _ _ s
  rw [adjust_rev]
  show wpAny _ _ (pure ((n : Int) - 1, (-1 : Int), Builtin.Slice.slicePlaces ((n : Int) - 1) (-1) (-1))) _ _ s
  rw [places_rev]
  exact wpAny_pure h
theorem item_rev {t sl : Addr} {items : Array Value} {vs : Value} {Q : Value → Shared → Prop} (ht : IsTup s.heap t items) (hs : s.heap.IsSliceOf sl .none .none vs) (pv : IsPart vs (some (-1)))
    (h : Q (.ref s.heap.objs.size) { s with heap := s.heap.push { cls := .type "tuple", data := .seq items.toList.reverse.toArray } })
    (hsz : items.size ≤ sizeLine) : wpAny (model prog w) A (getItem (.ref t) (.ref sl)) Q E s := by
  have ok : sizeOk (.seq items.toList.reverse.toArray) := by
    show items.toList.reverse.toArray.size ≤ sizeLine
    simpa using hsz
  obtain ⟨os, hos, hcs, hds⟩ := id hs
  have hTs : s.TypeIs (.ref sl) "slice" := ⟨os, hos, hcs⟩
  unfold getItem
  try with_reducible refine wpAny_holding ?_
  first | refine wpAny_bind (wpAny_pure ?_) | skip
  refine wpAny_bind (wpAny_sequenceKey ht.typeIs (by decide) (wpAny_bind (wpAny_callSpecial?_slot (name := Str.ofString "__getitem__") ht.typeIs PyProof.Rows.slot_tuple_getitem
    (wpAny_call_entry PyProof.Rows.slot_tuple_getitem ht.typeIs entry_tuple_getitem ?_ (args_tuple_getitem _ _)))))
  show wpAny _ _ (Builtin.Tuple.tupleItemsOf (.ref t) >>= _) _ _ s
  refine wpAny_bind (tupleItemsOf_ ht (wpAny_bind (wpAny_typeOf hTs ?_)))
  rw [if_pos (by decide)]
  refine wpAny_bind (sliced_rev hs pv ?_)
  show wpAny _ _ (if (((items.size : Int) - 1) == 0 && (-1 : Int) == 1 && items.size == items.size) = true then _ else _) _ _ s
  have hno : ¬ ((((items.size : Int) - 1) == 0 && (-1 : Int) == 1 && items.size == items.size) = true) := by
    intro q
    rw [Bool.and_eq_true, Bool.and_eq_true] at q
    exact absurd q.1.2 (by decide)
  rw [if_neg hno, pick_rev]
  first
    | exact wpAny_bind (m := Builtin.Tuple.tupleExact _) (wpAny_newObj_type (wpAny_pure ⟨_, rfl, wpAny_pure h⟩) ok)
    | exact wpAny_bind (m := Builtin.Tuple.tupleExact _) (wpAny_newObj_type (wpAny_bind (wpAny_pure (wpAny_pure ⟨_, rfl, wpAny_pure h⟩))) ok)
    | exact wpAny_bind (wpAny_bind (m := Builtin.Tuple.tupleExact _) (wpAny_newObj_type (wpAny_pure (wpAny_pure ⟨_, rfl, wpAny_pure h⟩)) ok))
    | exact wpAny_bind (wpAny_bind (m := Builtin.Tuple.tupleExact _) (wpAny_newObj_type (wpAny_pure ⟨_, rfl, wpAny_pure h⟩) ok))
end
def tRevT (K : PySem.W.Frag) (te : TE) : TE := fun σ H Q => te σ H fun x H1 => ∃ a xs, x = .ref a ∧ SqT K H1 a xs ∧ ∀ p, H1 p = none → Q (.ref p) (upd H1 p (.tup xs.reverse))
theorem pe_revT {X : Cx} {e : Expr} {te : TE} {k : Nat} {p1 p2 p3 pos : Pos} (he : PE X e te) : PE X (.Subscript e (.Slice none none (some (.UnaryOp .USub (.Constant (.int 1) k p1) p2)) p3) pos) (tRevT X.K te) := by
  refine ⟨fun pins s σ H Q I h => Subscript_ (thn (he.run pins s σ H _ I h) fun v s1 ⟨x, H1, I1, r1, a, xs, ex, hx, q⟩ => ?_)⟩
  subst ex
  cases r1
  have st : PO X (some (.UnaryOp .USub (.Constant (.int 1) k p1) p2)) (tPart (tUn (rU fun i => .int (-i)) (tC (.int 1)))) := po_some (pe_un un_neg pe_int)
  refine wpAny_Slice (thn (po_none.run pins s1 σ H1 (fun o H2 => o = none ∧ H2 = H1) I1 ⟨rfl, rfl⟩) fun vl s2 ⟨l, H2, I2, pl, el, e2⟩ => ?_)
  subst el e2
  refine thn (po_none.run pins s2 σ H2 (fun o H3 => o = none ∧ H3 = H2) I2 ⟨rfl, rfl⟩) fun vu s3 ⟨u, H3, I3, pu, eu, e3⟩ => ?_
  subst eu e3
  refine thn (st.run pins s3 σ H3 (fun o H4 => o = some (-1) ∧ H4 = H3) I3 ⟨1, rfl, -1, rfl, rfl, rfl⟩) fun vs s4 ⟨o, H4, I4, ps, eo, e4⟩ => ?_
  subst eo e4
  have I5 : Inv X pins σ H4 { s4 with heap := s4.heap.push { cls := .type "slice", data := .fields #[vl, vu, vs] } } := I4.kept (t' := s4.toks) fun b ob q => Heap.get?_push_of_some _ q
  obtain ⟨its, r, ht, hz⟩ := I5.tuple hx
  have hlen : its.toArray.size ≤ sizeLine := by rw [List.size_toArray, ← r.length]; exact hz
  have evl : vl = .none := by cases pl <;> first | rfl | assumption
  have evu : vu = .none := by cases pu <;> first | rfl | assumption
  subst evl evu
  refine tail_any (ops := [.ref a, .ref s4.heap.objs.size]) ht.typeIs PyProof.Rows.slot_tuple_getitem.lookup ?_ (by with_unfolding_all rfl)
  refine item_rev ht (Heap.IsSliceOf.new ..) ps ?_ hlen
  refine ⟨.ref _, _, I5.laid (t' := s4.toks) (o := .tup xs.reverse) (fun b ob q => Heap.get?_push_of_some _ q) (Nat.le_refl _) ?_, rfl, q _ (I5.hok.fresh (Nat.le_refl _))⟩
  exact ⟨by rw [List.length_reverse]; exact hz, _, r.reverse, IsTup.new _ _⟩
end WW
/-! Rules of our own, third part: a letter taken out of a text, then struck out of it (the model asks for the letter's token). -/
namespace WW
open PySem PySem.Spec PyProof.Rows L2
section
variable {X : Cx} {pins : List (Addr × Obj)} {σ : L2.St} {H : Hp} {s : Shared}
/-- a local name is stored: the state behind it -/
theorem inv_stored {i : Nat} {x : Str} {v : V} {u : Value} {m : Str → Option Value} {h' : Heap} {tk : Nat} (I : Inv X pins σ H s) (hN : X.N.Nodup) (hi : X.N[i]? = some x) (hk : X.env.kindOf x = some .local) (r : RelV v u)
    (hl : ∀ (j : Nat) (y : Str) (v : V), X.N[j]? = some y → σ[j]? = some (some v) → Vis X.env.scope y → ∃ u, RelV v u ∧ Look X.env s.heap m y u) (hm : s.heap.Ns X.env.locals m)
    (hn : h'.Ns X.env.locals (fun y => if y = x then some u else m y)) (hs : Heap.SameBut X.env.locals s.heap h') : Inv X pins (σ.set i (some v)) H { s with heap := h', toks := tk } := by
  have hiL : i < σ.length := by
    rw [I.len]
    exact (List.getElem?_eq_some_iff.mp hi).1
  have low : ∀ b o, X.s_0.heap.get? b = some o → b ≠ X.env.locals := fun b o e => Nat.ne_of_lt (Nat.lt_of_lt_of_le (Heap.lt_size e) I.ok.above)
  have trk : ∀ b u, H b = some u → b ≠ X.env.locals := fun b u e z => by
    rw [z, I.free] at e
    cases e
  refine { ok := I.ok, os := I.os, bare := I.bare, base := ?_, loc := ⟨_, hn, ?_⟩, cell := ?_, free := I.free, freeC := I.freeC, pin := ?_, hok := ?_, len := by rw [List.length_set]; exact I.len }
  · exact {
      keep := fun b o e n hb hx => (hs.2 b (low b o e)).trans (I.base.keep b o e n hb hx)
      slot := fun b o e n hb hx => let ⟨sl, q⟩ := I.base.slot b o e n hb hx; ⟨sl, (hs.2 b (low b o e)).trans q⟩
      free := I.base.free
      there := fun b o e hx => let ⟨o', q⟩ := I.base.there b o e hx; ⟨o', (hs.2 b (low b o e)).trans q⟩
      tups := I.base.tups
      frzs := I.base.frzs
      tbls := I.base.tbls }
  · intro j y z e1 e2 e3
    by_cases hj : j = i
    · subst hj
      obtain rfl : x = y := Option.some.inj (hi.symm.trans e1)
      rw [List.getElem?_set_self hiL] at e2
      obtain rfl := Option.some.inj (Option.some.inj e2)
      exact ⟨u, r, .inl ⟨hk, if_pos rfl⟩⟩
    · rw [List.getElem?_set_ne (fun z => hj z.symm)] at e2
      obtain ⟨u2, r2, q⟩ := hl j y z e1 e2 e3
      refine ⟨u2, r2, ?_⟩
      rcases q with ⟨k, e⟩ | ⟨k, c, e, z⟩
      · exact .inl ⟨k, (if_neg fun ee => hj (nodup_ix hN (ee ▸ e1) hi)).trans e⟩
      · exact .inr ⟨k, c, e, z.sameBut hs (I.cne y c e)⟩
  · intro y c e
    obtain ⟨w, q⟩ := I.cell y c e
    exact ⟨w, q.sameBut hs (I.cne y c e)⟩
  · intro p hp
    obtain ⟨e, n, ne, nf, d⟩ := I.pin p hp
    exact ⟨(hs.2 p.1 ne).trans e, n, ne, nf, d⟩
  · intro b ob e
    refine (I.hok b ob e).stay (fun c w hc q => (hs.2 c ?_).trans q) (fun _ q => q) fun _ _ q => q
    rcases hc with rfl | hc
    · exact trk _ _ e
    · exact trk _ _ hc
/-- the promise of what is struck -/
def tStrike (il ir iF : Nat) (sp : Sp) (E : XK) (tg : TE) (u : TS) : TS := fun D σ H => ∃ z f, σ[ir]? = some (some (.str z)) ∧ σ[iF]? = some (some (.str f)) ∧ z.length ≤ 1000 ∧ f.length ≤ 1000 ∧
  tg σ H fun x H1 => sp [x, .int (z.length : Int)] H1 (fun y H2 => ∃ i c, y = .int i ∧ atI z.cps.toList i = some c ∧
    u D (((σ.set il (some (.str ⟨#[c]⟩))).set ir (some (.str (Txt.replace z ⟨#[c]⟩ ⟨#[]⟩)))).set iF (some (.str (f ++ ⟨#[c]⟩)))) H2) E
end
section
variable {X : Cx} {CX : CXT} {k : Nat} {f : Addr} {fd : FuncData} {ps : List Str} {sp : Sp} {E : XK}
theorem pss_strike {il ir iF : Nat} {lx rx fx sx e0 : Str} {g : Expr} {tg : TE} {rest : List Stmt} {u : TS} {p1 p2 p3 p4 p5 p6 p7 pos1 q1 q2 q3 q4 q5 q6 q7 q8 q9 q10 q11 q12 q13 pos2 : Pos} {j kt k2 : Nat}
    (F : FnOk X.prog X.w X.K X.mg X.base CX k f fd ps sp) (hr : Room k X.A) (hg : Gl X sx) (hm : X.mg sx = some (.ref f)) (hk : PySem.W.keepIn X.K (.ref f) = true) (hb : Binds X.K fd ps []) (hx : Passes CX X E)
    (hgl : Gl X "len") (hml : X.mg "len" = none) (hG : PE X g tg) (hc : X.calm = true) (hN : X.N.Nodup)
    (nl : X.N[il]? = some lx) (nr : X.N[ir]? = some rx) (nf : X.N[iF]? = some fx) (ll : X.env.scope.names.lookup lx = some .local) (lr : X.env.scope.names.lookup rx = some .local) (lf : X.env.scope.names.lookup fx = some .local)
    (hlr : il ≠ ir) (hlf : il ≠ iF) (hrf : ir ≠ iF) (hu : PSs X rest u) (he0 : e0 = ⟨#[]⟩)
    (hd1 : (lx == ("__debug__" : Str)) = false := by decide) (hd2 : (rx == ("__debug__" : Str)) = false := by decide) (hd3 : (fx == ("__debug__" : Str)) = false := by decide) (hd4 : (sx == ("__debug__" : Str)) = false := by decide)
    (hc1 : (lx == ("__classdict__" : Str)) = false := by decide) (hc2 : (rx == ("__classdict__" : Str)) = false := by decide) (hc3 : (fx == ("__classdict__" : Str)) = false := by decide)
    (hs1 : swapsWith (.Subscript (.Name rx p2) (.Call (.Name sx p3) [g, .Call (.Name "len" p4) [.Name rx p5] [] p6] [] p7) p1) (some (.Name lx q1)) pos1.line X.env = pure false := by rfl)
    (hst : starEach [g, .Call (.Name "len" p4) [.Name rx p5] [] p6] X.env = (false, eval g X.env) :: starEach [.Call (.Name "len" p4) [.Name rx p5] [] p6] X.env := by rfl)
    (hst1 : starEach [.Call (.Name "len" p4) [.Name rx p5] [] p6] X.env = (false, eval (.Call (.Name "len" p4) [.Name rx p5] [] p6) X.env) :: starEach [] X.env := by rfl)
    (hpl : (backTo p7 (starEach [.Call (.Name "len" p4) [.Name rx p5] [] p6] X.env)).any (·.1) = false := by rfl)
    (hst3 : starEach [.Name lx q6, .Constant (.str e0) j q7] X.env = [(false, eval (.Name lx q6) X.env), (false, eval (.Constant (.str e0) j q7) X.env)] := by rfl)
    (hst4 : starEach [.Call (.Attribute (.Name rx q4) "replace" q5) [.Name lx q6, .Constant (.str e0) j q7] [] q8, .BinOp (.Name fx q9) .Add (.Name lx q10) q11] X.env =
      (false, eval (.Call (.Attribute (.Name rx q4) "replace" q5) [.Name lx q6, .Constant (.str e0) j q7] [] q8) X.env) :: starEach [.BinOp (.Name fx q9) .Add (.Name lx q10) q11] X.env := by rfl)
    (hbase : attributeBase (.Name rx q4) "replace" X.env (eval (.Name rx q4) X.env) = eval (.Name rx q4) X.env := by rfl) (hline : (q5.endLine == q8.line) = true := by rfl)
    (hw : swappedStores [.Tuple [.Name rx q2, .Name fx q3] kt q12] (.Tuple [.Call (.Attribute (.Name rx q4) "replace" q5) [.Name lx q6, .Constant (.str e0) j q7] [] q8, .BinOp (.Name fx q9) .Add (.Name lx q10) q11] k2 q13) X.env = pure (some [rx, fx]) := by rfl)
    (hs2 : swapsWithSole [.Tuple [.Name rx q2, .Name fx q3] kt q12] (.Tuple [.Call (.Attribute (.Name rx q4) "replace" q5) [.Name lx q6, .Constant (.str e0) j q7] [] q8, .BinOp (.Name fx q9) .Add (.Name lx q10) q11] k2 q13) pos2.line X.env = pure false := by rfl) :
    PSs X (.Assign [.Name lx q1] (.Subscript (.Name rx p2) (.Call (.Name sx p3) [g, .Call (.Name "len" p4) [.Name rx p5] [] p6] [] p7) p1) pos1 ::
      .Assign [.Tuple [.Name rx q2, .Name fx q3] kt q12] (.Tuple [.Call (.Attribute (.Name rx q4) "replace" q5) [.Name lx q6, .Constant (.str e0) j q7] [] q8, .BinOp (.Name fx q9) .Add (.Name lx q10) q11] k2 q13) pos2 :: rest) (tStrike il ir iF sp E tg u) := by
  refine ⟨fun pins s σ H D I h => ?_⟩
  obtain ⟨z, fo, ez, ef, hz, hfo, hq⟩ := h
  refine wpAny_execs_cons (wpAny_Assign_Name (Subscript_ (raw_name nr (.inl lr) I ez (fun v0 r0 => ?_) hd2 hc2)) hs1)
  obtain ⟨tz, rfl⟩ := r0
  -- the place drawn
  refine wpAny_Call_Name_kw (ld_glob I hg hm (PySem.W.callWith_K (h₀ := X.base) I.ok.mod.kin hk ?_ hst hpl) hd4)
  rw [hst]
  show wpAny _ _ (spliced ((false, eval g X.env) :: backTo p7 (starEach [.Call (.Name "len" p4) [.Name rx p5] [] p6] X.env))) _ _ s
  refine Calls.spliced_cons (thn (hG.run pins s σ H _ I hq) fun v1 s1 ⟨x, H1, I1, r1, q1⟩ => ?_)
  rw [hst1]
  show wpAny _ _ (spliced ((false, eval (.Call (.Name "len" p4) [.Name rx p5] [] p6) X.env) :: backTo p7 (starEach [] X.env))) _ _ s1
  have hv : PE X (.Name rx p5) (tVar ir) := pe_var nr (.inl lr) hd2 hc2
  have hlen : PA X [.Name rx p5] (tCons (tVar ir) tNil) := pa_cons hv pa_nil
  refine Calls.spliced_cons (wpAny_Call_Name_kw (ld_blt I1 hgl hml boot_len (PyProof.Rows.callWith_builtin1 (thn (hlen.run p6 pins s1 σ H1 (fun vs H' => vs = [.str z] ∧ H' = H1) I1 ⟨_, ez, rfl, rfl⟩) fun us s2 ⟨vs, H2, I2, r2, e1, e2⟩ => ?_) rfl rfl) (by decide) (by decide)))
  subst e1 e2
  obtain ⟨w1, rfl, tw, rfl⟩ := vals1 r2
  refine len_str (by omega) ?_
  refine Calls.spliced_nil ⟨I2.kIn, ?_⟩
  have I2' : Inv X pins σ H2 { s2 with toks := s2.toks + 1 + 1 } := I2.tok _
  have rv2 : Vals [x, .int (z.length : Int)] [v1, .int (z.length : Int) (s2.toks + 1)] := .cons r1 (.cons ⟨_, rfl⟩ .nil)
  show wpAny _ _ (call (.ref f) [v1, .int (z.length : Int) (s2.toks + 1)]) _ _ _
  refine wpAny_mono (PySem.wpAny_toks (run_fn (us := [v1, .int (z.length : Int) (s2.toks + 1)]) F hr hb .nil hx I2' rv2 (by rw [List.append_nil]; exact q1))) (fun yv s3 hy => ?_) fun _ _ y => y.2
  obtain ⟨ht3, y, H3, I3, ry, i, c, ei, hat, q3⟩ := hy
  subst ei
  obtain ⟨t3, rfl⟩ := ry
  have h3 : 1 ≤ s3.toks := Nat.le_trans (Nat.le_add_left 1 (s2.toks + 1)) ht3
  obtain ⟨jj, g1, g2, g3, g4, g5⟩ := atI_get hat
  have hl : z.cps.toList.length = z.length := by simp [Str.length]
  rw [hl] at g1 g4 g5
  refine tail_any (typeIs_str s3 z tz) slot_str_getitem.lookup (PySem.P.getItem_str (c := c) (by
    have y1 : decide (i < -(2 ^ 63 : Int)) = false := decide_eq_false (by omega)
    have y2 : decide (i ≥ 2 ^ 63) = false := decide_eq_false (by omega)
    rw [y1, y2, Bool.or_false]) (by rw [g1]; simpa using g2) ?_) (by first | rfl | exact rfl)
  -- it is stored
  have I4 : Inv X pins σ H3 { s3 with toks := s3.toks + 1 } := I3.tok _
  obtain ⟨m, hm4, hl4⟩ := I4.loc
  refine wpAny_storeName_local ll hm4 (fun h' hn' hs' => ?_) (by rw [I4.ok.kind]; rfl)
  have I5 := inv_stored (h' := h') (tk := s3.toks + 1 + 1) I4 hN nl ll (v := .str ⟨#[c]⟩) ⟨s3.toks, rfl⟩ hl4 hm4 hn' hs'
  clear hm4 hl4
  show wpAny _ _ (execs (_ :: rest) X.env) _ _ _
  refine wpAny_execs_cons ?_
  rw [exec_Assign_arm]
  refine wpAny_bind (wpAny_standAt ?_)
  rw [hs2]
  refine wpAny_bind (wpAny_pure ?_)
  rw [if_neg (by decide)]
  refine wpAny_bind (Tuple_ ?_)
  rw [hst4]
  show wpAny _ _ (spliced ((false, eval (.Call (.Attribute (.Name rx q4) "replace" q5) [.Name lx q6, .Constant (.str e0) j q7] [] q8) X.env) :: backTo _ (starEach [.BinOp (.Name fx q9) .Add (.Name lx q10) q11] X.env))) _ _ _
  have iL : il < σ.length := by
    rw [I.len]
    exact (List.getElem?_eq_some_iff.mp nl).1
  have e5r : (σ.set il (some (V.str ⟨#[c]⟩)))[ir]? = some (some (.str z)) := by rw [List.getElem?_set_ne hlr]; exact ez
  have e5f : (σ.set il (some (V.str ⟨#[c]⟩)))[iF]? = some (some (.str fo)) := by rw [List.getElem?_set_ne hlf]; exact ef
  have e5l : (σ.set il (some (V.str ⟨#[c]⟩)))[il]? = some (some (.str ⟨#[c]⟩)) := List.getElem?_set_self iL
  refine Calls.spliced_cons (PySem.Call_method2 hbase hst3 hline (raw_name nr (.inl lr) I5 e5r (fun v5 r5 => ?_) hd2 hc2))
  obtain ⟨t5, rfl⟩ := r5
  refine ⟨"str", _, PySem.F.plainAttrs_str, PySem.F.slot_str_replace, PySem.F.type_str_replace, typeIs_str _ _ _, (fun _ e => nomatch e), Calls.callWith_builtin rfl (Calls.evalArgs_plain (Calls.spliced_cons ?_))⟩
  refine wpAny_Name (wpAny_loadName_local I5.ok.kind ll hn' (if_pos rfl) ?_) hd1
  refine Calls.spliced_cons (Calls.Constant_str (Calls.spliced_nil ?_))
  subst he0
  have hlen1 : z.length + (z.length + 1) * (⟨#[]⟩ : Str).length ≤ 16777216 := by
    show z.length + (z.length + 1) * 0 ≤ 16777216
    omega
  refine PySem.SC.replace (by show s3.toks ≠ 0; omega) (by show s3.toks + 1 + 1 ≠ 0; omega) (by show s3.toks ≠ s3.toks + 1 + 1; omega) (by first | rfl | decide) hlen1 fun t6 k6 => ?_
  have I6 := I5.tok k6
  -- the other text
  have hadd : PE X (.BinOp (.Name fx q9) .Add (.Name lx q10) q11) (tOp (fun x y H Q => ∃ i j, x = .str i ∧ y = .str j ∧ i.length + j.length ≤ sizeLine ∧ Q (.str (i ++ j)) H) (tVar iF) (tVar il)) :=
    pe_op op_add_str (pe_var nf (.inl lf) hd3 hc3) (pe_var nl (.inl ll) hd1 hc1)
  have hadds : PA X [.BinOp (.Name fx q9) .Add (.Name lx q10) q11] _ := pa_cons hadd pa_nil
  have hsz1 : fo.length + (⟨#[c]⟩ : Str).length ≤ sizeLine := by
    show fo.length + 1 ≤ sizeLine
    rw [sizeLine_eq]
    omega
  refine thn (hadds.run _ pins _ _ H3 (fun vs H' => vs = [.str (fo ++ ⟨#[c]⟩)] ∧ H' = H3) I6 ⟨_, e5f, _, e5l, _, _, rfl, rfl, hsz1, rfl, rfl⟩) fun us s7 ⟨vs, H7, I7, r7, e71, e72⟩ => ?_
  subst e71 e72
  obtain ⟨u7, rfl, t7, rfl⟩ := vals1 r7
  refine wpAny_newObj_type ?_ (by show 2 ≤ sizeLine; decide)
  have I8 : Inv X pins (σ.set il (some (V.str ⟨#[c]⟩))) H7 { s7 with heap := s7.heap.push { cls := .type "tuple", data := .seq [Value.str (Txt.replace z ⟨#[c]⟩ ⟨#[]⟩) t6, .str (fo ++ ⟨#[c]⟩) t7].toArray } } := I7.kept (t' := s7.toks) fun b o e => Heap.get?_push_of_some _ e
  rw [hw]
  refine wpAny_bind (wpAny_pure ?_)
  show wpAny (model X.prog X.w) X.A (do rule "assign.swapped-stores"; let items ← unpackItems (.ref s7.heap.objs.size) 2 none; assignInOrder [fun v => bindName X.env fx v, fun v => bindName X.env rx v] items.reverse; pure Flow.next) _ _ _
  refine wpAny_bind (wpAny_rule (wpAny_bind (unpackItems_tuple (items := #[Value.str (Txt.replace z ⟨#[c]⟩ ⟨#[]⟩) t6, .str (fo ++ ⟨#[c]⟩) t7]) (I.ok.hd hc) (IsTup.new s7.heap _) fun h9 hx9 => ?_)))
  have I9 := I8.kept (h' := h9) (t' := s7.toks) fun b o e => hx9 b o (Nat.ne_of_lt (Heap.lt_size e)) e
  rw [show (#[Value.str (Txt.replace z ⟨#[c]⟩ ⟨#[]⟩) t6, Value.str (fo ++ ⟨#[c]⟩) t7].toList.reverse) = [Value.str (fo ++ ⟨#[c]⟩) t7, .str (Txt.replace z ⟨#[c]⟩ ⟨#[]⟩) t6] from List.reverse_cons ..]
  have ra : RelV (.str (fo ++ ⟨#[c]⟩)) (.str (fo ++ ⟨#[c]⟩) t7) := ⟨_, rfl⟩
  have rb : RelV (.str (Txt.replace z ⟨#[c]⟩ ⟨#[]⟩)) (.str (Txt.replace z ⟨#[c]⟩ ⟨#[]⟩) t6) := ⟨_, rfl⟩
  clear hlen1 hsz1 hadd hadds hat g1 g2 g3 g4 g5
  generalize (fo ++ ⟨#[c]⟩ : Str) = G at ra q3 ⊢
  generalize Txt.replace z ⟨#[c]⟩ ⟨#[]⟩ = W at rb q3 ⊢
  refine wpAny_bind (assignInOrder_cons (wpAny_bindName (store_ok I9 hN nf (.inl lf) ra (fun s10 I10 => ?_) (.inr lf))))
  refine assignInOrder_cons (wpAny_bindName (store_ok I10 hN nr (.inl lr) rb (fun s11 I11 => assignInOrder_nil (wpAny_pure ?_)) (.inr lr)))
  rw [List.set_comm _ _ (Ne.symm hrf)] at I11
  exact hu.run pins s11 _ H7 D I11 q3
end
end WW
/-! Kinds, papers and lines in the heap; their data; what is printed of them is printed of no other. -/
namespace WW
open PySem PySem.Spec PyProof.Rows L2
/-! ### what changes and what stays -/
def Ch (S : Addr → Prop) (H H' : Hp) : Prop := (∀ b u, H b = some u → ¬ S b → H' b = some u) ∧ (∀ b xs, H b = some (.tup xs) → H' b = some (.tup xs))
abbrev No : Addr → Prop := fun _ => False
theorem Ch.refl (S : Addr → Prop) (H : Hp) : Ch S H H := ⟨fun _ _ h _ => h, fun _ _ h => h⟩
theorem Ch.trans {S : Addr → Prop} {H H1 H2 : Hp} (a : Ch S H H1) (b : Ch S H1 H2) : Ch S H H2 := ⟨fun c u h n => b.1 c u (a.1 c u h n) n, fun c u h => b.2 c u (a.2 c u h)⟩
theorem Ch.mono {S T : Addr → Prop} {H H1 : Hp} (a : Ch S H H1) (h : ∀ b, S b → T b) : Ch T H H1 := ⟨fun c u e n => a.1 c u e fun z => n (h c z), a.2⟩
theorem Ch.any {T : Addr → Prop} {H H1 : Hp} (a : Ch No H H1) : Ch T H H1 := a.mono fun _ h => h.elim
theorem Ch.new {S : Addr → Prop} {H : Hp} {p : Addr} {o : HO} (h : H p = none) : Ch S H (upd H p o) := ⟨fun c u e _ => by rw [upd_ne (ne_of_none e h)]; exact e, fun c u e => by rw [upd_ne (ne_of_none e h)]; exact e⟩
theorem Ch.put {S : Addr → Prop} {H : Hp} {p : Addr} {o o' : HO} (hS : S p) (h : H p = some o) (ho : ∀ xs, o ≠ .tup xs) : Ch S H (upd H p o') :=
  ⟨fun c u e n => by
    have hn : c ≠ p := fun z => n (by rw [z]; exact hS)
    rw [upd_ne hn]
    exact e, fun c u e => by
    have hn : c ≠ p := fun z => ho u (Option.some.inj (h.symm.trans (by rw [← z]; exact e)))
    rw [upd_ne hn]
    exact e⟩
theorem Ch.get {H H' : Hp} (a : Ch No H H') {b : Addr} {u : HO} (h : H b = some u) : H' b = some u := a.1 b u h id
theorem Ch.free {S : Addr → Prop} {H H' : Hp} (a : Ch S H H') {b : Addr} (hS : ¬ S b) (h : H' b = none) : H b = none := by
  cases e : H b with
  | none => rfl
  | some u => exact absurd ((a.1 b u e hS).symm.trans h) (fun z => nomatch z)
theorem Same.ch {S : Addr → Prop} {H H' : Hp} (h : Same H H') : Ch S H H' := ⟨fun b u e _ => h b u e, fun b xs e => h b _ e⟩

/-! ### kinds -/
def fstr : Fm → Str
  | .b => "behind"
  | .a => "ahead"
  | .w => "with"
theorem fstr_inj : ∀ {f g : Fm}, fstr f = fstr g → f = g := by
  intro f g h
  cases f <;> cases g <;> first | rfl | exact absurd h (by decide)
theorem fstr_plain (f : Fm) : fstr f ≠ "plain" := by cases f <;> decide
abbrev chr1 (c : Nat) : Str := ⟨#[c]⟩
def lowC (c : Nat) : Prop := 97 ≤ c ∧ c ≤ 122
inductive KA (H : Hp) : V → Kd → Prop
  | pl {a : Addr} {c : Nat} : H a = some (.tup [.str "plain", .str (chr1 c)]) → lowC c → KA H (.ref a) (.pl c)
  | nd {a : Addr} {f : Fm} {u v : V} {x y : Kd} : H a = some (.tup [.str (fstr f), u, v]) → KA H u x → KA H v y → KA H (.ref a) (.nd f x y)
theorem KA.keep {H H' : Hp} {v : V} {k : Kd} (h : KA H v k) (ht : ∀ b xs, H b = some (.tup xs) → H' b = some (.tup xs)) : KA H' v k := by
  induction h with
  | pl h1 h2 => exact .pl (ht _ _ h1) h2
  | nd h1 _ _ i1 i2 => exact .nd (ht _ _ h1) i1 i2
theorem KA.mono {S : Addr → Prop} {H H' : Hp} {v : V} {k : Kd} (h : KA H v k) (c : Ch S H H') : KA H' v k := h.keep c.2
/-- a kind's head: what its tuple says -/
def hd (k : Kd) : Str := match k with
  | .pl _ => "plain"
  | .nd f _ _ => fstr f
theorem KA.head {H : Hp} {v : V} {k : Kd} (h : KA H v k) : ∃ a u r, v = .ref a ∧ H a = some (.tup (.str (hd k) :: u :: r)) := by
  cases h with
  | pl h1 h2 => exact ⟨_, _, _, rfl, h1⟩
  | nd h1 _ _ => exact ⟨_, _, _, rfl, h1⟩
theorem KA.tup {H : Hp} {v : V} {k : Kd} (h : KA H v k) : ∃ a xs, v = .ref a ∧ H a = some (.tup xs) := by
  cases h with
  | pl h1 h2 => exact ⟨_, _, rfl, h1⟩
  | nd h1 _ _ => exact ⟨_, _, rfl, h1⟩
theorem KA.pl_inv {H : Hp} {v : V} {c : Nat} (h : KA H v (.pl c)) : ∃ a, v = .ref a ∧ H a = some (.tup [.str "plain", .str (chr1 c)]) ∧ lowC c := by
  cases h with
  | pl h1 h2 => exact ⟨_, rfl, h1, h2⟩
theorem KA.nd_inv {H : Hp} {v : V} {f : Fm} {x y : Kd} (h : KA H v (.nd f x y)) : ∃ a u w, v = .ref a ∧ H a = some (.tup [.str (fstr f), u, w]) ∧ KA H u x ∧ KA H w y := by
  cases h with
  | nd h1 h2 h3 => exact ⟨_, _, _, rfl, h1, h2, h3⟩
abbrev KAs (H : Hp) (vs : List V) (ks : List Kd) : Prop := Paired (fun v k => KA H v k) vs ks
theorem KAs.mono {S : Addr → Prop} {H H' : Hp} {vs : List V} {ks : List Kd} (h : KAs H vs ks) (c : Ch S H H') : KAs H' vs ks := Paired.mapP h fun _ _ z => z.mono c

/-! ### as data -/
def kdD : Kd → PyData
  | .pl c => .tuple [.str "plain", .str (chr1 c)]
  | .nd f x y => .tuple [.str (fstr f), kdD x, kdD y]
theorem KA.dp {K : PySem.W.Frag} {H : Hp} {v : V} {k : Kd} (h : KA H v k) : Dp K H v (kdD k) := by
  induction h with
  | pl h1 h2 => exact .tup (SqT.of h1) (.cons (.str _) (.cons (.str _) .nil))
  | nd h1 _ _ i1 i2 => exact .tup (SqT.of h1) (.cons (.str _) (.cons i1 (.cons i2 .nil)))
theorem KAs.dp {K : PySem.W.Frag} {H : Hp} {vs : List V} {ks : List Kd} (h : KAs H vs ks) : DpAll K H vs (ks.map kdD) := by
  induction h with
  | nil => exact .nil
  | cons hq _ ih => exact .cons hq.dp ih
def Kd.low : Kd → Prop
  | .pl c => lowC c
  | .nd _ x y => x.low ∧ y.low
theorem KA.low {H : Hp} {v : V} {k : Kd} (h : KA H v k) : k.low := by
  induction h with
  | pl h1 h2 => exact h2
  | nd _ _ _ i1 i2 => exact ⟨i1, i2⟩
theorem str1_ok {c : Nat} (h : lowC c) : PyData.strOk (chr1 c) = true := by
  have q : ∀ c : Fin 123, 97 ≤ c.val → PyData.strOk (chr1 c.val) = true := by decide +kernel
  exact q ⟨c, by have := h.2; omega⟩ h.1
theorem kdD_lay : ∀ k : Kd, k.low → (kdD k).canLay0 = true
  | .pl c, h => by
    have := str1_ok h
    have e : PyData.strOk ("plain" : Str) = true := by decide +kernel
    simp [kdD, PyData.canLay0, PyData.canLayAll0, this, e]
  | .nd f x y, h => by
    have h1 := kdD_lay x h.1
    have h2 := kdD_lay y h.2
    have e : PyData.strOk (fstr f) = true := by cases f <;> decide +kernel
    simp [kdD, PyData.canLay0, PyData.canLayAll0, h1, h2, e]
theorem kdD_lays : ∀ ks : List Kd, (∀ k ∈ ks, k.low) → PyData.canLayAll0 (ks.map kdD) = true
  | [], _ => by simp [PyData.canLayAll0]
  | k :: ks, h => by simp [PyData.canLayAll0, kdD_lay k (h k (by simp)), kdD_lays ks fun z hz => h z (by simp [hz])]
theorem kdD_depth : ∀ k : Kd, (kdD k).depth ≤ k.size + 1
  | .pl c => by simp [kdD, PyData.depth, PyData.depthAll, Kd.size]
  | .nd f x y => by
    have h1 := kdD_depth x
    have h2 := kdD_depth y
    have p1 := Kd.size_pos x
    have p2 := Kd.size_pos y
    simp only [kdD, PyData.depth, PyData.depthAll, Kd.size]
    omega
theorem kdD_depths : ∀ (ks : List Kd) (n : Nat), (∀ k ∈ ks, k.size ≤ n) → PyData.depthAll (ks.map kdD) ≤ n + 1
  | [], n, _ => by simp [PyData.depthAll]
  | k :: ks, n, h => by
    have h1 := kdD_depth k
    have h2 := h k (by simp)
    have h3 := kdD_depths ks n fun z hz => h z (by simp [hz])
    simp only [List.map_cons, PyData.depthAll]
    omega
theorem kdD_shaped {k : Kd} (hl : k.low) (hs : k.size ≤ 50) : SeqAt.shaped (kdD k) = true := by
  have h := kdD_depth k
  show ((kdD k).canLay0 && decide ((kdD k).depth ≤ 64)) = true
  rw [Bool.and_eq_true]
  exact ⟨kdD_lay k hl, decide_eq_true (by omega)⟩
theorem lnD_shaped {ks : List Kd} (hl : ∀ k ∈ ks, k.low) (hs : ∀ k ∈ ks, k.size ≤ 50) : SeqAt.shaped (.list (ks.map kdD)) = true := by
  have h := kdD_depths ks 50 hs
  show (PyData.canLay0 (.list (ks.map kdD)) && decide (PyData.depth (.list (ks.map kdD)) ≤ 64)) = true
  rw [Bool.and_eq_true]
  refine ⟨by simp only [PyData.canLay0]; exact kdD_lays ks hl, decide_eq_true ?_⟩
  simp only [PyData.depth]
  omega
abbrev prD (z : List Kd × Kd) : PyData := .tuple [.list (z.1.map kdD), kdD z.2]
theorem prD_shaped {z : List Kd × Kd} (hl : ∀ k ∈ z.1, k.low) (hs : ∀ k ∈ z.1, k.size ≤ 50) (gl : z.2.low) (gs : z.2.size ≤ 50) : SeqAt.shaped (prD z) = true := by
  have h := kdD_depths z.1 50 hs
  have h2 := kdD_depth z.2
  show (PyData.canLay0 (prD z) && decide (PyData.depth (prD z) ≤ 64)) = true
  rw [Bool.and_eq_true]
  refine ⟨by simp [prD, PyData.canLay0, PyData.canLayAll0, kdD_lays z.1 hl, kdD_lay z.2 gl], decide_eq_true ?_⟩
  simp only [prD, PyData.depth, PyData.depthAll]
  omega
theorem chr1_inj {c d : Nat} (h : chr1 c = chr1 d) : c = d := by
  injection h with h
  injection h with h
  injection h with h _
theorem kdD_eqv : ∀ k l : Kd, PyData.eqv (kdD k) (kdD l) = decide (k = l)
  | .pl c, .pl d => by
    have e : (chr1 c == chr1 d) = decide (Kd.pl c = Kd.pl d) := by
      by_cases h : c = d
      · subst h; simp
      · rw [decide_eq_false (fun z => h (Kd.pl.inj z))]
        exact beq_eq_false_iff_ne.mpr fun z => h (chr1_inj z)
    simp [kdD, PyData.eqv, PyData.eqvAll, e]
  | .pl c, .nd f x y => by
    rw [decide_eq_false (fun z => by cases z)]
    have : (("plain" : Str) == fstr f) = false := beq_eq_false_iff_ne.mpr fun z => fstr_plain f z.symm
    unfold kdD
    rw [PyData.eqv, PyData.eqvAll, PyData.eqv, this, Bool.false_and]
  | .nd f x y, .pl c => by
    rw [decide_eq_false (fun z => by cases z)]
    have : (fstr f == ("plain" : Str)) = false := beq_eq_false_iff_ne.mpr (fstr_plain f)
    unfold kdD
    rw [PyData.eqv, PyData.eqvAll, PyData.eqv, this, Bool.false_and]
  | .nd f x y, .nd g u v => by
    have e1 := kdD_eqv x u
    have e2 := kdD_eqv y v
    have e0 : (fstr f == fstr g) = decide (f = g) := by
      by_cases h : f = g
      · subst h; simp
      · rw [decide_eq_false h]
        exact beq_eq_false_iff_ne.mpr fun z => h (fstr_inj z)
    have e3 : PyData.eqv (kdD (.nd f x y)) (kdD (.nd g u v)) = (decide (f = g) && (decide (x = u) && (decide (y = v) && true))) := by
      rw [← e0, ← e1, ← e2]
      simp only [kdD, PyData.eqv, PyData.eqvAll]
    rw [e3]
    by_cases h1 : f = g <;> by_cases h2 : x = u <;> by_cases h3 : y = v <;> simp [h1, h2, h3]
theorem lnD_eqv : ∀ k l : List Kd, PyData.eqvAll (k.map kdD) (l.map kdD) = decide (k = l)
  | [], [] => by simp [PyData.eqvAll]
  | [], _ :: _ => by simp [PyData.eqvAll]
  | _ :: _, [] => by simp [PyData.eqvAll]
  | a :: r, b :: t => by
    simp only [List.map_cons, PyData.eqvAll, kdD_eqv a b, lnD_eqv r t]
    by_cases h : a = b <;> by_cases h' : r = t <;> simp [h, h']
theorem prD_eqv (z w : List Kd × Kd) : PyData.eqv (prD z) (prD w) = decide (z = w) := by
  obtain ⟨a, b⟩ := z
  obtain ⟨c, d⟩ := w
  have e : PyData.eqv (prD (a, b)) (prD (c, d)) = (decide (a = c) && (decide (b = d) && true)) := by
    rw [← lnD_eqv a c, ← kdD_eqv b d]
    simp only [prD, PyData.eqv, PyData.eqvAll]
  rw [e]
  by_cases h : a = c <;> by_cases h' : b = d <;> simp [h, h']
theorem kdD_showable : ∀ k : Kd, (kdD k).showable = true
  | .pl c => by simp [kdD, PyData.showable, PyData.showableAll]
  | .nd f x y => by simp [kdD, PyData.showable, PyData.showableAll, kdD_showable x, kdD_showable y]
theorem lnD_showable : ∀ k : List Kd, PyData.showableAll (k.map kdD) = true
  | [] => by simp [PyData.showableAll]
  | a :: r => by simp [PyData.showableAll, kdD_showable a, lnD_showable r]
theorem prD_showable (z : List Kd × Kd) : (prD z).showable = true := by simp [prD, PyData.showable, PyData.showableAll, kdD_showable, lnD_showable]
theorem kdD_noDict : ∀ k : Kd, (kdD k).hasDict = false
  | .pl c => by simp [kdD, PyData.hasDict, PyData.hasDictAll]
  | .nd f x y => by simp [kdD, PyData.hasDict, PyData.hasDictAll, kdD_noDict x, kdD_noDict y]
theorem lnD_noDict : ∀ k : List Kd, PyData.hasDictAll (k.map kdD) = false
  | [] => by simp [PyData.hasDictAll]
  | a :: r => by simp [PyData.hasDictAll, kdD_noDict a, lnD_noDict r]
theorem prD_noDict (z : List Kd × Kd) : (prD z).hasDict = false := by simp [prD, PyData.hasDict, PyData.hasDictAll, kdD_noDict, lnD_noDict]
theorem prD_depth (z : List Kd × Kd) (hs : ∀ k ∈ z.1, k.size ≤ 30) (gs : z.2.size ≤ 30) : (prD z).depth ≤ 40 := by
  have h := kdD_depths z.1 30 hs
  have h2 := kdD_depth z.2
  simp only [prD, PyData.depth, PyData.depthAll]
  omega
/-! ### what is printed -/
def opn : Fm → List Nat
  | .b => [40, 39, 98, 101, 104, 105, 110, 100, 39, 44, 32]
  | .a => [40, 39, 97, 104, 101, 97, 100, 39, 44, 32]
  | .w => [40, 39, 119, 105, 116, 104, 39, 44, 32]
def shK : Kd → List Nat
  | .pl c => [40, 39, 112, 108, 97, 105, 110, 39, 44, 32, 39, c, 39, 41]
  | .nd f x y => opn f ++ (shK x ++ ([44, 32] ++ (shK y ++ [41])))
theorem cps_append (a b : Str) : (a ++ b).cps.toList = a.cps.toList ++ b.cps.toList := by
  show (a.cps ++ b.cps).toList = _
  exact Array.toList_append
theorem repr1 {c : Nat} (h : lowC c) : (reprText (chr1 c)).cps.toList = [39, c, 39] := by
  have q : ∀ c : Fin 123, 97 ≤ c.val → (reprText (chr1 c.val)).cps.toList = [39, c.val, 39] := by decide +kernel
  exact q ⟨c, by have := h.2; omega⟩ h.1
theorem tup2_shown (x y : PyData) : (PyData.shown (.tuple [x, y])).cps.toList = [40] ++ (x.shown.cps.toList ++ ([44, 32] ++ (y.shown.cps.toList ++ [41]))) := by
  have e : PyData.shown (.tuple [x, y]) = ("(" : Str) ++ (x.shown ++ ", " ++ y.shown) ++ (")" : Str) := by
    simp only [PyData.shown, PyData.shownAll]
    rfl
  rw [e, cps_append, cps_append, cps_append, cps_append]
  have e1 : (("(" : Str)).cps.toList = [40] := by decide +kernel
  have e2 : ((")" : Str)).cps.toList = [41] := by decide +kernel
  have e3 : ((", " : Str)).cps.toList = [44, 32] := by decide +kernel
  rw [e1, e2, e3]
  simp only [List.append_assoc]
theorem tup3_shown (x y z : PyData) : (PyData.shown (.tuple [x, y, z])).cps.toList = [40] ++ (x.shown.cps.toList ++ ([44, 32] ++ (y.shown.cps.toList ++ ([44, 32] ++ (z.shown.cps.toList ++ [41]))))) := by
  have e : PyData.shown (.tuple [x, y, z]) = ("(" : Str) ++ (x.shown ++ ", " ++ (y.shown ++ ", " ++ z.shown)) ++ (")" : Str) := by
    simp only [PyData.shown, PyData.shownAll]
    rfl
  rw [e, cps_append, cps_append, cps_append, cps_append, cps_append, cps_append]
  have e1 : (("(" : Str)).cps.toList = [40] := by decide +kernel
  have e2 : ((")" : Str)).cps.toList = [41] := by decide +kernel
  have e3 : ((", " : Str)).cps.toList = [44, 32] := by decide +kernel
  rw [e1, e2, e3]
  simp only [List.append_assoc]
theorem str_shown (x : Str) : (PyData.str x).shown = reprText x := by simp only [PyData.shown]
theorem kdD_shown : ∀ k : Kd, k.low → (kdD k).shown.cps.toList = shK k
  | .pl c, h => by
    have e : (reprText ("plain" : Str)).cps.toList = [39, 112, 108, 97, 105, 110, 39] := by decide +kernel
    rw [kdD, tup2_shown, str_shown, str_shown, repr1 h, e]
    rfl
  | .nd f x y, h => by
    rw [kdD, tup3_shown, kdD_shown x h.1, kdD_shown y h.2, str_shown]
    have e : [40] ++ ((reprText (fstr f)).cps.toList ++ [44, 32]) = opn f := by cases f <;> decide +kernel
    rw [← List.append_assoc (reprText (fstr f)).cps.toList, ← List.append_assoc [40], e]
    rfl
theorem shK_pre : ∀ (k l : Kd) (s t : List Nat), shK k ++ s = shK l ++ t → k = l ∧ s = t
  | .pl c, .pl d, s, t, h => by
    simp only [shK, List.cons_append, List.nil_append, List.cons.injEq, true_and] at h
    exact ⟨by rw [h.1], h.2⟩
  | .pl c, .nd f x y, s, t, h => by
    cases f <;> simp [shK, opn] at h
  | .nd f x y, .pl c, s, t, h => by
    cases f <;> simp [shK, opn] at h
  | .nd f x y, .nd g u v, s, t, h => by
    have hf : f = g := by cases f <;> cases g <;> first | rfl | (simp [shK, opn] at h)
    subst hf
    have h1 : opn f ++ (shK x ++ ([44, 32] ++ (shK y ++ ([41] ++ s)))) = opn f ++ (shK u ++ ([44, 32] ++ (shK v ++ ([41] ++ t)))) := by
      simpa only [shK, List.append_assoc] using h
    obtain ⟨e1, h2⟩ := shK_pre x u _ _ (List.append_cancel_left h1)
    obtain ⟨e2, h3⟩ := shK_pre y v _ _ (List.append_cancel_left h2)
    exact ⟨by rw [e1, e2], List.append_cancel_left h3⟩
theorem shK_head (k : Kd) : ∃ r, shK k = 40 :: r := by
  cases k with
  | pl c => exact ⟨_, rfl⟩
  | nd f x y => cases f <;> exact ⟨_, rfl⟩
def shR : List Kd → List Nat
  | [] => [93]
  | k :: r => [44, 32] ++ (shK k ++ shR r)
def shL : List Kd → List Nat
  | [] => [91, 93]
  | k :: r => [91] ++ (shK k ++ shR r)
theorem shR_pre : ∀ (k l : List Kd) (s t : List Nat), shR k ++ s = shR l ++ t → k = l ∧ s = t
  | [], [], s, t, h => by simpa [shR] using h
  | [], b :: l, s, t, h => by simp [shR] at h
  | a :: k, [], s, t, h => by simp [shR] at h
  | a :: k, b :: l, s, t, h => by
    have h1 : [44, 32] ++ (shK a ++ (shR k ++ s)) = [44, 32] ++ (shK b ++ (shR l ++ t)) := by simpa only [shR, List.append_assoc] using h
    obtain ⟨e1, h2⟩ := shK_pre a b _ _ (List.append_cancel_left h1)
    obtain ⟨e2, h3⟩ := shR_pre k l _ _ h2
    exact ⟨by rw [e1, e2], h3⟩
theorem shL_pre : ∀ (k l : List Kd) (s t : List Nat), shL k ++ s = shL l ++ t → k = l ∧ s = t
  | [], [], s, t, h => by simpa [shL] using h
  | [], b :: l, s, t, h => by
    obtain ⟨r, e⟩ := shK_head b
    simp [shL, e] at h
  | a :: k, [], s, t, h => by
    obtain ⟨r, e⟩ := shK_head a
    simp [shL, e] at h
  | a :: k, b :: l, s, t, h => by
    have h1 : [91] ++ (shK a ++ (shR k ++ s)) = [91] ++ (shK b ++ (shR l ++ t)) := by simpa only [shL, List.append_assoc] using h
    obtain ⟨e1, h2⟩ := shK_pre a b _ _ (List.append_cancel_left h1)
    obtain ⟨e2, h3⟩ := shR_pre k l _ _ h2
    exact ⟨by rw [e1, e2], h3⟩
theorem textFrom_cps : ∀ (ks : List Kd) (j : Nat) (acc : Str), (∀ k ∈ ks, k.low) → (textFrom (j + 1) acc (PyData.shownAll (ks.map kdD)) ++ ("]" : Str)).cps.toList = acc.cps.toList ++ shR ks
  | [], j, acc, _ => by
    have e2 : (("]" : Str)).cps.toList = [93] := by decide +kernel
    show (acc ++ ("]" : Str)).cps.toList = _
    rw [cps_append, e2]
    rfl
  | k :: ks, j, acc, h => by
    show (textFrom (j + 1 + 1) (acc ++ ((if j + 1 > 0 then ", " else "" : String) : Str) ++ (kdD k).shown) (PyData.shownAll (ks.map kdD)) ++ ("]" : Str)).cps.toList = _
    rw [textFrom_cps ks (j + 1) _ fun z hz => h z (by simp [hz]), if_pos (Nat.succ_pos j), cps_append, cps_append, kdD_shown k (h k (by simp))]
    have e3 : ((", " : Str)).cps.toList = [44, 32] := by decide +kernel
    rw [e3]
    simp only [shR, List.append_assoc]
theorem lnD_shown (ks : List Kd) (h : ∀ k ∈ ks, k.low) : (PyData.shown (.list (ks.map kdD))).cps.toList = shL ks := by
  have e1 : (("[" : Str)).cps.toList = [91] := by decide +kernel
  have e2 : (("]" : Str)).cps.toList = [93] := by decide +kernel
  cases ks with
  | nil =>
    simp only [PyData.shown, List.map_nil, PyData.shownAll]
    decide +kernel
  | cons k ks =>
    have e : PyData.shown (.list ((k :: ks).map kdD)) = textFrom 1 (("[" : Str) ++ (("" : String) : Str) ++ (kdD k).shown) (PyData.shownAll (ks.map kdD)) ++ ("]" : Str) := by
      simp only [PyData.shown, List.map_cons, PyData.shownAll]
      rfl
    have e4 : ((("" : String) : Str)).cps.toList = [] := by decide +kernel
    rw [e, textFrom_cps ks 0 _ fun z hz => h z (by simp [hz]), cps_append, cps_append, kdD_shown k (h k (by simp)), e1, e4]
    simp only [shL, List.append_assoc, List.nil_append]
def allLow (z : List Kd × Kd) : Prop := (∀ k ∈ z.1, k.low) ∧ z.2.low
theorem prD_shown_cps {z : List Kd × Kd} (h : allLow z) : (prD z).shown.cps.toList = [40] ++ (shL z.1 ++ ([44, 32] ++ (shK z.2 ++ [41]))) := by
  rw [prD, tup2_shown, lnD_shown z.1 h.1, kdD_shown z.2 h.2]
theorem prD_inj {z w : List Kd × Kd} (h : allLow z) (h' : allLow w) (e : (prD z).shown = (prD w).shown) : z = w := by
  have e1 : (prD z).shown.cps.toList = (prD w).shown.cps.toList := congrArg (fun s : Str => s.cps.toList) e
  rw [prD_shown_cps h, prD_shown_cps h'] at e1
  obtain ⟨a, b⟩ := z
  obtain ⟨c, d⟩ := w
  obtain ⟨e2, e3⟩ := shL_pre a c _ _ (List.append_cancel_left e1)
  obtain ⟨e4, _⟩ := shK_pre b d _ _ (List.append_cancel_left e3)
  exact Prod.ext e2 e4
theorem shK_length : ∀ k : Kd, (shK k).length ≤ 30 * k.size
  | .pl c => by simp [shK, Kd.size]
  | .nd f x y => by
    have h1 := shK_length x
    have h2 := shK_length y
    have p1 := Kd.size_pos x
    have p2 := Kd.size_pos y
    have p3 : (opn f).length ≤ 11 := by cases f <;> decide
    have hx := Kd.forms_size x
    have : ∀ k : Kd, (shK k).length + 16 ≤ 30 * k.size := by
      intro k
      induction k with
      | pl c => simp [shK, Kd.size]
      | nd g u v iu iv =>
        have p4 : (opn g).length ≤ 11 := by cases g <;> decide
        simp only [shK, Kd.size, List.length_append, List.length_cons, List.length_nil]
        omega
    have := this (.nd f x y)
    omega
theorem shR_length : ∀ ks : List Kd, (shR ks).length ≤ 32 * (ks.map Kd.size).sum + 1
  | [] => by simp [shR]
  | k :: r => by
    have h1 := shK_length k
    have h2 := shR_length r
    have p := Kd.size_pos k
    simp only [shR, List.length_append, List.length_cons, List.length_nil, List.map_cons, List.sum_cons]
    omega
theorem shL_length (ks : List Kd) : (shL ks).length ≤ 32 * (ks.map Kd.size).sum + 2 := by
  cases ks with
  | nil => simp [shL]
  | cons k r =>
    have h1 := shK_length k
    have h2 := shR_length r
    have p := Kd.size_pos k
    simp only [shL, List.length_append, List.length_cons, List.length_nil, List.map_cons, List.sum_cons]
    omega
theorem prD_shown_len {z : List Kd × Kd} (h : allLow z) (n : Nat) (hn : (z.1.map Kd.size).sum + z.2.size ≤ n) : (prD z).shown.length ≤ 32 * n + 6 := by
  have e : (prD z).shown.length = (prD z).shown.cps.toList.length := by simp [Str.length]
  rw [e, prD_shown_cps h]
  have h1 := shL_length z.1
  have h2 := shK_length z.2
  simp only [List.length_append, List.length_cons, List.length_nil]
  omega
/-! ### papers -/
inductive PAp (H : Hp) : V → List Kd → Kd → Prop
  | same {a : Addr} {u : V} {A : Kd} : H a = some (.tup [.str "same", u]) → KA H u A → PAp H (.ref a) [A] A
  | gb {a : Addr} {p : V} {Γ : List Kd} {A B : Kd} : H a = some (.tup [.str "givebehind", p]) → Γ ≠ [] → PAp H p (Γ ++ [B]) A → PAp H (.ref a) Γ (.nd .b A B)
  | ga {a : Addr} {p : V} {Γ : List Kd} {A B : Kd} : H a = some (.tup [.str "giveahead", p]) → Γ ≠ [] → PAp H p (B :: Γ) A → PAp H (.ref a) Γ (.nd .a B A)
  | jn {a : Addr} {p q : V} {Γ Δ : List Kd} {A B : Kd} : H a = some (.tup [.str "join", p, q]) → PAp H p Γ A → PAp H q Δ B → PAp H (.ref a) (Γ ++ Δ) (.nd .w A B)
  | pt {a : Addr} {p : V} {Γ Δ : List Kd} {A B C : Kd} : H a = some (.tup [.str "part", .int (Γ.length : Int), p]) → PAp H p (Γ ++ A :: B :: Δ) C → PAp H (.ref a) (Γ ++ .nd .w A B :: Δ) C
  | be {a : Addr} {p q : V} {Γ Δ Θ : List Kd} {A B C : Kd} : H a = some (.tup [.str "behind", .int (Γ.length : Int), p, q]) → PAp H p (Γ ++ A :: Δ) C → PAp H q Θ B → PAp H (.ref a) (Γ ++ (.nd .b A B :: Θ) ++ Δ) C
  | ah {a : Addr} {p q : V} {Γ Δ Θ : List Kd} {A B C : Kd} : H a = some (.tup [.str "ahead", .int (Γ.length : Int), p, q]) → PAp H p (Γ ++ A :: Δ) C → PAp H q Θ B → PAp H (.ref a) (Γ ++ (Θ ++ [.nd .a B A]) ++ Δ) C
theorem PAp.keep {H H' : Hp} {v : V} {Γ : List Kd} {C : Kd} (h : PAp H v Γ C) (ht : ∀ b xs, H b = some (.tup xs) → H' b = some (.tup xs)) : PAp H' v Γ C := by
  induction h with
  | same h1 h2 => exact .same (ht _ _ h1) (h2.keep ht)
  | gb h1 h2 _ i => exact .gb (ht _ _ h1) h2 i
  | ga h1 h2 _ i => exact .ga (ht _ _ h1) h2 i
  | jn h1 _ _ i j => exact .jn (ht _ _ h1) i j
  | pt h1 _ i => exact .pt (ht _ _ h1) i
  | be h1 _ _ i j => exact .be (ht _ _ h1) i j
  | ah h1 _ _ i j => exact .ah (ht _ _ h1) i j
theorem PAp.D {H : Hp} {v : V} {Γ : List Kd} {C : Kd} (h : PAp H v Γ C) : D Γ C := by
  induction h with
  | same _ _ => exact .same _
  | gb _ h2 _ i => exact .gb h2 i
  | ga _ h2 _ i => exact .ga h2 i
  | jn _ _ _ i j => exact .jn i j
  | pt _ _ i => exact .pt i
  | be _ _ _ i j => exact .be i j
  | ah _ _ _ i j => exact .ah i j
theorem PAp.ref {H : Hp} {v : V} {Γ : List Kd} {C : Kd} (h : PAp H v Γ C) : ∃ a xs, v = .ref a ∧ H a = some (.tup xs) := by
  cases h with
  | same h1 _ => exact ⟨_, _, rfl, h1⟩
  | gb h1 _ _ => exact ⟨_, _, rfl, h1⟩
  | ga h1 _ _ => exact ⟨_, _, rfl, h1⟩
  | jn h1 _ _ => exact ⟨_, _, rfl, h1⟩
  | pt h1 _ => exact ⟨_, _, rfl, h1⟩
  | be h1 _ _ => exact ⟨_, _, rfl, h1⟩
  | ah h1 _ _ => exact ⟨_, _, rfl, h1⟩
end WW
/-! All that the walks ask of the program's top: printed by gen_tx.py. -/
namespace WW
open PySem PySem.Spec PyProof.Rows L2
structure Dd (K : PySem.W.Frag) (x q : Str) (st : Stmt) (ps : List Str) (f : Addr) (fd : FuncData) : Prop where
  F : FunD K x q (defArgs st) (defBody st) (defScope st) [] [] f fd
  b : Binds K fd ps []
theorem Dd.kp {K : PySem.W.Frag} {x q : Str} {st : Stmt} {ps : List Str} {f : Addr} {fd : FuncData} (D : Dd K x q st ps f fd) : PySem.W.keepIn K (.ref f) = true := D.F.kp
structure TX (w : World) (K : PySem.W.Frag) (mg : Str → Option Value) (fd : Nat → FuncData) : Prop where
  d_WaitError_new : Dd K "__init__" "WaitError.__init__" s_WaitError_new P_WaitError_new (He.ma K (He.ga K "WaitError") "__init__") (fd 0)
  d_fresh : Dd K "fresh" "fresh" s_fresh P_fresh (He.ga K "fresh") (fd 1)
  d_is_letter : Dd K "is_letter" "is_letter" s_is_letter P_is_letter (He.ga K "is_letter") (fd 2)
  d_wrong_part : Dd K "wrong_part" "wrong_part" s_wrong_part P_wrong_part (He.ga K "wrong_part") (fd 3)
  d_checked_kind : Dd K "checked_kind" "checked_kind" s_checked_kind P_checked_kind (He.ga K "checked_kind") (fd 4)
  d_checked_kinds : Dd K "checked_kinds" "checked_kinds" s_checked_kinds P_checked_kinds (He.ga K "checked_kinds") (fd 5)
  d_joined_words : Dd K "joined_words" "joined_words" s_joined_words P_joined_words (He.ga K "joined_words") (fd 6)
  d_back_word : Dd K "back_word" "back_word" s_back_word P_back_word (He.ga K "back_word") (fd 7)
  d_Table_new : Dd K "__init__" "Table.__init__" s_Table_new P_Table_new (He.ma K (He.ga K "Table") "__init__") (fd 8)
  d_Table_number : Dd K "number" "Table.number" s_Table_number P_Table_number (He.ma K (He.ga K "Table") "number") (fd 9)
  d_Table_keep : Dd K "keep" "Table.keep" s_Table_keep P_Table_keep (He.ma K (He.ga K "Table") "keep") (fd 10)
  d_Table_letters_of : Dd K "letters_of" "Table.letters_of" s_Table_letters_of P_Table_letters_of (He.ma K (He.ga K "Table") "letters_of") (fd 11)
  d_Table_may_come : Dd K "may_come" "Table.may_come" s_Table_may_come P_Table_may_come (He.ma K (He.ga K "Table") "may_come") (fd 12)
  d_Table_paper : Dd K "paper" "Table.paper" s_Table_paper P_Table_paper (He.ma K (He.ga K "Table") "paper") (fd 13)
  d_Table_paper_anew : Dd K "paper_anew" "Table.paper_anew" s_Table_paper_anew P_Table_paper_anew (He.ma K (He.ga K "Table") "paper_anew") (fd 14)
  d_Table_joined_paper : Dd K "joined_paper" "Table.joined_paper" s_Table_joined_paper P_Table_joined_paper (He.ma K (He.ga K "Table") "joined_paper") (fd 15)
  d_Table_waiting_paper : Dd K "waiting_paper" "Table.waiting_paper" s_Table_waiting_paper P_Table_waiting_paper (He.ma K (He.ga K "Table") "waiting_paper") (fd 16)
  d_Table_behind_paper : Dd K "behind_paper" "Table.behind_paper" s_Table_behind_paper P_Table_behind_paper (He.ma K (He.ga K "Table") "behind_paper") (fd 17)
  d_Table_ahead_paper : Dd K "ahead_paper" "Table.ahead_paper" s_Table_ahead_paper P_Table_ahead_paper (He.ma K (He.ga K "Table") "ahead_paper") (fd 18)
  d_prove : Dd K "prove" "prove" s_prove P_prove (He.ga K "prove") (fd 19)
  d_row_comes : Dd K "row_comes" "row_comes" s_row_comes P_row_comes (He.ga K "row_comes") (fd 20)
  d_leads : Dd K "leads" "leads" s_leads P_leads (He.ga K "leads") (fd 21)
  d_check_asked : Dd K "check_asked" "check_asked" s_check_asked P_check_asked (He.ga K "check_asked") (fd 22)
  d_leads_to : Dd K "leads_to" "leads_to" s_leads_to P_leads_to (He.ga K "leads_to") (fd 23)
  d_above : Dd K "above" "above" s_above P_above (He.ga K "above") (fd 24)
  d_below : Dd K "below" "below" s_below P_below (He.ga K "below") (fd 25)
  d_paper_for : Dd K "paper_for" "paper_for" s_paper_for P_paper_for (He.ga K "paper_for") (fd 26)
  d_l_spring : Dd K "_law_spring" "_law_spring" s_l_spring P_l_spring (He.ga K "_law_spring") (fd 27)
  d_l_sip : Dd K "_law_sip" "_law_sip" s_l_sip P_l_sip (He.ga K "_law_sip") (fd 28)
  d_l_letters : Dd K "_law_letters" "_law_letters" s_l_letters P_l_letters (He.ga K "_law_letters") (fd 29)
  d_l_drawn : Dd K "_law_drawn" "_law_drawn" s_l_drawn P_l_drawn (He.ga K "_law_drawn") (fd 30)
  d_l_size : Dd K "_law_size" "_law_size" s_l_size P_l_size (He.ga K "_law_size") (fd 31)
  d_l_depth : Dd K "_law_depth" "_law_depth" s_l_depth P_l_depth (He.ga K "_law_depth") (fd 32)
  d_l_waits : Dd K "_law_waits" "_law_waits" s_l_waits P_l_waits (He.ga K "_law_waits") (fd 33)
  d_l_fits : Dd K "_law_fits" "_law_fits" s_l_fits P_l_fits (He.ga K "_law_fits") (fd 34)
  d_l_sum : Dd K "_law_sum" "_law_sum" s_l_sum P_l_sum (He.ga K "_law_sum") (fd 35)
  d_l_comes : Dd K "_law_comes" "_law_comes" s_l_comes P_l_comes (He.ga K "_law_comes") (fd 36)
  d_l_comes_anew : Dd K "_law_comes_anew" "_law_comes_anew" s_l_comes_anew P_l_comes_anew (He.ga K "_law_comes_anew") (fd 37)
  d_l_put_together : Dd K "_law_put_together" "_law_put_together" s_l_put_together P_l_put_together (He.ga K "_law_put_together") (fd 38)
  d_l_shown : Dd K "_law_shown" "_law_shown" s_l_shown P_l_shown (He.ga K "_law_shown") (fd 39)
  d_l_shown_at : Dd K "_law_shown_at" "_law_shown_at" s_l_shown_at P_l_shown_at (He.ga K "_law_shown_at") (fd 40)
  d_l_pool : Dd K "_law_pool" "_law_pool" s_l_pool P_l_pool (He.ga K "_law_pool") (fd 41)
  d_l_even : Dd K "_law_even" "_law_even" s_l_even P_l_even (He.ga K "_law_even") (fd 42)
  d_l_three : Dd K "_law_three" "_law_three" s_l_three P_l_three (He.ga K "_law_three") (fd 43)
  d_l_due : Dd K "_law_due" "_law_due" s_l_due P_l_due (He.ga K "_law_due") (fd 44)
  d_l_told : Dd K "_law_told" "_law_told" s_l_told P_l_told (He.ga K "_law_told") (fd 45)
  d_l_walked : Dd K "_law_walked" "_law_walked" s_l_walked P_l_walked (He.ga K "_law_walked") (fd 46)
  d_l_right : Dd K "_law_right" "_law_right" s_l_right P_l_right (He.ga K "_law_right") (fd 47)
  d_law : Dd K "law" "law" s_law P_law (He.ga K "law") (fd 48)
  g_WaitError : mg "WaitError" = some (.ref (He.ga K "WaitError"))
  g_InvalidKind : mg "InvalidKind" = some (.ref (He.ga K "InvalidKind"))
  g_InvalidRow : mg "InvalidRow" = some (.ref (He.ga K "InvalidRow"))
  g_NotLeading : mg "NotLeading" = some (.ref (He.ga K "NotLeading"))
  g_fresh : mg "fresh" = some (.ref (He.ga K "fresh"))
  g_TURNS : mg "TURNS" = some (.ref (He.ga K "TURNS"))
  g_is_letter : mg "is_letter" = some (.ref (He.ga K "is_letter"))
  g_wrong_part : mg "wrong_part" = some (.ref (He.ga K "wrong_part"))
  g_checked_kind : mg "checked_kind" = some (.ref (He.ga K "checked_kind"))
  g_checked_kinds : mg "checked_kinds" = some (.ref (He.ga K "checked_kinds"))
  g_joined_words : mg "joined_words" = some (.ref (He.ga K "joined_words"))
  g_back_word : mg "back_word" = some (.ref (He.ga K "back_word"))
  g_Table : mg "Table" = some (.ref (He.ga K "Table"))
  g_prove : mg "prove" = some (.ref (He.ga K "prove"))
  g_row_comes : mg "row_comes" = some (.ref (He.ga K "row_comes"))
  g_leads : mg "leads" = some (.ref (He.ga K "leads"))
  g_check_asked : mg "check_asked" = some (.ref (He.ga K "check_asked"))
  g_leads_to : mg "leads_to" = some (.ref (He.ga K "leads_to"))
  g_above : mg "above" = some (.ref (He.ga K "above"))
  g_below : mg "below" = some (.ref (He.ga K "below"))
  g_paper_for : mg "paper_for" = some (.ref (He.ga K "paper_for"))
  g_l_spring : mg "_law_spring" = some (.ref (He.ga K "_law_spring"))
  g_l_sip : mg "_law_sip" = some (.ref (He.ga K "_law_sip"))
  g_l_letters : mg "_law_letters" = some (.ref (He.ga K "_law_letters"))
  g_l_drawn : mg "_law_drawn" = some (.ref (He.ga K "_law_drawn"))
  g_l_size : mg "_law_size" = some (.ref (He.ga K "_law_size"))
  g_l_depth : mg "_law_depth" = some (.ref (He.ga K "_law_depth"))
  g_l_waits : mg "_law_waits" = some (.ref (He.ga K "_law_waits"))
  g_l_fits : mg "_law_fits" = some (.ref (He.ga K "_law_fits"))
  g_l_sum : mg "_law_sum" = some (.ref (He.ga K "_law_sum"))
  g_l_comes : mg "_law_comes" = some (.ref (He.ga K "_law_comes"))
  g_l_comes_anew : mg "_law_comes_anew" = some (.ref (He.ga K "_law_comes_anew"))
  g_l_put_together : mg "_law_put_together" = some (.ref (He.ga K "_law_put_together"))
  g_l_shown : mg "_law_shown" = some (.ref (He.ga K "_law_shown"))
  g_l_shown_at : mg "_law_shown_at" = some (.ref (He.ga K "_law_shown_at"))
  g_l_pool : mg "_law_pool" = some (.ref (He.ga K "_law_pool"))
  g_l_even : mg "_law_even" = some (.ref (He.ga K "_law_even"))
  g_l_three : mg "_law_three" = some (.ref (He.ga K "_law_three"))
  g_l_due : mg "_law_due" = some (.ref (He.ga K "_law_due"))
  g_l_told : mg "_law_told" = some (.ref (He.ga K "_law_told"))
  g_l_walked : mg "_law_walked" = some (.ref (He.ga K "_law_walked"))
  g_l_right : mg "_law_right" = some (.ref (He.ga K "_law_right"))
  g_law : mg "law" = some (.ref (He.ga K "law"))
  z_ValueError : mg "ValueError" = none
  z_isinstance : mg "isinstance" = none
  z_list : mg "list" = none
  z_tuple : mg "tuple" = none
  z_len : mg "len" = none
  z_min : mg "min" = none
  z_max : mg "max" = none
  z_sum : mg "sum" = none
  z_range : mg "range" = none
  z_enumerate : mg "enumerate" = none
  z_repr : mg "repr" = none
  z_int : mg "int" = none
  z_abs : mg "abs" = none
  z_bool : mg "bool" = none
  i_STEP : ∃ t, mg "STEP" = some (.int 4096 t)
  i_LETTERS : ∃ t, mg "LETTERS" = some (.str "abcdefghijklmnopqrstuvwxyz" t)
  c_Table : Cls K (He.ga K "Table")
  k_Table : Mk K (He.ga K "Table") (He.ma K (He.ga K "Table") "__init__")
  n_marks : NoAttr K (He.ga K "Table") "marks"
  n_shapes : NoAttr K (He.ga K "Table") "shapes"
  n_forms : NoAttr K (He.ga K "Table") "forms"
  n_pairs : NoAttr K (He.ga K "Table") "pairs"
  n_sums : NoAttr K (He.ga K "Table") "sums"
  n_spelled : NoAttr K (He.ga K "Table") "spelled"
  n_cores : NoAttr K (He.ga K "Table") "cores"
  n_weight : NoAttr K (He.ga K "Table") "weight"
  n_met : NoAttr K (He.ga K "Table") "met"
  n_known : NoAttr K (He.ga K "Table") "known"
  m_number : Meth K (He.ga K "Table") "number" (He.ma K (He.ga K "Table") "number")
  m_keep : Meth K (He.ga K "Table") "keep" (He.ma K (He.ga K "Table") "keep")
  m_letters_of : Meth K (He.ga K "Table") "letters_of" (He.ma K (He.ga K "Table") "letters_of")
  m_may_come : Meth K (He.ga K "Table") "may_come" (He.ma K (He.ga K "Table") "may_come")
  m_paper : Meth K (He.ga K "Table") "paper" (He.ma K (He.ga K "Table") "paper")
  m_paper_anew : Meth K (He.ga K "Table") "paper_anew" (He.ma K (He.ga K "Table") "paper_anew")
  m_joined_paper : Meth K (He.ga K "Table") "joined_paper" (He.ma K (He.ga K "Table") "joined_paper")
  m_waiting_paper : Meth K (He.ga K "Table") "waiting_paper" (He.ma K (He.ga K "Table") "waiting_paper")
  m_behind_paper : Meth K (He.ga K "Table") "behind_paper" (He.ma K (He.ga K "Table") "behind_paper")
  m_ahead_paper : Meth K (He.ga K "Table") "ahead_paper" (He.ma K (He.ga K "Table") "ahead_paper")
  n_value : NoAttr K (He.ga K "NotLeading") "value"
  x_self : PySem.W.exmOne K (.ref (He.ga K "NotLeading")) (.ref (He.ga K "NotLeading")) = some true
  x_keep : PySem.W.keepIn K (.ref (He.ga K "NotLeading")) = true
  more : exB K = true
  tab : ∃ es n, KDict K w (He.ga K "TURNS") es n
theorem mk_d_WaitError_new {K : PySem.W.Frag} {f : Addr} {fd : FuncData} (F : FunD K "__init__" "WaitError.__init__" (defArgs s_WaitError_new) (defBody s_WaitError_new) (defScope s_WaitError_new) [] [] f fd) : Dd K "__init__" "WaitError.__init__" s_WaitError_new P_WaitError_new f fd := ⟨F, F.bindsN fun _ _ _ _ _ _ us hl => match us, hl with | [_, _], _ => rfl⟩
theorem mk_d_fresh {K : PySem.W.Frag} {f : Addr} {fd : FuncData} (F : FunD K "fresh" "fresh" (defArgs s_fresh) (defBody s_fresh) (defScope s_fresh) [] [] f fd) : Dd K "fresh" "fresh" s_fresh P_fresh f fd := ⟨F, F.bindsN fun _ _ _ _ _ _ us hl => match us, hl with | [_], _ => rfl⟩
theorem mk_d_is_letter {K : PySem.W.Frag} {f : Addr} {fd : FuncData} (F : FunD K "is_letter" "is_letter" (defArgs s_is_letter) (defBody s_is_letter) (defScope s_is_letter) [] [] f fd) : Dd K "is_letter" "is_letter" s_is_letter P_is_letter f fd := ⟨F, F.bindsN fun _ _ _ _ _ _ us hl => match us, hl with | [_], _ => rfl⟩
theorem mk_d_wrong_part {K : PySem.W.Frag} {f : Addr} {fd : FuncData} (F : FunD K "wrong_part" "wrong_part" (defArgs s_wrong_part) (defBody s_wrong_part) (defScope s_wrong_part) [] [] f fd) : Dd K "wrong_part" "wrong_part" s_wrong_part P_wrong_part f fd := ⟨F, F.bindsN fun _ _ _ _ _ _ us hl => match us, hl with | [_], _ => rfl⟩
theorem mk_d_checked_kind {K : PySem.W.Frag} {f : Addr} {fd : FuncData} (F : FunD K "checked_kind" "checked_kind" (defArgs s_checked_kind) (defBody s_checked_kind) (defScope s_checked_kind) [] [] f fd) : Dd K "checked_kind" "checked_kind" s_checked_kind P_checked_kind f fd := ⟨F, F.bindsN fun _ _ _ _ _ _ us hl => match us, hl with | [_], _ => rfl⟩
theorem mk_d_checked_kinds {K : PySem.W.Frag} {f : Addr} {fd : FuncData} (F : FunD K "checked_kinds" "checked_kinds" (defArgs s_checked_kinds) (defBody s_checked_kinds) (defScope s_checked_kinds) [] [] f fd) : Dd K "checked_kinds" "checked_kinds" s_checked_kinds P_checked_kinds f fd := ⟨F, F.bindsN fun _ _ _ _ _ _ us hl => match us, hl with | [_], _ => rfl⟩
theorem mk_d_joined_words {K : PySem.W.Frag} {f : Addr} {fd : FuncData} (F : FunD K "joined_words" "joined_words" (defArgs s_joined_words) (defBody s_joined_words) (defScope s_joined_words) [] [] f fd) : Dd K "joined_words" "joined_words" s_joined_words P_joined_words f fd := ⟨F, F.bindsN fun _ _ _ _ _ _ us hl => match us, hl with | [_, _], _ => rfl⟩
theorem mk_d_back_word {K : PySem.W.Frag} {f : Addr} {fd : FuncData} (F : FunD K "back_word" "back_word" (defArgs s_back_word) (defBody s_back_word) (defScope s_back_word) [] [] f fd) : Dd K "back_word" "back_word" s_back_word P_back_word f fd := ⟨F, F.bindsN fun _ _ _ _ _ _ us hl => match us, hl with | [_], _ => rfl⟩
theorem mk_d_Table_new {K : PySem.W.Frag} {f : Addr} {fd : FuncData} (F : FunD K "__init__" "Table.__init__" (defArgs s_Table_new) (defBody s_Table_new) (defScope s_Table_new) [] [] f fd) : Dd K "__init__" "Table.__init__" s_Table_new P_Table_new f fd := ⟨F, F.bindsN fun _ _ _ _ _ _ us hl => match us, hl with | [_], _ => rfl⟩
theorem mk_d_Table_number {K : PySem.W.Frag} {f : Addr} {fd : FuncData} (F : FunD K "number" "Table.number" (defArgs s_Table_number) (defBody s_Table_number) (defScope s_Table_number) [] [] f fd) : Dd K "number" "Table.number" s_Table_number P_Table_number f fd := ⟨F, F.bindsN fun _ _ _ _ _ _ us hl => match us, hl with | [_, _], _ => rfl⟩
theorem mk_d_Table_keep {K : PySem.W.Frag} {f : Addr} {fd : FuncData} (F : FunD K "keep" "Table.keep" (defArgs s_Table_keep) (defBody s_Table_keep) (defScope s_Table_keep) [] [] f fd) : Dd K "keep" "Table.keep" s_Table_keep P_Table_keep f fd := ⟨F, F.bindsN fun _ _ _ _ _ _ us hl => match us, hl with | [_, _, _, _, _], _ => rfl⟩
theorem mk_d_Table_letters_of {K : PySem.W.Frag} {f : Addr} {fd : FuncData} (F : FunD K "letters_of" "Table.letters_of" (defArgs s_Table_letters_of) (defBody s_Table_letters_of) (defScope s_Table_letters_of) [] [] f fd) : Dd K "letters_of" "Table.letters_of" s_Table_letters_of P_Table_letters_of f fd := ⟨F, F.bindsN fun _ _ _ _ _ _ us hl => match us, hl with | [_, _], _ => rfl⟩
theorem mk_d_Table_may_come {K : PySem.W.Frag} {f : Addr} {fd : FuncData} (F : FunD K "may_come" "Table.may_come" (defArgs s_Table_may_come) (defBody s_Table_may_come) (defScope s_Table_may_come) [] [] f fd) : Dd K "may_come" "Table.may_come" s_Table_may_come P_Table_may_come f fd := ⟨F, F.bindsN fun _ _ _ _ _ _ us hl => match us, hl with | [_, _, _], _ => rfl⟩
theorem mk_d_Table_paper {K : PySem.W.Frag} {f : Addr} {fd : FuncData} (F : FunD K "paper" "Table.paper" (defArgs s_Table_paper) (defBody s_Table_paper) (defScope s_Table_paper) [] [] f fd) : Dd K "paper" "Table.paper" s_Table_paper P_Table_paper f fd := ⟨F, F.bindsN fun _ _ _ _ _ _ us hl => match us, hl with | [_, _, _], _ => rfl⟩
theorem mk_d_Table_paper_anew {K : PySem.W.Frag} {f : Addr} {fd : FuncData} (F : FunD K "paper_anew" "Table.paper_anew" (defArgs s_Table_paper_anew) (defBody s_Table_paper_anew) (defScope s_Table_paper_anew) [] [] f fd) : Dd K "paper_anew" "Table.paper_anew" s_Table_paper_anew P_Table_paper_anew f fd := ⟨F, F.bindsN fun _ _ _ _ _ _ us hl => match us, hl with | [_, _, _], _ => rfl⟩
theorem mk_d_Table_joined_paper {K : PySem.W.Frag} {f : Addr} {fd : FuncData} (F : FunD K "joined_paper" "Table.joined_paper" (defArgs s_Table_joined_paper) (defBody s_Table_joined_paper) (defScope s_Table_joined_paper) [] [] f fd) : Dd K "joined_paper" "Table.joined_paper" s_Table_joined_paper P_Table_joined_paper f fd := ⟨F, F.bindsN fun _ _ _ _ _ _ us hl => match us, hl with | [_, _, _, _], _ => rfl⟩
theorem mk_d_Table_waiting_paper {K : PySem.W.Frag} {f : Addr} {fd : FuncData} (F : FunD K "waiting_paper" "Table.waiting_paper" (defArgs s_Table_waiting_paper) (defBody s_Table_waiting_paper) (defScope s_Table_waiting_paper) [] [] f fd) : Dd K "waiting_paper" "Table.waiting_paper" s_Table_waiting_paper P_Table_waiting_paper f fd := ⟨F, F.bindsN fun _ _ _ _ _ _ us hl => match us, hl with | [_, _, _], _ => rfl⟩
theorem mk_d_Table_behind_paper {K : PySem.W.Frag} {f : Addr} {fd : FuncData} (F : FunD K "behind_paper" "Table.behind_paper" (defArgs s_Table_behind_paper) (defBody s_Table_behind_paper) (defScope s_Table_behind_paper) [] [] f fd) : Dd K "behind_paper" "Table.behind_paper" s_Table_behind_paper P_Table_behind_paper f fd := ⟨F, F.bindsN fun _ _ _ _ _ _ us hl => match us, hl with | [_, _, _, _], _ => rfl⟩
theorem mk_d_Table_ahead_paper {K : PySem.W.Frag} {f : Addr} {fd : FuncData} (F : FunD K "ahead_paper" "Table.ahead_paper" (defArgs s_Table_ahead_paper) (defBody s_Table_ahead_paper) (defScope s_Table_ahead_paper) [] [] f fd) : Dd K "ahead_paper" "Table.ahead_paper" s_Table_ahead_paper P_Table_ahead_paper f fd := ⟨F, F.bindsN fun _ _ _ _ _ _ us hl => match us, hl with | [_, _, _, _], _ => rfl⟩
theorem mk_d_prove {K : PySem.W.Frag} {f : Addr} {fd : FuncData} (F : FunD K "prove" "prove" (defArgs s_prove) (defBody s_prove) (defScope s_prove) [] [] f fd) : Dd K "prove" "prove" s_prove P_prove f fd := ⟨F, F.bindsN fun _ _ _ _ _ _ us hl => match us, hl with | [_, _], _ => rfl⟩
theorem mk_d_row_comes {K : PySem.W.Frag} {f : Addr} {fd : FuncData} (F : FunD K "row_comes" "row_comes" (defArgs s_row_comes) (defBody s_row_comes) (defScope s_row_comes) [] [] f fd) : Dd K "row_comes" "row_comes" s_row_comes P_row_comes f fd := ⟨F, F.bindsN fun _ _ _ _ _ _ us hl => match us, hl with | [_, _], _ => rfl⟩
theorem mk_d_leads {K : PySem.W.Frag} {f : Addr} {fd : FuncData} (F : FunD K "leads" "leads" (defArgs s_leads) (defBody s_leads) (defScope s_leads) [] [] f fd) : Dd K "leads" "leads" s_leads P_leads f fd := ⟨F, F.bindsN fun _ _ _ _ _ _ us hl => match us, hl with | [_, _], _ => rfl⟩
theorem mk_d_check_asked {K : PySem.W.Frag} {f : Addr} {fd : FuncData} (F : FunD K "check_asked" "check_asked" (defArgs s_check_asked) (defBody s_check_asked) (defScope s_check_asked) [] [] f fd) : Dd K "check_asked" "check_asked" s_check_asked P_check_asked f fd := ⟨F, F.bindsN fun _ _ _ _ _ _ us hl => match us, hl with | [_, _], _ => rfl⟩
theorem mk_d_leads_to {K : PySem.W.Frag} {f : Addr} {fd : FuncData} (F : FunD K "leads_to" "leads_to" (defArgs s_leads_to) (defBody s_leads_to) (defScope s_leads_to) [] [] f fd) : Dd K "leads_to" "leads_to" s_leads_to P_leads_to f fd := ⟨F, F.bindsN fun _ _ _ _ _ _ us hl => match us, hl with | [_, _], _ => rfl⟩
theorem mk_d_above {K : PySem.W.Frag} {f : Addr} {fd : FuncData} (F : FunD K "above" "above" (defArgs s_above) (defBody s_above) (defScope s_above) [] [] f fd) : Dd K "above" "above" s_above P_above f fd := ⟨F, F.bindsN fun _ _ _ _ _ _ us hl => match us, hl with | [_, _, _], _ => rfl⟩
theorem mk_d_below {K : PySem.W.Frag} {f : Addr} {fd : FuncData} (F : FunD K "below" "below" (defArgs s_below) (defBody s_below) (defScope s_below) [] [] f fd) : Dd K "below" "below" s_below P_below f fd := ⟨F, F.bindsN fun _ _ _ _ _ _ us hl => match us, hl with | [_, _, _], _ => rfl⟩
theorem mk_d_paper_for {K : PySem.W.Frag} {f : Addr} {fd : FuncData} (F : FunD K "paper_for" "paper_for" (defArgs s_paper_for) (defBody s_paper_for) (defScope s_paper_for) [] [] f fd) : Dd K "paper_for" "paper_for" s_paper_for P_paper_for f fd := ⟨F, F.bindsN fun _ _ _ _ _ _ us hl => match us, hl with | [_, _], _ => rfl⟩
theorem mk_d_l_spring {K : PySem.W.Frag} {f : Addr} {fd : FuncData} (F : FunD K "_law_spring" "_law_spring" (defArgs s_l_spring) (defBody s_l_spring) (defScope s_l_spring) [] [] f fd) : Dd K "_law_spring" "_law_spring" s_l_spring P_l_spring f fd := ⟨F, F.bindsN fun _ _ _ _ _ _ us hl => match us, hl with | [_, _], _ => rfl⟩
theorem mk_d_l_sip {K : PySem.W.Frag} {f : Addr} {fd : FuncData} (F : FunD K "_law_sip" "_law_sip" (defArgs s_l_sip) (defBody s_l_sip) (defScope s_l_sip) [] [] f fd) : Dd K "_law_sip" "_law_sip" s_l_sip P_l_sip f fd := ⟨F, F.bindsN fun _ _ _ _ _ _ us hl => match us, hl with | [_, _], _ => rfl⟩
theorem mk_d_l_letters {K : PySem.W.Frag} {f : Addr} {fd : FuncData} (F : FunD K "_law_letters" "_law_letters" (defArgs s_l_letters) (defBody s_l_letters) (defScope s_l_letters) [] [] f fd) : Dd K "_law_letters" "_law_letters" s_l_letters P_l_letters f fd := ⟨F, F.bindsN fun _ _ _ _ _ _ us hl => match us, hl with | [_], _ => rfl⟩
theorem mk_d_l_drawn {K : PySem.W.Frag} {f : Addr} {fd : FuncData} (F : FunD K "_law_drawn" "_law_drawn" (defArgs s_l_drawn) (defBody s_l_drawn) (defScope s_l_drawn) [] [] f fd) : Dd K "_law_drawn" "_law_drawn" s_l_drawn P_l_drawn f fd := ⟨F, F.bindsN fun _ _ _ _ _ _ us hl => match us, hl with | [_, _, _, _], _ => rfl⟩
theorem mk_d_l_size {K : PySem.W.Frag} {f : Addr} {fd : FuncData} (F : FunD K "_law_size" "_law_size" (defArgs s_l_size) (defBody s_l_size) (defScope s_l_size) [] [] f fd) : Dd K "_law_size" "_law_size" s_l_size P_l_size f fd := ⟨F, F.bindsN fun _ _ _ _ _ _ us hl => match us, hl with | [_], _ => rfl⟩
theorem mk_d_l_depth {K : PySem.W.Frag} {f : Addr} {fd : FuncData} (F : FunD K "_law_depth" "_law_depth" (defArgs s_l_depth) (defBody s_l_depth) (defScope s_l_depth) [] [] f fd) : Dd K "_law_depth" "_law_depth" s_l_depth P_l_depth f fd := ⟨F, F.bindsN fun _ _ _ _ _ _ us hl => match us, hl with | [_], _ => rfl⟩
theorem mk_d_l_waits {K : PySem.W.Frag} {f : Addr} {fd : FuncData} (F : FunD K "_law_waits" "_law_waits" (defArgs s_l_waits) (defBody s_l_waits) (defScope s_l_waits) [] [] f fd) : Dd K "_law_waits" "_law_waits" s_l_waits P_l_waits f fd := ⟨F, F.bindsN fun _ _ _ _ _ _ us hl => match us, hl with | [_], _ => rfl⟩
theorem mk_d_l_fits {K : PySem.W.Frag} {f : Addr} {fd : FuncData} (F : FunD K "_law_fits" "_law_fits" (defArgs s_l_fits) (defBody s_l_fits) (defScope s_l_fits) [] [] f fd) : Dd K "_law_fits" "_law_fits" s_l_fits P_l_fits f fd := ⟨F, F.bindsN fun _ _ _ _ _ _ us hl => match us, hl with | [_, _], _ => rfl⟩
theorem mk_d_l_sum {K : PySem.W.Frag} {f : Addr} {fd : FuncData} (F : FunD K "_law_sum" "_law_sum" (defArgs s_l_sum) (defBody s_l_sum) (defScope s_l_sum) [] [] f fd) : Dd K "_law_sum" "_law_sum" s_l_sum P_l_sum f fd := ⟨F, F.bindsN fun _ _ _ _ _ _ us hl => match us, hl with | [_, _], _ => rfl⟩
theorem mk_d_l_comes {K : PySem.W.Frag} {f : Addr} {fd : FuncData} (F : FunD K "_law_comes" "_law_comes" (defArgs s_l_comes) (defBody s_l_comes) (defScope s_l_comes) [] [] f fd) : Dd K "_law_comes" "_law_comes" s_l_comes P_l_comes f fd := ⟨F, F.bindsN fun _ _ _ _ _ _ us hl => match us, hl with | [_, _, _, _], _ => rfl⟩
theorem mk_d_l_comes_anew {K : PySem.W.Frag} {f : Addr} {fd : FuncData} (F : FunD K "_law_comes_anew" "_law_comes_anew" (defArgs s_l_comes_anew) (defBody s_l_comes_anew) (defScope s_l_comes_anew) [] [] f fd) : Dd K "_law_comes_anew" "_law_comes_anew" s_l_comes_anew P_l_comes_anew f fd := ⟨F, F.bindsN fun _ _ _ _ _ _ us hl => match us, hl with | [_, _, _, _], _ => rfl⟩
theorem mk_d_l_put_together {K : PySem.W.Frag} {f : Addr} {fd : FuncData} (F : FunD K "_law_put_together" "_law_put_together" (defArgs s_l_put_together) (defBody s_l_put_together) (defScope s_l_put_together) [] [] f fd) : Dd K "_law_put_together" "_law_put_together" s_l_put_together P_l_put_together f fd := ⟨F, F.bindsN fun _ _ _ _ _ _ us hl => match us, hl with | [_, _, _, _, _], _ => rfl⟩
theorem mk_d_l_shown {K : PySem.W.Frag} {f : Addr} {fd : FuncData} (F : FunD K "_law_shown" "_law_shown" (defArgs s_l_shown) (defBody s_l_shown) (defScope s_l_shown) [] [] f fd) : Dd K "_law_shown" "_law_shown" s_l_shown P_l_shown f fd := ⟨F, F.bindsN fun _ _ _ _ _ _ us hl => match us, hl with | [_], _ => rfl⟩
theorem mk_d_l_shown_at {K : PySem.W.Frag} {f : Addr} {fd : FuncData} (F : FunD K "_law_shown_at" "_law_shown_at" (defArgs s_l_shown_at) (defBody s_l_shown_at) (defScope s_l_shown_at) [] [] f fd) : Dd K "_law_shown_at" "_law_shown_at" s_l_shown_at P_l_shown_at f fd := ⟨F, F.bindsN fun _ _ _ _ _ _ us hl => match us, hl with | [_, _, _], _ => rfl⟩
theorem mk_d_l_pool {K : PySem.W.Frag} {f : Addr} {fd : FuncData} (F : FunD K "_law_pool" "_law_pool" (defArgs s_l_pool) (defBody s_l_pool) (defScope s_l_pool) [] [] f fd) : Dd K "_law_pool" "_law_pool" s_l_pool P_l_pool f fd := ⟨F, F.bindsN fun _ _ _ _ _ _ us hl => match us, hl with | [_, _], _ => rfl⟩
theorem mk_d_l_even {K : PySem.W.Frag} {f : Addr} {fd : FuncData} (F : FunD K "_law_even" "_law_even" (defArgs s_l_even) (defBody s_l_even) (defScope s_l_even) [] [] f fd) : Dd K "_law_even" "_law_even" s_l_even P_l_even f fd := ⟨F, F.bindsN fun _ _ _ _ _ _ us hl => match us, hl with | [_], _ => rfl⟩
theorem mk_d_l_three {K : PySem.W.Frag} {f : Addr} {fd : FuncData} (F : FunD K "_law_three" "_law_three" (defArgs s_l_three) (defBody s_l_three) (defScope s_l_three) [] [] f fd) : Dd K "_law_three" "_law_three" s_l_three P_l_three f fd := ⟨F, F.bindsN fun _ _ _ _ _ _ us hl => match us, hl with | [_, _, _], _ => rfl⟩
theorem mk_d_l_due {K : PySem.W.Frag} {f : Addr} {fd : FuncData} (F : FunD K "_law_due" "_law_due" (defArgs s_l_due) (defBody s_l_due) (defScope s_l_due) [] [] f fd) : Dd K "_law_due" "_law_due" s_l_due P_l_due f fd := ⟨F, F.bindsN fun _ _ _ _ _ _ us hl => match us, hl with | [_, _, _, _], _ => rfl⟩
theorem mk_d_l_told {K : PySem.W.Frag} {f : Addr} {fd : FuncData} (F : FunD K "_law_told" "_law_told" (defArgs s_l_told) (defBody s_l_told) (defScope s_l_told) [] [] f fd) : Dd K "_law_told" "_law_told" s_l_told P_l_told f fd := ⟨F, F.bindsN fun _ _ _ _ _ _ us hl => match us, hl with | [_, _, _], _ => rfl⟩
theorem mk_d_l_walked {K : PySem.W.Frag} {f : Addr} {fd : FuncData} (F : FunD K "_law_walked" "_law_walked" (defArgs s_l_walked) (defBody s_l_walked) (defScope s_l_walked) [] [] f fd) : Dd K "_law_walked" "_law_walked" s_l_walked P_l_walked f fd := ⟨F, F.bindsN fun _ _ _ _ _ _ us hl => match us, hl with | [_, _], _ => rfl⟩
theorem mk_d_l_right {K : PySem.W.Frag} {f : Addr} {fd : FuncData} (F : FunD K "_law_right" "_law_right" (defArgs s_l_right) (defBody s_l_right) (defScope s_l_right) [] [] f fd) : Dd K "_law_right" "_law_right" s_l_right P_l_right f fd := ⟨F, F.bindsN fun _ _ _ _ _ _ us hl => match us, hl with | [_, _], _ => rfl⟩
theorem mk_d_law {K : PySem.W.Frag} {f : Addr} {fd : FuncData} (F : FunD K "law" "law" (defArgs s_law) (defBody s_law) (defScope s_law) [] [] f fd) : Dd K "law" "law" s_law P_law f fd := ⟨F, F.bindsN fun _ _ _ _ _ _ us hl => match us, hl with | [_], _ => rfl⟩
theorem mk_TX {w : World} {K : PySem.W.Frag} {h hh : Heap} {mg : Str → Option Value} (X : K.In h) (G : h.Ns mainGlobals mg) (c : He.SaysX faL fnL tsL [] exB w hh K) : ∃ fd, TX w K mg fd := by
  obtain ⟨e0, F0⟩ := c.t.d.def_ 0 rfl
  obtain ⟨e1, F1⟩ := c.t.d.def_ 1 rfl
  obtain ⟨e2, F2⟩ := c.t.d.def_ 2 rfl
  obtain ⟨e3, F3⟩ := c.t.d.def_ 3 rfl
  obtain ⟨e4, F4⟩ := c.t.d.def_ 4 rfl
  obtain ⟨e5, F5⟩ := c.t.d.def_ 5 rfl
  obtain ⟨e6, F6⟩ := c.t.d.def_ 6 rfl
  obtain ⟨e7, F7⟩ := c.t.d.def_ 7 rfl
  obtain ⟨e8, F8⟩ := c.t.d.def_ 8 rfl
  obtain ⟨e9, F9⟩ := c.t.d.def_ 9 rfl
  obtain ⟨e10, F10⟩ := c.t.d.def_ 10 rfl
  obtain ⟨e11, F11⟩ := c.t.d.def_ 11 rfl
  obtain ⟨e12, F12⟩ := c.t.d.def_ 12 rfl
  obtain ⟨e13, F13⟩ := c.t.d.def_ 13 rfl
  obtain ⟨e14, F14⟩ := c.t.d.def_ 14 rfl
  obtain ⟨e15, F15⟩ := c.t.d.def_ 15 rfl
  obtain ⟨e16, F16⟩ := c.t.d.def_ 16 rfl
  obtain ⟨e17, F17⟩ := c.t.d.def_ 17 rfl
  obtain ⟨e18, F18⟩ := c.t.d.def_ 18 rfl
  obtain ⟨e19, F19⟩ := c.t.d.def_ 19 rfl
  obtain ⟨e20, F20⟩ := c.t.d.def_ 20 rfl
  obtain ⟨e21, F21⟩ := c.t.d.def_ 21 rfl
  obtain ⟨e22, F22⟩ := c.t.d.def_ 22 rfl
  obtain ⟨e23, F23⟩ := c.t.d.def_ 23 rfl
  obtain ⟨e24, F24⟩ := c.t.d.def_ 24 rfl
  obtain ⟨e25, F25⟩ := c.t.d.def_ 25 rfl
  obtain ⟨e26, F26⟩ := c.t.d.def_ 26 rfl
  obtain ⟨e27, F27⟩ := c.t.d.def_ 27 rfl
  obtain ⟨e28, F28⟩ := c.t.d.def_ 28 rfl
  obtain ⟨e29, F29⟩ := c.t.d.def_ 29 rfl
  obtain ⟨e30, F30⟩ := c.t.d.def_ 30 rfl
  obtain ⟨e31, F31⟩ := c.t.d.def_ 31 rfl
  obtain ⟨e32, F32⟩ := c.t.d.def_ 32 rfl
  obtain ⟨e33, F33⟩ := c.t.d.def_ 33 rfl
  obtain ⟨e34, F34⟩ := c.t.d.def_ 34 rfl
  obtain ⟨e35, F35⟩ := c.t.d.def_ 35 rfl
  obtain ⟨e36, F36⟩ := c.t.d.def_ 36 rfl
  obtain ⟨e37, F37⟩ := c.t.d.def_ 37 rfl
  obtain ⟨e38, F38⟩ := c.t.d.def_ 38 rfl
  obtain ⟨e39, F39⟩ := c.t.d.def_ 39 rfl
  obtain ⟨e40, F40⟩ := c.t.d.def_ 40 rfl
  obtain ⟨e41, F41⟩ := c.t.d.def_ 41 rfl
  obtain ⟨e42, F42⟩ := c.t.d.def_ 42 rfl
  obtain ⟨e43, F43⟩ := c.t.d.def_ 43 rfl
  obtain ⟨e44, F44⟩ := c.t.d.def_ 44 rfl
  obtain ⟨e45, F45⟩ := c.t.d.def_ 45 rfl
  obtain ⟨e46, F46⟩ := c.t.d.def_ 46 rfl
  obtain ⟨e47, F47⟩ := c.t.d.def_ 47 rfl
  obtain ⟨e48, F48⟩ := c.t.d.def_ 48 rfl
  refine ⟨fun i => [e0, e1, e2, e3, e4, e5, e6, e7, e8, e9, e10, e11, e12, e13, e14, e15, e16, e17, e18, e19, e20, e21, e22, e23, e24, e25, e26, e27, e28, e29, e30, e31, e32, e33, e34, e35, e36, e37, e38, e39, e40, e41, e42, e43, e44, e45, e46, e47, e48].getD i e0, {
    d_WaitError_new := mk_d_WaitError_new F0
    d_fresh := mk_d_fresh F1
    d_is_letter := mk_d_is_letter F2
    d_wrong_part := mk_d_wrong_part F3
    d_checked_kind := mk_d_checked_kind F4
    d_checked_kinds := mk_d_checked_kinds F5
    d_joined_words := mk_d_joined_words F6
    d_back_word := mk_d_back_word F7
    d_Table_new := mk_d_Table_new F8
    d_Table_number := mk_d_Table_number F9
    d_Table_keep := mk_d_Table_keep F10
    d_Table_letters_of := mk_d_Table_letters_of F11
    d_Table_may_come := mk_d_Table_may_come F12
    d_Table_paper := mk_d_Table_paper F13
    d_Table_paper_anew := mk_d_Table_paper_anew F14
    d_Table_joined_paper := mk_d_Table_joined_paper F15
    d_Table_waiting_paper := mk_d_Table_waiting_paper F16
    d_Table_behind_paper := mk_d_Table_behind_paper F17
    d_Table_ahead_paper := mk_d_Table_ahead_paper F18
    d_prove := mk_d_prove F19
    d_row_comes := mk_d_row_comes F20
    d_leads := mk_d_leads F21
    d_check_asked := mk_d_check_asked F22
    d_leads_to := mk_d_leads_to F23
    d_above := mk_d_above F24
    d_below := mk_d_below F25
    d_paper_for := mk_d_paper_for F26
    d_l_spring := mk_d_l_spring F27
    d_l_sip := mk_d_l_sip F28
    d_l_letters := mk_d_l_letters F29
    d_l_drawn := mk_d_l_drawn F30
    d_l_size := mk_d_l_size F31
    d_l_depth := mk_d_l_depth F32
    d_l_waits := mk_d_l_waits F33
    d_l_fits := mk_d_l_fits F34
    d_l_sum := mk_d_l_sum F35
    d_l_comes := mk_d_l_comes F36
    d_l_comes_anew := mk_d_l_comes_anew F37
    d_l_put_together := mk_d_l_put_together F38
    d_l_shown := mk_d_l_shown F39
    d_l_shown_at := mk_d_l_shown_at F40
    d_l_pool := mk_d_l_pool F41
    d_l_even := mk_d_l_even F42
    d_l_three := mk_d_l_three F43
    d_l_due := mk_d_l_due F44
    d_l_told := mk_d_l_told F45
    d_l_walked := mk_d_l_walked F46
    d_l_right := mk_d_l_right F47
    d_law := mk_d_law F48
    g_WaitError := He.glo_ok X G (c.t.d.fact 0 (f := .glo "WaitError") rfl)
    g_InvalidKind := He.glo_ok X G (c.t.d.fact 1 (f := .glo "InvalidKind") rfl)
    g_InvalidRow := He.glo_ok X G (c.t.d.fact 2 (f := .glo "InvalidRow") rfl)
    g_NotLeading := He.glo_ok X G (c.t.d.fact 3 (f := .glo "NotLeading") rfl)
    g_fresh := He.glo_ok X G (c.t.d.fact 4 (f := .glo "fresh") rfl)
    g_TURNS := He.glo_ok X G (c.t.d.fact 5 (f := .glo "TURNS") rfl)
    g_is_letter := He.glo_ok X G (c.t.d.fact 6 (f := .glo "is_letter") rfl)
    g_wrong_part := He.glo_ok X G (c.t.d.fact 7 (f := .glo "wrong_part") rfl)
    g_checked_kind := He.glo_ok X G (c.t.d.fact 8 (f := .glo "checked_kind") rfl)
    g_checked_kinds := He.glo_ok X G (c.t.d.fact 9 (f := .glo "checked_kinds") rfl)
    g_joined_words := He.glo_ok X G (c.t.d.fact 10 (f := .glo "joined_words") rfl)
    g_back_word := He.glo_ok X G (c.t.d.fact 11 (f := .glo "back_word") rfl)
    g_Table := He.glo_ok X G (c.t.d.fact 12 (f := .glo "Table") rfl)
    g_prove := He.glo_ok X G (c.t.d.fact 13 (f := .glo "prove") rfl)
    g_row_comes := He.glo_ok X G (c.t.d.fact 14 (f := .glo "row_comes") rfl)
    g_leads := He.glo_ok X G (c.t.d.fact 15 (f := .glo "leads") rfl)
    g_check_asked := He.glo_ok X G (c.t.d.fact 16 (f := .glo "check_asked") rfl)
    g_leads_to := He.glo_ok X G (c.t.d.fact 17 (f := .glo "leads_to") rfl)
    g_above := He.glo_ok X G (c.t.d.fact 18 (f := .glo "above") rfl)
    g_below := He.glo_ok X G (c.t.d.fact 19 (f := .glo "below") rfl)
    g_paper_for := He.glo_ok X G (c.t.d.fact 20 (f := .glo "paper_for") rfl)
    g_l_spring := He.glo_ok X G (c.t.d.fact 21 (f := .glo "_law_spring") rfl)
    g_l_sip := He.glo_ok X G (c.t.d.fact 22 (f := .glo "_law_sip") rfl)
    g_l_letters := He.glo_ok X G (c.t.d.fact 23 (f := .glo "_law_letters") rfl)
    g_l_drawn := He.glo_ok X G (c.t.d.fact 24 (f := .glo "_law_drawn") rfl)
    g_l_size := He.glo_ok X G (c.t.d.fact 25 (f := .glo "_law_size") rfl)
    g_l_depth := He.glo_ok X G (c.t.d.fact 26 (f := .glo "_law_depth") rfl)
    g_l_waits := He.glo_ok X G (c.t.d.fact 27 (f := .glo "_law_waits") rfl)
    g_l_fits := He.glo_ok X G (c.t.d.fact 28 (f := .glo "_law_fits") rfl)
    g_l_sum := He.glo_ok X G (c.t.d.fact 29 (f := .glo "_law_sum") rfl)
    g_l_comes := He.glo_ok X G (c.t.d.fact 30 (f := .glo "_law_comes") rfl)
    g_l_comes_anew := He.glo_ok X G (c.t.d.fact 31 (f := .glo "_law_comes_anew") rfl)
    g_l_put_together := He.glo_ok X G (c.t.d.fact 32 (f := .glo "_law_put_together") rfl)
    g_l_shown := He.glo_ok X G (c.t.d.fact 33 (f := .glo "_law_shown") rfl)
    g_l_shown_at := He.glo_ok X G (c.t.d.fact 34 (f := .glo "_law_shown_at") rfl)
    g_l_pool := He.glo_ok X G (c.t.d.fact 35 (f := .glo "_law_pool") rfl)
    g_l_even := He.glo_ok X G (c.t.d.fact 36 (f := .glo "_law_even") rfl)
    g_l_three := He.glo_ok X G (c.t.d.fact 37 (f := .glo "_law_three") rfl)
    g_l_due := He.glo_ok X G (c.t.d.fact 38 (f := .glo "_law_due") rfl)
    g_l_told := He.glo_ok X G (c.t.d.fact 39 (f := .glo "_law_told") rfl)
    g_l_walked := He.glo_ok X G (c.t.d.fact 40 (f := .glo "_law_walked") rfl)
    g_l_right := He.glo_ok X G (c.t.d.fact 41 (f := .glo "_law_right") rfl)
    g_law := He.glo_ok X G (c.t.d.fact 42 (f := .glo "law") rfl)
    z_ValueError := He.free_ok X G (c.t.d.fact 43 (f := .free "ValueError") rfl)
    z_isinstance := He.free_ok X G (c.t.d.fact 44 (f := .free "isinstance") rfl)
    z_list := He.free_ok X G (c.t.d.fact 45 (f := .free "list") rfl)
    z_tuple := He.free_ok X G (c.t.d.fact 46 (f := .free "tuple") rfl)
    z_len := He.free_ok X G (c.t.d.fact 47 (f := .free "len") rfl)
    z_min := He.free_ok X G (c.t.d.fact 48 (f := .free "min") rfl)
    z_max := He.free_ok X G (c.t.d.fact 49 (f := .free "max") rfl)
    z_sum := He.free_ok X G (c.t.d.fact 50 (f := .free "sum") rfl)
    z_range := He.free_ok X G (c.t.d.fact 51 (f := .free "range") rfl)
    z_enumerate := He.free_ok X G (c.t.d.fact 52 (f := .free "enumerate") rfl)
    z_repr := He.free_ok X G (c.t.d.fact 53 (f := .free "repr") rfl)
    z_int := He.free_ok X G (c.t.d.fact 54 (f := .free "int") rfl)
    z_abs := He.free_ok X G (c.t.d.fact 55 (f := .free "abs") rfl)
    z_bool := He.free_ok X G (c.t.d.fact 56 (f := .free "bool") rfl)
    i_STEP := He.int_ok X G (c.t.d.fact 57 (f := .int "STEP" 4096) rfl)
    i_LETTERS := He.str_ok X G (c.t.d.fact 58 (f := .str "LETTERS" "abcdefghijklmnopqrstuvwxyz") rfl)
    c_Table := He.cls_ok (c.t.d.fact 59 (f := .cls "Table") rfl)
    k_Table := He.mkr_ok (c.t.d.fact 60 (f := .mkr "Table") rfl)
    n_marks := He.noat_ok (c.t.d.fact 61 (f := .noat "Table" "marks") rfl)
    n_shapes := He.noat_ok (c.t.d.fact 62 (f := .noat "Table" "shapes") rfl)
    n_forms := He.noat_ok (c.t.d.fact 63 (f := .noat "Table" "forms") rfl)
    n_pairs := He.noat_ok (c.t.d.fact 64 (f := .noat "Table" "pairs") rfl)
    n_sums := He.noat_ok (c.t.d.fact 65 (f := .noat "Table" "sums") rfl)
    n_spelled := He.noat_ok (c.t.d.fact 66 (f := .noat "Table" "spelled") rfl)
    n_cores := He.noat_ok (c.t.d.fact 67 (f := .noat "Table" "cores") rfl)
    n_weight := He.noat_ok (c.t.d.fact 68 (f := .noat "Table" "weight") rfl)
    n_met := He.noat_ok (c.t.d.fact 69 (f := .noat "Table" "met") rfl)
    n_known := He.noat_ok (c.t.d.fact 70 (f := .noat "Table" "known") rfl)
    m_number := He.meth_ok (c.t.d.fact 71 (f := .meth "Table" "number") rfl)
    m_keep := He.meth_ok (c.t.d.fact 72 (f := .meth "Table" "keep") rfl)
    m_letters_of := He.meth_ok (c.t.d.fact 73 (f := .meth "Table" "letters_of") rfl)
    m_may_come := He.meth_ok (c.t.d.fact 74 (f := .meth "Table" "may_come") rfl)
    m_paper := He.meth_ok (c.t.d.fact 75 (f := .meth "Table" "paper") rfl)
    m_paper_anew := He.meth_ok (c.t.d.fact 76 (f := .meth "Table" "paper_anew") rfl)
    m_joined_paper := He.meth_ok (c.t.d.fact 77 (f := .meth "Table" "joined_paper") rfl)
    m_waiting_paper := He.meth_ok (c.t.d.fact 78 (f := .meth "Table" "waiting_paper") rfl)
    m_behind_paper := He.meth_ok (c.t.d.fact 79 (f := .meth "Table" "behind_paper") rfl)
    m_ahead_paper := He.meth_ok (c.t.d.fact 80 (f := .meth "Table" "ahead_paper") rfl)
    n_value := He.noat_ok (c.t.d.fact 81 (f := .noat "NotLeading" "value") rfl)
    x_self := He.exm_ok (c.t.d.fact 82 (f := .exm "NotLeading" "NotLeading" true) rfl)
    x_keep := He.keep_ok (c.t.d.fact 83 (f := .keep "NotLeading") rfl)
    more := c.more
    tab := c.t.tab 0 rfl }⟩
end WW
/-! The spring: sip, spring; the letters. -/
namespace WW
open PySem PySem.Spec PyProof.Rows L2
section
variable {P : Program} {w : World} {K : PySem.W.Frag} {mg : Str → Option Value} {base : Heap} {x q : Str} {st : Stmt} {N ps : List Str} {f : Addr} {fd : FuncData} {k : Nat} {sp : Sp}
theorem Dd.ok (D : Dd K x q st ps f fd) (S : FnScope N ps (defScope st)) (len : ∀ vs H Q E, sp vs H Q E → vs.length = ps.length)
    (hb : ∀ (cdv : Value) (A : Around) (outer : List Env) (s : Shared) (H : Hp) (vs : List V) (Q : VK) (E : XK), Room k (A.deeper (envOfC q (defScope st) s.heap.objs.size f cdv)) → sp vs H Q E →
      ∃ t, PSs (cxOf CX0 P w K mg base N q (defScope st) f cdv A outer s H E).nox (defBody st) t ∧ t { nx := fun _ H' => Q .non H', rt := Q } (start N vs) H) : FnOk P w K mg base CX0 (k + 1) f fd ps sp :=
  D.F.ok S len fun cdv A outer s H vs Q E hr hsp => let ⟨t, h, z⟩ := hb cdv A outer s H vs Q E hr hsp; ⟨t, h.nox, z⟩
theorem Dd.okG (D : Dd K x q st ps f fd) (S : FnScope N ps (defScope st)) (len : ∀ vs H Q E, sp vs H Q E → vs.length = ps.length)
    (hb : ∀ (cdv : Value) (A : Around) (outer : List Env) (s : Shared) (H : Hp) (vs : List V) (Q : VK) (E : XK), (A.deeper (envOfC q (defScope st) s.heap.objs.size f cdv)).guards = some [] → Room k (A.deeper (envOfC q (defScope st) s.heap.objs.size f cdv)) → sp vs H Q E →
      ∃ t, PSs (cxOf CX0 P w K mg base N q (defScope st) f cdv A outer s H E).nox (defBody st) t ∧ t { nx := fun _ H' => Q .non H', rt := Q } (start N vs) H) : FnG P w K mg base CX0 (k + 1) f fd ps sp :=
  funD_okG D.F S len fun cdv A outer s H vs Q E hg hr hsp => let ⟨t, h, z⟩ := hb cdv A outer s H vs Q E hg hr hsp; ⟨t, h.nox, z⟩
end
/-- the spring at p; it gave n numbers so far at most -/
def SpI (H : Hp) (p : Addr) (n : Nat) : Prop := n ≤ 1000000 ∧ ∃ c m t : Int, H p = some (.lst [.int c, .int m, .int t]) ∧ 0 ≤ c ∧ 0 ≤ m ∧ m < 2 ^ 110 ∧ 0 ≤ t ∧ t ≤ n
theorem SpI.mono {S : Addr → Prop} {H H' : Hp} {p : Addr} {n : Nat} (h : SpI H p n) (c : Ch S H H') (hp : ¬ S p) : SpI H' p n :=
  let ⟨h0, a, b, d, h1, h2⟩ := h
  ⟨h0, a, b, d, c.1 _ _ h1 hp, h2⟩
theorem SpI.le {H : Hp} {p : Addr} {n m : Nat} (h : SpI H p n) (hn : n ≤ m) (hm : m ≤ 1000000) : SpI H p m :=
  let ⟨h0, a, b, d, h1, h2, h3, h4, h5, h6⟩ := h
  ⟨hm, a, b, d, h1, h2, h3, h4, h5, by omega⟩
def spSip : Sp := fun vs H Q _ => ∃ (p : Addr) (n many : Nat), vs = [.ref p, .int (many : Int)] ∧ SpI H p n ∧ n < 1000000 ∧ 0 < many ∧ many < 1000000 ∧ ∀ (r : Nat) (H' : Hp), r < many → Ch (· = p) H H' → SpI H' p (n + 1) → Q (.int (r : Int)) H'
section
variable {P : Program} {w : World} {K : PySem.W.Frag} {mg : Str → Option Value} {base : Heap} {fd : Nat → FuncData}
theorem emod_nat {a : Int} {m : Nat} (h : 0 < m) : ∃ r : Nat, a % (m : Int) = (r : Int) ∧ r < m := by
  have h1 : 0 ≤ a % (m : Int) := Int.emod_nonneg _ (by omega)
  have h2 : a % (m : Int) < (m : Int) := Int.emod_lt_of_pos _ (by omega)
  exact ⟨(a % (m : Int)).toNat, by omega, by omega⟩
theorem fin_mod {f : Int → Prop} {a : Int} {m : Nat} (h : 0 < m) (hf : ∀ r : Nat, r < m → f (r : Int)) : f (a % (m : Int)) := by
  obtain ⟨r, e, hr⟩ := emod_nat (a := a) h
  rw [e]
  exact hf r hr
theorem mod110 (a : Int) {j : Int} (h : 0 < j) (h2 : j < 2 ^ 110) : 0 ≤ a % j ∧ a % j < 2 ^ 110 := ⟨Int.emod_nonneg _ (by omega), Int.lt_trans (Int.emod_lt_of_pos _ h) h2⟩
theorem m30 : (0 : Int) < 10 ^ (30 : Int).toNat + 57 ∧ (10 : Int) ^ (30 : Int).toNat + 57 < 2 ^ 110 := by decide +kernel
theorem m29 : (0 : Int) < 10 ^ (29 : Int).toNat + 319 ∧ (10 : Int) ^ (29 : Int).toNat + 319 < 2 ^ 110 := by decide +kernel
theorem pow_bits {a : Int} {k n : Nat} (h0 : 0 ≤ a) (h : a < 2 ^ k) (hn : k * n ≤ 2 ^ 27) : 0 ≤ (n : Int) ∧ (Builtin.Int.intBits a : Int) * (n : Int) ≤ 2 ^ 27 := by
  refine ⟨by omega, ?_⟩
  have hb : a.natAbs < 2 ^ k := by
    have e : ((2 ^ k : Nat) : Int) = (2 : Int) ^ k := by simp
    omega
  have h1 : Builtin.Int.intBits a ≤ k := intBits_le hb
  have h2 : Builtin.Int.intBits a * n ≤ k * n := Nat.mul_le_mul_right n h1
  have h3 : Builtin.Int.intBits a * n ≤ 2 ^ 27 := Nat.le_trans h2 hn
  have e : (Builtin.Int.intBits a : Int) * (n : Int) = ((Builtin.Int.intBits a * n : Nat) : Int) := by simp
  rw [e]
  exact_mod_cast h3
theorem ok_sip (T : TX w K mg fd) : FnOk P w K mg base CX0 1 (He.ga K "_law_sip") (fd 28) P_l_sip spSip := by
  refine T.d_l_sip.ok sc_l_sip (fun vs H Q E h => ?_) (fun cdv A outer s H vs Q E hr h => ?_)
  · obtain ⟨p, n, many, rfl, _⟩ := h
    rfl
  obtain ⟨p, n, many, rfl, ⟨hn0, c, m, t, hp, h1, h2, h3, h4, h5⟩, hn, hm, hm9, q⟩ := h
  refine ⟨_, pss_cons (ps_if (pt_cmpR op_gt (pe_ix ix_list (pv 0) pe_int (fun _ _ => rfl)) pe_int (nomark _))
      (pss_cons (ps_set (i := 2) sc_l_sip.nd rfl (Or.inl rfl) (pe_op op_mod (pe_callTy call_int1 (by rfl) T.z_int boot_int (pa_cons (pe_ix ix_list (pv 0) pe_int (fun _ _ => rfl)) pa_nil)) (pv 1)))
      (pss_cons (ps_asg (pe_op op_fdivW (pe_ix ix_list (pv 0) pe_int (fun _ _ => rfl)) (pv 1)) (pg_sub (pv 0) pe_int set_list))
      (pss_one (ps_ret (pv 2))))) pss_nil)
    (pss_cons (ps_asg (pe_op op_add (pe_ix ix_list (pv 0) pe_int (fun _ _ => rfl)) pe_int) (pg_sub (pv 0) pe_int set_list))
    (pss_cons (ps_set (i := 3) sc_l_sip.nd rfl (Or.inl rfl) (pe_op op_mod (pe_callTy call_int1 (by rfl) T.z_int boot_int (pa_cons (pe_op op_add (pe_ix ix_list (pv 0) pe_int (fun _ _ => rfl)) (pe_op op_mul pe_int (pe_ix ix_list (pv 0) pe_int (fun _ _ => rfl)))) pa_nil)) (pe_op op_add (pe_op op_powB pe_int pe_int) pe_int)))
    (pss_cons (ps_set (i := 3) sc_l_sip.nd rfl (Or.inl rfl) (pe_op op_mod (pe_callTy call_int1 (by rfl) T.z_int boot_int (pa_cons (pe_op op_add (pe_op op_powB (pv 3) pe_int) (pe_op op_mul pe_int (pe_op op_powB (pe_ix ix_list (pv 0) pe_int (fun _ _ => rfl)) pe_int))) pa_nil)) (pe_op op_add (pe_op op_powB pe_int pe_int) pe_int)))
    (pss_cons (ps_set (i := 3) sc_l_sip.nd rfl (Or.inl rfl) (pe_op op_mod (pe_callTy call_int1 (by rfl) T.z_int boot_int (pa_cons (pe_op op_powB (pv 3) pe_int) pa_nil)) (pe_op op_add (pe_op op_powB pe_int pe_int) pe_int)))
    (pss_one (ps_ret (pe_op op_mod (pe_callTy call_int1 (by rfl) T.z_int boot_int (pa_cons (pe_op op_fdivW (pv 3) (pe_op op_powB pe_int pe_int)) pa_nil)) (pv 1)))))))), ?_⟩
  have s0 : SqL K H p [V.int c, .int m, .int t] := SqL.of hp
  refine ⟨_, rfl, p, _, _, _, rfl, rfl, s0, atI_nat (j := 0) rfl, _, _, rfl, rfl, _, rfl, ?_⟩
  refine ite2 (fun hc => ?_) (fun hc => ?_)
  · -- out of the great number
    refine ⟨_, rfl, p, _, _, _, rfl, rfl, s0, atI_nat (j := 0) rfl, .inl ⟨_, rfl, _, rfl, _, _, rfl, rfl, (by show (0 : Int) < (many : Int); omega), ?_⟩⟩
    refine ⟨_, rfl, p, _, _, _, rfl, rfl, s0, atI_nat (j := 0) rfl, _, rfl, _, _, rfl, rfl, ?_, _, rfl, p, _, _, 0, rfl, rfl, hp, rfl, ?_⟩
    · exact wide_div (b := 64) (by omega) (by show (many : Int).natAbs < 2 ^ 64; omega) (by decide) (by decide)
    obtain ⟨r, er, hr2⟩ := emod_nat (a := c) hm
    refine ⟨_, rfl, ?_⟩
    have z := q r _ hr2 (Ch.put rfl hp (fun _ z => nomatch z)) ⟨by omega, c / (many : Int), m, t, upd_same, Int.ediv_nonneg h1 (by omega), h2, h3, h4, by omega⟩
    rw [← er] at z
    exact z
  · -- by the mixed number
    have e17 : (0 : Int) ≤ m + 86028157 * (t + 1) := by omega
    refine ⟨_, rfl, p, _, _, _, rfl, rfl, s0, atI_nat (j := 2) rfl, t, 1, rfl, rfl, _, rfl, p, _, _, 2, rfl, rfl, hp, rfl, ?_⟩
    have s1 : SqL K (upd H p (.lst [V.int c, .int m, .int (t + 1)])) p [V.int c, .int m, .int (t + 1)] := SqL.of upd_same
    refine ⟨_, rfl, p, _, _, _, rfl, rfl, s1, atI_nat (j := 1) rfl, _, rfl, p, _, _, _, rfl, rfl, s1, atI_nat (j := 2) rfl, _, _, rfl, rfl, .inl ⟨by decide, by decide⟩, _, _, rfl, rfl, .inl ⟨_, rfl, ?_⟩⟩
    refine ⟨_, _, rfl, rfl, ⟨by decide, by decide +kernel⟩, _, _, rfl, rfl, _, _, rfl, rfl, ?_, ?_⟩
    · show (0 : Int) < 10 ^ (30 : Int).toNat + 57
      decide +kernel
    refine ⟨_, rfl, _, _, rfl, rfl, pow_bits (k := 110) (n := 3) (mod110 _ m30.1 m30.2).1 (mod110 _ m30.1 m30.2).2 (by decide), ?_⟩
    refine ⟨_, rfl, p, _, _, _, rfl, rfl, s1, atI_nat (j := 2) rfl, _, _, rfl, rfl, pow_bits (k := 64) (n := 2) (by omega) (by omega) (by decide), _, _, rfl, rfl, .inl ⟨by decide, by decide⟩, _, _, rfl, rfl, .inl ⟨_, rfl, ?_⟩⟩
    refine ⟨_, _, rfl, rfl, ⟨by decide, by decide +kernel⟩, _, _, rfl, rfl, _, _, rfl, rfl, ?_, ?_⟩
    · show (0 : Int) < 10 ^ (29 : Int).toNat + 319
      decide +kernel
    refine ⟨_, rfl, _, _, rfl, rfl, pow_bits (k := 110) (n := 2) (mod110 _ m29.1 m29.2).1 (mod110 _ m29.1 m29.2).2 (by decide), .inl ⟨_, rfl, ?_⟩⟩
    refine ⟨_, _, rfl, rfl, ⟨by decide, by decide +kernel⟩, _, _, rfl, rfl, _, _, rfl, rfl, ?_, ?_⟩
    · show (0 : Int) < 10 ^ (28 : Int).toNat + 331
      decide +kernel
    refine ⟨_, rfl, _, _, rfl, rfl, ⟨by decide, by decide +kernel⟩, _, _, rfl, rfl, ?_, .inl ⟨_, rfl, ?_⟩⟩
    · have y1 : (0 : Int) < 10 ^ (9 : Int).toNat := by decide +kernel
      exact wide_div (b := 64) y1 (by show (10 ^ (9 : Int).toNat : Int).natAbs < 2 ^ 64; decide +kernel) (by decide) (by decide)
    refine ⟨_, rfl, _, _, rfl, rfl, (by show (0 : Int) < (many : Int); omega), ?_⟩
    refine fin_mod (f := fun z => Q (.int z) _) hm fun r hr2 => ?_
    have z := q r _ hr2 (Ch.put rfl hp (fun _ z => nomatch z)) ⟨by omega, c, m, t + 1, upd_same, h1, h2, h3, by omega, by omega⟩
    exact z
end
end WW
/-! The letters and the drawn kinds. -/
namespace WW
open PySem PySem.Spec PyProof.Rows L2
def Kd.all (p : Nat → Prop) : Kd → Prop
  | .pl c => p c
  | .nd _ x y => x.all p ∧ y.all p
structure Nm (z : Str) : Prop where
  nd : z.cps.toList.Nodup
  lo : ∀ c ∈ z.cps.toList, lowC c
  pos : 1 ≤ z.length
  le : z.length ≤ 7
theorem str_len (z : Str) : z.length = z.cps.toList.length := by simp [Str.length]
theorem len_line {n : Nat} (h : n ≤ 1000) : n ≤ sizeLine := Nat.le_of_lt (small1000 h)
def alph : List Nat := [97, 98, 99, 100, 101, 102, 103, 104, 105, 106, 107, 108, 109, 110, 111, 112, 113, 114, 115, 116, 117, 118, 119, 120, 121, 122]
theorem alph_str : (("abcdefghijklmnopqrstuvwxyz" : Str)).cps.toList = alph := by decide +kernel
/-- what is left and what was taken -/
structure Tk (r f : Str) (i : Nat) : Prop where
  nd : r.cps.toList.Nodup
  fd : f.cps.toList.Nodup
  di : ∀ c ∈ f.cps.toList, c ∉ r.cps.toList
  rl : ∀ c ∈ r.cps.toList, lowC c
  fl : ∀ c ∈ f.cps.toList, lowC c
  ln : r.length + i = 26
  lf : f.length = i
theorem nodup_filter_length {l : List Nat} {c : Nat} (h : l.Nodup) (hc : c ∈ l) : (l.filter (· != c)).length + 1 = l.length := by
  induction l with
  | nil => cases hc
  | cons a r ih =>
    rw [List.nodup_cons] at h
    by_cases e : a = c
    · subst e
      have : r.filter (· != a) = r := List.filter_eq_self.mpr fun x hx => by
        have : x ≠ a := fun z => h.1 (z ▸ hx)
        simpa using this
      simp [this]
    · have hr : c ∈ r := by
        rcases List.mem_cons.mp hc with q | q
        · exact absurd q.symm e
        · exact q
      have := ih h.2 hr
      simp [e]
      omega
theorem Tk.take {r f : Str} {i c : Nat} (t : Tk r f i) (hc : c ∈ r.cps.toList) : Tk (Txt.replace r (chr1 c) ⟨#[]⟩) (f ++ chr1 c) (i + 1) := by
  have e1 := replace_strikes r c
  have e2 : (f ++ chr1 c).cps.toList = f.cps.toList ++ [c] := cps_append f (chr1 c)
  refine ⟨?_, ?_, ?_, ?_, ?_, ?_, ?_⟩
  · rw [e1]
    exact t.nd.filter _
  · rw [e2, List.nodup_append]
    refine ⟨t.fd, by simp, fun a ha b hb => ?_⟩
    rw [List.mem_singleton] at hb
    subst hb
    intro e
    subst e
    exact t.di _ ha hc
  · intro d hd
    rw [e1, List.mem_filter]
    rw [e2, List.mem_append, List.mem_singleton] at hd
    rintro ⟨h1, h2⟩
    rcases hd with h | h
    · exact t.di d h h1
    · subst h
      simp at h2
  · intro d hd
    rw [e1, List.mem_filter] at hd
    exact t.rl d hd.1
  · intro d hd
    rw [e2, List.mem_append, List.mem_singleton] at hd
    rcases hd with h | h
    · exact t.fl d h
    · subst h
      exact t.rl _ hc
  · have := nodup_filter_length t.nd hc
    have e := t.ln
    rw [str_len] at e ⊢
    rw [e1]
    omega
  · rw [str_len, e2, List.length_append, ← str_len, t.lf]
    rfl
def spLetters : Sp := fun vs H Q _ => ∃ (p : Addr) (n : Nat), vs = [.ref p] ∧ SpI H p n ∧ n + 8 ≤ 1000000 ∧ ∀ (z : Str) (H' : Hp), Nm z → Ch (· = p) H H' → SpI H' p (n + 8) → Q (.str z) H'
theorem turns8 {r : Nat} (h : r < 8) : ∃ j : Nat, 1 ≤ j ∧ j ≤ 7 ∧ atI [V.int 1, .int 2, .int 2, .int 3, .int 3, .int 4, .int 5, .int 7] (r : Int) = some (.int (j : Int)) := by
  match r, h with
  | 0, _ => exact ⟨1, by decide, by decide, rfl⟩
  | 1, _ => exact ⟨2, by decide, by decide, rfl⟩
  | 2, _ => exact ⟨2, by decide, by decide, rfl⟩
  | 3, _ => exact ⟨3, by decide, by decide, rfl⟩
  | 4, _ => exact ⟨3, by decide, by decide, rfl⟩
  | 5, _ => exact ⟨4, by decide, by decide, rfl⟩
  | 6, _ => exact ⟨5, by decide, by decide, rfl⟩
  | 7, _ => exact ⟨7, by decide, by decide, rfl⟩
section
variable {P : Program} {w : World} {K : PySem.W.Frag} {mg : Str → Option Value} {base : Heap} {fd : Nat → FuncData}
theorem ok_letters (T : TX w K mg fd) : FnOk P w K mg base CX0 2 (He.ga K "_law_letters") (fd 29) P_l_letters spLetters := by
  refine T.d_l_letters.ok sc_l_letters (fun vs H Q E h => ?_) (fun cdv A outer s H vs Q E hr h => ?_)
  · obtain ⟨p, n, rfl, _⟩ := h
    rfl
  obtain ⟨p, n, rfl, hp, hn, q⟩ := h
  have G := ok_sip (P := P) (base := base) T
  refine ⟨_, pss_cons (ps_asg (pe_tup (pa_cons pe_str (pa_cons pe_str pa_nil))) (pg_tup rfl (pgs_cons (pg_name (i := 1) sc_l_letters.nd rfl (Or.inl rfl)) (pgs_cons (pg_name (i := 2) sc_l_letters.nd rfl (Or.inl rfl)) pgs_nil))))
    (pss_cons (ps_for PassesOwn.never rfl (pi_range1 (by rfl) T.z_range (pa_cons (pe_ix ix_list (pe_lst (pa_cons pe_int (pa_cons pe_int (pa_cons pe_int (pa_cons pe_int (pa_cons pe_int (pa_cons pe_int (pa_cons pe_int (pa_cons pe_int pa_nil)))))))))
        (pe_call G hr rfl T.g_l_sip T.d_l_sip.kp T.d_l_sip.b .nil pass0 (pa_cons (pv 0) (pa_cons pe_int pa_nil))) (fun _ _ => rfl)) pa_nil)) (pg_name (i := 3) sc_l_letters.nd rfl (Or.inl rfl))
      (pss_strike (il := 4) (ir := 1) (iF := 2) G hr rfl T.g_l_sip T.d_l_sip.kp T.d_l_sip.b pass0 rfl T.z_len (pv 0) rfl sc_l_letters.nd rfl rfl rfl rfl rfl rfl (by decide) (by decide) (by decide) pss_nil rfl))
    (pss_one (ps_ret (pv 2)))), ?_⟩
  refine ⟨by show 2 ≤ sizeLine; decide, fun t0 ht0 => ⟨t0, _, rfl, SqT.of upd_same, rfl, _, _, rfl, _, _, rfl, rfl, ?_⟩⟩
  have hp0 := hp
  replace hp := hp.mono (S := No) (Ch.new (o := .tup [.str "abcdefghijklmnopqrstuvwxyz", .str ""]) ht0) id
  refine ⟨(by show 8 ≤ sizeLine; decide), fun l hl => ?_⟩
  have nl : p ≠ l := by
    obtain ⟨_, c, m, t, h1, _⟩ := hp
    exact ne_of_none h1 hl
  refine ⟨_, rfl, p, n, 8, rfl, hp.mono (S := No) (Ch.new hl) id, by omega, by decide, by decide, fun r H1 hr1 c1 s1 => ?_⟩
  obtain ⟨j, j1, j2, hj⟩ := turns8 hr1
  have hl1 : H1 l = some (.lst [V.int 1, .int 2, .int 2, .int 3, .int 3, .int 4, .int 5, .int 7]) := c1.1 l _ upd_same (fun z => nl z.symm)
  refine ⟨l, _, _, _, rfl, rfl, SqL.of hl1, hj, _, rfl, by omega, by omega, ?_⟩
  refine for_range (lo := 0) (n := ((j : Nat) : Int).toNat) (fun i σ H2 => ∃ r f x3 x4, σ = [some (.ref p), some (.str r), some (.str f), x3, x4] ∧ Tk r f i ∧ Ch (· = p) H H2 ∧ SpI H2 p (n + 1 + i)) ?_ ?_ ?_
  · refine ⟨_, _, _, _, rfl, ?_, ((Ch.new ht0).trans (Ch.new hl)).trans c1, s1⟩
    refine ⟨by rw [alph_str]; decide, by decide, by decide, by rw [alph_str]; unfold lowC alph; decide, fun c hc => ?_, by decide +kernel, by decide⟩
    have e0 : (("" : Str)).cps.toList = [] := by decide +kernel
    rw [e0] at hc
    cases hc
  · rintro i σ H2 hi ⟨r2, f2, x3, x4, rfl, tk, c2, s2⟩
    have hi7 : i < 7 := by omega
    have h1 := tk.ln
    have h2 := tk.lf
    refine ⟨r2, f2, rfl, rfl, by omega, by omega, ?_⟩
    refine ⟨_, rfl, p, _, r2.length, rfl, s2, by omega, by omega, by omega, fun r H3 hr3 c3 s3 => ?_⟩
    rw [str_len] at hr3
    refine ⟨_, r2.cps.toList[r], rfl, atI_nat (List.getElem?_eq_getElem hr3), ?_⟩
    refine ⟨_, _, _, _, rfl, tk.take (List.getElem_mem hr3), c2.trans c3, ?_⟩
    have e : n + 1 + (i + 1) = n + 1 + i + 1 := by omega
    rw [e]
    exact s3
  · rintro σ H2 ⟨r2, f2, x3, x4, rfl, tk, c2, s2⟩
    have h2 := tk.lf
    refine ⟨_, rfl, q f2 H2 ⟨tk.fd, tk.fl, by omega, by omega⟩ c2 (s2.le (by omega) (by omega))⟩
end
def spDrawn (L : Nat) : Sp := fun vs H Q _ => ∃ (p : Addr) (n many : Nat) (z : Str), vs = [.ref p, .str z, .int (many : Int), .int 3] ∧ Nm z ∧ 1 ≤ many ∧ many ≤ L ∧ many ≤ 1000 ∧ SpI H p n ∧ n + 3 * many ≤ 1000000 ∧
  ∀ (v : V) (k : Kd) (H' : Hp), KA H' v k → k.size = many → k.all (· ∈ z.cps.toList) → Ch (· = p) H H' → SpI H' p (n + (3 * many - 2)) → Q v H'
theorem forms3 {r : Nat} (h : r < 3) : ∃ f : Fm, atI [V.str "behind", .str "ahead", .str "with"] (r : Int) = some (.str (fstr f)) := by
  match r, h with
  | 0, _ => exact ⟨.b, rfl⟩
  | 1, _ => exact ⟨.a, rfl⟩
  | 2, _ => exact ⟨.w, rfl⟩
section
variable {P : Program} {w : World} {K : PySem.W.Frag} {mg : Str → Option Value} {base : Heap} {fd : Nat → FuncData}
theorem fnOk_none {k : Nat} {f : Addr} {fdd : FuncData} {ps : List Str} {sp : Sp} (h : ∀ vs H Q E, ¬ sp vs H Q E) : FnOk P w K mg base CX0 k f fdd ps sp := ⟨fun vs H Q E z => absurd z (h vs H Q E), fun A outer s H args us vs Q E _ _ _ _ z => absurd z (h vs H Q E)⟩
theorem ok_drawn (T : TX w K mg fd) : ∀ L, FnOk P w K mg base CX0 (L + 1) (He.ga K "_law_drawn") (fd 30) P_l_drawn (spDrawn L)
  | 0 => fnOk_none fun vs H Q E ⟨p, n, many, z, _, _, h1, h2, _⟩ => by omega
  | L + 1 => by
    have ih := ok_drawn T L
    refine T.d_l_drawn.ok sc_l_drawn (fun vs H Q E h => ?_) (fun cdv A outer s H vs Q E hr h => ?_)
    · obtain ⟨p, n, many, z, rfl, _⟩ := h
      rfl
    obtain ⟨p, n, many, z, rfl, nm, h1, h2, h3, hp, hn, q⟩ := h
    have G := ok_sip (P := P) (base := base) T
    have hr1 := hr.mono (show 1 ≤ L + 1 by omega)
    refine ⟨_, pss_cons (ps_if (pt_cmpR op_eq (pv 2) pe_int (nomark _)) (pss_one (ps_ret (pe_tup (pa_cons pe_str (pa_cons (pe_ix ix_str (pv 1)
          (pe_call G hr1 rfl T.g_l_sip T.d_l_sip.kp T.d_l_sip.b .nil pass0 (pa_cons (pv 0) (pa_cons (pe_callB call_len_str (by rfl) T.z_len boot_len (pa_cons (pv 1) pa_nil)) pa_nil))) (fun _ _ => rfl)) pa_nil))))) pss_nil)
      (pss_cons (ps_set (i := 4) sc_l_drawn.nd rfl (Or.inl rfl) (pe_op op_add pe_int (pe_call G hr1 rfl T.g_l_sip T.d_l_sip.kp T.d_l_sip.b .nil pass0 (pa_cons (pv 0) (pa_cons (pe_op op_sub (pv 2) pe_int) pa_nil)))))
      (pss_cons (ps_set (i := 5) sc_l_drawn.nd rfl (Or.inl rfl) (pe_ix ix_list (pe_lst (pa_cons pe_str (pa_cons pe_str (pa_cons pe_str pa_nil)))) (pe_call G hr1 rfl T.g_l_sip T.d_l_sip.kp T.d_l_sip.b .nil pass0 (pa_cons (pv 0) (pa_cons (pv 3) pa_nil))) (fun _ _ => rfl)))
      (pss_one (ps_ret (pe_tup (pa_cons (pv 5) (pa_cons (pe_call ih hr rfl T.g_l_drawn T.d_l_drawn.kp T.d_l_drawn.b .nil pass0 (pa_cons (pv 0) (pa_cons (pv 1) (pa_cons (pv 4) (pa_cons (pv 3) pa_nil)))))
        (pa_cons (pe_call ih hr rfl T.g_l_drawn T.d_l_drawn.kp T.d_l_drawn.b .nil pass0 (pa_cons (pv 0) (pa_cons (pv 1) (pa_cons (pe_op op_sub (pv 2) (pv 4)) (pa_cons (pv 3) pa_nil))))) pa_nil)))))))), ?_⟩
    have npos := nm.pos
    have nle := nm.le
    refine ⟨_, rfl, rfl, _, rfl, ite2 (fun c => ?_) (fun c => ?_)⟩
    · have e1 : many = 1 := by
        have := V.int.inj (of_decide_eq_true c)
        omega
      subst e1
      refine ⟨_, rfl, _, rfl, _, rfl, _, rfl, len_line (by omega), p, n, z.length, rfl, hp, by omega, by omega, by omega, fun r H1 hr1 c1 s1 => ?_⟩
      rw [str_len] at hr1
      refine ⟨_, _, z.cps.toList[r], rfl, rfl, len_line (by omega), atI_nat (List.getElem?_eq_getElem hr1), by show 2 ≤ sizeLine; decide, fun t ht => ?_⟩
      refine q _ (.pl z.cps.toList[r]) _ (.pl upd_same (nm.lo _ (List.getElem_mem hr1))) rfl (List.getElem_mem hr1) (c1.trans (Ch.new ht)) ?_
      exact (s1.mono (S := No) (Ch.new ht) id).le (by omega) (by omega)
    · have e1 : many ≠ 1 := fun z => c (decide_eq_true (by rw [z]; rfl))
      refine ⟨_, rfl, _, rfl, many, 1, rfl, rfl, p, n, many - 1, ?_, hp, by omega, by omega, by omega, fun r H1 hr1 c1 s1 => ?_⟩
      · show [V.ref p, V.int ((many : Int) - 1)] = _
        rw [show ((many : Int) - 1) = ((many - 1 : Nat) : Int) by omega]
      refine ⟨1, r, rfl, rfl, ?_⟩
      refine ⟨by show 3 ≤ sizeLine; decide, fun l hl => ?_⟩
      have nl : p ≠ l := by
        obtain ⟨_, _, _, _, h1, _⟩ := s1
        exact ne_of_none h1 hl
      refine ⟨_, rfl, _, rfl, p, n + 1, 3, rfl, s1.mono (S := No) (Ch.new hl) id, by omega, by decide, by decide, fun r2 H2 hr2 c2 s2 => ?_⟩
      obtain ⟨f, hf⟩ := forms3 hr2
      have hl2 := c2.1 l _ upd_same (fun z => nl z.symm)
      refine ⟨l, _, _, _, rfl, rfl, SqL.of hl2, hf, ?_⟩
      refine ⟨_, rfl, _, rfl, _, rfl, _, rfl, _, rfl, p, n + 1 + 1, 1 + r, z, ?_, nm, by omega, by omega, by omega, s2, by omega, fun v k H3 a3 z3 l3 c3 s3 => ?_⟩
      · show [V.ref p, V.str z, V.int ((1 : Int) + (r : Int)), V.int 3] = _
        rw [show (1 : Int) + (r : Int) = ((1 + r : Nat) : Int) by omega]
      refine ⟨_, rfl, _, rfl, _, rfl, _, rfl, many, _, rfl, rfl, _, rfl, p, n + 1 + 1 + (3 * (1 + r) - 2), many - (1 + r), z, ?_, nm, by omega, by omega, by omega, s3, by omega, fun v' k' H4 a4 z4 l4 c4 s4 => ?_⟩
      · show [V.ref p, V.str z, V.int ((many : Int) - (1 + (r : Int))), V.int 3] = _
        rw [show (many : Int) - (1 + (r : Int)) = ((many - (1 + r) : Nat) : Int) by omega]
      refine ⟨by show 3 ≤ sizeLine; decide, fun t ht => ?_⟩
      have c5 : Ch (· = p) H4 (upd H4 t (.tup [.str (fstr f), v, v'])) := Ch.new ht
      refine q _ (.nd f k k') _ (.nd upd_same ((a3.mono c4).mono c5) (a4.mono c5)) ?_ ⟨l3, l4⟩ ((((((c1.trans (Ch.new hl)).trans c2)).trans c3).trans c4).trans c5) ?_
      · show k.size + k'.size = many
        omega
      · exact (s4.mono (S := No) (Ch.new ht) id).le (by omega) (by omega)
end
end WW
/-! Small defs over kinds: size, depth, waits, sum, fits. -/
namespace WW
open PySem PySem.Spec PyProof.Rows L2
def Kd.isPl : Kd → Bool
  | .pl _ => true
  | .nd _ _ _ => false
theorem hd_plain (k : Kd) : decide (V.str (hd k) = V.str "plain") = k.isPl := by
  cases k with
  | pl c => exact decide_eq_true rfl
  | nd f x y => exact decide_eq_false fun z => fstr_plain f (V.str.inj z)
theorem fm_plain (f : Fm) : decide (V.str (fstr f) = V.str "plain") = false := decide_eq_false fun z => fstr_plain f (V.str.inj z)
theorem fm_eq (f g : Fm) : decide (V.str (fstr f) = V.str (fstr g)) = decide (f = g) := by
  by_cases h : f = g
  · subst h
    rw [decide_eq_true rfl, decide_eq_true rfl]
  · rw [decide_eq_false h]
    exact decide_eq_false fun z => h (fstr_inj (V.str.inj z))
theorem Ch.hole {S : Addr → Prop} {H H' : Hp} {p : Addr} {o : HO} (c : Ch S H H') (h : H p = none) : Ch S H (upd H' p o) :=
  ⟨fun b u e n => by
    rw [upd_ne (ne_of_none e h)]
    exact c.1 b u e n, fun b u e => by
    rw [upd_ne (ne_of_none e h)]
    exact c.2 b u e⟩
/-- a letter's weight in the law -/
def wtL (z : Str) (c : Nat) : Int := match Builtin.Str.occurrences z (chr1 c) 0 z.length 1 with
  | i :: _ => [1, 64, 4096, 262144, 16777216, 1073741824, 68719476736, 4398046511104].getD i 0
  | [] => 0
theorem wt_at {z : Str} {c : Nat} (hz : z.length ≤ 7) (hc : c ∈ z.cps.toList) : ∃ i rest, Builtin.Str.occurrences z (chr1 c) 0 z.length 1 = i :: rest ∧
    atI [V.int 1, .int 64, .int 4096, .int 262144, .int 16777216, .int 1073741824, .int 68719476736, .int 4398046511104] (i : Int) = some (.int (wtL z c)) := by
  have h1 := StrLaws.found_one z c
  rw [decide_eq_true hc] at h1
  cases e : Builtin.Str.occurrences z (chr1 c) 0 z.length 1 with
  | nil =>
    rw [e] at h1
    cases h1
  | cons i rest =>
    have h2 := (StrLaws.occ_spec z (chr1 c) 0 z.length 1 i (by rw [e]; simp)).1
    have h3 : i < 8 := by
      have : (chr1 c).length = 1 := rfl
      omega
    refine ⟨i, rest, rfl, ?_⟩
    unfold wtL
    rw [e]
    match i, h3 with
    | 0, _ => rfl
    | 1, _ => rfl
    | 2, _ => rfl
    | 3, _ => rfl
    | 4, _ => rfl
    | 5, _ => rfl
    | 6, _ => rfl
    | 7, _ => rfl
section
variable {P : Program} {w : World} {K : PySem.W.Frag} {mg : Str → Option Value} {base : Heap} {fd : Nat → FuncData}
def spSize (L : Nat) : Sp := fun vs H Q _ => ∃ (v : V) (k : Kd), vs = [v] ∧ KA H v k ∧ k.size ≤ L ∧ Q (.int (k.size : Int)) H
theorem ok_size (T : TX w K mg fd) : ∀ L, FnOk P w K mg base CX0 L (He.ga K "_law_size") (fd 31) P_l_size (spSize L)
  | 0 => fnOk_none fun vs H Q E ⟨v, k, _, _, h, _⟩ => by have := k.size_pos; omega
  | L + 1 => by
    have ih := ok_size T L
    refine T.d_l_size.ok sc_l_size (fun vs H Q E h => ?_) (fun cdv A outer s H vs Q E hr h => ?_)
    · obtain ⟨v, k, rfl, _⟩ := h
      rfl
    obtain ⟨v, k, rfl, ka, hs, q⟩ := h
    refine ⟨_, pss_one (ps_ret (pe_ifExp (pt_cmpR op_eq (pe_ix ix_tup (pv 0) pe_int (fun _ _ => rfl)) pe_str (nomark _)) pe_int
      (pe_op op_add (pe_call ih hr rfl T.g_l_size T.d_l_size.kp T.d_l_size.b .nil pass0 (pa_cons (pe_ix ix_tup (pv 0) pe_int (fun _ _ => rfl)) pa_nil))
        (pe_call ih hr rfl T.g_l_size T.d_l_size.kp T.d_l_size.b .nil pass0 (pa_cons (pe_ix ix_tup (pv 0) pe_int (fun _ _ => rfl)) pa_nil))))), ?_⟩
    cases k with
    | pl c =>
      obtain ⟨a, rfl, h1, _⟩ := ka.pl_inv
      exact ⟨_, rfl, a, _, _, _, rfl, rfl, SqT.of h1, atI_nat (j := 0) rfl, rfl, _, rfl, q⟩
    | nd f x y =>
      obtain ⟨a, u, t, rfl, h1, kx, ky⟩ := ka.nd_inv
      have px := x.size_pos
      have py := y.size_pos
      have es : (Kd.nd f x y).size = x.size + y.size := rfl
      rw [es] at hs q
      refine ⟨_, rfl, a, _, _, _, rfl, rfl, SqT.of h1, atI_nat (j := 0) rfl, rfl, _, rfl, ?_⟩
      rw [fm_plain]
      refine iteF ?_
      refine ⟨_, rfl, a, _, _, _, rfl, rfl, SqT.of h1, atI_nat (j := 1) rfl, u, x, rfl, kx, by omega, ?_⟩
      exact ⟨_, rfl, a, _, _, _, rfl, rfl, SqT.of h1, atI_nat (j := 2) rfl, t, y, rfl, ky, by omega, _, _, rfl, rfl, q⟩
def spDepth (L : Nat) : Sp := fun vs H Q _ => ∃ (v : V) (k : Kd), vs = [v] ∧ KA H v k ∧ k.size ≤ L ∧ ∀ d : Int, Q (.int d) H
theorem ok_depth (T : TX w K mg fd) : ∀ L, FnOk P w K mg base CX0 L (He.ga K "_law_depth") (fd 32) P_l_depth (spDepth L)
  | 0 => fnOk_none fun vs H Q E ⟨v, k, _, _, h, _⟩ => by have := k.size_pos; omega
  | L + 1 => by
    have ih := ok_depth T L
    refine T.d_l_depth.ok sc_l_depth (fun vs H Q E h => ?_) (fun cdv A outer s H vs Q E hr h => ?_)
    · obtain ⟨v, k, rfl, _⟩ := h
      rfl
    obtain ⟨v, k, rfl, ka, hs, q⟩ := h
    refine ⟨_, pss_one (ps_ret (pe_ifExp (pt_cmpR op_eq (pe_ix ix_tup (pv 0) pe_int (fun _ _ => rfl)) pe_str (nomark _)) pe_int
      (pe_op op_add pe_int (pe_callB (call_max2 rfl) (by rfl) T.z_max (by decide +kernel) (pa_cons (pe_call ih hr rfl T.g_l_depth T.d_l_depth.kp T.d_l_depth.b .nil pass0 (pa_cons (pe_ix ix_tup (pv 0) pe_int (fun _ _ => rfl)) pa_nil))
        (pa_cons (pe_call ih hr rfl T.g_l_depth T.d_l_depth.kp T.d_l_depth.b .nil pass0 (pa_cons (pe_ix ix_tup (pv 0) pe_int (fun _ _ => rfl)) pa_nil)) pa_nil)))))), ?_⟩
    cases k with
    | pl c =>
      obtain ⟨a, rfl, h1, _⟩ := ka.pl_inv
      exact ⟨_, rfl, a, _, _, _, rfl, rfl, SqT.of h1, atI_nat (j := 0) rfl, rfl, _, rfl, q _⟩
    | nd f x y =>
      obtain ⟨a, u, t, rfl, h1, kx, ky⟩ := ka.nd_inv
      have px := x.size_pos
      have py := y.size_pos
      have es : (Kd.nd f x y).size = x.size + y.size := rfl
      rw [es] at hs
      refine ⟨_, rfl, a, _, _, _, rfl, rfl, SqT.of h1, atI_nat (j := 0) rfl, rfl, _, rfl, ?_⟩
      rw [fm_plain]
      refine iteF ?_
      refine ⟨_, rfl, a, _, _, _, rfl, rfl, SqT.of h1, atI_nat (j := 1) rfl, u, x, rfl, kx, by omega, fun d1 => ?_⟩
      refine ⟨_, rfl, a, _, _, _, rfl, rfl, SqT.of h1, atI_nat (j := 2) rfl, t, y, rfl, ky, by omega, fun d2 => ?_⟩
      exact ⟨_, _, rfl, _, _, rfl, rfl, q _⟩
def spWaits (L : Nat) : Sp := fun vs H Q _ => ∃ (v : V) (k : Kd), vs = [v] ∧ KA H v k ∧ k.size ≤ L ∧ ∀ d : Bool, Q (.bl d) H
theorem ok_waits (T : TX w K mg fd) : ∀ L, FnOk P w K mg base CX0 L (He.ga K "_law_waits") (fd 33) P_l_waits (spWaits L)
  | 0 => fnOk_none fun vs H Q E ⟨v, k, _, _, h, _⟩ => by have := k.size_pos; omega
  | L + 1 => by
    have ih := ok_waits T L
    refine T.d_l_waits.ok sc_l_waits (fun vs H Q E h => ?_) (fun cdv A outer s H vs Q E hr h => ?_)
    · obtain ⟨v, k, rfl, _⟩ := h
      rfl
    obtain ⟨v, k, rfl, ka, hs, q⟩ := h
    refine ⟨_, pss_one (ps_ret (pe_or (pe_cmpR op_eq (pe_ix ix_tup (pv 0) pe_int (fun _ _ => rfl)) pe_str (nomark _))
      (pe_one (pe_and (pe_cmpR op_ne (pe_ix ix_tup (pv 0) pe_int (fun _ _ => rfl)) pe_str (nomark _)) (pe_and (pe_call ih hr rfl T.g_l_waits T.d_l_waits.kp T.d_l_waits.b .nil pass0 (pa_cons (pe_ix ix_tup (pv 0) pe_int (fun _ _ => rfl)) pa_nil))
        (pe_one (pe_call ih hr rfl T.g_l_waits T.d_l_waits.kp T.d_l_waits.b .nil pass0 (pa_cons (pe_ix ix_tup (pv 0) pe_int (fun _ _ => rfl)) pa_nil)))))))), ?_⟩
    cases k with
    | pl c =>
      obtain ⟨a, rfl, h1, _⟩ := ka.pl_inv
      exact ⟨_, rfl, a, _, _, _, rfl, rfl, SqT.of h1, atI_nat (j := 0) rfl, rfl, _, rfl, q _⟩
    | nd f x y =>
      obtain ⟨a, u, t, rfl, h1, kx, ky⟩ := ka.nd_inv
      have px := x.size_pos
      have py := y.size_pos
      have es : (Kd.nd f x y).size = x.size + y.size := rfl
      rw [es] at hs
      refine ⟨_, rfl, a, _, _, _, rfl, rfl, SqT.of h1, atI_nat (j := 0) rfl, rfl, _, rfl, ?_⟩
      rw [fm_plain]
      refine iteF ?_
      refine ⟨_, rfl, a, _, _, _, rfl, rfl, SqT.of h1, atI_nat (j := 0) rfl, rfl, _, rfl, ite2 (fun _ => ?_) (fun _ => q _)⟩
      refine ⟨_, rfl, a, _, _, _, rfl, rfl, SqT.of h1, atI_nat (j := 1) rfl, u, x, rfl, kx, by omega, fun d1 => ⟨_, rfl, ?_⟩⟩
      refine ite2 (fun _ => ?_) (fun _ => q _)
      exact ⟨_, rfl, a, _, _, _, rfl, rfl, SqT.of h1, atI_nat (j := 2) rfl, t, y, rfl, ky, by omega, fun d2 => q _⟩
def spSum (L : Nat) : Sp := fun vs H Q _ => ∃ (v : V) (k : Kd) (z : Str), vs = [v, .str z] ∧ KA H v k ∧ k.size ≤ L ∧ z.length ≤ 7 ∧ k.all (· ∈ z.cps.toList) ∧ ∀ H', Ch No H H' → Q (.int (sm (wtL z) k)) H'
theorem ok_sum (T : TX w K mg fd) : ∀ L, FnOk P w K mg base CX0 L (He.ga K "_law_sum") (fd 35) P_l_sum (spSum L)
  | 0 => fnOk_none fun vs H Q E ⟨v, k, z, _, _, h, _⟩ => by have := k.size_pos; omega
  | L + 1 => by
    have ih := ok_sum T L
    refine T.d_l_sum.ok sc_l_sum (fun vs H Q E h => ?_) (fun cdv A outer s H vs Q E hr h => ?_)
    · obtain ⟨v, k, z, rfl, _⟩ := h
      rfl
    obtain ⟨v, k, z, rfl, ka, hs, hz, hin, q⟩ := h
    refine ⟨_, pss_cons (ps_if (pt_cmpR op_eq (pe_ix ix_tup (pv 0) pe_int (fun _ _ => rfl)) pe_str (nomark _))
        (pss_one (ps_ret (pe_ix ix_list (pe_lst (pa_cons pe_int (pa_cons pe_int (pa_cons pe_int (pa_cons pe_int (pa_cons pe_int (pa_cons pe_int (pa_cons pe_int (pa_cons pe_int pa_nil)))))))))
          (pe_bm PySem.F.plainAttrs_str PySem.F.slot_str_index PySem.F.type_str_index mt_sindex (pv 1) (pa_cons (pe_ix ix_tup (pv 0) pe_int (fun _ _ => rfl)) pa_nil)) (fun _ _ => rfl)))) pss_nil)
      (pss_cons (ps_if (pt_cmpR op_eq (pe_ix ix_tup (pv 0) pe_int (fun _ _ => rfl)) pe_str (nomark _))
        (pss_one (ps_ret (pe_op op_sub (pe_call ih hr rfl T.g_l_sum T.d_l_sum.kp T.d_l_sum.b .nil pass0 (pa_cons (pe_ix ix_tup (pv 0) pe_int (fun _ _ => rfl)) (pa_cons (pv 1) pa_nil)))
          (pe_call ih hr rfl T.g_l_sum T.d_l_sum.kp T.d_l_sum.b .nil pass0 (pa_cons (pe_ix ix_tup (pv 0) pe_int (fun _ _ => rfl)) (pa_cons (pv 1) pa_nil)))))) pss_nil)
      (pss_one (ps_ret (pe_op op_add (pe_call ih hr rfl T.g_l_sum T.d_l_sum.kp T.d_l_sum.b .nil pass0 (pa_cons (pe_ix ix_tup (pv 0) pe_int (fun _ _ => rfl)) (pa_cons (pv 1) pa_nil)))
        (pe_op op_mul (pe_ifExp (pt_cmpR op_eq (pe_ix ix_tup (pv 0) pe_int (fun _ _ => rfl)) pe_str (nomark _)) pe_int (pe_un un_neg pe_int))
          (pe_call ih hr rfl T.g_l_sum T.d_l_sum.kp T.d_l_sum.b .nil pass0 (pa_cons (pe_ix ix_tup (pv 0) pe_int (fun _ _ => rfl)) (pa_cons (pv 1) pa_nil)))))))), ?_⟩
    cases k with
    | pl c =>
      obtain ⟨a, rfl, h1, _⟩ := ka.pl_inv
      refine ⟨_, rfl, a, _, _, _, rfl, rfl, SqT.of h1, atI_nat (j := 0) rfl, rfl, _, rfl, ?_⟩
      refine iteT ?_
      refine ⟨by show 8 ≤ sizeLine; decide, fun l hl => ?_⟩
      have c1 : Ch No H (upd H l (.lst [V.int 1, .int 64, .int 4096, .int 262144, .int 16777216, .int 1073741824, .int 68719476736, .int 4398046511104])) := Ch.new hl
      obtain ⟨i, rest, e1, e2⟩ := wt_at hz hin
      refine ⟨_, rfl, rfl, _, rfl, a, _, _, _, rfl, rfl, SqT.of (c1.get h1), atI_nat (j := 1) rfl, z, _, i, rest, rfl, rfl, e1, l, _, _, _, rfl, rfl, SqL.of upd_same, e2, q _ c1⟩
    | nd f x y =>
      obtain ⟨a, u, t, rfl, h1, kx, ky⟩ := ka.nd_inv
      have px := x.size_pos
      have py := y.size_pos
      have es : (Kd.nd f x y).size = x.size + y.size := rfl
      rw [es] at hs
      refine ⟨_, rfl, a, _, _, _, rfl, rfl, SqT.of h1, atI_nat (j := 0) rfl, rfl, _, rfl, ?_⟩
      rw [fm_plain]
      refine iteF ?_
      refine ⟨_, rfl, a, _, _, _, rfl, rfl, SqT.of h1, atI_nat (j := 0) rfl, rfl, _, rfl, ?_⟩
      cases f with
      | a =>
        refine iteT ?_
        refine ⟨_, rfl, a, _, _, _, rfl, rfl, SqT.of h1, atI_nat (j := 2) rfl, _, rfl, t, y, z, rfl, ky, by omega, hz, hin.2, fun H1 c1 => ?_⟩
        refine ⟨_, rfl, a, _, _, _, rfl, rfl, SqT.of (c1.get h1), atI_nat (j := 1) rfl, _, rfl, u, x, z, rfl, kx.mono c1, by omega, hz, hin.1, fun H2 c2 => ?_⟩
        exact ⟨_, _, rfl, rfl, q _ (c1.trans c2)⟩
      | b =>
        refine iteF ?_
        refine ⟨_, rfl, a, _, _, _, rfl, rfl, SqT.of h1, atI_nat (j := 1) rfl, _, rfl, u, x, z, rfl, kx, by omega, hz, hin.1, fun H1 c1 => ?_⟩
        refine ⟨_, rfl, a, _, _, _, rfl, rfl, SqT.of (c1.get h1), atI_nat (j := 0) rfl, rfl, _, rfl, ?_⟩
        refine iteF ?_
        refine ⟨1, rfl, ?_⟩
        refine ⟨_, rfl, a, _, _, _, rfl, rfl, SqT.of (c1.get h1), atI_nat (j := 2) rfl, _, rfl, t, y, z, rfl, ky.mono c1, by omega, hz, hin.2, fun H2 c2 => ?_⟩
        refine ⟨_, _, rfl, rfl, .inl ⟨by decide, by decide⟩, _, _, rfl, rfl, ?_⟩
        have z1 := q _ (c1.trans c2)
        have e : sm (wtL z) x + -1 * sm (wtL z) y = sm (wtL z) (.nd .b x y) := by
          show _ = sm (wtL z) x - sm (wtL z) y
          omega
        rw [← e] at z1
        exact z1
      | w =>
        refine iteF ?_
        refine ⟨_, rfl, a, _, _, _, rfl, rfl, SqT.of h1, atI_nat (j := 1) rfl, _, rfl, u, x, z, rfl, kx, by omega, hz, hin.1, fun H1 c1 => ?_⟩
        refine ⟨_, rfl, a, _, _, _, rfl, rfl, SqT.of (c1.get h1), atI_nat (j := 0) rfl, rfl, _, rfl, ?_⟩
        refine iteT ?_
        refine ⟨_, rfl, a, _, _, _, rfl, rfl, SqT.of (c1.get h1), atI_nat (j := 2) rfl, _, rfl, t, y, z, rfl, ky.mono c1, by omega, hz, hin.2, fun H2 c2 => ?_⟩
        refine ⟨_, _, rfl, rfl, .inl ⟨by decide, by decide⟩, _, _, rfl, rfl, ?_⟩
        have z1 := q _ (c1.trans c2)
        have e : sm (wtL z) x + 1 * sm (wtL z) y = sm (wtL z) (.nd .w x y) := by
          show _ = sm (wtL z) x + sm (wtL z) y
          omega
        rw [← e] at z1
        exact z1
end
end WW
/-! Comprehensions that make one of one; fits; the spring. -/
namespace WW
open PySem PySem.Spec PyProof.Rows L2
theorem pr_len {α β : Type} {R : α → β → Prop} {l : List α} {m : List β} (h : Paired R l m) : l.length = m.length := by
  induction h with
  | nil => rfl
  | cons _ _ ih => simp [ih]
theorem pr_at {α β : Type} {R : α → β → Prop} {l : List α} {m : List β} (h : Paired R l m) : ∀ {i : Nat} {x : α}, l[i]? = some x → ∃ y, m[i]? = some y ∧ R x y := by
  induction h with
  | nil => intro i x e; cases e
  | cons hq t ih =>
    intro i x e
    cases i with
    | zero =>
      simp only [List.getElem?_cons_zero, Option.some.injEq] at e
      subst e
      exact ⟨_, rfl, hq⟩
    | succ j => exact ih e
theorem pr_of {α β : Type} {R : α → β → Prop} : ∀ {l : List α} {m : List β}, l.length = m.length → (∀ (i : Nat) (x : α) (y : β), l[i]? = some x → m[i]? = some y → R x y) → Paired R l m
  | [], [], _, _ => .nil
  | [], _ :: _, h, _ => by cases h
  | _ :: _, [], h, _ => by cases h
  | a :: l, b :: m, h, hr => .cons (hr 0 a b rfl rfl) (pr_of (by simpa using h) fun i x y e f => hr (i + 1) x y e f)
theorem pr_app {α β : Type} {R : α → β → Prop} {l l' : List α} {m m' : List β} (h : Paired R l m) (h' : Paired R l' m') : Paired R (l ++ l') (m ++ m') := by
  induction h with
  | nil => exact h'
  | cons hq _ ih => exact .cons hq ih
theorem pr_tk {α β : Type} {R : α → β → Prop} {l : List α} {m : List β} (h : Paired R l m) : ∀ n, Paired R (l.take n) (m.take n) := by
  induction h with
  | nil => intro n; simpa using Paired.nil
  | cons hq _ ih =>
    intro n
    cases n with
    | zero => exact .nil
    | succ n => exact .cons hq (ih n)
theorem pr_dp {α β : Type} {R : α → β → Prop} {l : List α} {m : List β} (h : Paired R l m) : ∀ n, Paired R (l.drop n) (m.drop n) := by
  induction h with
  | nil => intro n; simpa using Paired.nil
  | cons hq t ih =>
    intro n
    cases n with
    | zero => exact .cons hq t
    | succ n => exact ih n
theorem ints_of {ys : List V} {ks : List Kd} {f : Kd → Int} (hl : ys.length = ks.length) (h : ∀ (i : Nat) (y : V), ys[i]? = some y → ∃ k : Kd, ks[i]? = some k ∧ y = V.int (f k)) : ys = (ks.map f).map V.int := by
  apply List.ext_getElem?
  intro i
  by_cases hi : i < ys.length
  · obtain ⟨k, e1, e2⟩ := h i ys[i] (List.getElem?_eq_getElem hi)
    rw [List.getElem?_eq_getElem hi, e2, List.getElem?_map, List.getElem?_map, e1]
    rfl
  · rw [List.getElem?_eq_none (by omega), List.getElem?_eq_none (by simp; omega)]
/-- what a comprehension has at D after i turns -/
structure McP (S : Addr → Prop) (H1 : Hp) (D : Addr) (R : Nat → V → Hp → Prop) (i : Nat) (H : Hp) : Prop where
  ch : Ch S H1 H
  at_ : ∃ acc, H D = some (.lst acc) ∧ acc.length = i ∧ ∀ j y, acc[j]? = some y → R j y H
theorem McP.zero {S : Addr → Prop} {H1 : Hp} {D : Addr} {R : Nat → V → Hp → Prop} (hD : H1 D = none) : McP S H1 D R 0 (upd H1 D (.lst [])) := ⟨Ch.new hD, [], upd_same, rfl, fun _ _ e => by cases e⟩
theorem McP.next {S : Addr → Prop} {H1 H H4 : Hp} {D : Addr} {R : Nat → V → Hp → Prop} {i : Nat} {y : V} (hD : H1 D = none) (hSD : ¬ S D) (hi : i < 1000) (mono : ∀ i y H H', R i y H → (∀ b xs, H b = some (.tup xs) → H' b = some (.tup xs)) → R i y H')
    (p : McP S H1 D R i H) (c : Ch S H H4) (r : R i y H4) : ∃ acc, H4 D = some (.lst acc) ∧ acc.length < sizeLine ∧ McP S H1 D R (i + 1) (upd H4 D (.lst (acc ++ [y]))) := by
  obtain ⟨ch, acc, e, hl, hr⟩ := p
  have e4 := c.1 _ _ e hSD
  have keep : ∀ b xs, H4 b = some (.tup xs) → (upd H4 D (.lst (acc ++ [y]))) b = some (.tup xs) := fun b xs q => by
    rw [upd_ne (fun z => by rw [z, e4] at q; cases q)]
    exact q
  refine ⟨acc, e4, by rw [hl]; exact small1000 (by omega), (ch.trans c).hole hD, _, upd_same, by simp [hl], fun j z q => ?_⟩
  by_cases hj : j < acc.length
  · rw [List.getElem?_append_left hj] at q
    exact mono _ _ _ _ (hr j z q) fun b xs q => keep b xs (c.2 b xs q)
  · have : j = acc.length := by
      have := (List.getElem?_eq_some_iff.mp q).1
      simp at this
      omega
    subst this
    simp at q
    subst q
    rw [hl]
    exact mono _ _ _ _ r keep
theorem lc_mapL {S : Addr → Prop} {K : PySem.W.Frag} {a : Addr} {xs : List V} {g : TG} {tt : TT} {te : TE} {vs : List Nat} {σ : L2.St} {H1 : Hp} {D : Addr} {Qd : Hp → Prop} (R : Nat → V → Hp → Prop)
    (hD : H1 D = none) (hSD : ¬ S D) (ha : H1 a = some (.lst xs)) (hSa : ¬ S a) (hn : xs.length ≤ 1000) (mono : ∀ i y H H', R i y H → (∀ b xs, H b = some (.tup xs) → H' b = some (.tup xs)) → R i y H')
    (hs : ∀ i x H, xs[i]? = some x → Ch S H1 H → ∀ (Nx : V → Hp → Prop) (Z : Hp → Prop), (∀ y H', Ch S H H' → R i y H' → Nx y H') → g x (wipe σ vs) H fun σ2 H2 => wipe σ2 vs = wipe σ vs ∧ tt σ2 H2 fun b H3 => if b = true then te σ2 H3 Nx else Z H3)
    (hd : ∀ ys H, Ch S H1 H → H D = some (.lst ys) → ys.length = xs.length → (∀ i y, ys[i]? = some y → R i y H) → Qd H) :
    ∃ W : Nat → Nat → Hp → Prop, (∃ m, W 0 m (upd H1 D (.lst []))) ∧ ∀ i m H, W i m H →
      ((Itl K a).stop i H ∧ Qd H) ∨ ((Itl K a).go i H ∧ ∃ Nx : Hp → Prop, (∀ H', Nx H' → ∃ m', m' < m ∧ W (i + 1) m' H') ∧ ∀ x H', (Itl K a).yld i H x H' → g x (wipe σ vs) H' fun σ2 H2 => wipe σ2 vs = wipe σ vs ∧ tt σ2 H2 fun b H3 =>
        if b = true then te σ2 H3 fun y H4 => ∃ acc, H4 D = some (.lst acc) ∧ acc.length < sizeLine ∧ Nx (upd H4 D (.lst (acc ++ [y]))) else Nx H3) :=
  lc_list (xs := xs) (McP S H1 D R) (McP.zero hD) (fun i H _ p => SqL.of (p.ch.1 _ _ ha hSa))
    (fun i x H e p => hs i x H e p.ch _ _ fun y H' c r => McP.next hD hSD (by have := (List.getElem?_eq_some_iff.mp e).1; omega) mono p c r)
    fun H p => let ⟨acc, e, hl, hr⟩ := p.at_; hd acc H p.ch e hl hr
theorem lc_mapT {S : Addr → Prop} {K : PySem.W.Frag} {a : Addr} {xs : List V} {g : TG} {tt : TT} {te : TE} {vs : List Nat} {σ : L2.St} {H1 : Hp} {D : Addr} {Qd : Hp → Prop} (R : Nat → V → Hp → Prop)
    (hD : H1 D = none) (hSD : ¬ S D) (ha : H1 a = some (.tup xs)) (hn : xs.length ≤ 1000) (mono : ∀ i y H H', R i y H → (∀ b xs, H b = some (.tup xs) → H' b = some (.tup xs)) → R i y H')
    (hs : ∀ i x H, xs[i]? = some x → Ch S H1 H → ∀ (Nx : V → Hp → Prop) (Z : Hp → Prop), (∀ y H', Ch S H H' → R i y H' → Nx y H') → g x (wipe σ vs) H fun σ2 H2 => wipe σ2 vs = wipe σ vs ∧ tt σ2 H2 fun b H3 => if b = true then te σ2 H3 Nx else Z H3)
    (hd : ∀ ys H, Ch S H1 H → H D = some (.lst ys) → ys.length = xs.length → (∀ i y, ys[i]? = some y → R i y H) → Qd H) :
    ∃ W : Nat → Nat → Hp → Prop, (∃ m, W 0 m (upd H1 D (.lst []))) ∧ ∀ i m H, W i m H →
      ((Itt K a).stop i H ∧ Qd H) ∨ ((Itt K a).go i H ∧ ∃ Nx : Hp → Prop, (∀ H', Nx H' → ∃ m', m' < m ∧ W (i + 1) m' H') ∧ ∀ x H', (Itt K a).yld i H x H' → g x (wipe σ vs) H' fun σ2 H2 => wipe σ2 vs = wipe σ vs ∧ tt σ2 H2 fun b H3 =>
        if b = true then te σ2 H3 fun y H4 => ∃ acc, H4 D = some (.lst acc) ∧ acc.length < sizeLine ∧ Nx (upd H4 D (.lst (acc ++ [y]))) else Nx H3) :=
  lc_tup (xs := xs) (McP S H1 D R) (McP.zero hD) (fun i H _ p => SqT.of (p.ch.2 _ _ ha))
    (fun i x H e p => hs i x H e p.ch _ _ fun y H' c r => McP.next hD hSD (by have := (List.getElem?_eq_some_iff.mp e).1; omega) mono p c r)
    fun H p => let ⟨acc, e, hl, hr⟩ := p.at_; hd acc H p.ch e hl hr
/-- at l: a list of these kinds -/
def LK (H : Hp) (l : Addr) (ks : List Kd) : Prop := ∃ vs, H l = some (.lst vs) ∧ KAs H vs ks
theorem LK.mono {S : Addr → Prop} {H H' : Hp} {l : Addr} {ks : List Kd} (h : LK H l ks) (c : Ch S H H') (hl : ¬ S l) : LK H' l ks :=
  let ⟨vs, h1, h2⟩ := h
  ⟨vs, c.1 _ _ h1 hl, h2.mono c⟩
theorem LK.dp {K : PySem.W.Frag} {H : Hp} {l : Addr} {ks : List Kd} (h : LK H l ks) : Dp K H (.ref l) (.list (ks.map kdD)) :=
  let ⟨_, h1, h2⟩ := h
  .lst (SqL.of h1) h2.dp
theorem KAs.low {H : Hp} {vs : List V} {ks : List Kd} (h : KAs H vs ks) : ∀ k ∈ ks, k.low := by
  induction h with
  | nil => intro k hk; cases hk
  | cons hq _ ih =>
    intro k hk
    rcases List.mem_cons.mp hk with e | e
    · subst e
      exact hq.low
    · exact ih k e
theorem LK.low {H : Hp} {l : Addr} {ks : List Kd} (h : LK H l ks) : ∀ k ∈ ks, k.low := let ⟨_, _, h2⟩ := h; h2.low
abbrev szs (ks : List Kd) : Nat := (ks.map Kd.size).sum
theorem sum_cast : ∀ ks : List Kd, (ks.map fun k => (k.size : Int)).sum = (szs ks : Int)
  | [] => rfl
  | k :: r => by
    have := sum_cast r
    simp only [List.map_cons, List.sum_cons, szs] at this ⊢
    omega
section
variable {P : Program} {w : World} {K : PySem.W.Frag} {mg : Str → Option Value} {base : Heap} {fd : Nat → FuncData}
def spFits : Sp := fun vs H Q _ => ∃ (l : Addr) (v : V) (ks : List Kd) (k : Kd), vs = [.ref l, v] ∧ LK H l ks ∧ KA H v k ∧ ks.length ≤ 50 ∧ (∀ z ∈ ks, z.size ≤ 30) ∧ k.size ≤ 30 ∧ ∀ (b : Bool) H', Ch No H H' → (b = true → szs ks + k.size ≤ 14) → Q (.bl b) H'
theorem ok_fits (T : TX w K mg fd) : FnOk P w K mg base CX0 31 (He.ga K "_law_fits") (fd 34) P_l_fits spFits := by
  refine T.d_l_fits.ok sc_l_fits (fun vs H Q E h => ?_) (fun cdv A outer s H vs Q E hr h => ?_)
  · obtain ⟨l, v, ks, k, rfl, _⟩ := h
    rfl
  obtain ⟨l, v, ks, k, rfl, ⟨us, hl, hks⟩, ka, h50, hsz, hkz, q⟩ := h
  have G1 := ok_size (P := P) (base := base) T 30
  have G2 := ok_depth (P := P) (base := base) T 30
  have G3 := ok_waits (P := P) (base := base) T 30
  have hu := hr.units
  refine ⟨_, pss_cons (ps_set (i := 2) sc_l_fits.nd rfl (Or.inl rfl) (pe_op op_cat (pv 0) (pe_lst (pa_cons (pv 1) pa_nil))))
    (pss_cons (ps_if (PW.pt (pw_or (pt_cmpR op_gt (pe_callB call_len_seq (by rfl) T.z_len boot_len (pa_cons (pv 0) pa_nil)) pe_int (nomark _))
        (pw_or1 (pt_cmpR op_gt (pe_callB (cr_max rfl) (by rfl) T.z_max (by decide +kernel) (pa_cons (pe_lc (own := [("_law_thing", 4)]) (g := gName 4) (tt := tYes) rfl sc_l_fits.nd (pi_list (pv 2)) (blkOk_by (N := N_l_fits) (sc := defScope s_l_fits) (by decide +kernel))
          (fun _ _ _ _ _ => pg_name (i := 4) sc_l_fits.nd rfl (Or.inl rfl)) (fun _ _ _ _ _ => pts_nil) (fun _ _ _ _ _ => pe_call G1 hr rfl T.g_l_size T.d_l_size.kp T.d_l_size.b .nil pass0 (pa_cons (pv 4) pa_nil))) pa_nil)) pe_int (nomark _)))))
        (pss_one (ps_ret pe_bl)) pss_nil)
    (pss_cons (ps_if (pt_cmpR op_gt (pe_callB (cr_max rfl) (by rfl) T.z_max (by decide +kernel) (pa_cons (pe_lc (own := [("_law_thing", 4)]) (g := gName 4) (tt := tYes) rfl sc_l_fits.nd (pi_list (pv 2)) (blkOk_by (N := N_l_fits) (sc := defScope s_l_fits) (by decide +kernel))
          (fun _ _ _ _ _ => pg_name (i := 4) sc_l_fits.nd rfl (Or.inl rfl)) (fun _ _ _ _ _ => pts_nil) (fun _ _ _ _ _ => pe_call G2 hr rfl T.g_l_depth T.d_l_depth.kp T.d_l_depth.b .nil pass0 (pa_cons (pv 4) pa_nil))) pa_nil)) pe_int (nomark _))
        (pss_one (ps_ret pe_bl)) pss_nil)
    (pss_cons (ps_set (i := 3) sc_l_fits.nd rfl (Or.inl rfl) (pe_callB (cr_sum rfl) (by rfl) T.z_sum (by decide +kernel) (pa_cons (pe_lc (own := [("_law_thing", 4)]) (g := gName 4) (tt := tYes) rfl sc_l_fits.nd (pi_list (pv 2)) (blkOk_by (N := N_l_fits) (sc := defScope s_l_fits) (by decide +kernel))
          (fun _ _ _ _ _ => pg_name (i := 4) sc_l_fits.nd rfl (Or.inl rfl)) (fun _ _ _ _ _ => pts_nil) (fun _ _ _ _ _ => pe_call G1 hr rfl T.g_l_size T.d_l_size.kp T.d_l_size.b .nil pass0 (pa_cons (pv 4) pa_nil))) pa_nil)))
    (pss_one (ps_ret (pe_cmpR op_le (pv 3) (pe_ifExp (pt_cmpR (op_eqD hu) (pe_lc (own := [("_law_thing", 4)]) (g := gName 4) (tt := tNot (tTest _)) rfl sc_l_fits.nd (pi_list (pv 2)) (blkOk_by (N := N_l_fits) (sc := defScope s_l_fits) (by decide +kernel))
          (fun _ _ _ _ _ => pg_name (i := 4) sc_l_fits.nd rfl (Or.inl rfl)) (fun _ _ _ _ _ => pts_one (pt_not (pt_val (pe_call G3 hr rfl T.g_l_waits T.d_l_waits.kp T.d_l_waits.b .nil pass0 (pa_cons (pv 4) pa_nil))))) (fun _ _ _ _ _ => pv 4)) (pe_lst pa_nil) (nomark _)) pe_int pe_int) (nomark _))))))), ?_⟩
  refine ⟨_, rfl, _, rfl, by show 1 ≤ sizeLine; decide, fun g hg => ?_⟩
  have l1 : us.length = ks.length := pr_len hks
  have c1 : Ch No H (upd H g (.lst [v])) := Ch.new hg
  refine ⟨l, g, us, [v], rfl, rfl, c1.get hl, upd_same, by show us.length + 1 ≤ sizeLine; exact len_line (by omega), fun t ht => ?_⟩
  -- what stands at t stays
  have c2 : Ch No H (upd (upd H g (.lst [v])) t (.lst (us ++ [v]))) := c1.trans (Ch.new ht)
  generalize hH2 : upd (upd H g (.lst [v])) t (.lst (us ++ [v])) = H2 at c2
  have t2 : H2 t = some (.lst (us ++ [v])) := by rw [← hH2]; exact upd_same
  have ka2 : KAs H2 (us ++ [v]) (ks ++ [k]) := pr_app (KAs.mono hks c2) (.cons (ka.mono c2) .nil)
  have len2 : (us ++ [v]).length = (ks ++ [k]).length := pr_len ka2
  have sz2 : ∀ z ∈ ks ++ [k], z.size ≤ 30 := by
    intro z hz
    rcases List.mem_append.mp hz with e | e
    · exact hsz z e
    · rw [List.mem_singleton] at e
      subst e
      exact hkz
  have l50 : (us ++ [v]).length ≤ 1000 := by simp; omega
  refine ⟨_, rfl, l, us, rfl, .inl (SqL.of (c2.get hl)), _, _, rfl, rfl, _, rfl, ?_⟩
  refine ite2 (fun _ => q false H2 c2 (fun z => nomatch z)) (fun _ => ?_)
  refine ⟨_, rfl, t, rfl, ⟨_, SqL.of t2⟩, fun D hD => ?_⟩
  refine lc_mapL (S := No) (xs := us ++ [v]) (fun i y _ => ∃ k', (ks ++ [k])[i]? = some k' ∧ y = .int ((k'.size : Nat) : Int)) hD id t2 id l50 (fun i y H H' z _ => z) (fun i x H3 e c Nx Z hN => ?_) (fun ys H3 c3 eD el er => ?_)
  · obtain ⟨k', e1, e2⟩ := pr_at ka2 e
    exact ⟨rfl, _, rfl, x, k', rfl, e2.mono c, sz2 _ (List.mem_of_getElem? e1), hN _ _ (Ch.refl _ _) ⟨k', e1, rfl⟩⟩
  have e3 := ints_of (f := fun z => ((z.size : Nat) : Int)) (el.trans len2) er
  refine ⟨D, _, rfl, by rw [← e3]; exact SqL.of eD, by simp, fun m _ _ => ⟨_, _, rfl, rfl, _, rfl, ?_⟩⟩
  have c4 := c2.trans c3
  refine ite2 (fun _ => q false _ c4 (fun z => nomatch z)) (fun _ => ?_)
  -- the depths
  have t3 := c3.get t2
  refine ⟨_, rfl, t, rfl, ⟨_, SqL.of t3⟩, fun D' hD' => ?_⟩
  refine lc_mapL (S := No) (xs := us ++ [v]) (fun i y _ => ∃ d : Int, y = .int d) hD' id t3 id l50 (fun i y H H' z _ => z) (fun i x H4 e c Nx Z hN => ?_) (fun ys' H4 c5 eD' el' er' => ?_)
  · obtain ⟨k', e1, e2⟩ := pr_at ka2 e
    exact ⟨rfl, _, rfl, x, k', rfl, e2.mono (c3.trans c), sz2 _ (List.mem_of_getElem? e1), fun d => hN _ _ (Ch.refl _ _) ⟨d, rfl⟩⟩
  have e4 : ∃ ds : List Int, ys' = ds.map V.int := by
    clear eD' el'
    induction ys' with
    | nil => exact ⟨[], rfl⟩
    | cons y r ih =>
      obtain ⟨d, rfl⟩ := er' 0 y rfl
      obtain ⟨ds, rfl⟩ := ih fun i z e => er' (i + 1) z e
      exact ⟨d :: ds, rfl⟩
  obtain ⟨ds, rfl⟩ := e4
  refine ⟨D', _, rfl, SqL.of eD', by simp at el'; omega, fun m _ _ => ⟨_, _, rfl, rfl, _, rfl, ?_⟩⟩
  have c6 := c4.trans c5
  refine ite2 (fun _ => q false _ c6 (fun z => nomatch z)) (fun _ => ?_)
  -- the sum
  have t4 := c5.get t3
  refine ⟨_, rfl, t, rfl, ⟨_, SqL.of t4⟩, fun D2 hD2 => ?_⟩
  refine lc_mapL (S := No) (xs := us ++ [v]) (fun i y _ => ∃ k', (ks ++ [k])[i]? = some k' ∧ y = .int ((k'.size : Nat) : Int)) hD2 id t4 id l50 (fun i y H H' z _ => z) (fun i x H5 e c Nx Z hN => ?_) (fun ys2 H5 c7 eD2 el2 er2 => ?_)
  · obtain ⟨k', e1, e2⟩ := pr_at ka2 e
    exact ⟨rfl, _, rfl, x, k', rfl, e2.mono ((c3.trans c5).trans c), sz2 _ (List.mem_of_getElem? e1), hN _ _ (Ch.refl _ _) ⟨k', e1, rfl⟩⟩
  have e5 := ints_of (f := fun z => ((z.size : Nat) : Int)) (el2.trans len2) er2
  refine ⟨D2, _, rfl, by rw [← e5]; exact SqL.of eD2, ?_⟩
  have c8 := c6.trans c7
  have t5 := c7.get t4
  refine ⟨_, rfl, _, rfl, t, rfl, ⟨_, SqL.of t5⟩, fun D3 hD3 => ?_⟩
  -- what is left out
  have fin : ∀ (n : Int) H', Ch No H H' → n ≤ 14 → Q (.bl (decide (((ks ++ [k]).map fun z => ((z.size : Nat) : Int)).sum ≤ n))) H' := by
    intro n H' c hn
    refine q _ _ c fun e => ?_
    have e6 := of_decide_eq_true e
    rw [sum_cast] at e6
    simp only [szs, List.map_append, List.sum_append, List.map_cons, List.map_nil, List.sum_cons, List.sum_nil] at e6 ⊢
    omega
  refine lc_list (xs := us ++ [v]) (fun i H6 => Ch No H5 H6 ∧ ∃ as bs, H6 D3 = some (.lst as) ∧ as.length ≤ i ∧ KAs H6 as bs ∧ ∀ z ∈ bs, z.size ≤ 30) ?_ ?_ ?_ ?_
  · exact ⟨Ch.new hD3, [], [], upd_same, Nat.le_refl _, .nil, fun z hz => by cases hz⟩
  · rintro i H6 _ ⟨c, _⟩
    exact SqL.of (c.get t5)
  · rintro i x H6 e ⟨c, as, bs, a1, a2, a3, a4⟩
    obtain ⟨k', e1, e2⟩ := pr_at ka2 e
    have hi : i < us.length + 1 := by
      have := (List.getElem?_eq_some_iff.mp e).1
      simpa using this
    refine ⟨rfl, _, rfl, x, k', rfl, e2.mono (((c3.trans c5).trans c7).trans c), sz2 _ (List.mem_of_getElem? e1), fun d => ⟨_, rfl, ?_⟩⟩
    refine ite2 (fun _ => ?_) (fun _ => ⟨c, as, bs, a1, by omega, a3, a4⟩)
    refine ⟨_, rfl, as, a1, small1000 (by omega), c.hole hD3, as ++ [x], bs ++ [k'], upd_same, by simp; omega, ?_, ?_⟩
    · have keep : ∀ b xs, H6 b = some (.tup xs) → (upd H6 D3 (.lst (as ++ [x]))) b = some (.tup xs) := fun b xs q => by
        rw [upd_ne (fun z => by rw [z, a1] at q; cases q)]
        exact q
      exact pr_app (Paired.mapP a3 fun _ _ z => z.keep keep) (.cons ((e2.mono (((c3.trans c5).trans c7).trans c)).keep keep) .nil)
    · intro z hz
      rcases List.mem_append.mp hz with e | e
      · exact a4 z e
      · rw [List.mem_singleton] at e
        subst e
        exact sz2 _ (List.mem_of_getElem? e1)
  · rintro H6 ⟨c, as, bs, a1, a2, a3, a4⟩
    refine ⟨by show 0 ≤ sizeLine; decide, fun n hn => ?_⟩
    have c9 : Ch No H5 (upd H6 n (.lst [])) := c.trans (Ch.new hn)
    have nD : D3 ≠ n := ne_of_none a1 hn
    refine ⟨.list (bs.map kdD), .list [], LK.dp ⟨as, by rw [upd_ne nD]; exact a1, KAs.mono (S := No) a3 (Ch.new hn)⟩, .lst (SqL.of upd_same) .nil, lnD_shaped (KAs.low a3) (fun z hz => by have := a4 z hz; omega), by rfl, _, rfl, ?_⟩
    refine ite2 (fun _ => ?_) (fun _ => ?_)
    · exact ⟨_, _, rfl, rfl, fin 14 _ (c8.trans c9) (by decide)⟩
    · exact ⟨_, _, rfl, rfl, fin 10 _ (c8.trans c9) (by decide)⟩
end
end WW
/-! The checks; the spring of the law; words. -/
namespace WW
open PySem PySem.Spec PyProof.Rows L2
/-! ### what exB says -/
structure ExK (K : PySem.W.Frag) : Prop where
  oex : oexB K (He.ga K "NotLeading") = true
  xf : xfB K (He.ga K "NotLeading") = true
  seta : PySem.W.findIn K (.ref (He.ga K "NotLeading")) "__setattr__" = some (some (.builtin "object.__setattr__"))
  sub : PySem.W.subIn K (.ref (He.ga K "NotLeading")) (.type "BaseException") = some true
  typ : PySem.W.typeIn K (.ref (He.ga K "NotLeading")) = some (.type "type")
  ini : PySem.W.findIn K (.ref (He.ga K "NotLeading")) "__init__" = some (some (.ref (He.fAd K ("WaitError", some "__init__"))))
  fnt : PySem.W.typeIn K (.ref (He.fAd K ("WaitError", some "__init__"))) = some (.type "function")
  turns : ∀ f : Fm, ∃ u, PySem.W.nsIn K (He.ga K "TURNS") (fstr f) = some (some u)
theorem exK {K : PySem.W.Frag} (h : exB K = true) : ExK K := by
  unfold exB at h
  simp only [Bool.and_eq_true, decide_eq_true_eq] at h
  obtain ⟨h1, h2, h3, h4, h5, h6, h7, h8⟩ := h
  refine ⟨h1, h2, h3, h4, h5, h6, h7, fun f => ?_⟩
  have h9 := List.all_eq_true.mp h8 (fstr f) (by cases f <;> simp [fstr])
  cases e : PySem.W.nsIn K (He.ga K "TURNS") (fstr f) with
  | none =>
    rw [e] at h9
    cases h9
  | some r =>
    cases r with
    | none =>
      rw [e] at h9
      cases h9
    | some u => exact ⟨u, rfl⟩
section
variable {P : Program} {w : World} {K : PySem.W.Frag} {mg : Str → Option Value} {base : Heap} {fd : Nat → FuncData}
def spLetter : Sp := fun vs H Q _ => ∃ c : Nat, vs = [.str (chr1 c)] ∧ lowC c ∧ Q (.bl true) H
theorem low_in {c : Nat} (h : lowC c) : c ∈ (("abcdefghijklmnopqrstuvwxyz" : Str)).cps.toList := by
  rw [alph_str]
  have q : ∀ c : Fin 123, 97 ≤ c.val → c.val ∈ alph := by decide
  exact q ⟨c, by have := h.2; omega⟩ h.1
theorem ok_letter (T : TX w K mg fd) : FnOk P w K mg base CX0 1 (He.ga K "is_letter") (fd 2) P_is_letter spLetter := by
  refine T.d_is_letter.ok sc_is_letter (fun vs H Q E h => ?_) (fun cdv A outer s H vs Q E hr h => ?_)
  · obtain ⟨c, rfl, _⟩ := h
    rfl
  obtain ⟨c, rfl, hc, q⟩ := h
  obtain ⟨t, mL⟩ := T.i_LETTERS
  refine ⟨_, pss_one (ps_ret (pe_and (pe_cmpR op_eq (pe_callB call_len_str (by rfl) T.z_len boot_len (pa_cons (pv 0) pa_nil)) pe_int (nomark _)) (pe_one (pe_cmpR op_in_sign (pv 0) (pe_glob (v := .str "abcdefghijklmnopqrstuvwxyz") rfl mL ⟨_, rfl⟩) (by rfl))))), ?_⟩
  refine ⟨_, rfl, _, rfl, by show 1 ≤ sizeLine; decide, rfl, _, rfl, ?_⟩
  refine iteT ?_
  refine ⟨_, rfl, c, _, rfl, rfl, ?_⟩
  rw [decide_eq_true (low_in hc)]
  exact q
def spWrong (L : Nat) : Sp := fun vs H Q _ => ∃ (v : V) (k : Kd), vs = [v] ∧ KA H v k ∧ k.size ≤ L ∧ Q .non H
theorem ok_wrong (T : TX w K mg fd) : ∀ L, FnOk P w K mg base CX0 (L + 1) (He.ga K "wrong_part") (fd 3) P_wrong_part (spWrong L)
  | 0 => fnOk_none fun vs H Q E ⟨v, k, _, _, h, _⟩ => by have := k.size_pos; omega
  | L + 1 => by
    have ih := ok_wrong T L
    refine T.d_wrong_part.ok sc_wrong_part (fun vs H Q E h => ?_) (fun cdv A outer s H vs Q E hr h => ?_)
    · obtain ⟨v, k, rfl, _⟩ := h
      rfl
    obtain ⟨v, k, rfl, ka, hs, q⟩ := h
    have G := (ok_letter (P := P) (base := base) T)
    have hr1 := hr.mono (show 1 ≤ L + 1 by omega)
    obtain ⟨es, n, KD⟩ := T.tab
    refine ⟨_, pss_cons (ps_if (pt_cmpR op_eq (pe_ix ix_tup (pv 0) pe_int (fun _ _ => rfl)) pe_str (nomark _))
        (pss_one (ps_ret (pe_ifExp (pt_val (pe_call G hr1 rfl T.g_is_letter T.d_is_letter.kp T.d_is_letter.b .nil pass0 (pa_cons (pe_ix ix_tup (pv 0) pe_int (fun _ _ => rfl)) pa_nil))) pe_non (pv 0)))) pss_nil)
      (pss_cons (ps_if (pt_cmpR (op_notIn_kd KD) (pe_ix ix_tup (pv 0) pe_int (fun _ _ => rfl)) (pe_glob (v := .ref _) rfl T.g_TURNS rfl) (by rfl)) (pss_one (ps_ret (pv 0))) pss_nil)
      (pss_cons (ps_set (i := 1) sc_wrong_part.nd rfl (Or.inl rfl) (pe_call ih hr rfl T.g_wrong_part T.d_wrong_part.kp T.d_wrong_part.b .nil pass0 (pa_cons (pe_ix ix_tup (pv 0) pe_int (fun _ _ => rfl)) pa_nil)))
      (pss_one (ps_ret (pe_ifExp (pt_cmpR op_isN (pv 1) pe_non (nomark _)) (pe_call ih hr rfl T.g_wrong_part T.d_wrong_part.kp T.d_wrong_part.b .nil pass0 (pa_cons (pe_ix ix_tup (pv 0) pe_int (fun _ _ => rfl)) pa_nil)) (pv 1)))))), ?_⟩
    cases k with
    | pl c =>
      obtain ⟨a, rfl, h1, lc⟩ := ka.pl_inv
      refine ⟨_, rfl, a, _, _, _, rfl, rfl, SqT.of h1, atI_nat (j := 0) rfl, rfl, _, rfl, iteT ?_⟩
      exact ⟨_, rfl, a, _, _, _, rfl, rfl, SqT.of h1, atI_nat (j := 1) rfl, c, rfl, lc, _, rfl, q⟩
    | nd f x y =>
      obtain ⟨a, u, t, rfl, h1, kx, ky⟩ := ka.nd_inv
      have px := x.size_pos
      have py := y.size_pos
      have es' : (Kd.nd f x y).size = x.size + y.size := rfl
      rw [es'] at hs
      obtain ⟨z, hz⟩ := (exK T.more).turns f
      refine ⟨_, rfl, a, _, _, _, rfl, rfl, SqT.of h1, atI_nat (j := 0) rfl, rfl, _, rfl, ?_⟩
      rw [fm_plain]
      refine iteF ?_
      refine ⟨_, rfl, a, _, _, _, rfl, rfl, SqT.of h1, atI_nat (j := 0) rfl, _, _, rfl, rfl, hz, _, rfl, iteF ?_⟩
      refine ⟨_, rfl, a, _, _, _, rfl, rfl, SqT.of h1, atI_nat (j := 1) rfl, u, x, rfl, kx, by omega, ?_⟩
      refine ⟨_, rfl, rfl, _, rfl, iteT ?_⟩
      exact ⟨_, rfl, a, _, _, _, rfl, rfl, SqT.of h1, atI_nat (j := 2) rfl, t, y, rfl, ky, by omega, q⟩
def spCk : Sp := fun vs H Q _ => ∃ (v : V) (k : Kd), vs = [v] ∧ KA H v k ∧ k.size ≤ 30 ∧ Q v H
theorem ok_ck (T : TX w K mg fd) : FnOk P w K mg base CX0 32 (He.ga K "checked_kind") (fd 4) P_checked_kind spCk := by
  refine T.d_checked_kind.ok sc_checked_kind (fun vs H Q E h => ?_) (fun cdv A outer s H vs Q E hr h => ?_)
  · obtain ⟨v, k, rfl, _⟩ := h
    rfl
  obtain ⟨v, k, rfl, ka, hs, q⟩ := h
  have G := (ok_wrong (P := P) (base := base) T 30)
  refine ⟨_, pss_cons (ps_set (i := 1) sc_checked_kind.nd rfl (Or.inl rfl) (pe_call G hr rfl T.g_wrong_part T.d_wrong_part.kp T.d_wrong_part.b .nil pass0 (pa_cons (pv 0) pa_nil)))
    (pss_cons (ps_if (pt_cmpR op_notN (pv 1) pe_non (nomark _)) (pss_one ps_never) pss_nil) (pss_one (ps_ret (pv 0)))), ?_⟩
  exact ⟨_, rfl, v, k, rfl, ka, hs, _, rfl, rfl, _, rfl, iteF ⟨_, rfl, q⟩⟩
def spCks : Sp := fun vs H Q _ => ∃ (l : Addr) (ks : List Kd), vs = [.ref l] ∧ LK H l ks ∧ (∀ k ∈ ks, k.size ≤ 30) ∧ Q (.ref l) H
theorem ok_cks (T : TX w K mg fd) : FnOk P w K mg base CX0 33 (He.ga K "checked_kinds") (fd 5) P_checked_kinds spCks := by
  refine T.d_checked_kinds.ok sc_checked_kinds (fun vs H Q E h => ?_) (fun cdv A outer s H vs Q E hr h => ?_)
  · obtain ⟨l, ks, rfl, _⟩ := h
    rfl
  obtain ⟨l, ks, rfl, ⟨us, hl, hks⟩, hs, q⟩ := h
  have G := (ok_ck (P := P) (base := base) T)
  refine ⟨_, pss_cons (ps_for PassesOwn.never rfl (pi_list (pv 0)) (pg_name (i := 1) sc_checked_kinds.nd rfl (Or.inl rfl)) (pss_one (ps_expr (pe_call G hr rfl T.g_checked_kind T.d_checked_kind.kp T.d_checked_kind.b .nil pass0 (pa_cons (pv 1) pa_nil)))))
    (pss_one (ps_ret (pv 0))), ?_⟩
  refine ⟨_, rfl, l, rfl, ⟨_, SqL.of hl⟩, for_list (xs := us) (fun i σ H' => H' = H ∧ ∃ x1, σ = [some (.ref l), x1]) ⟨rfl, _, rfl⟩ ?_ ?_ ?_⟩
  · rintro i σ _ _ ⟨rfl, _⟩
    exact SqL.of hl
  · rintro i x σ _ e ⟨rfl, x1, rfl⟩
    obtain ⟨k, e1, e2⟩ := pr_at hks e
    exact ⟨_, rfl, x, k, rfl, e2, hs k (List.mem_of_getElem? e1), rfl, _, rfl⟩
  · rintro σ _ ⟨rfl, x1, rfl⟩
    exact ⟨_, rfl, q⟩
def spAsked : Sp := fun vs H Q _ => ∃ (l m : Addr) (ks js : List Kd), vs = [.ref l, .ref m] ∧ LK H l ks ∧ LK H m js ∧ (∀ k ∈ ks, k.size ≤ 30) ∧ (∀ k ∈ js, k.size ≤ 30) ∧ ks ≠ [] ∧ ks.length ≤ 100 ∧ js.length ≤ 100 ∧ ∀ H', Ch No H H' → Q .non H'
theorem ok_asked (T : TX w K mg fd) : FnOk P w K mg base CX0 33 (He.ga K "check_asked") (fd 22) P_check_asked spAsked := by
  refine T.d_check_asked.ok sc_check_asked (fun vs H Q E h => ?_) (fun cdv A outer s H vs Q E hr h => ?_)
  · obtain ⟨l, m, ks, js, rfl, _⟩ := h
    rfl
  obtain ⟨l, m, ks, js, rfl, ⟨us, hl, hks⟩, ⟨ts, hm, hjs⟩, h1, h2, hne, l1, l2, q⟩ := h
  have G := (ok_ck (P := P) (base := base) T)
  refine ⟨_, pss_cons (ps_for PassesOwn.never rfl (pi_list (pe_lst (StX.pa_star (pv 0) (StX.pa_star (pv 1) pa_nil)))) (pg_name (i := 2) sc_check_asked.nd rfl (Or.inl rfl)) (pss_one (ps_expr (pe_call G hr rfl T.g_checked_kind T.d_checked_kind.kp T.d_checked_kind.b .nil pass0 (pa_cons (pv 2) pa_nil)))))
    (pss_one (ps_if (pt_cmpR op_eq (pe_callB call_len_seq (by rfl) T.z_len boot_len (pa_cons (pv 0) pa_nil)) pe_int (nomark _)) (pss_one ps_never) pss_nil)), ?_⟩
  have lu := pr_len hks
  have lt := pr_len hjs
  refine ⟨_, rfl, l, us, rfl, .inr (SqL.of hl), _, rfl, m, ts, rfl, .inr (SqL.of hm), ?_, fun t ht => ?_⟩
  · refine len_line ?_
    simp
    omega
  have hks' : KAs H (us ++ (ts ++ [])) (ks ++ js) := by
    rw [List.append_nil]
    exact pr_app hks hjs
  have c1 : Ch No H (upd H t (.lst (us ++ (ts ++ [])))) := Ch.new ht
  refine ⟨t, rfl, ⟨_, SqL.of upd_same⟩, for_list (xs := us ++ (ts ++ [])) (fun i σ H' => H' = upd H t (.lst (us ++ (ts ++ []))) ∧ ∃ x1, σ = [some (.ref l), some (.ref m), x1]) ⟨rfl, _, rfl⟩ ?_ ?_ ?_⟩
  · rintro i σ _ _ ⟨rfl, _⟩
    exact SqL.of upd_same
  · rintro i x σ _ e ⟨rfl, x1, rfl⟩
    obtain ⟨k, e1, e2⟩ := pr_at hks' e
    refine ⟨_, rfl, x, k, rfl, e2.mono c1, ?_, rfl, _, rfl⟩
    rcases List.mem_append.mp (List.mem_of_getElem? e1) with z | z
    · exact h1 k z
    · exact h2 k z
  · rintro σ _ ⟨rfl, x1, rfl⟩
    refine ⟨_, rfl, l, us, rfl, .inl (SqL.of (c1.get hl)), rfl, _, rfl, ?_⟩
    have : us.length ≠ 0 := fun z => hne (List.length_eq_zero_iff.mp (by omega))
    rw [decide_eq_false (fun z => this (by have := V.int.inj z; omega))]
    exact iteF (q _ c1)
/-! ### the spring of the law -/
def spSpring : Sp := fun vs H Q _ => ∃ (a : Addr) (ns : List Int) (i : Nat), vs = [.ref a, .int (i : Int)] ∧ SqL K H a (ns.map V.int) ∧ ns.length ≤ 63 ∧ i ≤ 1000 ∧ (∀ z ∈ ns, Builtin.Int.intBits z ≤ 1048576) ∧ ∀ (p : Addr) (H' : Hp), H p = none → Ch No H H' → SpI H' p 0 → Q (.ref p) H'
theorem m17 : (0 : Int) < 10 ^ (17 : Int).toNat + 3 ∧ (10 : Int) ^ (17 : Int).toNat + 3 < 2 ^ 110 := by decide +kernel
theorem m31 : (0 : Int) < 10 ^ (31 : Int).toNat + 33 ∧ (10 : Int) ^ (31 : Int).toNat + 33 < 2 ^ 110 := by decide +kernel
theorem ok_spring (T : TX w K mg fd) : FnOk P w K mg base CX0 1 (He.ga K "_law_spring") (fd 27) P_l_spring (spSpring (K := K)) := by
  refine T.d_l_spring.ok sc_l_spring (fun vs H Q E h => ?_) (fun cdv A outer s H vs Q E hr h => ?_)
  · obtain ⟨a, ns, i, rfl, _⟩ := h
    rfl
  obtain ⟨a, ns, i, rfl, hS, h63, hi, hb, q⟩ := h
  refine ⟨_, pss_cons (ps_set (i := 2) sc_l_spring.nd rfl (Or.inl rfl) (pe_op op_add (pe_op op_add pe_int (pe_op op_mul pe_int (pe_callB call_len_seq (by rfl) T.z_len boot_len (pa_cons (pv 0) pa_nil))))
      (pe_op op_mod (pe_callTy call_int1 (by rfl) T.z_int boot_int (pa_cons (pe_callB (cr_sum rfl) (by rfl) T.z_sum (by decide +kernel) (pa_cons (pv 0) pa_nil)) pa_nil)) (pe_op op_add (pe_op op_powB pe_int pe_int) pe_int))))
    (pss_cons (ps_if (pt_cmpR op_lt (pv 1) (pe_callB call_len_seq (by rfl) T.z_len boot_len (pa_cons (pv 0) pa_nil)) (nomark _)) (pss_one (ps_set (i := 2) sc_l_spring.nd rfl (Or.inl rfl) (pe_ix ix_list (pv 0) (pv 1) (fun _ _ => rfl)))) pss_nil)
    (pss_cons (ps_set (i := 3) sc_l_spring.nd rfl (Or.inl rfl) (pe_op op_mod (pe_callTy call_int1 (by rfl) T.z_int boot_int (pa_cons (pe_op op_add (pe_op op_add (pe_op op_powB (pv 2) pe_int) (pe_op op_mul pe_int (pv 2))) (pe_op op_mul pe_int (pv 1))) pa_nil)) (pe_op op_add (pe_op op_powB pe_int pe_int) pe_int)))
    (pss_one (ps_ret (pe_lst (pa_cons (pe_callB (call_max2 rfl) (by rfl) T.z_max (by decide +kernel) (pa_cons pe_int (pa_cons (pe_op op_sub (pe_callB call_abs (by rfl) T.z_abs (by decide +kernel) (pa_cons (pv 2) pa_nil)) (pe_op op_powB pe_int pe_int)) pa_nil))) (pa_cons (pv 3) (pa_cons pe_int pa_nil)))))))), ?_⟩
  have ln : (ns.map V.int).length = ns.length := List.length_map _
  refine ⟨_, rfl, a, _, rfl, .inl hS, _, _, rfl, rfl, .inl ⟨by decide, by decide⟩, _, _, rfl, rfl, _, rfl, a, ns, rfl, hS, .inl ⟨_, rfl, ?_⟩⟩
  refine ⟨_, _, rfl, rfl, ⟨by decide, by decide +kernel⟩, _, _, rfl, rfl, _, _, rfl, rfl, m17.1, _, _, rfl, rfl, ?_⟩
  refine ⟨_, rfl, _, rfl, a, _, rfl, .inl hS, _, _, rfl, rfl, _, rfl, ?_⟩
  -- what comes behind the cell
  have back : ∀ cell : Int, Builtin.Int.intBits cell ≤ 1048576 → ∃ v, ([some (.ref a), some (.int (i : Int)), some (.int cell), none] : L2.St)[2]? = some (some v) ∧ ∃ i_1 j, v = V.int i_1 ∧ V.int 2 = V.int j ∧ (0 ≤ j ∧ (Builtin.Int.intBits i_1 : Int) * j ≤ 2 ^ 27) ∧ True := by
    intro cell hc
    exact ⟨_, rfl, _, _, rfl, rfl, ⟨by decide, by omega⟩, trivial⟩
  have rest : ∀ cell : Int, Builtin.Int.intBits cell ≤ 1048576 → ∀ (p : Addr), H p = none → Q (.ref p) (upd H p (.lst [.int (if (if cell < 0 then -cell else cell) - 10 ^ (18 : Int).toNat > 0 then (if cell < 0 then -cell else cell) - 10 ^ (18 : Int).toNat else 0), .int ((cell ^ (2 : Int).toNat + 32452867 * cell + 104395301 * (i : Int)) % (10 ^ (31 : Int).toNat + 33)), .int 0])) := by
    intro cell hc p hp
    refine q p _ hp (Ch.new hp) ⟨by decide, _, _, _, upd_same, ?_, (mod110 _ m31.1 m31.2).1, (mod110 _ m31.1 m31.2).2, by decide, by decide⟩
    split <;> omega
  have bits : ∀ cell : Int, Builtin.Int.intBits cell ≤ 1048576 → 0 ≤ (2 : Int) ∧ (Builtin.Int.intBits cell : Int) * 2 ≤ 2 ^ 27 := fun cell hc => ⟨by decide, by omega⟩
  refine ite2 (fun c => ?_) (fun c => ?_)
  · have hlt : i < ns.length := by
      have := of_decide_eq_true c
      rw [ln] at this
      omega
    have g : (ns.map V.int)[i]? = some (.int ns[i]) := by
      rw [List.getElem?_map, List.getElem?_eq_getElem hlt]
      rfl
    have hc := hb ns[i] (List.getElem_mem hlt)
    refine ⟨_, rfl, _, rfl, a, _, _, _, rfl, rfl, hS, atI_nat g, ?_⟩
    refine ⟨_, rfl, _, _, rfl, rfl, bits _ hc, _, rfl, _, _, rfl, rfl, .inl ⟨by decide, by decide⟩, _, _, rfl, rfl, _, rfl, _, _, rfl, rfl, .inl ⟨by decide, by decide⟩, _, _, rfl, rfl, .inl ⟨_, rfl, ?_⟩⟩
    refine ⟨_, _, rfl, rfl, ⟨by decide, by decide +kernel⟩, _, _, rfl, rfl, _, _, rfl, rfl, m31.1, ?_⟩
    refine ⟨_, rfl, _, rfl, _, _, rfl, rfl, ⟨by decide, by decide +kernel⟩, _, _, rfl, rfl, _, _, rfl, _, rfl, by show 3 ≤ sizeLine; decide, fun p hp => ?_⟩
    exact rest _ hc p hp
  · have e17 : (0 : Int) ≤ ns.sum % (10 ^ (17 : Int).toNat + 3) ∧ ns.sum % (10 ^ (17 : Int).toNat + 3) < 2 ^ 110 := mod110 _ m17.1 m17.2
    have hc : Builtin.Int.intBits (612589 + 15485863 * ((ns.map V.int).length : Int) + ns.sum % (10 ^ (17 : Int).toNat + 3)) ≤ 1048576 := by
      refine Nat.le_trans (intBits_le (k := 120) ?_) (by decide)
      rw [ln]
      omega
    refine ⟨_, rfl, _, _, rfl, rfl, bits _ hc, _, rfl, _, _, rfl, rfl, .inl ⟨by decide, by decide⟩, _, _, rfl, rfl, _, rfl, _, _, rfl, rfl, .inl ⟨by decide, by decide⟩, _, _, rfl, rfl, .inl ⟨_, rfl, ?_⟩⟩
    refine ⟨_, _, rfl, rfl, ⟨by decide, by decide +kernel⟩, _, _, rfl, rfl, _, _, rfl, rfl, m31.1, ?_⟩
    refine ⟨_, rfl, _, rfl, _, _, rfl, rfl, ⟨by decide, by decide +kernel⟩, _, _, rfl, rfl, _, _, rfl, _, rfl, by show 3 ≤ sizeLine; decide, fun p hp => ?_⟩
    exact rest _ hc p hp
end
end WW
/-! Expressions that make kinds; even, pool, three. -/
namespace WW
open PySem PySem.Spec PyProof.Rows L2
/-- te makes the kind k and nothing else -/
def KE (te : TE) (σ : L2.St) (H : Hp) (k : Kd) : Prop := ∀ H1, Ch No H H1 → ∀ Q : VK, (∀ v H2, Ch No H1 H2 → KA H2 v k → Q v H2) → te σ H1 Q
def KEs (ta : TA) (σ : L2.St) (H : Hp) (ks : List Kd) : Prop := ∀ H1, Ch No H H1 → ∀ Q : List V → Hp → Prop, (∀ vs H2, Ch No H1 H2 → KAs H2 vs ks → Q vs H2) → ta σ H1 Q
theorem ke_var {σ : L2.St} {H : Hp} {i : Nat} {v : V} {k : Kd} (e : σ[i]? = some (some v)) (ka : KA H v k) : KE (tVar i) σ H k := fun H1 c Q q => ⟨v, e, q v H1 (Ch.refl _ _) (ka.mono c)⟩
theorem ke_nd {σ : L2.St} {H : Hp} {ta tb : TE} {x y : Kd} {s : Str} (f : Fm) (ha : KE ta σ H x) (hb : KE tb σ H y) (hs : fstr f = s := by rfl) : KE (tTup (tCons (tC (.str s)) (tCons ta (tCons tb tNil)))) σ H (.nd f x y) := by
  subst hs
  intro H1 c Q q
  refine ha H1 c _ fun v H2 c2 kv => hb H2 (c.trans c2) _ fun u H3 c3 ku => ⟨by show 3 ≤ sizeLine; decide, fun t ht => ?_⟩
  have c4 : Ch No H3 (upd H3 t (.tup [.str (fstr f), v, u])) := Ch.new ht
  exact q _ _ ((c2.trans c3).trans c4) (.nd upd_same ((kv.mono c3).mono c4) (ku.mono c4))
theorem ke_ix {K : PySem.W.Frag} {σ : L2.St} {H : Hp} {te ti : TE} {f : Fm} {x y : Kd} (j : Nat) (hj : j = 1 ∨ j = 2) (h : KE te σ H (.nd f x y)) (hi : ∀ H Q, Q (V.int (j : Int)) H → ti σ H Q) : KE (tOp (rIxT K) te ti) σ H (if j = 1 then x else y) := by
  intro H1 c Q q
  refine h H1 c _ fun v H2 c2 kv => hi _ _ ?_
  obtain ⟨a, u, w, rfl, h1, kx, ky⟩ := kv.nd_inv
  rcases hj with rfl | rfl
  · exact ⟨a, _, _, u, rfl, rfl, SqT.of h1, atI_nat (j := 1) rfl, q u H2 c2 kx⟩
  · exact ⟨a, _, _, w, rfl, rfl, SqT.of h1, atI_nat (j := 2) rfl, q w H2 c2 ky⟩
theorem ke_ix1 {K : PySem.W.Frag} {σ : L2.St} {H : Hp} {te : TE} {f : Fm} {x y : Kd} (h : KE te σ H (.nd f x y)) : KE (tOp (rIxT K) te (tC (.int 1))) σ H x := ke_ix 1 (.inl rfl) h fun _ _ q => q
theorem ke_ix2 {K : PySem.W.Frag} {σ : L2.St} {H : Hp} {te : TE} {f : Fm} {x y : Kd} (h : KE te σ H (.nd f x y)) : KE (tOp (rIxT K) te (tC (.int 2))) σ H y := ke_ix 2 (.inr rfl) h fun _ _ q => q
theorem kes_nil {σ : L2.St} {H : Hp} : KEs tNil σ H [] := fun H1 c Q q => q [] H1 (Ch.refl _ _) .nil
theorem kes_cons {σ : L2.St} {H : Hp} {te : TE} {ta : TA} {k : Kd} {ks : List Kd} (h : KE te σ H k) (hs : KEs ta σ H ks) : KEs (tCons te ta) σ H (k :: ks) :=
  fun H1 c Q q => h H1 c _ fun v H2 c2 kv => hs H2 (c.trans c2) _ fun vs H3 c3 kvs => q _ _ (c2.trans c3) (.cons (kv.mono c3) kvs)
theorem kl_lst {σ : L2.St} {H : Hp} {ta : TA} {ks : List Kd} (h : KEs ta σ H ks) (hn : ks.length ≤ 1000) {Q : VK} (q : ∀ p H2, Ch No H H2 → H p = none → LK H2 p ks → Q (.ref p) H2) : tLst ta σ H Q := by
  refine h H (Ch.refl _ _) _ fun vs H2 c2 kvs => ⟨len_line (by rw [pr_len kvs]; exact hn), fun p hp => ?_⟩
  have c3 : Ch No H2 (upd H2 p (.lst vs)) := Ch.new hp
  exact q p _ (c2.trans c3) (c2.free id hp) ⟨vs, upd_same, kvs.mono c3⟩
theorem ke_run {σ : L2.St} {H : Hp} {te : TE} {k : Kd} (h : KE te σ H k) {Q : VK} (q : ∀ v H2, Ch No H H2 → KA H2 v k → Q v H2) : te σ H Q := h H (Ch.refl _ _) Q q
theorem ke_sub {σ : L2.St} {H H' : Hp} {te : TE} {k : Kd} (h : KE te σ H k) (c : Ch No H H') : KE te σ H' k := fun H1 c1 Q q => h H1 (c.trans c1) Q q
/-- a and b, both asked without a trace -/
theorem and_if {c1 c2 : Bool} {U X Rest : Prop} (hu : (if c2 = true then X else Rest) → U) (h : if (c1 && c2) = true then X else Rest) : if c1 = true then U else (if false = true then X else Rest) := by
  cases c1 with
  | false => simpa using h
  | true =>
    rw [if_pos rfl]
    exact hu (by simpa using h)
theorem hd_nd {k : Kd} {f : Fm} (h : V.str (hd k) = V.str (fstr f)) : ∃ x y, k = .nd f x y := by
  cases k with
  | pl c => exact absurd (V.str.inj h).symm (fstr_plain f)
  | nd g x y => exact ⟨x, y, by rw [fstr_inj (V.str.inj h)]⟩
section
variable {P : Program} {w : World} {K : PySem.W.Frag} {mg : Str → Option Value} {base : Heap} {fd : Nat → FuncData}
def spEven : Sp := fun vs H Q _ => ∃ (v : V) (k : Kd), vs = [v] ∧ KA H v k ∧ ∀ (v' : V) (k' : Kd) H', Ch No H H' → KA H' v' k' → k'.size = k.size → (∀ p, k.all p → k'.all p) → Q v' H'
theorem ok_even (T : TX w K mg fd) : FnOk P w K mg base CX0 1 (He.ga K "_law_even") (fd 42) P_l_even spEven := by
  refine T.d_l_even.ok sc_l_even (fun vs H Q E h => ?_) (fun cdv A outer s H vs Q E hr h => ?_)
  · obtain ⟨v, k, rfl, _⟩ := h
    rfl
  obtain ⟨v, k, rfl, ka, q⟩ := h
  refine ⟨_, pss_cons (ps_if (PW.pt (pw_or (pt_cmpR op_eq (pe_ix ix_tup (pv 0) pe_int (fun _ _ => rfl)) pe_str (nomark _)) (pw_or1 (PW.pt (pw_and (pt_cmpR op_eq (pe_ix ix_tup (pe_ix ix_tup (pv 0) pe_int (fun _ _ => rfl)) pe_int (fun _ _ => rfl)) pe_str (nomark _))
      (pw_and1 (pt_cmpR op_eq (pe_ix ix_tup (pe_ix ix_tup (pv 0) pe_int (fun _ _ => rfl)) pe_int (fun _ _ => rfl)) pe_str (nomark _)))))))) (pss_one (ps_ret (pv 0))) pss_nil)
    (pss_cons (ps_asg (pv 0) (pg_tup rfl (pgs_cons (pg_name (i := 1) sc_l_even.nd rfl (Or.inl rfl)) (pgs_cons (pg_name (i := 2) sc_l_even.nd rfl (Or.inl rfl)) (pgs_cons (pg_name (i := 3) sc_l_even.nd rfl (Or.inl rfl)) pgs_nil)))))
    (pss_cons (ps_if (PW.pt (pw_and (pt_cmpR op_eq (pv 1) pe_str (nomark _)) (pw_and1 (pt_cmpR op_eq (pe_ix ix_tup (pv 2) pe_int (fun _ _ => rfl)) pe_str (nomark _)))))
      (pss_one (ps_ret (pe_tup (pa_cons pe_str (pa_cons (pe_ix ix_tup (pv 2) pe_int (fun _ _ => rfl)) (pa_cons (pe_tup (pa_cons pe_str (pa_cons (pv 3) (pa_cons (pe_ix ix_tup (pv 2) pe_int (fun _ _ => rfl)) pa_nil)))) pa_nil)))))) pss_nil)
    (pss_cons (ps_if (PW.pt (pw_and (pt_cmpR op_eq (pv 1) pe_str (nomark _)) (pw_and1 (pt_cmpR op_eq (pe_ix ix_tup (pv 2) pe_int (fun _ _ => rfl)) pe_str (nomark _)))))
      (pss_one (ps_ret (pe_tup (pa_cons pe_str (pa_cons (pe_ix ix_tup (pv 2) pe_int (fun _ _ => rfl)) (pa_cons (pe_tup (pa_cons pe_str (pa_cons (pe_ix ix_tup (pv 2) pe_int (fun _ _ => rfl)) (pa_cons (pv 3) pa_nil)))) pa_nil)))))) pss_nil)
    (pss_cons (ps_if (PW.pt (pw_and (pt_cmpR op_eq (pv 1) pe_str (nomark _)) (pw_and1 (pt_cmpR op_eq (pe_ix ix_tup (pv 3) pe_int (fun _ _ => rfl)) pe_str (nomark _)))))
      (pss_one (ps_ret (pe_tup (pa_cons pe_str (pa_cons (pe_tup (pa_cons pe_str (pa_cons (pv 2) (pa_cons (pe_ix ix_tup (pv 3) pe_int (fun _ _ => rfl)) pa_nil)))) (pa_cons (pe_ix ix_tup (pv 3) pe_int (fun _ _ => rfl)) pa_nil)))))) pss_nil)
    (pss_cons (ps_if (PW.pt (pw_and (pt_cmpR op_eq (pv 1) pe_str (nomark _)) (pw_and1 (pt_cmpR op_eq (pe_ix ix_tup (pv 3) pe_int (fun _ _ => rfl)) pe_str (nomark _)))))
      (pss_one (ps_ret (pe_tup (pa_cons pe_str (pa_cons (pe_tup (pa_cons pe_str (pa_cons (pe_ix ix_tup (pv 3) pe_int (fun _ _ => rfl)) (pa_cons (pv 2) pa_nil)))) (pa_cons (pe_ix ix_tup (pv 3) pe_int (fun _ _ => rfl)) pa_nil)))))) pss_nil)
    (pss_cons (ps_if (PW.pt (pw_and (pt_cmpR op_eq (pv 1) pe_str (nomark _)) (pw_and1 (pt_cmpR op_eq (pe_ix ix_tup (pv 2) pe_int (fun _ _ => rfl)) pe_str (nomark _)))))
      (pss_one (ps_ret (pe_tup (pa_cons pe_str (pa_cons (pe_ix ix_tup (pv 2) pe_int (fun _ _ => rfl)) (pa_cons (pe_tup (pa_cons pe_str (pa_cons (pe_ix ix_tup (pv 2) pe_int (fun _ _ => rfl)) (pa_cons (pv 3) pa_nil)))) pa_nil)))))) pss_nil)
    (pss_cons (ps_if (PW.pt (pw_and (pt_cmpR op_eq (pv 1) pe_str (nomark _)) (pw_and1 (pt_cmpR op_eq (pe_ix ix_tup (pv 2) pe_int (fun _ _ => rfl)) pe_str (nomark _)))))
      (pss_one (ps_ret (pe_tup (pa_cons pe_str (pa_cons (pe_ix ix_tup (pv 2) pe_int (fun _ _ => rfl)) (pa_cons (pe_tup (pa_cons pe_str (pa_cons (pe_ix ix_tup (pv 2) pe_int (fun _ _ => rfl)) (pa_cons (pv 3) pa_nil)))) pa_nil)))))) pss_nil)
    (pss_one (ps_ret (pv 0)))))))))), ?_⟩
  cases k with
  | pl c =>
    obtain ⟨a, rfl, h1, lc⟩ := ka.pl_inv
    exact ⟨_, rfl, a, _, _, _, rfl, rfl, SqT.of h1, atI_nat (j := 0) rfl, rfl, _, rfl, iteT (iteT ⟨_, rfl, q _ _ _ (Ch.refl _ _) ka rfl fun _ h => h⟩)⟩
  | nd f x y =>
    obtain ⟨a, u, t, rfl, h1, kx, ky⟩ := ka.nd_inv
    obtain ⟨ax, ux, rx, eux, hx⟩ := kx.head
    obtain ⟨ay, uy, ry, euy, hy⟩ := ky.head
    subst eux euy
    refine ⟨_, rfl, a, _, _, _, rfl, rfl, SqT.of h1, atI_nat (j := 0) rfl, rfl, _, rfl, ?_⟩
    rw [fm_plain]
    refine iteF ?_
    refine ⟨_, rfl, a, _, _, _, rfl, rfl, SqT.of h1, atI_nat (j := 1) rfl, ax, _, _, _, rfl, rfl, SqT.of hx, atI_nat (j := 0) rfl, rfl, _, rfl, ?_⟩
    refine and_if (fun z => ⟨_, rfl, a, _, _, _, rfl, rfl, SqT.of h1, atI_nat (j := 2) rfl, ay, _, _, _, rfl, rfl, SqT.of hy, atI_nat (j := 0) rfl, rfl, _, rfl, z⟩) ?_
    refine ite2 (fun _ => ⟨_, rfl, q _ _ _ (Ch.refl _ _) ka rfl fun _ h => h⟩) (fun _ => ?_)
    refine ⟨_, rfl, a, _, rfl, SqT.of h1, rfl, _, _, rfl, _, _, rfl, _, _, rfl, rfl, ?_⟩
    have v2 : KE (tVar 2) [some (.ref a), some (.str (fstr f)), some (.ref ax), some (.ref ay)] H x := ke_var rfl kx
    have v3 : KE (tVar 3) [some (.ref a), some (.str (fstr f)), some (.ref ax), some (.ref ay)] H y := ke_var rfl ky
    have fin : ∀ {g : Fm} {c1 c2 : V}, (decide (V.str (fstr f) = V.str (fstr g)) && decide (c1 = c2)) = true → f = g ∧ c1 = c2 := fun h => by
      rw [Bool.and_eq_true] at h
      exact ⟨fstr_inj (V.str.inj (of_decide_eq_true h.1)), of_decide_eq_true h.2⟩
    refine ⟨_, rfl, rfl, _, rfl, and_if (fun z => ⟨_, rfl, ax, _, _, _, rfl, rfl, SqT.of hx, atI_nat (j := 0) rfl, rfl, _, rfl, z⟩) (ite2 (fun c => ?_) (fun _ => ?_))⟩
    · obtain ⟨rfl, e⟩ := fin (g := .b) c
      obtain ⟨x1, x2, rfl⟩ := hd_nd (f := .b) e
      exact ke_run (ke_nd .b (ke_ix1 v2) (ke_nd .w v3 (ke_ix2 v2))) fun v' H' c' k' => q v' _ H' c' k' (by simp only [Kd.size]; omega) fun p h => ⟨h.1.1, h.2, h.1.2⟩
    refine ⟨_, rfl, rfl, _, rfl, and_if (fun z => ⟨_, rfl, ax, _, _, _, rfl, rfl, SqT.of hx, atI_nat (j := 0) rfl, rfl, _, rfl, z⟩) (ite2 (fun c => ?_) (fun _ => ?_))⟩
    · obtain ⟨rfl, e⟩ := fin (g := .b) c
      obtain ⟨x1, x2, rfl⟩ := hd_nd (f := .a) e
      exact ke_run (ke_nd .a (ke_ix1 v2) (ke_nd .b (ke_ix2 v2) v3)) fun v' H' c' k' => q v' _ H' c' k' (by simp only [Kd.size]; omega) fun p h => ⟨h.1.1, h.1.2, h.2⟩
    refine ⟨_, rfl, rfl, _, rfl, and_if (fun z => ⟨_, rfl, ay, _, _, _, rfl, rfl, SqT.of hy, atI_nat (j := 0) rfl, rfl, _, rfl, z⟩) (ite2 (fun c => ?_) (fun _ => ?_))⟩
    · obtain ⟨rfl, e⟩ := fin (g := .b) c
      obtain ⟨x1, x2, rfl⟩ := hd_nd (f := .w) e
      exact ke_run (ke_nd .b (ke_nd .b v2 (ke_ix2 v3)) (ke_ix1 v3)) fun v' H' c' k' => q v' _ H' c' k' (by simp only [Kd.size]; omega) fun p h => ⟨⟨h.1, h.2.2⟩, h.2.1⟩
    refine ⟨_, rfl, rfl, _, rfl, and_if (fun z => ⟨_, rfl, ay, _, _, _, rfl, rfl, SqT.of hy, atI_nat (j := 0) rfl, rfl, _, rfl, z⟩) (ite2 (fun c => ?_) (fun _ => ?_))⟩
    · obtain ⟨rfl, e⟩ := fin (g := .a) c
      obtain ⟨x1, x2, rfl⟩ := hd_nd (f := .a) e
      exact ke_run (ke_nd .a (ke_nd .w (ke_ix1 v3) v2) (ke_ix2 v3)) fun v' H' c' k' => q v' _ H' c' k' (by simp only [Kd.size]; omega) fun p h => ⟨⟨h.2.1, h.1⟩, h.2.2⟩
    refine ⟨_, rfl, rfl, _, rfl, and_if (fun z => ⟨_, rfl, ax, _, _, _, rfl, rfl, SqT.of hx, atI_nat (j := 0) rfl, rfl, _, rfl, z⟩) (ite2 (fun c => ?_) (fun _ => ?_))⟩
    · obtain ⟨rfl, e⟩ := fin (g := .a) c
      obtain ⟨x1, x2, rfl⟩ := hd_nd (f := .w) e
      exact ke_run (ke_nd .a (ke_ix2 v2) (ke_nd .a (ke_ix1 v2) v3)) fun v' H' c' k' => q v' _ H' c' k' (by simp only [Kd.size]; omega) fun p h => ⟨h.1.2, h.1.1, h.2⟩
    refine ⟨_, rfl, rfl, _, rfl, and_if (fun z => ⟨_, rfl, ax, _, _, _, rfl, rfl, SqT.of hx, atI_nat (j := 0) rfl, rfl, _, rfl, z⟩) (ite2 (fun c => ?_) (fun _ => ?_))⟩
    · obtain ⟨rfl, e⟩ := fin (g := .w) c
      obtain ⟨x1, x2, rfl⟩ := hd_nd (f := .w) e
      exact ke_run (ke_nd .w (ke_ix1 v2) (ke_nd .w (ke_ix2 v2) v3)) fun v' H' c' k' => q v' _ H' c' k' (by simp only [Kd.size]; omega) fun p h => ⟨h.1.1, h.1.2, h.2⟩
    exact ⟨_, rfl, q _ _ _ (Ch.refl _ _) ka rfl fun _ h => h⟩
end
end WW
/-! pool, three. -/
namespace WW
open PySem PySem.Spec PyProof.Rows L2
/-- a drawn kind of at most three letters out of z -/
def gk (z : Str) (k : Kd) : Prop := k.size ≤ 3 ∧ k.all (· ∈ z.cps.toList)
structure Rw (z : Str) (p l : Addr) (H : Hp) (n : Nat) : Prop where
  ex : ∃ rs : List Addr, H l = some (.lst (rs.map V.ref)) ∧ rs.length = n ∧ ∀ j r, rs[j]? = some r → r ≠ l ∧ r ≠ p ∧ ∃ ks, LK H r ks ∧ ks.length = (if j % 2 = 0 then 2 else 4) ∧ ∀ k ∈ ks, gk z k
theorem Rw.mono {z : Str} {p l : Addr} {H H' : Hp} {n : Nat} (h : Rw z p l H n) (c : Ch (· = p) H H') (hl : l ≠ p) : Rw z p l H' n := by
  obtain ⟨rs, h1, h2, h3⟩ := h.ex
  exact ⟨rs, c.1 _ _ h1 hl, h2, fun j r e => let ⟨a, b, ks, d, f⟩ := h3 j r e; ⟨a, b, ks, d.mono c b, f⟩⟩
theorem LK.keep {H H' : Hp} {l : Addr} {ks : List Kd} (h : LK H l ks) (h1 : ∀ o, H l = some o → H' l = some o) (ht : ∀ b xs, H b = some (.tup xs) → H' b = some (.tup xs)) : LK H' l ks :=
  let ⟨vs, a, b⟩ := h
  ⟨vs, h1 _ a, Paired.mapP b fun _ _ z => z.keep ht⟩
theorem Rw.push {z : Str} {p l r : Addr} {H : Hp} {n : Nat} {ks : List Kd} {rs : List Addr} (e : H l = some (.lst (rs.map V.ref))) (hn : rs.length = n)
    (h : ∀ j r, rs[j]? = some r → r ≠ l ∧ r ≠ p ∧ ∃ ks, LK H r ks ∧ ks.length = (if j % 2 = 0 then 2 else 4) ∧ ∀ k ∈ ks, gk z k) (hr : r ≠ l) (hrp : r ≠ p) (hk : LK H r ks) (hl : ks.length = (if n % 2 = 0 then 2 else 4)) (hg : ∀ k ∈ ks, gk z k) :
    Rw z p l (upd H l (.lst (rs.map V.ref ++ [.ref r]))) (n + 1) := by
  have keep : ∀ b xs, H b = some (.tup xs) → (upd H l (.lst (rs.map V.ref ++ [.ref r]))) b = some (.tup xs) := fun b xs q => by
    rw [upd_ne (fun y => by rw [y, e] at q; cases q)]
    exact q
  refine ⟨rs ++ [r], by rw [upd_same]; simp, by simp [hn], fun j r' e' => ?_⟩
  by_cases hj : j < rs.length
  · rw [List.getElem?_append_left hj] at e'
    obtain ⟨a, b, js, d, f⟩ := h j r' e'
    exact ⟨a, b, js, d.keep (fun o q => by rw [upd_ne a]; exact q) keep, f⟩
  · have hj2 : j = rs.length := by
      have := (List.getElem?_eq_some_iff.mp e').1
      simp at this
      omega
    subst hj2
    simp at e'
    subst e'
    rw [hn]
    exact ⟨hr, hrp, ks, hk.keep (fun o q => by rw [upd_ne hr]; exact q) keep, hl, hg⟩
theorem lk_at {H : Hp} {l : Addr} {ks : List Kd} (h : LK H l ks) {i : Nat} (hi : i < ks.length) : ∃ xs v k, H l = some (.lst xs) ∧ atI xs (i : Int) = some v ∧ KA H v k ∧ k ∈ ks := by
  obtain ⟨vs, h1, h2⟩ := h
  have hl := pr_len h2
  have e := List.getElem?_eq_getElem (l := vs) (i := i) (by omega)
  obtain ⟨k, e1, e2⟩ := pr_at h2 e
  exact ⟨vs, _, k, h1, atI_nat e, e2, List.mem_of_getElem? e1⟩
/-- te picks a kind out of ks by a sip -/
def Pk (te : TE) (σ : L2.St) (p l : Addr) (ks : List Kd) : Prop := ∀ H n, SpI H p n → n + 1 ≤ 1000000 → LK H l ks → ∀ Q : VK, (∀ v k H', Ch (· = p) H H' → SpI H' p (n + 1) → KA H' v k → k ∈ ks → Q v H') → te σ H Q
theorem pk3 {ta tb tc : TE} {σ : L2.St} {p l : Addr} {ks : List Kd} (a : Pk ta σ p l ks) (b : Pk tb σ p l ks) (c : Pk tc σ p l ks) (hl : l ≠ p) {H : Hp} {n : Nat} (hs : SpI H p n) (hn : n + 3 ≤ 1000000) (hk : LK H l ks) {Q : VK}
    (q : ∀ t x y w H', H t = none → Ch (· = p) H H' → SpI H' p (n + 3) → LK H' t [x, y, w] → x ∈ ks → y ∈ ks → w ∈ ks → Q (.ref t) H') : tLst (tCons ta (tCons tb (tCons tc tNil))) σ H Q := by
  refine a H n hs (by omega) hk _ fun v1 k1 H1 c1 s1 a1 m1 => b H1 (n + 1) s1 (by omega) (hk.mono c1 hl) _ fun v2 k2 H2 c2 s2 a2 m2 => c H2 (n + 1 + 1) s2 (by omega) ((hk.mono c1 hl).mono c2 hl) _ fun v3 k3 H3 c3 s3 a3 m3 => ?_
  refine ⟨by show 3 ≤ sizeLine; decide, fun t ht => ?_⟩
  have c4 : Ch (· = p) H3 (upd H3 t (.lst [v1, v2, v3])) := Ch.new ht
  have tp : t ≠ p := by
    obtain ⟨_, _, _, _, e, _⟩ := s3
    exact (ne_of_none e ht).symm
  have cc := (c1.trans c2).trans c3
  refine q t k1 k2 k3 _ (cc.free tp ht) (cc.trans c4) (s3.mono (S := No) (Ch.new ht) id) ⟨_, upd_same, .cons ((((a1.mono c2).mono c3)).mono c4) (.cons ((a2.mono c3).mono c4) (.cons (a3.mono c4) .nil))⟩ m1 m2 m3
section
variable {P : Program} {w : World} {K : PySem.W.Frag} {mg : Str → Option Value} {base : Heap} {fd : Nat → FuncData}
theorem pk_sip {tl ti : TE} {σ : L2.St} {p l : Addr} {ks : List Kd} (many off : Nat) (hl : l ≠ p) (h0 : 0 < many) (h9 : many < 1000) (hb : off + many ≤ ks.length) (htl : ∀ H (Q : VK), Q (.ref l) H → tl σ H Q)
    (hti : ∀ H (Q : VK), (∀ n, SpI H p n → n < 1000000 → (∀ (r : Nat) (H' : Hp), r < many → Ch (· = p) H H' → SpI H' p (n + 1) → Q (.int ((off + r : Nat) : Int)) H') → ti σ H Q)) : Pk (tOp (rIxL K) tl ti) σ p l ks := by
  intro H n hs hn hk Q q
  refine htl _ _ (hti H _ n hs (by omega) fun r H' hr c s => ?_)
  have hk' := hk.mono c hl
  obtain ⟨xs, v, k, e1, e2, e3, e4⟩ := lk_at hk' (i := off + r) (by omega)
  exact ⟨l, xs, _, v, rfl, rfl, SqL.of e1, e2, q v k H' c s e3 e4⟩
theorem sip_call {σ : L2.St} {p : Addr} {many i : Nat} (e : σ[i]? = some (some (.ref p))) (h0 : 0 < many) (h9 : many < 1000000) : ∀ H (Q : VK), (∀ n, SpI H p n → n < 1000000 → (∀ (r : Nat) (H' : Hp), r < many → Ch (· = p) H H' → SpI H' p (n + 1) → Q (.int (r : Int)) H') → tCall spSip [] L2.E0 (tCons (tVar i) (tCons (tC (.int (many : Int))) tNil)) σ H Q) :=
  fun H Q n hs hn q => ⟨_, e, p, n, many, rfl, hs, hn, h0, h9, q⟩
def spThree : Sp := fun vs H Q _ => ∃ (p l : Addr) (b : Bool) (n : Nat) (ks : List Kd) (z : Str), vs = [.ref p, .ref l, .bl b] ∧ SpI H p n ∧ n + 4 ≤ 1000000 ∧ LK H l ks ∧ l ≠ p ∧ ks.length = 7 ∧ (∀ k ∈ ks, gk z k) ∧
  ∀ t x y u H', H t = none → Ch (· = p) H H' → SpI H' p (n + 4) → LK H' t [x, y, u] → gk z x → gk z y → gk z u → Q (.ref t) H'
theorem ok_three (T : TX w K mg fd) : FnOk P w K mg base CX0 2 (He.ga K "_law_three") (fd 43) P_l_three spThree := by
  refine T.d_l_three.ok sc_l_three (fun vs H Q E h => ?_) (fun cdv A outer s H vs Q E hr h => ?_)
  · obtain ⟨p, l, b, n, ks, z, rfl, _⟩ := h
    rfl
  obtain ⟨p, l, b, n, ks, z, rfl, hs, hn, hk, hl, h7, hg, q⟩ := h
  have G := ok_sip (P := P) (base := base) T
  refine ⟨_, pss_cons (ps_set (i := 3) sc_l_three.nd rfl (Or.inl rfl) (pe_call G hr rfl T.g_l_sip T.d_l_sip.kp T.d_l_sip.b .nil pass0 (pa_cons (pv 0) (pa_cons pe_int pa_nil))))
    (pss_cons (ps_if (pt_cmpR op_eq (pv 3) pe_int (nomark _)) (pss_one (ps_ret (pe_lst (pa_cons (pe_ix ix_list (pv 1) (pe_call G hr rfl T.g_l_sip T.d_l_sip.kp T.d_l_sip.b .nil pass0 (pa_cons (pv 0) (pa_cons pe_int pa_nil))) (fun _ _ => rfl)) (pa_cons (pe_ix ix_list (pv 1) (pe_call G hr rfl T.g_l_sip T.d_l_sip.kp T.d_l_sip.b .nil pass0 (pa_cons (pv 0) (pa_cons pe_int pa_nil))) (fun _ _ => rfl)) (pa_cons (pe_ix ix_list (pv 1) (pe_call G hr rfl T.g_l_sip T.d_l_sip.kp T.d_l_sip.b .nil pass0 (pa_cons (pv 0) (pa_cons pe_int pa_nil))) (fun _ _ => rfl)) pa_nil)))))) pss_nil)
    (pss_cons (ps_if (pt_cmpR op_eq (pv 3) pe_int (nomark _)) (pss_one (ps_ret (pe_lst (pa_cons (pe_ix ix_list (pv 1) (pe_op op_add pe_int (pe_call G hr rfl T.g_l_sip T.d_l_sip.kp T.d_l_sip.b .nil pass0 (pa_cons (pv 0) (pa_cons pe_int pa_nil)))) (fun _ _ => rfl)) (pa_cons (pe_ix ix_list (pv 1) (pe_op op_add pe_int (pe_call G hr rfl T.g_l_sip T.d_l_sip.kp T.d_l_sip.b .nil pass0 (pa_cons (pv 0) (pa_cons pe_int pa_nil)))) (fun _ _ => rfl)) (pa_cons (pe_ix ix_list (pv 1) (pe_op op_add pe_int (pe_call G hr rfl T.g_l_sip T.d_l_sip.kp T.d_l_sip.b .nil pass0 (pa_cons (pv 0) (pa_cons pe_int pa_nil)))) (fun _ _ => rfl)) pa_nil)))))) pss_nil)
    (pss_cons (ps_if (pt_val (pv 2)) (pss_one (ps_ret (pe_lst (pa_cons (pe_ix ix_list (pv 1) (pe_op op_add pe_int (pe_call G hr rfl T.g_l_sip T.d_l_sip.kp T.d_l_sip.b .nil pass0 (pa_cons (pv 0) (pa_cons pe_int pa_nil)))) (fun _ _ => rfl)) (pa_cons (pe_ix ix_list (pv 1) (pe_op op_add pe_int (pe_call G hr rfl T.g_l_sip T.d_l_sip.kp T.d_l_sip.b .nil pass0 (pa_cons (pv 0) (pa_cons pe_int pa_nil)))) (fun _ _ => rfl)) (pa_cons (pe_ix ix_list (pv 1) (pe_call G hr rfl T.g_l_sip T.d_l_sip.kp T.d_l_sip.b .nil pass0 (pa_cons (pv 0) (pa_cons pe_int pa_nil))) (fun _ _ => rfl)) pa_nil)))))) pss_nil)
    (pss_one (ps_ret (pe_lst (pa_cons (pe_ix ix_list (pv 1) (pe_call G hr rfl T.g_l_sip T.d_l_sip.kp T.d_l_sip.b .nil pass0 (pa_cons (pv 0) (pa_cons pe_int pa_nil))) (fun _ _ => rfl)) (pa_cons (pe_ix ix_list (pv 1) (pe_call G hr rfl T.g_l_sip T.d_l_sip.kp T.d_l_sip.b .nil pass0 (pa_cons (pv 0) (pa_cons pe_int pa_nil))) (fun _ _ => rfl)) (pa_cons (pe_ix ix_list (pv 1) (pe_op op_add pe_int (pe_call G hr rfl T.g_l_sip T.d_l_sip.kp T.d_l_sip.b .nil pass0 (pa_cons (pv 0) (pa_cons pe_int pa_nil)))) (fun _ _ => rfl)) pa_nil))))))))), ?_⟩
  refine ⟨_, rfl, p, n, 4, rfl, hs, by omega, by decide, by decide, fun r H1 hr1 c1 s1 => ?_⟩
  have hk1 := hk.mono c1 hl
  have v0 : ([some (.ref p), some (.ref l), some (.bl b), some (.int (r : Int))] : L2.St)[0]? = some (some (.ref p)) := rfl
  have vl : ∀ (H : Hp) (Q : VK), Q (.ref l) H → tVar 1 [some (.ref p), some (.ref l), some (.bl b), some (.int (r : Int))] H Q := fun _ _ q => ⟨_, rfl, q⟩
  have fin : ∀ t x y u H', H1 t = none → Ch (· = p) H1 H' → SpI H' p (n + 1 + 3) → LK H' t [x, y, u] → x ∈ ks → y ∈ ks → u ∈ ks → Q (.ref t) H' := fun t x y u H' ht c s lk mx my mu => by
    have tp : t ≠ p := by
      obtain ⟨_, _, _, _, e, _⟩ := s1
      exact (ne_of_none e ht).symm
    exact q t x y u H' (c1.free tp ht) (c1.trans c) (s.le (by omega) (by omega)) lk (hg x mx) (hg y my) (hg u mu)
  have pick : ∀ (many off : Nat), 0 < many → many < 1000 → off + many ≤ 7 → Pk (tOp (rIxL K) (tVar 1) (tOp (rI0 fun i j => .int (i + j)) (tC (.int (off : Int))) (tCall spSip [] L2.E0 (tCons (tVar 0) (tCons (tC (.int (many : Int))) tNil))))) [some (.ref p), some (.ref l), some (.bl b), some (.int (r : Int))] p l ks := fun many off h0 h9 hb =>
    pk_sip many off hl h0 h9 (by omega) vl fun H Q n hs hn q => sip_call v0 h0 (by omega) H _ n hs hn fun r H' hr c s => ⟨_, _, rfl, rfl, q r H' hr c s⟩
  have pick0 : ∀ (many : Nat), 0 < many → many < 1000 → many ≤ 7 → Pk (tOp (rIxL K) (tVar 1) (tCall spSip [] L2.E0 (tCons (tVar 0) (tCons (tC (.int (many : Int))) tNil)))) [some (.ref p), some (.ref l), some (.bl b), some (.int (r : Int))] p l ks := fun many h0 h9 hb =>
    pk_sip many 0 hl h0 h9 (by omega) vl fun H Q n hs hn q => sip_call v0 h0 (by omega) H _ n hs hn fun r H' hr c s => by
      have := q r H' hr c s
      rw [Nat.zero_add] at this
      exact this
  refine ⟨_, rfl, rfl, _, rfl, ite2 (fun _ => ?_) (fun _ => ?_)⟩
  · exact pk3 (pick0 7 (by decide) (by decide) (by decide)) (pick0 7 (by decide) (by decide) (by decide)) (pick0 7 (by decide) (by decide) (by decide)) hl s1 (by omega) hk1 fin
  refine ⟨_, rfl, rfl, _, rfl, ite2 (fun _ => ?_) (fun _ => ?_)⟩
  · exact pk3 (pick 2 5 (by decide) (by decide) (by decide)) (pick 2 5 (by decide) (by decide) (by decide)) (pick 2 5 (by decide) (by decide) (by decide)) hl s1 (by omega) hk1 fin
  refine ⟨_, rfl, b, rfl, ite2 (fun _ => ?_) (fun _ => ?_)⟩
  · exact pk3 (pick 3 2 (by decide) (by decide) (by decide)) (pick 3 2 (by decide) (by decide) (by decide)) (pick0 3 (by decide) (by decide) (by decide)) hl s1 (by omega) hk1 fin
  · exact pk3 (pick0 3 (by decide) (by decide) (by decide)) (pick0 3 (by decide) (by decide) (by decide)) (pick 3 2 (by decide) (by decide) (by decide)) hl s1 (by omega) hk1 fin
end
end WW
/-! pool. -/
namespace WW
open PySem PySem.Spec PyProof.Rows L2
section
variable {P : Program} {w : World} {K : PySem.W.Frag} {mg : Str → Option Value} {base : Heap} {fd : Nat → FuncData}
theorem Rw.pick {z : Str} {p l : Addr} {H : Hp} {n j m : Nat} (h : Rw z p l H n) (hj : j < n) (hm : (if j % 2 = 0 then 2 else 4) = m) : ∃ xs r ks, H l = some (.lst xs) ∧ atI xs (j : Int) = some (.ref r) ∧ r ≠ p ∧ LK H r ks ∧ ks.length = m ∧ ∀ k ∈ ks, gk z k := by
  obtain ⟨rs, h1, h2, h3⟩ := h.ex
  have e := List.getElem?_eq_getElem (l := rs) (i := j) (by omega)
  obtain ⟨a, b, ks, d, f, g⟩ := h3 j _ e
  refine ⟨_, rs[j], ks, h1, atI_nat (by rw [List.getElem?_map, e]; rfl), b, d, by rw [f, hm], g⟩
theorem pk_row {σ : L2.St} {p l : Addr} {z : Str} (e0 : σ[0]? = some (some (.ref p))) (e3 : σ[3]? = some (some (.ref l))) (lp : l ≠ p) (j m : Nat) (hj : j < 4) (hm : (if j % 2 = 0 then 2 else 4) = m) (h0 : 0 < m) (h9 : m < 1000) {H : Hp} {n : Nat} (s : SpI H p n) (hn : n < 1000000) (r : Rw z p l H 4) {Q : VK}
    (q : ∀ v k H', Ch (· = p) H H' → SpI H' p (n + 1) → KA H' v k → gk z k → Q v H') : tOp (rIxL K) (tOp (rIxL K) (tVar 3) (tC (.int (j : Int)))) (tCall spSip [] L2.E0 (tCons (tVar 0) (tCons (tC (.int (m : Int))) tNil))) σ H Q := by
  obtain ⟨xs, r1, ks, h1, h2, h3, h4, h5, h6⟩ := r.pick hj hm
  refine ⟨_, e3, l, xs, _, _, rfl, rfl, SqL.of h1, h2, _, e0, p, n, m, rfl, s, hn, h0, by omega, fun i H' hi c s' => ?_⟩
  obtain ⟨ys, v, k, g1, g2, g3, g4⟩ := lk_at (h4.mono c h3) (i := i) (by omega)
  exact ⟨r1, ys, _, v, rfl, rfl, SqL.of g1, g2, q v k H' c s' g3 (h6 k g4)⟩
def spPool : Sp := fun vs H Q _ => ∃ (p : Addr) (n : Nat) (z : Str), vs = [.ref p, .str z] ∧ Nm z ∧ SpI H p n ∧ n + 20 ≤ 1000000 ∧
  ∀ (l : Addr) (ks : List Kd) H', H l = none → Ch (· = p) H H' → SpI H' p (n + 20) → LK H' l ks → ks.length = 7 → (∀ k ∈ ks, gk z k) → Q (.ref l) H'
theorem ok_pool (T : TX w K mg fd) : FnOk P w K mg base CX0 5 (He.ga K "_law_pool") (fd 41) P_l_pool spPool := by
  refine T.d_l_pool.ok sc_l_pool (fun vs H Q E h => ?_) (fun cdv A outer s H vs Q E hr h => ?_)
  · obtain ⟨p, n, z, rfl, _⟩ := h
    rfl
  obtain ⟨p, n, z, rfl, nm, hs, hn, q⟩ := h
  have G := ok_sip (P := P) (base := base) T
  have GD := ok_drawn (P := P) (base := base) T 3
  have GE := ok_even (P := P) (base := base) T
  have hr1 := hr.mono (show 1 ≤ 4 by decide)
  refine ⟨_, pss_cons (ps_set (i := 2) sc_l_pool.nd rfl (Or.inl rfl) (pe_call GD hr rfl T.g_l_drawn T.d_l_drawn.kp T.d_l_drawn.b .nil pass0 (pa_cons (pv 0) (pa_cons (pv 1) (pa_cons pe_int (pa_cons pe_int pa_nil))))))
    (pss_cons (ps_set (i := 3) sc_l_pool.nd rfl (Or.inl rfl) (pe_lst pa_nil))
    (pss_cons (ps_for PassesOwn.never rfl (pi_range1 (by rfl) T.z_range (pa_cons pe_int pa_nil)) (pg_name (i := 4) sc_l_pool.nd rfl (Or.inl rfl))
      (pss_cons (ps_set (i := 5) sc_l_pool.nd rfl (Or.inl rfl) (pe_call GD hr rfl T.g_l_drawn T.d_l_drawn.kp T.d_l_drawn.b .nil pass0 (pa_cons (pv 0) (pa_cons (pv 1) (pa_cons pe_int (pa_cons pe_int pa_nil))))))
      (pss_cons (ps_expr (pe_bm PySem.F.plainAttrs_list PySem.F.slot_list_append PySem.F.type_list_append mt_append (pv 3) (pa_cons (pe_lst
        (pa_cons (pe_tup (pa_cons pe_str (pa_cons (pe_tup (pa_cons pe_str (pa_cons (pv 2) (pa_cons (pv 5) pa_nil)))) (pa_cons (pv 5) pa_nil))))
        (pa_cons (pe_tup (pa_cons pe_str (pa_cons (pv 5) (pa_cons (pe_tup (pa_cons pe_str (pa_cons (pv 5) (pa_cons (pv 2) pa_nil)))) pa_nil)))) pa_nil))) pa_nil)))
      (pss_one (ps_expr (pe_bm PySem.F.plainAttrs_list PySem.F.slot_list_append PySem.F.type_list_append mt_append (pv 3) (pa_cons (pe_lst
        (pa_cons (pe_tup (pa_cons pe_str (pa_cons (pv 5) (pa_cons (pe_tup (pa_cons pe_str (pa_cons (pv 2) (pa_cons (pv 5) pa_nil)))) pa_nil))))
        (pa_cons (pe_tup (pa_cons pe_str (pa_cons (pe_tup (pa_cons pe_str (pa_cons (pv 5) (pa_cons (pv 2) pa_nil)))) (pa_cons (pv 5) pa_nil))))
        (pa_cons (pe_tup (pa_cons pe_str (pa_cons (pe_tup (pa_cons pe_str (pa_cons (pv 2) (pa_cons (pv 5) pa_nil)))) (pa_cons (pv 5) pa_nil))))
        (pa_cons (pe_tup (pa_cons pe_str (pa_cons (pv 5) (pa_cons (pe_tup (pa_cons pe_str (pa_cons (pv 5) (pa_cons (pv 2) pa_nil)))) pa_nil)))) pa_nil))))) pa_nil)))))))
    (pss_cons (ps_set (i := 6) sc_l_pool.nd rfl (Or.inl rfl) (pe_lst (pa_cons (pe_ix ix_list (pe_ix ix_list (pv 3) pe_int (fun _ _ => rfl)) (pe_call G hr1 rfl T.g_l_sip T.d_l_sip.kp T.d_l_sip.b .nil pass0 (pa_cons (pv 0) (pa_cons pe_int pa_nil))) (fun _ _ => rfl))
      (pa_cons (pe_ix ix_list (pe_ix ix_list (pv 3) pe_int (fun _ _ => rfl)) (pe_call G hr1 rfl T.g_l_sip T.d_l_sip.kp T.d_l_sip.b .nil pass0 (pa_cons (pv 0) (pa_cons pe_int pa_nil))) (fun _ _ => rfl)) (pa_cons (pv 2) pa_nil)))))
    (pss_cons (ps_set (i := 6) sc_l_pool.nd rfl (Or.inl rfl) (pe_op op_cat (pv 6) (pe_lst (pa_cons (pe_ix ix_list (pe_ix ix_list (pv 3) pe_int (fun _ _ => rfl)) (pe_call G hr1 rfl T.g_l_sip T.d_l_sip.kp T.d_l_sip.b .nil pass0 (pa_cons (pv 0) (pa_cons pe_int pa_nil))) (fun _ _ => rfl))
      (pa_cons (pe_ix ix_list (pe_ix ix_list (pv 3) pe_int (fun _ _ => rfl)) (pe_call G hr1 rfl T.g_l_sip T.d_l_sip.kp T.d_l_sip.b .nil pass0 (pa_cons (pv 0) (pa_cons pe_int pa_nil))) (fun _ _ => rfl)) pa_nil)))))
    (pss_cons (ps_set (i := 7) sc_l_pool.nd rfl (Or.inl rfl) (pe_call GD hr rfl T.g_l_drawn T.d_l_drawn.kp T.d_l_drawn.b .nil pass0 (pa_cons (pv 0) (pa_cons (pv 1) (pa_cons (pe_op op_add pe_int (pe_call G hr1 rfl T.g_l_sip T.d_l_sip.kp T.d_l_sip.b .nil pass0 (pa_cons (pv 0) (pa_cons pe_int pa_nil)))) (pa_cons pe_int pa_nil))))))
    (pss_one (ps_ret (pe_op op_cat (pv 6) (pe_lst (pa_cons (pv 7) (pa_cons (pe_call GE hr1 rfl T.g_l_even T.d_l_even.kp T.d_l_even.b .nil pass0 (pa_cons (pv 7) pa_nil)) pa_nil))))))))))), ?_⟩
  refine ⟨_, rfl, _, rfl, p, n, 1, z, rfl, nm, by decide, by decide, by decide, hs, by omega, fun vt kt H1 at1 zt lt c1 s1 => ?_⟩
  refine ⟨by show 0 ≤ sizeLine; decide, fun l hl => ?_⟩
  have lp : l ≠ p := by
    obtain ⟨_, _, _, _, e, _⟩ := s1
    exact (ne_of_none e hl).symm
  have c2 : Ch (· = p) H (upd H1 l (.lst [])) := c1.trans (Ch.new hl)
  have hl0 : H l = none := c1.free lp hl
  refine ⟨2, rfl, by decide, by decide, ?_⟩
  refine for_range (lo := 0) (n := (2 : Int).toNat) (fun i σ H' => ∃ x4 x5, σ = [some (.ref p), some (.str z), some vt, some (.ref l), x4, x5, none, none] ∧ KA H' vt kt ∧ Rw z p l H' (2 * i) ∧ Ch (fun a => a = p ∨ a = l) (upd H1 l (.lst [])) H' ∧ SpI H' p (n + 1 + i)) ?_ ?_ ?_
  · exact ⟨_, _, rfl, at1.mono (Ch.new (S := No) hl), ⟨[], upd_same, rfl, fun j r e => by cases e⟩, Ch.refl _ _, (s1.mono (S := No) (Ch.new hl) id).le (by omega) (by omega)⟩
  · rintro i σ H3 hi ⟨x4, x5, rfl, a3, r3, c3, s3⟩
    have hi2 : i < 2 := hi
    refine ⟨_, rfl, _, rfl, p, _, 1, z, rfl, nm, by decide, by decide, by decide, s3, by omega, fun vm km H4 a4 z4 l4 c4 s4 => ?_⟩
    have a3' := a3.mono c4
    have r4 := r3.mono c4 lp
    have gt1 : kt.size = 1 := zt
    -- the first row
    have v2 : ∀ H, KA H vt kt → KE (tVar 2) [some (.ref p), some (.str z), some vt, some (.ref l), some (V.int (0 + (i : Int))), some vm, none, none] H kt := fun H a => ke_var rfl a
    have v5 : ∀ H, KA H vm km → KE (tVar 5) [some (.ref p), some (.str z), some vt, some (.ref l), some (V.int (0 + (i : Int))), some vm, none, none] H km := fun H a => ke_var rfl a
    obtain ⟨rs, e1, e2, e3⟩ := r4.ex
    refine ⟨_, rfl, .inl ⟨rfl, _, SqL.of e1⟩, ?_⟩
    refine kl_lst (kes_cons (ke_nd .w (ke_nd .b (v2 _ a3') (v5 _ a4)) (v5 _ a4)) (kes_cons (ke_nd .w (v5 _ a4) (ke_nd .a (v5 _ a4) (v2 _ a3'))) kes_nil)) (by simp) fun r H5 c5 hr5 k5 => ?_
    have e15 := c5.get e1
    have rl : r ≠ l := (ne_of_none e1 hr5).symm
    have rp : r ≠ p := by
      obtain ⟨_, _, _, _, e, _⟩ := s4
      exact (ne_of_none e hr5).symm
    refine ⟨l, _, _, rfl, rfl, e15, by rw [List.length_map]; exact small1000 (by omega), ?_⟩
    have g1 : ∀ k ∈ [Kd.nd .w (.nd .b kt km) km, .nd .w km (.nd .a km kt)], gk z k := by
      intro k hk
      simp only [List.mem_cons, List.not_mem_nil, or_false] at hk
      rcases hk with rfl | rfl
      · exact ⟨by simp only [Kd.size]; omega, ⟨⟨lt, l4⟩, l4⟩⟩
      · exact ⟨by simp only [Kd.size]; omega, ⟨l4, ⟨l4, lt⟩⟩⟩
    have w1 := Rw.push (z := z) (p := p) (n := 2 * i) e15 e2 (fun j r e => let ⟨a, b, ks, d, f⟩ := e3 j r e; ⟨a, b, ks, d.mono c5 id, f⟩) rl rp k5 (by rw [if_pos (by omega)]; rfl) g1
    have ck : Ch (fun a => a = p ∨ a = l) H5 (upd H5 l (.lst (rs.map V.ref ++ [.ref r]))) := Ch.put (.inr rfl) e15 fun _ z => nomatch z
    obtain ⟨rs2, f1, f2, f3⟩ := w1.ex
    have s5 : SpI (upd H5 l (.lst (rs.map V.ref ++ [.ref r]))) p (n + 1 + i + (3 * 1 - 2)) := by
      have := s4.mono c5 id
      obtain ⟨y0, y1, y2, y3, y4, y5⟩ := this
      exact ⟨y0, y1, y2, y3, by rw [upd_ne lp.symm]; exact y4, y5⟩
    have a5 := (a3'.mono c5).mono ck
    have a6 := (a4.mono c5).mono ck
    refine ⟨_, rfl, .inl ⟨rfl, _, SqL.of f1⟩, ?_⟩
    refine kl_lst (kes_cons (ke_nd .b (v5 _ a6) (ke_nd .a (v2 _ a5) (v5 _ a6))) (kes_cons (ke_nd .a (ke_nd .b (v5 _ a6) (v2 _ a5)) (v5 _ a6)) (kes_cons (ke_nd .b (ke_nd .w (v2 _ a5) (v5 _ a6)) (v5 _ a6)) (kes_cons (ke_nd .a (v5 _ a6) (ke_nd .w (v5 _ a6) (v2 _ a5))) kes_nil)))) (by simp) fun r2 H6 c6 hr6 k6 => ?_
    have e16 := c6.get f1
    have rl2 : r2 ≠ l := (ne_of_none f1 hr6).symm
    have rp2 : r2 ≠ p := by
      obtain ⟨_, _, _, _, e, _⟩ := s5
      exact (ne_of_none e hr6).symm
    refine ⟨l, _, _, rfl, rfl, e16, by rw [List.length_map]; exact small1000 (by omega), ?_⟩
    have g2 : ∀ k ∈ [Kd.nd .b km (.nd .a kt km), .nd .a (.nd .b km kt) km, .nd .b (.nd .w kt km) km, .nd .a km (.nd .w km kt)], gk z k := by
      intro k hk
      simp only [List.mem_cons, List.not_mem_nil, or_false] at hk
      rcases hk with rfl | rfl | rfl | rfl
      · exact ⟨by simp only [Kd.size]; omega, ⟨l4, ⟨lt, l4⟩⟩⟩
      · exact ⟨by simp only [Kd.size]; omega, ⟨⟨l4, lt⟩, l4⟩⟩
      · exact ⟨by simp only [Kd.size]; omega, ⟨⟨lt, l4⟩, l4⟩⟩
      · exact ⟨by simp only [Kd.size]; omega, ⟨l4, ⟨l4, lt⟩⟩⟩
    have w2 := Rw.push (z := z) (p := p) (n := 2 * i + 1) e16 f2 (fun j r e => let ⟨a, b, ks, d, f⟩ := f3 j r e; ⟨a, b, ks, d.mono c6 id, f⟩) rl2 rp2 k6 (by rw [if_neg (by omega)]; rfl) g2
    have ck2 : Ch (fun a => a = p ∨ a = l) H6 (upd H6 l (.lst (rs2.map V.ref ++ [.ref r2]))) := Ch.put (.inr rfl) e16 fun _ z => nomatch z
    refine ⟨_, _, rfl, (a5.mono c6).mono ck2, w2, ((((c3.trans (c4.mono fun _ h => .inl h)).trans c5.any).trans ck).trans c6.any).trans ck2, ?_⟩
    have := s5.mono c6 id
    obtain ⟨y0, y1, y2, y3, y4, y5, y6, y7, y8, y9⟩ := this
    exact ⟨by omega, y1, y2, y3, by rw [upd_ne lp.symm]; exact y4, y5, y6, y7, y8, by omega⟩
  · rintro σ H3 ⟨x4, x5, rfl, a3, r3, c3, s3⟩
    have gt1 : kt.size = 1 := zt
    have g0 : gk z kt := ⟨by omega, lt⟩
    have r4 : Rw z p l H3 4 := r3
    have s3' : SpI H3 p (n + 3) := s3.le (by show n + 1 + 2 ≤ n + 3; omega) (by omega)
    refine pk_row rfl rfl lp 0 2 (by decide) rfl (by decide) (by decide) s3' (by omega) r4 fun v1 k1 H4 c4 s4 a4 g4 => ?_
    refine pk_row rfl rfl lp 2 2 (by decide) rfl (by decide) (by decide) s4 (by omega) (r4.mono c4 lp) fun v2 k2 H5 c5 s5 a5 g5 => ?_
    refine ⟨_, rfl, by show 3 ≤ sizeLine; decide, fun f hf => ?_⟩
    have fp : f ≠ p := by
      obtain ⟨_, _, _, _, e, _⟩ := s5
      exact (ne_of_none e hf).symm
    have c6 : Ch No H5 (upd H5 f (.lst [v1, v2, vt])) := Ch.new hf
    have k6 : LK (upd H5 f (.lst [v1, v2, vt])) f [k1, k2, kt] := ⟨_, upd_same, .cons ((a4.mono c5).mono c6) (.cons (a5.mono c6) (.cons (((a3.mono c4).mono c5).mono c6) .nil))⟩
    have s6 := s5.mono c6 id
    have r6 := ((r4.mono c4 lp).mono c5 lp).mono (c6.any (T := (· = p))) lp
    -- more of them
    refine ⟨_, rfl, ?_⟩
    refine pk_row rfl rfl lp 1 4 (by decide) rfl (by decide) (by decide) s6 (by omega) r6 fun v3 k3 H7 c7 s7 a7 g7 => ?_
    refine pk_row rfl rfl lp 3 4 (by decide) rfl (by decide) (by decide) s7 (by omega) (r6.mono c7 lp) fun v4 k4 H8 c8 s8 a8 g8 => ?_
    refine ⟨by show 2 ≤ sizeLine; decide, fun b hb => ?_⟩
    have c9 : Ch No H8 (upd H8 b (.lst [v3, v4])) := Ch.new hb
    obtain ⟨us, f1, f2⟩ := ((k6.mono c7 fp).mono c8 fp).mono c9 id
    have lu : us.length = 3 := pr_len f2
    refine ⟨f, b, us, _, rfl, rfl, f1, upd_same, by show us.length + 2 ≤ sizeLine; exact len_line (by omega), fun g hg => ?_⟩
    have c10 : Ch No (upd H8 b (.lst [v3, v4])) (upd (upd H8 b (.lst [v3, v4])) g (.lst (us ++ [v3, v4]))) := Ch.new hg
    have gp : g ≠ p := by
      obtain ⟨_, _, _, _, e, _⟩ := s8.mono c9 id
      exact (ne_of_none e hg).symm
    have k10 : LK (upd (upd H8 b (.lst [v3, v4])) g (.lst (us ++ [v3, v4]))) g ([k1, k2, kt] ++ [k3, k4]) := ⟨_, upd_same, KAs.mono (pr_app f2 (.cons ((a7.mono c8).mono c9) (.cons (a8.mono c9) .nil))) c10⟩
    have s10 := (s8.mono c9 id).mono c10 id
    have cc : Ch (· = p) H3 (upd (upd H8 b (.lst [v3, v4])) g (.lst (us ++ [v3, v4]))) := (((((c4.trans c5).trans c6.any).trans c7).trans c8).trans c9.any).trans c10.any
    generalize upd (upd H8 b (.lst [v3, v4])) g (.lst (us ++ [v3, v4])) = H10 at k10 s10 cc ⊢
    -- the whole one
    refine ⟨_, rfl, _, rfl, _, rfl, p, _, 2, rfl, s10, by omega, by decide, by decide, fun i H11 hi c11 s11 => ?_⟩
    refine ⟨_, _, rfl, rfl, p, _, 2 + i, z, ?_, nm, by omega, by omega, by omega, s11, by omega, fun v5 k5 H12 a12 z12 l12 c12 s12 => ?_⟩
    · show [V.ref p, V.str z, V.int ((2 : Int) + (i : Int)), V.int 3] = _
      rw [show (2 : Int) + (i : Int) = ((2 + i : Nat) : Int) by omega]
    refine ⟨_, rfl, _, rfl, _, rfl, v5, k5, rfl, a12, fun v6 k6' H13 c13 a13 z13 p13 => ?_⟩
    refine ⟨by show 2 ≤ sizeLine; decide, fun m hm => ?_⟩
    have c14 : Ch No H13 (upd H13 m (.lst [v5, v6])) := Ch.new hm
    obtain ⟨ts, t1, t2⟩ := (((k10.mono c11 gp).mono c12 gp).mono c13 id).mono c14 id
    have lt5 : ts.length = 5 := pr_len t2
    refine ⟨g, m, ts, _, rfl, rfl, t1, upd_same, by show ts.length + 2 ≤ sizeLine; exact len_line (by omega), fun o ho => ?_⟩
    have c15 : Ch No (upd H13 m (.lst [v5, v6])) (upd (upd H13 m (.lst [v5, v6])) o (.lst (ts ++ [v5, v6]))) := Ch.new ho
    have call : Ch (fun a => a = p ∨ a = l) (upd H1 l (.lst [])) (upd (upd H13 m (.lst [v5, v6])) o (.lst (ts ++ [v5, v6]))) := (((((c3.trans (cc.mono fun _ h => .inl h)).trans (c11.mono fun _ h => .inl h)).trans (c12.mono fun _ h => .inl h)).trans c13.any).trans c14.any).trans c15.any
    have s15 := ((s12.mono c13 id).mono c14 id).mono c15 id
    -- to the heap ahead
    have cH : Ch (· = p) H (upd (upd H13 m (.lst [v5, v6])) o (.lst (ts ++ [v5, v6]))) := by
      refine ⟨fun b u e nb => ?_, fun b u e => ?_⟩
      · have hbl : b ≠ l := ne_of_none e hl0
        exact call.1 b u (c2.1 b u e nb) (fun z => z.elim nb hbl)
      · exact call.2 b u (c2.2 b u e)
    have hoH : H o = none := by
      have h13 : Ch (fun a => a = p ∨ a = l) (upd H1 l (.lst [])) (upd H13 m (.lst [v5, v6])) := ((((c3.trans (cc.mono fun _ h => .inl h)).trans (c11.mono fun _ h => .inl h)).trans (c12.mono fun _ h => .inl h)).trans c13.any).trans c14.any
      cases e : H o with
      | none => rfl
      | some u =>
        by_cases hop : o = p
        · obtain ⟨_, _, _, _, e', _⟩ := (s12.mono c13 id).mono c14 id
          rw [hop, e'] at ho
          cases ho
        · have hol : o ≠ l := ne_of_none e hl0
          have := h13.1 o u (c2.1 o u e hop) (fun z => z.elim hop hol)
          rw [ho] at this
          cases this
    refine q o ([k1, k2, kt] ++ [k3, k4] ++ [k5, k6']) _ hoH cH (s15.le (by omega) (by omega)) ⟨_, upd_same, KAs.mono (pr_app t2 (.cons ((a12.mono c13).mono c14) (.cons (a13.mono c14) .nil))) c15⟩ rfl ?_
    have g12 : gk z k5 := ⟨by omega, l12⟩
    have g13 : gk z k6' := ⟨by omega, p13 _ l12⟩
    intro k hk
    simp only [List.cons_append, List.nil_append, List.mem_cons, List.not_mem_nil, or_false] at hk
    rcases hk with rfl | rfl | rfl | rfl | rfl | rfl | rfl
    · exact g4
    · exact g5
    · exact g0
    · exact g7
    · exact g8
    · exact g12
    · exact g13
end
end WW
/-! Slices and sums of tuples and lists; words. -/
namespace WW
open PySem PySem.Spec PyProof.Rows L2
theorem sIx_nat (n d k : Nat) : HT.sIx n d (some (k : Int)) = min k n := by
  unfold HT.sIx
  simp only
  first
    | omega
    | (split <;> omega)
    | (simp; omega)
theorem sIx_none (n d : Nat) : HT.sIx n d none = d := rfl
theorem cut_pre (xs : List V) (k : Nat) : cutV xs none (some (k : Int)) = xs.take k := by
  unfold cutV
  rw [sIx_none, sIx_nat, List.drop_zero, Nat.sub_zero]
  rw [Nat.min_comm, List.take_eq_take_iff]
  omega
theorem cut_suf (xs : List V) (k : Nat) : cutV xs (some (k : Int)) none = xs.drop k := by
  unfold cutV
  rw [sIx_none, sIx_nat]
  by_cases h : k ≤ xs.length
  · rw [Nat.min_eq_left h, List.take_of_length_le (by rw [List.length_drop]; exact Nat.le_refl _)]
  · have e : min k xs.length = xs.length := by omega
    rw [e, List.drop_length, List.drop_eq_nil_of_le (by omega)]
    simp
theorem cut_mid (xs : List V) (j k : Nat) : cutV xs (some (j : Int)) (some (k : Int)) = (xs.take k).drop j := by
  unfold cutV
  rw [sIx_nat, sIx_nat]
  by_cases h : j ≤ xs.length
  · rw [Nat.min_eq_left h, List.drop_take]
    rw [List.take_eq_take_iff]
    rw [List.length_drop]
    omega
  · have e : min j xs.length = xs.length := by omega
    rw [e, List.drop_length, List.drop_eq_nil_of_le (by rw [List.length_take]; omega)]
    simp
section
variable {K : PySem.W.Frag} {H : Hp} {a b : Addr} {xs ys : List V} {Q : VK}
theorem slA (lo hi : Option Int) (h : H a = some (.tup xs)) (q : ∀ t H', Ch No H H' → H' t = some (.tup (cutV xs lo hi)) → Q (.ref t) H') : rSlA K (.ref a) lo hi H Q := by
  refine ⟨a, xs, rfl, SqT.of h, fun ⟨h1, h2⟩ => q a H (Ch.refl _ _) ?_, fun _ p hp => q p _ (Ch.new hp) upd_same⟩
  have e : cutV xs lo hi = xs := by
    unfold cutV
    rw [h1, h2]
    simp
  rw [e]
  exact h
theorem slA_pre (k : Nat) (h : H a = some (.tup xs)) (q : ∀ t H', Ch No H H' → H' t = some (.tup (xs.take k)) → Q (.ref t) H') : rSlA K (.ref a) none (some (k : Int)) H Q :=
  slA _ _ h fun t H' c e => q t H' c (by rw [← cut_pre]; exact e)
theorem slA_suf (k : Nat) (h : H a = some (.tup xs)) (q : ∀ t H', Ch No H H' → H' t = some (.tup (xs.drop k)) → Q (.ref t) H') : rSlA K (.ref a) (some (k : Int)) none H Q :=
  slA _ _ h fun t H' c e => q t H' c (by rw [← cut_suf]; exact e)
theorem slA_mid (j k : Nat) (h : H a = some (.tup xs)) (q : ∀ t H', Ch No H H' → H' t = some (.tup ((xs.take k).drop j)) → Q (.ref t) H') : rSlA K (.ref a) (some (j : Int)) (some (k : Int)) H Q :=
  slA _ _ h fun t H' c e => q t H' c (by rw [← cut_mid]; exact e)
theorem catA (h : H a = some (.tup xs)) (h' : H b = some (.tup ys)) (hl : xs.length + ys.length ≤ 1000) (q : ∀ t H', Ch No H H' → H' t = some (.tup (xs ++ ys)) → Q (.ref t) H') : rCatA K (.ref a) (.ref b) H Q := by
  refine ⟨a, b, xs, ys, rfl, rfl, SqT.of h, SqT.of h', len_line hl, fun e => ?_, fun _ e => ?_, fun _ _ p hp => q p _ (Ch.new hp) upd_same⟩
  · subst e
    exact q b H (Ch.refl _ _) h'
  · subst e
    exact q a H (Ch.refl _ _) (by rw [List.append_nil]; exact h)
theorem slL (lo hi : Option Int) (h : H a = some (.lst xs)) (q : ∀ t H', Ch No H H' → H t = none → H' t = some (.lst (cutV xs lo hi)) → Q (.ref t) H') : rSlL K (.ref a) lo hi H Q :=
  ⟨a, xs, rfl, SqL.of h, fun p hp => q p _ (Ch.new hp) hp upd_same⟩
theorem catL (h : H a = some (.lst xs)) (h' : H b = some (.lst ys)) (hl : xs.length + ys.length ≤ 1000) (q : ∀ t H', Ch No H H' → H t = none → H' t = some (.lst (xs ++ ys)) → Q (.ref t) H') : rCat (.ref a) (.ref b) H Q :=
  ⟨a, b, xs, ys, rfl, rfl, h, h', len_line hl, fun p hp => q p _ (Ch.new hp) hp upd_same⟩
end
/-- at a: the tuple of these numbers -/
def WA (H : Hp) (a : Addr) (u : List Int) : Prop := H a = some (.tup (u.map V.int))
theorem WA.mono {S : Addr → Prop} {H H' : Hp} {a : Addr} {u : List Int} (h : WA H a u) (c : Ch S H H') : WA H' a u := c.2 _ _ h
theorem get_int {u : List Int} {i : Nat} {x : Int} (h : u[i]? = some x) : (u.map V.int)[i]? = some (.int x) := by
  rw [List.getElem?_map, h]
  rfl
section
variable {P : Program} {w : World} {K : PySem.W.Frag} {mg : Str → Option Value} {base : Heap} {fd : Nat → FuncData}
def spJoin : Sp := fun vs H Q _ => ∃ (a b : Addr) (u v : List Int), vs = [.ref a, .ref b] ∧ WA H a u ∧ WA H b v ∧ Red u ∧ Red v ∧ u.length + v.length ≤ 1000 ∧ ∀ t H', Ch No H H' → WA H' t (act u v) → Q (.ref t) H'
theorem ok_join (T : TX w K mg fd) : FnOk P w K mg base CX0 1 (He.ga K "joined_words") (fd 6) P_joined_words spJoin := by
  refine T.d_joined_words.ok sc_joined_words (fun vs H Q E h => ?_) (fun cdv A outer s H vs Q E hr h => ?_)
  · obtain ⟨a, b, u, v, rfl, _⟩ := h
    rfl
  obtain ⟨a, b, u, v, rfl, ha, hb, ru, rv, hl, q⟩ := h
  refine ⟨_, pss_cons (ps_par (i := 2) (j := 3) rfl sc_joined_words.nd rfl rfl (by decide) rfl rfl (pa_cons pe_int (pa_cons (pe_callB (call_min2 rfl) (by rfl) T.z_min (by decide +kernel) (pa_cons (pe_callB call_len_seq (by rfl) T.z_len boot_len (pa_cons (pv 0) pa_nil)) (pa_cons (pe_callB call_len_seq (by rfl) T.z_len boot_len (pa_cons (pv 1) pa_nil)) pa_nil))) pa_nil)) (by rfl))
    (pss_cons (ps_while PassesOwn.never (PW.pt (pw_and (pt_cmpR op_lt (pv 2) (pv 3) (nomark _)) (pw_and1 (pt_cmpR op_eq (pe_ix ix_tup (pv 0) (pe_op op_sub (pe_op op_sub (pe_callB call_len_seq (by rfl) T.z_len boot_len (pa_cons (pv 0) pa_nil)) pe_int) (pv 2)) (fun _ _ => rfl))
        (pe_un un_neg (pe_ix ix_tup (pv 1) (pv 2) (fun _ _ => rfl))) (nomark _))))) (pss_one (ps_aug (i := 2) sc_joined_words.nd rfl (.inl rfl) pe_int ip_add)))
    (pss_one (ps_ret (pe_op op_catA (pe_slice sl_tupA (pv 0) po_none (po_some (pe_op op_sub (pe_callB call_len_seq (by rfl) T.z_len boot_len (pa_cons (pv 0) pa_nil)) (pv 2)))) (pe_slice sl_tupA (pv 1) (po_some (pv 2)) po_none))))), ?_⟩
  have lu : (u.map V.int).length = u.length := List.length_map _
  have lv : (v.map V.int).length = v.length := List.length_map _
  refine ⟨_, rfl, a, _, rfl, .inr (SqT.of ha), _, rfl, b, _, rfl, .inr (SqT.of hb), _, _, rfl, _, _, rfl, ?_⟩
  rw [lu, lv]
  have em : (if (v.length : Int) < (u.length : Int) then (v.length : Int) else (u.length : Int)) = ((min u.length v.length : Nat) : Int) := by
    split <;> omega
  refine while_by (fun σ H' => H' = H ∧ ∃ c : Nat, σ = [some (.ref a), some (.ref b), some (.int (c : Int)), some (.int ((min u.length v.length : Nat) : Int))] ∧ Cut u v c) (fun σ _ => match σ with
    | [_, _, some (.int c), _] => min u.length v.length - c.toNat
    | _ => 0) ⟨rfl, 0, ?_, ⟨by omega, by omega, fun i hi => by omega⟩⟩ ?_ ?_
  · rw [← em]
    rfl
  · rintro σ H ⟨rfl, c, rfl, hc⟩
    have l1 := hc.lu
    have l2 := hc.lv
    -- what comes behind the loop
    have done : (c = u.length ∨ c = v.length ∨ ∃ x y, u[u.length - 1 - c]? = some x ∧ v[c]? = some y ∧ x ≠ -y) →
        (tRet (tOp (rCatA K) (tSl (rSlA K) (tVar 0) tNoPart (tPart (tOp (rI0 fun i j => .int (i - j)) (tCB (fun xs H Q => ∃ p ys, xs = [.ref p] ∧ (SqL K H p ys ∨ SqT K H p ys) ∧ Q (.int ys.length) H) (tCons (tVar 0) tNil)) (tVar 2)))) (tSl (rSlA K) (tVar 1) (tPart (tVar 2)) tNoPart)))
          { nx := fun _ H' => Q .non H', rt := Q } [some (.ref a), some (.ref b), some (.int (c : Int)), some (.int ((min u.length v.length : Nat) : Int))] H := by
      intro he
      refine ⟨_, rfl, _, rfl, a, _, rfl, .inr (SqT.of ha), _, rfl, _, _, rfl, rfl, (u.length - c : Nat), ?_, ?_⟩
      · rw [lu]
        show V.int ((u.length : Int) - (c : Int)) = _
        rw [show (u.length : Int) - (c : Int) = ((u.length - c : Nat) : Int) by omega]
      refine slA_pre _ ha fun t1 H1 c1 e1 => ?_
      refine ⟨_, rfl, _, rfl, _, rfl, ?_⟩
      refine (slA_suf (K := K) (Q := fun y H2 => rCatA K (.ref t1) y H2 Q) c (hb.mono c1) fun t2 H2 c2 e2 => ?_ :)
      refine catA (c2.get e1) e2 (by simp; omega) fun t3 H3 c3 e3 => ?_
      refine q t3 H3 ((c1.trans c2).trans c3) ?_
      show H3 t3 = some (.tup ((act u v).map V.int))
      rw [e3, ← hc.join ru rv he, List.map_append, List.map_take, List.map_drop]
    refine ⟨_, rfl, _, rfl, _, _, rfl, rfl, _, rfl, ?_⟩
    by_cases hlt : c < min u.length v.length
    · have x1 : u.length - 1 - c < u.length := by omega
      have x2 : c < v.length := by omega
      have g1 := List.getElem?_eq_getElem x1
      have g2 := List.getElem?_eq_getElem x2
      rw [decide_eq_true (by omega)]
      refine iteT ?_
      refine ⟨_, rfl, _, rfl, a, _, rfl, .inr (SqT.of ha), _, _, rfl, rfl, _, rfl, _, _, rfl, rfl, a, _, _, .int u[u.length - 1 - c], rfl, rfl, SqT.of ha, ?_, ?_⟩
      · rw [lu]
        rw [show (u.length : Int) - 1 - (c : Int) = ((u.length - 1 - c : Nat) : Int) by omega]
        exact atI_nat (get_int g1)
      refine ⟨_, rfl, _, rfl, b, _, _, .int v[c], rfl, rfl, SqT.of hb, atI_nat (get_int g2), _, rfl, rfl, _, rfl, ite2 (fun e => ?_) (fun e => ?_)⟩
      · have e2 : u[u.length - 1 - c] = -v[c] := V.int.inj (of_decide_eq_true e)
        refine ⟨_, rfl, _, _, rfl, rfl, ⟨rfl, c + 1, rfl, by omega, by omega, fun i hi => ?_⟩, ?_⟩
        · by_cases hic : i < c
          · exact hc.same i hic
          · have : i = c := by omega
            subst this
            exact ⟨_, g1, by rw [g2, e2]; simp⟩
        · show min u.length v.length - ((c : Int) + 1).toNat < min u.length v.length - (c : Int).toNat
          omega
      · exact done (.inr (.inr ⟨_, _, g1, g2, fun z => e (decide_eq_true (by rw [z]))⟩))
    · rw [decide_eq_false (by omega)]
      exact iteF (done (by omega))
  · rintro σ H Q Q' hQ hq
    obtain ⟨y1, y2, y3, y4, y5, y6, y7, y8, y9, y10, hh⟩ := hq
    refine ⟨y1, y2, y3, y4, y5, y6, y7, y8, y9, y10, ?_⟩
    split at hh
    · rename_i hc
      rw [if_pos hc]
      obtain ⟨z1, z2, z3, z4, z5, z6, z7, z8, z9, z10, z11, z12, z13, z14, z15, z16, z17, z18, z19, z20, z21, z22, z23, z24, z25, z26, z27, z28, z29, z30, z31, z32, z33, z34, z35, z36, z37, z38, z39, z40, z41, z42, z43, hz⟩ := hh
      exact ⟨z1, z2, z3, z4, z5, z6, z7, z8, z9, z10, z11, z12, z13, z14, z15, z16, z17, z18, z19, z20, z21, z22, z23, z24, z25, z26, z27, z28, z29, z30, z31, z32, z33, z34, z35, z36, z37, z38, z39, z40, z41, z42, z43, hQ _ _ hz⟩
    · rename_i hc
      rw [if_neg hc]
      exact hQ _ _ hh
def spBack : Sp := fun vs H Q _ => ∃ (a : Addr) (u : List Int), vs = [.ref a] ∧ WA H a u ∧ u.length ≤ 1000 ∧ ∀ t H', Ch No H H' → WA H' t (inv u) → Q (.ref t) H'
theorem ok_back (T : TX w K mg fd) : FnOk P w K mg base CX0 1 (He.ga K "back_word") (fd 7) P_back_word spBack := by
  refine T.d_back_word.ok sc_back_word (fun vs H Q E h => ?_) (fun cdv A outer s H vs Q E hr h => ?_)
  · obtain ⟨a, u, rfl, _⟩ := h
    rfl
  obtain ⟨a, u, rfl, ha, hu, q⟩ := h
  refine ⟨_, pss_one (ps_ret (pe_callTy call_tuple_of (by rfl) T.z_tuple (by decide +kernel) (pa_cons (pe_lc (own := [("sign", 1)]) (g := gName 1) (tt := tYes) rfl sc_back_word.nd (pi_tup (pe_revT (pv 0))) (blkOk_by (N := N_back_word) (sc := defScope s_back_word) (by decide +kernel))
          (fun _ _ _ _ _ => pg_name (i := 1) sc_back_word.nd rfl (Or.inl rfl)) (fun _ _ _ _ _ => pts_nil) (fun _ _ _ _ _ => pe_un un_neg (pv 1))) pa_nil))), ?_⟩
  refine ⟨_, rfl, a, _, rfl, SqT.of ha, fun t ht => ⟨t, rfl, ⟨_, SqT.of upd_same⟩, fun D hD => ?_⟩⟩
  have c1 : Ch No H (upd H t (.tup (u.map V.int).reverse)) := Ch.new ht
  have er : (u.map V.int).reverse = u.reverse.map V.int := by rw [List.map_reverse]
  refine lc_mapT (S := No) (xs := (u.map V.int).reverse) (fun i y _ => ∃ x, u.reverse[i]? = some x ∧ y = .int (-x)) hD id upd_same (by simp; omega) (fun i y H H' z _ => z) (fun i x H3 e c Nx Z hN => ?_) (fun ys H3 c3 eD el er' => ?_)
  · rw [er, List.getElem?_map] at e
    cases ex : u.reverse[i]? with
    | none =>
      rw [ex] at e
      cases e
    | some x0 =>
      rw [ex] at e
      obtain rfl := Option.some.inj e
      exact ⟨rfl, _, rfl, x0, rfl, hN _ _ (Ch.refl _ _) ⟨x0, ex, rfl⟩⟩
  · have ey : ys = (inv u).map V.int := by
      apply List.ext_getElem?
      intro i
      have li : (inv u).length = u.length := inv_length u
      have ei : inv u = u.reverse.map fun x => -x := by
        unfold inv
        rw [List.map_reverse]
      by_cases hi : i < ys.length
      · obtain ⟨x, e1, e2⟩ := er' i ys[i] (List.getElem?_eq_getElem hi)
        rw [List.getElem?_eq_getElem hi, e2, ei, List.getElem?_map, List.getElem?_map, e1]
        rfl
      · rw [List.getElem?_eq_none (by omega), List.getElem?_eq_none (by simp at el ⊢; omega)]
    refine ⟨D, ys, rfl, .inl ⟨SqL.of eD, fun l hl => ?_⟩⟩
    refine q l _ ((c1.trans c3).trans (Ch.new hl)) ?_
    show _ = some (HO.tup ((inv u).map V.int))
    rw [upd_same, ey]
end
end WW
/-! The table: where its things stand (printed by gen_tr.py), keep. -/
namespace WW
open PySem PySem.Spec PyProof.Rows L2
/-- where a table's things stand -/
structure Ad where
  t : Addr
  dx : Addr
  am : Addr
  ash : Addr
  afo : Addr
  apa : Addr
  asu : Addr
  asp : Addr
  aco : Addr
  ak : Addr
def Ad.lst (A : Ad) : List Addr := [A.t, A.dx, A.am, A.ash, A.afo, A.apa, A.asu, A.asp, A.aco, A.ak]
def inT (A : Ad) (b : Addr) : Prop := b = A.t ∨ b = A.am ∨ b = A.ash ∨ b = A.afo ∨ b = A.apa ∨ b = A.asu ∨ b = A.asp ∨ b = A.aco
def flds (A : Ad) (we me : Int) : List (Str × V) := [("marks", .ref A.am), ("shapes", .ref A.ash), ("forms", .ref A.afo), ("pairs", .ref A.apa), ("sums", .ref A.asu), ("spelled", .ref A.asp), ("cores", .ref A.aco), ("weight", .int we), ("met", .int me), ("known", .ref A.ak)]
/-- what the table's things are -/
structure TR (C : Addr) (A : Ad) (H : Hp) (kvs : List (List Key × V)) (sh fo pa su sp co : List V) (we me : Int) : Prop where
  ins : H A.t = some (.ins C A.dx (flds A we me))
  m : H A.am = some (.dT kvs)
  lsh : H A.ash = some (.lst sh)
  lfo : H A.afo = some (.lst fo)
  lpa : H A.apa = some (.lst pa)
  lsu : H A.asu = some (.lst su)
  lsp : H A.asp = some (.lst sp)
  lco : H A.aco = some (.lst co)
  dis : A.lst.Nodup
theorem Ad.ne {A : Ad} (h : A.lst.Nodup) : A.t ≠ A.dx ∧ A.t ≠ A.am ∧ A.t ≠ A.ash ∧ A.t ≠ A.afo ∧ A.t ≠ A.apa ∧ A.t ≠ A.asu ∧ A.t ≠ A.asp ∧ A.t ≠ A.aco ∧ A.t ≠ A.ak ∧ A.dx ≠ A.am ∧ A.dx ≠ A.ash ∧ A.dx ≠ A.afo ∧ A.dx ≠ A.apa ∧ A.dx ≠ A.asu ∧ A.dx ≠ A.asp ∧ A.dx ≠ A.aco ∧ A.dx ≠ A.ak ∧ A.am ≠ A.ash ∧ A.am ≠ A.afo ∧ A.am ≠ A.apa ∧ A.am ≠ A.asu ∧ A.am ≠ A.asp ∧ A.am ≠ A.aco ∧ A.am ≠ A.ak ∧ A.ash ≠ A.afo ∧ A.ash ≠ A.apa ∧ A.ash ≠ A.asu ∧ A.ash ≠ A.asp ∧ A.ash ≠ A.aco ∧ A.ash ≠ A.ak ∧ A.afo ≠ A.apa ∧ A.afo ≠ A.asu ∧ A.afo ≠ A.asp ∧ A.afo ≠ A.aco ∧ A.afo ≠ A.ak ∧ A.apa ≠ A.asu ∧ A.apa ≠ A.asp ∧ A.apa ≠ A.aco ∧ A.apa ≠ A.ak ∧ A.asu ≠ A.asp ∧ A.asu ≠ A.aco ∧ A.asu ≠ A.ak ∧ A.asp ≠ A.aco ∧ A.asp ≠ A.ak ∧ A.aco ≠ A.ak := by
  simp only [Ad.lst, List.nodup_cons, List.mem_cons, List.not_mem_nil, or_false, not_or, not_false_eq_true, List.nodup_nil, and_true] at h
  obtain ⟨h0, h1, h2, h3, h4, h5, h6, h7, h8⟩ := h
  exact ⟨h0.1, h0.2.1, h0.2.2.1, h0.2.2.2.1, h0.2.2.2.2.1, h0.2.2.2.2.2.1, h0.2.2.2.2.2.2.1, h0.2.2.2.2.2.2.2.1, h0.2.2.2.2.2.2.2.2, h1.1, h1.2.1, h1.2.2.1, h1.2.2.2.1, h1.2.2.2.2.1, h1.2.2.2.2.2.1, h1.2.2.2.2.2.2.1, h1.2.2.2.2.2.2.2, h2.1, h2.2.1, h2.2.2.1, h2.2.2.2.1, h2.2.2.2.2.1, h2.2.2.2.2.2.1, h2.2.2.2.2.2.2, h3.1, h3.2.1, h3.2.2.1, h3.2.2.2.1, h3.2.2.2.2.1, h3.2.2.2.2.2, h4.1, h4.2.1, h4.2.2.1, h4.2.2.2.1, h4.2.2.2.2, h5.1, h5.2.1, h5.2.2.1, h5.2.2.2, h6.1, h6.2.1, h6.2.2, h7.1, h7.2, h8⟩
theorem TR.put_m {C : Addr} {A : Ad} {H : Hp} {kvs : List (List Key × V)} {sh fo pa su sp co : List V} {we me : Int} (h : TR C A H kvs sh fo pa su sp co we me) (kvs' : List (List Key × V)) : TR C A (upd H A.am (.dT kvs')) kvs' sh fo pa su sp co we me := by
  obtain ⟨n0_1, n0_2, n0_3, n0_4, n0_5, n0_6, n0_7, n0_8, n0_9, n1_2, n1_3, n1_4, n1_5, n1_6, n1_7, n1_8, n1_9, n2_3, n2_4, n2_5, n2_6, n2_7, n2_8, n2_9, n3_4, n3_5, n3_6, n3_7, n3_8, n3_9, n4_5, n4_6, n4_7, n4_8, n4_9, n5_6, n5_7, n5_8, n5_9, n6_7, n6_8, n6_9, n7_8, n7_9, n8_9⟩ := Ad.ne h.dis
  refine ⟨(upd_ne n0_2).trans h.ins, upd_same, (upd_ne n2_3.symm).trans h.lsh, (upd_ne n2_4.symm).trans h.lfo, (upd_ne n2_5.symm).trans h.lpa, (upd_ne n2_6.symm).trans h.lsu, (upd_ne n2_7.symm).trans h.lsp, (upd_ne n2_8.symm).trans h.lco, h.dis⟩
theorem TR.put_sh {C : Addr} {A : Ad} {H : Hp} {kvs : List (List Key × V)} {sh fo pa su sp co : List V} {we me : Int} (h : TR C A H kvs sh fo pa su sp co we me) (x : List V) : TR C A (upd H A.ash (.lst x)) kvs x fo pa su sp co we me := by
  obtain ⟨n0_1, n0_2, n0_3, n0_4, n0_5, n0_6, n0_7, n0_8, n0_9, n1_2, n1_3, n1_4, n1_5, n1_6, n1_7, n1_8, n1_9, n2_3, n2_4, n2_5, n2_6, n2_7, n2_8, n2_9, n3_4, n3_5, n3_6, n3_7, n3_8, n3_9, n4_5, n4_6, n4_7, n4_8, n4_9, n5_6, n5_7, n5_8, n5_9, n6_7, n6_8, n6_9, n7_8, n7_9, n8_9⟩ := Ad.ne h.dis
  refine ⟨(upd_ne n0_3).trans h.ins, (upd_ne n2_3).trans h.m, upd_same, (upd_ne n3_4.symm).trans h.lfo, (upd_ne n3_5.symm).trans h.lpa, (upd_ne n3_6.symm).trans h.lsu, (upd_ne n3_7.symm).trans h.lsp, (upd_ne n3_8.symm).trans h.lco, h.dis⟩
theorem TR.put_fo {C : Addr} {A : Ad} {H : Hp} {kvs : List (List Key × V)} {sh fo pa su sp co : List V} {we me : Int} (h : TR C A H kvs sh fo pa su sp co we me) (x : List V) : TR C A (upd H A.afo (.lst x)) kvs sh x pa su sp co we me := by
  obtain ⟨n0_1, n0_2, n0_3, n0_4, n0_5, n0_6, n0_7, n0_8, n0_9, n1_2, n1_3, n1_4, n1_5, n1_6, n1_7, n1_8, n1_9, n2_3, n2_4, n2_5, n2_6, n2_7, n2_8, n2_9, n3_4, n3_5, n3_6, n3_7, n3_8, n3_9, n4_5, n4_6, n4_7, n4_8, n4_9, n5_6, n5_7, n5_8, n5_9, n6_7, n6_8, n6_9, n7_8, n7_9, n8_9⟩ := Ad.ne h.dis
  refine ⟨(upd_ne n0_4).trans h.ins, (upd_ne n2_4).trans h.m, (upd_ne n3_4).trans h.lsh, upd_same, (upd_ne n4_5.symm).trans h.lpa, (upd_ne n4_6.symm).trans h.lsu, (upd_ne n4_7.symm).trans h.lsp, (upd_ne n4_8.symm).trans h.lco, h.dis⟩
theorem TR.put_pa {C : Addr} {A : Ad} {H : Hp} {kvs : List (List Key × V)} {sh fo pa su sp co : List V} {we me : Int} (h : TR C A H kvs sh fo pa su sp co we me) (x : List V) : TR C A (upd H A.apa (.lst x)) kvs sh fo x su sp co we me := by
  obtain ⟨n0_1, n0_2, n0_3, n0_4, n0_5, n0_6, n0_7, n0_8, n0_9, n1_2, n1_3, n1_4, n1_5, n1_6, n1_7, n1_8, n1_9, n2_3, n2_4, n2_5, n2_6, n2_7, n2_8, n2_9, n3_4, n3_5, n3_6, n3_7, n3_8, n3_9, n4_5, n4_6, n4_7, n4_8, n4_9, n5_6, n5_7, n5_8, n5_9, n6_7, n6_8, n6_9, n7_8, n7_9, n8_9⟩ := Ad.ne h.dis
  refine ⟨(upd_ne n0_5).trans h.ins, (upd_ne n2_5).trans h.m, (upd_ne n3_5).trans h.lsh, (upd_ne n4_5).trans h.lfo, upd_same, (upd_ne n5_6.symm).trans h.lsu, (upd_ne n5_7.symm).trans h.lsp, (upd_ne n5_8.symm).trans h.lco, h.dis⟩
theorem TR.put_su {C : Addr} {A : Ad} {H : Hp} {kvs : List (List Key × V)} {sh fo pa su sp co : List V} {we me : Int} (h : TR C A H kvs sh fo pa su sp co we me) (x : List V) : TR C A (upd H A.asu (.lst x)) kvs sh fo pa x sp co we me := by
  obtain ⟨n0_1, n0_2, n0_3, n0_4, n0_5, n0_6, n0_7, n0_8, n0_9, n1_2, n1_3, n1_4, n1_5, n1_6, n1_7, n1_8, n1_9, n2_3, n2_4, n2_5, n2_6, n2_7, n2_8, n2_9, n3_4, n3_5, n3_6, n3_7, n3_8, n3_9, n4_5, n4_6, n4_7, n4_8, n4_9, n5_6, n5_7, n5_8, n5_9, n6_7, n6_8, n6_9, n7_8, n7_9, n8_9⟩ := Ad.ne h.dis
  refine ⟨(upd_ne n0_6).trans h.ins, (upd_ne n2_6).trans h.m, (upd_ne n3_6).trans h.lsh, (upd_ne n4_6).trans h.lfo, (upd_ne n5_6).trans h.lpa, upd_same, (upd_ne n6_7.symm).trans h.lsp, (upd_ne n6_8.symm).trans h.lco, h.dis⟩
theorem TR.put_sp {C : Addr} {A : Ad} {H : Hp} {kvs : List (List Key × V)} {sh fo pa su sp co : List V} {we me : Int} (h : TR C A H kvs sh fo pa su sp co we me) (x : List V) : TR C A (upd H A.asp (.lst x)) kvs sh fo pa su x co we me := by
  obtain ⟨n0_1, n0_2, n0_3, n0_4, n0_5, n0_6, n0_7, n0_8, n0_9, n1_2, n1_3, n1_4, n1_5, n1_6, n1_7, n1_8, n1_9, n2_3, n2_4, n2_5, n2_6, n2_7, n2_8, n2_9, n3_4, n3_5, n3_6, n3_7, n3_8, n3_9, n4_5, n4_6, n4_7, n4_8, n4_9, n5_6, n5_7, n5_8, n5_9, n6_7, n6_8, n6_9, n7_8, n7_9, n8_9⟩ := Ad.ne h.dis
  refine ⟨(upd_ne n0_7).trans h.ins, (upd_ne n2_7).trans h.m, (upd_ne n3_7).trans h.lsh, (upd_ne n4_7).trans h.lfo, (upd_ne n5_7).trans h.lpa, (upd_ne n6_7).trans h.lsu, upd_same, (upd_ne n7_8.symm).trans h.lco, h.dis⟩
theorem TR.put_co {C : Addr} {A : Ad} {H : Hp} {kvs : List (List Key × V)} {sh fo pa su sp co : List V} {we me : Int} (h : TR C A H kvs sh fo pa su sp co we me) (x : List V) : TR C A (upd H A.aco (.lst x)) kvs sh fo pa su sp x we me := by
  obtain ⟨n0_1, n0_2, n0_3, n0_4, n0_5, n0_6, n0_7, n0_8, n0_9, n1_2, n1_3, n1_4, n1_5, n1_6, n1_7, n1_8, n1_9, n2_3, n2_4, n2_5, n2_6, n2_7, n2_8, n2_9, n3_4, n3_5, n3_6, n3_7, n3_8, n3_9, n4_5, n4_6, n4_7, n4_8, n4_9, n5_6, n5_7, n5_8, n5_9, n6_7, n6_8, n6_9, n7_8, n7_9, n8_9⟩ := Ad.ne h.dis
  refine ⟨(upd_ne n0_8).trans h.ins, (upd_ne n2_8).trans h.m, (upd_ne n3_8).trans h.lsh, (upd_ne n4_8).trans h.lfo, (upd_ne n5_8).trans h.lpa, (upd_ne n6_8).trans h.lsu, (upd_ne n7_8).trans h.lsp, upd_same, h.dis⟩
theorem TR.put_t {C : Addr} {A : Ad} {H : Hp} {kvs : List (List Key × V)} {sh fo pa su sp co : List V} {we me : Int} (h : TR C A H kvs sh fo pa su sp co we me) (we' me' : Int) : TR C A (upd H A.t (.ins C A.dx (flds A we' me'))) kvs sh fo pa su sp co we' me' := by
  obtain ⟨n0_1, n0_2, n0_3, n0_4, n0_5, n0_6, n0_7, n0_8, n0_9, n1_2, n1_3, n1_4, n1_5, n1_6, n1_7, n1_8, n1_9, n2_3, n2_4, n2_5, n2_6, n2_7, n2_8, n2_9, n3_4, n3_5, n3_6, n3_7, n3_8, n3_9, n4_5, n4_6, n4_7, n4_8, n4_9, n5_6, n5_7, n5_8, n5_9, n6_7, n6_8, n6_9, n7_8, n7_9, n8_9⟩ := Ad.ne h.dis
  refine ⟨upd_same, (upd_ne n0_2.symm).trans h.m, (upd_ne n0_3.symm).trans h.lsh, (upd_ne n0_4.symm).trans h.lfo, (upd_ne n0_5.symm).trans h.lpa, (upd_ne n0_6.symm).trans h.lsu, (upd_ne n0_7.symm).trans h.lsp, (upd_ne n0_8.symm).trans h.lco, h.dis⟩
theorem TR.mono {S : Addr → Prop} {H' : Hp} {C : Addr} {A : Ad} {H : Hp} {kvs : List (List Key × V)} {sh fo pa su sp co : List V} {we me : Int} (h : TR C A H kvs sh fo pa su sp co we me) (c : Ch S H H') (hS : ∀ b, inT A b → ¬ S b) : TR C A H' kvs sh fo pa su sp co we me := by
  refine ⟨c.1 _ _ h.ins (hS _ (by simp [inT])), c.1 _ _ h.m (hS _ (by simp [inT])), c.1 _ _ h.lsh (hS _ (by simp [inT])), c.1 _ _ h.lfo (hS _ (by simp [inT])), c.1 _ _ h.lpa (hS _ (by simp [inT])), c.1 _ _ h.lsu (hS _ (by simp [inT])), c.1 _ _ h.lsp (hS _ (by simp [inT])), c.1 _ _ h.lco (hS _ (by simp [inT])), h.dis⟩
section
variable {P : Program} {w : World} {K : PySem.W.Frag} {mg : Str → Option Value} {base : Heap} {fd : Nat → FuncData}
abbrev tC' (K : PySem.W.Frag) : Addr := He.ga K "Table"
def spKeep : Sp := fun vs H Q _ => ∃ (A : Ad) (kvs : List (List Key × V)) (sh fo pa su sp co : List V) (we me : Int) (m k pr to : Addr) (key : List Key) (f : Str) (r : List V) (s wd c : V), vs = [.ref A.t, .ref m, .ref k, .ref pr, .ref to] ∧ TR (tC' K) A H kvs sh fo pa su sp co we me ∧
  H m = some (.tup (key.map kV)) ∧ H k = some (.tup (.str f :: r)) ∧ H to = some (.tup [s, wd, c]) ∧ kvs.length ≤ 1000 ∧ sh.length ≤ 1000 ∧ fo.length ≤ 1000 ∧ pa.length ≤ 1000 ∧ su.length ≤ 1000 ∧ sp.length ≤ 1000 ∧ co.length ≤ 1000 ∧
  ∀ H', Ch (inT A) H H' → TR (tC' K) A H' (putK kvs key (.int (sh.length : Int))) (sh ++ [.ref k]) (fo ++ [.str f]) (pa ++ [.ref pr]) (su ++ [s]) (sp ++ [wd]) (co ++ [c]) we me → Q .non H'
theorem ok_keep (T : TX w K mg fd) : FnOk P w K mg base CX0 1 (He.ma K (He.ga K "Table") "keep") (fd 10) P_Table_keep (spKeep (K := K)) := by
  refine T.d_Table_keep.ok sc_Table_keep (fun vs H Q E h => ?_) (fun cdv A outer s H vs Q E hr h => ?_)
  · obtain ⟨A, kvs, sh, fo, pa, su, sp, co, we, me, m, k, pr, to, key, f, r, s, wd, c, rfl, _⟩ := h
    rfl
  obtain ⟨A, kvs, sh, fo, pa, su, sp, co, we, me, m, k, pr, to, key, f, r, s, wd, c, rfl, t0, hm, hk, ht, n0, n1, n2, n3, n4, n5, n6, q⟩ := h
  refine ⟨_, pss_cons (ps_dput (hu_of hr) (pe_fld (pv 0) rfl) (pv 1) (pe_callB call_len_seq (by rfl) T.z_len boot_len (pa_cons (pe_fld (pv 0) rfl) pa_nil)) rfl)
    (pss_cons (ps_expr (pe_bm PySem.F.plainAttrs_list PySem.F.slot_list_append PySem.F.type_list_append mt_append (pe_fld (pv 0) rfl) (pa_cons (pv 2) pa_nil)))
    (pss_cons (ps_expr (pe_bm PySem.F.plainAttrs_list PySem.F.slot_list_append PySem.F.type_list_append mt_append (pe_fld (pv 0) rfl) (pa_cons (pe_ix ix_tup (pv 2) pe_int (fun _ _ => rfl)) pa_nil)))
    (pss_cons (ps_expr (pe_bm PySem.F.plainAttrs_list PySem.F.slot_list_append PySem.F.type_list_append mt_append (pe_fld (pv 0) rfl) (pa_cons (pv 3) pa_nil)))
    (pss_cons (ps_expr (pe_bm PySem.F.plainAttrs_list PySem.F.slot_list_append PySem.F.type_list_append mt_append (pe_fld (pv 0) rfl) (pa_cons (pe_ix ix_tup (pv 4) pe_int (fun _ _ => rfl)) pa_nil)))
    (pss_cons (ps_expr (pe_bm PySem.F.plainAttrs_list PySem.F.slot_list_append PySem.F.type_list_append mt_append (pe_fld (pv 0) rfl) (pa_cons (pe_ix ix_tup (pv 4) pe_int (fun _ _ => rfl)) pa_nil)))
    (pss_one (ps_expr (pe_bm PySem.F.plainAttrs_list PySem.F.slot_list_append PySem.F.type_list_append mt_append (pe_fld (pv 0) rfl) (pa_cons (pe_ix ix_tup (pv 4) pe_int (fun _ _ => rfl)) pa_nil))))))))), ?_⟩
  have nt : ∀ (o : List V) xs, HO.lst o ≠ .tup xs := fun _ _ z => nomatch z
  refine ⟨_, rfl, A.t, _, _, _, _, rfl, t0.ins, T.c_Table, T.n_shapes, rfl, A.ash, sh, rfl, .inl (SqL.of t0.lsh), _, rfl, A.t, _, _, _, _, rfl, t0.ins, T.c_Table, T.n_marks, rfl, _, rfl, A.am, _, rfl, DPut.t t0.m hm (small1000 n0), ?_⟩
  have c1 : Ch (inT A) H (upd H A.am (.dT (putK kvs key (.int (sh.length : Int))))) := Ch.put (by simp [inT]) t0.m fun _ z => nomatch z
  have t1 := t0.put_m (putK kvs key (.int (sh.length : Int)))
  refine ⟨_, rfl, A.t, _, _, _, _, rfl, t1.ins, T.c_Table, T.n_shapes, rfl, .inl ⟨rfl, _, SqL.of t1.lsh⟩, _, rfl, A.ash, sh, _, rfl, rfl, t1.lsh, small1000 n1, ?_⟩
  have c2 := c1.trans (Ch.put (S := inT A) (o' := .lst (sh ++ [.ref k])) (by simp [inT]) t1.lsh (nt _))
  have t2 := t1.put_sh (sh ++ [.ref k])
  refine ⟨_, rfl, A.t, _, _, _, _, rfl, t2.ins, T.c_Table, T.n_forms, rfl, .inl ⟨rfl, _, SqL.of t2.lfo⟩, _, rfl, k, _, _, _, rfl, rfl, SqT.of (c2.2 _ _ hk), atI_nat (j := 0) rfl, A.afo, fo, _, rfl, rfl, t2.lfo, small1000 n2, ?_⟩
  have c3 := c2.trans (Ch.put (S := inT A) (o' := .lst (fo ++ [.str f])) (by simp [inT]) t2.lfo (nt _))
  have t3 := t2.put_fo (fo ++ [.str f])
  refine ⟨_, rfl, A.t, _, _, _, _, rfl, t3.ins, T.c_Table, T.n_pairs, rfl, .inl ⟨rfl, _, SqL.of t3.lpa⟩, _, rfl, A.apa, pa, _, rfl, rfl, t3.lpa, small1000 n3, ?_⟩
  have c4 := c3.trans (Ch.put (S := inT A) (o' := .lst (pa ++ [.ref pr])) (by simp [inT]) t3.lpa (nt _))
  have t4 := t3.put_pa (pa ++ [.ref pr])
  refine ⟨_, rfl, A.t, _, _, _, _, rfl, t4.ins, T.c_Table, T.n_sums, rfl, .inl ⟨rfl, _, SqL.of t4.lsu⟩, _, rfl, to, _, _, _, rfl, rfl, SqT.of (c4.2 _ _ ht), atI_nat (j := 0) rfl, A.asu, su, _, rfl, rfl, t4.lsu, small1000 n4, ?_⟩
  have c5 := c4.trans (Ch.put (S := inT A) (o' := .lst (su ++ [s])) (by simp [inT]) t4.lsu (nt _))
  have t5 := t4.put_su (su ++ [s])
  refine ⟨_, rfl, A.t, _, _, _, _, rfl, t5.ins, T.c_Table, T.n_spelled, rfl, .inl ⟨rfl, _, SqL.of t5.lsp⟩, _, rfl, to, _, _, _, rfl, rfl, SqT.of (c5.2 _ _ ht), atI_nat (j := 1) rfl, A.asp, sp, _, rfl, rfl, t5.lsp, small1000 n5, ?_⟩
  have c6 := c5.trans (Ch.put (S := inT A) (o' := .lst (sp ++ [wd])) (by simp [inT]) t5.lsp (nt _))
  have t6 := t5.put_sp (sp ++ [wd])
  refine ⟨_, rfl, A.t, _, _, _, _, rfl, t6.ins, T.c_Table, T.n_cores, rfl, .inl ⟨rfl, _, SqL.of t6.lco⟩, _, rfl, to, _, _, _, rfl, rfl, SqT.of (c6.2 _ _ ht), atI_nat (j := 2) rfl, A.aco, co, _, rfl, rfl, t6.lco, small1000 n6, ?_⟩
  have c7 := c6.trans (Ch.put (S := inT A) (o' := .lst (co ++ [c])) (by simp [inT]) t6.lco (nt _))
  exact q _ c7 (t6.put_co (co ++ [c]))
end
end WW
/-! The table: what it knows of kinds; letters_of, number. -/
namespace WW
open PySem PySem.Spec PyProof.Rows L2
theorem Kd.all_mono {p q : Nat → Prop} (h : ∀ c, p c → q c) : ∀ k : Kd, k.all p → k.all q
  | .pl c, z => h c z
  | .nd _ x y, z => ⟨Kd.all_mono h x z.1, Kd.all_mono h y z.2⟩
theorem nf_congr {m n : Nat → Int} : ∀ k : Kd, k.all (fun c => m c = n c) → nf m k = nf n k
  | .pl c, z => by
    show [m c] = [n c]
    rw [show m c = n c from z]
  | .nd f x y, z => by
    have h1 := nf_congr x z.1
    have h2 := nf_congr y z.2
    cases f <;> simp only [nf, h1, h2]
theorem sm_congr {m n : Nat → Int} : ∀ k : Kd, k.all (fun c => m c = n c) → sm m k = sm n k
  | .pl c, z => z
  | .nd f x y, z => by
    have h1 := sm_congr x z.1
    have h2 := sm_congr y z.2
    cases f <;> simp only [sm, h1, h2]
theorem push_length (x : Int) (s : List Int) : (push x s).length ≤ s.length + 1 := by
  cases s with
  | nil => simp [push]
  | cons y t =>
    show (if y = -x then t else x :: y :: t).length ≤ (y :: t).length + 1
    split
    · simp
      omega
    · simp
theorem act_length (s : List Int) : ∀ u : List Int, (act u s).length ≤ u.length + s.length
  | [] => by simp [act]
  | x :: u => by
    have h1 := act_length s u
    have h2 := push_length x (act u s)
    show (push x (act u s)).length ≤ u.length + 1 + s.length
    omega
theorem nf_length (num : Nat → Int) : ∀ k : Kd, (nf num k).length ≤ k.size
  | .pl c => by simp [nf, Kd.size]
  | .nd f x y => by
    have h1 := nf_length num x
    have h2 := nf_length num y
    have e : (Kd.nd f x y).size = x.size + y.size := rfl
    rw [e]
    cases f
    · have := act_length (inv (nf num y)) (nf num x)
      rw [inv_length] at this
      show (act (nf num x) (inv (nf num y))).length ≤ _
      omega
    · have := act_length (nf num y) (inv (nf num x))
      rw [inv_length] at this
      show (act (inv (nf num x)) (nf num y)).length ≤ _
      omega
    · have := act_length (nf num y) (nf num x)
      show (act (nf num x) (nf num y)).length ≤ _
      omega
def numT (ls : List Nat) (c : Nat) : Int := (ls.idxOf c : Int) + 1
def wtT (ls : List Nat) (c : Nat) : Int := 4096 ^ (ls.idxOf c)
theorem idx_app {ls l : List Nat} {c : Nat} (h : c ∈ ls) : (ls ++ l).idxOf c = ls.idxOf c := by
  rw [List.idxOf_append, if_pos h]
theorem idx_new {ls : List Nat} {c : Nat} (h : c ∉ ls) : (ls ++ [c]).idxOf c = ls.length := by
  rw [List.idxOf_append, if_neg h]
  simp
theorem nf_app {ls l : List Nat} {k : Kd} (h : k.all (· ∈ ls)) : nf (numT (ls ++ l)) k = nf (numT ls) k :=
  nf_congr k (Kd.all_mono (fun c hc => by unfold numT; rw [idx_app hc]) k h)
theorem sm_app {ls l : List Nat} {k : Kd} (h : k.all (· ∈ ls)) : sm (wtT (ls ++ l)) k = sm (wtT ls) k :=
  sm_congr k (Kd.all_mono (fun c hc => by unfold wtT; rw [idx_app hc]) k h)
def coreS (k : Kd) : Str := match k.core with
  | some c => chr1 c
  | none => ""
/-- a kind's mark, by the numbers of its parts -/
def IsMark (ks : List Kd) : Kd → List Key → Prop
  | .pl c, m => m = [.inr "plain", .inr (chr1 c)]
  | .nd f x y, m => ∃ i j : Nat, ks[i]? = some x ∧ ks[j]? = some y ∧ m = [.inr (fstr f), .inl (i : Int), .inl (j : Int)]
theorem IsMark.inj {ks : List Kd} {k l : Kd} {m : List Key} (h : IsMark ks k m) (h' : IsMark ks l m) : k = l := by
  cases k with
  | pl c =>
    cases l with
    | pl d =>
      have e : ([.inr "plain", .inr (chr1 c)] : List Key) = [.inr "plain", .inr (chr1 d)] := h.symm.trans h'
      injection e with _ e
      injection e with e _
      injection e with e
      rw [chr1_inj e]
    | nd g u v =>
      obtain ⟨i, j, _, _, e⟩ := h'
      have e2 := h.symm.trans e
      simp at e2
  | nd f x y =>
    obtain ⟨i, j, h1, h2, e⟩ := h
    cases l with
    | pl d =>
      have e2 := e.symm.trans h'
      simp at e2
    | nd g u v =>
      obtain ⟨i', j', h1', h2', e'⟩ := h'
      have e2 := e.symm.trans e'
      injection e2 with e3 e4
      injection e4 with e4 e5
      injection e5 with e5 _
      injection e3 with e3
      injection e4 with e4
      injection e5 with e5
      have ei : i = i' := by omega
      have ej : j = j' := by omega
      subst ei ej
      rw [h1] at h1'
      rw [h2] at h2'
      rw [fstr_inj e3, Option.some.inj h1', Option.some.inj h2']
theorem get_app {α : Type} {l m : List α} {i : Nat} {x : α} (h : l[i]? = some x) : (l ++ m)[i]? = some x := by
  rw [List.getElem?_append_left (List.getElem?_eq_some_iff.mp h).1]
  exact h
theorem IsMark.app {ks l : List Kd} {k : Kd} {m : List Key} (h : IsMark ks k m) : IsMark (ks ++ l) k m := by
  cases k with
  | pl c => exact h
  | nd f x y =>
    obtain ⟨i, j, h1, h2, e⟩ := h
    exact ⟨i, j, get_app h1, get_app h2, e⟩
theorem nodup_idx {α : Type} {x : α} : ∀ {l : List α}, l.Nodup → ∀ {i j : Nat}, l[i]? = some x → l[j]? = some x → i = j
  | [], _, i, j, h1, _ => by cases h1
  | a :: l, h, 0, 0, _, _ => rfl
  | a :: l, h, 0, j + 1, h1, h2 => by
    rw [List.nodup_cons] at h
    have e : a = x := Option.some.inj h1
    subst e
    have m2 : l[j]? = some a := h2
    exact absurd (List.mem_of_getElem? m2) h.1
  | a :: l, h, i + 1, 0, h1, h2 => by
    rw [List.nodup_cons] at h
    have e : a = x := Option.some.inj h2
    subst e
    have m1 : l[i]? = some a := h1
    exact absurd (List.mem_of_getElem? m1) h.1
  | a :: l, h, i + 1, j + 1, h1, h2 => by
    rw [List.nodup_cons] at h
    exact congrArg (· + 1) (nodup_idx h.2 h1 h2)
theorem get_back {α : Type} {l : List α} {y x : α} {i : Nat} (h : (l ++ [y])[i]? = some x) (hn : (l ++ [y]).Nodup) (hx : x ∈ l) : l[i]? = some x := by
  obtain ⟨j, hj, e⟩ := List.mem_iff_getElem.mp hx
  have e1 : l[j]? = some x := by rw [List.getElem?_eq_getElem hj, e]
  have := nodup_idx hn h (get_app e1)
  rw [this]
  exact e1
theorem IsMark.back {ks : List Kd} {k k0 : Kd} {m : List Key} (h : IsMark (ks ++ [k0]) k m) (hn : (ks ++ [k0]).Nodup) (hp : ∀ f x y, k = .nd f x y → x ∈ ks ∧ y ∈ ks) : IsMark ks k m := by
  cases k with
  | pl c => exact h
  | nd f x y =>
    obtain ⟨i, j, h1, h2, e⟩ := h
    obtain ⟨p1, p2⟩ := hp f x y rfl
    exact ⟨i, j, get_back h1 hn p1, get_back h2 hn p2, e⟩
structure MkOk (kvs : List (List Key × V)) (ks : List Kd) : Prop where
  a : ∀ (i : Nat) (k : Kd) (m : List Key), ks[i]? = some k → IsMark ks k m → valV kvs m = some (.int (i : Int))
  b : ∀ (m : List Key) (v : V), valV kvs m = some v → ∃ (i : Nat) (k : Kd), ks[i]? = some k ∧ IsMark ks k m ∧ v = .int (i : Int)
  n : kvs.length ≤ ks.length
theorem MkOk.miss {kvs : List (List Key × V)} {ks : List Kd} {k : Kd} {m : List Key} (h : MkOk kvs ks) (hm : IsMark ks k m) (hv : valV kvs m = none) : k ∉ ks := fun hk => by
  obtain ⟨i, hi, e⟩ := List.mem_iff_getElem.mp hk
  have := h.a i k m (by rw [List.getElem?_eq_getElem hi, e]) hm
  rw [hv] at this
  cases this
theorem MkOk.hit {kvs : List (List Key × V)} {ks : List Kd} {k : Kd} {m : List Key} {v : V} (h : MkOk kvs ks) (hm : IsMark ks k m) (hv : valV kvs m = some v) : ∃ i : Nat, ks[i]? = some k ∧ v = .int (i : Int) := by
  obtain ⟨i, k', h1, h2, h3⟩ := h.b m v hv
  rw [hm.inj h2]
  exact ⟨i, h1, h3⟩
theorem MkOk.add {kvs : List (List Key × V)} {ks : List Kd} {k : Kd} {m : List Key} (h : MkOk kvs ks) (hm : IsMark ks k m) (hv : valV kvs m = none) (hn : (ks ++ [k]).Nodup) (cl : ∀ f x y, .nd f x y ∈ ks → x ∈ ks ∧ y ∈ ks) (ck : ∀ f x y, k = .nd f x y → x ∈ ks ∧ y ∈ ks) :
    MkOk (putK kvs m (.int (ks.length : Int))) (ks ++ [k]) := by
  refine ⟨fun i k' m' e e' => ?_, fun m' v e => ?_, ?_⟩
  · rw [valV_put]
    by_cases hi : i < ks.length
    · rw [List.getElem?_append_left hi] at e
      have hk' : k' ∈ ks := List.mem_of_getElem? e
      have em := e'.back hn fun f x y z => cl f x y (by rw [← z]; exact hk')
      by_cases em2 : m' = m
      · subst em2
        exact absurd (hm.inj em ▸ hk') (h.miss hm hv)
      · rw [if_neg em2]
        exact h.a i k' m' e em
    · have : i = ks.length := by
        have := (List.getElem?_eq_some_iff.mp e).1
        simp at this
        omega
      subst this
      simp at e
      subst e
      have em := e'.back hn ck
      have em2 : m' = m := by
        cases k with
        | pl c => exact em.trans hm.symm
        | nd f x y =>
          obtain ⟨i, j, h1, h2, e⟩ := hm
          obtain ⟨i', j', h1', h2', e'⟩ := em
          have nk : ks.Nodup := (List.nodup_append.mp hn).1
          rw [e, e', nodup_idx nk h1 h1', nodup_idx nk h2 h2']
      rw [if_pos em2]
  · rw [valV_put] at e
    by_cases em2 : m' = m
    · rw [if_pos em2] at e
      subst em2
      exact ⟨ks.length, k, by simp, hm.app, (Option.some.inj e).symm⟩
    · rw [if_neg em2] at e
      obtain ⟨i, k', h1, h2, h3⟩ := h.b m' v e
      exact ⟨i, k', get_app h1, h2.app, h3⟩
  · rw [putK_new _ hv]
    have := h.n
    simp
    omega
/-- the pairs -/
def PaOk (H : Hp) (pa : List V) (ks : List Kd) : Prop := pa.length = ks.length ∧ ∀ (i : Nat) (k : Kd), ks[i]? = some k → ∃ (a : Addr) (m n : Nat), pa[i]? = some (.ref a) ∧ H a = some (.tup [.int (m : Int), .int (n : Int)]) ∧ ∀ f x y, k = .nd f x y → ks[m]? = some x ∧ ks[n]? = some y
theorem PaOk.mono {S : Addr → Prop} {H H' : Hp} {pa : List V} {ks : List Kd} (h : PaOk H pa ks) (c : Ch S H H') : PaOk H' pa ks :=
  ⟨h.1, fun i k e => let ⟨a, m, n, h1, h2, h3⟩ := h.2 i k e; ⟨a, m, n, h1, c.2 _ _ h2, h3⟩⟩
structure Tb (C : Addr) (A : Ad) (H : Hp) (ls : List Nat) (ks : List Kd) : Prop where
  ex : ∃ (kvs : List (List Key × V)) (sh pa : List V) (as : List Addr), TR C A H kvs sh (ks.map fun k => .str (hd k)) pa (ks.map fun k => .int (sm (wtT ls) k)) (as.map V.ref) (ks.map fun k => .str (coreS k)) (4096 ^ ls.length) (ls.length : Int) ∧
    KAs H sh ks ∧ PaOk H pa ks ∧ Paired (fun a k => WA H a (nf (numT ls) k)) as ks ∧ MkOk kvs ks
  nd : ks.Nodup
  cl : ∀ f x y, .nd f x y ∈ ks → x ∈ ks ∧ y ∈ ks
  le : ∀ k ∈ ks, k.all (· ∈ ls)
  lp : ∀ c ∈ ls, Kd.pl c ∈ ks
theorem Tb.mono {S : Addr → Prop} {C : Addr} {A : Ad} {H H' : Hp} {ls : List Nat} {ks : List Kd} (h : Tb C A H ls ks) (c : Ch S H H') (hS : ∀ b, inT A b → ¬ S b) : Tb C A H' ls ks := by
  obtain ⟨kvs, sh, pa, as, h1, h2, h3, h4, h5⟩ := h.ex
  exact ⟨⟨kvs, sh, pa, as, h1.mono c hS, h2.mono c, h3.mono c, Paired.mapP h4 fun _ _ z => z.mono c, h5⟩, h.nd, h.cl, h.le, h.lp⟩
/-- one kind more -/
theorem Tb.add {C : Addr} {A : Ad} {H : Hp} {ls l : List Nat} {ks : List Kd} {k : Kd} {kvs : List (List Key × V)} {sh pa : List V} {as : List Addr} {m : List Key} {v : V} {pr wa : Addr} {a b : Nat} {s : Int}
    (t : TR C A H (putK kvs m (.int (sh.length : Int))) (sh ++ [v]) ((ks.map fun k => V.str (hd k)) ++ [.str (hd k)]) (pa ++ [.ref pr]) ((ks.map fun k => V.int (sm (wtT ls) k)) ++ [.int s]) (as.map V.ref ++ [.ref wa]) ((ks.map fun k => V.str (coreS k)) ++ [.str (coreS k)]) (4096 ^ (ls ++ l).length) ((ls ++ l).length : Int))
    (h2 : KAs H sh ks) (h3 : PaOk H pa ks) (h4 : Paired (fun a k => WA H a (nf (numT ls) k)) as ks) (h5 : MkOk kvs ks) (nd : ks.Nodup) (cl : ∀ f x y, .nd f x y ∈ ks → x ∈ ks ∧ y ∈ ks) (le : ∀ k ∈ ks, k.all (· ∈ ls))
    (ka : KA H v k) (hm : IsMark ks k m) (hv : valV kvs m = none) (hp : H pr = some (.tup [.int (a : Int), .int (b : Int)])) (hab : ∀ f x y, k = .nd f x y → ks[a]? = some x ∧ ks[b]? = some y) (hs : s = sm (wtT (ls ++ l)) k) (hw : WA H wa (nf (numT (ls ++ l)) k)) (hl : k.all (· ∈ ls ++ l)) (lp : ∀ c ∈ ls, Kd.pl c ∈ ks) (lp' : ∀ c ∈ l, Kd.pl c ∈ ks ++ [k]) :
    Tb C A H (ls ++ l) (ks ++ [k]) := by
  have hk := h5.miss hm hv
  have nd' : (ks ++ [k]).Nodup := by
    rw [List.nodup_append]
    refine ⟨nd, by simp, fun x hx y hy => ?_⟩
    rw [List.mem_singleton] at hy
    subst hy
    intro z
    subst z
    exact hk hx
  have ck : ∀ f x y, k = .nd f x y → x ∈ ks ∧ y ∈ ks := fun f x y e => ⟨List.mem_of_getElem? (hab f x y e).1, List.mem_of_getElem? (hab f x y e).2⟩
  have lsh := pr_len h2
  refine ⟨⟨putK kvs m (.int (sh.length : Int)), sh ++ [v], pa ++ [.ref pr], as ++ [wa], ?_, pr_app h2 (.cons ka .nil), ⟨by simp [h3.1], fun i k' e => ?_⟩, pr_app ?_ (.cons hw .nil), ?_⟩, nd', fun f x y e => ?_, fun k' e => ?_, fun c hc => ?_⟩
  · have e1 : (ks.map fun k => V.int (sm (wtT ls) k)) = ks.map fun k => V.int (sm (wtT (ls ++ l)) k) := List.map_congr_left fun x hx => by rw [sm_app (le x hx)]
    rw [e1] at t
    simp only [List.map_append, List.map_cons, List.map_nil]
    rw [← hs]
    exact t
  · by_cases hi : i < ks.length
    · rw [List.getElem?_append_left hi] at e
      obtain ⟨a', m', n', p1, p2, p3⟩ := h3.2 i k' e
      exact ⟨a', m', n', get_app p1, p2, fun f x y z => ⟨get_app (p3 f x y z).1, get_app (p3 f x y z).2⟩⟩
    · have : i = ks.length := by
        have := (List.getElem?_eq_some_iff.mp e).1
        simp at this
        omega
      subst this
      simp at e
      subst e
      exact ⟨pr, a, b, by rw [← h3.1]; simp, hp, fun f x y z => ⟨get_app (hab f x y z).1, get_app (hab f x y z).2⟩⟩
  · clear lp lp' t h3 h5 hm hv hab ck nd' hk nd cl hp ka h2 lsh
    induction h4 with
    | nil => exact .nil
    | cons hq _ ih =>
      refine .cons ?_ (ih fun k' e => le k' (List.mem_cons_of_mem _ e))
      rw [nf_app (le _ (List.mem_cons_self ..))]
      exact hq
  · rw [lsh]
    exact h5.add hm hv nd' cl ck
  · rcases List.mem_append.mp e with z | z
    · obtain ⟨p1, p2⟩ := cl f x y z
      exact ⟨List.mem_append_left _ p1, List.mem_append_left _ p2⟩
    · rw [List.mem_singleton] at z
      obtain ⟨p1, p2⟩ := ck f x y z.symm
      exact ⟨List.mem_append_left _ p1, List.mem_append_left _ p2⟩
  · rcases List.mem_append.mp e with z | z
    · exact Kd.all_mono (fun c hc => List.mem_append_left _ hc) k' (le k' z)
    · rw [List.mem_singleton] at z
      subst z
      exact hl
  · rcases List.mem_append.mp hc with z | z
    · exact List.mem_append_left _ (lp c z)
    · exact lp' c z
end WW
/-! letters_of, number, prove's numbers. -/
namespace WW
open PySem PySem.Spec PyProof.Rows L2
theorem at_map {α : Type} {l : List α} {f : α → V} {i : Nat} {x : α} (h : l[i]? = some x) : atI (l.map f) (i : Int) = some (f x) := atI_nat (by rw [List.getElem?_map, h]; rfl)
section
variable {P : Program} {w : World} {K : PySem.W.Frag} {mg : Str → Option Value} {base : Heap} {fd : Nat → FuncData}
def spLet : Sp := fun vs H Q _ => ∃ (A : Ad) (ls : List Nat) (ks : List Kd) (m : Addr) (f : Fm) (i j : Nat) (x y : Kd), vs = [.ref A.t, .ref m] ∧ Tb (tC' K) A H ls ks ∧ H m = some (.tup [.str (fstr f), .int (i : Int), .int (j : Int)]) ∧ ks[i]? = some x ∧ ks[j]? = some y ∧ x.size + y.size ≤ 500 ∧
  ∀ t wa H', Ch No H H' → H' t = some (.tup [.int (sm (wtT ls) (.nd f x y)), .ref wa, .str (coreS (.nd f x y))]) → WA H' wa (nf (numT ls) (.nd f x y)) → Q (.ref t) H'
theorem ok_let (T : TX w K mg fd) : FnOk P w K mg base CX0 2 (He.ma K (He.ga K "Table") "letters_of") (fd 11) P_Table_letters_of (spLet (K := K)) := by
  refine T.d_Table_letters_of.ok sc_Table_letters_of (fun vs H Q E h => ?_) (fun cdv A outer s H vs Q E hr h => ?_)
  · obtain ⟨A, ls, ks, m, f, i, j, x, y, rfl, _⟩ := h
    rfl
  obtain ⟨A, ls, ks, m, f, i, j, x, y, rfl, tb, hm, hi, hj, hz, q⟩ := h
  have GJ := ok_join (P := P) (base := base) T
  have GB := ok_back (P := P) (base := base) T
  refine ⟨_, pss_cons (ps_asg (pv 1) (pg_tup rfl (pgs_cons (pg_name (i := 2) sc_Table_letters_of.nd rfl (Or.inl rfl)) (pgs_cons (pg_name (i := 3) sc_Table_letters_of.nd rfl (Or.inl rfl)) (pgs_cons (pg_name (i := 4) sc_Table_letters_of.nd rfl (Or.inl rfl)) pgs_nil)))))
    (pss_cons (ps_par (i := 5) (j := 6) rfl sc_Table_letters_of.nd rfl rfl (by decide) rfl rfl (pa_cons (pe_ix ix_list (pe_fld (pv 0) rfl) (pv 3) (fun _ _ => rfl)) (pa_cons (pe_ix ix_list (pe_fld (pv 0) rfl) (pv 4) (fun _ _ => rfl)) pa_nil)) (by rfl))
    (pss_cons (ps_if (pt_cmpR op_eq (pv 2) pe_str (nomark _)) (pss_one (ps_ret (pe_tup (pa_cons (pe_op op_add (pe_ix ix_list (pe_fld (pv 0) rfl) (pv 3) (fun _ _ => rfl)) (pe_ix ix_list (pe_fld (pv 0) rfl) (pv 4) (fun _ _ => rfl)))
        (pa_cons (pe_call GJ hr rfl T.g_joined_words T.d_joined_words.kp T.d_joined_words.b .nil pass0 (pa_cons (pv 5) (pa_cons (pv 6) pa_nil))) (pa_cons pe_str pa_nil)))))) pss_nil)
    (pss_cons (ps_if (pt_cmpR op_eq (pv 2) pe_str (nomark _)) (pss_one (ps_ret (pe_tup (pa_cons (pe_op op_sub (pe_ix ix_list (pe_fld (pv 0) rfl) (pv 3) (fun _ _ => rfl)) (pe_ix ix_list (pe_fld (pv 0) rfl) (pv 4) (fun _ _ => rfl)))
        (pa_cons (pe_call GJ hr rfl T.g_joined_words T.d_joined_words.kp T.d_joined_words.b .nil pass0 (pa_cons (pv 5) (pa_cons (pe_call GB hr rfl T.g_back_word T.d_back_word.kp T.d_back_word.b .nil pass0 (pa_cons (pv 6) pa_nil)) pa_nil))) (pa_cons (pe_ix ix_list (pe_fld (pv 0) rfl) (pv 3) (fun _ _ => rfl)) pa_nil)))))) pss_nil)
    (pss_one (ps_ret (pe_tup (pa_cons (pe_op op_sub (pe_ix ix_list (pe_fld (pv 0) rfl) (pv 4) (fun _ _ => rfl)) (pe_ix ix_list (pe_fld (pv 0) rfl) (pv 3) (fun _ _ => rfl)))
        (pa_cons (pe_call GJ hr rfl T.g_joined_words T.d_joined_words.kp T.d_joined_words.b .nil pass0 (pa_cons (pe_call GB hr rfl T.g_back_word T.d_back_word.kp T.d_back_word.b .nil pass0 (pa_cons (pv 5) pa_nil)) (pa_cons (pv 6) pa_nil))) (pa_cons (pe_ix ix_list (pe_fld (pv 0) rfl) (pv 4) (fun _ _ => rfl)) pa_nil))))))))), ?_⟩
  obtain ⟨kvs, sh, pa, as, tr, h2, h3, h4, h5⟩ := tb.ex
  have hla := pr_len h4
  have eai := List.getElem?_eq_getElem (l := as) (i := i) (by rw [hla]; exact (List.getElem?_eq_some_iff.mp hi).1)
  have eaj := List.getElem?_eq_getElem (l := as) (i := j) (by rw [hla]; exact (List.getElem?_eq_some_iff.mp hj).1)
  obtain ⟨_, gi, wi⟩ := pr_at h4 eai
  obtain ⟨_, gj, wj⟩ := pr_at h4 eaj
  obtain rfl := Option.some.inj (hi.symm.trans gi)
  obtain rfl := Option.some.inj (hj.symm.trans gj)
  have hx := nf_length (numT ls) x
  have hy := nf_length (numT ls) y
  have rx := nf_red (numT ls) x
  have ry := nf_red (numT ls) y
  have su : ∀ {i : Nat} {x : Kd}, ks[i]? = some x → atI (ks.map fun k => V.int (sm (wtT ls) k)) (i : Int) = some (.int (sm (wtT ls) x)) := fun h => at_map h
  have co : ∀ {i : Nat} {x : Kd}, ks[i]? = some x → atI (ks.map fun k => V.str (coreS k)) (i : Int) = some (.str (coreS x)) := fun h => at_map h
  refine ⟨_, rfl, m, _, rfl, SqT.of hm, rfl, _, _, rfl, _, _, rfl, _, _, rfl, rfl, ?_⟩
  refine ⟨_, rfl, A.t, _, _, _, _, rfl, tr.ins, T.c_Table, T.n_spelled, rfl, _, rfl, A.asp, _, _, _, rfl, rfl, SqL.of tr.lsp, at_map eai, _, rfl, A.t, _, _, _, _, rfl, tr.ins, T.c_Table, T.n_spelled, rfl, _, rfl, A.asp, _, _, _, rfl, rfl, SqL.of tr.lsp, at_map eaj, _, _, rfl, ?_⟩
  cases f with
  | w =>
    refine ⟨_, rfl, rfl, _, rfl, iteT ?_⟩
    refine ⟨_, rfl, A.t, _, _, _, _, rfl, tr.ins, T.c_Table, T.n_sums, rfl, _, rfl, A.asu, _, _, _, rfl, rfl, SqL.of tr.lsu, su hi, _, rfl, A.t, _, _, _, _, rfl, tr.ins, T.c_Table, T.n_sums, rfl, _, rfl, A.asu, _, _, _, rfl, rfl, SqL.of tr.lsu, su hj, _, _, rfl, rfl, ?_⟩
    refine ⟨_, rfl, _, rfl, _, _, _, _, rfl, wi, wj, rx, ry, by omega, fun t1 H1 c1 w1 => ⟨by show 3 ≤ sizeLine; decide, fun r hr' => ?_⟩⟩
    exact q r t1 _ (c1.trans (Ch.new hr')) upd_same (w1.mono (Ch.new (S := No) hr'))
  | b =>
    refine ⟨_, rfl, rfl, _, rfl, iteF ?_⟩
    refine ⟨_, rfl, rfl, _, rfl, iteT ?_⟩
    refine ⟨_, rfl, A.t, _, _, _, _, rfl, tr.ins, T.c_Table, T.n_sums, rfl, _, rfl, A.asu, _, _, _, rfl, rfl, SqL.of tr.lsu, su hi, _, rfl, A.t, _, _, _, _, rfl, tr.ins, T.c_Table, T.n_sums, rfl, _, rfl, A.asu, _, _, _, rfl, rfl, SqL.of tr.lsu, su hj, _, _, rfl, rfl, ?_⟩
    refine ⟨_, rfl, _, rfl, _, _, rfl, wj, by omega, fun t0 H0 c0 w0 => ?_⟩
    refine ⟨_, _, _, _, rfl, wi.mono c0, w0, rx, ry.inv, by rw [inv_length]; omega, fun t1 H1 c1 w1 => ?_⟩
    have tr1 := tr.mono (c0.trans c1) fun _ _ h => h
    refine ⟨_, rfl, A.t, _, _, _, _, rfl, tr1.ins, T.c_Table, T.n_cores, rfl, _, rfl, A.aco, _, _, _, rfl, rfl, SqL.of tr1.lco, co hi, by show 3 ≤ sizeLine; decide, fun r hr' => ?_⟩
    exact q r t1 _ ((c0.trans c1).trans (Ch.new hr')) upd_same (w1.mono (Ch.new (S := No) hr'))
  | a =>
    refine ⟨_, rfl, rfl, _, rfl, iteF ?_⟩
    refine ⟨_, rfl, rfl, _, rfl, iteF ?_⟩
    refine ⟨_, rfl, A.t, _, _, _, _, rfl, tr.ins, T.c_Table, T.n_sums, rfl, _, rfl, A.asu, _, _, _, rfl, rfl, SqL.of tr.lsu, su hj, _, rfl, A.t, _, _, _, _, rfl, tr.ins, T.c_Table, T.n_sums, rfl, _, rfl, A.asu, _, _, _, rfl, rfl, SqL.of tr.lsu, su hi, _, _, rfl, rfl, ?_⟩
    refine ⟨_, rfl, _, _, rfl, wi, by omega, fun t0 H0 c0 w0 => ?_⟩
    refine ⟨_, rfl, _, _, _, _, rfl, w0, wj.mono c0, rx.inv, ry, by rw [inv_length]; omega, fun t1 H1 c1 w1 => ?_⟩
    have tr1 := tr.mono (c0.trans c1) fun _ _ h => h
    refine ⟨_, rfl, A.t, _, _, _, _, rfl, tr1.ins, T.c_Table, T.n_cores, rfl, _, rfl, A.aco, _, _, _, rfl, rfl, SqL.of tr1.lco, co hj, by show 3 ≤ sizeLine; decide, fun r hr' => ?_⟩
    exact q r t1 _ ((c0.trans c1).trans (Ch.new hr')) upd_same (w1.mono (Ch.new (S := No) hr'))
def spNum (L : Nat) : Sp := fun vs H Q _ => ∃ (A : Ad) (ls : List Nat) (ks : List Kd) (v : V) (k : Kd), vs = [.ref A.t, v] ∧ Tb (tC' K) A H ls ks ∧ KA H v k ∧ k.size ≤ L ∧ k.size ≤ 200 ∧ ks.length + 2 * k.size ≤ 900 ∧ ls.length + k.size ≤ 900 ∧
  ∀ (i : Nat) l m H', Ch (inT A) H H' → Tb (tC' K) A H' (ls ++ l) (ks ++ m) → (ks ++ m)[i]? = some k → m.length < 2 * k.size → l.length ≤ k.size → Q (.int (i : Int)) H'
theorem no_inT {A : Ad} {H : Hp} {C : Addr} {kvs : List (List Key × V)} {sh fo pa su sp co : List V} {we me : Int} (h : TR C A H kvs sh fo pa su sp co we me) : ∀ b, inT A b → ∀ xs, H b ≠ some (.tup xs) := by
  intro b hb xs e
  unfold inT at hb
  rcases hb with rfl | rfl | rfl | rfl | rfl | rfl | rfl | rfl
  · rw [h.ins] at e; cases e
  · rw [h.m] at e; cases e
  · rw [h.lsh] at e; cases e
  · rw [h.lfo] at e; cases e
  · rw [h.lpa] at e; cases e
  · rw [h.lsu] at e; cases e
  · rw [h.lsp] at e; cases e
  · rw [h.lco] at e; cases e
theorem putF_met (A : Ad) (we me z : Int) : putF "met" (.int z) (flds A we me) = flds A we z := by rfl
theorem putF_weight (A : Ad) (we me z : Int) : putF "weight" (.int z) (flds A we me) = flds A z me := by rfl
theorem wt_mul {n : Nat} (hn : n ≤ 1000) : CMulW (4096 ^ n) 4096 := by
  have e : ((4096 : Int) ^ n).natAbs = 4096 ^ n := by
    rw [Int.natAbs_pow]
    rfl
  have h : (4096 : Nat) ^ n < 2 ^ (12 * n + 1) := by
    rw [show (4096 : Nat) = 2 ^ 12 by decide, ← Nat.pow_mul]
    exact Nat.pow_lt_pow_right (by decide) (by omega)
  exact wide_mul (a := 12 * n + 1) (b := 13) (by rw [e]; exact h) (by decide) (by omega) (by decide) (by omega)
theorem ok_num (T : TX w K mg fd) : ∀ L, FnOk P w K mg base CX0 (L + 2) (He.ma K (He.ga K "Table") "number") (fd 9) P_Table_number (spNum (K := K) L)
  | 0 => fnOk_none fun vs H Q E ⟨A, ls, ks, v, k, _, _, _, h, _⟩ => by have := k.size_pos; omega
  | L + 1 => by
    have ih := ok_num T L
    refine T.d_Table_number.ok sc_Table_number (fun vs H Q E h => ?_) (fun cdv A0 outer s H vs Q E hr h => ?_)
    · obtain ⟨A, ls, ks, v, k, rfl, _⟩ := h
      rfl
    obtain ⟨A, ls, ks, v, k, rfl, tb, ka, hs, h200, n1, n2, q⟩ := h
    have GK := ok_keep (P := P) (base := base) T
    have GL := ok_let (P := P) (base := base) T
    have hu := hu_of hr
    have hr1 := hr.mono (show 1 ≤ L + 2 by omega)
    have hr2 := hr.mono (show 2 ≤ L + 2 by omega)
    obtain ⟨tS, mS⟩ := T.i_STEP
    refine ⟨_, pss_cons (ps_if (pt_cmpR op_eq (pe_ix ix_tup (pv 1) pe_int (fun _ _ => rfl)) pe_str (nomark _))
        (pss_cons (ps_set (i := 2) sc_Table_number.nd rfl (Or.inl rfl) (pe_tup (pa_cons pe_str (pa_cons (pe_ix ix_tup (pv 1) pe_int (fun _ _ => rfl)) pa_nil))))
        (pss_cons (ps_if (pt_cmp (pc_dnotin hu (pv 2) (pe_fld (pv 0) rfl)))
          (pss_cons (ps_fldaug (pv 0) pe_int in_add)
          (pss_cons (ps_expr (pe_meth (pv 0) T.c_Table T.m_keep GK hr1 T.d_Table_keep.b .nil pass0 (pa_cons (pv 2) (pa_cons (pv 1) (pa_cons (pe_tup (pa_cons pe_int (pa_cons pe_int pa_nil)))
            (pa_cons (pe_tup (pa_cons (pe_fld (pv 0) rfl) (pa_cons (pe_tup (pa_cons (pe_fld (pv 0) rfl) pa_nil)) (pa_cons (pe_ix ix_tup (pv 1) pe_int (fun _ _ => rfl)) pa_nil)))) pa_nil))))))
          (pss_one (ps_fldaug (pv 0) (pe_glob (v := .int 4096) rfl mS ⟨_, rfl⟩) in_mulW)))) pss_nil)
        (pss_one (ps_ret (pe_dget hu (pe_fld (pv 0) rfl) (pv 2) (fun _ _ => rfl)))))) pss_nil)
      (pss_cons (ps_set (i := 2) sc_Table_number.nd rfl (Or.inl rfl) (pe_tup (pa_cons (pe_ix ix_tup (pv 1) pe_int (fun _ _ => rfl))
          (pa_cons (pe_meth (pv 0) T.c_Table T.m_number ih hr T.d_Table_number.b .nil pass0 (pa_cons (pe_ix ix_tup (pv 1) pe_int (fun _ _ => rfl)) pa_nil))
          (pa_cons (pe_meth (pv 0) T.c_Table T.m_number ih hr T.d_Table_number.b .nil pass0 (pa_cons (pe_ix ix_tup (pv 1) pe_int (fun _ _ => rfl)) pa_nil)) pa_nil)))))
      (pss_cons (ps_if (pt_cmp (pc_dnotin hu (pv 2) (pe_fld (pv 0) rfl)))
          (pss_one (ps_expr (pe_meth (pv 0) T.c_Table T.m_keep GK hr1 T.d_Table_keep.b .nil pass0 (pa_cons (pv 2) (pa_cons (pv 1) (pa_cons (pe_tup (pa_cons (pe_ix ix_tup (pv 2) pe_int (fun _ _ => rfl)) (pa_cons (pe_ix ix_tup (pv 2) pe_int (fun _ _ => rfl)) pa_nil)))
            (pa_cons (pe_meth (pv 0) T.c_Table T.m_letters_of GL hr2 T.d_Table_letters_of.b .nil pass0 (pa_cons (pv 2) pa_nil)) pa_nil))))))) pss_nil)
        (pss_one (ps_ret (pe_dget hu (pe_fld (pv 0) rfl) (pv 2) (fun _ _ => rfl)))))), ?_⟩
    cases k with
    | pl c =>
      obtain ⟨a, rfl, h1, lc⟩ := ka.pl_inv
      obtain ⟨kvs, sh, pa, as, tr, h2, h3, h4, h5⟩ := tb.ex
      refine ⟨_, rfl, a, _, _, _, rfl, rfl, SqT.of h1, atI_nat (j := 0) rfl, rfl, _, rfl, iteT ?_⟩
      refine ⟨_, rfl, a, _, _, _, rfl, rfl, SqT.of h1, atI_nat (j := 1) rfl, by show 2 ≤ sizeLine; decide, fun m hm => ?_⟩
      have c1 : Ch No H (upd H m (.tup [.str "plain", .str (chr1 c)])) := Ch.new hm
      have m1 : (upd H m (.tup [V.str "plain", .str (chr1 c)])) m = some (.tup ((([.inr "plain", .inr (chr1 c)] : List Key)).map kV)) := upd_same
      have t1 := tr.mono c1 fun _ _ h => h
      have im : IsMark ks (.pl c) [.inr "plain", .inr (chr1 c)] := rfl
      have lsh := pr_len h2
      have es : (Kd.pl c).size = 1 := rfl
      rw [es] at n1 n2 q
      generalize upd H m (.tup [V.str "plain", .str (chr1 c)]) = H1 at c1 m1 t1 ⊢
      refine ⟨_, rfl, _, rfl, A.t, _, _, _, _, rfl, t1.ins, T.c_Table, T.n_marks, rfl, A.am, _, rfl, DGet.t t1.m m1, _, rfl, ?_⟩
      cases e : valV kvs [.inr "plain", .inr (chr1 c)] with
      | some v =>
        refine iteF ?_
        obtain ⟨i, hi, rfl⟩ := h5.hit im e
        refine ⟨_, rfl, A.t, _, _, _, _, rfl, t1.ins, T.c_Table, T.n_marks, rfl, _, rfl, A.am, _, rfl, by rw [← e]; exact DGet.t t1.m m1, ?_⟩
        have tb1 := tb.mono c1 fun _ _ h => h
        exact q i [] [] H1 c1.any (by rw [List.append_nil, List.append_nil]; exact tb1) (by rw [List.append_nil]; exact hi) (by decide) (by decide)
      | none =>
        refine iteT ?_
        have hc : c ∉ ls := fun z => h5.miss im e (tb.lp c z)
        refine ⟨_, rfl, A.t, _, _, _, _, rfl, t1.ins, T.c_Table, T.n_met, rfl, _, _, rfl, rfl, _, _, t1.ins, by show (10 : Nat) < 1000; decide, ?_⟩
        rw [putF_met]
        have t2 := t1.put_t (4096 ^ ls.length) ((ls.length : Int) + 1)
        have c2 : Ch (inT A) H1 (upd H1 A.t (.ins (tC' K) A.dx (flds A (4096 ^ ls.length) ((ls.length : Int) + 1)))) := Ch.put (by simp [inT]) t1.ins fun _ z => nomatch z
        have a2 := c2.2 _ _ (c1.get h1)
        have m2 := c2.2 _ _ m1
        have c12 := (c1.any (T := inT A)).trans c2
        generalize upd H1 A.t (.ins (tC' K) A.dx (flds A (4096 ^ ls.length) ((ls.length : Int) + 1))) = H2 at t2 c2 a2 m2 c12 ⊢
        refine ⟨_, rfl, A.t, A.dx, _, rfl, t2.ins, rfl, _, rfl, _, rfl, by show 2 ≤ sizeLine; decide, fun p hp => ?_⟩
        have c3 : Ch No H2 (upd H2 p (.tup [.int 0, .int 0])) := Ch.new hp
        have p3 : (upd H2 p (.tup [V.int 0, .int 0])) p = some (.tup [.int ((0 : Nat) : Int), .int ((0 : Nat) : Int)]) := upd_same
        have t3 := t2.mono c3 fun _ _ h => h
        generalize upd H2 p (.tup [V.int 0, .int 0]) = H3 at c3 p3 t3 ⊢
        refine ⟨_, rfl, A.t, _, _, _, _, rfl, t3.ins, T.c_Table, T.n_weight, rfl, _, rfl, A.t, _, _, _, _, rfl, t3.ins, T.c_Table, T.n_met, rfl, by show 1 ≤ sizeLine; decide, fun wd hwd => ?_⟩
        have c4 : Ch No H3 (upd H3 wd (.tup [.int ((ls.length : Int) + 1)])) := Ch.new hwd
        have w4 : (upd H3 wd (.tup [.int ((ls.length : Int) + 1)])) wd = some (.tup [.int ((ls.length : Int) + 1)]) := upd_same
        have t4 := t3.mono c4 fun _ _ h => h
        generalize upd H3 wd (.tup [.int ((ls.length : Int) + 1)]) = H4 at c4 w4 t4 ⊢
        refine ⟨_, rfl, a, _, _, _, rfl, rfl, SqT.of ((c3.trans c4).get a2), atI_nat (j := 1) rfl, by show 3 ≤ sizeLine; decide, fun to hto => ?_⟩
        have c5 : Ch No H4 (upd H4 to (.tup [.int (4096 ^ ls.length), .ref wd, .str (chr1 c)])) := Ch.new hto
        have o5 : (upd H4 to (.tup [.int (4096 ^ ls.length), .ref wd, .str (chr1 c)])) to = some (.tup [.int (4096 ^ ls.length), .ref wd, .str (chr1 c)]) := upd_same
        have t5 := t4.mono c5 fun _ _ h => h
        generalize upd H4 to (.tup [.int (4096 ^ ls.length), .ref wd, .str (chr1 c)]) = H5 at c5 o5 t5 ⊢
        have c35 := (c3.trans c4).trans c5
        refine ⟨A, kvs, sh, _, pa, _, _, _, _, _, m, a, p, to, _, _, _, _, _, _, rfl, t5, c35.get m2, c35.get a2, o5, by have := h5.n; omega, by omega, by simp; omega, by have := h3.1; omega, by simp; omega, by simp; rw [pr_len h4]; omega, by simp; omega, fun H6 c6 t6 => ?_⟩
        refine ⟨_, rfl, A.t, _, _, _, _, rfl, t6.ins, T.c_Table, T.n_weight, rfl, _, _, rfl, rfl, wt_mul (by omega), _, _, t6.ins, by show (10 : Nat) < 1000; decide, ?_⟩
        rw [putF_weight]
        have t7 := t6.put_t (4096 ^ ls.length * 4096) ((ls.length : Int) + 1)
        have c7 : Ch (inT A) H6 (upd H6 A.t (.ins (tC' K) A.dx (flds A (4096 ^ ls.length * 4096) ((ls.length : Int) + 1)))) := Ch.put (by simp [inT]) t6.ins fun _ z => nomatch z
        generalize upd H6 A.t (.ins (tC' K) A.dx (flds A (4096 ^ ls.length * 4096) ((ls.length : Int) + 1))) = H7 at t7 c7 ⊢
        have c57 := c6.trans c7
        have c27 := (c35.any (T := inT A)).trans c57
        have cH := c12.trans c27
        refine ⟨_, rfl, A.t, _, _, _, _, rfl, t7.ins, T.c_Table, T.n_marks, rfl, _, rfl, A.am, .int (sh.length : Int), rfl, ?_, ?_⟩
        · have := DGet.t t7.m (c27.2 _ _ m2)
          rw [valV_put, if_pos rfl] at this
          exact this
        have e1 : (4096 : Int) ^ (ls ++ [c]).length = 4096 ^ ls.length * 4096 := by
          rw [List.length_append]
          exact Int.pow_succ 4096 ls.length
        have e2 : ((ls ++ [c]).length : Int) = (ls.length : Int) + 1 := by simp
        rw [lsh]
        refine q ks.length [c] [.pl c] H7 cH ?_ (by simp) (by show (1 : Nat) < 2; decide) (by show (1 : Nat) ≤ 1; decide)
        refine Tb.add (k := .pl c) (pr := p) (wa := wd) (a := 0) (b := 0) (m := [.inr "plain", .inr (chr1 c)]) (v := .ref a) (s := 4096 ^ ls.length) (by rw [e1, e2]; exact t7) (h2.mono cH) (h3.mono cH) (Paired.mapP h4 fun _ _ z => z.mono cH) h5 tb.nd tb.cl tb.le (ka.mono cH) im e (((c4.trans c5).any (T := inT A)).trans c57 |>.2 _ _ p3) (fun f x y z => by cases z) ?_ ?_ (List.mem_append_right _ (List.mem_singleton.mpr rfl)) tb.lp ?_
        · show _ = wtT (ls ++ [c]) c
          unfold wtT
          rw [idx_new hc]
        · show H7 wd = some (.tup [.int (numT (ls ++ [c]) c)])
          unfold numT
          rw [idx_new hc]
          exact ((c5.any (T := inT A)).trans c57).2 _ _ w4
        · intro d hd
          rw [List.mem_singleton] at hd
          subst hd
          simp
    | nd f x y =>
      obtain ⟨a, u, t, rfl, h1, kx, ky⟩ := ka.nd_inv
      have px := x.size_pos
      have py := y.size_pos
      have es : (Kd.nd f x y).size = x.size + y.size := rfl
      rw [es] at hs h200 n1 n2 q
      obtain ⟨_, _, _, _, tr0, _⟩ := tb.ex
      refine ⟨_, rfl, a, _, _, _, rfl, rfl, SqT.of h1, atI_nat (j := 0) rfl, rfl, _, rfl, ?_⟩
      rw [fm_plain]
      refine iteF ?_
      refine ⟨_, rfl, a, _, _, _, rfl, rfl, SqT.of h1, atI_nat (j := 0) rfl, _, rfl, A.t, A.dx, _, rfl, tr0.ins, rfl, _, rfl, a, _, _, _, rfl, rfl, SqT.of h1, atI_nat (j := 1) rfl, A, ls, ks, u, x, rfl, tb, kx, by omega, by omega, by omega, by omega, fun i l1 m1 H1 c1 tb1 g1 z1 z1' => ?_⟩
      obtain ⟨_, _, _, _, tr1, _⟩ := tb1.ex
      have a1 := c1.2 _ _ h1
      refine ⟨_, rfl, A.t, A.dx, _, rfl, tr1.ins, rfl, _, rfl, a, _, _, _, rfl, rfl, SqT.of a1, atI_nat (j := 2) rfl, A, ls ++ l1, ks ++ m1, t, y, rfl, tb1, ky.mono c1, by omega, by omega, by simp; omega, by simp; omega, fun j l2 m2 H2 c2 tb2 g2 z2 z2' => ?_⟩
      have a2 := c2.2 _ _ a1
      refine ⟨by show 3 ≤ sizeLine; decide, fun m hm => ?_⟩
      have g1' := get_app (m := m2) g1
      have c3 : Ch No H2 (upd H2 m (.tup [.str (fstr f), .int (i : Int), .int (j : Int)])) := Ch.new hm
      have m3 : (upd H2 m (.tup [.str (fstr f), .int (i : Int), .int (j : Int)])) m = some (.tup [.str (fstr f), .int (i : Int), .int (j : Int)]) := upd_same
      have tb3 := tb2.mono c3 fun _ _ h => h
      generalize upd H2 m (.tup [.str (fstr f), .int (i : Int), .int (j : Int)]) = H3 at c3 m3 tb3 ⊢
      have c03 := (c1.trans c2).trans (c3.any (T := inT A))
      have hlen : (ks ++ m1 ++ m2).length + 1 ≤ ks.length + 2 * (x.size + y.size) - 1 := by simp; omega
      obtain ⟨kvs, sh, pa, as, t3, h2, h3, h4, h5⟩ := tb3.ex
      have lsh := pr_len h2
      have im : IsMark (ks ++ m1 ++ m2) (.nd f x y) [.inr (fstr f), .inl (i : Int), .inl (j : Int)] := ⟨i, j, g1', g2, rfl⟩
      refine ⟨_, rfl, _, rfl, A.t, _, _, _, _, rfl, t3.ins, T.c_Table, T.n_marks, rfl, A.am, _, rfl, DGet.t (k := [.inr (fstr f), .inl (i : Int), .inl (j : Int)]) t3.m m3, _, rfl, ?_⟩
      cases e : valV kvs [.inr (fstr f), .inl (i : Int), .inl (j : Int)] with
      | some v =>
        refine iteF ?_
        obtain ⟨i0, hi, rfl⟩ := h5.hit im e
        refine ⟨_, rfl, A.t, _, _, _, _, rfl, t3.ins, T.c_Table, T.n_marks, rfl, _, rfl, A.am, _, rfl, by rw [← e]; exact DGet.t (k := [.inr (fstr f), .inl (i : Int), .inl (j : Int)]) t3.m m3, ?_⟩
        exact q i0 (l1 ++ l2) (m1 ++ m2) H3 c03 (by rw [← List.append_assoc, ← List.append_assoc]; exact tb3) (by rw [← List.append_assoc]; exact hi) (by simp; omega) (by simp; omega)
      | none =>
        refine iteT ?_
        refine ⟨_, rfl, A.t, A.dx, _, rfl, t3.ins, rfl, _, rfl, _, rfl, _, rfl, m, _, _, _, rfl, rfl, SqT.of m3, atI_nat (j := 1) rfl, _, rfl, m, _, _, _, rfl, rfl, SqT.of m3, atI_nat (j := 2) rfl, by show 2 ≤ sizeLine; decide, fun p hp => ?_⟩
        have c4 : Ch No H3 (upd H3 p (.tup [.int (i : Int), .int (j : Int)])) := Ch.new hp
        have p4 : (upd H3 p (.tup [V.int (i : Int), .int (j : Int)])) p = some (.tup [.int (i : Int), .int (j : Int)]) := upd_same
        have tb4 := tb3.mono c4 fun _ _ h => h
        have t4 := t3.mono c4 fun _ _ h => h
        generalize upd H3 p (.tup [V.int (i : Int), .int (j : Int)]) = H4 at c4 p4 t4 tb4 ⊢
        refine ⟨_, rfl, A.t, A.dx, _, rfl, t4.ins, rfl, _, rfl, A, ls ++ l1 ++ l2, ks ++ m1 ++ m2, m, f, i, j, x, y, rfl, tb4, c4.get m3, g1', g2, by omega, fun to wa H5 c5 o5 w5 => ?_⟩
        have t5 := t4.mono c5 fun _ _ h => h
        refine ⟨A, kvs, sh, _, pa, _, _, _, _, _, m, a, p, to, [.inr (fstr f), .inl (i : Int), .inl (j : Int)], _, _, _, _, _, rfl, t5, (c4.trans c5).get m3, (c3.trans (c4.trans c5)).get a2, o5, by have := h5.n; omega, by omega, by simp at hlen ⊢; omega, by have := h3.1; omega, by simp at hlen ⊢; omega, by simp; rw [pr_len h4]; omega, by simp at hlen ⊢; omega, fun H6 c6 t6 => ?_⟩
        have c36 := ((c4.trans c5).any (T := inT A)).trans c6
        refine ⟨_, rfl, A.t, _, _, _, _, rfl, t6.ins, T.c_Table, T.n_marks, rfl, _, rfl, A.am, .int (sh.length : Int), rfl, ?_, ?_⟩
        · have := DGet.t (k := [.inr (fstr f), .inl (i : Int), .inl (j : Int)]) t6.m (c36.2 _ _ m3)
          rw [valV_put, if_pos rfl] at this
          exact this
        rw [lsh]
        have cH := c03.trans c36
        refine q _ (l1 ++ l2) (m1 ++ m2 ++ [.nd f x y]) H6 cH ?_ (by rw [← List.append_assoc, ← List.append_assoc]; simp) (by simp; omega) (by simp; omega)
        have fin : Tb (tC' K) A H6 (ls ++ l1 ++ l2 ++ []) (ks ++ m1 ++ m2 ++ [.nd f x y]) := by
          refine Tb.add (k := .nd f x y) (pr := p) (wa := wa) (a := i) (b := j) (m := [.inr (fstr f), .inl (i : Int), .inl (j : Int)]) (v := .ref a) (s := sm (wtT (ls ++ l1 ++ l2)) (.nd f x y)) (by rw [List.append_nil]; exact t6) (h2.mono c36) (h3.mono c36) (Paired.mapP h4 fun _ _ z => z.mono c36) h5 tb3.nd tb3.cl tb3.le (ka.mono cH) im e ((c5.any (T := inT A)).trans c6 |>.2 _ _ p4) (fun f' x' y' z => ?_) (by rw [List.append_nil]) ?_ ?_ tb3.lp ?_
          · injection z with z1 z2 z3
            subst z1 z2 z3
            exact ⟨g1', g2⟩
          · rw [List.append_nil]
            exact c6.2 _ _ w5
          · rw [List.append_nil]
            exact ⟨tb3.le x (List.mem_of_getElem? g1'), tb3.le y (List.mem_of_getElem? g2)⟩
          · intro d hd
            cases hd
        rw [List.append_nil] at fin
        rw [← List.append_assoc, ← List.append_assoc, ← List.append_assoc]
        exact fin
end
end WW
/-! Table.__init__ (printed by gen_new.py). -/
namespace WW
open PySem PySem.Spec PyProof.Rows L2
section
variable {P : Program} {w : World} {K : PySem.W.Frag} {mg : Str → Option Value} {base : Heap} {fd : Nat → FuncData}
def spNew (P : Program) (w : World) (K : PySem.W.Frag) : Sp := fun vs H Q _ => ∃ (x dx : Addr), vs = [.ref x] ∧ H x = some (.ins (tC' K) dx []) ∧ H dx = some (.own x) ∧
  ∀ (A : Ad) H', A.t = x → (∀ b, (inT A b ∨ b = A.ak) → b ≠ x → H b = none) → Ch (· = x) H H' → Tb (tC' K) A H' [] [] → ND P w H' A.ak [] → Q .non H'
theorem ok_new (T : TX w K mg fd) : FnOk P w K mg base CX0 1 (He.ma K (He.ga K "Table") "__init__") (fd 8) P_Table_new (spNew P w K) := by
  refine T.d_Table_new.ok sc_Table_new (fun vs H Q E h => ?_) (fun cdv A0 outer s H vs Q E hr h => ?_)
  · obtain ⟨x, dx, rfl, _⟩ := h
    rfl
  obtain ⟨x, dx, rfl, hx0, hdx0, q⟩ := h
  refine ⟨_, pss_cons (ps_fld (pv 0) pe_dnewT rfl) (pss_cons (ps_fld (pv 0) (pe_lst pa_nil) rfl) (pss_cons (ps_fld (pv 0) (pe_lst pa_nil) rfl) (pss_cons (ps_fld (pv 0) (pe_lst pa_nil) rfl) (pss_cons (ps_fld (pv 0) (pe_lst pa_nil) rfl) (pss_cons (ps_fld (pv 0) (pe_lst pa_nil) rfl) (pss_cons (ps_fld (pv 0) (pe_lst pa_nil) rfl) (pss_cons (ps_fld (pv 0) pe_int rfl) (pss_cons (ps_fld (pv 0) pe_int rfl) (pss_one (ps_fld (pv 0) (show PE _ _ (tNewN P w) from pe_newN) rfl)))))))))), ?_⟩
  have nd : dx ≠ x := fun z => by rw [z, hx0] at hdx0; cases hdx0
  intro d0 hd0
  have e0 : x ≠ d0 := ne_of_none hx0 hd0
  have b0 : Ch (· = x) H (upd H d0 (.dT [])) := Ch.new hd0
  have n_dx_d0 : dx ≠ d0 := ne_of_none hdx0 hd0
  have x0 : (upd H d0 (.dT [])) x = some (.ins (tC' K) dx []) := (upd_ne e0).trans hx0
  have f0_dx := b0.1 _ _ hdx0 nd
  have f0_d0 : (upd H d0 (.dT [])) d0 = some (.dT []) := upd_same
  generalize upd H d0 (.dT []) = K0 at b0 x0 f0_dx f0_d0 ⊢
  refine ⟨_, rfl, x, _, _, _, rfl, x0, T.c_Table, T.n_marks, by show (0 : Nat) < 1000; decide, ?_⟩
  have c0 : Ch (· = x) K0 (upd K0 x (.ins (tC' K) dx [("marks", .ref d0)])) := Ch.put rfl x0 fun _ z => nomatch z
  have y0 : (upd K0 x (.ins (tC' K) dx [("marks", .ref d0)])) x = some (.ins (tC' K) dx [("marks", .ref d0)]) := upd_same
  have g0_dx := c0.1 _ _ f0_dx nd
  have g0_d0 := c0.1 _ _ f0_d0 e0.symm
  have r0 : putF "marks" (V.ref d0) ([] : List (Str × V)) = ([("marks", .ref d0)] : List (Str × V)) := by rfl
  rw [r0]
  generalize upd K0 x (.ins (tC' K) dx [("marks", .ref d0)]) = G0 at c0 y0 g0_dx g0_d0 ⊢
  refine ⟨by show 0 ≤ sizeLine; decide, fun d1 hd1 => ?_⟩
  have e1 : x ≠ d1 := ne_of_none y0 hd1
  have b1 : Ch (· = x) G0 (upd G0 d1 (.lst [])) := Ch.new hd1
  have n_dx_d1 : dx ≠ d1 := ne_of_none g0_dx hd1
  have n_d0_d1 : d0 ≠ d1 := ne_of_none g0_d0 hd1
  have x1 : (upd G0 d1 (.lst [])) x = some (.ins (tC' K) dx [("marks", .ref d0)]) := (upd_ne e1).trans y0
  have f1_dx := b1.1 _ _ g0_dx nd
  have f1_d0 := b1.1 _ _ g0_d0 e0.symm
  have f1_d1 : (upd G0 d1 (.lst [])) d1 = some (.lst []) := upd_same
  generalize upd G0 d1 (.lst []) = K1 at b1 x1 f1_dx f1_d0 f1_d1 ⊢
  refine ⟨_, rfl, x, _, _, _, rfl, x1, T.c_Table, T.n_shapes, by show (1 : Nat) < 1000; decide, ?_⟩
  have c1 : Ch (· = x) K1 (upd K1 x (.ins (tC' K) dx [("marks", .ref d0), ("shapes", .ref d1)])) := Ch.put rfl x1 fun _ z => nomatch z
  have y1 : (upd K1 x (.ins (tC' K) dx [("marks", .ref d0), ("shapes", .ref d1)])) x = some (.ins (tC' K) dx [("marks", .ref d0), ("shapes", .ref d1)]) := upd_same
  have g1_dx := c1.1 _ _ f1_dx nd
  have g1_d0 := c1.1 _ _ f1_d0 e0.symm
  have g1_d1 := c1.1 _ _ f1_d1 e1.symm
  have r1 : putF "shapes" (V.ref d1) ([("marks", V.ref d0)] : List (Str × V)) = ([("marks", .ref d0), ("shapes", .ref d1)] : List (Str × V)) := by rfl
  rw [r1]
  generalize upd K1 x (.ins (tC' K) dx [("marks", .ref d0), ("shapes", .ref d1)]) = G1 at c1 y1 g1_dx g1_d0 g1_d1 ⊢
  refine ⟨by show 0 ≤ sizeLine; decide, fun d2 hd2 => ?_⟩
  have e2 : x ≠ d2 := ne_of_none y1 hd2
  have b2 : Ch (· = x) G1 (upd G1 d2 (.lst [])) := Ch.new hd2
  have n_dx_d2 : dx ≠ d2 := ne_of_none g1_dx hd2
  have n_d0_d2 : d0 ≠ d2 := ne_of_none g1_d0 hd2
  have n_d1_d2 : d1 ≠ d2 := ne_of_none g1_d1 hd2
  have x2 : (upd G1 d2 (.lst [])) x = some (.ins (tC' K) dx [("marks", .ref d0), ("shapes", .ref d1)]) := (upd_ne e2).trans y1
  have f2_dx := b2.1 _ _ g1_dx nd
  have f2_d0 := b2.1 _ _ g1_d0 e0.symm
  have f2_d1 := b2.1 _ _ g1_d1 e1.symm
  have f2_d2 : (upd G1 d2 (.lst [])) d2 = some (.lst []) := upd_same
  generalize upd G1 d2 (.lst []) = K2 at b2 x2 f2_dx f2_d0 f2_d1 f2_d2 ⊢
  refine ⟨_, rfl, x, _, _, _, rfl, x2, T.c_Table, T.n_forms, by show (2 : Nat) < 1000; decide, ?_⟩
  have c2 : Ch (· = x) K2 (upd K2 x (.ins (tC' K) dx [("marks", .ref d0), ("shapes", .ref d1), ("forms", .ref d2)])) := Ch.put rfl x2 fun _ z => nomatch z
  have y2 : (upd K2 x (.ins (tC' K) dx [("marks", .ref d0), ("shapes", .ref d1), ("forms", .ref d2)])) x = some (.ins (tC' K) dx [("marks", .ref d0), ("shapes", .ref d1), ("forms", .ref d2)]) := upd_same
  have g2_dx := c2.1 _ _ f2_dx nd
  have g2_d0 := c2.1 _ _ f2_d0 e0.symm
  have g2_d1 := c2.1 _ _ f2_d1 e1.symm
  have g2_d2 := c2.1 _ _ f2_d2 e2.symm
  have r2 : putF "forms" (V.ref d2) ([("marks", V.ref d0), ("shapes", V.ref d1)] : List (Str × V)) = ([("marks", .ref d0), ("shapes", .ref d1), ("forms", .ref d2)] : List (Str × V)) := by rfl
  rw [r2]
  generalize upd K2 x (.ins (tC' K) dx [("marks", .ref d0), ("shapes", .ref d1), ("forms", .ref d2)]) = G2 at c2 y2 g2_dx g2_d0 g2_d1 g2_d2 ⊢
  refine ⟨by show 0 ≤ sizeLine; decide, fun d3 hd3 => ?_⟩
  have e3 : x ≠ d3 := ne_of_none y2 hd3
  have b3 : Ch (· = x) G2 (upd G2 d3 (.lst [])) := Ch.new hd3
  have n_dx_d3 : dx ≠ d3 := ne_of_none g2_dx hd3
  have n_d0_d3 : d0 ≠ d3 := ne_of_none g2_d0 hd3
  have n_d1_d3 : d1 ≠ d3 := ne_of_none g2_d1 hd3
  have n_d2_d3 : d2 ≠ d3 := ne_of_none g2_d2 hd3
  have x3 : (upd G2 d3 (.lst [])) x = some (.ins (tC' K) dx [("marks", .ref d0), ("shapes", .ref d1), ("forms", .ref d2)]) := (upd_ne e3).trans y2
  have f3_dx := b3.1 _ _ g2_dx nd
  have f3_d0 := b3.1 _ _ g2_d0 e0.symm
  have f3_d1 := b3.1 _ _ g2_d1 e1.symm
  have f3_d2 := b3.1 _ _ g2_d2 e2.symm
  have f3_d3 : (upd G2 d3 (.lst [])) d3 = some (.lst []) := upd_same
  generalize upd G2 d3 (.lst []) = K3 at b3 x3 f3_dx f3_d0 f3_d1 f3_d2 f3_d3 ⊢
  refine ⟨_, rfl, x, _, _, _, rfl, x3, T.c_Table, T.n_pairs, by show (3 : Nat) < 1000; decide, ?_⟩
  have c3 : Ch (· = x) K3 (upd K3 x (.ins (tC' K) dx [("marks", .ref d0), ("shapes", .ref d1), ("forms", .ref d2), ("pairs", .ref d3)])) := Ch.put rfl x3 fun _ z => nomatch z
  have y3 : (upd K3 x (.ins (tC' K) dx [("marks", .ref d0), ("shapes", .ref d1), ("forms", .ref d2), ("pairs", .ref d3)])) x = some (.ins (tC' K) dx [("marks", .ref d0), ("shapes", .ref d1), ("forms", .ref d2), ("pairs", .ref d3)]) := upd_same
  have g3_dx := c3.1 _ _ f3_dx nd
  have g3_d0 := c3.1 _ _ f3_d0 e0.symm
  have g3_d1 := c3.1 _ _ f3_d1 e1.symm
  have g3_d2 := c3.1 _ _ f3_d2 e2.symm
  have g3_d3 := c3.1 _ _ f3_d3 e3.symm
  have r3 : putF "pairs" (V.ref d3) ([("marks", V.ref d0), ("shapes", V.ref d1), ("forms", V.ref d2)] : List (Str × V)) = ([("marks", .ref d0), ("shapes", .ref d1), ("forms", .ref d2), ("pairs", .ref d3)] : List (Str × V)) := by rfl
  rw [r3]
  generalize upd K3 x (.ins (tC' K) dx [("marks", .ref d0), ("shapes", .ref d1), ("forms", .ref d2), ("pairs", .ref d3)]) = G3 at c3 y3 g3_dx g3_d0 g3_d1 g3_d2 g3_d3 ⊢
  refine ⟨by show 0 ≤ sizeLine; decide, fun d4 hd4 => ?_⟩
  have e4 : x ≠ d4 := ne_of_none y3 hd4
  have b4 : Ch (· = x) G3 (upd G3 d4 (.lst [])) := Ch.new hd4
  have n_dx_d4 : dx ≠ d4 := ne_of_none g3_dx hd4
  have n_d0_d4 : d0 ≠ d4 := ne_of_none g3_d0 hd4
  have n_d1_d4 : d1 ≠ d4 := ne_of_none g3_d1 hd4
  have n_d2_d4 : d2 ≠ d4 := ne_of_none g3_d2 hd4
  have n_d3_d4 : d3 ≠ d4 := ne_of_none g3_d3 hd4
  have x4 : (upd G3 d4 (.lst [])) x = some (.ins (tC' K) dx [("marks", .ref d0), ("shapes", .ref d1), ("forms", .ref d2), ("pairs", .ref d3)]) := (upd_ne e4).trans y3
  have f4_dx := b4.1 _ _ g3_dx nd
  have f4_d0 := b4.1 _ _ g3_d0 e0.symm
  have f4_d1 := b4.1 _ _ g3_d1 e1.symm
  have f4_d2 := b4.1 _ _ g3_d2 e2.symm
  have f4_d3 := b4.1 _ _ g3_d3 e3.symm
  have f4_d4 : (upd G3 d4 (.lst [])) d4 = some (.lst []) := upd_same
  generalize upd G3 d4 (.lst []) = K4 at b4 x4 f4_dx f4_d0 f4_d1 f4_d2 f4_d3 f4_d4 ⊢
  refine ⟨_, rfl, x, _, _, _, rfl, x4, T.c_Table, T.n_sums, by show (4 : Nat) < 1000; decide, ?_⟩
  have c4 : Ch (· = x) K4 (upd K4 x (.ins (tC' K) dx [("marks", .ref d0), ("shapes", .ref d1), ("forms", .ref d2), ("pairs", .ref d3), ("sums", .ref d4)])) := Ch.put rfl x4 fun _ z => nomatch z
  have y4 : (upd K4 x (.ins (tC' K) dx [("marks", .ref d0), ("shapes", .ref d1), ("forms", .ref d2), ("pairs", .ref d3), ("sums", .ref d4)])) x = some (.ins (tC' K) dx [("marks", .ref d0), ("shapes", .ref d1), ("forms", .ref d2), ("pairs", .ref d3), ("sums", .ref d4)]) := upd_same
  have g4_dx := c4.1 _ _ f4_dx nd
  have g4_d0 := c4.1 _ _ f4_d0 e0.symm
  have g4_d1 := c4.1 _ _ f4_d1 e1.symm
  have g4_d2 := c4.1 _ _ f4_d2 e2.symm
  have g4_d3 := c4.1 _ _ f4_d3 e3.symm
  have g4_d4 := c4.1 _ _ f4_d4 e4.symm
  have r4 : putF "sums" (V.ref d4) ([("marks", V.ref d0), ("shapes", V.ref d1), ("forms", V.ref d2), ("pairs", V.ref d3)] : List (Str × V)) = ([("marks", .ref d0), ("shapes", .ref d1), ("forms", .ref d2), ("pairs", .ref d3), ("sums", .ref d4)] : List (Str × V)) := by rfl
  rw [r4]
  generalize upd K4 x (.ins (tC' K) dx [("marks", .ref d0), ("shapes", .ref d1), ("forms", .ref d2), ("pairs", .ref d3), ("sums", .ref d4)]) = G4 at c4 y4 g4_dx g4_d0 g4_d1 g4_d2 g4_d3 g4_d4 ⊢
  refine ⟨by show 0 ≤ sizeLine; decide, fun d5 hd5 => ?_⟩
  have e5 : x ≠ d5 := ne_of_none y4 hd5
  have b5 : Ch (· = x) G4 (upd G4 d5 (.lst [])) := Ch.new hd5
  have n_dx_d5 : dx ≠ d5 := ne_of_none g4_dx hd5
  have n_d0_d5 : d0 ≠ d5 := ne_of_none g4_d0 hd5
  have n_d1_d5 : d1 ≠ d5 := ne_of_none g4_d1 hd5
  have n_d2_d5 : d2 ≠ d5 := ne_of_none g4_d2 hd5
  have n_d3_d5 : d3 ≠ d5 := ne_of_none g4_d3 hd5
  have n_d4_d5 : d4 ≠ d5 := ne_of_none g4_d4 hd5
  have x5 : (upd G4 d5 (.lst [])) x = some (.ins (tC' K) dx [("marks", .ref d0), ("shapes", .ref d1), ("forms", .ref d2), ("pairs", .ref d3), ("sums", .ref d4)]) := (upd_ne e5).trans y4
  have f5_dx := b5.1 _ _ g4_dx nd
  have f5_d0 := b5.1 _ _ g4_d0 e0.symm
  have f5_d1 := b5.1 _ _ g4_d1 e1.symm
  have f5_d2 := b5.1 _ _ g4_d2 e2.symm
  have f5_d3 := b5.1 _ _ g4_d3 e3.symm
  have f5_d4 := b5.1 _ _ g4_d4 e4.symm
  have f5_d5 : (upd G4 d5 (.lst [])) d5 = some (.lst []) := upd_same
  generalize upd G4 d5 (.lst []) = K5 at b5 x5 f5_dx f5_d0 f5_d1 f5_d2 f5_d3 f5_d4 f5_d5 ⊢
  refine ⟨_, rfl, x, _, _, _, rfl, x5, T.c_Table, T.n_spelled, by show (5 : Nat) < 1000; decide, ?_⟩
  have c5 : Ch (· = x) K5 (upd K5 x (.ins (tC' K) dx [("marks", .ref d0), ("shapes", .ref d1), ("forms", .ref d2), ("pairs", .ref d3), ("sums", .ref d4), ("spelled", .ref d5)])) := Ch.put rfl x5 fun _ z => nomatch z
  have y5 : (upd K5 x (.ins (tC' K) dx [("marks", .ref d0), ("shapes", .ref d1), ("forms", .ref d2), ("pairs", .ref d3), ("sums", .ref d4), ("spelled", .ref d5)])) x = some (.ins (tC' K) dx [("marks", .ref d0), ("shapes", .ref d1), ("forms", .ref d2), ("pairs", .ref d3), ("sums", .ref d4), ("spelled", .ref d5)]) := upd_same
  have g5_dx := c5.1 _ _ f5_dx nd
  have g5_d0 := c5.1 _ _ f5_d0 e0.symm
  have g5_d1 := c5.1 _ _ f5_d1 e1.symm
  have g5_d2 := c5.1 _ _ f5_d2 e2.symm
  have g5_d3 := c5.1 _ _ f5_d3 e3.symm
  have g5_d4 := c5.1 _ _ f5_d4 e4.symm
  have g5_d5 := c5.1 _ _ f5_d5 e5.symm
  have r5 : putF "spelled" (V.ref d5) ([("marks", V.ref d0), ("shapes", V.ref d1), ("forms", V.ref d2), ("pairs", V.ref d3), ("sums", V.ref d4)] : List (Str × V)) = ([("marks", .ref d0), ("shapes", .ref d1), ("forms", .ref d2), ("pairs", .ref d3), ("sums", .ref d4), ("spelled", .ref d5)] : List (Str × V)) := by rfl
  rw [r5]
  generalize upd K5 x (.ins (tC' K) dx [("marks", .ref d0), ("shapes", .ref d1), ("forms", .ref d2), ("pairs", .ref d3), ("sums", .ref d4), ("spelled", .ref d5)]) = G5 at c5 y5 g5_dx g5_d0 g5_d1 g5_d2 g5_d3 g5_d4 g5_d5 ⊢
  refine ⟨by show 0 ≤ sizeLine; decide, fun d6 hd6 => ?_⟩
  have e6 : x ≠ d6 := ne_of_none y5 hd6
  have b6 : Ch (· = x) G5 (upd G5 d6 (.lst [])) := Ch.new hd6
  have n_dx_d6 : dx ≠ d6 := ne_of_none g5_dx hd6
  have n_d0_d6 : d0 ≠ d6 := ne_of_none g5_d0 hd6
  have n_d1_d6 : d1 ≠ d6 := ne_of_none g5_d1 hd6
  have n_d2_d6 : d2 ≠ d6 := ne_of_none g5_d2 hd6
  have n_d3_d6 : d3 ≠ d6 := ne_of_none g5_d3 hd6
  have n_d4_d6 : d4 ≠ d6 := ne_of_none g5_d4 hd6
  have n_d5_d6 : d5 ≠ d6 := ne_of_none g5_d5 hd6
  have x6 : (upd G5 d6 (.lst [])) x = some (.ins (tC' K) dx [("marks", .ref d0), ("shapes", .ref d1), ("forms", .ref d2), ("pairs", .ref d3), ("sums", .ref d4), ("spelled", .ref d5)]) := (upd_ne e6).trans y5
  have f6_dx := b6.1 _ _ g5_dx nd
  have f6_d0 := b6.1 _ _ g5_d0 e0.symm
  have f6_d1 := b6.1 _ _ g5_d1 e1.symm
  have f6_d2 := b6.1 _ _ g5_d2 e2.symm
  have f6_d3 := b6.1 _ _ g5_d3 e3.symm
  have f6_d4 := b6.1 _ _ g5_d4 e4.symm
  have f6_d5 := b6.1 _ _ g5_d5 e5.symm
  have f6_d6 : (upd G5 d6 (.lst [])) d6 = some (.lst []) := upd_same
  generalize upd G5 d6 (.lst []) = K6 at b6 x6 f6_dx f6_d0 f6_d1 f6_d2 f6_d3 f6_d4 f6_d5 f6_d6 ⊢
  refine ⟨_, rfl, x, _, _, _, rfl, x6, T.c_Table, T.n_cores, by show (6 : Nat) < 1000; decide, ?_⟩
  have c6 : Ch (· = x) K6 (upd K6 x (.ins (tC' K) dx [("marks", .ref d0), ("shapes", .ref d1), ("forms", .ref d2), ("pairs", .ref d3), ("sums", .ref d4), ("spelled", .ref d5), ("cores", .ref d6)])) := Ch.put rfl x6 fun _ z => nomatch z
  have y6 : (upd K6 x (.ins (tC' K) dx [("marks", .ref d0), ("shapes", .ref d1), ("forms", .ref d2), ("pairs", .ref d3), ("sums", .ref d4), ("spelled", .ref d5), ("cores", .ref d6)])) x = some (.ins (tC' K) dx [("marks", .ref d0), ("shapes", .ref d1), ("forms", .ref d2), ("pairs", .ref d3), ("sums", .ref d4), ("spelled", .ref d5), ("cores", .ref d6)]) := upd_same
  have g6_dx := c6.1 _ _ f6_dx nd
  have g6_d0 := c6.1 _ _ f6_d0 e0.symm
  have g6_d1 := c6.1 _ _ f6_d1 e1.symm
  have g6_d2 := c6.1 _ _ f6_d2 e2.symm
  have g6_d3 := c6.1 _ _ f6_d3 e3.symm
  have g6_d4 := c6.1 _ _ f6_d4 e4.symm
  have g6_d5 := c6.1 _ _ f6_d5 e5.symm
  have g6_d6 := c6.1 _ _ f6_d6 e6.symm
  have r6 : putF "cores" (V.ref d6) ([("marks", V.ref d0), ("shapes", V.ref d1), ("forms", V.ref d2), ("pairs", V.ref d3), ("sums", V.ref d4), ("spelled", V.ref d5)] : List (Str × V)) = ([("marks", .ref d0), ("shapes", .ref d1), ("forms", .ref d2), ("pairs", .ref d3), ("sums", .ref d4), ("spelled", .ref d5), ("cores", .ref d6)] : List (Str × V)) := by rfl
  rw [r6]
  generalize upd K6 x (.ins (tC' K) dx [("marks", .ref d0), ("shapes", .ref d1), ("forms", .ref d2), ("pairs", .ref d3), ("sums", .ref d4), ("spelled", .ref d5), ("cores", .ref d6)]) = G6 at c6 y6 g6_dx g6_d0 g6_d1 g6_d2 g6_d3 g6_d4 g6_d5 g6_d6 ⊢
  refine ⟨_, rfl, x, _, _, _, rfl, y6, T.c_Table, T.n_weight, by show (7 : Nat) < 1000; decide, ?_⟩
  have c7 : Ch (· = x) G6 (upd G6 x (.ins (tC' K) dx [("marks", .ref d0), ("shapes", .ref d1), ("forms", .ref d2), ("pairs", .ref d3), ("sums", .ref d4), ("spelled", .ref d5), ("cores", .ref d6), ("weight", .int 1)])) := Ch.put rfl y6 fun _ z => nomatch z
  have y7 : (upd G6 x (.ins (tC' K) dx [("marks", .ref d0), ("shapes", .ref d1), ("forms", .ref d2), ("pairs", .ref d3), ("sums", .ref d4), ("spelled", .ref d5), ("cores", .ref d6), ("weight", .int 1)])) x = some (.ins (tC' K) dx [("marks", .ref d0), ("shapes", .ref d1), ("forms", .ref d2), ("pairs", .ref d3), ("sums", .ref d4), ("spelled", .ref d5), ("cores", .ref d6), ("weight", .int 1)]) := upd_same
  have g7_dx := c7.1 _ _ g6_dx nd
  have g7_d0 := c7.1 _ _ g6_d0 e0.symm
  have g7_d1 := c7.1 _ _ g6_d1 e1.symm
  have g7_d2 := c7.1 _ _ g6_d2 e2.symm
  have g7_d3 := c7.1 _ _ g6_d3 e3.symm
  have g7_d4 := c7.1 _ _ g6_d4 e4.symm
  have g7_d5 := c7.1 _ _ g6_d5 e5.symm
  have g7_d6 := c7.1 _ _ g6_d6 e6.symm
  have r7 : putF "weight" (V.int 1) ([("marks", V.ref d0), ("shapes", V.ref d1), ("forms", V.ref d2), ("pairs", V.ref d3), ("sums", V.ref d4), ("spelled", V.ref d5), ("cores", V.ref d6)] : List (Str × V)) = ([("marks", .ref d0), ("shapes", .ref d1), ("forms", .ref d2), ("pairs", .ref d3), ("sums", .ref d4), ("spelled", .ref d5), ("cores", .ref d6), ("weight", .int 1)] : List (Str × V)) := by rfl
  rw [r7]
  generalize upd G6 x (.ins (tC' K) dx [("marks", .ref d0), ("shapes", .ref d1), ("forms", .ref d2), ("pairs", .ref d3), ("sums", .ref d4), ("spelled", .ref d5), ("cores", .ref d6), ("weight", .int 1)]) = G7 at c7 y7 g7_dx g7_d0 g7_d1 g7_d2 g7_d3 g7_d4 g7_d5 g7_d6 ⊢
  refine ⟨_, rfl, x, _, _, _, rfl, y7, T.c_Table, T.n_met, by show (8 : Nat) < 1000; decide, ?_⟩
  have c8 : Ch (· = x) G7 (upd G7 x (.ins (tC' K) dx [("marks", .ref d0), ("shapes", .ref d1), ("forms", .ref d2), ("pairs", .ref d3), ("sums", .ref d4), ("spelled", .ref d5), ("cores", .ref d6), ("weight", .int 1), ("met", .int 0)])) := Ch.put rfl y7 fun _ z => nomatch z
  have y8 : (upd G7 x (.ins (tC' K) dx [("marks", .ref d0), ("shapes", .ref d1), ("forms", .ref d2), ("pairs", .ref d3), ("sums", .ref d4), ("spelled", .ref d5), ("cores", .ref d6), ("weight", .int 1), ("met", .int 0)])) x = some (.ins (tC' K) dx [("marks", .ref d0), ("shapes", .ref d1), ("forms", .ref d2), ("pairs", .ref d3), ("sums", .ref d4), ("spelled", .ref d5), ("cores", .ref d6), ("weight", .int 1), ("met", .int 0)]) := upd_same
  have g8_dx := c8.1 _ _ g7_dx nd
  have g8_d0 := c8.1 _ _ g7_d0 e0.symm
  have g8_d1 := c8.1 _ _ g7_d1 e1.symm
  have g8_d2 := c8.1 _ _ g7_d2 e2.symm
  have g8_d3 := c8.1 _ _ g7_d3 e3.symm
  have g8_d4 := c8.1 _ _ g7_d4 e4.symm
  have g8_d5 := c8.1 _ _ g7_d5 e5.symm
  have g8_d6 := c8.1 _ _ g7_d6 e6.symm
  have r8 : putF "met" (V.int 0) ([("marks", V.ref d0), ("shapes", V.ref d1), ("forms", V.ref d2), ("pairs", V.ref d3), ("sums", V.ref d4), ("spelled", V.ref d5), ("cores", V.ref d6), ("weight", V.int 1)] : List (Str × V)) = ([("marks", .ref d0), ("shapes", .ref d1), ("forms", .ref d2), ("pairs", .ref d3), ("sums", .ref d4), ("spelled", .ref d5), ("cores", .ref d6), ("weight", .int 1), ("met", .int 0)] : List (Str × V)) := by rfl
  rw [r8]
  generalize upd G7 x (.ins (tC' K) dx [("marks", .ref d0), ("shapes", .ref d1), ("forms", .ref d2), ("pairs", .ref d3), ("sums", .ref d4), ("spelled", .ref d5), ("cores", .ref d6), ("weight", .int 1), ("met", .int 0)]) = G8 at c8 y8 g8_dx g8_d0 g8_d1 g8_d2 g8_d3 g8_d4 g8_d5 g8_d6 ⊢
  intro d9 hd9
  have e9 : x ≠ d9 := ne_of_none y8 hd9
  have b9 : Ch (· = x) G8 (upd G8 d9 (nD P w d9 [])) := Ch.new hd9
  have n_dx_d9 : dx ≠ d9 := ne_of_none g8_dx hd9
  have n_d0_d9 : d0 ≠ d9 := ne_of_none g8_d0 hd9
  have n_d1_d9 : d1 ≠ d9 := ne_of_none g8_d1 hd9
  have n_d2_d9 : d2 ≠ d9 := ne_of_none g8_d2 hd9
  have n_d3_d9 : d3 ≠ d9 := ne_of_none g8_d3 hd9
  have n_d4_d9 : d4 ≠ d9 := ne_of_none g8_d4 hd9
  have n_d5_d9 : d5 ≠ d9 := ne_of_none g8_d5 hd9
  have n_d6_d9 : d6 ≠ d9 := ne_of_none g8_d6 hd9
  have x9 : (upd G8 d9 (nD P w d9 [])) x = some (.ins (tC' K) dx [("marks", .ref d0), ("shapes", .ref d1), ("forms", .ref d2), ("pairs", .ref d3), ("sums", .ref d4), ("spelled", .ref d5), ("cores", .ref d6), ("weight", .int 1), ("met", .int 0)]) := (upd_ne e9).trans y8
  have f9_dx := b9.1 _ _ g8_dx nd
  have f9_d0 := b9.1 _ _ g8_d0 e0.symm
  have f9_d1 := b9.1 _ _ g8_d1 e1.symm
  have f9_d2 := b9.1 _ _ g8_d2 e2.symm
  have f9_d3 := b9.1 _ _ g8_d3 e3.symm
  have f9_d4 := b9.1 _ _ g8_d4 e4.symm
  have f9_d5 := b9.1 _ _ g8_d5 e5.symm
  have f9_d6 := b9.1 _ _ g8_d6 e6.symm
  have f9_d9 : (upd G8 d9 (nD P w d9 [])) d9 = some (nD P w d9 []) := upd_same
  generalize upd G8 d9 (nD P w d9 []) = K9 at b9 x9 f9_dx f9_d0 f9_d1 f9_d2 f9_d3 f9_d4 f9_d5 f9_d6 f9_d9 ⊢
  refine ⟨_, rfl, x, _, _, _, rfl, x9, T.c_Table, T.n_known, by show (9 : Nat) < 1000; decide, ?_⟩
  have c9 : Ch (· = x) K9 (upd K9 x (.ins (tC' K) dx [("marks", .ref d0), ("shapes", .ref d1), ("forms", .ref d2), ("pairs", .ref d3), ("sums", .ref d4), ("spelled", .ref d5), ("cores", .ref d6), ("weight", .int 1), ("met", .int 0), ("known", .ref d9)])) := Ch.put rfl x9 fun _ z => nomatch z
  have y9 : (upd K9 x (.ins (tC' K) dx [("marks", .ref d0), ("shapes", .ref d1), ("forms", .ref d2), ("pairs", .ref d3), ("sums", .ref d4), ("spelled", .ref d5), ("cores", .ref d6), ("weight", .int 1), ("met", .int 0), ("known", .ref d9)])) x = some (.ins (tC' K) dx [("marks", .ref d0), ("shapes", .ref d1), ("forms", .ref d2), ("pairs", .ref d3), ("sums", .ref d4), ("spelled", .ref d5), ("cores", .ref d6), ("weight", .int 1), ("met", .int 0), ("known", .ref d9)]) := upd_same
  have g9_dx := c9.1 _ _ f9_dx nd
  have g9_d0 := c9.1 _ _ f9_d0 e0.symm
  have g9_d1 := c9.1 _ _ f9_d1 e1.symm
  have g9_d2 := c9.1 _ _ f9_d2 e2.symm
  have g9_d3 := c9.1 _ _ f9_d3 e3.symm
  have g9_d4 := c9.1 _ _ f9_d4 e4.symm
  have g9_d5 := c9.1 _ _ f9_d5 e5.symm
  have g9_d6 := c9.1 _ _ f9_d6 e6.symm
  have g9_d9 := c9.1 _ _ f9_d9 e9.symm
  have r9 : putF "known" (V.ref d9) ([("marks", V.ref d0), ("shapes", V.ref d1), ("forms", V.ref d2), ("pairs", V.ref d3), ("sums", V.ref d4), ("spelled", V.ref d5), ("cores", V.ref d6), ("weight", V.int 1), ("met", V.int 0)] : List (Str × V)) = ([("marks", .ref d0), ("shapes", .ref d1), ("forms", .ref d2), ("pairs", .ref d3), ("sums", .ref d4), ("spelled", .ref d5), ("cores", .ref d6), ("weight", .int 1), ("met", .int 0), ("known", .ref d9)] : List (Str × V)) := by rfl
  rw [r9]
  generalize upd K9 x (.ins (tC' K) dx [("marks", .ref d0), ("shapes", .ref d1), ("forms", .ref d2), ("pairs", .ref d3), ("sums", .ref d4), ("spelled", .ref d5), ("cores", .ref d6), ("weight", .int 1), ("met", .int 0), ("known", .ref d9)]) = G9 at c9 y9 g9_dx g9_d0 g9_d1 g9_d2 g9_d3 g9_d4 g9_d5 g9_d6 g9_d9 ⊢
  have fr0 : H d0 = none := hd0
  have fr1 : H d1 = none := ((b0).trans c0).free e1.symm hd1
  have fr2 : H d2 = none := ((((b0).trans c0).trans b1).trans c1).free e2.symm hd2
  have fr3 : H d3 = none := ((((((b0).trans c0).trans b1).trans c1).trans b2).trans c2).free e3.symm hd3
  have fr4 : H d4 = none := ((((((((b0).trans c0).trans b1).trans c1).trans b2).trans c2).trans b3).trans c3).free e4.symm hd4
  have fr5 : H d5 = none := ((((((((((b0).trans c0).trans b1).trans c1).trans b2).trans c2).trans b3).trans c3).trans b4).trans c4).free e5.symm hd5
  have fr6 : H d6 = none := ((((((((((((b0).trans c0).trans b1).trans c1).trans b2).trans c2).trans b3).trans c3).trans b4).trans c4).trans b5).trans c5).free e6.symm hd6
  have fr9 : H d9 = none := ((((((((((((((((b0).trans c0).trans b1).trans c1).trans b2).trans c2).trans b3).trans c3).trans b4).trans c4).trans b5).trans c5).trans b6).trans c6).trans c7).trans c8).free e9.symm hd9
  refine q ⟨x, dx, d0, d1, d2, d3, d4, d5, d6, d9⟩ G9 rfl ?_ ((((((((((((((((((b0).trans c0).trans b1).trans c1).trans b2).trans c2).trans b3).trans c3).trans b4).trans c4).trans b5).trans c5).trans b6).trans c6).trans c7).trans c8).trans b9).trans c9) ?_ ?_
  · intro b hb nb
    unfold inT at hb
    rcases hb with (rfl | rfl | rfl | rfl | rfl | rfl | rfl | rfl) | rfl
    · exact absurd rfl nb
    · exact fr0
    · exact fr1
    · exact fr2
    · exact fr3
    · exact fr4
    · exact fr5
    · exact fr6
    · exact fr9
  · refine ⟨⟨[], [], [], [], ⟨y9, g9_d0, g9_d1, g9_d2, g9_d3, g9_d4, g9_d5, g9_d6, ?_⟩, .nil, ⟨rfl, fun i k e => by cases e⟩, .nil, ⟨fun i k m e _ => (by cases e), fun m v e => (by cases e), Nat.le_refl _⟩⟩, List.nodup_nil, fun f x y e => (by cases e), fun k e => (by cases e), fun c e => (by cases e)⟩
    simp only [Ad.lst, List.nodup_cons, List.mem_cons, List.not_mem_nil, or_false, not_or, not_false_eq_true, List.nodup_nil, and_true]
    exact ⟨⟨nd.symm, e0, e1, e2, e3, e4, e5, e6, e9⟩, ⟨n_dx_d0, n_dx_d1, n_dx_d2, n_dx_d3, n_dx_d4, n_dx_d5, n_dx_d6, n_dx_d9⟩, ⟨n_d0_d1, n_d0_d2, n_d0_d3, n_d0_d4, n_d0_d5, n_d0_d6, n_d0_d9⟩, ⟨n_d1_d2, n_d1_d3, n_d1_d4, n_d1_d5, n_d1_d6, n_d1_d9⟩, ⟨n_d2_d3, n_d2_d4, n_d2_d5, n_d2_d6, n_d2_d9⟩, ⟨n_d3_d4, n_d3_d5, n_d3_d6, n_d3_d9⟩, ⟨n_d4_d5, n_d4_d6, n_d4_d9⟩, ⟨n_d5_d6, n_d5_d9⟩, n_d6_d9⟩
  · exact ⟨[], g9_d9, .nil⟩
end
end WW
/-! Rows of numbers, may_come, what is known. -/
namespace WW
open PySem PySem.Spec PyProof.Rows L2
theorem closed_sz {U : List Kd → Kd → Prop} (h : Closed U) (n : Nat) : Closed fun Γ C => U Γ C ∧ szs Γ + C.size ≤ n where
  gb := fun ⟨a, b⟩ => ⟨h.gb a, by simp [szs, Kd.size] at b ⊢; omega⟩
  ga := fun ⟨a, b⟩ => ⟨h.ga a, by simp [szs, Kd.size] at b ⊢; omega⟩
  jn1 := fun ⟨a, b⟩ => ⟨h.jn1 a, by simp [szs, Kd.size] at b ⊢; omega⟩
  jn2 := fun ⟨a, b⟩ => ⟨h.jn2 a, by simp [szs, Kd.size] at b ⊢; omega⟩
  pt := fun ⟨a, b⟩ => ⟨h.pt a, by simp [szs, Kd.size] at b ⊢; omega⟩
  be1 := fun ⟨a, b⟩ => ⟨h.be1 a, by simp [szs, Kd.size] at b ⊢; omega⟩
  be2 := fun ⟨a, b⟩ => ⟨h.be2 a, by simp [szs, Kd.size] at b ⊢; omega⟩
  ah1 := fun ⟨a, b⟩ => ⟨h.ah1 a, by simp [szs, Kd.size] at b ⊢; omega⟩
  ah2 := fun ⟨a, b⟩ => ⟨h.ah2 a, by simp [szs, Kd.size] at b ⊢; omega⟩
abbrev RowOk (ks : List Kd) (r : List Nat) (Γ : List Kd) : Prop := Paired (fun n k => ks[n]? = some k) r Γ
theorem szs_len : ∀ Γ : List Kd, Γ.length ≤ szs Γ
  | [] => Nat.le_refl _
  | k :: r => by
    have := szs_len r
    have := k.size_pos
    simp [szs] at *
    omega
theorem szs_mem {Γ : List Kd} {k : Kd} (h : k ∈ Γ) : k.size ≤ szs Γ := by
  induction Γ with
  | nil => cases h
  | cons a r ih =>
    simp only [szs, List.map_cons, List.sum_cons]
    rcases List.mem_cons.mp h with e | e
    · subst e
      omega
    · have := ih e
      simp only [szs] at this
      omega
theorem szs_app (Γ Δ : List Kd) : szs (Γ ++ Δ) = szs Γ + szs Δ := by simp [szs]
theorem told_snoc (num : Nat → Int) (L : List Kd) (k : Kd) : told num (L ++ [k]) = act (told num L) (nf num k) := by
  unfold told
  rw [List.foldl_append]
  rfl
theorem told_length (num : Nat → Int) (L : List Kd) : (told num L).length ≤ szs L := by
  suffices h : ∀ (L : List Kd) (t : List Int), (L.foldl (fun t k => act t (nf num k)) t).length ≤ t.length + szs L by simpa [told] using h L []
  intro L
  induction L with
  | nil => intro t; simp [szs]
  | cons k r ih =>
    intro t
    have h1 := ih (act t (nf num k))
    have h2 := act_length (nf num k) t
    have h3 := nf_length num k
    simp only [List.foldl_cons, szs, List.map_cons, List.sum_cons] at h1 ⊢
    omega
theorem intsD_eqv : ∀ k l : List Int, PyData.eqvAll (k.map PyData.int) (l.map PyData.int) = decide (k = l)
  | [], [] => by simp [PyData.eqvAll]
  | [], _ :: _ => by simp [PyData.eqvAll]
  | _ :: _, [] => by simp [PyData.eqvAll]
  | a :: r, b :: t => by
    simp only [List.map_cons, PyData.eqvAll, PyData.eqv, intsD_eqv r t]
    by_cases h : a = b <;> by_cases h' : r = t <;> simp [h, h']
theorem tupD_eqv (k l : List Int) : PyData.eqv (.tuple (k.map PyData.int)) (.tuple (l.map PyData.int)) = decide (k = l) := by
  rw [← intsD_eqv k l]
  simp only [PyData.eqv]
theorem intsD_lay : ∀ k : List Int, PyData.canLayAll0 (k.map PyData.int) = true ∧ PyData.depthAll (k.map PyData.int) = 0
  | [] => by simp [PyData.canLayAll0, PyData.depthAll]
  | a :: r => by
    have := intsD_lay r
    simp [PyData.canLayAll0, PyData.depthAll, PyData.canLay0, PyData.depth, this.1, this.2]
theorem tupD_shaped (k : List Int) : SeqAt.shaped (.tuple (k.map PyData.int)) = true := by
  obtain ⟨h1, h2⟩ := intsD_lay k
  show (PyData.canLay0 (.tuple (k.map PyData.int)) && decide (PyData.depth (.tuple (k.map PyData.int)) ≤ 64)) = true
  rw [Bool.and_eq_true]
  refine ⟨by simp only [PyData.canLay0]; exact h1, decide_eq_true ?_⟩
  simp only [PyData.depth, h2]
  decide
theorem intsDp {K : PySem.W.Frag} {H : Hp} : ∀ k : List Int, DpAll K H (k.map V.int) (k.map PyData.int)
  | [] => .nil
  | a :: r => .cons (.int a) (intsDp r)
theorem WA.dp {K : PySem.W.Frag} {H : Hp} {a : Addr} {u : List Int} (h : WA H a u) : Dp K H (.ref a) (.tuple (u.map PyData.int)) := .tup (SqT.of h) (intsDp u)
theorem nums_int (r : List Nat) : nums r = (r.map fun n : Nat => (n : Int)).map V.int := by
  rw [List.map_map]
  rfl
theorem nums_inj2 {r t : List Nat} : (r.map fun n : Nat => (n : Int)) = (t.map fun n : Nat => (n : Int)) ↔ r = t := by
  constructor
  · intro h
    induction r generalizing t with
    | nil => cases t with
      | nil => rfl
      | cons b t => cases h
    | cons a r ih => cases t with
      | nil => cases h
      | cons b t =>
        simp only [List.map_cons, List.cons.injEq] at h
        rw [ih h.2, Int.ofNat.inj h.1]
  · intro h
    rw [h]
section
variable {P : Program} {w : World} {K : PySem.W.Frag} {mg : Str → Option Value} {base : Heap} {fd : Nat → FuncData}
def spMay : Sp := fun vs H Q _ => ∃ (A : Ad) (ls : List Nat) (ks : List Kd) (a : Addr) (r : List Nat) (g : Nat) (Γ : List Kd) (C : Kd), vs = [.ref A.t, .ref a, .int (g : Int)] ∧ Tb (tC' K) A H ls ks ∧ H a = some (.tup (nums r)) ∧ RowOk ks r Γ ∧ ks[g]? = some C ∧ szs Γ + C.size ≤ 100 ∧
  ∀ (b : Bool) H', Ch No H H' → (b = false → ¬ D Γ C) → Q (.bl b) H'
theorem ok_may (T : TX w K mg fd) : FnOk P w K mg base CX0 2 (He.ma K (He.ga K "Table") "may_come") (fd 12) P_Table_may_come (spMay (K := K)) := by
  refine T.d_Table_may_come.ok sc_Table_may_come (fun vs H Q E h => ?_) (fun cdv A0 outer s H vs Q E hr h => ?_)
  · obtain ⟨A, ls, ks, a, r, g, Γ, C, rfl, _⟩ := h
    rfl
  obtain ⟨A, ls, ks, a, r, g, Γ, C, rfl, tb, ha, ro, hg, hz, q⟩ := h
  have GJ := ok_join (P := P) (base := base) T
  refine ⟨_, pss_cons (ps_if (pt_cmpR op_ne (pe_callB (cr_sum rfl) (by rfl) T.z_sum (by decide +kernel) (pa_cons (pe_lc (own := [("one", 3)]) (g := gName 3) (tt := tYes) (te := tOp (rIxL K) (tFld K (tVar 0) "sums") (tVar 3)) rfl sc_Table_may_come.nd (pi_tup (pv 1)) (blkOk_by (N := N_Table_may_come) (sc := defScope s_Table_may_come) (by decide +kernel))
          (fun _ _ _ _ _ => pg_name (i := 3) sc_Table_may_come.nd rfl (Or.inl rfl)) (fun _ _ _ _ _ => pts_nil) (fun _ _ _ _ _ => pe_ix ix_list (pe_fld (pv 0) (by rfl)) (pv 3) (fun _ _ => rfl))) pa_nil)) (pe_ix ix_list (pe_fld (pv 0) rfl) (pv 2) (fun _ _ => rfl)) (nomark _)) (pss_one (ps_ret pe_bl)) pss_nil)
    (pss_cons (ps_set (i := 4) sc_Table_may_come.nd rfl (Or.inl rfl) (pe_tup pa_nil))
    (pss_cons (ps_for PassesOwn.never rfl (pi_tup (pv 1)) (pg_name (i := 3) sc_Table_may_come.nd rfl (Or.inl rfl)) (pss_one (ps_set (i := 4) sc_Table_may_come.nd rfl (Or.inl rfl) (pe_call GJ hr rfl T.g_joined_words T.d_joined_words.kp T.d_joined_words.b .nil pass0 (pa_cons (pv 4) (pa_cons (pe_ix ix_list (pe_fld (pv 0) rfl) (pv 3) (fun _ _ => rfl)) pa_nil))))))
    (pss_one (ps_ret (pe_cmpR (op_eqD hr.units) (pv 4) (pe_ix ix_list (pe_fld (pv 0) rfl) (pv 2) (fun _ _ => rfl)) (nomark _)))))), ?_⟩
  obtain ⟨kvs, sh, pa, as, tr, h2, h3, h4, h5⟩ := tb.ex
  have hla := pr_len h4
  have hlr := pr_len ro
  have ln := szs_len Γ
  have cp := C.size_pos
  have su : ∀ {i : Nat} {x : Kd}, ks[i]? = some x → atI (ks.map fun k => V.int (sm (wtT ls) k)) (i : Int) = some (.int (sm (wtT ls) x)) := fun h => at_map h
  have wd : ∀ {i : Nat} {x : Kd}, ks[i]? = some x → ∃ b, atI (as.map V.ref) (i : Int) = some (.ref b) ∧ WA H b (nf (numT ls) x) := fun {i x} h => by
    have e := List.getElem?_eq_getElem (l := as) (i := i) (by rw [hla]; exact (List.getElem?_eq_some_iff.mp h).1)
    obtain ⟨_, g1, g2⟩ := pr_at h4 e
    obtain rfl := Option.some.inj (h.symm.trans g1)
    exact ⟨_, at_map e, g2⟩
  have ln2 : (nums r).length = r.length := List.length_map _
  have gt : ∀ {i : Nat} {x : V}, (nums r)[i]? = some x → ∃ (n : Nat) (k : Kd), x = .int (n : Int) ∧ Γ[i]? = some k ∧ ks[n]? = some k ∧ k ∈ Γ := fun {i x} e => by
    rw [List.getElem?_map] at e
    cases en : r[i]? with
    | none =>
      rw [en] at e
      cases e
    | some n =>
      rw [en] at e
      obtain ⟨k, e1, e2⟩ := pr_at ro en
      exact ⟨n, k, (Option.some.inj e).symm, e1, e2, List.mem_of_getElem? e1⟩
  refine ⟨_, rfl, a, rfl, ⟨_, SqT.of ha⟩, fun D0 hD => ?_⟩
  refine lc_mapT (S := No) (xs := nums r) (fun i y _ => ∃ k, Γ[i]? = some k ∧ y = .int (sm (wtT ls) k)) hD id ha (by omega) (fun i y H H' z _ => z) (fun i x H3 e c Nx Z hN => ?_) (fun ys H3 c3 eD el er' => ?_)
  · obtain ⟨n, k, rfl, e1, e2, _⟩ := gt e
    have tr1 := tr.mono c fun _ _ h => h
    exact ⟨rfl, _, rfl, A.t, _, _, _, _, rfl, tr1.ins, T.c_Table, T.n_sums, rfl, _, rfl, A.asu, _, _, _, rfl, rfl, SqL.of tr1.lsu, su e2, hN _ _ (Ch.refl _ _) ⟨k, e1, rfl⟩⟩
  have ey := ints_of (ks := Γ) (f := sm (wtT ls)) (by omega) er'
  have tr3 := tr.mono c3 fun _ _ h => h
  refine ⟨D0, _, rfl, by rw [← ey]; exact SqL.of eD, ?_⟩
  refine ⟨_, rfl, A.t, _, _, _, _, rfl, tr3.ins, T.c_Table, T.n_sums, rfl, _, rfl, A.asu, _, _, _, rfl, rfl, SqL.of tr3.lsu, su hg, rfl, _, rfl, ite2 (fun e => ?_) (fun e => ?_)⟩
  · refine q false H3 c3 fun _ hd => ?_
    have := hd.sum (wtT ls)
    rw [this] at e
    simp at e
  · refine ⟨by show 0 ≤ sizeLine; decide, fun t ht => ?_⟩
    have c4 : Ch No H3 (upd H3 t (.tup [])) := Ch.new ht
    have t4 : WA (upd H3 t (.tup [])) t (told (numT ls) (Γ.take 0)) := upd_same
    have c04 := c3.trans c4
    generalize upd H3 t (.tup []) = H4 at c4 t4 c04 ⊢
    have ha4 := c04.get ha
    refine ⟨_, rfl, a, rfl, ⟨_, SqT.of ha4⟩, for_tup (xs := nums r) (fun i σ H' => ∃ x3 t', σ = [some (.ref A.t), some (.ref a), some (.int (g : Int)), x3, some (.ref t')] ∧ Ch No H H' ∧ WA H' t' (told (numT ls) (Γ.take i))) ⟨_, _, rfl, c04, t4⟩ ?_ ?_ ?_⟩
    · rintro i σ H' _ ⟨x3, t', rfl, c, _⟩
      exact SqT.of (c.get ha)
    · rintro i x σ H5 e ⟨x3, t5, rfl, c5, w5⟩
      obtain ⟨n, k, rfl, e1, e2, e3⟩ := gt e
      obtain ⟨b, e4, e5⟩ := wd e2
      have tr5 := tr.mono c5 fun _ _ h => h
      have z1 := told_length (numT ls) (Γ.take i)
      have z2 := nf_length (numT ls) k
      have z3 : szs (Γ.take i) ≤ szs Γ := by
        have := szs_app (Γ.take i) (Γ.drop i)
        rw [List.take_append_drop] at this
        omega
      have z4 := szs_mem e3
      refine ⟨_, rfl, _, rfl, A.t, _, _, _, _, rfl, tr5.ins, T.c_Table, T.n_spelled, rfl, _, rfl, A.asp, _, _, _, rfl, rfl, SqL.of tr5.lsp, e4, t5, b, _, _, rfl, w5, e5.mono c5, told_red _ _, nf_red _ _, by omega, fun t6 H6 c6 w6 => ?_⟩
      refine ⟨_, t6, rfl, c5.trans c6, ?_⟩
      have : Γ.take (i + 1) = Γ.take i ++ [k] := by rw [List.take_add_one, e1]; rfl
      rw [this, told_snoc]
      exact w6
    · rintro σ H5 ⟨x3, t5, rfl, c5, w5⟩
      have : Γ.take (nums r).length = Γ := List.take_of_length_le (by omega)
      rw [this] at w5
      obtain ⟨b, e4, e5⟩ := wd hg
      have tr5 := tr.mono c5 fun _ _ h => h
      refine ⟨_, rfl, _, rfl, A.t, _, _, _, _, rfl, tr5.ins, T.c_Table, T.n_spelled, rfl, _, rfl, A.asp, _, _, _, rfl, rfl, SqL.of tr5.lsp, e4, _, _, w5.dp, (e5.mono c5).dp, tupD_shaped _, tupD_shaped _, ?_⟩
      refine q _ H5 c5 fun hb hd => ?_
      rw [tupD_eqv, hd.told] at hb
      simp at hb
/-! ### what is known -/
def Res (H : Hp) (v : V) (Γ : List Kd) (C : Kd) : Prop := (v = .non ∧ ¬ D Γ C) ∨ PAp H v Γ C
theorem Res.keep {H H' : Hp} {v : V} {Γ : List Kd} {C : Kd} (h : Res H v Γ C) (ht : ∀ b xs, H b = some (.tup xs) → H' b = some (.tup xs)) : Res H' v Γ C := h.imp id fun z => z.keep ht
structure KnI (P : Program) (w : World) (H : Hp) (A : Ad) (ks : List Kd) (U : List Kd → Kd → Prop) (kvs : List (RK × V)) : Prop where
  nd : ND P w H A.ak kvs
  en : ∀ p ∈ kvs, ∃ Γ C, RowOk ks p.1.1 Γ ∧ ks[p.1.2]? = some C ∧ U Γ C ∧ Res H p.2 Γ C
  nk : (kvs.map (·.1)).Nodup
theorem KnI.mono {A : Ad} {H H' : Hp} {ks : List Kd} {U : List Kd → Kd → Prop} {kvs : List (RK × V)} (h : KnI P w H A ks U kvs) (c : Ch No H H') : KnI P w H' A ks U kvs :=
  ⟨h.nd.keep c.2 (fun o e => c.get e), fun p hp => let ⟨Γ, C, a, b, d, e⟩ := h.en p hp; ⟨Γ, C, a, b, d, e.keep c.2⟩, h.nk⟩
theorem row_inj {ks : List Kd} (nd : ks.Nodup) : ∀ {r t : List Nat} {Γ : List Kd}, RowOk ks r Γ → RowOk ks t Γ → r = t := by
  intro r t Γ h
  induction h generalizing t with
  | nil =>
    intro h'
    cases h'
    rfl
  | cons hq _ ih =>
    intro h'
    cases h' with
    | cons hq' h'' => rw [nodup_idx nd hq hq', ih h'']
theorem row_fun {ks : List Kd} : ∀ {r : List Nat} {Γ Δ : List Kd}, RowOk ks r Γ → RowOk ks r Δ → Γ = Δ := by
  intro r Γ Δ h
  induction h generalizing Δ with
  | nil =>
    intro h'
    cases h'
    rfl
  | cons hq _ ih =>
    intro h'
    cases h' with
    | cons hq' h'' => rw [Option.some.inj (hq.symm.trans hq'), ih h'']
theorem KnI.len {A : Ad} {H : Hp} {ks : List Kd} {U : List Kd → Kd → Prop} {kvs : List (RK × V)} (h : KnI P w H A ks U kvs) (nd : ks.Nodup) {M : List (List Kd × Kd)} (hM : ∀ Γ C, U Γ C → (Γ, C) ∈ M) : kvs.length ≤ M.length := by
  have key : ∀ l : List RK, l.Nodup → (∀ k ∈ l, ∃ Γ C, RowOk ks k.1 Γ ∧ ks[k.2]? = some C ∧ U Γ C) → ∃ m : List (List Kd × Kd), m.length = l.length ∧ m.Nodup ∧ (∀ z ∈ m, U z.1 z.2 ∧ ∃ k ∈ l, RowOk ks k.1 z.1 ∧ ks[k.2]? = some z.2) := by
    intro l
    induction l with
    | nil => exact fun _ _ => ⟨[], rfl, List.nodup_nil, fun z hz => by cases hz⟩
    | cons a r ih =>
      intro hn he
      rw [List.nodup_cons] at hn
      obtain ⟨m, m1, m2, m3⟩ := ih hn.2 fun k hk => he k (List.mem_cons_of_mem _ hk)
      obtain ⟨Γ, C, a1, a2, a3⟩ := he a (List.mem_cons_self ..)
      refine ⟨(Γ, C) :: m, by simp [m1], ?_, ?_⟩
      · rw [List.nodup_cons]
        refine ⟨fun z => ?_, m2⟩
        obtain ⟨_, k, k1, k2, k3⟩ := m3 _ z
        have e1 := row_inj nd a1 k2
        have e2 := nodup_idx nd a2 k3
        exact hn.1 (by rw [show a = k from Prod.ext e1 e2]; exact k1)
      · intro z hz
        rcases List.mem_cons.mp hz with e | e
        · subst e
          exact ⟨a3, a, List.mem_cons_self .., a1, a2⟩
        · obtain ⟨p1, k, p2, p3⟩ := m3 z e
          exact ⟨p1, k, List.mem_cons_of_mem _ p2, p3⟩
  obtain ⟨m, m1, m2, m3⟩ := key (kvs.map (·.1)) h.nk fun k hk => by
    obtain ⟨p, p1, rfl⟩ := List.mem_map.mp hk
    obtain ⟨Γ, C, a, b, d, _⟩ := h.en p p1
    exact ⟨Γ, C, a, b, d⟩
  have := nodup_le m2 fun z hz => hM z.1 z.2 (m3 z hz).1
  rw [List.length_map] at m1
  omega
/-- the table stands, what it knows is right -/
structure P2 (P : Program) (w : World) (K : PySem.W.Frag) (A : Ad) (ls : List Nat) (ks : List Kd) (U : List Kd → Kd → Prop) (H : Hp) : Prop where
  tb : Tb (tC' K) A H ls ks
  kn : ∃ kvs, KnI P w H A ks U kvs
theorem P2.mono {A : Ad} {ls : List Nat} {ks : List Kd} {U : List Kd → Kd → Prop} {H H' : Hp} (h : P2 P w K A ls ks U H) (c : Ch No H H') : P2 P w K A ls ks U H' :=
  ⟨h.tb.mono c fun _ _ z => z, let ⟨kvs, k⟩ := h.kn; ⟨kvs, k.mono c⟩⟩
/-- what bounds the walk -/
structure UM (U : List Kd → Kd → Prop) : Prop where
  cl : Closed U
  sz : ∀ Γ C, U Γ C → szs Γ + C.size ≤ 100
  m : ∃ M : List (List Kd × Kd), (∀ Γ C, U Γ C → (Γ, C) ∈ M) ∧ M.length < sizeLine
end
end WW
/-! The papers' search. -/
namespace WW
open PySem PySem.Spec PyProof.Rows L2
abbrev fs (Γ : List Kd) : Nat := (Γ.map Kd.forms).sum
theorem fs_app (Γ Δ : List Kd) : fs (Γ ++ Δ) = fs Γ + fs Δ := by simp [fs]
theorem fs_cons (k : Kd) (Δ : List Kd) : fs (k :: Δ) = k.forms + fs Δ := by simp [fs]
theorem fs_one (k : Kd) : fs [k] = k.forms := by simp [fs]
theorem forms_nd (f : Fm) (x y : Kd) : (Kd.nd f x y).forms = x.forms + y.forms + 1 := rfl
theorem nums_app (a b : List Nat) : nums (a ++ b) = nums a ++ nums b := List.map_append
theorem nums_take (a : List Nat) (n : Nat) : nums (a.take n) = (nums a).take n := List.map_take
theorem nums_drop (a : List Nat) (n : Nat) : nums (a.drop n) = (nums a).drop n := List.map_drop
theorem nums_len (a : List Nat) : (nums a).length = a.length := List.length_map _
section
variable {K : PySem.W.Frag} {H : Hp} {a b : Addr} {xs ys : List V} {Q : VK}
theorem tno {σ : L2.St} {H : Hp} {Q : Option Int → Hp → Prop} (h : Q none H) : tNoPart σ H Q := h
theorem slA_pre' {k : Nat} {i : Int} (e : i = (k : Int)) (h : H a = some (.tup xs)) (q : ∀ t H', Ch No H H' → H' t = some (.tup (xs.take k)) → Q (.ref t) H') : rSlA K (.ref a) none (some i) H Q := by
  subst e
  exact slA_pre k h q
theorem slA_suf' {k : Nat} {i : Int} (e : i = (k : Int)) (h : H a = some (.tup xs)) (q : ∀ t H', Ch No H H' → H' t = some (.tup (xs.drop k)) → Q (.ref t) H') : rSlA K (.ref a) (some i) none H Q := by
  subst e
  exact slA_suf k h q
theorem slA_mid' {j k : Nat} {i l : Int} (e : i = (j : Int)) (e' : l = (k : Int)) (h : H a = some (.tup xs)) (q : ∀ t H', Ch No H H' → H' t = some (.tup ((xs.take k).drop j)) → Q (.ref t) H') : rSlA K (.ref a) (some i) (some l) H Q := by
  subst e e'
  exact slA_mid j k h q
end
section
variable {P : Program} {w : World} {K : PySem.W.Frag} {mg : Str → Option Value} {base : Heap} {fd : Nat → FuncData}
/-- a search stands: the table, the row at a, the goal g -/
structure Se (P : Program) (w : World) (K : PySem.W.Frag) (A : Ad) (ls : List Nat) (ks : List Kd) (U : List Kd → Kd → Prop) (H : Hp) (a : Addr) (r : List Nat) (g : Nat) (Γ : List Kd) (C : Kd) : Prop where
  um : UM U
  p : P2 P w K A ls ks U H
  ro : H a = some (.tup (nums r))
  ok : RowOk ks r Γ
  go : ks[g]? = some C
  u : U Γ C
  ne : Γ ≠ []
def spPaper (P : Program) (w : World) (K : PySem.W.Frag) (n : Nat) : Sp := fun vs H Q _ => ∃ A ls ks U a r g Γ C, vs = [.ref A.t, .ref a, .int ((g : Nat) : Int)] ∧ Se P w K A ls ks U H a r g Γ C ∧ fs Γ + C.forms + 1 ≤ n ∧
  ∀ v H', Ch (· = A.ak) H H' → P2 P w K A ls ks U H' → Res H' v Γ C → Q v H'
/-- a split of the row shows the goal with -/
def spJoined (P : Program) (w : World) (K : PySem.W.Frag) (n : Nat) : Sp := fun vs H Q _ => ∃ A ls ks U a r g Γ C x y B E, vs = [.ref A.t, .ref a, .int ((x : Nat) : Int), .int ((y : Nat) : Int)] ∧ Se P w K A ls ks U H a r g Γ C ∧ C = .nd .w B E ∧ ks[x]? = some B ∧ ks[y]? = some E ∧ fs Γ + C.forms ≤ n ∧
  ∀ v H', Ch (· = A.ak) H H' → P2 P w K A ls ks U H' → ((v = .non ∧ ∀ X Y, Γ = X ++ Y → D X B → ¬ D Y E) ∨ PAp H' v Γ C) → Q v H'
theorem row_len {A : Ad} {ls : List Nat} {ks : List Kd} {U : List Kd → Kd → Prop} {H : Hp} {a : Addr} {r : List Nat} {g : Nat} {Γ : List Kd} {C : Kd} (s : Se P w K A ls ks U H a r g Γ C) : r.length = Γ.length ∧ r.length ≤ 100 := by
  have h1 := pr_len s.ok
  have h2 := szs_len Γ
  have h3 := s.um.sz _ _ s.u
  exact ⟨h1, by omega⟩
theorem Se.tr {A : Ad} {ls : List Nat} {ks : List Kd} {U : List Kd → Kd → Prop} {H : Hp} {a : Addr} {r : List Nat} {g : Nat} {Γ : List Kd} {C : Kd} (s : Se P w K A ls ks U H a r g Γ C) : ∃ dx fs', H A.t = some (.ins (tC' K) dx fs') ∧ fs'.lookup ("paper" : Str) = none ∧ fs'.lookup ("paper_anew" : Str) = none ∧ fs'.lookup ("may_come" : Str) = none ∧ fs'.lookup ("joined_paper" : Str) = none ∧ fs'.lookup ("waiting_paper" : Str) = none ∧ fs'.lookup ("behind_paper" : Str) = none ∧ fs'.lookup ("ahead_paper" : Str) = none := by
  obtain ⟨kvs, sh, pa, as, tr, _⟩ := s.p.tb.ex
  exact ⟨_, _, tr.ins, rfl, rfl, rfl, rfl, rfl, rfl, rfl⟩
theorem ok_joined (T : TX w K mg fd) {n k : Nat} (ih : FnOk P w K mg base CX0 k (He.ma K (He.ga K "Table") "paper") (fd 13) P_Table_paper (spPaper P w K n)) :
    FnOk P w K mg base CX0 (k + 1) (He.ma K (He.ga K "Table") "joined_paper") (fd 15) P_Table_joined_paper (spJoined P w K n) := by
  refine T.d_Table_joined_paper.ok sc_Table_joined_paper (fun vs H Q E h => ?_) (fun cdv A0 outer s H vs Q E hr h => ?_)
  · obtain ⟨A, ls, ks, U, a, r, g, Γ, C, x, y, B, E', rfl, _⟩ := h
    rfl
  obtain ⟨A, ls, ks, U, a, r, g, Γ, C, x, y, B, E', rfl, se, rfl, hx, hy, hf, q⟩ := h
  refine ⟨_, pss_cons (ps_for PassesOwn.never rfl (pi_range2 (by rfl) T.z_range (pa_cons pe_int (pa_cons (pe_callB call_len_seq (by rfl) T.z_len boot_len (pa_cons (pv 1) pa_nil)) pa_nil))) (pg_name (i := 4) sc_Table_joined_paper.nd rfl (Or.inl rfl))
      (pss_cons (ps_set (i := 5) sc_Table_joined_paper.nd rfl (Or.inl rfl) (pe_meth (pv 0) T.c_Table T.m_paper ih hr T.d_Table_paper.b .nil pass0 (pa_cons (pe_slice sl_tupA (pv 1) po_none (po_some (pv 4))) (pa_cons (pv 2) pa_nil))))
      (pss_cons (ps_set (i := 6) sc_Table_joined_paper.nd rfl (Or.inl rfl) (pe_ifExp (pt_cmpR op_isN (pv 5) pe_non (nomark _)) pe_non (pe_meth (pv 0) T.c_Table T.m_paper ih hr T.d_Table_paper.b .nil pass0 (pa_cons (pe_slice sl_tupA (pv 1) (po_some (pv 4)) po_none) (pa_cons (pv 3) pa_nil)))))
      (pss_one (ps_if (pt_cmpR op_notN (pv 6) pe_non (nomark _)) (pss_one (ps_ret (pe_tup (pa_cons pe_str (pa_cons (pv 5) (pa_cons (pv 6) pa_nil)))))) pss_nil)))))
    (pss_one (ps_ret pe_non)), ?_⟩
  obtain ⟨l1, l2⟩ := row_len se
  have l3 := nums_len r
  refine ⟨_, rfl, a, _, rfl, .inr (SqT.of se.ro), 1, ((nums r).length : Int), rfl, ⟨by decide, by decide, by omega, by omega⟩, ?_⟩
  refine for_range (lo := 1) (n := (((nums r).length : Int) - 1).toNat) (fun i σ H' => ∃ x4 x5 x6, σ = [some (.ref A.t), some (.ref a), some (.int (x : Int)), some (.int (y : Int)), x4, x5, x6] ∧ Ch (· = A.ak) H H' ∧ P2 P w K A ls ks U H' ∧ ∀ j, j < i → D (Γ.take (j + 1)) B → ¬ D (Γ.drop (j + 1)) E') ⟨_, _, _, rfl, Ch.refl _ _, se.p, fun j hj => by omega⟩ ?_ ?_
  · rintro i σ H1 hi ⟨x4, x5, x6, rfl, c1, p1, no⟩
    have hi' : i + 1 < Γ.length := by omega
    have e1 : (1 : Int) + (i : Int) = ((i + 1 : Nat) : Int) := by omega
    have eΓ : Γ = Γ.take (i + 1) ++ Γ.drop (i + 1) := (List.take_append_drop _ _).symm
    have ef : fs Γ = fs (Γ.take (i + 1)) + fs (Γ.drop (i + 1)) := by rw [← fs_app, List.take_append_drop]
    have hu := se.u
    rw [eΓ] at hu
    have fC := forms_nd .w B E'
    obtain ⟨dx, fl, i1, i2, _⟩ := (Se.mk se.um p1 (c1.2 _ _ se.ro) se.ok se.go se.u se.ne).tr
    refine ⟨_, rfl, A.t, dx, fl, rfl, i1, i2, _, rfl, _, rfl, _, rfl, ?_⟩
    refine slA_pre' (a := a) (xs := nums r) (k := i + 1) e1 (c1.2 _ _ se.ro) fun t1 H2 c2 h2 => ?_
    rw [← nums_take] at h2
    refine ⟨_, rfl, A, ls, ks, U, t1, r.take (i + 1), x, Γ.take (i + 1), B, rfl, ⟨se.um, p1.mono c2, h2, pr_tk se.ok _, hx, se.um.cl.jn1 hu, fun z => ?_⟩, by omega, fun v1 H3 c3 p3 r3 => ?_⟩
    · have := congrArg List.length z
      rw [List.length_take, List.length_nil] at this
      omega
    have c13 := (c2.any (T := (· = A.ak))).trans c3
    have c03 := c1.trans c13
    rcases r3 with ⟨rfl, nd⟩ | pp
    · -- the left part doesn't come
      refine ⟨_, rfl, rfl, _, rfl, iteT ?_⟩
      refine ⟨_, rfl, rfl, _, rfl, iteF ?_⟩
      refine ⟨_, _, _, rfl, c03, p3, fun j hj => ?_⟩
      by_cases hji : j = i
      · subst hji
        exact fun z => absurd z nd
      · exact no j (by omega)
    · obtain ⟨b1, xs1, rfl, hb1⟩ := pp.ref
      refine ⟨_, rfl, rfl, _, rfl, iteF ?_⟩
      obtain ⟨dx, fl, i1, i2, _⟩ := (Se.mk se.um p3 (c03.2 _ _ se.ro) se.ok se.go se.u se.ne).tr
      refine ⟨_, rfl, A.t, dx, fl, rfl, i1, i2, _, rfl, _, rfl, _, rfl, ?_⟩
      refine tno ?_
      refine slA_suf' (a := a) (xs := nums r) (k := i + 1) e1 (c03.2 _ _ se.ro) fun t2 H4 c4 h4 => ?_
      rw [← nums_drop] at h4
      refine ⟨_, rfl, A, ls, ks, U, t2, r.drop (i + 1), y, Γ.drop (i + 1), E', rfl, ⟨se.um, p3.mono c4, h4, pr_dp se.ok _, hy, se.um.cl.jn2 hu, fun z => ?_⟩, by omega, fun v2 H5 c5 p5 r5 => ?_⟩
      · have := congrArg List.length z
        rw [List.length_drop, List.length_nil] at this
        omega
      have c35 := (c4.any (T := (· = A.ak))).trans c5
      have c05 := c03.trans c35
      rcases r5 with ⟨rfl, nd⟩ | pp2
      · refine ⟨_, rfl, rfl, _, rfl, iteF ?_⟩
        refine ⟨_, _, _, rfl, c05, p5, fun j hj => ?_⟩
        by_cases hji : j = i
        · subst hji
          exact fun _ => nd
        · exact no j (by omega)
      · obtain ⟨b2, xs2, rfl, hb2⟩ := pp2.ref
        refine ⟨_, rfl, rfl, _, rfl, iteT ?_⟩
        refine ⟨_, rfl, _, rfl, by show 3 ≤ sizeLine; decide, fun t3 ht3 => ?_⟩
        have c6 : Ch No H5 (upd H5 t3 (.tup [.str "join", .ref b1, .ref b2])) := Ch.new ht3
        refine q _ _ (c05.trans c6.any) (p5.mono c6) (.inr ?_)
        rw [eΓ]
        exact .jn upd_same ((pp.keep c35.2).keep c6.2) (pp2.keep c6.2)
  · rintro σ H1 ⟨x4, x5, x6, rfl, c1, p1, no⟩
    refine q .non H1 c1 p1 (.inl ⟨rfl, fun X Y e hX hY => ?_⟩)
    have nX := hX.ne
    have nY := hY.ne
    have lX : 0 < X.length := List.length_pos_iff.mpr nX
    have lY : 0 < Y.length := List.length_pos_iff.mpr nY
    have lΓ : Γ.length = X.length + Y.length := by rw [e]; simp
    refine no (X.length - 1) (by omega) ?_ ?_
    · rw [show X.length - 1 + 1 = X.length by omega, e, List.take_left]
      exact hX
    · rw [show X.length - 1 + 1 = X.length by omega, e, List.drop_left]
      exact hY
end
end WW
/-! behind_paper, ahead_paper. -/
namespace WW
open PySem PySem.Spec PyProof.Rows L2
theorem spl_take {α : Type} (X Y : List α) (z : α) : (X ++ z :: Y).take X.length = X := List.take_left
theorem spl_mid {α : Type} (X Y : List α) (z : α) (i : Nat) : ((X ++ z :: Y).take (X.length + 2 + i)).drop (X.length + 1) = Y.take (i + 1) := by
  have e : X.length + 2 + i = X.length + ((i + 1) + 1) := by omega
  have e2 : X ++ z :: Y = (X ++ [z]) ++ Y := by simp
  have e3 : X.length + 2 + i = (X ++ [z]).length + (i + 1) := by simp; omega
  rw [e2, e3, List.take_append, List.take_of_length_le (by omega)]
  have e4 : (X ++ [z]).length + (i + 1) - (X ++ [z]).length = i + 1 := by omega
  have e5 : X.length + 1 = (X ++ [z]).length := by simp
  rw [e4, e5, List.drop_left]
theorem spl_drop {α : Type} (X Y : List α) (z : α) (i : Nat) : (X ++ z :: Y).drop (X.length + 2 + i) = Y.drop (i + 1) := by
  have e2 : X ++ z :: Y = (X ++ [z]) ++ Y := by simp
  have e3 : X.length + 2 + i = (X ++ [z]).length + (i + 1) := by simp; omega
  rw [e2, e3, List.drop_append, List.drop_eq_nil_of_le (by omega)]
  have e4 : (X ++ [z]).length + (i + 1) - (X ++ [z]).length = i + 1 := by omega
  rw [e4, List.nil_append]
theorem spl_after {α : Type} (X Y : List α) (z : α) : (X ++ z :: Y).drop (X.length + 1) = Y := by
  have e2 : X ++ z :: Y = (X ++ [z]) ++ Y := by simp
  have e3 : X.length + 1 = (X ++ [z]).length := by simp
  rw [e2, e3, List.drop_left]
theorem spl_pre {α : Type} (X Y : List α) (z : α) (s : Nat) (h : s ≤ X.length) : (X ++ z :: Y).take s = X.take s := by
  rw [List.take_append_of_le_length h]
theorem spl_in {α : Type} (X Y : List α) (z : α) (s : Nat) (h : s ≤ X.length) : ((X ++ z :: Y).take X.length).drop s = X.drop s := by rw [List.take_left]
theorem spl_get {α : Type} (X Y : List α) (z : α) : (X ++ z :: Y)[X.length]? = some z := by simp
section
variable {P : Program} {w : World} {K : PySem.W.Frag} {mg : Str → Option Value} {base : Heap} {fd : Nat → FuncData}
theorem pair_at {C : Addr} {A : Ad} {H : Hp} {ls : List Nat} {ks : List Kd} (tb : Tb C A H ls ks) {m : Nat} {k : Kd} (e : ks[m]? = some k) : ∃ pl pr i1 i2, H A.apa = some (.lst pl) ∧ atI pl (m : Int) = some (.ref pr) ∧ H pr = some (.tup [.int ((i1 : Nat) : Int), .int ((i2 : Nat) : Int)]) ∧ ∀ f x y, k = .nd f x y → ks[i1]? = some x ∧ ks[i2]? = some y := by
  obtain ⟨kvs, sh, pa, as, tr, h2, h3, h4, h5⟩ := tb.ex
  obtain ⟨a, i1, i2, e1, e2, e3⟩ := h3.2 m k e
  exact ⟨pa, a, i1, i2, tr.lpa, atI_nat e1, e2, e3⟩
def spBe (P : Program) (w : World) (K : PySem.W.Frag) (n : Nat) : Sp := fun vs H Q _ => ∃ A ls ks U a r g Γ C X Y B E, vs = [.ref A.t, .ref a, .int (((X : List Kd).length : Nat) : Int), .int ((g : Nat) : Int)] ∧ Se P w K A ls ks U H a r g Γ C ∧ Γ = X ++ .nd .b B E :: Y ∧ fs Γ + C.forms ≤ n ∧
  ∀ v H', Ch (· = A.ak) H H' → P2 P w K A ls ks U H' → ((v = .non ∧ ∀ j, j < Y.length → D (Y.take (j + 1)) E → ¬ D (X ++ B :: Y.drop (j + 1)) C) ∨ PAp H' v Γ C) → Q v H'
theorem ok_be (T : TX w K mg fd) {n k : Nat} (ih : FnOk P w K mg base CX0 k (He.ma K (He.ga K "Table") "paper") (fd 13) P_Table_paper (spPaper P w K n)) :
    FnOk P w K mg base CX0 (k + 1) (He.ma K (He.ga K "Table") "behind_paper") (fd 17) P_Table_behind_paper (spBe P w K n) := by
  refine T.d_Table_behind_paper.ok sc_Table_behind_paper (fun vs H Q E h => ?_) (fun cdv A0 outer s H vs Q E0 hr h => ?_)
  · obtain ⟨A, ls, ks, U, a, r, g, Γ, C, X, Y, B, E', rfl, _⟩ := h
    rfl
  obtain ⟨A, ls, ks, U, a, r, g, Γ, C, X, Y, B, E, rfl, se, eΓ, hf, q⟩ := h
  refine ⟨_, pss_cons (ps_asg (pe_ix ix_list (pe_fld (pv 0) rfl) (pe_ix ix_tup (pv 1) (pv 2) (fun _ _ => rfl)) (fun _ _ => rfl)) (pg_tup rfl (pgs_cons (pg_name (i := 4) sc_Table_behind_paper.nd rfl (Or.inl rfl)) (pgs_cons (pg_name (i := 5) sc_Table_behind_paper.nd rfl (Or.inl rfl)) pgs_nil))))
    (pss_cons (ps_for PassesOwn.never rfl (pi_range2 (by rfl) T.z_range (pa_cons (pe_op op_add (pv 2) pe_int) (pa_cons (pe_op op_add (pe_callB call_len_seq (by rfl) T.z_len boot_len (pa_cons (pv 1) pa_nil)) pe_int) pa_nil))) (pg_name (i := 6) sc_Table_behind_paper.nd rfl (Or.inl rfl))
      (pss_cons (ps_set (i := 7) sc_Table_behind_paper.nd rfl (Or.inl rfl) (pe_meth (pv 0) T.c_Table T.m_paper ih hr T.d_Table_paper.b .nil pass0 (pa_cons (pe_slice sl_tupA (pv 1) (po_some (pe_op op_add (pv 2) pe_int)) (po_some (pv 6))) (pa_cons (pv 5) pa_nil))))
      (pss_cons (ps_set (i := 8) sc_Table_behind_paper.nd rfl (Or.inl rfl) (pe_ifExp (pt_cmpR op_isN (pv 7) pe_non (nomark _)) pe_non (pe_meth (pv 0) T.c_Table T.m_paper ih hr T.d_Table_paper.b .nil pass0
        (pa_cons (pe_op op_catA (pe_op op_catA (pe_slice sl_tupA (pv 1) po_none (po_some (pv 2))) (pe_tup (pa_cons (pv 4) pa_nil))) (pe_slice sl_tupA (pv 1) (po_some (pv 6)) po_none)) (pa_cons (pv 3) pa_nil)))))
      (pss_one (ps_if (pt_cmpR op_notN (pv 8) pe_non (nomark _)) (pss_one (ps_ret (pe_tup (pa_cons pe_str (pa_cons (pv 2) (pa_cons (pv 8) (pa_cons (pv 7) pa_nil))))))) pss_nil)))))
    (pss_one (ps_ret pe_non))), ?_⟩
  obtain ⟨l1, l2⟩ := row_len se
  have l3 := nums_len r
  have lΓ : Γ.length = X.length + 1 + Y.length := by rw [eΓ]; simp; omega
  have er := List.getElem?_eq_getElem (l := r) (i := X.length) (by omega)
  obtain ⟨kk, ek1, ek2⟩ := pr_at se.ok er
  have ekk : kk = .nd .b B E := by
    rw [eΓ, spl_get] at ek1
    exact (Option.some.inj ek1).symm
  subst ekk
  obtain ⟨pl, pr, j1, j2, q1, q2, q3, q4⟩ := pair_at se.p.tb ek2
  obtain ⟨g1, g2⟩ := q4 _ _ _ rfl
  obtain ⟨kvs0, sh0, pa0, as0, tr0, _⟩ := se.p.tb.ex
  have enr : (nums r)[X.length]? = some (.int ((r[X.length]'(by omega) : Nat) : Int)) := by
    rw [List.getElem?_map, er]
    rfl
  refine ⟨_, rfl, A.t, _, _, _, _, rfl, tr0.ins, T.c_Table, T.n_pairs, rfl, _, rfl, _, rfl, a, _, _, _, rfl, rfl, SqT.of se.ro, atI_nat enr, A.apa, pl, _, _, rfl, rfl, SqL.of q1, q2, pr, _, rfl, SqT.of q3, rfl, _, _, rfl, _, _, rfl, rfl, ?_⟩
  refine ⟨_, rfl, _, _, rfl, rfl, _, rfl, a, _, rfl, .inr (SqT.of se.ro), _, _, rfl, rfl, _, _, rfl, ⟨by omega, by omega, by omega, by omega⟩, ?_⟩
  refine for_range (lo := (X.length : Int) + 2) (n := (((nums r).length : Int) + 1 - ((X.length : Int) + 2)).toNat) (fun i σ H' => ∃ x6 x7 x8, σ = [some (.ref A.t), some (.ref a), some (.int (X.length : Int)), some (.int (g : Int)), some (.int (j1 : Int)), some (.int (j2 : Int)), x6, x7, x8] ∧ Ch (· = A.ak) H H' ∧ P2 P w K A ls ks U H' ∧ ∀ j, j < i → D (Y.take (j + 1)) E → ¬ D (X ++ B :: Y.drop (j + 1)) C) ⟨_, _, _, rfl, Ch.refl _ _, se.p, fun j hj => by omega⟩ ?_ ?_
  · rintro i σ H1 hi ⟨x6, x7, x8, rfl, c1, p1, no⟩
    have hi' : i < Y.length := by omega
    have e1 : (X.length : Int) + 2 + (i : Int) = ((X.length + 2 + i : Nat) : Int) := by omega
    have eY : X ++ (Kd.nd .b B E :: Y.take (i + 1)) ++ Y.drop (i + 1) = Γ := by
      rw [eΓ, List.append_assoc, List.cons_append, List.take_append_drop]
    have ef : fs Γ = fs X + (B.forms + E.forms + 1 + fs (Y.take (i + 1))) + fs (Y.drop (i + 1)) := by
      rw [← eY, fs_app, fs_app, fs_cons, forms_nd]
    have hu := se.u
    rw [← eY] at hu
    obtain ⟨dx, fl, i1, i2, _⟩ := (Se.mk se.um p1 (c1.2 _ _ se.ro) se.ok se.go se.u se.ne).tr
    refine ⟨_, rfl, A.t, dx, fl, rfl, i1, i2, _, rfl, _, rfl, _, _, rfl, rfl, _, rfl, _, rfl, _, rfl, ?_⟩
    refine slA_mid' (a := a) (xs := nums r) (j := X.length + 1) (k := X.length + 2 + i) (by omega) e1 (c1.2 _ _ se.ro) fun t1 H2 c2 h2 => ?_
    rw [← nums_take, ← nums_drop] at h2
    have rΘ : RowOk ks ((r.take (X.length + 2 + i)).drop (X.length + 1)) (Y.take (i + 1)) := by
      have := pr_dp (pr_tk se.ok (X.length + 2 + i)) (X.length + 1)
      rwa [eΓ, spl_mid] at this
    refine ⟨_, rfl, A, ls, ks, U, t1, _, j2, Y.take (i + 1), E, rfl, ⟨se.um, p1.mono c2, h2, rΘ, g2, se.um.cl.be2 hu, fun z => ?_⟩, by omega, fun v1 H3 c3 p3 r3 => ?_⟩
    · have := congrArg List.length z
      rw [List.length_take, List.length_nil] at this
      omega
    have c13 := (c2.any (T := (· = A.ak))).trans c3
    have c03 := c1.trans c13
    rcases r3 with ⟨rfl, nd⟩ | pp
    · refine ⟨_, rfl, rfl, _, rfl, iteT ?_⟩
      refine ⟨_, rfl, rfl, _, rfl, iteF ?_⟩
      refine ⟨_, _, _, rfl, c03, p3, fun j hj => ?_⟩
      by_cases hji : j = i
      · subst hji
        exact fun z => absurd z nd
      · exact no j (by omega)
    · obtain ⟨b1, xs1, rfl, hb1⟩ := pp.ref
      refine ⟨_, rfl, rfl, _, rfl, iteF ?_⟩
      obtain ⟨dx, fl, i1, i2, _⟩ := (Se.mk se.um p3 (c03.2 _ _ se.ro) se.ok se.go se.u se.ne).tr
      refine ⟨_, rfl, A.t, dx, fl, rfl, i1, i2, _, rfl, _, rfl, _, rfl, ?_⟩
      refine slA_pre' (a := a) (xs := nums r) (k := X.length) rfl (c03.2 _ _ se.ro) fun t2 H4 c4 h4 => ?_
      refine ⟨_, rfl, by show 1 ≤ sizeLine; decide, fun t5 ht5 => ?_⟩
      have c5 : Ch No H4 (upd H4 t5 (.tup [.int (j1 : Int)])) := Ch.new ht5
      have h5 : (upd H4 t5 (.tup [.int (j1 : Int)])) t5 = some (.tup [.int (j1 : Int)]) := upd_same
      have h4' := c5.get h4
      have c35 := c4.trans c5
      generalize upd H4 t5 (.tup [.int (j1 : Int)]) = H5 at c5 h5 h4' c35 ⊢
      refine catA h4' h5 (by simp; omega) fun t6 H6 c6 h6 => ?_
      refine ⟨_, rfl, _, rfl, _, rfl, ?_⟩
      refine tno ?_
      refine slA_suf' (a := a) (xs := nums r) (k := X.length + 2 + i) e1 ((c03.trans (c35.trans c6).any).2 _ _ se.ro) fun t7 H7 c7 h7 => ?_
      refine catA (c7.get h6) h7 (by simp; omega) fun t8 H8 c8 h8 => ?_
      have c38 := ((c35.trans c6).trans c7).trans c8
      have h8' : H8 t8 = some (.tup (nums (r.take X.length ++ [j1] ++ r.drop (X.length + 2 + i)))) := by
        rw [h8, nums_app, nums_app, nums_take, nums_drop]
        rfl
      have rN : RowOk ks (r.take X.length ++ [j1] ++ r.drop (X.length + 2 + i)) (X ++ B :: Y.drop (i + 1)) := by
        have k1 := pr_tk se.ok X.length
        have k2 := pr_dp se.ok (X.length + 2 + i)
        rw [eΓ, spl_take] at k1
        rw [eΓ, spl_drop] at k2
        have := pr_app (pr_app k1 (.cons g1 .nil)) k2
        have e : X ++ [B] ++ Y.drop (i + 1) = X ++ B :: Y.drop (i + 1) := by simp
        rw [e] at this
        exact this
      refine ⟨_, rfl, A, ls, ks, U, t8, _, g, X ++ B :: Y.drop (i + 1), C, rfl, ⟨se.um, p3.mono c38, h8', rN, se.go, se.um.cl.be1 hu, by simp⟩, by rw [fs_app, fs_cons]; omega, fun v2 H9 c9 p9 r9 => ?_⟩
      have c39 := (c38.any (T := (· = A.ak))).trans c9
      have c09 := c03.trans c39
      rcases r9 with ⟨rfl, nd⟩ | pp2
      · refine ⟨_, rfl, rfl, _, rfl, iteF ?_⟩
        refine ⟨_, _, _, rfl, c09, p9, fun j hj => ?_⟩
        by_cases hji : j = i
        · subst hji
          exact fun _ => nd
        · exact no j (by omega)
      · obtain ⟨b2, xs2, rfl, hb2⟩ := pp2.ref
        refine ⟨_, rfl, rfl, _, rfl, iteT ?_⟩
        refine ⟨_, rfl, _, rfl, _, rfl, by show 4 ≤ sizeLine; decide, fun t3 ht3 => ?_⟩
        have c10 : Ch No H9 (upd H9 t3 (.tup [.str "behind", .int (X.length : Int), .ref b2, .ref b1])) := Ch.new ht3
        refine q _ _ (c09.trans c10.any) (p9.mono c10) (.inr ?_)
        rw [← eY]
        exact .be upd_same (pp2.keep c10.2) ((pp.keep c39.2).keep c10.2)
  · rintro σ H1 ⟨x6, x7, x8, rfl, c1, p1, no⟩
    exact q .non H1 c1 p1 (.inl ⟨rfl, fun j hj => no j (by omega)⟩)
end
end WW
/-! ahead_paper. -/
namespace WW
open PySem PySem.Spec PyProof.Rows L2
section
variable {P : Program} {w : World} {K : PySem.W.Frag} {mg : Str → Option Value} {base : Heap} {fd : Nat → FuncData}
def spAh (P : Program) (w : World) (K : PySem.W.Frag) (n : Nat) : Sp := fun vs H Q _ => ∃ A ls ks U a r g Γ C X Y B E, vs = [.ref A.t, .ref a, .int (((X : List Kd).length : Nat) : Int), .int ((g : Nat) : Int)] ∧ Se P w K A ls ks U H a r g Γ C ∧ Γ = X ++ .nd .a E B :: Y ∧ fs Γ + C.forms ≤ n ∧
  ∀ v H', Ch (· = A.ak) H H' → P2 P w K A ls ks U H' → ((v = .non ∧ ∀ j, j < X.length → D (X.drop j) E → ¬ D (X.take j ++ B :: Y) C) ∨ PAp H' v Γ C) → Q v H'
theorem ok_ah (T : TX w K mg fd) {n k : Nat} (ih : FnOk P w K mg base CX0 k (He.ma K (He.ga K "Table") "paper") (fd 13) P_Table_paper (spPaper P w K n)) :
    FnOk P w K mg base CX0 (k + 1) (He.ma K (He.ga K "Table") "ahead_paper") (fd 18) P_Table_ahead_paper (spAh P w K n) := by
  refine T.d_Table_ahead_paper.ok sc_Table_ahead_paper (fun vs H Q E h => ?_) (fun cdv A0 outer s H vs Q E0 hr h => ?_)
  · obtain ⟨A, ls, ks, U, a, r, g, Γ, C, X, Y, B, E', rfl, _⟩ := h
    rfl
  obtain ⟨A, ls, ks, U, a, r, g, Γ, C, X, Y, B, E, rfl, se, eΓ, hf, q⟩ := h
  refine ⟨_, pss_cons (ps_asg (pe_ix ix_list (pe_fld (pv 0) rfl) (pe_ix ix_tup (pv 1) (pv 2) (fun _ _ => rfl)) (fun _ _ => rfl)) (pg_tup rfl (pgs_cons (pg_name (i := 4) sc_Table_ahead_paper.nd rfl (Or.inl rfl)) (pgs_cons (pg_name (i := 5) sc_Table_ahead_paper.nd rfl (Or.inl rfl)) pgs_nil))))
    (pss_cons (ps_for PassesOwn.never rfl (pi_range1 (by rfl) T.z_range (pa_cons (pv 2) pa_nil)) (pg_name (i := 6) sc_Table_ahead_paper.nd rfl (Or.inl rfl))
      (pss_cons (ps_set (i := 7) sc_Table_ahead_paper.nd rfl (Or.inl rfl) (pe_meth (pv 0) T.c_Table T.m_paper ih hr T.d_Table_paper.b .nil pass0 (pa_cons (pe_slice sl_tupA (pv 1) (po_some (pv 6)) (po_some (pv 2))) (pa_cons (pv 4) pa_nil))))
      (pss_cons (ps_set (i := 8) sc_Table_ahead_paper.nd rfl (Or.inl rfl) (pe_ifExp (pt_cmpR op_isN (pv 7) pe_non (nomark _)) pe_non (pe_meth (pv 0) T.c_Table T.m_paper ih hr T.d_Table_paper.b .nil pass0
        (pa_cons (pe_op op_catA (pe_op op_catA (pe_slice sl_tupA (pv 1) po_none (po_some (pv 6))) (pe_tup (pa_cons (pv 5) pa_nil))) (pe_slice sl_tupA (pv 1) (po_some (pe_op op_add (pv 2) pe_int)) po_none)) (pa_cons (pv 3) pa_nil)))))
      (pss_one (ps_if (pt_cmpR op_notN (pv 8) pe_non (nomark _)) (pss_one (ps_ret (pe_tup (pa_cons pe_str (pa_cons (pv 6) (pa_cons (pv 8) (pa_cons (pv 7) pa_nil))))))) pss_nil)))))
    (pss_one (ps_ret pe_non))), ?_⟩
  obtain ⟨l1, l2⟩ := row_len se
  have l3 := nums_len r
  have lΓ : Γ.length = X.length + 1 + Y.length := by rw [eΓ]; simp; omega
  have er := List.getElem?_eq_getElem (l := r) (i := X.length) (by omega)
  obtain ⟨kk, ek1, ek2⟩ := pr_at se.ok er
  have ekk : kk = .nd .a E B := by
    rw [eΓ, spl_get] at ek1
    exact (Option.some.inj ek1).symm
  subst ekk
  obtain ⟨pl, pr, j1, j2, q1, q2, q3, q4⟩ := pair_at se.p.tb ek2
  obtain ⟨g1, g2⟩ := q4 _ _ _ rfl
  obtain ⟨kvs0, sh0, pa0, as0, tr0, _⟩ := se.p.tb.ex
  have enr : (nums r)[X.length]? = some (.int ((r[X.length]'(by omega) : Nat) : Int)) := by
    rw [List.getElem?_map, er]
    rfl
  refine ⟨_, rfl, A.t, _, _, _, _, rfl, tr0.ins, T.c_Table, T.n_pairs, rfl, _, rfl, _, rfl, a, _, _, _, rfl, rfl, SqT.of se.ro, atI_nat enr, A.apa, pl, _, _, rfl, rfl, SqL.of q1, q2, pr, _, rfl, SqT.of q3, rfl, _, _, rfl, _, _, rfl, rfl, ?_⟩
  refine ⟨_, rfl, _, rfl, by omega, by omega, ?_⟩
  refine for_range (lo := 0) (n := ((X.length : Int)).toNat) (fun i σ H' => ∃ x6 x7 x8, σ = [some (.ref A.t), some (.ref a), some (.int (X.length : Int)), some (.int (g : Int)), some (.int (j1 : Int)), some (.int (j2 : Int)), x6, x7, x8] ∧ Ch (· = A.ak) H H' ∧ P2 P w K A ls ks U H' ∧ ∀ j, j < i → D (X.drop j) E → ¬ D (X.take j ++ B :: Y) C) ⟨_, _, _, rfl, Ch.refl _ _, se.p, fun j hj => by omega⟩ ?_ ?_
  · rintro i σ H1 hi ⟨x6, x7, x8, rfl, c1, p1, no⟩
    have hi' : i < X.length := by omega
    have e1 : (0 : Int) + (i : Int) = ((i : Nat) : Int) := by omega
    have eX : X.take i ++ (X.drop i ++ [Kd.nd .a E B]) ++ Y = Γ := by
      rw [eΓ, ← List.append_assoc, List.take_append_drop, List.append_assoc]
      rfl
    have ef : fs Γ = fs (X.take i) + (fs (X.drop i) + (E.forms + B.forms + 1)) + fs Y := by
      rw [← eX, fs_app, fs_app, fs_app, fs_one, forms_nd]
    have hu := se.u
    rw [← eX] at hu
    obtain ⟨dx, fl, i1, i2, _⟩ := (Se.mk se.um p1 (c1.2 _ _ se.ro) se.ok se.go se.u se.ne).tr
    refine ⟨_, rfl, A.t, dx, fl, rfl, i1, i2, _, rfl, _, rfl, _, rfl, _, rfl, _, rfl, ?_⟩
    refine slA_mid' (a := a) (xs := nums r) (j := i) (k := X.length) e1 rfl (c1.2 _ _ se.ro) fun t1 H2 c2 h2 => ?_
    rw [← nums_take, ← nums_drop] at h2
    have rΘ : RowOk ks ((r.take X.length).drop i) (X.drop i) := by
      have := pr_dp (pr_tk se.ok X.length) i
      rwa [eΓ, spl_take] at this
    refine ⟨_, rfl, A, ls, ks, U, t1, _, j1, X.drop i, E, rfl, ⟨se.um, p1.mono c2, h2, rΘ, g1, se.um.cl.ah2 hu, fun z => ?_⟩, by omega, fun v1 H3 c3 p3 r3 => ?_⟩
    · have := congrArg List.length z
      rw [List.length_drop, List.length_nil] at this
      omega
    have c13 := (c2.any (T := (· = A.ak))).trans c3
    have c03 := c1.trans c13
    rcases r3 with ⟨rfl, nd⟩ | pp
    · refine ⟨_, rfl, rfl, _, rfl, iteT ?_⟩
      refine ⟨_, rfl, rfl, _, rfl, iteF ?_⟩
      refine ⟨_, _, _, rfl, c03, p3, fun j hj => ?_⟩
      by_cases hji : j = i
      · subst hji
        exact fun z => absurd z nd
      · exact no j (by omega)
    · obtain ⟨b1, xs1, rfl, hb1⟩ := pp.ref
      refine ⟨_, rfl, rfl, _, rfl, iteF ?_⟩
      obtain ⟨dx, fl, i1, i2, _⟩ := (Se.mk se.um p3 (c03.2 _ _ se.ro) se.ok se.go se.u se.ne).tr
      refine ⟨_, rfl, A.t, dx, fl, rfl, i1, i2, _, rfl, _, rfl, _, rfl, ?_⟩
      refine slA_pre' (a := a) (xs := nums r) (k := i) e1 (c03.2 _ _ se.ro) fun t2 H4 c4 h4 => ?_
      refine ⟨_, rfl, by show 1 ≤ sizeLine; decide, fun t5 ht5 => ?_⟩
      have c5 : Ch No H4 (upd H4 t5 (.tup [.int (j2 : Int)])) := Ch.new ht5
      have h5 : (upd H4 t5 (.tup [.int (j2 : Int)])) t5 = some (.tup [.int (j2 : Int)]) := upd_same
      have h4' := c5.get h4
      have c35 := c4.trans c5
      generalize upd H4 t5 (.tup [.int (j2 : Int)]) = H5 at c5 h5 h4' c35 ⊢
      refine catA h4' h5 (by simp; omega) fun t6 H6 c6 h6 => ?_
      refine ⟨_, rfl, _, rfl, _, _, rfl, rfl, _, rfl, ?_⟩
      refine tno ?_
      refine slA_suf' (a := a) (xs := nums r) (k := X.length + 1) (by omega) ((c03.trans (c35.trans c6).any).2 _ _ se.ro) fun t7 H7 c7 h7 => ?_
      refine catA (c7.get h6) h7 (by simp; omega) fun t8 H8 c8 h8 => ?_
      have c38 := ((c35.trans c6).trans c7).trans c8
      have h8' : H8 t8 = some (.tup (nums (r.take i ++ [j2] ++ r.drop (X.length + 1)))) := by
        rw [h8, nums_app, nums_app, nums_take, nums_drop]
        rfl
      have rN : RowOk ks (r.take i ++ [j2] ++ r.drop (X.length + 1)) (X.take i ++ B :: Y) := by
        have k1 := pr_tk se.ok i
        have k2 := pr_dp se.ok (X.length + 1)
        rw [eΓ, spl_pre _ _ _ _ (by omega)] at k1
        rw [eΓ, spl_after] at k2
        have := pr_app (pr_app k1 (.cons g2 .nil)) k2
        have e : X.take i ++ [B] ++ Y = X.take i ++ B :: Y := by simp
        rw [e] at this
        exact this
      refine ⟨_, rfl, A, ls, ks, U, t8, _, g, X.take i ++ B :: Y, C, rfl, ⟨se.um, p3.mono c38, h8', rN, se.go, se.um.cl.ah1 hu, by simp⟩, by rw [fs_app, fs_cons]; omega, fun v2 H9 c9 p9 r9 => ?_⟩
      have c39 := (c38.any (T := (· = A.ak))).trans c9
      have c09 := c03.trans c39
      rcases r9 with ⟨rfl, nd⟩ | pp2
      · refine ⟨_, rfl, rfl, _, rfl, iteF ?_⟩
        refine ⟨_, _, _, rfl, c09, p9, fun j hj => ?_⟩
        by_cases hji : j = i
        · subst hji
          exact fun _ => nd
        · exact no j (by omega)
      · obtain ⟨b2, xs2, rfl, hb2⟩ := pp2.ref
        refine ⟨_, rfl, rfl, _, rfl, iteT ?_⟩
        refine ⟨_, rfl, _, rfl, _, rfl, by show 4 ≤ sizeLine; decide, fun t3 ht3 => ?_⟩
        have c10 : Ch No H9 (upd H9 t3 (.tup [.str "ahead", .int (0 + (i : Int)), .ref b2, .ref b1])) := Ch.new ht3
        refine q _ _ (c09.trans c10.any) (p9.mono c10) (.inr ?_)
        have lx : (X.take i).length = i := by rw [List.length_take]; omega
        rw [← eX]
        refine .ah (a := t3) (p := .ref b2) (q := .ref b1) ?_ (pp2.keep c10.2) ((pp.keep c39.2).keep c10.2)
        rw [lx, upd_same, e1]
  · rintro σ H1 ⟨x6, x7, x8, rfl, c1, p1, no⟩
    exact q .non H1 c1 p1 (.inl ⟨rfl, fun j hj => no j (by omega)⟩)
end
end WW
/-! waiting_paper. -/
namespace WW
open PySem PySem.Spec PyProof.Rows L2
theorem chr1_ne (c : Nat) : chr1 c ≠ ("" : Str) := fun z => by
  have := congrArg (fun s : Str => s.cps.size) z
  simp [chr1] at this
  exact absurd this (by decide +kernel)
theorem core_ok (k C : Kd) : inV (.str (coreS k)) [.str "", .str (coreS C)] = true ↔ okA k C := by
  have e : inV (.str (coreS k)) [.str "", .str (coreS C)] = ((("" : Str) == coreS k) || ((coreS C == coreS k) || false)) := rfl
  rw [e, Bool.or_false, Bool.or_eq_true, beq_iff_eq, beq_iff_eq]
  unfold okA coreS
  cases h1 : k.core with
  | none => simp
  | some c =>
    cases h2 : C.core with
    | none =>
      simp only [Option.some.injEq, reduceCtorEq, or_false]
      constructor
      · rintro (z | z) <;> exact absurd z.symm (chr1_ne c)
      · intro z
        exact absurd z id
    | some d =>
      simp only [reduceCtorEq, false_or, Option.some.injEq]
      constructor
      · rintro (z | z)
        · exact absurd z.symm (chr1_ne c)
        · exact (chr1_inj z).symm
      · rintro rfl
        exact .inr rfl
/-- nothing is put together at this place -/
def Ng (X : List Kd) (z : Kd) (Y : List Kd) (C : Kd) : Prop := (∀ B E, z = .nd .b B E → okA B C → ∀ j, j < Y.length → D (Y.take (j + 1)) E → ¬ D (X ++ B :: Y.drop (j + 1)) C) ∧
  (∀ E B, z = .nd .a E B → okA B C → ∀ j, j < X.length → D (X.drop j) E → ¬ D (X.take j ++ B :: Y) C)
theorem split_at {α : Type} {Γ : List α} {i : Nat} {z : α} (h : Γ[i]? = some z) : Γ = Γ.take i ++ z :: Γ.drop (i + 1) ∧ (Γ.take i).length = i := by
  obtain ⟨hi, e⟩ := List.getElem?_eq_some_iff.mp h
  refine ⟨?_, by rw [List.length_take]; omega⟩
  rw [← e, List.getElem_cons_drop hi, List.take_append_drop]
theorem split_eq {α : Type} {X Y X' Y' : List α} {z z' : α} (h : X ++ z :: Y = X' ++ z' :: Y') (hl : X.length = X'.length) : X = X' ∧ z = z' ∧ Y = Y' := by
  obtain ⟨h1, h2⟩ := List.append_inj h hl
  injection h2 with h2 h3
  exact ⟨h1, h2, h3⟩
section
variable {P : Program} {w : World} {K : PySem.W.Frag} {mg : Str → Option Value} {base : Heap} {fd : Nat → FuncData}
def spWait (P : Program) (w : World) (K : PySem.W.Frag) (n : Nat) : Sp := fun vs H Q _ => ∃ A ls ks U a r g Γ C, vs = [.ref A.t, .ref a, .int ((g : Nat) : Int)] ∧ Se P w K A ls ks U H a r g Γ C ∧ fs Γ + C.forms ≤ n ∧
  ∀ v H', Ch (· = A.ak) H H' → P2 P w K A ls ks U H' → ((v = .non ∧ ∀ X z Y, Γ = X ++ z :: Y → Ng X z Y C) ∨ PAp H' v Γ C) → Q v H'
theorem forms_at {C : Addr} {A : Ad} {H : Hp} {ls : List Nat} {ks : List Kd} (tb : Tb C A H ls ks) {m : Nat} {k : Kd} (e : ks[m]? = some k) : ∃ xs, H A.afo = some (.lst xs) ∧ atI xs (m : Int) = some (.str (hd k)) := by
  obtain ⟨kvs, sh, pa, as, tr, _⟩ := tb.ex
  exact ⟨_, tr.lfo, at_map e⟩
theorem cores_at {C : Addr} {A : Ad} {H : Hp} {ls : List Nat} {ks : List Kd} (tb : Tb C A H ls ks) {m : Nat} {k : Kd} (e : ks[m]? = some k) : ∃ xs, H A.aco = some (.lst xs) ∧ atI xs (m : Int) = some (.str (coreS k)) := by
  obtain ⟨kvs, sh, pa, as, tr, _⟩ := tb.ex
  exact ⟨_, tr.lco, at_map e⟩
theorem shapes_at {C : Addr} {A : Ad} {H : Hp} {ls : List Nat} {ks : List Kd} (tb : Tb C A H ls ks) {m : Nat} {k : Kd} (e : ks[m]? = some k) : ∃ xs v, H A.ash = some (.lst xs) ∧ atI xs (m : Int) = some v ∧ KA H v k := by
  obtain ⟨kvs, sh, pa, as, tr, h2, _⟩ := tb.ex
  have hl := pr_len h2
  have e1 := List.getElem?_eq_getElem (l := sh) (i := m) (by rw [hl]; exact (List.getElem?_eq_some_iff.mp e).1)
  obtain ⟨k', e2, e3⟩ := pr_at h2 e1
  obtain rfl := Option.some.inj (e.symm.trans e2)
  exact ⟨_, _, tr.lsh, atI_nat e1, e3⟩
theorem ins_of {C : Addr} {A : Ad} {H : Hp} {ls : List Nat} {ks : List Kd} (tb : Tb C A H ls ks) : ∃ we me, H A.t = some (.ins C A.dx (flds A we me)) := by
  obtain ⟨kvs, sh, pa, as, tr, _⟩ := tb.ex
  exact ⟨_, _, tr.ins⟩
theorem ok_wait (T : TX w K mg fd) {n k : Nat} (GB : FnOk P w K mg base CX0 k (He.ma K (He.ga K "Table") "behind_paper") (fd 17) P_Table_behind_paper (spBe P w K n)) (GA : FnOk P w K mg base CX0 k (He.ma K (He.ga K "Table") "ahead_paper") (fd 18) P_Table_ahead_paper (spAh P w K n)) :
    FnOk P w K mg base CX0 (k + 1) (He.ma K (He.ga K "Table") "waiting_paper") (fd 16) P_Table_waiting_paper (spWait P w K n) := by
  refine T.d_Table_waiting_paper.ok sc_Table_waiting_paper (fun vs H Q E h => ?_) (fun cdv A0 outer s H vs Q E0 hr h => ?_)
  · obtain ⟨A, ls, ks, U, a, r, g, Γ, C, rfl, _⟩ := h
    rfl
  obtain ⟨A, ls, ks, U, a, r, g, Γ, C, rfl, se, hf, q⟩ := h
  refine ⟨_, pss_cons (ps_for PassesOwn.never rfl (pi_enumT (by rfl) T.z_enumerate (pa_cons (pv 1) pa_nil)) (pg_tup rfl (pgs_cons (pg_name (i := 3) sc_Table_waiting_paper.nd rfl (Or.inl rfl)) (pgs_cons (pg_name (i := 4) sc_Table_waiting_paper.nd rfl (Or.inl rfl)) pgs_nil)))
      (pss_one (ps_if (PW.pt (pw_and (pt_cmpR op_ne (pe_ix ix_list (pe_fld (pv 0) rfl) (pv 4) (fun _ _ => rfl)) pe_str (nomark _)) (pw_and1 (pt_cmpR op_in_seq (pe_ix ix_list (pe_fld (pv 0) rfl) (pv 4) (fun _ _ => rfl)) (pe_tup (pa_cons pe_str (pa_cons (pe_ix ix_list (pe_fld (pv 0) rfl) (pv 2) (fun _ _ => rfl)) pa_nil))) (by rfl)))))
        (pss_cons (ps_set (i := 5) sc_Table_waiting_paper.nd rfl (Or.inl rfl) (pe_ifExp (pt_cmpR op_eq (pe_ix ix_list (pe_fld (pv 0) rfl) (pv 4) (fun _ _ => rfl)) pe_str (nomark _)) (pe_meth (pv 0) T.c_Table T.m_behind_paper GB hr T.d_Table_behind_paper.b .nil pass0 (pa_cons (pv 1) (pa_cons (pv 3) (pa_cons (pv 2) pa_nil)))) pe_non))
        (pss_cons (ps_if (pt_cmpR op_eq (pe_ix ix_list (pe_fld (pv 0) rfl) (pv 4) (fun _ _ => rfl)) pe_str (nomark _)) (pss_one (ps_set (i := 5) sc_Table_waiting_paper.nd rfl (Or.inl rfl) (pe_meth (pv 0) T.c_Table T.m_ahead_paper GA hr T.d_Table_ahead_paper.b .nil pass0 (pa_cons (pv 1) (pa_cons (pv 3) (pa_cons (pv 2) pa_nil)))))) pss_nil)
        (pss_one (ps_if (pt_cmpR op_notN (pv 5) pe_non (nomark _)) (pss_one (ps_ret (pv 5))) pss_nil)))) pss_nil)))
    (pss_one (ps_ret pe_non)), ?_⟩
  obtain ⟨l1, l2⟩ := row_len se
  have l3 := nums_len r
  refine ⟨_, rfl, a, _, rfl, SqT.of se.ro, ?_⟩
  refine for_it (walk_enumT (xs := nums r)) (fun i σ H' => ∃ x3 x4 x5, σ = [some (.ref A.t), some (.ref a), some (.int (g : Int)), x3, x4, x5] ∧ Ch (· = A.ak) H H' ∧ P2 P w K A ls ks U H' ∧ ∀ X z Y, Γ = X ++ z :: Y → X.length < i → Ng X z Y C) ⟨_, _, _, rfl, Ch.refl _ _, se.p, fun X z Y _ h => by omega⟩ ?_ ?_ ?_
  · rintro i σ H1 hi ⟨x3, x4, x5, rfl, c1, p1, no⟩
    exact SqT.of (c1.2 _ _ se.ro)
  · rintro i x σ H1 H2 hi ⟨x3, x4, x5, rfl, c1, p1, no⟩ ⟨T0, y1, y2, rfl, hT, rfl, e1, e2⟩
    obtain rfl := Option.some.inj e1
    replace e2 : (nums r)[i]? = some y2 := e2
    rw [List.getElem?_map] at e2
    cases en : r[i]? with
    | none =>
      rw [en] at e2
      cases e2
    | some m =>
    rw [en] at e2
    obtain rfl := Option.some.inj e2
    obtain ⟨z, ez1, ez2⟩ := pr_at se.ok en
    obtain ⟨eΓ, lX⟩ := split_at ez1
    have cT : Ch No H1 (upd H1 T0 (.tup [.int (i : Int), .int (m : Int)])) := Ch.new hT
    have hT2 : (upd H1 T0 (.tup [V.int (i : Int), .int (m : Int)])) T0 = some (.tup [.int (i : Int), .int (m : Int)]) := upd_same
    have c2 := c1.trans (cT.any (T := (· = A.ak)))
    have p2 := p1.mono cT
    generalize upd H1 T0 (.tup [V.int (i : Int), .int (m : Int)]) = H2 at cT hT2 c2 p2 ⊢
    refine ⟨T0, _, rfl, SqT.of hT2, rfl, _, _, rfl, _, _, rfl, rfl, ?_⟩
    -- what the next turn wants
    have nxt : ∀ {H' : Hp} {x5' : Option V}, Ch (· = A.ak) H H' → P2 P w K A ls ks U H' → Ng (Γ.take i) z (Γ.drop (i + 1)) C → ∃ x3 x4 x5, ([some (.ref A.t), some (.ref a), some (.int (g : Int)), some (.int (i : Int)), some (.int (m : Int)), x5'] : L2.St) = [some (.ref A.t), some (.ref a), some (.int (g : Int)), x3, x4, x5] ∧ Ch (· = A.ak) H H' ∧ P2 P w K A ls ks U H' ∧ ∀ X z Y, Γ = X ++ z :: Y → X.length < i + 1 → Ng X z Y C := fun {H' x5'} c p ng => by
      refine ⟨_, _, _, rfl, c, p, fun X z' Y e hX => ?_⟩
      by_cases hXi : X.length < i
      · exact no X z' Y e hXi
      · obtain ⟨rfl, rfl, rfl⟩ := split_eq (e.symm.trans eΓ) (by omega)
        exact ng
    obtain ⟨we, me, hins⟩ := ins_of p2.tb
    obtain ⟨fo, hfo, afo⟩ := forms_at p2.tb ez2
    refine ⟨_, rfl, A.t, _, _, _, _, rfl, hins, T.c_Table, T.n_forms, rfl, _, rfl, A.afo, _, _, _, rfl, rfl, SqL.of hfo, afo, rfl, _, rfl, ?_⟩
    cases z with
    | pl c =>
      refine iteF (iteF ?_)
      exact nxt c2 p2 ⟨fun B E z => (by cases z), fun B E z => (by cases z)⟩
    | nd f x y =>
      have efp : (!decide (V.str (hd (.nd f x y)) = V.str "plain")) = true := by
        rw [show hd (.nd f x y) = fstr f from rfl, fm_plain]
        rfl
      refine ite2 (fun _ => ?_) (fun z => absurd efp z)
      obtain ⟨cx, hcx, acx⟩ := cores_at p2.tb ez2
      refine ⟨_, rfl, A.t, _, _, _, _, rfl, hins, T.c_Table, T.n_cores, rfl, _, rfl, A.aco, _, _, _, rfl, rfl, SqL.of hcx, acx, ?_⟩
      obtain ⟨cg, hcg, acg⟩ := cores_at p2.tb se.go
      refine ⟨_, rfl, A.t, _, _, _, _, rfl, hins, T.c_Table, T.n_cores, rfl, _, rfl, A.aco, _, _, _, rfl, rfl, SqL.of hcg, acg, by show 2 ≤ sizeLine; decide, fun t ht => ?_⟩
      have c3' : Ch No H2 (upd H2 t (.tup [.str "", .str (coreS C)])) := Ch.new ht
      have h3 : (upd H2 t (.tup [V.str "", .str (coreS C)])) t = some (.tup [.str "", .str (coreS C)]) := upd_same
      have c3 := c2.trans (c3'.any (T := (· = A.ak)))
      have p3 := p2.mono c3'
      generalize upd H2 t (.tup [V.str "", .str (coreS C)]) = H3 at c3' h3 c3 p3 ⊢
      refine ⟨t, _, rfl, .inr (SqT.of h3), rfl, rfl, _, rfl, ite2 (fun ok => ?_) (fun nok => ?_)⟩
      · obtain ⟨we, me, hins⟩ := ins_of p3.tb
        obtain ⟨fo, hfo, afo⟩ := forms_at p3.tb ez2
        have se3 : Se P w K A ls ks U H3 a r g Γ C := ⟨se.um, p3, c3.2 _ _ se.ro, se.ok, se.go, se.u, se.ne⟩
        refine ⟨_, rfl, A.t, _, _, _, _, rfl, hins, T.c_Table, T.n_forms, rfl, _, rfl, A.afo, _, _, _, rfl, rfl, SqL.of hfo, afo, rfl, _, rfl, ?_⟩
        cases f with
        | b =>
          refine iteT ?_
          refine ⟨_, rfl, A.t, A.dx, _, rfl, hins, rfl, _, rfl, _, rfl, _, rfl, A, ls, ks, U, a, r, g, Γ, C, Γ.take i, Γ.drop (i + 1), x, y, by rw [lX]; rfl, se3, eΓ, hf, fun v H4 c4 p4 r4 => ?_⟩
          have c04 := c3.trans c4
          obtain ⟨we, me, hins⟩ := ins_of p4.tb
          obtain ⟨fo, hfo, afo⟩ := forms_at p4.tb ez2
          refine ⟨_, rfl, A.t, _, _, _, _, rfl, hins, T.c_Table, T.n_forms, rfl, _, rfl, A.afo, _, _, _, rfl, rfl, SqL.of hfo, afo, rfl, _, rfl, iteF ?_⟩
          rcases r4 with ⟨rfl, ng⟩ | pp
          · refine ⟨_, rfl, rfl, _, rfl, iteF ?_⟩
            refine nxt c04 p4 ⟨fun B E z _ => ?_, fun B E z => (by cases z)⟩
            injection z with _ z1 z2
            subst z1 z2
            exact ng
          · obtain ⟨b1, xs1, rfl, _⟩ := pp.ref
            refine ⟨_, rfl, rfl, _, rfl, iteT ?_⟩
            exact ⟨_, rfl, q _ _ c04 p4 (.inr pp)⟩
        | a =>
          refine iteF ?_
          refine ⟨_, rfl, A.t, _, _, _, _, rfl, hins, T.c_Table, T.n_forms, rfl, _, rfl, A.afo, _, _, _, rfl, rfl, SqL.of hfo, afo, rfl, _, rfl, iteT ?_⟩
          refine ⟨_, rfl, A.t, A.dx, _, rfl, hins, rfl, _, rfl, _, rfl, _, rfl, A, ls, ks, U, a, r, g, Γ, C, Γ.take i, Γ.drop (i + 1), y, x, by rw [lX]; rfl, se3, eΓ, hf, fun v H4 c4 p4 r4 => ?_⟩
          have c04 := c3.trans c4
          rcases r4 with ⟨rfl, ng⟩ | pp
          · refine ⟨_, rfl, rfl, _, rfl, iteF ?_⟩
            refine nxt c04 p4 ⟨fun B E z => (by cases z), fun B E z _ => ?_⟩
            injection z with _ z1 z2
            subst z1 z2
            exact ng
          · obtain ⟨b1, xs1, rfl, _⟩ := pp.ref
            refine ⟨_, rfl, rfl, _, rfl, iteT ?_⟩
            exact ⟨_, rfl, q _ _ c04 p4 (.inr pp)⟩
        | w =>
          refine iteF ?_
          refine ⟨_, rfl, A.t, _, _, _, _, rfl, hins, T.c_Table, T.n_forms, rfl, _, rfl, A.afo, _, _, _, rfl, rfl, SqL.of hfo, afo, rfl, _, rfl, iteF ?_⟩
          refine ⟨_, rfl, rfl, _, rfl, iteF ?_⟩
          exact nxt c3 p3 ⟨fun B E z => (by cases z), fun B E z => (by cases z)⟩
      · have nok' : ¬ okA (.nd f x y) C := fun z => nok ((core_ok _ _).mpr z)
        refine nxt c3 p3 ⟨fun B E z o => ?_, fun B E z o => ?_⟩
        · rw [z] at nok'
          exact absurd o nok'
        · rw [z] at nok'
          exact absurd o nok'
  · rintro σ H1 ⟨x3, x4, x5, rfl, c1, p1, no⟩
    refine q .non H1 c1 p1 (.inl ⟨rfl, fun X z Y e => no X z Y e ?_⟩)
    have : Γ.length = X.length + 1 + Y.length := by rw [e]; simp; omega
    omega
end
end WW
/-! paper_anew. -/
namespace WW
open PySem PySem.Spec PyProof.Rows L2
/-- nothing found anywhere: it doesn't come -/
theorem no_D {Γ : List Kd} {C : Kd} (h1 : Γ ≠ [C]) (hw : ∀ k ∈ Γ, k.isW = false) (hb : ∀ A B, C ≠ .nd .b A B) (ha : ∀ A B, C ≠ .nd .a A B) (hj : ∀ A B, C = .nd .w A B → ∀ X Y, Γ = X ++ Y → D X A → ¬ D Y B)
    (hn : ∀ X z Y, Γ = X ++ z :: Y → Ng X z Y C) : ¬ D Γ C := by
  intro h
  rcases last_of h hw hb ha with e | ⟨A, B, X, Y, e1, e2, d1, d2⟩ | ⟨X, S, Y, A, e1, r, d, o⟩
  · exact h1 e
  · exact hj A B e1 X Y e2 d1 d2
  · rcases r with ⟨B, Θ, rfl, dΘ⟩ | ⟨B, Θ, rfl, dΘ⟩
    · have lΘ : 0 < Θ.length := List.length_pos_iff.mpr dΘ.ne
      have ng := (hn X (.nd .b A B) (Θ ++ Y) (by rw [e1]; simp)).1 A B rfl o (Θ.length - 1) (by simp; omega)
      rw [show Θ.length - 1 + 1 = Θ.length by omega, List.take_left, List.drop_left] at ng
      exact ng dΘ d
    · have lΘ : 0 < Θ.length := List.length_pos_iff.mpr dΘ.ne
      have ng := (hn (X ++ Θ) (.nd .a B A) Y (by rw [e1]; simp)).2 B A rfl o X.length (by simp; omega)
      rw [List.drop_left, List.take_left] at ng
      exact ng dΘ d
theorem isW_nd {f : Fm} {x y : Kd} (h : f ≠ .w) : (Kd.nd f x y).isW = false := by
  cases f
  · rfl
  · rfl
  · exact absurd rfl h
section
variable {P : Program} {w : World} {K : PySem.W.Frag} {mg : Str → Option Value} {base : Heap} {fd : Nat → FuncData}
theorem ok_anew (T : TX w K mg fd) {n k : Nat} (ih : FnOk P w K mg base CX0 k (He.ma K (He.ga K "Table") "paper") (fd 13) P_Table_paper (spPaper P w K n))
    (GJ : FnOk P w K mg base CX0 (k + 1) (He.ma K (He.ga K "Table") "joined_paper") (fd 15) P_Table_joined_paper (spJoined P w K n)) (GW : FnOk P w K mg base CX0 (k + 2) (He.ma K (He.ga K "Table") "waiting_paper") (fd 16) P_Table_waiting_paper (spWait P w K n)) :
    FnOk P w K mg base CX0 (k + 3) (He.ma K (He.ga K "Table") "paper_anew") (fd 14) P_Table_paper_anew (spPaper P w K (n + 1)) := by
  refine T.d_Table_paper_anew.ok sc_Table_paper_anew (fun vs H Q E h => ?_) (fun cdv A0 outer s H vs Q E0 hr h => ?_)
  · obtain ⟨A, ls, ks, U, a, r, g, Γ, C, rfl, _⟩ := h
    rfl
  obtain ⟨A, ls, ks, U, a, r, g, Γ, C, rfl, se, hf, q⟩ := h
  have hr0 := hr.mono (show k ≤ k + 2 by omega)
  have hr1 := hr.mono (show k + 1 ≤ k + 2 by omega)
  refine ⟨_, pss_cons (ps_if (pt_cmpR (op_eqD hr.units) (pv 1) (pe_tup (pa_cons (pv 2) pa_nil)) (by rfl)) (pss_one (ps_ret (pe_tup (pa_cons pe_str (pa_cons (pe_ix ix_list (pe_fld (pv 0) rfl) (pv 2) (fun _ _ => rfl)) pa_nil))))) pss_nil)
    (pss_cons (ps_set (i := 3) sc_Table_paper_anew.nd rfl (Or.inl rfl) (pe_ix ix_list (pe_fld (pv 0) rfl) (pv 2) (fun _ _ => rfl)))
    (pss_cons (ps_asg (pe_ix ix_list (pe_fld (pv 0) rfl) (pv 2) (fun _ _ => rfl)) (pg_tup rfl (pgs_cons (pg_name (i := 4) sc_Table_paper_anew.nd rfl (Or.inl rfl)) (pgs_cons (pg_name (i := 5) sc_Table_paper_anew.nd rfl (Or.inl rfl)) pgs_nil))))
    (pss_cons (ps_if (pt_cmpR op_eq (pv 3) pe_str (nomark _)) (pss_cons (ps_set (i := 6) sc_Table_paper_anew.nd rfl (Or.inl rfl) (pe_meth (pv 0) T.c_Table T.m_paper ih hr0 T.d_Table_paper.b .nil pass0 (pa_cons (pe_op op_catA (pv 1) (pe_tup (pa_cons (pv 5) pa_nil))) (pa_cons (pv 4) pa_nil))))
        (pss_one (ps_ret (pe_ifExp (pt_cmpR op_isN (pv 6) pe_non (nomark _)) pe_non (pe_tup (pa_cons pe_str (pa_cons (pv 6) pa_nil))))))) pss_nil)
    (pss_cons (ps_if (pt_cmpR op_eq (pv 3) pe_str (nomark _)) (pss_cons (ps_set (i := 6) sc_Table_paper_anew.nd rfl (Or.inl rfl) (pe_meth (pv 0) T.c_Table T.m_paper ih hr0 T.d_Table_paper.b .nil pass0 (pa_cons (pe_op op_catA (pe_tup (pa_cons (pv 4) pa_nil)) (pv 1)) (pa_cons (pv 5) pa_nil))))
        (pss_one (ps_ret (pe_ifExp (pt_cmpR op_isN (pv 6) pe_non (nomark _)) pe_non (pe_tup (pa_cons pe_str (pa_cons (pv 6) pa_nil))))))) pss_nil)
    (pss_cons (ps_for PassesOwn.never rfl (pi_enumT (by rfl) T.z_enumerate (pa_cons (pv 1) pa_nil)) (pg_tup rfl (pgs_cons (pg_name (i := 7) sc_Table_paper_anew.nd rfl (Or.inl rfl)) (pgs_cons (pg_name (i := 8) sc_Table_paper_anew.nd rfl (Or.inl rfl)) pgs_nil)))
      (pss_one (ps_if (pt_cmpR op_eq (pe_ix ix_list (pe_fld (pv 0) rfl) (pv 8) (fun _ _ => rfl)) pe_str (nomark _))
        (pss_cons (ps_set (i := 6) sc_Table_paper_anew.nd rfl (Or.inl rfl) (pe_meth (pv 0) T.c_Table T.m_paper ih hr0 T.d_Table_paper.b .nil pass0 (pa_cons (pe_op op_catA (pe_op op_catA (pe_slice sl_tupA (pv 1) po_none (po_some (pv 7))) (pe_ix ix_list (pe_fld (pv 0) rfl) (pv 8) (fun _ _ => rfl))) (pe_slice sl_tupA (pv 1) (po_some (pe_op op_add (pv 7) pe_int)) po_none)) (pa_cons (pv 2) pa_nil))))
        (pss_one (ps_ret (pe_ifExp (pt_cmpR op_isN (pv 6) pe_non (nomark _)) pe_non (pe_tup (pa_cons pe_str (pa_cons (pv 7) (pa_cons (pv 6) pa_nil)))))))) pss_nil)))
    (pss_cons (ps_set (i := 6) sc_Table_paper_anew.nd rfl (Or.inl rfl) (pe_ifExp (pt_cmpR op_eq (pv 3) pe_str (nomark _)) (pe_meth (pv 0) T.c_Table T.m_joined_paper GJ hr1 T.d_Table_joined_paper.b .nil pass0 (pa_cons (pv 1) (pa_cons (pv 4) (pa_cons (pv 5) pa_nil)))) pe_non))
    (pss_one (ps_ret (pe_ifExp (pt_cmpR op_isN (pv 6) pe_non (nomark _)) (pe_meth (pv 0) T.c_Table T.m_waiting_paper GW hr T.d_Table_waiting_paper.b .nil pass0 (pa_cons (pv 1) (pa_cons (pv 2) pa_nil))) (pv 6)))))))))), ?_⟩
  obtain ⟨l1, l2⟩ := row_len se
  have l3 := nums_len r
  -- row == (goal,)
  refine ⟨_, rfl, _, rfl, by show 1 ≤ sizeLine; decide, fun t ht => ?_⟩
  have c1 : Ch No H (upd H t (.tup [.int (g : Int)])) := Ch.new ht
  have t1 : WA (upd H t (.tup [.int (g : Int)])) t [(g : Int)] := upd_same
  have w1 : WA (upd H t (.tup [.int (g : Int)])) a (r.map fun n : Nat => (n : Int)) := by
    have := c1.get se.ro
    rw [nums_int] at this
    exact this
  have p1 := se.p.mono c1
  have cc1 := c1.any (T := (· = A.ak))
  generalize upd H t (.tup [.int (g : Int)]) = H1 at c1 t1 w1 p1 cc1 ⊢
  refine ⟨_, _, w1.dp, t1.dp, tupD_shaped _, tupD_shaped _, _, rfl, ?_⟩
  rw [tupD_eqv]
  obtain ⟨we, me, hins⟩ := ins_of p1.tb
  obtain ⟨fo, hfo, afo⟩ := forms_at p1.tb se.go
  refine ite2 (fun e => ?_) (fun e => ?_)
  · have er : r = [g] := nums_inj2.mp (of_decide_eq_true e)
    have eΓ : Γ = [C] := by
      have h := se.ok
      rw [er] at h
      exact row_fun h (.cons se.go .nil)
    obtain ⟨sh, v, hsh, ash, kv⟩ := shapes_at p1.tb se.go
    refine ⟨_, rfl, A.t, _, _, _, _, rfl, hins, T.c_Table, T.n_shapes, rfl, _, rfl, A.ash, _, _, _, rfl, rfl, SqL.of hsh, ash, by show 2 ≤ sizeLine; decide, fun t2 ht2 => ?_⟩
    have c2 : Ch No H1 (upd H1 t2 (.tup [.str "same", v])) := Ch.new ht2
    refine q _ _ (cc1.trans c2.any) (p1.mono c2) (.inr ?_)
    rw [eΓ]
    exact .same upd_same (kv.mono c2)
  have er : Γ ≠ [C] := fun z => by
    have h := se.ok
    rw [z] at h
    have := row_inj p1.tb.nd h (.cons se.go .nil)
    rw [this] at e
    exact e (decide_eq_true rfl)
  obtain ⟨pl, pr, j1, j2, q1, q2, q3, q4⟩ := pair_at p1.tb se.go
  refine ⟨_, rfl, A.t, _, _, _, _, rfl, hins, T.c_Table, T.n_forms, rfl, _, rfl, A.afo, _, _, _, rfl, rfl, SqL.of hfo, afo, ?_⟩
  refine ⟨_, rfl, A.t, _, _, _, _, rfl, hins, T.c_Table, T.n_pairs, rfl, _, rfl, A.apa, _, _, _, rfl, rfl, SqL.of q1, q2, pr, _, rfl, SqT.of q3, rfl, _, _, rfl, _, _, rfl, rfl, ?_⟩
  have ro1 := c1.get se.ro
  refine ⟨_, rfl, rfl, _, rfl, ite2 (fun ef => ?_) (fun ef => ?_)⟩
  · -- behind
    obtain ⟨x, y, rfl⟩ := hd_nd (f := .b) (of_decide_eq_true ef)
    obtain ⟨g1, g2⟩ := q4 _ _ _ rfl
    have fC := forms_nd .b x y
    refine ⟨_, rfl, A.t, A.dx, _, rfl, hins, rfl, _, rfl, _, rfl, by show 1 ≤ sizeLine; decide, fun t5 ht5 => ?_⟩
    have c5 : Ch No H1 (upd H1 t5 (.tup [.int (j2 : Int)])) := Ch.new ht5
    have h5 : (upd H1 t5 (.tup [.int (j2 : Int)])) t5 = some (.tup [.int (j2 : Int)]) := upd_same
    have ro5 := c5.get ro1
    generalize upd H1 t5 (.tup [.int (j2 : Int)]) = H5 at c5 h5 ro5 ⊢
    refine catA ro5 h5 (by simp; omega) fun t6 H6 c6 h6 => ?_
    have c16 := c5.trans c6
    have h6' : H6 t6 = some (.tup (nums (r ++ [j2]))) := by
      rw [h6, nums_app]
      rfl
    refine ⟨_, rfl, A, ls, ks, U, t6, _, j1, Γ ++ [y], x, rfl, ⟨se.um, p1.mono c16, h6', pr_app se.ok (.cons g2 .nil), g1, se.um.cl.gb se.u, by simp⟩, by rw [fs_app, fs_one]; omega, fun v1 H7 c7 p7 r7 => ?_⟩
    have c07 := (cc1.trans c16.any).trans c7
    rcases r7 with ⟨rfl, nd⟩ | pp
    · exact ⟨_, rfl, rfl, _, rfl, iteT (q .non _ c07 p7 (.inl ⟨rfl, fun h => nd (h.inv_b rfl)⟩))⟩
    · obtain ⟨b1, xs1, rfl, hb1⟩ := pp.ref
      refine ⟨_, rfl, rfl, _, rfl, iteF ⟨_, rfl, by show 2 ≤ sizeLine; decide, fun t8 ht8 => ?_⟩⟩
      have c8 : Ch No H7 (upd H7 t8 (.tup [.str "givebehind", .ref b1])) := Ch.new ht8
      exact q _ _ (c07.trans c8.any) (p7.mono c8) (.inr (.gb upd_same se.ne (pp.keep c8.2)))
  refine ⟨_, rfl, rfl, _, rfl, ite2 (fun ef2 => ?_) (fun ef2 => ?_)⟩
  · -- ahead
    obtain ⟨x, y, rfl⟩ := hd_nd (f := .a) (of_decide_eq_true ef2)
    obtain ⟨g1, g2⟩ := q4 _ _ _ rfl
    have fC := forms_nd .a x y
    refine ⟨_, rfl, A.t, A.dx, _, rfl, hins, rfl, _, rfl, by show 1 ≤ sizeLine; decide, fun t5 ht5 => ?_⟩
    have c5 : Ch No H1 (upd H1 t5 (.tup [.int (j1 : Int)])) := Ch.new ht5
    have h5 : (upd H1 t5 (.tup [.int (j1 : Int)])) t5 = some (.tup [.int (j1 : Int)]) := upd_same
    have ro5 := c5.get ro1
    generalize upd H1 t5 (.tup [.int (j1 : Int)]) = H5 at c5 h5 ro5 ⊢
    refine ⟨_, rfl, ?_⟩
    refine catA h5 ro5 (by simp; omega) fun t6 H6 c6 h6 => ?_
    have c16 := c5.trans c6
    have h6' : H6 t6 = some (.tup (nums (j1 :: r))) := by
      rw [h6]
      rfl
    refine ⟨_, rfl, A, ls, ks, U, t6, _, j2, x :: Γ, y, rfl, ⟨se.um, p1.mono c16, h6', .cons g1 se.ok, g2, se.um.cl.ga se.u, by simp⟩, by rw [fs_cons]; omega, fun v1 H7 c7 p7 r7 => ?_⟩
    have c07 := (cc1.trans c16.any).trans c7
    rcases r7 with ⟨rfl, nd⟩ | pp
    · exact ⟨_, rfl, rfl, _, rfl, iteT (q .non _ c07 p7 (.inl ⟨rfl, fun h => nd (h.inv_a rfl)⟩))⟩
    · obtain ⟨b1, xs1, rfl, hb1⟩ := pp.ref
      refine ⟨_, rfl, rfl, _, rfl, iteF ⟨_, rfl, by show 2 ≤ sizeLine; decide, fun t8 ht8 => ?_⟩⟩
      have c8 : Ch No H7 (upd H7 t8 (.tup [.str "giveahead", .ref b1])) := Ch.new ht8
      exact q _ _ (c07.trans c8.any) (p7.mono c8) (.inr (.ga upd_same se.ne (pp.keep c8.2)))
  have hb : ∀ A B, C ≠ .nd .b A B := fun A B z => ef (by rw [z]; rfl)
  have ha : ∀ A B, C ≠ .nd .a A B := fun A B z => ef2 (by rw [z]; rfl)
  -- the first with
  refine ⟨_, rfl, a, _, rfl, SqT.of ro1, ?_⟩
  refine for_it (walk_enumT (xs := nums r)) (fun i σ H' => ∃ x7 x8, σ = [some (.ref A.t), some (.ref a), some (.int (g : Int)), some (.str (hd C)), some (.int (j1 : Int)), some (.int (j2 : Int)), none, x7, x8] ∧ Ch (· = A.ak) H H' ∧ P2 P w K A ls ks U H' ∧ ∀ j k, j < i → Γ[j]? = some k → k.isW = false) ⟨_, _, rfl, cc1, p1, fun j k h => by omega⟩ ?_ ?_ ?_
  · rintro i σ H2 hi ⟨x7, x8, rfl, c2, p2, no⟩
    exact SqT.of (c2.2 _ _ se.ro)
  · rintro i x σ H2 H3 hi ⟨x7, x8, rfl, c2, p2, no⟩ ⟨T0, y1, y2, rfl, hT, rfl, e1, e2⟩
    obtain rfl := Option.some.inj e1
    replace e2 : (nums r)[i]? = some y2 := e2
    rw [List.getElem?_map] at e2
    cases en : r[i]? with
    | none =>
      rw [en] at e2
      cases e2
    | some m =>
    rw [en] at e2
    obtain rfl := Option.some.inj e2
    obtain ⟨z, ez1, ez2⟩ := pr_at se.ok en
    obtain ⟨eΓ, lX⟩ := split_at ez1
    have cT : Ch No H2 (upd H2 T0 (.tup [.int (i : Int), .int (m : Int)])) := Ch.new hT
    have hT2 : (upd H2 T0 (.tup [V.int (i : Int), .int (m : Int)])) T0 = some (.tup [.int (i : Int), .int (m : Int)]) := upd_same
    have c3 := c2.trans (cT.any (T := (· = A.ak)))
    have p3 := p2.mono cT
    generalize upd H2 T0 (.tup [V.int (i : Int), .int (m : Int)]) = H3 at cT hT2 c3 p3 ⊢
    refine ⟨T0, _, rfl, SqT.of hT2, rfl, _, _, rfl, _, _, rfl, rfl, ?_⟩
    obtain ⟨we, me, hins⟩ := ins_of p3.tb
    obtain ⟨fo, hfo, afo⟩ := forms_at p3.tb ez2
    refine ⟨_, rfl, A.t, _, _, _, _, rfl, hins, T.c_Table, T.n_forms, rfl, _, rfl, A.afo, _, _, _, rfl, rfl, SqL.of hfo, afo, rfl, _, rfl, ite2 (fun ew => ?_) (fun ew => ?_)⟩
    · obtain ⟨x, y, rfl⟩ := hd_nd (f := .w) (of_decide_eq_true ew)
      have ro3 := c3.2 _ _ se.ro
      have fZ := forms_nd .w x y
      have ef3 : fs Γ = fs (Γ.take i) + (x.forms + y.forms + 1 + fs (Γ.drop (i + 1))) := by
        have : fs Γ = fs (Γ.take i ++ Kd.nd .w x y :: Γ.drop (i + 1)) := by rw [← eΓ]
        rw [this, fs_app, fs_cons, fZ]
      have hu := se.u
      rw [eΓ] at hu
      obtain ⟨pl', pr', i1, i2, s1, s2, s3, s4⟩ := pair_at p3.tb ez2
      obtain ⟨h1, h2⟩ := s4 _ _ _ rfl
      refine ⟨_, rfl, A.t, A.dx, _, rfl, hins, rfl, _, rfl, _, rfl, _, rfl, ?_⟩
      refine slA_pre' (a := a) (xs := nums r) (k := i) rfl ro3 fun t2 H4 c4 h4 => ?_
      have p4 := p3.mono c4
      obtain ⟨we, me, hins⟩ := ins_of p4.tb
      obtain ⟨pl', pr', i1, i2, s1, s2, s3, s4⟩ := pair_at p4.tb ez2
      obtain ⟨h1, h2⟩ := s4 _ _ _ rfl
      refine ⟨_, rfl, A.t, _, _, _, _, rfl, hins, T.c_Table, T.n_pairs, rfl, _, rfl, A.apa, _, _, _, rfl, rfl, SqL.of s1, s2, ?_⟩
      refine catA h4 s3 (by simp; omega) fun t6 H6 c6 h6 => ?_
      refine ⟨_, rfl, _, rfl, _, _, rfl, rfl, _, rfl, ?_⟩
      refine tno ?_
      refine slA_suf' (a := a) (xs := nums r) (k := i + 1) (by omega) ((c4.trans c6).get ro3) fun t7 H7 c7 h7 => ?_
      refine catA (c7.get h6) h7 (by simp; omega) fun t8 H8 c8 h8 => ?_
      have c38 := ((c4.trans c6).trans c7).trans c8
      have h8' : H8 t8 = some (.tup (nums (r.take i ++ [i1, i2] ++ r.drop (i + 1)))) := by
        rw [h8, nums_app, nums_app, nums_take, nums_drop]
        rfl
      have rN : RowOk ks (r.take i ++ [i1, i2] ++ r.drop (i + 1)) (Γ.take i ++ x :: y :: Γ.drop (i + 1)) := by
        have := pr_app (pr_app (pr_tk se.ok i) (.cons h1 (.cons h2 .nil))) (pr_dp se.ok (i + 1))
        have e : Γ.take i ++ [x, y] ++ Γ.drop (i + 1) = Γ.take i ++ x :: y :: Γ.drop (i + 1) := by simp
        rw [e] at this
        exact this
      refine ⟨_, rfl, A, ls, ks, U, t8, _, g, Γ.take i ++ x :: y :: Γ.drop (i + 1), C, rfl, ⟨se.um, p3.mono c38, h8', rN, se.go, se.um.cl.pt hu, by simp⟩, by rw [fs_app, fs_cons, fs_cons]; omega, fun v2 H9 c9 p9 r9 => ?_⟩
      have c09 := (c3.trans c38.any).trans c9
      rcases r9 with ⟨rfl, nd⟩ | pp2
      · exact ⟨_, rfl, rfl, _, rfl, iteT (q .non _ c09 p9 (.inl ⟨rfl, fun h => nd (h.inv_w eΓ)⟩))⟩
      · obtain ⟨b2, xs2, rfl, hb2⟩ := pp2.ref
        refine ⟨_, rfl, rfl, _, rfl, iteF ⟨_, rfl, _, rfl, by show 3 ≤ sizeLine; decide, fun t3 ht3 => ?_⟩⟩
        have c10 : Ch No H9 (upd H9 t3 (.tup [.str "part", .int (i : Int), .ref b2])) := Ch.new ht3
        refine q _ _ (c09.trans c10.any) (p9.mono c10) (.inr ?_)
        rw [eΓ]
        refine .pt (a := t3) (p := .ref b2) ?_ (pp2.keep c10.2)
        rw [lX, upd_same]
    · refine ⟨_, _, rfl, c3, p3, fun j k' hj e => ?_⟩
      by_cases hji : j < i
      · exact no j k' hji e
      · have : j = i := by omega
        subst this
        obtain rfl := Option.some.inj (ez1.symm.trans e)
        cases z with
        | pl c => rfl
        | nd f x y => exact isW_nd fun z => ew (by rw [z]; rfl)
  · rintro σ H2 ⟨x7, x8, rfl, c2, p2, no⟩
    have noW : ∀ k ∈ Γ, k.isW = false := fun k hk => by
      obtain ⟨j, hj, e⟩ := List.mem_iff_getElem.mp hk
      exact no j k (by omega) (by rw [List.getElem?_eq_getElem hj, e])
    have se2 : Se P w K A ls ks U H2 a r g Γ C := ⟨se.um, p2, c2.2 _ _ se.ro, se.ok, se.go, se.u, se.ne⟩
    -- what comes when no join was found
    have wait : ∀ H3, Ch (· = A.ak) H H3 → P2 P w K A ls ks U H3 → (∀ A B, C = .nd .w A B → ∀ X Y, Γ = X ++ Y → D X A → ¬ D Y B) → ∀ v H', Ch (· = A.ak) H3 H' → P2 P w K A ls ks U H' → ((v = .non ∧ ∀ X z Y, Γ = X ++ z :: Y → Ng X z Y C) ∨ PAp H' v Γ C) → Q v H' := fun H3 c3 p3 nj v H' c4 p4 r4 => by
      refine q v H' (c3.trans c4) p4 ?_
      rcases r4 with ⟨rfl, ng⟩ | pp
      · exact .inl ⟨rfl, no_D er noW hb ha nj ng⟩
      · exact .inr pp
    refine ⟨_, rfl, rfl, _, rfl, ite2 (fun ew => ?_) (fun ew => ?_)⟩
    · obtain ⟨x, y, rfl⟩ := hd_nd (f := .w) (of_decide_eq_true ew)
      obtain ⟨g1, g2⟩ := q4 _ _ _ rfl
      obtain ⟨we, me, hins⟩ := ins_of p2.tb
      refine ⟨_, rfl, A.t, A.dx, _, rfl, hins, rfl, _, rfl, _, rfl, _, rfl, A, ls, ks, U, a, r, g, Γ, _, j1, j2, x, y, rfl, se2, rfl, g1, g2, by omega, fun v3 H3 c3 p3 r3 => ?_⟩
      have c03 := c2.trans c3
      rcases r3 with ⟨rfl, nj⟩ | pp
      · obtain ⟨we, me, hins⟩ := ins_of p3.tb
        refine ⟨_, rfl, rfl, _, rfl, iteT ?_⟩
        refine ⟨_, rfl, A.t, A.dx, _, rfl, hins, rfl, _, rfl, _, rfl, A, ls, ks, U, a, r, g, Γ, _, rfl, ⟨se.um, p3, c03.2 _ _ se.ro, se.ok, se.go, se.u, se.ne⟩, by omega, wait H3 c03 p3 fun A B e X Y => ?_⟩
        injection e with _ e1 e2
        subst e1 e2
        exact nj X Y
      · obtain ⟨b2, xs2, rfl, hb2⟩ := pp.ref
        refine ⟨_, rfl, rfl, _, rfl, iteF ?_⟩
        exact ⟨_, rfl, q _ _ c03 p3 (.inr pp)⟩
    · obtain ⟨we, me, hins⟩ := ins_of p2.tb
      refine ⟨_, rfl, rfl, _, rfl, iteT ?_⟩
      exact ⟨_, rfl, A.t, A.dx, _, rfl, hins, rfl, _, rfl, _, rfl, A, ls, ks, U, a, r, g, Γ, C, rfl, se2, by omega, wait H2 c2 p2 fun A B e => absurd (by rw [e]; rfl) ew⟩
end
end WW
/-! paper, prove. -/
namespace WW
open PySem PySem.Spec PyProof.Rows L2
section
variable {κ : Type} [DecidableEq κ]
theorem mem_putK {kvs : List (κ × V)} {k : κ} {v : V} {p : κ × V} (h : p ∈ putK kvs k v) : p ∈ kvs ∨ p = (k, v) := by
  unfold putK at h
  split at h
  · obtain ⟨q, hq, e⟩ := List.mem_map.mp h
    by_cases e1 : q.1 = k
    · rw [if_pos e1] at e
      exact .inr (by rw [← e, e1])
    · rw [if_neg e1] at e
      exact .inl (by rw [← e]; exact hq)
  · rcases List.mem_append.mp h with z | z
    · exact .inl z
    · exact .inr (List.mem_singleton.mp z)
theorem keys_putK {kvs : List (κ × V)} {k : κ} {v : V} (h : (kvs.map (·.1)).Nodup) : ((putK kvs k v).map (·.1)).Nodup := by
  unfold putK
  split
  · have e : (kvs.map fun kv => if kv.1 = k then (kv.1, v) else kv).map (·.1) = kvs.map (·.1) := by
      rw [List.map_map]
      refine List.map_congr_left fun x _ => ?_
      show (if x.1 = k then (x.1, v) else x).1 = x.1
      split <;> rfl
    rw [e]
    exact h
  · rename_i hn
    rw [List.map_append, List.nodup_append]
    refine ⟨h, by simp, fun a ha b hb => ?_⟩
    simp only [List.map_cons, List.map_nil, List.mem_singleton] at hb
    subst hb
    intro e
    subst e
    obtain ⟨p, hp, e⟩ := List.mem_map.mp ha
    exact hn (List.any_eq_true.mpr ⟨p, hp, decide_eq_true e⟩)
theorem valV_mem {kvs : List (κ × V)} {k : κ} {v : V} (h : valV kvs k = some v) : ∃ p ∈ kvs, p.1 = k ∧ p.2 = v := by
  unfold valV at h
  cases e : kvs.find? fun kv => decide (kv.1 = k) with
  | none =>
    rw [e] at h
    cases h
  | some p =>
    rw [e] at h
    have z := List.find?_some e
    exact ⟨p, List.mem_of_find?_eq_some e, of_decide_eq_true z, Option.some.inj h⟩
end
theorem Ch.fresh {S : Addr → Prop} {H H1 H2 : Hp} (c0 : Ch No H H1) (c : Ch S H1 H2) (hS : ∀ b, S b → H b = none) : Ch No H H2 :=
  ⟨fun b u e _ => c.1 b u (c0.get e) fun z => (by rw [hS b z] at e; cases e), fun b u e => c.2 b u (c0.2 b u e)⟩
section
variable {P : Program} {w : World} {K : PySem.W.Frag} {mg : Str → Option Value} {base : Heap} {fd : Nat → FuncData}
theorem ak_not {A : Ad} {C : Addr} {H : Hp} {ls : List Nat} {ks : List Kd} (tb : Tb C A H ls ks) : ∀ b, inT A b → b ≠ A.ak := by
  obtain ⟨kvs, sh, pa, as, tr, _⟩ := tb.ex
  obtain ⟨n0_1, n0_2, n0_3, n0_4, n0_5, n0_6, n0_7, n0_8, n0_9, n1_2, n1_3, n1_4, n1_5, n1_6, n1_7, n1_8, n1_9, n2_3, n2_4, n2_5, n2_6, n2_7, n2_8, n2_9, n3_4, n3_5, n3_6, n3_7, n3_8, n3_9, n4_5, n4_6, n4_7, n4_8, n4_9, n5_6, n5_7, n5_8, n5_9, n6_7, n6_8, n6_9, n7_8, n7_9, n8_9⟩ := Ad.ne tr.dis
  intro b hb
  unfold inT at hb
  rcases hb with rfl | rfl | rfl | rfl | rfl | rfl | rfl | rfl
  · exact n0_9
  · exact n2_9
  · exact n3_9
  · exact n4_9
  · exact n5_9
  · exact n6_9
  · exact n7_9
  · exact n8_9
theorem ok_paper1 (T : TX w K mg fd) {n k : Nat} (h2 : 2 ≤ k) (GA : FnOk P w K mg base CX0 k (He.ma K (He.ga K "Table") "paper_anew") (fd 14) P_Table_paper_anew (spPaper P w K n)) :
    FnOk P w K mg base CX0 (k + 1) (He.ma K (He.ga K "Table") "paper") (fd 13) P_Table_paper (spPaper P w K n) := by
  refine T.d_Table_paper.ok sc_Table_paper (fun vs H Q E h => ?_) (fun cdv A0 outer s H vs Q E0 hr h => ?_)
  · obtain ⟨A, ls, ks, U, a, r, g, Γ, C, rfl, _⟩ := h
    rfl
  obtain ⟨A, ls, ks, U, a, r, g, Γ, C, rfl, se, hf, q⟩ := h
  have GM := ok_may (P := P) (base := base) T
  have hu : (A0.deeper (envOfC "Table.paper" (defScope s_Table_paper) s.heap.objs.size (He.ma K (He.ga K "Table") "paper") cdv)).units + 16 < cLine := Nat.lt_of_le_of_lt (Nat.add_le_add_left (by decide : 16 ≤ 64) _) hr.units
  refine ⟨_, pss_cons (ps_if (pt_cmpR (op_notInN hu) (pe_tup (pa_cons (pv 1) (pa_cons (pv 2) pa_nil))) (pe_fld (pv 0) rfl) (by rfl))
      (pss_one (ps_asg (pe_ifExp (pt_val (pe_meth (pv 0) T.c_Table T.m_may_come GM (hr.mono h2) T.d_Table_may_come.b .nil pass0 (pa_cons (pv 1) (pa_cons (pv 2) pa_nil)))) (pe_meth (pv 0) T.c_Table T.m_paper_anew GA hr T.d_Table_paper_anew.b .nil pass0 (pa_cons (pv 1) (pa_cons (pv 2) pa_nil))) pe_non)
        (pg_sub (pe_fld (pv 0) rfl) (pe_tup (pa_cons (pv 1) (pa_cons (pv 2) pa_nil))) (set_N hu)))) pss_nil)
    (pss_one (ps_ret (pe_ix (ix_N hu) (pe_fld (pv 0) rfl) (pe_tup (pa_cons (pv 1) (pa_cons (pv 2) pa_nil))) (fun _ _ => rfl)))), ?_⟩
  -- the answer out of what is known
  have ret : ∀ H2 kvs v, Ch (· = A.ak) H H2 → P2 P w K A ls ks U H2 → KnI P w H2 A ks U kvs → valV kvs (r, g) = some v →
      (tRet (tOp (rGetN P w) (tFld K (tVar 0) "known") (tTup (tCons (tVar 1) (tCons (tVar 2) tNil))))) { nx := fun _ H' => Q .non H', rt := Q } [some (.ref A.t), some (.ref a), some (.int (g : Int))] H2 := by
    intro H2 kvs v c2 p2 kn hv
    obtain ⟨we, me, hins⟩ := ins_of p2.tb
    refine ⟨_, rfl, A.t, _, _, _, _, rfl, hins, T.c_Table, T.n_known, rfl, _, rfl, _, rfl, by show 2 ≤ sizeLine; decide, fun t ht => ?_⟩
    have c3 : Ch No H2 (upd H2 t (.tup [.ref a, .int (g : Int)])) := Ch.new ht
    have kn3 := kn.mono c3
    refine ⟨t, A.ak, (r, g), kvs, v, rfl, rfl, ⟨a, upd_same, c3.get (c2.2 _ _ se.ro)⟩, kn3.nd, hv, ?_⟩
    refine q v _ (c2.trans c3.any) (p2.mono c3) ?_
    obtain ⟨p, hp, e1, e2⟩ := valV_mem hv
    obtain ⟨Γ', C', d1, d2, d3, d4⟩ := kn3.en p hp
    rw [e1] at d1 d2
    obtain rfl := row_fun se.ok d1
    obtain rfl := Option.some.inj (se.go.symm.trans d2)
    rw [← e2]
    exact d4
  -- the answer is stored
  have sto : ∀ H2 v, Ch (· = A.ak) H H2 → P2 P w K A ls ks U H2 → Res H2 v Γ C → (gSub (tFld K (tVar 0) "known") (tTup (tCons (tVar 1) (tCons (tVar 2) tNil))) (rSetN P w)) v [some (.ref A.t), some (.ref a), some (.int (g : Int))] H2 fun σ H3 =>
      (tRet (tOp (rGetN P w) (tFld K (tVar 0) "known") (tTup (tCons (tVar 1) (tCons (tVar 2) tNil))))) { nx := fun _ H' => Q .non H', rt := Q } σ H3 := by
    intro H2 v c2 p2 rv
    obtain ⟨we, me, hins⟩ := ins_of p2.tb
    obtain ⟨kvs, kn⟩ := p2.kn
    refine ⟨_, rfl, A.t, _, _, _, _, rfl, hins, T.c_Table, T.n_known, rfl, _, rfl, _, rfl, by show 2 ≤ sizeLine; decide, fun t ht => ?_⟩
    have c3 : Ch No H2 (upd H2 t (.tup [.ref a, .int (g : Int)])) := Ch.new ht
    have kn3 := kn.mono c3
    have p3 := p2.mono c3
    have rv3 := rv.keep c3.2
    have k3 : KeyAt (upd H2 t (.tup [.ref a, .int (g : Int)])) t (r, g) := ⟨a, upd_same, c3.get (c2.2 _ _ se.ro)⟩
    have c03 := c2.trans (c3.any (T := (· = A.ak)))
    generalize upd H2 t (.tup [V.ref a, .int (g : Int)]) = H3 at c3 kn3 p3 rv3 k3 c03 ⊢
    obtain ⟨M, hM, lM⟩ := se.um.m
    refine ⟨t, A.ak, (r, g), kvs, rfl, rfl, k3, kn3.nd, Nat.lt_of_le_of_lt (kn3.len p3.tb.nd hM) lM, fun xs' nd' => ?_⟩
    have c4 : Ch (· = A.ak) H3 (upd H3 A.ak (nD P w A.ak xs')) := by
      obtain ⟨xs, e1, _⟩ := kn3.nd
      exact Ch.put rfl e1 fun _ z => nomatch z
    have kn4 : KnI P w (upd H3 A.ak (nD P w A.ak xs')) A ks U (putK kvs (r, g) v) := by
      refine ⟨nd', fun p hp => ?_, keys_putK kn3.nk⟩
      rcases mem_putK hp with z | z
      · obtain ⟨Γ', C', d1, d2, d3, d4⟩ := kn3.en p z
        exact ⟨Γ', C', d1, d2, d3, d4.keep c4.2⟩
      · subst z
        exact ⟨Γ, C, se.ok, se.go, se.u, rv3.keep c4.2⟩
    exact ret _ _ v (c03.trans c4) ⟨p3.tb.mono c4 (ak_not p3.tb), _, kn4⟩ kn4 (by rw [valV_put, if_pos rfl])
  obtain ⟨kvs, kn⟩ := se.p.kn
  refine ⟨_, rfl, _, rfl, by show 2 ≤ sizeLine; decide, fun t ht => ?_⟩
  have c1 : Ch No H (upd H t (.tup [.ref a, .int (g : Int)])) := Ch.new ht
  have k1 : KeyAt (upd H t (.tup [.ref a, .int (g : Int)])) t (r, g) := ⟨a, upd_same, c1.get se.ro⟩
  have kn1 := kn.mono c1
  have p1 := se.p.mono c1
  have cc1 := c1.any (T := (· = A.ak))
  have ro1 := c1.get se.ro
  generalize upd H t (.tup [V.ref a, .int (g : Int)]) = H1 at c1 k1 kn1 p1 cc1 ro1 ⊢
  obtain ⟨we, me, hins⟩ := ins_of p1.tb
  refine ⟨_, rfl, A.t, _, _, _, _, rfl, hins, T.c_Table, T.n_known, rfl, t, A.ak, (r, g), kvs, rfl, rfl, k1, kn1.nd, _, rfl, ?_⟩
  cases e : valV kvs (r, g) with
  | some v => exact iteF (ret H1 kvs v cc1 p1 kn1 e)
  | none =>
    refine iteT ?_
    refine ⟨_, rfl, A.t, A.dx, _, rfl, hins, rfl, _, rfl, _, rfl, A, ls, ks, a, r, g, Γ, C, rfl, p1.tb, ro1, se.ok, se.go, se.um.sz _ _ se.u, fun b H2 c2 hb => ⟨_, rfl, ?_⟩⟩
    have p2 := p1.mono c2
    have c02 := cc1.trans (c2.any (T := (· = A.ak)))
    cases b with
    | false => exact iteF (sto H2 .non c02 p2 (.inl ⟨rfl, hb rfl⟩))
    | true =>
      obtain ⟨we, me, hins⟩ := ins_of p2.tb
      refine iteT ?_
      exact ⟨_, rfl, A.t, A.dx, _, rfl, hins, rfl, _, rfl, _, rfl, A, ls, ks, U, a, r, g, Γ, C, rfl, ⟨se.um, p2, c02.2 _ _ se.ro, se.ok, se.go, se.u, se.ne⟩, hf, fun v H3 c3 p3 r3 => sto H3 v (c02.trans c3) p3 r3⟩
theorem ok_paper (T : TX w K mg fd) : ∀ n, FnOk P w K mg base CX0 (4 * n + 2) (He.ma K (He.ga K "Table") "paper") (fd 13) P_Table_paper (spPaper P w K n)
  | 0 => fnOk_none fun vs H Q E ⟨A, ls, ks, U, a, r, g, Γ, C, _, _, h, _⟩ => by omega
  | n + 1 => by
    have ih := ok_paper T n
    have GB := ok_be T ih
    have GH := ok_ah T ih
    have GJ := ok_joined T ih
    have GW := ok_wait T GB GH
    have GA := ok_anew T ih GJ GW
    exact ok_paper1 T (by omega) GA
end
end WW
/-! prove, row_comes, leads, leads_to, paper_for. -/
namespace WW
open PySem PySem.Spec PyProof.Rows L2
theorem sg_size (Γ : List Kd) (C : Kd) : (sg Γ C).size = szs Γ + C.size := by
  unfold sg Sg.size szs
  simp [List.map_map, Function.comp_def]
theorem fs_szs : ∀ Γ : List Kd, fs Γ + Γ.length = szs Γ
  | [] => rfl
  | k :: r => by
    have h1 := fs_szs r
    have h2 := Kd.forms_size k
    simp only [fs, szs, List.map_cons, List.sum_cons, List.length_cons] at h1 ⊢
    omega
theorem um_of (Γ : List Kd) (C : Kd) (h : szs Γ + C.size ≤ 14) : UM (fun Δ B => Of (sg Γ C) Δ B ∧ szs Δ + B.size ≤ 14) where
  cl := closed_sz (of_closed _) 14
  sz := fun _ _ z => by have := z.2; omega
  m := ⟨univ (sg Γ C), fun _ _ z => mem_univ z.1, by
    refine Nat.lt_of_le_of_lt (univ_length _) ?_
    rw [sg_size]
    have h1 : 3 ^ (szs Γ + C.size) ≤ 3 ^ 14 := Nat.pow_le_pow_right (by decide) h
    refine Nat.lt_of_le_of_lt h1 ?_
    rw [sizeLine_eq]
    decide⟩
section
variable {P : Program} {w : World} {K : PySem.W.Frag} {mg : Str → Option Value} {base : Heap} {fd : Nat → FuncData}
def spProve : Sp := fun vs H Q _ => ∃ (l : Addr) (v : V) (Γ : List Kd) (C : Kd), vs = [.ref l, v] ∧ LK H l Γ ∧ KA H v C ∧ Γ ≠ [] ∧ szs Γ + C.size ≤ 14 ∧ ∀ u H', Ch No H H' → Res H' u Γ C → Q u H'
theorem row_app {ks m : List Kd} {r : List Nat} {Γ : List Kd} (h : RowOk ks r Γ) : RowOk (ks ++ m) r Γ := Paired.mapP h fun _ _ z => get_app z
theorem ok_prove (T : TX w K mg fd) : FnOk P w K mg base CX0 60 (He.ga K "prove") (fd 19) P_prove spProve := by
  refine T.d_prove.ok sc_prove (fun vs H Q E h => ?_) (fun cdv A0 outer s H vs Q E0 hr h => ?_)
  · obtain ⟨l, v, Γ, C, rfl, _⟩ := h
    rfl
  obtain ⟨l, v, Γ, C, rfl, ⟨us, hl, hus⟩, kv, hne, hz, q⟩ := h
  have GN := ok_new (P := P) (base := base) T
  have GM := ok_num (P := P) (base := base) T 20
  have GP := ok_paper (P := P) (base := base) T 14
  refine ⟨_, pss_cons (ps_set (i := 2) sc_prove.nd rfl (Or.inr rfl) (pe_make0 T.k_Table GN (hr.mono (by decide)) rfl T.g_Table T.d_Table_new.b .nil pass0))
    (pss_one (ps_ret (pe_meth (pv 2) T.c_Table T.m_paper GP (hr.mono (by decide)) T.d_Table_paper.b .nil pass0
      (pa_cons (pe_callTy call_tuple_of (by rfl) T.z_tuple (by decide +kernel) (pa_cons (pe_lc (own := [("one", 3)]) (g := gName 3) (tt := tYes) (te := tMeth (tC' K) "number" (spNum (K := K) 20) [] L2.E0 (tVar 2) (tCons (tVar 3) tNil)) rfl sc_prove.nd (pi_list (pv 0)) (blkOk_by (N := N_prove) (sc := defScope s_prove) (by decide +kernel))
          (fun _ _ _ _ _ => pg_name (i := 3) sc_prove.nd rfl (Or.inl rfl)) (fun _ _ _ _ _ => pts_nil) (fun _ _ _ _ _ => pe_meth (pv 2) T.c_Table T.m_number GM (hr.mono (by decide)) T.d_Table_number.b .nil pass0 (pa_cons (pv 3) pa_nil))) pa_nil))
        (pa_cons (pe_meth (pv 2) T.c_Table T.m_number GM (hr.mono (by decide)) T.d_Table_number.b .nil pass0 (pa_cons (pv 1) pa_nil)) pa_nil))))), ?_⟩
  have lus := pr_len hus
  have lΓ := szs_len Γ
  have cp := C.size_pos
  intro x dx nx ndx nex
  have c0 : Ch No H (upd (upd H dx (.own x)) x (.ins (tC' K) dx [])) := by
    refine (Ch.new ndx).trans (Ch.new ?_)
    rw [upd_ne nex.symm]
    exact nx
  refine ⟨x, dx, rfl, upd_same, (upd_ne nex).trans upd_same, fun A H1 eA fr c1 tb1 nd1 => ⟨rfl, ?_⟩⟩
  have fresh : ∀ b, (inT A b ∨ b = A.ak) → H b = none := fun b hb => by
    by_cases hbx : b = x
    · rw [hbx]
      exact nx
    · exact c0.free id (fr b hb hbx)
  have c01 : Ch No H H1 := c0.fresh c1 fun b hb => by
    have : b = x := hb
    rw [this]
    exact nx
  subst eA
  obtain ⟨we, me, hins⟩ := ins_of tb1
  refine ⟨_, rfl, A.t, A.dx, _, rfl, hins, rfl, ?_⟩
  refine ⟨_, rfl, l, rfl, ⟨_, SqL.of (c01.get hl)⟩, fun D0 hD => ?_⟩
  refine lc_list (xs := us) (fun i H' => ∃ ls ks r, Tb (tC' K) A H' ls ks ∧ ND P w H' A.ak [] ∧ H' D0 = some (.lst (nums r)) ∧ RowOk ks r (Γ.take i) ∧ Ch (inT A) H1 H' ∧ ks.length ≤ 2 * szs (Γ.take i) ∧ ls.length ≤ szs (Γ.take i)) ?_ ?_ ?_ ?_
  · have cD : Ch No H1 (upd H1 D0 (.lst [])) := Ch.new hD
    exact ⟨[], [], [], tb1.mono cD fun _ _ z => z, nd1.keep cD.2 fun o e => cD.get e, upd_same, .nil, cD.any, by simp, by simp⟩
  · rintro i H' hi ⟨ls, ks, r, tb, nd, hd, ro, c, _⟩
    refine SqL.of (c.1 _ _ (c01.get hl) fun z => ?_)
    have := fresh l (.inl z)
    rw [hl] at this
    cases this
  · rintro i y H2 e ⟨ls, ks, r, tb, nd, hd, ro, c, n1, n2⟩
    obtain ⟨k, e1, e2⟩ := pr_at hus e
    have eΓ : Γ.take (i + 1) = Γ.take i ++ [k] := by rw [List.take_add_one, e1]; rfl
    have z1 := szs_app (Γ.take i) [k]
    have z2 : szs (Γ.take (i + 1)) ≤ szs Γ := by
      have := szs_app (Γ.take (i + 1)) (Γ.drop (i + 1))
      rw [List.take_append_drop] at this
      omega
    have z3 : szs [k] = k.size := by simp [szs]
    rw [eΓ, z1, z3] at z2
    obtain ⟨we, me, hins⟩ := ins_of tb
    refine ⟨rfl, _, rfl, A.t, A.dx, _, rfl, hins, rfl, _, rfl, A, ls, ks, y, k, rfl, tb, (e2.mono c01).mono c, by omega, by omega, by omega, by omega, fun j l' m' H3 c3 tb3 g3 s1 s2 => ?_⟩
    have nD0 : ¬ inT A D0 := fun z => by
      obtain ⟨kvs, sh, pa, as, tr, _⟩ := tb1.ex
      unfold inT at z
      rcases z with z | z | z | z | z | z | z | z
      · rw [z, tr.ins] at hD; cases hD
      · rw [z, tr.m] at hD; cases hD
      · rw [z, tr.lsh] at hD; cases hD
      · rw [z, tr.lfo] at hD; cases hD
      · rw [z, tr.lpa] at hD; cases hD
      · rw [z, tr.lsu] at hD; cases hD
      · rw [z, tr.lsp] at hD; cases hD
      · rw [z, tr.lco] at hD; cases hD
    have hd3 := c3.1 _ _ hd nD0
    have lr := pr_len ro
    have lt : (Γ.take i).length ≤ Γ.length := by rw [List.length_take]; omega
    have nds : D0 ≠ A.ak := fun z => by
      obtain ⟨xs, e, _⟩ := nd1
      rw [z, e] at hD
      cases hD
    have c4 : Ch (· = D0) H3 (upd H3 D0 (.lst (nums r ++ [.int (j : Int)]))) := Ch.put rfl hd3 fun _ z => nomatch z
    refine ⟨nums r, hd3, by rw [nums_len]; exact small1000 (by omega), ls ++ l', ks ++ m', r ++ [j], tb3.mono c4 fun b hb z => nD0 (z ▸ hb), ?_, ?_, ?_, ?_, ?_, ?_⟩
    · refine nd.keep (fun b xs e => c4.2 b xs (c3.2 b xs e)) fun o e => c4.1 _ _ (c3.1 _ _ e fun z => ak_not tb _ z rfl) fun z => nds z.symm
    · rw [upd_same, nums_app]
      rfl
    · rw [eΓ]
      exact pr_app (row_app ro) (.cons g3 .nil)
    · exact (c.trans c3).hole hD
    · rw [eΓ, z1, z3]
      simp
      omega
    · rw [eΓ, z1, z3]
      simp
      omega
  · rintro H2 ⟨ls, ks, r, tb, nd, hd, ro, c, n1, n2⟩
    rw [lus, List.take_length] at ro n1 n2
    refine ⟨D0, _, rfl, .inl ⟨SqL.of hd, fun t ht => ?_⟩⟩
    have c3 : Ch No H2 (upd H2 t (.tup (nums r))) := Ch.new ht
    have t3 : (upd H2 t (.tup (nums r))) t = some (.tup (nums r)) := upd_same
    have tb3 := tb.mono c3 fun _ _ z => z
    have nd3 := nd.keep c3.2 fun o e => c3.get e
    have c13 := c.trans (c3.any (T := inT A))
    generalize upd H2 t (.tup (nums r)) = H3 at c3 t3 tb3 nd3 c13 ⊢
    obtain ⟨we, me, hins⟩ := ins_of tb3
    refine ⟨_, rfl, A.t, A.dx, _, rfl, hins, rfl, _, rfl, A, ls, ks, v, C, rfl, tb3, (kv.mono c01).mono c13, by omega, by omega, by omega, by omega, fun g l' m' H4 c4 tb4 g4 s1 s2 => ?_⟩
    have c14 := c13.trans c4
    have nd4 := nd3.keep c4.2 fun o e => c4.1 _ _ e fun z => ak_not tb3 _ z rfl
    have cH4 : Ch No H H4 := c01.fresh c14 fun b hb => fresh b (.inl hb)
    have hf := fs_szs Γ
    have hC := Kd.forms_size C
    have lp : 0 < Γ.length := List.length_pos_iff.mpr hne
    refine ⟨A, ls ++ l', ks ++ m', _, t, r, g, Γ, C, rfl, ⟨um_of Γ C hz, ⟨tb4, [], ⟨nd4, fun p hp => (by cases hp), List.nodup_nil⟩⟩, c4.2 _ _ t3, row_app ro, g4, ⟨of_self Γ C, hz⟩, hne⟩, by omega, fun u H5 c5 p5 r5 => ?_⟩
    exact q u H5 (cH4.fresh c5 fun b hb => fresh b (.inr hb)) r5
def spComes : Sp := fun vs H Q _ => ∃ (l : Addr) (v : V) (Γ : List Kd) (C : Kd), vs = [.ref l, v] ∧ LK H l Γ ∧ KA H v C ∧ Γ ≠ [] ∧ szs Γ + C.size ≤ 14 ∧ ∀ (b : Bool) H', Ch No H H' → (b = true ↔ D Γ C) → Q (.bl b) H'
theorem ok_rowc (T : TX w K mg fd) : FnOk P w K mg base CX0 61 (He.ga K "row_comes") (fd 20) P_row_comes spComes := by
  refine T.d_row_comes.ok sc_row_comes (fun vs H Q E h => ?_) (fun cdv A0 outer s H vs Q E0 hr h => ?_)
  · obtain ⟨l, v, Γ, C, rfl, _⟩ := h
    rfl
  obtain ⟨l, v, Γ, C, rfl, lk, kv, hne, hz, q⟩ := h
  have G := ok_prove (P := P) (base := base) T
  refine ⟨_, pss_one (ps_ret (pe_cmpR op_notN (pe_call G hr rfl T.g_prove T.d_prove.kp T.d_prove.b .nil pass0 (pa_cons (pv 0) (pa_cons (pv 1) pa_nil))) pe_non (nomark _))), ?_⟩
  refine ⟨_, rfl, _, rfl, l, v, Γ, C, rfl, lk, kv, hne, hz, fun u H' c r => ?_⟩
  rcases r with ⟨rfl, nd⟩ | pp
  · exact ⟨rfl, q false H' c ⟨fun z => (nomatch z), fun z => absurd z nd⟩⟩
  · have := pp.D
    obtain ⟨b, xs, rfl, _⟩ := pp.ref
    exact ⟨rfl, q true H' c ⟨fun _ => this, fun _ => rfl⟩⟩
def spLeads : Sp := fun vs H Q _ => ∃ (u v : V) (A C : Kd), vs = [u, v] ∧ KA H u A ∧ KA H v C ∧ A.size + C.size ≤ 14 ∧ ∀ (b : Bool) H', Ch No H H' → (b = true ↔ D [A] C) → Q (.bl b) H'
theorem ok_leads (T : TX w K mg fd) : FnOk P w K mg base CX0 62 (He.ga K "leads") (fd 21) P_leads spLeads := by
  refine T.d_leads.ok sc_leads (fun vs H Q E h => ?_) (fun cdv A0 outer s H vs Q E0 hr h => ?_)
  · obtain ⟨u, v, A, C, rfl, _⟩ := h
    rfl
  obtain ⟨u, v, A, C, rfl, ku, kv, hz, q⟩ := h
  have G := ok_rowc (P := P) (base := base) T
  refine ⟨_, pss_one (ps_ret (pe_call G hr rfl T.g_row_comes T.d_row_comes.kp T.d_row_comes.b .nil pass0 (pa_cons (pe_lst (pa_cons (pv 0) pa_nil)) (pa_cons (pv 1) pa_nil)))), ?_⟩
  refine ⟨_, rfl, by show 1 ≤ sizeLine; decide, fun l hl => ?_⟩
  have c1 : Ch No H (upd H l (.lst [u])) := Ch.new hl
  exact ⟨_, rfl, l, v, [A], C, rfl, ⟨_, upd_same, .cons (ku.mono c1) .nil⟩, kv.mono c1, by simp, by simp [szs]; omega, fun b H' c hb => q b H' (c1.trans c) hb⟩
theorem ok_ldt (T : TX w K mg fd) : FnOk P w K mg base CX0 63 (He.ga K "leads_to") (fd 23) P_leads_to spLeads := by
  refine T.d_leads_to.ok sc_leads_to (fun vs H Q E h => ?_) (fun cdv A0 outer s H vs Q E0 hr h => ?_)
  · obtain ⟨u, v, A, C, rfl, _⟩ := h
    rfl
  obtain ⟨u, v, A, C, rfl, ku, kv, hz, q⟩ := h
  have G := ok_leads (P := P) (base := base) T
  have G2 := ok_asked (P := P) (base := base) T
  have pA := A.size_pos
  have pC := C.size_pos
  refine ⟨_, pss_cons (ps_expr (pe_call G2 (hr.mono (by decide)) rfl T.g_check_asked T.d_check_asked.kp T.d_check_asked.b .nil pass0 (pa_cons (pe_lst (pa_cons (pv 0) pa_nil)) (pa_cons (pe_lst (pa_cons (pv 1) pa_nil)) pa_nil))))
    (pss_one (ps_ret (pe_call G hr rfl T.g_leads T.d_leads.kp T.d_leads.b .nil pass0 (pa_cons (pv 0) (pa_cons (pv 1) pa_nil))))), ?_⟩
  refine ⟨_, rfl, by show 1 ≤ sizeLine; decide, fun l hl => ?_⟩
  have c1 : Ch No H (upd H l (.lst [u])) := Ch.new hl
  refine ⟨_, rfl, by show 1 ≤ sizeLine; decide, fun m hm => ?_⟩
  have c2 : Ch No (upd H l (.lst [u])) (upd (upd H l (.lst [u])) m (.lst [v])) := Ch.new hm
  have c12 := c1.trans c2
  refine ⟨l, m, [A], [C], rfl, ⟨_, c2.get upd_same, .cons (ku.mono c12) .nil⟩, ⟨_, upd_same, .cons (kv.mono c12) .nil⟩, fun k hk => ?_, fun k hk => ?_, by simp, by simp, by simp, fun H' c => ?_⟩
  · rw [List.mem_singleton] at hk
    subst hk
    omega
  · rw [List.mem_singleton] at hk
    subst hk
    omega
  · exact ⟨_, rfl, _, rfl, u, v, A, C, rfl, (ku.mono c12).mono c, (kv.mono c12).mono c, hz, fun b H' c' hb => q b H' ((c12.trans c).trans c') hb⟩
theorem ok_pfor (T : TX w K mg fd) : FnOk P w K mg base CX0 61 (He.ga K "paper_for") (fd 26) P_paper_for spProve := by
  refine T.d_paper_for.ok sc_paper_for (fun vs H Q E h => ?_) (fun cdv A0 outer s H vs Q E0 hr h => ?_)
  · obtain ⟨l, v, Γ, C, rfl, _⟩ := h
    rfl
  obtain ⟨l, v, Γ, C, rfl, ⟨us, hl, hus⟩, kv, hne, hz, q⟩ := h
  have G := ok_prove (P := P) (base := base) T
  have G2 := ok_cks (P := P) (base := base) T
  have lus := pr_len hus
  have lΓ := szs_len Γ
  refine ⟨_, pss_cons (ps_expr (pe_call G2 (hr.mono (by decide)) rfl T.g_checked_kinds T.d_checked_kinds.kp T.d_checked_kinds.b .nil pass0 (pa_cons (pe_lst (StX.pa_star (pv 0) (pa_cons (pv 1) pa_nil))) pa_nil)))
    (pss_cons (ps_if (pt_cmpR op_eq (pe_callB call_len_seq (by rfl) T.z_len boot_len (pa_cons (pv 0) pa_nil)) pe_int (nomark _)) (pss_one ps_never) pss_nil)
    (pss_one (ps_ret (pe_call G hr rfl T.g_prove T.d_prove.kp T.d_prove.b .nil pass0 (pa_cons (pv 0) (pa_cons (pv 1) pa_nil)))))), ?_⟩
  refine ⟨_, rfl, l, us, rfl, .inr (SqL.of hl), _, rfl, by simp; exact len_line (by omega), fun t ht => ?_⟩
  have c1 : Ch No H (upd H t (.lst (us ++ [v]))) := Ch.new ht
  refine ⟨t, Γ ++ [C], rfl, ⟨_, upd_same, pr_app (KAs.mono hus c1) (.cons (kv.mono c1) .nil)⟩, fun k hk => ?_, ?_⟩
  · rcases List.mem_append.mp hk with z | z
    · have := szs_mem z
      omega
    · rw [List.mem_singleton] at z
      subst z
      omega
  refine ⟨_, rfl, l, us, rfl, .inl (SqL.of (c1.get hl)), rfl, _, rfl, ?_⟩
  have : us.length ≠ 0 := fun z => hne (List.length_eq_zero_iff.mp (by omega))
  rw [decide_eq_false (fun z => this (by have := V.int.inj z; omega))]
  refine iteF ?_
  exact ⟨_, rfl, _, rfl, l, v, Γ, C, rfl, ⟨us, c1.get hl, KAs.mono hus c1⟩, kv.mono c1, hne, hz, fun u H' c r => q u H' (c1.trans c) r⟩
end
end WW
/-! The law's own search: put_together. -/
namespace WW
open PySem PySem.Spec PyProof.Rows L2
structure UL (U : List Kd → Kd → Prop) : Prop where
  cl : Closed U
  sz : ∀ Γ C, U Γ C → szs Γ + C.size ≤ 14
  m : ∃ M : List (List Kd × Kd), (∀ Γ C, U Γ C → (Γ, C) ∈ M) ∧ M.length < sizeLine
/-- what the law's dict at d knows -/
def KnL (H : Hp) (d : Addr) (U : List Kd → Kd → Prop) : Prop := ∃ kvs : List (Key × V), H d = some (.dK kvs) ∧ (kvs.map (·.1)).Nodup ∧
  ∀ p ∈ kvs, ∃ (Γ : List Kd) (C : Kd) (b : Bool), U Γ C ∧ allLow (Γ, C) ∧ p.1 = .inr (PyData.shown (prD (Γ, C))) ∧ p.2 = .bl b ∧ (b = true ↔ D Γ C)
theorem KnL.mono {H H' : Hp} {d : Addr} {U : List Kd → Kd → Prop} (h : KnL H d U) (c : Ch No H H') : KnL H' d U := let ⟨kvs, a, b⟩ := h; ⟨kvs, c.get a, b⟩
structure SL (H : Hp) (l : Addr) (v : V) (z : Str) (d : Addr) (U : List Kd → Kd → Prop) (Γ : List Kd) (C : Kd) : Prop where
  um : UL U
  ln : LK H l Γ
  go : KA H v C
  nz : z.length ≤ 7
  al : ∀ k ∈ Γ, k.all (· ∈ z.cps.toList)
  ac : C.all (· ∈ z.cps.toList)
  u : U Γ C
  ne : Γ ≠ []
  kn : KnL H d U
theorem LK.ned {H : Hp} {l d : Addr} {Γ : List Kd} {U : List Kd → Kd → Prop} (h : LK H l Γ) (k : KnL H d U) : l ≠ d := by
  obtain ⟨us, a, _⟩ := h
  obtain ⟨kvs, b, _⟩ := k
  intro e
  rw [e, b] at a
  cases a
theorem SL.mono {H H' : Hp} {l : Addr} {v : V} {z : Str} {d : Addr} {U : List Kd → Kd → Prop} {Γ : List Kd} {C : Kd} (s : SL H l v z d U Γ C) (c : Ch (· = d) H H') (k : KnL H' d U) : SL H' l v z d U Γ C :=
  ⟨s.um, s.ln.mono c (s.ln.ned s.kn), s.go.mono c, s.nz, s.al, s.ac, s.u, s.ne, k⟩
theorem SL.mono0 {H H' : Hp} {l : Addr} {v : V} {z : Str} {d : Addr} {U : List Kd → Kd → Prop} {Γ : List Kd} {C : Kd} (s : SL H l v z d U Γ C) (c : Ch No H H') : SL H' l v z d U Γ C := s.mono c.any (s.kn.mono c)
/-- another row and goal of the same search -/
theorem SL.other {H H' : Hp} {l l' : Addr} {v v' : V} {z : Str} {d : Addr} {U : List Kd → Kd → Prop} {Γ Γ' : List Kd} {C C' : Kd} (s : SL H l v z d U Γ C) (ln : LK H' l' Γ') (go : KA H' v' C') (al : ∀ k ∈ Γ', k.all (· ∈ z.cps.toList)) (ac : C'.all (· ∈ z.cps.toList)) (u : U Γ' C') (ne : Γ' ≠ []) (kn : KnL H' d U) : SL H' l' v' z d U Γ' C' :=
  ⟨s.um, ln, go, s.nz, al, ac, u, ne, kn⟩
def spLC (n : Nat) : Sp := fun vs H Q _ => ∃ l v z d U Γ C, vs = [.ref l, v, .str z, .ref d] ∧ SL H l v z d U Γ C ∧ fs Γ + C.forms + 1 ≤ n ∧ ∀ (b : Bool) H', Ch (· = d) H H' → KnL H' d U → (b = true ↔ D Γ C) → Q (.bl b) H'
def spLP (n : Nat) : Sp := fun vs H Q _ => ∃ l v z d U Γ C X k0 Y, vs = [.ref l, .int (((X : List Kd).length : Nat) : Int), v, .str z, .ref d] ∧ SL H l v z d U Γ C ∧ Γ = X ++ k0 :: Y ∧ fs Γ + C.forms ≤ n ∧
  ∀ (b : Bool) H', Ch (· = d) H H' → KnL H' d U → (b = true → D Γ C) → (b = false → Ng X k0 Y C) → Q (.bl b) H'
theorem kas_take {H : Hp} {us : List V} {Γ : List Kd} (h : KAs H us Γ) (n : Nat) : KAs H (us.take n) (Γ.take n) := pr_tk h n
theorem sub_al {z : Str} {Γ Δ : List Kd} (h : ∀ k ∈ Γ, k.all (· ∈ z.cps.toList)) (hs : ∀ k ∈ Δ, k ∈ Γ) : ∀ k ∈ Δ, k.all (· ∈ z.cps.toList) := fun k hk => h k (hs k hk)
section
variable {K : PySem.W.Frag} {H : Hp} {a b : Addr} {us ws : List V} {Γ Δ : List Kd} {Q : VK}
theorem lkS_pre {k : Nat} {i : Int} (e : i = (k : Int)) (h : LK H a Γ) (q : ∀ t H', Ch No H H' → LK H' t (Γ.take k) → Q (.ref t) H') : rSlL K (.ref a) none (some i) H Q := by
  subst e
  obtain ⟨us, h1, h2⟩ := h
  refine slL _ _ h1 fun t H' c _ e => q t H' c ⟨_, e, ?_⟩
  rw [cut_pre]
  exact KAs.mono (pr_tk h2 k) c
theorem lkS_suf {k : Nat} {i : Int} (e : i = (k : Int)) (h : LK H a Γ) (q : ∀ t H', Ch No H H' → LK H' t (Γ.drop k) → Q (.ref t) H') : rSlL K (.ref a) (some i) none H Q := by
  subst e
  obtain ⟨us, h1, h2⟩ := h
  refine slL _ _ h1 fun t H' c _ e => q t H' c ⟨_, e, ?_⟩
  rw [cut_suf]
  exact KAs.mono (pr_dp h2 k) c
theorem lkS_mid {j k : Nat} {i m : Int} (e : i = (j : Int)) (e' : m = (k : Int)) (h : LK H a Γ) (q : ∀ t H', Ch No H H' → LK H' t ((Γ.take k).drop j) → Q (.ref t) H') : rSlL K (.ref a) (some i) (some m) H Q := by
  subst e e'
  obtain ⟨us, h1, h2⟩ := h
  refine slL _ _ h1 fun t H' c _ e => q t H' c ⟨_, e, ?_⟩
  rw [cut_mid]
  exact KAs.mono (pr_dp (pr_tk h2 k) j) c
theorem lkCat (h : LK H a Γ) (h' : LK H b Δ) (hl : Γ.length + Δ.length ≤ 1000) (q : ∀ t H', Ch No H H' → LK H' t (Γ ++ Δ) → Q (.ref t) H') : rCat (.ref a) (.ref b) H Q := by
  obtain ⟨us, h1, h2⟩ := h
  obtain ⟨ws, h3, h4⟩ := h'
  refine catL h1 h3 (by rw [pr_len h2, pr_len h4]; exact hl) fun t H' c _ e => q t H' c ⟨_, e, KAs.mono (pr_app h2 h4) c⟩
theorem lkIx {i : Nat} {k : Kd} (h : LK H a Γ) (e : Γ[i]? = some k) : ∃ xs v, H a = some (.lst xs) ∧ atI xs (i : Int) = some v ∧ KA H v k := by
  obtain ⟨us, h1, h2⟩ := h
  have hl := pr_len h2
  have e1 := List.getElem?_eq_getElem (l := us) (i := i) (by rw [hl]; exact (List.getElem?_eq_some_iff.mp e).1)
  obtain ⟨k', e2, e3⟩ := pr_at h2 e1
  obtain rfl := Option.some.inj (e.symm.trans e2)
  exact ⟨us, _, h1, atI_nat e1, e3⟩
end
section
variable {P : Program} {w : World} {K : PySem.W.Frag} {mg : Str → Option Value} {base : Heap} {fd : Nat → FuncData}
theorem ok_lput (T : TX w K mg fd) {n k : Nat} (ih : FnG P w K mg base CX0 k (He.ga K "_law_comes") (fd 36) P_l_comes (spLC n)) :
    FnG P w K mg base CX0 (k + 1) (He.ga K "_law_put_together") (fd 38) P_l_put_together (spLP n) := by
  refine T.d_l_put_together.okG sc_l_put_together (fun vs H Q E h => ?_) (fun cdv A0 outer s H vs Q E0 hg hr h => ?_)
  · obtain ⟨l, v, z, d, U, Γ, C, X, k0, Y, rfl, _⟩ := h
    rfl
  obtain ⟨l, v, z, d, U, Γ, C, X, k0, Y, rfl, sl, eΓ, hf, q⟩ := h
  refine ⟨_, pss_cons (ps_set (i := 5) sc_l_put_together.nd rfl (Or.inl rfl) (pe_ix ix_list (pv 0) (pv 1) (fun _ _ => rfl)))
    (pss_cons (ps_if (pt_cmpR op_eq (pe_ix ix_tup (pv 5) pe_int (fun _ _ => rfl)) pe_str (nomark _))
      (pss_one (ps_for PassesOwn.never rfl (pi_range2 (by rfl) T.z_range (pa_cons (pe_op op_add (pv 1) pe_int) (pa_cons (pe_op op_add (pe_callB call_len_seq (by rfl) T.z_len boot_len (pa_cons (pv 0) pa_nil)) pe_int) pa_nil))) (pg_name (i := 6) sc_l_put_together.nd rfl (Or.inl rfl))
        (pss_one (ps_if (pt_val (pe_callG ih hg hr rfl T.g_l_comes T.d_l_comes.kp T.d_l_comes.b pass0 (pa_cons (pe_slice sl_list (pv 0) (po_some (pe_op op_add (pv 1) pe_int)) (po_some (pv 6))) (pa_cons (pe_ix ix_tup (pv 5) pe_int (fun _ _ => rfl)) (pa_cons (pv 3) (pa_cons (pv 4) pa_nil))))))
          (pss_one (ps_if (pt_val (pe_callG ih hg hr rfl T.g_l_comes T.d_l_comes.kp T.d_l_comes.b pass0 (pa_cons (pe_op op_cat (pe_op op_cat (pe_slice sl_list (pv 0) po_none (po_some (pv 1))) (pe_lst (pa_cons (pe_ix ix_tup (pv 5) pe_int (fun _ _ => rfl)) pa_nil))) (pe_slice sl_list (pv 0) (po_some (pv 6)) po_none)) (pa_cons (pv 2) (pa_cons (pv 3) (pa_cons (pv 4) pa_nil))))))
            (pss_one (ps_ret pe_bl)) pss_nil)) pss_nil)))) pss_nil)
    (pss_cons (ps_if (pt_cmpR op_eq (pe_ix ix_tup (pv 5) pe_int (fun _ _ => rfl)) pe_str (nomark _))
      (pss_one (ps_for PassesOwn.never rfl (pi_range1 (by rfl) T.z_range (pa_cons (pv 1) pa_nil)) (pg_name (i := 6) sc_l_put_together.nd rfl (Or.inl rfl))
        (pss_one (ps_if (pt_val (pe_callG ih hg hr rfl T.g_l_comes T.d_l_comes.kp T.d_l_comes.b pass0 (pa_cons (pe_slice sl_list (pv 0) (po_some (pv 6)) (po_some (pv 1))) (pa_cons (pe_ix ix_tup (pv 5) pe_int (fun _ _ => rfl)) (pa_cons (pv 3) (pa_cons (pv 4) pa_nil))))))
          (pss_one (ps_if (pt_val (pe_callG ih hg hr rfl T.g_l_comes T.d_l_comes.kp T.d_l_comes.b pass0 (pa_cons (pe_op op_cat (pe_op op_cat (pe_slice sl_list (pv 0) po_none (po_some (pv 6))) (pe_lst (pa_cons (pe_ix ix_tup (pv 5) pe_int (fun _ _ => rfl)) pa_nil))) (pe_slice sl_list (pv 0) (po_some (pe_op op_add (pv 1) pe_int)) po_none)) (pa_cons (pv 2) (pa_cons (pv 3) (pa_cons (pv 4) pa_nil))))))
            (pss_one (ps_ret pe_bl)) pss_nil)) pss_nil)))) pss_nil)
    (pss_one (ps_ret pe_bl)))), ?_⟩
  have hz := sl.um.sz _ _ sl.u
  have hlen := szs_len Γ
  have lΓ : Γ.length = X.length + 1 + Y.length := by rw [eΓ]; simp; omega
  have e0 : Γ[X.length]? = some k0 := by rw [eΓ]; exact spl_get _ _ _
  obtain ⟨xs, v0, hxs, axs, kv0⟩ := lkIx sl.ln e0
  have hk0 : k0 ∈ Γ := List.mem_of_getElem? e0
  have mX : ∀ k ∈ X, k ∈ Γ := fun k hk => by rw [eΓ]; simp [hk]
  have mY : ∀ k ∈ Y, k ∈ Γ := fun k hk => by rw [eΓ]; simp [hk]
  refine ⟨_, rfl, _, rfl, l, xs, _, v0, rfl, rfl, SqL.of hxs, axs, ?_⟩
  obtain ⟨us, hus, kus⟩ := sl.ln
  obtain rfl : xs = us := by
    rw [hxs] at hus
    injection hus with h
    injection h
  have lus := pr_len kus
  cases k0 with
  | pl c =>
    obtain ⟨a, rfl, h1, _⟩ := kv0.pl_inv
    refine ⟨_, rfl, a, _, _, _, rfl, rfl, SqT.of h1, atI_nat (j := 0) rfl, rfl, _, rfl, iteF ?_⟩
    refine ⟨_, rfl, a, _, _, _, rfl, rfl, SqT.of h1, atI_nat (j := 0) rfl, rfl, _, rfl, iteF ?_⟩
    exact q false H (Ch.refl _ _) sl.kn (fun z => nomatch z) fun _ => ⟨fun B E z => (by cases z), fun B E z => (by cases z)⟩
  | nd f x y =>
    obtain ⟨a, u1, u2, rfl, h1, kx, ky⟩ := kv0.nd_inv
    have alk := sl.al _ hk0
    have fZ := forms_nd f x y
    refine ⟨_, rfl, a, _, _, _, rfl, rfl, SqT.of h1, atI_nat (j := 0) rfl, rfl, _, rfl, ?_⟩
    cases f with
    | w =>
      refine iteF ?_
      refine ⟨_, rfl, a, _, _, _, rfl, rfl, SqT.of h1, atI_nat (j := 0) rfl, rfl, _, rfl, iteF ?_⟩
      exact q false H (Ch.refl _ _) sl.kn (fun z => nomatch z) fun _ => ⟨fun B E z => (by cases z), fun B E z => (by cases z)⟩
    | b =>
      refine iteT ?_
      refine ⟨_, rfl, _, _, rfl, rfl, _, rfl, l, _, rfl, .inl (SqL.of hxs), _, _, rfl, rfl, _, _, rfl, ⟨by omega, by omega, by omega, by omega⟩, ?_⟩
      refine for_range (lo := (X.length : Int) + 2) (n := ((xs.length : Int) + 1 - ((X.length : Int) + 2)).toNat) (fun i σ H' => ∃ x6, σ = [some (.ref l), some (.int (X.length : Int)), some v, some (.str z), some (.ref d), some (.ref a), x6] ∧ Ch (· = d) H H' ∧ SL H' l v z d U Γ C ∧ ∀ j, j < i → D (Y.take (j + 1)) y → ¬ D (X ++ x :: Y.drop (j + 1)) C) ⟨_, rfl, Ch.refl _ _, sl, fun j hj => by omega⟩ ?_ ?_
      · rintro i σ H1 hi ⟨x6, rfl, c1, s1, no⟩
        have hi' : i < Y.length := by omega
        have e1 : (X.length : Int) + 2 + (i : Int) = ((X.length + 2 + i : Nat) : Int) := by omega
        have eY : X ++ (Kd.nd .b x y :: Y.take (i + 1)) ++ Y.drop (i + 1) = Γ := by
          rw [eΓ, List.append_assoc, List.cons_append, List.take_append_drop]
        have ef : fs Γ = fs X + (x.forms + y.forms + 1 + fs (Y.take (i + 1))) + fs (Y.drop (i + 1)) := by
          rw [← eY, fs_app, fs_app, fs_cons, forms_nd]
        have hu := sl.u
        rw [← eY] at hu
        refine ⟨_, rfl, _, rfl, _, _, rfl, rfl, _, rfl, _, rfl, _, rfl, ?_⟩
        refine lkS_mid (j := X.length + 1) (k := X.length + 2 + i) (by omega) e1 s1.ln fun t1 H2 c2 h2 => ?_
        rw [eΓ, spl_mid] at h2
        have cc2 := c1.trans (c2.any (T := (· = d)))
        have s2 := s1.mono0 c2
        refine ⟨_, rfl, a, _, _, _, rfl, rfl, SqT.of (cc2.2 _ _ h1), atI_nat (j := 2) rfl, _, rfl, _, rfl, t1, u2, z, d, U, Y.take (i + 1), y, rfl, s2.other h2 (ky.mono cc2) (sub_al sl.al fun k hk => mY k (List.mem_of_mem_take hk)) alk.2 (sl.um.cl.be2 hu) (fun z => ?_) s2.kn, by omega, fun b1 H3 c3 n3 d3 => ?_⟩
        · have := congrArg List.length z
          rw [List.length_take, List.length_nil] at this
          omega
        have cc3 := cc2.trans c3
        have s3 := s2.mono c3 n3
        refine ⟨b1, rfl, ?_⟩
        cases b1 with
        | false =>
          refine iteF ?_
          refine ⟨_, rfl, cc3, s3, fun j hj => ?_⟩
          by_cases hji : j = i
          · subst hji
            exact fun z => absurd (d3.mpr z) (fun z => nomatch z)
          · exact no j (by omega)
        | true =>
          refine iteT ?_
          refine ⟨_, rfl, _, rfl, _, rfl, ?_⟩
          refine lkS_pre (k := X.length) rfl s3.ln fun t2 H4 c4 h4 => ?_
          rw [eΓ, spl_take] at h4
          have cc4 := cc3.trans (c4.any (T := (· = d)))
          refine ⟨_, rfl, a, _, _, _, rfl, rfl, SqT.of (cc4.2 _ _ h1), atI_nat (j := 1) rfl, by show 1 ≤ sizeLine; decide, fun t5 ht5 => ?_⟩
          have c5 : Ch No H4 (upd H4 t5 (.lst [u1])) := Ch.new ht5
          have h5 : LK (upd H4 t5 (.lst [u1])) t5 [x] := ⟨_, upd_same, .cons ((kx.mono cc4).mono c5) .nil⟩
          have h45 := h4.mono c5 id
          generalize upd H4 t5 (.lst [u1]) = H5 at c5 h5 h45 ⊢
          refine lkCat h45 h5 (by simp; omega) fun t6 H6 c6 h6 => ?_
          have c36 := (c4.trans c5).trans c6
          refine ⟨_, rfl, _, rfl, _, rfl, ?_⟩
          refine tno ?_
          refine lkS_suf (k := X.length + 2 + i) e1 (s3.mono0 c36).ln fun t7 H7 c7 h7 => ?_
          rw [eΓ, spl_drop] at h7
          refine lkCat (h6.mono c7 id) h7 (by simp; omega) fun t8 H8 c8 h8 => ?_
          have c38 := (c36.trans c7).trans c8
          have s8 := s3.mono0 c38
          have eL : X ++ [x] ++ Y.drop (i + 1) = X ++ x :: Y.drop (i + 1) := by simp
          rw [eL] at h8
          refine ⟨_, rfl, _, rfl, _, rfl, t8, v, z, d, U, X ++ x :: Y.drop (i + 1), C, rfl, s8.other h8 s8.go (fun k hk => ?_) sl.ac (sl.um.cl.be1 hu) (by simp) s8.kn, by rw [fs_app, fs_cons]; omega, fun b2 H9 c9 n9 d9 => ?_⟩
          · rcases List.mem_append.mp hk with z1 | z1
            · exact sl.al k (mX k z1)
            · rcases List.mem_cons.mp z1 with z2 | z2
              · subst z2
                exact alk.1
              · exact sl.al k (mY k (List.mem_of_mem_drop z2))
          have cc9 := (cc3.trans (c38.any (T := (· = d)))).trans c9
          refine ⟨b2, rfl, ?_⟩
          cases b2 with
          | false =>
            refine iteF ?_
            refine ⟨_, rfl, cc9, s8.mono c9 n9, fun j hj => ?_⟩
            by_cases hji : j = i
            · subst hji
              exact fun _ z => absurd (d9.mpr z) (fun z => nomatch z)
            · exact no j (by omega)
          | true =>
            refine iteT ?_
            refine q true _ cc9 n9 (fun _ => ?_) (fun z => nomatch z)
            rw [← eY]
            exact .be (d9.mp rfl) (d3.mp rfl)
      · rintro σ H1 ⟨x6, rfl, c1, s1, no⟩
        refine ⟨_, rfl, a, _, _, _, rfl, rfl, SqT.of (c1.2 _ _ h1), atI_nat (j := 0) rfl, rfl, _, rfl, iteF ?_⟩
        refine q false H1 c1 s1.kn (fun z => nomatch z) fun _ => ⟨fun B E z _ => ?_, fun B E z => (by cases z)⟩
        injection z with _ z1 z2
        subst z1 z2
        exact fun j hj => no j (by omega)
    | a =>
      refine iteF ?_
      refine ⟨_, rfl, a, _, _, _, rfl, rfl, SqT.of h1, atI_nat (j := 0) rfl, rfl, _, rfl, iteT ?_⟩
      refine ⟨_, rfl, _, rfl, by omega, by omega, ?_⟩
      refine for_range (lo := 0) (n := ((X.length : Int)).toNat) (fun i σ H' => ∃ x6, σ = [some (.ref l), some (.int (X.length : Int)), some v, some (.str z), some (.ref d), some (.ref a), x6] ∧ Ch (· = d) H H' ∧ SL H' l v z d U Γ C ∧ ∀ j, j < i → D (X.drop j) x → ¬ D (X.take j ++ y :: Y) C) ⟨_, rfl, Ch.refl _ _, sl, fun j hj => by omega⟩ ?_ ?_
      · rintro i σ H1 hi ⟨x6, rfl, c1, s1, no⟩
        have hi' : i < X.length := by omega
        have e1 : (0 : Int) + (i : Int) = ((i : Nat) : Int) := by omega
        have eX : X.take i ++ (X.drop i ++ [Kd.nd .a x y]) ++ Y = Γ := by
          rw [eΓ, ← List.append_assoc, List.take_append_drop, List.append_assoc]
          rfl
        have ef : fs Γ = fs (X.take i) + (fs (X.drop i) + (x.forms + y.forms + 1)) + fs Y := by
          rw [← eX, fs_app, fs_app, fs_app, fs_one, forms_nd]
        have hu := sl.u
        rw [← eX] at hu
        refine ⟨_, rfl, _, rfl, _, rfl, _, rfl, _, rfl, ?_⟩
        refine lkS_mid (j := i) (k := X.length) e1 rfl s1.ln fun t1 H2 c2 h2 => ?_
        rw [eΓ, spl_take] at h2
        have cc2 := c1.trans (c2.any (T := (· = d)))
        have s2 := s1.mono0 c2
        refine ⟨_, rfl, a, _, _, _, rfl, rfl, SqT.of (cc2.2 _ _ h1), atI_nat (j := 1) rfl, _, rfl, _, rfl, t1, u1, z, d, U, X.drop i, x, rfl, s2.other h2 (kx.mono cc2) (sub_al sl.al fun k hk => mX k (List.mem_of_mem_drop hk)) alk.1 (sl.um.cl.ah2 hu) (fun z => ?_) s2.kn, by omega, fun b1 H3 c3 n3 d3 => ?_⟩
        · have := congrArg List.length z
          rw [List.length_drop, List.length_nil] at this
          omega
        have cc3 := cc2.trans c3
        have s3 := s2.mono c3 n3
        refine ⟨b1, rfl, ?_⟩
        cases b1 with
        | false =>
          refine iteF ?_
          refine ⟨_, rfl, cc3, s3, fun j hj => ?_⟩
          by_cases hji : j = i
          · subst hji
            exact fun z => absurd (d3.mpr z) (fun z => nomatch z)
          · exact no j (by omega)
        | true =>
          refine iteT ?_
          refine ⟨_, rfl, _, rfl, _, rfl, ?_⟩
          refine lkS_pre (k := i) e1 s3.ln fun t2 H4 c4 h4 => ?_
          rw [eΓ, spl_pre _ _ _ _ (by omega)] at h4
          have cc4 := cc3.trans (c4.any (T := (· = d)))
          refine ⟨_, rfl, a, _, _, _, rfl, rfl, SqT.of (cc4.2 _ _ h1), atI_nat (j := 2) rfl, by show 1 ≤ sizeLine; decide, fun t5 ht5 => ?_⟩
          have c5 : Ch No H4 (upd H4 t5 (.lst [u2])) := Ch.new ht5
          have h5 : LK (upd H4 t5 (.lst [u2])) t5 [y] := ⟨_, upd_same, .cons ((ky.mono cc4).mono c5) .nil⟩
          have h45 := h4.mono c5 id
          generalize upd H4 t5 (.lst [u2]) = H5 at c5 h5 h45 ⊢
          refine lkCat h45 h5 (by simp; omega) fun t6 H6 c6 h6 => ?_
          have c36 := (c4.trans c5).trans c6
          refine ⟨_, rfl, _, rfl, _, _, rfl, rfl, _, rfl, ?_⟩
          refine tno ?_
          refine lkS_suf (k := X.length + 1) (by omega) (s3.mono0 c36).ln fun t7 H7 c7 h7 => ?_
          rw [eΓ, spl_after] at h7
          refine lkCat (h6.mono c7 id) h7 (by simp; omega) fun t8 H8 c8 h8 => ?_
          have c38 := (c36.trans c7).trans c8
          have s8 := s3.mono0 c38
          have eL : X.take i ++ [y] ++ Y = X.take i ++ y :: Y := by simp
          rw [eL] at h8
          refine ⟨_, rfl, _, rfl, _, rfl, t8, v, z, d, U, X.take i ++ y :: Y, C, rfl, s8.other h8 s8.go (fun k hk => ?_) sl.ac (sl.um.cl.ah1 hu) (by simp) s8.kn, by rw [fs_app, fs_cons]; omega, fun b2 H9 c9 n9 d9 => ?_⟩
          · rcases List.mem_append.mp hk with z1 | z1
            · exact sl.al k (mX k (List.mem_of_mem_take z1))
            · rcases List.mem_cons.mp z1 with z2 | z2
              · subst z2
                exact alk.2
              · exact sl.al k (mY k z2)
          have cc9 := (cc3.trans (c38.any (T := (· = d)))).trans c9
          refine ⟨b2, rfl, ?_⟩
          cases b2 with
          | false =>
            refine iteF ?_
            refine ⟨_, rfl, cc9, s8.mono c9 n9, fun j hj => ?_⟩
            by_cases hji : j = i
            · subst hji
              exact fun _ z => absurd (d9.mpr z) (fun z => nomatch z)
            · exact no j (by omega)
          | true =>
            refine iteT ?_
            refine q true _ cc9 n9 (fun _ => ?_) (fun z => nomatch z)
            rw [← eX]
            exact .ah (d9.mp rfl) (d3.mp rfl)
      · rintro σ H1 ⟨x6, rfl, c1, s1, no⟩
        refine q false H1 c1 s1.kn (fun z => nomatch z) fun _ => ⟨fun B E z => (by cases z), fun B E z _ => ?_⟩
        injection z with _ z1 z2
        subst z1 z2
        exact fun j hj => no j (by omega)
end
end WW
/-! The law's own search: comes_anew, comes. -/
namespace WW
open PySem PySem.Spec PyProof.Rows L2
section
variable {P : Program} {w : World} {K : PySem.W.Frag} {mg : Str → Option Value} {base : Heap} {fd : Nat → FuncData}
theorem ka_hd {H : Hp} {v : V} {k : Kd} (h : KA H v k) : ∃ a u r, v = .ref a ∧ H a = some (.tup (.str (hd k) :: u :: r)) := h.head
theorem ok_lanew (T : TX w K mg fd) {n k : Nat} (ih : FnG P w K mg base CX0 k (He.ga K "_law_comes") (fd 36) P_l_comes (spLC n)) (GP : FnG P w K mg base CX0 (k + 1) (He.ga K "_law_put_together") (fd 38) P_l_put_together (spLP n)) :
    FnG P w K mg base CX0 (k + 2) (He.ga K "_law_comes_anew") (fd 37) P_l_comes_anew (spLC (n + 1)) := by
  refine T.d_l_comes_anew.okG sc_l_comes_anew (fun vs H Q E h => ?_) (fun cdv A0 outer s H vs Q E0 hg hr h => ?_)
  · obtain ⟨l, v, z, d, U, Γ, C, rfl, _⟩ := h
    rfl
  obtain ⟨l, v, z, d, U, Γ, C, rfl, sl, hf, q⟩ := h
  have hr0 := hr.mono (show k ≤ k + 1 by omega)
  refine ⟨_, pss_cons (ps_if (pt_cmpR (op_eqD hr.units) (pv 0) (pe_lst (pa_cons (pv 1) pa_nil)) (by rfl)) (pss_one (ps_ret pe_bl)) pss_nil)
    (pss_cons (ps_if (pt_cmpR op_eq (pe_ix ix_tup (pv 1) pe_int (fun _ _ => rfl)) pe_str (nomark _)) (pss_one (ps_ret (pe_callG ih hg hr0 rfl T.g_l_comes T.d_l_comes.kp T.d_l_comes.b pass0 (pa_cons (pe_op op_cat (pv 0) (pe_lst (pa_cons (pe_ix ix_tup (pv 1) pe_int (fun _ _ => rfl)) pa_nil))) (pa_cons (pe_ix ix_tup (pv 1) pe_int (fun _ _ => rfl)) (pa_cons (pv 2) (pa_cons (pv 3) pa_nil))))))) pss_nil)
    (pss_cons (ps_if (pt_cmpR op_eq (pe_ix ix_tup (pv 1) pe_int (fun _ _ => rfl)) pe_str (nomark _)) (pss_one (ps_ret (pe_callG ih hg hr0 rfl T.g_l_comes T.d_l_comes.kp T.d_l_comes.b pass0 (pa_cons (pe_op op_cat (pe_lst (pa_cons (pe_ix ix_tup (pv 1) pe_int (fun _ _ => rfl)) pa_nil)) (pv 0)) (pa_cons (pe_ix ix_tup (pv 1) pe_int (fun _ _ => rfl)) (pa_cons (pv 2) (pa_cons (pv 3) pa_nil))))))) pss_nil)
    (pss_cons (ps_for PassesOwn.never rfl (pi_enum (by rfl) T.z_enumerate (pa_cons (pv 0) pa_nil)) (pg_tup rfl (pgs_cons (pg_name (i := 4) sc_l_comes_anew.nd rfl (Or.inl rfl)) (pgs_cons (pg_name (i := 5) sc_l_comes_anew.nd rfl (Or.inl rfl)) pgs_nil)))
      (pss_one (ps_if (pt_cmpR op_eq (pe_ix ix_tup (pv 5) pe_int (fun _ _ => rfl)) pe_str (nomark _)) (pss_one (ps_ret (pe_callG ih hg hr0 rfl T.g_l_comes T.d_l_comes.kp T.d_l_comes.b pass0
        (pa_cons (pe_op op_cat (pe_op op_cat (pe_slice sl_list (pv 0) po_none (po_some (pv 4))) (pe_lst (pa_cons (pe_ix ix_tup (pv 5) pe_int (fun _ _ => rfl)) (pa_cons (pe_ix ix_tup (pv 5) pe_int (fun _ _ => rfl)) pa_nil)))) (pe_slice sl_list (pv 0) (po_some (pe_op op_add (pv 4) pe_int)) po_none)) (pa_cons (pv 1) (pa_cons (pv 2) (pa_cons (pv 3) pa_nil))))))) pss_nil)))
    (pss_cons (ps_if (pt_cmpR op_eq (pe_ix ix_tup (pv 1) pe_int (fun _ _ => rfl)) pe_str (nomark _)) (pss_one (ps_for PassesOwn.never rfl (pi_range2 (by rfl) T.z_range (pa_cons pe_int (pa_cons (pe_callB call_len_seq (by rfl) T.z_len boot_len (pa_cons (pv 0) pa_nil)) pa_nil))) (pg_name (i := 6) sc_l_comes_anew.nd rfl (Or.inl rfl))
        (pss_one (ps_if (PW.pt (pw_and (pt_val (pe_callG ih hg hr0 rfl T.g_l_comes T.d_l_comes.kp T.d_l_comes.b pass0 (pa_cons (pe_slice sl_list (pv 0) po_none (po_some (pv 6))) (pa_cons (pe_ix ix_tup (pv 1) pe_int (fun _ _ => rfl)) (pa_cons (pv 2) (pa_cons (pv 3) pa_nil))))))
          (pw_and1 (pt_val (pe_callG ih hg hr0 rfl T.g_l_comes T.d_l_comes.kp T.d_l_comes.b pass0 (pa_cons (pe_slice sl_list (pv 0) (po_some (pv 6)) po_none) (pa_cons (pe_ix ix_tup (pv 1) pe_int (fun _ _ => rfl)) (pa_cons (pv 2) (pa_cons (pv 3) pa_nil))))))))) (pss_one (ps_ret pe_bl)) pss_nil)))) pss_nil)
    (pss_cons (ps_for PassesOwn.never rfl (pi_range1 (by rfl) T.z_range (pa_cons (pe_callB call_len_seq (by rfl) T.z_len boot_len (pa_cons (pv 0) pa_nil)) pa_nil)) (pg_name (i := 4) sc_l_comes_anew.nd rfl (Or.inl rfl))
        (pss_one (ps_if (pt_val (pe_callG GP hg hr rfl T.g_l_put_together T.d_l_put_together.kp T.d_l_put_together.b pass0 (pa_cons (pv 0) (pa_cons (pv 4) (pa_cons (pv 1) (pa_cons (pv 2) (pa_cons (pv 3) pa_nil))))))) (pss_one (ps_ret pe_bl)) pss_nil)))
    (pss_one (ps_ret pe_bl))))))), ?_⟩
  have hz := sl.um.sz _ _ sl.u
  have hlen := szs_len Γ
  have cp := C.size_pos
  -- line == [goal]
  refine ⟨_, rfl, _, rfl, by show 1 ≤ sizeLine; decide, fun t ht => ?_⟩
  have c1 : Ch No H (upd H t (.lst [v])) := Ch.new ht
  have t1 : LK (upd H t (.lst [v])) t [C] := ⟨_, upd_same, .cons (sl.go.mono c1) .nil⟩
  have s1 := sl.mono0 c1
  have cc1 := c1.any (T := (· = d))
  generalize upd H t (.lst [v]) = H1 at c1 t1 s1 cc1 ⊢
  have lw : ∀ k ∈ Γ, k.size ≤ 50 := fun k hk => by have := szs_mem hk; omega
  refine ⟨_, _, s1.ln.dp, t1.dp, lnD_shaped s1.ln.low lw, lnD_shaped t1.low (fun k hk => by rw [List.mem_singleton] at hk; subst hk; omega), _, rfl, ?_⟩
  have ee : PyData.eqv (.list (Γ.map kdD)) (.list ([C].map kdD)) = decide (Γ = [C]) := by
    rw [← lnD_eqv]
    simp only [PyData.eqv]
  rw [ee]
  refine ite2 (fun e => ?_) (fun e => ?_)
  · have eΓ := of_decide_eq_true e
    exact q true H1 cc1 s1.kn ⟨fun _ => by rw [eΓ]; exact .same C, fun _ => rfl⟩
  have nΓ : Γ ≠ [C] := fun z => e (decide_eq_true z)
  obtain ⟨ag, ug, rg, eg, hgo⟩ := s1.go.head
  subst eg
  refine ⟨_, rfl, ag, _, _, _, rfl, rfl, SqT.of hgo, atI_nat (j := 0) rfl, rfl, _, rfl, ite2 (fun ef => ?_) (fun ef => ?_)⟩
  · -- behind
    obtain ⟨x, y, rfl⟩ := hd_nd (f := .b) (of_decide_eq_true ef)
    obtain ⟨a', u1, u2, e1, h1, kx, ky⟩ := s1.go.nd_inv
    obtain rfl := V.ref.inj e1
    have fC := forms_nd .b x y
    refine ⟨_, rfl, _, rfl, ag, _, _, _, rfl, rfl, SqT.of h1, atI_nat (j := 2) rfl, by show 1 ≤ sizeLine; decide, fun t5 ht5 => ?_⟩
    have c5 : Ch No H1 (upd H1 t5 (.lst [u2])) := Ch.new ht5
    have h5 : LK (upd H1 t5 (.lst [u2])) t5 [y] := ⟨_, upd_same, .cons (ky.mono c5) .nil⟩
    have s5 := s1.mono0 c5
    generalize upd H1 t5 (.lst [u2]) = H5 at c5 h5 s5 ⊢
    refine lkCat s5.ln h5 (by simp; omega) fun t6 H6 c6 h6 => ?_
    have c16 := c5.trans c6
    have s6 := s5.mono0 c6
    refine ⟨_, rfl, ag, _, _, _, rfl, rfl, SqT.of (c16.get h1), atI_nat (j := 1) rfl, _, rfl, _, rfl, t6, u1, z, d, U, Γ ++ [y], x, rfl, s6.other h6 (kx.mono c16) (fun k hk => ?_) sl.ac.1 (sl.um.cl.gb sl.u) (by simp) s6.kn, by rw [fs_app, fs_one]; omega, fun b H7 c7 n7 d7 => ?_⟩
    · rcases List.mem_append.mp hk with z1 | z1
      · exact sl.al k z1
      · rw [List.mem_singleton] at z1
        subst z1
        exact sl.ac.2
    · exact q b H7 ((cc1.trans (c16.any (T := (· = d)))).trans c7) n7 (d7.trans ⟨fun h => .gb sl.ne h, fun h => h.inv_b rfl⟩)
  refine ⟨_, rfl, ag, _, _, _, rfl, rfl, SqT.of hgo, atI_nat (j := 0) rfl, rfl, _, rfl, ite2 (fun ef2 => ?_) (fun ef2 => ?_)⟩
  · -- ahead
    obtain ⟨x, y, rfl⟩ := hd_nd (f := .a) (of_decide_eq_true ef2)
    obtain ⟨a', u1, u2, e1, h1, kx, ky⟩ := s1.go.nd_inv
    obtain rfl := V.ref.inj e1
    have fC := forms_nd .a x y
    refine ⟨_, rfl, ag, _, _, _, rfl, rfl, SqT.of h1, atI_nat (j := 1) rfl, by show 1 ≤ sizeLine; decide, fun t5 ht5 => ?_⟩
    have c5 : Ch No H1 (upd H1 t5 (.lst [u1])) := Ch.new ht5
    have h5 : LK (upd H1 t5 (.lst [u1])) t5 [x] := ⟨_, upd_same, .cons (kx.mono c5) .nil⟩
    have s5 := s1.mono0 c5
    generalize upd H1 t5 (.lst [u1]) = H5 at c5 h5 s5 ⊢
    refine ⟨_, rfl, ?_⟩
    refine lkCat h5 s5.ln (by simp; omega) fun t6 H6 c6 h6 => ?_
    have c16 := c5.trans c6
    have s6 := s5.mono0 c6
    refine ⟨_, rfl, ag, _, _, _, rfl, rfl, SqT.of (c16.get h1), atI_nat (j := 2) rfl, _, rfl, _, rfl, t6, u2, z, d, U, x :: Γ, y, rfl, s6.other h6 (ky.mono c16) (fun k hk => ?_) sl.ac.2 (sl.um.cl.ga sl.u) (by simp) s6.kn, by rw [fs_cons]; omega, fun b H7 c7 n7 d7 => ?_⟩
    · rcases List.mem_cons.mp hk with z1 | z1
      · subst z1
        exact sl.ac.1
      · exact sl.al k z1
    · exact q b H7 ((cc1.trans (c16.any (T := (· = d)))).trans c7) n7 (d7.trans ⟨fun h => .ga sl.ne h, fun h => h.inv_a rfl⟩)
  have hb : ∀ A B, C ≠ .nd .b A B := fun A B z => ef (by rw [z]; rfl)
  have ha : ∀ A B, C ≠ .nd .a A B := fun A B z => ef2 (by rw [z]; rfl)
  -- the first with
  obtain ⟨us, hus, kus⟩ := s1.ln
  have lus := pr_len kus
  have nld := s1.ln.ned s1.kn
  refine ⟨_, rfl, l, us, rfl, SqL.of hus, ?_⟩
  refine for_it (walk_enum (xs := us)) (fun i σ H' => ∃ x4 x5, σ = [some (.ref l), some (.ref ag), some (.str z), some (.ref d), x4, x5, none] ∧ Ch (· = d) H H' ∧ SL H' l (.ref ag) z d U Γ C ∧ Ch No H1 H' ∧ ∀ j k, j < i → Γ[j]? = some k → k.isW = false) ⟨_, _, rfl, cc1, s1, Ch.refl _ _, fun j k h => by omega⟩ ?_ ?_ ?_
  · rintro i σ H2 hi ⟨x7, x8, rfl, c2, s2, c2', no⟩
    exact SqL.of (c2'.get hus)
  · rintro i x σ H2 H3 hi ⟨x7, x8, rfl, c2, s2, c2', no⟩ ⟨T0, y1, y2, rfl, hT, rfl, e1, e2⟩
    obtain rfl := Option.some.inj e1
    replace e2 : us[i]? = some y2 := e2
    obtain ⟨k0, ek1, ek2⟩ := pr_at kus e2
    obtain ⟨eΓ, lX⟩ := split_at ek1
    have cT : Ch No H2 (upd H2 T0 (.tup [.int (i : Int), y2])) := Ch.new hT
    have hT2 : (upd H2 T0 (.tup [V.int (i : Int), y2])) T0 = some (.tup [.int (i : Int), y2]) := upd_same
    have c3 := c2.trans (cT.any (T := (· = d)))
    have c3' := c2'.trans cT
    have s3 := s2.mono0 cT
    generalize upd H2 T0 (.tup [V.int (i : Int), y2]) = H3 at cT hT2 c3 c3' s3 ⊢
    refine ⟨T0, _, rfl, SqT.of hT2, rfl, _, _, rfl, _, _, rfl, rfl, ?_⟩
    have k3 := ek2.mono c3'
    obtain ⟨a0, u0, r0, ea, h0⟩ := k3.head
    subst ea
    refine ⟨_, rfl, a0, _, _, _, rfl, rfl, SqT.of h0, atI_nat (j := 0) rfl, rfl, _, rfl, ite2 (fun ew => ?_) (fun ew => ?_)⟩
    · obtain ⟨x, y, rfl⟩ := hd_nd (f := .w) (of_decide_eq_true ew)
      obtain ⟨a', u1, u2, e1, h1, kx, ky⟩ := k3.nd_inv
      obtain rfl := V.ref.inj e1
      have fZ := forms_nd .w x y
      have ef3 : fs Γ = fs (Γ.take i) + (x.forms + y.forms + 1 + fs (Γ.drop (i + 1))) := by
        have : fs Γ = fs (Γ.take i ++ Kd.nd .w x y :: Γ.drop (i + 1)) := by rw [← eΓ]
        rw [this, fs_app, fs_cons, fZ]
      have hu := sl.u
      rw [eΓ] at hu
      have alk := sl.al _ (List.mem_of_getElem? ek1)
      refine ⟨_, rfl, _, rfl, _, rfl, ?_⟩
      refine lkS_pre (k := i) rfl s3.ln fun t2 H4 c4 h4 => ?_
      refine ⟨_, rfl, a0, _, _, _, rfl, rfl, SqT.of (c4.get h1), atI_nat (j := 1) rfl, _, rfl, a0, _, _, _, rfl, rfl, SqT.of (c4.get h1), atI_nat (j := 2) rfl, by show 2 ≤ sizeLine; decide, fun t5 ht5 => ?_⟩
      have c5 : Ch No H4 (upd H4 t5 (.lst [u1, u2])) := Ch.new ht5
      have h5 : LK (upd H4 t5 (.lst [u1, u2])) t5 [x, y] := ⟨_, upd_same, .cons ((kx.mono c4).mono c5) (.cons ((ky.mono c4).mono c5) .nil)⟩
      have h45 := h4.mono c5 id
      generalize upd H4 t5 (.lst [u1, u2]) = H5 at c5 h5 h45 ⊢
      refine lkCat h45 h5 (by simp; omega) fun t6 H6 c6 h6 => ?_
      have c36 := (c4.trans c5).trans c6
      refine ⟨_, rfl, _, rfl, _, _, rfl, rfl, _, rfl, ?_⟩
      refine tno ?_
      refine lkS_suf (k := i + 1) (by omega) (s3.mono0 c36).ln fun t7 H7 c7 h7 => ?_
      refine lkCat (h6.mono c7 id) h7 (by simp; omega) fun t8 H8 c8 h8 => ?_
      have c38 := (c36.trans c7).trans c8
      have s8 := s3.mono0 c38
      have eL : Γ.take i ++ [x, y] ++ Γ.drop (i + 1) = Γ.take i ++ x :: y :: Γ.drop (i + 1) := by simp
      rw [eL] at h8
      refine ⟨_, rfl, _, rfl, _, rfl, t8, .ref ag, z, d, U, Γ.take i ++ x :: y :: Γ.drop (i + 1), C, rfl, s8.other h8 s8.go (fun k hk => ?_) sl.ac (sl.um.cl.pt hu) (by simp) s8.kn, by rw [fs_app, fs_cons, fs_cons]; omega, fun b H9 c9 n9 d9 => ?_⟩
      · rcases List.mem_append.mp hk with z1 | z1
        · exact sl.al k (List.mem_of_mem_take z1)
        · rcases List.mem_cons.mp z1 with z2 | z2
          · subst z2
            exact alk.1
          · rcases List.mem_cons.mp z2 with z3 | z3
            · subst z3
              exact alk.2
            · exact sl.al k (List.mem_of_mem_drop z3)
      · refine q b H9 ((c3.trans (c38.any (T := (· = d)))).trans c9) n9 (d9.trans ⟨fun h => ?_, fun h => h.inv_w eΓ⟩)
        rw [eΓ]
        exact .pt h
    · refine ⟨_, _, rfl, c3, s3, c3', fun j k' hj e => ?_⟩
      by_cases hji : j < i
      · exact no j k' hji e
      · have : j = i := by omega
        subst this
        obtain rfl := Option.some.inj (ek1.symm.trans e)
        cases k0 with
        | pl c => rfl
        | nd f x y => exact isW_nd fun z => ew (by rw [z]; rfl)
  · rintro σ H2 ⟨x4, x5, rfl, c2, s2, c2', no⟩
    have noW : ∀ k ∈ Γ, k.isW = false := fun k hk => by
      obtain ⟨j, hj, e⟩ := List.mem_iff_getElem.mp hk
      exact no j k (by omega) (by rw [List.getElem?_eq_getElem hj, e])
    -- the last part: what is put together
    have last : ∀ H3 x4 x5 x6, Ch (· = d) H H3 → SL H3 l (.ref ag) z d U Γ C → (∀ A B, C = .nd .w A B → ∀ X Y, Γ = X ++ Y → D X A → ¬ D Y B) →
        (tSeq (tFor (iRng1 (tCons (tCB (fun xs H Q => ∃ p ys, xs = [.ref p] ∧ (SqL K H p ys ∨ SqT K H p ys) ∧ Q (.int ys.length) H) (tCons (tVar 0) tNil)) tNil)) (gName 4) (tIfS (fun σ H Q => tCall (spLP n) [] L2.E0 (tCons (tVar 0) (tCons (tVar 4) (tCons (tVar 1) (tCons (tVar 2) (tCons (tVar 3) tNil))))) σ H fun x H1 => ∃ k, x = .bl k ∧ Q k H1) (tRet (tC (.bl true))) tNext)) (tRet (tC (.bl false))))
          { nx := fun _ H' => Q .non H', rt := Q } [some (.ref l), some (.ref ag), some (.str z), some (.ref d), x4, x5, x6] H3 := by
      intro H3 x4 x5 x6 c3 s3 nj
      obtain ⟨ws, hws, kws⟩ := s3.ln
      have lws := pr_len kws
      refine ⟨_, rfl, l, ws, rfl, .inl (SqL.of hws), _, rfl, by omega, by omega, ?_⟩
      refine for_range (lo := 0) (n := ((ws.length : Nat) : Int).toNat) (fun i σ H' => ∃ x4, σ = [some (.ref l), some (.ref ag), some (.str z), some (.ref d), x4, x5, x6] ∧ Ch (· = d) H H' ∧ SL H' l (.ref ag) z d U Γ C ∧ ∀ X k Y, Γ = X ++ k :: Y → X.length < i → Ng X k Y C) ⟨_, rfl, c3, s3, fun X k Y _ h => by omega⟩ ?_ ?_
      · rintro i σ H4 hi ⟨x4, rfl, c4, s4, ng⟩
        have hi' : i < Γ.length := by omega
        obtain ⟨eΓ, lX⟩ := split_at (List.getElem?_eq_getElem hi')
        have e1 : (0 : Int) + (i : Int) = ((Γ.take i).length : Int) := by omega
        refine ⟨_, rfl, _, rfl, _, rfl, _, rfl, _, rfl, l, .ref ag, z, d, U, Γ, C, Γ.take i, Γ[i], Γ.drop (i + 1), by rw [← e1]; rfl, s4, eΓ, by omega, fun b H5 c5 n5 d5 d6 => ⟨b, rfl, ?_⟩⟩
        have cc5 := c4.trans c5
        cases b with
        | true => exact iteT (q true H5 cc5 n5 ⟨fun _ => d5 rfl, fun _ => rfl⟩)
        | false =>
          refine iteF ?_
          refine ⟨_, rfl, cc5, s4.mono c5 n5, fun X k Y e hX => ?_⟩
          by_cases hXi : X.length < i
          · exact ng X k Y e hXi
          · obtain ⟨rfl, rfl, rfl⟩ := split_eq (e.symm.trans eΓ) (by omega)
            exact d6 rfl
      · rintro σ H4 ⟨x4, rfl, c4, s4, ng⟩
        refine q false H4 c4 s4.kn ⟨fun z => (nomatch z), fun h => absurd h ?_⟩
        refine no_D nΓ noW hb ha nj fun X k Y e => ng X k Y e ?_
        have : Γ.length = X.length + 1 + Y.length := by rw [e]; simp; omega
        omega
    have hgo2 := c2'.get hgo
    refine ⟨_, rfl, ag, _, _, _, rfl, rfl, SqT.of hgo2, atI_nat (j := 0) rfl, rfl, _, rfl, ite2 (fun ew => ?_) (fun ew => ?_)⟩
    · obtain ⟨x, y, rfl⟩ := hd_nd (f := .w) (of_decide_eq_true ew)
      obtain ⟨a', u1, u2, e1, h1, kx, ky⟩ := s2.go.nd_inv
      obtain rfl := V.ref.inj e1
      have fC := forms_nd .w x y
      obtain ⟨ws, hws, kws⟩ := s2.ln
      have lws := pr_len kws
      refine ⟨_, rfl, l, _, rfl, .inl (SqL.of hws), 1, ((ws.length : Nat) : Int), rfl, ⟨by decide, by decide, by omega, by omega⟩, ?_⟩
      refine for_range (lo := 1) (n := (((ws.length : Nat) : Int) - 1).toNat) (fun i σ H' => ∃ x6, σ = [some (.ref l), some (.ref ag), some (.str z), some (.ref d), x4, x5, x6] ∧ Ch (· = d) H H' ∧ Ch (· = d) H2 H' ∧ SL H' l (.ref ag) z d U Γ (.nd .w x y) ∧ ∀ j, j < i → D (Γ.take (j + 1)) x → ¬ D (Γ.drop (j + 1)) y) ⟨_, rfl, c2, Ch.refl _ _, s2, fun j hj => by omega⟩ ?_ ?_
      · rintro i σ H3 hi ⟨x6, rfl, c3, c3', s3, no⟩
        have hi' : i + 1 < Γ.length := by omega
        have e1 : (1 : Int) + (i : Int) = ((i + 1 : Nat) : Int) := by omega
        have eΓ : Γ = Γ.take (i + 1) ++ Γ.drop (i + 1) := (List.take_append_drop _ _).symm
        have ef : fs Γ = fs (Γ.take (i + 1)) + fs (Γ.drop (i + 1)) := by rw [← fs_app, List.take_append_drop]
        have hu := sl.u
        rw [eΓ] at hu
        have nxt : ∀ H5, Ch (· = d) H3 H5 → KnL H5 d U → (D (Γ.take (i + 1)) x → ¬ D (Γ.drop (i + 1)) y) → ∃ x6, ([some (.ref l), some (.ref ag), some (.str z), some (.ref d), x4, x5, some (.int (1 + (i : Int)))] : L2.St) = [some (.ref l), some (.ref ag), some (.str z), some (.ref d), x4, x5, x6] ∧ Ch (· = d) H H5 ∧ Ch (· = d) H2 H5 ∧ SL H5 l (.ref ag) z d U Γ (.nd .w x y) ∧ ∀ j, j < i + 1 → D (Γ.take (j + 1)) x → ¬ D (Γ.drop (j + 1)) y := fun H5 c5 n5 nn => by
          refine ⟨_, rfl, c3.trans c5, c3'.trans c5, s3.mono c5 n5, fun j hj => ?_⟩
          by_cases hji : j < i
          · exact no j hji
          · have : j = i := by omega
            subst this
            exact nn
        refine ⟨_, rfl, _, rfl, _, rfl, ?_⟩
        refine lkS_pre (k := i + 1) e1 s3.ln fun t1 H4 c4 h4 => ?_
        have s4 := s3.mono0 c4
        have h14 := c4.2 _ _ (c3'.2 _ _ h1)
        refine ⟨_, rfl, ag, _, _, _, rfl, rfl, SqT.of h14, atI_nat (j := 1) rfl, _, rfl, _, rfl, t1, u1, z, d, U, Γ.take (i + 1), x, rfl, s4.other h4 ((kx.mono c3').mono c4) (sub_al sl.al fun k hk => List.mem_of_mem_take hk) sl.ac.1 (sl.um.cl.jn1 hu) (fun z => ?_) s4.kn, by omega, fun b1 H5 c5 n5 d5 => ⟨b1, rfl, ?_⟩⟩
        · have := congrArg List.length z
          rw [List.length_take, List.length_nil] at this
          omega
        have c35 := (c4.any (T := (· = d))).trans c5
        have s5 := s4.mono c5 n5
        cases b1 with
        | false => exact iteF (iteF (nxt H5 c35 n5 fun z => absurd (d5.mpr z) (fun z => nomatch z)))
        | true =>
          refine iteT ?_
          refine ⟨_, rfl, _, rfl, _, rfl, ?_⟩
          refine tno ?_
          refine lkS_suf (k := i + 1) e1 s5.ln fun t2 H6 c6 h6 => ?_
          have s6 := s5.mono0 c6
          have h16 := c6.2 _ _ (c5.2 _ _ h14)
          refine ⟨_, rfl, ag, _, _, _, rfl, rfl, SqT.of h16, atI_nat (j := 2) rfl, _, rfl, _, rfl, t2, u2, z, d, U, Γ.drop (i + 1), y, rfl, s6.other h6 (((ky.mono c3').mono c35).mono c6) (sub_al sl.al fun k hk => List.mem_of_mem_drop hk) sl.ac.2 (sl.um.cl.jn2 hu) (fun z => ?_) s6.kn, by omega, fun b2 H7 c7 n7 d7 => ⟨b2, rfl, ?_⟩⟩
          · have := congrArg List.length z
            rw [List.length_drop, List.length_nil] at this
            omega
          have c37 := (c35.trans (c6.any (T := (· = d)))).trans c7
          cases b2 with
          | false => exact iteF (nxt H7 c37 n7 fun _ z => absurd (d7.mpr z) (fun z => nomatch z))
          | true =>
            refine iteT (q true H7 (c3.trans c37) n7 ⟨fun _ => ?_, fun _ => rfl⟩)
            rw [eΓ]
            exact .jn (d5.mp rfl) (d7.mp rfl)
      · rintro σ H3 ⟨x6, rfl, c3, c3', s3, no⟩
        refine last H3 x4 x5 x6 c3 s3 fun A B e X Y e2 hX hY => ?_
        injection e with _ z1 z2
        subst z1 z2
        have nX := hX.ne
        have nY := hY.ne
        have lX : 0 < X.length := List.length_pos_iff.mpr nX
        have lY : 0 < Y.length := List.length_pos_iff.mpr nY
        have lΓ : Γ.length = X.length + Y.length := by rw [e2]; simp
        refine no (X.length - 1) (by omega) ?_ ?_
        · rw [show X.length - 1 + 1 = X.length by omega, e2, List.take_left]
          exact hX
        · rw [show X.length - 1 + 1 = X.length by omega, e2, List.drop_left]
          exact hY
    · exact last H2 x4 x5 none c2 s2 fun A B e => absurd (by rw [e]; rfl) ew
end
end WW
/-! The law's own search: comes. -/
namespace WW
open PySem PySem.Spec PyProof.Rows L2
section
variable {P : Program} {w : World} {K : PySem.W.Frag} {mg : Str → Option Value} {base : Heap} {fd : Nat → FuncData}
/-- as many entries as rows and goals at most -/
theorem knl_len {kvs : List (Key × V)} {U : List Kd → Kd → Prop} {M : List (List Kd × Kd)} (hM : ∀ Γ C, U Γ C → (Γ, C) ∈ M) (nd : (kvs.map (·.1)).Nodup)
    (h : ∀ p ∈ kvs, ∃ (Γ : List Kd) (C : Kd) (b : Bool), U Γ C ∧ allLow (Γ, C) ∧ p.1 = .inr (PyData.shown (prD (Γ, C))) ∧ p.2 = .bl b ∧ (b = true ↔ D Γ C)) : kvs.length ≤ M.length := by
  have key : ∀ l : List Key, l.Nodup → (∀ k ∈ l, ∃ Γ C, U Γ C ∧ k = .inr (PyData.shown (prD (Γ, C)))) → ∃ m : List (List Kd × Kd), m.length = l.length ∧ m.Nodup ∧ ∀ z ∈ m, U z.1 z.2 ∧ .inr (PyData.shown (prD z)) ∈ l := by
    intro l
    induction l with
    | nil => exact fun _ _ => ⟨[], rfl, List.nodup_nil, fun z hz => by cases hz⟩
    | cons a r ih =>
      intro hn he
      rw [List.nodup_cons] at hn
      obtain ⟨m, m1, m2, m3⟩ := ih hn.2 fun k hk => he k (List.mem_cons_of_mem _ hk)
      obtain ⟨Γ, C, a1, a2⟩ := he a (List.mem_cons_self ..)
      refine ⟨(Γ, C) :: m, by simp [m1], ?_, ?_⟩
      · rw [List.nodup_cons]
        refine ⟨fun z => ?_, m2⟩
        have := (m3 _ z).2
        rw [← a2] at this
        exact hn.1 this
      · intro z hz
        rcases List.mem_cons.mp hz with e | e
        · subst e
          exact ⟨a1, by rw [a2]; exact List.mem_cons_self ..⟩
        · obtain ⟨p1, p2⟩ := m3 z e
          exact ⟨p1, List.mem_cons_of_mem _ p2⟩
  obtain ⟨m, m1, m2, m3⟩ := key (kvs.map (·.1)) nd fun k hk => by
    obtain ⟨p, p1, rfl⟩ := List.mem_map.mp hk
    obtain ⟨Γ, C, b, u, _, e, _⟩ := h p p1
    exact ⟨Γ, C, u, e⟩
  have := nodup_le m2 fun z hz => hM z.1 z.2 (m3 z hz).1
  rw [List.length_map] at m1
  omega
theorem ok_lcomes1 (T : TX w K mg fd) {n k : Nat} (hk : 20 ≤ k) (GA : FnG P w K mg base CX0 k (He.ga K "_law_comes_anew") (fd 37) P_l_comes_anew (spLC n)) :
    FnG P w K mg base CX0 (k + 1) (He.ga K "_law_comes") (fd 36) P_l_comes (spLC n) := by
  refine T.d_l_comes.okG sc_l_comes (fun vs H Q E h => ?_) (fun cdv A0 outer s H vs Q E0 hg hr h => ?_)
  · obtain ⟨l, v, z, d, U, Γ, C, rfl, _⟩ := h
    rfl
  obtain ⟨l, v, z, d, U, Γ, C, rfl, sl, hf, q⟩ := h
  have GS := ok_sum (P := P) (base := base) T 20
  have hr0 := hr.mono hk
  have hu := hu_of hr
  refine ⟨_, pss_cons (ps_if (pt_cmpR op_ne (pe_callB (cr_sum rfl) (by rfl) T.z_sum (by decide +kernel) (pa_cons (pe_lc (own := [("_law_thing", 5)]) (g := gName 5) (tt := tYes) rfl sc_l_comes.nd (pi_list (pv 0)) (blkOk_by (N := N_l_comes) (sc := defScope s_l_comes) (by decide +kernel))
          (fun _ _ _ _ _ => pg_name (i := 5) sc_l_comes.nd rfl (Or.inl rfl)) (fun _ _ _ _ _ => pts_nil) (fun _ _ _ _ _ => pe_call GS hr0 rfl T.g_l_sum T.d_l_sum.kp T.d_l_sum.b .nil pass0 (pa_cons (pv 5) (pa_cons (pv 2) pa_nil)))) pa_nil))
        (pe_call GS hr0 rfl T.g_l_sum T.d_l_sum.kp T.d_l_sum.b .nil pass0 (pa_cons (pv 1) (pa_cons (pv 2) pa_nil))) (nomark _)) (pss_one (ps_ret pe_bl)) pss_nil)
    (pss_cons (ps_set (i := 4) sc_l_comes.nd rfl (Or.inl rfl) (pe_callB (call_reprD hg hr.units) (by rfl) T.z_repr (by decide +kernel) (pa_cons (pe_tup (pa_cons (pv 0) (pa_cons (pv 1) pa_nil))) pa_nil)))
    (pss_cons (ps_if (pt_cmp (pc_dnotin hu (pv 4) (pv 3))) (pss_one (ps_dput hu (pv 3) (pv 4) (pe_callG GA hg hr rfl T.g_l_comes_anew T.d_l_comes_anew.kp T.d_l_comes_anew.b pass0 (pa_cons (pv 0) (pa_cons (pv 1) (pa_cons (pv 2) (pa_cons (pv 3) pa_nil))))) rfl)) pss_nil)
    (pss_one (ps_ret (pe_dget hu (pv 3) (pv 4) (fun _ _ => rfl)))))), ?_⟩
  have hz := sl.um.sz _ _ sl.u
  have hlen := szs_len Γ
  have cp := C.size_pos
  obtain ⟨us, hus, kus⟩ := sl.ln
  have lus := pr_len kus
  have nld := sl.ln.ned sl.kn
  refine ⟨_, rfl, l, rfl, ⟨_, SqL.of hus⟩, fun D0 hD => ?_⟩
  refine lc_mapL (S := No) (xs := us) (fun i y _ => ∃ k', Γ[i]? = some k' ∧ y = .int (sm (wtL z) k')) hD id hus id (by omega) (fun i y H H' z _ => z) (fun i x H3 e c Nx Z hN => ?_) (fun ys H3 c3 eD el er => ?_)
  · obtain ⟨k', e1, e2⟩ := pr_at kus e
    have hk' := List.mem_of_getElem? e1
    have := szs_mem hk'
    exact ⟨rfl, _, rfl, _, rfl, x, k', z, rfl, e2.mono c, by omega, sl.nz, sl.al k' hk', fun H' c' => hN _ _ c' ⟨k', e1, rfl⟩⟩
  have ey := ints_of (ks := Γ) (f := sm (wtL z)) (by omega) er
  have s3 := sl.mono0 c3
  refine ⟨D0, _, rfl, by rw [← ey]; exact SqL.of eD, ?_⟩
  refine ⟨_, rfl, _, rfl, v, C, z, rfl, s3.go, by omega, sl.nz, sl.ac, fun H4 c4 => ⟨rfl, _, rfl, ?_⟩⟩
  have s4 := s3.mono0 c4
  have c04 := c3.trans c4
  refine ite2 (fun e => ?_) (fun e => ?_)
  · refine q false H4 c04.any s4.kn ⟨fun z => (nomatch z), fun hd => ?_⟩
    have := hd.sum (wtL z)
    rw [this] at e
    simp at e
  -- the text
  refine ⟨_, rfl, _, rfl, by show 2 ≤ sizeLine; decide, fun t ht => ?_⟩
  have c5 : Ch No H4 (upd H4 t (.tup [.ref l, v])) := Ch.new ht
  have h5 : (upd H4 t (.tup [V.ref l, v])) t = some (.tup [.ref l, v]) := upd_same
  have s5 := s4.mono0 c5
  have c05 := c04.trans c5
  generalize upd H4 t (.tup [V.ref l, v]) = H5 at c5 h5 s5 c05 ⊢
  have al : allLow (Γ, C) := ⟨s5.ln.low, s5.go.low⟩
  have lw : ∀ k ∈ Γ, k.size ≤ 30 := fun k hk => by have := szs_mem hk; omega
  refine ⟨t, prD (Γ, C), rfl, .tup (SqT.of h5) (.cons s5.ln.dp (.cons s5.go.dp .nil)), prD_showable _, prD_noDict _, prD_depth _ lw (by show C.size ≤ 30; omega), ?_, ?_⟩
  · have := prD_shown_len al 14 hz
    exact len_line (by omega)
  -- the answer out of the dict
  have ret : ∀ H2 (kvs : List (Key × V)) b, Ch (· = d) H H2 → KnL H2 d U → H2 d = some (.dK kvs) → valV kvs (.inr (PyData.shown (prD (Γ, C)))) = some (.bl b) → (b = true ↔ D Γ C) →
      (tRet (tDGet (tVar 3) (tVar 4))) { nx := fun _ H' => Q .non H', rt := Q } [some (.ref l), some v, some (.str z), some (.ref d), some (.str (PyData.shown (prD (Γ, C)))), none] H2 := by
    intro H2 kvs b c2 n2 e2 hv hb
    refine ⟨_, rfl, _, rfl, d, .bl b, rfl, ?_, q b H2 c2 n2 hb⟩
    rw [← hv]
    exact DGet.k (k := Sum.inr (PyData.shown (prD (Γ, C)))) e2
  obtain ⟨kvs, e2, nd, en⟩ := s5.kn
  refine ⟨_, rfl, _, rfl, d, _, rfl, DGet.k (k := Sum.inr (PyData.shown (prD (Γ, C)))) e2, _, rfl, ?_⟩
  cases e : valV kvs (Sum.inr (PyData.shown (prD (Γ, C)))) with
  | some x =>
    refine iteF ?_
    obtain ⟨p, p1, p2, p3⟩ := valV_mem e
    obtain ⟨Γ', C', b, u1, u2, u3, u4, u5⟩ := en p p1
    rw [p2] at u3
    have ez := prD_inj al u2 (Sum.inr.inj u3)
    obtain ⟨rfl, rfl⟩ := Prod.mk.inj ez
    exact ret H5 kvs b c05.any s5.kn e2 (by rw [e, ← p3, u4]) u5
  | none =>
    refine iteT ?_
    refine ⟨_, rfl, _, rfl, _, rfl, _, rfl, l, v, z, d, U, Γ, C, rfl, s5, hf, fun b H6 c6 n6 hb => ?_⟩
    obtain ⟨kvs6, e6, nd6, en6⟩ := n6
    obtain ⟨M, hM, lM⟩ := sl.um.m
    refine ⟨_, rfl, _, rfl, d, _, rfl, DPut.k (k := Sum.inr (PyData.shown (prD (Γ, C)))) e6 (Nat.lt_of_le_of_lt (knl_len hM nd6 en6) lM), ?_⟩
    have c7 : Ch (· = d) H6 (upd H6 d (.dK (putK kvs6 (Sum.inr (PyData.shown (prD (Γ, C)))) (.bl b)))) := Ch.put rfl e6 fun _ z => nomatch z
    refine ret _ _ b ((c05.any.trans c6).trans c7) ⟨_, upd_same, keys_putK nd6, fun p hp => ?_⟩ upd_same (by rw [valV_put, if_pos rfl]) hb
    rcases mem_putK hp with z1 | z1
    · exact en6 p z1
    · subst z1
      exact ⟨Γ, C, b, sl.u, al, rfl, rfl, hb⟩
theorem fnG_none {k : Nat} {f : Addr} {fdd : FuncData} {ps : List Str} {sp : Sp} (h : ∀ vs H Q E, ¬ sp vs H Q E) : FnG P w K mg base CX0 k f fdd ps sp := ⟨fun vs H Q E z => absurd z (h vs H Q E), fun A outer s H args us vs Q E _ _ _ _ _ z => absurd z (h vs H Q E)⟩
theorem ok_lcomes (T : TX w K mg fd) : ∀ n, FnG P w K mg base CX0 (3 * n + 20) (He.ga K "_law_comes") (fd 36) P_l_comes (spLC n)
  | 0 => fnG_none fun vs H Q E ⟨l, v, z, d, U, Γ, C, _, _, h, _⟩ => by omega
  | n + 1 => by
    have ih := ok_lcomes T n
    have GP := ok_lput T ih
    have GA := ok_lanew T ih GP
    exact ok_lcomes1 T (by omega) GA
end
end WW
/-! What is due. -/
namespace WW
open PySem PySem.Spec PyProof.Rows L2
/-- one of the two is led to by the third, or leads to it -/
def Ld (r : Bool) (k k3 : Kd) : Prop := if r then D [k3] k else D [k] k3
def finK (r : Bool) (k1 k2 k3 : Kd) : Kd := if r then aboveK k1 k2 k3 else belowK k1 k2 k3
def DueV (H : Hp) (r : Bool) (k1 k2 k3 : Kd) (v : V) : Prop := (¬ Ld r k1 k3 ∧ ∃ p, v = .ref p ∧ LK H p [k1]) ∨ (Ld r k1 k3 ∧ ¬ Ld r k2 k3 ∧ ∃ p, v = .ref p ∧ LK H p [k2]) ∨ (Ld r k1 k3 ∧ Ld r k2 k3 ∧ KA H v (finK r k1 k2 k3))
theorem ul_of (A B C E : Kd) (h1 : A.size + B.size ≤ 14) (h2 : C.size + E.size ≤ 14) (h3 : A.size + B.size ≤ 6) (h4 : C.size + E.size ≤ 6) : UL (fun Δ F => (Of (sg [A] B) Δ F ∨ Of (sg [C] E) Δ F) ∧ szs Δ + F.size ≤ 14) where
  cl := closed_sz (closed_or (of_closed _) (of_closed _)) 14
  sz := fun _ _ z => z.2
  m := ⟨univ (sg [A] B) ++ univ (sg [C] E), fun _ _ z => by
    rw [List.mem_append]
    exact z.1.imp mem_univ mem_univ, by
    have e1 : (sg [A] B).size ≤ 6 := by rw [sg_size]; simp [szs]; omega
    have e2 : (sg [C] E).size ≤ 6 := by rw [sg_size]; simp [szs]; omega
    have u1 := Nat.le_trans (univ_length (sg [A] B)) (Nat.pow_le_pow_right (by decide : 0 < 3) e1)
    have u2 := Nat.le_trans (univ_length (sg [C] E)) (Nat.pow_le_pow_right (by decide : 0 < 3) e2)
    rw [List.length_append]
    refine Nat.lt_of_le_of_lt (Nat.add_le_add u1 u2) ?_
    rw [sizeLine_eq]
    decide⟩
section
variable {P : Program} {w : World} {K : PySem.W.Frag} {mg : Str → Option Value} {base : Heap} {fd : Nat → FuncData}
def spDue : Sp := fun vs H Q _ => ∃ (t : Addr) (r : Bool) (z : Str) (d : Addr) (k1 k2 k3 : Kd), vs = [.ref t, .bl r, .str z, .ref d] ∧ LK H t [k1, k2, k3] ∧ H d = some (.dK ([] : List (Key × V))) ∧ z.length ≤ 7 ∧ gk z k1 ∧ gk z k2 ∧ gk z k3 ∧
  ∀ v H', Ch (· = d) H H' → DueV H' r k1 k2 k3 v → Q v H'
theorem ok_due (T : TX w K mg fd) : FnG P w K mg base CX0 36 (He.ga K "_law_due") (fd 44) P_l_due spDue := by
  refine T.d_l_due.okG sc_l_due (fun vs H Q E h => ?_) (fun cdv A0 outer s H vs Q E0 hg hr h => ?_)
  · obtain ⟨t, r, z, d, k1, k2, k3, rfl, _⟩ := h
    rfl
  obtain ⟨t, r, z, d, k1, k2, k3, rfl, ⟨us, ht, kus⟩, hd, nz, g1, g2, g3, q⟩ := h
  have G := ok_lcomes (P := P) (base := base) T 5
  refine ⟨_, pss_cons (ps_asg (pv 0) (pg_unl rfl (pgs_cons (pg_name (i := 4) sc_l_due.nd rfl (Or.inl rfl)) (pgs_cons (pg_name (i := 5) sc_l_due.nd rfl (Or.inl rfl)) (pgs_cons (pg_name (i := 6) sc_l_due.nd rfl (Or.inl rfl)) pgs_nil)))))
    (pss_cons (ps_for PassesOwn.never rfl (pi_list (pe_lst (pa_cons (pv 4) (pa_cons (pv 5) pa_nil)))) (pg_name (i := 7) sc_l_due.nd rfl (Or.inl rfl))
      (pss_cons (ps_set (i := 8) sc_l_due.nd rfl (Or.inl rfl) (pe_ifExp (pt_val (pv 1)) (pe_callG G hg hr rfl T.g_l_comes T.d_l_comes.kp T.d_l_comes.b pass0 (pa_cons (pe_lst (pa_cons (pv 6) pa_nil)) (pa_cons (pv 7) (pa_cons (pv 2) (pa_cons (pv 3) pa_nil)))))
          (pe_callG G hg hr rfl T.g_l_comes T.d_l_comes.kp T.d_l_comes.b pass0 (pa_cons (pe_lst (pa_cons (pv 7) pa_nil)) (pa_cons (pv 6) (pa_cons (pv 2) (pa_cons (pv 3) pa_nil)))))))
      (pss_one (ps_if (pt_not (pt_val (pv 8))) (pss_one (ps_ret (pe_lst (pa_cons (pv 7) pa_nil)))) pss_nil))))
    (pss_cons (ps_if (pt_val (pv 1)) (pss_one (ps_ret (pe_tup (pa_cons pe_str (pa_cons (pe_tup (pa_cons pe_str (pa_cons (pe_tup (pa_cons pe_str (pa_cons (pv 6) (pa_cons (pv 4) pa_nil)))) (pa_cons (pv 6) pa_nil)))) (pa_cons (pe_tup (pa_cons pe_str (pa_cons (pv 5) (pa_cons (pv 6) pa_nil)))) pa_nil)))))) pss_nil)
    (pss_one (ps_ret (pe_tup (pa_cons pe_str (pa_cons (pe_tup (pa_cons pe_str (pa_cons (pe_tup (pa_cons pe_str (pa_cons (pv 4) (pa_cons (pv 6) pa_nil)))) (pa_cons (pv 6) pa_nil)))) (pa_cons (pe_tup (pa_cons pe_str (pa_cons (pv 6) (pa_cons (pv 5) pa_nil)))) pa_nil)))))))), ?_⟩
  cases kus with
  | @cons v1 _ _ _ a1 r1 =>
  cases r1 with
  | @cons v2 _ _ _ a2 r2 =>
  cases r2 with
  | @cons v3 _ _ _ a3 r3 =>
  cases r3
  have z1 := g1.1
  have z2 := g2.1
  have z3 := g3.1
  have f1 := Kd.forms_size k1
  have f2 := Kd.forms_size k2
  have f3 := Kd.forms_size k3
  refine ⟨_, rfl, t, _, rfl, SqL.of ht, rfl, _, _, rfl, _, _, rfl, _, _, rfl, rfl, ?_⟩
  refine ⟨_, rfl, _, rfl, by show 2 ≤ sizeLine; decide, fun m hm => ?_⟩
  have c1 : Ch No H (upd H m (.lst [v1, v2])) := Ch.new hm
  have m1 : (upd H m (.lst [v1, v2])) m = some (.lst [v1, v2]) := upd_same
  have d1 := c1.get hd
  have nmd : m ≠ d := fun z => by rw [z, hd] at hm; cases hm
  generalize upd H m (.lst [v1, v2]) = H1 at c1 m1 d1 ⊢
  have cc1 := c1.any (T := (· = d))
  -- the searches of both
  obtain ⟨U, um, hU1, hU2⟩ : ∃ U, UL U ∧ (∀ k, k = k1 ∨ k = k2 → if r then U [k3] k else U [k] k3) ∧ True := by
    cases r with
    | true => exact ⟨_, ul_of k3 k1 k3 k2 (by omega) (by omega) (by omega) (by omega), fun k hk => ⟨by rcases hk with e | e <;> subst e <;> first | exact .inl (of_self _ _) | exact .inr (of_self _ _), by rcases hk with e | e <;> subst e <;> simp [szs] <;> omega⟩, trivial⟩
    | false => exact ⟨_, ul_of k1 k3 k2 k3 (by omega) (by omega) (by omega) (by omega), fun k hk => ⟨by rcases hk with e | e <;> subst e <;> first | exact .inl (of_self _ _) | exact .inr (of_self _ _), by rcases hk with e | e <;> subst e <;> simp [szs] <;> omega⟩, trivial⟩
  have kn1 : KnL H1 d U := ⟨[], d1, List.nodup_nil, fun p hp => by cases hp⟩
  have kas : KAs H1 [v1, v2] [k1, k2] := .cons (a1.mono c1) (.cons (a2.mono c1) .nil)
  refine ⟨m, rfl, ⟨_, SqL.of m1⟩, for_list (xs := [v1, v2]) (fun i σ H' => ∃ x7 x8, σ = [some (.ref t), some (.bl r), some (.str z), some (.ref d), some v1, some v2, some v3, x7, x8] ∧ Ch (· = d) H1 H' ∧ KnL H' d U ∧ ∀ j k, j < i → [k1, k2][j]? = some k → Ld r k k3) ⟨_, _, rfl, Ch.refl _ _, kn1, fun j k h => by omega⟩ ?_ ?_ ?_⟩
  · rintro i σ H' _ ⟨x7, x8, rfl, c, _⟩
    exact SqL.of (c.1 _ _ m1 nmd)
  · rintro i x σ H2 e ⟨x7, x8, rfl, c2, n2, ld⟩
    obtain ⟨k, e1, e2⟩ := pr_at kas e
    have hk : k = k1 ∨ k = k2 := by
      have := List.mem_of_getElem? e1
      simpa using this
    have gk' : gk z k := by rcases hk with e | e <;> subst e <;> assumption
    have zk := gk'.1
    have fk := Kd.forms_size k
    have u := hU1 k hk
    have kx2 := e2.mono c2
    have k32 := (a3.mono cc1).mono c2
    -- behind the search
    have fin : ∀ (b : Bool) H3, Ch (· = d) H2 H3 → KnL H3 d U → (b = true ↔ Ld r k k3) →
        (if (!b) = true then (tRet (tLst (tCons (tVar 7) tNil))) { nx := fun σ H => ∃ x7 x8, σ = [some (.ref t), some (.bl r), some (.str z), some (.ref d), some v1, some v2, some v3, x7, x8] ∧ Ch (· = d) H1 H ∧ KnL H d U ∧ ∀ j k, j < i + 1 → [k1, k2][j]? = some k → Ld r k k3, rt := Q } [some (.ref t), some (.bl r), some (.str z), some (.ref d), some v1, some v2, some v3, some x, some (.bl b)] H3
         else ∃ x7 x8, ([some (.ref t), some (.bl r), some (.str z), some (.ref d), some v1, some v2, some v3, some x, some (.bl b)] : L2.St) = [some (.ref t), some (.bl r), some (.str z), some (.ref d), some v1, some v2, some v3, x7, x8] ∧ Ch (· = d) H1 H3 ∧ KnL H3 d U ∧ ∀ j k, j < i + 1 → [k1, k2][j]? = some k → Ld r k k3) := by
      intro b H3 c3 n3 hb
      have c13 := c2.trans c3
      cases b with
      | true =>
        refine iteF ⟨_, _, rfl, c13, n3, fun j k' hj ej => ?_⟩
        by_cases hji : j < i
        · exact ld j k' hji ej
        · have : j = i := by omega
          subst this
          obtain rfl := Option.some.inj (e1.symm.trans ej)
          exact hb.mp rfl
      | false =>
        have nl : ¬ Ld r k k3 := fun z => by have := hb.mpr z; cases this
        refine iteT ⟨_, rfl, by show 1 ≤ sizeLine; decide, fun p hp => ?_⟩
        have c4 : Ch No H3 (upd H3 p (.lst [x])) := Ch.new hp
        have lp : LK (upd H3 p (.lst [x])) p [k] := ⟨_, upd_same, .cons ((kx2.mono c3).mono c4) .nil⟩
        refine q _ _ ((cc1.trans c13).trans c4.any) ?_
        match i, e1, ld with
        | 0, e1, _ =>
          obtain rfl := Option.some.inj (show some k1 = some k from e1)
          exact .inl ⟨nl, p, rfl, lp⟩
        | 1, e1, ld =>
          obtain rfl := Option.some.inj (show some k2 = some k from e1)
          exact .inr (.inl ⟨ld 0 k1 (by decide) rfl, nl, p, rfl, lp⟩)
        | j + 2, e1, _ => cases e1
    refine ⟨_, rfl, r, rfl, ?_⟩
    cases r with
    | true =>
      refine iteT ⟨_, rfl, by show 1 ≤ sizeLine; decide, fun p hp => ?_⟩
      have c4 : Ch No H2 (upd H2 p (.lst [v3])) := Ch.new hp
      have lp : LK (upd H2 p (.lst [v3])) p [k3] := ⟨_, upd_same, .cons (k32.mono c4) .nil⟩
      exact ⟨_, rfl, _, rfl, _, rfl, p, x, z, d, U, [k3], k, rfl, ⟨um, lp, kx2.mono c4, nz, fun k' hk' => (by rw [List.mem_singleton] at hk'; subst hk'; exact g3.2), gk'.2, u, by simp, n2.mono c4⟩, by rw [fs_one]; omega, fun b H3 c3 n3 hb => ⟨_, rfl, b, rfl, fin b H3 ((c4.any (T := (· = d))).trans c3) n3 hb⟩⟩
    | false =>
      refine iteF ⟨_, rfl, by show 1 ≤ sizeLine; decide, fun p hp => ?_⟩
      have c4 : Ch No H2 (upd H2 p (.lst [x])) := Ch.new hp
      have lp : LK (upd H2 p (.lst [x])) p [k] := ⟨_, upd_same, .cons (kx2.mono c4) .nil⟩
      exact ⟨_, rfl, _, rfl, _, rfl, p, v3, z, d, U, [k], k3, rfl, ⟨um, lp, k32.mono c4, nz, fun k' hk' => (by rw [List.mem_singleton] at hk'; subst hk'; exact gk'.2), g3.2, u, by simp, n2.mono c4⟩, by rw [fs_one]; omega, fun b H3 c3 n3 hb => ⟨_, rfl, b, rfl, fin b H3 ((c4.any (T := (· = d))).trans c3) n3 hb⟩⟩
  · rintro σ H2 ⟨x7, x8, rfl, c2, n2, ld⟩
    have l1 := ld 0 k1 (by simp) rfl
    have l2 := ld 1 k2 (by simp) rfl
    have c02 := cc1.trans c2
    have w1 : KE (tVar 4) [some (.ref t), some (.bl r), some (.str z), some (.ref d), some v1, some v2, some v3, x7, x8] H2 k1 := ke_var rfl (a1.mono c02)
    have w2 : KE (tVar 5) [some (.ref t), some (.bl r), some (.str z), some (.ref d), some v1, some v2, some v3, x7, x8] H2 k2 := ke_var rfl (a2.mono c02)
    have w3 : KE (tVar 6) [some (.ref t), some (.bl r), some (.str z), some (.ref d), some v1, some v2, some v3, x7, x8] H2 k3 := ke_var rfl (a3.mono c02)
    refine ⟨_, rfl, r, rfl, ?_⟩
    cases r with
    | true => exact iteT (ke_run (ke_nd .b (ke_nd .a (ke_nd .b w3 w1) w3) (ke_nd .a w2 w3)) fun v' H' c' k' => q v' H' (c02.trans c'.any) (.inr (.inr ⟨l1, l2, k'⟩)))
    | false => exact iteF (ke_run (ke_nd .w (ke_nd .w (ke_nd .b w1 w3) w3) (ke_nd .a w3 w2)) fun v' H' c' k' => q v' H' (c02.trans c'.any) (.inr (.inr ⟨l1, l2, k'⟩)))
end
end WW
/-! try: .. except X as n: .. except Y: .., where X takes whatever the body lets out; calls by keywords alone. -/
namespace WW
open PySem PySem.Spec PyProof.Rows L2
/-- the first clause takes it -/
def wFst (K : PySem.W.Frag) (c : Value) (i : Nat) (ts : Addr → Value → Option Addr → TS) (D : Ends) : WX := fun cls d σ H =>
  PySem.W.exmOne K cls c = some true ∧ ∀ a, H a = none → ts a cls d { nx := fun σa Ha => D.nx (σa.set i none) Ha, rt := D.rt, bk := fun σa Ha => D.bk (σa.set i none) Ha, ct := fun σa Ha => D.ct (σa.set i none) Ha } (σ.set i (some (.ref a))) H
section
variable {X : Cx} {x n : Str} {c : Value} {i : Nat} {body suite : List Stmt} {b₀ : Stmt} {np pos posH : Pos} {tb : WX → TS} {ts : Addr → Value → Option Addr → TS} {hds : List ExceptHandler}
theorem ps_try_first (hst : X.stack = X.env :: X.outer) (hfr0 : X.env.frame = some X.env.locals) (hN : X.N.Nodup) (hi : X.N[i]? = some n) (hln : X.env.kindOf n = some .local) (hc : Names X x c)
    (hb : ∀ (W : WX) (pn : List (Addr × Obj)) (xe : Value → Shared → Prop), Takes (X.tr pn xe) W → PassesOwn (model X.prog X.w) X.A X.env xe → PSs (X.tr pn xe) body (tb W))
    (hsu : ∀ (a : Addr) (oe : Obj) (cls : Value) (d : Option Addr) (pn : List (Addr × Obj)), Zc cls d oe → (∃ vs, oe.data = .fields vs) → PSs (X.suite a ((a, oe) :: pn)) (b₀ :: suite) (ts a cls d)) :
    PS X (.Try body (.ExceptHandler (some (.Name x np)) (some n) (b₀ :: suite) posH :: hds) [] [] pos) (fun D σ H => tb (wFst X.K c i ts D) D σ H) := by
  refine ⟨fun pins s0 σ0 H0 D0 I0 hw0 => ?_⟩
  have okc := I0.ok
  have frA : X.A.frames = some (X.env :: X.outer) := okc.frames.trans (congrArg some hst)
  refine wpAny_Try_except ?_
  refine wpAny_mono ((hb (wFst X.K c i ts D0) (X.pn ++ pins) (fun er sa => wpAny (model X.prog X.w) X.A (noteFrame er X.env) (fun _ sb => wpAny (model X.prog X.w) X.A (setFlight er none) (fun _ sc =>
    wpAny (model X.prog X.w) X.A (handleBy er X.env (.ExceptHandler (some (.Name x np)) (some n) (b₀ :: suite) posH :: hds)) (SP X pins D0) X.xe sc) X.xe sb) X.xe sa) (fun u sx xx => ?_) PassesOwn.looking).run [] s0 σ0 H0 D0 (I0.toTry _) hw0) (fun fl s1 hsp => ?_) (fun er s1 he1 => he1)
  · obtain ⟨a, B, sI, pins1, σ1, H1, cls, d, rfl, J1, nb, up, sky, na, os, ag, hb1, hyes⟩ := xx
    have J : Inv X pins σ1 H1 sI := J1.ofTry okc
    have skyL : Sky B (X.env :: X.outer) a (Zc cls d) X.env.locals sx.heap := by
      rw [← hst]
      exact sky
    show wpAny (model X.prog X.w) X.A (noteFrame (Value.ref a) X.env) _ _ _
    refine Sky.land Zc.steady frA hfr0 skyL fun h3 fl3 up3 => ?_
    have Jl : Inv X pins σ1 H1 { sx with heap := h3 } := J.landed nb fl3.1 (up.trans up3) os ag
    obtain ⟨oe3, vs3, he3, hz3, hd3⟩ := fl3.there
    have offF : ∀ {hh : Heap} {ob : Obj} {vs : Array Value}, hh.FunFrames B (X.env :: X.outer) → hh.get? a = some ob → ob.data = .fields vs → a ∉ frs (X.env :: X.outer) := fun {hh ob vs} ff eo ed hm => by
      obtain ⟨_, o2, e2, hnf⟩ := ff.mem hm
      rw [eo] at e2
      cases e2
      exact hnf _ ed
    have nfr := offF fl3.2.2.1 he3 hd3
    have notL : a ≠ X.env.locals := fun z => nfr (List.mem_filterMap.mpr ⟨X.env, List.mem_cons_self, by rw [hfr0, z]⟩)
    have notF : a ∉ X.fs := fun hm => by
      obtain ⟨en, hen, qn⟩ := List.mem_filterMap.mp hm
      exact nfr (List.mem_filterMap.mpr ⟨en, List.mem_cons_of_mem _ hen, qn⟩)
    have Su := Jl.suite he3 hd3 na notL notF
    refine wpAny_handleBy_cons (codeAny_handlers_test ?_) (fun q => nomatch q)
    have LT : PySem.W.Looks (model X.prog X.w) h3 (typeOf (Value.ref a)) cls := fun _ _ _ _ kk qq => wpAny_typeOf_ref (kk _ _ he3) (by rw [hz3.1]; exact qq)
    have LM := PySem.W.exm_one (M := model X.prog X.w) (Jl.kIn) LT hb1
    have asked : ∀ {QQ : Value → Shared → Prop} {EE : Value → Shared → Prop}, QQ c { sx with heap := h3 } → wpAny (model X.prog X.w) (X.A.mark (some (.ref a))) (eval (.Name x np) X.env) QQ EE { sx with heap := h3 } := fun {QQ EE} qq => by
      obtain ⟨hgl, hdb, hm | ⟨hm, hv, hnn⟩⟩ := hc
      · exact ld_glob (X := X.suite a ((a, oe3) :: (X.pn ++ pins))) Su hgl hm qq hdb
      · exact ld_blt (X := X.suite a ((a, oe3) :: (X.pn ++ pins))) Su hgl hm hv qq hnn hdb
    refine asked (LM.here ?_)
    refine codeAny_handlers_suite_as ?_
    refine HandSPX.lands_againZ fl3 fun h4 fl4 up4 => ?_
    have Jm : Inv X pins σ1 H1 { sx with heap := h4 } := J.landed nb fl4.1 ((up.trans up3).trans up4) os ag
    obtain ⟨oe4, vs4, he4, hz4, hd4⟩ := fl4.there
    have Sv := Jm.suite he4 hd4 na notL notF
    refine store_ok (X := X.suite a ((a, oe4) :: (X.pn ++ pins))) (v := .ref a) Sv hN hi (.inl hln) rfl (fun s5 S5 => ?_) (.inr hln)
    refine wpAny_mono ((hsu a oe4 cls d (X.pn ++ pins) hz4 ⟨_, hd4⟩).run [] s5 _ H1 _ S5 (hyes a na)) (fun fl s6 hsp => ?_) (fun _ _ z => z.elim)
    have ends : ∀ {σb : L2.St} {Hb : Hp} {QQ : Shared → Prop}, Inv (X.suite a ((a, oe4) :: (X.pn ++ pins))) [] σb Hb s6 → (∀ s7, Inv X pins (σb.set i none) Hb s7 → QQ s7) →
        wpAny (model X.prog X.w) X.A (do bindName X.env n .none; unbindBehindTheSuite X.env n posH) (fun _ s7 => QQ s7) X.xe s6 := fun {σb Hb QQ} Sb hqq => gone_ok (Sb.unsuite okc) hN hi hln hqq
    cases fl with
    | next =>
      obtain ⟨_, _, Sb, qb⟩ := hsp
      exact ends Sb fun s7 J7 => ⟨_, _, J7, qb⟩
    | brk =>
      obtain ⟨_, _, Sb, qb⟩ := hsp
      exact ends Sb fun s7 J7 => ⟨_, _, J7, qb⟩
    | cont =>
      obtain ⟨_, _, Sb, qb⟩ := hsp
      exact ends Sb fun s7 J7 => ⟨_, _, J7, qb⟩
    | ret u =>
      obtain ⟨_, _, _, Sb, rb, qb⟩ := hsp
      exact ends Sb fun s7 J7 => ⟨_, _, _, J7, rb, qb⟩
  · cases fl with
    | next =>
      obtain ⟨_, _, Jn, qn⟩ := hsp
      exact wpAny_execs_nil ⟨_, _, Jn.ofTry okc, qn⟩
    | brk =>
      obtain ⟨_, _, Jn, qn⟩ := hsp
      exact ⟨_, _, Jn.ofTry okc, qn⟩
    | cont =>
      obtain ⟨_, _, Jn, qn⟩ := hsp
      exact ⟨_, _, Jn.ofTry okc, qn⟩
    | ret u =>
      obtain ⟨_, _, _, Jn, rn, qn⟩ := hsp
      exact ⟨_, _, _, Jn.ofTry okc, rn, qn⟩
end
section
variable {X : Cx} {CX : CXT} {k : Nat} {f : Addr} {fd : FuncData} {ps ks : List Str} {sp : Sp} {E : L2.St → XK} {x : Str} {p pos : Pos} {kws : List Keyword} {tk : TA} {g : List Value → List Value} {gV : List V → List V}
/-- f(k = v, ..), where exceptions are taken with the slots -/
theorem pe_callKO (F : FnOk X.prog X.w X.K X.mg X.base CX k f fd ps sp) (hr : Room k X.A) (hg : Gl X x) (hm : X.mg x = some (.ref f)) (hk : PySem.W.keepIn X.K (.ref f) = true)
    (hto : ∀ (s : Shared) (ws : List Value), ws.length = ks.length → BindsTo s fd ⟨[], ks.zip ws⟩ (ps.zip (g ws))) (hrel : ∀ {zs : List V} {ws : List Value}, Vals zs ws → ws.length = ks.length → Vals (gV zs) (g ws)) (hlen : ∀ zs H Q Er, sp (gV zs) H Q Er → zs.length = ks.length) (hx : ∀ σ, PassesAt CX X σ (E σ))
    (hkw : PK X kws tk) (hall : (backToKw pos (keywordEach kws X.env)).all (·.1.isSome) = true := by rfl) (hks : (backToKw pos (keywordEach kws X.env)).filterMap (·.1) = ks := by rfl) (hdb : (x == ("__debug__" : Str)) = false := by decide)
    (hpl : ((backTo pos (starEach [] X.env)).any (·.1) || (backToKw pos (keywordEach kws X.env)).any (·.1.isNone)) = false := by rfl) :
    PE X (.Call (.Name x p) [] kws pos) (fun σ H Q => tk σ H fun zs H2 => sp (gV zs) H2 Q (E σ)) := by
  refine ⟨fun pins s0 σ H0 Q h0 hw => wpAny_Call_Name_kw (ld_glob h0 hg hm ?_ hdb)⟩
  refine PySem.W.callWith_KW0 (h₀ := X.base) h0.ok.mod.kin hk hall ?_ hpl
  refine thn (hkw.run pos pins s0 σ H0 _ h0 hw) fun ws s2 ⟨zs, H2, I2, rz, q2⟩ => ⟨I2.kIn, ?_⟩
  rw [hks]
  have hl : ws.length = ks.length := rz.length.symm.trans (hlen _ _ _ _ q2)
  refine wpAny_call (codeAny_mono (F.run X.A X.stack s2 H2 ⟨[], ks.zip ws⟩ (g ws) (gV zs) Q (E σ) hr I2.env0 (hto s2 ws hl) (hrel rz hl) q2) fun rs sz hq => ?_)
  match rs, hq with
  | .error er, hq => exact hx σ pins H2 s2 er sz I2 hq
  | .ok (.ret u), hq => exact I2.after hq
  | .ok .next, hq => exact False.elim hq
  | .ok .brk, hq => exact False.elim hq
  | .ok .cont, hq => exact False.elim hq
end
end WW
/-! The error; above, below. -/
namespace WW
open PySem PySem.Spec PyProof.Rows L2
theorem oexB_ok {K : PySem.W.Frag} {C : Addr} (h : oexB K C = true) : ∃ nm q N bs bm sn sub ab col dd k0 k1 k2 k3 k5, K.lookup C = some (excClassObj nm q C N bs bm true sn sub ab col dd k0 k1 k2 k3 k5 "ValueError.__new__") ∧ PySem.HandSPX.refsVE bm = true := by
  unfold oexB at h
  split at h
  · rename_i t od cd sl heq
    rw [Bool.and_eq_true] at h
    obtain ⟨ht, h⟩ := h
    split at h
    · rename_i C' bm k0 k1 k2 k3 n k5 hm hsl
      simp only [Bool.and_eq_true, beq_iff_eq, Bool.not_eq_true'] at h
      obtain ⟨h1, h2, h3, h4, h5⟩ := h
      obtain ⟨nm, bs, mro, ns, qn, hd, sn, sub, ab, col, hdel⟩ := cd
      simp only at hm h3 h4
      have e1 : t = "type" := by simpa using ht
      subst h1 e1 h3 h4 hm h2
      have es : sl = #[k0, k1, k2, k3, some (.builtin "ValueError.__new__"), k5] := by
        apply Array.toList_inj.mp
        rw [hsl]
      subst es
      exact ⟨nm, qn, ns, bs, bm, sn, sub, ab, col, od, k0, k1, k2, k3, k5, heq, h5⟩
    · cases h
  · cases h
theorem oexC {K : PySem.W.Frag} {w : World} {mg : Str → Option Value} {fd : Nat → FuncData} (T : TX w K mg fd) : OexC K (He.ga K "NotLeading") :=
  let E := exK T.more
  ⟨oexB_ok E.oex, E.seta, E.sub, E.typ, T.x_keep⟩
section
variable {P : Program} {w : World} {K : PySem.W.Frag} {mg : Str → Option Value} {base : Heap} {fd : Nat → FuncData}
def spWE (K : PySem.W.Frag) : Sp := fun vs H Q _ => ∃ (a : Addr) (v : V), vs = [.ref a, v] ∧ H a = some (exo a (He.ga K "NotLeading") none) ∧ ∀ dx, H dx = none → dx ≠ a → Q .non (upd (upd H dx (exd dx [("value", v)])) a (exo a (He.ga K "NotLeading") (some dx)))
theorem ok_we (T : TX w K mg fd) : FnOk P w K mg base (L2.CX P w) 1 (He.fAd K ("WaitError", some "__init__")) (fd 0) P_WaitError_new (spWE K) := by
  refine T.d_WaitError_new.F.ok sc_WaitError_new (fun vs H Q E h => ?_) (fun cdv A0 outer s H vs Q E0 hr h => ?_)
  · obtain ⟨a, v, rfl, _⟩ := h
    rfl
  obtain ⟨a, v, rfl, ha, q⟩ := h
  have vV : PySem.W.findCls K (.type "ValueError") (.type "type") "__init__" = some (.val (.builtin "ValueError.__init__")) := by kernel_rfl
  refine ⟨_, PSs.nox (pss_cons (ps_expr (pe_veinit rfl T.z_ValueError vV (pa_cons (pv 0) (pa_cons (pv 1) pa_nil)))) (pss_one (ps_ost (pv 0) (pv 1)))), ?_⟩
  refine ⟨_, rfl, _, rfl, a, He.ga K "NotLeading", [v], rfl, by show 1 ≤ 1000; decide, oexC T, ha, ?_⟩
  exact ⟨_, rfl, _, rfl, a, He.ga K "NotLeading", rfl, oexC T, T.n_value, .inl ⟨ha, fun dx hdx ne => q dx hdx ne⟩⟩
end
end WW
/-! above, below. -/
namespace WW
open PySem PySem.Spec PyProof.Rows L2
/-- the first kind that is not -/
def Bad (r : Bool) (k1 k2 k3 k : Kd) : Prop := (¬ Ld r k1 k3 ∧ k = k1) ∨ (Ld r k1 k3 ∧ ¬ Ld r k2 k3 ∧ k = k2)
section
variable {P : Program} {w : World} {K : PySem.W.Frag} {mg : Str → Option Value} {base : Heap} {fd : Nat → FuncData}
def spAb (K : PySem.W.Frag) (r : Bool) : Sp := fun vs H Q E => ∃ (u1 u2 u3 : V) (k1 k2 k3 : Kd), vs = [u1, u2, u3] ∧ KA H u1 k1 ∧ KA H u2 k2 ∧ KA H u3 k3 ∧ k1.size ≤ 3 ∧ k2.size ≤ 3 ∧ k3.size ≤ 3 ∧
  (∀ v H', Ch No H H' → Ld r k1 k3 → Ld r k2 k3 → KA H' v (finK r k1 k2 k3) → Q v H') ∧
  ∀ k u d H', Bad r k1 k2 k3 k → Ch No H H' → KA H' u k → H' d = some (.xd [("value", u)]) → E (.ref (He.ga K "NotLeading")) (some d) H'
/-- raise NotLeading(u) -/
theorem mk_end1 {H : Hp} {u : V} {C : Addr} {k : Kd} {Er : XK} (ku : KA H u k) (q : ∀ d H', Ch No H H' → KA H' u k → H' d = some (.xd [("value", u)]) → Er (.ref C) (some d) H') (hC : C = He.ga K "NotLeading") :
    [u].length ≤ 1000 ∧ ∀ a, H a = none → spWE K (.ref a :: ([u] ++ [])) (upd H a (exo a C none)) (fun v H2 => v = .non ∧ ∃ (d : Addr) (fs : List (Str × V)), H2 a = some (exo a C (some d)) ∧ H2 d = some (exd d fs) ∧ H d = none ∧ Er (.ref C) (some d) (upd (del H2 a) d (.xd fs))) (fun _ _ _ => False) := by
  subst hC
  refine ⟨by simp, fun a ha => ⟨a, u, rfl, upd_same, fun dx hdx ne => ⟨rfl, dx, [("value", u)], upd_same, ?_, ?_, ?_⟩⟩⟩
  · rw [upd_ne ne, upd_same]
  · rw [upd_ne ne] at hdx
    exact hdx
  · have hd : H dx = none := by
      rw [upd_ne ne] at hdx
      exact hdx
    have c : Ch No H (upd (del (upd (upd (upd H a (exo a (He.ga K "NotLeading") none)) dx (exd dx [("value", u)])) a (exo a (He.ga K "NotLeading") (some dx))) a) dx (.xd [("value", u)])) := by
      have h : ∀ b o, H b = some o → (upd (del (upd (upd (upd H a (exo a (He.ga K "NotLeading") none)) dx (exd dx [("value", u)])) a (exo a (He.ga K "NotLeading") (some dx))) a) dx (.xd [("value", u)])) b = some o := fun b o e => by
        have n1 : b ≠ a := ne_of_none e ha
        have n2 : b ≠ dx := ne_of_none e hd
        rw [upd_ne n2, del_ne n1, upd_ne n1, upd_ne n2, upd_ne n1]
        exact e
      exact ⟨fun b o e _ => h b o e, fun b xs e => h b _ e⟩
    exact q dx _ c (ku.mono c) upd_same
theorem ok_above (T : TX w K mg fd) : FnOk P w K mg base (L2.CX P w) 64 (He.ga K "above") (fd 24) P_above (spAb K true) := by
  refine T.d_above.F.ok sc_above (fun vs H Q E h => ?_) (fun cdv A0 outer s H vs Q E0 hr h => ?_)
  · obtain ⟨u1, u2, u3, k1, k2, k3, rfl, _⟩ := h
    rfl
  obtain ⟨u1, u2, u3, k1, k2, k3, rfl, a1, a2, a3, z1, z2, z3, q, e⟩ := h
  have G := ok_leads (P := P) (base := base) T
  have G2 := ok_asked (P := P) (base := base) T
  have GW := ok_we (P := P) (base := base) T
  have hr1 := hr.mono (show 62 ≤ 63 by decide)
  have hr2 := hr.mono (show 33 ≤ 63 by decide)
  have E := exK T.more
  refine ⟨_, pss_cons (ps_expr (pe_call G2 hr2 rfl T.g_check_asked T.d_check_asked.kp T.d_check_asked.b .nil pass0 (pa_cons (pe_lst (pa_cons (pv 0) pa_nil)) (pa_cons (pe_lst (pa_cons (pv 1) (pa_cons (pv 2) pa_nil))) pa_nil))))
    (pss_cons (ps_for (passes_of rfl) rfl (pi_tup (pe_tup (pa_cons (pv 0) (pa_cons (pv 1) pa_nil)))) (pg_name (i := 3) sc_above.nd rfl (Or.inl rfl))
      (pss_one (ps_if (pt_not (pt_val (pe_call G hr1 rfl T.g_leads T.d_leads.kp T.d_leads.b .nil pass0 (pa_cons (pv 2) (pa_cons (pv 3) pa_nil)))))
        (pss_one (ps_raise rfl (takes_of rfl rfl rfl rfl) (pmk_oex (oexC T) E.ini E.fnt GW (hr.mono (by decide)) T.d_WaitError_new.b .nil passL rfl T.g_NotLeading (pa_cons (pv 3) pa_nil)))) pss_nil)))
    (pss_one (ps_ret (pe_tup (pa_cons pe_str (pa_cons (pe_tup (pa_cons pe_str (pa_cons (pe_tup (pa_cons pe_str (pa_cons (pv 2) (pa_cons (pv 0) pa_nil)))) (pa_cons (pv 2) pa_nil)))) (pa_cons (pe_tup (pa_cons pe_str (pa_cons (pv 1) (pa_cons (pv 2) pa_nil)))) pa_nil))))))), ?_⟩
  refine ⟨_, rfl, by show 1 ≤ sizeLine; decide, fun l hl => ?_⟩
  have c1 : Ch No H (upd H l (.lst [u1])) := Ch.new hl
  refine ⟨_, rfl, _, rfl, by show 2 ≤ sizeLine; decide, fun m hm => ?_⟩
  have c2 : Ch No (upd H l (.lst [u1])) (upd (upd H l (.lst [u1])) m (.lst [u2, u3])) := Ch.new hm
  have c12 := c1.trans c2
  refine ⟨l, m, [k1], [k2, k3], rfl, ⟨_, c2.get upd_same, .cons (a1.mono c12) .nil⟩, ⟨_, upd_same, .cons (a2.mono c12) (.cons (a3.mono c12) .nil)⟩, fun k hk => ?_, fun k hk => ?_, by simp, by simp, by simp, fun H3 c3 => ?_⟩
  · simp only [List.mem_cons, List.not_mem_nil, or_false] at hk
    subst hk
    omega
  · simp only [List.mem_cons, List.not_mem_nil, or_false] at hk
    rcases hk with hk | hk <;> subst hk <;> omega
  have c13 := c12.trans c3
  refine ⟨_, rfl, _, rfl, by show 2 ≤ sizeLine; decide, fun t ht => ?_⟩
  have c4 : Ch No H3 (upd H3 t (.tup [u1, u2])) := Ch.new ht
  have t4 : (upd H3 t (.tup [u1, u2])) t = some (.tup [u1, u2]) := upd_same
  have c14 := c13.trans c4
  generalize upd H3 t (.tup [u1, u2]) = H4 at c4 t4 c14 ⊢
  have kas : KAs H [u1, u2] [k1, k2] := .cons a1 (.cons a2 .nil)
  refine ⟨t, rfl, ⟨_, SqT.of t4⟩, for_tup (xs := [u1, u2]) (fun i σ H' => ∃ x3, σ = [some u1, some u2, some u3, x3] ∧ Ch No H4 H' ∧ ∀ j k, j < i → [k1, k2][j]? = some k → Ld true k k3) ⟨_, rfl, Ch.refl _ _, fun j k h => by omega⟩ ?_ ?_ ?_⟩
  · rintro i σ H' _ ⟨x3, rfl, c, _⟩
    exact SqT.of (c.get t4)
  · rintro i x σ H5 ei ⟨x3, rfl, c5, ld⟩
    obtain ⟨k, e1, e2⟩ := pr_at kas ei
    have hk : k = k1 ∨ k = k2 := by
      have := List.mem_of_getElem? e1
      simpa using this
    have zk : k.size ≤ 3 := by rcases hk with e | e <;> subst e <;> assumption
    have c05 := c14.trans c5
    refine ⟨_, rfl, _, rfl, u3, x, k3, k, rfl, a3.mono c05, e2.mono c05, by omega, fun b H6 c6 hb => ⟨b, rfl, ?_⟩⟩
    cases b with
    | true =>
      refine iteF ⟨_, rfl, c5.trans c6, fun j k' hj ej => ?_⟩
      by_cases hji : j < i
      · exact ld j k' hji ej
      · have : j = i := by omega
        subst this
        obtain rfl := Option.some.inj (e1.symm.trans ej)
        exact hb.mp rfl
    | false =>
      have nl : ¬ Ld true k k3 := fun z => by have := hb.mpr z; cases this
      refine iteT ⟨_, rfl, ?_⟩
      have c06 := c05.trans c6
      refine mk_end1 (e2.mono c06) (fun d H7 c7 k7 e7 => e k x d H7 ?_ (c06.trans c7) k7 e7) rfl
      match i, e1, ld with
      | 0, e1, _ =>
        obtain rfl := Option.some.inj (show some k1 = some k from e1)
        exact .inl ⟨nl, rfl⟩
      | 1, e1, ld =>
        obtain rfl := Option.some.inj (show some k2 = some k from e1)
        exact .inr ⟨ld 0 k1 (by decide) rfl, nl, rfl⟩
      | j + 2, e1, _ => cases e1
  · rintro σ H5 ⟨x3, rfl, c5, ld⟩
    have l1 := ld 0 k1 (by simp) rfl
    have l2 := ld 1 k2 (by simp) rfl
    have c05 := c14.trans c5
    have w1 : KE (tVar 0) [some u1, some u2, some u3, x3] H5 k1 := ke_var rfl (a1.mono c05)
    have w2 : KE (tVar 1) [some u1, some u2, some u3, x3] H5 k2 := ke_var rfl (a2.mono c05)
    have w3 : KE (tVar 2) [some u1, some u2, some u3, x3] H5 k3 := ke_var rfl (a3.mono c05)
    exact ke_run (ke_nd .b (ke_nd .a (ke_nd .b w3 w1) w3) (ke_nd .a w2 w3)) fun v' H' c' k' => q v' H' (c05.trans c') l1 l2 k'
theorem ok_below (T : TX w K mg fd) : FnOk P w K mg base (L2.CX P w) 64 (He.ga K "below") (fd 25) P_below (spAb K false) := by
  refine T.d_below.F.ok sc_below (fun vs H Q E h => ?_) (fun cdv A0 outer s H vs Q E0 hr h => ?_)
  · obtain ⟨u1, u2, u3, k1, k2, k3, rfl, _⟩ := h
    rfl
  obtain ⟨u1, u2, u3, k1, k2, k3, rfl, a1, a2, a3, z1, z2, z3, q, e⟩ := h
  have G := ok_leads (P := P) (base := base) T
  have G2 := ok_asked (P := P) (base := base) T
  have GW := ok_we (P := P) (base := base) T
  have hr1 := hr.mono (show 62 ≤ 63 by decide)
  have hr2 := hr.mono (show 33 ≤ 63 by decide)
  have E := exK T.more
  refine ⟨_, pss_cons (ps_expr (pe_call G2 hr2 rfl T.g_check_asked T.d_check_asked.kp T.d_check_asked.b .nil pass0 (pa_cons (pe_lst (pa_cons (pv 0) pa_nil)) (pa_cons (pe_lst (pa_cons (pv 1) (pa_cons (pv 2) pa_nil))) pa_nil))))
    (pss_cons (ps_for (passes_of rfl) rfl (pi_tup (pe_tup (pa_cons (pv 0) (pa_cons (pv 1) pa_nil)))) (pg_name (i := 3) sc_below.nd rfl (Or.inl rfl))
      (pss_one (ps_if (pt_not (pt_val (pe_call G hr1 rfl T.g_leads T.d_leads.kp T.d_leads.b .nil pass0 (pa_cons (pv 3) (pa_cons (pv 2) pa_nil)))))
        (pss_one (ps_raise rfl (takes_of rfl rfl rfl rfl) (pmk_oex (oexC T) E.ini E.fnt GW (hr.mono (by decide)) T.d_WaitError_new.b .nil passL rfl T.g_NotLeading (pa_cons (pv 3) pa_nil)))) pss_nil)))
    (pss_one (ps_ret (pe_tup (pa_cons pe_str (pa_cons (pe_tup (pa_cons pe_str (pa_cons (pe_tup (pa_cons pe_str (pa_cons (pv 0) (pa_cons (pv 2) pa_nil)))) (pa_cons (pv 2) pa_nil)))) (pa_cons (pe_tup (pa_cons pe_str (pa_cons (pv 2) (pa_cons (pv 1) pa_nil)))) pa_nil))))))), ?_⟩
  refine ⟨_, rfl, by show 1 ≤ sizeLine; decide, fun l hl => ?_⟩
  have c1 : Ch No H (upd H l (.lst [u1])) := Ch.new hl
  refine ⟨_, rfl, _, rfl, by show 2 ≤ sizeLine; decide, fun m hm => ?_⟩
  have c2 : Ch No (upd H l (.lst [u1])) (upd (upd H l (.lst [u1])) m (.lst [u2, u3])) := Ch.new hm
  have c12 := c1.trans c2
  refine ⟨l, m, [k1], [k2, k3], rfl, ⟨_, c2.get upd_same, .cons (a1.mono c12) .nil⟩, ⟨_, upd_same, .cons (a2.mono c12) (.cons (a3.mono c12) .nil)⟩, fun k hk => ?_, fun k hk => ?_, by simp, by simp, by simp, fun H3 c3 => ?_⟩
  · simp only [List.mem_cons, List.not_mem_nil, or_false] at hk
    subst hk
    omega
  · simp only [List.mem_cons, List.not_mem_nil, or_false] at hk
    rcases hk with hk | hk <;> subst hk <;> omega
  have c13 := c12.trans c3
  refine ⟨_, rfl, _, rfl, by show 2 ≤ sizeLine; decide, fun t ht => ?_⟩
  have c4 : Ch No H3 (upd H3 t (.tup [u1, u2])) := Ch.new ht
  have t4 : (upd H3 t (.tup [u1, u2])) t = some (.tup [u1, u2]) := upd_same
  have c14 := c13.trans c4
  generalize upd H3 t (.tup [u1, u2]) = H4 at c4 t4 c14 ⊢
  have kas : KAs H [u1, u2] [k1, k2] := .cons a1 (.cons a2 .nil)
  refine ⟨t, rfl, ⟨_, SqT.of t4⟩, for_tup (xs := [u1, u2]) (fun i σ H' => ∃ x3, σ = [some u1, some u2, some u3, x3] ∧ Ch No H4 H' ∧ ∀ j k, j < i → [k1, k2][j]? = some k → Ld false k k3) ⟨_, rfl, Ch.refl _ _, fun j k h => by omega⟩ ?_ ?_ ?_⟩
  · rintro i σ H' _ ⟨x3, rfl, c, _⟩
    exact SqT.of (c.get t4)
  · rintro i x σ H5 ei ⟨x3, rfl, c5, ld⟩
    obtain ⟨k, e1, e2⟩ := pr_at kas ei
    have hk : k = k1 ∨ k = k2 := by
      have := List.mem_of_getElem? e1
      simpa using this
    have zk : k.size ≤ 3 := by rcases hk with e | e <;> subst e <;> assumption
    have c05 := c14.trans c5
    refine ⟨_, rfl, _, rfl, x, u3, k, k3, rfl, e2.mono c05, a3.mono c05, by omega, fun b H6 c6 hb => ⟨b, rfl, ?_⟩⟩
    cases b with
    | true =>
      refine iteF ⟨_, rfl, c5.trans c6, fun j k' hj ej => ?_⟩
      by_cases hji : j < i
      · exact ld j k' hji ej
      · have : j = i := by omega
        subst this
        obtain rfl := Option.some.inj (e1.symm.trans ej)
        exact hb.mp rfl
    | false =>
      have nl : ¬ Ld false k k3 := fun z => by have := hb.mpr z; cases this
      refine iteT ⟨_, rfl, ?_⟩
      have c06 := c05.trans c6
      refine mk_end1 (e2.mono c06) (fun d H7 c7 k7 e7 => e k x d H7 ?_ (c06.trans c7) k7 e7) rfl
      match i, e1, ld with
      | 0, e1, _ =>
        obtain rfl := Option.some.inj (show some k1 = some k from e1)
        exact .inl ⟨nl, rfl⟩
      | 1, e1, ld =>
        obtain rfl := Option.some.inj (show some k2 = some k from e1)
        exact .inr ⟨ld 0 k1 (by decide) rfl, nl, rfl⟩
      | j + 2, e1, _ => cases e1
  · rintro σ H5 ⟨x3, rfl, c5, ld⟩
    have l1 := ld 0 k1 (by simp) rfl
    have l2 := ld 1 k2 (by simp) rfl
    have c05 := c14.trans c5
    have w1 : KE (tVar 0) [some u1, some u2, some u3, x3] H5 k1 := ke_var rfl (a1.mono c05)
    have w2 : KE (tVar 1) [some u1, some u2, some u3, x3] H5 k2 := ke_var rfl (a2.mono c05)
    have w3 : KE (tVar 2) [some u1, some u2, some u3, x3] H5 k3 := ke_var rfl (a3.mono c05)
    exact ke_run (ke_nd .w (ke_nd .w (ke_nd .b w1 w3) w3) (ke_nd .a w3 w2)) fun v' H' c' k' => q v' H' (c05.trans c') l1 l2 k'
end
end WW
/-! told. -/
namespace WW
open PySem PySem.Spec PyProof.Rows L2
def rev3 {α : Type} : List α → List α
  | [a, b, c] => [c, b, a]
  | l => l
def rot3 {α : Type} : List α → List α
  | [a, b, c] => [b, c, a]
  | l => l
theorem rev3_rel {zs : List V} {ws : List Value} (h : Vals zs ws) (hl : ws.length = 3) : Vals (rev3 zs) (rev3 ws) := by
  cases h with
  | nil => cases hl
  | cons a h => cases h with
    | nil => cases hl
    | cons b h => cases h with
      | nil => cases hl
      | cons c h => cases h with
        | nil => exact .cons c (.cons b (.cons a .nil))
        | cons d h => simp at hl
theorem rot3_rel {zs : List V} {ws : List Value} (h : Vals zs ws) (hl : ws.length = 3) : Vals (rot3 zs) (rot3 ws) := by
  cases h with
  | nil => cases hl
  | cons a h => cases h with
    | nil => cases hl
    | cons b h => cases h with
      | nil => cases hl
      | cons c h => cases h with
        | nil => exact .cons b (.cons c (.cons a .nil))
        | cons d h => simp at hl
theorem rev3_len {α : Type} (l : List α) : (rev3 l).length = l.length := by
  unfold rev3
  split <;> rfl
theorem rot3_len {α : Type} (l : List α) : (rot3 l).length = l.length := by
  unfold rot3
  split <;> rfl
section
variable {P : Program} {w : World} {K : PySem.W.Frag} {mg : Str → Option Value} {base : Heap} {fd : Nat → FuncData}
theorem kw_above {f : Addr} {g : FuncData} (D : Dd K "above" "above" s_above P_above f g) (s : Shared) (ws : List Value) (hl : ws.length = (["low", "other", "one"] : List Str).length) : BindsTo s g ⟨[], (["low", "other", "one"] : List Str).zip ws⟩ (P_above.zip (rev3 ws)) := by
  obtain ⟨oc, od, dV, kV, doc, pm, an, cdv, ct, osl, rfl, lk, hcd, hD, hK⟩ := D.F.ex
  rcases hD with ⟨_, rfl⟩ | ⟨e, _⟩
  · match ws, hl with
    | [a, b, c], _ => exact .of_eq rfl
  · exact absurd rfl e
theorem kw_below {f : Addr} {g : FuncData} (D : Dd K "below" "below" s_below P_below f g) (s : Shared) (ws : List Value) (hl : ws.length = (["high", "one", "other"] : List Str).length) : BindsTo s g ⟨[], (["high", "one", "other"] : List Str).zip ws⟩ (P_below.zip (rot3 ws)) := by
  obtain ⟨oc, od, dV, kV, doc, pm, an, cdv, ct, osl, rfl, lk, hcd, hD, hK⟩ := D.F.ex
  rcases hD with ⟨_, rfl⟩ | ⟨e, _⟩
  · match ws, hl with
    | [a, b, c], _ => exact .of_eq rfl
  · exact absurd rfl e
abbrev vB (i : Nat) : TT := fun σ H Q => tVar i σ H fun x H1 => ∃ k, x = V.bl k ∧ Q k H1
abbrev ixT (K : PySem.W.Frag) (j : Int) : TE := tOp (rIxL K) (tVar 0) (tC (.int j))
def bTold (K : PySem.W.Frag) (W : WX) : TS := tIfS (vB 1) (tAsg (tIf (vB 2) (fun σ H Q => tCons (ixT K 2) (tCons (ixT K 1) (tCons (ixT K 0) tNil)) σ H fun zs H2 => spAb K true (rev3 zs) H2 Q (WE W σ)) (tCallS (spAb K true) (WE W) (tCons (ixT K 0) (tCons (ixT K 1) (tCons (ixT K 2) tNil))))) (gName 3))
  (tAsg (tIf (vB 2) (fun σ H Q => tCons (ixT K 2) (tCons (ixT K 0) (tCons (ixT K 1) tNil)) σ H fun zs H2 => spAb K false (rot3 zs) H2 Q (WE W σ)) (tCallS (spAb K false) (WE W) (tCons (ixT K 0) (tCons (ixT K 1) (tCons (ixT K 2) tNil))))) (gName 3))
def sTold (K : PySem.W.Frag) (a : Addr) (cls : Value) (d : Option Addr) : TS := tAsg (tLst (tCons (tXf a cls d (He.ga K "NotLeading") "value" (tVar 4)) tNil)) (gName 3)
def spTold : Sp := fun vs H Q _ => ∃ (t : Addr) (r nm : Bool) (k1 k2 k3 : Kd), vs = [.ref t, .bl r, .bl nm] ∧ LK H t [k1, k2, k3] ∧ k1.size ≤ 3 ∧ k2.size ≤ 3 ∧ k3.size ≤ 3 ∧ ∀ v H', Ch No H H' → DueV H' r k1 k2 k3 v → Q v H'
theorem ok_told (T : TX w K mg fd) : FnOk P w K mg base CX0 65 (He.ga K "_law_told") (fd 45) P_l_told spTold := by
  refine T.d_l_told.ok sc_l_told (fun vs H Q E h => ?_) (fun cdv A0 outer s H vs Q E0 hr h => ?_)
  · obtain ⟨t, r, nm, k1, k2, k3, rfl, _⟩ := h
    rfl
  obtain ⟨t, r, nm, k1, k2, k3, rfl, ⟨us, ht, kus⟩, z1, z2, z3, q⟩ := h
  have GA := ok_above (P := P) (base := base) T
  have GB := ok_below (P := P) (base := base) T
  have XF := xfB_ok (exK T.more).xf
  have lenA : ∀ zs H Q Er, spAb K true (rev3 zs) H Q Er → zs.length = (["low", "other", "one"] : List Str).length := fun zs H Q Er h => by
    obtain ⟨u1, u2, u3, _, _, _, e, _⟩ := h
    have := congrArg List.length e
    rw [rev3_len] at this
    exact this
  have lenB : ∀ zs H Q Er, spAb K false (rot3 zs) H Q Er → zs.length = (["high", "one", "other"] : List Str).length := fun zs H Q Er h => by
    obtain ⟨u1, u2, u3, _, _, _, e, _⟩ := h
    have := congrArg List.length e
    rw [rot3_len] at this
    exact this
  refine ⟨_, pss_cons (ps_set (i := 3) sc_l_told.nd rfl (Or.inl rfl) pe_non)
    (pss_cons (ps_try_first (i := 4) (tb := bTold K) (ts := sTold K) rfl rfl sc_l_told.nd rfl rfl ⟨rfl, by decide, .inl T.g_NotLeading⟩ (fun W pn xe tk _ =>
        pss_one (ps_if (pt_val (pv 1))
          (pss_one (ps_set (i := 3) sc_l_told.nd rfl (Or.inl rfl) (pe_ifExp (pt_val (pv 2))
            (pe_callKO GA hr rfl T.g_above T.d_above.kp (kw_above T.d_above) rev3_rel lenA (fun σ => passAt tk σ) (pk_cons (pe_ix ix_list (pv 0) pe_int (fun _ _ => rfl)) (pk_cons (pe_ix ix_list (pv 0) pe_int (fun _ _ => rfl)) (pk_cons (pe_ix ix_list (pv 0) pe_int (fun _ _ => rfl)) pk_nil))))
            (pe_callS GA hr rfl T.g_above T.d_above.kp T.d_above.b (fun σ => passAt tk σ) (pa_cons (pe_ix ix_list (pv 0) pe_int (fun _ _ => rfl)) (pa_cons (pe_ix ix_list (pv 0) pe_int (fun _ _ => rfl)) (pa_cons (pe_ix ix_list (pv 0) pe_int (fun _ _ => rfl)) pa_nil)))))))
          (pss_one (ps_set (i := 3) sc_l_told.nd rfl (Or.inl rfl) (pe_ifExp (pt_val (pv 2))
            (pe_callKO GB hr rfl T.g_below T.d_below.kp (kw_below T.d_below) rot3_rel lenB (fun σ => passAt tk σ) (pk_cons (pe_ix ix_list (pv 0) pe_int (fun _ _ => rfl)) (pk_cons (pe_ix ix_list (pv 0) pe_int (fun _ _ => rfl)) (pk_cons (pe_ix ix_list (pv 0) pe_int (fun _ _ => rfl)) pk_nil))))
            (pe_callS GB hr rfl T.g_below T.d_below.kp T.d_below.b (fun σ => passAt tk σ) (pa_cons (pe_ix ix_list (pv 0) pe_int (fun _ _ => rfl)) (pa_cons (pe_ix ix_list (pv 0) pe_int (fun _ _ => rfl)) (pa_cons (pe_ix ix_list (pv 0) pe_int (fun _ _ => rfl)) pa_nil)))))))))
      (fun a oe cls d pn hz hf => pss_one (ps_set (i := 3) sc_l_told.nd rfl (Or.inl rfl) (pe_lst (pa_cons (pe_xf XF T.n_value hz hf (pv 4)) pa_nil)))))
    (pss_one (ps_ret (pv 3)))), ?_⟩
  cases kus with
  | @cons v1 _ _ _ a1 r1 =>
  cases r1 with
  | @cons v2 _ _ _ a2 r2 =>
  cases r2 with
  | @cons v3 _ _ _ a3 r3 =>
  cases r3
  -- what comes behind all
  have good : ∀ v H', Ch No H H' → Ld r k1 k3 → Ld r k2 k3 → KA H' v (finK r k1 k2 k3) → Q v H' := fun v H' c l1 l2 k => q v H' c (.inr (.inr ⟨l1, l2, k⟩))
  have bad : ∀ k p H', Bad r k1 k2 k3 k → Ch No H H' → LK H' p [k] → Q (.ref p) H' := fun k p H' hb c lk => by
    refine q (.ref p) H' c ?_
    rcases hb with ⟨n1, rfl⟩ | ⟨l1, n2, rfl⟩
    · exact .inl ⟨n1, p, rfl, lk⟩
    · exact .inr (.inl ⟨l1, n2, p, rfl, lk⟩)
  -- the clause's suite
  have suite : ∀ (D : Ends) k u d H', (∀ p H2, Ch No H' H2 → LK H2 p [k] → D.rt (.ref p) H2) → KA H' u k → H' d = some (.xd [("value", u)]) →
      wFst K (.ref (He.ga K "NotLeading")) 4 (sTold K) { nx := fun σ H => tRet (tVar 3) D σ H, rt := D.rt, bk := D.bk, ct := D.ct } (.ref (He.ga K "NotLeading")) (some d) [some (.ref t), some (.bl r), some (.bl nm), some .non, none] H' := fun D k u d H' hD ku hd => by
    refine ⟨T.x_self, fun a ha => ?_⟩
    refine ⟨_, rfl, rfl, rfl, d, _, u, rfl, hd, rfl, by show 1 ≤ sizeLine; decide, fun p hp => ?_⟩
    have c : Ch No H' (upd H' p (.lst [u])) := Ch.new hp
    exact ⟨_, rfl, hD p _ c ⟨_, upd_same, .cons (ku.mono c) .nil⟩⟩
  have g0 : atI [v1, v2, v3] 0 = some v1 := rfl
  have g1 : atI [v1, v2, v3] 1 = some v2 := rfl
  have g2 : atI [v1, v2, v3] 2 = some v3 := rfl
  refine ⟨_, rfl, r, rfl, ?_⟩
  cases r with
  | true =>
    refine iteT ⟨_, rfl, nm, rfl, ?_⟩
    cases nm with
    | true =>
      refine iteT ?_
      refine ⟨_, rfl, t, _, _, _, rfl, rfl, SqL.of ht, g2, _, rfl, t, _, _, _, rfl, rfl, SqL.of ht, g1, _, rfl, t, _, _, _, rfl, rfl, SqL.of ht, g0, ?_⟩
      exact ⟨v1, v2, v3, k1, k2, k3, rfl, a1, a2, a3, z1, z2, z3, fun v H' c l1 l2 k => ⟨_, rfl, good v H' c l1 l2 k⟩, fun k u d H' hb c ku hd => suite { nx := fun _ H' => Q .non H', rt := Q } k u d H' (fun p H2 c2 lk => bad k p H2 hb (c.trans c2) lk) ku hd⟩
    | false =>
      refine iteF ?_
      refine ⟨_, rfl, t, _, _, _, rfl, rfl, SqL.of ht, g0, _, rfl, t, _, _, _, rfl, rfl, SqL.of ht, g1, _, rfl, t, _, _, _, rfl, rfl, SqL.of ht, g2, ?_⟩
      exact ⟨v1, v2, v3, k1, k2, k3, rfl, a1, a2, a3, z1, z2, z3, fun v H' c l1 l2 k => ⟨_, rfl, good v H' c l1 l2 k⟩, fun k u d H' hb c ku hd => suite { nx := fun _ H' => Q .non H', rt := Q } k u d H' (fun p H2 c2 lk => bad k p H2 hb (c.trans c2) lk) ku hd⟩
  | false =>
    refine iteF ⟨_, rfl, nm, rfl, ?_⟩
    cases nm with
    | true =>
      refine iteT ?_
      refine ⟨_, rfl, t, _, _, _, rfl, rfl, SqL.of ht, g2, _, rfl, t, _, _, _, rfl, rfl, SqL.of ht, g0, _, rfl, t, _, _, _, rfl, rfl, SqL.of ht, g1, ?_⟩
      exact ⟨v1, v2, v3, k1, k2, k3, rfl, a1, a2, a3, z1, z2, z3, fun v H' c l1 l2 k => ⟨_, rfl, good v H' c l1 l2 k⟩, fun k u d H' hb c ku hd => suite { nx := fun _ H' => Q .non H', rt := Q } k u d H' (fun p H2 c2 lk => bad k p H2 hb (c.trans c2) lk) ku hd⟩
    | false =>
      refine iteF ?_
      refine ⟨_, rfl, t, _, _, _, rfl, rfl, SqL.of ht, g0, _, rfl, t, _, _, _, rfl, rfl, SqL.of ht, g1, _, rfl, t, _, _, _, rfl, rfl, SqL.of ht, g2, ?_⟩
      exact ⟨v1, v2, v3, k1, k2, k3, rfl, a1, a2, a3, z1, z2, z3, fun v H' c l1 l2 k => ⟨_, rfl, good v H' c l1 l2 k⟩, fun k u d H' hb c ku hd => suite { nx := fun _ H' => Q .non H', rt := Q } k u d H' (fun p H2 c2 lk => bad k p H2 hb (c.trans c2) lk) ku hd⟩
end
end WW
/-! The papers are walked: what a paper shows. -/
namespace WW
open PySem PySem.Spec PyProof.Rows L2
/-- a paper's parts behind its name: no paper, or the paper of a row and a goal -/
abbrev Its := List (V × Option (List Kd × Kd))
inductive Cs : Str → Its → List Kd → Kd → Prop
  | gb (p : V) (Γ : List Kd) (A B : Kd) : Γ ≠ [] → Cs "givebehind" [(p, some (Γ ++ [B], A))] Γ (.nd .b A B)
  | ga (p : V) (Γ : List Kd) (A B : Kd) : Γ ≠ [] → Cs "giveahead" [(p, some (B :: Γ, A))] Γ (.nd .a B A)
  | jn (p q : V) (Γ Δ : List Kd) (A B : Kd) : Cs "join" [(p, some (Γ, A)), (q, some (Δ, B))] (Γ ++ Δ) (.nd .w A B)
  | pt (p : V) (Γ Δ : List Kd) (A B C : Kd) : Cs "part" [(.int (Γ.length : Int), none), (p, some (Γ ++ A :: B :: Δ, C))] (Γ ++ .nd .w A B :: Δ) C
  | be (p q : V) (Γ Δ Θ : List Kd) (A B C : Kd) : Cs "behind" [(.int (Γ.length : Int), none), (p, some (Γ ++ A :: Δ, C)), (q, some (Θ, B))] (Γ ++ (.nd .b A B :: Θ) ++ Δ) C
  | ah (p q : V) (Γ Δ Θ : List Kd) (A B C : Kd) : Cs "ahead" [(.int (Γ.length : Int), none), (p, some (Γ ++ A :: Δ, C)), (q, some (Θ, B))] (Γ ++ (Θ ++ [.nd .a B A]) ++ Δ) C
def ItOk (H : Hp) (f : Its) (n m : Nat) : Prop := ∀ x ∈ f, (x.2 = none ∧ ∃ i : Int, x.1 = .int i) ∨ ∃ z, x.2 = some z ∧ PAp H x.1 z.1 z.2 ∧ fs z.1 + z.2.forms < n ∧ szs z.1 + z.2.size ≤ m
theorem PAp.parts {H : Hp} {v : V} {Γ : List Kd} {C : Kd} (h : PAp H v Γ C) : (∃ a u, v = .ref a ∧ H a = some (.tup [.str "same", u]) ∧ KA H u C ∧ Γ = [C]) ∨
    ∃ a s f, v = .ref a ∧ H a = some (.tup (.str s :: f.map (·.1))) ∧ Cs s f Γ C ∧ ItOk H f (fs Γ + C.forms) (szs Γ + C.size) := by
  have one : ∀ {x : V × Option (List Kd × Kd)} {n m : Nat}, ((x.2 = none ∧ ∃ i : Int, x.1 = .int i) ∨ ∃ z, x.2 = some z ∧ PAp H x.1 z.1 z.2 ∧ fs z.1 + z.2.forms < n ∧ szs z.1 + z.2.size ≤ m) → ItOk H [x] n m := fun h y hy => by
    rw [List.mem_singleton] at hy
    subst hy
    exact h
  have more : ∀ {x : V × Option (List Kd × Kd)} {f : Its} {n m : Nat}, ((x.2 = none ∧ ∃ i : Int, x.1 = .int i) ∨ ∃ z, x.2 = some z ∧ PAp H x.1 z.1 z.2 ∧ fs z.1 + z.2.forms < n ∧ szs z.1 + z.2.size ≤ m) → ItOk H f n m → ItOk H (x :: f) n m := fun h hf y hy => by
    rcases List.mem_cons.mp hy with e | e
    · subst e
      exact h
    · exact hf y e
  cases h with
  | same h1 h2 => exact .inl ⟨_, _, rfl, h1, h2, rfl⟩
  | @gb a p _ A B h1 h2 h3 => exact .inr ⟨a, _, _, rfl, h1, .gb p Γ A B h2, one (.inr ⟨_, rfl, h3, by simp [fs, Kd.forms]; omega, by simp [szs, Kd.size]; omega⟩)⟩
  | @ga a p _ A B h1 h2 h3 => exact .inr ⟨a, _, _, rfl, h1, .ga p Γ A B h2, one (.inr ⟨_, rfl, h3, by simp [fs, Kd.forms]; omega, by simp [szs, Kd.size]; omega⟩)⟩
  | @jn a p q Γ Δ A B h1 h2 h3 => exact .inr ⟨a, _, _, rfl, h1, .jn p q Γ Δ A B, more (.inr ⟨_, rfl, h2, by simp [fs, Kd.forms]; omega, by simp [szs, Kd.size]; omega⟩) (one (.inr ⟨_, rfl, h3, by simp [fs, Kd.forms]; omega, by simp [szs, Kd.size]; omega⟩))⟩
  | @pt a p Γ Δ A B _ h1 h2 => exact .inr ⟨a, _, _, rfl, h1, .pt p Γ Δ A B C, more (.inl ⟨rfl, _, rfl⟩) (one (.inr ⟨_, rfl, h2, by simp [fs, Kd.forms]; omega, by simp [szs, Kd.size]; omega⟩))⟩
  | @be a p q Γ Δ Θ A B _ h1 h2 h3 => exact .inr ⟨a, _, _, rfl, h1, .be p q Γ Δ Θ A B C, more (.inl ⟨rfl, _, rfl⟩) (more (.inr ⟨_, rfl, h2, by simp [fs, Kd.forms]; omega, by simp [szs, Kd.size]; omega⟩) (one (.inr ⟨_, rfl, h3, by simp [fs, Kd.forms]; omega, by simp [szs, Kd.size]; omega⟩)))⟩
  | @ah a p q Γ Δ Θ A B _ h1 h2 h3 => exact .inr ⟨a, _, _, rfl, h1, .ah p q Γ Δ Θ A B C, more (.inl ⟨rfl, _, rfl⟩) (more (.inr ⟨_, rfl, h2, by simp [fs, Kd.forms]; omega, by simp [szs, Kd.size]; omega⟩) (one (.inr ⟨_, rfl, h3, by simp [fs, Kd.forms]; omega, by simp [szs, Kd.size]; omega⟩)))⟩
/-- at t: a row and a goal as (list, kind), the list none of N -/
def SH (N : Addr → Prop) (H : Hp) (t : V) (z : List Kd × Kd) : Prop := ∃ a l v, t = .ref a ∧ ¬ N l ∧ H a = some (.tup [.ref l, v]) ∧ LK H l z.1 ∧ KA H v z.2
theorem SH.mono {N S : Addr → Prop} {H H' : Hp} {t : V} {z : List Kd × Kd} (h : SH N H t z) (c : Ch S H H') (hS : ∀ b, S b → N b) : SH N H' t z :=
  let ⟨a, l, v, h1, h2, h3, h4, h5⟩ := h
  ⟨a, l, v, h1, h2, c.2 _ _ h3, h4.mono c fun z => h2 (hS _ z), h5.mono c⟩
theorem SH.dp {K : PySem.W.Frag} {N : Addr → Prop} {H : Hp} {t : V} {z : List Kd × Kd} (h : SH N H t z) : Dp K H t (prD z) := by
  obtain ⟨a, l, v, rfl, h2, h3, h4, h5⟩ := h
  exact .tup (SqT.of h3) (.cons h4.dp (.cons h5.dp .nil))
theorem shs_dp {K : PySem.W.Frag} {N : Addr → Prop} {H : Hp} {ys : List V} {zs : List (List Kd × Kd)} (h : Paired (fun y z => SH N H y z) ys zs) : DpAll K H ys (zs.map prD) := by
  induction h with
  | nil => exact .nil
  | cons hq _ ih => exact .cons hq.dp ih
theorem prsD_lay : ∀ zs : List (List Kd × Kd), (∀ z ∈ zs, allLow z) → (∀ z ∈ zs, (∀ k ∈ z.1, k.size ≤ 30) ∧ z.2.size ≤ 30) → PyData.canLayAll0 (zs.map prD) = true ∧ PyData.depthAll (zs.map prD) ≤ 40
  | [], _, _ => by simp [PyData.canLayAll0, PyData.depthAll]
  | z :: zs, h1, h2 => by
    obtain ⟨i1, i2⟩ := prsD_lay zs (fun y hy => h1 y (List.mem_cons_of_mem _ hy)) fun y hy => h2 y (List.mem_cons_of_mem _ hy)
    have a := h1 z (List.mem_cons_self ..)
    have b := h2 z (List.mem_cons_self ..)
    have c := prD_depth z b.1 b.2
    refine ⟨?_, ?_⟩
    · have : (prD z).canLay0 = true := by simp [prD, PyData.canLay0, PyData.canLayAll0, kdD_lays z.1 a.1, kdD_lay z.2 a.2]
      simp [PyData.canLayAll0, this, i1]
    · simp only [List.map_cons, PyData.depthAll]
      omega
theorem prsD_shaped {zs : List (List Kd × Kd)} (h1 : ∀ z ∈ zs, allLow z) (h2 : ∀ z ∈ zs, (∀ k ∈ z.1, k.size ≤ 30) ∧ z.2.size ≤ 30) : SeqAt.shaped (.list (zs.map prD)) = true := by
  obtain ⟨a, b⟩ := prsD_lay zs h1 h2
  show (PyData.canLay0 (.list (zs.map prD)) && decide (PyData.depth (.list (zs.map prD)) ≤ 64)) = true
  rw [Bool.and_eq_true]
  refine ⟨by simp only [PyData.canLay0]; exact a, decide_eq_true ?_⟩
  simp only [PyData.depth]
  omega
theorem prsD_none (zs : List (List Kd × Kd)) : ((zs.map prD).any fun z => PyData.eqv z .none) = false := by
  rw [List.any_eq_false]
  intro x hx
  obtain ⟨z, _, rfl⟩ := List.mem_map.mp hx
  simp [prD, PyData.eqv]
/-- a comprehension over a tuple that keeps some -/
theorem lc_filtT {K : PySem.W.Frag} {a : Addr} {g : TG} {tt : TT} {te : TE} {vs : List Nat} {σ : L2.St} {H1 : Hp} {D : Addr} {Qd : Hp → Prop} (f : Its) (hD : H1 D = none) (ha : H1 a = some (.tup (f.map (·.1)))) (hn : f.length ≤ 100)
    (hs : ∀ (i : Nat) (x : V) (o : Option (List Kd × Kd)) (H : Hp), f[i]? = some (x, o) → Ch No H1 H → H D ≠ none → ∀ (Nx : V → Hp → Prop) (Z : Hp → Prop), (o = none → ∀ H', Ch No H H' → Z H') → (∀ z, o = some z → ∀ y H', Ch No H H' → SH (· = D) H' y z → Nx y H') → g x (wipe σ vs) H fun σ2 H2 => wipe σ2 vs = wipe σ vs ∧ tt σ2 H2 fun b H3 => if b = true then te σ2 H3 Nx else Z H3)
    (hd : ∀ ys H, Ch No H1 H → H D = some (.lst ys) → Paired (fun y z => SH (· = D) H y z) ys (f.filterMap (·.2)) → Qd H) :
    ∃ W : Nat → Nat → Hp → Prop, (∃ m, W 0 m (upd H1 D (.lst []))) ∧ ∀ i m H, W i m H →
      ((Itt K a).stop i H ∧ Qd H) ∨ ((Itt K a).go i H ∧ ∃ Nx : Hp → Prop, (∀ H', Nx H' → ∃ m', m' < m ∧ W (i + 1) m' H') ∧ ∀ x H', (Itt K a).yld i H x H' → g x (wipe σ vs) H' fun σ2 H2 => wipe σ2 vs = wipe σ vs ∧ tt σ2 H2 fun b H3 =>
        if b = true then te σ2 H3 fun y H4 => ∃ acc, H4 D = some (.lst acc) ∧ acc.length < sizeLine ∧ Nx (upd H4 D (.lst (acc ++ [y]))) else Nx H3) := by
  refine lc_tup (xs := f.map (·.1)) (fun i H => Ch No H1 H ∧ ∃ acc, H D = some (.lst acc) ∧ acc.length ≤ i ∧ Paired (fun y z => SH (· = D) H y z) acc ((f.take i).filterMap (·.2))) ⟨Ch.new hD, [], upd_same, Nat.le_refl _, .nil⟩ (fun i H _ p => SqT.of (p.1.get ha)) (fun i x H e p => ?_) fun H p => ?_
  · obtain ⟨c, acc, e1, e2, e3⟩ := p
    rw [List.getElem?_map] at e
    cases ef : f[i]? with
    | none =>
      rw [ef] at e
      cases e
    | some xo =>
    obtain ⟨x', o⟩ := xo
    rw [ef] at e
    obtain rfl := Option.some.inj e
    have hi := (List.getElem?_eq_some_iff.mp ef).1
    refine hs i x' o H ef c (by rw [e1]; exact fun z => nomatch z) _ _ (fun ho H' c' => ?_) fun z ho y H' c' sh => ?_
    · subst ho
      refine ⟨c.trans c', acc, c'.get e1, by omega, ?_⟩
      rw [List.take_add_one, ef, List.filterMap_append]
      simpa using Paired.mapP e3 fun _ _ q => q.mono c' fun _ q => q.elim
    · subst ho
      have e4 := c'.get e1
      have cD : Ch (· = D) H' (upd H' D (.lst (acc ++ [y]))) := Ch.put rfl e4 fun _ q => nomatch q
      refine ⟨acc, e4, small1000 (by omega), (c.trans c').hole hD, _, upd_same, by simp; omega, ?_⟩
      rw [List.take_add_one, ef, List.filterMap_append]
      exact pr_app (Paired.mapP e3 fun _ _ q => (q.mono c' fun _ q => q.elim).mono cD fun _ q => q) (.cons (sh.mono cD fun _ q => q) .nil)
  · obtain ⟨c, acc, e1, e2, e3⟩ := p
    rw [List.length_map, List.take_length] at e3
    exact hd acc H c e1 e3
end WW
/-! shown_at. -/
namespace WW
open PySem PySem.Spec PyProof.Rows L2
section
variable {K : PySem.W.Frag} {H : Hp} {a b : Addr} {us ws : List V} {Γ Δ : List Kd} {Q : VK}
theorem lkCatF (h : LK H a Γ) (h' : LK H b Δ) (hl : Γ.length + Δ.length ≤ 1000) (q : ∀ t H', Ch No H H' → H t = none → LK H' t (Γ ++ Δ) → Q (.ref t) H') : rCat (.ref a) (.ref b) H Q := by
  obtain ⟨us, h1, h2⟩ := h
  obtain ⟨ws, h3, h4⟩ := h'
  refine catL h1 h3 (by rw [pr_len h2, pr_len h4]; exact hl) fun t H' c n e => q t H' c n ⟨_, e, KAs.mono (pr_app h2 h4) c⟩
theorem lkS_sufF {k : Nat} {i : Int} (e : i = (k : Int)) (h : LK H a Γ) (q : ∀ t H', Ch No H H' → H t = none → LK H' t (Γ.drop k) → Q (.ref t) H') : rSlL K (.ref a) (some i) none H Q := by
  subst e
  obtain ⟨us, h1, h2⟩ := h
  refine slL _ _ h1 fun t H' c n e => q t H' c n ⟨_, e, ?_⟩
  rw [cut_suf]
  exact KAs.mono (pr_dp h2 k) c
end
/-- what a walked paper answers: a fresh row, the goal -/
def SN (H H' : Hp) (t : V) (z : List Kd × Kd) : Prop := ∃ a l v, t = .ref a ∧ H l = none ∧ H' a = some (.tup [.ref l, v]) ∧ LK H' l z.1 ∧ KA H' v z.2
section
variable {P : Program} {w : World} {K : PySem.W.Frag} {mg : Str → Option Value} {base : Heap} {fd : Nat → FuncData}
def spShAt : Sp := fun vs H Q _ => ∃ (s : Str) (x : V) (f : Its) (D : Addr) (ys : List V) (Γ : List Kd) (C : Kd), vs = [.str s, x, .ref D] ∧ Cs s ((x, none) :: f) Γ C ∧ H D = some (.lst ys) ∧ Paired (fun y z => SH No H y z) ys (f.filterMap (·.2)) ∧ szs Γ + C.size ≤ 14 ∧
  ∀ t H', Ch No H H' → SN H H' t (Γ, C) → Q t H'
theorem ok_shat (T : TX w K mg fd) : FnOk P w K mg base CX0 1 (He.ga K "_law_shown_at") (fd 40) P_l_shown_at spShAt := by
  refine T.d_l_shown_at.ok sc_l_shown_at (fun vs H Q E h => ?_) (fun cdv A0 outer s H vs Q E0 hr h => ?_)
  · obtain ⟨s, x, f, D, ys, Γ, C, rfl, _⟩ := h
    rfl
  obtain ⟨s, x, f, D0, ys, Γ, C, rfl, cs, hD, pys, hz, q⟩ := h
  have hlen := szs_len Γ
  refine ⟨_, pss_cons (ps_asg (pe_ix ix_list (pv 2) pe_int (fun _ _ => rfl)) (pg_tup rfl (pgs_cons (pg_name (i := 3) sc_l_shown_at.nd rfl (Or.inl rfl)) (pgs_cons (pg_name (i := 4) sc_l_shown_at.nd rfl (Or.inl rfl)) pgs_nil))))
    (pss_cons (ps_if (PW.pt (pw_or (pt_not (pt_val (pe_callB call_isi (by rfl) T.z_isinstance (by decide +kernel) (pa_cons (pv 1) (pa_cons (pe_bltn (v := .ty "int") (by rfl) T.z_int boot_int rfl) pa_nil)))))
        (pw_or (pt_val (pe_callB call_isi (by rfl) T.z_isinstance (by decide +kernel) (pa_cons (pv 1) (pa_cons (pe_bltn (v := .ty "bool") (by rfl) T.z_bool boot_bool rfl) pa_nil))))
        (pw_or1 (pt_not (pt_chain op_le op_lt pe_int (pv 1) (pe_callB call_len_seq (by rfl) T.z_len boot_len (pa_cons (pv 3) pa_nil)))))))) (pss_one (ps_ret pe_non)) pss_nil)
    (pss_cons (ps_par3 (i := 5) (j := 6) (l := 7) rfl sc_l_shown_at.nd rfl rfl rfl (by decide) (by decide) (by decide) rfl rfl rfl (pa_cons (pe_slice sl_list (pv 3) po_none (po_some (pv 1))) (pa_cons (pe_ix ix_list (pv 3) (pv 1) (fun _ _ => rfl)) (pa_cons (pe_slice sl_list (pv 3) (po_some (pe_op op_add (pv 1) pe_int)) po_none) pa_nil))) (by rfl))
    (pss_cons (ps_if (pt_cmpR op_eq (pv 0) pe_str (nomark _)) (pss_one (ps_ret (pe_ifExp (pt_cmpR (op_eqD hr.units) (pv 7) (pe_lst pa_nil) (by rfl)) pe_non
        (pe_tup (pa_cons (pe_op op_cat (pe_op op_cat (pv 5) (pe_lst (pa_cons (pe_tup (pa_cons pe_str (pa_cons (pv 6) (pa_cons (pe_ix ix_list (pv 7) pe_int (fun _ _ => rfl)) pa_nil)))) pa_nil))) (pe_slice sl_list (pv 7) (po_some pe_int) po_none)) (pa_cons (pv 4) pa_nil)))))) pss_nil)
    (pss_cons (ps_asg (pe_ix ix_list (pv 2) pe_int (fun _ _ => rfl)) (pg_tup rfl (pgs_cons (pg_name (i := 8) sc_l_shown_at.nd rfl (Or.inl rfl)) (pgs_cons (pg_name (i := 9) sc_l_shown_at.nd rfl (Or.inl rfl)) pgs_nil))))
    (pss_cons (ps_if (pt_cmpR op_eq (pv 0) pe_str (nomark _)) (pss_one (ps_ret (pe_tup (pa_cons (pe_op op_cat (pe_op op_cat (pe_op op_cat (pv 5) (pe_lst (pa_cons (pe_tup (pa_cons pe_str (pa_cons (pv 6) (pa_cons (pv 9) pa_nil)))) pa_nil))) (pv 8)) (pv 7)) (pa_cons (pv 4) pa_nil))))) pss_nil)
    (pss_one (ps_ret (pe_tup (pa_cons (pe_op op_cat (pe_op op_cat (pe_op op_cat (pv 5) (pv 8)) (pe_lst (pa_cons (pe_tup (pa_cons pe_str (pa_cons (pv 9) (pa_cons (pv 6) pa_nil)))) pa_nil))) (pv 7)) (pa_cons (pv 4) pa_nil)))))))))), ?_⟩
  have kI : PySem.W.kitOne K (.type "int") (.type "int") = some true := kit_ty (by decide +kernel)
  have kB : PySem.W.kitOne K (.type "int") (.type "bool") = some false := kit_ty (by decide +kernel)
  -- the three that hold a place
  cases cs with
  | pt p Γ0 Δ A B _ =>
    cases pys with
    | @cons y1 _ _ _ sh1 r1 =>
    cases r1
    obtain ⟨ta, l, v, rfl, _, h1, lk, kv⟩ := sh1
    have eg : (Γ0 ++ A :: B :: Δ)[Γ0.length]? = some A := spl_get _ _ _
    have lz : (Γ0 ++ A :: B :: Δ).length = Γ0.length + 1 + (B :: Δ).length := by simp; omega
    have lz2 : (Γ0 ++ Kd.nd .w A B :: Δ).length = Γ0.length + 1 + Δ.length := by simp; omega
    refine ⟨_, rfl, D0, _, _, _, rfl, rfl, SqL.of hD, atI_nat (j := 0) rfl, ta, _, rfl, SqT.of h1, rfl, _, _, rfl, _, _, rfl, rfl, ?_⟩
    obtain ⟨us, hus, kus⟩ := lk
    have lus := pr_len kus
    have lus2 : us.length = Γ0.length + 1 + (B :: Δ).length := by rw [lus]; exact lz
    have lk : LK H l (Γ0 ++ A :: B :: Δ) := ⟨us, hus, kus⟩
    refine ⟨_, rfl, .int _, .ty "int", .type "int", .type "int", true, rfl, .ty _, .base (.int _), kI, _, rfl, iteF ?_⟩
    refine ⟨_, rfl, .int _, .ty "bool", .type "int", .type "bool", false, rfl, .ty _, .base (.int _), kB, _, rfl, iteF ?_⟩
    refine ⟨_, rfl, _, _, rfl, rfl, _, rfl, ite2 (fun _ => ?_) (fun z => absurd (decide_eq_true (by omega)) z)⟩
    refine ⟨_, rfl, l, us, rfl, .inl (SqL.of hus), _, _, rfl, rfl, _, rfl, ?_⟩
    rw [decide_eq_true (by omega)]
    refine iteF ?_
    refine ⟨_, rfl, _, rfl, _, rfl, ?_⟩
    refine lkS_pre (k := Γ0.length) rfl lk fun t1 H1 c1 k1 => ?_
    rw [spl_take] at k1
    obtain ⟨xs, vA, hxs, axs, kA⟩ := lkIx (lk.mono c1 id) eg
    refine ⟨_, rfl, _, rfl, l, xs, _, vA, rfl, rfl, SqL.of hxs, axs, ?_⟩
    refine ⟨_, rfl, _, rfl, _, _, rfl, rfl, _, rfl, ?_⟩
    refine tno ?_
    refine lkS_suf (k := Γ0.length + 1) (by omega) (lk.mono c1 id) fun t2 H2 c2 k2 => ?_
    rw [spl_after] at k2
    refine ⟨_, _, _, rfl, ?_⟩
    have k1' := k1.mono c2 id
    have c12 := c1.trans c2
    refine ⟨_, rfl, rfl, _, rfl, iteT ?_⟩
    -- right == []
    refine ⟨_, rfl, by show 0 ≤ sizeLine; decide, fun t3 ht3 => ?_⟩
    have c3 : Ch No H2 (upd H2 t3 (.lst [])) := Ch.new ht3
    have e3 : (upd H2 t3 (.lst ([] : List V))) t3 = some (.lst []) := upd_same
    generalize upd H2 t3 (.lst ([] : List V)) = H3 at c3 e3 ⊢
    have k23 := k2.mono c3 id
    refine ⟨_, .list [], k23.dp, .lst (SqL.of e3) .nil, lnD_shaped k23.low (fun k hk => ?_), by rfl, _, rfl, ?_⟩
    · have : k ∈ Γ0 ++ Kd.nd .w A B :: Δ ∨ k = B := by
        rcases List.mem_cons.mp hk with e | e
        · exact .inr e
        · exact .inl (by simp [e])
      rcases this with e | e
      · have := szs_mem e
        omega
      · subst e
        have := szs_mem (show Kd.nd .w A k ∈ Γ0 ++ Kd.nd .w A k :: Δ by simp)
        simp only [Kd.size] at this
        omega
    have en : PyData.eqv (.list ((B :: Δ).map kdD)) (.list []) = false := by simp [PyData.eqv, PyData.eqvAll]
    rw [en]
    refine iteF ?_
    have k13 := k1'.mono c3 id
    have c23 := c2.trans c3
    obtain ⟨xs2, vB, hxs2, axs2, kB2⟩ := lkIx (i := 0) k23 rfl
    refine ⟨_, rfl, _, rfl, _, rfl, t2, xs2, _, vB, rfl, rfl, SqL.of hxs2, axs2, by show 3 ≤ sizeLine; decide, fun t4 ht4 => ?_⟩
    have c4 : Ch No H3 (upd H3 t4 (.tup [.str "with", vA, vB])) := Ch.new ht4
    have k4 : KA (upd H3 t4 (.tup [.str "with", vA, vB])) (.ref t4) (.nd .w A B) := .nd (f := .w) upd_same ((kA.mono c23).mono c4) (kB2.mono c4)
    generalize upd H3 t4 (.tup [V.str "with", vA, vB]) = H4 at c4 k4 ⊢
    refine ⟨by show 1 ≤ sizeLine; decide, fun t5 ht5 => ?_⟩
    have c5 : Ch No H4 (upd H4 t5 (.lst [.ref t4])) := Ch.new ht5
    have k5 : LK (upd H4 t5 (.lst [V.ref t4])) t5 [.nd .w A B] := ⟨_, upd_same, .cons (k4.mono c5) .nil⟩
    generalize upd H4 t5 (.lst [V.ref t4]) = H5 at c5 k5 ⊢
    have c35 := c4.trans c5
    refine lkCat (k13.mono c35 id) k5 (by simp; omega) fun t6 H6 c6 k6 => ?_
    refine ⟨_, rfl, 1, rfl, ?_⟩
    refine tno ?_
    refine lkS_suf (k := 1) rfl (k23.mono (c35.trans c6) id) fun t7 H7 c7 k7 => ?_
    refine lkCatF (k6.mono c7 id) k7 (by simp; omega) fun t8 H8 c8 n8 k8 => ?_
    refine ⟨_, rfl, by show 2 ≤ sizeLine; decide, fun t9 ht9 => ?_⟩
    have c9 : Ch No H8 (upd H8 t9 (.tup [.ref t8, v])) := Ch.new ht9
    have c07 := (((c1.trans c23).trans c35).trans c6).trans c7
    have c08 := c07.trans c8
    have eL : Γ0 ++ [Kd.nd .w A B] ++ (B :: Δ).drop 1 = Γ0 ++ Kd.nd .w A B :: Δ := by simp
    rw [eL] at k8
    exact q _ _ (c08.trans c9) ⟨t9, t8, v, rfl, c07.free id n8, upd_same, k8.mono c9 id, (kv.mono c08).mono c9⟩
  | be p q0 Γ0 Δ Θ A B _ =>
    cases pys with
    | @cons y1 _ _ _ sh1 r1 =>
    cases r1 with
    | @cons y2 _ _ _ sh2 r2 =>
    cases r2
    obtain ⟨ta, l, v, rfl, _, h1, lk, kv⟩ := sh1
    obtain ⟨tb, m, vB, rfl, _, h2, lm, kB2⟩ := sh2
    have eg : (Γ0 ++ A :: Δ)[Γ0.length]? = some A := spl_get _ _ _
    have lz2 : (Γ0 ++ (Kd.nd .b A B :: Θ) ++ Δ).length = Γ0.length + 1 + Θ.length + Δ.length := by simp; omega
    refine ⟨_, rfl, D0, _, _, _, rfl, rfl, SqL.of hD, atI_nat (j := 0) rfl, ta, _, rfl, SqT.of h1, rfl, _, _, rfl, _, _, rfl, rfl, ?_⟩
    obtain ⟨us, hus, kus⟩ := lk
    have lus := pr_len kus
    have lus2 : us.length = Γ0.length + 1 + Δ.length := by rw [lus]; simp; omega
    have lk : LK H l (Γ0 ++ A :: Δ) := ⟨us, hus, kus⟩
    refine ⟨_, rfl, .int _, .ty "int", .type "int", .type "int", true, rfl, .ty _, .base (.int _), kI, _, rfl, iteF ?_⟩
    refine ⟨_, rfl, .int _, .ty "bool", .type "int", .type "bool", false, rfl, .ty _, .base (.int _), kB, _, rfl, iteF ?_⟩
    refine ⟨_, rfl, _, _, rfl, rfl, _, rfl, ite2 (fun _ => ?_) (fun z => absurd (decide_eq_true (by omega)) z)⟩
    refine ⟨_, rfl, l, us, rfl, .inl (SqL.of hus), _, _, rfl, rfl, _, rfl, ?_⟩
    rw [decide_eq_true (by omega)]
    refine iteF ?_
    refine ⟨_, rfl, _, rfl, _, rfl, ?_⟩
    refine lkS_pre (k := Γ0.length) rfl lk fun t1 H1 c1 k1 => ?_
    rw [spl_take] at k1
    obtain ⟨xs, vA, hxs, axs, kA⟩ := lkIx (lk.mono c1 id) eg
    refine ⟨_, rfl, _, rfl, l, xs, _, vA, rfl, rfl, SqL.of hxs, axs, ?_⟩
    refine ⟨_, rfl, _, rfl, _, _, rfl, rfl, _, rfl, ?_⟩
    refine tno ?_
    refine lkS_suf (k := Γ0.length + 1) (by omega) (lk.mono c1 id) fun t2 H2 c2 k2 => ?_
    rw [spl_after] at k2
    refine ⟨_, _, _, rfl, ?_⟩
    have k1' := k1.mono c2 id
    have c12 := c1.trans c2
    refine ⟨_, rfl, rfl, _, rfl, iteF ?_⟩
    refine ⟨_, rfl, D0, _, _, _, rfl, rfl, SqL.of (c12.get hD), atI_nat (j := 1) rfl, tb, _, rfl, SqT.of (c12.get h2), rfl, _, _, rfl, _, _, rfl, rfl, ?_⟩
    refine ⟨_, rfl, rfl, _, rfl, iteT ?_⟩
    refine ⟨_, rfl, _, rfl, _, rfl, by show 3 ≤ sizeLine; decide, fun t4 ht4 => ?_⟩
    have c4 : Ch No H2 (upd H2 t4 (.tup [.str "behind", vA, vB])) := Ch.new ht4
    have k4 : KA (upd H2 t4 (.tup [.str "behind", vA, vB])) (.ref t4) (.nd .b A B) := .nd (f := .b) upd_same ((kA.mono c2).mono c4) ((kB2.mono c12).mono c4)
    generalize upd H2 t4 (.tup [V.str "behind", vA, vB]) = H4 at c4 k4 ⊢
    refine ⟨by show 1 ≤ sizeLine; decide, fun t5 ht5 => ?_⟩
    have c5 : Ch No H4 (upd H4 t5 (.lst [.ref t4])) := Ch.new ht5
    have k5 : LK (upd H4 t5 (.lst [V.ref t4])) t5 [.nd .b A B] := ⟨_, upd_same, .cons (k4.mono c5) .nil⟩
    generalize upd H4 t5 (.lst [V.ref t4]) = H5 at c5 k5 ⊢
    have c25 := c4.trans c5
    refine lkCat (k1'.mono c25 id) k5 (by simp; omega) fun t6 H6 c6 k6 => ?_
    refine ⟨_, rfl, ?_⟩
    refine lkCat k6 ((lm.mono c12 id).mono (c25.trans c6) id) (by simp; omega) fun t7 H7 c7 k7 => ?_
    refine ⟨_, rfl, ?_⟩
    refine lkCatF k7 (k2.mono ((c25.trans c6).trans c7) id) (by simp; omega) fun t8 H8 c8 n8 k8 => ?_
    refine ⟨_, rfl, by show 2 ≤ sizeLine; decide, fun t9 ht9 => ?_⟩
    have c9 : Ch No H8 (upd H8 t9 (.tup [.ref t8, v])) := Ch.new ht9
    have c07 := ((c12.trans c25).trans c6).trans c7
    have c08 := c07.trans c8
    have eL : Γ0 ++ [Kd.nd .b A B] ++ Θ ++ Δ = Γ0 ++ (Kd.nd .b A B :: Θ) ++ Δ := by simp
    rw [eL] at k8
    exact q _ _ (c08.trans c9) ⟨t9, t8, v, rfl, c07.free id n8, upd_same, k8.mono c9 id, (kv.mono c08).mono c9⟩
  | ah p q0 Γ0 Δ Θ A B _ =>
    cases pys with
    | @cons y1 _ _ _ sh1 r1 =>
    cases r1 with
    | @cons y2 _ _ _ sh2 r2 =>
    cases r2
    obtain ⟨ta, l, v, rfl, _, h1, lk, kv⟩ := sh1
    obtain ⟨tb, m, vB, rfl, _, h2, lm, kB2⟩ := sh2
    have eg : (Γ0 ++ A :: Δ)[Γ0.length]? = some A := spl_get _ _ _
    have lz2 : (Γ0 ++ (Θ ++ [Kd.nd .a B A]) ++ Δ).length = Γ0.length + Θ.length + 1 + Δ.length := by simp; omega
    refine ⟨_, rfl, D0, _, _, _, rfl, rfl, SqL.of hD, atI_nat (j := 0) rfl, ta, _, rfl, SqT.of h1, rfl, _, _, rfl, _, _, rfl, rfl, ?_⟩
    obtain ⟨us, hus, kus⟩ := lk
    have lus := pr_len kus
    have lus2 : us.length = Γ0.length + 1 + Δ.length := by rw [lus]; simp; omega
    have lk : LK H l (Γ0 ++ A :: Δ) := ⟨us, hus, kus⟩
    refine ⟨_, rfl, .int _, .ty "int", .type "int", .type "int", true, rfl, .ty _, .base (.int _), kI, _, rfl, iteF ?_⟩
    refine ⟨_, rfl, .int _, .ty "bool", .type "int", .type "bool", false, rfl, .ty _, .base (.int _), kB, _, rfl, iteF ?_⟩
    refine ⟨_, rfl, _, _, rfl, rfl, _, rfl, ite2 (fun _ => ?_) (fun z => absurd (decide_eq_true (by omega)) z)⟩
    refine ⟨_, rfl, l, us, rfl, .inl (SqL.of hus), _, _, rfl, rfl, _, rfl, ?_⟩
    rw [decide_eq_true (by omega)]
    refine iteF ?_
    refine ⟨_, rfl, _, rfl, _, rfl, ?_⟩
    refine lkS_pre (k := Γ0.length) rfl lk fun t1 H1 c1 k1 => ?_
    rw [spl_take] at k1
    obtain ⟨xs, vA, hxs, axs, kA⟩ := lkIx (lk.mono c1 id) eg
    refine ⟨_, rfl, _, rfl, l, xs, _, vA, rfl, rfl, SqL.of hxs, axs, ?_⟩
    refine ⟨_, rfl, _, rfl, _, _, rfl, rfl, _, rfl, ?_⟩
    refine tno ?_
    refine lkS_suf (k := Γ0.length + 1) (by omega) (lk.mono c1 id) fun t2 H2 c2 k2 => ?_
    rw [spl_after] at k2
    refine ⟨_, _, _, rfl, ?_⟩
    have k1' := k1.mono c2 id
    have c12 := c1.trans c2
    refine ⟨_, rfl, rfl, _, rfl, iteF ?_⟩
    refine ⟨_, rfl, D0, _, _, _, rfl, rfl, SqL.of (c12.get hD), atI_nat (j := 1) rfl, tb, _, rfl, SqT.of (c12.get h2), rfl, _, _, rfl, _, _, rfl, rfl, ?_⟩
    refine ⟨_, rfl, rfl, _, rfl, iteF ?_⟩
    refine ⟨_, rfl, _, rfl, ?_⟩
    refine lkCat k1' (lm.mono c12 id) (by show Γ0.length + Θ.length ≤ 1000; omega) fun t6 H6 c6 k6 => ?_
    refine ⟨_, rfl, _, rfl, by show 3 ≤ sizeLine; decide, fun t4 ht4 => ?_⟩
    have c4 : Ch No H6 (upd H6 t4 (.tup [.str "ahead", vB, vA])) := Ch.new ht4
    have k4 : KA (upd H6 t4 (.tup [.str "ahead", vB, vA])) (.ref t4) (.nd .a B A) := .nd (f := .a) upd_same (((kB2.mono c12).mono c6).mono c4) (((kA.mono c2).mono c6).mono c4)
    generalize upd H6 t4 (.tup [V.str "ahead", vB, vA]) = H4 at c4 k4 ⊢
    refine ⟨by show 1 ≤ sizeLine; decide, fun t5 ht5 => ?_⟩
    have c5 : Ch No H4 (upd H4 t5 (.lst [.ref t4])) := Ch.new ht5
    have k5 : LK (upd H4 t5 (.lst [V.ref t4])) t5 [.nd .a B A] := ⟨_, upd_same, .cons (k4.mono c5) .nil⟩
    generalize upd H4 t5 (.lst [V.ref t4]) = H5 at c5 k5 ⊢
    have c65 := c4.trans c5
    refine lkCat (k6.mono c65 id) k5 (by simp; omega) fun t7 H7 c7 k7 => ?_
    refine ⟨_, rfl, ?_⟩
    refine lkCatF k7 (k2.mono ((c6.trans c65).trans c7) id) (by simp; omega) fun t8 H8 c8 n8 k8 => ?_
    refine ⟨_, rfl, by show 2 ≤ sizeLine; decide, fun t9 ht9 => ?_⟩
    have c9 : Ch No H8 (upd H8 t9 (.tup [.ref t8, v])) := Ch.new ht9
    have c07 := ((c12.trans c6).trans c65).trans c7
    have c08 := c07.trans c8
    have eL : Γ0 ++ Θ ++ [Kd.nd .a B A] ++ Δ = Γ0 ++ (Θ ++ [Kd.nd .a B A]) ++ Δ := by simp
    rw [eL] at k8
    exact q _ _ (c08.trans c9) ⟨t9, t8, v, rfl, c07.free id n8, upd_same, k8.mono c9 id, (kv.mono c08).mono c9⟩
end
end WW
/-! shown. -/
namespace WW
open PySem PySem.Spec PyProof.Rows L2
theorem cut_neg1 (xs : List V) : cutV xs none (some (-1)) = xs.take (xs.length - 1) := by
  unfold cutV
  have e : HT.sIx xs.length xs.length (some (-1)) = xs.length - 1 := by
    show (if (-1 : Int) < 0 then ((-1 : Int) + (xs.length : Int)).toNat else min (-1 : Int).toNat xs.length) = xs.length - 1
    rw [if_pos (by decide)]
    omega
  rw [e, sIx_none, List.drop_zero, Nat.sub_zero]
theorem sizesK (a b c d : V) : mergeK [] [((Sum.inr "givebehind" : Key), a), (.inr "giveahead", b), (.inr "join", c), (.inr "part", d)] = [((Sum.inr "givebehind" : Key), a), (.inr "giveahead", b), (.inr "join", c), (.inr "part", d)] := by rfl
section
variable {P : Program} {w : World} {K : PySem.W.Frag} {mg : Str → Option Value} {base : Heap} {fd : Nat → FuncData}
def spShown (n : Nat) : Sp := fun vs H Q _ => ∃ (v : V) (Γ : List Kd) (C : Kd), vs = [v] ∧ PAp H v Γ C ∧ fs Γ + C.forms + 1 ≤ n ∧ szs Γ + C.size ≤ 14 ∧ ∀ t H', Ch No H H' → SN H H' t (Γ, C) → Q t H'
abbrev ttI (K : PySem.W.Frag) : TT := fun σ H Q => tCB (rIsi K) (tCons (tVar 6) (tCons (tC (.ty "tuple")) tNil)) σ H fun x H1 => ∃ k, x = V.bl k ∧ Q k H1
theorem comp_known {n : Nat} (Dd : Ends) (a : Addr) (x1 x2 : V) (f : Its) (H3 : Hp) (s : Str) (ha : H3 a = some (.tup (.str s :: f.map (·.1)))) (hn : f.length ≤ 100) (hi : ItOk H3 f n 14)
    (hd : ∀ D0 ys H4, Ch No H3 H4 → H4 D0 = some (.lst ys) → Paired (fun y z => SH (· = D0) H4 y z) ys (f.filterMap (·.2)) → Dd.nx [some (.ref a), some x1, some x2, some (.ref D0), none, none, none] H4) :
    (tAsg (tLc (iTup K (tSl (rSlA K) (tVar 0) (tPart (tC (.int 1))) tNoPart)) (gName 6) (ttI K) (tCall (spShown n) [] L2.E0 (tCons (tVar 6) tNil)) [6]) (gName 3)) Dd [some (.ref a), some x1, some x2, none, none, none, none] H3 := by
  refine ⟨_, rfl, 1, rfl, ?_⟩
  refine tno ?_
  refine slA_suf (k := 1) ha fun t H4 c4 e4 => ?_
  refine ⟨t, rfl, ⟨_, SqT.of e4⟩, fun D hD => ?_⟩
  refine lc_filtT f hD e4 hn (fun i x o H5 ei c5 hDn Nx Z hz hN => ?_) fun ys H5 c5 eD py => hd D ys H5 (c4.trans c5) eD py
  have c35 := c4.trans c5
  rcases hi (x, o) (List.mem_of_getElem? ei) with ⟨ho, j, hj⟩ | ⟨z, hz', pp, m1, m2⟩
  · obtain rfl : o = none := ho
    obtain rfl : x = .int j := hj
    exact ⟨rfl, _, rfl, .int j, .ty "tuple", .type "int", .type "tuple", false, rfl, .ty _, .base (.int j), kit_ty (by decide +kernel), _, rfl, iteF (hz rfl _ (Ch.refl _ _))⟩
  · obtain rfl : o = some z := hz'
    have pp' : PAp H5 x z.1 z.2 := PAp.keep pp c35.2
    obtain ⟨b, xs, rfl, hb⟩ := pp'.ref
    refine ⟨rfl, _, rfl, .ref b, .ty "tuple", .type "tuple", .type "tuple", true, rfl, .ty _, .base (.tup hb), kit_ty (by decide +kernel), _, rfl, iteT ?_⟩
    refine ⟨_, rfl, .ref b, z.1, z.2, rfl, pp', m1, m2, fun t' H' c' sn => ?_⟩
    obtain ⟨a', l', v', r1, r2, r3, r4, r5⟩ := sn
    exact hN z rfl t' H' c' ⟨a', l', v', r1, fun e => hDn (by rw [← e]; exact r2), r3, r4, r5⟩
theorem SH.weak {N M : Addr → Prop} {H : Hp} {t : V} {z : List Kd × Kd} (h : SH N H t z) (hM : ∀ b, M b → N b) : SH M H t z :=
  let ⟨a, l, v, h1, h2, h3, h4, h5⟩ := h
  ⟨a, l, v, h1, fun q => h2 (hM _ q), h3, h4, h5⟩
/-- the checks of what is known -/
theorem known_checks {f : Its} {H : Hp} {n m : Nat} {ys : List V} {D0 : Addr} (hi : ItOk H f n m) (hm : m ≤ 14) {H4 : Hp} (py : Paired (fun y z => SH (· = D0) H4 y z) ys (f.filterMap (·.2))) :
    SeqAt.shaped (.list ((f.filterMap (·.2)).map prD)) = true := by
  refine prsD_shaped (fun z hz => ?_) fun z hz => ?_
  · obtain ⟨i, hi', e⟩ := List.mem_iff_getElem.mp hz
    have hl := pr_len py
    obtain ⟨z', e1, e2⟩ := pr_at py (List.getElem?_eq_getElem (l := ys) (i := i) (by omega))
    rw [List.getElem?_eq_getElem hi', e] at e1
    obtain rfl := Option.some.inj e1
    obtain ⟨a, l, v, _, _, _, lk, kv⟩ := e2
    exact ⟨lk.low, kv.low⟩
  · obtain ⟨x, hx, e⟩ := List.mem_filterMap.mp hz
    rcases hi x hx with ⟨ho, _⟩ | ⟨z', hz', _, _, m2⟩
    · rw [ho] at e
      cases e
    · rw [hz'] at e
      obtain rfl := Option.some.inj e
      exact ⟨fun k hk => by have := szs_mem hk; omega, by omega⟩
theorem two_ne (a b c d : Int) : PyData.eqv (.list [.int a, .int b]) (.list [.int c, .int d]) = (decide (a = c) && decide (b = d)) := by
  simp only [PyData.eqv, PyData.eqvAll, Bool.and_true]
  by_cases h : a = c <;> by_cases h' : b = d <;> simp [h, h']
theorem two_sh (a b : Int) : SeqAt.shaped (.list [.int a, .int b]) = true := by simp [SeqAt.shaped, PyData.canLay0, PyData.canLayAll0, PyData.depth, PyData.depthAll]
abbrev lenT (K : PySem.W.Frag) (i : Nat) : TE := tCB (fun xs H Q => ∃ p ys, xs = [.ref p] ∧ (SqL K H p ys ∨ SqT K H p ys) ∧ Q (.int ys.length) H) (tCons (tVar i) tNil)
theorem chk_known (Dd : Ends) {a p D0 : Addr} {sn : Str} {xs ys : List V} {zs : List (List Kd × Kd)} {kvs : List (Key × V)} {H : Hp} (ha : H a = some (.tup xs)) (hp : H p = some (.dK kvs)) (hD : H D0 = some (.lst ys)) (dp : DpAll K H ys (zs.map prD)) (sh : SeqAt.shaped (.list (zs.map prD)) = true)
    (hs : (∃ (mm : Addr) (i j : Int), valV kvs (.inr sn) = some (.ref mm) ∧ H mm = some (.lst [.int i, .int j]) ∧ (xs.length : Int) = i ∧ (ys.length : Int) = j) ∨ (valV kvs (.inr sn) = none ∧ xs.length = 4 ∧ ys.length = 2))
    (hq : ∀ H', Ch No H H' → Dd.nx [some (.ref a), some (.str sn), some (.ref p), some (.ref D0), none, none, none] H') :
    tIfS (tOr (tTest (tOp (rInD K) (tC .non) (tVar 3))) (tTest (tOp (rNeD K) (tDGet2 (tVar 2) (tVar 1) (tLst (tCons (tC (.int 4)) (tCons (tC (.int 2)) tNil)))) (tLst (tCons (lenT K 0) (tCons (lenT K 3) tNil)))))) (tRet (tC .non)) tNext Dd
      [some (.ref a), some (.str sn), some (.ref p), some (.ref D0), none, none, none] H := by
  refine ⟨_, rfl, .none, _, .non, .lst (SqL.of hD) dp, by rfl, sh, _, rfl, ?_⟩
  rw [prsD_none]
  refine iteF ?_
  refine ⟨_, rfl, p, rfl, .inl ⟨_, .inl hp⟩, _, rfl, by show 2 ≤ sizeLine; decide, fun m5 hm5 => ?_⟩
  have c1 : Ch No H (upd H m5 (.lst [.int 4, .int 2])) := Ch.new hm5
  have e5 : (upd H m5 (.lst [V.int 4, .int 2])) m5 = some (.lst [.int 4, .int 2]) := upd_same
  generalize upd H m5 (.lst [V.int 4, .int 2]) = H1 at c1 e5 ⊢
  refine ⟨_, DGet.k (k := Sum.inr sn) (c1.get hp), ?_⟩
  refine ⟨_, rfl, a, xs, rfl, .inr (SqT.of (c1.get ha)), _, rfl, D0, ys, rfl, .inl (SqL.of (c1.get hD)), by show 2 ≤ sizeLine; decide, fun m6 hm6 => ?_⟩
  have c2 : Ch No H1 (upd H1 m6 (.lst [.int xs.length, .int ys.length])) := Ch.new hm6
  have e6 : (upd H1 m6 (.lst [V.int xs.length, .int ys.length])) m6 = some (.lst [.int xs.length, .int ys.length]) := upd_same
  generalize upd H1 m6 (.lst [V.int xs.length, .int ys.length]) = H2 at c2 e6 ⊢
  have d6 : Dp K H2 (.ref m6) (.list [.int xs.length, .int ys.length]) := .lst (SqL.of e6) (.cons (.int _) (.cons (.int _) .nil))
  have c12 := c1.trans c2
  rcases hs with ⟨mm, i, j, h1, h2, h3, h4⟩ | ⟨h1, h3, h4⟩
  · rw [h1]
    refine ⟨.list [.int i, .int j], _, .lst (SqL.of (c12.get h2)) (.cons (.int _) (.cons (.int _) .nil)), d6, two_sh _ _, two_sh _ _, _, rfl, ?_⟩
    rw [two_ne, h3, h4, decide_eq_true rfl, decide_eq_true rfl]
    exact iteF (hq H2 c12)
  · rw [h1]
    refine ⟨.list [.int 4, .int 2], _, .lst (SqL.of (c2.get e5)) (.cons (.int _) (.cons (.int _) .nil)), d6, two_sh _ _, two_sh _ _, _, rfl, ?_⟩
    rw [two_ne, h3, h4]
    exact iteF (hq H2 c12)
theorem ok_shown (T : TX w K mg fd) : ∀ n, FnOk P w K mg base CX0 (n + 1) (He.ga K "_law_shown") (fd 39) P_l_shown (spShown n)
  | 0 => fnOk_none fun vs H Q E ⟨v, Γ, C, _, _, h, _⟩ => by omega
  | n + 1 => by
    have ih := ok_shown T n
    refine T.d_l_shown.ok sc_l_shown (fun vs H Q E h => ?_) (fun cdv A0 outer s H vs Q E0 hr h => ?_)
    · obtain ⟨v, Γ, C, rfl, _⟩ := h
      rfl
    obtain ⟨v, Γ, C, rfl, pp, hf, hz, q⟩ := h
    have GA := ok_shat (P := P) (base := base) T
    have hu := hu_of hr
    have hu65 : (A0.deeper (envOfC "_law_shown" (defScope s_l_shown) s.heap.objs.size (He.ga K "_law_shown") cdv)).units + 65 < cLine := by
      have := hr.un
      omega
    refine ⟨_, pss_cons (ps_set (i := 1) sc_l_shown.nd rfl (Or.inl rfl) (pe_ifExp (PW.pt (pw_and (pt_val (pe_callB call_isi (by rfl) T.z_isinstance (by decide +kernel) (pa_cons (pv 0) (pa_cons (pe_bltn (v := .ty "tuple") (by rfl) T.z_tuple boot_tuple rfl) pa_nil))))
          (pw_and1 (pt_cmpR op_gt (pe_callB call_len_seq (by rfl) T.z_len boot_len (pa_cons (pv 0) pa_nil)) pe_int (nomark _))))) (pe_ix ix_tup (pv 0) pe_int (fun _ _ => rfl)) pe_str))
      (pss_cons (ps_if (pt_cmpR op_eq (pv 1) pe_str (nomark _)) (pss_one (ps_ret (pe_tup (pa_cons (pe_lst (pa_cons (pe_ix ix_tup (pv 0) pe_int (fun _ _ => rfl)) pa_nil)) (pa_cons (pe_ix ix_tup (pv 0) pe_int (fun _ _ => rfl)) pa_nil))))) pss_nil)
      (pss_cons (ps_set (i := 2) sc_l_shown.nd rfl (Or.inl rfl) (pe_disp (pps_cons pe_str (pe_lst (pa_cons pe_int (pa_cons pe_int pa_nil))) (pps_cons pe_str (pe_lst (pa_cons pe_int (pa_cons pe_int pa_nil))) (pps_cons pe_str (pe_lst (pa_cons pe_int (pa_cons pe_int pa_nil))) (pps_cons pe_str (pe_lst (pa_cons pe_int (pa_cons pe_int pa_nil))) pps_nil)))) (by rfl) (by rfl) (fun z => by cases z) (by decide)))
      (pss_cons (ps_if (PW.pt (pw_and (pt_cmp (pc_dnotin hu (pv 1) (pv 2))) (pw_and (pt_cmpR op_ne (pv 1) pe_str (nomark _)) (pw_and1 (pt_cmpR op_ne (pv 1) pe_str (nomark _)))))) (pss_one (ps_ret pe_non)) pss_nil)
      (pss_cons (ps_setLc (i := 3) (own := [("_law_part", 6)]) (g := gName 6) (tt := ttI K) (te := tCall (spShown n) [] L2.E0 (tCons (tVar 6) tNil)) rfl sc_l_shown.nd rfl rfl (sw_true rfl rfl rfl (by decide +kernel)) (pi_tup (pe_slice sl_tupA (pv 0) (po_some pe_int) po_none)) (blkOk_by (N := N_l_shown) (sc := defScope s_l_shown) (by decide +kernel))
          (fun _ _ _ _ _ => pg_name (i := 6) sc_l_shown.nd rfl (Or.inl rfl)) (fun _ _ _ _ _ => pts_one (pt_val (pe_callB call_isi (by rfl) T.z_isinstance (by decide +kernel) (pa_cons (pv 6) (pa_cons (pe_bltn (v := .ty "tuple") (by rfl) T.z_tuple boot_tuple rfl) pa_nil))))) (fun _ _ _ _ _ => pe_call ih hr rfl T.g_l_shown T.d_l_shown.kp T.d_l_shown.b .nil pass0 (pa_cons (pv 6) pa_nil)))
      (pss_cons (ps_if (PW.pt (pw_or (pt_cmpR (op_inD hu65) pe_non (pv 3) (by rfl)) (pw_or1 (pt_cmpR (op_neD hr.units) (pe_dget2 hu (pv 2) (pv 1) (pe_lst (pa_cons pe_int (pa_cons pe_int pa_nil))) ⟨rfl, rfl, rfl, rfl⟩)
          (pe_lst (pa_cons (pe_callB call_len_seq (by rfl) T.z_len boot_len (pa_cons (pv 0) pa_nil)) (pa_cons (pe_callB call_len_seq (by rfl) T.z_len boot_len (pa_cons (pv 3) pa_nil)) pa_nil))) (by rfl))))) (pss_one (ps_ret pe_non)) pss_nil)
      (pss_cons (ps_asg (pe_ix ix_list (pv 3) pe_int (fun _ _ => rfl)) (pg_tup rfl (pgs_cons (pg_name (i := 4) sc_l_shown.nd rfl (Or.inl rfl)) (pgs_cons (pg_name (i := 5) sc_l_shown.nd rfl (Or.inl rfl)) pgs_nil))))
      (pss_cons (ps_if (pt_cmpR op_eq (pv 1) pe_str (nomark _)) (pss_one (ps_ret (pe_tup (pa_cons (pe_op op_cat (pv 4) (pe_ix ix_tup (pe_ix ix_list (pv 3) pe_int (fun _ _ => rfl)) pe_int (fun _ _ => rfl))) (pa_cons (pe_tup (pa_cons pe_str (pa_cons (pv 5) (pa_cons (pe_ix ix_tup (pe_ix ix_list (pv 3) pe_int (fun _ _ => rfl)) pe_int (fun _ _ => rfl)) pa_nil)))) pa_nil))))) pss_nil)
      (pss_cons (ps_if (PW.pt (pw_or (pt_cmpR op_eq (pv 1) pe_str (nomark _)) (pw_or1 (pt_cmpR op_eq (pv 1) pe_str (nomark _)))))
        (pss_cons (ps_if (pt_cmpR op_lt (pe_callB call_len_seq (by rfl) T.z_len boot_len (pa_cons (pv 4) pa_nil)) pe_int (nomark _)) (pss_one (ps_ret pe_non)) pss_nil)
        (pss_one (ps_ret (pe_ifExp (pt_cmpR op_eq (pv 1) pe_str (nomark _)) (pe_tup (pa_cons (pe_slice sl_list (pv 4) po_none (po_some (pe_un un_neg pe_int))) (pa_cons (pe_tup (pa_cons pe_str (pa_cons (pv 5) (pa_cons (pe_ix ix_list (pv 4) (pe_un un_neg pe_int) (fun _ _ => rfl)) pa_nil)))) pa_nil)))
          (pe_tup (pa_cons (pe_slice sl_list (pv 4) (po_some pe_int) po_none) (pa_cons (pe_tup (pa_cons pe_str (pa_cons (pe_ix ix_list (pv 4) pe_int (fun _ _ => rfl)) (pa_cons (pv 5) pa_nil)))) pa_nil))))))) pss_nil)
      (pss_one (ps_ret (pe_call GA (hr.mono (by omega)) rfl T.g_l_shown_at T.d_l_shown_at.kp T.d_l_shown_at.b .nil pass0 (pa_cons (pv 1) (pa_cons (pe_ix ix_tup (pv 0) pe_int (fun _ _ => rfl)) (pa_cons (pv 3) pa_nil)))))))))))))), ?_⟩
    have kT : PySem.W.kitOne K (.type "tuple") (.type "tuple") = some true := kit_ty (by decide +kernel)
    rcases pp.parts with ⟨a, u, rfl, ha, ku, eΓ⟩ | ⟨a, sn, f, rfl, ha, cs, hi⟩
    · subst eΓ
      refine ⟨_, rfl, .ref a, .ty "tuple", .type "tuple", .type "tuple", true, rfl, .ty _, .base (.tup ha), kT, _, rfl, iteT ?_⟩
      refine ⟨_, rfl, a, _, rfl, .inr (SqT.of ha), _, _, rfl, rfl, _, rfl, iteT ?_⟩
      refine ⟨_, rfl, a, _, _, _, rfl, rfl, SqT.of ha, atI_nat (j := 0) rfl, ?_⟩
      refine ⟨_, rfl, rfl, _, rfl, iteT ?_⟩
      refine ⟨_, rfl, a, _, _, _, rfl, rfl, SqT.of ha, atI_nat (j := 1) rfl, by show 1 ≤ sizeLine; decide, fun l hl => ?_⟩
      have c1 : Ch No H (upd H l (.lst [u])) := Ch.new hl
      have k1 : LK (upd H l (.lst [u])) l [C] := ⟨_, upd_same, .cons (ku.mono c1) .nil⟩
      generalize upd H l (.lst [u]) = H1 at c1 k1 ⊢
      refine ⟨_, rfl, a, _, _, _, rfl, rfl, SqT.of (c1.get ha), atI_nat (j := 1) rfl, by show 2 ≤ sizeLine; decide, fun t ht => ?_⟩
      have c2 : Ch No H1 (upd H1 t (.tup [.ref l, u])) := Ch.new ht
      exact q _ _ (c1.trans c2) ⟨t, l, u, rfl, hl, upd_same, k1.mono c2 id, (ku.mono c1).mono c2⟩
    · have lf : f.length ≤ 3 := by cases cs <;> simp
      have lf0 : 1 ≤ f.length := by cases cs <;> simp
      have l1 : (V.str sn :: f.map (·.1)).length = f.length + 1 := by simp
      have hsame : ¬ (decide (V.str sn = V.str "same") = true) := by cases cs <;> decide
      refine ⟨_, rfl, .ref a, .ty "tuple", .type "tuple", .type "tuple", true, rfl, .ty _, .base (.tup ha), kT, _, rfl, iteT ?_⟩
      refine ⟨_, rfl, a, _, rfl, .inr (SqT.of ha), _, _, rfl, rfl, _, rfl, ite2 (fun _ => ?_) (fun z => absurd (decide_eq_true (by rw [l1]; omega)) z)⟩
      refine ⟨_, rfl, a, _, _, _, rfl, rfl, SqT.of ha, atI_nat (j := 0) rfl, ?_⟩
      refine ⟨_, rfl, rfl, _, rfl, ite2 (fun z => absurd z hsame) (fun _ => ?_)⟩
      -- the sizes
      intro p hp
      have c1 : Ch No H (upd H p (.dK [])) := Ch.new hp
      have p1 : (upd H p (.dK ([] : List (Key × V)))) p = some (.dK []) := upd_same
      generalize upd H p (.dK ([] : List (Key × V))) = H1 at c1 p1 ⊢
      refine ⟨by show 2 ≤ sizeLine; decide, fun m1 hm1 => ?_⟩
      have c2 : Ch No H1 (upd H1 m1 (.lst [.int 2, .int 1])) := Ch.new hm1
      have e1 : (upd H1 m1 (.lst [V.int 2, .int 1])) m1 = some (.lst [.int 2, .int 1]) := upd_same
      generalize upd H1 m1 (.lst [V.int 2, .int 1]) = H2 at c2 e1 ⊢
      refine ⟨by show 2 ≤ sizeLine; decide, fun m2 hm2 => ?_⟩
      have c3 : Ch No H2 (upd H2 m2 (.lst [.int 2, .int 1])) := Ch.new hm2
      have e2 : (upd H2 m2 (.lst [V.int 2, .int 1])) m2 = some (.lst [.int 2, .int 1]) := upd_same
      generalize upd H2 m2 (.lst [V.int 2, .int 1]) = H3 at c3 e2 ⊢
      refine ⟨by show 2 ≤ sizeLine; decide, fun m3 hm3 => ?_⟩
      have c4 : Ch No H3 (upd H3 m3 (.lst [.int 3, .int 2])) := Ch.new hm3
      have e3 : (upd H3 m3 (.lst [V.int 3, .int 2])) m3 = some (.lst [.int 3, .int 2]) := upd_same
      generalize upd H3 m3 (.lst [V.int 3, .int 2]) = H4 at c4 e3 ⊢
      refine ⟨by show 2 ≤ sizeLine; decide, fun m4 hm4 => ?_⟩
      have c5 : Ch No H4 (upd H4 m4 (.lst [.int 3, .int 1])) := Ch.new hm4
      have e4 : (upd H4 m4 (.lst [V.int 3, .int 1])) m4 = some (.lst [.int 3, .int 1]) := upd_same
      generalize upd H4 m4 (.lst [V.int 3, .int 1]) = H5 at c5 e4 ⊢
      have c25 := ((c2.trans c3).trans c4).trans c5
      have p5 := c25.get p1
      refine ⟨p5, [(.inr "givebehind", .ref m1), (.inr "giveahead", .ref m2), (.inr "join", .ref m3), (.inr "part", .ref m4)], rfl, by show 4 ≤ 15; decide, ?_⟩
      rw [sizesK]
      have cH : Ch (· = p) H5 (upd H5 p (.dK [(.inr "givebehind", .ref m1), (.inr "giveahead", .ref m2), (.inr "join", .ref m3), (.inr "part", .ref m4)])) := Ch.put rfl p5 fun _ z => nomatch z
      have p6 : (upd H5 p (.dK [((Sum.inr "givebehind" : Key), V.ref m1), (.inr "giveahead", .ref m2), (.inr "join", .ref m3), (.inr "part", .ref m4)])) p = some (.dK [(.inr "givebehind", .ref m1), (.inr "giveahead", .ref m2), (.inr "join", .ref m3), (.inr "part", .ref m4)]) := upd_same
      have np : ∀ m xs, H5 m = some (.lst xs) → m ≠ p := fun m xs e z => by rw [z, p5] at e; cases e
      have g4 := cH.1 _ _ e4 (np _ _ e4)
      have g3 := cH.1 _ _ (c5.get e3) (np _ _ (c5.get e3))
      have g2 := cH.1 _ _ ((c4.trans c5).get e2) (np _ _ ((c4.trans c5).get e2))
      have g1 := cH.1 _ _ (((c3.trans c4).trans c5).get e1) (np _ _ (((c3.trans c4).trans c5).get e1))
      -- to the heap ahead
      have c06 : Ch No H (upd H5 p (.dK [(.inr "givebehind", .ref m1), (.inr "giveahead", .ref m2), (.inr "join", .ref m3), (.inr "part", .ref m4)])) := (c1.trans c25).fresh cH fun b hb => by
        have : b = p := hb
        rw [this]
        exact hp
      generalize upd H5 p (.dK [((Sum.inr "givebehind" : Key), V.ref m1), (.inr "giveahead", .ref m2), (.inr "join", .ref m3), (.inr "part", .ref m4)]) = H6 at cH p6 g1 g2 g3 g4 c06 ⊢
      have ha6 := c06.get ha
      have hi6 : ItOk H6 f n 14 := fun x hx => (hi x hx).imp id fun ⟨z, h1, h2, h3, h4⟩ => ⟨z, h1, h2.keep c06.2, by omega, by omega⟩
      have wk : ∀ {D0 : Addr} {H7 : Hp} {ys : List V} {zs : List (List Kd × Kd)}, Paired (fun y z => SH (· = D0) H7 y z) ys zs → Paired (fun y z => SH No H7 y z) ys zs := fun h => Paired.mapP h fun _ _ z => z.weak fun _ q => q.elim
      cases cs with
      | gb p0 _ A B hne =>
        refine ⟨_, rfl, _, rfl, p, _, rfl, DGet.k (k := Sum.inr "givebehind") p6, _, rfl, iteF (iteF ?_)⟩
        refine comp_known _ a _ _ _ H6 "givebehind" ha6 (by simp) hi6 fun D0 ys H7 c7 eD py => ?_
        have ly := pr_len py
        refine chk_known _ (c7.get ha6) (c7.get p6) eD (shs_dp py) (known_checks hi6 (Nat.le_refl _) py) (.inl ⟨m1, 2, 1, rfl, c7.get g1, rfl, by rw [ly]; rfl⟩) fun H8 c8 => ?_
        have c08 := (c06.trans c7).trans c8
        cases wk py with
        | @cons y1 _ _ _ sh1 r1 =>
        cases r1
        obtain ⟨ta, l, v, rfl, _, h1, lk, kv⟩ := sh1
        have h1 := c8.get h1
        have lk := lk.mono c8 id
        have kv := kv.mono c8
        obtain ⟨us, hus, kus⟩ := lk
        have lus := pr_len kus
        have lus2 : us.length = Γ.length + 1 := by rw [lus]; simp
        have lpos : 0 < Γ.length := List.length_pos_iff.mpr hne
        refine ⟨_, rfl, D0, _, _, _, rfl, rfl, SqL.of (c8.get eD), atI_nat (j := 0) rfl, ta, _, rfl, SqT.of h1, rfl, _, _, rfl, _, _, rfl, rfl, ?_⟩
        refine ⟨_, rfl, rfl, _, rfl, iteF ?_⟩
        refine ⟨_, rfl, rfl, _, rfl, iteT (iteT ?_)⟩
        refine ⟨_, rfl, l, us, rfl, .inl (SqL.of hus), _, _, rfl, rfl, _, rfl, ?_⟩
        rw [decide_eq_false (by omega)]
        refine iteF ?_
        refine ⟨_, rfl, rfl, _, rfl, iteT ?_⟩
        refine ⟨_, rfl, 1, rfl, -1, rfl, ?_⟩
        refine slL _ _ hus fun t1 H9 c9 n9 e9 => ?_
        rw [cut_neg1] at e9
        have eus : us.take (us.length - 1) = us.take Γ.length := by rw [lus2]; rfl
        have k9 : LK H9 t1 Γ := ⟨_, e9, by
          have := pr_tk (KAs.mono kus c9) Γ.length
          rw [List.take_left] at this
          rw [eus]
          exact this⟩
        have eb : us[Γ.length]? = some (us[Γ.length]'(by omega)) := List.getElem?_eq_getElem _
        obtain ⟨kb, eb1, eb2⟩ := pr_at kus eb
        have ekb : kb = B := by
          have : (Γ ++ [B])[Γ.length]? = some B := by simp
          rw [this] at eb1
          exact (Option.some.inj eb1).symm
        subst ekb
        have al : atI us (-1) = some (us[Γ.length]'(by omega)) := by
          have e : ixN us.length (-1) = some Γ.length := by
            unfold ixN
            rw [if_neg (by decide), if_pos (by omega), lus2]
            congr 1
            omega
          unfold atI
          rw [e]
          exact eb
        refine ⟨_, rfl, _, rfl, 1, rfl, l, us, _, _, rfl, rfl, SqL.of (c9.get hus), al, by show 3 ≤ sizeLine; decide, fun t2 ht2 => ?_⟩
        have c10 : Ch No H9 (upd H9 t2 (.tup [.str "behind", v, us[Γ.length]'(by omega)])) := Ch.new ht2
        have k10 : KA (upd H9 t2 (.tup [.str "behind", v, us[Γ.length]'(by omega)])) (.ref t2) (.nd .b A kb) := .nd (f := .b) upd_same ((kv.mono c9).mono c10) ((eb2.mono c9).mono c10)
        generalize upd H9 t2 (.tup [.str "behind", v, us[Γ.length]'(by omega)]) = H10 at c10 k10 ⊢
        refine ⟨by show 2 ≤ sizeLine; decide, fun t3 ht3 => ?_⟩
        have c11 : Ch No H10 (upd H10 t3 (.tup [.ref t1, .ref t2])) := Ch.new ht3
        exact q _ _ (((c08.trans c9).trans c10).trans c11) ⟨t3, t1, .ref t2, rfl, c08.free id n9, upd_same, (k9.mono c10 id).mono c11 id, k10.mono c11⟩
      | ga p0 _ A B hne =>
        refine ⟨_, rfl, _, rfl, p, _, rfl, DGet.k (k := Sum.inr "giveahead") p6, _, rfl, iteF (iteF ?_)⟩
        refine comp_known _ a _ _ _ H6 "giveahead" ha6 (by simp) hi6 fun D0 ys H7 c7 eD py => ?_
        have ly := pr_len py
        refine chk_known _ (c7.get ha6) (c7.get p6) eD (shs_dp py) (known_checks hi6 (Nat.le_refl _) py) (.inl ⟨m2, 2, 1, rfl, c7.get g2, rfl, by rw [ly]; rfl⟩) fun H8 c8 => ?_
        have c08 := (c06.trans c7).trans c8
        cases wk py with
        | @cons y1 _ _ _ sh1 r1 =>
        cases r1
        obtain ⟨ta, l, v, rfl, _, h1, lk, kv⟩ := sh1
        have h1 := c8.get h1
        have lk := lk.mono c8 id
        have kv := kv.mono c8
        obtain ⟨us, hus, kus⟩ := lk
        have lus := pr_len kus
        have lus2 : us.length = Γ.length + 1 := by rw [lus]; simp
        have lpos : 0 < Γ.length := List.length_pos_iff.mpr hne
        refine ⟨_, rfl, D0, _, _, _, rfl, rfl, SqL.of (c8.get eD), atI_nat (j := 0) rfl, ta, _, rfl, SqT.of h1, rfl, _, _, rfl, _, _, rfl, rfl, ?_⟩
        refine ⟨_, rfl, rfl, _, rfl, iteF ?_⟩
        refine ⟨_, rfl, rfl, _, rfl, iteF ?_⟩
        refine ⟨_, rfl, rfl, _, rfl, iteT ?_⟩
        refine ⟨_, rfl, l, us, rfl, .inl (SqL.of hus), _, _, rfl, rfl, _, rfl, ?_⟩
        rw [decide_eq_false (by omega)]
        refine iteF ?_
        refine ⟨_, rfl, rfl, _, rfl, iteF ?_⟩
        refine ⟨_, rfl, 1, rfl, ?_⟩
        refine tno ?_
        refine lkS_sufF (k := 1) rfl ⟨us, hus, kus⟩ fun t1 H9 c9 n9 k9 => ?_
        obtain ⟨xs2, vB, hxs2, axs2, kB2⟩ := lkIx (i := 0) (LK.mono ⟨us, hus, kus⟩ c9 id) rfl
        refine ⟨_, rfl, l, xs2, _, vB, rfl, rfl, SqL.of hxs2, axs2, _, rfl, by show 3 ≤ sizeLine; decide, fun t2 ht2 => ?_⟩
        have c10 : Ch No H9 (upd H9 t2 (.tup [.str "ahead", vB, v])) := Ch.new ht2
        have k10 : KA (upd H9 t2 (.tup [.str "ahead", vB, v])) (.ref t2) (.nd .a B A) := .nd (f := .a) upd_same (kB2.mono c10) ((kv.mono c9).mono c10)
        generalize upd H9 t2 (.tup [.str "ahead", vB, v]) = H10 at c10 k10 ⊢
        refine ⟨by show 2 ≤ sizeLine; decide, fun t3 ht3 => ?_⟩
        have c11 : Ch No H10 (upd H10 t3 (.tup [.ref t1, .ref t2])) := Ch.new ht3
        exact q _ _ (((c08.trans c9).trans c10).trans c11) ⟨t3, t1, .ref t2, rfl, c08.free id n9, upd_same, (k9.mono c10 id).mono c11 id, k10.mono c11⟩
      | jn p0 q0 Γ0 Δ A B =>
        refine ⟨_, rfl, _, rfl, p, _, rfl, DGet.k (k := Sum.inr "join") p6, _, rfl, iteF (iteF ?_)⟩
        refine comp_known _ a _ _ _ H6 "join" ha6 (by simp) hi6 fun D0 ys H7 c7 eD py => ?_
        have ly := pr_len py
        refine chk_known _ (c7.get ha6) (c7.get p6) eD (shs_dp py) (known_checks hi6 (Nat.le_refl _) py) (.inl ⟨m3, 3, 2, rfl, c7.get g3, rfl, by rw [ly]; rfl⟩) fun H8 c8 => ?_
        have c08 := (c06.trans c7).trans c8
        have hlen := szs_len (Γ0 ++ Δ)
        cases wk py with
        | @cons y1 _ _ _ sh1 r1 =>
        cases r1 with
        | @cons y2 _ _ _ sh2 r2 =>
        cases r2
        obtain ⟨ta, l, v, rfl, _, h1, lk, kv⟩ := sh1
        obtain ⟨tb, m, vB, rfl, _, h2, lm, kB2⟩ := sh2
        have h1 := c8.get h1
        have h2 := c8.get h2
        have lk := lk.mono c8 id
        have lm := lm.mono c8 id
        have kv := kv.mono c8
        have kB2 := kB2.mono c8
        have eD8 := c8.get eD
        refine ⟨_, rfl, D0, _, _, _, rfl, rfl, SqL.of eD8, atI_nat (j := 0) rfl, ta, _, rfl, SqT.of h1, rfl, _, _, rfl, _, _, rfl, rfl, ?_⟩
        refine ⟨_, rfl, rfl, _, rfl, iteT ?_⟩
        refine ⟨_, rfl, _, rfl, D0, _, _, _, rfl, rfl, SqL.of eD8, atI_nat (j := 1) rfl, tb, _, _, _, rfl, rfl, SqT.of h2, atI_nat (j := 0) rfl, ?_⟩
        refine lkCatF lk lm (by show Γ0.length + Δ.length ≤ 1000; simp at hlen; omega) fun t1 H9 c9 n9 k9 => ?_
        refine ⟨_, rfl, _, rfl, D0, _, _, _, rfl, rfl, SqL.of (c9.get eD8), atI_nat (j := 1) rfl, tb, _, _, _, rfl, rfl, SqT.of (c9.get h2), atI_nat (j := 1) rfl, by show 3 ≤ sizeLine; decide, fun t2 ht2 => ?_⟩
        have c10 : Ch No H9 (upd H9 t2 (.tup [.str "with", v, vB])) := Ch.new ht2
        have k10 : KA (upd H9 t2 (.tup [.str "with", v, vB])) (.ref t2) (.nd .w A B) := .nd (f := .w) upd_same ((kv.mono c9).mono c10) ((kB2.mono c9).mono c10)
        generalize upd H9 t2 (.tup [.str "with", v, vB]) = H10 at c10 k10 ⊢
        refine ⟨by show 2 ≤ sizeLine; decide, fun t3 ht3 => ?_⟩
        have c11 : Ch No H10 (upd H10 t3 (.tup [.ref t1, .ref t2])) := Ch.new ht3
        exact q _ _ (((c08.trans c9).trans c10).trans c11) ⟨t3, t1, .ref t2, rfl, c08.free id n9, upd_same, (k9.mono c10 id).mono c11 id, k10.mono c11⟩
      | pt p0 Γ0 Δ A B _ =>
        refine ⟨_, rfl, _, rfl, p, _, rfl, DGet.k (k := Sum.inr "part") p6, _, rfl, iteF (iteF ?_)⟩
        refine comp_known _ a _ _ _ H6 "part" ha6 (by simp) hi6 fun D0 ys H7 c7 eD py => ?_
        have ly := pr_len py
        refine chk_known _ (c7.get ha6) (c7.get p6) eD (shs_dp py) (known_checks hi6 (Nat.le_refl _) py) (.inl ⟨m4, 3, 1, rfl, c7.get g4, rfl, by rw [ly]; rfl⟩) fun H8 c8 => ?_
        have c08 := (c06.trans c7).trans c8
        have py8 : Paired (fun y z => SH No H8 y z) ys _ := Paired.mapP (wk py) fun _ _ z => z.mono c8 fun _ q => q
        cases py8 with
        | @cons y1 _ _ _ sh1 r1 =>
        cases r1
        obtain ⟨ta, l, v, rfl, nl, h1, lk, kv⟩ := sh1
        refine ⟨_, rfl, D0, _, _, _, rfl, rfl, SqL.of (c8.get eD), atI_nat (j := 0) rfl, ta, _, rfl, SqT.of h1, rfl, _, _, rfl, _, _, rfl, rfl, ?_⟩
        refine ⟨_, rfl, rfl, _, rfl, iteF ?_⟩
        refine ⟨_, rfl, rfl, _, rfl, iteF ?_⟩
        refine ⟨_, rfl, rfl, _, rfl, iteF ?_⟩
        refine ⟨_, rfl, _, rfl, a, _, _, _, rfl, rfl, SqT.of (c08.get ha), atI_nat (j := 1) rfl, _, rfl, "part", _, [(p0, some (Γ0 ++ A :: B :: Δ, C))], D0, _, _, C, rfl, .pt p0 Γ0 Δ A B C, c8.get eD, .cons ⟨ta, l, v, rfl, nl, h1, lk, kv⟩ .nil, hz, fun t H' c' sn => ?_⟩
        obtain ⟨a', l', v', r1, r2, r3, r4, r5⟩ := sn
        exact q t H' (c08.trans c') ⟨a', l', v', r1, c08.free id r2, r3, r4, r5⟩
      | be p0 q0 Γ0 Δ Θ A B _ =>
        refine ⟨_, rfl, _, rfl, p, _, rfl, DGet.k (k := Sum.inr "behind") p6, _, rfl, iteT ⟨_, rfl, rfl, _, rfl, iteF (iteF ?_)⟩⟩
        refine comp_known _ a _ _ _ H6 "behind" ha6 (by simp) hi6 fun D0 ys H7 c7 eD py => ?_
        have ly := pr_len py
        refine chk_known _ (c7.get ha6) (c7.get p6) eD (shs_dp py) (known_checks hi6 (Nat.le_refl _) py) (.inr ⟨rfl, rfl, by rw [ly]; rfl⟩) fun H8 c8 => ?_
        have c08 := (c06.trans c7).trans c8
        have py8 : Paired (fun y z => SH No H8 y z) ys _ := Paired.mapP (wk py) fun _ _ z => z.mono c8 fun _ q => q
        cases py8 with
        | @cons y1 _ _ _ sh1 r1 =>
        cases r1 with
        | @cons y2 _ _ _ sh2 r2 =>
        cases r2
        obtain ⟨ta, l, v, rfl, nl, h1, lk, kv⟩ := sh1
        refine ⟨_, rfl, D0, _, _, _, rfl, rfl, SqL.of (c8.get eD), atI_nat (j := 0) rfl, ta, _, rfl, SqT.of h1, rfl, _, _, rfl, _, _, rfl, rfl, ?_⟩
        refine ⟨_, rfl, rfl, _, rfl, iteF ?_⟩
        refine ⟨_, rfl, rfl, _, rfl, iteF ?_⟩
        refine ⟨_, rfl, rfl, _, rfl, iteF ?_⟩
        refine ⟨_, rfl, _, rfl, a, _, _, _, rfl, rfl, SqT.of (c08.get ha), atI_nat (j := 1) rfl, _, rfl, "behind", _, [(p0, some (Γ0 ++ A :: Δ, C)), (q0, some (Θ, B))], D0, _, _, C, rfl, .be p0 q0 Γ0 Δ Θ A B C, c8.get eD, .cons ⟨ta, l, v, rfl, nl, h1, lk, kv⟩ (.cons sh2 .nil), hz, fun t H' c' sn => ?_⟩
        obtain ⟨a', l', v', r1, r2, r3, r4, r5⟩ := sn
        exact q t H' (c08.trans c') ⟨a', l', v', r1, c08.free id r2, r3, r4, r5⟩
      | ah p0 q0 Γ0 Δ Θ A B _ =>
        refine ⟨_, rfl, _, rfl, p, _, rfl, DGet.k (k := Sum.inr "ahead") p6, _, rfl, iteT ⟨_, rfl, rfl, _, rfl, iteT ⟨_, rfl, rfl, _, rfl, iteF ?_⟩⟩⟩
        refine comp_known _ a _ _ _ H6 "ahead" ha6 (by simp) hi6 fun D0 ys H7 c7 eD py => ?_
        have ly := pr_len py
        refine chk_known _ (c7.get ha6) (c7.get p6) eD (shs_dp py) (known_checks hi6 (Nat.le_refl _) py) (.inr ⟨rfl, rfl, by rw [ly]; rfl⟩) fun H8 c8 => ?_
        have c08 := (c06.trans c7).trans c8
        have py8 : Paired (fun y z => SH No H8 y z) ys _ := Paired.mapP (wk py) fun _ _ z => z.mono c8 fun _ q => q
        cases py8 with
        | @cons y1 _ _ _ sh1 r1 =>
        cases r1 with
        | @cons y2 _ _ _ sh2 r2 =>
        cases r2
        obtain ⟨ta, l, v, rfl, nl, h1, lk, kv⟩ := sh1
        refine ⟨_, rfl, D0, _, _, _, rfl, rfl, SqL.of (c8.get eD), atI_nat (j := 0) rfl, ta, _, rfl, SqT.of h1, rfl, _, _, rfl, _, _, rfl, rfl, ?_⟩
        refine ⟨_, rfl, rfl, _, rfl, iteF ?_⟩
        refine ⟨_, rfl, rfl, _, rfl, iteF ?_⟩
        refine ⟨_, rfl, rfl, _, rfl, iteF ?_⟩
        refine ⟨_, rfl, _, rfl, a, _, _, _, rfl, rfl, SqT.of (c08.get ha), atI_nat (j := 1) rfl, _, rfl, "ahead", _, [(p0, some (Γ0 ++ A :: Δ, C)), (q0, some (Θ, B))], D0, _, _, C, rfl, .ah p0 q0 Γ0 Δ Θ A B C, c8.get eD, .cons ⟨ta, l, v, rfl, nl, h1, lk, kv⟩ (.cons sh2 .nil), hz, fun t H' c' sn => ?_⟩
        obtain ⟨a', l', v', r1, r2, r3, r4, r5⟩ := sn
        exact q t H' (c08.trans c') ⟨a', l', v', r1, c08.free id r2, r3, r4, r5⟩
end
end WW
/-! A way is walked. -/
namespace WW
open PySem PySem.Spec PyProof.Rows L2
section
variable {P : Program} {w : World} {K : PySem.W.Frag} {mg : Str → Option Value} {base : Heap} {fd : Nat → FuncData}
def spWalked : Sp := fun vs H Q _ => ∃ (l : Addr) (v : V) (A C : Kd), vs = [.ref l, v] ∧ LK H l [A] ∧ KA H v C ∧ D [A] C ∧ A.size + C.size ≤ 14 ∧ ∀ H', Ch No H H' → Q (.bl true) H'
theorem ok_walked (T : TX w K mg fd) : FnOk P w K mg base CX0 64 (He.ga K "_law_walked") (fd 46) P_l_walked spWalked := by
  refine T.d_l_walked.ok sc_l_walked (fun vs H Q E h => ?_) (fun cdv A0 outer s H vs Q E0 hr h => ?_)
  · obtain ⟨l, v, A, C, rfl, _⟩ := h
    rfl
  obtain ⟨l, v, A, C, rfl, ⟨us, hl, hus⟩, kv, hD, hz, q⟩ := h
  have G1 := ok_ldt (P := P) (base := base) T
  have G2 := ok_pfor (P := P) (base := base) T
  have G3 := ok_shown (P := P) (base := base) T 14
  have pA := A.size_pos
  have pC := C.size_pos
  have fA := Kd.forms_size A
  have fC := Kd.forms_size C
  refine ⟨_, pss_one (ps_ret (pe_and (pe_cmpR op_isBl (pe_call G1 hr rfl T.g_leads_to T.d_leads_to.kp T.d_leads_to.b .nil pass0 (pa_cons (pe_ix ix_list (pv 0) pe_int (fun _ _ => rfl)) (pa_cons (pv 1) pa_nil))) pe_bl (by rfl))
    (pe_one (pe_cmpR (op_eqD hr.units) (pe_call G3 (hr.mono (by decide)) rfl T.g_l_shown T.d_l_shown.kp T.d_l_shown.b .nil pass0 (pa_cons (pe_call G2 (hr.mono (by decide)) rfl T.g_paper_for T.d_paper_for.kp T.d_paper_for.b .nil pass0 (pa_cons (pe_callTy call_list_of (by rfl) T.z_list (by decide +kernel) (pa_cons (pv 0) pa_nil)) (pa_cons (pv 1) pa_nil))) pa_nil)) (pe_tup (pa_cons (pv 0) (pa_cons (pv 1) pa_nil))) (by rfl))))), ?_⟩
  cases hus with
  | @cons u _ _ _ ku r1 =>
  cases r1
  refine ⟨_, rfl, l, _, _, _, rfl, rfl, SqL.of hl, atI_nat (j := 0) rfl, _, rfl, u, v, A, C, rfl, ku, kv, hz, fun b H1 c1 hb => ?_⟩
  have hb' := hb.mpr hD
  subst hb'
  refine ⟨true, true, rfl, rfl, true, rfl, iteT ?_⟩
  refine ⟨_, rfl, l, [u], rfl, .inl (SqL.of (c1.get hl)), fun t ht => ?_⟩
  have c2 : Ch No H1 (upd H1 t (.lst [u])) := Ch.new ht
  have c12 := c1.trans c2
  have lt : LK (upd H1 t (.lst [u])) t [A] := ⟨_, upd_same, .cons (ku.mono c12) .nil⟩
  refine ⟨_, rfl, t, v, [A], C, rfl, lt, kv.mono c12, by simp, by simpa [szs] using hz, fun p H2 c3 hp => ?_⟩
  have pp : PAp H2 p [A] C := by
    rcases hp with ⟨_, n⟩ | z
    · exact absurd hD n
    · exact z
  refine ⟨p, [A], C, rfl, pp, by rw [fs_one]; omega, by simpa [szs] using hz, fun x H3 c4 sn => ?_⟩
  have c13 := (c12.trans c3).trans c4
  refine ⟨_, rfl, _, rfl, by show 2 ≤ sizeLine; decide, fun y hy => ?_⟩
  have c5 : Ch No H3 (upd H3 y (.tup [.ref l, v])) := Ch.new hy
  have c15 := c13.trans c5
  have lk5 : LK (upd H3 y (.tup [.ref l, v])) l [A] := ⟨_, c15.get hl, .cons (ku.mono c15) .nil⟩
  have kv5 := kv.mono c15
  obtain ⟨a', l', v', rfl, _, e3, e4, e5⟩ := sn
  have sh : SH No (upd H3 y (.tup [.ref l, v])) (.ref a') ([A], C) := ⟨a', l', v', rfl, id, c5.2 _ _ e3, e4.mono c5 id, e5.mono c5⟩
  have sy : SH No (upd H3 y (.tup [.ref l, v])) (.ref y) ([A], C) := ⟨y, l, v, rfl, id, upd_same, lk5, kv5⟩
  have shp : SeqAt.shaped (prD ([A], C)) = true := prD_shaped (fun k hk => lk5.low k hk) (fun k hk => by rw [List.mem_singleton] at hk; subst hk; omega) kv5.low (by show C.size ≤ 50; omega)
  refine ⟨_, _, sh.dp, sy.dp, shp, shp, ?_⟩
  rw [prD_eqv, decide_eq_true rfl]
  exact q _ c15
end
end WW
/-! Both kinds are right. -/
namespace WW
open PySem PySem.Spec PyProof.Rows L2
theorem DueV.mono {S : Addr → Prop} {H H' : Hp} {r : Bool} {k1 k2 k3 : Kd} {v : V} (h : DueV H r k1 k2 k3 v) (c : Ch No H H') : DueV H' r k1 k2 k3 v := by
  rcases h with ⟨a, p, e, l⟩ | ⟨a, b, p, e, l⟩ | ⟨a, b, l⟩
  · exact .inl ⟨a, p, e, l.mono c id⟩
  · exact .inr (.inl ⟨a, b, p, e, l.mono c id⟩)
  · exact .inr (.inr ⟨a, b, l.mono c⟩)
theorem finK_size (r : Bool) (k1 k2 k3 : Kd) : (finK r k1 k2 k3).size = k1.size + k2.size + 3 * k3.size := by
  cases r
  · show (belowK k1 k2 k3).size = _
    simp only [belowK, Kd.size]
    omega
  · show (aboveK k1 k2 k3).size = _
    simp only [aboveK, Kd.size]
    omega
theorem finK_tup {H : Hp} {r : Bool} {k1 k2 k3 : Kd} {v : V} (h : KA H v (finK r k1 k2 k3)) : ∃ a xs, v = .ref a ∧ H a = some (.tup xs) := by
  obtain ⟨a, u, l, e, h⟩ := h.head
  exact ⟨a, _, e, h⟩
theorem lst_same {K : PySem.W.Frag} {H : Hp} {p p' : Addr} {k : Kd} (h : LK H p [k]) (h' : LK H p' [k]) (hz : k.size ≤ 50) : ∃ d, Dp K H (.ref p) d ∧ Dp K H (.ref p') d ∧ SeqAt.shaped d = true ∧ PyData.eqv d d = true := by
  refine ⟨_, h.dp, h'.dp, lnD_shaped h.low (fun z hz' => by rw [List.mem_singleton] at hz'; subst hz'; exact hz), ?_⟩
  have e := lnD_eqv [k] [k]
  rw [decide_eq_true rfl] at e
  simpa only [PyData.eqv] using e
theorem DueV.same {K : PySem.W.Frag} {H : Hp} {r : Bool} {k1 k2 k3 : Kd} {v v' : V} (h : DueV H r k1 k2 k3 v) (h' : DueV H r k1 k2 k3 v') (z1 : k1.size ≤ 3) (z2 : k2.size ≤ 3) (z3 : k3.size ≤ 3) : ∃ d, Dp K H v d ∧ Dp K H v' d ∧ SeqAt.shaped d = true ∧ PyData.eqv d d = true := by
  have fz := finK_size r k1 k2 k3
  rcases h with ⟨a, p, rfl, l⟩ | ⟨a, b, p, rfl, l⟩ | ⟨a, b, l⟩ <;> rcases h' with ⟨a', p', rfl, l'⟩ | ⟨a', b', p', rfl, l'⟩ | ⟨a', b', l'⟩
  · exact lst_same l l' (by omega)
  · exact absurd a' a
  · exact absurd a' a
  · exact absurd a a'
  · exact lst_same l l' (by omega)
  · exact absurd b' b
  · exact absurd a a'
  · exact absurd b b'
  · exact ⟨_, l.dp, l'.dp, kdD_shaped l.low (by omega), by rw [kdD_eqv]; exact decide_eq_true rfl⟩
theorem ch_less {p d : Addr} {H H' : Hp} (c : Ch (fun b => b = p ∨ b = d) H H') (h : H d = none) : Ch (· = p) H H' := ⟨fun b u e n => c.1 b u e fun z => z.elim n fun z => (by rw [z, h] at e; cases e), c.2⟩
section
variable {P : Program} {w : World} {K : PySem.W.Frag} {mg : Str → Option Value} {base : Heap} {fd : Nat → FuncData}
def spRight : Sp := fun vs H Q _ => ∃ (p : Addr) (r : Bool) (n : Nat), vs = [.ref p, .bl r] ∧ SpI H p n ∧ n + 32 ≤ 1000000 ∧ ∀ H', Ch (· = p) H H' → SpI H' p (n + 32) → Q (.bl true) H'
theorem ok_right (T : TX w K mg fd) : FnG P w K mg base CX0 66 (He.ga K "_law_right") (fd 47) P_l_right spRight := by
  refine T.d_l_right.okG sc_l_right (fun vs H Q E h => ?_) (fun cdv A0 outer s H vs Q E0 hg hr h => ?_)
  · obtain ⟨p, r, n, rfl, _⟩ := h
    rfl
  obtain ⟨p, r, n, rfl, hs, hn, q⟩ := h
  have GL := ok_letters (P := P) (base := base) T
  have GP := ok_pool (P := P) (base := base) T
  have G3 := ok_three (P := P) (base := base) T
  have GD := ok_due (P := P) (base := base) T
  have GT := ok_told (P := P) (base := base) T
  have GF := ok_fits (P := P) (base := base) T
  have GZ := ok_size (P := P) (base := base) T 30
  have GW := ok_walked (P := P) (base := base) T
  have hu := hr.units
  refine ⟨_, pss_cons (ps_par (i := 2) (j := 3) rfl sc_l_right.nd rfl rfl (by decide) rfl rfl (pa_cons (pe_call GL (hr.mono (by decide)) rfl T.g_l_letters T.d_l_letters.kp T.d_l_letters.b .nil pass0 (pa_cons (pv 0) pa_nil)) (pa_cons pe_dnewK pa_nil)) (by rfl))
    (pss_cons (ps_set (i := 4) sc_l_right.nd rfl (Or.inl rfl) (pe_call G3 (hr.mono (by decide)) rfl T.g_l_three T.d_l_three.kp T.d_l_three.b .nil pass0 (pa_cons (pv 0) (pa_cons (pe_call GP (hr.mono (by decide)) rfl T.g_l_pool T.d_l_pool.kp T.d_l_pool.b .nil pass0 (pa_cons (pv 0) (pa_cons (pv 2) pa_nil))) (pa_cons (pv 1) pa_nil)))))
    (pss_cons (ps_set (i := 5) sc_l_right.nd rfl (Or.inl rfl) (pe_callG GD hg (hr.mono (by decide)) rfl T.g_l_due T.d_l_due.kp T.d_l_due.b pass0 (pa_cons (pv 4) (pa_cons (pv 1) (pa_cons (pv 2) (pa_cons (pv 3) pa_nil))))))
    (pss_cons (ps_if (PW.pt (pw_or (pt_cmpR (op_neD hu) (pe_call GT hr rfl T.g_l_told T.d_l_told.kp T.d_l_told.b .nil pass0 (pa_cons (pv 4) (pa_cons (pv 1) (pa_cons pe_bl pa_nil)))) (pv 5) (nomark _))
        (pw_or1 (pt_cmpR (op_neD hu) (pe_call GT hr rfl T.g_l_told T.d_l_told.kp T.d_l_told.b .nil pass0 (pa_cons (pv 4) (pa_cons (pv 1) (pa_cons pe_bl pa_nil)))) (pv 5) (nomark _))))) (pss_one (ps_ret pe_bl)) pss_nil)
    (pss_cons (ps_if (pt_val (pe_callB call_isi (by rfl) T.z_isinstance (by decide +kernel) (pa_cons (pv 5) (pa_cons (pe_bltn (v := .ty "list") (by rfl) T.z_list boot_list rfl) pa_nil)))) (pss_one (ps_ret pe_bl)) pss_nil)
    (pss_cons (ps_for PassesOwn.never rfl (pi_list (pe_slice sl_list (pv 4) po_none (po_some pe_int))) (pg_name (i := 6) sc_l_right.nd rfl (Or.inl rfl))
      (pss_cons (ps_asg (pe_ifExp (pt_val (pv 1)) (pe_tup (pa_cons (pe_lst (pa_cons (pv 6) pa_nil)) (pa_cons (pv 5) pa_nil))) (pe_tup (pa_cons (pe_lst (pa_cons (pv 5) pa_nil)) (pa_cons (pv 6) pa_nil)))) (pg_tup rfl (pgs_cons (pg_name (i := 7) sc_l_right.nd rfl (Or.inl rfl)) (pgs_cons (pg_name (i := 8) sc_l_right.nd rfl (Or.inl rfl)) pgs_nil))))
      (pss_one (ps_if (PW.pt (pw_or (pt_val (pe_call GF (hr.mono (by decide)) rfl T.g_l_fits T.d_l_fits.kp T.d_l_fits.b .nil pass0 (pa_cons (pv 7) (pa_cons (pv 8) pa_nil))))
          (pw_or1 (pt_cmpR op_lt (pe_callB (cr_max rfl) (by rfl) T.z_max (by decide +kernel) (pa_cons (pe_lc (own := [("_law_part", 9)]) (g := gName 9) (tt := tYes) rfl sc_l_right.nd (pi_list (pv 4)) (blkOk_by (N := N_l_right) (sc := defScope s_l_right) (by decide +kernel))
            (fun _ _ _ _ _ => pg_name (i := 9) sc_l_right.nd rfl (Or.inl rfl)) (fun _ _ _ _ _ => pts_nil) (fun _ _ _ _ _ => pe_call GZ (hr.mono (by decide)) rfl T.g_l_size T.d_l_size.kp T.d_l_size.b .nil pass0 (pa_cons (pv 9) pa_nil))) pa_nil)) pe_int (nomark _)))))
        (pss_one (ps_if (pt_not (pt_val (pe_call GW (hr.mono (by decide)) rfl T.g_l_walked T.d_l_walked.kp T.d_l_walked.b .nil pass0 (pa_cons (pv 7) (pa_cons (pv 8) pa_nil))))) (pss_one (ps_ret pe_bl)) pss_nil)) pss_nil))))
    (pss_one (ps_ret pe_bl))))))), ?_⟩
  refine ⟨_, rfl, p, n, rfl, hs, by omega, fun z H1 nm c1 s1 => ?_⟩
  intro d hd
  have c2 : Ch No H1 (upd H1 d (.dK ([] : List (Key × V)))) := Ch.new hd
  have d2 : (upd H1 d (.dK ([] : List (Key × V)))) d = some (.dK ([] : List (Key × V))) := upd_same
  have dp : d ≠ p := fun e => by
    obtain ⟨_, a, b, t, h, _⟩ := s1
    rw [e, h] at hd
    cases hd
  have s2 := s1.mono c2 id
  have f0 : H d = none := c1.free dp hd
  generalize upd H1 d (.dK ([] : List (Key × V))) = H2 at c2 d2 s2 ⊢
  have c02 := c1.trans c2.any
  refine ⟨_, _, rfl, _, rfl, _, rfl, _, rfl, p, n + 8, z, rfl, nm, s2, by omega, fun l ks H3 hl c3 s3 lk h7 hks => ?_⟩
  have lp : l ≠ p := fun e => by
    obtain ⟨_, a, b, t, h, _⟩ := s2
    rw [e, h] at hl
    cases hl
  have d3 := c3.1 _ _ d2 dp
  refine ⟨_, rfl, p, l, r, n + 8 + 20, ks, z, rfl, s3, by omega, lk, lp, h7, hks, fun t k1 k2 k3 H4 ht c4 s4 lt g1 g2 g3 => ?_⟩
  have d4 := c4.1 _ _ d3 dp
  have td : t ≠ d := fun e => by rw [e, d3] at ht; cases ht
  have z1 := g1.1
  have z2 := g2.1
  have z3 := g3.1
  have c04 := (c02.trans c3).trans c4
  refine ⟨_, rfl, _, rfl, _, rfl, _, rfl, t, r, z, d, k1, k2, k3, rfl, lt, d4, nm.le, g1, g2, g3, fun v H5 c5 dv => ?_⟩
  have c05 : Ch (· = p) H H5 := ch_less (d := d) ((c04.mono fun b e => .inl e).trans (c5.mono fun b e => .inr e)) f0
  have lt5 : LK H5 t [k1, k2, k3] := lt.mono c5 td
  have s5 := s4.mono c5 (fun e => dp e.symm)
  refine ⟨_, rfl, _, rfl, t, r, false, k1, k2, k3, rfl, lt5, z1, z2, z3, fun v1 H6 c6 dv1 => ?_⟩
  obtain ⟨d1, e1, e2, e3, e4⟩ := DueV.same (K := K) dv1 (dv.mono (S := No) c6) z1 z2 z3
  refine ⟨_, rfl, d1, d1, e1, e2, e3, e3, _, rfl, ?_⟩
  rw [e4]
  refine iteF ?_
  refine ⟨_, rfl, _, rfl, t, r, true, k1, k2, k3, rfl, lt5.mono c6 id, z1, z2, z3, fun v2 H7 c7 dv2 => ?_⟩
  obtain ⟨d2', e5, e6, e7, e8⟩ := DueV.same (K := K) dv2 (dv.mono (S := No) (c6.trans c7)) z1 z2 z3
  refine ⟨_, rfl, d2', d2', e5, e6, e7, e7, _, rfl, ?_⟩
  rw [e8]
  refine iteF ?_
  have c57 := c6.trans c7
  have c07 := c05.trans c57.any
  have s7 := s5.mono c57 id
  have dv7 := dv.mono (S := No) c57
  have kL : PySem.W.kitOne K (.type "list") (.type "list") = some true := kit_ty (by decide +kernel)
  have kT : PySem.W.kitOne K (.type "tuple") (.type "list") = some false := kit_ty (by decide +kernel)
  have fz := finK_size r k1 k2 k3
  have fin : ∀ H', Ch No H7 H' → Q (.bl true) H' := fun H' c => q H' (c07.trans c.any) (s7.mono c id)
  clear e1 e2 e3 e4 e5 e6 e7 e8
  have lists : ∀ a k, v = .ref a → LK H7 a [k] → ∃ xs, v = .ref a ∧ H7 a = some (.lst xs) := fun a k e l => let ⟨us, h, _⟩ := l; ⟨us, e, h⟩
  have kinds : (∃ a xs, v = .ref a ∧ H7 a = some (.lst xs)) ∨ (Ld r k1 k3 ∧ Ld r k2 k3 ∧ KA H7 v (finK r k1 k2 k3)) := by
    rcases dv7 with ⟨_, a, e, l⟩ | ⟨_, _, a, e, l⟩ | l
    · exact .inl ⟨a, lists a _ e l⟩
    · exact .inl ⟨a, lists a _ e l⟩
    · exact .inr l
  rcases kinds with ⟨a, xs, rfl, ha⟩ | ⟨l1, l2, kv⟩
  · exact ⟨_, rfl, .ref a, .ty "list", .type "list", .type "list", true, rfl, .ty _, .base (.lst ha), kL, _, rfl, iteT (fin H7 (Ch.refl _ _))⟩
  obtain ⟨av, xv, ev, hv⟩ := finK_tup kv
  refine ⟨_, rfl, v, .ty "list", .type "tuple", .type "list", false, rfl, .ty _, .base (by rw [ev]; exact .tup hv), kT, _, rfl, iteF ?_⟩
  obtain ⟨us, t7, kas⟩ := lt5.mono c57 id
  cases kas with
  | @cons v1 _ _ _ a1 r1 =>
  cases r1 with
  | @cons v2 _ _ _ a2 r2 =>
  cases r2 with
  | @cons v3 _ _ _ a3 r3 =>
  cases r3
  refine ⟨_, rfl, 2, rfl, ?_⟩
  refine slL _ _ t7 fun t2 H8 c8 n8 e8 => ?_
  have t8 := c8.get t7
  have kas : KAs H8 [v1, v2, v3] [k1, k2, k3] := .cons (a1.mono c8) (.cons (a2.mono c8) (.cons (a3.mono c8) .nil))
  have kv8 := kv.mono c8
  have e8 : H8 t2 = some (.lst [v1, v2]) := e8
  refine ⟨t2, rfl, ⟨_, SqL.of e8⟩, for_list (xs := [v1, v2]) (fun i σ H' => ∃ x6 x7 x8, σ = [some (.ref p), some (.bl r), some (.str z), some (.ref d), some (.ref t), some v, x6, x7, x8, none] ∧ Ch No H8 H') ⟨_, _, _, rfl, Ch.refl _ _⟩ ?_ ?_ ?_⟩
  · rintro i σ H' _ ⟨x6, x7, x8, rfl, c⟩
    exact SqL.of (c.get e8)
  · rintro i x σ H9 ei ⟨x6, x7, x8, rfl, c9⟩
    have hx : ∃ k, (k = k1 ∨ k = k2) ∧ KA H8 x k := by
      obtain ⟨k, h1, h2⟩ := pr_at (show KAs H8 [v1, v2] [k1, k2] from .cons (a1.mono c8) (.cons (a2.mono c8) .nil)) ei
      have := List.mem_of_getElem? h1
      exact ⟨k, by simpa using this, h2⟩
    obtain ⟨k, hk, kx⟩ := hx
    have kx9 := kx.mono c9
    have kv9 := kv8.mono c9
    have zk : k.size ≤ 3 := by rcases hk with e | e <;> subst e <;> assumption
    have zk2 : k.size ≤ k1.size ∨ k.size ≤ k2.size := by rcases hk with e | e <;> subst e <;> simp
    refine ⟨_, rfl, r, rfl, ?_⟩
    cases r with
    | true =>
      refine iteT ⟨_, rfl, by show 1 ≤ sizeLine; decide, fun m hm => ?_⟩
      have cm : Ch No H9 (upd H9 m (.lst [x])) := Ch.new hm
      refine ⟨_, rfl, by show 2 ≤ sizeLine; decide, fun y hy => ?_⟩
      have cy : Ch No (upd H9 m (.lst [x])) (upd (upd H9 m (.lst [x])) y (.tup [.ref m, v])) := Ch.new hy
      have lm : LK (upd (upd H9 m (.lst [x])) y (.tup [.ref m, v])) m [k] := ⟨_, cy.get upd_same, .cons ((kx9.mono cm).mono cy) .nil⟩
      have gv : KA (upd (upd H9 m (.lst [x])) y (.tup [.ref m, v])) v (finK true k1 k2 k3) := (kv9.mono cm).mono cy
      refine ⟨y, _, rfl, SqT.of upd_same, rfl, _, _, rfl, _, _, rfl, rfl, ?_⟩
      have cmy := cm.trans cy
      generalize upd (upd H9 m (.lst [x])) y (.tup [.ref m, v]) = H10 at lm gv cmy ⊢
      have dd : D [k] (finK true k1 k2 k3) := by
        rcases hk with e | e <;> subst e
        · exact above_one l1 l2
        · exact above_other l1 l2
      have c10 := c9.trans cmy
      refine ⟨_, rfl, _, rfl, m, v, [k], (finK true k1 k2 k3), rfl, lm, gv, by simp, fun z hz => (by rw [List.mem_singleton] at hz; subst hz; omega), by omega, fun b H11 c11 hb => ⟨b, rfl, ?_⟩⟩
      cases b with
      | true =>
        have hz : k.size + (finK true k1 k2 k3).size ≤ 14 := by simpa [szs] using hb rfl
        refine iteT ?_
        exact ⟨_, rfl, _, rfl, m, v, k, (finK true k1 k2 k3), rfl, lm.mono c11 id, gv.mono c11, dd, hz, fun H12 c12 => ⟨true, rfl, iteF ⟨_, _, _, rfl, (c10.trans c11).trans c12⟩⟩⟩
      | false =>
        refine iteF ?_
        have c811 := c10.trans c11
        have t11 := c811.get t8
        refine ⟨_, rfl, t, rfl, ⟨_, SqL.of t11⟩, fun E hE => ?_⟩
        refine lc_mapL (S := No) (xs := [v1, v2, v3]) (fun i y _ => ∃ k', [k1, k2, k3][i]? = some k' ∧ y = .int ((k'.size : Nat) : Int)) hE id t11 id (by simp) (fun i y H H' z _ => z) (fun i x H3 e c Nx Z hN => ?_) (fun ys H12 c12 eD el er => ?_)
        · obtain ⟨k', e1, e2⟩ := pr_at (KAs.mono (KAs.mono kas c811) c) e
          have zk : k'.size ≤ 30 := by
            have := List.mem_of_getElem? e1
            simp only [List.mem_cons, List.not_mem_nil, or_false] at this
            rcases this with e | e | e <;> subst e <;> omega
          exact ⟨rfl, _, rfl, x, k', rfl, e2, zk, hN _ _ (Ch.refl _ _) ⟨k', e1, rfl⟩⟩
        have e3 := ints_of (ks := [k1, k2, k3]) (f := fun z => ((z.size : Nat) : Int)) el er
        refine ⟨E, _, rfl, by rw [← e3]; exact SqL.of eD, by simp, fun mx _ hmx => ⟨_, _, rfl, rfl, _, rfl, ?_⟩⟩
        refine ite2 (fun cc => ?_) (fun _ => ⟨_, _, _, rfl, c811.trans c12⟩)
        have hz : k.size + (finK true k1 k2 k3).size ≤ 14 := by
          have h0 := of_decide_eq_true cc
          have g1 : (k1.size : Int) ≤ mx := hmx _ (List.mem_cons_self ..)
          have g2 : (k2.size : Int) ≤ mx := hmx _ (List.mem_cons_of_mem _ (List.mem_cons_self ..))
          have g3 : (k3.size : Int) ≤ mx := hmx _ (List.mem_cons_of_mem _ (List.mem_cons_of_mem _ (List.mem_cons_self ..)))
          omega
        have c112 := c11.trans c12
        exact ⟨_, rfl, _, rfl, m, v, k, (finK true k1 k2 k3), rfl, lm.mono c112 id, gv.mono c112, dd, hz, fun H13 c13 => ⟨true, rfl, iteF ⟨_, _, _, rfl, (c811.trans c12).trans c13⟩⟩⟩
    | false =>
      refine iteF ⟨_, rfl, by show 1 ≤ sizeLine; decide, fun m hm => ?_⟩
      have cm : Ch No H9 (upd H9 m (.lst [v])) := Ch.new hm
      refine ⟨_, rfl, by show 2 ≤ sizeLine; decide, fun y hy => ?_⟩
      have cy : Ch No (upd H9 m (.lst [v])) (upd (upd H9 m (.lst [v])) y (.tup [.ref m, x])) := Ch.new hy
      have lm : LK (upd (upd H9 m (.lst [v])) y (.tup [.ref m, x])) m [finK false k1 k2 k3] := ⟨_, cy.get upd_same, .cons ((kv9.mono cm).mono cy) .nil⟩
      have gv : KA (upd (upd H9 m (.lst [v])) y (.tup [.ref m, x])) x k := (kx9.mono cm).mono cy
      refine ⟨y, _, rfl, SqT.of upd_same, rfl, _, _, rfl, _, _, rfl, rfl, ?_⟩
      have cmy := cm.trans cy
      generalize upd (upd H9 m (.lst [v])) y (.tup [.ref m, x]) = H10 at lm gv cmy ⊢
      have dd : D [finK false k1 k2 k3] k := by
        rcases hk with e | e <;> subst e
        · exact below_one l1 l2
        · exact below_other l1 l2
      have c10 := c9.trans cmy
      refine ⟨_, rfl, _, rfl, m, x, [(finK false k1 k2 k3)], k, rfl, lm, gv, by simp, fun z hz => (by rw [List.mem_singleton] at hz; subst hz; omega), by omega, fun b H11 c11 hb => ⟨b, rfl, ?_⟩⟩
      cases b with
      | true =>
        have hz : (finK false k1 k2 k3).size + k.size ≤ 14 := by simpa [szs] using hb rfl
        refine iteT ?_
        exact ⟨_, rfl, _, rfl, m, x, (finK false k1 k2 k3), k, rfl, lm.mono c11 id, gv.mono c11, dd, hz, fun H12 c12 => ⟨true, rfl, iteF ⟨_, _, _, rfl, (c10.trans c11).trans c12⟩⟩⟩
      | false =>
        refine iteF ?_
        have c811 := c10.trans c11
        have t11 := c811.get t8
        refine ⟨_, rfl, t, rfl, ⟨_, SqL.of t11⟩, fun E hE => ?_⟩
        refine lc_mapL (S := No) (xs := [v1, v2, v3]) (fun i y _ => ∃ k', [k1, k2, k3][i]? = some k' ∧ y = .int ((k'.size : Nat) : Int)) hE id t11 id (by simp) (fun i y H H' z _ => z) (fun i x H3 e c Nx Z hN => ?_) (fun ys H12 c12 eD el er => ?_)
        · obtain ⟨k', e1, e2⟩ := pr_at (KAs.mono (KAs.mono kas c811) c) e
          have zk : k'.size ≤ 30 := by
            have := List.mem_of_getElem? e1
            simp only [List.mem_cons, List.not_mem_nil, or_false] at this
            rcases this with e | e | e <;> subst e <;> omega
          exact ⟨rfl, _, rfl, x, k', rfl, e2, zk, hN _ _ (Ch.refl _ _) ⟨k', e1, rfl⟩⟩
        have e3 := ints_of (ks := [k1, k2, k3]) (f := fun z => ((z.size : Nat) : Int)) el er
        refine ⟨E, _, rfl, by rw [← e3]; exact SqL.of eD, by simp, fun mx _ hmx => ⟨_, _, rfl, rfl, _, rfl, ?_⟩⟩
        refine ite2 (fun cc => ?_) (fun _ => ⟨_, _, _, rfl, c811.trans c12⟩)
        have hz : (finK false k1 k2 k3).size + k.size ≤ 14 := by
          have h0 := of_decide_eq_true cc
          have g1 : (k1.size : Int) ≤ mx := hmx _ (List.mem_cons_self ..)
          have g2 : (k2.size : Int) ≤ mx := hmx _ (List.mem_cons_of_mem _ (List.mem_cons_self ..))
          have g3 : (k3.size : Int) ≤ mx := hmx _ (List.mem_cons_of_mem _ (List.mem_cons_of_mem _ (List.mem_cons_self ..)))
          omega
        have c112 := c11.trans c12
        exact ⟨_, rfl, _, rfl, m, x, (finK false k1 k2 k3), k, rfl, lm.mono c112 id, gv.mono c112, dd, hz, fun H13 c13 => ⟨true, rfl, iteF ⟨_, _, _, rfl, (c811.trans c12).trans c13⟩⟩⟩
  · rintro σ H9 ⟨x6, x7, x8, rfl, c9⟩
    exact fin H9 (c8.trans c9)
end
end WW
/-! The law. -/
namespace WW
open PySem PySem.Spec PyProof.Rows L2
theorem ch_less0 {p : Addr} {H H' : Hp} (c : Ch (· = p) H H') (h : H p = none) : Ch No H H' := ⟨fun b u e _ => c.1 b u e fun z => (by rw [z, h] at e; cases e), c.2⟩
theorem sql_ch {K : PySem.W.Frag} {H H' : Hp} {a : Addr} {xs : List V} (h : SqL K H a xs) (c : Ch No H H') : SqL K H' a xs := by
  rcases h with (h | ⟨o, h⟩) | h
  · exact .inl (.inl (c.get h))
  · exact .inl (.inr ⟨o, c.get h⟩)
  · exact .inr h
section
variable {P : Program} {w : World} {K : PySem.W.Frag} {mg : Str → Option Value} {base : Heap} {fd : Nat → FuncData}
def spLawW (K : PySem.W.Frag) : Sp := fun vs H Q _ => ∃ (a : Addr) (ns : List Int), vs = [.ref a] ∧ SqL K H a (ns.map V.int) ∧ ns.length ≤ 63 ∧ (∀ z ∈ ns, Builtin.Int.intBits z ≤ 1048576) ∧ ∀ H', Q (.bl true) H'
theorem ok_lawW (T : TX w K mg fd) : FnG P w K mg base CX0 67 (He.ga K "law") (fd 48) P_law (spLawW K) := by
  refine T.d_law.okG sc_law (fun vs H Q E h => ?_) (fun cdv A0 outer s H vs Q E0 hg hr h => ?_)
  · obtain ⟨a, ns, rfl, _⟩ := h
    rfl
  obtain ⟨a, ns, rfl, hS, hl, hb, q⟩ := h
  have GS := ok_spring (P := P) (base := base) T
  have GR := ok_right (P := P) (base := base) T
  refine ⟨_, pss_cons (ps_for PassesOwn.never rfl (pi_range1 (by rfl) T.z_range (pa_cons (pe_callB (call_max2 rfl) (by rfl) T.z_max (by decide +kernel) (pa_cons pe_int (pa_cons (pe_callB (call_min2 rfl) (by rfl) T.z_min (by decide +kernel) (pa_cons pe_int (pa_cons (pe_callB call_len_seq (by rfl) T.z_len boot_len (pa_cons (pv 0) pa_nil)) pa_nil))) pa_nil))) pa_nil)) (pg_name (i := 1) sc_law.nd rfl (Or.inl rfl))
      (pss_cons (ps_set (i := 2) sc_law.nd rfl (Or.inl rfl) (pe_call GS (hr.mono (by decide)) rfl T.g_l_spring T.d_l_spring.kp T.d_l_spring.b .nil pass0 (pa_cons (pv 0) (pa_cons (pv 1) pa_nil))))
      (pss_one (ps_if (PW.pt (pw_or (pt_not (pt_val (pe_callG GR hg hr rfl T.g_l_right T.d_l_right.kp T.d_l_right.b pass0 (pa_cons (pv 2) (pa_cons pe_bl pa_nil))))) (pw_or1 (pt_not (pt_val (pe_callG GR hg hr rfl T.g_l_right T.d_l_right.kp T.d_l_right.b pass0 (pa_cons (pv 2) (pa_cons pe_bl pa_nil)))))))) (pss_one (ps_ret pe_bl)) pss_nil))))
    (pss_one (ps_ret pe_bl)), ?_⟩
  refine ⟨_, rfl, a, _, rfl, .inl hS, _, _, rfl, _, _, rfl, ?_⟩
  generalize hN : (if (if (((ns.map V.int).length : Nat) : Int) < 6 then (((ns.map V.int).length : Nat) : Int) else 6) > 3 then (if (((ns.map V.int).length : Nat) : Int) < 6 then (((ns.map V.int).length : Nat) : Int) else 6) else 3) = N
  have hN6 : 0 ≤ N ∧ N ≤ 6 := by
    rw [← hN]
    repeat' split
    all_goals omega
  refine ⟨_, rfl, by omega, by omega, ?_⟩
  refine for_range (lo := 0) (n := N.toNat) (fun i σ H' => ∃ x1 x2, σ = [some (.ref a), x1, x2] ∧ Ch No H H') ⟨_, _, rfl, Ch.refl _ _⟩ ?_ ?_
  · rintro i σ H1 hi ⟨x1, x2, rfl, c1⟩
    have hS1 : SqL K H1 a (ns.map V.int) := sql_ch hS c1
    refine ⟨_, rfl, _, rfl, a, ns, i, (by rw [Int.zero_add]; rfl), hS1, hl, by omega, hb, fun p H2 hp c2 s2 => ?_⟩
    refine ⟨_, rfl, p, true, 0, rfl, s2, by decide, fun H3 c3 s3 => ⟨true, rfl, iteF ?_⟩⟩
    refine ⟨_, rfl, p, false, 32, rfl, s3, by decide, fun H4 c4 s4 => ⟨true, rfl, iteF ?_⟩⟩
    exact ⟨_, _, rfl, c1.trans (ch_less0 ((c2.any.trans c3).trans c4) hp)⟩
  · rintro σ H1 ⟨x1, x2, rfl, c1⟩
    exact q H1
end
end WW
/-! The end: the call of a law that wants to know that nothing is being shown. -/
namespace WW
open PySem PySem.Spec PyProof.Rows L2
/-- what is tracked when the law is called: the script, unless the module owns it -/
structure Scr (P : Program) (w : World) (K : PySem.W.Frag) (h : Heap) (a : Addr) (ns : List Int) (H : Hp) : Prop where
  sq : SqL K H a (ns.map V.int)
  ok : HOk P w H h
  only : ∀ b u, H b = some u → b = a ∧ K.lookup a = none ∧ ∃ o xs, u = .frz o (.lst xs)
theorem scr_of {P : Program} {w : World} {K : PySem.W.Frag} {h : Heap} {a : Addr} {vs : List Value} {ns : List Int} (KX : K.In h) (ha : h.get? a = some { cls := .type "list", data := .seq vs.toArray }) (hi : IntsAre vs ns) (hl : ns.length ≤ sizeLine) : ∃ H, Scr P w K h a ns H := by
  have rl := vals_ints hi
  have el := hi.length
  rcases hk : K.lookup a with _ | o
  · let o1 : HO := .frz { cls := .type "list", data := .seq vs.toArray } (.lst (ns.map V.int))
    refine ⟨upd (fun _ => none) a o1, .inl (.inr ⟨_, upd_same⟩), fun b u z => ?_, fun b u z => ?_⟩
    · by_cases e : b = a
      · subst e
        rw [upd_same] at z
        cases Option.some.inj z
        exact ⟨ha, (by rw [List.length_map]; exact hl), vs, _, rl, ha⟩
      · rw [upd_ne e] at z
        cases z
    · by_cases e : b = a
      · subst e
        rw [upd_same] at z
        cases Option.some.inj z
        exact ⟨rfl, hk, _, _, rfl⟩
      · rw [upd_ne e] at z
        cases z
  · have e : o = { cls := .type "list", data := .seq vs.toArray } := Option.some.inj ((KX a o hk).symm.trans ha)
    subst e
    exact ⟨fun _ => none, .inr ⟨_, vs.toArray, _, hk, rfl, rfl, rfl, (by simp; omega), (by simpa using rl)⟩, fun b u z => (by cases z), fun b u z => (by cases z)⟩
theorem scr_base {P : Program} {w : World} {K : PySem.W.Frag} {h : Heap} {a : Addr} {vs : List Value} {ns : List Int} {H : Hp} (S : Scr P w K h a ns H) (ha : h.get? a = some { cls := .type "list", data := .seq vs.toArray }) :
    (K.In h → K.In (hidT h H)) ∧ ∀ (b : Addr) (m : Str → Option Value), h.Ns b m → (hidT h H).Ns b m := by
  refine ⟨fun kx b o e => hidT_get (kx b o e) ?_, fun b m ⟨o, es, ep, e, d, r⟩ => ⟨o, es, ep, hidT_get e ?_, d, r⟩⟩
  · rcases q : H b with _ | u
    · rfl
    · obtain ⟨rfl, n, _⟩ := S.only b u q
      rw [n] at e
      cases e
  · rcases q : H b with _ | u
    · rfl
    · obtain ⟨rfl, _, _⟩ := S.only b u q
      rw [ha] at e
      cases e
      exact absurd d (by simp)
theorem callG {P : Program} {w : World} {K : PySem.W.Frag} {mg mb : Str → Option Value} {k : Nat} {fa a : Addr} {fd : FuncData} {x : Str} {sp : Sp} {s1 : Shared} {vs : List Value} {ns : List Int} (KX : K.In s1.heap) (hns : s1.heap.Ns mainGlobals mg) (hb : s1.heap.Ns builtinsNs mb) (hbb : ∀ y : Str, y ≠ "__name__" → mb y = bootBuiltins y) (hlim : s1.heap.NoLimit) (hg : s1.gens = #[])
    (ha : s1.heap.get? a = some { cls := .type "list", data := .seq vs.toArray }) (hi : IntsAre vs ns) (hl : ns.length ≤ sizeLine) (hr : Room k callerA) (F : ∀ base : Heap, FnG P w K mg base CX0 k fa fd [x] sp) (hbind : ∀ (s : Shared) (u : Value), BindsTo s fd ⟨[u], []⟩ [(x, u)])
    (hsp : ∀ H : Hp, SqL K H a (ns.map V.int) → sp [.ref a] H (fun v _ => v = .bl true) fun _ _ _ => False) :
    codeAny (model P w) callerA (.call (.ref fa) ⟨[.ref a], []⟩) (fun r s' => r = .ok (.ret (.bool true)) ∧ OldK s1.heap s'.heap ∧ s'.os = s1.os ∧ AllBare s'.gens) s1 := by
  obtain ⟨H, S⟩ := scr_of (P := P) (w := w) KX ha hi hl
  obtain ⟨bK, bN⟩ := scr_base S ha
  have M : Mod K mg (hidT s1.heap H) := ⟨bK KX, bN _ _ hns, ⟨mb, bN _ _ hb, hbb⟩, hlim.elim fun mc z => ⟨mc, bN _ _ z.1, z.2⟩⟩
  have E : Env0 P w K mg (hidT s1.heap H) callerA [] s1 H := ⟨rfl, M, fun b o e => of_hidT e, Nat.le_of_eq (hidT_size _ _), trivial, fun b z => (by cases (show b ∈ ([] : List Addr) from z)), S.ok, .of_eq hg⟩
  have R := (F (hidT s1.heap H)).go callerA [] s1 H ⟨[.ref a], []⟩ [.ref a] [.ref a] (fun v _ => v = .bl true) (fun _ _ _ => False) rfl hr E (hbind s1 (.ref a)) (.cons rfl .nil) (hsp H S.sq)
  refine codeAny_mono R fun r s' z => ?_
  rcases r with e | (_ | _ | _ | u)
  · exact False.elim z
  · exact False.elim z
  · exact False.elim z
  · exact False.elim z
  · obtain ⟨v, H', os, bare, un, ok', r', q⟩ := z
    subst q
    cases (show u = Value.bool true from r')
    refine ⟨rfl, OldK.of_keep fun b o e => ?_, os, bare⟩
    rcases q : H b with _ | y
    · exact un.keep b o e q (fun n => (by cases (show b ∈ ([] : List Addr) from n))) (by simp)
    · obtain ⟨rfl, _, ob, xs, rfl⟩ := S.only b y q
      have g1 := (S.ok _ _ q).1
      have g2 := (ok' _ _ (un.frzs _ ob _ q)).1
      rw [e] at g1
      cases g1
      exact g2
theorem walk_ofG {l : PySem.W.OpenLaw} {n k : Nat} {q : Program} {loose : List Str} {XP : (Str → Option Value) → Heap → Prop} {YP : World → Heap → Prop} {d : DefRec} {x : Str} (hn : l.most = some n) (hn2 : n ≤ sizeLine) (hdf : d.params.defaults = []) (hr : Room k callerA)
    (F : ∀ (w : World) (mg : Str → Option Value) (fa : Addr) (h : Heap), YP w h → h.Ns mainGlobals mg → mg d.name = some (.ref fa) → ∃ (K : PySem.W.Frag) (fd : FuncData) (sp : Sp), K.In h ∧ (∀ (s : Shared) (u : Value), BindsTo s fd ⟨[u], []⟩ [(x, u)]) ∧
        (∀ (H : Hp) (a : Addr) (ns : List Int), ns.length ≤ n → (∀ z ∈ ns, Builtin.Int.intBits z ≤ 1048576) → SqL K H a (ns.map V.int) → sp [.ref a] H (fun v _ => v = .bl true) fun _ _ _ => False) ∧ ∀ base : Heap, FnG l.prog w K mg base CX0 k fa fd [x] sp) :
    PySem.W.WalkO q loose XP YP l.row.toRowW d [] (fun f vs => PySem.call f vs) := by
  refine Att.attach_callB hn hdf fun w s0 s1 mg mb fa o pm cd doc a vs ns G Y _ _ _ hmg hobj hints hlen hbits hg => ?_
  obtain ⟨K, fd, sp, KX, hb, hsp, hF⟩ := F w mg fa _ Y G.T.g hmg
  exact callG KX G.T.g G.T.b G.T.builtins G.T.nolimit hg hobj hints (Nat.le_trans hlen hn2) hr hF hb fun H hS => hsp H a ns hlen hbits hS
theorem facts {P : Program} {w : World} {K : PySem.W.Frag} {h hh : Heap} {mg : Str → Option Value} {f : Addr} (X : K.In h) (G : h.Ns mainGlobals mg) (hfa : mg ("law" : Str) = some (.ref f)) (c : He.SaysX faL fnL tsL [] exB w hh K) :
    ∃ fd : FuncData, (∀ (s : Shared) (v : Value), BindsTo s fd ⟨[v], []⟩ [("_law_script", v)]) ∧ ∀ base : Heap, FnG P w K mg base CX0 67 f fd ["_law_script"] (spLawW K) := by
  obtain ⟨fd, T⟩ := mk_TX X G c
  cases hfa.symm.trans T.g_law
  have b := FunD.bindsA (ps := ["_law_script"]) T.d_law.F fun _ _ _ _ _ _ us hl => match us, hl with | [_], _ => rfl
  exact ⟨fd 48, fun s v => b s [v] rfl, fun base => ok_lawW T⟩
end WW
open PySem PySem.W PySem.Calls PyProof.Rows
theorem PySem.Challenge.cw_waitwords_k63_whole_kinds_above_and_belo_holds : PySem.Challenge.rw_waitwords_k63_whole_kinds_above_and_belo.Holds := by
  w_on; o_law
  refine HandSHeadRun.head_any (r := WW.RWr) (q := view WW.RWr.prog [51]) (H := WW.hk) (ob := WW.ob) (M := 4000) (loose := WW.loose1 ++ WW.loose2) (d := HandSHeadRun.topDef WW.RWr.prog 51) (kwd := []) WW.ob_eq (by kernel_rfl) (fun s => by kernel_rfl) WW.rAll (by kernel_rfl) (by kernel_rfl) (by kernel_rfl) (by rfl) (by first | assumption | decide +kernel) (by decide +kernel) ⟨rfl, rfl, rfl, rfl, rfl, by decide +kernel⟩ ?hw ?hc
  case hw => w_witness2
  case hc =>
    refine WW.walk_ofG (l := PySem.Challenge.rw_waitwords_k63_whole_kinds_above_and_belo) (n := 63) (k := 67) (x := "_law_script") rfl (by decide) (by kernel_rfl) ⟨rfl, by decide, by decide⟩ fun w mg fa h Y G hmg0 => ?_
    obtain ⟨K, KX, c⟩ := Y
    have hmg : mg ("law" : PySem.Str) = some (.ref fa) := by
      have e : (HandSHeadRun.topDef WW.RWr.prog 51).name = ("law" : PySem.Str) := by kernel_rfl
      rw [← e]
      exact hmg0
    obtain ⟨fd, hb, hF⟩ := WW.facts (P := PySem.Challenge.rw_waitwords_k63_whole_kinds_above_and_belo.prog) (w := w) KX G hmg c
    exact ⟨K, fd, WW.spLawW K, KX, hb, fun H a ns hl hbits hS => ⟨a, ns, rfl, hS, hl, hbits, fun _ => rfl⟩, hF⟩
