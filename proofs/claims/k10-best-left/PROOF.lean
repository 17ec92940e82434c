import PyProof.Rows.All
import Wide.All
import OpenK.AllK
import Wide.FinOn
import KE.KStateDown
import KE.GoesMore
import KE.GoesEnum
import HandS.ForMost
import HandS.WordsExc
import HandS.Defaults
import HandS.IsInst
import HandS.Style
import HandS.TupAny
import HandS.Deep
import HandS.Conv
import HandS.Star
import HandS.SortInts
import HandS.Evl
import HandS.Steps
import HandS.ListItems
import HandS.DictComp
import HandS.DictTup
import HandS.HeadHook1
import HandS.HeadHook2
import PySem.Challenge.RW_foursfold_k10_whole_best_from_the_left
import HandS.Lambda
import HandS.HeadWalk
import KE.KMinKey
import HandS.SortKw
import KE.SortData
import KE.KDictItemsList
import KE.KDictDisplayH
import PyProof.Rows.SortShell
import PyProof.ReprRoads
import HandS.HeadHook4
import Lean
import HandS.Head0
import HandS.Head1
import HandS.Head2
import HandS.HeadEnd
import HandS.EndTab
set_option Elab.async false
set_option linter.all false
set_option maxRecDepth 100000
set_option autoImplicit false
/-! The mathematics: a merger m, the plain way (push, proc), no losing four, the plain way is best. -/
namespace Mt
variable {α : Type}
abbrev Mg (α : Type) := α → α → Option (Option α)
def metL (m : Mg α) (p : Option α) (c : α) : Option (Option α) := match p with
  | none => some (some c)
  | some x => m x c
def metR (m : Mg α) (a : α) (q : Option α) : Option (Option α) := match q with
  | none => some (some a)
  | some y => m a y
def Sound (m : Mg α) : Prop := ∀ a b c p q, m a b = some p → m b c = some q → metL m p c = metR m a q
/-- no losing four -/
def NoLose (m : Mg α) : Prop := ∀ a b c d p q, m a b = some p → m b c = some (some q) → metL m p c = none → m c d = none → m q d = none
def consO (z : Option α) (l : List α) : List α := match z with
  | none => l
  | some x => x :: l
/-- the pile, its top first -/
def push (m : Mg α) : List α → α → List α
  | [], x => [x]
  | t :: S, x => match m t x with
    | none => x :: t :: S
    | some none => S
    | some (some w) => push m S w
def pushO (m : Mg α) (S : List α) (z : Option α) : List α := match z with
  | none => S
  | some x => push m S x
def proc (m : Mg α) (S : List α) (v : List α) : List α := v.foldl (push m) S
/-- a folded pile, its top first -/
def FoldS (m : Mg α) : List α → Prop
  | [] => True
  | [_] => True
  | t :: s :: r => m s t = none ∧ FoldS m (s :: r)
variable {m : Mg α}
theorem FoldS.tail {t : α} {S : List α} (h : FoldS m (t :: S)) : FoldS m S := by
  cases S with
  | nil => trivial
  | cons s r => exact h.2
theorem push_nil (x : α) : push m [] x = [x] := rfl
theorem push_no {t x : α} {S : List α} (h : m t x = none) : push m (t :: S) x = x :: t :: S := by
  show (match m t x with
    | none => x :: t :: S
    | some none => S
    | some (some w) => push m S w) = _
  rw [h]
theorem push_gone {t x : α} {S : List α} (h : m t x = some none) : push m (t :: S) x = S := by
  show (match m t x with
    | none => x :: t :: S
    | some none => S
    | some (some w) => push m S w) = _
  rw [h]
theorem push_yes {t x w : α} {S : List α} (h : m t x = some (some w)) : push m (t :: S) x = push m S w := by
  show (match m t x with
    | none => x :: t :: S
    | some none => S
    | some (some w) => push m S w) = _
  rw [h]
theorem push_z {t x : α} {z : Option α} {S : List α} (h : m t x = some z) : push m (t :: S) x = pushO m S z := by
  cases z with
  | none => exact push_gone h
  | some w => exact push_yes h
theorem push_fold : ∀ {S : List α} (x : α), FoldS m S → FoldS m (push m S x)
  | [], x, _ => trivial
  | t :: S, x, h => by
    cases e : m t x with
    | none => rw [push_no e]; exact ⟨e, h⟩
    | some z =>
      cases z with
      | none => rw [push_gone e]; exact h.tail
      | some w => rw [push_yes e]; exact push_fold w h.tail
theorem pushO_fold {S : List α} (z : Option α) (h : FoldS m S) : FoldS m (pushO m S z) := by
  cases z with
  | none => exact h
  | some x => exact push_fold x h
theorem push_self {t : α} {S : List α} (h : FoldS m (t :: S)) : push m S t = t :: S := by
  cases S with
  | nil => rfl
  | cons s r => exact push_no h.1
theorem proc_fold : ∀ (v : List α) {S : List α}, FoldS m S → FoldS m (proc m S v)
  | [], _, h => h
  | x :: v, _, h => proc_fold v (push_fold x h)
theorem proc_append (S : List α) (u v : List α) : proc m S (u ++ v) = proc m (proc m S u) v := List.foldl_append
theorem proc_cons (S : List α) (x : α) (v : List α) : proc m S (x :: v) = proc m (push m S x) v := rfl
theorem proc_consO (S : List α) (z : Option α) (v : List α) : proc m S (consO z v) = proc m (pushO m S z) v := by cases z <;> rfl
theorem push_len : ∀ (S : List α) (x : α), (push m S x).length ≤ S.length + 1
  | [], x => Nat.le_refl _
  | t :: S, x => by
    cases e : m t x with
    | none => rw [push_no e]; exact Nat.le_refl _
    | some z =>
      cases z with
      | none => rw [push_gone e, List.length_cons]; omega
      | some w => rw [push_yes e]; have := push_len S w; rw [List.length_cons]; omega
theorem proc_len : ∀ (v : List α) (S : List α), (proc m S v).length ≤ S.length + v.length
  | [], S => by show S.length ≤ S.length + 0; omega
  | x :: v, S => by
    have h1 := proc_len v (push m S x)
    have h2 := push_len (m := m) S x
    show (proc m (push m S x) v).length ≤ S.length + (v.length + 1)
    omega
/-- one merge -/
inductive Step (m : Mg α) : List α → List α → Prop where
  | at (u v : List α) (x y : α) (z : Option α) (h : m x y = some z) : Step m (u ++ x :: y :: v) (u ++ consO z v)
inductive Reach (m : Mg α) : List α → List α → Prop where
  | refl (l : List α) : Reach m l l
  | head {a b c : List α} (h : Step m a b) (t : Reach m b c) : Reach m a c
theorem Reach.trans {a b c : List α} (h : Reach m a b) (k : Reach m b c) : Reach m a c := by
  induction h with
  | refl => exact k
  | head s _ ih => exact .head s (ih k)
theorem Step.len {a b : List α} (h : Step m a b) : b.length < a.length := by
  cases h with
  | «at» u v x y z h =>
    cases z with
    | none => simp only [consO, List.length_append, List.length_cons]; omega
    | some w => simp only [consO, List.length_append, List.length_cons]; omega
theorem Reach.len {a b : List α} (h : Reach m a b) : b.length ≤ a.length := by
  induction h with
  | refl => exact Nat.le_refl _
  | head s _ ih => have := s.len; omega
theorem Step.ctx {a b : List α} (h : Step m a b) (p q : List α) : Step m (p ++ (a ++ q)) (p ++ (b ++ q)) := by
  cases h with
  | «at» u v x y z h =>
    have e1 : p ++ ((u ++ x :: y :: v) ++ q) = (p ++ u) ++ x :: y :: (v ++ q) := by simp
    have e2 : p ++ ((u ++ consO z v) ++ q) = (p ++ u) ++ consO z (v ++ q) := by cases z <;> simp [consO]
    rw [e1, e2]
    exact .at _ _ x y z h
theorem Reach.ctx {a b : List α} (h : Reach m a b) (p q : List α) : Reach m (p ++ (a ++ q)) (p ++ (b ++ q)) := by
  induction h with
  | refl => exact .refl _
  | head s _ ih => exact .head (s.ctx p q) ih
theorem reach_pushO : ∀ (S : List α) (x : α), Reach m (S.reverse ++ [x]) (push m S x).reverse
  | [], x => .refl _
  | t :: S, x => by
    cases e : m t x with
    | none => rw [push_no e, List.reverse_cons (a := x)]; exact .refl _
    | some z =>
      have h : Step m ((t :: S).reverse ++ [x]) (S.reverse ++ consO z []) := by
        have q := Step.at (m := m) S.reverse [] t x z e
        have e1 : (t :: S).reverse ++ [x] = S.reverse ++ t :: x :: [] := by simp
        rw [e1]; exact q
      cases z with
      | none => rw [push_gone e]; exact .head h (by simp [consO]; exact .refl _)
      | some w => rw [push_yes e]; exact .head h (reach_pushO S w)
theorem reach_proc : ∀ (v S : List α), Reach m (S.reverse ++ v) (proc m S v).reverse
  | [], S => by rw [List.append_nil]; exact .refl _
  | x :: v, S => by
    have h := (reach_pushO (m := m) S x).ctx [] v
    have e : S.reverse ++ x :: v = [] ++ ((S.reverse ++ [x]) ++ v) := by simp
    rw [e]
    exact h.trans (reach_proc v (push m S x))
/-! ### the pile over one command -/
theorem push_over {z : α} {R : List α} : ∀ (T : List α) (c : α), push m (T ++ z :: R) c = push m T c ++ z :: R ∨ ∃ d r, push m T c = [d] ∧ m z d = some r ∧ push m (T ++ z :: R) c = pushO m R r
  | [], c => by
    cases e : m z c with
    | none => exact .inl (push_no e)
    | some r => exact .inr ⟨c, r, rfl, e, push_z e⟩
  | t :: T, c => by
    show push m (t :: (T ++ z :: R)) c = _ ∨ _
    cases e : m t c with
    | none => left; rw [push_no e, push_no e]; rfl
    | some w =>
      cases w with
      | none => left; rw [push_gone e, push_gone e]
      | some w =>
        rcases push_over (z := z) (R := R) T w with h | ⟨d, r, h1, h2, h3⟩
        · left; rw [push_yes e, push_yes e]; exact h
        · right; refine ⟨d, r, ?_, h2, ?_⟩
          · rw [push_yes e]; exact h1
          · show push m (t :: (T ++ z :: R)) c = _
            rw [push_yes e]; exact h3
theorem proc_over {z : α} {R : List α} : ∀ (v T : List α), proc m (T ++ z :: R) v = proc m T v ++ z :: R ∨ ∃ v1 v2 d r, v = v1 ++ v2 ∧ v1 ≠ [] ∧ proc m T v1 = [d] ∧ m z d = some r ∧ proc m (T ++ z :: R) v1 = pushO m R r
  | [], T => .inl rfl
  | c :: v, T => by
    rcases push_over (m := m) (z := z) (R := R) T c with h | ⟨d, r, h1, h2, h3⟩
    · rcases proc_over (z := z) (R := R) v (push m T c) with k | ⟨v1, v2, d, r, k0, _, k1, k2, k3⟩
      · left; rw [proc_cons, h, k]; rfl
      · right; exact ⟨c :: v1, v2, d, r, by rw [k0]; rfl, by simp, k1, k2, by rw [proc_cons, h]; exact k3⟩
    · right; exact ⟨[c], v, d, r, rfl, by simp, h1, h2, h3⟩
/-! ### the plain way is never helped by a merge ahead of it -/
theorem best_aux (hs : Sound m) (hn : NoLose m) : ∀ n, ∀ v : List α, v.length = n → ∀ S : List α, FoldS m S → ∀ x y z, m x y = some z → (proc m (push m (push m S x) y) v).length ≤ (proc m (pushO m S z) v).length := by
  intro n
  induction n using Nat.strongRecOn with
  | ind n ih =>
    intro v hv
    -- merges in lists that are not too long
    have step : ∀ {l l' : List α}, Step m l l' → l.length ≤ n + 1 → ∀ A, FoldS m A → (proc m A l).length ≤ (proc m A l').length := by
      intro l l' h hl A hA
      cases h with
      | «at» u w x y z h =>
        rw [proc_append, proc_append, proc_consO]
        have hw : w.length < n := by
          simp only [List.length_append, List.length_cons] at hl
          omega
        exact ih w.length hw w rfl (proc m A u) (proc_fold u hA) x y z h
    have many : ∀ {l l' : List α}, Reach m l l' → l.length ≤ n + 1 → ∀ A, FoldS m A → (proc m A l).length ≤ (proc m A l').length := by
      intro l l' h
      induction h with
      | refl => intro _ A _; exact Nat.le_refl _
      | head s _ ih2 => intro hl A hA; exact Nat.le_trans (step s hl A hA) (ih2 (by have := s.len; omega) A hA)
    intro S
    induction S with
    | nil =>
      intro _ x y z h
      rw [push_nil, push_z h]
      exact Nat.le_refl _
    | cons t S ihS =>
      intro hF x y z h
      cases e : m t x with
      | none => rw [push_no e, push_z h]; exact Nat.le_refl _
      | some p =>
        have sd := hs t x y p z e h
        cases p with
        | none =>
          rw [push_gone e]
          cases z with
          | none =>
            have ey : y = t := by simpa [metL, metR] using sd
            subst ey
            rw [push_self hF]
            exact Nat.le_refl _
          | some w =>
            have ew : m t w = some (some y) := sd.symm
            show _ ≤ (proc m (push m (t :: S) w) v).length
            rw [push_yes ew]
            exact Nat.le_refl _
        | some w =>
          rw [push_yes e]
          cases z with
          | none =>
            have ew : m w y = some (some t) := sd
            have q := ihS hF.tail w y (some t) ew
            have q2 : pushO m S (some t) = t :: S := push_self hF
            rw [q2] at q
            exact q
          | some z' =>
            have ew : m w y = m t z' := sd
            show _ ≤ (proc m (push m (t :: S) z') v).length
            cases er : m t z' with
            | some r =>
              rw [er] at ew
              rw [push_z er]
              exact ihS hF.tail w y r ew
            | none =>
              rw [er] at ew
              rw [push_no er]
              have hL : FoldS m (push m (push m S w) y) := push_fold y (push_fold w hF.tail)
              have lL : (push m (push m S w) y).length ≤ S.length + 2 := by
                have h1 := push_len (m := m) (push m S w) y
                have h2 := push_len (m := m) S w
                omega
              have hx : FoldS m (push m S w) := push_fold w hF.tail
              rcases proc_over (m := m) (z := z') (R := t :: S) v [] with k | ⟨v1, v2, d, r, k0, k00, k1, k2, k3⟩
              · have k' : proc m (z' :: t :: S) v = proc m [] v ++ z' :: t :: S := k
                rw [k', List.length_append, List.length_cons, List.length_cons]
                have h1 := many (reach_proc (m := m) v []) (by show v.length ≤ n + 1; omega) _ hL
                have h2 := proc_len (m := m) (proc m [] v).reverse (push m (push m S w) y)
                rw [List.length_reverse] at h2
                have e0 : ([] : List α).reverse ++ v = v := rfl
                rw [e0] at h1
                omega
              · have k3' : proc m (z' :: t :: S) v1 = pushO m (t :: S) r := k3
                have hR : proc m (z' :: t :: S) v = proc m (t :: S) (consO r v2) := by rw [k0, proc_append, k3', proc_consO]
                have hlen : v1.length + v2.length = n := by rw [← hv, k0, List.length_append]
                have hl1 : 1 ≤ v1.length := by cases v1 with
                  | nil => exact absurd rfl k00
                  | cons _ _ => simp
                -- v comes to d :: v2
                have r1 : Reach m v (d :: v2) := by
                  have q := (reach_proc (m := m) v1 []).ctx [] v2
                  rw [k1] at q
                  rw [k0]
                  exact q
                have h1 := many r1 (by omega) _ hL
                -- y and d merge
                have hyd : ∃ ed, m y d = some ed := by
                  cases ed : m y d with
                  | some q => exact ⟨q, rfl⟩
                  | none =>
                    have := hn t x y d (some w) z' e h ew ed
                    rw [k2] at this
                    cases this
                obtain ⟨ed, hyd⟩ := hyd
                have sd2 : metL m (some z') d = metR m x ed := hs x y d (some z') ed h hyd
                have sd2' : m z' d = metR m x ed := sd2
                rw [k2] at sd2'
                have h2 : (proc m (push m (push m S w) y) (d :: v2)).length ≤ (proc m (push m S w) (consO ed v2)).length := by
                  have q := step (.at [] v2 y d ed hyd) (by show v2.length + 2 ≤ n + 1; omega) _ hx
                  exact q
                have h3 : proc m (push m S w) (consO ed v2) = proc m (t :: S) (x :: consO ed v2) := by rw [proc_cons, push_yes e]
                rw [h3] at h2
                rw [hR]
                refine Nat.le_trans h1 (Nat.le_trans h2 ?_)
                cases ed with
                | none =>
                  have er2 : r = some x := by simpa [metR] using sd2'
                  subst er2
                  exact Nat.le_refl _
                | some e2 =>
                  have hxe : m x e2 = some r := sd2'.symm
                  exact step (.at [] v2 x e2 r hxe) (by show v2.length + 2 ≤ n + 1; omega) _ hF
theorem best_step (hs : Sound m) (hn : NoLose m) {l l' : List α} (h : Step m l l') {A : List α} (hA : FoldS m A) : (proc m A l).length ≤ (proc m A l').length := by
  cases h with
  | «at» u w x y z h =>
    rw [proc_append, proc_append, proc_consO]
    exact best_aux hs hn _ w rfl (proc m A u) (proc_fold u hA) x y z h
theorem best_reach (hs : Sound m) (hn : NoLose m) {l l' : List α} (h : Reach m l l') : ∀ {A : List α}, FoldS m A → (proc m A l).length ≤ (proc m A l').length := by
  induction h with
  | refl => intro A _; exact Nat.le_refl _
  | head s _ ih => intro A hA; exact Nat.le_trans (best_step hs hn s hA) (ih hA)
/-- the plain way leaves the fewest -/
theorem best_plain (hs : Sound m) (hn : NoLose m) {l l' : List α} (h : Reach m l l') : (proc m [] l).length ≤ l'.length := by
  have h1 := best_reach hs hn h (A := []) trivial
  have h2 := proc_len (m := m) l' []
  simp only [List.length_nil] at h2
  omega
/-- two queues behind one another -/
theorem best_cut (hs : Sound m) (hn : NoLose m) (u v : List α) : (proc m [] (u ++ v)).length ≤ (proc m [] u).length + (proc m [] v).length := by
  rw [proc_append]
  have hu : FoldS m (proc m [] u) := proc_fold u (show FoldS m ([] : List α) from trivial)
  have h1 := best_reach hs hn (reach_proc (m := m) v []) hu
  have h2 := proc_len (m := m) (proc m [] v).reverse (proc m [] u)
  rw [List.length_reverse] at h2
  have e0 : ([] : List α).reverse ++ v = v := rfl
  rw [e0] at h1
  omega
end Mt
set_option autoImplicit false
/-! Stretches, what they come to; all ways; the fewest; bounds of the search. -/
namespace Mt
variable {α : Type} {m : Mg α}
def met (m : Mg α) (o1 o2 : Option α) : Option (Option α) := match o1 with
  | none => some o2
  | some x => match o2 with
    | none => some (some x)
    | some y => m x y
inductive Comes (m : Mg α) : List α → Option α → Prop where
  | one (c : α) : Comes m [c] (some c)
  | join {s1 s2 : List α} {o1 o2 e : Option α} (h1 : Comes m s1 o1) (h2 : Comes m s2 o2) (h : met m o1 o2 = some e) : Comes m (s1 ++ s2) e
theorem Comes.ne {s : List α} {e : Option α} (h : Comes m s e) : s ≠ [] := by
  induction h with
  | one => simp
  | join _ _ _ ih _ => intro q; exact ih (List.append_eq_nil_iff.mp q).1
theorem Comes.pos {s : List α} {e : Option α} (h : Comes m s e) : 0 < s.length := List.length_pos_iff.mpr h.ne
def oL (e : Option α) : List α := match e with
  | none => []
  | some c => [c]
theorem Step.one2 {x y : α} {z : Option α} (h : m x y = some z) : Step m [x, y] (oL z) := by
  have q := Step.at (m := m) [] [] x y z h
  cases z <;> exact q
theorem met_reach {o1 o2 e : Option α} (h : met m o1 o2 = some e) : Reach m (oL o1 ++ oL o2) (oL e) := by
  cases o1 with
  | none =>
    have q : e = o2 := (Option.some.inj h).symm
    subst q
    exact .refl _
  | some x =>
    cases o2 with
    | none =>
      have q : e = some x := (Option.some.inj h).symm
      subst q
      exact .refl _
    | some y => exact .head (Step.one2 (m := m) h) (.refl _)
theorem Comes.reach {s : List α} {e : Option α} (h : Comes m s e) : Reach m s (oL e) := by
  induction h with
  | one => exact .refl _
  | @join s1 s2 o1 o2 e h1 h2 h i1 i2 =>
    have a := i1.ctx [] s2
    have b := i2.ctx (oL o1) []
    simp only [List.nil_append, List.append_nil] at a b
    exact (a.trans b).trans (met_reach h)
/-! ### a queue in stretches -/
abbrev Seg (α : Type) := List α × Option α
def srcS (g : List (Seg α)) : List α := g.flatMap (·.1)
def outS (g : List (Seg α)) : List α := g.flatMap fun p => oL p.2
def OkS (m : Mg α) (g : List (Seg α)) : Prop := ∀ p ∈ g, Comes m p.1 p.2
theorem reach_segs : ∀ {g : List (Seg α)}, OkS m g → Reach m (srcS g) (outS g)
  | [], _ => .refl _
  | p :: g, h => by
    have a := (h p (List.mem_cons_self ..)).reach.ctx [] (srcS g)
    have b := (reach_segs (g := g) fun q hq => h q (List.mem_cons_of_mem _ hq)).ctx (oL p.2) []
    simp only [List.nil_append, List.append_nil] at a b
    exact a.trans b
theorem segs_one : ∀ q : List α, ∃ g : List (Seg α), OkS m g ∧ srcS g = q ∧ outS g = q
  | [] => ⟨[], fun _ h => by simp at h, rfl, rfl⟩
  | c :: q => by
    obtain ⟨g, h1, h2, h3⟩ := segs_one q
    refine ⟨([c], some c) :: g, fun p hp => ?_, ?_, ?_⟩
    · rcases List.mem_cons.mp hp with e | e
      · rw [e]; exact .one c
      · exact h1 p e
    · show [c] ++ srcS g = _
      rw [h2]; rfl
    · show [c] ++ outS g = _
      rw [h3]; rfl
theorem OkS.append {g1 g2 : List (Seg α)} (a : OkS m g1) (b : OkS m g2) : OkS m (g1 ++ g2) := fun p hp => (List.mem_append.mp hp).elim (a p) (b p)
theorem srcS_append (g1 g2 : List (Seg α)) : srcS (g1 ++ g2) = srcS g1 ++ srcS g2 := List.flatMap_append
theorem outS_append (g1 g2 : List (Seg α)) : outS (g1 ++ g2) = outS g1 ++ outS g2 := List.flatMap_append
theorem segs_at : ∀ {g : List (Seg α)} {u w : List α} {x : α}, outS g = u ++ x :: w → ∃ A s B, g = A ++ (s, some x) :: B ∧ outS A = u ∧ outS B = w
  | [], u, w, x, h => by simp [outS] at h
  | (s, none) :: g, u, w, x, h => by
    obtain ⟨A, s', B, h1, h2, h3⟩ := segs_at (g := g) (show outS g = u ++ x :: w from h)
    exact ⟨(s, none) :: A, s', B, by rw [h1]; rfl, h2, h3⟩
  | (s, some c) :: g, u, w, x, h => by
    have h' : c :: outS g = u ++ x :: w := h
    cases u with
    | nil =>
      have h2 : c :: outS g = x :: w := h'
      injection h2 with e1 e2
      subst e1
      exact ⟨[], s, g, rfl, rfl, e2⟩
    | cons d u =>
      have h2 : c :: outS g = d :: (u ++ x :: w) := h'
      injection h2 with e1 e2
      obtain ⟨A, s', B, k1, k2, k3⟩ := segs_at (g := g) e2
      exact ⟨(s, some c) :: A, s', B, by rw [k1]; rfl, by show c :: outS A = _; rw [k2, e1], k3⟩
/-- what is gone behind a command is put to it -/
theorem gone_join : ∀ {g : List (Seg α)} {s : List α} {x : α}, OkS m g → outS g = [] → Comes m s (some x) → Comes m (s ++ srcS g) (some x)
  | [], s, x, _, _, h => by show Comes m (s ++ []) _; rw [List.append_nil]; exact h
  | (t, none) :: g, s, x, hg, ho, h => by
    have h1 : Comes m (s ++ t) (some x) := .join h (hg _ (List.mem_cons_self ..)) rfl
    have h2 := gone_join (g := g) (fun p hp => hg p (List.mem_cons_of_mem _ hp)) ho h1
    have e : s ++ srcS ((t, none) :: g) = (s ++ t) ++ srcS g := by
      show s ++ (t ++ srcS g) = _
      rw [List.append_assoc]
    rw [e]; exact h2
  | (t, some c) :: g, s, x, hg, ho, h => by
    have h' : c :: outS g = [] := ho
    cases h'
theorem segs_step {g : List (Seg α)} {r r' : List α} (hg : OkS m g) (ho : outS g = r) (h : Step m r r') : ∃ g', OkS m g' ∧ srcS g' = srcS g ∧ outS g' = r' := by
  cases h with
  | «at» u v x y z hz =>
    obtain ⟨A, s1, B, e1, a1, b1⟩ := segs_at (w := y :: v) ho
    obtain ⟨B1, s2, C, e2, a2, b2⟩ := segs_at (u := []) (w := v) b1
    subst e1
    subst e2
    have okA : OkS m A := fun p hp => hg p (List.mem_append_left _ hp)
    have ok1 : Comes m s1 (some x) := hg (s1, some x) (List.mem_append_right _ (List.mem_cons_self ..))
    have okB : OkS m B1 := fun p hp => hg p (List.mem_append_right _ (List.mem_cons_of_mem _ (List.mem_append_left _ hp)))
    have ok2 : Comes m s2 (some y) := hg (s2, some y) (List.mem_append_right _ (List.mem_cons_of_mem _ (List.mem_append_right _ (List.mem_cons_self ..))))
    have okC : OkS m C := fun p hp => hg p (List.mem_append_right _ (List.mem_cons_of_mem _ (List.mem_append_right _ (List.mem_cons_of_mem _ hp))))
    refine ⟨A ++ ((s1 ++ srcS B1) ++ s2, z) :: C, okA.append fun p hp => ?_, ?_, ?_⟩
    · rcases List.mem_cons.mp hp with e | e
      · rw [e]
        exact .join (gone_join okB a2 ok1) ok2 hz
      · exact okC p e
    · have c1 : srcS (A ++ ((s1 ++ srcS B1) ++ s2, z) :: C) = srcS A ++ (((s1 ++ srcS B1) ++ s2) ++ srcS C) := srcS_append _ _
      have c2 : srcS (A ++ (s1, some x) :: (B1 ++ (s2, some y) :: C)) = srcS A ++ (s1 ++ (srcS B1 ++ (s2 ++ srcS C))) := by
        rw [srcS_append]
        show srcS A ++ (s1 ++ srcS (B1 ++ (s2, some y) :: C)) = _
        rw [srcS_append] <;> rfl
      rw [c1, c2]
      simp only [List.append_assoc]
    · rw [outS_append, a1]
      show u ++ (oL z ++ outS C) = _
      rw [b2]
      cases z <;> rfl
theorem reach_has {q r : List α} (h : Reach m q r) : ∀ {g : List (Seg α)}, OkS m g → outS g = q → ∃ g', OkS m g' ∧ srcS g' = srcS g ∧ outS g' = r := by
  induction h with
  | refl => intro g h1 h2; exact ⟨g, h1, rfl, h2⟩
  | head s _ ih =>
    intro g h1 h2
    obtain ⟨g1, k1, k2, k3⟩ := segs_step h1 h2 s
    obtain ⟨g2, l1, l2, l3⟩ := ih k1 k3
    exact ⟨g2, l1, by rw [l2, k2], l3⟩
theorem reach_iff {q r : List α} : Reach m q r ↔ ∃ g, OkS m g ∧ srcS g = q ∧ outS g = r := by
  constructor
  · intro h
    obtain ⟨g, h1, h2, h3⟩ := segs_one (m := m) q
    obtain ⟨g', k1, k2, k3⟩ := reach_has h h1 h3
    exact ⟨g', k1, by rw [k2, h2], k3⟩
  · rintro ⟨g, h1, h2, h3⟩
    rw [← h2, ← h3]
    exact reach_segs h1
/-! ### stretches by places -/
def slc (q : List α) (i j : Nat) : List α := (q.drop i).take (j - i)
theorem slc_len {q : List α} {i j : Nat} (h : j ≤ q.length) : (slc q i j).length = j - i := by
  unfold slc
  rw [List.length_take, List.length_drop]
  omega
theorem slc_one {q : List α} {i : Nat} {c : α} (h : q[i]? = some c) : slc q i (i + 1) = [c] := by
  have hi := (List.getElem?_eq_some_iff.mp h).1
  have he := (List.getElem?_eq_some_iff.mp h).2
  unfold slc
  rw [List.drop_eq_getElem_cons hi, he, show i + 1 - i = 1 by omega]
  rfl
theorem slc_app {q : List α} {i c j : Nat} (h1 : i ≤ c) (h2 : c ≤ j) : slc q i c ++ slc q c j = slc q i j := by
  unfold slc
  have e : q.drop c = (q.drop i).drop (c - i) := by rw [List.drop_drop]; congr 1; omega
  rw [e, show j - i = (c - i) + (j - c) by omega, List.take_add]
theorem take_slc {q : List α} {i j : Nat} (h : i ≤ j) : q.take i ++ slc q i j = q.take j := by
  unfold slc
  rw [show j = i + (j - i) by omega, List.take_add]
  congr 2
  omega
theorem slc_all (q : List α) : slc q 0 q.length = q := by unfold slc; simp
theorem comes_one {c : α} {e : Option α} : Comes m [c] e ↔ e = some c := by
  constructor
  · intro h
    generalize hs : [c] = s at h
    cases h with
    | one => injection hs with h1 _; rw [h1]
    | join h1 h2 _ =>
      have a := h1.pos
      have b := h2.pos
      have := congrArg List.length hs
      rw [List.length_append] at this
      simp at this
      omega
  · intro h; rw [h]; exact .one c
theorem comes_cut {q : List α} {i j : Nat} {e : Option α} (hj : j ≤ q.length) (h2 : i + 2 ≤ j) :
    Comes m (slc q i j) e ↔ ∃ c o1 o2, i < c ∧ c < j ∧ Comes m (slc q i c) o1 ∧ Comes m (slc q c j) o2 ∧ met m o1 o2 = some e := by
  constructor
  · intro h
    generalize hs : slc q i j = s at h
    have hl := slc_len (i := i) hj
    cases h with
    | one c =>
      rw [hs] at hl
      simp at hl
      omega
    | @join s1 s2 o1 o2 _ h1 h3 h =>
      have a := h1.pos
      have b := h3.pos
      rw [hs, List.length_append] at hl
      have hc : slc q i (i + s1.length) ++ slc q (i + s1.length) j = s1 ++ s2 := by rw [slc_app (by omega) (by omega), hs]
      have l1 : (slc q i (i + s1.length)).length = s1.length := by rw [slc_len (by omega)]; omega
      obtain ⟨e1, e2⟩ := List.append_inj hc l1
      exact ⟨i + s1.length, o1, o2, by omega, by omega, by rw [e1]; exact h1, by rw [e2]; exact h3, h⟩
  · rintro ⟨c, o1, o2, hc1, hc2, h1, h3, h⟩
    rw [← slc_app (q := q) (show i ≤ c by omega) (show c ≤ j by omega)]
    exact .join h1 h3 h
/-! ### the fewest -/
def Least (m : Mg α) (q : List α) (n : Nat) : Prop := (∃ r, Reach m q r ∧ r.length = n) ∧ ∀ r, Reach m q r → n ≤ r.length
theorem Least.uniq {q : List α} {n k : Nat} (a : Least m q n) (b : Least m q k) : n = k := by
  obtain ⟨⟨r, h1, h2⟩, h3⟩ := a
  obtain ⟨⟨s, k1, k2⟩, k3⟩ := b
  have := h3 s k1
  have := k3 r h1
  omega
def oN (e : Option α) : Nat := match e with
  | none => 0
  | some _ => 1
theorem oL_len (e : Option α) : (oL e).length = oN e := by cases e <;> rfl
theorem least_zero : Least m ([] : List α) 0 := ⟨⟨[], .refl _, rfl⟩, fun _ _ => Nat.zero_le _⟩
theorem reach_snoc {q r : List α} {i j : Nat} {e : Option α} (hij : i ≤ j) (h : Reach m (q.take i) r) (hc : Comes m (slc q i j) e) : Reach m (q.take j) (r ++ oL e) := by
  rw [← take_slc (q := q) hij]
  have a := h.ctx [] (slc q i j)
  have b := hc.reach.ctx r []
  simp only [List.nil_append, List.append_nil] at a b
  exact a.trans b
theorem reach_last {q r : List α} {j : Nat} (hj : j ≤ q.length) (h0 : 0 < j) (h : Reach m (q.take j) r) : ∃ i e r0, i < j ∧ Comes m (slc q i j) e ∧ Reach m (q.take i) r0 ∧ r.length = r0.length + oN e := by
  obtain ⟨g, h1, h2, h3⟩ := reach_iff.mp h
  have hl : (q.take j).length = j := by rw [List.length_take]; omega
  rcases List.eq_nil_or_concat g with e | ⟨g0, p, e⟩
  · subst e
    rw [← h2] at hl
    simp [srcS] at hl
    omega
  · rw [List.concat_eq_append] at e
    subst e
    obtain ⟨s, x⟩ := p
    have hc : Comes m s x := h1 (s, x) (List.mem_append_right _ (List.mem_singleton.mpr rfl))
    have hp := hc.pos
    rw [srcS_append] at h2
    have e2 : srcS [(s, x)] = s := by simp [srcS]
    rw [e2] at h2
    have e3 : outS [(s, x)] = oL x := by simp [outS]
    rw [outS_append, e3] at h3
    have l2 := congrArg List.length h2
    rw [List.length_append, hl] at l2
    have hcut : q.take (j - s.length) ++ slc q (j - s.length) j = srcS g0 ++ s := by rw [take_slc (by omega), h2]
    have l1 : (q.take (j - s.length)).length = (srcS g0).length := by rw [List.length_take]; omega
    obtain ⟨k1, k2⟩ := List.append_inj hcut l1
    refine ⟨j - s.length, x, outS g0, by omega, by rw [k2]; exact hc, ?_, ?_⟩
    · rw [k1]
      exact reach_segs fun p hp => h1 p (List.mem_append_left _ hp)
    · rw [← h3, List.length_append, oL_len]
/-- one more place of the table -/
theorem least_step {q : List α} {j n : Nat} (hj : j ≤ q.length) (h0 : 0 < j) {f : Nat → Nat} (hf : ∀ i, i < j → Least m (q.take i) (f i))
    (hn : ∃ i e, i < j ∧ Comes m (slc q i j) e ∧ n = f i + oN e) (hm : ∀ i e, i < j → Comes m (slc q i j) e → n ≤ f i + oN e) : Least m (q.take j) n := by
  constructor
  · obtain ⟨i, e, hi, hc, rfl⟩ := hn
    obtain ⟨⟨r, h1, h2⟩, _⟩ := hf i hi
    exact ⟨r ++ oL e, reach_snoc (by omega) h1 hc, by rw [List.length_append, oL_len, h2]⟩
  · intro r hr
    obtain ⟨i, e, r0, hi, hc, h1, h2⟩ := reach_last hj h0 hr
    have a := (hf i hi).2 r0 h1
    have b := hm i e hi hc
    omega
/-! ### folded queues -/
def Fold (m : Mg α) (r : List α) : Prop := ∀ r', ¬ Step m r r'
theorem to_fold : ∀ (n : Nat) (q : List α), q.length ≤ n → ∃ r, Reach m q r ∧ Fold m r
  | 0, q, h => ⟨q, .refl _, fun r' s => by have := s.len; omega⟩
  | n + 1, q, h => by
    by_cases hf : Fold m q
    · exact ⟨q, .refl _, hf⟩
    · obtain ⟨q', hq⟩ : ∃ q', Step m q q' := Classical.byContradiction fun k => hf fun r' s => k ⟨r', s⟩
      obtain ⟨r, h1, h2⟩ := to_fold n q' (by have := hq.len; omega)
      exact ⟨r, .head hq h1, h2⟩
/-- the least of the folded queues' lengths is the fewest -/
theorem least_of_folded {q : List α} {n : Nat} (h1 : ∃ r, Reach m q r ∧ Fold m r ∧ r.length = n) (h2 : ∀ r, Reach m q r → Fold m r → n ≤ r.length) : Least m q n := by
  obtain ⟨r, a, _, c⟩ := h1
  refine ⟨⟨r, a, c⟩, fun r hr => ?_⟩
  obtain ⟨r', k1, k2⟩ := to_fold (m := m) r.length r (Nat.le_refl _)
  have := h2 r' (hr.trans k1) k2
  have := k1.len
  omega
theorem least_plain (hs : Sound m) (hn : NoLose m) (q : List α) : Least m q (proc m [] q).length := by
  refine ⟨⟨(proc m [] q).reverse, reach_proc q [], List.length_reverse⟩, fun r hr => best_plain hs hn hr⟩
/-! ### the steps of a queue by places -/
theorem step_iff {q r : List α} : Step m q r ↔ ∃ p x y z, q[p]? = some x ∧ q[p + 1]? = some y ∧ m x y = some z ∧ r = q.take p ++ (oL z ++ q.drop (p + 2)) := by
  constructor
  · intro h
    cases h with
    | «at» u v x y z h =>
      refine ⟨u.length, x, y, z, by simp, by simp, h, ?_⟩
      rw [List.take_left, show (u ++ x :: y :: v).drop (u.length + 2) = v by
        rw [← List.drop_drop, List.drop_left]; rfl]
      cases z <;> rfl
  · rintro ⟨p, x, y, z, h1, h2, h, rfl⟩
    have a := (List.getElem?_eq_some_iff.mp h1)
    have b := (List.getElem?_eq_some_iff.mp h2)
    have e : q = q.take p ++ x :: y :: q.drop (p + 2) := by
      have e1 : q.drop p = x :: q.drop (p + 1) := by rw [List.drop_eq_getElem_cons a.1, a.2]
      have e2 : q.drop (p + 1) = y :: q.drop (p + 2) := by rw [List.drop_eq_getElem_cons b.1, b.2]
      rw [← e2, ← e1, List.take_append_drop]
    have s := Step.at (m := m) (q.take p) (q.drop (p + 2)) x y z h
    rw [← e] at s
    cases z <;> exact s
/-! ### how many queues a search meets -/
def wt : Nat → Nat
  | 0 => 1
  | n + 1 => 1 + n * wt n
theorem wt_pos : ∀ n, 1 ≤ wt n
  | 0 => Nat.le_refl _
  | n + 1 => by show 1 ≤ 1 + n * wt n; omega
theorem wt_up : ∀ n, wt n ≤ wt (n + 1)
  | 0 => by decide
  | n + 1 => by
    have ih := wt_up n
    show 1 + n * wt n ≤ 1 + (n + 1) * wt (n + 1)
    have h := Nat.mul_le_mul (show n ≤ n + 1 by omega) ih
    omega
theorem wt_mono {a b : Nat} (h : a ≤ b) : wt a ≤ wt b := by
  induction h with
  | refl => exact Nat.le_refl _
  | step _ ih => exact Nat.le_trans ih (wt_up _)
theorem wt7 : wt 7 = 1957 := by decide
/-! ### folded spellings, from below -/
inductive FS (m : Mg α) (q : List α) : Nat → Option α → Nat → Prop where
  | zero : FS m q 0 none 0
  | gone {i j n : Nat} {l : Option α} (h : FS m q i l n) (hij : i < j) (hj : j ≤ q.length) (hc : Comes m (slc q i j) none) : FS m q j l n
  | cmd {i j n : Nat} {l : Option α} {c : α} (h : FS m q i l n) (hij : i < j) (hj : j ≤ q.length) (hc : Comes m (slc q i j) (some c)) (hl : ∀ t, l = some t → m t c = none) : FS m q j (some c) (n + 1)
/-! ### fours -/
def Hand (m : Mg α) (a b c : α) : Prop := ∃ p q, m a b = some (some p) ∧ m b c = some (some q) ∧ m p c = none
theorem four_middle (hs : Sound m) {x y z w : α} (h1 : Hand m x y z) (h2 : Hand m y z w) : (proc m [] [x, y, z, w]).length ≤ 2 ∧ FS m [x, y, z, w] 4 (some w) 3 := by
  obtain ⟨p, q, a1, a2, a3⟩ := h1
  obtain ⟨q', r, b1, b2, b3⟩ := h2
  have e : q' = q := by rw [a2] at b1; exact (Option.some.inj (Option.some.inj b1)).symm
  subst e
  constructor
  · have e1 : proc m [] [x, y, z, w] = push m [p] r := by
      show push m (push m (push m [x] y) z) w = _
      rw [push_yes a1, push_nil, push_no a3, push_yes b2]
    rw [e1]
    have := push_len (m := m) [p] r
    simpa using this
  · have f1 : FS m [x, y, z, w] 1 (some x) 1 := .cmd .zero (by omega) (by simp) (.one x) (fun t h => by cases h)
    have f2 : FS m [x, y, z, w] 3 (some q') 2 := .cmd f1 (by omega) (by simp) (.join (.one y) (.one z) a2) (fun t h => by
      cases h
      have sd := hs x y z (some p) (some q') a1 a2
      have sd' : m p z = m x q' := sd
      rw [← sd', a3])
    exact .cmd f2 (by omega) (by simp) (.one w) (fun t h => by cases h; exact b3)
theorem four_left (hs : Sound m) {x y z w q : α} (h : Hand m y z w) (h1 : m x y = none) (h2 : m y z = some (some q)) (h3 : m x q ≠ none) : (proc m [] [x, y, z, w]).length ≤ 2 ∧ ∃ r, FS m [x, y, z, w] 4 (some r) 3 := by
  obtain ⟨q', r, b1, b2, b3⟩ := h
  have e : q' = q := by rw [h2] at b1; exact (Option.some.inj (Option.some.inj b1)).symm
  subst e
  constructor
  · cases e3 : m x q' with
    | none => exact absurd e3 h3
    | some o =>
      have e1 : proc m [] [x, y, z, w] = push m (pushO m [] o) w := by
        show push m (push m (push m [x] y) z) w = _
        rw [push_no h1, push_yes h2, push_z e3]
      rw [e1]
      have l0 : (pushO m [] o).length ≤ 1 := by cases o with
        | none => show (0 : Nat) ≤ 1; omega
        | some c => exact Nat.le_refl 1
      have := push_len (m := m) (pushO m [] o) w
      omega
  · have f1 : FS m [x, y, z, w] 1 (some x) 1 := .cmd .zero (by omega) (by simp) (.one x) (fun t h => by cases h)
    have f2 : FS m [x, y, z, w] 2 (some y) 2 := .cmd f1 (by omega) (by simp) (.one y) (fun t h => by cases h; exact h1)
    refine ⟨r, .cmd f2 (by omega) (by simp) (.join (.one z) (.one w) b2) (fun t h => ?_)⟩
    cases h
    have sd := hs y z w (some q') (some r) h2 b2
    have sd' : m q' w = m y r := sd
    rw [← sd', b3]
theorem four_lost {a b c y p q : α} (h1 : m a b = some (some p)) (h2 : m b c = some (some q)) (h3 : m p c = none) (h4 : m c y = none) (h5 : m q y ≠ none) : (proc m [] [a, b, c, y]).length = 3 ∧ ∃ r, Reach m [a, b, c, y] r ∧ r.length < 3 := by
  constructor
  · have e1 : proc m [] [a, b, c, y] = [y, c, p] := by
      show push m (push m (push m [a] b) c) y = _
      rw [push_yes h1, push_nil, push_no h3, push_no h4]
    rw [e1]
    rfl
  · cases e : m q y with
    | none => exact absurd e h5
    | some z =>
      have s1 : Step m [a, b, c, y] [a, q, y] := .at [a] [y] b c (some q) h2
      have s2 : Step m [a, q, y] ([a] ++ consO z []) := .at [a] [] q y z e
      refine ⟨_, .head s1 (.head s2 (.refl _)), ?_⟩
      cases z <;> simp [consO]
end Mt
set_option maxHeartbeats 4000000
/-! Rules of my own: enumerate(tuple), a walk of a list or a tuple, names of constants. -/
namespace FF
open PySem PySem.Spec PyProof.Rows L2
section
variable {X : Cx}
theorem peI {x : Str} {i : Int} {pos : Pos} (h : ∃ t, X.mg x = some (.int i t)) (hg : Gl X x) (hd : (x == ("__debug__" : Str)) = false := by decide) : PE X (.Name x pos) (tC (.int i)) := by
  obtain ⟨t, h⟩ := h
  exact pe_glob hg h ⟨t, rfl⟩ hd
theorem peS {x z : Str} {pos : Pos} (h : ∃ t, X.mg x = some (.str z t)) (hg : Gl X x) (hd : (x == ("__debug__" : Str)) = false := by decide) : PE X (.Name x pos) (tC (.str z)) := by
  obtain ⟨t, h⟩ := h
  exact pe_glob hg h ⟨t, rfl⟩ hd
/-- a walk of a list or of a tuple -/
def iSeq (K : PySem.W.Frag) (tl : TE) : TI := fun σ H R => tl σ H fun x H1 => ∃ a, x = .ref a ∧ (((∃ xs, SqL K H1 a xs) ∧ R (Itl K a) H1) ∨ ((∃ xs, SqT K H1 a xs) ∧ R (Itt K a) H1))
theorem pi_seq {tg l : Expr} {tl : TE} (hl : PE X l tl) : PI X tg l (iSeq X.K tl) := by
  refine ⟨fun pins s σ H R I h => ?_⟩
  refine thn (hl.run pins s σ H _ I h) fun v s1 ⟨x, H1, I1, r1, q1⟩ => ?_
  obtain ⟨a, e, q1⟩ := q1
  subst e
  cases r1
  rcases q1 with ⟨⟨xs, hq⟩, q⟩ | ⟨⟨xs, hq⟩, q⟩
  · obtain ⟨its, rv, p, hz⟩ := I1.list hq
    refine wpAny_pyIter_list p.isList ?_
    refine ⟨s1.heap.objs.size, [s1.heap.objs.size], _, _, H1, rfl, I1.kept (t' := s1.toks) fun b o e => Heap.get?_push_of_some _ e, turn_list a _, ⟨_, Heap.get?_push_size _ rfl, rfl, rfl⟩, fun b hb => ?_, q⟩
    have e : b = s1.heap.objs.size := by simpa using hb
    subst e
    exact I1.fpOk (Nat.le_refl _) (I1.hok.fresh (Nat.le_refl _))
  · obtain ⟨its, rv, p, hz⟩ := I1.tuple hq
    refine wpAny_pyIter_tuple (show s1.heap.IsTuple a its.toArray from p) ?_
    refine ⟨s1.heap.objs.size, [s1.heap.objs.size], _, _, H1, rfl, I1.kept (t' := s1.toks) fun b o e => Heap.get?_push_of_some _ e, turn_tuple a _, ⟨_, Heap.get?_push_size _ rfl, rfl, rfl⟩, fun b hb => ?_, q⟩
    have e : b = s1.heap.objs.size := by simpa using hb
    subst e
    exact I1.fpOk (Nat.le_refl _) (I1.hok.fresh (Nat.le_refl _))
/-! ### enumerate(tuple) -/
set_option maxHeartbeats 8000000 in
theorem meets_enumerate_newT (t : Addr) (items : Array Value) :
    Meets (Builtin.«enumerate.__new__» ⟨[.type "enumerate", .ref t], []⟩) (fun _ R s => s.heap.IsTuple t items ∧
      R (.ok (.ret (.ref (s.heap.push { cls := .type "tuple_iterator", data := .fields #[.ref t, .int 0 0] }).objs.size)))
        { s with heap := (s.heap.push { cls := .type "tuple_iterator", data := .fields #[.ref t, .int 0 0] }).push { cls := .type "enumerate", data := .fields #[.none, .bool false, .ref s.heap.objs.size, rawInt 0, .none, .none] } }) :=
  .of_wp fun prog w A R s h => by
    obtain ⟨hp, g, d, tk, os⟩ := s; obtain ⟨h1, h⟩ := h
    have hsub := sub_enumerate
    have q1 : ∀ {A' : Around} {E : Value → Shared → Prop} {Q : Value → Shared → Prop}, Q (.ref hp.objs.size) ⟨hp.push { cls := .type "tuple_iterator", data := .fields #[.ref t, .int 0 0] }, g, d, tk, os⟩ → wpAny (model prog w) A' (pyIter (.ref t)) Q E ⟨hp, g, d, tk, os⟩ :=
      fun q => (begins_tuple t items).iter prog w _ _ ⟨hp, g, d, tk, os⟩ _ h1 q
    wp_walk using q1
    refine wpAny_stack_any fun st => wpAny_pure ?_
    split
    · rename_i c _ _ _ _ _
      cases (c == Value.type "enumerate")
      · wp_walk using q1
        exact ⟨_, rfl, h⟩
      · wp_walk using q1
        exact ⟨_, rfl, h⟩
    · wp_walk using q1
      exact ⟨_, rfl, h⟩
theorem call_enumerate_tuple {prog : Program} {w : World} {A : Around} {E : Value → Shared → Prop} {s : Shared} {l : Addr} {items : Array Value} {Q : Value → Shared → Prop} (hL : s.heap.IsTuple l items)
    (h : ∀ h', IsEnum h' (s.heap.objs.size + 1) s.heap.objs.size 0 .none → h'.IsTupleIter s.heap.objs.size l 0 → h'.objs.size = s.heap.objs.size + 2 →
      (∀ b o, s.heap.get? b = some o → h'.get? b = some o) → Q (.ref (s.heap.objs.size + 1)) { s with heap := h' }) :
    wpAny (model prog w) A (call (.type "enumerate") [.ref l]) Q E s := by
  refine callType_new F.called_enumerate (by decide) (F.typeCall_enumerate_1 _) (F.newCall_enumerate_1 _) (fun obj => F.args_object_init_2 obj _) F.entry_enumerate_new
    (meets_enumerate_newT l items) ⟨hL, ?_⟩
  have hz : (s.heap.push { cls := .type "tuple_iterator", data := .fields #[.ref l, .int 0 0] }).objs.size = s.heap.objs.size + 1 := Heap.size_push ..
  show _ ∧ _
  rw [hz]
  have he : IsEnum ((s.heap.push { cls := .type "tuple_iterator", data := .fields #[.ref l, .int 0 0] }).push
      { cls := .type "enumerate", data := .fields #[.none, .bool false, .ref s.heap.objs.size, rawInt 0, .none, .none] }) (s.heap.objs.size + 1) s.heap.objs.size 0 .none := by
    have := Heap.get?_push_size (s.heap.push { cls := .type "tuple_iterator", data := .fields #[.ref l, .int 0 0] })
      (o := { cls := .type "enumerate", data := .fields #[.none, .bool false, .ref s.heap.objs.size, rawInt 0, .none, .none] }) rfl
    rw [hz] at this; exact this
  refine ⟨⟨_, he, rfl⟩, h _ he ⟨_, Heap.get?_push_of_some _ (Heap.get?_push_size _ rfl), rfl, rfl⟩ (by rw [Heap.size_push, hz]) fun b o x => Heap.get?_push_of_some _ (Heap.get?_push_of_some _ x)⟩
def IteT (K : PySem.W.Frag) (a : Addr) : It :=
  ⟨fun i H => ∃ (xs : List V) (x : V), SqT K H a xs ∧ xs[i]? = some x, fun i H v H' => ∃ T x, v = .ref T ∧ H T = none ∧ H' = upd H T (.tup [.int (i : Nat), x]) ∧ ∀ xs, SqT K H a xs → xs[i]? = some x, fun i H => ∃ xs : List V, SqT K H a xs ∧ xs.length ≤ i⟩
theorem turn_enumT {P : Program} {w : World} {K : PySem.W.Frag} {elts : List Expr} {kk : Nat} {tpos : Pos} (a e it : Addr) (items : Array Value) :
    Turn P w K (.Tuple elts kk tpos) (IteT K a) [e, it] e (fun i h => (∃ old, IsEnum h e it ((i : Nat) : Int) old) ∧ h.IsTupleIter it a i ∧ e ≠ it) where
  mem := by simp
  obj := fun i h st b hb => by
    obtain ⟨⟨old, he⟩, ⟨o, ho, hc, hd⟩, _⟩ := st
    have e' : b = e ∨ b = it := by simpa using hb
    rcases e' with z | z
    · rw [z]; exact ⟨_, he, fun v q => nomatch q⟩
    · rw [z]; exact ⟨o, ho, fun v q => by rw [hd] at q; cases q⟩
  keep := fun i h h' st k => let ⟨⟨old, he⟩, hi, hne⟩ := st; ⟨⟨old, k e (by simp) _ he⟩, hi.at fun o q => k it (by simp) o q, hne⟩
  item := by
    intro X hP hw hK hc i pins s σ H E I hf st hg
    subst hP hw hK
    obtain ⟨⟨old, he⟩, hit, hne⟩ := st
    obtain ⟨xs, x, hq, hx⟩ := hg
    obtain ⟨its, rv, p, hz⟩ := I.tuple hq
    obtain ⟨u, hu, ru⟩ := rv.get hx
    have hel : e < s.heap.objs.size := Heap.lt_size he
    have hil : it < s.heap.objs.size := by obtain ⟨_, q, _⟩ := hit; exact Heap.lt_size q
    have pa : s.heap.IsTuple a its.toArray := p
    have hne2 : a ≠ it := by
      rintro rfl
      obtain ⟨o1, e1, c1, _⟩ := pa
      obtain ⟨o2, e2, c2, _⟩ := hit
      rw [e1] at e2
      cases e2
      rw [c1] at c2
      exact absurd (Value.type.inj c2) (by decide)
    have hne3 : e ≠ a := by
      rintro rfl
      obtain ⟨o1, e1, c1, _⟩ := pa
      have he' : s.heap.get? e = some _ := he
      rw [e1] at he'
      cases he'
      exact absurd (Value.type.inj c1) (by decide)
    have D := Draws.tuple (prog := X.prog) (w := X.w) (A := X.A.in1) (I.ok.hd hc) it a hne2 its.toArray
    have hi : i < its.toArray.size := by
      have q := (List.getElem?_eq_some_iff.mp hu).1
      simpa using q
    refine wpAny_pyNext_enum_itemD (D) he ⟨hit, pa⟩ hi hne (by simp [hne, hne3]) fun y h' tk hy ho hst hT hsz hk => ?_
    have eu : y = u := by
      have h2 : its[i]? = some y := by simpa using hy
      rw [hu] at h2
      exact (Option.some.inj h2).symm
    subst eu
    refine ⟨_, rfl, wpAny_letOwnedTupleGo_enum (s := { s with heap := h', toks := tk + 1 }) ho fun h'' he' sb => ?_⟩
    have hT2 : h''.get? s.heap.objs.size = some { cls := .type "tuple", data := .seq #[.int i tk, y] } := (sb.2 _ (Nat.ne_of_gt hel)).trans hT
    have new : ObjOk X.prog X.w (upd H s.heap.objs.size (.tup [.int (i : Nat), x])) h'' s.heap.objs.size (.tup [.int (i : Nat), x]) :=
      ⟨by show 2 ≤ sizeLine; decide, [.int i tk, y], .cons ⟨_, rfl⟩ (.cons ru .nil), ⟨_, hT2, rfl, _, rfl⟩⟩
    have I1 : Inv X pins σ (upd H s.heap.objs.size (.tup [.int (i : Nat), x])) { s with heap := h'', toks := tk + 1 } :=
      I.turnedNew (ch := [e, it]) (fun b ob hb q => (sb.2 b (fun z => hb (by simp [z]))).trans (hk b ob (fun z => hb (by simp [z])) (fun z => hb (by simp [z])) q)) hf (Nat.le_refl _) new
    refine ⟨.ref s.heap.objs.size, _, I1, rfl, ⟨_, x, rfl, I.hok.fresh (Nat.le_refl _), rfl, fun ys hy => by rw [I.tuple_inj hy hq]; exact hx⟩, ⟨⟨y, ?_⟩, hst.1.at fun o q => (sb.2 it (Ne.symm hne)).trans q, hne⟩, fun b hb => ?_⟩
    · have e1 : ((i + 1 : Nat) : Int) = (i : Int) + 1 := by omega
      rw [e1]; exact he'
    · have hb' : b < s.heap.objs.size := by
        have e' : b = e ∨ b = it := by simpa using hb
        rcases e' with z | z
        · rw [z]; exact hel
        · rw [z]; exact hil
      rw [upd_ne (Nat.ne_of_lt hb')]
      exact (hf b hb).1
  done := by
    intro X hP hw hK hc i pins s σ H E I hf st hg
    subst hP hw hK
    obtain ⟨⟨old, he⟩, hit, hne⟩ := st
    obtain ⟨xs, hq, hx⟩ := hg
    obtain ⟨its, rv, p, hz⟩ := I.tuple hq
    obtain ⟨f0, f1, f2, f3, f4, f5⟩ := hf it (by simp)
    have pa : s.heap.IsTuple a its.toArray := p
    have hne2 : a ≠ it := by
      rintro rfl
      obtain ⟨o1, e1, c1, _⟩ := pa
      obtain ⟨o2, e2, c2, _⟩ := hit
      rw [e1] at e2
      cases e2
      rw [c1] at c2
      exact absurd (Value.type.inj c2) (by decide)
    have hl := rv.length
    -- the iterator stands at its end or beyond: an iterator of no more items
    have D : Draws X.prog X.w X.A.in1 it [it, a] i (fun _ _ => True) (fun j h => (h.IsTupleIter it a j ∧ h.IsTuple a its.toArray) ∧ (j < i → False)) := {
      live := fun _ _ st => let ⟨⟨⟨o, ho, _⟩, _⟩, _⟩ := st; ⟨o, ho⟩
      frame := fun _ _ _ st hk => ⟨⟨st.1.1.at fun o e => hk it (by simp) o e, st.1.2.at fun o e => hk a (by simp) o e⟩, st.2⟩
      item := fun j s Q E hj st hQ => (st.2 hj).elim
      done := fun s Q E st hE => wpAny_nextOf_tuple_end (I.ok.hd hc) st.1.1 st.1.2 (by simp; omega) hE }
    exact wpAny_pyNext_enum_endD D he ⟨⟨hit, pa⟩, fun z => absurd z (Nat.lt_irrefl _)⟩ fun h' eb => ⟨rfl, I.turned (t' := s.toks) (fun b o hb q => eb b o hb q) f0 f1 f3 f4 f5⟩
  self := fun A i s Q E st h => let ⟨⟨_, he⟩, _⟩ := st; wpAny_pyIter_enum he h
def iEnumT (K : PySem.W.Frag) (ta : TA) : TI := fun σ H R => ta σ H fun vs H1 => ∃ a xs, vs = [.ref a] ∧ SqT K H1 a xs ∧ R (IteT K a) H1
theorem pi_enumT {e : Expr} {ta : TA} {p pos tpos : Pos} {elts : List Expr} {kk : Nat} (hg : Gl X "enumerate") (hm : X.mg "enumerate" = none) (ha : PA X [e] ta) (hs : starEach [e] X.env = [(false, eval e X.env)] := by rfl) :
    PI X (.Tuple elts kk tpos) (.Call (.Name "enumerate" p) [e] [] pos) (iEnumT X.K ta) := by
  refine ⟨fun pins s σ H R I h => ?_⟩
  refine Call_ (ld_blt I hg hm boot_enumerate (PyProof.Rows.callWith_type1 (thn (ha.run pos pins s σ H _ I h) fun us s1 ⟨vs, H1, I1, r1, q1⟩ => ?_) hs rfl))
  obtain ⟨a, xs, ex, hq, q⟩ := q1
  subst ex
  cases r1 with
  | cons r rr =>
    cases rr
    cases r
    obtain ⟨its, rv, p', hz⟩ := I1.tuple hq
    refine call_enumerate_tuple (show s1.heap.IsTuple a its.toArray from p') fun h' he hit hsz hk => wpAny_pyIter_enum he ?_
    have I2 : Inv X pins σ H1 { s1 with heap := h' } := I1.kept (t' := s1.toks) hk
    refine ⟨s1.heap.objs.size + 1, [s1.heap.objs.size + 1, s1.heap.objs.size], _, _, H1, rfl, I2, turn_enumT a (s1.heap.objs.size + 1) s1.heap.objs.size its.toArray, ⟨⟨.none, he⟩, hit, Nat.succ_ne_self _⟩, fun b hb => ?_, q⟩
    have e' : b = s1.heap.objs.size + 1 ∨ b = s1.heap.objs.size := by simpa using hb
    have hle : s1.heap.objs.size ≤ b := by
      rcases e' with z | z
      · rw [z]; exact Nat.le_add_right _ _
      · rw [z]; exact Nat.le_refl _
    exact I1.fpOk hle (I1.hok.fresh hle)
/-! ### the rules with the written part named (within a comprehension the context is another) -/
variable {K : PySem.W.Frag}
theorem ixT (h : X.K = K) : IxR X (rIxT K) := h ▸ ix_tup
theorem ixL (h : X.K = K) : IxR X (rIxL K) := h ▸ ix_list
def rLenQ (K : PySem.W.Frag) : List V → Hp → VK → Prop := fun xs H Q => ∃ p ys, xs = [.ref p] ∧ (SqL K H p ys ∨ SqT K H p ys) ∧ Q (.int ys.length) H
def rListQ (K : PySem.W.Frag) : List V → Hp → VK → Prop := fun xs H Q => ∃ p ys, xs = [.ref p] ∧ (SqL K H p ys ∨ SqT K H p ys) ∧ ∀ l, H l = none → Q (.ref l) (upd H l (.lst ys))
def rTupQ (K : PySem.W.Frag) : List V → Hp → VK → Prop := fun xs H Q => ∃ p ys, xs = [.ref p] ∧ ((SqL K H p ys ∧ ∀ l, H l = none → Q (.ref l) (upd H l (.tup ys))) ∨ (SqT K H p ys ∧ Q (.ref p) H))
theorem lenQ (h : X.K = K) : CallR X (.builtin "len") (rLenQ K) := h ▸ call_len_seq
theorem listQ (h : X.K = K) : CallR X (.type "list") (rListQ K) := h ▸ call_list_of
theorem tupleQ (h : X.K = K) : CallR X (.type "tuple") (rTupQ K) := h ▸ call_tuple_of
theorem allQ (h : X.K = K) (hc : X.calm = true) : CallR X (.builtin "all") (rAll K) := h ▸ cr_all hc
theorem minQ (h : X.K = K) (hc : X.calm = true) : CallR X (.builtin "min") (rMin K) := h ▸ cr_min hc
theorem catQ (h : X.K = K) : OpR X (binaryOp .Add) (rCatA K) := h ▸ op_catA
theorem sliceQ (h : X.K = K) : SlR X (rSlA K) := h ▸ sl_tupA
theorem eqQ (h : X.K = K) (hu : X.A.units + 64 < cLine) : OpR X (compareOp .Eq) (rEqD K) := h ▸ op_eqD hu
theorem neQ (h : X.K = K) (hu : X.A.units + 64 < cLine) : OpR X (compareOp .NotEq) (rNeD K) := h ▸ op_neD hu
theorem inQ (h : X.K = K) (hu : X.A.units + 65 < cLine) : OpR X (compareOp .In) (rInD K) := h ▸ op_inD hu
theorem ninQ (h : X.K = K) (hu : X.A.units + 65 < cLine) : OpR X (compareOp .NotIn) (rNotInD K) := h ▸ op_notInD hu
theorem indexQ (h : X.K = K) (hu : X.A.units + 65 < cLine) : MtR X "list.index" (rIndexD K) := h ▸ mt_indexD hu
theorem sortedIQ (h : X.K = K) : CallR X (.builtin "sorted") (rSortedI K) := h ▸ cr_sortedI
theorem piL {tg l : Expr} {tl : TE} (h : X.K = K) (hl : PE X l tl) : PI X tg l (iList K tl) := h ▸ pi_list hl
theorem piT {tg l : Expr} {tl : TE} (h : X.K = K) (hl : PE X l tl) : PI X tg l (iTup K tl) := h ▸ pi_tup hl
theorem piS {tg l : Expr} {tl : TE} (h : X.K = K) (hl : PE X l tl) : PI X tg l (iSeq K tl) := h ▸ pi_seq hl
theorem piE {e : Expr} {ta : TA} {p pos tpos : Pos} {elts : List Expr} {kk : Nat} (h : X.K = K) (hg : Gl X "enumerate") (hm : X.mg "enumerate" = none) (ha : PA X [e] ta) (hs : starEach [e] X.env = [(false, eval e X.env)] := by rfl) :
    PI X (.Tuple elts kk tpos) (.Call (.Name "enumerate" p) [e] [] pos) (iEnum K ta) := h ▸ pi_enum hg hm ha hs
theorem piET {e : Expr} {ta : TA} {p pos tpos : Pos} {elts : List Expr} {kk : Nat} (h : X.K = K) (hg : Gl X "enumerate") (hm : X.mg "enumerate" = none) (ha : PA X [e] ta) (hs : starEach [e] X.env = [(false, eval e X.env)] := by rfl) :
    PI X (.Tuple elts kk tpos) (.Call (.Name "enumerate" p) [e] [] pos) (iEnumT K ta) := h ▸ pi_enumT hg hm ha hs
theorem pgT {es : List Expr} {k : Nat} {t : TGs} {n : Nat} {pos : Pos} (hK : X.K = K) (hc : X.calm = true) (h : PGs X es t)
    (hn : (assignEach es X.env).length = n := by rfl) (hst : (assignEach es X.env).findIdx? (·.1) = none := by rfl) : PG X (.Tuple es k pos) (gTup K n t) := hK ▸ pg_tup hc h hn hst
theorem fldQ {e : Expr} {f : Str} {pos : Pos} {ta : TE} (h : X.K = K) (he : PE X e ta) (hb : attributeBase e f X.env (eval e X.env) = eval e X.env := by rfl) : PE X (.Attribute e f pos) (tFld K ta f) := h ▸ pe_fld he hb
theorem sfldQ {o value : Expr} {f : Str} {pos pos' : Pos} {ta tv : TE} (h : X.K = K) (ha : PE X o ta) (hv : PE X value tv) (hs : swapsWith value (some (.Attribute o f pos')) pos.line X.env = pure false) : PS X (.Assign [.Attribute o f pos'] value pos) (sFld K ta tv f) := h ▸ ps_fld ha hv hs
theorem starQ {e : Expr} {es : List Expr} {p : Pos} {te : TE} {t : TA} (h : X.K = K) (he : PE X e te) (hr : PA X es t) (hs : starEach (.Starred e p :: es) X.env = (true, eval e X.env) :: starEach es X.env := by rfl) : PA X (.Starred e p :: es) (StX.tStar K te t) := h ▸ StX.pa_star he hr hs
theorem listDQ (hc : X.calm = true) : CallR X (.type "list") rListD := call_list_dK hc
end
end FF
set_option maxHeartbeats 4000000
/-! The text by places, what the top has left. -/
namespace FF
open PySem PySem.Spec PyProof.Rows L2
def top (i : Nat) : Stmt := PySem.Challenge.pw_foursfold_k10_whole_best_from_the_left.main.body.getD i (.Pass ⟨0, 0, 0, 0⟩)
abbrev s_is_integer : Stmt := top 11
abbrev s_is_number : Stmt := top 12
abbrev s_is_below : Stmt := top 13
abbrev s_is_sequence : Stmt := top 14
abbrev s_is_end : Stmt := top 16
abbrev s_check_rows : Stmt := top 17
abbrev s_ends_of : Stmt := top 18
abbrev s_unsound_three : Stmt := top 19
abbrev s_Merger_init : Stmt := inClass (top 20) 0
abbrev s_check_queue : Stmt := top 21
abbrev s_mirror_merger : Stmt := top 22
abbrev s_met_end : Stmt := top 24
abbrev s_Stretches_init : Stmt := inClass (top 25) 0
abbrev s_Stretches_joined : Stmt := inClass (top 25) 1
abbrev s_least_pieces : Stmt := top 26
abbrev s_most_pieces : Stmt := top 27
abbrev s_pieces_left : Stmt := top 28
abbrev s_fewest_left : Stmt := top 29
abbrev s_most_left : Stmt := top 30
abbrev s_press_last : Stmt := top 32
abbrev s_plain_steps : Stmt := top 33
abbrev s_plain_fold : Stmt := top 34
abbrev s_losing_four : Stmt := top 35
abbrev s_hand_triples : Stmt := top 40
abbrev s_is_hand : Stmt := top 41
abbrev s_kind_of_four : Stmt := top 42
abbrev s_uneven_fours : Stmt := top 43
abbrev s_uneven_four : Stmt := top 44
abbrev s_can_fold : Stmt := top 46
abbrev s_folded_once : Stmt := top 47
abbrev s_fold_at : Stmt := top 48
abbrev s_law_box : Stmt := top 50
abbrev s_law_take : Stmt := top 51
abbrev s_law_pick : Stmt := top 52
abbrev s_law_merger : Stmt := top 53
abbrev s_law_rows : Stmt := top 54
abbrev s_law_end : Stmt := top 55
abbrev s_law_is_sound : Stmt := top 56
abbrev s_law_queue : Stmt := top 57
abbrev s_law_once : Stmt := top 58
abbrev s_law_folded : Stmt := top 59
abbrev s_law_losing : Stmt := top 60
abbrev s_law_short_right : Stmt := top 61
abbrev s_law_run_right : Stmt := top 62
abbrev s_law : Stmt := top 63
def d_is_integer : He.DefD := ⟨("is_integer", none), "is_integer", "is_integer", defArgs s_is_integer, defBody s_is_integer, defScope s_is_integer, [], []⟩
def d_is_number : He.DefD := ⟨("is_number", none), "is_number", "is_number", defArgs s_is_number, defBody s_is_number, defScope s_is_number, [], []⟩
def d_is_below : He.DefD := ⟨("is_below", none), "is_below", "is_below", defArgs s_is_below, defBody s_is_below, defScope s_is_below, [], []⟩
def d_is_sequence : He.DefD := ⟨("is_sequence", none), "is_sequence", "is_sequence", defArgs s_is_sequence, defBody s_is_sequence, defScope s_is_sequence, [], []⟩
def d_is_end : He.DefD := ⟨("is_end", none), "is_end", "is_end", defArgs s_is_end, defBody s_is_end, defScope s_is_end, [], []⟩
def d_check_rows : He.DefD := ⟨("check_rows", none), "check_rows", "check_rows", defArgs s_check_rows, defBody s_check_rows, defScope s_check_rows, [], []⟩
def d_ends_of : He.DefD := ⟨("ends_of", none), "ends_of", "ends_of", defArgs s_ends_of, defBody s_ends_of, defScope s_ends_of, [], []⟩
def d_unsound_three : He.DefD := ⟨("unsound_three", none), "unsound_three", "unsound_three", defArgs s_unsound_three, defBody s_unsound_three, defScope s_unsound_three, [], []⟩
def d_Merger_init : He.DefD := ⟨("Merger", some "__init__"), "__init__", "Merger.__init__", defArgs s_Merger_init, defBody s_Merger_init, defScope s_Merger_init, [], []⟩
def d_check_queue : He.DefD := ⟨("check_queue", none), "check_queue", "check_queue", defArgs s_check_queue, defBody s_check_queue, defScope s_check_queue, [], []⟩
def d_mirror_merger : He.DefD := ⟨("mirror_merger", none), "mirror_merger", "mirror_merger", defArgs s_mirror_merger, defBody s_mirror_merger, defScope s_mirror_merger, [], []⟩
def d_met_end : He.DefD := ⟨("met_end", none), "met_end", "met_end", defArgs s_met_end, defBody s_met_end, defScope s_met_end, [], []⟩
def d_Stretches_init : He.DefD := ⟨("Stretches", some "__init__"), "__init__", "Stretches.__init__", defArgs s_Stretches_init, defBody s_Stretches_init, defScope s_Stretches_init, [], []⟩
def d_Stretches_joined : He.DefD := ⟨("Stretches", some "joined"), "joined", "Stretches.joined", defArgs s_Stretches_joined, defBody s_Stretches_joined, defScope s_Stretches_joined, [], []⟩
def d_least_pieces : He.DefD := ⟨("least_pieces", none), "least_pieces", "least_pieces", defArgs s_least_pieces, defBody s_least_pieces, defScope s_least_pieces, [], []⟩
def d_most_pieces : He.DefD := ⟨("most_pieces", none), "most_pieces", "most_pieces", defArgs s_most_pieces, defBody s_most_pieces, defScope s_most_pieces, [], []⟩
def d_pieces_left : He.DefD := ⟨("pieces_left", none), "pieces_left", "pieces_left", defArgs s_pieces_left, defBody s_pieces_left, defScope s_pieces_left, [], []⟩
def d_fewest_left : He.DefD := ⟨("fewest_left", none), "fewest_left", "fewest_left", defArgs s_fewest_left, defBody s_fewest_left, defScope s_fewest_left, [], []⟩
def d_most_left : He.DefD := ⟨("most_left", none), "most_left", "most_left", defArgs s_most_left, defBody s_most_left, defScope s_most_left, [], []⟩
def d_press_last : He.DefD := ⟨("press_last", none), "press_last", "press_last", defArgs s_press_last, defBody s_press_last, defScope s_press_last, [], []⟩
def d_plain_steps : He.DefD := ⟨("plain_steps", none), "plain_steps", "plain_steps", defArgs s_plain_steps, defBody s_plain_steps, defScope s_plain_steps, [], []⟩
def d_plain_fold : He.DefD := ⟨("plain_fold", none), "plain_fold", "plain_fold", defArgs s_plain_fold, defBody s_plain_fold, defScope s_plain_fold, [], []⟩
def d_losing_four : He.DefD := ⟨("losing_four", none), "losing_four", "losing_four", defArgs s_losing_four, defBody s_losing_four, defScope s_losing_four, [], []⟩
def d_hand_triples : He.DefD := ⟨("hand_triples", none), "hand_triples", "hand_triples", defArgs s_hand_triples, defBody s_hand_triples, defScope s_hand_triples, [], []⟩
def d_is_hand : He.DefD := ⟨("is_hand", none), "is_hand", "is_hand", defArgs s_is_hand, defBody s_is_hand, defScope s_is_hand, [], []⟩
def d_kind_of_four : He.DefD := ⟨("kind_of_four", none), "kind_of_four", "kind_of_four", defArgs s_kind_of_four, defBody s_kind_of_four, defScope s_kind_of_four, [], []⟩
def d_uneven_fours : He.DefD := ⟨("uneven_fours", none), "uneven_fours", "uneven_fours", defArgs s_uneven_fours, defBody s_uneven_fours, defScope s_uneven_fours, [], []⟩
def d_uneven_four : He.DefD := ⟨("uneven_four", none), "uneven_four", "uneven_four", defArgs s_uneven_four, defBody s_uneven_four, defScope s_uneven_four, [], []⟩
def d_can_fold : He.DefD := ⟨("can_fold", none), "can_fold", "can_fold", defArgs s_can_fold, defBody s_can_fold, defScope s_can_fold, [], []⟩
def d_folded_once : He.DefD := ⟨("folded_once", none), "folded_once", "folded_once", defArgs s_folded_once, defBody s_folded_once, defScope s_folded_once, [], []⟩
def d_fold_at : He.DefD := ⟨("fold_at", none), "fold_at", "fold_at", defArgs s_fold_at, defBody s_fold_at, defScope s_fold_at, [], []⟩
def d_law_box : He.DefD := ⟨("_law_box", none), "_law_box", "_law_box", defArgs s_law_box, defBody s_law_box, defScope s_law_box, [], []⟩
def d_law_take : He.DefD := ⟨("_law_take", none), "_law_take", "_law_take", defArgs s_law_take, defBody s_law_take, defScope s_law_take, [], []⟩
def d_law_pick : He.DefD := ⟨("_law_pick", none), "_law_pick", "_law_pick", defArgs s_law_pick, defBody s_law_pick, defScope s_law_pick, [], []⟩
def d_law_merger : He.DefD := ⟨("_law_merger", none), "_law_merger", "_law_merger", defArgs s_law_merger, defBody s_law_merger, defScope s_law_merger, [], []⟩
def d_law_rows : He.DefD := ⟨("_law_rows", none), "_law_rows", "_law_rows", defArgs s_law_rows, defBody s_law_rows, defScope s_law_rows, [], []⟩
def d_law_end : He.DefD := ⟨("_law_end", none), "_law_end", "_law_end", defArgs s_law_end, defBody s_law_end, defScope s_law_end, [], []⟩
def d_law_is_sound : He.DefD := ⟨("_law_is_sound", none), "_law_is_sound", "_law_is_sound", defArgs s_law_is_sound, defBody s_law_is_sound, defScope s_law_is_sound, [], []⟩
def d_law_queue : He.DefD := ⟨("_law_queue", none), "_law_queue", "_law_queue", defArgs s_law_queue, defBody s_law_queue, defScope s_law_queue, [], []⟩
def d_law_once : He.DefD := ⟨("_law_once", none), "_law_once", "_law_once", defArgs s_law_once, defBody s_law_once, defScope s_law_once, [], []⟩
def d_law_folded : He.DefD := ⟨("_law_folded", none), "_law_folded", "_law_folded", defArgs s_law_folded, defBody s_law_folded, defScope s_law_folded, [], []⟩
def d_law_losing : He.DefD := ⟨("_law_losing", none), "_law_losing", "_law_losing", defArgs s_law_losing, defBody s_law_losing, defScope s_law_losing, [], []⟩
def d_law_short_right : He.DefD := ⟨("_law_short_right", none), "_law_short_right", "_law_short_right", defArgs s_law_short_right, defBody s_law_short_right, defScope s_law_short_right, [], []⟩
def d_law_run_right : He.DefD := ⟨("_law_run_right", none), "_law_run_right", "_law_run_right", defArgs s_law_run_right, defBody s_law_run_right, defScope s_law_run_right, [], []⟩
def d_law : He.DefD := ⟨("law", none), "law", "law", defArgs s_law, defBody s_law, defScope s_law, [], []⟩
def fn : List He.DefD := [d_is_integer, d_is_number, d_is_below, d_is_sequence, d_is_end, d_check_rows, d_ends_of, d_unsound_three, d_Merger_init, d_check_queue, d_mirror_merger, d_met_end, d_Stretches_init, d_Stretches_joined, d_least_pieces, d_most_pieces, d_pieces_left, d_fewest_left, d_most_left, d_press_last, d_plain_steps, d_plain_fold, d_losing_four, d_hand_triples, d_is_hand, d_kind_of_four, d_uneven_fours, d_uneven_four, d_can_fold, d_folded_once, d_fold_at, d_law_box, d_law_take, d_law_pick, d_law_merger, d_law_rows, d_law_end, d_law_is_sound, d_law_queue, d_law_once, d_law_folded, d_law_losing, d_law_short_right, d_law_run_right, d_law]
def fa : List He.Fa := [.glo "is_integer", .glo "is_number", .glo "is_below", .glo "is_sequence", .glo "is_end", .glo "check_rows", .glo "ends_of", .glo "unsound_three", .glo "check_queue", .glo "mirror_merger", .glo "met_end", .glo "least_pieces", .glo "most_pieces", .glo "pieces_left", .glo "fewest_left", .glo "most_left", .glo "press_last", .glo "plain_steps", .glo "plain_fold", .glo "losing_four", .glo "hand_triples", .glo "is_hand", .glo "kind_of_four", .glo "uneven_fours", .glo "uneven_four", .glo "can_fold", .glo "folded_once", .glo "fold_at", .glo "_law_box", .glo "_law_take", .glo "_law_pick", .glo "_law_merger", .glo "_law_rows", .glo "_law_end", .glo "_law_is_sound", .glo "_law_queue", .glo "_law_once", .glo "_law_folded", .glo "_law_losing", .glo "_law_short_right", .glo "_law_run_right", .glo "law", .glo "Merger", .glo "Stretches", .int "MOST_COMMANDS" 12, .int "MOST_QUEUE" 10000, .int "GONE" (-1), .str "MIDDLE" "middle", .str "LEFT" "left", .str "RIGHT" "right", .free "len", .free "range", .free "list", .free "tuple", .free "int", .free "bool", .free "isinstance", .free "enumerate", .free "all", .free "sorted", .free "max", .free "min", .free "abs", .free "repr", .cls "Merger", .mkr "Merger", .noat "Merger" "commands", .noat "Merger" "rows", .cls "Stretches", .mkr "Stretches", .noat "Stretches" "rows", .noat "Stretches" "length", .noat "Stretches" "comings", .meth "Stretches" "joined"]
abbrev cM (K : PySem.W.Frag) : Addr := He.ga K "Merger"
abbrev cS (K : PySem.W.Frag) : Addr := He.ga K "Stretches"
structure Txt (K : PySem.W.Frag) (mg : Str → Option Value) where
  fd_is_integer : FuncData
  F_is_integer : FunD K "is_integer" "is_integer" (defArgs s_is_integer) (defBody s_is_integer) (defScope s_is_integer) [] [] (He.ga K "is_integer") fd_is_integer
  m_is_integer : mg "is_integer" = some (.ref (He.ga K "is_integer"))
  fd_is_number : FuncData
  F_is_number : FunD K "is_number" "is_number" (defArgs s_is_number) (defBody s_is_number) (defScope s_is_number) [] [] (He.ga K "is_number") fd_is_number
  m_is_number : mg "is_number" = some (.ref (He.ga K "is_number"))
  fd_is_below : FuncData
  F_is_below : FunD K "is_below" "is_below" (defArgs s_is_below) (defBody s_is_below) (defScope s_is_below) [] [] (He.ga K "is_below") fd_is_below
  m_is_below : mg "is_below" = some (.ref (He.ga K "is_below"))
  fd_is_sequence : FuncData
  F_is_sequence : FunD K "is_sequence" "is_sequence" (defArgs s_is_sequence) (defBody s_is_sequence) (defScope s_is_sequence) [] [] (He.ga K "is_sequence") fd_is_sequence
  m_is_sequence : mg "is_sequence" = some (.ref (He.ga K "is_sequence"))
  fd_is_end : FuncData
  F_is_end : FunD K "is_end" "is_end" (defArgs s_is_end) (defBody s_is_end) (defScope s_is_end) [] [] (He.ga K "is_end") fd_is_end
  m_is_end : mg "is_end" = some (.ref (He.ga K "is_end"))
  fd_check_rows : FuncData
  F_check_rows : FunD K "check_rows" "check_rows" (defArgs s_check_rows) (defBody s_check_rows) (defScope s_check_rows) [] [] (He.ga K "check_rows") fd_check_rows
  m_check_rows : mg "check_rows" = some (.ref (He.ga K "check_rows"))
  fd_ends_of : FuncData
  F_ends_of : FunD K "ends_of" "ends_of" (defArgs s_ends_of) (defBody s_ends_of) (defScope s_ends_of) [] [] (He.ga K "ends_of") fd_ends_of
  m_ends_of : mg "ends_of" = some (.ref (He.ga K "ends_of"))
  fd_unsound_three : FuncData
  F_unsound_three : FunD K "unsound_three" "unsound_three" (defArgs s_unsound_three) (defBody s_unsound_three) (defScope s_unsound_three) [] [] (He.ga K "unsound_three") fd_unsound_three
  m_unsound_three : mg "unsound_three" = some (.ref (He.ga K "unsound_three"))
  fd_Merger_init : FuncData
  F_Merger_init : FunD K "__init__" "Merger.__init__" (defArgs s_Merger_init) (defBody s_Merger_init) (defScope s_Merger_init) [] [] (He.ma K (He.ga K "Merger") "__init__") fd_Merger_init
  fd_check_queue : FuncData
  F_check_queue : FunD K "check_queue" "check_queue" (defArgs s_check_queue) (defBody s_check_queue) (defScope s_check_queue) [] [] (He.ga K "check_queue") fd_check_queue
  m_check_queue : mg "check_queue" = some (.ref (He.ga K "check_queue"))
  fd_mirror_merger : FuncData
  F_mirror_merger : FunD K "mirror_merger" "mirror_merger" (defArgs s_mirror_merger) (defBody s_mirror_merger) (defScope s_mirror_merger) [] [] (He.ga K "mirror_merger") fd_mirror_merger
  m_mirror_merger : mg "mirror_merger" = some (.ref (He.ga K "mirror_merger"))
  fd_met_end : FuncData
  F_met_end : FunD K "met_end" "met_end" (defArgs s_met_end) (defBody s_met_end) (defScope s_met_end) [] [] (He.ga K "met_end") fd_met_end
  m_met_end : mg "met_end" = some (.ref (He.ga K "met_end"))
  fd_Stretches_init : FuncData
  F_Stretches_init : FunD K "__init__" "Stretches.__init__" (defArgs s_Stretches_init) (defBody s_Stretches_init) (defScope s_Stretches_init) [] [] (He.ma K (He.ga K "Stretches") "__init__") fd_Stretches_init
  fd_Stretches_joined : FuncData
  F_Stretches_joined : FunD K "joined" "Stretches.joined" (defArgs s_Stretches_joined) (defBody s_Stretches_joined) (defScope s_Stretches_joined) [] [] (He.ma K (He.ga K "Stretches") "joined") fd_Stretches_joined
  fd_least_pieces : FuncData
  F_least_pieces : FunD K "least_pieces" "least_pieces" (defArgs s_least_pieces) (defBody s_least_pieces) (defScope s_least_pieces) [] [] (He.ga K "least_pieces") fd_least_pieces
  m_least_pieces : mg "least_pieces" = some (.ref (He.ga K "least_pieces"))
  fd_most_pieces : FuncData
  F_most_pieces : FunD K "most_pieces" "most_pieces" (defArgs s_most_pieces) (defBody s_most_pieces) (defScope s_most_pieces) [] [] (He.ga K "most_pieces") fd_most_pieces
  m_most_pieces : mg "most_pieces" = some (.ref (He.ga K "most_pieces"))
  fd_pieces_left : FuncData
  F_pieces_left : FunD K "pieces_left" "pieces_left" (defArgs s_pieces_left) (defBody s_pieces_left) (defScope s_pieces_left) [] [] (He.ga K "pieces_left") fd_pieces_left
  m_pieces_left : mg "pieces_left" = some (.ref (He.ga K "pieces_left"))
  fd_fewest_left : FuncData
  F_fewest_left : FunD K "fewest_left" "fewest_left" (defArgs s_fewest_left) (defBody s_fewest_left) (defScope s_fewest_left) [] [] (He.ga K "fewest_left") fd_fewest_left
  m_fewest_left : mg "fewest_left" = some (.ref (He.ga K "fewest_left"))
  fd_most_left : FuncData
  F_most_left : FunD K "most_left" "most_left" (defArgs s_most_left) (defBody s_most_left) (defScope s_most_left) [] [] (He.ga K "most_left") fd_most_left
  m_most_left : mg "most_left" = some (.ref (He.ga K "most_left"))
  fd_press_last : FuncData
  F_press_last : FunD K "press_last" "press_last" (defArgs s_press_last) (defBody s_press_last) (defScope s_press_last) [] [] (He.ga K "press_last") fd_press_last
  m_press_last : mg "press_last" = some (.ref (He.ga K "press_last"))
  fd_plain_steps : FuncData
  F_plain_steps : FunD K "plain_steps" "plain_steps" (defArgs s_plain_steps) (defBody s_plain_steps) (defScope s_plain_steps) [] [] (He.ga K "plain_steps") fd_plain_steps
  m_plain_steps : mg "plain_steps" = some (.ref (He.ga K "plain_steps"))
  fd_plain_fold : FuncData
  F_plain_fold : FunD K "plain_fold" "plain_fold" (defArgs s_plain_fold) (defBody s_plain_fold) (defScope s_plain_fold) [] [] (He.ga K "plain_fold") fd_plain_fold
  m_plain_fold : mg "plain_fold" = some (.ref (He.ga K "plain_fold"))
  fd_losing_four : FuncData
  F_losing_four : FunD K "losing_four" "losing_four" (defArgs s_losing_four) (defBody s_losing_four) (defScope s_losing_four) [] [] (He.ga K "losing_four") fd_losing_four
  m_losing_four : mg "losing_four" = some (.ref (He.ga K "losing_four"))
  fd_hand_triples : FuncData
  F_hand_triples : FunD K "hand_triples" "hand_triples" (defArgs s_hand_triples) (defBody s_hand_triples) (defScope s_hand_triples) [] [] (He.ga K "hand_triples") fd_hand_triples
  m_hand_triples : mg "hand_triples" = some (.ref (He.ga K "hand_triples"))
  fd_is_hand : FuncData
  F_is_hand : FunD K "is_hand" "is_hand" (defArgs s_is_hand) (defBody s_is_hand) (defScope s_is_hand) [] [] (He.ga K "is_hand") fd_is_hand
  m_is_hand : mg "is_hand" = some (.ref (He.ga K "is_hand"))
  fd_kind_of_four : FuncData
  F_kind_of_four : FunD K "kind_of_four" "kind_of_four" (defArgs s_kind_of_four) (defBody s_kind_of_four) (defScope s_kind_of_four) [] [] (He.ga K "kind_of_four") fd_kind_of_four
  m_kind_of_four : mg "kind_of_four" = some (.ref (He.ga K "kind_of_four"))
  fd_uneven_fours : FuncData
  F_uneven_fours : FunD K "uneven_fours" "uneven_fours" (defArgs s_uneven_fours) (defBody s_uneven_fours) (defScope s_uneven_fours) [] [] (He.ga K "uneven_fours") fd_uneven_fours
  m_uneven_fours : mg "uneven_fours" = some (.ref (He.ga K "uneven_fours"))
  fd_uneven_four : FuncData
  F_uneven_four : FunD K "uneven_four" "uneven_four" (defArgs s_uneven_four) (defBody s_uneven_four) (defScope s_uneven_four) [] [] (He.ga K "uneven_four") fd_uneven_four
  m_uneven_four : mg "uneven_four" = some (.ref (He.ga K "uneven_four"))
  fd_can_fold : FuncData
  F_can_fold : FunD K "can_fold" "can_fold" (defArgs s_can_fold) (defBody s_can_fold) (defScope s_can_fold) [] [] (He.ga K "can_fold") fd_can_fold
  m_can_fold : mg "can_fold" = some (.ref (He.ga K "can_fold"))
  fd_folded_once : FuncData
  F_folded_once : FunD K "folded_once" "folded_once" (defArgs s_folded_once) (defBody s_folded_once) (defScope s_folded_once) [] [] (He.ga K "folded_once") fd_folded_once
  m_folded_once : mg "folded_once" = some (.ref (He.ga K "folded_once"))
  fd_fold_at : FuncData
  F_fold_at : FunD K "fold_at" "fold_at" (defArgs s_fold_at) (defBody s_fold_at) (defScope s_fold_at) [] [] (He.ga K "fold_at") fd_fold_at
  m_fold_at : mg "fold_at" = some (.ref (He.ga K "fold_at"))
  fd_law_box : FuncData
  F_law_box : FunD K "_law_box" "_law_box" (defArgs s_law_box) (defBody s_law_box) (defScope s_law_box) [] [] (He.ga K "_law_box") fd_law_box
  m_law_box : mg "_law_box" = some (.ref (He.ga K "_law_box"))
  fd_law_take : FuncData
  F_law_take : FunD K "_law_take" "_law_take" (defArgs s_law_take) (defBody s_law_take) (defScope s_law_take) [] [] (He.ga K "_law_take") fd_law_take
  m_law_take : mg "_law_take" = some (.ref (He.ga K "_law_take"))
  fd_law_pick : FuncData
  F_law_pick : FunD K "_law_pick" "_law_pick" (defArgs s_law_pick) (defBody s_law_pick) (defScope s_law_pick) [] [] (He.ga K "_law_pick") fd_law_pick
  m_law_pick : mg "_law_pick" = some (.ref (He.ga K "_law_pick"))
  fd_law_merger : FuncData
  F_law_merger : FunD K "_law_merger" "_law_merger" (defArgs s_law_merger) (defBody s_law_merger) (defScope s_law_merger) [] [] (He.ga K "_law_merger") fd_law_merger
  m_law_merger : mg "_law_merger" = some (.ref (He.ga K "_law_merger"))
  fd_law_rows : FuncData
  F_law_rows : FunD K "_law_rows" "_law_rows" (defArgs s_law_rows) (defBody s_law_rows) (defScope s_law_rows) [] [] (He.ga K "_law_rows") fd_law_rows
  m_law_rows : mg "_law_rows" = some (.ref (He.ga K "_law_rows"))
  fd_law_end : FuncData
  F_law_end : FunD K "_law_end" "_law_end" (defArgs s_law_end) (defBody s_law_end) (defScope s_law_end) [] [] (He.ga K "_law_end") fd_law_end
  m_law_end : mg "_law_end" = some (.ref (He.ga K "_law_end"))
  fd_law_is_sound : FuncData
  F_law_is_sound : FunD K "_law_is_sound" "_law_is_sound" (defArgs s_law_is_sound) (defBody s_law_is_sound) (defScope s_law_is_sound) [] [] (He.ga K "_law_is_sound") fd_law_is_sound
  m_law_is_sound : mg "_law_is_sound" = some (.ref (He.ga K "_law_is_sound"))
  fd_law_queue : FuncData
  F_law_queue : FunD K "_law_queue" "_law_queue" (defArgs s_law_queue) (defBody s_law_queue) (defScope s_law_queue) [] [] (He.ga K "_law_queue") fd_law_queue
  m_law_queue : mg "_law_queue" = some (.ref (He.ga K "_law_queue"))
  fd_law_once : FuncData
  F_law_once : FunD K "_law_once" "_law_once" (defArgs s_law_once) (defBody s_law_once) (defScope s_law_once) [] [] (He.ga K "_law_once") fd_law_once
  m_law_once : mg "_law_once" = some (.ref (He.ga K "_law_once"))
  fd_law_folded : FuncData
  F_law_folded : FunD K "_law_folded" "_law_folded" (defArgs s_law_folded) (defBody s_law_folded) (defScope s_law_folded) [] [] (He.ga K "_law_folded") fd_law_folded
  m_law_folded : mg "_law_folded" = some (.ref (He.ga K "_law_folded"))
  fd_law_losing : FuncData
  F_law_losing : FunD K "_law_losing" "_law_losing" (defArgs s_law_losing) (defBody s_law_losing) (defScope s_law_losing) [] [] (He.ga K "_law_losing") fd_law_losing
  m_law_losing : mg "_law_losing" = some (.ref (He.ga K "_law_losing"))
  fd_law_short_right : FuncData
  F_law_short_right : FunD K "_law_short_right" "_law_short_right" (defArgs s_law_short_right) (defBody s_law_short_right) (defScope s_law_short_right) [] [] (He.ga K "_law_short_right") fd_law_short_right
  m_law_short_right : mg "_law_short_right" = some (.ref (He.ga K "_law_short_right"))
  fd_law_run_right : FuncData
  F_law_run_right : FunD K "_law_run_right" "_law_run_right" (defArgs s_law_run_right) (defBody s_law_run_right) (defScope s_law_run_right) [] [] (He.ga K "_law_run_right") fd_law_run_right
  m_law_run_right : mg "_law_run_right" = some (.ref (He.ga K "_law_run_right"))
  fd_law : FuncData
  F_law : FunD K "law" "law" (defArgs s_law) (defBody s_law) (defScope s_law) [] [] (He.ga K "law") fd_law
  m_law : mg "law" = some (.ref (He.ga K "law"))
  c_MOST_COMMANDS : ∃ t, mg "MOST_COMMANDS" = some (.int 12 t)
  c_MOST_QUEUE : ∃ t, mg "MOST_QUEUE" = some (.int 10000 t)
  c_GONE : ∃ t, mg "GONE" = some (.int (-1) t)
  c_MIDDLE : ∃ t, mg "MIDDLE" = some (.str "middle" t)
  c_LEFT : ∃ t, mg "LEFT" = some (.str "left" t)
  c_RIGHT : ∃ t, mg "RIGHT" = some (.str "right" t)
  z_len : mg "len" = none
  z_range : mg "range" = none
  z_list : mg "list" = none
  z_tuple : mg "tuple" = none
  z_int : mg "int" = none
  z_bool : mg "bool" = none
  z_isinstance : mg "isinstance" = none
  z_enumerate : mg "enumerate" = none
  z_all : mg "all" = none
  z_sorted : mg "sorted" = none
  z_max : mg "max" = none
  z_min : mg "min" = none
  z_abs : mg "abs" = none
  z_repr : mg "repr" = none
  mC_Merger : mg "Merger" = some (.ref (He.ga K "Merger"))
  cl_Merger : Cls K (He.ga K "Merger")
  mk_Merger : Mk K (He.ga K "Merger") (He.ma K (He.ga K "Merger") "__init__")
  na_Merger_commands : NoAttr K (He.ga K "Merger") "commands"
  na_Merger_rows : NoAttr K (He.ga K "Merger") "rows"
  mC_Stretches : mg "Stretches" = some (.ref (He.ga K "Stretches"))
  cl_Stretches : Cls K (He.ga K "Stretches")
  mk_Stretches : Mk K (He.ga K "Stretches") (He.ma K (He.ga K "Stretches") "__init__")
  na_Stretches_rows : NoAttr K (He.ga K "Stretches") "rows"
  na_Stretches_length : NoAttr K (He.ga K "Stretches") "length"
  na_Stretches_comings : NoAttr K (He.ga K "Stretches") "comings"
  me_joined : Meth K (He.ga K "Stretches") "joined" (He.ma K (He.ga K "Stretches") "joined")
theorem txt_mk {K : PySem.W.Frag} {h : Heap} {mg : Str → Option Value} (X : K.In h) (G : h.Ns mainGlobals mg) (c : He.SaysD fa fn K) : Nonempty (Txt K mg) := by
  obtain ⟨fd_is_integer, F_is_integer⟩ := c.def_ 0 (d := d_is_integer) rfl
  obtain ⟨fd_is_number, F_is_number⟩ := c.def_ 1 (d := d_is_number) rfl
  obtain ⟨fd_is_below, F_is_below⟩ := c.def_ 2 (d := d_is_below) rfl
  obtain ⟨fd_is_sequence, F_is_sequence⟩ := c.def_ 3 (d := d_is_sequence) rfl
  obtain ⟨fd_is_end, F_is_end⟩ := c.def_ 4 (d := d_is_end) rfl
  obtain ⟨fd_check_rows, F_check_rows⟩ := c.def_ 5 (d := d_check_rows) rfl
  obtain ⟨fd_ends_of, F_ends_of⟩ := c.def_ 6 (d := d_ends_of) rfl
  obtain ⟨fd_unsound_three, F_unsound_three⟩ := c.def_ 7 (d := d_unsound_three) rfl
  obtain ⟨fd_Merger_init, F_Merger_init⟩ := c.def_ 8 (d := d_Merger_init) rfl
  obtain ⟨fd_check_queue, F_check_queue⟩ := c.def_ 9 (d := d_check_queue) rfl
  obtain ⟨fd_mirror_merger, F_mirror_merger⟩ := c.def_ 10 (d := d_mirror_merger) rfl
  obtain ⟨fd_met_end, F_met_end⟩ := c.def_ 11 (d := d_met_end) rfl
  obtain ⟨fd_Stretches_init, F_Stretches_init⟩ := c.def_ 12 (d := d_Stretches_init) rfl
  obtain ⟨fd_Stretches_joined, F_Stretches_joined⟩ := c.def_ 13 (d := d_Stretches_joined) rfl
  obtain ⟨fd_least_pieces, F_least_pieces⟩ := c.def_ 14 (d := d_least_pieces) rfl
  obtain ⟨fd_most_pieces, F_most_pieces⟩ := c.def_ 15 (d := d_most_pieces) rfl
  obtain ⟨fd_pieces_left, F_pieces_left⟩ := c.def_ 16 (d := d_pieces_left) rfl
  obtain ⟨fd_fewest_left, F_fewest_left⟩ := c.def_ 17 (d := d_fewest_left) rfl
  obtain ⟨fd_most_left, F_most_left⟩ := c.def_ 18 (d := d_most_left) rfl
  obtain ⟨fd_press_last, F_press_last⟩ := c.def_ 19 (d := d_press_last) rfl
  obtain ⟨fd_plain_steps, F_plain_steps⟩ := c.def_ 20 (d := d_plain_steps) rfl
  obtain ⟨fd_plain_fold, F_plain_fold⟩ := c.def_ 21 (d := d_plain_fold) rfl
  obtain ⟨fd_losing_four, F_losing_four⟩ := c.def_ 22 (d := d_losing_four) rfl
  obtain ⟨fd_hand_triples, F_hand_triples⟩ := c.def_ 23 (d := d_hand_triples) rfl
  obtain ⟨fd_is_hand, F_is_hand⟩ := c.def_ 24 (d := d_is_hand) rfl
  obtain ⟨fd_kind_of_four, F_kind_of_four⟩ := c.def_ 25 (d := d_kind_of_four) rfl
  obtain ⟨fd_uneven_fours, F_uneven_fours⟩ := c.def_ 26 (d := d_uneven_fours) rfl
  obtain ⟨fd_uneven_four, F_uneven_four⟩ := c.def_ 27 (d := d_uneven_four) rfl
  obtain ⟨fd_can_fold, F_can_fold⟩ := c.def_ 28 (d := d_can_fold) rfl
  obtain ⟨fd_folded_once, F_folded_once⟩ := c.def_ 29 (d := d_folded_once) rfl
  obtain ⟨fd_fold_at, F_fold_at⟩ := c.def_ 30 (d := d_fold_at) rfl
  obtain ⟨fd_law_box, F_law_box⟩ := c.def_ 31 (d := d_law_box) rfl
  obtain ⟨fd_law_take, F_law_take⟩ := c.def_ 32 (d := d_law_take) rfl
  obtain ⟨fd_law_pick, F_law_pick⟩ := c.def_ 33 (d := d_law_pick) rfl
  obtain ⟨fd_law_merger, F_law_merger⟩ := c.def_ 34 (d := d_law_merger) rfl
  obtain ⟨fd_law_rows, F_law_rows⟩ := c.def_ 35 (d := d_law_rows) rfl
  obtain ⟨fd_law_end, F_law_end⟩ := c.def_ 36 (d := d_law_end) rfl
  obtain ⟨fd_law_is_sound, F_law_is_sound⟩ := c.def_ 37 (d := d_law_is_sound) rfl
  obtain ⟨fd_law_queue, F_law_queue⟩ := c.def_ 38 (d := d_law_queue) rfl
  obtain ⟨fd_law_once, F_law_once⟩ := c.def_ 39 (d := d_law_once) rfl
  obtain ⟨fd_law_folded, F_law_folded⟩ := c.def_ 40 (d := d_law_folded) rfl
  obtain ⟨fd_law_losing, F_law_losing⟩ := c.def_ 41 (d := d_law_losing) rfl
  obtain ⟨fd_law_short_right, F_law_short_right⟩ := c.def_ 42 (d := d_law_short_right) rfl
  obtain ⟨fd_law_run_right, F_law_run_right⟩ := c.def_ 43 (d := d_law_run_right) rfl
  obtain ⟨fd_law, F_law⟩ := c.def_ 44 (d := d_law) rfl
  exact ⟨{
    fd_is_integer := fd_is_integer,
    F_is_integer := F_is_integer,
    m_is_integer := He.glo_ok X G (c.fact 0 (f := .glo "is_integer") rfl),
    fd_is_number := fd_is_number,
    F_is_number := F_is_number,
    m_is_number := He.glo_ok X G (c.fact 1 (f := .glo "is_number") rfl),
    fd_is_below := fd_is_below,
    F_is_below := F_is_below,
    m_is_below := He.glo_ok X G (c.fact 2 (f := .glo "is_below") rfl),
    fd_is_sequence := fd_is_sequence,
    F_is_sequence := F_is_sequence,
    m_is_sequence := He.glo_ok X G (c.fact 3 (f := .glo "is_sequence") rfl),
    fd_is_end := fd_is_end,
    F_is_end := F_is_end,
    m_is_end := He.glo_ok X G (c.fact 4 (f := .glo "is_end") rfl),
    fd_check_rows := fd_check_rows,
    F_check_rows := F_check_rows,
    m_check_rows := He.glo_ok X G (c.fact 5 (f := .glo "check_rows") rfl),
    fd_ends_of := fd_ends_of,
    F_ends_of := F_ends_of,
    m_ends_of := He.glo_ok X G (c.fact 6 (f := .glo "ends_of") rfl),
    fd_unsound_three := fd_unsound_three,
    F_unsound_three := F_unsound_three,
    m_unsound_three := He.glo_ok X G (c.fact 7 (f := .glo "unsound_three") rfl),
    fd_Merger_init := fd_Merger_init,
    F_Merger_init := F_Merger_init,
    fd_check_queue := fd_check_queue,
    F_check_queue := F_check_queue,
    m_check_queue := He.glo_ok X G (c.fact 8 (f := .glo "check_queue") rfl),
    fd_mirror_merger := fd_mirror_merger,
    F_mirror_merger := F_mirror_merger,
    m_mirror_merger := He.glo_ok X G (c.fact 9 (f := .glo "mirror_merger") rfl),
    fd_met_end := fd_met_end,
    F_met_end := F_met_end,
    m_met_end := He.glo_ok X G (c.fact 10 (f := .glo "met_end") rfl),
    fd_Stretches_init := fd_Stretches_init,
    F_Stretches_init := F_Stretches_init,
    fd_Stretches_joined := fd_Stretches_joined,
    F_Stretches_joined := F_Stretches_joined,
    fd_least_pieces := fd_least_pieces,
    F_least_pieces := F_least_pieces,
    m_least_pieces := He.glo_ok X G (c.fact 11 (f := .glo "least_pieces") rfl),
    fd_most_pieces := fd_most_pieces,
    F_most_pieces := F_most_pieces,
    m_most_pieces := He.glo_ok X G (c.fact 12 (f := .glo "most_pieces") rfl),
    fd_pieces_left := fd_pieces_left,
    F_pieces_left := F_pieces_left,
    m_pieces_left := He.glo_ok X G (c.fact 13 (f := .glo "pieces_left") rfl),
    fd_fewest_left := fd_fewest_left,
    F_fewest_left := F_fewest_left,
    m_fewest_left := He.glo_ok X G (c.fact 14 (f := .glo "fewest_left") rfl),
    fd_most_left := fd_most_left,
    F_most_left := F_most_left,
    m_most_left := He.glo_ok X G (c.fact 15 (f := .glo "most_left") rfl),
    fd_press_last := fd_press_last,
    F_press_last := F_press_last,
    m_press_last := He.glo_ok X G (c.fact 16 (f := .glo "press_last") rfl),
    fd_plain_steps := fd_plain_steps,
    F_plain_steps := F_plain_steps,
    m_plain_steps := He.glo_ok X G (c.fact 17 (f := .glo "plain_steps") rfl),
    fd_plain_fold := fd_plain_fold,
    F_plain_fold := F_plain_fold,
    m_plain_fold := He.glo_ok X G (c.fact 18 (f := .glo "plain_fold") rfl),
    fd_losing_four := fd_losing_four,
    F_losing_four := F_losing_four,
    m_losing_four := He.glo_ok X G (c.fact 19 (f := .glo "losing_four") rfl),
    fd_hand_triples := fd_hand_triples,
    F_hand_triples := F_hand_triples,
    m_hand_triples := He.glo_ok X G (c.fact 20 (f := .glo "hand_triples") rfl),
    fd_is_hand := fd_is_hand,
    F_is_hand := F_is_hand,
    m_is_hand := He.glo_ok X G (c.fact 21 (f := .glo "is_hand") rfl),
    fd_kind_of_four := fd_kind_of_four,
    F_kind_of_four := F_kind_of_four,
    m_kind_of_four := He.glo_ok X G (c.fact 22 (f := .glo "kind_of_four") rfl),
    fd_uneven_fours := fd_uneven_fours,
    F_uneven_fours := F_uneven_fours,
    m_uneven_fours := He.glo_ok X G (c.fact 23 (f := .glo "uneven_fours") rfl),
    fd_uneven_four := fd_uneven_four,
    F_uneven_four := F_uneven_four,
    m_uneven_four := He.glo_ok X G (c.fact 24 (f := .glo "uneven_four") rfl),
    fd_can_fold := fd_can_fold,
    F_can_fold := F_can_fold,
    m_can_fold := He.glo_ok X G (c.fact 25 (f := .glo "can_fold") rfl),
    fd_folded_once := fd_folded_once,
    F_folded_once := F_folded_once,
    m_folded_once := He.glo_ok X G (c.fact 26 (f := .glo "folded_once") rfl),
    fd_fold_at := fd_fold_at,
    F_fold_at := F_fold_at,
    m_fold_at := He.glo_ok X G (c.fact 27 (f := .glo "fold_at") rfl),
    fd_law_box := fd_law_box,
    F_law_box := F_law_box,
    m_law_box := He.glo_ok X G (c.fact 28 (f := .glo "_law_box") rfl),
    fd_law_take := fd_law_take,
    F_law_take := F_law_take,
    m_law_take := He.glo_ok X G (c.fact 29 (f := .glo "_law_take") rfl),
    fd_law_pick := fd_law_pick,
    F_law_pick := F_law_pick,
    m_law_pick := He.glo_ok X G (c.fact 30 (f := .glo "_law_pick") rfl),
    fd_law_merger := fd_law_merger,
    F_law_merger := F_law_merger,
    m_law_merger := He.glo_ok X G (c.fact 31 (f := .glo "_law_merger") rfl),
    fd_law_rows := fd_law_rows,
    F_law_rows := F_law_rows,
    m_law_rows := He.glo_ok X G (c.fact 32 (f := .glo "_law_rows") rfl),
    fd_law_end := fd_law_end,
    F_law_end := F_law_end,
    m_law_end := He.glo_ok X G (c.fact 33 (f := .glo "_law_end") rfl),
    fd_law_is_sound := fd_law_is_sound,
    F_law_is_sound := F_law_is_sound,
    m_law_is_sound := He.glo_ok X G (c.fact 34 (f := .glo "_law_is_sound") rfl),
    fd_law_queue := fd_law_queue,
    F_law_queue := F_law_queue,
    m_law_queue := He.glo_ok X G (c.fact 35 (f := .glo "_law_queue") rfl),
    fd_law_once := fd_law_once,
    F_law_once := F_law_once,
    m_law_once := He.glo_ok X G (c.fact 36 (f := .glo "_law_once") rfl),
    fd_law_folded := fd_law_folded,
    F_law_folded := F_law_folded,
    m_law_folded := He.glo_ok X G (c.fact 37 (f := .glo "_law_folded") rfl),
    fd_law_losing := fd_law_losing,
    F_law_losing := F_law_losing,
    m_law_losing := He.glo_ok X G (c.fact 38 (f := .glo "_law_losing") rfl),
    fd_law_short_right := fd_law_short_right,
    F_law_short_right := F_law_short_right,
    m_law_short_right := He.glo_ok X G (c.fact 39 (f := .glo "_law_short_right") rfl),
    fd_law_run_right := fd_law_run_right,
    F_law_run_right := F_law_run_right,
    m_law_run_right := He.glo_ok X G (c.fact 40 (f := .glo "_law_run_right") rfl),
    fd_law := fd_law,
    F_law := F_law,
    m_law := He.glo_ok X G (c.fact 41 (f := .glo "law") rfl),
    c_MOST_COMMANDS := He.int_ok X G (c.fact 44 (f := .int "MOST_COMMANDS" 12) rfl),
    c_MOST_QUEUE := He.int_ok X G (c.fact 45 (f := .int "MOST_QUEUE" 10000) rfl),
    c_GONE := He.int_ok X G (c.fact 46 (f := .int "GONE" (-1)) rfl),
    c_MIDDLE := He.str_ok X G (c.fact 47 (f := .str "MIDDLE" "middle") rfl),
    c_LEFT := He.str_ok X G (c.fact 48 (f := .str "LEFT" "left") rfl),
    c_RIGHT := He.str_ok X G (c.fact 49 (f := .str "RIGHT" "right") rfl),
    z_len := He.free_ok X G (c.fact 50 (f := .free "len") rfl),
    z_range := He.free_ok X G (c.fact 51 (f := .free "range") rfl),
    z_list := He.free_ok X G (c.fact 52 (f := .free "list") rfl),
    z_tuple := He.free_ok X G (c.fact 53 (f := .free "tuple") rfl),
    z_int := He.free_ok X G (c.fact 54 (f := .free "int") rfl),
    z_bool := He.free_ok X G (c.fact 55 (f := .free "bool") rfl),
    z_isinstance := He.free_ok X G (c.fact 56 (f := .free "isinstance") rfl),
    z_enumerate := He.free_ok X G (c.fact 57 (f := .free "enumerate") rfl),
    z_all := He.free_ok X G (c.fact 58 (f := .free "all") rfl),
    z_sorted := He.free_ok X G (c.fact 59 (f := .free "sorted") rfl),
    z_max := He.free_ok X G (c.fact 60 (f := .free "max") rfl),
    z_min := He.free_ok X G (c.fact 61 (f := .free "min") rfl),
    z_abs := He.free_ok X G (c.fact 62 (f := .free "abs") rfl),
    z_repr := He.free_ok X G (c.fact 63 (f := .free "repr") rfl),
    mC_Merger := He.glo_ok X G (c.fact 42 (f := .glo "Merger") rfl),
    cl_Merger := He.cls_ok (c.fact 64 (f := .cls "Merger") rfl),
    mk_Merger := He.mkr_ok (c.fact 65 (f := .mkr "Merger") rfl),
    na_Merger_commands := He.noat_ok (c.fact 66 (f := .noat "Merger" "commands") rfl),
    na_Merger_rows := He.noat_ok (c.fact 67 (f := .noat "Merger" "rows") rfl),
    mC_Stretches := He.glo_ok X G (c.fact 43 (f := .glo "Stretches") rfl),
    cl_Stretches := He.cls_ok (c.fact 68 (f := .cls "Stretches") rfl),
    mk_Stretches := He.mkr_ok (c.fact 69 (f := .mkr "Stretches") rfl),
    na_Stretches_rows := He.noat_ok (c.fact 70 (f := .noat "Stretches" "rows") rfl),
    na_Stretches_length := He.noat_ok (c.fact 71 (f := .noat "Stretches" "length") rfl),
    na_Stretches_comings := He.noat_ok (c.fact 72 (f := .noat "Stretches" "comings") rfl),
    me_joined := He.meth_ok (c.fact 73 (f := .meth "Stretches" "joined") rfl) }⟩
variable {K : PySem.W.Frag} {mg : Str → Option Value}
theorem bi_is_integer (T : Txt K mg) : Binds K T.fd_is_integer ["value"] [] := T.F_is_integer.bindsN fun _ _ _ _ _ _ us hl => match us, hl with | [_], _ => rfl
theorem sc_is_integer : FnScope ["value"] ["value"] (defScope s_is_integer) := ⟨rfl, rfl, rfl, by decide +kernel, rfl, by decide +kernel, by decide +kernel⟩
theorem bi_is_number (T : Txt K mg) : Binds K T.fd_is_number ["value"] [] := T.F_is_number.bindsN fun _ _ _ _ _ _ us hl => match us, hl with | [_], _ => rfl
theorem sc_is_number : FnScope ["value"] ["value"] (defScope s_is_number) := ⟨rfl, rfl, rfl, by decide +kernel, rfl, by decide +kernel, by decide +kernel⟩
theorem bi_is_below (T : Txt K mg) : Binds K T.fd_is_below ["value", "most"] [] := T.F_is_below.bindsN fun _ _ _ _ _ _ us hl => match us, hl with | [_, _], _ => rfl
theorem sc_is_below : FnScope ["value", "most"] ["value", "most"] (defScope s_is_below) := ⟨rfl, rfl, rfl, by decide +kernel, rfl, by decide +kernel, by decide +kernel⟩
theorem bi_is_sequence (T : Txt K mg) : Binds K T.fd_is_sequence ["value"] [] := T.F_is_sequence.bindsN fun _ _ _ _ _ _ us hl => match us, hl with | [_], _ => rfl
theorem sc_is_sequence : FnScope ["value"] ["value"] (defScope s_is_sequence) := ⟨rfl, rfl, rfl, by decide +kernel, rfl, by decide +kernel, by decide +kernel⟩
theorem bi_is_end (T : Txt K mg) : Binds K T.fd_is_end ["value", "many"] [] := T.F_is_end.bindsN fun _ _ _ _ _ _ us hl => match us, hl with | [_, _], _ => rfl
theorem sc_is_end : FnScope ["value", "many"] ["value", "many"] (defScope s_is_end) := ⟨rfl, rfl, rfl, by decide +kernel, rfl, by decide +kernel, by decide +kernel⟩
theorem bi_check_rows (T : Txt K mg) : Binds K T.fd_check_rows ["rows"] [] := T.F_check_rows.bindsN fun _ _ _ _ _ _ us hl => match us, hl with | [_], _ => rfl
theorem sc_check_rows : FnScope ["rows", "at", "row", "end"] ["rows"] (defScope s_check_rows) := ⟨rfl, rfl, rfl, by decide +kernel, rfl, by decide +kernel, by decide +kernel⟩
theorem bi_ends_of (T : Txt K mg) : Binds K T.fd_ends_of ["rows", "one", "middle", "other"] [] := T.F_ends_of.bindsN fun _ _ _ _ _ _ us hl => match us, hl with | [_, _, _, _], _ => rfl
theorem sc_ends_of : FnScope ["rows", "one", "middle", "other", "ahead", "behind", "left", "right"] ["rows", "one", "middle", "other"] (defScope s_ends_of) := ⟨rfl, rfl, rfl, by decide +kernel, rfl, by decide +kernel, by decide +kernel⟩
theorem bi_unsound_three (T : Txt K mg) : Binds K T.fd_unsound_three ["rows"] [] := T.F_unsound_three.bindsN fun _ _ _ _ _ _ us hl => match us, hl with | [_], _ => rfl
theorem sc_unsound_three : FnScope ["rows", "commands", "one", "middle", "other", "ends"] ["rows"] (defScope s_unsound_three) := ⟨rfl, rfl, rfl, by decide +kernel, rfl, by decide +kernel, by decide +kernel⟩
theorem bi_Merger_init (T : Txt K mg) : Binds K T.fd_Merger_init ["self", "rows"] [] := T.F_Merger_init.bindsN fun _ _ _ _ _ _ us hl => match us, hl with | [_, _], _ => rfl
theorem sc_Merger_init : FnScope ["self", "rows", "told", "three"] ["self", "rows"] (defScope s_Merger_init) := ⟨rfl, rfl, rfl, by decide +kernel, rfl, by decide +kernel, by decide +kernel⟩
theorem bi_check_queue (T : Txt K mg) : Binds K T.fd_check_queue ["merger", "value"] [] := T.F_check_queue.bindsN fun _ _ _ _ _ _ us hl => match us, hl with | [_, _], _ => rfl
theorem sc_check_queue : FnScope ["merger", "value", "at", "command"] ["merger", "value"] (defScope s_check_queue) := ⟨rfl, rfl, rfl, by decide +kernel, rfl, by decide +kernel, by decide +kernel⟩
theorem bi_mirror_merger (T : Txt K mg) : Binds K T.fd_mirror_merger ["merger"] [] := T.F_mirror_merger.bindsN fun _ _ _ _ _ _ us hl => match us, hl with | [_], _ => rfl
theorem sc_mirror_merger : FnScope ["merger", "command", "row"] ["merger"] (defScope s_mirror_merger) := ⟨rfl, rfl, rfl, by decide +kernel, rfl, by decide +kernel, by decide +kernel⟩
theorem bi_met_end (T : Txt K mg) : Binds K T.fd_met_end ["rows", "one", "other"] [] := T.F_met_end.bindsN fun _ _ _ _ _ _ us hl => match us, hl with | [_, _, _], _ => rfl
theorem sc_met_end : FnScope ["rows", "one", "other"] ["rows", "one", "other"] (defScope s_met_end) := ⟨rfl, rfl, rfl, by decide +kernel, rfl, by decide +kernel, by decide +kernel⟩
theorem bi_Stretches_init (T : Txt K mg) : Binds K T.fd_Stretches_init ["self", "rows", "queue"] [] := T.F_Stretches_init.bindsN fun _ _ _ _ _ _ us hl => match us, hl with | [_, _, _], _ => rfl
theorem sc_Stretches_init : FnScope ["self", "rows", "queue", "at", "command", "size", "first"] ["self", "rows", "queue"] (defScope s_Stretches_init) := ⟨rfl, rfl, rfl, by decide +kernel, rfl, by decide +kernel, by decide +kernel⟩
theorem bi_Stretches_joined (T : Txt K mg) : Binds K T.fd_Stretches_joined ["self", "first", "last"] [] := T.F_Stretches_joined.bindsN fun _ _ _ _ _ _ us hl => match us, hl with | [_, _, _], _ => rfl
theorem sc_Stretches_joined : FnScope ["self", "first", "last", "found", "cut", "one", "other", "end"] ["self", "first", "last"] (defScope s_Stretches_joined) := ⟨rfl, rfl, rfl, by decide +kernel, rfl, by decide +kernel, by decide +kernel⟩
theorem bi_least_pieces (T : Txt K mg) : Binds K T.fd_least_pieces ["stretches"] [] := T.F_least_pieces.bindsN fun _ _ _ _ _ _ us hl => match us, hl with | [_], _ => rfl
theorem sc_least_pieces : FnScope ["stretches", "best", "last", "found", "first", "end", "many"] ["stretches"] (defScope s_least_pieces) := ⟨rfl, rfl, rfl, by decide +kernel, rfl, by decide +kernel, by decide +kernel⟩
theorem bi_most_pieces (T : Txt K mg) : Binds K T.fd_most_pieces ["stretches"] [] := T.F_most_pieces.bindsN fun _ _ _ _ _ _ us hl => match us, hl with | [_], _ => rfl
theorem sc_most_pieces : FnScope ["stretches", "best", "last", "found", "first", "end", "kept", "many", "pieces", "after", "place", "told"] ["stretches"] (defScope s_most_pieces) := ⟨rfl, rfl, rfl, by decide +kernel, rfl, by decide +kernel, by decide +kernel⟩
theorem bi_pieces_left (T : Txt K mg) : Binds K T.fd_pieces_left ["pieces"] [] := T.F_pieces_left.bindsN fun _ _ _ _ _ _ us hl => match us, hl with | [_], _ => rfl
theorem sc_pieces_left : FnScope ["pieces", "first", "last", "end"] ["pieces"] (defScope s_pieces_left) := ⟨rfl, rfl, rfl, by decide +kernel, rfl, by decide +kernel, by decide +kernel⟩
theorem bi_fewest_left (T : Txt K mg) : Binds K T.fd_fewest_left ["merger", "queue"] [] := T.F_fewest_left.bindsN fun _ _ _ _ _ _ us hl => match us, hl with | [_, _], _ => rfl
theorem sc_fewest_left : FnScope ["merger", "queue"] ["merger", "queue"] (defScope s_fewest_left) := ⟨rfl, rfl, rfl, by decide +kernel, rfl, by decide +kernel, by decide +kernel⟩
theorem bi_most_left (T : Txt K mg) : Binds K T.fd_most_left ["merger", "queue"] [] := T.F_most_left.bindsN fun _ _ _ _ _ _ us hl => match us, hl with | [_, _], _ => rfl
theorem sc_most_left : FnScope ["merger", "queue"] ["merger", "queue"] (defScope s_most_left) := ⟨rfl, rfl, rfl, by decide +kernel, rfl, by decide +kernel, by decide +kernel⟩
theorem bi_press_last (T : Txt K mg) : Binds K T.fd_press_last ["rows", "pile", "command"] [] := T.F_press_last.bindsN fun _ _ _ _ _ _ us hl => match us, hl with | [_, _, _], _ => rfl
theorem sc_press_last : FnScope ["rows", "pile", "command", "many", "last", "end"] ["rows", "pile", "command"] (defScope s_press_last) := ⟨rfl, rfl, rfl, by decide +kernel, rfl, by decide +kernel, by decide +kernel⟩
theorem bi_plain_steps (T : Txt K mg) : Binds K T.fd_plain_steps ["rows", "queue"] [] := T.F_plain_steps.bindsN fun _ _ _ _ _ _ us hl => match us, hl with | [_, _], _ => rfl
theorem sc_plain_steps : FnScope ["rows", "queue", "pile", "places", "command", "place", "turn"] ["rows", "queue"] (defScope s_plain_steps) := ⟨rfl, rfl, rfl, by decide +kernel, rfl, by decide +kernel, by decide +kernel⟩
theorem bi_plain_fold (T : Txt K mg) : Binds K T.fd_plain_fold ["merger", "queue"] [] := T.F_plain_fold.bindsN fun _ _ _ _ _ _ us hl => match us, hl with | [_, _], _ => rfl
theorem sc_plain_fold : FnScope ["merger", "queue"] ["merger", "queue"] (defScope s_plain_fold) := ⟨rfl, rfl, rfl, by decide +kernel, rfl, by decide +kernel, by decide +kernel⟩
theorem bi_losing_four (T : Txt K mg) : Binds K T.fd_losing_four ["merger"] [] := T.F_losing_four.bindsN fun _ _ _ _ _ _ us hl => match us, hl with | [_], _ => rfl
theorem sc_losing_four : FnScope ["merger", "rows", "everyone", "one", "two", "ahead", "three", "behind", "last"] ["merger"] (defScope s_losing_four) := ⟨rfl, rfl, rfl, by decide +kernel, rfl, by decide +kernel, by decide +kernel⟩
theorem bi_hand_triples (T : Txt K mg) : Binds K T.fd_hand_triples ["merger"] [] := T.F_hand_triples.bindsN fun _ _ _ _ _ _ us hl => match us, hl with | [_], _ => rfl
theorem sc_hand_triples : FnScope ["merger", "rows", "found", "one", "two", "first", "three", "second"] ["merger"] (defScope s_hand_triples) := ⟨rfl, rfl, rfl, by decide +kernel, rfl, by decide +kernel, by decide +kernel⟩
theorem bi_is_hand (T : Txt K mg) : Binds K T.fd_is_hand ["rows", "one", "two", "three"] [] := T.F_is_hand.bindsN fun _ _ _ _ _ _ us hl => match us, hl with | [_, _, _, _], _ => rfl
theorem sc_is_hand : FnScope ["rows", "one", "two", "three", "first", "second"] ["rows", "one", "two", "three"] (defScope s_is_hand) := ⟨rfl, rfl, rfl, by decide +kernel, rfl, by decide +kernel, by decide +kernel⟩
theorem bi_kind_of_four (T : Txt K mg) : Binds K T.fd_kind_of_four ["rows", "four"] [] := T.F_kind_of_four.bindsN fun _ _ _ _ _ _ us hl => match us, hl with | [_, _], _ => rfl
theorem sc_kind_of_four : FnScope ["rows", "four", "one", "two", "three", "last"] ["rows", "four"] (defScope s_kind_of_four) := ⟨rfl, rfl, rfl, by decide +kernel, rfl, by decide +kernel, by decide +kernel⟩
theorem bi_uneven_fours (T : Txt K mg) : Binds K T.fd_uneven_fours ["merger"] [] := T.F_uneven_fours.bindsN fun _ _ _ _ _ _ us hl => match us, hl with | [_], _ => rfl
theorem sc_uneven_fours : FnScope ["merger", "found", "everyone", "one", "two", "three", "fours", "four", "kind", "other"] ["merger"] (defScope s_uneven_fours) := ⟨rfl, rfl, rfl, by decide +kernel, rfl, by decide +kernel, by decide +kernel⟩
theorem bi_uneven_four (T : Txt K mg) : Binds K T.fd_uneven_four ["merger"] [] := T.F_uneven_four.bindsN fun _ _ _ _ _ _ us hl => match us, hl with | [_], _ => rfl
theorem sc_uneven_four : FnScope ["merger", "fours"] ["merger"] (defScope s_uneven_four) := ⟨rfl, rfl, rfl, by decide +kernel, rfl, by decide +kernel, by decide +kernel⟩
theorem bi_can_fold (T : Txt K mg) : Binds K T.fd_can_fold ["rows", "queue", "place"] [] := T.F_can_fold.bindsN fun _ _ _ _ _ _ us hl => match us, hl with | [_, _, _], _ => rfl
theorem sc_can_fold : FnScope ["rows", "queue", "place"] ["rows", "queue", "place"] (defScope s_can_fold) := ⟨rfl, rfl, rfl, by decide +kernel, rfl, by decide +kernel, by decide +kernel⟩
theorem bi_folded_once (T : Txt K mg) : Binds K T.fd_folded_once ["rows", "queue", "place"] [] := T.F_folded_once.bindsN fun _ _ _ _ _ _ us hl => match us, hl with | [_, _, _], _ => rfl
theorem sc_folded_once : FnScope ["rows", "queue", "place", "end"] ["rows", "queue", "place"] (defScope s_folded_once) := ⟨rfl, rfl, rfl, by decide +kernel, rfl, by decide +kernel, by decide +kernel⟩
theorem bi_fold_at (T : Txt K mg) : Binds K T.fd_fold_at ["merger", "queue", "place"] [] := T.F_fold_at.bindsN fun _ _ _ _ _ _ us hl => match us, hl with | [_, _, _], _ => rfl
theorem sc_fold_at : FnScope ["merger", "queue", "place", "told"] ["merger", "queue", "place"] (defScope s_fold_at) := ⟨rfl, rfl, rfl, by decide +kernel, rfl, by decide +kernel, by decide +kernel⟩
theorem bi_law_box (T : Txt K mg) : Binds K T.fd_law_box ["_law_script", "_law_k"] [] := T.F_law_box.bindsN fun _ _ _ _ _ _ us hl => match us, hl with | [_, _], _ => rfl
theorem sc_law_box : FnScope ["_law_script", "_law_k", "_law_cell", "_law_great"] ["_law_script", "_law_k"] (defScope s_law_box) := ⟨rfl, rfl, rfl, by decide +kernel, rfl, by decide +kernel, by decide +kernel⟩
theorem bi_law_take (T : Txt K mg) : Binds K T.fd_law_take ["_law_box_here", "_law_many"] [] := T.F_law_take.bindsN fun _ _ _ _ _ _ us hl => match us, hl with | [_, _], _ => rfl
theorem sc_law_take : FnScope ["_law_box_here", "_law_many", "_law_digit", "_law_raw"] ["_law_box_here", "_law_many"] (defScope s_law_take) := ⟨rfl, rfl, rfl, by decide +kernel, rfl, by decide +kernel, by decide +kernel⟩
theorem bi_law_pick (T : Txt K mg) : Binds K T.fd_law_pick ["_law_box_here", "_law_some"] [] := T.F_law_pick.bindsN fun _ _ _ _ _ _ us hl => match us, hl with | [_, _], _ => rfl
theorem sc_law_pick : FnScope ["_law_box_here", "_law_some"] ["_law_box_here", "_law_some"] (defScope s_law_pick) := ⟨rfl, rfl, rfl, by decide +kernel, rfl, by decide +kernel, by decide +kernel⟩
theorem bi_law_merger (T : Txt K mg) : Binds K T.fd_law_merger ["_law_box_here"] [] := T.F_law_merger.bindsN fun _ _ _ _ _ _ us hl => match us, hl with | [_], _ => rfl
theorem sc_law_merger : FnScope ["_law_box_here", "_law_turn", "_law_rows_here"] ["_law_box_here"] (defScope s_law_merger) := ⟨rfl, rfl, rfl, by decide +kernel, rfl, by decide +kernel, by decide +kernel⟩
theorem bi_law_rows (T : Txt K mg) : Binds K T.fd_law_rows ["_law_box_here", "_law_turn"] [] := T.F_law_rows.bindsN fun _ _ _ _ _ _ us hl => match us, hl with | [_, _], _ => rfl
theorem sc_law_rows : FnScope ["_law_box_here", "_law_turn", "_law_way", "_law_rows_here", "_law_one", "_law_other", "_law_end_here", "_law_many", "_law_row", "_law_states", "_law_tables", "_law_table", "_law_state", "_law_ends", "_law_done"] ["_law_box_here", "_law_turn"] (defScope s_law_rows) := ⟨rfl, rfl, rfl, by decide +kernel, rfl, by decide +kernel, by decide +kernel⟩
theorem bi_law_end (T : Txt K mg) : Binds K T.fd_law_end ["_law_rows_here", "_law_one", "_law_other"] [] := T.F_law_end.bindsN fun _ _ _ _ _ _ us hl => match us, hl with | [_, _, _], _ => rfl
theorem sc_law_end : FnScope ["_law_rows_here", "_law_one", "_law_other"] ["_law_rows_here", "_law_one", "_law_other"] (defScope s_law_end) := ⟨rfl, rfl, rfl, by decide +kernel, rfl, by decide +kernel, by decide +kernel⟩
theorem bi_law_is_sound (T : Txt K mg) : Binds K T.fd_law_is_sound ["_law_rows_here"] [] := T.F_law_is_sound.bindsN fun _ _ _ _ _ _ us hl => match us, hl with | [_], _ => rfl
theorem sc_law_is_sound : FnScope ["_law_rows_here", "_law_one", "_law_two", "_law_three"] ["_law_rows_here"] (defScope s_law_is_sound) := ⟨rfl, rfl, rfl, by decide +kernel, rfl, by decide +kernel, by decide +kernel⟩
theorem bi_law_queue (T : Txt K mg) : Binds K T.fd_law_queue ["_law_box_here", "_law_many", "_law_most"] [] := T.F_law_queue.bindsN fun _ _ _ _ _ _ us hl => match us, hl with | [_, _, _], _ => rfl
theorem sc_law_queue : FnScope ["_law_box_here", "_law_many", "_law_most", "_law_turn"] ["_law_box_here", "_law_many", "_law_most"] (defScope s_law_queue) := ⟨rfl, rfl, rfl, by decide +kernel, rfl, by decide +kernel, by decide +kernel⟩
theorem bi_law_once (T : Txt K mg) : Binds K T.fd_law_once ["_law_rows_here", "_law_queue_here", "_law_place"] [] := T.F_law_once.bindsN fun _ _ _ _ _ _ us hl => match us, hl with | [_, _, _], _ => rfl
theorem sc_law_once : FnScope ["_law_rows_here", "_law_queue_here", "_law_place", "_law_end_here"] ["_law_rows_here", "_law_queue_here", "_law_place"] (defScope s_law_once) := ⟨rfl, rfl, rfl, by decide +kernel, rfl, by decide +kernel, by decide +kernel⟩
theorem bi_law_folded (T : Txt K mg) : Binds K T.fd_law_folded ["_law_rows_here", "_law_queue_here"] [] := T.F_law_folded.bindsN fun _ _ _ _ _ _ us hl => match us, hl with | [_, _], _ => rfl
theorem sc_law_folded : FnScope ["_law_rows_here", "_law_queue_here", "_law_found", "_law_seen", "_law_waiting", "_law_turn", "_law_place", "_law_here", "_law_is_end", "_law_later"] ["_law_rows_here", "_law_queue_here"] (defScope s_law_folded) := ⟨rfl, rfl, rfl, by decide +kernel, rfl, by decide +kernel, by decide +kernel⟩
theorem bi_law_losing (T : Txt K mg) : Binds K T.fd_law_losing ["_law_rows_here"] [] := T.F_law_losing.bindsN fun _ _ _ _ _ _ us hl => match us, hl with | [_], _ => rfl
theorem sc_law_losing : FnScope ["_law_rows_here", "_law_many", "_law_a", "_law_b", "_law_c", "_law_ab", "_law_bc", "_law_y"] ["_law_rows_here"] (defScope s_law_losing) := ⟨rfl, rfl, rfl, by decide +kernel, rfl, by decide +kernel, by decide +kernel⟩
theorem bi_law_short_right (T : Txt K mg) : Binds K T.fd_law_short_right ["_law_box_here", "_law_merger_here", "_law_rows_here", "_law_four"] [] := T.F_law_short_right.bindsN fun _ _ _ _ _ _ us hl => match us, hl with | [_, _, _, _], _ => rfl
theorem sc_law_short_right : FnScope ["_law_box_here", "_law_merger_here", "_law_rows_here", "_law_four", "_law_sizes", "_law_one", "_law_turn", "_law_queue_here"] ["_law_box_here", "_law_merger_here", "_law_rows_here", "_law_four"] (defScope s_law_short_right) := ⟨rfl, rfl, rfl, by decide +kernel, rfl, by decide +kernel, by decide +kernel⟩
theorem bi_law_run_right (T : Txt K mg) : Binds K T.fd_law_run_right ["_law_box_here", "_law_merger_here", "_law_rows_here", "_law_four"] [] := T.F_law_run_right.bindsN fun _ _ _ _ _ _ us hl => match us, hl with | [_, _, _, _], _ => rfl
theorem sc_law_run_right : FnScope ["_law_box_here", "_law_merger_here", "_law_rows_here", "_law_four", "_law_queue_here", "_law_here", "_law_last", "_law_turn", "_law_places", "_law_now", "_law_place", "_law_cut", "_law_parts"] ["_law_box_here", "_law_merger_here", "_law_rows_here", "_law_four"] (defScope s_law_run_right) := ⟨rfl, rfl, rfl, by decide +kernel, rfl, by decide +kernel, by decide +kernel⟩
theorem sc_law : FnScope ["_law_script", "_law_box_here", "_law_rows_here", "_law_one", "_law_merger_here", "_law_mirror", "_law_told", "_law_due", "_law_uneven", "_law_k", "_law_row"] ["_law_script"] (defScope s_law) := ⟨rfl, rfl, rfl, by decide +kernel, rfl, by decide +kernel, by decide +kernel⟩
end FF
set_option maxHeartbeats 4000000
/-! Data in the heap: rows, queues, mergers, the box. -/
namespace FF
open PySem PySem.Spec PyProof.Rows L2
/-! ### rows of a merger -/
abbrev Rws := List (List (Option Int))
def eV (e : Option Int) : V := match e with
  | none => .non
  | some i => .int i
structure Wf (R : Rws) (n : Nat) : Prop where
  len : R.length = n
  row : ∀ r ∈ R, r.length = n
  ent : ∀ r ∈ R, ∀ i : Int, some i ∈ r → -1 ≤ i ∧ i < n
  pos : 1 ≤ n
  le : n ≤ 12
def ent (R : Rws) (x y : Int) : Option Int := (R.getD x.toNat []).getD y.toNat none
def dec (i : Int) : Option Int := if i = -1 then none else some i
def Cm (n : Nat) (x : Int) : Prop := 0 ≤ x ∧ x < n
instance (n : Nat) (x : Int) : Decidable (Cm n x) := inferInstanceAs (Decidable (0 ≤ x ∧ x < n))
def mm (R : Rws) (n : Nat) : Mt.Mg Int := fun x y => if Cm n x ∧ Cm n y then (ent R x y).map dec else none
theorem Wf.get {R : Rws} {n : Nat} (w : Wf R n) {x : Int} (hx : Cm n x) : ∃ r, R[x.toNat]? = some r ∧ r.length = n ∧ r ∈ R := by
  obtain ⟨h1, h2⟩ := hx
  have h3 : x.toNat < R.length := by rw [w.len]; omega
  refine ⟨R[x.toNat], List.getElem?_eq_getElem h3, w.row _ (List.getElem_mem h3), List.getElem_mem h3⟩
theorem Wf.at {R : Rws} {n : Nat} (w : Wf R n) {x y : Int} (hx : Cm n x) (hy : Cm n y) : ∃ r, R[x.toNat]? = some r ∧ r[y.toNat]? = some (FF.ent R x y) ∧ r ∈ R := by
  obtain ⟨r, h1, h2, h3⟩ := w.get hx
  obtain ⟨h4, h5⟩ := hy
  have h6 : y.toNat < r.length := by rw [h2]; omega
  refine ⟨r, h1, ?_, h3⟩
  unfold FF.ent
  have e : R.getD x.toNat [] = r := by rw [List.getD_eq_getElem?_getD, h1]; rfl
  rw [e, List.getD_eq_getElem?_getD]
  rw [List.getElem?_eq_getElem h6]
  rfl
theorem Wf.bd {R : Rws} {n : Nat} (w : Wf R n) {x y i : Int} (hx : Cm n x) (hy : Cm n y) (h : FF.ent R x y = some i) : -1 ≤ i ∧ i < n := by
  obtain ⟨r, h1, h2, h3⟩ := w.at hx hy
  rw [h] at h2
  exact w.ent r h3 i (List.mem_of_getElem? h2)
theorem Wf.cm {R : Rws} {n : Nat} (w : Wf R n) {x y i : Int} (hx : Cm n x) (hy : Cm n y) (h : FF.ent R x y = some i) (hi : i ≠ -1) : Cm n i := by
  have := w.bd hx hy h
  exact ⟨by omega, this.2⟩
theorem dec_no {i : Int} (h : i ≠ -1) : dec i = some i := if_neg h
theorem dec_gone : dec (-1) = none := rfl
theorem mm_in {R : Rws} {n : Nat} {x y : Int} (hx : Cm n x) (hy : Cm n y) : mm R n x y = (ent R x y).map dec := if_pos ⟨hx, hy⟩
theorem mm_dom {R : Rws} {n : Nat} {x y : Int} {z : Option Int} (h : mm R n x y = some z) : Cm n x ∧ Cm n y ∧ ∃ i, ent R x y = some i ∧ dec i = z := by
  unfold mm at h
  by_cases c : Cm n x ∧ Cm n y
  · rw [if_pos c] at h
    cases e : ent R x y with
    | none => rw [e] at h; cases h
    | some i =>
      rw [e] at h
      exact ⟨c.1, c.2, i, rfl, Option.some.inj h⟩
  · rw [if_neg c] at h
    cases h
theorem mm_none {R : Rws} {n : Nat} {x y : Int} (hx : Cm n x) (hy : Cm n y) : mm R n x y = none ↔ ent R x y = none := by rw [mm_in hx hy]; cases ent R x y <;> simp
theorem mm_of {R : Rws} {n : Nat} {x y i : Int} (hx : Cm n x) (hy : Cm n y) (h : ent R x y = some i) : mm R n x y = some (dec i) := by rw [mm_in hx hy, h]; rfl
theorem mm_cmd {R : Rws} {n : Nat} {x y i : Int} (hx : Cm n x) (hy : Cm n y) (h : ent R x y = some i) (hi : i ≠ -1) : mm R n x y = some (some i) := by rw [mm_of hx hy h, dec_no hi]
theorem mm_gone {R : Rws} {n : Nat} {x y : Int} (hx : Cm n x) (hy : Cm n y) (h : ent R x y = some (-1)) : mm R n x y = some none := mm_of hx hy h
theorem Cm.ne {n : Nat} {x : Int} (h : Cm n x) : x ≠ -1 := by have := h.1; omega
def metLI (R : Rws) (p c : Int) : Option Int := if p = -1 then some c else ent R p c
def metRI (R : Rws) (a q : Int) : Option Int := if q = -1 then some a else ent R a q
def SoundR (R : Rws) (n : Nat) : Prop := ∀ a b c p q, Cm n a → Cm n b → Cm n c → ent R a b = some p → ent R b c = some q → metLI R p c = metRI R a q
theorem metL_dec {R : Rws} {n : Nat} {i c : Int} (hi : i = -1 ∨ Cm n i) (hc : Cm n c) : Mt.metL (mm R n) (dec i) c = (metLI R i c).map dec := by
  unfold metLI
  by_cases h : i = -1
  · rw [if_pos h, h]
    show some (some c) = some (dec c)
    rw [dec_no hc.ne]
  · rw [if_neg h, dec_no h]
    exact mm_in (hi.resolve_left h) hc
theorem metR_dec {R : Rws} {n : Nat} {a j : Int} (ha : Cm n a) (hj : j = -1 ∨ Cm n j) : Mt.metR (mm R n) a (dec j) = (metRI R a j).map dec := by
  unfold metRI
  by_cases h : j = -1
  · rw [if_pos h, h]
    show some (some a) = some (dec a)
    rw [dec_no ha.ne]
  · rw [if_neg h, dec_no h]
    exact mm_in ha (hj.resolve_left h)
theorem Wf.gc {R : Rws} {n : Nat} (w : Wf R n) {x y i : Int} (hx : Cm n x) (hy : Cm n y) (h : FF.ent R x y = some i) : i = -1 ∨ Cm n i := by
  have := w.bd hx hy h
  by_cases e : i = -1
  · exact .inl e
  · exact .inr ⟨by omega, this.2⟩
theorem sound_mm {R : Rws} {n : Nat} (w : Wf R n) (s : SoundR R n) : Mt.Sound (mm R n) := by
  intro a b c p q h1 h2
  obtain ⟨ha, hb, i, e1, rfl⟩ := mm_dom h1
  obtain ⟨_, hc, j, e2, rfl⟩ := mm_dom h2
  rw [metL_dec (w.gc ha hb e1) hc, metR_dec ha (w.gc hb hc e2), s a b c i j ha hb hc e1 e2]
/-! ### paired lists -/
theorem pget {α β : Type} {F : α → β → Prop} : ∀ {xs : List α} {ys : List β} {i : Nat} {y : β}, Paired F xs ys → ys[i]? = some y → ∃ x, xs[i]? = some x ∧ F x y
  | _, _, _, _, .nil, e => by simp at e
  | _, _, 0, _, .cons r _, e => by simp at e; subst e; exact ⟨_, rfl, r⟩
  | _, _, i + 1, y, .cons _ t, e => by
    obtain ⟨x, h1, h2⟩ := pget (i := i) (y := y) t (by simpa using e)
    exact ⟨x, by simpa using h1, h2⟩
theorem pgetL {α β : Type} {F : α → β → Prop} : ∀ {xs : List α} {ys : List β} {i : Nat} {x : α}, Paired F xs ys → xs[i]? = some x → ∃ y, ys[i]? = some y ∧ F x y
  | _, _, _, _, .nil, e => by simp at e
  | _, _, 0, _, .cons r _, e => by simp at e; subst e; exact ⟨_, rfl, r⟩
  | _, _, i + 1, x, .cons _ t, e => by
    obtain ⟨y, h1, h2⟩ := pgetL (i := i) (x := x) t (by simpa using e)
    exact ⟨y, by simpa using h1, h2⟩
theorem psnoc {α β : Type} {F : α → β → Prop} : ∀ {xs : List α} {ys : List β} {x : α} {y : β}, Paired F xs ys → F x y → Paired F (xs ++ [x]) (ys ++ [y])
  | _, _, _, _, .nil, h => .cons h .nil
  | _, _, _, _, .cons r t, h => .cons r (psnoc t h)
theorem plen {α β : Type} {F : α → β → Prop} {xs : List α} {ys : List β} (h : Paired F xs ys) : xs.length = ys.length := Paired.length h
theorem pmap {α β : Type} {F G : α → β → Prop} {xs : List α} {ys : List β} (h : Paired F xs ys) (k : ∀ a b, F a b → G a b) : Paired G xs ys := Paired.mapP h k
theorem pset {α β : Type} {F : α → β → Prop} : ∀ {xs : List α} {ys : List β} {i : Nat} {x : α} {y : β}, Paired F xs ys → xs[i]? = some x → F x y → Paired F xs (ys.set i y)
  | _, _, _, _, _, .nil, e, _ => by simp at e
  | _, _, 0, _, _, .cons r t, e, h => by simp at e; subst e; exact .cons h t
  | _, _, i + 1, x, y, .cons r t, e, h => .cons r (pset (i := i) t (by simpa using e) h)
/-! ### what may be read -/
theorem rg_get {n : Int} {i : Nat} {x : V} (h : (rgV 0 n)[i]? = some x) : x = .int (i : Int) ∧ (i : Int) < n := by
  unfold rgV at h
  rw [List.getElem?_map] at h
  have hi : i < (n - 0).toNat := by
    apply Classical.byContradiction
    intro q
    rw [List.getElem?_eq_none (by rw [List.length_range]; omega)] at h
    cases h
  rw [List.getElem?_range hi] at h
  have e := Option.some.inj h
  refine ⟨?_, by omega⟩
  rw [← e]
  show V.int (0 + (i : Int)) = V.int (i : Int)
  rw [Int.zero_add]
theorem rg_len (n : Nat) : (rgV 0 (n : Int)).length = n := by rw [rgV_length]; omega
theorem u65 {k : Nat} {A : Around} (r : Room k A) : A.units + 65 < cLine := by have := r.un; omega
end FF
namespace L2
open PySem PySem.Spec PyProof.Rows
theorem Same.t {K : PySem.W.Frag} {H H' : Hp} {a : Addr} {xs : List V} (e : Same H H') (h : SqT K H a xs) : SqT K H' a xs := by
  rcases h with (h | ⟨o, h⟩) | h
  · exact .inl (.inl (e _ _ h))
  · exact .inl (.inr ⟨o, e _ _ h⟩)
  · exact .inr h
theorem Val.to {te : TE} {σ : L2.St} {H : Hp} {v w : V} (h : Val te σ H v) (e : v = w) : Val te σ H w := e ▸ h
end L2
namespace FF
open PySem PySem.Spec PyProof.Rows L2
theorem same_new {H : Hp} {p : Addr} {o : HO} (h : H p = none) : Same H (upd H p o) := fun b u e => by
  rw [upd_ne (ne_of_none e h)]
  exact e
theorem same_mut {H H' : Hp} {p : Addr} {o : HO} (e : Same H H') (h : H p = none) : Same H (upd H' p o) := fun b u q => by
  rw [upd_ne (ne_of_none q h)]
  exact e b u q
theorem same_newT {H H' : Hp} (e : Same H H') {p : Addr} {o : HO} (h : H' p = none) : Same H (upd H' p o) := e.trans (same_new h)
/-- all but b as it was -/
def SameX (b : Addr) (H H' : Hp) : Prop := ∀ a o, a ≠ b → H a = some o → H' a = some o
theorem SameX.refl (b : Addr) (H : Hp) : SameX b H H := fun _ _ _ h => h
theorem SameX.trans {b : Addr} {H H1 H2 : Hp} (x : SameX b H H1) (y : SameX b H1 H2) : SameX b H H2 := fun a o n h => y a o n (x a o n h)
theorem SameX.of {b : Addr} {H H1 : Hp} (x : Same H H1) : SameX b H H1 := fun a o _ h => x a o h
theorem samex_upd {b : Addr} {H : Hp} {o : HO} : SameX b H (upd H b o) := fun a u n h => by rw [upd_ne n]; exact h
theorem SameX.then {b : Addr} {H H1 H2 : Hp} (x : SameX b H H1) (y : Same H1 H2) : SameX b H H2 := fun a o n h => y a o (x a o n h)
theorem SameX.after {b : Addr} {H H1 H2 : Hp} (x : Same H H1) (y : SameX b H1 H2) : SameX b H H2 := fun a o n h => y a o n (x a o h)
theorem SameX.mut {b p : Addr} {H H' : Hp} {o : HO} (x : SameX b H H') (h : H p = none) : SameX b H (upd H' p o) := fun a u n q => by
  rw [upd_ne (ne_of_none q h)]
  exact x a u n q
theorem SameX.t {K : PySem.W.Frag} {b : Addr} {H H' : Hp} {a : Addr} {xs ys : List V} (e : SameX b H H') (hb : H b = some (.lst ys)) (h : SqT K H a xs) : SqT K H' a xs := by
  rcases h with (h | ⟨o, h⟩) | h
  · exact .inl (.inl (e _ _ (ne_of h hb (by intro q; cases q)) h))
  · exact .inl (.inr ⟨o, e _ _ (ne_of h hb (by intro q; cases q)) h⟩)
  · exact .inr h
/-- what is free behind is free ahead -/
theorem SameX.free {b : Addr} {H H' : Hp} (e : SameX b H H') {l : Addr} (hl : l ≠ b) (h : H' l = none) : H l = none := by
  cases q : H l with
  | none => rfl
  | some o =>
    rw [e l o hl q] at h
    cases h
/-! ### rows as tuples of tuples, as lists of lists -/
def RowsT (K : PySem.W.Frag) (H : Hp) (a : Addr) (R : Rws) : Prop := ∃ rs : List Addr, SqT K H a (rs.map V.ref) ∧ Paired (fun r row => SqT K H r (row.map eV)) rs R
/-- rs: where the rows stand -/
structure RowsL (H : Hp) (a : Addr) (rs : List Addr) (R : Rws) : Prop where
  top : H a = some (.lst (rs.map V.ref))
  row : Paired (fun r row => H r = some (.lst (row.map eV))) rs R
theorem RowsT.same {K : PySem.W.Frag} {H H' : Hp} {a : Addr} {R : Rws} (h : RowsT K H a R) (e : Same H H') : RowsT K H' a R := by
  obtain ⟨rs, h1, h2⟩ := h
  exact ⟨rs, e.t h1, pmap h2 fun r row q => e.t q⟩
theorem RowsT.samex {K : PySem.W.Frag} {b : Addr} {H H' : Hp} {a : Addr} {R : Rws} {ys : List V} (h : RowsT K H a R) (e : SameX b H H') (hb : H b = some (.lst ys)) : RowsT K H' a R := by
  obtain ⟨rs, h1, h2⟩ := h
  exact ⟨rs, e.t hb h1, pmap h2 fun r row q => e.t hb q⟩
theorem RowsL.same {H H' : Hp} {a : Addr} {rs : List Addr} {R : Rws} (h : RowsL H a rs R) (e : Same H H') : RowsL H' a rs R :=
  ⟨e _ _ h.top, pmap h.row fun r row q => e _ _ q⟩
theorem RowsL.samex {b : Addr} {H H' : Hp} {a : Addr} {rs : List Addr} {R : Rws} (h : RowsL H a rs R) (e : SameX b H H') (ha : b ≠ a) (hb : b ∉ rs) : RowsL H' a rs R := by
  refine ⟨e _ _ (Ne.symm ha) h.top, ?_⟩
  have k : ∀ {rs : List Addr} {R : Rws}, b ∉ rs → Paired (fun r row => H r = some (.lst (row.map eV))) rs R → Paired (fun r row => H' r = some (.lst (row.map eV))) rs R := by
    intro rs R hb h
    induction h with
    | nil => exact .nil
    | cons r _ ih => exact .cons (e _ _ (fun q => hb (by rw [q]; exact List.mem_cons_self ..)) r) (ih fun q => hb (List.mem_cons_of_mem _ q))
  exact k hb h.row
theorem atI_int {α : Type} {xs : List α} {x : Int} {v : α} (hx : 0 ≤ x) (h : xs[x.toNat]? = some v) : atI xs x = some v := by
  obtain ⟨k, rfl⟩ : ∃ k : Nat, x = k := ⟨x.toNat, by omega⟩
  exact atI_nat (by simpa using h)
/-! reading an entry -/
section
variable {K : PySem.W.Frag} {H : Hp} {a : Addr} {R : Rws} {n : Nat} {σ : L2.St} {ta tb tc : TE} {x y : Int}
theorem RowsT.get (h : RowsT K H a R) (w : Wf R n) (hx : Cm n x) : ∃ (rs : List V) (r : Addr) (row : List (Option Int)), SqT K H a rs ∧ atI rs x = some (.ref r) ∧ R[x.toNat]? = some row ∧ SqT K H r (row.map eV) := by
  obtain ⟨rs, h1, h2⟩ := h
  obtain ⟨row, e1, e2, e3⟩ := w.get hx
  obtain ⟨r, k1, k2⟩ := pget h2 e1
  exact ⟨rs.map V.ref, r, row, h1, atI_int hx.1 (by rw [List.getElem?_map, k1]; rfl), e1, k2⟩
theorem row_at (w : Wf R n) {row : List (Option Int)} (hx : Cm n x) (hy : Cm n y) (e : R[x.toNat]? = some row) : atI (row.map eV) y = some (eV (ent R x y)) := by
  obtain ⟨r, h1, h2, _⟩ := w.at hx hy
  rw [e] at h1
  cases h1
  exact atI_int hy.1 (by rw [List.getElem?_map, h2]; rfl)
theorem val_entT (h : RowsT K H a R) (w : Wf R n) (ha : Val ta σ H (.ref a)) (hb : Val tb σ H (.int x)) (hc : Val tc σ H (.int y)) (hx : Cm n x) (hy : Cm n y) :
    Val (tOp (rIxT K) (tOp (rIxT K) ta tb) tc) σ H (eV (ent R x y)) := by
  obtain ⟨rs, r, row, h1, h2, h3, h4⟩ := h.get w hx
  refine val_op (x := .ref r) (val_op ha hb fun Q q => ?_) hc fun Q q => ?_
  · exact ⟨a, rs, x, _, rfl, rfl, h1, h2, q⟩
  · exact ⟨r, _, y, _, rfl, rfl, h4, row_at w hx hy h3, q⟩
theorem val_entL {rs : List Addr} (h : RowsL H a rs R) (w : Wf R n) (ha : Val ta σ H (.ref a)) (hb : Val tb σ H (.int x)) (hc : Val tc σ H (.int y)) (hx : Cm n x) (hy : Cm n y) :
    Val (tOp (rIxL K) (tOp (rIxL K) ta tb) tc) σ H (eV (ent R x y)) := by
  obtain ⟨row, e1, e2, e3⟩ := w.get hx
  obtain ⟨r, k1, k2⟩ := pget h.row e1
  refine val_op (x := .ref r) (val_op ha hb fun Q q => ?_) hc fun Q q => ?_
  · exact ⟨a, _, x, _, rfl, rfl, SqL.of h.top, atI_int hx.1 (by rw [List.getElem?_map, k1]; rfl), q⟩
  · exact ⟨r, _, y, _, rfl, rfl, SqL.of k2, row_at w hx hy e1, q⟩
end
theorem eV_non {e : Option Int} : decide (eV e = V.non) = e.isNone := by cases e <;> rfl
theorem eV_eq {e : Option Int} {i : Int} : decide (eV e = V.int i) = decide (e = some i) := by cases e <;> simp [eV]
theorem scal_eV (e : Option Int) (i : Int) : scal (eV e) (.int i) = true := by cases e <;> rfl
/-! ### the plain pieces -/
section
variable {K : PySem.W.Frag} {H : Hp} {σ : L2.St} {ta tb tc te : TE} {x y i j : Int} {c t u : TT} {b b' : Bool} {v w : V}
theorem val_add (ha : Val ta σ H (.int i)) (hb : Val tb σ H (.int j)) : Val (tOp (rI0 fun i j => .int (i + j)) ta tb) σ H (.int (i + j)) := val_op ha hb fun _ q => ⟨i, j, rfl, rfl, q⟩
theorem val_sub (ha : Val ta σ H (.int i)) (hb : Val tb σ H (.int j)) : Val (tOp (rI0 fun i j => .int (i - j)) ta tb) σ H (.int (i - j)) := val_op ha hb fun _ q => ⟨i, j, rfl, rfl, q⟩
theorem val_neg (ha : Val ta σ H (.int i)) : Val (tUn (rU fun i => .int (-i)) ta) σ H (.int (-i)) := fun Q q => ha _ ⟨i, rfl, q⟩
theorem val_bi {f : Int → Int → Bool} (ha : Val ta σ H (.int i)) (hb : Val tb σ H (.int j)) : Val (tOp (rI0 fun i j => .bl (f i j)) ta tb) σ H (.bl (f i j)) := val_op ha hb fun _ q => ⟨i, j, rfl, rfl, q⟩
theorem val_isN (ha : Val ta σ H v) : Val (tOp (fun x y H Q => y = .non ∧ Q (.bl (decide (x = .non))) H) ta (tC .non)) σ H (.bl (decide (v = .non))) := val_op ha val_c fun _ q => ⟨rfl, q⟩
theorem val_notN (ha : Val ta σ H v) : Val (tOp (fun x y H Q => y = .non ∧ Q (.bl (!decide (x = .non))) H) ta (tC .non)) σ H (.bl (!decide (v = .non))) := val_op ha val_c fun _ q => ⟨rfl, q⟩
theorem val_eq (ha : Val ta σ H v) (hb : Val tb σ H w) (h : scal v w = true) : Val (tOp rEq ta tb) σ H (.bl (decide (v = w))) := val_op ha hb fun _ q => ⟨h, q⟩
theorem val_ne (ha : Val ta σ H v) (hb : Val tb σ H w) (h : scal v w = true) : Val (tOp rNe ta tb) σ H (.bl (!decide (v = w))) := val_op ha hb fun _ q => ⟨h, q⟩
theorem ans_tst (h : Val te σ H (.bl b)) : Ans (tTest te) σ H b := fun Q q => h _ ⟨b, rfl, q⟩
theorem a_isN (ha : Val ta σ H v) (hd : decide (v = .non) = b) : Ans (tTest (tOp (fun x y H Q => y = .non ∧ Q (.bl (decide (x = .non))) H) ta (tC .non))) σ H b := ans_tst ((val_isN ha).to (by rw [hd]))
theorem a_notN (ha : Val ta σ H v) (hd : (!decide (v = .non)) = b) : Ans (tTest (tOp (fun x y H Q => y = .non ∧ Q (.bl (!decide (x = .non))) H) ta (tC .non))) σ H b := ans_tst ((val_notN ha).to (by rw [hd]))
theorem a_eq (ha : Val ta σ H v) (hb : Val tb σ H w) (h : scal v w = true) (hd : decide (v = w) = b) : Ans (tTest (tOp rEq ta tb)) σ H b := ans_tst ((val_eq ha hb h).to (by rw [hd]))
theorem a_ne (ha : Val ta σ H v) (hb : Val tb σ H w) (h : scal v w = true) (hd : (!decide (v = w)) = b) : Ans (tTest (tOp rNe ta tb)) σ H b := ans_tst ((val_ne ha hb h).to (by rw [hd]))
theorem a_bi {f : Int → Int → Bool} (ha : Val ta σ H (.int i)) (hb : Val tb σ H (.int j)) (hd : f i j = b) : Ans (tTest (tOp (rI0 fun i j => .bl (f i j)) ta tb)) σ H b := ans_tst ((val_bi ha hb).to (by rw [hd]))
theorem ans_tB (h : Val te σ H (.bl b)) : Ans (tB te) σ H b := fun Q q => h _ ⟨b, rfl, q⟩
theorem ans_and' (h1 : Ans t σ H b) (h2 : b = true → Ans u σ H b') : Ans (tAnd t u) σ H (b && b') := by
  cases b with
  | true => exact ans_and h1 (h2 rfl)
  | false => exact ans_and0 h1
theorem ans_or' (h1 : Ans t σ H b) (h2 : b = false → Ans u σ H b') : Ans (tOr t u) σ H (b || b') := by
  cases b with
  | true => exact ans_or1 h1
  | false => exact ans_or h1 (h2 rfl)
theorem val_ifT (h : Ans t σ H true) (ha : Val ta σ H v) : Val (tIf t ta tb) σ H v := fun Q q => h _ (iteT (ha _ q))
theorem val_ifF (h : Ans t σ H false) (hb : Val tb σ H v) : Val (tIf t ta tb) σ H v := fun Q q => h _ (iteF (hb _ q))
theorem val_if (h : Ans t σ H b) (ha : b = true → Val ta σ H v) (hb : b = false → Val tb σ H w) : Val (tIf t ta tb) σ H (if b = true then v else w) := by
  cases b with
  | true => exact val_ifT h (ha rfl)
  | false => exact val_ifF h (hb rfl)
theorem val_andV (h1 : Val ta σ H (.bl b)) (h2 : b = true → Val tb σ H (.bl b')) : Val (tAndV ta tb) σ H (.bl (b && b')) := fun Q q => h1 _ ⟨b, rfl, by
  cases b with
  | true => exact iteT (h2 rfl _ q)
  | false => exact iteF q⟩
theorem val_orV (h1 : Val ta σ H (.bl b)) (h2 : b = false → Val tb σ H (.bl b')) : Val (tOrV ta tb) σ H (.bl (b || b')) := fun Q q => h1 _ ⟨b, rfl, by
  cases b with
  | true => exact iteT q
  | false => exact iteF (h2 rfl _ q)⟩
theorem val_notV (h1 : Val ta σ H (.bl b)) : Val (tNotV ta) σ H (.bl (!b)) := fun Q q => h1 _ ⟨b, rfl, q⟩
theorem val_lenS {a : Addr} {xs : List V} (ha : Val ta σ H (.ref a)) (h : SqL K H a xs ∨ SqT K H a xs) : Val (tCB (rLenQ K) (tCons ta tNil)) σ H (.int xs.length) :=
  fun Q q => ha _ ⟨a, xs, rfl, h, q⟩
theorem val_ixT {a : Addr} {xs : List V} (ha : Val ta σ H (.ref a)) (hb : Val tb σ H (.int i)) (h : SqT K H a xs) (e : atI xs i = some v) : Val (tOp (rIxT K) ta tb) σ H v := val_op ha hb fun _ q => ⟨a, xs, i, v, rfl, rfl, h, e, q⟩
theorem val_ixL {a : Addr} {xs : List V} (ha : Val ta σ H (.ref a)) (hb : Val tb σ H (.int i)) (h : SqL K H a xs) (e : atI xs i = some v) : Val (tOp (rIxL K) ta tb) σ H v := val_op ha hb fun _ q => ⟨a, xs, i, v, rfl, rfl, h, e, q⟩
theorem val_chain {f g : Int → Int → Bool} {k : Int} (ha : Val ta σ H (.int i)) (hb : Val tb σ H (.int j)) (hc : Val tc σ H (.int k)) : Val (tChain (rI0 fun i j => .bl (f i j)) (rI0 fun i j => .bl (g i j)) ta tb tc) σ H (.bl (f i j && g j k)) := by
  intro Q q
  refine ha _ ?_
  refine hb _ ?_
  refine ⟨i, j, rfl, rfl, _, rfl, ?_⟩
  cases e : f i j with
  | true =>
    refine iteT (hc _ ⟨j, k, rfl, rfl, ?_⟩)
    rw [e] at q
    exact q
  | false =>
    rw [e] at q
    exact iteF q
/-! a call whose promise gives a value in the same heap -/
def SpVal (sp : Sp) (vs : List V) (H : Hp) (v : V) : Prop := ∀ Q : VK, Q v H → ∀ E, sp vs H Q E
def ValA (ta : TA) (σ : L2.St) (H : Hp) (vs : List V) : Prop := ∀ Q : List V → Hp → Prop, Q vs H → ta σ H Q
theorem va_nil : ValA tNil σ H [] := fun _ q => q
theorem va_cons {tr : TA} {vs : List V} (h : Val te σ H v) (hr : ValA tr σ H vs) : ValA (tCons te tr) σ H (v :: vs) := fun Q q => h _ (hr _ q)
theorem val_call {sp : Sp} {E : XK} {ta : TA} {vs : List V} (h : ValA ta σ H vs) (hs : SpVal sp (vs ++ []) H v) : Val (tCall sp [] E ta) σ H v := fun Q q => h _ (hs Q q E)
theorem val_cb {r : List V → Hp → VK → Prop} {ta : TA} {vs : List V} (h : ValA ta σ H vs) (hr : ∀ Q : VK, Q v H → r vs H Q) : Val (tCB r ta) σ H v := fun Q q => h _ (hr Q q)
end
end FF
set_option maxHeartbeats 4000000
/-! Loops and comprehensions in the forms that I use. -/
namespace FF
open PySem PySem.Spec PyProof.Rows L2
/-- evaluates to v while the heap grows -/
def EvS (te : TE) (σ : L2.St) (H : Hp) (v : V) : Prop := ∀ Q : VK, (∀ H', Same H H' → Q v H') → te σ H Q
def EvA (ta : TA) (σ : L2.St) (H : Hp) (vs : List V) : Prop := ∀ Q : List V → Hp → Prop, (∀ H', Same H H' → Q vs H') → ta σ H Q
def EvT (tt : TT) (σ : L2.St) (H : Hp) (b : Bool) : Prop := ∀ Q : Bool → Hp → Prop, (∀ H', Same H H' → Q b H') → tt σ H Q
section
variable {K : PySem.W.Frag} {H : Hp} {σ : L2.St} {ta : TA} {te tl tb' : TE} {g : TG} {tb ts : TS} {D : Ends} {a : Addr} {xs : List V} {v w : V}
theorem evs_of (h : Val te σ H v) : EvS te σ H v := fun Q q => h Q (q H (Same.refl H))
theorem eva_of {vs : List V} (h : ValA ta σ H vs) : EvA ta σ H vs := fun Q q => h Q (q H (Same.refl H))
theorem evt_of {tt : TT} {b : Bool} (h : Ans tt σ H b) : EvT tt σ H b := fun Q q => h Q (q H (Same.refl H))
theorem eva_cons {tr : TA} {vs : List V} (h : EvS te σ H v) (hr : ∀ H1, Same H H1 → EvA tr σ H1 vs) : EvA (tCons te tr) σ H (v :: vs) := fun Q q =>
  h _ fun H1 e1 => hr H1 e1 _ fun H2 e2 => q H2 (e1.trans e2)
theorem evs_call {sp : Sp} {E : XK} {vs : List V} (h : EvA ta σ H vs) (hs : ∀ H1, Same H H1 → ∀ Q : VK, (∀ H', Same H1 H' → Q v H') → ∀ E, sp (vs ++ []) H1 Q E) : EvS (tCall sp [] E ta) σ H v := fun Q q =>
  h _ fun H1 e1 => hs H1 e1 _ (fun H2 e2 => q H2 (e1.trans e2)) E
theorem evt_tB {b : Bool} (h : EvS te σ H (.bl b)) : EvT (tB te) σ H b := fun Q q => h _ fun H1 e1 => ⟨b, rfl, q H1 e1⟩
theorem evt_tst {b : Bool} (h : EvS te σ H (.bl b)) : EvT (tTest te) σ H b := fun Q q => h _ fun H1 e1 => ⟨b, rfl, q H1 e1⟩
theorem evt_not {b : Bool} {t : TT} (h : EvT t σ H b) : EvT (tNot t) σ H (!b) := fun Q q => h _ q
theorem evt_or {b b' : Bool} {t u : TT} (h1 : EvT t σ H b) (h2 : b = false → ∀ H1, Same H H1 → EvT u σ H1 b') : EvT (tOr t u) σ H (b || b') := fun Q q => h1 _ fun H1 e1 => by
  cases b with
  | true => exact iteT (q H1 e1)
  | false => exact iteF (h2 rfl H1 e1 _ fun H2 e2 => q H2 (e1.trans e2))
theorem evt_and {b b' : Bool} {t u : TT} (h1 : EvT t σ H b) (h2 : b = true → ∀ H1, Same H H1 → EvT u σ H1 b') : EvT (tAnd t u) σ H (b && b') := fun Q q => h1 _ fun H1 e1 => by
  cases b with
  | true => exact iteT (h2 rfl H1 e1 _ fun H2 e2 => q H2 (e1.trans e2))
  | false => exact iteF (q H1 e1)
theorem sv_yes {t : TT} (h : EvT t σ H true) (q : ∀ H', Same H H' → ts D σ H') : tIfS t ts tb D σ H := h _ fun H1 e1 => iteT (q H1 e1)
theorem sv_no {t : TT} (h : EvT t σ H false) (q : ∀ H', Same H H' → tb D σ H') : tIfS t ts tb D σ H := h _ fun H1 e1 => iteF (q H1 e1)
theorem sv_if {t : TT} {b : Bool} (h : EvT t σ H b) (q1 : b = true → ∀ H', Same H H' → ts D σ H') (q2 : b = false → ∀ H', Same H H' → tb D σ H') : tIfS t ts tb D σ H := h _ fun H1 e1 => by
  cases b with
  | true => exact iteT (q1 rfl H1 e1)
  | false => exact iteF (q2 rfl H1 e1)
theorem st_if {t : TT} {b : Bool} (h : Ans t σ H b) (q1 : b = true → ts D σ H) (q2 : b = false → tb D σ H) : tIfS t ts tb D σ H := h _ (by
  cases b with
  | true => exact iteT (q1 rfl)
  | false => exact iteF (q2 rfl))
theorem x_cb1 {r : List V → Hp → VK → Prop} {Q : VK} (h : te σ H fun x H1 => r [x] H1 Q) : tCB r (tCons te tNil) σ H Q := h
theorem x_ret (h : te σ H D.rt) : tRet te D σ H := h
theorem x_set {i : Nat} (h : te σ H fun x H1 => D.nx (σ.set i (some x)) H1) : tAsg te (gName i) D σ H := h
theorem x_drop (h : te σ H fun _ H1 => D.nx σ H1) : tDrop te D σ H := h
theorem x_call {sp : Sp} {E : XK} {Q : VK} (h : ta σ H fun vs H1 => sp (vs ++ []) H1 Q E) : tCall sp [] E ta σ H Q := h
theorem x_cons {tr : TA} {Q : List V → Hp → Prop} (h : te σ H fun x H1 => tr σ H1 fun xs H2 => Q (x :: xs) H2) : tCons te tr σ H Q := h
theorem x_make {C : Addr} {sp : Sp} {E : XK} {Q : VK} (h : ta σ H fun vs H1 => ∀ x dx, H1 x = none → H1 dx = none → dx ≠ x → sp (.ref x :: (vs ++ [])) (upd (upd H1 dx (.own x)) x (.ins C dx [])) (fun v H2 => v = .non ∧ Q (.ref x) H2) E) : tMake C sp [] E ta σ H Q := h
theorem x_op {r : R2} {t1 t2 : TE} {Q : VK} (h : t1 σ H fun x H1 => t2 σ H1 fun y H2 => r x y H2 Q) : tOp r t1 t2 σ H Q := h
theorem x_if {c : TT} (h : c σ H fun b H1 => if b = true then ts D σ H1 else tb D σ H1) : tIfS c ts tb D σ H := h
theorem x_tB {Q : Bool → Hp → Prop} (h : te σ H fun x H1 => ∃ k, x = .bl k ∧ Q k H1) : tB te σ H Q := h
theorem x_lrg {Q : VK} (h : te σ H fun x H1 => ∃ n : Int, x = .int n ∧ RgOk 0 n ∧ ∀ q, H1 q = none → Q (.ref q) (upd H1 q (.lst (rgV 0 n)))) : tLstRg (tRg1 te) σ H Q := h
theorem x_test {Q : Bool → Hp → Prop} (h : te σ H fun x H1 => ∃ k, x = .bl k ∧ Q k H1) : tTest te σ H Q := h
/-! ### for -/
/-- what a walked thing asks of a loop -/
def forW (D : Ends) (g : TG) (tb : TS) (J : It) (σ : L2.St) (H : Hp) : Prop := ∃ W : Nat → Nat → L2.St → Hp → Prop, (∃ m, W 0 m σ H) ∧ ∀ i m σ H, W i m σ H →
  (J.stop i H ∧ D.nx σ H) ∨ (J.go i H ∧ ∃ N : L2.St → Hp → Prop, (∀ σ' H', N σ' H' → ∃ m', m' < m ∧ W (i + 1) m' σ' H') ∧ ∀ x H', J.yld i H x H' → g x σ H' fun σ2 H2 => tb { D with nx := N, ct := N, bk := D.nx } σ2 H2)
theorem x_forR1 (h : te σ H fun x H1 => ∃ j : Int, [x] = [V.int j] ∧ -(2 ^ 62) ≤ j ∧ j < 2 ^ 62 ∧ forW D g tb (Itr 0 j.toNat) σ H1) : tFor (iRng1 (tCons te tNil)) g tb D σ H := h
theorem x_forR2 {te2 : TE} (h : te σ H fun x H1 => te2 σ H1 fun y H2 => ∃ i j : Int, [x, y] = [V.int i, V.int j] ∧ (-(2 ^ 62) ≤ i ∧ i < 2 ^ 62 ∧ -(2 ^ 62) ≤ j ∧ j < 2 ^ 62) ∧ forW D g tb (Itr i (j - i).toNat) σ H2) : tFor (iRng2 (tCons te (tCons te2 tNil))) g tb D σ H := h
theorem x_forL {K : PySem.W.Frag} (h : te σ H fun x H1 => ∃ a, x = .ref a ∧ (∃ xs, SqL K H1 a xs) ∧ forW D g tb (Itl K a) σ H1) : tFor (iList K te) g tb D σ H := h
theorem x_forT {K : PySem.W.Frag} (h : te σ H fun x H1 => ∃ a, x = .ref a ∧ (∃ xs, SqT K H1 a xs) ∧ forW D g tb (Itt K a) σ H1) : tFor (iTup K te) g tb D σ H := h
theorem st_forL (h : Val tl σ H (.ref a)) (hx : SqL K H a xs) (Pv : Nat → L2.St → Hp → Prop) (h0 : Pv 0 σ H) (hl : ∀ i σ H, i ≤ xs.length → Pv i σ H → SqL K H a xs)
    (hs : ∀ i x σ H, xs[i]? = some x → Pv i σ H → g x σ H fun σ2 H2 => tb { D with nx := Pv (i + 1), ct := Pv (i + 1), bk := D.nx } σ2 H2) (hd : ∀ σ H, Pv xs.length σ H → D.nx σ H) : tFor (iList K tl) g tb D σ H :=
  h _ ⟨a, rfl, ⟨xs, hx⟩, for_list Pv h0 hl hs hd⟩
theorem st_forT (h : Val tl σ H (.ref a)) (hx : SqT K H a xs) (Pv : Nat → L2.St → Hp → Prop) (h0 : Pv 0 σ H) (hl : ∀ i σ H, i ≤ xs.length → Pv i σ H → SqT K H a xs)
    (hs : ∀ i x σ H, xs[i]? = some x → Pv i σ H → g x σ H fun σ2 H2 => tb { D with nx := Pv (i + 1), ct := Pv (i + 1), bk := D.nx } σ2 H2) (hd : ∀ σ H, Pv xs.length σ H → D.nx σ H) : tFor (iTup K tl) g tb D σ H :=
  h _ ⟨a, rfl, ⟨xs, hx⟩, for_tup Pv h0 hl hs hd⟩
theorem st_forSL (h : Val tl σ H (.ref a)) (hx : SqL K H a xs) (Pv : Nat → L2.St → Hp → Prop) (h0 : Pv 0 σ H) (hl : ∀ i σ H, i ≤ xs.length → Pv i σ H → SqL K H a xs)
    (hs : ∀ i x σ H, xs[i]? = some x → Pv i σ H → g x σ H fun σ2 H2 => tb { D with nx := Pv (i + 1), ct := Pv (i + 1), bk := D.nx } σ2 H2) (hd : ∀ σ H, Pv xs.length σ H → D.nx σ H) : tFor (iSeq K tl) g tb D σ H :=
  h _ ⟨a, rfl, .inl ⟨⟨xs, hx⟩, for_list Pv h0 hl hs hd⟩⟩
/-- over an empty tuple -/
theorem st_forS0 (h : ∀ Q : VK, (∀ p, H p = none → Q (.ref p) (upd H p (.tup []))) → tl σ H Q) (hd : ∀ H', Same H H' → D.nx σ H') : tFor (iSeq K tl) g tb D σ H :=
  h _ fun p hp => ⟨p, rfl, .inr ⟨⟨[], SqT.of upd_same⟩, for_tup (xs := []) (fun _ σ' H' => σ' = σ ∧ H' = upd H p (.tup [])) ⟨rfl, rfl⟩ (fun i σ' H' _ ⟨_, e⟩ => by rw [e]; exact SqT.of upd_same) (fun i x σ' H' hi => by simp at hi) (fun σ' H' ⟨e1, e2⟩ => by rw [e1, e2]; exact hd _ (same_new hp))⟩⟩
theorem st_forR1 {n : Int} (h : ValA ta σ H [.int n]) (hn : n ≤ 1000000) (hn0 : -1000000 ≤ n) (Pv : Nat → L2.St → Hp → Prop) (h0 : Pv 0 σ H)
    (hs : ∀ (i : Nat) σ' H', (i : Int) < n → Pv i σ' H' → g (.int (i : Int)) σ' H' fun σ2 H2 => tb { D with nx := Pv (i + 1), ct := Pv (i + 1), bk := D.nx } σ2 H2) (hd : ∀ σ' H', Pv n.toNat σ' H' → D.nx σ' H') : tFor (iRng1 ta) g tb D σ H :=
  h _ ⟨n, rfl, by omega, by omega, for_range (lo := 0) (n := n.toNat) Pv h0 (fun i σ' H' hi p => by
    have e0 : (0 : Int) + (i : Int) = (i : Int) := Int.zero_add _
    show g (.int ((0 : Int) + (i : Int))) σ' H' _
    rw [e0]
    exact hs i σ' H' (by omega) p) hd⟩
theorem st_forR2 {lo n : Int} (h : ValA ta σ H [.int lo, .int n]) (hn : n ≤ 1000000) (hn0 : -1000000 ≤ n) (h1 : lo ≤ 1000000) (h2 : -1000000 ≤ lo) (Pv : Nat → L2.St → Hp → Prop) (h0 : Pv 0 σ H)
    (hs : ∀ (i : Nat) σ' H', lo + (i : Int) < n → Pv i σ' H' → g (.int (lo + (i : Int))) σ' H' fun σ2 H2 => tb { D with nx := Pv (i + 1), ct := Pv (i + 1), bk := D.nx } σ2 H2) (hd : ∀ σ' H', Pv (n - lo).toNat σ' H' → D.nx σ' H') : tFor (iRng2 ta) g tb D σ H :=
  h _ ⟨lo, n, rfl, ⟨by omega, by omega, by omega, by omega⟩, for_range (lo := lo) (n := (n - lo).toNat) Pv h0 (fun i σ' H' hi p => hs i σ' H' (by omega) p) hd⟩
theorem st_forE (h : ValA ta σ H [.ref a]) (hx : SqL K H a xs) (Pv : Nat → L2.St → Hp → Prop) (h0 : Pv 0 σ H) (hl : ∀ i σ H, i ≤ xs.length → Pv i σ H → SqL K H a xs)
    (hs : ∀ (i : Nat) x σ H T, xs[i]? = some x → Pv i σ H → H T = none → g (.ref T) σ (upd H T (.tup [.int (i : Int), x])) fun σ2 H2 => tb { D with nx := Pv (i + 1), ct := Pv (i + 1), bk := D.nx } σ2 H2) (hd : ∀ σ H, Pv xs.length σ H → D.nx σ H) : tFor (iEnum K ta) g tb D σ H := by
  refine h _ ⟨a, xs, rfl, hx, fun i m σ H => m = xs.length - i ∧ i ≤ xs.length ∧ Pv i σ H, ⟨xs.length, by simp, Nat.zero_le _, h0⟩, ?_⟩
  rintro i m σ H ⟨rfl, hi, p⟩
  have q := hl i σ H hi p
  by_cases hlt : i < xs.length
  · refine .inr ⟨⟨xs, xs[i], q, by simp [hlt]⟩, Pv (i + 1), fun σ' H' p' => ⟨xs.length - (i + 1), by omega, rfl, hlt, p'⟩, fun x H' y => ?_⟩
    obtain ⟨T, z, rfl, hT, rfl, e⟩ := y
    exact hs i z σ H T (e xs q) p hT
  · have e : i = xs.length := by omega
    subst e
    exact .inl ⟨⟨xs, q, Nat.le_refl _⟩, hd σ H p⟩
theorem st_forET (h : ValA ta σ H [.ref a]) (hx : SqT K H a xs) (Pv : Nat → L2.St → Hp → Prop) (h0 : Pv 0 σ H) (hl : ∀ i σ H, i ≤ xs.length → Pv i σ H → SqT K H a xs)
    (hs : ∀ (i : Nat) x σ H T, xs[i]? = some x → Pv i σ H → H T = none → g (.ref T) σ (upd H T (.tup [.int (i : Int), x])) fun σ2 H2 => tb { D with nx := Pv (i + 1), ct := Pv (i + 1), bk := D.nx } σ2 H2) (hd : ∀ σ H, Pv xs.length σ H → D.nx σ H) : tFor (iEnumT K ta) g tb D σ H := by
  refine h _ ⟨a, xs, rfl, hx, fun i m σ H => m = xs.length - i ∧ i ≤ xs.length ∧ Pv i σ H, ⟨xs.length, by simp, Nat.zero_le _, h0⟩, ?_⟩
  rintro i m σ H ⟨rfl, hi, p⟩
  have q := hl i σ H hi p
  by_cases hlt : i < xs.length
  · refine .inr ⟨⟨xs, xs[i], q, by simp [hlt]⟩, Pv (i + 1), fun σ' H' p' => ⟨xs.length - (i + 1), by omega, rfl, hlt, p'⟩, fun x H' y => ?_⟩
    obtain ⟨T, z, rfl, hT, rfl, e⟩ := y
    exact hs i z σ H T (e xs q) p hT
  · have e : i = xs.length := by omega
    subst e
    exact .inl ⟨⟨xs, q, Nat.le_refl _⟩, hd σ H p⟩
/-- a dict by its keys, locked -/
theorem st_forK {d : Addr} {kvs : List (Key × V)} (hd : H d = some (.dK kvs)) (h : ∀ od, EvS tl σ (upd H d (.frz od (.dK kvs))) (.ref d)) (Pv : Obj → Nat → L2.St → Hp → Prop)
    (h0 : ∀ od H1, Same (upd H d (.frz od (.dK kvs))) H1 → Pv od 0 σ H1) (hf : ∀ od i σ' H', i ≤ kvs.length → Pv od i σ' H' → H' d = some (.frz od (.dK kvs)))
    (hs : ∀ od i k v σ' H', kvs[i]? = some (k, v) → Pv od i σ' H' → g (kV k) σ' H' fun σ2 H2 => tb ⟨Pv od (i + 1), fun v H' => H' d = some (.frz od (.dK kvs)) ∧ D.rt v (upd H' d (.dK kvs)), fun σ' H' => H' d = some (.frz od (.dK kvs)) ∧ D.nx σ' (upd H' d (.dK kvs)), Pv od (i + 1)⟩ σ2 H2)
    (he : ∀ od σ' H', Pv od kvs.length σ' H' → D.nx σ' (upd H' d (.dK kvs))) : tLock (tFor (iKeys tl) g tb) D σ H := by
  refine ⟨d, _, hd, trivial, fun od => ?_⟩
  refine h od _ fun H1 e1 => ⟨d, od, rfl, .inl ⟨kvs, e1 _ _ upd_same, ?_⟩⟩
  refine ⟨fun i m σ H => m = kvs.length - i ∧ i ≤ kvs.length ∧ Pv od i σ H, ⟨kvs.length, by simp, Nat.zero_le _, h0 od H1 e1⟩, ?_⟩
  rintro i m σ' H' ⟨rfl, hi, p⟩
  have q := hf od i σ' H' hi p
  by_cases hlt : i < kvs.length
  · refine .inr ⟨⟨q, hlt⟩, Pv od (i + 1), fun σ' H' p' => ⟨kvs.length - (i + 1), by omega, rfl, hlt, p'⟩, fun x H' y => ?_⟩
    obtain ⟨rfl, k, v, e, rfl⟩ := y
    exact hs od i k v σ' _ e p
  · have e : i = kvs.length := by omega
    subst e
    exact .inl ⟨⟨q, Nat.le_refl _⟩, q, he od σ' H' p⟩
/-- a dict by its items, locked -/
theorem st_forI {d : Addr} {kvs : List (Key × V)} (hd : H d = some (.dK kvs)) (h : ∀ od, EvS tl σ (upd H d (.frz od (.dK kvs))) (.ref d)) (Pv : Obj → Nat → L2.St → Hp → Prop)
    (h0 : ∀ od H1, Same (upd H d (.frz od (.dK kvs))) H1 → Pv od 0 σ H1) (hf : ∀ od i σ' H', i ≤ kvs.length → Pv od i σ' H' → H' d = some (.frz od (.dK kvs)))
    (hs : ∀ od i k v σ' H' T, kvs[i]? = some (k, v) → Pv od i σ' H' → H' T = none → g (.ref T) σ' (upd H' T (.tup [kV k, v])) fun σ2 H2 => tb ⟨Pv od (i + 1), fun v H' => H' d = some (.frz od (.dK kvs)) ∧ D.rt v (upd H' d (.dK kvs)), fun σ' H' => H' d = some (.frz od (.dK kvs)) ∧ D.nx σ' (upd H' d (.dK kvs)), Pv od (i + 1)⟩ σ2 H2)
    (he : ∀ od σ' H', Pv od kvs.length σ' H' → D.nx σ' (upd H' d (.dK kvs))) : tLock (tFor (iItems tl) g tb) D σ H := by
  refine ⟨d, _, hd, trivial, fun od => ?_⟩
  refine h od _ fun H1 e1 => ⟨d, od, kvs, rfl, e1 _ _ upd_same, ?_⟩
  refine ⟨fun i m σ H => m = kvs.length - i ∧ i ≤ kvs.length ∧ Pv od i σ H, ⟨kvs.length, by simp, Nat.zero_le _, h0 od H1 e1⟩, ?_⟩
  rintro i m σ' H' ⟨rfl, hi, p⟩
  have q := hf od i σ' H' hi p
  by_cases hlt : i < kvs.length
  · refine .inr ⟨⟨q, hlt⟩, Pv od (i + 1), fun σ' H' p' => ⟨kvs.length - (i + 1), by omega, rfl, hlt, p'⟩, fun x H' y => ?_⟩
    obtain ⟨T, k, v, e, rfl, hT, rfl⟩ := y
    exact hs od i k v σ' _ T e p hT
  · have e : i = kvs.length := by omega
    subst e
    exact .inl ⟨⟨q, Nat.le_refl _⟩, q, he od σ' H' p⟩
/-! ### comprehensions whose elements are told, the heap growing -/
def upto (n : Nat) (f : Nat → V) : List V := (List.range n).map f
theorem upto_snoc (n : Nat) (f : Nat → V) : upto (n + 1) f = upto n f ++ [f n] := by unfold upto; rw [List.range_succ, List.map_append]; rfl
theorem upto_len (n : Nat) (f : Nat → V) : (upto n f).length = n := by unfold upto; rw [List.length_map, List.length_range]
theorem upto_get {n i : Nat} {f : Nat → V} (h : i < n) : (upto n f)[i]? = some (f i) := by unfold upto; rw [List.getElem?_map, List.getElem?_range h]; rfl
theorem upto_eq {n : Nat} {f : Nat → V} {ys : List V} (hl : ys.length = n) (h : ∀ i y, ys[i]? = some y → f i = y) : upto n f = ys := by
  apply List.ext_getElem?
  intro i
  by_cases hi : i < n
  · rw [upto_get hi]
    have hy : i < ys.length := by omega
    rw [List.getElem?_eq_getElem hy, h i _ (List.getElem?_eq_getElem hy)]
  · rw [List.getElem?_eq_none (by rw [upto_len]; omega), List.getElem?_eq_none (by omega)]
def LcF (H : Hp) (Dl : Addr) (f : Nat → V) (i : Nat) (H' : Hp) : Prop := H Dl = none ∧ Same H H' ∧ H' Dl = some (.lst (upto i f))
theorem lcf_turn {H H' : Hp} {Dl : Addr} {f : Nat → V} {i : Nat} {σ2 : L2.St} (p : LcF H Dl f i H') (hi : i < 100000) (h : EvS te σ2 H' (f i)) :
    tYes σ2 H' fun b H3 => if b = true then te σ2 H3 fun y H4 => ∃ acc, H4 Dl = some (.lst acc) ∧ acc.length < sizeLine ∧ LcF H Dl f (i + 1) (upd H4 Dl (.lst (acc ++ [y]))) else LcF H Dl f (i + 1) H3 := by
  obtain ⟨p0, p1, p2⟩ := p
  refine iteT (B := LcF H Dl f (i + 1) H') (h _ fun H4 e => ⟨_, e _ _ p2, ?_, p0, same_mut (p1.trans e) p0, ?_⟩)
  · rw [upto_len]; exact Nat.lt_of_lt_of_le hi (by decide)
  · rw [upto_snoc]; exact upd_same
variable {vs : List Nat} {Q : VK} {j : Nat}
theorem lc_L (f : Nat → V) (h : Val tl σ H (.ref a)) (hx : SqL K H a xs) (hz : xs.length ≤ 100000) (hw : ∀ x, wipe ((wipe σ vs).set j (some x)) vs = wipe σ vs)
    (he : ∀ i x H', xs[i]? = some x → Same H H' → EvS te ((wipe σ vs).set j (some x)) H' (f i))
    (hd : ∀ Dl H', H Dl = none → Same H H' → H' Dl = some (.lst (upto xs.length f)) → Q (.ref Dl) H') : tLc (iList K tl) (gName j) tYes te vs σ H Q :=
  h _ ⟨a, rfl, ⟨xs, hx⟩, fun Dl hD => lc_list (xs := xs) (LcF H Dl f) ⟨hD, same_new hD, upd_same⟩ (fun i H' _ p => p.2.1.seq hx)
    (fun i x H' hi p => ⟨hw x, lcf_turn p (Nat.lt_of_lt_of_le (List.getElem?_eq_some_iff.mp hi).1 hz) (he i x H' hi p.2.1)⟩) (fun H' p => hd Dl H' p.1 p.2.1 p.2.2)⟩
theorem lc_T (f : Nat → V) (h : Val tl σ H (.ref a)) (hx : SqT K H a xs) (hz : xs.length ≤ 100000) (hw : ∀ x, wipe ((wipe σ vs).set j (some x)) vs = wipe σ vs)
    (he : ∀ i x H', xs[i]? = some x → Same H H' → EvS te ((wipe σ vs).set j (some x)) H' (f i))
    (hd : ∀ Dl H', H Dl = none → Same H H' → H' Dl = some (.lst (upto xs.length f)) → Q (.ref Dl) H') : tLc (iTup K tl) (gName j) tYes te vs σ H Q :=
  h _ ⟨a, rfl, ⟨xs, hx⟩, fun Dl hD => lc_tup (xs := xs) (LcF H Dl f) ⟨hD, same_new hD, upd_same⟩ (fun i H' _ p => p.2.1.t hx)
    (fun i x H' hi p => ⟨hw x, lcf_turn p (Nat.lt_of_lt_of_le (List.getElem?_eq_some_iff.mp hi).1 hz) (he i x H' hi p.2.1)⟩) (fun H' p => hd Dl H' p.1 p.2.1 p.2.2)⟩
theorem lc_R {n : Int} (f : Nat → V) (h : ValA ta σ H [.int n]) (hz : n ≤ 100000) (hz0 : -100000 ≤ n) (hw : ∀ x, wipe ((wipe σ vs).set j (some x)) vs = wipe σ vs)
    (he : ∀ (i : Nat) H', (i : Int) < n → Same H H' → EvS te ((wipe σ vs).set j (some (.int (i : Int)))) H' (f i))
    (hd : ∀ Dl H', H Dl = none → Same H H' → H' Dl = some (.lst (upto n.toNat f)) → Q (.ref Dl) H') : tLc (iRng1 ta) (gName j) tYes te vs σ H Q :=
  h _ ⟨n, rfl, by omega, by omega, fun Dl hD => lc_range (lo := 0) (n := n.toNat) (LcF H Dl f) ⟨hD, same_new hD, upd_same⟩
    (fun i H' hi p => by
      have e0 : (0 : Int) + (i : Int) = (i : Int) := Int.zero_add _
      show wipe ((wipe σ vs).set j (some (.int ((0 : Int) + (i : Int))))) vs = wipe σ vs ∧ tYes ((wipe σ vs).set j (some (.int ((0 : Int) + (i : Int))))) H' _
      rw [e0]
      exact ⟨hw _, lcf_turn p (by omega) (he i H' (by omega) p.2.1)⟩) (fun H' p => hd Dl H' p.1 p.2.1 p.2.2)⟩
/-! ### comprehensions whose elements are new objects -/
/-- evaluates to a new object o -/
def EvN (te : TE) (σ : L2.St) (H : Hp) (o : HO) : Prop := ∀ Q : VK, (∀ t H', H t = none → Same H H' → H' t = some o → Q (.ref t) H') → te σ H Q
structure LcN (H : Hp) (Dl : Addr) (o : Nat → HO) (i : Nat) (ts : List Addr) (H' : Hp) : Prop where
  dl : H Dl = none
  same : Same H H'
  lst : H' Dl = some (.lst (ts.map V.ref))
  len : ts.length = i
  obj : ∀ k t, ts[k]? = some t → H' t = some (o k)
  new : ∀ t ∈ ts, H t = none ∧ t ≠ Dl
  nd : ts.Nodup
theorem lcn_turn {H H' : Hp} {Dl : Addr} {o : Nat → HO} {i : Nat} {σ2 : L2.St} (p : ∃ ts, LcN H Dl o i ts H') (hi : i < 100000) (h : EvN te σ2 H' (o i)) :
    tYes σ2 H' fun b H3 => if b = true then te σ2 H3 fun y H4 => ∃ acc, H4 Dl = some (.lst acc) ∧ acc.length < sizeLine ∧ (∃ ts, LcN H Dl o (i + 1) ts (upd H4 Dl (.lst (acc ++ [y])))) else ∃ ts, LcN H Dl o (i + 1) ts H3 := by
  obtain ⟨ts, p⟩ := p
  refine iteT (B := ∃ ts, LcN H Dl o (i + 1) ts H') (h _ fun t H4 ht e ho => ⟨_, e _ _ p.lst, ?_, ts ++ [t], ?_⟩)
  · rw [List.length_map, p.len]; exact Nat.lt_of_lt_of_le hi (by decide)
  · have htd : t ≠ Dl := fun q => by
      rw [q, p.lst] at ht
      cases ht
    refine ⟨p.dl, same_mut (p.same.trans e) p.dl, ?_, by rw [List.length_append, p.len]; rfl, ?_, ?_, ?_⟩
    · rw [upd_same, List.map_append]; rfl
    · intro k u hk
      by_cases hki : k < ts.length
      · rw [List.getElem?_append_left hki] at hk
        have hm : u ∈ ts := List.mem_of_getElem? hk
        rw [upd_ne (p.new u hm).2]
        exact e _ _ (p.obj k u hk)
      · rw [List.getElem?_append_right (by omega)] at hk
        have hk0 : k - ts.length = 0 := by
          have := (List.getElem?_eq_some_iff.mp hk).1
          simp at this
          omega
        rw [hk0] at hk
        have eu : t = u := Option.some.inj hk
        subst eu
        have ek : k = i := by rw [← p.len]; omega
        subst ek
        rw [upd_ne htd]
        exact ho
    · intro u hu
      rcases List.mem_append.mp hu with q | q
      · exact p.new u q
      · rw [List.mem_singleton.mp q]
        exact ⟨p.same.free ht, htd⟩
    · rw [List.nodup_append]
      refine ⟨p.nd, by simp, fun u hu z hz q => ?_⟩
      rw [List.mem_singleton.mp hz] at q
      rw [q] at hu
      obtain ⟨k, hk⟩ := List.getElem?_of_mem hu
      rw [p.obj k t hk] at ht
      cases ht
theorem lc_nL (o : Nat → HO) (h : Val tl σ H (.ref a)) (hx : SqL K H a xs) (hz : xs.length ≤ 100000) (hw : ∀ x, wipe ((wipe σ vs).set j (some x)) vs = wipe σ vs)
    (he : ∀ i x H', xs[i]? = some x → Same H H' → EvN te ((wipe σ vs).set j (some x)) H' (o i))
    (hd : ∀ Dl ts H', LcN H Dl o xs.length ts H' → Q (.ref Dl) H') : tLc (iList K tl) (gName j) tYes te vs σ H Q :=
  h _ ⟨a, rfl, ⟨xs, hx⟩, fun Dl hD => lc_list (xs := xs) (fun i H' => ∃ ts, LcN H Dl o i ts H') ⟨[], hD, same_new hD, upd_same, rfl, fun k t e => by simp at e, fun t ht => by simp at ht, List.nodup_nil⟩ (fun i H' _ ⟨ts, p⟩ => p.same.seq hx)
    (fun i x H' hi p => ⟨hw x, lcn_turn p (Nat.lt_of_lt_of_le (List.getElem?_eq_some_iff.mp hi).1 hz) (by obtain ⟨ts, p⟩ := p; exact he i x H' hi p.same)⟩) (fun H' ⟨ts, p⟩ => hd Dl ts H' p)⟩
theorem lc_nT (o : Nat → HO) (h : Val tl σ H (.ref a)) (hx : SqT K H a xs) (hz : xs.length ≤ 100000) (hw : ∀ x, wipe ((wipe σ vs).set j (some x)) vs = wipe σ vs)
    (he : ∀ i x H', xs[i]? = some x → Same H H' → EvN te ((wipe σ vs).set j (some x)) H' (o i))
    (hd : ∀ Dl ts H', LcN H Dl o xs.length ts H' → Q (.ref Dl) H') : tLc (iTup K tl) (gName j) tYes te vs σ H Q :=
  h _ ⟨a, rfl, ⟨xs, hx⟩, fun Dl hD => lc_tup (xs := xs) (fun i H' => ∃ ts, LcN H Dl o i ts H') ⟨[], hD, same_new hD, upd_same, rfl, fun k t e => by simp at e, fun t ht => by simp at ht, List.nodup_nil⟩ (fun i H' _ ⟨ts, p⟩ => p.same.t hx)
    (fun i x H' hi p => ⟨hw x, lcn_turn p (Nat.lt_of_lt_of_le (List.getElem?_eq_some_iff.mp hi).1 hz) (by obtain ⟨ts, p⟩ := p; exact he i x H' hi p.same)⟩) (fun H' ⟨ts, p⟩ => hd Dl ts H' p)⟩
theorem lc_nR {n : Int} (o : Nat → HO) (h : ValA ta σ H [.int n]) (hz : n ≤ 100000) (hz0 : -100000 ≤ n) (hw : ∀ x, wipe ((wipe σ vs).set j (some x)) vs = wipe σ vs)
    (he : ∀ (i : Nat) H', (i : Int) < n → Same H H' → EvN te ((wipe σ vs).set j (some (.int (i : Int)))) H' (o i))
    (hd : ∀ Dl ts H', LcN H Dl o n.toNat ts H' → Q (.ref Dl) H') : tLc (iRng1 ta) (gName j) tYes te vs σ H Q :=
  h _ ⟨n, rfl, by omega, by omega, fun Dl hD => lc_range (lo := 0) (n := n.toNat) (fun i H' => ∃ ts, LcN H Dl o i ts H') ⟨[], hD, same_new hD, upd_same, rfl, fun k t e => by simp at e, fun t ht => by simp at ht, List.nodup_nil⟩
    (fun i H' hi p => by
      have e0 : (0 : Int) + (i : Int) = (i : Int) := Int.zero_add _
      show wipe ((wipe σ vs).set j (some (.int ((0 : Int) + (i : Int))))) vs = wipe σ vs ∧ tYes ((wipe σ vs).set j (some (.int ((0 : Int) + (i : Int))))) H' _
      rw [e0]
      exact ⟨hw _, lcn_turn p (by omega) (by obtain ⟨ts, p⟩ := p; exact he i H' (by omega) p.same)⟩) (fun H' ⟨ts, p⟩ => hd Dl ts H' p)⟩
/-- what came by turns, as pairs -/
theorem paired_of {α β : Type} {F : α → β → Prop} : ∀ {xs : List α} {ys : List β}, xs.length = ys.length → (∀ (i : Nat) x y, xs[i]? = some x → ys[i]? = some y → F x y) → Paired F xs ys
  | [], [], _, _ => .nil
  | [], _ :: _, h, _ => by cases h
  | _ :: _, [], h, _ => by cases h
  | x :: xs, y :: ys, h, k => .cons (k 0 x y rfl rfl) (paired_of (by simpa using h) fun i a b h1 h2 => k (i + 1) a b h1 h2)
theorem st_whileA {tc : TT} (Pv : Nat → L2.St → Hp → Prop) (m0 : Nat) (h0 : Pv m0 σ H)
    (hs : ∀ m σ' H', Pv m σ' H' → ∃ b, Ans tc σ' H' b ∧ (b = true → tb { D with nx := fun σ2 H2 => ∃ m', m' < m ∧ Pv m' σ2 H2, ct := fun σ2 H2 => ∃ m', m' < m ∧ Pv m' σ2 H2, bk := D.nx } σ' H') ∧ (b = false → D.nx σ' H')) : tWhile tc tb D σ H :=
  ⟨Pv, ⟨m0, h0⟩, fun m σ' H' p => by
    obtain ⟨b, hb, h1, h2⟩ := hs m σ' H' p
    refine hb _ ?_
    cases b with
    | true => exact iteT ⟨_, fun _ _ q => q, h1 rfl⟩
    | false => exact iteF (h2 rfl)⟩
/-- what a walked thing asks of a comprehension -/
def lcW (g : TG) (tt : TT) (te : TE) (vs : List Nat) (J : It) (σ : L2.St) (Dl : Addr) (Q : VK) (H1 : Hp) : Prop := ∃ W : Nat → Nat → Hp → Prop, (∃ m, W 0 m (upd H1 Dl (.lst []))) ∧ ∀ i m H, W i m H →
  (J.stop i H ∧ Q (.ref Dl) H) ∨ (J.go i H ∧ ∃ Nx : Hp → Prop, (∀ H', Nx H' → ∃ m', m' < m ∧ W (i + 1) m' H') ∧ ∀ x H', J.yld i H x H' → g x (wipe σ vs) H' fun σ2 H2 => wipe σ2 vs = wipe σ vs ∧ tt σ2 H2 fun b H3 =>
    if b = true then te σ2 H3 fun y H4 => ∃ acc, H4 Dl = some (.lst acc) ∧ acc.length < sizeLine ∧ Nx (upd H4 Dl (.lst (acc ++ [y]))) else Nx H3)
theorem x_lcR1 {t0 : TE} {tt : TT} {vs : List Nat} {Q : VK} (h : t0 σ H fun x H1 => ∃ j : Int, [x] = [V.int j] ∧ -(2 ^ 62) ≤ j ∧ j < 2 ^ 62 ∧ ∀ Dl, H1 Dl = none → lcW g tt te vs (Itr 0 j.toNat) σ Dl Q H1) : tLc (iRng1 (tCons t0 tNil)) g tt te vs σ H Q := h
theorem x_lcL {K : PySem.W.Frag} {t0 : TE} {tt : TT} {vs : List Nat} {Q : VK} (h : t0 σ H fun x H1 => ∃ a, x = .ref a ∧ (∃ xs, SqL K H1 a xs) ∧ ∀ Dl, H1 Dl = none → lcW g tt te vs (Itl K a) σ Dl Q H1) : tLc (iList K t0) g tt te vs σ H Q := h
theorem x_lcT {K : PySem.W.Frag} {t0 : TE} {tt : TT} {vs : List Nat} {Q : VK} (h : t0 σ H fun x H1 => ∃ a, x = .ref a ∧ (∃ xs, SqT K H1 a xs) ∧ ∀ Dl, H1 Dl = none → lcW g tt te vs (Itt K a) σ Dl Q H1) : tLc (iTup K t0) g tt te vs σ H Q := h
theorem x_yt {A B : Hp → Prop} (h : A H) : tYes σ H fun b H3 => if b = true then A H3 else B H3 := iteT (B := B H) h
theorem x_dput {H : Hp} {σ : L2.St} {td ty tv : TE} {D : Ends} (h : tv σ H fun v H1 => td σ H1 fun x H2 => ty σ H2 fun y H3 => ∃ a H4, x = .ref a ∧ DPut H3 a y v H4 ∧ D.nx σ H4) : sDPut td ty tv D σ H := h
/-! ### a pile as a list, its top last -/
abbrev iq (q : List Int) : List V := q.map V.int
theorem rev_cons (x : Int) (S : List Int) : iq (x :: S).reverse = iq S.reverse ++ [V.int x] := by simp [iq]
theorem atI_rev1 (x : Int) (S : List Int) : atI (iq (x :: S).reverse) (-1) = some (.int x) := by
  rw [rev_cons]
  unfold atI ixN
  have hl : (iq S.reverse ++ [V.int x]).length = S.length + 1 := by simp [iq]
  rw [if_neg (by decide), hl, if_pos (by omega)]
  show (iq S.reverse ++ [V.int x])[((-1 : Int) + ((S.length + 1 : Nat) : Int)).toNat]? = _
  have e : ((-1 : Int) + ((S.length + 1 : Nat) : Int)).toNat = (iq S.reverse).length := by simp [iq]; omega
  rw [e, List.getElem?_append_right (Nat.le_refl _), Nat.sub_self]
  rfl
theorem atI_rev2 (x t : Int) (S : List Int) : atI (iq (x :: t :: S).reverse) (-2) = some (.int t) := by
  rw [rev_cons, rev_cons]
  unfold atI ixN
  have hl : (iq S.reverse ++ [V.int t] ++ [V.int x]).length = S.length + 2 := by simp [iq]
  rw [if_neg (by decide), hl, if_pos (by omega)]
  show (iq S.reverse ++ [V.int t] ++ [V.int x])[((-2 : Int) + ((S.length + 2 : Nat) : Int)).toNat]? = _
  have e : ((-2 : Int) + ((S.length + 2 : Nat) : Int)).toNat = (iq S.reverse).length := by simp [iq]; omega
  rw [e, List.append_assoc, List.getElem?_append_right (Nat.le_refl _), Nat.sub_self]
  rfl
theorem pop_rev (x : Int) (S : List Int) : (iq (x :: S).reverse)[(iq (x :: S).reverse).length - 1]? = some (.int x) ∧ (iq (x :: S).reverse).dropLast = iq S.reverse := by
  rw [rev_cons]
  refine ⟨?_, by simp⟩
  have hl : (iq S.reverse ++ [V.int x]).length - 1 = (iq S.reverse).length := by simp [iq]
  rw [hl, List.getElem?_append_right (Nat.le_refl _), Nat.sub_self]
  rfl
def QOk (n : Nat) (q : List Int) : Prop := ∀ x ∈ q, Cm n x
/-! ### tuples put together -/
/-- evaluates to a tuple of xs, new or not -/
def EvTu (te : TE) (σ : L2.St) (H : Hp) (xs : List V) : Prop := ∀ Q : VK, (∀ t H', Same H H' → H' t = some (.tup xs) → Q (.ref t) H') → te σ H Q
section
variable {K : PySem.W.Frag} {H : Hp} {σ : L2.St} {t1 t2 te : TE} {a : Addr} {xs ys : List V}
theorem tu_val (h : Val te σ H (.ref a)) (ha : H a = some (.tup xs)) : EvTu te σ H xs := fun Q q => h _ (q a H (Same.refl H) ha)
theorem tu_new {ta : TA} (h : ValA ta σ H xs) (hl : xs.length ≤ 100000) : EvTu (tTup ta) σ H xs := fun Q q => h _ ⟨Nat.le_trans hl (by decide), fun p hp => q p _ (same_new hp) upd_same⟩
theorem tu_cat (h1 : EvTu t1 σ H xs) (h2 : ∀ H1, Same H H1 → EvTu t2 σ H1 ys) (hl : xs.length + ys.length ≤ 100000) : EvTu (tOp (rCatA K) t1 t2) σ H (xs ++ ys) := fun Q q =>
  h1 _ fun p H1 e1 hp => h2 H1 e1 _ fun p2 H2 e2 hp2 => ⟨p, p2, xs, ys, rfl, rfl, SqT.of (e2 _ _ hp), SqT.of hp2, Nat.le_trans hl (by decide),
    fun hx => q p2 H2 (e1.trans e2) (by rw [hx]; exact hp2), fun _ hy => q p H2 (e1.trans e2) (by rw [hy, List.append_nil]; exact e2 _ _ hp), fun _ _ t ht => q t _ ((e1.trans e2).trans (same_new ht)) upd_same⟩
theorem tu_to (h : EvTu te σ H xs) (e : xs = ys) : EvTu te σ H ys := e ▸ h
theorem tu_head {ti : TE} {i : Nat} (h : EvTu te σ H xs) (hi : ∀ H1, Same H H1 → Val ti σ H1 (.int (i : Int))) (hl : i ≤ xs.length) : EvTu (tSl (rSlA K) te tNoPart (tPart ti)) σ H (xs.take i) := fun Q q =>
  h _ fun p H1 e1 hp => hi H1 e1 _ ⟨(i : Int), rfl, p, xs, rfl, SqT.of hp, fun ⟨_, h2⟩ => by
      have e : min i xs.length = xs.length := by rw [HT.sIx_nat] at h2; exact h2
      have e2 : xs.take i = xs := List.take_of_length_le (by omega)
      rw [e2] at q
      exact q p H1 e1 hp, fun _ t ht => q t _ (e1.trans (same_new ht)) (by
      rw [upd_same]
      have e : cutV xs none (some (i : Int)) = xs.take i := by
        unfold cutV
        rw [HT.sIx_none, HT.sIx_nat, List.drop_zero, Nat.min_eq_left hl, Nat.sub_zero]
      rw [e])⟩
theorem tu_tail {ti : TE} {i : Nat} (h : EvTu te σ H xs) (hi : ∀ H1, Same H H1 → Val ti σ H1 (.int (i : Int))) : EvTu (tSl (rSlA K) te (tPart ti) tNoPart) σ H (xs.drop i) := fun Q q =>
  h _ fun p H1 e1 hp => hi H1 e1 _ ⟨(i : Int), rfl, p, xs, rfl, SqT.of hp, fun ⟨h1, _⟩ => by
      have e : min i xs.length = 0 := by rw [HT.sIx_nat] at h1; exact h1
      have e2 : xs.drop i = xs := by
        by_cases hi0 : i = 0
        · rw [hi0]; rfl
        · have : xs.length = 0 := by omega
          rw [List.eq_nil_of_length_eq_zero this]; simp
      rw [e2] at q
      exact q p H1 e1 hp, fun _ t ht => q t _ (e1.trans (same_new ht)) (by
      rw [upd_same]
      have e : cutV xs (some (i : Int)) none = xs.drop i := by
        unfold cutV
        rw [HT.sIx_none, HT.sIx_nat]
        by_cases hi1 : i ≤ xs.length
        · rw [Nat.min_eq_left hi1]
          apply List.take_of_length_le
          rw [List.length_drop]
          omega
        · rw [Nat.min_eq_right (by omega), List.drop_of_length_le (Nat.le_refl _), List.drop_of_length_le (by omega)]
          simp
      rw [e])⟩
theorem tu_if {t : TT} {b : Bool} (h : Ans t σ H b) (h1 : b = true → EvTu t1 σ H xs) (h2 : b = false → EvTu t2 σ H xs) : EvTu (tIf t t1 t2) σ H xs := fun Q q => h _ (by
  cases b with
  | true => exact iteT (h1 rfl Q q)
  | false => exact iteF (h2 rfl Q q))
theorem ixQ {q : List Int} {i : Nat} {x : Int} (h : q[i]? = some x) : atI (iq q) (i : Int) = some (.int x) := atI_nat (by rw [List.getElem?_map, h]; rfl)
end
end
end FF
set_option maxHeartbeats 4000000
/-! max(l, key=lambda x: x[0]). -/
namespace FF
open PySem PySem.Spec PyProof.Rows L2
/-- all objects of a heap but the one at L -/
def allBut (L : Addr) (h : Heap) : List (Addr × Obj) := (List.range h.objs.size).filterMap fun b => if b = L then none else (h.get? b).map fun o => (b, o)
theorem mem_allBut {L : Addr} {h : Heap} {b : Addr} {o : Obj} : (b, o) ∈ allBut L h ↔ b ≠ L ∧ h.get? b = some o := by
  unfold allBut
  rw [List.mem_filterMap]
  constructor
  · rintro ⟨c, _, e⟩
    by_cases hc : c = L
    · rw [if_pos hc] at e; cases e
    · rw [if_neg hc] at e
      cases g : h.get? c with
      | none => rw [g] at e; cases e
      | some u =>
        rw [g] at e
        cases e
        exact ⟨hc, g⟩
  · rintro ⟨n, e⟩
    refine ⟨b, List.mem_range.mpr (Heap.lt_size e), ?_⟩
    rw [if_neg n, e]
    rfl
def noHeap : Heap := {}
theorem noHeap_none (b : Addr) : noHeap.get? b = none := by
  cases e : noHeap.get? b with
  | none => rfl
  | some o => exact absurd (Heap.lt_size e) (Nat.not_lt_zero _)
section
variable {X : Cx} {pins : List (Addr × Obj)} {σ : L2.St} {H : Hp} {s : Shared}
/-- all but the frame's own dict is kept, that one as a map -/
theorem inv_all {m : Str → Option Value} {h' : Heap} {t' : Nat} (I : Inv X pins σ H s) (hn : s.heap.Ns X.env.locals m) (F : Fr noHeap X.env.locals h' m) (N : News noHeap X.env.locals h' (allBut X.env.locals s.heap)) : Inv X pins σ H { s with heap := h', toks := t' } := by
  have k : ∀ b o, b ≠ X.env.locals → s.heap.get? b = some o → h'.get? b = some o := fun b o n e => (N (b, o) (mem_allBut.mpr ⟨n, e⟩)).1
  refine I.step (g' := s.gens) (d' := s.drawn) (ch := []) (fun b hb => absurd hb (by simp)) (fun b o n _ _ e _ => k b o n e) (fun b o n _ _ e _ => ⟨o.slots, k b o n e⟩) (fun b o _ _ n => n) (fun b o _ e => ?_) (fun b xs e => e) (fun b o u e => e) (fun b ps e => ⟨#[], by simpa using e⟩)
    (fun m' hm => ?_) (fun a o e => (I.hok a o e).stay (fun b u hb q => k b u ?_ q) (fun b q => q) (fun b xs q => q)) I.bare
  · by_cases hb : b = X.env.locals
    · obtain ⟨o', _, _, z, _⟩ := F.ns
      rw [hb]
      exact ⟨o', z⟩
    · exact ⟨o, k b o hb e⟩
  · have e : m' = m := funext fun x => hm.agree hn x
    rw [e]
    exact F.ns
  · intro z
    have hf := I.free
    rcases hb with hb | hb
    · rw [← hb, z, hf] at e
      cases e
    · rw [z, hf] at hb
      cases hb
theorem pgetV : ∀ {xs : List V} {us : List Value} {i : Nat} {u : Value}, Vals xs us → us[i]? = some u → ∃ x, xs[i]? = some x ∧ RelV x u
  | _, _, _, _, .nil, e => by simp at e
  | _, _, 0, _, .cons r _, e => by simp at e; subst e; exact ⟨_, rfl, r⟩
  | _, _, i + 1, u, .cons _ t, e => by
    obtain ⟨x, h1, h2⟩ := pgetV (i := i) (u := u) t (by simpa using e)
    exact ⟨x, by simpa using h1, h2⟩
abbrev toldBody (p1 p2 p3 : Pos) (j : Nat) : Expr := .Subscript (.Name "told" p1) (.Constant (.int 0) j p2) p3
/-- the lambda's parts -/
structure Told (params : Arguments) (body : Expr) (scope : Scope) : Prop where
  bind : ∀ (q : Str) (cl : List (Str × Addr)) (pm cv ctv v : Value), bindArgs (PySem.W.kla_fn "<lambda>" q params body scope cl pm cv ctv) ⟨[v], []⟩ = pure [(("told" : Str), v)]
  kind : scope.kind = .function
  co : scope.isCoroutine = false
  gen : scope.isGenerator = false
  loc : scope.names.lookup ("told" : Str) = some .local
  own : ∀ y ∈ scope.names, y.2 = .local
  env : ∀ (env : Env), defaultsOf params env = ([], [])
theorem told_call {p1 p2 p3 : Pos} {j : Nat} {A : Around} {f c' t L : Addr} {q : Str} {params : Arguments} {scope : Scope} {pm ctv : Value} {need : List (Addr × Obj)} {its : Array Value} {k : Int} {tk0 : Tok} {m : Str → Option Value} (T : Told params (toldBody p1 p2 p3 j) scope) (hA : A.depth < recursionLimit) (hL : s.heap.NoLimit)
    (of : s.heap.get? f = some (PySem.W.kla_obj "<lambda>" q params (toldBody p1 p2 p3 j) scope [] pm c' ctv)) (hc : s.heap.CodeRec (.ref c') q) (ht : IsTup s.heap t its) (hi : its[0]? = some (.int k tk0))
    (F : Fr noHeap L s.heap m) (N : News noHeap L s.heap need) : wpAny (model X.prog X.w) A (call (.ref f) [.ref t]) (KskEnd noHeap L m need k s) (fun _ _ => False) s := by
  refine wpAny_call (PySem.W.kla_callFunE hA of rfl T.co T.gen rfl hc ?_)
  rw [T.bind]
  refine wpAny_pure (wpAny_newFunctionEnv (fun y hy => by rw [T.own y hy]; decide) (fun y hy => by rw [List.mem_singleton.mp hy]; exact T.loc) (fun h₁ hns hsb => ⟨hL.fresh _ hsb, ?_⟩) T.kind)
  have hk : ∀ b o, s.heap.get? b = some o → h₁.get? b = some o := fun b o e => hsb.extBut b o (Nat.ne_of_lt (Heap.lt_size e)) (Heap.get?_push_of_some _ e)
  refine PySem.W.kla_codeExpr (Subscript_ (wpAny_Name (wpAny_loadName_local (v := .ref t) T.kind T.loc hns rfl (wpAny_Constant_int ?_)) (by decide)))
  have hz : 0 < its.size := by
    have := (Array.getElem?_eq_some_iff.mp hi).1
    exact this
  refine subscriptTail_builtinR (x := .int k tk0) (ht.keeps hk).typeIs slot_tuple_getitem.lookup (getItem_tuple (j := 0) (ht.keeps hk) (by decide) (by decide) ?_ hi ⟨rfl, ?_⟩) (by rfl)
  · unfold seqIndex?
    simp [hz]
  · exact ⟨_, _, _, rfl, rfl, ⟨F.ns.keeps hk, (fun b o e => by rw [noHeap_none] at e; cases e), Nat.zero_le _⟩, fun p hp => ⟨hk _ _ (N p hp).1, (N p hp).2⟩⟩
theorem max_told {p1 p2 p3 : Pos} {j : Nat} {f c' a : Addr} {q : Str} {params : Arguments} {scope : Scope} {pm ctv : Value} {ts : List Addr} {ks : Nat → Int} {Q : VK} (T : Told params (toldBody p1 p2 p3 j) scope) (hr : Room 1 X.A) (I : Inv X pins σ H s)
    (of : s.heap.get? f = some (PySem.W.kla_obj "<lambda>" q params (toldBody p1 p2 p3 j) scope [] pm c' ctv)) (hc : s.heap.CodeRec (.ref c') q) (ha : SqL X.K H a (ts.map V.ref)) (h0 : 0 < ts.length)
    (ht : ∀ i t, ts[i]? = some t → ∃ xs, SqT X.K H t xs ∧ xs[0]? = some (.int (ks i))) (k : ∀ i t, ts[i]? = some t → (∀ j, j < ts.length → ks j ≤ ks i) → Q (.ref t) H) :
    wpAny (model X.prog X.w) X.A (call (.builtin "max") [.ref a] [(Str.ofString "key", .ref f)]) (EP X pins σ Q) X.xe s := by
  obtain ⟨its, rv, pl, _⟩ := I.list ha
  obtain ⟨m, hn, _⟩ := id I.loc
  have notL : ∀ b o, s.heap.get? b = some o → (∀ es ep, o.data ≠ .dict es ep) → b ≠ X.env.locals := fun b o e d z => by
    obtain ⟨o', es, ep, e', d', _⟩ := id hn
    rw [← z, e] at e'
    cases e'
    exact d es ep d'
  have le : its.length = ts.length := by rw [← rv.length, List.length_map]
  have get : ∀ i v, its[i]? = some v → ∃ t : Addr, ts[i]? = some t ∧ v = Value.ref t := fun i v e => by
    obtain ⟨x, e1, r⟩ := pgetV rv e
    rw [List.getElem?_map] at e1
    cases g : ts[i]? with
    | none => rw [g] at e1; cases e1
    | some t =>
      rw [g] at e1
      cases e1
      exact ⟨t, g, r⟩
  have keepAll : ∀ {h : Heap}, News noHeap X.env.locals h (allBut X.env.locals s.heap) → ∀ b o, b ≠ X.env.locals → s.heap.get? b = some o → h.get? b = some o := fun N b o n e => (N (b, o) (mem_allBut.mpr ⟨n, e⟩)).1
  refine kmk_max (h₀ := noHeap) (L := X.env.locals) (m := m) (news := allBut X.env.locals s.heap) (vs := its) ks (show X.A.handled = none from hr.hd) ⟨hn, (fun b o e => by rw [noHeap_none] at e; cases e), Nat.zero_le _⟩
    (fun p hp => ⟨(mem_allBut.mp hp).2, (mem_allBut.mp hp).1, noHeap_none _⟩) (fun h F N => ?_) (by omega) (fun i v hv h tk own F N => ?_) (fun i v h' tk' hv hb F N => ?_)
  · obtain ⟨o, n, e, h1, _, h2⟩ := pl
    exact ⟨o, keepAll N a o (notL a o e fun es ep z => by rw [h2] at z; cases z) e, h1, n, h2⟩
  · obtain ⟨t, e1, rfl⟩ := get i v hv
    obtain ⟨xs, q1, q2⟩ := ht i t e1
    have N0 : News noHeap X.env.locals h (allBut X.env.locals s.heap) := fun p hp => N p (List.mem_append_left _ hp)
    have I' : Inv X pins σ H { s with heap := h, toks := tk } := inv_all I hn F N0
    obtain ⟨us, r1, ht1, _⟩ := I'.tuple q1
    obtain ⟨u, hu, ru⟩ := r1.get q2
    obtain ⟨tu, rfl⟩ := ru
    obtain ⟨oc, vs, t2, oo, hoc, hd, hv2⟩ := id hc
    refine told_call (s := { s with heap := h, toks := tk }) T ?_ I'.nolimit (keepAll N0 f _ (notL f _ of fun es ep z => by cases z) of) ?_ ht1 (by simpa using hu) F N
    · exact hr.in1.depth
    · exact ⟨oc, vs, t2, oo, hoc, keepAll N0 _ _ (notL _ _ hd (fun es ep z => by rw [hv2.1] at z; cases z)) hd, hv2⟩
  · obtain ⟨t, e1, rfl⟩ := get i v hv
    exact ⟨.ref t, H, inv_all I hn F N, rfl, k i t e1 fun j hj => (hb j (by omega)).1⟩
/-- the reading: T: the tables; the list is of tuples that begin with an int -/
def maxF (K : PySem.W.Frag) (T : List (Addr × Str)) (Q : VK) : VK := fun x H1 => LamX.Tabs T H1 ∧ ∃ (a : Addr) (ts : List Addr) (ks : Nat → Int), x = .ref a ∧ SqL K H1 a (ts.map V.ref) ∧ 0 < ts.length ∧
  (∀ i t, ts[i]? = some t → ∃ xs, H1 t = some (.tup xs) ∧ xs[0]? = some (.int (ks i))) ∧ ∀ H2, LamX.ExtN H1 H2 → LamX.Tabs T H2 → ∀ i t, ts[i]? = some t → (∀ j, j < ts.length → ks j ≤ ks i) → Q (.ref t) H2
def tMax (K : PySem.W.Frag) (T : List (Addr × Str)) (tl : TE) : TE := fun σ H Q => tl σ H (maxF K T Q)
def oneF (F : VK) : List V → Hp → Prop := fun vs H1 => match vs with
  | [x] => F x H1
  | _ => False
theorem pe_maxT {T : List (Addr × Str)} {c P : Addr} {p p1 p2 p3 lpos kpos pos : Pos} {j : Nat} {params : Arguments} {scope : Scope} {l : Expr} {tl : TE} (Td : Told params (toldBody p1 p2 p3 j) scope) (hr : Room 1 X.A) (hg : Gl X "max") (hm : X.mg "max" = none) (TB : LamX.TabB X.base X.mg c P) (hcode : X.env.code = .ref c)
    (hmT : (P, X.env.qual ++ "<lambda>") ∈ T) (hu : ∀ p ∈ T, p.1 = P → p.2 = X.env.qual ++ "<lambda>") (hl : PA X [l] (tCons tl tNil))
    (he : ∀ pos, backTo pos (starEach [l] X.env) = (false, eval l X.env) :: backTo pos (starEach [] X.env) := by intro _; rfl) (hpl : ∀ pos, (backTo pos (starEach [l] X.env)).any (·.1) = false := by intro _; rfl) :
    PE X (.Call (.Name "max" p) [l] [⟨some "key", .Lambda params (toldBody p1 p2 p3 j) scope lpos, kpos⟩] pos) (tMax X.K T tl) := by
  refine ⟨fun pins s σ H Q I h => ?_⟩
  refine wpAny_Call_Name_kw (ld_blt (u := .builtin "max") I hg hm (by decide +kernel) ?_ (by decide) (by decide))
  have hcl : cloFrom X.env.cells scope.names [] = [] := by
    have : ∀ l : List (Str × NameKind), (∀ y ∈ l, y.2 = .local) → cloFrom X.env.cells l [] = [] := by
      intro l
      induction l with
      | nil => intro _; rfl
      | cons y l ih =>
        intro hy
        obtain ⟨n, kd⟩ := y
        have e : kd = .local := hy (n, kd) (List.mem_cons_self ..)
        subst e
        exact ih fun z hz => hy z (List.mem_cons_of_mem _ hz)
    exact this _ Td.own
  refine PyProof.Rows.callWith_kw (thn (hl.run pos pins s σ H (oneF (maxF X.K T Q)) I h) fun us s1 ⟨vs, H1, I1, r1, q1⟩ => ?_) (he _) (hpl _) rfl rfl
  have q2 : ∃ x, vs = [x] ∧ maxF X.K T Q x H1 := by
    cases vs with
    | nil => exact False.elim q1
    | cons x vs =>
      cases vs with
      | nil => exact ⟨x, rfl, q1⟩
      | cons y vs => exact False.elim q1
  obtain ⟨x, ex, hT, a, ts, ks, ev, ha, h0, ht, k⟩ := q2
  subst ev
  subst ex
  obtain rfl := Vals.ref1 r1
  show wpAny _ _ (evalAll [do let v ← eval (.Lambda params (toldBody p1 p2 p3 j) scope lpos) X.env; standAt pos; pure v]) _ _ s1
  refine wpAny_evalAll_cons (wpAny_bind (LamX.lam_make2 I1 TB hcode hmT hu hT (Td.env _) (fun y hy e => by rw [Td.own y hy] at e; cases e) fun f c' pm ctv H2 s2 I2 eN T2 of f0 f1 hco => wpAny_bind (wpAny_standAt (wpAny_pure (wpAny_evalAll_nil ?_)))))
  rw [hcl] at of
  obtain ⟨⟨oc, vs, t, e1, e2, e3⟩, _, _⟩ := I2.hok c' _ hco
  have ha2 : SqL X.K H2 a (ts.map V.ref) := by
    rcases ha with (ha | ⟨o, ha⟩) | ha
    · exact .inl (.inl (eN _ _ ha fun ps z => by cases z))
    · exact .inl (.inr ⟨o, eN _ _ ha fun ps z => by cases z⟩)
    · exact .inr ha
  exact max_told Td hr I2 of ⟨c', oc, vs, t, rfl, e1, e2, e3⟩ ha2 h0 (fun i t e => by
    obtain ⟨xs, z1, z2⟩ := ht i t e
    exact ⟨xs, SqT.of (eN _ _ z1 fun ps z => by cases z), z2⟩) (fun i t e hb => k H2 eN T2 i t e hb)
end
end FF
set_option maxHeartbeats 4000000
/-! sorted: tuples of ints of any lengths, some empty; pairs of a tuple of ints and a text. -/
namespace FF
open PySem PySem.W PySem.Calls PySem.SeqAt PyProof.Rows
abbrev tq (q : List Int) : PyData := .tuple (q.map .int)
section
variable {prog : Program} {w : World} {A : Around} {E : Value → Shared → Prop} {s : Shared}
theorem firsts_tq {h : Heap} : ∀ (vs : List Value) (qs : List (List Int)) {Q : List (Option Value) → Shared → Prop}, s.heap = h → EachIs (fun v q => ∃ as, Reads h v (tq q) as) vs qs →
    (∀ bs : List (Option Value), EachIs (fun b q => b.isSome = !q.isEmpty) bs qs → Q bs s) → wpAny (model prog w) A (vs.mapM firstOfTuple') Q E s
  | [], qs, Q, eh, e, h => by
    cases e
    rw [List.mapM_nil]
    exact wpAny_pure (h [] .nil)
  | v :: vs, qs, Q, eh, e, h => by
    cases e with
    | @cons _ q _ qs' e1 e2 =>
      obtain ⟨as, r⟩ := e1
      cases r with
      | @tuple a o xs n _ _ ho hc hd hr =>
        rw [List.mapM_cons]
        refine wpAny_bind ?_
        rw [kas_first_eq]
        rw [← eh] at ho
        refine wpAny_bind (Looks.here (show Looks (model prog w) s.heap (typeOf (.ref a)) o.cls from (Looks.ld ho).andThen .now) ?_)
        rw [hc, if_neg (by first | decide | simp)]
        refine wpAny_bind (listItems_at ho hd (wpAny_pure ?_))
        refine wpAny_bind (firsts_tq vs qs' (Q := fun bs s' => wpAny (model prog w) A (pure (xs[0]? :: bs)) Q E s') eh e2 fun bs hb => wpAny_pure (h _ (.cons ?_ hb)))
        have hl : xs.toList.length = (q.map PyData.int).length := SeqAt.ReadsAll.length _ _ _ hr
        rw [List.length_map] at hl
        cases q with
        | nil =>
          have : xs.size = 0 := by simpa using hl
          simp [this]
        | cons x q =>
          have : 0 < xs.size := by
            have h1 : xs.size = q.length + 1 := by simpa using hl
            omega
          simp [this]
theorem each_all {α β : Type} {R : α → β → Prop} {p : α → Bool} {q : β → Bool} (h : ∀ a b, R a b → p a = q b) : ∀ {as : List α} {bs : List β}, EachIs R as bs → as.all p = bs.all q
  | _, _, .nil => rfl
  | _, _, .cons r t => by rw [List.all_cons, List.all_cons, h _ _ r, each_all h t]
theorem alike_tq (p q : List Int) : alike (tq p) (tq q) = true := by
  show alike (.tuple _) (.tuple _) = true
  rw [alike]
  exact alike_ints p q
theorem depth_tq (q : List Int) : (tq q).depth = 1 := by
  show PyData.depth (.tuple _) = 1
  rw [PyData.depth, depth_ints]
theorem call_tuple_ltA {Q : Value → Shared → Prop} {l b : Addr} {items items2 : Array Value} {e r : Nat → Bool} (hl : ∃ o, s.heap.get? l = some o ∧ o.cls = .type "tuple" ∧ ∃ n, o.data = .seq items n) (hb : ∃ o, s.heap.get? b = some o ∧ o.cls = .type "tuple" ∧ ∃ n, o.data = .seq items2 n)
    (he : ∀ j (h1 : j < items.size) (h2 : j < items2.size), EqAt A.in1 s items[j] items2[j] (e j)) (hr : ∀ j (h1 : j < items.size) (h2 : j < items2.size), e j = false → RcLt A.in1 s items[j] items2[j] (r j))
    (h : Q (.bool (firstLt e r (decide (items.size < items2.size)) (List.range (min items.size items2.size)))) s) : wpAny (model prog w) A (call (.builtin "tuple.__lt__") [.ref l, .ref b]) Q E s := by
  obtain ⟨⟨cls, dd, data, sl⟩, ho, hc, n, hd⟩ := id hl
  obtain ⟨⟨cls2, dd2, data2, sl2⟩, ho2, hc2, n2, hd2⟩ := id hb
  simp only at hc hd hc2 hd2
  subst hc hd hc2 hd2
  exact call_meets F.slot_tuple_lt ⟨_, ho, rfl⟩ F.entry_tuple_lt (F.args_tuple_lt_2 _ _) (tuple_ltAt l b items items2 n n2 dd dd2 sl sl2 e r) ⟨ho, ho2, he, hr, h⟩
theorem oneLt_tuples {xs ys : List PyData} {a b : Value} {as bs : List Addr} {Q : Bool → Shared → Prop} (ra : Reads s.heap a (.tuple xs) as) (rb : Reads s.heap b (.tuple ys) bs) (h : alike (.tuple xs) (.tuple ys) = true)
    (hu : A.units + min (PyData.tuple xs).depth (PyData.tuple ys).depth < cLine) (hq : Q (dataLt (.tuple xs) (.tuple ys)) s) : wpAny (model prog w) A (oneLt' true a b) Q E s := by
  have hal : alikeAll xs ys = true := by simpa [alike] using h
  cases ra with
  | @tuple l o vs n _ as₁ h1 h2 h3 h4 =>
    cases rb with
    | @tuple l' o' vs' n' _ bs₁ k1 k2 k3 k4 =>
      have n1 : vs.size = xs.length := by simpa using SeqAt.ReadsAll.length _ _ _ h4
      have n2 : vs'.size = ys.length := by simpa using SeqAt.ReadsAll.length _ _ _ k4
      rw [dataLt_tuple, ← firstLt_toks xs ys hal, ← n1, ← n2] at hq
      rw [oneLt'_eq]
      simp only [if_true]
      refine wpAny_bind (wpAny_cRoomFor (room_here hu) ?_)
      refine wpAny_bind (wpAny_callSpecialIfBound?_slot (T := "tuple") ⟨_, h1, h2⟩ F.slot_tuple_lt (call_tuple_ltA (e := pairEq xs ys) (r := fun j => dataLt (xs.getD j .none) (ys.getD j .none)) ⟨_, h1, h2, _, h3⟩ ⟨_, k1, k2, _, k3⟩ (fun j j1 j2 => ?_) (fun j j1 j2 hj => ?_) ?_))
      · have := eqAt_alikeAll xs ys A.in1 s vs.toList vs'.toList _ _ h4 k4 hal (room_in hu) j (by simpa using j1) (by simpa using j2)
        simpa using this
      · have := rcLt_alikeAll xs ys A.in1 s vs.toList vs'.toList _ _ h4 k4 hal (room_in hu) j (by simpa using j1) (by simpa using j2) hj
        simpa using this
      · exact wpAny_truthy_bool hq
theorem sorts_tq {vs : List Value} {qs : List (List Int)} (e : EachIs (fun v q => ∃ as, Reads s.heap v (tq q) as) vs qs) (hu : A.units + 1 < cLine) : SortsAt prog w A s (dataKind s.heap (qs.map tq)) vs := by
  have hal : AllAlike (qs.map tq) := AllAlike.of fun _ _ => alike_tq _ _
  have e' : EachIs (fun v d => ∃ as, Reads s.heap v d as) vs (qs.map tq) := each_map (R := fun v d => ∃ as, Reads s.heap v d as) tq e
  have room : ∀ d, d ∈ qs.map tq → A.units + d.depth < cLine := fun d hd => by
    obtain ⟨q, _, rfl⟩ := List.mem_map.mp hd
    rw [depth_tq]
    exact hu
  by_cases hne : qs.all (fun q => !q.isEmpty) = true
  · refine SortsAt.data e' hal (.inl fun d hd => ?_) room
    obtain ⟨q, hq, rfl⟩ := List.mem_map.mp hd
    have := List.all_eq_true.mp hne q hq
    cases q with
    | nil => simp at this
    | cons x q => exact ⟨_, _, rfl⟩
  · refine ⟨fun v hv => ?_, ?_⟩
    · obtain ⟨d, hd, as, r⟩ := e'.left v hv
      exact ⟨_, dataKind_some hal hd r⟩
    · have both : ∀ f : Bool, H.LtAt prog w A s (dataKind s.heap (qs.map tq)) (if f then oneType' else general') := by
        intro f E x y a b Q ha hb hq
        obtain ⟨d, as, hd, ra, rfl⟩ := dataKind_inv ha
        obtain ⟨d', as', hd', rb, rfl⟩ := dataKind_inv hb
        have hal' := hal d hd d' hd'
        have hroom : A.units + min d.depth d'.depth < cLine := Nat.lt_of_le_of_lt (Nat.add_le_add_left (Nat.min_le_left _ _) _) (room d hd)
        obtain ⟨p, _, rfl⟩ := List.mem_map.mp hd
        obtain ⟨p', _, rfl⟩ := List.mem_map.mp hd'
        cases f with
        | true => exact oneLt_tuples ra rb hal' hroom hq
        | false => exact oneLt_alike (f := false) (fun z => by cases z) ra rb hal' (fun z => by cases z) hroom hq
      have hall : ∀ bs : List (Option Value), EachIs (fun b q => b.isSome = !q.isEmpty) bs qs → bs.toArray.all (fun x => x.isSome) = false := fun bs hb => by
        rw [List.all_toArray, each_all (q := fun q : List Int => !q.isEmpty) (fun a b r => r) hb]
        cases z : qs.all (fun q => !q.isEmpty) with
        | true => exact absurd z hne
        | false => rfl
      cases qs with
      | nil => exact absurd rfl hne
      | cons q0 qs =>
        refine ⟨if q0.isEmpty then oneType' else general', both _, fun h2 E Q hq => ?_⟩
        rw [keyKind'_eq, List.mapM_toArray, map_eq_pure_bind]
        refine wpAny_bind (wpAny_bind (firsts_tq vs (q0 :: qs) rfl e fun bs hb => wpAny_pure ?_))
        rw [if_neg (by rw [hall bs hb]; decide)]
        cases hb with
        | @cons b _ bs' _ h1 h2' =>
          have hb0 : (((b :: bs').toArray)[0]?.bind id) = b := by simp
          rw [hb0]
          cases z : q0.isEmpty with
          | false =>
            rw [z] at hq h1
            rw [if_pos (by rw [h1]; rfl)]
            exact wpAny_pure hq
          | true =>
            rw [z] at hq h1
            rw [if_neg (by rw [h1]; decide)]
            rw [oneTypeOnly'_eq, List.mapM_toArray, map_eq_pure_bind]
            refine wpAny_bind (wpAny_bind (wpAny_bind (kas_mapM (r := Value.type "tuple") _ (fun v hv Q' hq => ?_) (wpAny_pure ?_))))
            · obtain ⟨d, hd, as, r⟩ := e'.left v hv
              obtain ⟨p, _, rfl⟩ := List.mem_map.mp hd
              exact (looks_reads r).here hq
            · obtain ⟨v1, vs', rfl⟩ : ∃ v1 vs', vs = v1 :: vs' := by
                match vs, h2 with
                | v1 :: vs', _ => exact ⟨v1, vs', rfl⟩
              have hall2 : ((List.map (fun _ => Value.type "tuple") (v1 :: vs')).toArray.all fun x => x == Value.type "tuple") = true := by
                simp only [List.all_toArray, List.all_map, List.all_eq_true]
                intro _ _
                rfl
              have h0 : (List.map (fun _ => Value.type "tuple") (v1 :: vs')).toArray[0]? = some (Value.type "tuple") := by simp
              rw [h0]
              simp only [hall2, if_true]
              exact wpAny_pure (wpAny_pure hq)
end
end FF
namespace FF
open PySem PySem.Spec PyProof.Rows L2
theorem each_refs {β : Type} {R : Value → β → Prop} (f : β → Addr) : ∀ {bs : List β}, (∀ b ∈ bs, R (.ref (f b)) b) → PySem.W.EachIs R (bs.map fun b => Value.ref (f b)) bs
  | [], _ => .nil
  | b :: bs, h => .cons (h b (List.mem_cons_self ..)) (each_refs f fun c hc => h c (List.mem_cons_of_mem _ hc))
theorem refs_each {β : Type} (f : β → Addr) : ∀ {out : List Value} {bs : List β}, PySem.W.EachIs (fun v b => v = Value.ref (f b)) out bs → out = bs.map fun b => Value.ref (f b)
  | _, _, .nil => rfl
  | _, _, .cons h t => by rw [h, refs_each f t]; rfl
theorem vals_refs : ∀ (ts : List Addr), Vals (ts.map V.ref) (ts.map Value.ref)
  | [] => .nil
  | t :: ts => .cons rfl (vals_refs ts)
theorem refs_vals : ∀ {ts : List Addr} {us : List Value}, Vals (ts.map V.ref) us → us = ts.map Value.ref
  | [], _, h => by cases h; rfl
  | t :: ts, _, h => by
    cases h with
    | cons r t' => rw [refs_vals t']; cases r; rfl
theorem reads_ints {h : Heap} : ∀ {q : List Int} {us : List Value}, Vals (iq q) us → PySem.ReadsAll h us (q.map .int) []
  | [], _, r => by cases r; exact .nil
  | x :: q, _, r => by
    cases r with
    | cons r t =>
      obtain ⟨tk, rfl⟩ := r
      exact .cons (as := []) (bs := []) (.int _ _) (reads_ints t)
section
variable {X : Cx}
theorem reads_tq {pins : List (Addr × Obj)} {s : Shared} {σ : L2.St} {H : Hp} (I : Inv X pins σ H s) {t : Addr} {q : List Int} (h : SqT X.K H t (iq q)) : PySem.Reads s.heap (.ref t) (tq q) [] := by
  obtain ⟨its, r, ⟨o, e, hc, n, hd⟩, _⟩ := I.tuple h
  exact .tuple e hc hd (by simpa using reads_ints (h := s.heap) r)
theorem sorted_refs {β : Type} {pins : List (Addr × Obj)} {s : Shared} {σ : L2.St} {H : Hp} {Q : VK} {a : Addr} (f : β → Addr) (enc : β → PyData) {bs : List β} (I : Inv X pins σ H s) (hs : SqL X.K H a (bs.map fun p => V.ref (f p))) (hr : ∀ b ∈ bs, ∃ as, PySem.Reads s.heap (.ref (f b)) (enc b) as)
    (hal : PySem.W.AllAlike (bs.map enc)) (S : ∀ s' : Shared, PySem.W.EachIs (fun v b => ∃ as, PySem.Reads s'.heap v (enc b) as) (bs.map fun p => Value.ref (f p)) bs → PySem.W.SortsAt X.prog X.w X.A.in1.in1 s' (PySem.W.dataKind s'.heap (bs.map enc)) (bs.map fun p => Value.ref (f p)))
    (q : ∀ (ps' : List β) (l : Addr), ps'.Perm bs → H l = none → Q (.ref l) (upd H l (.lst (ps'.map fun p => V.ref (f p))))) : wpAny (model X.prog X.w) X.A (call (.builtin "sorted") [.ref a]) (EP X pins σ Q) X.xe s := by
  obtain ⟨its, rv, hl, hz⟩ := I.list hs
  have ei : its = bs.map fun p => Value.ref (f p) := by
    have e1 : (bs.map fun p => V.ref (f p)) = (bs.map f).map V.ref := by rw [List.map_map]; rfl
    rw [e1] at rv
    rw [refs_vals rv, List.map_map]
    rfl
  subst ei
  rw [List.length_map] at hz
  have rd : ∀ {h' : Heap}, (∀ b o, s.heap.get? b = some o → h'.get? b = some o) → PySem.W.EachIs (fun v (p : β) => ∃ as, PySem.Reads h' v (enc p) as) (bs.map fun p => Value.ref (f p)) bs := fun k =>
    each_refs f fun p hp' => let ⟨as, r⟩ := hr p hp'; ⟨as, PyProof.Rows.Reads.keeps k r⟩
  have k0 : ∀ b o, s.heap.get? b = some o → (PySem.W.sortingHeap (PySem.W.copyHeap s.heap (bs.map fun p => Value.ref (f p))) (s.heap.objs.size + 1) (bs.map fun p => Value.ref (f p))).get? b = some o := fun _ _ => PySem.W.sorting_copy_old
  have S1 := S { s with heap := PySem.W.sortingHeap (PySem.W.copyHeap s.heap (bs.map fun p => Value.ref (f p))) (s.heap.objs.size + 1) (bs.map fun p => Value.ref (f p)) } (rd k0)
  have out := PySem.W.sortVals_data (R := fun v (p : β) => v = Value.ref (f p)) (enc := enc) false (each_refs f fun p _ => rfl) (rd k0) hal
  have eo := refs_each f out
  refine PySem.W.sorted_vals hl.isList S1 (by rw [List.length_map]; exact hz) ?_
  rw [eo]
  generalize hps : (bs.mergeSort _) = ps'
  have perm : ps'.Perm bs := by rw [← hps]; exact List.mergeSort_perm _ _
  obtain ⟨ep, he'⟩ := PyProof.Rows.sortedAll_at s.heap (bs.map fun p => Value.ref (f p)) (ps'.map fun p => Value.ref (f p)).toArray
  have hlen : (ps'.map fun p => V.ref (f p)).length ≤ sizeLine := by
    rw [List.length_map, perm.length_eq]
    exact hz
  have hv : Vals (ps'.map fun p => V.ref (f p)) (ps'.map fun p => Value.ref (f p)) := by
    have := vals_refs (ps'.map f)
    rw [List.map_map, List.map_map] at this
    exact this
  exact ⟨.ref _, upd H (s.heap.objs.size + 1) (.lst (ps'.map fun p => V.ref (f p))), I.laid (t' := s.toks) (fun _ _ => PyProof.Rows.sortedAll_old) (Nat.le_succ _) ⟨hlen, _, ep, hv, he'⟩, rfl, q _ _ perm (I.hok.fresh (Nat.le_succ _))⟩
/-- sorted(xs), tuples of ints: some permutation -/
def rSortedQ (K : PySem.W.Frag) : List V → Hp → VK → Prop := fun vs H Q => ∃ (a : Addr) (ps : List (Addr × List Int)), vs = [V.ref a] ∧ SqL K H a (ps.map fun p => V.ref p.1) ∧ (∀ p ∈ ps, SqT K H p.1 (iq p.2)) ∧
  ∀ (ps' : List (Addr × List Int)) (l : Addr), ps'.Perm ps → H l = none → Q (.ref l) (upd H l (.lst (ps'.map fun p => V.ref p.1)))
theorem cr_sortedQ {K : PySem.W.Frag} (hK : X.K = K) (hu : X.A.units + 65 < cLine) : CallR X (.builtin "sorted") (rSortedQ K) := by
  subst hK
  intro pins s σ H vs us Q I r h
  obtain ⟨a, ps, rfl, hs, hp, q⟩ := h
  rw [Vals.ref1 r]
  refine sorted_refs (fun p : Addr × List Int => p.1) (fun p => tq p.2) I hs (fun p hp' => ⟨[], reads_tq I (hp p hp')⟩) (PySem.W.AllAlike.of fun _ _ => alike_tq _ _) (fun s' e => ?_) q
  have mk : ∀ {h' : Heap} {vs : List Value} {l : List (Addr × List Int)}, PySem.W.EachIs (fun v (p : Addr × List Int) => ∃ as, PySem.Reads h' v (tq p.2) as) vs l → PySem.W.EachIs (fun v q => ∃ as, PySem.Reads h' v (tq q) as) vs (l.map (·.2)) := by
    intro h' vs l e
    induction e with
    | nil => exact .nil
    | cons h t ih => exact .cons h ih
  have S := sorts_tq (prog := X.prog) (w := X.w) (A := X.A.in1.in1) (s := s') (mk e) (by show X.A.units + 2 + 1 < cLine; omega)
  have em : (ps.map (·.2)).map tq = ps.map fun p => tq p.2 := by rw [List.map_map]; rfl
  rw [em] at S
  exact S
/-- sorted(xs), each a pair of a tuple of ints and a text: some permutation -/
def rSortedF (K : PySem.W.Frag) : List V → Hp → VK → Prop := fun vs H Q => ∃ (a : Addr) (ps : List (Addr × Addr × List Int × Str)), vs = [V.ref a] ∧ SqL K H a (ps.map fun p => V.ref p.1) ∧ (∀ p ∈ ps, SqT K H p.1 [.ref p.2.1, .str p.2.2.2] ∧ SqT K H p.2.1 (iq p.2.2.1)) ∧
  ∀ (ps' : List (Addr × Addr × List Int × Str)) (l : Addr), ps'.Perm ps → H l = none → Q (.ref l) (upd H l (.lst (ps'.map fun p => V.ref p.1)))
theorem cr_sortedF {K : PySem.W.Frag} (hK : X.K = K) (hu : X.A.units + 65 < cLine) : CallR X (.builtin "sorted") (rSortedF K) := by
  subst hK
  intro pins s σ H vs us Q I r h
  obtain ⟨a, ps, rfl, hs, hp, q⟩ := h
  rw [Vals.ref1 r]
  have al : ∀ b b' : Addr × Addr × List Int × Str, PySem.W.alike (PyData.tuple [tq b.2.2.1, .str b.2.2.2]) (PyData.tuple [tq b'.2.2.1, .str b'.2.2.2]) = true := fun b b' => by
    rw [PySem.W.alike, PySem.W.alikeAll, alike_tq, PySem.W.alikeAll, PySem.W.alike, PySem.W.alikeAll]
    rfl
  have hal : PySem.W.AllAlike (ps.map fun p => PyData.tuple [tq p.2.2.1, .str p.2.2.2]) := PySem.W.AllAlike.of fun _ _ => al _ _
  refine sorted_refs (fun p : Addr × Addr × List Int × Str => p.1) (fun p => .tuple [tq p.2.2.1, .str p.2.2.2]) I hs (fun p hp' => ?_) hal (fun s' e => ?_) q
  · obtain ⟨h1, h2⟩ := hp p hp'
    obtain ⟨its, r, ⟨o, e, hc, n, hd⟩, _⟩ := I.tuple h1
    obtain ⟨u1, u2, rfl, r1, r2⟩ := vals2 r
    obtain rfl : u1 = Value.ref p.2.1 := r1
    obtain ⟨t2, rfl⟩ := r2
    exact ⟨[], .tuple e hc hd (.cons (as := []) (bs := []) (reads_tq I h2) (.cons (as := []) (bs := []) (.str _ _) .nil))⟩
  · refine PySem.W.SortsAt.data (PySem.W.each_map (R := fun v d => ∃ as, PySem.Reads s'.heap v d as) (fun p : Addr × Addr × List Int × Str => PyData.tuple [tq p.2.2.1, .str p.2.2.2]) e) hal (PySem.W.Sortable.tuples fun _ => ⟨_, _, rfl⟩) (fun d hd => ?_)
    obtain ⟨p, _, rfl⟩ := List.mem_map.mp hd
    have hd2 : (PyData.tuple [tq p.2.2.1, .str p.2.2.2]).depth ≤ 3 := by simp [PyData.depth, PyData.depthAll, PySem.W.depth_ints]
    show X.A.units + 2 + _ < cLine
    omega
end
end FF
set_option maxHeartbeats 4000000
/-! Dicts with tuple keys: list(d.items()), a display of one pair, a comprehension. -/
namespace FF
open PySem PySem.Spec PyProof.Rows L2
/-- new objects tracked at once -/
def putO (H : Hp) (news : List (Addr × HO)) : Hp := fun b => match news.lookup b with
  | some o => some o
  | none => H b
theorem putO_off {H : Hp} {news : List (Addr × HO)} {b : Addr} (h : ∀ p ∈ news, p.1 ≠ b) : putO H news b = H b := by
  unfold putO
  have : news.lookup b = none := by
    induction news with
    | nil => rfl
    | cons p r ih =>
      obtain ⟨a, o⟩ := p
      have h1 : a ≠ b := h (a, o) (List.mem_cons_self ..)
      have e : (b == a) = false := beq_eq_false_iff_ne.mpr (Ne.symm h1)
      show (match b == a with | true => some o | false => r.lookup b) = none
      rw [e]
      exact ih fun q hq => h q (List.mem_cons_of_mem _ hq)
  rw [this]
theorem lookup_nd {news : List (Addr × HO)} (nd : (news.map (·.1)).Nodup) {p : Addr × HO} (hp : p ∈ news) : news.lookup p.1 = some p.2 := by
  induction news with
  | nil => cases hp
  | cons q r ih =>
    obtain ⟨a, o⟩ := q
    rw [List.map_cons, List.nodup_cons] at nd
    rcases List.mem_cons.mp hp with e | hp'
    · subst e
      show (match a == a with | true => some o | false => r.lookup a) = some o
      rw [beq_self_eq_true]
    · have h1 : p.1 ≠ a := fun z => nd.1 (by
        show a ∈ r.map (·.1)
        rw [← z]
        exact List.mem_map.mpr ⟨p, hp', rfl⟩)
      have e : (p.1 == a) = false := beq_eq_false_iff_ne.mpr h1
      show (match p.1 == a with | true => some o | false => r.lookup p.1) = some p.2
      rw [e]
      exact ih nd.2 hp'
theorem putO_on {H : Hp} {news : List (Addr × HO)} (nd : (news.map (·.1)).Nodup) {p : Addr × HO} (hp : p ∈ news) : putO H news p.1 = some p.2 := by
  unfold putO
  rw [lookup_nd nd hp]
theorem mem_lookupO {news : List (Addr × HO)} {b : Addr} {o : HO} (h : news.lookup b = some o) : (b, o) ∈ news := by
  induction news with
  | nil => cases h
  | cons q r ih =>
    obtain ⟨a, u⟩ := q
    have h' : (match b == a with | true => some u | false => r.lookup b) = some o := h
    cases e : b == a with
    | true =>
      rw [e] at h'
      have := eq_of_beq e
      cases h'
      rw [this]
      exact List.mem_cons_self ..
    | false =>
      rw [e] at h'
      exact List.mem_cons_of_mem _ (ih h')
section
variable {X : Cx} {pins : List (Addr × Obj)} {σ : L2.St} {H : Hp} {s : Shared}
theorem inv_laidN {h' : Heap} {tk : Nat} {news : List (Addr × HO)} (I : Inv X pins σ H s) (hk : ∀ b o, s.heap.get? b = some o → h'.get? b = some o) (nd : (news.map (·.1)).Nodup) (hp : ∀ p ∈ news, s.heap.objs.size ≤ p.1)
    (new : ∀ p ∈ news, ObjOk X.prog X.w (putO H news) h' p.1 p.2) : Inv X pins σ (putO H news) { s with heap := h', toks := tk } ∧ Same H (putO H news) := by
  have fresh : ∀ p ∈ news, H p.1 = none := fun p h => I.hok.fresh (hp p h)
  have kp : ∀ b u, H b = some u → putO H news b = some u := fun b u e => by
    rw [putO_off fun p h z => by rw [← z, fresh p h] at e; cases e]
    exact e
  refine ⟨?_, kp⟩
  refine I.call' (ch := []) rfl ⟨fun b o q _ _ _ => hk b o q, fun b o q _ _ _ => ⟨o.slots, hk b o q⟩, fun b o q n _ => ?_, fun b o q _ => ⟨o, hk b o q⟩, fun b xs q => kp b _ q, fun b o u q => kp b _ q, fun b ps q => ⟨#[], by rw [kp b _ q]; simp⟩⟩ (fun b u q => ?_) I.bare fun b z => by simp at z
  · rw [putO_off fun p h z => by rw [← z] at q; exact absurd (Heap.lt_size q) (Nat.not_lt.mpr (hp p h))]
    exact n
  · cases l : news.lookup b with
    | some o =>
      have hm := mem_lookupO l
      have e := putO_on (H := H) nd hm
      have q' : putO H news b = some u := q
      rw [e] at q'
      cases q'
      exact new _ hm
    | none =>
      have q' : H b = some u := by
        have : putO H news b = H b := by unfold putO; rw [l]
        rw [this] at q
        exact q
      exact (I.hok b u q').stay (fun d v _ y => hk d v y) (fun d y => kp d _ y) fun d xs y => kp d _ y
/-- list(d.items()), keys tuples -/
def tItemsT (te : TE) : TE := fun σ H Q => te σ H fun x H1 => ∃ (d : Addr) (kvs : List (List Key × V)), x = .ref d ∧ H1 d = some (.dT kvs) ∧
  ∀ (H' : Hp) (p : Addr) (ts bs : List Addr), Same H1 H' → H1 p = none → H' p = some (.lst (ts.map V.ref)) → ts.length = kvs.length → bs.length = kvs.length →
    (∀ (i : Nat) (t b : Addr) (kv : List Key × V), ts[i]? = some t → bs[i]? = some b → kvs[i]? = some kv → H' t = some (.tup [.ref b, kv.2]) ∧ H' b = some (.tup (kv.1.map kV))) → Q (.ref p) H'
theorem pe_itemsT {e : Expr} {te : TE} {p apos cpos pos : Pos} (hc : X.calm = true) (he : PE X e te) (hg : Gl X "list") (hm : X.mg "list" = none) (hbase : attributeBase e "items" X.env (eval e X.env) = eval e X.env := by rfl) (hline : (apos.endLine == cpos.line) = true := by rfl)
    (hs : starEach [.Call (.Attribute e "items" apos) [] [] cpos] X.env = (false, eval (.Call (.Attribute e "items" apos) [] [] cpos) X.env) :: starEach [] X.env := by rfl) :
    PE X (.Call (.Name "list" p) [.Call (.Attribute e "items" apos) [] [] cpos] [] pos) (tItemsT te) := by
  refine ⟨fun pins s σ H Q I hq => ?_⟩
  refine wpAny_Call_Name_kw (ld_blt (u := .type "list") I hg hm (by decide +kernel) ?_)
  refine PyProof.Rows.callWith_type1 ?_ hs rfl
  rw [hs]
  show wpAny _ _ (spliced ((false, eval (.Call (.Attribute e "items" apos) [] [] cpos) X.env) :: backTo pos (starEach [] X.env))) _ _ s
  refine Calls.spliced_cons ?_
  refine wpAny_Call_method (T := "dict") (id := "dict.items") hbase rfl hline F.plainAttrs_dict F.slot_dict_items F.type_dict_items (thn (he.run pins s σ H _ I hq) fun u s1 ⟨x, H1, I1, rx, d, kvs, ex, hd, q⟩ => ?_)
  subst ex
  obtain rfl : u = Value.ref d := rx
  obtain ⟨hz, hs0, xs, pr, o, es, ep, ho, hx, hdt, hes, hn⟩ := (show ObjOk X.prog X.w H1 s1.heap d (.dT kvs) from I1.hok d _ hd)
  have raw : DT.Raw s1.heap d es ep := ⟨o, ho, hx, hdt⟩
  have l1 : es.size = xs.length := by rw [← Array.length_toList, hes, List.length_map]
  have l2 : kvs.length = xs.length := Paired.length pr
  have I2 : Inv X pins σ H1 { s1 with heap := s1.heap.push { cls := .type "dict_items", data := .fields #[.ref d] } } := I1.kept (t' := s1.toks) fun b ob q => Heap.get?_push_of_some _ q
  refine ⟨raw.typeIs, fun a ea => ?_, ?_⟩
  · cases ea
    exact ⟨o, ho, hx.2.1⟩
  · show wpAny _ _ (callWith cpos (.builtin "dict.items") [.ref d] [] []) _ X.xe s1
    refine method_meetsIn F.slot_dict_items F.entry_dict_items rfl (PySem.evalArgs_none ⟨rfl, raw.typeIs, F.args_dict_items_1 _, _, DT.meetsItems hs0, ⟨raw, ?_⟩⟩)
    refine Calls.spliced_nil ?_
    refine PySem.W.dil_call (es := es) (ep := ep) (I1.ok.hd hc) ⟨_, Heap.get?_push_size _ rfl, rfl, rfl⟩ ⟨o, Heap.get?_push_of_some _ ho, hx, hdt⟩ (by omega) fun h' tk acc c as hk hS hl hG hacc => ?_
    generalize hsz : (s1.heap.push { cls := .type "dict_items", data := .fields #[.ref d] }).objs.size = S at hS hG hk
    let fo : Nat → Addr → Addr × HO := fun i t => (t, .tup (match xs[i]?, kvs[i]? with | some x, some kv => [.ref x.2.1, kv.2] | _, _ => []))
    let news : List (Addr × HO) := (S, .lst (as.map V.ref)) :: as.mapIdx fo
    have hnews : ∀ p ∈ news, p = (S, .lst (as.map V.ref)) ∨ ∃ (i : Nat) (t : Addr) (x : List Key × Addr × Value) (kv : List Key × V), as[i]? = some t ∧ xs[i]? = some x ∧ kvs[i]? = some kv ∧ p = (t, .tup [.ref x.2.1, kv.2]) := by
      intro p hp
      rcases List.mem_cons.mp hp with e | hp
      · exact .inl e
      · obtain ⟨i, hi, e⟩ := List.mem_mapIdx.mp hp
        have hix : i < xs.length := by omega
        have hik : i < kvs.length := by omega
        refine .inr ⟨i, as[i], xs[i], kvs[i], List.getElem?_eq_getElem hi, List.getElem?_eq_getElem hix, List.getElem?_eq_getElem hik, ?_⟩
        rw [← e]
        show (as[i], HO.tup (match xs[i]?, kvs[i]? with | some x, some kv => [.ref x.2.1, kv.2] | _, _ => [])) = _
        rw [List.getElem?_eq_getElem hix, List.getElem?_eq_getElem hik]
    have keys : news.map (·.1) = S :: as := by
      show S :: (as.mapIdx fo).map (fun p => p.1) = S :: as
      congr 1
      apply List.ext_getElem?
      intro i
      rw [List.getElem?_map, List.getElem?_mapIdx]
      cases as[i]? <;> rfl
    have nd : (news.map (·.1)).Nodup := by
      rw [keys, List.nodup_cons]
      exact ⟨fun z => Nat.lt_irrefl _ (hG.above _ z), List.Pairwise.imp (fun {a b} (h : a < b) => Nat.ne_of_lt h) hG.rise⟩
    have pairO : ∀ (i : Nat) (t : Addr) (x : List Key × Addr × Value) (kv : List Key × V), as[i]? = some t → xs[i]? = some x → kvs[i]? = some kv → h'.get? t = some { cls := .type "tuple", data := .seq #[.ref x.2.1, x.2.2] } ∧ kv.1 = x.1 ∧ H1 x.2.1 = some (.tup (kv.1.map kV)) ∧ RelV kv.2 x.2.2 := by
      intro i t x kv e1 e2 e3
      obtain ⟨hi, e4⟩ := hG.pairs i t e1
      have e5 : es.toList[i]? = some es[i] := by rw [Array.getElem?_toList]; exact Array.getElem?_eq_getElem hi
      rw [hes, List.getElem?_map, e2] at e5
      have e6 : entryOfKey (tupleKind (mixKind X.prog X.w)) x = es[i] := Option.some.inj e5
      rw [← e6] at e4
      obtain ⟨x', z1, z2⟩ := pgetL pr e3
      rw [e2] at z1
      cases z1
      exact ⟨e4, z2.1, z2.2.1, z2.2.2⟩
    have hA : ∀ p ∈ news, S ≤ p.1 := by
      intro p hp
      rcases hnews p hp with e | ⟨i, t, x, kv, e1, _, _, e⟩
      · rw [e]; exact Nat.le_refl _
      · rw [e]
        exact Nat.le_of_lt (by exact hG.above t (List.mem_of_getElem? e1))
    have hB : ∀ p ∈ news, ObjOk X.prog X.w (putO H1 news) h' p.1 p.2 := by
      intro p hp
      rcases hnews p hp with e | ⟨i, t, x, kv, e1, e2, e3, e⟩
      · rw [e]
        refine ⟨by rw [List.length_map]; omega, acc.toList, c, by rw [hacc]; exact LiI.vals_refs as, ?_⟩
        rw [Array.toArray_toList]
        exact hS
      · rw [e]
        obtain ⟨z0, z1, z2, z3⟩ := pairO i t x kv e1 e2 e3
        exact ⟨by show 2 ≤ sizeLine; decide, [.ref x.2.1, x.2.2], .cons rfl (.cons z3 .nil), ⟨_, z0, rfl, _, rfl⟩⟩
    obtain ⟨J, sm⟩ := inv_laidN (tk := tk) I2 hk nd (fun p hp => by show (s1.heap.push _).objs.size ≤ p.1; rw [hsz]; exact hA p hp) hB
    refine ⟨.ref S, _, J, rfl, q _ S as (xs.map (·.2.1)) sm (by rw [← hsz]; exact I2.hok.fresh (Nat.le_refl _)) (putO_on (p := (S, .lst (as.map V.ref))) nd (List.mem_cons_self ..)) (by omega) (by rw [List.length_map]; omega) fun i t b kv e1 e2 e3 => ?_⟩
    rw [List.getElem?_map] at e2
    cases e4 : xs[i]? with
    | none => rw [e4] at e2; cases e2
    | some x =>
      rw [e4] at e2
      cases e2
      obtain ⟨_, z1, z2, z3⟩ := pairO i t x kv e1 e4 e3
      obtain ⟨hi, et⟩ := List.getElem?_eq_some_iff.mp e1
      have hm : (t, HO.tup [.ref x.2.1, kv.2]) ∈ news := List.mem_cons_of_mem _ (List.mem_mapIdx.mpr ⟨i, hi, by
        show (as[i], HO.tup (match xs[i]?, kvs[i]? with | some x, some kv => [.ref x.2.1, kv.2] | _, _ => [])) = _
        rw [e4, e3, et]⟩)
      exact ⟨putO_on nd hm, sm _ _ z2⟩
end
end FF
set_option maxHeartbeats 4000000
/-! A display of one pair and a comprehension of a dict, keys tuples. -/
namespace FF
open PySem PySem.Spec PyProof.Rows L2
section
variable {X : Cx} {pins : List (Addr × Obj)} {σ : L2.St} {H : Hp} {s : Shared}
/-- d[k] = v by a comprehension or a display, k a tuple -/
theorem dt_dictSet {A : Around} {E : Value → Shared → Prop} {D b : Addr} {kvs : List (List Key × V)} {k : List Key} {v : V} {u r : Value} {Q : Unit → Shared → Prop} (hu : A.units + 1 < cLine) (I : Inv X pins σ H s) (hD : H D = some (.dT kvs)) (hz : kvs.length < sizeLine)
    (hb : H b = some (.tup (k.map kV))) (ru : RelV (.ref b) u) (rv : RelV v r) (h : ∀ s', Inv X pins σ (upd H D (.dT (putK kvs k v))) s' → Q () s') : wpAny (model X.prog X.w) A (dictSet D u r) Q E s := by
  cases ru
  obtain ⟨z, hd, xs, rel, dd⟩ := dt_of I.hok hD
  have hz' : xs.length ≤ sizeLine := by rw [← Paired.length rel]; exact z
  have hl : (putK kvs k v).length ≤ sizeLine := by have := length_putK kvs k v; omega
  refine wpAny_dictSet_heap (hsz := hz') (show A.units < cLine by omega) (key_of I.hok hb) dd fun h' dd' hs => h _ ?_
  obtain ⟨q, es, ep, hq, h2, h3, h4, _, h5⟩ := dd'
  refine d_write I (by rw [hD]; exact True.intro) hs ⟨q, hq⟩ ⟨hl, hd, _, (rel.put k hb rv).keeps fun c ys ec => ?_, q, es, ep, hq, h2, h3, h4, h5⟩
  rw [upd_ne (ne_of ec hD (fun z => nomatch z))]
  exact ec
/-- {k: v}, k a tuple: the new dict stands empty while the pair is made -/
def tDispT (tk tv : TE) : TE := fun σ H Q => ∀ p, H p = none → tk σ (upd H p (.dT [])) fun x H1 => tv σ H1 fun y H2 => ∃ (b : Addr) (k : List Key), x = .ref b ∧ H2 b = some (.tup (k.map kV)) ∧ H2 p = some (.dT []) ∧ Q (.ref p) (upd H2 p (.dT [(k, y)]))
theorem pe_dispT {k v : Expr} {tk tv : TE} {pos : Pos} (hu : X.A.units + 1 < cLine) (hk : PE X k tk) (hv : PE X v tv) : PE X (.Dict [some k] [v] pos) (tDispT tk tv) := by
  refine ⟨fun pins s σ H Q I q => ?_⟩
  have hn := I.hok.fresh (Nat.le_refl s.heap.objs.size)
  have I1 := I.laid (a := s.heap.objs.size) (o := .dT []) (h' := s.heap.push { cls := .type "dict", data := .dict #[] }) (t' := s.toks) (fun _ _ q => Heap.get?_push_of_some _ q) (Nat.le_refl _) (dt_empty s.heap I.big)
  rw [arm_eval_Dict, zip_pairTrees [some k] [v] X.env pos rfl rfl, dictDisplay_pairs (pairTrees [some k] [v] X.env pos) (by intro z; cases z) (by decide : 1 < 17)]
  refine wpAny_bind (wpAny_standAt (wpAny_bind (wpAny_subDictH (knd := tupleKind (mixKind X.prog X.w)) (show X.A.units < cLine by omega) (by decide : 1 ≤ 15) (pairTrees_cons_walk (thn (hk.run pins _ σ _ _ I1 (q _ hn)) fun u s1 ⟨x, H1, J1, rx, q1⟩ =>
    thn (hv.run pins s1 σ H1 _ J1 q1) fun w2 s2 ⟨y, H2, J2, ry, b, key, ex, hb, hp, q2⟩ => pairTrees_nil_walk ?_)))))
  subst ex
  cases rx
  obtain ⟨z, hd, xs, rel, dd⟩ := dt_of J2.hok hp
  cases rel
  refine ⟨[(key, b, w2)], ⟨rfl, rfl, key_of J2.hok hb, True.intro⟩, dd, fun h' tk dd' hs => wpAny_pure ?_⟩
  obtain ⟨o, es, ep, ho, h2, h3, h4, _, h5⟩ := dd'
  have e1 : storedAllH ([] : List (List Key × Addr × Value)) [(key, b, w2)] = [(key, b, w2)] := rfl
  rw [e1] at h4 h5
  refine ⟨.ref _, _, d_write (ob := .dT [(key, y)]) J2 (by rw [hp]; exact True.intro) hs ⟨o, ho⟩ ⟨Nat.le_of_lt (by decide : 1 < sizeLine), hd, [(key, b, w2)], .cons ⟨rfl, ?_, ry⟩ .nil, o, es, ep, ho, h2, h3, h4, h5⟩, rfl, q2⟩
  show upd H2 _ _ b = _
  rw [upd_ne (ne_of hb hp (fun z => nomatch z))]
  exact hb
/-! ### a comprehension -/
/-- {k: v for target in iter}, k a tuple: D the new dict -/
def tDcT (wi : TI) (g : TG) (tk tv : TE) (vs : List Nat) : TE := fun σ H Q => wi σ H fun J H1 => ∀ D, H1 D = none → ∃ W : Nat → Nat → Hp → Prop, (∃ m, W 0 m (upd H1 D (.dT []))) ∧ ∀ i m H, W i m H →
  (J.stop i H ∧ Q (.ref D) H) ∨ (J.go i H ∧ ∃ Nx : Hp → Prop, (∀ H', Nx H' → ∃ m', m' < m ∧ W (i + 1) m' H') ∧ ∀ x H', J.yld i H x H' → g x (wipe σ vs) H' fun σ2 H2 => wipe σ2 vs = wipe σ vs ∧
    tk σ2 H2 fun y H4 => tv σ2 H4 fun z H5 => ∃ (kvs : List (List Key × V)) (k : List Key) (b : Addr), y = .ref b ∧ H5 b = some (.tup (k.map kV)) ∧ H5 D = some (.dT kvs) ∧ kvs.length < sizeLine ∧ Nx (upd H5 D (.dT (putK kvs k z))))
theorem pe_dcT {kx vx tg iter : Expr} {scope : Scope} {own : List (Str × Nat)} {pos : Pos} {wi : TI} {g : TG} {tk tv : TE} (hu : X.A.units + 1 < cLine) (hc : X.calm = true) (hN : X.N.Nodup) (hi : PI X tg iter wi) (ok : BlkOk X.N X.env.scope scope own)
    (hg : ∀ (s : Shared) (H : Hp) (C : Addr) (cl : List (Str × Addr)) (fp : List Addr), PG (X.blk s H scope (compEnvC scope cl C X.env) fp) tg g)
    (hk : ∀ (s : Shared) (H : Hp) (C : Addr) (cl : List (Str × Addr)) (fp : List Addr), PE (X.blk s H scope (compEnvC scope cl C X.env) fp) kx tk)
    (he : ∀ (s : Shared) (H : Hp) (C : Addr) (cl : List (Str × Addr)) (fp : List Addr), PE (X.blk s H scope (compEnvC scope cl C X.env) fp) vx tv) (hs : ∀ x, foldedSetIterable iter X.env x = pure x := by intro _; rfl) :
    PE X (.DictComp kx vx [⟨tg, iter, [], 0⟩] scope pos) (tDcT wi g tk tv (own.map (·.2))) := by
  refine ⟨fun pins s σ H Q I h => ?_⟩
  rw [arm_eval_DictComp]
  have hRR : ∀ D C s' m H', Inv X pins σ H' s' → Q (.ref D) H' → s'.heap.Ns C m → FpOk X pins H' C → compPost (model X.prog X.w) X.A X.xe none (EP X pins σ Q) (.ref D) C (.ok .next) s' := fun D C s' m H' I' q hn f => ⟨m, hn, fun h'' sb => by
    obtain ⟨f0, f1, f2, f3, f4, f5⟩ := f
    exact ⟨.ref D, H', I'.turned (t' := s'.toks) (fun b o hb e => (sb.2 b hb).trans e) f0 f1 f3 f4 f5, rfl, q⟩⟩
  have hfree : ∀ y ∈ scope.names, y.2 = .free → ∃ c, X.env.cells.lookup y.1 = some c := fun y hy e => by
    rcases ok.free y hy e with k | k
    · exact I.ok.has _ (.inl k)
    · exact I.ok.has _ (.inr k)
  refine wpAny_comprehension_free (use := none) rfl hs (closure_ok hfree) ok.kind (fun y hy e => by rw [ok.uniq y hy, e])
    (thn (hi.run pins s σ H _ I h) fun xv s1 hx => thn hx fun itv s2 h2 => ?_)
  obtain ⟨it, fp, tn, J, H2, e, I2, T, st2, f2, q⟩ := h2
  subst e
  refine wpAny_newObj_type (newEnv_comp ?_)
  generalize hD : s2.heap.objs.size = D
  have hDn : H2 D = none := I2.hok.fresh (Nat.le_of_eq hD)
  obtain ⟨W, ⟨m0, w0⟩, turn⟩ := q D hDn
  generalize hs3 : ({ s2 with heap := s2.heap.push { cls := .type "dict", data := .dict #[] } } : Shared) = s3
  have I3 : Inv X pins σ (upd H2 D (.dT [])) s3 := by
    rw [← hs3]
    refine I2.laid (t' := s2.toks) (fun b o e => Heap.get?_push_of_some _ e) (Nat.le_of_eq hD) ?_
    rw [← hD]
    exact dt_empty s2.heap I2.big
  have h3 : s3.heap = s2.heap.push { cls := .type "dict", data := .dict #[] } := by rw [← hs3]
  have f3 : ∀ b ∈ fp, FpOk X pins (upd H2 D (.dT [])) b ∧ b < s3.heap.objs.size := fun b hb => by
    obtain ⟨o, e, _⟩ := T.obj _ _ st2 b hb
    have hlt := Heap.lt_size e
    refine ⟨⟨?_, (f2 b hb).2⟩, by rw [h3, Heap.size_push]; exact Nat.lt_succ_of_lt hlt⟩
    rw [upd_ne (by rw [← hD]; exact Nat.ne_of_lt hlt)]
    exact (f2 b hb).1
  have st3 : tn 0 s3.heap := T.keep _ _ _ st2 fun b _ o e => by rw [h3]; exact Heap.get?_push_of_some _ e
  have I4 := block_start I3 ok hN f3
  have pg := hg s3 (upd H2 D (.dT [])) s3.heap.objs.size (cellsFrom (s3.heap.objs.size + 1) scope.names (cloFrom X.env.cells scope.names [])) fp
  have pk := hk s3 (upd H2 D (.dT [])) s3.heap.objs.size (cellsFrom (s3.heap.objs.size + 1) scope.names (cloFrom X.env.cells scope.names [])) fp
  have pe := he s3 (upd H2 D (.dT [])) s3.heap.objs.size (cellsFrom (s3.heap.objs.size + 1) scope.names (cloFrom X.env.cells scope.names [])) fp
  show codeAny _ _ (.compStart (.DictComp kx vx [⟨tg, iter, [], 0⟩] scope pos) 0 (.ref it) (.ref D) (compEnvC scope (cellsFrom (s3.heap.objs.size + 1) scope.names (cloFrom X.env.cells scope.names [])) s3.heap.objs.size X.env)) (compPost (model X.prog X.w) X.A X.xe none (EP X pins σ Q) (.ref D) s3.heap.objs.size) { s3 with heap := pushCells (s3.heap.push { cls := .type "dict", data := .dict #[] }) scope.names }
  have nfp : ∀ b ∈ fp, (upd H2 D (.dT [])) b = none := fun b hb => (f3 b hb).1.1
  generalize hce : compEnvC scope (cellsFrom (s3.heap.objs.size + 1) scope.names (cloFrom X.env.cells scope.names [])) s3.heap.objs.size X.env = ce at I4 pg pk pe ⊢
  have cL : ce.locals = s3.heap.objs.size := by subst hce; rfl
  generalize hH3 : upd H2 D (.dT []) = H3 at I3 I4 pg pk pe w0 nfp f3
  generalize hs4 : ({ s3 with heap := pushCells (s3.heap.push { cls := .type "dict", data := .dict #[] }) scope.names } : Shared) = s4 at I4 ⊢
  have st4 : tn 0 s4.heap := T.keep _ _ _ st3 fun b _ o e => by rw [← hs4]; exact pushCells_keeps _ _ _ _ (Heap.get?_push_of_some _ e)
  have stat : ∀ {σ' : L2.St} {H' : Hp} {s' : Shared}, Inv (X.blk s3 H3 scope ce fp) [] σ' H' s' → (∀ b ∈ fp, H' b = none) → ∀ b ∈ fp, FpOk (X.blk s3 H3 scope ce fp) [] H' b := fun {σ' H' s'} I' hn b hb =>
    ⟨hn b hb, (I'.ok.exf b hb).1, I'.ok.exfs b hb, .inl hb, fun x c e => (I'.ok.exf b hb).2 x c e, fun p hp => absurd (show p ∈ ([] : List (Addr × Obj)) ++ [] from hp) (by simp)⟩
  have loop : codeAny (model X.prog X.w) X.A (.compLoop (.DictComp kx vx [⟨tg, iter, [], 0⟩] scope pos) 0 (.ref it) (.ref D) ce) (compPost (model X.prog X.w) X.A X.xe none (EP X pins σ Q) (.ref D) s3.heap.objs.size) s4 := by
    refine compLoop_anyD (fun n s' => ∃ i H', Inv (X.blk s3 H3 scope ce fp) [] (wipe σ (own.map (·.2))) H' s' ∧ tn i s'.heap ∧ (∀ b ∈ fp, H' b = none) ∧ W i n H') ?_ m0 ⟨0, H3, I4, st4, nfp, w0⟩
    rintro n s5 ⟨i, H5, I5, st5, n5, w5⟩
    rcases turn i n H5 w5 with ⟨stop, qq⟩ | ⟨go, Nx, hNx, step⟩
    · have td := T.done (X.blk s3 H3 scope ce fp) rfl rfl rfl hc i [] s5 _ H5 (fun _ _ => False) I5 (stat I5 n5) st5 stop
      refine thnF td fun r s6 ⟨hr, I6⟩ => ?_
      subst hr
      have I7 : Inv X pins σ H5 s6 := I3.call' (ch := fp) I6.os I6.base I6.hok I6.bare fun b hb => ⟨(f3 b hb).1.2.2.2.1, (f3 b hb).1.2.1, (f3 b hb).1.2.2.2.2.1, (f3 b hb).1.2.2.2.2.2⟩
      have nC : H5 s3.heap.objs.size = none := by
        have z : H5 ce.locals = none := I6.free
        rw [cL] at z
        exact z
      obtain ⟨m, hn, _⟩ := I6.loc
      have hn : s6.heap.Ns ce.locals m := hn
      rw [cL] at hn
      exact hRR D s3.heap.objs.size s6 m H5 I7 qq hn (I3.fpOk (Nat.le_refl _) nC)
    · have ti := T.item (X.blk s3 H3 scope ce fp) rfl rfl rfl hc i [] s5 _ H5 (fun _ _ => False) I5 (stat I5 n5) st5 go
      refine thnF ti fun r s6 ⟨u, hr, h6⟩ => ?_
      subst hr
      refine thnF h6 fun _ s7 ⟨x, H7, I7, r7, y7, st7, n7⟩ => ?_
      have I7' := I7.pinned (stat I7 n7) (T.obj _ _ st7)
      refine thnF (pg.run _ s7 _ H7 x u _ I7' r7 (step x H7 y7)) fun _ s8 ⟨σ8, H8, I8, hw8, q8⟩ => ?_
      have fin : ∀ {s' : Shared} {H' : Hp}, Inv (X.blk s3 H3 scope ce fp) ([] ++ pinsAt fp s7.heap) σ8 H' s' → Nx H' → ∃ m, m < n ∧ ∃ i H', Inv (X.blk s3 H3 scope ce fp) [] (wipe σ (own.map (·.2))) H' s' ∧ tn i s'.heap ∧ (∀ b ∈ fp, H' b = none) ∧ W i m H' := fun {s' H'} I' nx => by
        obtain ⟨m', hm, w'⟩ := hNx H' nx
        have pin' : ∀ b ∈ fp, ∀ o, s7.heap.get? b = some o → s'.heap.get? b = some o ∧ H' b = none := fun b hb o e =>
          let z := I'.pin (b, o) (List.mem_append_right _ (List.mem_append_right _ (mem_pinsAt hb e)))
          ⟨z.1, z.2.1⟩
        have hl : (wipe σ (own.map (·.2))).length = σ8.length := by rw [← hw8, wipe_length]
        refine ⟨m', hm, i + 1, H', (I'.unpinned (pins := [])).weak hl (fun j v e => ?_), T.keep _ _ _ st7 fun b hb o e => (pin' b hb o e).1, fun b hb => ?_, w'⟩
        · rw [← hw8] at e
          exact (wipe_some e).1
        · obtain ⟨o, e, _⟩ := T.obj _ _ st7 b hb
          exact (pin' b hb o e).2
      refine wpAny_pure ?_
      rw [if_pos rfl]
      refine thnF (pk.run _ s8 σ8 H8 _ I8 q8) fun z s10 ⟨yk, H10, I10, r10, q10⟩ => ?_
      refine thnF (pe.run _ s10 σ8 H10 _ I10 q10) fun z2 s11 ⟨yv, H11, I11, r11, kvs, k, b, ek, hb11, hD11, hz11, nx⟩ => ?_
      subst ek
      exact dt_dictSet (X := X.blk s3 H3 scope ce fp) (show X.A.units + 1 < cLine from hu) I11 hD11 hz11 hb11 r10 r11 fun s12 I12 => fin I12 nx
  exact codeAny_compStart_dict loop (T.self X.A 0 _ _ _ st4 loop)
end
end FF
set_option maxHeartbeats 4000000
/-! A call by one keyword; repr of None and of a tuple of ints. -/
namespace FF
open PySem PySem.Spec PyProof.Rows L2
section
variable {X : Cx} {CX : CXT}
theorem pe_kwonly {k : Nat} {f : Addr} {fd : FuncData} {a x : Str} {sp : Sp} {E : XK} {e : Expr} {te : TE} {p kp pos : Pos} (F : FnOk X.prog X.w X.K X.mg X.base CX k f fd [a] sp) (hr : Room k X.A) (hg : Gl X x) (hm : X.mg x = some (.ref f)) (hk : PySem.W.keepIn X.K (.ref f) = true)
    (hb : ∀ (s : Shared) (u : Value), BindsTo s fd ⟨[], [(a, u)]⟩ [(a, u)]) (hx : Passes CX X E) (he : PE X e te) (hdb : (x == ("__debug__" : Str)) = false := by decide) :
    PE X (.Call (.Name x p) [] [⟨some a, e, kp⟩] pos) (tCall sp [] E (tCons te tNil)) := by
  refine ⟨fun pins s σ H Q I h => ?_⟩
  refine wpAny_Call_Name_kw (ld_glob I hg hm ?_ hdb)
  refine PySem.W.callWith_KW0 (h₀ := X.base) I.ok.mod.kin hk rfl ?_
  refine thn ((pk_cons (nm := some a) (kpos := kp) he pk_nil).run pos pins s σ H _ I h) fun ws s1 ⟨zs, H1, I1, rz, q⟩ => ⟨I1.kIn, ?_⟩
  have h1 : (zs ++ []).length = 1 := F.len _ _ _ _ q
  have q : sp (zs ++ []) H1 Q E := q
  rw [List.append_nil] at q h1
  have hz : zs.length = ws.length := rz.length
  obtain ⟨u, rfl⟩ : ∃ u, ws = [u] := by
    match ws, hz with
    | [u], _ => exact ⟨u, rfl⟩
    | [], hz => rw [hz] at h1; cases h1
    | _ :: _ :: _, hz => rw [hz] at h1; simp at h1
  show wpAny _ _ (call (.ref f) [] [(a, u)]) _ _ _
  refine wpAny_call (codeAny_mono (F.run X.A X.stack s1 H1 ⟨[], [(a, u)]⟩ [u] zs Q E hr I1.env0 (hb s1 u) rz q) fun r s' hq => ?_)
  cases r with
  | error e => exact hx pins σ H1 s1 e s' I1 hq
  | ok fl =>
    cases fl with
    | ret u => exact I1.after hq
    | next => exact False.elim hq
    | brk => exact False.elim hq
    | cont => exact False.elim hq
theorem kw_binds {K : PySem.W.Frag} {x qual a : Str} {params : Arguments} {body : List Stmt} {scope : Scope} {f : Addr} {fd : FuncData} (F : FunD K x qual params body scope [] [] f fd)
    (h : ∀ (kV doc pm : Value) (an : Option Addr) (cdv ct u : Value), bindArgs (PySem.W.fnOf x qual params body scope .none kV doc pm an cdv ct) ⟨[], [(a, u)]⟩ = pure [(a, u)]) (s : Shared) (u : Value) : BindsTo s fd ⟨[], [(a, u)]⟩ [(a, u)] := by
  obtain ⟨oc, od, dV, kV, doc, pm, an, cdv, ct, osl, rfl, lk, hcd, hD, hK⟩ := F.ex
  rcases hD with ⟨_, rfl⟩ | ⟨e, _⟩
  · exact .of_eq (h kV doc pm an cdv ct u)
  · exact absurd rfl e
/-- small ints -/
def Sm (q : List Int) : Prop := q.length ≤ 100 ∧ ∀ x ∈ q, 0 ≤ x ∧ x < 100
theorem sm_len (x : Int) (h0 : 0 ≤ x) (h1 : x < 100) : (Str.ofString (toString x)).length ≤ 2 := by
  have k : ∀ i : Fin 100, (Str.ofString (toString ((i.val : Nat) : Int))).length ≤ 2 := by decide +kernel
  obtain ⟨n, rfl⟩ : ∃ n : Nat, x = n := ⟨x.toNat, by omega⟩
  exact k ⟨n, by omega⟩
theorem sm_log (x : Int) (h0 : 0 ≤ x) (h1 : x < 100) : x.natAbs.log2 < 1920 := by
  have k : ∀ i : Fin 100, ((i.val : Nat) : Int).natAbs.log2 < 1920 := by decide +kernel
  obtain ⟨n, rfl⟩ : ∃ n : Nat, x = n := ⟨x.toNat, by omega⟩
  exact k ⟨n, by omega⟩
theorem sm_show : ∀ q : List Int, (∀ x ∈ q, 0 ≤ x ∧ x < 100) → PyData.showableAll (q.map .int) = true
  | [], _ => rfl
  | x :: q, h => by
    show PyData.showableAll (.int x :: q.map .int) = true
    have := h x (List.mem_cons_self ..)
    rw [PyData.showableAll, sm_show q fun y hy => h y (List.mem_cons_of_mem _ hy), PyData.showable, decide_eq_true (sm_log x this.1 this.2)]
    rfl
theorem sm_nodict : ∀ q : List Int, PyData.hasDictAll (q.map .int) = false
  | [] => rfl
  | x :: q => by
    show PyData.hasDictAll (.int x :: q.map .int) = false
    rw [PyData.hasDictAll, sm_nodict q, PyData.hasDict]
    rfl
theorem sm_piled : ∀ q : List Int, (∀ x ∈ q, 0 ≤ x ∧ x < 100) → piled (PyData.shownAll (q.map .int)) ≤ 4 * q.length
  | [], _ => Nat.zero_le _
  | x :: q, h => by
    show piled (PyData.shownAll (.int x :: q.map .int)) ≤ _
    have h1 := h x (List.mem_cons_self ..)
    have h2 := sm_piled q fun y hy => h y (List.mem_cons_of_mem _ hy)
    have h3 := sm_len x h1.1 h1.2
    rw [PyData.shownAll, piled_cons, List.length_cons]
    have e : (PyData.shown (.int x)).length ≤ 2 := h3
    omega
theorem len_tupleText (ts : List Str) : (tupleText ts).length ≤ piled ts + 3 := by
  have e3 : (((if ts.length == 1 then ",)" else ")" : String) : Str)).length ≤ 2 := by split <;> decide +kernel
  have e1 : ((("(" : String) : Str)).length = 1 := rfl
  unfold tupleText
  rw [strLen_append, strLen_append, e1]
  by_cases h : ts = []
  · subst h
    have : (Str.join ", " ([] : List Str)).length = 0 := rfl
    omega
  · have := join_length_add ts h
    omega
def rReprQ (K : PySem.W.Frag) : List V → Hp → VK → Prop := fun xs H Q => (xs = [.non] ∧ Q (.str "None") H) ∨ ∃ (t : Addr) (q : List Int), xs = [.ref t] ∧ SqT K H t (iq q) ∧ Sm q ∧ Q (.str (tq q).shown) H
theorem cr_reprQ {K : PySem.W.Frag} (hK : X.K = K) (hg : X.A.guards = some []) (hu : X.A.units + 64 < cLine) : CallR X (.builtin "repr") (rReprQ K) := by
  subst hK
  intro pins s σ H vs us Q I r h
  rcases h with ⟨rfl, q⟩ | ⟨t, q, rfl, ht, hs, k⟩
  · obtain ⟨u, rfl, e⟩ := vals1 r
    obtain rfl : u = Value.none := e
    exact PySem.P.repr_of_none ⟨.str "None", H, I.tok _, ⟨_, rfl⟩, q⟩
  · obtain rfl := Vals.ref1 r
    have hd : (tq q).depth = 1 := depth_tq q
    have sz : (tq q).shown.length ≤ sizeLine := by
      show (PyData.shown (.tuple _)).length ≤ sizeLine
      rw [PyData.shown]
      have h1 := len_tupleText (PyData.shownAll (q.map .int))
      have h2 := sm_piled q hs.2
      have h3 := hs.1
      exact Nat.le_trans (by omega : _ ≤ 403) (by decide)
    refine repr_of_reads' (h₀ := s.heap) (reads_tq I ht) (by show PyData.showable (.tuple _) = true; rw [PyData.showable]; exact sm_show q hs.2) (fun z => ?_) hg (by rw [hd]; omega) (fun b o e => e) (fun h' u tk kp => ?_) sz
    · have z' : PyData.hasDict (.tuple (q.map .int)) = true := z
      rw [PyData.hasDict, sm_nodict] at z'
      cases z'
    · exact ⟨.str (tq q).shown, H, I.kept kp, ⟨_, rfl⟩, k⟩
end
end FF
set_option maxHeartbeats 4000000
namespace FF
open PySem PySem.Spec PyProof.Rows L2
section
variable {P : Program} {w : World} {K : PySem.W.Frag} {mg : Str → Option Value} {base : Heap}
/-! ### is_integer .. is_end -/
def sp_is_integer : Sp := fun vs H Q _ => ∃ i : Int, vs = [.int i] ∧ Q (.bl true) H
theorem ok_is_integer (T : Txt K mg) : FnOk P w K mg base CX0 1 (He.ga K "is_integer") T.fd_is_integer ["value"] sp_is_integer := by
  refine T.F_is_integer.ok sc_is_integer (fun vs H Q E h => ?_) (fun cdv A outer s H vs Q E hr h => ?_)
  · obtain ⟨i, rfl, _⟩ := h; rfl
  · obtain ⟨i, rfl, k⟩ := h
    refine ⟨_, PSs.nox ((pss_one (ps_ret (pe_and (pe_callB call_isi (by rfl) T.z_isinstance (by decide +kernel) (pa_cons (pv 0) (pa_cons (pe_bltn (v := .ty "int") rfl T.z_int (by decide +kernel) rfl) pa_nil))) (pe_one (pe_not (pe_callB call_isi (by rfl) T.z_isinstance (by decide +kernel) (pa_cons (pv 0) (pa_cons (pe_bltn (v := .ty "bool") rfl T.z_bool (by decide +kernel) rfl) pa_nil))))))))), ?_⟩
    refine ⟨_, rfl, ⟨_, _, _, _, true, rfl, .ty _, .base (.int _), kit_ty (by decide +kernel), true, rfl, ?_⟩⟩
    refine iteT ?_
    exact ⟨_, rfl, ⟨_, _, _, _, false, rfl, .ty _, .base (.int _), kit_ty (by decide +kernel), false, rfl, k⟩⟩
theorem v_is_integer {i : Int} {H : Hp} : SpVal sp_is_integer ([.int i] ++ []) H (.bl true) := fun _ q _ => ⟨i, rfl, q⟩
def sp_is_number : Sp := fun vs H Q _ => ∃ i : Int, vs = [.int i] ∧ Q (.bl (decide (0 ≤ i))) H
theorem ok_is_number (T : Txt K mg) : FnOk P w K mg base CX0 2 (He.ga K "is_number") T.fd_is_number ["value"] sp_is_number := by
  refine T.F_is_number.ok sc_is_number (fun vs H Q E h => ?_) (fun cdv A outer s H vs Q E hr h => ?_)
  · obtain ⟨i, rfl, _⟩ := h; rfl
  · obtain ⟨i, rfl, k⟩ := h
    refine ⟨_, PSs.nox ((pss_one (ps_ret (pe_and (pe_call (ok_is_integer T) (hr.mono (by decide)) rfl T.m_is_integer T.F_is_integer.kp (bi_is_integer T) .nil pass0 (pa_cons (pv 0) pa_nil)) (pe_one (pe_cmpR op_ge (pv 0) pe_int (nomark _))))))), ?_⟩
    refine st_ret (val_andV (val_call (va_cons (val_var rfl) va_nil) v_is_integer) (fun _ => val_bi (val_var rfl) val_c)) ?_
    exact k
theorem v_is_number {i : Int} {H : Hp} : SpVal sp_is_number ([.int i] ++ []) H (.bl (decide (0 ≤ i))) := fun _ q _ => ⟨i, rfl, q⟩
def sp_is_below : Sp := fun vs H Q _ => ∃ i n : Int, vs = [.int i, .int n] ∧ Q (.bl (decide (0 ≤ i) && decide (i < n))) H
theorem ok_is_below (T : Txt K mg) : FnOk P w K mg base CX0 3 (He.ga K "is_below") T.fd_is_below ["value", "most"] sp_is_below := by
  refine T.F_is_below.ok sc_is_below (fun vs H Q E h => ?_) (fun cdv A outer s H vs Q E hr h => ?_)
  · obtain ⟨i, n, rfl, _⟩ := h; rfl
  · obtain ⟨i, n, rfl, k⟩ := h
    refine ⟨_, PSs.nox ((pss_one (ps_ret (pe_and (pe_call (ok_is_number T) (hr.mono (by decide)) rfl T.m_is_number T.F_is_number.kp (bi_is_number T) .nil pass0 (pa_cons (pv 0) pa_nil)) (pe_one (pe_cmpR op_lt (pv 0) (pv 1) (nomark _))))))), ?_⟩
    exact st_ret (val_andV (val_call (va_cons (val_var rfl) va_nil) v_is_number) (fun _ => val_bi (val_var rfl) (val_var rfl))) k
theorem v_is_below {i n : Int} {H : Hp} : SpVal sp_is_below ([.int i, .int n] ++ []) H (.bl (decide (0 ≤ i) && decide (i < n))) := fun _ q _ => ⟨i, n, rfl, q⟩
/-- a list or a tuple that stands in H -/
def sp_is_sequence : Sp := fun vs H Q _ => ∃ (a : Addr) (xs : List V), vs = [.ref a] ∧ (H a = some (.lst xs) ∨ H a = some (.tup xs)) ∧ ∀ H', Same H H' → Q (.bl true) H'
theorem ok_is_sequence (T : Txt K mg) : FnOk P w K mg base CX0 1 (He.ga K "is_sequence") T.fd_is_sequence ["value"] sp_is_sequence := by
  refine T.F_is_sequence.ok sc_is_sequence (fun vs H Q E h => ?_) (fun cdv A outer s H vs Q E hr h => ?_)
  · obtain ⟨a, xs, rfl, _⟩ := h; rfl
  · obtain ⟨a, xs, rfl, hx, k⟩ := h
    refine ⟨_, PSs.nox ((pss_one (ps_ret (pe_callB call_isiT (by rfl) T.z_isinstance (by decide +kernel) (pa_cons (pv 0) (pa_cons (pe_tup (pa_cons (pe_bltn (v := .ty "list") rfl T.z_list (by decide +kernel) rfl) (pa_cons (pe_bltn (v := .ty "tuple") rfl T.z_tuple (by decide +kernel) rfl) pa_nil))) pa_nil)))))), ?_⟩
    refine ⟨_, rfl, by decide, fun p hp => ?_⟩
    have hs : Same H (upd H p (.tup [.ty "list", .ty "tuple"])) := same_new hp
    rcases hx with hx | hx
    · exact ⟨_, p, _, _, _, true, rfl, upd_same, .cons (.ty _) (.cons (.ty _) .nil), .base (.lst (hs _ _ hx)), kitAny_cons (b := true) (kit_ty (by decide +kernel)) (fun q => nomatch q) (fun _ => rfl), k _ hs⟩
    · exact ⟨_, p, _, _, _, true, rfl, upd_same, .cons (.ty _) (.cons (.ty _) .nil), .base (.tup (hs _ _ hx)), kitAny_cons (b := false) (kit_ty (by decide +kernel)) (fun _ => kitAny_cons (b := true) (kit_ty (by decide +kernel)) (fun q => nomatch q) (fun _ => rfl)) (fun q => nomatch q), k _ hs⟩
def sp_is_end : Sp := fun vs H Q _ => ∃ (e : Option Int) (n : Int), vs = [eV e, .int n] ∧ (∀ i, e = some i → -1 ≤ i ∧ i < n) ∧ Q (.bl true) H
theorem ok_is_end (T : Txt K mg) : FnOk P w K mg base CX0 2 (He.ga K "is_end") T.fd_is_end ["value", "many"] sp_is_end := by
  refine T.F_is_end.ok sc_is_end (fun vs H Q E h => ?_) (fun cdv A outer s H vs Q E hr h => ?_)
  · obtain ⟨e, n, rfl, _⟩ := h; rfl
  · obtain ⟨e, n, rfl, he, k⟩ := h
    refine ⟨_, PSs.nox ((pss_one (ps_ret (pe_or (pe_cmpR op_isN (pv 0) pe_non (nomark _)) (pe_one (pe_and (pe_call (ok_is_integer T) (hr.mono (by decide)) rfl T.m_is_integer T.F_is_integer.kp (bi_is_integer T) .nil pass0 (pa_cons (pv 0) pa_nil)) (pe_one (pe_chain op_le op_lt (peI T.c_GONE rfl) (pv 0) (pv 1))))))))), ?_⟩
    cases e with
    | none =>
      refine st_ret (v := .bl true) ?_ k
      exact fun Q q => ⟨_, rfl, rfl, ⟨true, rfl, iteT q⟩⟩
    | some i =>
      obtain ⟨h1, h2⟩ := he i rfl
      refine st_ret (v := .bl true) ?_ k
      refine (val_orV (b := false) (b' := true) ((val_isN (val_var rfl)).to rfl) fun _ => ?_)
      refine (val_andV (b := true) (b' := true) (val_call (va_cons (val_var rfl) va_nil) v_is_integer) fun _ => ?_)
      intro Q q
      refine ⟨_, rfl, _, _, rfl, rfl, true, by show V.bl (decide (-1 ≤ i)) = _; rw [decide_eq_true h1], iteT ?_⟩
      exact ⟨_, rfl, _, _, rfl, rfl, by show Q (V.bl (decide (i < n))) _; rw [decide_eq_true h2]; exact q⟩
end
end FF
set_option maxHeartbeats 4000000
namespace FF
open PySem PySem.Spec PyProof.Rows L2
section
variable {P : Program} {w : World} {K : PySem.W.Frag} {mg : Str → Option Value} {base : Heap}
/-! ### ends_of, is_hand, met_end -/
def sp_ends_of (K : PySem.W.Frag) : Sp := fun vs H Q _ => ∃ (ra : Addr) (R : Rws) (n : Nat) (a b c : Int), vs = [.ref ra, .int a, .int b, .int c] ∧ RowsT K H ra R ∧ Wf R n ∧ Cm n a ∧ Cm n b ∧ Cm n c ∧
  ((ent R a b = none ∨ ent R b c = none) → Q .non H) ∧
  (∀ p q, ent R a b = some p → ent R b c = some q → ∀ t, H t = none → Q (.ref t) (upd H t (.tup [eV (metLI R p c), eV (metRI R a q)])))
theorem ok_ends_of (T : Txt K mg) : FnOk P w K mg base CX0 1 (He.ga K "ends_of") T.fd_ends_of ["rows", "one", "middle", "other"] (sp_ends_of K) := by
  refine T.F_ends_of.ok sc_ends_of (fun vs H Q E h => ?_) (fun cdv A outer s H vs Q E hr h => ?_)
  · obtain ⟨_, _, _, _, _, _, rfl, _⟩ := h; rfl
  · obtain ⟨ra, R, n, a, b, c, rfl, hR, w, ha, hb, hc, k1, k2⟩ := h
    refine ⟨_, PSs.nox ((pss_cons (ps_par (i := 4) (j := 5) rfl sc_ends_of.nd rfl rfl (by decide) rfl rfl (pa_cons (pe_ix (ixT (K := K) rfl) (pe_ix (ixT (K := K) rfl) (pv 0) (pv 1) (fun _ _ => rfl)) (pv 2) (fun _ _ => rfl)) (pa_cons (pe_ix (ixT (K := K) rfl) (pe_ix (ixT (K := K) rfl) (pv 0) (pv 2) (fun _ _ => rfl)) (pv 3) (fun _ _ => rfl)) pa_nil)) (by rfl))
        (pss_cons (ps_if (PW.pt (pw_or (pt_cmpR op_isN (pv 4) pe_non (nomark _)) (pw_or1 (pt_cmpR op_isN (pv 5) pe_non (nomark _)))))
          (pss_one (ps_ret pe_non))
          pss_nil)
        (pss_cons (ps_set (i := 6) sc_ends_of.nd rfl (Or.inl rfl) (pe_ifExp (pt_cmpR op_eq (pv 4) (peI T.c_GONE rfl) (nomark _)) (pv 3) (pe_ix (ixT (K := K) rfl) (pe_ix (ixT (K := K) rfl) (pv 0) (pv 4) (fun _ _ => rfl)) (pv 3) (fun _ _ => rfl))))
        (pss_cons (ps_set (i := 7) sc_ends_of.nd rfl (Or.inl rfl) (pe_ifExp (pt_cmpR op_eq (pv 5) (peI T.c_GONE rfl) (nomark _)) (pv 1) (pe_ix (ixT (K := K) rfl) (pe_ix (ixT (K := K) rfl) (pv 0) (pv 1) (fun _ _ => rfl)) (pv 5) (fun _ _ => rfl))))
        (pss_one (ps_ret (pe_tup (pa_cons (pv 6) (pa_cons (pv 7) pa_nil)))))))))), ?_⟩
    have e1 := fun (σ : L2.St) (h0 : σ[0]? = some (some (.ref ra))) (h1 : σ[1]? = some (some (.int a))) (h2 : σ[2]? = some (some (.int b))) => val_entT (σ := σ) hR w (val_var (i := 0) h0) (val_var (i := 1) h1) (val_var (i := 2) h2) ha hb
    have e2 := fun (σ : L2.St) (h0 : σ[0]? = some (some (.ref ra))) (h1 : σ[2]? = some (some (.int b))) (h2 : σ[3]? = some (some (.int c))) => val_entT (σ := σ) hR w (val_var (i := 0) h0) (val_var (i := 2) h1) (val_var (i := 3) h2) hb hc
    refine e1 _ rfl rfl rfl _ (e2 _ rfl rfl rfl _ ⟨_, _, rfl, ?_⟩)
    cases ep : ent R a b with
    | none =>
      refine st_yes (ans_or1 (a_isN (val_var rfl) rfl)) ?_
      exact st_ret val_c (k1 (.inl ep))
    | some p =>
      cases eq : ent R b c with
      | none =>
        refine st_yes (ans_or (a_isN (val_var rfl) rfl) (a_isN (val_var rfl) rfl)) ?_
        exact st_ret val_c (k1 (.inr eq))
      | some q =>
        refine st_no (ans_or (a_isN (val_var rfl) rfl) (a_isN (val_var rfl) rfl)) ?_
        have v1 : ∀ (σ : L2.St), σ[0]? = some (some (.ref ra)) → σ[3]? = some (some (.int c)) → σ[4]? = some (some (.int p)) → Val (tIf (tTest (tOp rEq (tVar 4) (tC (.int (-1))))) (tVar 3) (tOp (rIxT K) (tOp (rIxT K) (tVar 0) (tVar 4)) (tVar 3))) σ H (eV (metLI R p c)) := by
          intro σ h0 h3 h4
          unfold metLI
          by_cases hp : p = -1
          · rw [if_pos hp]
            exact val_ifT (a_eq (val_var h4) val_c rfl (by rw [hp] <;> rfl)) (val_var h3)
          · rw [if_neg hp]
            exact val_ifF (a_eq (val_var h4) val_c rfl (by simp [hp])) (val_entT hR w (val_var h0) (val_var h4) (val_var h3) (w.cm ha hb ep hp) hc)
        have v2 : ∀ (σ : L2.St), σ[0]? = some (some (.ref ra)) → σ[1]? = some (some (.int a)) → σ[5]? = some (some (.int q)) → Val (tIf (tTest (tOp rEq (tVar 5) (tC (.int (-1))))) (tVar 1) (tOp (rIxT K) (tOp (rIxT K) (tVar 0) (tVar 1)) (tVar 5))) σ H (eV (metRI R a q)) := by
          intro σ h0 h3 h4
          unfold metRI
          by_cases hp : q = -1
          · rw [if_pos hp]
            exact val_ifT (a_eq (val_var h4) val_c rfl (by rw [hp] <;> rfl)) (val_var h3)
          · rw [if_neg hp]
            exact val_ifF (a_eq (val_var h4) val_c rfl (by simp [hp])) (val_entT hR w (val_var h0) (val_var h3) (val_var h4) ha (w.cm hb hc eq hp))
        refine st_set (v1 _ rfl rfl rfl) ?_
        refine st_set (v2 _ rfl rfl rfl) ?_
        exact ⟨_, rfl, _, rfl, by show 2 ≤ sizeLine; decide, fun t ht => k2 p q ep eq t ht⟩
def sp_met_end (K : PySem.W.Frag) : Sp := fun vs H Q _ => ∃ (ra : Addr) (R : Rws) (n : Nat) (a b : Int), vs = [.ref ra, .int a, .int b] ∧ RowsT K H ra R ∧ Wf R n ∧ (a = -1 ∨ Cm n a) ∧ (b = -1 ∨ Cm n b) ∧
  Q (eV (if a = -1 then some b else metRI R a b)) H
theorem ok_met_end (T : Txt K mg) : FnOk P w K mg base CX0 1 (He.ga K "met_end") T.fd_met_end ["rows", "one", "other"] (sp_met_end K) := by
  refine T.F_met_end.ok sc_met_end (fun vs H Q E h => ?_) (fun cdv A outer s H vs Q E hr h => ?_)
  · obtain ⟨_, _, _, _, _, rfl, _⟩ := h; rfl
  · obtain ⟨ra, R, n, a, b, rfl, hR, w, ha, hb, k⟩ := h
    refine ⟨_, PSs.nox ((pss_cons (ps_if (pt_cmpR op_eq (pv 1) (peI T.c_GONE rfl) (nomark _))
          (pss_one (ps_ret (pv 2)))
          pss_nil)
        (pss_one (ps_ret (pe_ifExp (pt_cmpR op_eq (pv 2) (peI T.c_GONE rfl) (nomark _)) (pv 1) (pe_ix (ixT (K := K) rfl) (pe_ix (ixT (K := K) rfl) (pv 0) (pv 1) (fun _ _ => rfl)) (pv 2) (fun _ _ => rfl))))))), ?_⟩
    by_cases h1 : a = -1
    · rw [if_pos h1] at k
      refine st_yes (a_eq (val_var rfl) val_c rfl (by rw [h1] <;> rfl)) ?_
      exact st_ret (val_var rfl) k
    · rw [if_neg h1] at k
      refine st_no (a_eq (val_var rfl) val_c rfl (by simp [h1])) ?_
      unfold metRI at k
      by_cases h2 : b = -1
      · rw [if_pos h2] at k
        exact st_ret (val_ifT (a_eq (val_var rfl) val_c rfl (by rw [h2] <;> rfl)) (val_var rfl)) k
      · rw [if_neg h2] at k
        exact st_ret (val_ifF (a_eq (val_var rfl) val_c rfl (by simp [h2])) (val_entT hR w (val_var rfl) (val_var rfl) (val_var rfl) (ha.resolve_left h1) (hb.resolve_left h2))) k
end
end FF
set_option maxHeartbeats 4000000
namespace FF
open PySem PySem.Spec PyProof.Rows L2
section
variable {P : Program} {w : World} {K : PySem.W.Frag} {mg : Str → Option Value} {base : Heap}
/-! ### check_rows -/
def sp_check_rows (K : PySem.W.Frag) : Sp := fun vs H Q _ => ∃ (a : Addr) (rs : List Addr) (R : Rws) (n : Nat), vs = [.ref a] ∧ RowsL H a rs R ∧ Wf R n ∧
  ∀ (H' : Hp) (b : Addr) (ts : List V), Same H H' → RowsT K H' b R → H' b = some (.tup ts) → ts.length = n → Q (.ref b) H'
theorem ev_seqL {E : XK} {H : Hp} {σ : L2.St} {i : Nat} {a : Addr} {xs : List V} (h : σ[i]? = some (some (.ref a))) (ha : H a = some (.lst xs)) : EvT (tB (tCall sp_is_sequence [] E (tCons (tVar i) tNil))) σ H true :=
  evt_tB (evs_call (eva_of (va_cons (val_var h) va_nil)) fun H1 e Q q E => ⟨a, xs, rfl, .inl (e _ _ ha), fun H' e' => q H' e'⟩)
theorem ev_seqT {E : XK} {H : Hp} {σ : L2.St} {i : Nat} {a : Addr} {xs : List V} (h : σ[i]? = some (some (.ref a))) (ha : H a = some (.tup xs)) : EvT (tB (tCall sp_is_sequence [] E (tCons (tVar i) tNil))) σ H true :=
  evt_tB (evs_call (eva_of (va_cons (val_var h) va_nil)) fun H1 e Q q E => ⟨a, xs, rfl, .inr (e _ _ ha), fun H' e' => q H' e'⟩)
theorem rowsL_at {H : Hp} {a : Addr} {rs : List Addr} {R : Rws} (h : RowsL H a rs R) {i : Nat} {x : V} (hi : (rs.map V.ref)[i]? = some x) : ∃ r row, x = .ref r ∧ rs[i]? = some r ∧ R[i]? = some row ∧ H r = some (.lst (row.map eV)) := by
  rw [List.getElem?_map] at hi
  cases e : rs[i]? with
  | none => rw [e] at hi; cases hi
  | some r =>
    rw [e] at hi
    obtain ⟨row, h1, h2⟩ := pgetL h.row e
    exact ⟨r, row, (Option.some.inj hi).symm, rfl, h1, h2⟩
theorem ok_check_rows (T : Txt K mg) : FnOk P w K mg base CX0 3 (He.ga K "check_rows") T.fd_check_rows ["rows"] (sp_check_rows K) := by
  refine T.F_check_rows.ok sc_check_rows (fun vs H Q E h => ?_) (fun cdv A outer s H vs Q E hr h => ?_)
  · obtain ⟨_, _, _, _, rfl, _⟩ := h; rfl
  · obtain ⟨a, rs, R, n, rfl, hR, w, k⟩ := h
    refine ⟨_, PSs.nox ((pss_cons (ps_if (PW.pt (pw_or (pt_not (pt_val (pe_call (ok_is_sequence T) (hr.mono (by decide)) rfl T.m_is_sequence T.F_is_sequence.kp (bi_is_sequence T) .nil pass0 (pa_cons (pv 0) pa_nil)))) (pw_or1 (pt_not (pt_chain op_le op_le pe_int (pe_callB (lenQ (K := K) rfl) (by rfl) T.z_len boot_len (pa_cons (pv 0) pa_nil)) (peI T.c_MOST_COMMANDS rfl))))))
          pss_never
          pss_nil)
        (pss_cons (ps_for PassesOwn.never rfl (piE (K := K) rfl (by rfl) T.z_enumerate (pa_cons (pv 0) pa_nil)) (pgT (K := K) rfl rfl (pgs_cons (pg_name (i := 1) sc_check_rows.nd rfl (Or.inl rfl)) (pgs_cons (pg_name (i := 2) sc_check_rows.nd rfl (Or.inl rfl)) pgs_nil)))
          (pss_one (ps_if (PW.pt (pw_or (pt_not (pt_val (pe_call (ok_is_sequence T) (hr.mono (by decide)) rfl T.m_is_sequence T.F_is_sequence.kp (bi_is_sequence T) .nil pass0 (pa_cons (pv 2) pa_nil)))) (pw_or (pt_cmpR op_ne (pe_callB (lenQ (K := K) rfl) (by rfl) T.z_len boot_len (pa_cons (pv 2) pa_nil)) (pe_callB (lenQ (K := K) rfl) (by rfl) T.z_len boot_len (pa_cons (pv 0) pa_nil)) (nomark _)) (pw_or1 (pt_not (pt_val (pe_callB (allQ (K := K) rfl rfl) (by rfl) T.z_all (by decide +kernel) (pa_cons (pe_lc (own := [("end", 3)]) rfl sc_check_rows.nd (piL (K := K) rfl (pv 2)) (blkOk_by (N := ["rows", "at", "row", "end"]) (sc := defScope s_check_rows) (own := [("end", 3)]) (by decide +kernel)) (fun _ _ _ _ _ => (pg_name (i := 3) sc_check_rows.nd rfl (Or.inl rfl))) (fun _ _ _ _ _ => pts_nil) (fun _ _ _ _ _ => (pe_call (ok_is_end T) (hr.mono (by decide)) rfl T.m_is_end T.F_is_end.kp (bi_is_end T) .nil pass0 (pa_cons (pv 3) (pa_cons (pe_callB (lenQ (K := K) rfl) (by rfl) T.z_len boot_len (pa_cons (pv 0) pa_nil)) pa_nil))))) pa_nil))))))))
            pss_never
            pss_nil)))
        (pss_one (ps_ret (pe_callTy (T := "tuple") (tupleQ (K := K) rfl) (by rfl) T.z_tuple (by decide +kernel) (pa_cons (pe_lc (own := [("row", 2)]) rfl sc_check_rows.nd (piL (K := K) rfl (pv 0)) (blkOk_by (N := ["rows", "at", "row", "end"]) (sc := defScope s_check_rows) (own := [("row", 2)]) (by decide +kernel)) (fun _ _ _ _ _ => (pg_name (i := 2) sc_check_rows.nd rfl (Or.inl rfl))) (fun _ _ _ _ _ => pts_nil) (fun _ _ _ _ _ => (pe_callTy (T := "tuple") (tupleQ (K := K) rfl) (by rfl) T.z_tuple (by decide +kernel) (pa_cons (pv 2) pa_nil)))) pa_nil))))))), ?_⟩
    have hln : rs.length = n := by rw [plen hR.row, w.len]
    have hl0 : (rs.map V.ref).length = n := by rw [List.length_map, hln]
    have w1 := w.pos
    have w2 := w.le
    have lenR : ∀ {H' : Hp} {σ : L2.St} {i : Nat}, Same H H' → σ[i]? = some (some (.ref a)) → Val (tCB (rLenQ K) (tCons (tVar i) tNil)) σ H' (.int n) := fun e h => (val_lenS (val_var h) (.inl (SqL.of (e _ _ hR.top)))).to (by rw [hl0])
    refine sv_no ?_ fun H1 e1 => ?_
    · refine evt_or (b := false) (b' := false) (evt_not (b := true) (ev_seqL rfl hR.top)) fun _ H1 e => evt_not (b := true) ?_
      exact evt_of (ans_tst ((val_chain val_c (lenR e rfl) val_c).to (by
        have h1 : decide ((1 : Int) ≤ (n : Int)) = true := decide_eq_true (by omega)
        have h2 : decide ((n : Int) ≤ 12) = true := decide_eq_true (by omega)
        rw [h1, h2]; rfl)))
    · refine st_seq (st_forE (a := a) (xs := rs.map V.ref) (va_cons (val_var rfl) va_nil) (SqL.of (e1 _ _ hR.top)) (fun _ σ' H' => ∃ x1 x2, σ' = [some (.ref a), x1, x2, none] ∧ Same H H') ⟨_, _, rfl, e1⟩
        (fun i σ' H' _ ⟨_, _, _, e⟩ => SqL.of (e _ _ hR.top)) ?_ ?_)
      · rintro i x σ' H' t hi ⟨x1, x2, rfl, e⟩ ht
        obtain ⟨r, row, rfl, hr1, hr2, hr3⟩ := rowsL_at hR hi
        have e2 : Same H (upd H' t (.tup [.int (i : Int), .ref r])) := same_newT e ht
        refine ⟨t, _, rfl, SqT.of upd_same, rfl, _, _, rfl, _, _, rfl, rfl, ?_⟩
        have hrow : row ∈ R := List.mem_of_getElem? hr2
        have hlr : (row.map eV).length = n := by rw [List.length_map, w.row row hrow]
        refine sv_no ?_ fun H2 e3 => ⟨_, _, rfl, e2.trans e3⟩
        refine evt_or (b := false) (b' := false) (evt_not (b := true) (ev_seqL rfl (e2 _ _ hr3))) fun _ H2 e3 => ?_
        have e4 := e2.trans e3
        refine evt_or (b := false) (b' := false) (evt_of (a_ne ((val_lenS (val_var rfl) (.inl (SqL.of (e4 _ _ hr3)))).to (by rw [hlr])) (lenR e4 rfl) rfl (by simp))) fun _ H3 e5 => ?_
        have e6 := e4.trans e5
        refine evt_not (b := true) (evt_tB ?_)
        intro Q q
        refine x_cb1 (lc_L (fun _ => .bl true) (val_var rfl) (SqL.of (e6 _ _ hr3)) (by rw [hlr]; omega) (by intro _; rfl) ?_ ?_)
        · intro j y H4 hj e7
          rw [List.getElem?_map] at hj
          cases ey : row[j]? with
          | none => rw [ey] at hj; cases hj
          | some z =>
            rw [ey] at hj
            have ez : eV z = y := Option.some.inj hj
            subst ez
            refine evs_of (val_call (vs := [eV z, .int n]) (va_cons (val_var rfl) (va_cons (lenR (e6.trans e7) rfl) va_nil)) fun Q q E => ⟨z, n, rfl, fun i hi => ?_, q⟩)
            rw [hi] at ey
            exact w.ent row hrow i (List.mem_of_getElem? ey)
        · intro Dl H4 hD e7 h4
          refine ⟨Dl, List.replicate (row.map eV).length true, rfl, ?_, ?_⟩
          · rw [List.map_replicate]
            have eu : upto (row.map eV).length (fun _ => V.bl true) = List.replicate (row.map eV).length (V.bl true) := upto_eq (by rw [List.length_replicate]) (fun i y h => (List.eq_of_mem_replicate (List.mem_of_getElem? h)).symm)
            rw [← eu]
            exact SqL.of h4
          · have ea : (List.replicate (row.map eV).length true).all id = true := by rw [List.all_eq_true]; intro x hx; rw [List.eq_of_mem_replicate hx]; rfl
            rw [ea]
            exact q _ e7
      · rintro σ' H' ⟨x1, x2, rfl, e⟩
        refine x_ret (x_cb1 (lc_nL (fun i => .tup ((R.getD i []).map eV)) (val_var rfl) (SqL.of (e _ _ hR.top)) (by omega) (by intro _; rfl) ?_ ?_))
        · intro i x H2 hi e2
          obtain ⟨r, row, rfl, hr1, hr2, hr3⟩ := rowsL_at hR hi
          intro Q q
          have e3 := e.trans e2
          refine ⟨_, rfl, r, _, rfl, .inl ⟨SqL.of (e3 _ _ hr3), fun t ht => ?_⟩⟩
          refine q t _ ht (same_new ht) ?_
          rw [List.getD_eq_getElem?_getD, hr2]
          exact upd_same
        · intro Dl ts H2 p
          refine ⟨Dl, _, rfl, .inl ⟨SqL.of p.lst, fun t ht => ?_⟩⟩
          have e3 : Same H2 (upd H2 t (.tup (ts.map V.ref))) := same_new ht
          have hlt : ts.length = n := by rw [p.len, hl0]
          refine k _ t (ts.map V.ref) (e.trans (p.same.trans e3)) ⟨ts, SqT.of upd_same, paired_of (by rw [hlt, w.len]) fun i u row hu hrow => ?_⟩ upd_same (by rw [List.length_map, hlt])
          have q := p.obj i u hu
          rw [List.getD_eq_getElem?_getD, hrow] at q
          exact SqT.of (e3 _ _ q)
end
end FF
set_option maxHeartbeats 4000000
namespace FF
open PySem PySem.Spec PyProof.Rows L2
section
variable {P : Program} {w : World} {K : PySem.W.Frag} {mg : Str → Option Value} {base : Heap}
/-! ### unsound_three, Merger -/
def sp_unsound_three (K : PySem.W.Frag) : Sp := fun vs H Q _ => ∃ (ra : Addr) (ts : List V) (R : Rws) (n : Nat), vs = [.ref ra] ∧ RowsT K H ra R ∧ H ra = some (.tup ts) ∧ ts.length = n ∧ Wf R n ∧ SoundR R n ∧ ∀ H', Same H H' → Q .non H'
theorem ok_unsound_three (T : Txt K mg) : FnOk P w K mg base CX0 2 (He.ga K "unsound_three") T.fd_unsound_three ["rows"] (sp_unsound_three K) := by
  refine T.F_unsound_three.ok sc_unsound_three (fun vs H Q E h => ?_) (fun cdv A outer s H vs Q E hr h => ?_)
  · obtain ⟨_, _, _, _, rfl, _⟩ := h; rfl
  · obtain ⟨ra, ts, R, n, rfl, hR, ht, hl, w, hs, k⟩ := h
    refine ⟨_, PSs.nox ((pss_cons (ps_set (i := 1) sc_unsound_three.nd rfl (Or.inl rfl) (pe_listRg rfl (by rfl) T.z_list (prg_1 (by rfl) T.z_range (pe_callB (lenQ (K := K) rfl) (by rfl) T.z_len boot_len (pa_cons (pv 0) pa_nil)))))
        (pss_cons (ps_for PassesOwn.never rfl (piL (K := K) rfl (pv 1)) (pg_name (i := 2) sc_unsound_three.nd rfl (Or.inl rfl))
          (pss_one (ps_for PassesOwn.never rfl (piL (K := K) rfl (pv 1)) (pg_name (i := 3) sc_unsound_three.nd rfl (Or.inl rfl))
            (pss_one (ps_for PassesOwn.never rfl (piL (K := K) rfl (pv 1)) (pg_name (i := 4) sc_unsound_three.nd rfl (Or.inl rfl))
              (pss_cons (ps_set (i := 5) sc_unsound_three.nd rfl (Or.inl rfl) (pe_call (ok_ends_of T) (hr.mono (by decide)) rfl T.m_ends_of T.F_ends_of.kp (bi_ends_of T) .nil pass0 (pa_cons (pv 0) (pa_cons (pv 2) (pa_cons (pv 3) (pa_cons (pv 4) pa_nil))))))
              (pss_one (ps_if (PW.pt (pw_and (pt_cmpR op_notN (pv 5) pe_non (nomark _)) (pw_and1 (pt_cmpR op_ne (pe_ix (ixT (K := K) rfl) (pv 5) pe_int (fun _ _ => rfl)) (pe_ix (ixT (K := K) rfl) (pv 5) pe_int (fun _ _ => rfl)) (nomark _)))))
                (pss_one (ps_ret (pe_tup (pa_cons (pv 2) (pa_cons (pv 3) (pa_cons (pv 4) pa_nil))))))
                pss_nil))))))))
        (pss_one (ps_ret pe_non))))), ?_⟩
    have w2 := w.le
    refine st_seq (x_set ?_)
    refine (val_lenS (val_var rfl) (.inr (SqT.of ht))) _ ?_
    rw [hl]
    refine ⟨_, rfl, ⟨by omega, by omega, by omega, by omega, by omega⟩, fun c hc => ?_⟩
    have e0 : Same H (upd H c (.lst (rgV 0 (n : Int)))) := same_new hc
    -- the three loops
    refine st_seq (st_forL (a := c) (xs := rgV 0 (n : Int)) (val_var rfl) (SqL.of upd_same) (fun _ σ' H' => ∃ x2 x3 x4 x5, σ' = [some (.ref ra), some (.ref c), x2, x3, x4, x5] ∧ Same (upd H c (.lst (rgV 0 (n : Int)))) H') ⟨_, _, _, _, rfl, Same.refl _⟩
      (fun i σ' H' _ ⟨_, _, _, _, _, e⟩ => SqL.of (e _ _ upd_same)) ?_ ?_)
    · rintro i x σ' H' hi ⟨x2, x3, x4, x5, rfl, e1⟩
      obtain ⟨rfl, hi2⟩ := rg_get hi
      refine st_forL (a := c) (xs := rgV 0 (n : Int)) (val_var rfl) (SqL.of (e1 _ _ upd_same)) (fun _ σ' H' => ∃ x3 x4 x5, σ' = [some (.ref ra), some (.ref c), some (.int (i : Int)), x3, x4, x5] ∧ Same (upd H c (.lst (rgV 0 (n : Int)))) H') ⟨_, _, _, rfl, e1⟩
        (fun i σ' H' _ ⟨_, _, _, _, e⟩ => SqL.of (e _ _ upd_same)) ?_ (fun σ' H' ⟨_, _, _, e, e'⟩ => ⟨_, _, _, _, e, e'⟩)
      rintro j x σ' H' hj ⟨x3, x4, x5, rfl, e2⟩
      obtain ⟨rfl, hj2⟩ := rg_get hj
      refine st_forL (a := c) (xs := rgV 0 (n : Int)) (val_var rfl) (SqL.of (e2 _ _ upd_same)) (fun _ σ' H' => ∃ x4 x5, σ' = [some (.ref ra), some (.ref c), some (.int (i : Int)), some (.int (j : Int)), x4, x5] ∧ Same (upd H c (.lst (rgV 0 (n : Int)))) H') ⟨_, _, rfl, e2⟩
        (fun i σ' H' _ ⟨_, _, _, e⟩ => SqL.of (e _ _ upd_same)) ?_ (fun σ' H' ⟨_, _, e, e'⟩ => ⟨_, _, _, e, e'⟩)
      rintro l x σ' H' hl ⟨x4, x5, rfl, e3⟩
      obtain ⟨rfl, hl2⟩ := rg_get hl
      have e4 := e0.trans e3
      have ci : Cm n (i : Int) := ⟨by omega, hi2⟩
      have cj : Cm n (j : Int) := ⟨by omega, hj2⟩
      have cl : Cm n (l : Int) := ⟨by omega, hl2⟩
      refine st_seq (x_set (x_call ?_))
      refine (va_cons (val_var rfl) (va_cons (val_var rfl) (va_cons (val_var rfl) (va_cons (val_var rfl) va_nil)))) _ ?_
      refine ⟨ra, R, n, i, j, l, rfl, hR.same e4, w, ci, cj, cl, fun hn => ?_, fun p q ep eq t ht => ?_⟩
      · refine st_no (ans_and0 (a_notN (val_var rfl) rfl)) ?_
        exact ⟨_, _, rfl, e3⟩
      · have es := hs _ _ _ p q ci cj cl ep eq
        refine st_no (ans_and (a_notN (val_var rfl) rfl) (b := false) ?_) ⟨_, _, rfl, e3.trans (same_new ht)⟩
        have h0 : SqT K (upd H' t (.tup [eV (metLI R p (l : Int)), eV (metRI R (i : Int) q)])) t _ := SqT.of upd_same
        rw [es]
        rw [es] at h0
        exact a_ne (val_ixT (val_var rfl) val_c h0 rfl) (val_ixT (val_var rfl) val_c h0 rfl) (by cases metRI R (i : Int) q <;> rfl) (by simp)
    · rintro σ' H' ⟨x2, x3, x4, x5, rfl, e1⟩
      dsimp only
      refine st_ret val_c ?_
      exact k _ (e0.trans e1)
/-! ### a Merger in the heap -/
theorem cr_ : ¬ (("commands" : Str) = "rows") := by decide +kernel
theorem rc_ : ¬ (("rows" : Str) = "commands") := by decide +kernel
def mf (n : Nat) (ra : Addr) : List (Str × V) := putF "rows" (.ref ra) (putF "commands" (.int n) [])
theorem mf_eq (n : Nat) (ra : Addr) : mf n ra = ([("commands", V.int n), ("rows", V.ref ra)] : List (Str × V)) := by
  show (if ("commands" : Str) = "rows" then [(("commands" : Str), V.ref ra)] else (("commands" : Str), V.int n) :: putF "rows" (V.ref ra) []) = ([("commands", V.int n), ("rows", V.ref ra)] : List (Str × V))
  rw [if_neg cr_]
  all_goals rfl
theorem mf_commands (n : Nat) (ra : Addr) : (mf n ra).lookup ("commands" : Str) = some (.int n) := by
  unfold mf
  rw [lookup_putF, if_neg cr_, lookup_putF, if_pos rfl]
theorem mf_rows (n : Nat) (ra : Addr) : (mf n ra).lookup ("rows" : Str) = some (.ref ra) := by
  unfold mf
  rw [lookup_putF, if_pos rfl]
/-- a merger stands at p -/
structure MerAt (K : PySem.W.Frag) (H : Hp) (p : Addr) (R : Rws) (n : Nat) (ra : Addr) : Prop where
  ins : ∃ dx, H p = some (.ins (He.ga K "Merger") dx (mf n ra))
  rows : RowsT K H ra R
  tup : ∃ ts, H ra = some (.tup ts) ∧ ts.length = n
  wf : Wf R n
  sound : SoundR R n
theorem MerAt.same {K : PySem.W.Frag} {H H' : Hp} {p ra : Addr} {R : Rws} {n : Nat} (h : MerAt K H p R n ra) (e : Same H H') : MerAt K H' p R n ra := by
  obtain ⟨⟨dx, h1⟩, h2, ⟨ts, h3, h4⟩, h5, h6⟩ := h
  exact ⟨⟨dx, e _ _ h1⟩, h2.same e, ⟨ts, e _ _ h3, h4⟩, h5, h6⟩
theorem MerAt.samex {K : PySem.W.Frag} {b : Addr} {H H' : Hp} {p ra : Addr} {R : Rws} {n : Nat} {ys : List V} (h : MerAt K H p R n ra) (e : SameX b H H') (hb : H b = some (.lst ys)) : MerAt K H' p R n ra := by
  obtain ⟨⟨dx, h1⟩, h2, ⟨ts, h3, h4⟩, h5, h6⟩ := h
  exact ⟨⟨dx, e _ _ (ne_of h1 hb (by intro q; cases q)) h1⟩, h2.samex e hb, ⟨ts, e _ _ (ne_of h3 hb (by intro q; cases q)) h3, h4⟩, h5, h6⟩
theorem val_rows (T : Txt K mg) {H : Hp} {p ra : Addr} {R : Rws} {n : Nat} {σ : L2.St} {ta : TE} (h : MerAt K H p R n ra) (ha : Val ta σ H (.ref p)) : Val (tFld K ta "rows") σ H (.ref ra) := by
  obtain ⟨dx, h1⟩ := h.ins
  exact val_fld ha h1 T.cl_Merger T.na_Merger_rows (mf_rows n ra)
theorem val_cmds (T : Txt K mg) {H : Hp} {p ra : Addr} {R : Rws} {n : Nat} {σ : L2.St} {ta : TE} (h : MerAt K H p R n ra) (ha : Val ta σ H (.ref p)) : Val (tFld K ta "commands") σ H (.int n) := by
  obtain ⟨dx, h1⟩ := h.ins
  exact val_fld ha h1 T.cl_Merger T.na_Merger_commands (mf_commands n ra)
def sp_Merger_init (K : PySem.W.Frag) : Sp := fun vs H Q _ => ∃ (p dx a : Addr) (rs : List Addr) (R : Rws) (n : Nat), vs = [.ref p, .ref a] ∧ H p = some (.ins (He.ga K "Merger") dx []) ∧ RowsL H a rs R ∧ Wf R n ∧ SoundR R n ∧
  ∀ (H' : Hp) (ra : Addr), SameX p H H' → MerAt K H' p R n ra → Q .non H'
theorem ok_Merger_init (T : Txt K mg) : FnOk P w K mg base CX0 4 (He.ma K (He.ga K "Merger") "__init__") T.fd_Merger_init ["self", "rows"] (sp_Merger_init K) := by
  refine T.F_Merger_init.ok sc_Merger_init (fun vs H Q E h => ?_) (fun cdv A outer s H vs Q E hr h => ?_)
  · obtain ⟨_, _, _, _, _, _, rfl, _⟩ := h; rfl
  · obtain ⟨p, dx, a, rs, R, n, rfl, hp, hR, w, hs, k⟩ := h
    refine ⟨_, PSs.nox ((pss_cons (ps_set (i := 2) sc_Merger_init.nd rfl (Or.inl rfl) (pe_call (ok_check_rows T) (hr.mono (by decide)) rfl T.m_check_rows T.F_check_rows.kp (bi_check_rows T) .nil pass0 (pa_cons (pv 1) pa_nil)))
        (pss_cons (ps_set (i := 3) sc_Merger_init.nd rfl (Or.inl rfl) (pe_call (ok_unsound_three T) (hr.mono (by decide)) rfl T.m_unsound_three T.F_unsound_three.kp (bi_unsound_three T) .nil pass0 (pa_cons (pv 2) pa_nil)))
        (pss_cons (ps_if (pt_cmpR op_notN (pv 3) pe_non (nomark _))
          pss_never
          pss_nil)
        (pss_cons (sfldQ (K := K) rfl (pv 0) (pe_callB (lenQ (K := K) rfl) (by rfl) T.z_len boot_len (pa_cons (pv 2) pa_nil)) rfl)
        (pss_one (sfldQ (K := K) rfl (pv 0) (pv 2) rfl))))))), ?_⟩
    refine st_seq (x_set (x_call ?_))
    refine (va_cons (val_var rfl) va_nil) _ ?_
    refine ⟨a, rs, R, n, rfl, hR, w, fun H1 ra ts e1 hT ht hl => ?_⟩
    dsimp only
    refine st_seq (x_set (x_call ?_))
    refine (va_cons (val_var rfl) va_nil) _ ?_
    refine ⟨ra, ts, R, n, rfl, hT, ht, hl, w, hs, fun H2 e2 => ?_⟩
    dsimp only
    refine st_seq (st_no (a_notN (val_var rfl) rfl) ?_)
    have e3 := e1.trans e2
    have ht2 := e2 _ _ ht
    have hp2 := e3 _ _ hp
    refine st_seq (st_fld ((val_lenS (val_var rfl) (.inr (SqT.of ht2))).to (by rw [hl])) (val_var rfl) hp2 T.cl_Merger T.na_Merger_commands (by show 0 < 1000; decide) ?_)
    refine st_fld (val_var rfl) (val_var rfl) upd_same T.cl_Merger T.na_Merger_rows (by show 1 < 1000; decide) ?_
    have hne : ra ≠ p := ne_of ht2 hp2 (by intro q; cases q)
    have ex : SameX p H2 (upd (upd H2 p (.ins (He.ga K "Merger") dx (putF "commands" (.int n) []))) p (.ins (He.ga K "Merger") dx (putF "rows" (.ref ra) (putF "commands" (.int n) [])))) := fun b o hb q => by rw [upd_ne hb, upd_ne hb]; exact q
    refine k _ ra (ex.after e3) ⟨⟨dx, upd_same⟩, ?_, ⟨ts, ex _ _ hne ht2, hl⟩, w, hs⟩
    obtain ⟨rs', h1, h2⟩ := hT.same e2
    have key : ∀ {b : Addr} {xs : List V}, SqT K H2 b xs → SqT K (upd (upd H2 p (.ins (He.ga K "Merger") dx (putF "commands" (.int n) []))) p (.ins (He.ga K "Merger") dx (putF "rows" (.ref ra) (putF "commands" (.int n) [])))) b xs := by
      intro b xs q
      rcases q with (q | ⟨o, q⟩) | q
      · exact .inl (.inl (ex _ _ (ne_of q hp2 (by intro z; cases z)) q))
      · exact .inl (.inr ⟨o, ex _ _ (ne_of q hp2 (by intro z; cases z)) q⟩)
      · exact .inr q
    exact ⟨rs', key h1, pmap h2 fun _ _ q => key q⟩
/-- Merger(rows): the new one -/
theorem mk_same {H H' : Hp} {x dx C : Addr} (nx : H x = none) (nd : H dx = none) (e : SameX x (upd (upd H dx (.own x)) x (.ins C dx [])) H') : Same H H' := fun b o q => by
  have hb : b ≠ x := ne_of_none q nx
  exact e b o hb (by rw [upd_ne hb, upd_ne (ne_of_none q nd)]; exact q)
end
end FF
set_option maxHeartbeats 4000000
namespace FF
open PySem PySem.Spec PyProof.Rows L2
section
variable {P : Program} {w : World} {K : PySem.W.Frag} {mg : Str → Option Value} {base : Heap}
/-! ### check_queue, mirror_merger -/
def sp_check_queue (K : PySem.W.Frag) : Sp := fun vs H Q _ => ∃ (p a ra : Addr) (R : Rws) (n : Nat) (q : List Int), vs = [.ref p, .ref a] ∧ MerAt K H p R n ra ∧ H a = some (.tup (iq q)) ∧ QOk n q ∧ q.length ≤ 10000 ∧ ∀ H', Same H H' → Q (.ref a) H'
theorem ok_check_queue (T : Txt K mg) : FnOk P w K mg base CX0 4 (He.ga K "check_queue") T.fd_check_queue ["merger", "value"] (sp_check_queue K) := by
  refine T.F_check_queue.ok sc_check_queue (fun vs H Q E h => ?_) (fun cdv A outer s H vs Q E hr h => ?_)
  · obtain ⟨_, _, _, _, _, _, rfl, _⟩ := h; rfl
  · obtain ⟨p, a, ra, R, n, q, rfl, hM, ha, hq, hl, k⟩ := h
    refine ⟨_, PSs.nox ((pss_cons (ps_if (PW.pt (pw_or (pt_not (pt_val (pe_call (ok_is_sequence T) (hr.mono (by decide)) rfl T.m_is_sequence T.F_is_sequence.kp (bi_is_sequence T) .nil pass0 (pa_cons (pv 1) pa_nil)))) (pw_or1 (pt_cmpR op_gt (pe_callB (lenQ (K := K) rfl) (by rfl) T.z_len boot_len (pa_cons (pv 1) pa_nil)) (peI T.c_MOST_QUEUE rfl) (nomark _)))))
          pss_never
          pss_nil)
        (pss_cons (ps_for PassesOwn.never rfl (piET (K := K) rfl (by rfl) T.z_enumerate (pa_cons (pv 1) pa_nil)) (pgT (K := K) rfl rfl (pgs_cons (pg_name (i := 2) sc_check_queue.nd rfl (Or.inl rfl)) (pgs_cons (pg_name (i := 3) sc_check_queue.nd rfl (Or.inl rfl)) pgs_nil)))
          (pss_one (ps_if (pt_not (pt_val (pe_call (ok_is_below T) (hr.mono (by decide)) rfl T.m_is_below T.F_is_below.kp (bi_is_below T) .nil pass0 (pa_cons (pv 3) (pa_cons (fldQ (K := K) rfl (pv 0) rfl) pa_nil)))))
            pss_never
            pss_nil)))
        (pss_one (ps_ret (pe_callTy (T := "tuple") (tupleQ (K := K) rfl) (by rfl) T.z_tuple (by decide +kernel) (pa_cons (pv 1) pa_nil))))))), ?_⟩
    have hlq : (iq q).length = q.length := List.length_map ..
    refine sv_no (evt_or (b := false) (b' := false) (evt_not (b := true) (ev_seqT rfl ha)) fun _ H1 e => ?_) fun H1 e1 => ?_
    · exact evt_of (a_bi (i := (q.length : Int)) (j := 10000) ((val_lenS (val_var rfl) (.inr (SqT.of (e _ _ ha)))).to (by rw [hlq])) val_c (decide_eq_false (by omega)))
    · refine st_seq (st_forET (a := a) (xs := iq q) (va_cons (val_var rfl) va_nil) (SqT.of (e1 _ _ ha)) (fun _ σ' H' => ∃ x1 x2, σ' = [some (.ref p), some (.ref a), x1, x2] ∧ Same H H') ⟨_, _, rfl, e1⟩
        (fun i σ' H' _ ⟨_, _, _, e⟩ => SqT.of (e _ _ ha)) ?_ ?_)
      · rintro i x σ' H' t hi ⟨x1, x2, rfl, e⟩ ht
        rw [List.getElem?_map] at hi
        obtain ⟨z, hz1, hz2⟩ := Option.map_eq_some_iff.mp hi
        subst hz2
        have e2 : Same H (upd H' t (.tup [.int (i : Int), .int z])) := same_newT e ht
        refine ⟨t, _, rfl, SqT.of upd_same, rfl, _, _, rfl, _, _, rfl, rfl, ?_⟩
        obtain ⟨c1, c2⟩ := hq z (List.mem_of_getElem? hz1)
        refine st_no (ans_not (b := true) (ans_tB ?_)) ⟨_, _, rfl, e2⟩
        refine (val_call (vs := [.int z, .int n]) (va_cons (val_var rfl) (va_cons (val_cmds T (hM.same e2) (val_var rfl)) va_nil)) v_is_below).to ?_
        rw [decide_eq_true c1, decide_eq_true c2]
        rfl
      · rintro σ' H' ⟨x1, x2, rfl, e⟩
        exact ⟨_, rfl, a, _, rfl, .inr ⟨SqT.of (e _ _ ha), k _ e⟩⟩
/-- the mirror's rows -/
def mir (R : Rws) (n : Nat) : Rws := (List.range n).map fun (i : Nat) => (List.range n).map fun (j : Nat) => ent R (j : Int) (i : Int)
theorem mir_get {R : Rws} {n i : Nat} (h : i < n) : (mir R n)[i]? = some ((List.range n).map fun (j : Nat) => ent R (j : Int) (i : Int)) := by
  unfold mir
  rw [List.getElem?_map, List.getElem?_range h]
  rfl
theorem mir_ent {R : Rws} {n : Nat} {x y : Int} (hx : Cm n x) (hy : Cm n y) : ent (mir R n) x y = ent R y x := by
  have h1 : x.toNat < n := by have := hx.1; have := hx.2; omega
  have h2 : y.toNat < n := by have := hy.1; have := hy.2; omega
  have e1 : ((y.toNat : Nat) : Int) = y := Int.toNat_of_nonneg hy.1
  have e2 : ((x.toNat : Nat) : Int) = x := Int.toNat_of_nonneg hx.1
  have q : (mir R n).getD x.toNat [] = (List.range n).map fun (j : Nat) => ent R (j : Int) ((x.toNat : Nat) : Int) := by
    rw [List.getD_eq_getElem?_getD, mir_get h1]
    rfl
  show ((mir R n).getD x.toNat []).getD y.toNat none = _
  rw [q, List.getD_eq_getElem?_getD, List.getElem?_map, List.getElem?_range h2]
  show ent R ((y.toNat : Nat) : Int) ((x.toNat : Nat) : Int) = _
  rw [e1, e2]
theorem mir_wf {R : Rws} {n : Nat} (w : Wf R n) : Wf (mir R n) n := by
  refine ⟨by unfold mir; rw [List.length_map, List.length_range], fun r hr => ?_, fun r hr i hi => ?_, w.pos, w.le⟩
  · unfold mir at hr
    obtain ⟨j, _, rfl⟩ := List.mem_map.mp hr
    rw [List.length_map, List.length_range]
  · unfold mir at hr
    obtain ⟨j, hj, rfl⟩ := List.mem_map.mp hr
    obtain ⟨l, hl, e⟩ := List.mem_map.mp hi
    have h1 := List.mem_range.mp hj
    have h2 := List.mem_range.mp hl
    exact w.bd ⟨by omega, by omega⟩ ⟨by omega, by omega⟩ e
theorem mir_sound {R : Rws} {n : Nat} (w : Wf R n) (s : SoundR R n) : SoundR (mir R n) n := by
  intro a b c p q ha hb hc h1 h2
  rw [mir_ent ha hb] at h1
  rw [mir_ent hb hc] at h2
  have q1 := s c b a q p hc hb ha h2 h1
  have e1 : metLI (mir R n) p c = metRI R c p := by
    unfold metLI metRI
    by_cases e : p = -1
    · rw [if_pos e, if_pos e]
    · rw [if_neg e, if_neg e, mir_ent ((w.gc hb ha h1).resolve_left e) hc]
  have e2 : metRI (mir R n) a q = metLI R q a := by
    unfold metLI metRI
    by_cases e : q = -1
    · rw [if_pos e, if_pos e]
    · rw [if_neg e, if_neg e, mir_ent ha ((w.gc hc hb h2).resolve_left e)]
  rw [e1, e2, q1]
/-- the scope of the outer comprehension, as it runs within the def -/
abbrev scn_mirror_merger : Scope := { kind := .function, names := [(".0", .local), ("command", .cell), ("merger", .cell)], isGenerator := false, isCoroutine := false }
def sp_mirror_merger (K : PySem.W.Frag) : Sp := fun vs H Q _ => ∃ (p ra : Addr) (R : Rws) (n : Nat), vs = [.ref p] ∧ MerAt K H p R n ra ∧ ∀ (H' : Hp) (p' ra' : Addr), Same H H' → MerAt K H' p' (mir R n) n ra' → Q (.ref p') H'
theorem ok_mirror_merger (T : Txt K mg) : FnOk P w K mg base CX0 6 (He.ga K "mirror_merger") T.fd_mirror_merger ["merger"] (sp_mirror_merger K) := by
  refine T.F_mirror_merger.ok sc_mirror_merger (fun vs H Q E h => ?_) (fun cdv A outer s H vs Q E hr h => ?_)
  · obtain ⟨_, _, _, _, rfl, _⟩ := h; rfl
  · obtain ⟨p, ra, R, n, rfl, hM, k⟩ := h
    refine ⟨_, PSs.nox ((pss_one (ps_ret (pe_make T.mk_Merger (ok_Merger_init T) (hr.mono (by decide)) rfl T.mC_Merger (bi_Merger_init T) .nil pass0 (pa_cons (pe_lc (own := [("command", 1)]) rfl sc_mirror_merger.nd (pi_range1 (by rfl) T.z_range (pa_cons (fldQ (K := K) rfl (pv 0) rfl) pa_nil)) (blkOk_by (N := ["merger", "command", "row"]) (sc := defScope s_mirror_merger) (own := [("command", 1)]) (by decide +kernel)) (fun _ _ _ _ _ => (pg_name (i := 1) sc_mirror_merger.nd rfl (Or.inr rfl))) (fun _ _ _ _ _ => pts_nil) (fun _ _ _ _ _ => (pe_lc (own := [("row", 2)]) rfl sc_mirror_merger.nd (piT (K := K) rfl (fldQ (K := K) rfl (pv 0) rfl)) (blkOk_by (N := ["merger", "command", "row"]) (sc := scn_mirror_merger) (own := [("row", 2)]) (by decide +kernel)) (fun _ _ _ _ _ => (pg_name (i := 2) sc_mirror_merger.nd rfl (Or.inl rfl))) (fun _ _ _ _ _ => pts_nil) (fun _ _ _ _ _ => (pe_ix (ixT (K := K) rfl) (pv 2) (pv 1) (fun _ _ => rfl)))))) pa_nil))))), ?_⟩
    have w2 := hM.wf.le
    have w1 := hM.wf.pos
    obtain ⟨rs, r1, r2⟩ := hM.rows
    have hlr : rs.length = n := by rw [plen r2, hM.wf.len]
    refine x_ret (x_make (x_cons (lc_nR (n := (n : Int)) (fun i => .lst ((List.range n).map fun (j : Nat) => eV (ent R (j : Int) (i : Int)))) (va_cons (val_cmds T hM (val_var rfl)) va_nil) (by omega) (by omega) (by intro _; rfl) ?_ ?_)))
    · intro i H1 hi e1 Q q
      refine lc_T (xs := rs.map V.ref) (fun j => eV (ent R (j : Int) (i : Int))) (val_rows T (hM.same e1) (val_var rfl)) (e1.t r1) (by rw [List.length_map]; omega) (by intro _; rfl) ?_ ?_
      · intro j x H2 hj e2
        rw [List.getElem?_map] at hj
        obtain ⟨r, hr, rfl⟩ := Option.map_eq_some_iff.mp hj
        obtain ⟨row, h1, h2⟩ := pgetL r2 hr
        have hjn : j < n := by rw [← hlr]; exact (List.getElem?_eq_some_iff.mp hr).1
        refine evs_of (val_ixT (val_var rfl) (val_var rfl) ((e1.trans e2).t h2) (row_at (x := (j : Int)) (y := (i : Int)) hM.wf ⟨by omega, by omega⟩ ⟨by omega, by omega⟩ (by simpa using h1)))
      · intro Dl H2 hD e2 h2
        refine q Dl H2 hD e2 ?_
        rw [h2, List.length_map, hlr]
        rfl
    · intro Dl ts H1 p x dx nx nd ndx
      have e2 : Same H1 (upd (upd H1 dx (.own x)) x (.ins (He.ga K "Merger") dx [])) := fun b o q => by
        rw [upd_ne (ne_of_none q nx), upd_ne (ne_of_none q nd)]
        exact q
      refine ⟨x, dx, Dl, ts, mir R n, n, rfl, upd_same, ?_, mir_wf hM.wf, mir_sound hM.wf hM.sound, fun H2 ra2 e3 h2 => ⟨rfl, k _ _ _ (p.same.trans (mk_same nx nd e3)) h2⟩⟩
      refine RowsL.same ⟨p.lst, ?_⟩ e2
      have hlt : ts.length = n := by rw [p.len]; omega
      refine paired_of (by rw [hlt, (mir_wf hM.wf).len]) fun i t row ht hrow => ?_
      rw [p.obj i t ht]
      have hin : i < n := by rw [← hlt]; exact (List.getElem?_eq_some_iff.mp ht).1
      rw [mir_get hin] at hrow
      rw [← Option.some.inj hrow, List.map_map]
      rfl
end
end FF
set_option maxHeartbeats 4000000
namespace FF
open PySem PySem.Spec PyProof.Rows L2
section
variable {P : Program} {w : World} {K : PySem.W.Frag} {mg : Str → Option Value} {base : Heap}
/-! ### the plain way -/
def sp_press_last (K : PySem.W.Frag) : Sp := fun vs H Q _ => ∃ (ra pl : Addr) (R : Rws) (n : Nat) (S : List Int) (x : Int), vs = [.ref ra, .ref pl, .int x] ∧ RowsT K H ra R ∧ Wf R n ∧ H pl = some (.lst (iq S.reverse)) ∧ QOk n S ∧ Cm n x ∧ Mt.FoldS (mm R n) S ∧ S.length ≤ 10000 ∧
  ∀ k : Nat, k + (Mt.push (mm R n) S x).length ≤ S.length + 1 → Q (.int (k : Int)) (upd H pl (.lst (iq (Mt.push (mm R n) S x).reverse)))
theorem rowsT_upd {K : PySem.W.Frag} {H : Hp} {ra pl : Addr} {R : Rws} {ys zs : List V} (h : RowsT K H ra R) (hp : H pl = some (.lst ys)) : RowsT K (upd H pl (.lst zs)) ra R := h.samex samex_upd hp
theorem qok_push {R : Rws} {n : Nat} (w : Wf R n) : ∀ {S : List Int} {x : Int}, QOk n S → Cm n x → QOk n (Mt.push (mm R n) S x)
  | [], x, _, hx => fun y hy => by rw [List.mem_singleton.mp hy]; exact hx
  | t :: S, x, hS, hx => by
    cases e : mm R n t x with
    | none =>
      rw [Mt.push_no e]
      intro y hy
      rcases List.mem_cons.mp hy with q | q
      · rw [q]; exact hx
      · exact hS y q
    | some z =>
      have hS' : QOk n S := fun y hy => hS y (List.mem_cons_of_mem _ hy)
      cases z with
      | none => rw [Mt.push_gone e]; exact hS'
      | some w' =>
        rw [Mt.push_yes e]
        obtain ⟨h1, h2, i, e1, e2⟩ := mm_dom e
        have hi : i ≠ -1 := fun q => by rw [q] at e2; cases e2
        rw [dec_no hi] at e2
        cases e2
        exact qok_push w hS' (w.cm h1 h2 e1 hi)
theorem qok_proc {R : Rws} {n : Nat} (w : Wf R n) : ∀ {v S : List Int}, QOk n S → QOk n v → QOk n (Mt.proc (mm R n) S v)
  | [], _, h, _ => h
  | x :: v, S, h, hv => qok_proc w (v := v) (qok_push w h (hv x (List.mem_cons_self ..))) fun y hy => hv y (List.mem_cons_of_mem _ hy)
theorem ok_press_last (T : Txt K mg) : FnOk P w K mg base CX0 1 (He.ga K "press_last") T.fd_press_last ["rows", "pile", "command"] (sp_press_last K) := by
  refine T.F_press_last.ok sc_press_last (fun vs H Q E h => ?_) (fun cdv A outer s H vs Q E hr h => ?_)
  · obtain ⟨_, _, _, _, _, _, rfl, _⟩ := h; rfl
  · obtain ⟨ra, pl, R, n, S, x, rfl, hR, w, hp, hS, hx, hF, hl, k⟩ := h
    refine ⟨_, PSs.nox ((pss_cons (ps_expr (pe_bm PySem.F.plainAttrs_list PySem.F.slot_list_append PySem.F.type_list_append mt_append (pv 1) (pa_cons (pv 2) pa_nil)))
        (pss_cons (ps_set (i := 3) sc_press_last.nd rfl (Or.inl rfl) pe_int)
        (pss_cons (ps_while PassesOwn.never (PW.pt (pw_and (pt_cmpR op_gt (pe_callB (lenQ (K := K) rfl) (by rfl) T.z_len boot_len (pa_cons (pv 1) pa_nil)) pe_int (nomark _)) (pw_and1 (pt_cmpR op_notN (pe_ix (ixT (K := K) rfl) (pe_ix (ixT (K := K) rfl) (pv 0) (pe_ix (ixL (K := K) rfl) (pv 1) (pe_un un_neg pe_int) (fun _ _ => rfl)) (fun _ _ => rfl)) (pe_ix (ixL (K := K) rfl) (pv 1) (pe_un un_neg pe_int) (fun _ _ => rfl)) (fun _ _ => rfl)) pe_non (nomark _)))))
          (pss_cons (ps_set (i := 4) sc_press_last.nd rfl (Or.inl rfl) (pe_bm0 PySem.F.plainAttrs_list PySem.F.slot_list_pop PySem.F.type_list_pop mt_pop (pv 1)))
          (pss_cons (ps_set (i := 5) sc_press_last.nd rfl (Or.inl rfl) (pe_ix (ixT (K := K) rfl) (pe_ix (ixT (K := K) rfl) (pv 0) (pe_bm0 PySem.F.plainAttrs_list PySem.F.slot_list_pop PySem.F.type_list_pop mt_pop (pv 1)) (fun _ _ => rfl)) (pv 4) (fun _ _ => rfl)))
          (pss_cons (ps_if (pt_cmpR op_ne (pv 5) (peI T.c_GONE rfl) (nomark _))
            (pss_one (ps_expr (pe_bm PySem.F.plainAttrs_list PySem.F.slot_list_append PySem.F.type_list_append mt_append (pv 1) (pa_cons (pv 5) pa_nil))))
            pss_nil)
          (pss_one (ps_aug (i := 3) sc_press_last.nd rfl (Or.inl rfl) pe_int ip_add))))))
        (pss_one (ps_ret (pv 3))))))), ?_⟩
    have hlS : (iq S.reverse).length = S.length := by rw [List.length_map, List.length_reverse]
    refine st_seq (x_drop ?_)
    refine ⟨_, rfl, .inl ⟨rfl, _, SqL.of hp⟩, _, rfl, pl, _, _, rfl, rfl, hp, by rw [hlS]; exact Nat.lt_of_le_of_lt hl (by decide), ?_⟩
    dsimp only
    rw [← rev_cons]
    refine st_seq (st_set val_c ?_)
    dsimp only
    -- the loop: what lies on the pile, how many merges
    refine st_seq (st_whileA (fun m σ' H' => ∃ (S' : List Int) (c : Nat) (x4 x5 : Option V), σ' = [some (.ref ra), some (.ref pl), some (.int x), some (.int (c : Int)), x4, x5] ∧ H' = upd H pl (.lst (iq S'.reverse)) ∧ m = S'.length ∧ c + S'.length ≤ S.length + 1 ∧ QOk n S' ∧
        ((∃ y S0, S' = y :: S0 ∧ Mt.FoldS (mm R n) S0 ∧ Mt.push (mm R n) S0 y = Mt.push (mm R n) S x) ∨ (S' = Mt.push (mm R n) S x ∧ Mt.FoldS (mm R n) S'))) (S.length + 1)
      ⟨x :: S, 0, _, _, rfl, rfl, rfl, by simp, fun y hy => by
        rcases List.mem_cons.mp hy with q | q
        · rw [q]; exact hx
        · exact hS y q, .inl ⟨x, S, rfl, hF, rfl⟩⟩ ?_)
    rintro m σ' H' ⟨S', c, x4, x5, rfl, rfl, rfl, hc, hS', hst⟩
    have hRu : ∀ zs, RowsT K (upd H pl (.lst zs)) ra R := fun zs => rowsT_upd hR hp
    have len : Val (tCB (rLenQ K) (tCons (tVar 1) tNil)) [some (V.ref ra), some (.ref pl), some (.int x), some (.int (c : Int)), x4, x5] (upd H pl (.lst (iq S'.reverse))) (.int (S'.length : Int)) :=
      (val_lenS (val_var rfl) (.inl (SqL.of upd_same))).to (by rw [List.length_map, List.length_reverse])
    have done : S' = Mt.push (mm R n) S x → tRet (tVar 3) { nx := fun _ H' => Q .non H', rt := Q } [some (V.ref ra), some (.ref pl), some (.int x), some (.int (c : Int)), x4, x5] (upd H pl (.lst (iq S'.reverse))) := fun e => by
      refine st_ret (val_var rfl) ?_
      rw [e] at hc ⊢
      exact k c hc
    match S', hS', hst, hc, len, done with
    | [], hS', hst, hc, len, done =>
      refine ⟨false, ans_and0 (a_bi len val_c (decide_eq_false (by simp))), (fun q => by cases q), fun _ => ?_⟩
      refine done ?_
      rcases hst with ⟨y, S0, e, _⟩ | ⟨e, _⟩
      · cases e
      · exact e
    | [y], hS', hst, hc, len, done =>
      refine ⟨false, ans_and0 (a_bi len val_c (decide_eq_false (by simp))), (fun q => by cases q), fun _ => ?_⟩
      refine done ?_
      rcases hst with ⟨y', S0, e, _, e2⟩ | ⟨e, _⟩
      · cases e; exact e2
      · exact e
    | y :: t :: S0, hS', hst, hc, len, done =>
      have cy : Cm n y := hS' y (List.mem_cons_self ..)
      have ct : Cm n t := hS' t (List.mem_cons_of_mem _ (List.mem_cons_self ..))
      have test : Ans (tTest (tOp (fun x y H Q => y = .non ∧ Q (.bl (!decide (x = .non))) H) (tOp (rIxT K) (tOp (rIxT K) (tVar 0) (tOp (rIxL K) (tVar 1) (tUn (rU fun i => .int (-i)) (tC (.int 2))))) (tOp (rIxL K) (tVar 1) (tUn (rU fun i => .int (-i)) (tC (.int 1))))) (tC .non))) [some (V.ref ra), some (.ref pl), some (.int x), some (.int (c : Int)), x4, x5] (upd H pl (.lst (iq (y :: t :: S0).reverse))) (!(ent R t y).isNone) := by
        refine a_notN (val_entT (hRu _) w (val_var rfl) (val_ixL (val_var rfl) (val_neg val_c) (SqL.of upd_same) (atI_rev2 y t S0)) (val_ixL (val_var rfl) (val_neg val_c) (SqL.of upd_same) (atI_rev1 y (t :: S0))) ct cy) ?_
        rw [eV_non]
      cases ee : ent R t y with
      | none =>
        rw [ee] at test
        have hm : mm R n t y = none := (mm_none ct cy).mpr ee
        refine ⟨false, ans_and (a_bi len val_c (decide_eq_true (by simp only [List.length_cons]; omega))) test, (fun q => by cases q), fun _ => done ?_⟩
        rcases hst with ⟨y', S1, e, _, e2⟩ | ⟨e, _⟩
        · cases e
          rw [← e2, Mt.push_no hm]
        · exact e
      | some z =>
        rw [ee] at test
        have hm : mm R n t y = some (dec z) := mm_of ct cy ee
        have hz := w.gc ct cy ee
        have hst2 : Mt.FoldS (mm R n) (t :: S0) ∧ Mt.push (mm R n) (t :: S0) y = Mt.push (mm R n) S x := by
          rcases hst with ⟨y', S1, e, h1, h2⟩ | ⟨e, h1⟩
          · cases e; exact ⟨h1, h2⟩
          · have := h1.1
            rw [hm] at this
            cases this
        refine ⟨true, ans_and (a_bi len val_c (decide_eq_true (by simp only [List.length_cons]; omega))) test, fun _ => ?_, (fun q => by cases q)⟩
        refine st_seq (x_set ?_)
        refine ⟨_, rfl, .inl ⟨rfl, _, SqL.of upd_same⟩, pl, _, _, rfl, rfl, upd_same, (pop_rev y (t :: S0)).1, ?_⟩
        dsimp only
        rw [(pop_rev y (t :: S0)).2, upd_upd]
        refine st_seq (x_set ?_)
        obtain ⟨rs, r, row, q1, q2, q3, q4⟩ := (hRu (iq S0.reverse)).get w ct
        obtain ⟨rs2, r2, row2, p1, p2, p3, p4⟩ := (hRu (iq (t :: S0).reverse)).get w ct
        refine ⟨_, rfl, _, rfl, .inl ⟨rfl, _, SqL.of upd_same⟩, pl, _, _, rfl, rfl, upd_same, (pop_rev t S0).1, ?_⟩
        dsimp only
        rw [(pop_rev t S0).2, upd_upd]
        refine ⟨ra, rs, t, _, rfl, rfl, q1, q2, _, rfl, r, _, y, _, rfl, rfl, q4, row_at w ct cy q3, ?_⟩
        rw [ee]
        dsimp only
        have fin : ∀ (S2 : List Int), S2.length ≤ S0.length + 1 → QOk n S2 → ((∃ y S0, S2 = y :: S0 ∧ Mt.FoldS (mm R n) S0 ∧ Mt.push (mm R n) S0 y = Mt.push (mm R n) S x) ∨ (S2 = Mt.push (mm R n) S x ∧ Mt.FoldS (mm R n) S2)) →
            tAug 3 (tC (.int 1)) (ipI fun i j => i + j) { nx := fun σ2 H2 => ∃ m', m' < (y :: t :: S0).length ∧ ∃ (S' : List Int) (c : Nat) (x4 x5 : Option V), σ2 = [some (.ref ra), some (.ref pl), some (.int x), some (.int (c : Int)), x4, x5] ∧ H2 = upd H pl (.lst (iq S'.reverse)) ∧ m' = S'.length ∧ c + S'.length ≤ S.length + 1 ∧ QOk n S' ∧
              ((∃ y S0, S' = y :: S0 ∧ Mt.FoldS (mm R n) S0 ∧ Mt.push (mm R n) S0 y = Mt.push (mm R n) S x) ∨ (S' = Mt.push (mm R n) S x ∧ Mt.FoldS (mm R n) S')), rt := Q } [some (V.ref ra), some (.ref pl), some (.int x), some (.int (c : Int)), some (.int y), some (eV (some z))] (upd H pl (.lst (iq S2.reverse))) := by
          intro S2 hl2 hq2 hs2
          refine ⟨_, rfl, _, _, rfl, rfl, S2.length, by simp; omega, S2, c + 1, _, _, rfl, rfl, rfl, by simp at hc; omega, hq2, hs2⟩
        by_cases hz1 : z = -1
        · subst hz1
          refine st_seq (st_no (a_ne (val_var rfl) val_c rfl (by decide)) ?_)
          refine fin S0 (by omega) (fun u hu => hS' u (List.mem_cons_of_mem _ (List.mem_cons_of_mem _ hu))) (.inr ⟨?_, hst2.1.tail⟩)
          rw [← hst2.2, Mt.push_gone (by rw [hm]; rfl)]
        · refine st_seq (st_yes (a_ne (val_var rfl) val_c rfl (by simp [eV, hz1])) ?_)
          refine x_drop ⟨_, rfl, .inl ⟨rfl, _, SqL.of upd_same⟩, _, rfl, pl, _, _, rfl, rfl, upd_same, ?_, ?_⟩
          · rw [List.length_map, List.length_reverse]
            simp at hc
            exact Nat.lt_of_le_of_lt (show S0.length ≤ 10000 by omega) (by decide)
          · dsimp only
            rw [upd_upd]
            have e1 : iq S0.reverse ++ [eV (some z)] = iq (z :: S0).reverse := (rev_cons z S0).symm
            rw [e1]
            have cz := hz.resolve_left hz1
            refine fin (z :: S0) (by simp) (fun u hu => ?_) (.inl ⟨z, S0, rfl, hst2.1.tail, ?_⟩)
            · rcases List.mem_cons.mp hu with q | q
              · rw [q]; exact cz
              · exact hS' u (List.mem_cons_of_mem _ (List.mem_cons_of_mem _ q))
            · rw [← hst2.2, Mt.push_yes (by rw [hm, dec_no hz1])]
def sp_plain_steps (K : PySem.W.Frag) : Sp := fun vs H Q _ => ∃ (ra qa : Addr) (R : Rws) (n : Nat) (q : List Int), vs = [.ref ra, .ref qa] ∧ RowsT K H ra R ∧ Wf R n ∧ H qa = some (.tup (iq q)) ∧ QOk n q ∧ q.length ≤ 10000 ∧
  ∀ (H' : Hp) (t t1 t2 : Addr), Same H H' → H' t = some (.tup [.ref t1, .ref t2]) → H' t1 = some (.tup (iq (Mt.proc (mm R n) [] q).reverse)) → Q (.ref t) H'
/-- the word between two commands -/
structure StW (H : Hp) (pl ps : Addr) (R : Rws) (n : Nat) (q : List Int) (i : Nat) (H' : Hp) : Prop where
  same : Same H H'
  np : H pl = none
  ns : H ps = none
  ne : pl ≠ ps
  pile : H' pl = some (.lst (iq (Mt.proc (mm R n) [] (q.take i)).reverse))
  places : ∃ zs : List V, H' ps = some (.lst zs) ∧ zs.length + (Mt.proc (mm R n) [] (q.take i)).length ≤ i
theorem ok_plain_steps (T : Txt K mg) : FnOk P w K mg base CX0 2 (He.ga K "plain_steps") T.fd_plain_steps ["rows", "queue"] (sp_plain_steps K) := by
  refine T.F_plain_steps.ok sc_plain_steps (fun vs H Q E h => ?_) (fun cdv A outer s H vs Q E hr h => ?_)
  · obtain ⟨_, _, _, _, _, rfl, _⟩ := h; rfl
  · obtain ⟨ra, qa, R, n, q, rfl, hR, w, hqa, hq, hl, k⟩ := h
    refine ⟨_, PSs.nox ((pss_cons (ps_set (i := 2) sc_plain_steps.nd rfl (Or.inl rfl) (pe_lst pa_nil))
        (pss_cons (ps_set (i := 3) sc_plain_steps.nd rfl (Or.inl rfl) (pe_lst pa_nil))
        (pss_cons (ps_for PassesOwn.never rfl (piT (K := K) rfl (pv 1)) (pg_name (i := 4) sc_plain_steps.nd rfl (Or.inl rfl))
          (pss_cons (ps_set (i := 5) sc_plain_steps.nd rfl (Or.inl rfl) (pe_op op_sub (pe_callB (lenQ (K := K) rfl) (by rfl) T.z_len boot_len (pa_cons (pv 2) pa_nil)) pe_int))
          (pss_one (ps_for PassesOwn.never rfl (pi_range1 (by rfl) T.z_range (pa_cons (pe_call (ok_press_last T) (hr.mono (by decide)) rfl T.m_press_last T.F_press_last.kp (bi_press_last T) .nil pass0 (pa_cons (pv 0) (pa_cons (pv 2) (pa_cons (pv 4) pa_nil)))) pa_nil)) (pg_name (i := 6) sc_plain_steps.nd rfl (Or.inl rfl))
            (pss_one (ps_expr (pe_bm PySem.F.plainAttrs_list PySem.F.slot_list_append PySem.F.type_list_append mt_append (pv 3) (pa_cons (pe_op op_sub (pv 5) (pv 6)) pa_nil))))))))
        (pss_one (ps_ret (pe_tup (pa_cons (pe_callTy (T := "tuple") (tupleQ (K := K) rfl) (by rfl) T.z_tuple (by decide +kernel) (pa_cons (pv 2) pa_nil)) (pa_cons (pe_callTy (T := "tuple") (tupleQ (K := K) rfl) (by rfl) T.z_tuple (by decide +kernel) (pa_cons (pv 3) pa_nil)) pa_nil))))))))), ?_⟩
    have hlq : (iq q).length = q.length := List.length_map ..
    refine st_seq (x_set ⟨Nat.zero_le _, fun pl hpl => ?_⟩)
    dsimp only
    refine st_seq (x_set ⟨Nat.zero_le _, fun ps hps => ?_⟩)
    dsimp only
    have hne : pl ≠ ps := fun e => by rw [← e, upd_same] at hps; cases hps
    have hps0 : H ps = none := by rw [upd_ne hne.symm] at hps; exact hps
    have e0 : Same H (upd (upd H pl (.lst [])) ps (.lst [])) := (same_new hpl).trans (same_new hps)
    refine st_seq (st_forT (a := qa) (xs := iq q) (val_var rfl) (SqT.of (e0 _ _ hqa)) (fun i σ' H' => ∃ x4 x5 x6, σ' = [some (.ref ra), some (.ref qa), some (.ref pl), some (.ref ps), x4, x5, x6] ∧ StW H pl ps R n q i H')
      ⟨_, _, _, rfl, e0, hpl, hps0, hne, by rw [upd_ne hne, upd_same]; rfl, [], upd_same, Nat.le_refl _⟩ (fun i σ' H' _ ⟨_, _, _, _, p⟩ => SqT.of (p.same _ _ hqa)) ?_ ?_)
    · rintro i x σ' H' hi ⟨x4, x5, x6, rfl, p⟩
      rw [List.getElem?_map] at hi
      obtain ⟨z, hz1, hz2⟩ := Option.map_eq_some_iff.mp hi
      subst hz2
      have hzc : Cm n z := hq z (List.mem_of_getElem? hz1)
      have hil : i < q.length := (List.getElem?_eq_some_iff.mp hz1).1
      obtain ⟨zs, hzs, hzl⟩ := p.places
      refine st_seq (st_set (val_sub (val_lenS (val_var rfl) (.inl (SqL.of p.pile))) val_c) ?_)
      dsimp only
      have htk : q.take (i + 1) = q.take i ++ [z] := by rw [List.take_add_one, hz1]; rfl
      have hpr : Mt.proc (mm R n) [] (q.take (i + 1)) = Mt.push (mm R n) (Mt.proc (mm R n) [] (q.take i)) z := by rw [htk, Mt.proc_append]; rfl
      have hqt : QOk n (q.take i) := fun y hy => hq y (List.mem_of_mem_take hy)
      have hpl2 := Mt.proc_len (m := mm R n) (q.take i) []
      have htl : (q.take i).length = i := by rw [List.length_take]; omega
      simp only [List.length_nil] at hpl2
      refine x_forR1 (x_call ((va_cons (val_var rfl) (va_cons (val_var rfl) (va_cons (val_var rfl) va_nil))) _ ?_))
      refine ⟨ra, pl, R, n, Mt.proc (mm R n) [] (q.take i), z, rfl, hR.same p.same, w, p.pile, qok_proc w (fun y hy => by cases hy) hqt, hzc, Mt.proc_fold _ trivial, by omega, fun c hc => ?_⟩
      have hps2 : (upd H' pl (.lst (iq (Mt.push (mm R n) (Mt.proc (mm R n) [] (q.take i)) z).reverse))) ps = some (.lst zs) := by rw [upd_ne p.ne.symm]; exact hzs
      refine ⟨(c : Int), rfl, by omega, by omega, for_range (lo := 0) (n := (c : Int).toNat) (fun j σ2 H2 => ∃ x6, σ2 = [some (.ref ra), some (.ref qa), some (.ref pl), some (.ref ps), some (.int z), some (.int (((iq (Mt.proc (mm R n) [] (q.take i)).reverse).length : Int) - 1)), x6] ∧ Same H H2 ∧ H2 pl = some (.lst (iq (Mt.proc (mm R n) [] (q.take (i + 1))).reverse)) ∧ ∃ zs2 : List V, H2 ps = some (.lst zs2) ∧ zs2.length = zs.length + j)
        ⟨_, rfl, same_mut p.same p.np, by rw [upd_same, hpr], zs, hps2, rfl⟩ ?_ ?_⟩
      · rintro j σ2 H2 hj ⟨x6, rfl, e2, h2, zs2, h3, h4⟩
        refine x_drop ⟨_, rfl, .inl ⟨rfl, _, SqL.of h3⟩, _, rfl, _, rfl, _, _, rfl, rfl, ps, _, _, rfl, rfl, h3, ?_, ?_⟩
        · rw [h4]
          have : (c : Int).toNat = c := by omega
          exact Nat.lt_of_le_of_lt (show zs.length + j ≤ 30000 by omega) (by decide)
        · refine ⟨_, rfl, same_mut e2 p.ns, by rw [upd_ne p.ne]; exact h2, _, upd_same, by rw [List.length_append, h4]; rfl⟩
      · rintro σ2 H2 ⟨x6, rfl, e2, h2, zs2, h3, h4⟩
        refine ⟨_, _, _, rfl, e2, p.np, p.ns, p.ne, h2, zs2, h3, ?_⟩
        have : (c : Int).toNat = c := by omega
        rw [hpr]
        omega
    · rintro σ' H' ⟨x4, x5, x6, rfl, p⟩
      have hp := p.pile
      rw [hlq, List.take_length] at hp
      obtain ⟨zs, hzs, _⟩ := p.places
      dsimp only
      refine ⟨_, rfl, pl, _, rfl, .inl ⟨SqL.of hp, fun t1 h1 => ?_⟩⟩
      have e1 := same_newT p.same h1 (o := .tup (iq (Mt.proc (mm R n) [] q).reverse))
      have e1' : Same H' (upd H' t1 (.tup (iq (Mt.proc (mm R n) [] q).reverse))) := same_new h1
      refine ⟨_, rfl, ps, _, rfl, .inl ⟨SqL.of (e1' _ _ hzs), fun t2 h2 => ?_⟩⟩
      have e2 : Same (upd H' t1 (.tup (iq (Mt.proc (mm R n) [] q).reverse))) (upd (upd H' t1 (.tup (iq (Mt.proc (mm R n) [] q).reverse))) t2 (.tup zs)) := same_new h2
      refine ⟨by show 2 ≤ sizeLine; decide, fun t ht => ?_⟩
      exact k _ t t1 t2 ((e1.trans e2).trans (same_new ht)) upd_same ((same_new ht) _ _ (e2 _ _ upd_same))
/-- the plain fold of a queue -/
def pfold (R : Rws) (n : Nat) (q : List Int) : List Int := (Mt.proc (mm R n) [] q).reverse
theorem pfold_len (R : Rws) (n : Nat) (q : List Int) : (pfold R n q).length = (Mt.proc (mm R n) [] q).length := List.length_reverse
def sp_plain_fold (K : PySem.W.Frag) : Sp := fun vs H Q _ => ∃ (p ra qa : Addr) (R : Rws) (n : Nat) (q : List Int), vs = [.ref p, .ref qa] ∧ MerAt K H p R n ra ∧ H qa = some (.tup (iq q)) ∧ QOk n q ∧ q.length ≤ 10000 ∧
  ∀ (H' : Hp) (t : Addr), Same H H' → H' t = some (.tup (iq (pfold R n q))) → Q (.ref t) H'
theorem ok_plain_fold (T : Txt K mg) : FnOk P w K mg base CX0 5 (He.ga K "plain_fold") T.fd_plain_fold ["merger", "queue"] (sp_plain_fold K) := by
  refine T.F_plain_fold.ok sc_plain_fold (fun vs H Q E h => ?_) (fun cdv A outer s H vs Q E hr h => ?_)
  · obtain ⟨_, _, _, _, _, _, rfl, _⟩ := h; rfl
  · obtain ⟨p, ra, qa, R, n, q, rfl, hM, hqa, hq, hl, k⟩ := h
    refine ⟨_, PSs.nox ((pss_one (ps_ret (pe_ix (ixT (K := K) rfl) (pe_call (ok_plain_steps T) (hr.mono (by decide)) rfl T.m_plain_steps T.F_plain_steps.kp (bi_plain_steps T) .nil pass0 (pa_cons (fldQ (K := K) rfl (pv 0) rfl) (pa_cons (pe_call (ok_check_queue T) (hr.mono (by decide)) rfl T.m_check_queue T.F_check_queue.kp (bi_check_queue T) .nil pass0 (pa_cons (pv 0) (pa_cons (pv 1) pa_nil))) pa_nil))) pe_int (fun _ _ => rfl))))), ?_⟩
    refine x_ret ?_
    refine x_op (x_call (x_cons ((val_rows T hM (val_var rfl)) _ (x_cons (x_call ((va_cons (val_var rfl) (va_cons (val_var rfl) va_nil)) _ ?_))))))
    refine ⟨p, qa, ra, R, n, q, rfl, hM, hqa, hq, hl, fun H1 e1 => ?_⟩
    refine ⟨ra, qa, R, n, q, rfl, (hM.same e1).rows, hM.wf, e1 _ _ hqa, hq, hl, fun H2 t t1 t2 e2 h1 h2 => ?_⟩
    exact ⟨t, _, 0, _, rfl, rfl, SqT.of h1, rfl, k _ _ (e1.trans e2) h2⟩
end
end FF
set_option maxHeartbeats 4000000
namespace FF
open PySem PySem.Spec PyProof.Rows L2
section
variable {P : Program} {w : World} {K : PySem.W.Frag} {mg : Str → Option Value} {base : Heap}
/-! ### can_fold, folded_once, fold_at -/
/-- the queue behind a merge -/
def once (R : Rws) (q : List Int) (i : Nat) (z : Int) : List Int := q.take i ++ (Mt.oL (dec z) ++ q.drop (i + 2))
structure Pl (R : Rws) (n : Nat) (q : List Int) (i : Nat) (x y z : Int) : Prop where
  hx : q[i]? = some x
  hy : q[i + 1]? = some y
  hz : ent R x y = some z
def sp_can_fold (K : PySem.W.Frag) : Sp := fun vs H Q _ => ∃ (ra qa : Addr) (R : Rws) (n : Nat) (q : List Int) (i : Nat) (x y z : Int), vs = [.ref ra, .ref qa, .int (i : Int)] ∧ RowsT K H ra R ∧ Wf R n ∧ H qa = some (.tup (iq q)) ∧ QOk n q ∧ Pl R n q i x y z ∧ Q (.bl true) H
theorem ok_can_fold (T : Txt K mg) : FnOk P w K mg base CX0 4 (He.ga K "can_fold") T.fd_can_fold ["rows", "queue", "place"] (sp_can_fold K) := by
  refine T.F_can_fold.ok sc_can_fold (fun vs H Q E h => ?_) (fun cdv A outer s H vs Q E hr h => ?_)
  · obtain ⟨_, _, _, _, _, _, _, _, _, rfl, _⟩ := h; rfl
  · obtain ⟨ra, qa, R, n, q, i, x, y, z, rfl, hR, w, hqa, hq, p, k⟩ := h
    refine ⟨_, PSs.nox ((pss_one (ps_ret (pe_and (pe_call (ok_is_below T) (hr.mono (by decide)) rfl T.m_is_below T.F_is_below.kp (bi_is_below T) .nil pass0 (pa_cons (pv 2) (pa_cons (pe_op op_sub (pe_callB (lenQ (K := K) rfl) (by rfl) T.z_len boot_len (pa_cons (pv 1) pa_nil)) pe_int) pa_nil))) (pe_one (pe_cmpR op_notN (pe_ix (ixT (K := K) rfl) (pe_ix (ixT (K := K) rfl) (pv 0) (pe_ix (ixT (K := K) rfl) (pv 1) (pv 2) (fun _ _ => rfl)) (fun _ _ => rfl)) (pe_ix (ixT (K := K) rfl) (pv 1) (pe_op op_add (pv 2) pe_int) (fun _ _ => rfl)) (fun _ _ => rfl)) pe_non (nomark _))))))), ?_⟩
    have h1 := (List.getElem?_eq_some_iff.mp p.hy).1
    have cx := hq x (List.mem_of_getElem? p.hx)
    have cy := hq y (List.mem_of_getElem? p.hy)
    refine st_ret (v := .bl true) ?_ k
    refine val_andV (b := true) (b' := true) ((val_call (vs := [.int (i : Int), .int (((iq q).length : Int) - 1)]) (va_cons (val_var rfl) (va_cons (val_sub (val_lenS (val_var rfl) (.inr (SqT.of hqa))) val_c) va_nil)) v_is_below).to ?_) fun _ => ?_
    · rw [List.length_map, decide_eq_true (show (0 : Int) ≤ (i : Int) by omega), decide_eq_true (show (i : Int) < (q.length : Int) - 1 by omega)]
      rfl
    · refine (val_notN (val_entT hR w (val_var rfl) (val_ixT (val_var rfl) (val_var rfl) (SqT.of hqa) (ixQ p.hx)) (val_ixT (val_var rfl) (val_add (val_var rfl) val_c) (SqT.of hqa) (ixQ (i := i + 1) p.hy)) cx cy)).to ?_
      rw [p.hz]
      rfl
def sp_folded_once (K : PySem.W.Frag) : Sp := fun vs H Q _ => ∃ (ra qa : Addr) (R : Rws) (n : Nat) (q : List Int) (i : Nat) (x y z : Int), vs = [.ref ra, .ref qa, .int (i : Int)] ∧ RowsT K H ra R ∧ Wf R n ∧ H qa = some (.tup (iq q)) ∧ QOk n q ∧ q.length ≤ 10000 ∧ Pl R n q i x y z ∧
  ∀ t H', Same H H' → H' t = some (.tup (iq (once R q i z))) → Q (.ref t) H'
theorem ok_folded_once (T : Txt K mg) : FnOk P w K mg base CX0 1 (He.ga K "folded_once") T.fd_folded_once ["rows", "queue", "place"] (sp_folded_once K) := by
  refine T.F_folded_once.ok sc_folded_once (fun vs H Q E h => ?_) (fun cdv A outer s H vs Q E hr h => ?_)
  · obtain ⟨_, _, _, _, _, _, _, _, _, rfl, _⟩ := h; rfl
  · obtain ⟨ra, qa, R, n, q, i, x, y, z, rfl, hR, w, hqa, hq, hl, p, k⟩ := h
    refine ⟨_, PSs.nox ((pss_cons (ps_set (i := 3) sc_folded_once.nd rfl (Or.inl rfl) (pe_ix (ixT (K := K) rfl) (pe_ix (ixT (K := K) rfl) (pv 0) (pe_ix (ixT (K := K) rfl) (pv 1) (pv 2) (fun _ _ => rfl)) (fun _ _ => rfl)) (pe_ix (ixT (K := K) rfl) (pv 1) (pe_op op_add (pv 2) pe_int) (fun _ _ => rfl)) (fun _ _ => rfl)))
        (pss_one (ps_ret (pe_op (catQ (K := K) rfl) (pe_op (catQ (K := K) rfl) (pe_slice (sliceQ (K := K) rfl) (pv 1) po_none (po_some (pv 2))) (pe_ifExp (pt_cmpR op_eq (pv 3) (peI T.c_GONE rfl) (nomark _)) (pe_tup pa_nil) (pe_tup (pa_cons (pv 3) pa_nil)))) (pe_slice (sliceQ (K := K) rfl) (pv 1) (po_some (pe_op op_add (pv 2) pe_int)) po_none)))))), ?_⟩
    have h1 := (List.getElem?_eq_some_iff.mp p.hy).1
    have cx := hq x (List.mem_of_getElem? p.hx)
    have cy := hq y (List.mem_of_getElem? p.hy)
    have hlq : (iq q).length = q.length := List.length_map ..
    refine st_seq (st_set (val_entT hR w (val_var rfl) (val_ixT (val_var rfl) (val_var rfl) (SqT.of hqa) (ixQ p.hx)) (val_ixT (val_var rfl) (val_add (val_var rfl) val_c) (SqT.of hqa) (ixQ (i := i + 1) p.hy)) cx cy) ?_)
    dsimp only
    rw [p.hz]
    have e : iq (once R q i z) = ((iq q).take i ++ iq (Mt.oL (dec z))) ++ (iq q).drop (i + 2) := by
      unfold once
      simp [iq, List.map_append, List.map_take, List.map_drop]
    have h2 : (iq (Mt.oL (dec z))).length ≤ 1 := by rw [List.length_map]; unfold dec; by_cases hz : z = -1 <;> simp [hz, Mt.oL]
    refine x_ret (tu_to (tu_cat (tu_cat (tu_head (tu_val (val_var rfl) hqa) (fun _ _ => val_var rfl) (by omega)) (fun H1 e1 => ?_) (by rw [List.length_take]; omega)) (fun H1 e1 => tu_tail (i := i + 2) (tu_val (val_var rfl) (e1 _ _ hqa)) (fun _ _ => val_add (i := (i : Int)) (j := 2) (val_var rfl) val_c)) (by rw [List.length_append, List.length_take, List.length_drop]; omega)) e.symm _ ?_)
    · by_cases hz : z = -1
      · rw [hz]
        exact tu_if (a_eq (val_var rfl) val_c rfl (b := true) rfl) (fun _ => tu_new va_nil (by show (0 : Nat) ≤ 100000; decide)) (fun q => by cases q)
      · rw [dec_no hz]
        exact tu_if (a_eq (val_var rfl) val_c rfl (b := false) (by simp [eV, hz])) (fun q => by cases q) (fun _ => tu_new (va_cons (val_var rfl) va_nil) (by show (1 : Nat) ≤ 100000; decide))
    · exact k
def sp_fold_at (K : PySem.W.Frag) : Sp := fun vs H Q _ => ∃ (mp ra qa : Addr) (R : Rws) (n : Nat) (q : List Int) (i : Nat) (x y z : Int), vs = [.ref mp, .ref qa, .int (i : Int)] ∧ MerAt K H mp R n ra ∧ H qa = some (.tup (iq q)) ∧ QOk n q ∧ q.length ≤ 10000 ∧ Pl R n q i x y z ∧
  ∀ t H', Same H H' → H' t = some (.tup (iq (once R q i z))) → Q (.ref t) H'
theorem ok_fold_at (T : Txt K mg) : FnOk P w K mg base CX0 5 (He.ga K "fold_at") T.fd_fold_at ["merger", "queue", "place"] (sp_fold_at K) := by
  refine T.F_fold_at.ok sc_fold_at (fun vs H Q E h => ?_) (fun cdv A outer s H vs Q E hr h => ?_)
  · obtain ⟨_, _, _, _, _, _, _, _, _, _, rfl, _⟩ := h; rfl
  · obtain ⟨mp, ra, qa, R, n, q, i, x, y, z, rfl, hM, hqa, hq, hl, p, k⟩ := h
    refine ⟨_, PSs.nox ((pss_cons (ps_set (i := 3) sc_fold_at.nd rfl (Or.inl rfl) (pe_call (ok_check_queue T) (hr.mono (by decide)) rfl T.m_check_queue T.F_check_queue.kp (bi_check_queue T) .nil pass0 (pa_cons (pv 0) (pa_cons (pv 1) pa_nil))))
        (pss_cons (ps_if (pt_not (pt_val (pe_call (ok_can_fold T) (hr.mono (by decide)) rfl T.m_can_fold T.F_can_fold.kp (bi_can_fold T) .nil pass0 (pa_cons (fldQ (K := K) rfl (pv 0) rfl) (pa_cons (pv 3) (pa_cons (pv 2) pa_nil))))))
          pss_never
          pss_nil)
        (pss_one (ps_ret (pe_call (ok_folded_once T) (hr.mono (by decide)) rfl T.m_folded_once T.F_folded_once.kp (bi_folded_once T) .nil pass0 (pa_cons (fldQ (K := K) rfl (pv 0) rfl) (pa_cons (pv 3) (pa_cons (pv 2) pa_nil))))))))), ?_⟩
    refine st_seq (x_set (x_call ((va_cons (val_var rfl) (va_cons (val_var rfl) va_nil)) _ ?_)))
    refine ⟨mp, qa, ra, R, n, q, rfl, hM, hqa, hq, hl, fun H1 e1 => ?_⟩
    dsimp only
    have hM1 := hM.same e1
    refine st_seq (st_no (ans_not (b := true) (ans_tB (val_call (va_cons (val_rows T hM1 (val_var rfl)) (va_cons (val_var rfl) (va_cons (val_var rfl) va_nil))) fun Q q' E => ⟨ra, qa, R, n, q, i, x, y, z, rfl, hM1.rows, hM1.wf, e1 _ _ hqa, hq, p, q'⟩))) ?_)
    dsimp only
    refine x_ret (x_call ((va_cons (val_rows T hM1 (val_var rfl)) (va_cons (val_var rfl) (va_cons (val_var rfl) va_nil))) _ ?_))
    exact ⟨ra, qa, R, n, q, i, x, y, z, rfl, hM1.rows, hM1.wf, e1 _ _ hqa, hq, hl, p, fun t H' e2 h2 => k t H' (e1.trans e2) h2⟩
end
end FF
set_option maxHeartbeats 4000000
namespace FF
open PySem PySem.Spec PyProof.Rows L2
section
variable {P : Program} {w : World} {K : PySem.W.Frag} {mg : Str → Option Value} {base : Heap}
/-! ### the law's draws -/
def sp_law_take : Sp := fun vs H Q _ => ∃ (b : Addr) (m g r : Int), vs = [.ref b, .int m] ∧ 0 < m ∧ m < 1073741824 ∧ H b = some (.lst [.int g, .int r]) ∧
  ∀ d g' r' : Int, 0 ≤ d → d < m → Q (.int d) (upd H b (.lst [.int g', .int r']))
theorem mb {i j : Int} (h : -(2 ^ 64) < j ∧ j < 2 ^ 64) : CMul i j := .inr h
theorem val_mulc {H : Hp} {σ : L2.St} {ta : TE} {i j : Int} (ha : Val ta σ H (.int i)) (h : -(2 ^ 64) < j ∧ j < 2 ^ 64) : Val (tOp (rI CMul fun i j => .int (i * j)) ta (tC (.int j))) σ H (.int (i * j)) := val_op ha val_c fun _ q => ⟨i, j, rfl, rfl, .inr h, q⟩
theorem val_mod {H : Hp} {σ : L2.St} {ta tb : TE} {i j : Int} (ha : Val ta σ H (.int i)) (hb : Val tb σ H (.int j)) (h : 0 < j) : Val (tOp (rI (fun _ j => 0 < j) fun i j => .int (i % j)) ta tb) σ H (.int (i % j)) := val_op ha hb fun _ q => ⟨i, j, rfl, rfl, h, q⟩
theorem val_fdiv {H : Hp} {σ : L2.St} {ta tb : TE} {i j : Int} (ha : Val ta σ H (.int i)) (hb : Val tb σ H (.int j)) (h : 0 < j ∧ j < 1073741824) : Val (tOp (rI CDiv fun i j => .int (i / j)) ta tb) σ H (.int (i / j)) := val_op ha hb fun _ q => ⟨i, j, rfl, rfl, h, q⟩
theorem val_int {H : Hp} {σ : L2.St} {ta : TE} {i : Int} (ha : Val ta σ H (.int i)) : Val (tCB (fun xs H Q => (∃ i, xs = [.int i] ∧ Q (.int i) H) ∨ ∃ k, xs = [.bl k] ∧ Q (.int (if k then 1 else 0)) H) (tCons ta tNil)) σ H (.int i) := fun Q q => ha _ (.inl ⟨i, rfl, q⟩)
theorem val_abs {H : Hp} {σ : L2.St} {ta : TE} {i : Int} (ha : Val ta σ H (.int i)) : Val (tCB (fun xs H Q => ∃ i, xs = [.int i] ∧ Q (.int (if i < 0 then -i else i)) H) (tCons ta tNil)) σ H (.int (if i < 0 then -i else i)) := fun Q q => ha _ ⟨i, rfl, q⟩
theorem ok_law_take (T : Txt K mg) : FnOk P w K mg base CX0 1 (He.ga K "_law_take") T.fd_law_take ["_law_box_here", "_law_many"] sp_law_take := by
  refine T.F_law_take.ok sc_law_take (fun vs H Q E h => ?_) (fun cdv A outer s H vs Q E hr h => ?_)
  · obtain ⟨_, _, _, _, rfl, _⟩ := h; rfl
  · obtain ⟨b, m, g, r, rfl, m1, m2, hb, k⟩ := h
    refine ⟨_, PSs.nox ((pss_cons (ps_if (pt_cmpR op_gt (pe_ix (ixL (K := K) rfl) (pv 0) pe_int (fun _ _ => rfl)) pe_int (nomark _))
          (pss_cons (ps_set (i := 2) sc_law_take.nd rfl (Or.inl rfl) (pe_op op_mod (pe_callTy (T := "int") call_int1 (by rfl) T.z_int (by decide +kernel) (pa_cons (pe_ix (ixL (K := K) rfl) (pv 0) pe_int (fun _ _ => rfl)) pa_nil)) (pv 1)))
          (pss_cons (ps_asg (pe_op op_fdiv (pe_ix (ixL (K := K) rfl) (pv 0) pe_int (fun _ _ => rfl)) (pv 1)) (pg_sub (pv 0) pe_int set_list))
          (pss_one (ps_ret (pv 2)))))
          pss_nil)
        (pss_cons (ps_set (i := 3) sc_law_take.nd rfl (Or.inl rfl) (pe_op op_mod (pe_callTy (T := "int") call_int1 (by rfl) T.z_int (by decide +kernel) (pa_cons (pe_op op_add (pe_op op_mul (pe_ix (ixL (K := K) rfl) (pv 0) pe_int (fun _ _ => rfl)) pe_int) pe_int) pa_nil)) pe_int))
        (pss_cons (ps_asg (pe_op op_add (pe_op op_mod (pe_callTy (T := "int") call_int1 (by rfl) T.z_int (by decide +kernel) (pa_cons (pe_op op_add (pe_op op_mul (pv 3) pe_int) pe_int) pa_nil)) pe_int) pe_int) (pg_sub (pv 0) pe_int set_list))
        (pss_one (ps_ret (pe_op op_mod (pe_callTy (T := "int") call_int1 (by rfl) T.z_int (by decide +kernel) (pa_cons (pe_op op_fdiv (pe_op op_add (pe_op op_mul (pv 3) pe_int) (pe_ix (ixL (K := K) rfl) (pv 0) pe_int (fun _ _ => rfl))) pe_int) pa_nil)) (pv 1)))))))), ?_⟩
    have i0 : ∀ {σ : L2.St}, σ[0]? = some (some (.ref b)) → Val (tOp (rIxL K) (tVar 0) (tC (.int 0))) σ H (.int g) := fun h => val_ixL (val_var h) val_c (SqL.of hb) rfl
    have i1 : ∀ {σ : L2.St}, σ[0]? = some (some (.ref b)) → Val (tOp (rIxL K) (tVar 0) (tC (.int 1))) σ H (.int r) := fun h => val_ixL (val_var h) val_c (SqL.of hb) rfl
    refine st_seq (st_if (a_bi (i0 rfl) val_c rfl) (fun _ => ?_) (fun _ => ?_))
    · refine st_seq (st_set (val_mod (val_int (i0 rfl)) (val_var rfl) m1) ?_)
      dsimp only
      refine st_seq ?_
      refine (val_fdiv (i0 rfl) (val_var rfl) ⟨m1, m2⟩) _ ⟨_, rfl, b, _, 0, 0, rfl, rfl, hb, rfl, ?_⟩
      dsimp only
      refine st_ret (val_var rfl) ?_
      exact k _ _ _ (Int.emod_nonneg _ (by omega)) (Int.emod_lt_of_pos _ m1)
    · dsimp only
      refine st_seq (st_set (val_mod (val_int (val_add (val_mulc (i1 rfl) (by decide)) val_c)) val_c (by decide)) ?_)
      dsimp only
      refine st_seq ?_
      refine (val_add (val_mod (val_int (val_add (val_mulc (val_var rfl) (by decide)) val_c)) val_c (by decide)) val_c) _ ⟨_, rfl, b, _, 1, 1, rfl, rfl, hb, rfl, ?_⟩
      dsimp only
      refine st_ret (val_mod (val_int (val_fdiv (val_add (val_mulc (val_var rfl) (by decide)) (val_ixL (val_var rfl) val_c (SqL.of upd_same) rfl)) val_c (by decide))) (val_var rfl) m1) ?_
      exact k _ _ _ (Int.emod_nonneg _ (by omega)) (Int.emod_lt_of_pos _ m1)
def sp_law_box (K : PySem.W.Frag) : Sp := fun vs H Q _ => ∃ (s : Addr) (k : Int) (ns : List Int), vs = [.ref s, .int k] ∧ SqL K H s (ns.map V.int) ∧ 0 ≤ k ∧ k ≤ 3 ∧ ∀ p g r, H p = none → Q (.ref p) (upd H p (.lst [.int g, .int r]))
theorem ok_law_box (T : Txt K mg) : FnOk P w K mg base CX0 1 (He.ga K "_law_box") T.fd_law_box ["_law_script", "_law_k"] (sp_law_box K) := by
  refine T.F_law_box.ok sc_law_box (fun vs H Q E h => ?_) (fun cdv A outer s H vs Q E hr h => ?_)
  · obtain ⟨_, _, _, rfl, _⟩ := h; rfl
  · obtain ⟨s, k, ns, rfl, hs, k0, k3, kq⟩ := h
    refine ⟨_, PSs.nox ((pss_cons (ps_set (i := 2) sc_law_box.nd rfl (Or.inl rfl) (pe_op op_add (pe_op op_mul pe_int (pv 1)) pe_int))
        (pss_cons (ps_if (pt_cmpR op_lt (pv 1) (pe_callB (lenQ (K := K) rfl) (by rfl) T.z_len boot_len (pa_cons (pv 0) pa_nil)) (nomark _))
          (pss_one (ps_set (i := 2) sc_law_box.nd rfl (Or.inl rfl) (pe_callB call_abs (by rfl) T.z_abs (by decide +kernel) (pa_cons (pe_callTy (T := "int") call_int1 (by rfl) T.z_int (by decide +kernel) (pa_cons (pe_ix (ixL (K := K) rfl) (pv 0) (pv 1) (fun _ _ => rfl)) pa_nil)) pa_nil))))
          (pss_one (ps_if (pt_cmpR op_gt (pe_callB (lenQ (K := K) rfl) (by rfl) T.z_len boot_len (pa_cons (pv 0) pa_nil)) pe_int (nomark _))
            (pss_one (ps_set (i := 2) sc_law_box.nd rfl (Or.inl rfl) (pe_op op_add (pv 2) (pe_op op_mul (pe_op op_mod (pe_callTy (T := "int") call_int1 (by rfl) T.z_int (by decide +kernel) (pa_cons (pe_callB call_abs (by rfl) T.z_abs (by decide +kernel) (pa_cons (pe_callTy (T := "int") call_int1 (by rfl) T.z_int (by decide +kernel) (pa_cons (pe_ix (ixL (K := K) rfl) (pv 0) (pe_op op_mod (pe_callTy (T := "int") call_int1 (by rfl) T.z_int (by decide +kernel) (pa_cons (pv 1) pa_nil)) (pe_callB (lenQ (K := K) rfl) (by rfl) T.z_len boot_len (pa_cons (pv 0) pa_nil))) (fun _ _ => rfl)) pa_nil)) pa_nil)) pa_nil)) pe_int) pe_int))))
            pss_nil)))
        (pss_cons (ps_set (i := 3) sc_law_box.nd rfl (Or.inl rfl) (pe_ifExp (pt_cmpR op_ge (pv 2) (pe_op op_pow pe_int pe_int) (nomark _)) (pv 2) pe_int))
        (pss_one (ps_ret (pe_lst (pa_cons (pv 3) (pa_cons (pe_op op_add (pe_op op_mod (pe_callTy (T := "int") call_int1 (by rfl) T.z_int (by decide +kernel) (pa_cons (pe_op op_add (pe_op op_mul (pe_op op_mod (pe_callTy (T := "int") call_int1 (by rfl) T.z_int (by decide +kernel) (pa_cons (pv 2) pa_nil)) pe_int) pe_int) (pe_op op_mul pe_int (pv 1))) pa_nil)) pe_int) pe_int) pa_nil))))))))), ?_⟩
    have hln : (ns.map V.int).length = ns.length := List.length_map ..
    have len : ∀ {σ : L2.St}, σ[0]? = some (some (.ref s)) → Val (tCB (rLenQ K) (tCons (tVar 0) tNil)) σ H (.int (ns.length : Int)) := fun h => (val_lenS (val_var h) (.inl hs)).to (by rw [hln])
    have item : ∀ {σ : L2.St} {ti : TE} {j : Int}, σ[0]? = some (some (.ref s)) → Val ti σ H (.int j) → 0 ≤ j → j < ns.length → ∃ z : Int, Val (tOp (rIxL K) (tVar 0) ti) σ H (.int z) := by
      intro σ ti j h hi j0 j1
      have hj : j.toNat < ns.length := by omega
      refine ⟨ns[j.toNat], val_ixL (val_var h) hi hs (atI_int j0 ?_)⟩
      rw [List.getElem?_map, List.getElem?_eq_getElem hj]
      rfl
    have fin : ∀ cell : Int, tSeq (tAsg (tIf (tTest (tOp (rI0 fun i j => .bl (decide (j ≤ i))) (tVar 2) (tOp (rI CPow fun i j => .int (i ^ j.toNat)) (tC (.int 10)) (tC (.int 18))))) (tVar 2) (tC (.int 0))) (gName 3))
        (tRet (tLst (tCons (tVar 3) (tCons (tOp (rI0 fun i j => .int (i + j)) (tOp (rI (fun _ j => 0 < j) fun i j => .int (i % j)) (tCB (fun xs H Q => (∃ i, xs = [.int i] ∧ Q (.int i) H) ∨ ∃ k, xs = [.bl k] ∧ Q (.int (if k then 1 else 0)) H) (tCons (tOp (rI0 fun i j => .int (i + j)) (tOp (rI CMul fun i j => .int (i * j)) (tOp (rI (fun _ j => 0 < j) fun i j => .int (i % j)) (tCB (fun xs H Q => (∃ i, xs = [.int i] ∧ Q (.int i) H) ∨ ∃ k, xs = [.bl k] ∧ Q (.int (if k then 1 else 0)) H) (tCons (tVar 2) tNil)) (tC (.int 2147483587))) (tC (.int 69069))) (tOp (rI CMul fun i j => .int (i * j)) (tC (.int 719)) (tVar 1))) tNil)) (tC (.int 2147483587))) (tC (.int 1))) tNil))))
        { nx := fun _ H' => Q .non H', rt := Q } [some (.ref s), some (.int k), some (.int cell), none] H := by
      intro cell
      have pw : Val (tOp (rI CPow fun i j => .int (i ^ j.toNat)) (tC (.int 10)) (tC (.int 18))) [some (.ref s), some (.int k), some (.int cell), none] H (.int ((10 : Int) ^ (18 : Int).toNat)) := val_op val_c val_c fun _ q => ⟨10, 18, rfl, rfl, ⟨by decide, by decide, by decide⟩, q⟩
      obtain ⟨g, hg⟩ : ∃ g : Int, Val (tIf (tTest (tOp (rI0 fun i j => .bl (decide (j ≤ i))) (tVar 2) (tOp (rI CPow fun i j => .int (i ^ j.toNat)) (tC (.int 10)) (tC (.int 18))))) (tVar 2) (tC (.int 0))) [some (.ref s), some (.int k), some (.int cell), none] H (.int g) := by
        by_cases h : (10 : Int) ^ (18 : Int).toNat ≤ cell
        · exact ⟨cell, val_ifT (a_bi (val_var rfl) pw (decide_eq_true h)) (val_var rfl)⟩
        · exact ⟨0, val_ifF (a_bi (val_var rfl) pw (decide_eq_false h)) val_c⟩
      refine st_seq (st_set hg ?_)
      dsimp only
      refine x_ret ?_
      refine (va_cons (val_var rfl) (va_cons (val_add (val_mod (val_int (val_add (val_mulc (val_mod (val_int (val_var rfl)) val_c (by decide)) (by decide)) (val_op val_c (val_var rfl) fun _ q => ⟨_, _, rfl, rfl, .inl (by decide), q⟩))) val_c (by decide)) val_c) va_nil)) _ ⟨by show 2 ≤ sizeLine; decide, fun p hp => ?_⟩
      exact kq p _ _ hp
    refine st_seq (st_set (val_add (val_op val_c (val_var rfl) fun _ q => ⟨_, _, rfl, rfl, .inl (by decide), q⟩) val_c) ?_)
    dsimp only
    refine st_seq ?_
    by_cases h : k < ns.length
    · refine st_yes (a_bi (val_var rfl) (len rfl) (decide_eq_true h)) ?_
      obtain ⟨z, hz⟩ := item (σ := [some (.ref s), some (.int k), some (.int (6547 * k + 719)), none]) rfl (val_var (i := 1) rfl) k0 h
      refine st_set (val_abs (val_int hz)) ?_
      exact fin _
    · refine st_no (a_bi (val_var rfl) (len rfl) (decide_eq_false h)) ?_
      by_cases h2 : 0 < ns.length
      · refine st_yes (a_bi (len rfl) val_c (decide_eq_true (by omega))) ?_
        have hm0 := Int.emod_nonneg k (show (ns.length : Int) ≠ 0 by omega)
        have hm1 := Int.emod_lt_of_pos k (show (0 : Int) < ns.length by omega)
        obtain ⟨z, hz⟩ := item (σ := [some (.ref s), some (.int k), some (.int (6547 * k + 719)), none]) rfl (val_mod (val_int (val_var (i := 1) rfl)) (len rfl) (by omega)) hm0 hm1
        refine st_set (val_add (val_var rfl) (val_mulc (val_mod (val_int (val_abs (val_int hz))) val_c (by decide)) (by decide))) ?_
        exact fin _
      · refine st_no (a_bi (len rfl) val_c (decide_eq_false (by omega))) ?_
        exact fin _
def sp_law_pick : Sp := fun vs H Q _ => ∃ (b l : Addr) (g r : Int) (q : List Int), vs = [.ref b, .ref l] ∧ H b = some (.lst [.int g, .int r]) ∧ H l = some (.lst (iq q)) ∧ l ≠ b ∧ 0 < q.length ∧ q.length < 1000000 ∧
  ∀ x g' r', x ∈ q → Q (.int x) (upd H b (.lst [.int g', .int r']))
theorem ok_law_pick (T : Txt K mg) : FnOk P w K mg base CX0 2 (He.ga K "_law_pick") T.fd_law_pick ["_law_box_here", "_law_some"] sp_law_pick := by
  refine T.F_law_pick.ok sc_law_pick (fun vs H Q E h => ?_) (fun cdv A outer s H vs Q E hr h => ?_)
  · obtain ⟨_, _, _, _, _, rfl, _⟩ := h; rfl
  · obtain ⟨b, l, g, r, q, rfl, hb, hl, hne, h0, h1, k⟩ := h
    refine ⟨_, PSs.nox ((pss_one (ps_ret (pe_ix (ixL (K := K) rfl) (pv 1) (pe_call (ok_law_take T) (hr.mono (by decide)) rfl T.m_law_take T.F_law_take.kp (bi_law_take T) .nil pass0 (pa_cons (pv 0) (pa_cons (pe_callB (lenQ (K := K) rfl) (by rfl) T.z_len boot_len (pa_cons (pv 1) pa_nil)) pa_nil))) (fun _ _ => rfl))))), ?_⟩
    have hlq : (iq q).length = q.length := List.length_map ..
    refine x_ret (x_op ((val_var rfl) _ (x_call ((va_cons (val_var rfl) (va_cons ((val_lenS (val_var rfl) (.inl (SqL.of hl))).to (by rw [hlq])) va_nil)) _ ?_))))
    refine ⟨b, (q.length : Int), g, r, rfl, by omega, by omega, hb, fun d g' r' d0 d1 => ?_⟩
    have hd : d.toNat < q.length := by omega
    exact ⟨l, _, d, _, rfl, rfl, SqL.of (by rw [upd_ne hne]; exact hl), atI_int d0 (by rw [List.getElem?_map, List.getElem?_eq_getElem hd]; rfl), k _ _ _ (List.getElem_mem hd)⟩
def sp_law_end (K : PySem.W.Frag) : Sp := fun vs H Q _ => ∃ (a : Addr) (rs : List Addr) (R : Rws) (n : Nat) (x y : Int), vs = [.ref a, .int x, .int y] ∧ RowsL H a rs R ∧ Wf R n ∧ (x = -1 ∨ Cm n x) ∧ (y = -1 ∨ Cm n y) ∧
  Q (eV (if x = -1 then some y else metRI R x y)) H
theorem ok_law_end (T : Txt K mg) : FnOk P w K mg base CX0 1 (He.ga K "_law_end") T.fd_law_end ["_law_rows_here", "_law_one", "_law_other"] (sp_law_end K) := by
  refine T.F_law_end.ok sc_law_end (fun vs H Q E h => ?_) (fun cdv A outer s H vs Q E hr h => ?_)
  · obtain ⟨_, _, _, _, _, _, rfl, _⟩ := h; rfl
  · obtain ⟨a, rs, R, n, x, y, rfl, hR, w, hx, hy, k⟩ := h
    refine ⟨_, PSs.nox ((pss_cons (ps_if (PW.pt (pw_or (pt_cmpR op_eq (pv 1) (pe_op op_sub pe_int pe_int) (nomark _)) (pw_or1 (pt_cmpR op_eq (pv 2) (pe_op op_sub pe_int pe_int) (nomark _)))))
          (pss_one (ps_ret (pe_ifExp (pt_cmpR op_eq (pv 1) (pe_op op_sub pe_int pe_int) (nomark _)) (pv 2) (pv 1))))
          pss_nil)
        (pss_one (ps_ret (pe_ix (ixL (K := K) rfl) (pe_ix (ixL (K := K) rfl) (pv 0) (pv 1) (fun _ _ => rfl)) (pv 2) (fun _ _ => rfl)))))), ?_⟩
    have m1 : ∀ {σ : L2.St}, Val (tOp (rI0 fun i j => .int (i - j)) (tC (.int 0)) (tC (.int 1))) σ H (.int (-1)) := fun {σ} => (val_sub (i := 0) (j := 1) val_c val_c).to rfl
    by_cases h1 : x = -1
    · rw [if_pos h1] at k
      refine st_seq (st_yes (ans_or1 (a_eq (val_var rfl) m1 rfl (by rw [h1] <;> rfl))) ?_)
      exact st_ret (val_ifT (a_eq (val_var rfl) m1 rfl (by rw [h1] <;> rfl)) (val_var rfl)) k
    · rw [if_neg h1] at k
      unfold metRI at k
      by_cases h2 : y = -1
      · rw [if_pos h2] at k
        refine st_seq (st_yes (ans_or (a_eq (val_var rfl) m1 rfl (by simp [h1])) (a_eq (val_var rfl) m1 rfl (by rw [h2] <;> rfl))) ?_)
        exact st_ret (val_ifF (a_eq (val_var rfl) m1 rfl (by simp [h1])) (val_var rfl)) k
      · rw [if_neg h2] at k
        refine st_seq (st_no (ans_or (a_eq (val_var rfl) m1 rfl (by simp [h1])) (a_eq (val_var rfl) m1 rfl (by simp [h2]))) ?_)
        exact st_ret (val_entL hR w (val_var rfl) (val_var rfl) (val_var rfl) (hx.resolve_left h1) (hy.resolve_left h2)) k
end
end FF
set_option maxHeartbeats 4000000
namespace FF
open PySem PySem.Spec PyProof.Rows L2
section
variable {P : Program} {w : World} {K : PySem.W.Frag} {mg : Str → Option Value} {base : Heap}
/-! ### the first losing four -/
def LzP (R : Rws) (a b c y : Int) : Prop := ∃ p q, ent R a b = some p ∧ ent R b c = some q ∧ p ≠ -1 ∧ q ≠ -1 ∧ ent R p c = none ∧ ent R c y = none ∧ ent R q y ≠ none
def Lx (a b c y a' b' c' y' : Int) : Prop := a < a' ∨ (a = a' ∧ (b < b' ∨ (b = b' ∧ (c < c' ∨ (c = c' ∧ y < y')))))
abbrev F4 := Option (Int × Int × Int × Int)
def FirstR (R : Rws) (n : Nat) : F4 → Prop
  | none => ∀ a b c y, Cm n a → Cm n b → Cm n c → Cm n y → ¬ LzP R a b c y
  | some (a, b, c, y) => Cm n a ∧ Cm n b ∧ Cm n c ∧ Cm n y ∧ LzP R a b c y ∧ ∀ a' b' c' y', Cm n a' → Cm n b' → Cm n c' → Cm n y' → Lx a' b' c' y' a b c y → ¬ LzP R a' b' c' y'
theorem FirstR.uniq {R : Rws} {n : Nat} : ∀ {o o' : F4}, FirstR R n o → FirstR R n o' → o = o'
  | none, none, _, _ => rfl
  | none, some (a, b, c, y), h, ⟨h1, h2, h3, h4, h5, _⟩ => absurd h5 (h a b c y h1 h2 h3 h4)
  | some (a, b, c, y), none, ⟨h1, h2, h3, h4, h5, _⟩, h => absurd h5 (h a b c y h1 h2 h3 h4)
  | some (a, b, c, y), some (a', b', c', y'), ⟨h1, h2, h3, h4, h5, h6⟩, ⟨k1, k2, k3, k4, k5, k6⟩ => by
    have e1 : ¬ Lx a b c y a' b' c' y' := fun q => k6 a b c y h1 h2 h3 h4 q h5
    have e2 : ¬ Lx a' b' c' y' a b c y := fun q => h6 a' b' c' y' k1 k2 k3 k4 q k5
    unfold Lx at e1 e2
    have : a = a' ∧ b = b' ∧ c = c' ∧ y = y' := by omega
    obtain ⟨rfl, rfl, rfl, rfl⟩ := this
    rfl
/-- how a four is handed back -/
def GiveF (o : F4) (H : Hp) (Q : VK) : Prop := match o with
  | none => ∀ H', Same H H' → Q .non H'
  | some (a, b, c, y) => ∀ t H', Same H H' → H' t = some (.tup (iq [a, b, c, y])) → Q (.ref t) H'
/-- none below (a, b, c, y) -/
def Nb (R : Rws) (n : Nat) (a b c y : Int) : Prop := ∀ a' b' c' y', Cm n a' → Cm n b' → Cm n c' → Cm n y' → Lx a' b' c' y' a b c y → ¬ LzP R a' b' c' y'
theorem nb_zero (R : Rws) (n : Nat) : Nb R n 0 0 0 0 := fun a b c y ha hb hc hy h => by
  have := ha.1; have := hb.1; have := hc.1; have := hy.1
  unfold Lx at h
  omega
theorem nb_a {R : Rws} {n : Nat} {a : Int} (h : Nb R n a n 0 0) : Nb R n (a + 1) 0 0 0 := fun a' b' c' y' ha hb hc hy k => h a' b' c' y' ha hb hc hy (by
  have := hb.1; have := hb.2; have := hc.1; have := hy.1
  unfold Lx at k ⊢
  omega)
theorem nb_b {R : Rws} {n : Nat} {a b : Int} (h : Nb R n a b n 0) : Nb R n a (b + 1) 0 0 := fun a' b' c' y' ha hb hc hy k => h a' b' c' y' ha hb hc hy (by
  have := hc.1; have := hc.2; have := hy.1
  unfold Lx at k ⊢
  omega)
theorem nb_c {R : Rws} {n : Nat} {a b c : Int} (h : Nb R n a b c n) : Nb R n a b (c + 1) 0 := fun a' b' c' y' ha hb hc hy k => h a' b' c' y' ha hb hc hy (by
  have := hy.1; have := hy.2
  unfold Lx at k ⊢
  omega)
/-- none at all with these a, b, c -/
theorem nb_c' {R : Rws} {n : Nat} {a b c : Int} (h : Nb R n a b c 0) (k : ∀ y, Cm n y → ¬ LzP R a b c y) : Nb R n a b (c + 1) 0 := fun a' b' c' y' ha hb hc hy z => by
  by_cases e : a' = a ∧ b' = b ∧ c' = c
  · obtain ⟨rfl, rfl, rfl⟩ := e
    exact k y' hy
  · refine h a' b' c' y' ha hb hc hy ?_
    have := hy.1
    unfold Lx at z ⊢
    omega
theorem nb_b' {R : Rws} {n : Nat} {a b : Int} (h : Nb R n a b 0 0) (k : ∀ c y, Cm n c → Cm n y → ¬ LzP R a b c y) : Nb R n a (b + 1) 0 0 := fun a' b' c' y' ha hb hc hy z => by
  by_cases e : a' = a ∧ b' = b
  · obtain ⟨rfl, rfl⟩ := e
    exact k c' y' hc hy
  · refine h a' b' c' y' ha hb hc hy ?_
    have := hy.1; have := hc.1
    unfold Lx at z ⊢
    omega
theorem nb_y' {R : Rws} {n : Nat} {a b c y : Int} (h : Nb R n a b c y) (k : ¬ LzP R a b c y) : Nb R n a b c (y + 1) := fun a' b' c' y' ha hb hc hy z => by
  by_cases e : a' = a ∧ b' = b ∧ c' = c ∧ y' = y
  · obtain ⟨rfl, rfl, rfl, rfl⟩ := e
    exact k
  · refine h a' b' c' y' ha hb hc hy ?_
    unfold Lx at z ⊢
    omega
theorem nb_all {R : Rws} {n : Nat} (h : Nb R n n 0 0 0) : FirstR R n none := fun a b c y ha hb hc hy => h a b c y ha hb hc hy (.inl ha.2)
def sp_law_losing (K : PySem.W.Frag) : Sp := fun vs H Q _ => ∃ (ra : Addr) (rs : List Addr) (R : Rws) (n : Nat), vs = [.ref ra] ∧ RowsL H ra rs R ∧ Wf R n ∧ SoundR R n ∧ ∀ o, FirstR R n o → GiveF o H Q
theorem ok_law_losing (T : Txt K mg) : FnOk P w K mg base CX0 2 (He.ga K "_law_losing") T.fd_law_losing ["_law_rows_here"] (sp_law_losing K) := by
  refine T.F_law_losing.ok sc_law_losing (fun vs H Q E h => ?_) (fun cdv A outer s H vs Q E hr h => ?_)
  · obtain ⟨_, _, _, _, rfl, _⟩ := h; rfl
  · obtain ⟨ra, rs, R, n, rfl, hR, w, hs, k⟩ := h
    refine ⟨_, PSs.nox ((pss_cons (ps_set (i := 1) sc_law_losing.nd rfl (Or.inl rfl) (pe_callB (lenQ (K := K) rfl) (by rfl) T.z_len boot_len (pa_cons (pv 0) pa_nil)))
        (pss_cons (ps_for PassesOwn.never rfl (pi_range1 (by rfl) T.z_range (pa_cons (pv 1) pa_nil)) (pg_name (i := 2) sc_law_losing.nd rfl (Or.inl rfl))
          (pss_one (ps_for PassesOwn.never rfl (pi_range1 (by rfl) T.z_range (pa_cons (pv 1) pa_nil)) (pg_name (i := 3) sc_law_losing.nd rfl (Or.inl rfl))
            (pss_one (ps_for PassesOwn.never rfl (pi_range1 (by rfl) T.z_range (pa_cons (pv 1) pa_nil)) (pg_name (i := 4) sc_law_losing.nd rfl (Or.inl rfl))
              (pss_cons (ps_par (i := 5) (j := 6) rfl sc_law_losing.nd rfl rfl (by decide) rfl rfl (pa_cons (pe_ix (ixL (K := K) rfl) (pe_ix (ixL (K := K) rfl) (pv 0) (pv 2) (fun _ _ => rfl)) (pv 3) (fun _ _ => rfl)) (pa_cons (pe_ix (ixL (K := K) rfl) (pe_ix (ixL (K := K) rfl) (pv 0) (pv 3) (fun _ _ => rfl)) (pv 4) (fun _ _ => rfl)) pa_nil)) (by rfl))
              (pss_one (ps_if (PW.pt (pw_and (pt_cmpR op_notN (pv 5) pe_non (nomark _)) (pw_and (pt_cmpR op_notN (pv 6) pe_non (nomark _)) (pw_and1 (pt_cmpR op_isN (pe_call (ok_law_end T) (hr.mono (by decide)) rfl T.m_law_end T.F_law_end.kp (bi_law_end T) .nil pass0 (pa_cons (pv 0) (pa_cons (pv 5) (pa_cons (pv 4) pa_nil)))) pe_non (nomark _))))))
                (pss_one (ps_for PassesOwn.never rfl (pi_range1 (by rfl) T.z_range (pa_cons (pv 1) pa_nil)) (pg_name (i := 7) sc_law_losing.nd rfl (Or.inl rfl))
                  (pss_one (ps_if (PW.pt (pw_and (pt_cmpR op_isN (pe_ix (ixL (K := K) rfl) (pe_ix (ixL (K := K) rfl) (pv 0) (pv 4) (fun _ _ => rfl)) (pv 7) (fun _ _ => rfl)) pe_non (nomark _)) (pw_and1 (pt_cmpR op_notN (pe_ix (ixL (K := K) rfl) (pe_ix (ixL (K := K) rfl) (pv 0) (pv 6) (fun _ _ => rfl)) (pv 7) (fun _ _ => rfl)) pe_non (nomark _)))))
                    (pss_one (ps_ret (pe_tup (pa_cons (pv 2) (pa_cons (pv 3) (pa_cons (pv 4) (pa_cons (pv 7) pa_nil)))))))
                    pss_nil))))
                pss_nil))))))))
        (pss_one (ps_ret pe_non))))), ?_⟩
    have w2 := w.le
    have hlr : (rs.map V.ref).length = n := by rw [List.length_map, plen hR.row, w.len]
    refine st_seq (st_set ((val_lenS (val_var rfl) (.inl (SqL.of hR.top))).to (by rw [hlr])) ?_)
    dsimp only
    refine st_seq (st_forR1 (n := (n : Int)) (va_cons (val_var rfl) va_nil) (by omega) (by omega) (fun i σ' H' => ∃ x2 x3 x4 x5 x6 x7, σ' = [some (.ref ra), some (.int (n : Int)), x2, x3, x4, x5, x6, x7] ∧ H = H' ∧ Nb R n (i : Int) 0 0 0)
      ⟨_, _, _, _, _, _, rfl, rfl, nb_zero R n⟩ ?_ ?_)
    · rintro i σ' H' hi ⟨x2, x3, x4, x5, x6, x7, rfl, rfl, hn1⟩
      refine st_forR1 (n := (n : Int)) (va_cons (val_var rfl) va_nil) (by omega) (by omega) (fun j σ' H' => ∃ x3 x4 x5 x6 x7, σ' = [some (.ref ra), some (.int (n : Int)), some (.int (i : Int)), x3, x4, x5, x6, x7] ∧ H = H' ∧ Nb R n (i : Int) (j : Int) 0 0)
        ⟨_, _, _, _, _, rfl, rfl, hn1⟩ ?_ (fun σ' H' ⟨_, _, _, _, _, e1, e2, e3⟩ => ⟨_, _, _, _, _, _, e1, e2, nb_a (by
          have e4 : (((n : Int).toNat : Nat) : Int) = (n : Int) := by omega
          rw [e4] at e3
          exact e3)⟩)
      rintro j σ' H' hj ⟨x3, x4, x5, x6, x7, rfl, rfl, hn2⟩
      refine st_forR1 (n := (n : Int)) (va_cons (val_var rfl) va_nil) (by omega) (by omega) (fun l σ' H' => ∃ x4 x5 x6 x7, σ' = [some (.ref ra), some (.int (n : Int)), some (.int (i : Int)), some (.int (j : Int)), x4, x5, x6, x7] ∧ H = H' ∧ Nb R n (i : Int) (j : Int) (l : Int) 0)
        ⟨_, _, _, _, rfl, rfl, hn2⟩ ?_ (fun σ' H' ⟨_, _, _, _, e1, e2, e3⟩ => ⟨_, _, _, _, _, e1, e2, nb_b (by
          have e4 : (((n : Int).toNat : Nat) : Int) = (n : Int) := by omega
          rw [e4] at e3
          exact e3)⟩)
      rintro l σ' H' hl ⟨x4, x5, x6, x7, rfl, rfl, hn3⟩
      have ci : Cm n (i : Int) := ⟨by omega, hi⟩
      have cj : Cm n (j : Int) := ⟨by omega, hj⟩
      have cl : Cm n (l : Int) := ⟨by omega, hl⟩
      refine st_seq ((val_entL hR w (val_var rfl) (val_var rfl) (val_var rfl) ci cj) _ ((val_entL hR w (val_var rfl) (val_var rfl) (val_var rfl) cj cl) _ ⟨_, _, rfl, ?_⟩))
      dsimp only
      cases ep : ent R (i : Int) (j : Int) with
      | none =>
        refine st_no (ans_and0 (a_notN (val_var rfl) rfl)) ⟨_, _, _, _, rfl, rfl, nb_c' hn3 fun y hy ⟨p, q, h1, _⟩ => ?_⟩
        rw [ep] at h1
        cases h1
      | some p =>
        cases eq : ent R (j : Int) (l : Int) with
        | none =>
          refine st_no (ans_and (a_notN (val_var rfl) rfl) (ans_and0 (a_notN (val_var rfl) rfl))) ⟨_, _, _, _, rfl, rfl, nb_c' hn3 fun y hy ⟨p', q, h1, h2, _⟩ => ?_⟩
          rw [eq] at h2
          cases h2
        | some q =>
          have hp := w.gc ci cj ep
          have hq := w.gc cj cl eq
          have es := hs _ _ _ p q ci cj cl ep eq
          have ve : ∀ {σ : L2.St}, σ[0]? = some (some (.ref ra)) → σ[5]? = some (some (.int p)) → σ[4]? = some (some (.int (l : Int))) → Val (tCall (sp_law_end K) [] E0 (tCons (tVar 0) (tCons (tVar 5) (tCons (tVar 4) tNil)))) σ H (eV (metLI R p (l : Int))) := by
            intro σ h0 h1 h2
            refine val_call (va_cons (val_var h0) (va_cons (val_var h1) (va_cons (val_var h2) va_nil))) fun Q' q' E => ⟨ra, rs, R, n, p, l, rfl, hR, w, hp, .inr cl, ?_⟩
            unfold metLI at q'
            by_cases h : p = -1
            · rw [if_pos h]; rw [if_pos h] at q'; exact q'
            · rw [if_neg h]; rw [if_neg h] at q'; unfold metRI; rw [if_neg cl.ne]; exact q'
          cases em : metLI R p (l : Int) with
          | some z =>
            rw [em] at ve
            refine st_no (ans_and (a_notN (val_var rfl) rfl) (ans_and (a_notN (val_var rfl) rfl) (a_isN (ve rfl rfl rfl) rfl))) ⟨_, _, _, _, rfl, rfl, nb_c' hn3 fun y hy ⟨p', q', h1, h2, h3, h4, h5, _⟩ => ?_⟩
            rw [ep] at h1
            cases h1
            unfold metLI at em
            rw [if_neg h3, h5] at em
            cases em
          | none =>
            rw [em] at ve es
            have hp1 : p ≠ -1 := fun e => by unfold metLI at em; rw [if_pos e] at em; cases em
            have hq1 : q ≠ -1 := fun e => by unfold metRI at es; rw [if_pos e] at es; cases es
            have hpl : ent R p (l : Int) = none := by unfold metLI at em; rw [if_neg hp1] at em; exact em
            have cq : Cm n q := hq.resolve_left hq1
            refine st_yes (ans_and (a_notN (val_var rfl) rfl) (ans_and (a_notN (val_var rfl) rfl) (a_isN (ve rfl rfl rfl) rfl))) ?_
            refine st_forR1 (n := (n : Int)) (va_cons (val_var rfl) va_nil) (by omega) (by omega) (fun m σ' H' => ∃ x7, σ' = [some (.ref ra), some (.int (n : Int)), some (.int (i : Int)), some (.int (j : Int)), some (.int (l : Int)), some (.int p), some (.int q), x7] ∧ H = H' ∧ Nb R n (i : Int) (j : Int) (l : Int) (m : Int))
              ⟨_, rfl, rfl, hn3⟩ ?_ (fun σ' H' ⟨_, e1, e2, e3⟩ => ⟨_, _, _, _, e1, e2, nb_c (by
                have e4 : (((n : Int).toNat : Nat) : Int) = (n : Int) := by omega
                rw [e4] at e3
                exact e3)⟩)
            rintro m σ' H' hm ⟨x7, rfl, rfl, hn4⟩
            have cm : Cm n (m : Int) := ⟨by omega, hm⟩
            have t1 := val_entL (K := K) hR w (val_var (σ := [some (V.ref ra), some (.int (n : Int)), some (.int (i : Int)), some (.int (j : Int)), some (.int (l : Int)), some (.int p), some (.int q), some (.int (m : Int))]) (i := 0) rfl) (val_var (i := 4) rfl) (val_var (i := 7) rfl) cl cm
            have t2 := val_entL (K := K) hR w (val_var (σ := [some (V.ref ra), some (.int (n : Int)), some (.int (i : Int)), some (.int (j : Int)), some (.int (l : Int)), some (.int p), some (.int q), some (.int (m : Int))]) (i := 0) rfl) (val_var (i := 6) rfl) (val_var (i := 7) rfl) cq cm
            cases e1 : ent R (l : Int) (m : Int) with
            | some z =>
              rw [e1] at t1
              refine st_no (ans_and0 (a_isN t1 rfl)) ⟨_, rfl, rfl, nb_y' hn4 fun ⟨_, _, _, _, _, _, _, h6, _⟩ => ?_⟩
              rw [e1] at h6
              cases h6
            | none =>
              rw [e1] at t1
              cases e2 : ent R q (m : Int) with
              | none =>
                rw [e2] at t2
                refine st_no (ans_and (a_isN t1 rfl) (a_notN t2 rfl)) ⟨_, rfl, rfl, nb_y' hn4 fun ⟨p', q', h1, h2, _, _, _, _, h7⟩ => ?_⟩
                rw [eq] at h2
                cases h2
                exact h7 e2
              | some z =>
                rw [e2] at t2
                refine st_yes (ans_and (a_isN t1 rfl) (a_notN t2 rfl)) ?_
                refine x_ret ((va_cons (val_var rfl) (va_cons (val_var rfl) (va_cons (val_var rfl) (va_cons (val_var rfl) va_nil)))) _ ⟨by show 4 ≤ sizeLine; decide, fun t ht => ?_⟩)
                have g := k (some ((i : Int), (j : Int), (l : Int), (m : Int))) ⟨ci, cj, cl, cm, ⟨p, q, ep, eq, hp1, hq1, hpl, e1, by rw [e2]; simp⟩, hn4⟩
                exact g t _ (same_new ht) upd_same
    · rintro σ' H' ⟨x2, x3, x4, x5, x6, x7, rfl, rfl, hn1⟩
      have e4 : (((n : Int).toNat : Nat) : Int) = (n : Int) := by omega
      rw [e4] at hn1
      dsimp only
      refine st_ret val_c ?_
      exact k none (nb_all hn1) _ (Same.refl _)
end
end FF
set_option maxHeartbeats 4000000
namespace FF
open PySem PySem.Spec PyProof.Rows L2
section
variable {P : Program} {w : World} {K : PySem.W.Frag} {mg : Str → Option Value} {base : Heap}
def sp_losing_four (K : PySem.W.Frag) : Sp := fun vs H Q _ => ∃ (p ra : Addr) (R : Rws) (n : Nat), vs = [.ref p] ∧ MerAt K H p R n ra ∧ ∀ o, FirstR R n o → GiveF o H Q
theorem ok_losing_four (T : Txt K mg) : FnOk P w K mg base CX0 1 (He.ga K "losing_four") T.fd_losing_four ["merger"] (sp_losing_four K) := by
  refine T.F_losing_four.ok sc_losing_four (fun vs H Q E h => ?_) (fun cdv A outer s H vs Q E hr h => ?_)
  · obtain ⟨_, _, _, _, rfl, _⟩ := h; rfl
  · obtain ⟨p0, ra, R, n, rfl, hM, k⟩ := h
    refine ⟨_, PSs.nox ((pss_cons (ps_set (i := 1) sc_losing_four.nd rfl (Or.inl rfl) (fldQ (K := K) rfl (pv 0) rfl))
        (pss_cons (ps_set (i := 2) sc_losing_four.nd rfl (Or.inl rfl) (pe_listRg rfl (by rfl) T.z_list (prg_1 (by rfl) T.z_range (fldQ (K := K) rfl (pv 0) rfl))))
        (pss_cons (ps_for PassesOwn.never rfl (piL (K := K) rfl (pv 2)) (pg_name (i := 3) sc_losing_four.nd rfl (Or.inl rfl))
          (pss_one (ps_for PassesOwn.never rfl (piL (K := K) rfl (pv 2)) (pg_name (i := 4) sc_losing_four.nd rfl (Or.inl rfl))
            (pss_cons (ps_set (i := 5) sc_losing_four.nd rfl (Or.inl rfl) (pe_ix (ixT (K := K) rfl) (pe_ix (ixT (K := K) rfl) (pv 1) (pv 3) (fun _ _ => rfl)) (pv 4) (fun _ _ => rfl)))
            (pss_one (ps_for PassesOwn.never rfl (piS (K := K) rfl (pe_ifExp (PW.pt (pw_and (pt_cmpR op_notN (pv 5) pe_non (nomark _)) (pw_and1 (pt_cmpR op_ne (pv 5) (peI T.c_GONE rfl) (nomark _))))) (pv 2) (pe_tup pa_nil))) (pg_name (i := 6) sc_losing_four.nd rfl (Or.inl rfl))
              (pss_cons (ps_set (i := 7) sc_losing_four.nd rfl (Or.inl rfl) (pe_ix (ixT (K := K) rfl) (pe_ix (ixT (K := K) rfl) (pv 1) (pv 4) (fun _ _ => rfl)) (pv 6) (fun _ _ => rfl)))
              (pss_one (ps_if (PW.pt (pw_and (pt_cmpR op_notN (pv 7) pe_non (nomark _)) (pw_and (pt_cmpR op_ne (pv 7) (peI T.c_GONE rfl) (nomark _)) (pw_and1 (pt_cmpR op_isN (pe_ix (ixT (K := K) rfl) (pe_ix (ixT (K := K) rfl) (pv 1) (pv 5) (fun _ _ => rfl)) (pv 6) (fun _ _ => rfl)) pe_non (nomark _))))))
                (pss_one (ps_for PassesOwn.never rfl (piL (K := K) rfl (pv 2)) (pg_name (i := 8) sc_losing_four.nd rfl (Or.inl rfl))
                  (pss_one (ps_if (PW.pt (pw_and (pt_cmpR op_isN (pe_ix (ixT (K := K) rfl) (pe_ix (ixT (K := K) rfl) (pv 1) (pv 6) (fun _ _ => rfl)) (pv 8) (fun _ _ => rfl)) pe_non (nomark _)) (pw_and1 (pt_cmpR op_notN (pe_ix (ixT (K := K) rfl) (pe_ix (ixT (K := K) rfl) (pv 1) (pv 7) (fun _ _ => rfl)) (pv 8) (fun _ _ => rfl)) pe_non (nomark _)))))
                    (pss_one (ps_ret (pe_tup (pa_cons (pv 3) (pa_cons (pv 4) (pa_cons (pv 6) (pa_cons (pv 8) pa_nil)))))))
                    pss_nil))))
                pss_nil)))))))))
        (pss_one (ps_ret pe_non)))))), ?_⟩
    have w := hM.wf
    have w2 := w.le
    refine st_seq (st_set (val_rows T hM (val_var rfl)) ?_)
    dsimp only
    refine st_seq (x_set (x_lrg ((val_cmds T hM (val_var rfl)) _ ?_)))
    refine ⟨_, rfl, ⟨by omega, by omega, by omega, by omega, by omega⟩, fun c hc => ?_⟩
    have e0 : Same H (upd H c (.lst (rgV 0 (n : Int)))) := same_new hc
    have hM0 := hM.same e0
    have hcl : (upd H c (.lst (rgV 0 (n : Int)))) c = some (.lst (rgV 0 (n : Int))) := upd_same
    generalize upd H c (.lst (rgV 0 (n : Int))) = H0 at e0 hM0 hcl
    dsimp only
    have en : (rgV 0 (n : Int)).length = n := rg_len n
    have toN : ∀ {A : Int → Prop}, A (((rgV 0 (n : Int)).length : Nat) : Int) → A (n : Int) := fun {A} h => by rw [en] at h; exact h
    refine st_seq (st_forL (a := c) (xs := rgV 0 (n : Int)) (val_var rfl) (SqL.of hcl) (fun i σ' H' => ∃ x3 x4 x5 x6 x7 x8, σ' = [some (.ref p0), some (.ref ra), some (.ref c), x3, x4, x5, x6, x7, x8] ∧ Same H0 H' ∧ Nb R n (i : Int) 0 0 0)
      ⟨_, _, _, _, _, _, rfl, Same.refl _, nb_zero R n⟩ (fun i σ' H' _ ⟨_, _, _, _, _, _, _, e, _⟩ => SqL.of (e _ _ hcl)) ?_ ?_)
    · rintro i x σ' H' hi ⟨x3, x4, x5, x6, x7, x8, rfl, e1, hn1⟩
      obtain ⟨rfl, hi2⟩ := rg_get hi
      refine st_forL (a := c) (xs := rgV 0 (n : Int)) (val_var rfl) (SqL.of (e1 _ _ hcl)) (fun j σ' H' => ∃ x4 x5 x6 x7 x8, σ' = [some (.ref p0), some (.ref ra), some (.ref c), some (.int (i : Int)), x4, x5, x6, x7, x8] ∧ Same H0 H' ∧ Nb R n (i : Int) (j : Int) 0 0)
        ⟨_, _, _, _, _, rfl, e1, hn1⟩ (fun i σ' H' _ ⟨_, _, _, _, _, _, e, _⟩ => SqL.of (e _ _ hcl)) ?_ (fun σ' H' ⟨_, _, _, _, _, q1, q2, q3⟩ => ⟨_, _, _, _, _, _, q1, q2, nb_a (toN (A := fun z => Nb R n (i : Int) z 0 0) q3)⟩)
      rintro j x σ' H' hj ⟨x4, x5, x6, x7, x8, rfl, e2, hn2⟩
      obtain ⟨rfl, hj2⟩ := rg_get hj
      have ci : Cm n (i : Int) := ⟨by omega, hi2⟩
      have cj : Cm n (j : Int) := ⟨by omega, hj2⟩
      refine st_seq (st_set (val_entT (hM0.same e2).rows w (val_var rfl) (val_var rfl) (val_var rfl) ci cj) ?_)
      dsimp only
      -- the third one: all commands, or none
      cases ep : ent R (i : Int) (j : Int) with
      | none =>
        refine st_forS0 ?_ (fun H3 e3 => ⟨_, _, _, _, _, rfl, e2.trans e3, nb_b' hn2 fun c y _ _ ⟨p, q, h1, _⟩ => ?_⟩)
        · intro Q q
          refine (ans_and0 (a_notN (val_var rfl) rfl)) _ (iteF ?_)
          exact ⟨Nat.zero_le _, fun t ht => q t ht⟩
        · rw [ep] at h1
          cases h1
      | some p =>
        by_cases hp1 : p = -1
        · refine st_forS0 ?_ (fun H3 e3 => ⟨_, _, _, _, _, rfl, e2.trans e3, nb_b' hn2 fun c y _ _ ⟨p', q, h1, _, h3, _⟩ => ?_⟩)
          · intro Q q
            refine (ans_and (a_notN (val_var rfl) rfl) (a_ne (val_var rfl) val_c rfl (by rw [hp1] <;> rfl))) _ (iteF ?_)
            exact ⟨Nat.zero_le _, fun t ht => q t ht⟩
          · rw [ep] at h1
            cases h1
            exact h3 hp1
        · have cp : Cm n p := w.cm ci cj ep hp1
          refine st_forSL (a := c) (xs := rgV 0 (n : Int)) (val_ifT (ans_and (a_notN (val_var rfl) rfl) (a_ne (val_var rfl) val_c rfl (by simp [eV, hp1]))) (val_var rfl)) (SqL.of (e2 _ _ hcl))
            (fun l σ' H' => ∃ x6 x7 x8, σ' = [some (.ref p0), some (.ref ra), some (.ref c), some (.int (i : Int)), some (.int (j : Int)), some (.int p), x6, x7, x8] ∧ Same H0 H' ∧ Nb R n (i : Int) (j : Int) (l : Int) 0)
            ⟨_, _, _, rfl, e2, hn2⟩ (fun i σ' H' _ ⟨_, _, _, _, e, _⟩ => SqL.of (e _ _ hcl)) ?_ (fun σ' H' ⟨_, _, _, q1, q2, q3⟩ => ⟨_, _, _, _, _, q1, q2, nb_b (toN (A := fun z => Nb R n (i : Int) (j : Int) z 0) q3)⟩)
          rintro l x σ' H' hl ⟨x6, x7, x8, rfl, e3, hn3⟩
          obtain ⟨rfl, hl2⟩ := rg_get hl
          have cl : Cm n (l : Int) := ⟨by omega, hl2⟩
          have hM3 := hM0.same e3
          refine st_seq (st_set (val_entT hM3.rows w (val_var rfl) (val_var rfl) (val_var rfl) cj cl) ?_)
          dsimp only
          have t0 := val_entT (K := K) hM3.rows w (val_var (σ := [some (V.ref p0), some (.ref ra), some (.ref c), some (.int (i : Int)), some (.int (j : Int)), some (.int p), some (.int (l : Int)), some (eV (ent R (j : Int) (l : Int))), x8]) (i := 1) rfl) (val_var (i := 5) rfl) (val_var (i := 6) rfl) cp cl
          cases eq : ent R (j : Int) (l : Int) with
          | none =>
            refine st_no (ans_and0 (a_notN (val_var rfl) rfl)) ⟨_, _, _, rfl, e3, nb_c' hn3 fun y hy ⟨p', q, h1, h2, _⟩ => ?_⟩
            rw [eq] at h2
            cases h2
          | some q =>
            rw [eq] at t0
            by_cases hq1 : q = -1
            · refine st_no (ans_and (a_notN (val_var rfl) rfl) (ans_and0 (a_ne (val_var rfl) val_c rfl (by rw [hq1] <;> rfl)))) ⟨_, _, _, rfl, e3, nb_c' hn3 fun y hy ⟨p', q', h1, h2, h3, h4, _⟩ => ?_⟩
              rw [eq] at h2
              cases h2
              exact h4 hq1
            · have cq : Cm n q := w.cm cj cl eq hq1
              cases epl : ent R p (l : Int) with
              | some z =>
                rw [epl] at t0
                refine st_no (ans_and (a_notN (val_var rfl) rfl) (ans_and (a_ne (val_var rfl) val_c rfl (by simp [eV, hq1])) (a_isN t0 rfl))) ⟨_, _, _, rfl, e3, nb_c' hn3 fun y hy ⟨p', q', h1, h2, h3, h4, h5, _⟩ => ?_⟩
                rw [ep] at h1
                cases h1
                rw [epl] at h5
                cases h5
              | none =>
                rw [epl] at t0
                refine st_yes (ans_and (a_notN (val_var rfl) rfl) (ans_and (a_ne (val_var rfl) val_c rfl (by simp [eV, hq1])) (a_isN t0 rfl))) ?_
                refine st_forL (a := c) (xs := rgV 0 (n : Int)) (val_var rfl) (SqL.of (e3 _ _ hcl)) (fun m σ' H' => ∃ x8, σ' = [some (.ref p0), some (.ref ra), some (.ref c), some (.int (i : Int)), some (.int (j : Int)), some (.int p), some (.int (l : Int)), some (.int q), x8] ∧ Same H0 H' ∧ Nb R n (i : Int) (j : Int) (l : Int) (m : Int))
                  ⟨_, rfl, e3, hn3⟩ (fun i σ' H' _ ⟨_, _, e, _⟩ => SqL.of (e _ _ hcl)) ?_ (fun σ' H' ⟨_, q1, q2, q3⟩ => ⟨_, _, _, q1, q2, nb_c (toN (A := fun z => Nb R n (i : Int) (j : Int) (l : Int) z) q3)⟩)
                rintro m x σ' H' hm ⟨x8', rfl, e4, hn4⟩
                obtain ⟨rfl, hm2⟩ := rg_get hm
                have cm : Cm n (m : Int) := ⟨by omega, hm2⟩
                have hM4 := hM0.same e4
                have t1 := val_entT (K := K) hM4.rows w (val_var (σ := [some (V.ref p0), some (.ref ra), some (.ref c), some (.int (i : Int)), some (.int (j : Int)), some (.int p), some (.int (l : Int)), some (.int q), some (.int (m : Int))]) (i := 1) rfl) (val_var (i := 6) rfl) (val_var (i := 8) rfl) cl cm
                have t2 := val_entT (K := K) hM4.rows w (val_var (σ := [some (V.ref p0), some (.ref ra), some (.ref c), some (.int (i : Int)), some (.int (j : Int)), some (.int p), some (.int (l : Int)), some (.int q), some (.int (m : Int))]) (i := 1) rfl) (val_var (i := 7) rfl) (val_var (i := 8) rfl) cq cm
                cases e1' : ent R (l : Int) (m : Int) with
                | some z =>
                  rw [e1'] at t1
                  refine st_no (ans_and0 (a_isN t1 rfl)) ⟨_, rfl, e4, nb_y' hn4 fun ⟨_, _, _, _, _, _, _, h6, _⟩ => ?_⟩
                  rw [e1'] at h6
                  cases h6
                | none =>
                  rw [e1'] at t1
                  cases e2' : ent R q (m : Int) with
                  | none =>
                    rw [e2'] at t2
                    refine st_no (ans_and (a_isN t1 rfl) (a_notN t2 rfl)) ⟨_, rfl, e4, nb_y' hn4 fun ⟨p', q', h1, h2, _, _, _, _, h7⟩ => ?_⟩
                    rw [eq] at h2
                    cases h2
                    exact h7 e2'
                  | some z =>
                    rw [e2'] at t2
                    refine st_yes (ans_and (a_isN t1 rfl) (a_notN t2 rfl)) ?_
                    refine x_ret ((va_cons (val_var rfl) (va_cons (val_var rfl) (va_cons (val_var rfl) (va_cons (val_var rfl) va_nil)))) _ ⟨by show 4 ≤ sizeLine; decide, fun t ht => ?_⟩)
                    have g := k (some ((i : Int), (j : Int), (l : Int), (m : Int))) ⟨ci, cj, cl, cm, ⟨p, q, ep, eq, hp1, hq1, epl, e1', by rw [e2']; simp⟩, hn4⟩
                    exact g t _ ((e0.trans e4).trans (same_new ht)) upd_same
    · rintro σ' H' ⟨x3, x4, x5, x6, x7, x8, rfl, e1, hn1⟩
      dsimp only
      refine st_ret val_c ?_
      exact k none (nb_all (toN (A := fun z => Nb R n z 0 0 0) hn1)) _ (e0.trans e1)
end
end FF
set_option maxHeartbeats 4000000
namespace FF
open PySem PySem.Spec PyProof.Rows L2
section
variable {P : Program} {w : World} {K : PySem.W.Frag} {mg : Str → Option Value} {base : Heap}
/-! ### is_hand, kind_of_four, hand_triples -/
def HandR (R : Rws) (a b c : Int) : Prop := ∃ p q, ent R a b = some p ∧ ent R b c = some q ∧ p ≠ -1 ∧ q ≠ -1 ∧ ent R p c = none
def sp_is_hand (K : PySem.W.Frag) : Sp := fun vs H Q _ => ∃ (ra : Addr) (R : Rws) (n : Nat) (a b c : Int), vs = [.ref ra, .int a, .int b, .int c] ∧ RowsT K H ra R ∧ Wf R n ∧ Cm n a ∧ Cm n b ∧ Cm n c ∧
  ∀ r : Bool, (r = true ↔ HandR R a b c) → Q (.bl r) H
theorem ok_is_hand (T : Txt K mg) : FnOk P w K mg base CX0 1 (He.ga K "is_hand") T.fd_is_hand ["rows", "one", "two", "three"] (sp_is_hand K) := by
  refine T.F_is_hand.ok sc_is_hand (fun vs H Q E h => ?_) (fun cdv A outer s H vs Q E hr h => ?_)
  · obtain ⟨_, _, _, _, _, _, rfl, _⟩ := h; rfl
  · obtain ⟨ra, R, n, a, b, c, rfl, hR, w, ha, hb, hc, k⟩ := h
    refine ⟨_, PSs.nox ((pss_cons (ps_par (i := 4) (j := 5) rfl sc_is_hand.nd rfl rfl (by decide) rfl rfl (pa_cons (pe_ix (ixT (K := K) rfl) (pe_ix (ixT (K := K) rfl) (pv 0) (pv 1) (fun _ _ => rfl)) (pv 2) (fun _ _ => rfl)) (pa_cons (pe_ix (ixT (K := K) rfl) (pe_ix (ixT (K := K) rfl) (pv 0) (pv 2) (fun _ _ => rfl)) (pv 3) (fun _ _ => rfl)) pa_nil)) (by rfl))
        (pss_cons (ps_if (PW.pt (pw_or (pt_cmpR op_isN (pv 4) pe_non (nomark _)) (pw_or (pt_cmpR op_isN (pv 5) pe_non (nomark _)) (pw_or (pt_cmpR op_lt (pv 4) pe_int (nomark _)) (pw_or1 (pt_cmpR op_lt (pv 5) pe_int (nomark _)))))))
          (pss_one (ps_ret pe_bl))
          pss_nil)
        (pss_one (ps_ret (pe_cmpR op_isN (pe_ix (ixT (K := K) rfl) (pe_ix (ixT (K := K) rfl) (pv 0) (pv 4) (fun _ _ => rfl)) (pv 3) (fun _ _ => rfl)) pe_non (nomark _))))))), ?_⟩
    refine (val_entT hR w (val_var rfl) (val_var rfl) (val_var rfl) ha hb) _ ((val_entT hR w (val_var rfl) (val_var rfl) (val_var rfl) hb hc) _ ⟨_, _, rfl, ?_⟩)
    dsimp only
    cases ep : ent R a b with
    | none =>
      refine st_seq (st_yes (ans_or1 (a_isN (val_var rfl) rfl)) ?_)
      refine st_ret val_c (k false ⟨fun q => (by cases q), fun ⟨p, q, h1, _⟩ => ?_⟩)
      rw [ep] at h1
      cases h1
    | some p =>
      cases eq : ent R b c with
      | none =>
        refine st_seq (st_yes (ans_or (a_isN (val_var rfl) rfl) (ans_or1 (a_isN (val_var rfl) rfl))) ?_)
        refine st_ret val_c (k false ⟨fun q => (by cases q), fun ⟨p, q, h1, h2, _⟩ => ?_⟩)
        rw [eq] at h2
        cases h2
      | some q =>
        have bp := w.bd ha hb ep
        have bq := w.bd hb hc eq
        by_cases hp : p = -1
        · refine st_seq (st_yes (ans_or (a_isN (val_var rfl) rfl) (ans_or (a_isN (val_var rfl) rfl) (ans_or1 (a_bi (val_var rfl) val_c (decide_eq_true (by omega)))))) ?_)
          refine st_ret val_c (k false ⟨fun q => (by cases q), fun ⟨p', q', h1, h2, h3, _⟩ => ?_⟩)
          rw [ep] at h1
          cases h1
          exact absurd hp h3
        · by_cases hq : q = -1
          · refine st_seq (st_yes (ans_or (a_isN (val_var rfl) rfl) (ans_or (a_isN (val_var rfl) rfl) (ans_or (a_bi (val_var rfl) val_c (decide_eq_false (by omega))) (a_bi (val_var rfl) val_c (decide_eq_true (by omega)))))) ?_)
            refine st_ret val_c (k false ⟨fun q => (by cases q), fun ⟨p', q', h1, h2, h3, h4, _⟩ => ?_⟩)
            rw [eq] at h2
            cases h2
            exact absurd hq h4
          · refine st_seq (st_no (ans_or (a_isN (val_var rfl) rfl) (ans_or (a_isN (val_var rfl) rfl) (ans_or (a_bi (val_var rfl) val_c (decide_eq_false (by omega))) (a_bi (val_var rfl) val_c (decide_eq_false (by omega)))))) ?_)
            dsimp only
            refine st_ret (val_isN (val_entT hR w (val_var rfl) (val_var rfl) (val_var rfl) (w.cm ha hb ep hp) hc)) (k _ ⟨fun h => ?_, fun ⟨p', q', h1, h2, h3, h4, h5⟩ => ?_⟩)
            · rw [eV_non] at h
              exact ⟨p, q, ep, eq, hp, hq, Option.isNone_iff_eq_none.mp h⟩
            · rw [ep] at h1
              cases h1
              rw [h5]
              rfl
theorem c_hand {H : Hp} {ra : Addr} {R : Rws} {n : Nat} {a b c : Int} {σ : L2.St} {t0 t1 t2 t3 : TE} {E : XK} (hR : RowsT K H ra R) (w : Wf R n) (ha : Cm n a) (hb : Cm n b) (hc : Cm n c) (h0 : Val t0 σ H (.ref ra)) (h1 : Val t1 σ H (.int a)) (h2 : Val t2 σ H (.int b)) (h3 : Val t3 σ H (.int c)) :
    ∃ r : Bool, (r = true ↔ HandR R a b c) ∧ Ans (tB (tCall (sp_is_hand K) [] E (tCons t0 (tCons t1 (tCons t2 (tCons t3 tNil)))))) σ H r := by
  have hd : ∃ r : Bool, (r = true ↔ HandR R a b c) := by
    by_cases h : HandR R a b c
    · exact ⟨true, fun _ => h, fun _ => rfl⟩
    · exact ⟨false, fun q => (by cases q), fun q => absurd q h⟩
  obtain ⟨r, hr⟩ := hd
  refine ⟨r, hr, ans_tB (val_call (va_cons h0 (va_cons h1 (va_cons h2 (va_cons h3 va_nil)))) fun Q q E => ⟨ra, R, n, a, b, c, rfl, hR, w, ha, hb, hc, fun r' hr' => ?_⟩)⟩
  have e : r' = r := by
    cases r' with
    | true =>
      have := hr.mpr (hr'.mp rfl)
      rw [this]
    | false =>
      cases r with
      | true => exact absurd (hr'.mpr (hr.mp rfl)) (by decide)
      | false => rfl
  rw [e]
  exact q
/-- what a kind says of a four -/
def KindR (R : Rws) (x y z w : Int) : Prop :=
  (HandR R x y z ∧ HandR R y z w) ∨ (HandR R y z w ∧ ent R x y = none ∧ ∃ q, ent R y z = some q ∧ ent R x q ≠ none) ∨ (HandR R x y z ∧ ent R z w = none ∧ ∃ q, ent R y z = some q ∧ ent R q w ≠ none)
def sp_kind_of_four (K : PySem.W.Frag) : Sp := fun vs H Q _ => ∃ (ra f : Addr) (R : Rws) (n : Nat) (x y z w : Int), vs = [.ref ra, .ref f] ∧ RowsT K H ra R ∧ Wf R n ∧ Cm n x ∧ Cm n y ∧ Cm n z ∧ Cm n w ∧ H f = some (.tup (iq [x, y, z, w])) ∧
  (¬ KindR R x y z w → Q .non H) ∧ (KindR R x y z w → ∀ s : Str, Q (.str s) H)
theorem ok_kind_of_four (T : Txt K mg) : FnOk P w K mg base CX0 2 (He.ga K "kind_of_four") T.fd_kind_of_four ["rows", "four"] (sp_kind_of_four K) := by
  refine T.F_kind_of_four.ok sc_kind_of_four (fun vs H Q E h => ?_) (fun cdv A outer s H vs Q E hr h => ?_)
  · obtain ⟨_, _, _, _, _, _, _, _, rfl, _⟩ := h; rfl
  · obtain ⟨ra, f, R, n, x, y, z, w4, rfl, hR, w, hx, hy, hz, hw, hf, k0, k1⟩ := h
    refine ⟨_, PSs.nox ((pss_cons (ps_asg (pv 1) (pgT (K := K) rfl rfl (pgs_cons (pg_name (i := 2) sc_kind_of_four.nd rfl (Or.inl rfl)) (pgs_cons (pg_name (i := 3) sc_kind_of_four.nd rfl (Or.inl rfl)) (pgs_cons (pg_name (i := 4) sc_kind_of_four.nd rfl (Or.inl rfl)) (pgs_cons (pg_name (i := 5) sc_kind_of_four.nd rfl (Or.inl rfl)) pgs_nil))))))
        (pss_cons (ps_if (PW.pt (pw_and (pt_val (pe_call (ok_is_hand T) (hr.mono (by decide)) rfl T.m_is_hand T.F_is_hand.kp (bi_is_hand T) .nil pass0 (pa_cons (pv 0) (pa_cons (pv 2) (pa_cons (pv 3) (pa_cons (pv 4) pa_nil)))))) (pw_and1 (pt_val (pe_call (ok_is_hand T) (hr.mono (by decide)) rfl T.m_is_hand T.F_is_hand.kp (bi_is_hand T) .nil pass0 (pa_cons (pv 0) (pa_cons (pv 3) (pa_cons (pv 4) (pa_cons (pv 5) pa_nil)))))))))
          (pss_one (ps_ret (peS T.c_MIDDLE rfl)))
          pss_nil)
        (pss_cons (ps_if (PW.pt (pw_and (pt_val (pe_call (ok_is_hand T) (hr.mono (by decide)) rfl T.m_is_hand T.F_is_hand.kp (bi_is_hand T) .nil pass0 (pa_cons (pv 0) (pa_cons (pv 3) (pa_cons (pv 4) (pa_cons (pv 5) pa_nil)))))) (pw_and (pt_cmpR op_isN (pe_ix (ixT (K := K) rfl) (pe_ix (ixT (K := K) rfl) (pv 0) (pv 2) (fun _ _ => rfl)) (pv 3) (fun _ _ => rfl)) pe_non (nomark _)) (pw_and1 (pt_cmpR op_notN (pe_ix (ixT (K := K) rfl) (pe_ix (ixT (K := K) rfl) (pv 0) (pv 2) (fun _ _ => rfl)) (pe_ix (ixT (K := K) rfl) (pe_ix (ixT (K := K) rfl) (pv 0) (pv 3) (fun _ _ => rfl)) (pv 4) (fun _ _ => rfl)) (fun _ _ => rfl)) pe_non (nomark _))))))
          (pss_one (ps_ret (peS T.c_LEFT rfl)))
          pss_nil)
        (pss_cons (ps_if (PW.pt (pw_and (pt_val (pe_call (ok_is_hand T) (hr.mono (by decide)) rfl T.m_is_hand T.F_is_hand.kp (bi_is_hand T) .nil pass0 (pa_cons (pv 0) (pa_cons (pv 2) (pa_cons (pv 3) (pa_cons (pv 4) pa_nil)))))) (pw_and (pt_cmpR op_isN (pe_ix (ixT (K := K) rfl) (pe_ix (ixT (K := K) rfl) (pv 0) (pv 4) (fun _ _ => rfl)) (pv 5) (fun _ _ => rfl)) pe_non (nomark _)) (pw_and1 (pt_cmpR op_notN (pe_ix (ixT (K := K) rfl) (pe_ix (ixT (K := K) rfl) (pv 0) (pe_ix (ixT (K := K) rfl) (pe_ix (ixT (K := K) rfl) (pv 0) (pv 3) (fun _ _ => rfl)) (pv 4) (fun _ _ => rfl)) (fun _ _ => rfl)) (pv 5) (fun _ _ => rfl)) pe_non (nomark _))))))
          (pss_one (ps_ret (peS T.c_RIGHT rfl)))
          pss_nil)
        (pss_one (ps_ret pe_non))))))), ?_⟩
    refine st_seq ?_
    refine ⟨_, rfl, f, _, rfl, SqT.of hf, rfl, _, _, rfl, _, _, rfl, _, _, rfl, _, _, rfl, rfl, ?_⟩
    dsimp only [List.set]
    obtain ⟨b1, hb1, a1⟩ := c_hand (n := n) (E := E0) hR w hx hy hz (val_var (σ := [some (V.ref ra), some (.ref f), some (.int x), some (.int y), some (.int z), some (.int w4)]) (i := 0) rfl) (val_var (i := 2) rfl) (val_var (i := 3) rfl) (val_var (i := 4) rfl)
    obtain ⟨b2, hb2, a2⟩ := c_hand (n := n) (E := E0) hR w hy hz hw (val_var (σ := [some (V.ref ra), some (.ref f), some (.int x), some (.int y), some (.int z), some (.int w4)]) (i := 0) rfl) (val_var (i := 3) rfl) (val_var (i := 4) rfl) (val_var (i := 5) rfl)
    have exy := val_entT (K := K) hR w (val_var (σ := [some (V.ref ra), some (.ref f), some (.int x), some (.int y), some (.int z), some (.int w4)]) (i := 0) rfl) (val_var (i := 2) rfl) (val_var (i := 3) rfl) hx hy
    have eyz := val_entT (K := K) hR w (val_var (σ := [some (V.ref ra), some (.ref f), some (.int x), some (.int y), some (.int z), some (.int w4)]) (i := 0) rfl) (val_var (i := 3) rfl) (val_var (i := 4) rfl) hy hz
    have ezw := val_entT (K := K) hR w (val_var (σ := [some (V.ref ra), some (.ref f), some (.int x), some (.int y), some (.int z), some (.int w4)]) (i := 0) rfl) (val_var (i := 4) rfl) (val_var (i := 5) rfl) hz hw
    refine st_seq (st_if (ans_and' a1 (fun _ => a2)) (fun h => ?_) (fun h12 => ?_))
    · have h1 : b1 = true := by cases b1 <;> simp at h ⊢
      have h2 : b2 = true := by rw [h1] at h; exact h
      exact st_ret val_c (k1 (.inl ⟨hb1.mp h1, hb2.mp h2⟩) _)
    · dsimp only
      -- LEFT
      have left : ∃ b : Bool, (b = true ↔ HandR R y z w4 ∧ ent R x y = none ∧ ∃ q, ent R y z = some q ∧ ent R x q ≠ none) ∧ Ans (tAnd (tB (tCall (sp_is_hand K) [] E0 (tCons (tVar 0) (tCons (tVar 3) (tCons (tVar 4) (tCons (tVar 5) tNil)))))) (tAnd (tTest (tOp (fun x y H Q => y = .non ∧ Q (.bl (decide (x = .non))) H) (tOp (rIxT K) (tOp (rIxT K) (tVar 0) (tVar 2)) (tVar 3)) (tC .non))) (tTest (tOp (fun x y H Q => y = .non ∧ Q (.bl (!decide (x = .non))) H) (tOp (rIxT K) (tOp (rIxT K) (tVar 0) (tVar 2)) (tOp (rIxT K) (tOp (rIxT K) (tVar 0) (tVar 3)) (tVar 4))) (tC .non))))) [some (V.ref ra), some (.ref f), some (.int x), some (.int y), some (.int z), some (.int w4)] H b := by
        cases hb : b2 with
        | false =>
          rw [hb] at a2 hb2
          exact ⟨false, ⟨fun q => (by cases q), fun ⟨h, _⟩ => absurd (hb2.mpr h) (by decide)⟩, ans_and0 a2⟩
        | true =>
          rw [hb] at a2 hb2
          obtain ⟨q, r, q1, q2, q3, q4, q5⟩ := hb2.mp rfl
          have cq := w.cm hy hz q1 q3
          cases e1 : ent R x y with
          | some v =>
            rw [e1] at exy
            exact ⟨false, ⟨fun q => (by cases q), fun ⟨_, h, _⟩ => (by cases h)⟩, ans_and a2 (ans_and0 (a_isN exy rfl))⟩
          | none =>
            rw [e1] at exy
            rw [q1] at eyz
            have exq := val_entT (K := K) hR w (val_var (σ := [some (V.ref ra), some (.ref f), some (.int x), some (.int y), some (.int z), some (.int w4)]) (i := 0) rfl) (val_var (i := 2) rfl) eyz hx cq
            refine ⟨!(ent R x q).isNone, ⟨fun h => ⟨hb2.mp rfl, rfl, q, q1, fun e => ?_⟩, fun ⟨_, _, q', h1, h2⟩ => ?_⟩, ans_and a2 (ans_and (a_isN exy rfl) (a_notN exq (by rw [eV_non])))⟩
            · rw [e] at h; cases h
            · rw [q1] at h1
              cases h1
              cases e : ent R x q with
              | none => exact absurd e h2
              | some v => rfl
      obtain ⟨bl, hbl, al⟩ := left
      refine st_seq (st_if al (fun h => ?_) (fun hl => ?_))
      · exact st_ret val_c (k1 (.inr (.inl (hbl.mp h))) _)
      · dsimp only
        have right : ∃ b : Bool, (b = true ↔ HandR R x y z ∧ ent R z w4 = none ∧ ∃ q, ent R y z = some q ∧ ent R q w4 ≠ none) ∧ Ans (tAnd (tB (tCall (sp_is_hand K) [] E0 (tCons (tVar 0) (tCons (tVar 2) (tCons (tVar 3) (tCons (tVar 4) tNil)))))) (tAnd (tTest (tOp (fun x y H Q => y = .non ∧ Q (.bl (decide (x = .non))) H) (tOp (rIxT K) (tOp (rIxT K) (tVar 0) (tVar 4)) (tVar 5)) (tC .non))) (tTest (tOp (fun x y H Q => y = .non ∧ Q (.bl (!decide (x = .non))) H) (tOp (rIxT K) (tOp (rIxT K) (tVar 0) (tOp (rIxT K) (tOp (rIxT K) (tVar 0) (tVar 3)) (tVar 4))) (tVar 5)) (tC .non))))) [some (V.ref ra), some (.ref f), some (.int x), some (.int y), some (.int z), some (.int w4)] H b := by
          cases hb : b1 with
          | false =>
            rw [hb] at a1 hb1
            exact ⟨false, ⟨fun q => (by cases q), fun ⟨h, _⟩ => absurd (hb1.mpr h) (by decide)⟩, ans_and0 a1⟩
          | true =>
            rw [hb] at a1 hb1
            obtain ⟨p, q, q1, q2, q3, q4, q5⟩ := hb1.mp rfl
            have cq := w.cm hy hz q2 q4
            cases e1 : ent R z w4 with
            | some v =>
              rw [e1] at ezw
              exact ⟨false, ⟨fun q => (by cases q), fun ⟨_, h, _⟩ => (by cases h)⟩, ans_and a1 (ans_and0 (a_isN ezw rfl))⟩
            | none =>
              rw [e1] at ezw
              rw [q2] at eyz
              have eqw := val_entT (K := K) hR w (val_var (σ := [some (V.ref ra), some (.ref f), some (.int x), some (.int y), some (.int z), some (.int w4)]) (i := 0) rfl) eyz (val_var (i := 5) rfl) cq hw
              refine ⟨!(ent R q w4).isNone, ⟨fun h => ⟨hb1.mp rfl, rfl, q, q2, fun e => ?_⟩, fun ⟨_, _, q', h1, h2⟩ => ?_⟩, ans_and a1 (ans_and (a_isN ezw rfl) (a_notN eqw (by rw [eV_non])))⟩
              · rw [e] at h; cases h
              · rw [q2] at h1
                cases h1
                cases e : ent R q w4 with
                | none => exact absurd e h2
                | some v => rfl
        obtain ⟨br, hbr, ar⟩ := right
        refine st_seq (st_if ar (fun h => ?_) (fun hr2 => ?_))
        · exact st_ret val_c (k1 (.inr (.inr (hbr.mp h))) _)
        · dsimp only
          refine st_next ?_
          dsimp only
          refine st_ret val_c ?_
          refine k0 ?_
          rintro (⟨h1, h2⟩ | h | h)
          · rw [hb1.mpr h1, hb2.mpr h2] at h12
            cases h12
          · rw [hbl.mpr h] at hl
            cases hl
          · rw [hbr.mpr h] at hr2
            cases hr2
/-- a triple stands at u -/
def TripAt (R : Rws) (n : Nat) (H : Hp) (u : Addr) : Prop := ∃ a b c, Cm n a ∧ Cm n b ∧ Cm n c ∧ HandR R a b c ∧ H u = some (.tup (iq [a, b, c]))
def sp_hand_triples (K : PySem.W.Frag) : Sp := fun vs H Q _ => ∃ (p ra : Addr) (R : Rws) (n : Nat), vs = [.ref p] ∧ MerAt K H p R n ra ∧
  ∀ (H' : Hp) (t : Addr) (ts : List Addr), Same H H' → H' t = some (.tup (ts.map V.ref)) → ts.length ≤ n * n * n → (∀ u ∈ ts, TripAt R n H' u) → Q (.ref t) H'
/-- the word of the loops: the list under way -/
structure TrW (R : Rws) (n : Nat) (H : Hp) (l : Addr) (m : Nat) (H' : Hp) : Prop where
  nl : H l = none
  same : Same H H'
  lst : ∃ ts : List Addr, H' l = some (.lst (ts.map V.ref)) ∧ ts.length ≤ m ∧ ∀ u ∈ ts, TripAt R n H' u
theorem TrW.more {R : Rws} {n : Nat} {H : Hp} {l : Addr} {m m' : Nat} {H' : Hp} (h : TrW R n H l m H') (k : m ≤ m') : TrW R n H l m' H' := by
  obtain ⟨h1, h2, ts, h3, h4, h5⟩ := h
  exact ⟨h1, h2, ts, h3, by omega, h5⟩
theorem ok_hand_triples (T : Txt K mg) : FnOk P w K mg base CX0 1 (He.ga K "hand_triples") T.fd_hand_triples ["merger"] (sp_hand_triples K) := by
  refine T.F_hand_triples.ok sc_hand_triples (fun vs H Q E h => ?_) (fun cdv A outer s H vs Q E hr h => ?_)
  · obtain ⟨_, _, _, _, rfl, _⟩ := h; rfl
  · obtain ⟨p0, ra, R, n, rfl, hM, k⟩ := h
    refine ⟨_, PSs.nox ((pss_cons (ps_set (i := 1) sc_hand_triples.nd rfl (Or.inl rfl) (fldQ (K := K) rfl (pv 0) rfl))
        (pss_cons (ps_set (i := 2) sc_hand_triples.nd rfl (Or.inl rfl) (pe_lst pa_nil))
        (pss_cons (ps_for PassesOwn.never rfl (pi_range1 (by rfl) T.z_range (pa_cons (fldQ (K := K) rfl (pv 0) rfl) pa_nil)) (pg_name (i := 3) sc_hand_triples.nd rfl (Or.inl rfl))
          (pss_one (ps_for PassesOwn.never rfl (pi_range1 (by rfl) T.z_range (pa_cons (fldQ (K := K) rfl (pv 0) rfl) pa_nil)) (pg_name (i := 4) sc_hand_triples.nd rfl (Or.inl rfl))
            (pss_cons (ps_set (i := 5) sc_hand_triples.nd rfl (Or.inl rfl) (pe_ix (ixT (K := K) rfl) (pe_ix (ixT (K := K) rfl) (pv 1) (pv 3) (fun _ _ => rfl)) (pv 4) (fun _ _ => rfl)))
            (pss_cons (ps_if (PW.pt (pw_or (pt_cmpR op_isN (pv 5) pe_non (nomark _)) (pw_or1 (pt_cmpR op_lt (pv 5) pe_int (nomark _)))))
              (pss_one ps_continue)
              pss_nil)
            (pss_one (ps_for PassesOwn.never rfl (pi_range1 (by rfl) T.z_range (pa_cons (fldQ (K := K) rfl (pv 0) rfl) pa_nil)) (pg_name (i := 6) sc_hand_triples.nd rfl (Or.inl rfl))
              (pss_cons (ps_set (i := 7) sc_hand_triples.nd rfl (Or.inl rfl) (pe_ix (ixT (K := K) rfl) (pe_ix (ixT (K := K) rfl) (pv 1) (pv 4) (fun _ _ => rfl)) (pv 6) (fun _ _ => rfl)))
              (pss_one (ps_if (PW.pt (pw_and (pt_cmpR op_notN (pv 7) pe_non (nomark _)) (pw_and (pt_cmpR op_ge (pv 7) pe_int (nomark _)) (pw_and1 (pt_cmpR op_isN (pe_ix (ixT (K := K) rfl) (pe_ix (ixT (K := K) rfl) (pv 1) (pv 5) (fun _ _ => rfl)) (pv 6) (fun _ _ => rfl)) pe_non (nomark _))))))
                (pss_one (ps_expr (pe_bm PySem.F.plainAttrs_list PySem.F.slot_list_append PySem.F.type_list_append mt_append (pv 2) (pa_cons (pe_tup (pa_cons (pv 3) (pa_cons (pv 4) (pa_cons (pv 6) pa_nil)))) pa_nil))))
                pss_nil))))))))))
        (pss_one (ps_ret (pe_callTy (T := "tuple") (tupleQ (K := K) rfl) (by rfl) T.z_tuple (by decide +kernel) (pa_cons (pv 2) pa_nil)))))))), ?_⟩
    have w := hM.wf
    have w2 := w.le
    have w1 := w.pos
    have en : ((n : Int).toNat) = n := by omega
    refine st_seq (st_set (val_rows T hM (val_var rfl)) ?_)
    dsimp only
    refine st_seq (x_set ⟨Nat.zero_le _, fun l hl => ?_⟩)
    dsimp only
    refine st_seq (st_forR1 (n := (n : Int)) (va_cons (val_cmds T (hM.same (same_new hl)) (val_var rfl)) va_nil) (by omega) (by omega) (fun i σ' H' => ∃ x3 x4 x5 x6 x7, σ' = [some (.ref p0), some (.ref ra), some (.ref l), x3, x4, x5, x6, x7] ∧ TrW R n H l (i * (n * n)) H')
      ⟨_, _, _, _, _, rfl, hl, same_new hl, [], upd_same, Nat.zero_le _, fun u hu => by cases hu⟩ ?_ ?_)
    · rintro i σ' H' hi ⟨x3, x4, x5, x6, x7, rfl, W1⟩
      refine st_forR1 (n := (n : Int)) (va_cons (val_cmds T (hM.same W1.same) (val_var rfl)) va_nil) (by omega) (by omega) (fun j σ' H' => ∃ x4 x5 x6 x7, σ' = [some (.ref p0), some (.ref ra), some (.ref l), some (.int (i : Int)), x4, x5, x6, x7] ∧ TrW R n H l (i * (n * n) + j * n) H')
        ⟨_, _, _, _, rfl, W1.more (by omega)⟩ ?_ (fun σ' H' ⟨_, _, _, _, e1, e2⟩ => ⟨_, _, _, _, _, e1, e2.more (by rw [en, Nat.add_mul]; omega)⟩)
      rintro j σ' H' hj ⟨x4, x5, x6, x7, rfl, W2⟩
      have ci : Cm n (i : Int) := ⟨by omega, hi⟩
      have cj : Cm n (j : Int) := ⟨by omega, hj⟩
      refine st_seq (st_set (val_entT (hM.same W2.same).rows w (val_var rfl) (val_var rfl) (val_var rfl) ci cj) ?_)
      dsimp only
      have skip : ∀ σ2 : L2.St, (∃ x4 x5 x6 x7, σ2 = [some (V.ref p0), some (.ref ra), some (.ref l), some (.int (i : Int)), x4, x5, x6, x7]) → ∃ x4 x5 x6 x7, σ2 = [some (V.ref p0), some (.ref ra), some (.ref l), some (.int (i : Int)), x4, x5, x6, x7] ∧ TrW R n H l (i * (n * n) + (j + 1) * n) H' := fun σ2 ⟨y4, y5, y6, y7, e⟩ => ⟨y4, y5, y6, y7, e, W2.more (by rw [Nat.add_mul]; omega)⟩
      cases ep : ent R (i : Int) (j : Int) with
      | none =>
        refine st_seq (st_yes (ans_or1 (a_isN (val_var rfl) rfl)) ?_)
        exact skip _ ⟨_, _, _, _, rfl⟩
      | some p =>
        have bp := w.bd ci cj ep
        by_cases hp : p = -1
        · refine st_seq (st_yes (ans_or (a_isN (val_var rfl) rfl) (a_bi (val_var rfl) val_c (decide_eq_true (by omega)))) ?_)
          exact skip _ ⟨_, _, _, _, rfl⟩
        · have cp := w.cm ci cj ep hp
          refine st_seq (st_no (ans_or (a_isN (val_var rfl) rfl) (a_bi (val_var rfl) val_c (decide_eq_false (by omega)))) ?_)
          refine st_next ?_
          dsimp only
          refine st_forR1 (n := (n : Int)) (va_cons (val_cmds T (hM.same W2.same) (val_var rfl)) va_nil) (by omega) (by omega) (fun m σ' H' => ∃ x6 x7, σ' = [some (.ref p0), some (.ref ra), some (.ref l), some (.int (i : Int)), some (.int (j : Int)), some (.int p), x6, x7] ∧ TrW R n H l (i * (n * n) + j * n + m) H')
            ⟨_, _, rfl, W2⟩ ?_ (fun σ' H' ⟨_, _, e1, e2⟩ => ⟨_, _, _, _, e1, e2.more (by rw [en, Nat.add_mul]; omega)⟩)
          rintro m σ' H' hm ⟨x6, x7, rfl, W3⟩
          have cm : Cm n (m : Int) := ⟨by omega, hm⟩
          have hM3 := hM.same W3.same
          refine st_seq (st_set (val_entT hM3.rows w (val_var rfl) (val_var rfl) (val_var rfl) cj cm) ?_)
          dsimp only
          have t0 := val_entT (K := K) hM3.rows w (val_var (σ := [some (V.ref p0), some (.ref ra), some (.ref l), some (.int (i : Int)), some (.int (j : Int)), some (.int p), some (.int (m : Int)), some (eV (ent R (j : Int) (m : Int)))]) (i := 1) rfl) (val_var (i := 5) rfl) (val_var (i := 6) rfl) cp cm
          cases eq : ent R (j : Int) (m : Int) with
          | none => exact st_no (ans_and0 (a_notN (val_var rfl) rfl)) ⟨_, _, rfl, W3.more (by omega)⟩
          | some q =>
            rw [eq] at t0
            have bq := w.bd cj cm eq
            by_cases hq : q = -1
            · exact st_no (ans_and (a_notN (val_var rfl) rfl) (ans_and0 (a_bi (val_var rfl) val_c (decide_eq_false (by omega))))) ⟨_, _, rfl, W3.more (by omega)⟩
            · cases epm : ent R p (m : Int) with
              | some z =>
                rw [epm] at t0
                exact st_no (ans_and (a_notN (val_var rfl) rfl) (ans_and (a_bi (val_var rfl) val_c (decide_eq_true (by omega))) (a_isN t0 rfl))) ⟨_, _, rfl, W3.more (by omega)⟩
              | none =>
                rw [epm] at t0
                refine st_yes (ans_and (a_notN (val_var rfl) rfl) (ans_and (a_bi (val_var rfl) val_c (decide_eq_true (by omega))) (a_isN t0 rfl))) ?_
                obtain ⟨h1, h2, ts, h3, h4, h5⟩ := W3
                refine x_drop ⟨_, rfl, .inl ⟨rfl, _, SqL.of h3⟩, _, rfl, _, rfl, _, rfl, by show 3 ≤ sizeLine; decide, fun u hu => ?_⟩
                have hul : u ≠ l := fun e => by rw [e, h3] at hu; cases hu
                have e1 : Same H' (upd H' u (.tup [.int (i : Int), .int (j : Int), .int (m : Int)])) := same_new hu
                have hb : ts.length ≤ 2000 := by
                  have q1 : i * (n * n) ≤ 11 * 144 := Nat.mul_le_mul (by omega) (Nat.mul_le_mul w2 w2)
                  have q2 : j * n ≤ 11 * 12 := Nat.mul_le_mul (by omega) w2
                  omega
                refine ⟨l, _, _, rfl, rfl, e1 _ _ h3, by rw [List.length_map]; exact Nat.lt_of_le_of_lt hb (by decide), ?_⟩
                refine ⟨_, _, rfl, h1, same_mut (h2.trans e1) h1, ts ++ [u], by rw [upd_same, List.map_append]; rfl, by rw [List.length_append]; simp; omega, fun v hv => ?_⟩
                have key : ∀ v, v ≠ l → TripAt R n (upd H' u (.tup [.int (i : Int), .int (j : Int), .int (m : Int)])) v → TripAt R n (upd (upd H' u (.tup [.int (i : Int), .int (j : Int), .int (m : Int)])) l (.lst (ts.map V.ref ++ [.ref u]))) v := fun v hvl ⟨a, b, c, q1, q2, q3, q4, q5⟩ => ⟨a, b, c, q1, q2, q3, q4, by rw [upd_ne hvl]; exact q5⟩
                rcases List.mem_append.mp hv with hv | hv
                · obtain ⟨a, b, c, q1, q2, q3, q4, q5⟩ := h5 v hv
                  exact key v (fun e => by rw [e, h3] at q5; cases q5) ⟨a, b, c, q1, q2, q3, q4, e1 _ _ q5⟩
                · rw [List.mem_singleton.mp hv]
                  exact key u hul ⟨i, j, m, ci, cj, cm, ⟨p, q, ep, eq, hp, hq, epm⟩, upd_same⟩
    · rintro σ' H' ⟨x3, x4, x5, x6, x7, rfl, h1, h2, ts, h3, h4, h5⟩
      dsimp only
      refine ⟨_, rfl, l, _, rfl, .inl ⟨SqL.of h3, fun t ht => ?_⟩⟩
      have e1 : Same H' (upd H' t (.tup (ts.map V.ref))) := same_new ht
      refine k _ t ts (h2.trans e1) upd_same (by rw [en] at h4; rw [Nat.mul_assoc]; exact h4) fun u hu => ?_
      obtain ⟨a, b, c, q1, q2, q3, q4, q5⟩ := h5 u hu
      exact ⟨a, b, c, q1, q2, q3, q4, e1 _ _ q5⟩
end
end FF
set_option maxHeartbeats 4000000
namespace FF
open PySem PySem.Spec PyProof.Rows L2
section
variable {P : Program} {w : World} {K : PySem.W.Frag} {mg : Str → Option Value} {base : Heap}
/-! ### _law_is_sound, _law_queue, _law_once -/
def SndAt (R : Rws) (a b c : Int) : Prop := ∀ p q, ent R a b = some p → ent R b c = some q → metLI R p c = metRI R a q
def sp_law_is_sound (K : PySem.W.Frag) : Sp := fun vs H Q _ => ∃ (ra : Addr) (rs : List Addr) (R : Rws) (n : Nat), vs = [.ref ra] ∧ RowsL H ra rs R ∧ Wf R n ∧ ∀ b : Bool, (b = true → SoundR R n) → Q (.bl b) H
theorem ok_law_is_sound (T : Txt K mg) : FnOk P w K mg base CX0 2 (He.ga K "_law_is_sound") T.fd_law_is_sound ["_law_rows_here"] (sp_law_is_sound K) := by
  refine T.F_law_is_sound.ok sc_law_is_sound (fun vs H Q E h => ?_) (fun cdv A outer s H vs Q E hr h => ?_)
  · obtain ⟨_, _, _, _, rfl, _⟩ := h; rfl
  · obtain ⟨ra, rs, R, n, rfl, hR, w, k⟩ := h
    refine ⟨_, PSs.nox ((pss_cons (ps_for PassesOwn.never rfl (pi_range1 (by rfl) T.z_range (pa_cons (pe_callB (lenQ (K := K) rfl) (by rfl) T.z_len boot_len (pa_cons (pv 0) pa_nil)) pa_nil)) (pg_name (i := 1) sc_law_is_sound.nd rfl (Or.inl rfl))
          (pss_one (ps_for PassesOwn.never rfl (pi_range1 (by rfl) T.z_range (pa_cons (pe_callB (lenQ (K := K) rfl) (by rfl) T.z_len boot_len (pa_cons (pv 0) pa_nil)) pa_nil)) (pg_name (i := 2) sc_law_is_sound.nd rfl (Or.inl rfl))
            (pss_one (ps_for PassesOwn.never rfl (pi_range1 (by rfl) T.z_range (pa_cons (pe_callB (lenQ (K := K) rfl) (by rfl) T.z_len boot_len (pa_cons (pv 0) pa_nil)) pa_nil)) (pg_name (i := 3) sc_law_is_sound.nd rfl (Or.inl rfl))
              (pss_one (ps_if (PW.pt (pw_and (pt_cmpR op_notN (pe_ix (ixL (K := K) rfl) (pe_ix (ixL (K := K) rfl) (pv 0) (pv 1) (fun _ _ => rfl)) (pv 2) (fun _ _ => rfl)) pe_non (nomark _)) (pw_and1 (pt_cmpR op_notN (pe_ix (ixL (K := K) rfl) (pe_ix (ixL (K := K) rfl) (pv 0) (pv 2) (fun _ _ => rfl)) (pv 3) (fun _ _ => rfl)) pe_non (nomark _)))))
                (pss_one (ps_if (pt_cmpR op_ne (pe_call (ok_law_end T) (hr.mono (by decide)) rfl T.m_law_end T.F_law_end.kp (bi_law_end T) .nil pass0 (pa_cons (pv 0) (pa_cons (pe_ix (ixL (K := K) rfl) (pe_ix (ixL (K := K) rfl) (pv 0) (pv 1) (fun _ _ => rfl)) (pv 2) (fun _ _ => rfl)) (pa_cons (pv 3) pa_nil)))) (pe_call (ok_law_end T) (hr.mono (by decide)) rfl T.m_law_end T.F_law_end.kp (bi_law_end T) .nil pass0 (pa_cons (pv 0) (pa_cons (pv 1) (pa_cons (pe_ix (ixL (K := K) rfl) (pe_ix (ixL (K := K) rfl) (pv 0) (pv 2) (fun _ _ => rfl)) (pv 3) (fun _ _ => rfl)) pa_nil)))) (nomark _))
                  (pss_one (ps_ret pe_bl))
                  pss_nil))
                pss_nil)))))))
        (pss_one (ps_ret pe_bl)))), ?_⟩
    have w2 := w.le
    have hlr : (rs.map V.ref).length = n := by rw [List.length_map, plen hR.row, w.len]
    have en : (((n : Int).toNat : Nat) : Int) = (n : Int) := by omega
    have len : ∀ {σ : L2.St}, σ[0]? = some (some (.ref ra)) → Val (tCB (rLenQ K) (tCons (tVar 0) tNil)) σ H (.int (n : Int)) := fun h => (val_lenS (val_var h) (.inl (SqL.of hR.top))).to (by rw [hlr])
    refine st_seq (st_forR1 (n := (n : Int)) (va_cons (len rfl) va_nil) (by omega) (by omega) (fun i σ' H' => ∃ x1 x2 x3, σ' = [some (.ref ra), x1, x2, x3] ∧ H = H' ∧ ∀ a b c, Cm n a → Cm n b → Cm n c → a < (i : Int) → SndAt R a b c)
      ⟨_, _, _, rfl, rfl, fun a b c ha _ _ h => absurd ha.1 (by omega)⟩ ?_ ?_)
    · rintro i σ' H' hi ⟨x1, x2, x3, rfl, rfl, g1⟩
      refine st_forR1 (n := (n : Int)) (va_cons (len rfl) va_nil) (by omega) (by omega) (fun j σ' H' => ∃ x2 x3, σ' = [some (.ref ra), some (.int (i : Int)), x2, x3] ∧ H = H' ∧ ∀ b c, Cm n b → Cm n c → b < (j : Int) → SndAt R (i : Int) b c)
        ⟨_, _, rfl, rfl, fun b c hb _ h => absurd hb.1 (by omega)⟩ ?_ (fun σ' H' ⟨_, _, e1, e2, e3⟩ => ⟨_, _, _, e1, e2, fun a b c ha hb hc h => ?_⟩)
      · rintro j σ' H' hj ⟨x2, x3, rfl, rfl, g2⟩
        refine st_forR1 (n := (n : Int)) (va_cons (len rfl) va_nil) (by omega) (by omega) (fun l σ' H' => ∃ x3, σ' = [some (.ref ra), some (.int (i : Int)), some (.int (j : Int)), x3] ∧ H = H' ∧ ∀ c, Cm n c → c < (l : Int) → SndAt R (i : Int) (j : Int) c)
          ⟨_, rfl, rfl, fun c hc h => absurd hc.1 (by omega)⟩ ?_ (fun σ' H' ⟨_, e1, e2, e3⟩ => ⟨_, _, e1, e2, fun b c hb hc h => ?_⟩)
        · rintro l σ' H' hl ⟨x3, rfl, rfl, g3⟩
          have ci : Cm n (i : Int) := ⟨by omega, hi⟩
          have cj : Cm n (j : Int) := ⟨by omega, hj⟩
          have cl : Cm n (l : Int) := ⟨by omega, hl⟩
          have t1 := val_entL (K := K) hR w (val_var (σ := [some (V.ref ra), some (.int (i : Int)), some (.int (j : Int)), some (.int (l : Int))]) (i := 0) rfl) (val_var (i := 1) rfl) (val_var (i := 2) rfl) ci cj
          have t2 := val_entL (K := K) hR w (val_var (σ := [some (V.ref ra), some (.int (i : Int)), some (.int (j : Int)), some (.int (l : Int))]) (i := 0) rfl) (val_var (i := 2) rfl) (val_var (i := 3) rfl) cj cl
          have more : SndAt R (i : Int) (j : Int) (l : Int) → ∃ x3, [some (V.ref ra), some (.int (i : Int)), some (.int (j : Int)), some (.int (l : Int))] = [some (.ref ra), some (.int (i : Int)), some (.int (j : Int)), x3] ∧ H = H ∧ ∀ c, Cm n c → c < ((l + 1 : Nat) : Int) → SndAt R (i : Int) (j : Int) c := fun s => ⟨_, rfl, rfl, fun c hc h => by
            by_cases e : c = (l : Int)
            · rw [e]; exact s
            · exact g3 c hc (by omega)⟩
          cases ep : ent R (i : Int) (j : Int) with
          | none =>
            rw [ep] at t1
            exact st_no (ans_and0 (a_notN t1 rfl)) (more fun p q h1 => by rw [ep] at h1; cases h1)
          | some p =>
            cases eq : ent R (j : Int) (l : Int) with
            | none =>
              rw [ep] at t1
              rw [eq] at t2
              exact st_no (ans_and (a_notN t1 rfl) (a_notN t2 rfl)) (more fun p q _ h2 => by rw [eq] at h2; cases h2)
            | some q =>
              rw [ep] at t1
              rw [eq] at t2
              refine st_yes (ans_and (a_notN t1 rfl) (a_notN t2 rfl)) ?_
              have hp := w.gc ci cj ep
              have hq := w.gc cj cl eq
              have v1 : Val (tCall (sp_law_end K) [] E0 (tCons (tVar 0) (tCons (tOp (rIxL K) (tOp (rIxL K) (tVar 0) (tVar 1)) (tVar 2)) (tCons (tVar 3) tNil)))) [some (V.ref ra), some (.int (i : Int)), some (.int (j : Int)), some (.int (l : Int))] H (eV (metLI R p (l : Int))) := by
                refine val_call (va_cons (val_var rfl) (va_cons t1 (va_cons (val_var rfl) va_nil))) fun Q' q' E => ⟨ra, rs, R, n, p, l, rfl, hR, w, hp, .inr cl, ?_⟩
                unfold metLI at q'
                by_cases h : p = -1
                · rw [if_pos h]; rw [if_pos h] at q'; exact q'
                · rw [if_neg h]; rw [if_neg h] at q'; unfold metRI; rw [if_neg cl.ne]; exact q'
              have v2 : Val (tCall (sp_law_end K) [] E0 (tCons (tVar 0) (tCons (tVar 1) (tCons (tOp (rIxL K) (tOp (rIxL K) (tVar 0) (tVar 2)) (tVar 3)) tNil)))) [some (V.ref ra), some (.int (i : Int)), some (.int (j : Int)), some (.int (l : Int))] H (eV (metRI R (i : Int) q)) := by
                refine val_call (va_cons (val_var rfl) (va_cons (val_var rfl) (va_cons t2 va_nil))) fun Q' q' E => ⟨ra, rs, R, n, i, q, rfl, hR, w, .inr ci, hq, ?_⟩
                rw [if_neg ci.ne]
                exact q'
              have sc : ∀ e1 e2 : Option Int, scal (eV e1) (eV e2) = true := fun e1 e2 => by cases e1 <;> cases e2 <;> rfl
              by_cases h : metLI R p (l : Int) = metRI R (i : Int) q
              · exact st_no (a_ne v1 v2 (sc _ _) (by rw [h]; simp)) (more fun p' q' h1 h2 => by
                  rw [ep] at h1
                  rw [eq] at h2
                  cases h1
                  cases h2
                  exact h)
              · refine st_yes (a_ne v1 v2 (sc _ _) ?_) ?_
                · have : eV (metLI R p (l : Int)) ≠ eV (metRI R (i : Int) q) := fun e => h (by
                    cases e1 : metLI R p (l : Int) <;> cases e2 : metRI R (i : Int) q <;> rw [e1, e2] at e <;> simp [eV] at e ⊢
                    exact e)
                  rw [decide_eq_false this]
                  rfl
                · refine st_ret val_c ?_
                  exact k false fun q => by cases q
        · by_cases e : b = (j : Int)
          · rw [e]
            exact e3 c hc (by rw [en]; exact hc.2)
          · exact g2 b c hb hc (by omega)
      · by_cases e : a = (i : Int)
        · rw [e]
          exact e3 b c hb hc (by rw [en]; exact hb.2)
        · exact g1 a b c ha hb hc (by omega)
    · rintro σ' H' ⟨x1, x2, x3, rfl, rfl, g1⟩
      dsimp only
      refine st_ret val_c ?_
      exact k true fun _ a b c p q ha hb hc h1 h2 => g1 a b c ha hb hc (by rw [en]; exact ha.2) p q h1 h2
/-- a queue is drawn; the box alone changes, a tuple is new -/
def sp_law_queue : Sp := fun vs H Q _ => ∃ (b : Addr) (m t g r : Int), vs = [.ref b, .int m, .int t] ∧ 0 < m ∧ m < 1000 ∧ 0 ≤ t ∧ t < 1000 ∧ H b = some (.lst [.int g, .int r]) ∧
  ∀ (H' : Hp) (a : Addr) (q : List Int) (g' r' : Int), SameX b H H' → H' b = some (.lst [.int g', .int r']) → H' a = some (.tup (iq q)) → (∀ x ∈ q, 0 ≤ x ∧ x < m) → (q.length : Int) ≤ t → Q (.ref a) H'
theorem ok_law_queue (T : Txt K mg) : FnOk P w K mg base CX0 2 (He.ga K "_law_queue") T.fd_law_queue ["_law_box_here", "_law_many", "_law_most"] sp_law_queue := by
  refine T.F_law_queue.ok sc_law_queue (fun vs H Q E h => ?_) (fun cdv A outer s H vs Q E hr h => ?_)
  · obtain ⟨_, _, _, _, _, rfl, _⟩ := h; rfl
  · obtain ⟨b, m, t, g, r, rfl, m0, m1, t0, t1, hb, k⟩ := h
    refine ⟨_, PSs.nox ((pss_one (ps_ret (pe_callTy (T := "tuple") (tupleQ (K := K) rfl) (by rfl) T.z_tuple (by decide +kernel) (pa_cons (pe_lc (own := [("_law_turn", 3)]) rfl sc_law_queue.nd (pi_range1 (by rfl) T.z_range (pa_cons (pe_call (ok_law_take T) (hr.mono (by decide)) rfl T.m_law_take T.F_law_take.kp (bi_law_take T) .nil pass0 (pa_cons (pv 0) (pa_cons (pe_op op_add (pv 2) pe_int) pa_nil))) pa_nil)) (blkOk_by (N := ["_law_box_here", "_law_many", "_law_most", "_law_turn"]) (sc := defScope s_law_queue) (own := [("_law_turn", 3)]) (by decide +kernel)) (fun _ _ _ _ _ => (pg_name (i := 3) sc_law_queue.nd rfl (Or.inl rfl))) (fun _ _ _ _ _ => pts_nil) (fun _ _ _ _ _ => (pe_call (ok_law_take T) (hr.mono (by decide)) rfl T.m_law_take T.F_law_take.kp (bi_law_take T) .nil pass0 (pa_cons (pv 0) (pa_cons (pv 1) pa_nil))))) pa_nil))))), ?_⟩
    refine x_ret (x_cb1 (x_lcR1 (x_call ((va_cons (val_var rfl) (va_cons (val_add (val_var rfl) val_c) va_nil)) _ ?_))))
    refine ⟨b, t + 1, g, r, rfl, by omega, by omega, hb, fun d g1 r1 d0 d1 => ⟨d, rfl, by omega, by omega, fun D hD => ?_⟩⟩
    have hDb : D ≠ b := fun e => by rw [e, upd_same] at hD; cases hD
    have hD0 : H D = none := by rw [upd_ne hDb] at hD; exact hD
    refine lc_range (lo := 0) (n := d.toNat) (fun i H' => ∃ (q : List Int) (g' r' : Int), SameX b H H' ∧ H' b = some (.lst [.int g', .int r']) ∧ H' D = some (.lst (iq q)) ∧ (∀ x ∈ q, 0 ≤ x ∧ x < m) ∧ q.length = i)
      ⟨[], g1, r1, samex_upd.mut hD0, by rw [upd_ne hDb.symm, upd_same], upd_same, (fun x hx => by cases hx), rfl⟩ ?_ ?_
    · rintro i H' hi ⟨q, g', r', e1, e2, e3, e4, e5⟩
      refine ⟨rfl, x_yt ?_⟩
      refine x_call ((va_cons (val_var rfl) (va_cons (val_var rfl) va_nil)) _ ?_)
      refine ⟨b, m, g', r', rfl, m0, by omega, e2, fun x g2 r2 x0 x1 => ⟨iq q, by rw [upd_ne hDb]; exact e3, ?_, q ++ [x], g2, r2, ?_, ?_, ?_, ?_, ?_⟩⟩
      · rw [List.length_map, e5]
        exact Nat.lt_of_le_of_lt (show i ≤ 1000 by omega) (by decide)
      · exact (e1.trans samex_upd).mut hD0
      · rw [upd_ne hDb.symm, upd_same]
      · rw [upd_same]
        simp [iq]
      · intro y hy
        rcases List.mem_append.mp hy with h | h
        · exact e4 y h
        · rw [List.mem_singleton.mp h]
          exact ⟨x0, x1⟩
      · rw [List.length_append, e5]
        rfl
    · rintro H' ⟨q, g', r', e1, e2, e3, e4, e5⟩
      refine ⟨D, _, rfl, .inl ⟨SqL.of e3, fun a ha => ?_⟩⟩
      have ea : Same H' (upd H' a (.tup (iq q))) := same_new ha
      exact k _ a q g' r' (e1.then ea) (ea _ _ e2) upd_same e4 (by omega)
def sp_law_once (K : PySem.W.Frag) : Sp := fun vs H Q _ => ∃ (ra qa : Addr) (rs : List Addr) (R : Rws) (n : Nat) (q : List Int) (i : Nat) (x y : Int), vs = [.ref ra, .ref qa, .int (i : Int)] ∧ RowsL H ra rs R ∧ Wf R n ∧ H qa = some (.tup (iq q)) ∧ QOk n q ∧ q.length ≤ 10000 ∧ q[i]? = some x ∧ q[i + 1]? = some y ∧
  (ent R x y = none → Q .non H) ∧ (∀ z, ent R x y = some z → ∀ t H', Same H H' → H' t = some (.tup (iq (once R q i z))) → Q (.ref t) H')
theorem ok_law_once (T : Txt K mg) : FnOk P w K mg base CX0 1 (He.ga K "_law_once") T.fd_law_once ["_law_rows_here", "_law_queue_here", "_law_place"] (sp_law_once K) := by
  refine T.F_law_once.ok sc_law_once (fun vs H Q E h => ?_) (fun cdv A outer s H vs Q E hr h => ?_)
  · obtain ⟨_, _, _, _, _, _, _, _, _, rfl, _⟩ := h; rfl
  · obtain ⟨ra, qa, rs, R, n, q, i, x, y, rfl, hR, w, hqa, hq, hl, hx, hy, k0, k1⟩ := h
    refine ⟨_, PSs.nox ((pss_cons (ps_set (i := 3) sc_law_once.nd rfl (Or.inl rfl) (pe_ifExp (pt_cmpR op_lt (pe_op op_add (pv 2) pe_int) (pe_callB (lenQ (K := K) rfl) (by rfl) T.z_len boot_len (pa_cons (pv 1) pa_nil)) (nomark _)) (pe_ix (ixL (K := K) rfl) (pe_ix (ixL (K := K) rfl) (pv 0) (pe_ix (ixT (K := K) rfl) (pv 1) (pv 2) (fun _ _ => rfl)) (fun _ _ => rfl)) (pe_ix (ixT (K := K) rfl) (pv 1) (pe_op op_add (pv 2) pe_int) (fun _ _ => rfl)) (fun _ _ => rfl)) pe_non))
        (pss_cons (ps_if (pt_cmpR op_isN (pv 3) pe_non (nomark _))
          (pss_one (ps_ret pe_non))
          pss_nil)
        (pss_one (ps_ret (pe_op (catQ (K := K) rfl) (pe_op (catQ (K := K) rfl) (pe_slice (sliceQ (K := K) rfl) (pv 1) po_none (po_some (pv 2))) (pe_ifExp (pt_cmpR op_eq (pv 3) (pe_op op_sub pe_int pe_int) (nomark _)) (pe_tup pa_nil) (pe_tup (pa_cons (pv 3) pa_nil)))) (pe_slice (sliceQ (K := K) rfl) (pv 1) (po_some (pe_op op_add (pv 2) pe_int)) po_none))))))), ?_⟩
    have h1 := (List.getElem?_eq_some_iff.mp hy).1
    have cx := hq x (List.mem_of_getElem? hx)
    have cy := hq y (List.mem_of_getElem? hy)
    have hlq : (iq q).length = q.length := List.length_map ..
    refine st_seq (st_set (val_ifT (a_bi (j := (q.length : Int)) (val_add (val_var rfl) val_c) ((val_lenS (val_var rfl) (.inr (SqT.of hqa))).to (by rw [hlq])) (decide_eq_true (by omega))) (val_entL hR w (val_var rfl) (val_ixT (val_var rfl) (val_var rfl) (SqT.of hqa) (ixQ hx)) (val_ixT (val_var rfl) (val_add (val_var rfl) val_c) (SqT.of hqa) (ixQ (i := i + 1) hy)) cx cy)) ?_)
    dsimp only
    cases ez : ent R x y with
    | none =>
      refine st_seq (st_yes (a_isN (val_var rfl) rfl) ?_)
      refine st_ret val_c ?_
      exact k0 ez
    | some z =>
      refine st_seq (st_no (a_isN (val_var rfl) rfl) ?_)
      refine st_next ?_
      dsimp only
      have e : iq (once R q i z) = ((iq q).take i ++ iq (Mt.oL (dec z))) ++ (iq q).drop (i + 2) := by
        unfold once
        simp [iq, List.map_append, List.map_take, List.map_drop]
      have h2 : (iq (Mt.oL (dec z))).length ≤ 1 := by rw [List.length_map]; unfold dec; by_cases hz : z = -1 <;> simp [hz, Mt.oL]
      have m1 : ∀ {σ : L2.St} {H : Hp}, Val (tOp (rI0 fun i j => .int (i - j)) (tC (.int 0)) (tC (.int 1))) σ H (.int (-1)) := fun {σ H} => (val_sub (i := 0) (j := 1) val_c val_c).to rfl
      refine x_ret (tu_to (tu_cat (tu_cat (tu_head (tu_val (val_var rfl) hqa) (fun _ _ => val_var rfl) (by omega)) (fun H1 e1 => ?_) (by rw [List.length_take]; omega)) (fun H1 e1 => tu_tail (i := i + 2) (tu_val (val_var rfl) (e1 _ _ hqa)) (fun _ _ => val_add (i := (i : Int)) (j := 2) (val_var rfl) val_c)) (by rw [List.length_append, List.length_take, List.length_drop]; omega)) e.symm _ ?_)
      · by_cases hz : z = -1
        · rw [hz]
          exact tu_if (a_eq (val_var rfl) m1 rfl (b := true) rfl) (fun _ => tu_new va_nil (by show (0 : Nat) ≤ 100000; decide)) (fun q => by cases q)
        · rw [dec_no hz]
          exact tu_if (a_eq (val_var rfl) m1 rfl (b := false) (by simp [eV, hz])) (fun q => by cases q) (fun _ => tu_new (va_cons (val_var rfl) va_nil) (by show (1 : Nat) ≤ 100000; decide))
      · exact k1 z ez
end
end FF
set_option maxHeartbeats 4000000
namespace FF
open PySem PySem.Spec PyProof.Rows L2
section
variable {P : Program} {w : World} {K : PySem.W.Frag} {mg : Str → Option Value} {base : Heap}
/-! ### Stretches.joined -/
def GoodE (n : Nat) (e : Int) : Prop := e = -1 ∨ Cm n e
def metI (R : Rws) (a b : Int) : Option Int := if a = -1 then some b else metRI R a b
theorem dec_inj {a b : Int} (h : dec a = dec b) : a = b := by
  unfold dec at h
  by_cases ha : a = -1
  · by_cases hb : b = -1
    · rw [ha, hb]
    · rw [if_pos ha, if_neg hb] at h; cases h
  · by_cases hb : b = -1
    · rw [if_neg ha, if_pos hb] at h; cases h
    · rw [if_neg ha, if_neg hb] at h; exact Option.some.inj h
theorem met_dec {R : Rws} {n : Nat} {a b : Int} (ha : GoodE n a) (hb : GoodE n b) : Mt.met (mm R n) (dec a) (dec b) = (metI R a b).map dec := by
  unfold metI metRI
  by_cases h1 : a = -1
  · rw [if_pos h1, h1]
    rfl
  · rw [if_neg h1, dec_no h1]
    by_cases h2 : b = -1
    · rw [if_pos h2, h2]
      show some (some a) = some (dec a)
      rw [dec_no h1]
    · rw [if_neg h2, dec_no h2]
      exact mm_in (ha.resolve_left h1) (hb.resolve_left h2)
theorem metI_good {R : Rws} {n : Nat} {a b e : Int} (w : Wf R n) (ha : GoodE n a) (hb : GoodE n b) (h : metI R a b = some e) : GoodE n e := by
  unfold metI metRI at h
  by_cases h1 : a = -1
  · rw [if_pos h1] at h; rw [← Option.some.inj h]; exact hb
  · rw [if_neg h1] at h
    by_cases h2 : b = -1
    · rw [if_pos h2] at h; rw [← Option.some.inj h]; exact ha
    · rw [if_neg h2] at h
      exact w.gc (ha.resolve_left h1) (hb.resolve_left h2) h
/-- the keys: what a stretch comes to -/
structure EndsD (R : Rws) (n : Nat) (q : List Int) (i j : Nat) (es : List (Key × V)) : Prop where
  key : ∀ kv ∈ es, ∃ e : Int, kv.1 = .inl e ∧ GoodE n e ∧ Mt.Comes (mm R n) (Mt.slc q i j) (dec e)
  all : ∀ o, Mt.Comes (mm R n) (Mt.slc q i j) o → ∃ (e : Int) (v : V), (Sum.inl e, v) ∈ es ∧ dec e = o
  nd : (es.map (·.1)).Nodup
theorem nd_len : ∀ (n : Nat) (l : List Int), l.Nodup → (∀ x ∈ l, -1 ≤ x ∧ x < n) → l.length ≤ n + 1
  | 0, l, nd, h => by
    match l, nd, h with
    | [], _, _ => simp
    | [_], _, _ => simp
    | x :: y :: l, nd, h =>
      have h1 := h x (by simp)
      have h2 := h y (by simp)
      have : x = y := by omega
      rw [this] at nd
      simp at nd
  | n + 1, l, nd, h => by
    have h2 : (l.erase (n : Int)).length ≤ n + 1 := nd_len n _ (nd.erase _) fun x hx => by
      have hm := List.mem_of_mem_erase hx
      have := h x hm
      have hne : x ≠ (n : Int) := fun e => by
        rw [e] at hx
        exact absurd hx (List.Nodup.not_mem_erase nd)
      omega
    by_cases hm : (n : Int) ∈ l
    · rw [List.length_erase_of_mem hm] at h2
      omega
    · rw [List.erase_of_not_mem hm] at h2
      omega
theorem keys_len {n : Nat} {es : List (Key × V)} (hn : n ≤ 12) (nd : (es.map (·.1)).Nodup) (h : ∀ kv ∈ es, ∃ e : Int, kv.1 = .inl e ∧ GoodE n e) : es.length ≤ 13 := by
  have h1 : ∃ l : List Int, es.map (·.1) = l.map Sum.inl := by
    clear nd
    induction es with
    | nil => exact ⟨[], rfl⟩
    | cons kv es ih =>
      obtain ⟨l, hl⟩ := ih fun kv hk => h kv (List.mem_cons_of_mem _ hk)
      obtain ⟨e, he, _⟩ := h kv (List.mem_cons_self ..)
      exact ⟨e :: l, by rw [List.map_cons, List.map_cons, he, hl]⟩
  obtain ⟨l, hl⟩ := h1
  have nd2 : l.Nodup := by
    rw [hl] at nd
    exact List.Pairwise.of_map (S := fun a b : Key => a ≠ b) Sum.inl (fun a b h e => h (by rw [e])) nd
  have : l.length ≤ n + 1 := nd_len n l nd2 fun x hx => by
    have hm : (Sum.inl x : Key) ∈ es.map (·.1) := by rw [hl]; exact List.mem_map.mpr ⟨x, hx, rfl⟩
    obtain ⟨kv, hk, e⟩ := List.mem_map.mp hm
    obtain ⟨e', he', g⟩ := h kv hk
    rw [he'] at e
    have ee : e' = x := by injection e
    subst ee
    rcases g with g | g
    · omega
    · have := g.1; have := g.2; omega
  have e2 := congrArg List.length hl
  rw [List.length_map, List.length_map] at e2
  omega
theorem valV_mem {κ : Type} [DecidableEq κ] {kvs : List (κ × V)} {k : κ} {v : V} (h : (k, v) ∈ kvs) : (valV kvs k).isSome = true := by
  rw [← valV_any]
  exact List.any_eq_true.mpr ⟨(k, v), h, decide_eq_true rfl⟩
theorem valV_none {κ : Type} [DecidableEq κ] {kvs : List (κ × V)} {k : κ} (h : valV kvs k = none) : k ∉ kvs.map (·.1) := fun hm => by
  obtain ⟨⟨k', v⟩, h1, h2⟩ := List.mem_map.mp hm
  have e : k' = k := h2
  subst e
  have := valV_mem h1
  rw [h] at this
  cases this
theorem valV_some {κ : Type} [DecidableEq κ] {kvs : List (κ × V)} {k : κ} (h : (valV kvs k).isSome = true) : ∃ v, (k, v) ∈ kvs := by
  rw [← valV_any] at h
  obtain ⟨⟨k', v⟩, h1, h2⟩ := List.any_eq_true.mp h
  have e : k' = k := of_decide_eq_true h2
  subst e
  exact ⟨v, h1⟩
/-- the dict of the comings; S: which stretches stand in it -/
structure ComK (H : Hp) (R : Rws) (n : Nat) (q : List Int) (kvs : List (List Key × V)) (S : Nat → Nat → Prop) : Prop where
  at_ : ∀ i j : Nat, S i j → ∃ (a : Addr) (es : List (Key × V)), valV kvs [.inl (i : Int), .inl (j : Int)] = some (.ref a) ∧ H a = some (.dK es) ∧ EndsD R n q i j es
  inj : ∀ k1 k2 (a : Addr), valV kvs k1 = some (.ref a) → valV kvs k2 = some (.ref a) → k1 = k2
structure SelfS (K : PySem.W.Frag) (H : Hp) (p ra D : Addr) (fs : List (Str × V)) (kvs : List (List Key × V)) (R : Rws) : Prop where
  ins : ∃ dx, H p = some (.ins (He.ga K "Stretches") dx fs)
  frows : fs.lookup ("rows" : Str) = some (.ref ra)
  fcom : fs.lookup ("comings" : Str) = some (.ref D)
  rows : RowsT K H ra R
  dict : H D = some (.dT kvs)
theorem SelfS.same {K : PySem.W.Frag} {H H' : Hp} {p ra D : Addr} {fs : List (Str × V)} {kvs : List (List Key × V)} {R : Rws} (h : SelfS K H p ra D fs kvs R) (e : Same H H') : SelfS K H' p ra D fs kvs R :=
  ⟨let ⟨dx, h1⟩ := h.ins; ⟨dx, e _ _ h1⟩, h.frows, h.fcom, h.rows.same e, e _ _ h.dict⟩
theorem SqT.offD {K : PySem.W.Frag} {H : Hp} {a b : Addr} {xs : List V} {es : List (Key × V)} {o : HO} (h : SqT K H a xs) (hb : H b = some (.dK es)) : SqT K (upd H b o) a xs := by
  rcases h with (h | ⟨u, h⟩) | h
  · exact .inl (.inl (by rw [upd_ne (ne_of h hb (by intro q; cases q))]; exact h))
  · exact .inl (.inr ⟨u, by rw [upd_ne (ne_of h hb (by intro q; cases q))]; exact h⟩)
  · exact .inr h
theorem SelfS.lock {K : PySem.W.Frag} {H : Hp} {p ra D b : Addr} {fs : List (Str × V)} {kvs : List (List Key × V)} {R : Rws} {es : List (Key × V)} {o : HO} (h : SelfS K H p ra D fs kvs R) (hb : H b = some (.dK es)) : SelfS K (upd H b o) p ra D fs kvs R := by
  obtain ⟨⟨dx, h1⟩, h2, h3, ⟨rs, h4, h5⟩, h6⟩ := h
  refine ⟨⟨dx, ?_⟩, h2, h3, ⟨rs, SqT.offD h4 hb, pmap h5 fun r row q => SqT.offD q hb⟩, ?_⟩
  · rw [upd_ne (ne_of h1 hb (by intro q; cases q))]; exact h1
  · rw [upd_ne (ne_of h6 hb (by intro q; cases q))]; exact h6
theorem same_updL {H H' : Hp} {a : Addr} {o : HO} (e : Same H H') : Same (upd H a o) (upd H' a o) := fun b u h => by
  by_cases hb : b = a
  · rw [hb, upd_same] at h ⊢
    exact h
  · rw [upd_ne hb] at h ⊢
    exact e b u h
theorem same_unlock {H H' : Hp} {a : Addr} {o u : HO} (ha : H a = some u) (e : Same (upd H a o) H') : Same H (upd H' a u) := fun b x h => by
  by_cases hb : b = a
  · rw [hb, upd_same]
    rw [hb, ha] at h
    exact h
  · rw [upd_ne hb]
    exact e b x (by rw [upd_ne hb]; exact h)
theorem val_com (T : Txt K mg) {H : Hp} {p ra D : Addr} {fs : List (Str × V)} {kvs : List (List Key × V)} {R : Rws} {σ : L2.St} {ta : TE} (h : SelfS K H p ra D fs kvs R) (ha : Val ta σ H (.ref p)) : Val (tFld K ta "comings") σ H (.ref D) := by
  obtain ⟨dx, h1⟩ := h.ins
  exact val_fld ha h1 T.cl_Stretches T.na_Stretches_comings h.fcom
theorem val_srows (T : Txt K mg) {H : Hp} {p ra D : Addr} {fs : List (Str × V)} {kvs : List (List Key × V)} {R : Rws} {σ : L2.St} {ta : TE} (h : SelfS K H p ra D fs kvs R) (ha : Val ta σ H (.ref p)) : Val (tFld K ta "rows") σ H (.ref ra) := by
  obtain ⟨dx, h1⟩ := h.ins
  exact val_fld ha h1 T.cl_Stretches T.na_Stretches_rows h.frows
/-- d[i, j] -/
theorem evs_com {H : Hp} {σ : L2.St} {td : TE} {ta : TA} {D : Addr} {kvs : List (List Key × V)} {i j : Int} {v : V} (hd : Val td σ H (.ref D)) (hD : H D = some (.dT kvs)) (ha : ValA ta σ H [.int i, .int j]) (hv : valV kvs [.inl i, .inl j] = some v) : EvS (tDGet td (tTup ta)) σ H v := fun Q q =>
  hd _ (ha _ ⟨by show 2 ≤ sizeLine; decide, fun p hp => ⟨D, v, rfl, by
    have h := DGet.t (H := upd H p (.tup [.int i, .int j])) (a := D) (b := p) (kvs := kvs) (k := [.inl i, .inl j]) (by rw [upd_ne (ne_of_none hD hp)]; exact hD) upd_same
    rw [hv] at h
    exact h, q _ (same_new hp)⟩⟩)
theorem a_dnotin {H : Hp} {σ : L2.St} {ty td : TE} {a : Addr} {kvs : List (Key × V)} {k : Key} {b : Bool} (hy : Val ty σ H (kV k)) (hd : Val td σ H (.ref a)) (e : H a = some (.dK kvs)) (hb : (!(valV kvs k).isSome) = b) : Ans (tTest (tDNotIn ty td)) σ H b := fun Q q =>
  hy _ (hd _ ⟨a, _, rfl, DGet.k e, _, rfl, by rw [hb]; exact q⟩)
def HasK (cur : List (Key × V)) (R : Rws) (n : Nat) (o1 o2 : Option Int) : Prop := ∀ o, Mt.met (mm R n) o1 o2 = some o → ∃ (e : Int) (v : V), (Sum.inl e, v) ∈ cur ∧ dec e = o
def HasCut (cur : List (Key × V)) (R : Rws) (n : Nat) (q : List Int) (i c j : Nat) : Prop := ∀ o1 o2, Mt.Comes (mm R n) (Mt.slc q i c) o1 → Mt.Comes (mm R n) (Mt.slc q c j) o2 → HasK cur R n o1 o2
structure PartD (R : Rws) (n : Nat) (q : List Int) (i j : Nat) (cur : List (Key × V)) : Prop where
  key : ∀ kv ∈ cur, ∃ e : Int, kv.1 = .inl e ∧ GoodE n e ∧ Mt.Comes (mm R n) (Mt.slc q i j) (dec e)
  nd : (cur.map (·.1)).Nodup
theorem HasK.mono {cur more : List (Key × V)} {R : Rws} {n : Nat} {o1 o2 : Option Int} (h : HasK cur R n o1 o2) : HasK (cur ++ more) R n o1 o2 := fun o ho => by
  obtain ⟨e, v, h1, h2⟩ := h o ho
  exact ⟨e, v, List.mem_append_left _ h1, h2⟩
theorem HasCut.mono {cur more : List (Key × V)} {R : Rws} {n : Nat} {q : List Int} {i c j : Nat} (h : HasCut cur R n q i c j) : HasCut (cur ++ more) R n q i c j := fun o1 o2 h1 h2 => (h o1 o2 h1 h2).mono
theorem st_dputT {H : Hp} {σ : L2.St} {td ty : TE} {ta : TA} {D : Ends} {xs : List V} (ha : ValA ta σ H xs) (hl : xs.length ≤ 100) (h : ∀ t, H t = none → td σ (upd H t (.tup xs)) fun x H2 => ty σ H2 fun y H3 => ∃ a H4, x = .ref a ∧ DPut H3 a y (.ref t) H4 ∧ D.nx σ H4) : sDPut td ty (tTup ta) D σ H :=
  ha _ ⟨Nat.le_trans hl (by decide), fun t ht => h t ht⟩
theorem keys_ne {i c j i' c' : Nat} (h : i < c) : ([.inl (i : Int), .inl (c : Int)] : List Key) ≠ [.inl (c : Int), .inl (j : Int)] := fun e => by
  injection e with e1 _
  injection e1 with e2
  omega
def sp_Stretches_joined (K : PySem.W.Frag) : Sp := fun vs H Q _ => ∃ (p ra D : Addr) (fs : List (Str × V)) (kvs : List (List Key × V)) (R : Rws) (n : Nat) (q : List Int) (i j : Nat), vs = [.ref p, .int (i : Int), .int (j : Int)] ∧ SelfS K H p ra D fs kvs R ∧ Wf R n ∧ QOk n q ∧ q.length ≤ 1000 ∧ i + 2 ≤ j ∧ j ≤ q.length ∧
  ComK H R n q kvs (fun a b => a < b ∧ b ≤ q.length ∧ b - a < j - i) ∧ ∀ (f : Addr) (H' : Hp) (es : List (Key × V)), Same H H' → H f = none → H' f = some (.dK es) → EndsD R n q i j es → Q (.ref f) H'
theorem ok_Stretches_joined (T : Txt K mg) : FnOk P w K mg base CX0 2 (He.ma K (He.ga K "Stretches") "joined") T.fd_Stretches_joined ["self", "first", "last"] (sp_Stretches_joined K) := by
  refine T.F_Stretches_joined.ok sc_Stretches_joined (fun vs H Q E h => ?_) (fun cdv A outer s H vs Q E hr h => ?_)
  · obtain ⟨_, _, _, _, _, _, _, _, _, _, rfl, _⟩ := h; rfl
  · obtain ⟨p, ra, D, fs, kvs, R, n, q, i, j, rfl, hS, w, hq, hl, hij, hj, hC, k⟩ := h
    refine ⟨_, PSs.nox ((pss_cons (ps_set (i := 3) sc_Stretches_joined.nd rfl (Or.inl rfl) pe_dnewK)
        (pss_cons (ps_for PassesOwn.never rfl (pi_range2 (by rfl) T.z_range (pa_cons (pe_op op_add (pv 1) pe_int) (pa_cons (pv 2) pa_nil))) (pg_name (i := 4) sc_Stretches_joined.nd rfl (Or.inl rfl))
          (pss_one (ps_lock (ps_for PassesOwn.never rfl (pi_keys (pe_dget (hu_of hr) (fldQ (K := K) rfl (pv 0) rfl) (pe_tup (pa_cons (pv 1) (pa_cons (pv 4) pa_nil))) (fun _ _ => rfl))) (pg_name (i := 5) sc_Stretches_joined.nd rfl (Or.inl rfl))
            (pss_one (ps_lock (ps_for PassesOwn.never rfl (pi_keys (pe_dget (hu_of hr) (fldQ (K := K) rfl (pv 0) rfl) (pe_tup (pa_cons (pv 4) (pa_cons (pv 2) pa_nil))) (fun _ _ => rfl))) (pg_name (i := 6) sc_Stretches_joined.nd rfl (Or.inl rfl))
              (pss_cons (ps_set (i := 7) sc_Stretches_joined.nd rfl (Or.inl rfl) (pe_call (ok_met_end T) (hr.mono (by decide)) rfl T.m_met_end T.F_met_end.kp (bi_met_end T) .nil pass0 (pa_cons (fldQ (K := K) rfl (pv 0) rfl) (pa_cons (pv 5) (pa_cons (pv 6) pa_nil)))))
              (pss_one (ps_if (PW.pt (pw_and (pt_cmpR op_notN (pv 7) pe_non (nomark _)) (pw_and1 (pt_cmp (pc_dnotin (hu_of hr) (pv 7) (pv 3))))))
                (pss_one (ps_dput (hu_of hr) (pv 3) (pv 7) (pe_tup (pa_cons (pv 4) (pa_cons (pv 5) (pa_cons (pv 6) pa_nil)))) rfl))
                pss_nil))))))))))
        (pss_one (ps_ret (pv 3)))))), ?_⟩
    have w2 := w.le
    refine st_seq (x_set fun f hf => ?_)
    dsimp only
    have eij : (((j : Int) - ((i : Int) + 1)).toNat : Nat) = j - (i + 1) := by omega
    refine st_seq (st_forR2 (lo := (i : Int) + 1) (n := (j : Int)) (va_cons (val_add (val_var rfl) val_c) (va_cons (val_var rfl) va_nil)) (by omega) (by omega) (by omega) (by omega)
      (fun c σ' H' => ∃ x4 x5 x6 x7 cur, σ' = [some (.ref p), some (.int (i : Int)), some (.int (j : Int)), some (.ref f), x4, x5, x6, x7] ∧ Same H H' ∧ H' f = some (.dK cur) ∧ PartD R n q i j cur ∧ ∀ ct, i + 1 ≤ ct → ct < i + 1 + c → HasCut cur R n q i ct j)
      ⟨_, _, _, _, [], rfl, same_new hf, upd_same, ⟨(fun kv h => by cases h), List.nodup_nil⟩, fun ct h1 h2 => by omega⟩ ?_ ?_)
    · rintro c σ' H1 hc ⟨x4, x5, x6, x7, cur, rfl, e1, hf1, pd, done⟩
      obtain ⟨ct, hct⟩ : ∃ ct : Nat, ct = i + 1 + c := ⟨_, rfl⟩
      have ect : ((i : Int) + 1 + (c : Int)) = (ct : Int) := by omega
      rw [ect]
      have hcj : ct < j := by omega
      obtain ⟨A, esA, vA, hA, eA⟩ := hC.at_ i ct ⟨by omega, by omega, by omega⟩
      obtain ⟨B, esB, vB, hB, eB⟩ := hC.at_ ct j ⟨by omega, by omega, by omega⟩
      have hAB : A ≠ B := fun e => by
        rw [e] at vA
        exact keys_ne (i' := 0) (c' := 0) (by omega) (hC.inj _ _ _ vA vB)
      have hfA : f ≠ A := fun e => by rw [e, hA] at hf; cases hf
      have hfB : f ≠ B := fun e => by rw [e, hB] at hf; cases hf
      have hA1 := e1 _ _ hA
      have lenA := keys_len w2 eA.nd fun kv hk => let ⟨e, h1, h2, _⟩ := eA.key kv hk; ⟨e, h1, h2⟩
      have lenB := keys_len w2 eB.nd fun kv hk => let ⟨e, h1, h2, _⟩ := eB.key kv hk; ⟨e, h1, h2⟩
      refine st_forK (d := A) (kvs := esA) hA1 (fun od => evs_com (val_com T ((hS.same e1).lock hA1) (val_var rfl)) (by rw [upd_ne (ne_of (e1 _ _ hS.dict) hA1 (by intro z; cases z))]; exact e1 _ _ hS.dict) (va_cons (val_var rfl) (va_cons (val_var rfl) va_nil)) vA)
        (fun od a σ' H2 => ∃ x5 x6 x7 cur, σ' = [some (.ref p), some (.int (i : Int)), some (.int (j : Int)), some (.ref f), some (.int (ct : Int)), x5, x6, x7] ∧ Same (upd H A (.frz od (.dK esA))) H2 ∧ H2 f = some (.dK cur) ∧ PartD R n q i j cur ∧ (∀ ct', i + 1 ≤ ct' → ct' < ct → HasCut cur R n q i ct' j) ∧
          ∀ a' x v, a' < a → esA[a']? = some (Sum.inl x, v) → ∀ o2, Mt.Comes (mm R n) (Mt.slc q ct j) o2 → HasK cur R n (dec x) o2)
        (fun od H2 e2 => ⟨_, _, _, cur, rfl, (same_updL e1).trans e2, e2 _ _ (by rw [upd_ne hfA]; exact hf1), pd, fun ct' h1 h2 => done ct' h1 (by omega), fun a' x v h => by omega⟩)
        (fun od a σ' H2 _ ⟨_, _, _, _, _, e2, _⟩ => e2 _ _ upd_same) ?_ ?_
      · rintro od a kA vA' σ' H2 haa ⟨x5, x6, x7, cur, rfl, e2, hf2, pd2, done2, dA⟩
        obtain ⟨x, hx, gx, cx⟩ := eA.key (kA, vA') (List.mem_of_getElem? haa)
        have hx' : kA = .inl x := hx
        subst hx'
        have hB2 : H2 B = some (.dK esB) := e2 _ _ (by rw [upd_ne hAB.symm]; exact hB)
        have hS2 : SelfS K H2 p ra D fs kvs R := (hS.lock hA).same e2
        refine st_forK (d := B) (kvs := esB) hB2 (fun od2 => evs_com (val_com T (hS2.lock hB2) (val_var rfl)) (by rw [upd_ne (ne_of hS2.dict hB2 (by intro z; cases z))]; exact hS2.dict) (va_cons (val_var rfl) (va_cons (val_var rfl) va_nil)) vB)
          (fun od2 b σ' H3 => ∃ x6 x7 cur, σ' = [some (.ref p), some (.int (i : Int)), some (.int (j : Int)), some (.ref f), some (.int (ct : Int)), some (.int x), x6, x7] ∧ Same (upd (upd H A (.frz od (.dK esA))) B (.frz od2 (.dK esB))) H3 ∧ H3 f = some (.dK cur) ∧ PartD R n q i j cur ∧ (∀ ct', i + 1 ≤ ct' → ct' < ct → HasCut cur R n q i ct' j) ∧
            (∀ a' x v, a' < a → esA[a']? = some (Sum.inl x, v) → ∀ o2, Mt.Comes (mm R n) (Mt.slc q ct j) o2 → HasK cur R n (dec x) o2) ∧ ∀ b' y v, b' < b → esB[b']? = some (Sum.inl y, v) → HasK cur R n (dec x) (dec y))
          (fun od2 H3 e3 => ⟨_, _, cur, rfl, (same_updL e2).trans e3, e3 _ _ (by rw [upd_ne hfB]; exact hf2), pd2, done2, dA, fun b' y v h => by omega⟩)
          (fun od2 b σ' H3 _ ⟨_, _, _, _, e3, _⟩ => e3 _ _ upd_same) ?_ ?_
        · rintro od2 b kB vB' σ' H3 hbb ⟨x6, x7, cur, rfl, e3, hf3, pd3, done3, dA3, dB⟩
          obtain ⟨y, hy, gy, cy⟩ := eB.key (kB, vB') (List.mem_of_getElem? hbb)
          have hy' : kB = .inl y := hy
          subst hy'
          have hBa : (upd H A (.frz od (.dK esA))) B = some (.dK esB) := by rw [upd_ne hAB.symm]; exact hB
          have hS3 : SelfS K H3 p ra D fs kvs R := ((hS.lock hA).lock hBa).same e3
          have hmet := met_dec (R := R) gx gy
          refine st_seq (x_set (x_call ?_))
          refine (va_cons (val_srows T hS3 (val_var rfl)) (va_cons (val_var rfl) (va_cons (val_var rfl) va_nil))) _ ?_
          refine ⟨ra, R, n, x, y, rfl, hS3.rows, w, gx, gy, ?_⟩
          dsimp only
          have er : (if x = -1 then some y else metRI R x y) = metI R x y := rfl
          rw [er]
          -- what the turn leaves
          have leave : ∀ (more : List (Key × V)) (H4 : Hp) (x6 x7 : Option V), Same (upd (upd H A (.frz od (.dK esA))) B (.frz od2 (.dK esB))) H4 → H4 f = some (.dK (cur ++ more)) → PartD R n q i j (cur ++ more) → HasK (cur ++ more) R n (dec x) (dec y) →
              ∃ x6' x7' cur', [some (V.ref p), some (.int (i : Int)), some (.int (j : Int)), some (.ref f), some (.int (ct : Int)), some (.int x), x6, x7] = [some (.ref p), some (.int (i : Int)), some (.int (j : Int)), some (.ref f), some (.int (ct : Int)), some (.int x), x6', x7'] ∧ Same (upd (upd H A (.frz od (.dK esA))) B (.frz od2 (.dK esB))) H4 ∧ H4 f = some (.dK cur') ∧ PartD R n q i j cur' ∧ (∀ ct', i + 1 ≤ ct' → ct' < ct → HasCut cur' R n q i ct' j) ∧
              (∀ a' x v, a' < a → esA[a']? = some (Sum.inl x, v) → ∀ o2, Mt.Comes (mm R n) (Mt.slc q ct j) o2 → HasK cur' R n (dec x) o2) ∧ ∀ b' y v, b' < b + 1 → esB[b']? = some (Sum.inl y, v) → HasK cur' R n (dec x) (dec y) := by
            intro more H4 x6 x7 h1 h2 h3 h4
            refine ⟨_, _, cur ++ more, rfl, h1, h2, h3, fun ct' c1 c2 => (done3 ct' c1 c2).mono, fun a' x v c1 c2 o2 c3 => (dA3 a' x v c1 c2 o2 c3).mono, fun b' y' v c1 c2 => ?_⟩
            by_cases hb' : b' = b
            · rw [hb', hbb] at c2
              cases c2
              exact h4
            · exact (dB b' y' v (by omega) c2).mono
          cases em : metI R x y with
          | none =>
            rw [em] at hmet
            refine st_no (ans_and0 (a_notN (val_var rfl) rfl)) ?_
            have := leave [] H3 (some (.int y)) (some .non) e3 (by rw [List.append_nil]; exact hf3) (by rw [List.append_nil]; exact pd3) (fun o ho => by rw [hmet] at ho; cases ho)
            exact this
          | some e =>
            rw [em] at hmet
            have ge := metI_good w gx gy em
            have ce : Mt.Comes (mm R n) (Mt.slc q i j) (dec e) := (Mt.comes_cut hj hij).mpr ⟨ct, dec x, dec y, by omega, hcj, cx, cy, hmet⟩
            cases ev : valV cur (.inl e) with
            | some v0 =>
              refine st_no (ans_and (a_notN (val_var rfl) rfl) (a_dnotin (k := .inl e) (val_var rfl) (val_var rfl) hf3 (by rw [ev]; rfl))) ?_
              obtain ⟨v1, hv1⟩ := valV_some (kvs := cur) (k := (Sum.inl e : Key)) (by rw [ev]; rfl)
              have := leave [] H3 (some (.int y)) (some (.int e)) e3 (by rw [List.append_nil]; exact hf3) (by rw [List.append_nil]; exact pd3) (fun o ho => by
                rw [hmet] at ho
                cases ho
                exact ⟨e, v1, List.mem_append_left _ hv1, rfl⟩)
              exact this
            | none =>
              refine st_yes (ans_and (a_notN (val_var rfl) rfl) (a_dnotin (k := .inl e) (val_var rfl) (val_var rfl) hf3 (by rw [ev]; rfl))) ?_
              refine st_dputT (va_cons (val_var rfl) (va_cons (val_var rfl) (va_cons (val_var rfl) va_nil))) (by show 3 ≤ 100; decide) fun t ht => ?_
              have hft : f ≠ t := fun z => by rw [← z, hf3] at ht; cases ht
              have hf4 : (upd H3 t (.tup [.int (ct : Int), .int x, .int y])) f = some (.dK cur) := by rw [upd_ne hft]; exact hf3
              have lc : cur.length ≤ 13 := keys_len w2 pd3.nd fun kv hk => let ⟨e, h1, h2, _⟩ := pd3.key kv hk; ⟨e, h1, h2⟩
              refine ⟨_, rfl, _, rfl, f, _, rfl, DPut.k (k := .inl e) hf4 (Nat.lt_of_le_of_lt lc (by decide)), ?_⟩
              rw [putK_new _ ev]
              have fn : (upd (upd H A (.frz od (.dK esA))) B (.frz od2 (.dK esB))) f = none := by rw [upd_ne hfB, upd_ne hfA]; exact hf
              have pd5 : PartD R n q i j (cur ++ [(.inl e, .ref t)]) := by
                refine ⟨fun kv hk => ?_, ?_⟩
                · rcases List.mem_append.mp hk with h | h
                  · exact pd3.key kv h
                  · rw [List.mem_singleton.mp h]
                    exact ⟨e, rfl, ge, ce⟩
                · rw [List.map_append, List.nodup_append]
                  refine ⟨pd3.nd, by simp, fun u hu z hz ez => ?_⟩
                  have hz' : z = Sum.inl e := List.mem_singleton.mp hz
                  rw [ez, hz'] at hu
                  exact valV_none ev hu
              have := leave [(.inl e, .ref t)] (upd (upd H3 t (.tup [.int (ct : Int), .int x, .int y])) f (.dK (cur ++ [(.inl e, .ref t)]))) (some (.int y)) (some (.int e)) (same_mut (e3.trans (same_new ht)) fn) upd_same pd5 (fun o ho => by
                rw [hmet] at ho
                cases ho
                exact ⟨e, _, List.mem_append_right _ (List.mem_singleton.mpr rfl), rfl⟩)
              exact this
        · rintro od2 σ' H3 ⟨x6, x7, cur, rfl, e3, hf3, pd3, done3, dA3, dB⟩
          refine ⟨_, _, _, cur, rfl, same_unlock (by rw [upd_ne hAB.symm]; exact hB) e3, by rw [upd_ne hfB]; exact hf3, pd3, done3, fun a' x' v c1 c2 o2 c3 => ?_⟩
          by_cases ha' : a' = a
          · rw [ha', haa] at c2
            cases c2
            obtain ⟨y, v, hm, ey⟩ := eB.all o2 c3
            obtain ⟨b', hb'⟩ := List.getElem?_of_mem hm
            rw [← ey]
            exact dB b' y v (List.getElem?_eq_some_iff.mp hb').1 hb'
          · exact dA3 a' x' v (by omega) c2 o2 c3
      · rintro od σ' H2 ⟨x5, x6, x7, cur, rfl, e2, hf2, pd2, done2, dA⟩
        refine ⟨_, _, _, _, cur, rfl, same_unlock hA e2, by rw [upd_ne hfA]; exact hf2, pd2, fun ct' h1 h2 => ?_⟩
        by_cases hc' : ct' = ct
        · subst hc'
          intro o1 o2 c1 c2
          obtain ⟨x, v, hm, ex⟩ := eA.all o1 c1
          obtain ⟨a', ha'⟩ := List.getElem?_of_mem hm
          rw [← ex]
          exact dA a' x v (List.getElem?_eq_some_iff.mp ha').1 ha' o2 c2
        · exact done2 ct' h1 (by omega)
    · rintro σ' H1 ⟨x4, x5, x6, x7, cur, rfl, e1, hf1, pd, done⟩
      dsimp only
      refine st_ret (val_var rfl) ?_
      rw [eij] at done
      refine k f H1 cur e1 hf hf1 ⟨pd.key, fun o ho => ?_, pd.nd⟩
      obtain ⟨ct, o1, o2, h1, h2, h3, h4, h5⟩ := (Mt.comes_cut hj hij).mp ho
      exact done ct (by omega) (by omega) o1 o2 h3 h4 o h5
end
end FF
set_option maxHeartbeats 4000000
namespace FF
open PySem PySem.Spec PyProof.Rows L2
section
variable {P : Program} {w : World} {K : PySem.W.Frag} {mg : Str → Option Value} {base : Heap}
/-! ### Stretches.__init__ -/
theorem RowsT.off {K : PySem.W.Frag} {b : Addr} {H H' : Hp} {a : Addr} {R : Rws} (h : RowsT K H a R) (e : SameX b H H') (h1 : ∀ xs, H b ≠ some (.tup xs)) (h2 : ∀ o xs, H b ≠ some (.frz o (.tup xs))) : RowsT K H' a R := by
  have k : ∀ {a : Addr} {xs : List V}, SqT K H a xs → SqT K H' a xs := by
    intro a xs h
    rcases h with (h | ⟨u, h⟩) | h
    · exact .inl (.inl (e _ _ (fun z => h1 _ (z ▸ h)) h))
    · exact .inl (.inr ⟨u, e _ _ (fun z => h2 _ _ (z ▸ h)) h⟩)
    · exact .inr h
  obtain ⟨rs, q1, q2⟩ := h
  exact ⟨rs, k q1, pmap q2 fun _ _ q => k q⟩
theorem ComK.mono {H : Hp} {R : Rws} {n : Nat} {q : List Int} {kvs : List (List Key × V)} {S S' : Nat → Nat → Prop} (h : ComK H R n q kvs S) (e : ∀ a b, S' a b → S a b) : ComK H R n q kvs S' := ⟨fun i j s => h.at_ i j (e i j s), h.inj⟩
/-- every value stands -/
def ValsOn (H : Hp) (kvs : List (List Key × V)) : Prop := ∀ k (a : Addr), valV kvs k = some (.ref a) → H a ≠ none
theorem ValsOn.same {H H' : Hp} {kvs : List (List Key × V)} (h : ValsOn H kvs) (e : ∀ a, H a ≠ none → H' a ≠ none) : ValsOn H' kvs := fun k a hv => e a (h k a hv)
theorem same_on {H H' : Hp} (e : Same H H') : ∀ a, H a ≠ none → H' a ≠ none := fun a h z => by
  cases q : H a with
  | none => exact h q
  | some o => rw [e a o q] at z; cases z
theorem upd_on {H : Hp} {b : Addr} {o : HO} : ∀ a, H a ≠ none → upd H b o a ≠ none := fun a h => by
  by_cases e : a = b
  · rw [e, upd_same]; exact fun z => by cases z
  · rw [upd_ne e]; exact h
theorem ComK.put {H H' : Hp} {R : Rws} {n : Nat} {q : List Int} {kvs : List (List Key × V)} {S : Nat → Nat → Prop} {D f : Addr} {i j : Nat} {es : List (Key × V)} {kvs0 : List (List Key × V)} (h : ComK H R n q kvs S) (hv : ValsOn H kvs) (hf : H f = none) (hD : H D = some (.dT kvs0)) (e : SameX D H H') (hf' : H' f = some (.dK es)) (hE : EndsD R n q i j es) :
    ComK H' R n q (putK kvs [.inl (i : Int), .inl (j : Int)] (.ref f)) (fun a b => S a b ∨ (a = i ∧ b = j)) := by
  have kk : ∀ a b : Nat, ([.inl (a : Int), .inl (b : Int)] : List Key) = [.inl (i : Int), .inl (j : Int)] ↔ (a = i ∧ b = j) := fun a b => by
    constructor
    · intro z
      injection z with z1 z2
      injection z2 with z3 _
      injection z1 with z4
      injection z3 with z5
      exact ⟨by omega, by omega⟩
    · rintro ⟨rfl, rfl⟩; rfl
  refine ⟨fun a b s => ?_, fun k1 k2 x h1 h2 => ?_⟩
  · by_cases c : a = i ∧ b = j
    · obtain ⟨rfl, rfl⟩ := c
      exact ⟨f, es, by rw [valV_put, if_pos rfl], hf', hE⟩
    · obtain ⟨x, es', h1, h2, h3⟩ := h.at_ a b (s.resolve_right c)
      exact ⟨x, es', by rw [valV_put, if_neg (fun z => c ((kk a b).mp z))]; exact h1, e _ _ (ne_of h2 hD (by intro z; cases z)) h2, h3⟩
  · rw [valV_put] at h1 h2
    by_cases c1 : k1 = [.inl (i : Int), .inl (j : Int)]
    · by_cases c2 : k2 = [.inl (i : Int), .inl (j : Int)]
      · rw [c1, c2]
      · rw [if_pos c1] at h1
        rw [if_neg c2] at h2
        have : f = x := by injection Option.some.inj h1
        rw [← this] at h2
        exact absurd hf (hv _ _ h2)
    · rw [if_neg c1] at h1
      by_cases c2 : k2 = [.inl (i : Int), .inl (j : Int)]
      · rw [if_pos c2] at h2
        have : f = x := by injection Option.some.inj h2
        rw [← this] at h1
        exact absurd hf (hv _ _ h1)
      · rw [if_neg c2] at h2
        exact h.inj _ _ _ h1 h2
theorem x_sfld {K : PySem.W.Frag} {H : Hp} {σ : L2.St} {ta tv : TE} {f : Str} {D : Ends} (h : tv σ H fun y H1 => ta σ H1 fun x H2 => ∃ a C dx fs, x = .ref a ∧ H2 a = some (.ins C dx fs) ∧ Cls K C ∧ NoAttr K C f ∧ fs.length < 1000 ∧ D.nx σ (upd H2 a (.ins C dx (putF f y fs)))) : sFld K ta tv f D σ H := h
theorem dc_ET {K : PySem.W.Frag} {H : Hp} {σ : L2.St} {ta : TA} {tk tv : TE} {g : TG} {vs : List Nat} {a : Addr} {xs : List V} {Q : VK} (h : ValA ta σ H [.ref a]) (hx : SqT K H a xs) (Pv : Addr → Nat → Hp → Prop) (h0 : ∀ D, H D = none → Pv D 0 (upd H D (.dT []))) (hl : ∀ D i H', i ≤ xs.length → Pv D i H' → SqT K H' a xs)
    (hs : ∀ D (i : Nat) x H' T, xs[i]? = some x → Pv D i H' → H' T = none → g (.ref T) (wipe σ vs) (upd H' T (.tup [.int (i : Int), x])) fun σ2 H2 => wipe σ2 vs = wipe σ vs ∧ tk σ2 H2 fun y H4 => tv σ2 H4 fun z H5 => ∃ (kvs : List (List Key × V)) (k : List Key) (b : Addr), y = .ref b ∧ H5 b = some (.tup (k.map kV)) ∧ H5 D = some (.dT kvs) ∧ kvs.length < sizeLine ∧ Pv D (i + 1) (upd H5 D (.dT (putK kvs k z))))
    (hd : ∀ D H', Pv D xs.length H' → Q (.ref D) H') : tDcT (iEnumT K ta) g tk tv vs σ H Q := by
  refine h _ ⟨a, xs, rfl, hx, fun D hD => ⟨fun i m H => m = xs.length - i ∧ i ≤ xs.length ∧ Pv D i H, ⟨xs.length, by simp, Nat.zero_le _, h0 D hD⟩, ?_⟩⟩
  rintro i m H' ⟨rfl, hi, p⟩
  have q := hl D i H' hi p
  by_cases hlt : i < xs.length
  · refine .inr ⟨⟨xs, xs[i], q, by simp [hlt]⟩, Pv D (i + 1), fun H' p' => ⟨xs.length - (i + 1), by omega, rfl, hlt, p'⟩, fun x H2 y => ?_⟩
    obtain ⟨T, z, rfl, hT, rfl, e⟩ := y
    exact hs D i z H' T (e xs q) p hT
  · have e : i = xs.length := by omega
    subst e
    exact .inl ⟨⟨xs, q, Nat.le_refl _⟩, hd D H' p⟩
theorem sn1 : ¬ (("rows" : Str) = "length") := by decide +kernel
theorem sn2 : ¬ (("rows" : Str) = "comings") := by decide +kernel
theorem sn3 : ¬ (("length" : Str) = "comings") := by decide +kernel
theorem sn4 : ¬ (("joined" : Str) = "rows") := by decide +kernel
theorem sn5 : ¬ (("joined" : Str) = "length") := by decide +kernel
theorem sn6 : ¬ (("joined" : Str) = "comings") := by decide +kernel
def sfs (ra D : Addr) (l : Int) : List (Str × V) := putF "comings" (.ref D) (putF "length" (.int l) (putF "rows" (.ref ra) []))
theorem sfs_rows (ra D : Addr) (l : Int) : (sfs ra D l).lookup ("rows" : Str) = some (.ref ra) := by
  unfold sfs
  rw [lookup_putF, if_neg sn2, lookup_putF, if_neg sn1, lookup_putF, if_pos rfl]
theorem sfs_len (ra D : Addr) (l : Int) : (sfs ra D l).lookup ("length" : Str) = some (.int l) := by
  unfold sfs
  rw [lookup_putF, if_neg sn3, lookup_putF, if_pos rfl]
theorem sfs_com (ra D : Addr) (l : Int) : (sfs ra D l).lookup ("comings" : Str) = some (.ref D) := by
  unfold sfs
  rw [lookup_putF, if_pos rfl]
theorem sfs_join (ra D : Addr) (l : Int) : (sfs ra D l).lookup ("joined" : Str) = none := by
  unfold sfs
  rw [lookup_putF, if_neg sn6, lookup_putF, if_neg sn5, lookup_putF, if_neg sn4]
  rfl
theorem ends_one {R : Rws} {n : Nat} {q : List Int} {i : Nat} {c : Int} (h : q[i]? = some c) (hc : Cm n c) : EndsD R n q i (i + 1) [(.inl c, .non)] := by
  have e : Mt.slc q i (i + 1) = [c] := Mt.slc_one h
  refine ⟨fun kv hk => ?_, fun o ho => ?_, by simp⟩
  · rw [List.mem_singleton.mp hk]
    refine ⟨c, rfl, .inr hc, ?_⟩
    rw [e, dec_no hc.ne]
    exact .one c
  · rw [e] at ho
    rw [Mt.comes_one.mp ho]
    exact ⟨c, .non, List.mem_singleton.mpr rfl, dec_no hc.ne⟩
/-- a Stretches of q stands at p -/
structure StrAt (K : PySem.W.Frag) (H : Hp) (p : Addr) (R : Rws) (n : Nat) (q : List Int) (ra D : Addr) (kvs : List (List Key × V)) : Prop where
  self : SelfS K H p ra D (sfs ra D q.length) kvs R
  com : ComK H R n q kvs (fun a b => a < b ∧ b ≤ q.length)
theorem StrAt.same {K : PySem.W.Frag} {H H' : Hp} {p : Addr} {R : Rws} {n : Nat} {q : List Int} {ra D : Addr} {kvs : List (List Key × V)} (h : StrAt K H p R n q ra D kvs) (e : Same H H') : StrAt K H' p R n q ra D kvs :=
  ⟨h.self.same e, ⟨fun i j s => let ⟨a, es, h1, h2, h3⟩ := h.com.at_ i j s; ⟨a, es, h1, e _ _ h2, h3⟩, h.com.inj⟩⟩
def sp_Stretches_init (K : PySem.W.Frag) : Sp := fun vs H Q _ => ∃ (p dx ra a : Addr) (R : Rws) (n : Nat) (q : List Int), vs = [.ref p, .ref ra, .ref a] ∧ H p = some (.ins (He.ga K "Stretches") dx []) ∧ RowsT K H ra R ∧ Wf R n ∧ H a = some (.tup (iq q)) ∧ QOk n q ∧ q.length ≤ 1000 ∧
  ∀ (H' : Hp) (D : Addr) (kvs : List (List Key × V)), SameX p H H' → StrAt K H' p R n q ra D kvs → Q .non H'
theorem ok_Stretches_init (T : Txt K mg) : FnOk P w K mg base CX0 3 (He.ma K (He.ga K "Stretches") "__init__") T.fd_Stretches_init ["self", "rows", "queue"] (sp_Stretches_init K) := by
  refine T.F_Stretches_init.ok sc_Stretches_init (fun vs H Q E h => ?_) (fun cdv A outer s H vs Q E hr h => ?_)
  · obtain ⟨_, _, _, _, _, _, _, rfl, _⟩ := h; rfl
  · obtain ⟨p, dx, ra, a, R, n, q, rfl, hp, hR, w, ha, hq, hl, k⟩ := h
    refine ⟨_, PSs.nox ((pss_cons (sfldQ (K := K) rfl (pv 0) (pv 1) rfl)
        (pss_cons (sfldQ (K := K) rfl (pv 0) (pe_callB (lenQ (K := K) rfl) (by rfl) T.z_len boot_len (pa_cons (pv 2) pa_nil)) rfl)
        (pss_cons (sfldQ (K := K) rfl (pv 0) (pe_dcT (own := [("at", 3), ("command", 4)]) (hu_of hr) rfl sc_Stretches_init.nd (piET (K := K) rfl (by rfl) T.z_enumerate (pa_cons (pv 2) pa_nil)) (blkOk_by (N := ["self", "rows", "queue", "at", "command", "size", "first"]) (sc := defScope s_Stretches_init) (own := [("at", 3), ("command", 4)]) (by decide +kernel)) (fun _ _ _ _ _ => (pgT (K := K) (n := 2) rfl rfl (pgs_cons (pg_name (i := 3) sc_Stretches_init.nd rfl (Or.inl rfl)) (pgs_cons (pg_name (i := 4) sc_Stretches_init.nd rfl (Or.inl rfl)) pgs_nil)))) (fun _ _ _ _ _ => (pe_tup (pa_cons (pv 3) (pa_cons (pe_op op_add (pv 3) pe_int) pa_nil)))) (fun _ _ _ _ _ => (pe_disp (pps_cons (pv 4) pe_non pps_nil) rfl rfl (by simp) (by decide)))) rfl)
        (pss_one (ps_for PassesOwn.never rfl (pi_range2 (by rfl) T.z_range (pa_cons pe_int (pa_cons (pe_op op_add (fldQ (K := K) rfl (pv 0) rfl) pe_int) pa_nil))) (pg_name (i := 5) sc_Stretches_init.nd rfl (Or.inl rfl))
          (pss_one (ps_for PassesOwn.never rfl (pi_range1 (by rfl) T.z_range (pa_cons (pe_op op_add (pe_op op_sub (fldQ (K := K) rfl (pv 0) rfl) (pv 5)) pe_int) pa_nil)) (pg_name (i := 6) sc_Stretches_init.nd rfl (Or.inl rfl))
            (pss_one (ps_dput (hu_of hr) (fldQ (K := K) rfl (pv 0) rfl) (pe_tup (pa_cons (pv 6) (pa_cons (pe_op op_add (pv 6) (pv 5)) pa_nil))) (pe_meth (pv 0) T.cl_Stretches T.me_joined (ok_Stretches_joined T) (hr.mono (by decide)) (bi_Stretches_joined T) .nil pass0 (pa_cons (pv 6) (pa_cons (pe_op op_add (pv 6) (pv 5)) pa_nil))) rfl)))))))))), ?_⟩
    have hap : a ≠ p := ne_of ha hp (by intro z; cases z)
    have hlq : (iq q).length = q.length := List.length_map ..
    refine st_seq (st_fld (val_var rfl) (val_var rfl) hp T.cl_Stretches T.na_Stretches_rows (by show 0 < 1000; decide) ?_)
    dsimp only
    have ha1 : (upd H p (.ins (He.ga K "Stretches") dx (putF "rows" (.ref ra) []))) a = some (.tup (iq q)) := by rw [upd_ne hap]; exact ha
    refine st_seq (st_fld ((val_lenS (val_var rfl) (.inr (SqT.of ha1))).to (by rw [hlq])) (val_var rfl) upd_same T.cl_Stretches T.na_Stretches_length (by show 1 < 1000; decide) ?_)
    dsimp only
    generalize hH2 : (upd (upd H p (.ins (He.ga K "Stretches") dx (putF "rows" (.ref ra) []))) p (.ins (He.ga K "Stretches") dx (putF "length" (.int (q.length : Int)) (putF "rows" (.ref ra) [])))) = H2
    have hp2 : H2 p = some (.ins (He.ga K "Stretches") dx (putF "length" (.int (q.length : Int)) (putF "rows" (.ref ra) []))) := by rw [← hH2]; exact upd_same
    have ex2 : SameX p H H2 := fun b o hb z => by rw [← hH2, upd_ne hb, upd_ne hb]; exact z
    have ha2 : H2 a = some (.tup (iq q)) := ex2 _ _ hap ha
    refine st_seq (x_sfld (dc_ET (xs := iq q) (va_cons (val_var rfl) va_nil) (SqT.of ha2)
      (fun D i H' => Same H2 H' ∧ H2 D = none ∧ ∃ kvs, H' D = some (.dT kvs) ∧ kvs.length ≤ i ∧ ComK H' R n q kvs (fun x y => y = x + 1 ∧ x < i) ∧ ValsOn H' kvs)
      (fun D hD => ⟨same_new hD, hD, [], upd_same, Nat.le_refl _, ⟨fun x y h => by omega, fun k1 k2 x h => by rw [valV_nil] at h; cases h⟩, fun k x h => by rw [valV_nil] at h; cases h⟩)
      (fun D i H' _ ⟨e, _⟩ => SqT.of (e _ _ ha2)) ?_ ?_))
    · rintro D i x H' t hi ⟨e, hD, kvs, hk, lk, hC, hV⟩ ht
      rw [List.getElem?_map] at hi
      obtain ⟨c, hc1, hc2⟩ := Option.map_eq_some_iff.mp hi
      subst hc2
      have hiq : i < q.length := (List.getElem?_eq_some_iff.mp hc1).1
      refine ⟨t, _, rfl, SqT.of upd_same, rfl, _, _, rfl, _, _, rfl, rfl, ?_⟩
      refine ⟨rfl, (va_cons (val_var rfl) (va_cons (val_add (val_var rfl) val_c) va_nil)) _ ⟨by show 2 ≤ sizeLine; decide, fun b hb f hf => ?_⟩⟩
      -- the new dict of one key
      refine ⟨_, rfl, upd_same, [(.inl c, .non)], rfl, by show 1 ≤ 15; decide, ?_⟩
      generalize hHb : upd (upd H' t (.tup [.int (i : Int), .int c])) b (.tup [.int (i : Int), .int ((i : Int) + 1)]) = Hb at hf ⊢
      have em : mergeK [] [((.inl c : Key), V.non)] = [(.inl c, .non)] := rfl
      rw [em]
      have eb : Same H' Hb := by rw [← hHb]; exact (same_new ht).trans (same_new hb)
      have hbb : Hb b = some (.tup [.int (i : Int), .int ((i : Int) + 1)]) := by rw [← hHb]; exact upd_same
      have hfb : f ≠ b := fun z => by rw [z, hbb] at hf; cases hf
      have hfD : f ≠ D := fun z => by rw [z, eb _ _ hk] at hf; cases hf
      generalize hHf : upd (upd Hb f (.dK [])) f (.dK [(.inl c, .non)]) = Hf
      have ef : Same Hb Hf := fun x o hx => by rw [← hHf, upd_ne (ne_of_none hx hf), upd_ne (ne_of_none hx hf)]; exact hx
      have hff : Hf f = some (.dK [(.inl c, .non)]) := by rw [← hHf]; exact upd_same
      have hDf : Hf D = some (.dT kvs) := (eb.trans ef) _ _ hk
      have fn : H' f = none := eb.free hf
      have ek : ([.inl (i : Int), .inl ((i + 1 : Nat) : Int)] : List Key).map kV = [.int (i : Int), .int ((i : Int) + 1)] := by
        show [V.int (i : Int), V.int ((i + 1 : Nat) : Int)] = _
        rw [show ((i + 1 : Nat) : Int) = (i : Int) + 1 by omega]
      refine ⟨kvs, [.inl (i : Int), .inl ((i + 1 : Nat) : Int)], b, rfl, by rw [ek]; exact ef _ _ hbb, hDf, Nat.lt_of_le_of_lt (show kvs.length ≤ 1000 by omega) (by decide), ?_⟩
      have hput := hC.put (D := D) (i := i) (j := i + 1) hV fn hk (H' := upd Hf D (.dT (putK kvs [.inl (i : Int), .inl ((i + 1 : Nat) : Int)] (.ref f)))) (fun x o hx z => by rw [upd_ne hx]; exact (eb.trans ef) _ _ z) (by rw [upd_ne hfD]; exact hff) (ends_one hc1 (hq c (List.mem_of_getElem? hc1)))
      refine ⟨same_mut (e.trans (eb.trans ef)) hD, hD, _, upd_same, ?_, hput.mono fun x y h => ?_, fun k x h => ?_⟩
      · have := length_putK kvs [.inl (i : Int), .inl ((i + 1 : Nat) : Int)] (.ref f)
        omega
      · by_cases hx : x = i
        · exact .inr ⟨hx, by omega⟩
        · exact .inl ⟨h.1, by omega⟩
      · rw [valV_put] at h
        by_cases c1 : k = [.inl (i : Int), .inl ((i + 1 : Nat) : Int)]
        · rw [if_pos c1] at h
          have : f = x := by injection Option.some.inj h
          rw [← this, upd_ne hfD, hff]
          exact fun z => by cases z
        · rw [if_neg c1] at h
          exact upd_on _ (same_on (eb.trans ef) _ (hV k x h))
    · rintro D H3 ⟨e, hD, kvs, hk, lk, hC, hV⟩
      have hp3 := e _ _ hp2
      have hDp : D ≠ p := fun z => by rw [z, hp2] at hD; cases hD
      rw [hlq] at hC lk
      refine ⟨_, rfl, p, _, dx, _, rfl, hp3, T.cl_Stretches, T.na_Stretches_comings, by show 2 < 1000; decide, ?_⟩
      dsimp only
      have efs : putF "comings" (.ref D) (putF "length" (.int (q.length : Int)) (putF "rows" (.ref ra) [])) = sfs ra D (q.length : Int) := rfl
      rw [efs]
      have ex4 : SameX p H (upd H3 p (.ins (He.ga K "Stretches") dx (sfs ra D (q.length : Int)))) := (ex2.then e).trans samex_upd
      have hV4 : ValsOn (upd H3 p (.ins (He.ga K "Stretches") dx (sfs ra D (q.length : Int)))) kvs := hV.same upd_on
      have hC4 : ComK (upd H3 p (.ins (He.ga K "Stretches") dx (sfs ra D (q.length : Int)))) R n q kvs (fun x y => x < y ∧ y ≤ q.length ∧ y - x < 2) :=
        ⟨fun i j s => by
          obtain ⟨x, es, h1, h2, h3⟩ := hC.at_ i j ⟨by omega, by omega⟩
          exact ⟨x, es, h1, by rw [upd_ne (ne_of h2 hp3 (by intro z; cases z))]; exact h2, h3⟩, hC.inj⟩
      have hD4 : (upd H3 p (.ins (He.ga K "Stretches") dx (sfs ra D (q.length : Int)))) D = some (.dT kvs) := by rw [upd_ne hDp]; exact hk
      have hDH : H D = none := by
        cases z : H D with
        | none => rfl
        | some o => rw [ex2 _ _ hDp z] at hD; cases hD
      have hR' : ∀ {H' : Hp}, SameX p H H' → RowsT K H' ra R := fun ex => hR.off ex (fun xs z => by rw [hp] at z; cases z) (fun o xs z => by rw [hp] at z; cases z)
      have self : ∀ {H' : Hp} {kvs' : List (List Key × V)}, SameX p H H' → H' p = some (.ins (He.ga K "Stretches") dx (sfs ra D (q.length : Int))) → H' D = some (.dT kvs') → SelfS K H' p ra D (sfs ra D (q.length : Int)) kvs' R := fun ex h1 h2 => ⟨⟨dx, h1⟩, sfs_rows .., sfs_com .., hR' ex, h2⟩
      have vlen : ∀ {H' : Hp} {σ : L2.St} {ta : TE}, H' p = some (.ins (He.ga K "Stretches") dx (sfs ra D (q.length : Int))) → Val ta σ H' (.ref p) → Val (tFld K ta "length") σ H' (.int (q.length : Int)) := fun h1 h2 => val_fld h2 h1 T.cl_Stretches T.na_Stretches_length (sfs_len ..)
      refine st_forR2 (lo := 2) (n := (q.length : Int) + 1) (va_cons val_c (va_cons (val_add (vlen upd_same (val_var rfl)) val_c) va_nil)) (by omega) (by omega) (by omega) (by omega)
        (fun c σ' H' => ∃ x3 x4 x5 x6 kvs, σ' = [some (.ref p), some (.ref ra), some (.ref a), x3, x4, x5, x6] ∧ SameX p H H' ∧ H D = none ∧ H' p = some (.ins (He.ga K "Stretches") dx (sfs ra D (q.length : Int))) ∧ H' D = some (.dT kvs) ∧ kvs.length ≤ 1000 * (c + 1) ∧ ComK H' R n q kvs (fun x y => x < y ∧ y ≤ q.length ∧ y - x < 2 + c) ∧ ValsOn H' kvs)
        ⟨_, _, _, _, kvs, rfl, ex4, hDH, upd_same, hD4, by omega, hC4, hV4⟩ ?_ ?_
      · rintro c σ' H5 hc ⟨x3, x4, x5, x6, kvs5, rfl, ex5, hDn, hp5, hD5, lk5, hC5, hV5⟩
        obtain ⟨s, hs⟩ : ∃ s : Nat, s = 2 + c := ⟨_, rfl⟩
        have es : ((2 : Int) + (c : Int)) = (s : Int) := by omega
        rw [es]
        have hsl : s ≤ q.length := by omega
        refine st_forR1 (n := ((q.length - s : Nat) : Int) + 1) (va_cons ((val_add (val_sub (vlen hp5 (val_var rfl)) (val_var rfl)) val_c).to (by rw [show ((q.length : Int) - (s : Int)) = ((q.length - s : Nat) : Int) by omega])) va_nil) (by omega) (by omega)
          (fun d σ' H' => ∃ x6 kvs, σ' = [some (.ref p), some (.ref ra), some (.ref a), x3, x4, some (.int (s : Int)), x6] ∧ SameX p H H' ∧ H' p = some (.ins (He.ga K "Stretches") dx (sfs ra D (q.length : Int))) ∧ H' D = some (.dT kvs) ∧ kvs.length ≤ 1000 * (c + 1) + d ∧ ComK H' R n q kvs (fun x y => x < y ∧ y ≤ q.length ∧ (y - x < s ∨ (y - x = s ∧ x < d))) ∧ ValsOn H' kvs)
          ⟨_, kvs5, rfl, ex5, hp5, hD5, lk5, hC5.mono (fun x y h => ⟨h.1, h.2.1, by omega⟩), hV5⟩ ?_ ?_
        · rintro d σ' H6 hd ⟨x6, kvs6, rfl, ex6, hp6, hD6, lk6, hC6, hV6⟩
          have hds : d + s ≤ q.length := by omega
          have S6 := self ex6 hp6 hD6
          refine x_dput ?_
          refine ⟨_, rfl, p, dx, _, rfl, hp6, sfs_join .., ?_⟩
          refine (va_cons (val_var rfl) (va_cons (val_add (val_var rfl) (val_var rfl)) va_nil)) _ ?_
          have ej : ((d : Int) + (s : Int)) = ((d + s : Nat) : Int) := by omega
          rw [ej]
          refine ⟨p, ra, D, _, kvs6, R, n, q, d, d + s, rfl, S6, w, hq, hl, by omega, hds, hC6.mono (fun x y h => ⟨h.1, h.2.1, .inl (by omega)⟩), fun f H7 es e7 fn hf7 hE => ?_⟩
          have hp7 := e7 _ _ hp6
          have hD7 := e7 _ _ hD6
          refine val_com T (S6.same e7) (val_var rfl) _ ?_
          refine (va_cons (val_var rfl) (va_cons (val_add (val_var rfl) (val_var rfl)) va_nil)) _ ⟨by show 2 ≤ sizeLine; decide, fun b hb => ?_⟩
          rw [ej]
          have hDb : D ≠ b := ne_of_none hD7 hb
          have hfD : f ≠ D := fun z => by rw [z, hD6] at fn; cases fn
          have hfb : f ≠ b := ne_of_none hf7 hb
          have hpD : p ≠ D := hDp.symm
          refine ⟨D, _, rfl, DPut.t (k := [.inl (d : Int), .inl ((d + s : Nat) : Int)]) (kvs := kvs6) (by rw [upd_ne hDb]; exact hD7) upd_same (Nat.lt_of_le_of_lt (show kvs6.length ≤ 1100000 by omega) (by decide)), ?_⟩
          have eb : Same H6 (upd H7 b (.tup [.int (d : Int), .int ((d + s : Nat) : Int)])) := e7.trans (same_new hb)
          have hput := hC6.put (D := D) (i := d) (j := d + s) hV6 fn hD6 (H' := upd (upd H7 b (.tup [.int (d : Int), .int ((d + s : Nat) : Int)])) D (.dT (putK kvs6 [.inl (d : Int), .inl ((d + s : Nat) : Int)] (.ref f)))) (fun x o hx z => by rw [upd_ne hx]; exact eb _ _ z) (by rw [upd_ne hfD, upd_ne hfb]; exact hf7) hE
          refine ⟨_, _, rfl, (ex6.then eb).mut hDn, by rw [upd_ne hpD]; exact eb _ _ hp6, upd_same, ?_, hput.mono fun x y h => ?_, fun k x h => ?_⟩
          · have := length_putK kvs6 [.inl (d : Int), .inl ((d + s : Nat) : Int)] (.ref f)
            omega
          · by_cases hx : x = d ∧ y = d + s
            · exact .inr hx
            · exact .inl ⟨h.1, h.2.1, by omega⟩
          · rw [valV_put] at h
            by_cases c1 : k = [.inl (d : Int), .inl ((d + s : Nat) : Int)]
            · rw [if_pos c1] at h
              have : f = x := by injection Option.some.inj h
              rw [← this, upd_ne hfD, upd_ne hfb, hf7]
              exact fun z => by cases z
            · rw [if_neg c1] at h
              exact upd_on _ (same_on eb _ (hV6 k x h))
        · rintro σ' H6 ⟨x6, kvs6, rfl, ex6, hp6, hD6, lk6, hC6, hV6⟩
          exact ⟨_, _, _, _, kvs6, rfl, ex6, hDn, hp6, hD6, by omega, hC6.mono (fun x y h => ⟨h.1, h.2.1, by omega⟩), hV6⟩
      · rintro σ' H5 ⟨x3, x4, x5, x6, kvs5, rfl, ex5, hDn, hp5, hD5, lk5, hC5, hV5⟩
        exact k H5 D kvs5 ex5 ⟨self ex5 hp5 hD5, hC5.mono (fun x y h => ⟨h.1, h.2, by omega⟩)⟩
end
end FF
set_option maxHeartbeats 4000000
namespace FF
open PySem PySem.Spec PyProof.Rows L2
section
variable {P : Program} {w : World} {K : PySem.W.Frag} {mg : Str → Option Value} {base : Heap}
/-! ### least_pieces, pieces_left, fewest_left -/
def cnt (es : List Int) : Nat := (es.filter fun e => !decide (e = -1)).length
theorem cnt_app (es : List Int) (e : Int) : cnt (es ++ [e]) = cnt es + Mt.oN (dec e) := by
  unfold cnt
  rw [List.filter_append, List.length_append]
  congr 1
  by_cases h : e = -1
  · subst h
    rfl
  · rw [dec_no h]
    simp [h, Mt.oN]
def PiecesAt (H : Hp) (t : Addr) (es : List Int) : Prop := ∃ ts : List Addr, H t = some (.tup (ts.map V.ref)) ∧ Paired (fun (a : Addr) (e : Int) => ∃ x y : Int, H a = some (.tup [.int x, .int y, .int e])) ts es
theorem PiecesAt.same {H H' : Hp} {t : Addr} {es : List Int} (h : PiecesAt H t es) (e : Same H H') : PiecesAt H' t es := by
  obtain ⟨ts, h1, h2⟩ := h
  exact ⟨ts, e _ _ h1, pmap h2 fun a b ⟨x, y, q⟩ => ⟨x, y, e _ _ q⟩⟩
theorem PiecesAt.off {H : Hp} {t b : Addr} {es : List Int} {xs : List V} {o : HO} (h : PiecesAt H t es) (hb : H b = some (.lst xs)) : PiecesAt (upd H b o) t es := by
  obtain ⟨ts, h1, h2⟩ := h
  exact ⟨ts, by rw [upd_ne (ne_of h1 hb (by intro z; cases z))]; exact h1, pmap h2 fun a c ⟨x, y, q⟩ => ⟨x, y, by rw [upd_ne (ne_of q hb (by intro z; cases z))]; exact q⟩⟩
/-- a place of the table -/
def PlaceAt (H : Hp) (a : Addr) (es : List Int) : Prop := ∃ t, H a = some (.tup [.int (cnt es : Nat), .ref t]) ∧ PiecesAt H t es
theorem PlaceAt.same {H H' : Hp} {a : Addr} {es : List Int} (h : PlaceAt H a es) (e : Same H H') : PlaceAt H' a es := let ⟨t, h1, h2⟩ := h; ⟨t, e _ _ h1, h2.same e⟩
theorem PlaceAt.off {H : Hp} {a b : Addr} {es : List Int} {xs : List V} {o : HO} (h : PlaceAt H a es) (hb : H b = some (.lst xs)) : PlaceAt (upd H b o) a es :=
  let ⟨t, h1, h2⟩ := h; ⟨t, by rw [upd_ne (ne_of h1 hb (by intro z; cases z))]; exact h1, h2.off hb⟩
structure BestAt (H : Hp) (b : Addr) (bs : List Addr) (R : Rws) (n : Nat) (q : List Int) : Prop where
  top : H b = some (.lst (bs.map V.ref))
  at_ : ∀ k a, bs[k]? = some a → ∃ es, PlaceAt H a es ∧ es.length ≤ k ∧ Mt.Least (mm R n) (q.take k) (cnt es)
theorem BestAt.same {H H' : Hp} {b : Addr} {bs : List Addr} {R : Rws} {n : Nat} {q : List Int} (h : BestAt H b bs R n q) (e : Same H H') : BestAt H' b bs R n q :=
  ⟨e _ _ h.top, fun k a hk => let ⟨es, h1, h2, h3⟩ := h.at_ k a hk; ⟨es, h1.same e, h2, h3⟩⟩
/-- the best so far; Pr: what is tried -/
def FoundP (H : Hp) (v : V) (R : Rws) (n : Nat) (q : List Int) (j : Nat) (Pr : Nat → Option Int → Prop) : Prop :=
  (v = .non ∧ ∀ i e, ¬ Pr i e) ∨ ∃ a es, v = .ref a ∧ PlaceAt H a es ∧ es.length ≤ j ∧ (∃ i e N, i < j ∧ Mt.Comes (mm R n) (Mt.slc q i j) e ∧ Mt.Least (mm R n) (q.take i) N ∧ cnt es = N + Mt.oN e) ∧
    ∀ i e N, Pr i e → Mt.Least (mm R n) (q.take i) N → cnt es ≤ N + Mt.oN e
theorem FoundP.imp {H H' : Hp} {v : V} {R : Rws} {n : Nat} {q : List Int} {j : Nat} {Pr Pr' : Nat → Option Int → Prop} (h : FoundP H v R n q j Pr) (e : Same H H') (k : ∀ i x, Pr' i x → Pr i x) : FoundP H' v R n q j Pr' := by
  rcases h with ⟨rfl, h⟩ | ⟨a, es, rfl, h1, h2, h3, h4⟩
  · exact .inl ⟨rfl, fun i x p => h i x (k i x p)⟩
  · exact .inr ⟨a, es, rfl, h1.same e, h2, h3, fun i x N p => h4 i x N (k i x p)⟩
/-- for x in sorted(list(d)) -/
theorem st_forSD {K : PySem.W.Frag} {H : Hp} {σ : L2.St} {td : TE} {g : TG} {tb : TS} {D : Ends} {d : Addr} {kvs : List (Key × V)} {ns : List Int} (h : EvS td σ H (.ref d)) (hd : H d = some (.dK kvs)) (hk : (kvs.map fun kv => kV kv.1) = ns.map V.int)
    (hb : ∀ (c : Addr) (ns' : List Int) (H' : Hp), ns'.Perm ns → Same H H' → H' c = some (.lst (ns'.map V.int)) → forW D g tb (Itl K c) σ H') : tFor (iList K (tCB (rSortedI K) (tCons (tCB rListD (tCons td tNil)) tNil))) g tb D σ H :=
  h _ fun H1 e1 => ⟨d, kvs, rfl, e1 _ _ hd, fun q hq => ⟨q, ns, rfl, by rw [hk]; exact SqL.of upd_same, fun ns' p hperm _ hp => ⟨p, rfl, ⟨_, SqL.of upd_same⟩, hb p ns' _ hperm ((e1.trans (same_new hq)).trans (same_new hp)) upd_same⟩⟩⟩
theorem ends_ints {R : Rws} {n : Nat} {q : List Int} {i j : Nat} {es : List (Key × V)} (h : EndsD R n q i j es) : ∃ ns : List Int, (es.map fun kv => kV kv.1) = ns.map V.int ∧ (∀ z ∈ ns, GoodE n z ∧ Mt.Comes (mm R n) (Mt.slc q i j) (dec z)) ∧ ∀ o, Mt.Comes (mm R n) (Mt.slc q i j) o → ∃ z ∈ ns, dec z = o := by
  have key : ∀ l : List (Key × V), (∀ kv ∈ l, ∃ e : Int, kv.1 = .inl e ∧ GoodE n e ∧ Mt.Comes (mm R n) (Mt.slc q i j) (dec e)) → ∃ ns : List Int, (l.map fun kv => kV kv.1) = ns.map V.int ∧ (∀ z ∈ ns, GoodE n z ∧ Mt.Comes (mm R n) (Mt.slc q i j) (dec z)) ∧ ∀ (e : Int) (v : V), (Sum.inl e, v) ∈ l → e ∈ ns := by
    intro l
    induction l with
    | nil => intro _; exact ⟨[], rfl, (fun z hz => by cases hz), fun e v hv => by cases hv⟩
    | cons kv l ih =>
      intro hl
      obtain ⟨ns, h1, h2, h3⟩ := ih fun kv hk => hl kv (List.mem_cons_of_mem _ hk)
      obtain ⟨e, he, g, c⟩ := hl kv (List.mem_cons_self ..)
      refine ⟨e :: ns, by rw [List.map_cons, List.map_cons, h1, he]; rfl, fun z hz => ?_, fun e' v hv => ?_⟩
      · rcases List.mem_cons.mp hz with r | r
        · rw [r]; exact ⟨g, c⟩
        · exact h2 z r
      · rcases List.mem_cons.mp hv with r | r
        · rw [← r] at he
          have : e' = e := by injection he
          rw [this]
          exact List.mem_cons_self ..
        · exact List.mem_cons_of_mem _ (h3 e' v r)
  obtain ⟨ns, h1, h2, h3⟩ := key es h.key
  exact ⟨ns, h1, h2, fun o ho => by
    obtain ⟨e, v, k1, k2⟩ := h.all o ho
    exact ⟨e, h3 e v k1, k2⟩⟩
theorem val_slen (T : Txt K mg) {H : Hp} {p ra D : Addr} {kvs : List (List Key × V)} {R : Rws} {n : Nat} {q : List Int} {σ : L2.St} {ta : TE} (h : StrAt K H p R n q ra D kvs) (ha : Val ta σ H (.ref p)) : Val (tFld K ta "length") σ H (.int (q.length : Int)) := by
  obtain ⟨dx, h1⟩ := h.self.ins
  exact val_fld ha h1 T.cl_Stretches T.na_Stretches_length (sfs_len ..)
theorem goneV {z : Int} : (if decide (z = -1) = true then V.int 0 else V.int 1) = V.int (Mt.oN (dec z) : Nat) := by
  by_cases h : z = -1
  · subst h
    rfl
  · rw [dec_no h, if_neg (by simp [h])]
    rfl
theorem x_tup1 {H : Hp} {σ : L2.St} {ta : TA} {Q : List V → Hp → Prop} (h : ta σ H fun xs H1 => xs.length ≤ sizeLine ∧ ∀ p, H1 p = none → Q [.ref p] (upd H1 p (.tup xs))) : tCons (tTup ta) tNil σ H Q := h
def sp_least_pieces (K : PySem.W.Frag) : Sp := fun vs H Q _ => ∃ (p ra D : Addr) (kvs : List (List Key × V)) (R : Rws) (n : Nat) (q : List Int), vs = [.ref p] ∧ StrAt K H p R n q ra D kvs ∧ q.length ≤ 1000 ∧
  ∀ (t : Addr) (H' : Hp) (es : List Int), Same H H' → PiecesAt H' t es → Mt.Least (mm R n) q (cnt es) → es.length ≤ q.length → Q (.ref t) H'
theorem ok_least_pieces (T : Txt K mg) : FnOk P w K mg base CX0 1 (He.ga K "least_pieces") T.fd_least_pieces ["stretches"] (sp_least_pieces K) := by
  refine T.F_least_pieces.ok sc_least_pieces (fun vs H Q E h => ?_) (fun cdv A outer s H vs Q E hr h => ?_)
  · obtain ⟨_, _, _, _, _, _, _, rfl, _⟩ := h; rfl
  · obtain ⟨p, ra, D, kvs, R, n, q, rfl, hS, hl, k⟩ := h
    refine ⟨_, PSs.nox ((pss_cons (ps_set (i := 1) sc_least_pieces.nd rfl (Or.inl rfl) (pe_lst (pa_cons (pe_tup (pa_cons pe_int (pa_cons (pe_tup pa_nil) pa_nil))) pa_nil)))
        (pss_cons (ps_for PassesOwn.never rfl (pi_range2 (by rfl) T.z_range (pa_cons pe_int (pa_cons (pe_op op_add (fldQ (K := K) rfl (pv 0) rfl) pe_int) pa_nil))) (pg_name (i := 2) sc_least_pieces.nd rfl (Or.inl rfl))
          (pss_cons (ps_set (i := 3) sc_least_pieces.nd rfl (Or.inl rfl) pe_non)
          (pss_cons (ps_for PassesOwn.never rfl (pi_range1 (by rfl) T.z_range (pa_cons (pv 2) pa_nil)) (pg_name (i := 4) sc_least_pieces.nd rfl (Or.inl rfl))
            (pss_one (ps_for PassesOwn.never rfl (piL (K := K) rfl (pe_callB (sortedIQ (K := K) rfl) (by rfl) T.z_sorted (by decide +kernel) (pa_cons (pe_callTy (T := "list") (listDQ rfl) (by rfl) T.z_list (by decide +kernel) (pa_cons (pe_dget (hu_of hr) (fldQ (K := K) rfl (pv 0) rfl) (pe_tup (pa_cons (pv 4) (pa_cons (pv 2) pa_nil))) (fun _ _ => rfl)) pa_nil)) pa_nil))) (pg_name (i := 5) sc_least_pieces.nd rfl (Or.inl rfl))
              (pss_cons (ps_set (i := 6) sc_least_pieces.nd rfl (Or.inl rfl) (pe_op op_add (pe_ix (ixT (K := K) rfl) (pe_ix (ixL (K := K) rfl) (pv 1) (pv 4) (fun _ _ => rfl)) pe_int (fun _ _ => rfl)) (pe_ifExp (pt_cmpR op_eq (pv 5) (peI T.c_GONE rfl) (nomark _)) pe_int pe_int)))
              (pss_one (ps_if (PW.pt (pw_or (pt_cmpR op_isN (pv 3) pe_non (nomark _)) (pw_or1 (pt_cmpR op_lt (pv 6) (pe_ix (ixT (K := K) rfl) (pv 3) pe_int (fun _ _ => rfl)) (nomark _)))))
                (pss_one (ps_set (i := 3) sc_least_pieces.nd rfl (Or.inl rfl) (pe_tup (pa_cons (pv 6) (pa_cons (pe_tup (starQ (K := K) rfl (pe_ix (ixT (K := K) rfl) (pe_ix (ixL (K := K) rfl) (pv 1) (pv 4) (fun _ _ => rfl)) pe_int (fun _ _ => rfl)) (pa_cons (pe_tup (pa_cons (pv 4) (pa_cons (pv 2) (pa_cons (pv 5) pa_nil)))) pa_nil))) pa_nil)))))
                pss_nil))))))
          (pss_one (ps_expr (pe_bm PySem.F.plainAttrs_list PySem.F.slot_list_append PySem.F.type_list_append mt_append (pv 1) (pa_cons (pv 3) pa_nil)))))))
        (pss_one (ps_ret (pe_ix (ixT (K := K) rfl) (pe_ix (ixL (K := K) rfl) (pv 1) (pe_un un_neg pe_int) (fun _ _ => rfl)) pe_int (fun _ _ => rfl))))))), ?_⟩
    refine st_seq (x_set ?_)
    refine ⟨Nat.zero_le _, fun e0 he0 => ⟨by show 2 ≤ sizeLine; decide, fun a0 ha0 => ⟨by show 1 ≤ sizeLine; decide, fun b hb => ?_⟩⟩⟩
    dsimp only
    generalize hH1 : (upd (upd (upd H e0 (.tup [])) a0 (.tup [.int 0, .ref e0])) b (.lst [.ref a0])) = H1
    have h01 : Same H (upd (upd H e0 (.tup [])) a0 (.tup [.int 0, .ref e0])) := (same_new he0).trans (same_new ha0)
    have e1 : Same H H1 := by rw [← hH1]; exact h01.trans (same_new hb)
    have hbH : H b = none := h01.free hb
    have best1 : BestAt H1 b [a0] R n q := by
      refine ⟨by rw [← hH1]; exact upd_same, fun i a hi => ?_⟩
      have hi0 : i = 0 ∧ a = a0 := by
        match i, hi with
        | 0, hi => exact ⟨rfl, (Option.some.inj hi).symm⟩
        | i + 1, hi => simp at hi
      obtain ⟨rfl, rfl⟩ := hi0
      have hba : b ≠ a := fun z => by rw [z, upd_same] at hb; cases hb
      have hbe : b ≠ e0 := fun z => by
        rw [z] at hb
        by_cases c : e0 = a
        · rw [c, upd_same] at hb; cases hb
        · rw [upd_ne c, upd_same] at hb; cases hb
      have hae : a ≠ e0 := fun z => by rw [z, upd_same] at ha0; cases ha0
      refine ⟨[], ⟨e0, by rw [← hH1, upd_ne hba.symm]; exact upd_same, [], by rw [← hH1, upd_ne hbe.symm, upd_ne hae.symm]; exact upd_same, .nil⟩, Nat.zero_le _, ?_⟩
      rw [List.take_zero]
      exact Mt.least_zero
    refine st_seq (st_forR2 (lo := 1) (n := (q.length : Int) + 1) (va_cons val_c (va_cons (val_add (val_slen T (hS.same e1) (val_var rfl)) val_c) va_nil)) (by omega) (by omega) (by omega) (by omega)
      (fun c σ' H' => ∃ x2 x3 x4 x5 x6 bs, σ' = [some (.ref p), some (.ref b), x2, x3, x4, x5, x6] ∧ Same H H' ∧ BestAt H' b bs R n q ∧ bs.length = c + 1)
      ⟨_, _, _, _, _, [a0], rfl, e1, best1, rfl⟩ ?_ ?_)
    · rintro c σ' H2 hc ⟨x2, x3, x4, x5, x6, bs, rfl, e2, hB, lb⟩
      obtain ⟨j, hj⟩ : ∃ j : Nat, j = 1 + c := ⟨_, rfl⟩
      have ej : ((1 : Int) + (c : Int)) = (j : Int) := by omega
      rw [ej]
      have hjl : j ≤ q.length := by omega
      refine st_seq (st_set val_c ?_)
      dsimp only
      refine st_seq (st_forR1 (n := (j : Int)) (va_cons (val_var rfl) va_nil) (by omega) (by omega)
        (fun i σ' H' => ∃ v x4 x5 x6, σ' = [some (.ref p), some (.ref b), some (.int (j : Int)), some v, x4, x5, x6] ∧ Same H H' ∧ BestAt H' b bs R n q ∧ FoundP H' v R n q j (fun i' e => i' < i ∧ Mt.Comes (mm R n) (Mt.slc q i' j) e))
        ⟨_, _, _, _, rfl, e2, hB, .inl ⟨rfl, fun i e h => by omega⟩⟩ ?_ ?_)
      · rintro i σ' H3 hi ⟨v, x4, x5, x6, rfl, e3, hB3, hF⟩
        have hij : i < j := by omega
        obtain ⟨A, es, vA, hA, eA⟩ := hS.com.at_ i j ⟨hij, hjl⟩
        obtain ⟨ns, n1, n2, n3⟩ := ends_ints eA
        obtain ⟨ai, hai⟩ : ∃ ai, bs[i]? = some ai := ⟨bs[i]'(by omega), List.getElem?_eq_getElem (by omega)⟩
        have hS3 := hS.same e3
        refine st_forSD (d := A) (kvs := es) (ns := ns) (evs_com (val_com T hS3.self (val_var rfl)) hS3.self.dict (va_cons (val_var rfl) (va_cons (val_var rfl) va_nil)) vA) (e3 _ _ hA) n1 fun l ns' H4 perm e4 hl4 => ?_
        refine for_list (xs := ns'.map V.int) (fun m σ' H' => ∃ v x5 x6, σ' = [some (.ref p), some (.ref b), some (.int (j : Int)), some v, some (.int (i : Int)), x5, x6] ∧ Same H H' ∧ H' l = some (.lst (ns'.map V.int)) ∧ BestAt H' b bs R n q ∧
            FoundP H' v R n q j (fun i' e => (i' < i ∧ Mt.Comes (mm R n) (Mt.slc q i' j) e) ∨ (i' = i ∧ ∃ m' z, m' < m ∧ ns'[m']? = some z ∧ e = dec z)))
          ⟨v, _, _, rfl, e3.trans e4, hl4, hB3.same e4, hF.imp e4 fun i' e h => ?_⟩ (fun m σ' H' _ ⟨_, _, _, _, _, h, _⟩ => SqL.of h) ?_ ?_
        · rcases h with h | ⟨_, m', z, h, _⟩
          · exact h
          · omega
        · rintro m x σ' H5 hm ⟨v, x5, x6, rfl, e5, hl5, hB5, hF5⟩
          rw [List.getElem?_map] at hm
          obtain ⟨z, hz1, hz2⟩ := Option.map_eq_some_iff.mp hm
          subst hz2
          obtain ⟨gz, cz⟩ := n2 z (perm.mem_iff.mp (List.mem_of_getElem? hz1))
          obtain ⟨es', ⟨t', ht', hp'⟩, les, hL⟩ := hB5.at_ i ai hai
          have vb : ∀ {σ : L2.St}, σ[1]? = some (some (.ref b)) → σ[4]? = some (some (.int (i : Int))) → Val (tOp (rIxL K) (tVar 1) (tVar 4)) σ H5 (.ref ai) := fun h1 h2 => val_ixL (val_var h1) (val_var h2) (SqL.of hB5.top) (atI_nat (by rw [List.getElem?_map, hai]; rfl))
          have cnt' : cnt (es' ++ [z]) = cnt es' + Mt.oN (dec z) := cnt_app es' z
          refine st_seq (st_set ((val_add (val_ixT (vb rfl rfl) val_c (SqT.of ht') rfl) ((val_if (b := decide (z = -1)) (a_eq (val_var rfl) val_c rfl (by by_cases h : z = -1 <;> simp [h])) (fun _ => val_c) (fun _ => val_c)).to goneV)).to (by rw [show ((cnt es' : Nat) : Int) + (Mt.oN (dec z) : Nat) = ((cnt (es' ++ [z]) : Nat) : Int) by rw [cnt']; omega])) ?_)
          dsimp only
          -- what is told when the place is taken
          have pr : ∀ {i' : Nat} {e : Option Int}, ((i' < i ∧ Mt.Comes (mm R n) (Mt.slc q i' j) e) ∨ (i' = i ∧ ∃ m' z, m' < m + 1 ∧ ns'[m']? = some z ∧ e = dec z)) → ((i' < i ∧ Mt.Comes (mm R n) (Mt.slc q i' j) e) ∨ (i' = i ∧ ∃ m' z, m' < m ∧ ns'[m']? = some z ∧ e = dec z)) ∨ (i' = i ∧ e = dec z) := by
            intro i' e h
            rcases h with h | ⟨h1, m', z', h2, h3, h4⟩
            · exact .inl (.inl h)
            · by_cases hmm : m' = m
              · rw [hmm, hz1] at h3
                cases h3
                exact .inr ⟨h1, h4⟩
              · exact .inl (.inr ⟨h1, m', z', by omega, h3, h4⟩)
          have take : (∀ i' e N, ((i' < i ∧ Mt.Comes (mm R n) (Mt.slc q i' j) e) ∨ (i' = i ∧ ∃ m' z, m' < m ∧ ns'[m']? = some z ∧ e = dec z)) → Mt.Least (mm R n) (q.take i') N → cnt (es' ++ [z]) ≤ N + Mt.oN e) → ∀ H6 a6, Same H5 H6 → PlaceAt H6 a6 (es' ++ [z]) →
              FoundP H6 (.ref a6) R n q j (fun i' e => (i' < i ∧ Mt.Comes (mm R n) (Mt.slc q i' j) e) ∨ (i' = i ∧ ∃ m' z, m' < m + 1 ∧ ns'[m']? = some z ∧ e = dec z)) := by
            intro hmin H6 a6 e6 hp6
            refine .inr ⟨a6, es' ++ [z], rfl, hp6, by rw [List.length_append, List.length_singleton]; omega, ⟨i, dec z, cnt es', hij, cz, hL, cnt'⟩, fun i' e N h hN => ?_⟩
            rcases pr h with h | ⟨rfl, rfl⟩
            · exact hmin i' e N h hN
            · rw [hN.uniq hL, cnt']
              exact Nat.le_refl _
          have store : ∀ (D : Ends) (σ' : L2.St), σ'[1]? = some (some (.ref b)) → σ'[2]? = some (some (.int (j : Int))) → σ'[4]? = some (some (.int (i : Int))) → σ'[5]? = some (some (.int z)) → σ'[6]? = some (some (.int ((cnt (es' ++ [z]) : Nat) : Int))) →
              (∀ a6 H6, Same H5 H6 → PlaceAt H6 a6 (es' ++ [z]) → D.nx (σ'.set 3 (some (.ref a6))) H6) →
              tAsg (tTup (tCons (tVar 6) (tCons (tTup (StX.tStar K (tOp (rIxT K) (tOp (rIxL K) (tVar 1) (tVar 4)) (tC (.int 1))) (tCons (tTup (tCons (tVar 4) (tCons (tVar 2) (tCons (tVar 5) tNil)))) tNil))) tNil))) (gName 3) D σ' H5 := by
            intro D σ' s1 s2 s4 s5 s6 hk
            obtain ⟨ts, ht1, ht2⟩ := hp'
            refine x_set ⟨_, s6, val_ixT (vb s1 s4) val_c (SqT.of ht') rfl _ ⟨t', _, rfl, .inl (SqT.of ht1), ?_⟩⟩
            refine x_tup1 ((va_cons (val_var s4) (va_cons (val_var s2) (va_cons (val_var s5) va_nil))) _ ?_)
            refine ⟨by show 3 ≤ sizeLine; decide, fun u1 hu1 => ⟨?_, fun u2 hu2 => ⟨by show 2 ≤ sizeLine; decide, fun u3 hu3 => ?_⟩⟩⟩
            · rw [List.length_append, List.length_map, plen ht2]
              exact Nat.le_trans (show es'.length + 1 ≤ 2000 by omega) (by decide)
            · have f1 := (same_new hu1 (o := .tup [.int (i : Int), .int (j : Int), .int z]))
              have f2 := (same_new hu2 (o := .tup (ts.map V.ref ++ [.ref u1])))
              have f3 := (same_new hu3 (o := .tup [.int ((cnt (es' ++ [z]) : Nat) : Int), .ref u2]))
              refine hk u3 _ (f1.trans (f2.trans f3)) ⟨u2, upd_same, ts ++ [u1], ?_, ?_⟩
              · rw [List.map_append]
                exact f3 _ _ upd_same
              · exact psnoc (pmap ht2 fun a e ⟨x, y, h⟩ => ⟨x, y, (f1.trans (f2.trans f3)) _ _ h⟩) ⟨_, _, (f2.trans f3) _ _ upd_same⟩
          have next : ∀ (v' : V) H6, Same H5 H6 → FoundP H6 v' R n q j (fun i' e => (i' < i ∧ Mt.Comes (mm R n) (Mt.slc q i' j) e) ∨ (i' = i ∧ ∃ m' z, m' < m + 1 ∧ ns'[m']? = some z ∧ e = dec z)) →
              ∃ v x5 x6, [some (V.ref p), some (.ref b), some (.int (j : Int)), some v', some (.int (i : Int)), some (.int z), some (.int ((cnt (es' ++ [z]) : Nat) : Int))] = [some (.ref p), some (.ref b), some (.int (j : Int)), some v, some (.int (i : Int)), x5, x6] ∧ Same H H6 ∧ H6 l = some (.lst (ns'.map V.int)) ∧ BestAt H6 b bs R n q ∧
              FoundP H6 v R n q j (fun i' e => (i' < i ∧ Mt.Comes (mm R n) (Mt.slc q i' j) e) ∨ (i' = i ∧ ∃ m' z, m' < m + 1 ∧ ns'[m']? = some z ∧ e = dec z)) := fun v' H6 e6 h6 => ⟨v', _, _, rfl, e5.trans e6, e6 _ _ hl5, hB5.same e6, h6⟩
          rcases hF5 with ⟨rfl, h0⟩ | ⟨a, es0, rfl, ⟨t0, ht0, hp0⟩, l0, w0, m0⟩
          · refine st_yes (ans_or1 (a_isN (val_var rfl) rfl)) ?_
            refine store _ _ rfl rfl rfl rfl rfl fun a6 H6 e6 hp6 => next _ _ e6 (take (fun i' e N h => absurd h (h0 i' e)) _ _ e6 hp6)
          · by_cases hlt : cnt (es' ++ [z]) < cnt es0
            · refine st_yes (ans_or (a_isN (val_var rfl) rfl) (a_bi (val_var rfl) (val_ixT (val_var rfl) val_c (SqT.of ht0) rfl) (decide_eq_true (by omega)))) ?_
              exact store _ _ rfl rfl rfl rfl rfl fun a6 H6 e6 hp6 => next _ _ e6 (take (fun i' e N h hN => Nat.le_trans (Nat.le_of_lt hlt) (m0 i' e N h hN)) _ _ e6 hp6)
            · refine st_no (ans_or (a_isN (val_var rfl) rfl) (a_bi (val_var rfl) (val_ixT (val_var rfl) val_c (SqT.of ht0) rfl) (decide_eq_false (by omega)))) ?_
              refine next _ _ (Same.refl _) (.inr ⟨a, es0, rfl, ⟨t0, ht0, hp0⟩, l0, w0, fun i' e N h hN => ?_⟩)
              rcases pr h with h | ⟨rfl, rfl⟩
              · exact m0 i' e N h hN
              · rw [hN.uniq hL, ← cnt']
                omega
        · rintro σ' H5 ⟨v, x5, x6, rfl, e5, hl5, hB5, hF5⟩
          refine ⟨v, _, _, _, rfl, e5, hB5, hF5.imp (Same.refl _) fun i' e h => ?_⟩
          by_cases hi' : i' = i
          · subst hi'
            obtain ⟨z, hz, ez⟩ := n3 e h.2
            obtain ⟨m', hm'⟩ := List.getElem?_of_mem (perm.mem_iff.mpr hz)
            exact .inr ⟨rfl, m', z, by rw [List.length_map]; exact (List.getElem?_eq_some_iff.mp hm').1, hm', ez.symm⟩
          · exact .inl ⟨by omega, h.2⟩
      · rintro σ' H3 ⟨v, x4, x5, x6, rfl, e3, hB3, hF⟩
        dsimp only
        have hj0 : 0 < j := by omega
        obtain ⟨c0, hc0⟩ : ∃ c0, q[j - 1]? = some c0 := ⟨q[j - 1]'(by omega), List.getElem?_eq_getElem (by omega)⟩
        have hone : Mt.Comes (mm R n) (Mt.slc q (j - 1) j) (some c0) := by
          have := Mt.slc_one hc0
          rw [show j - 1 + 1 = j by omega] at this
          rw [this]
          exact .one c0
        rcases hF with ⟨_, h0⟩ | ⟨a, es0, rfl, hp0, l0, ⟨i1, o1, N1, w1, w2, w3, w4⟩, m0⟩
        · exact absurd ⟨by omega, hone⟩ (h0 (j - 1) (some c0))
        · have hf : ∀ i, i < j → ∃ N, Mt.Least (mm R n) (q.take i) N := fun i hi => by
            obtain ⟨ai, hai⟩ : ∃ ai, bs[i]? = some ai := ⟨bs[i]'(by omega), List.getElem?_eq_getElem (by omega)⟩
            obtain ⟨es', _, _, hL⟩ := hB3.at_ i ai hai
            exact ⟨_, hL⟩
          have hL : Mt.Least (mm R n) (q.take j) (cnt es0) := by
            refine Mt.least_step (f := fun i => if h : i < j then (hf i h).choose else 0) hjl hj0 (fun i hi => ?_) ⟨i1, o1, w1, w2, ?_⟩ (fun i e hi hc => ?_)
            · simp only [dif_pos hi]
              exact (hf i hi).choose_spec
            · simp only [dif_pos w1]
              rw [(hf i1 w1).choose_spec.uniq w3, w4]
            · simp only [dif_pos hi]
              exact m0 i e _ ⟨by omega, hc⟩ (hf i hi).choose_spec
          refine x_drop ⟨_, rfl, .inl ⟨rfl, _, SqL.of hB3.top⟩, _, rfl, b, _, _, rfl, rfl, hB3.top, by rw [List.length_map, lb]; exact Nat.lt_of_le_of_lt (show c + 1 ≤ 2000 by omega) (by decide), ?_⟩
          refine ⟨_, _, _, _, _, bs ++ [a], rfl, same_mut e3 hbH, ⟨by rw [List.map_append]; exact upd_same, fun i x hi => ?_⟩, by rw [List.length_append, lb]; rfl⟩
          by_cases hib : i < bs.length
          · rw [List.getElem?_append_left hib] at hi
            obtain ⟨es', h1, h2, h3⟩ := hB3.at_ i x hi
            exact ⟨es', h1.off hB3.top, h2, h3⟩
          · rw [List.getElem?_append_right (by omega)] at hi
            have hi0 : i - bs.length = 0 := by
              have := (List.getElem?_eq_some_iff.mp hi).1
              simp at this
              omega
            rw [hi0] at hi
            have ex : a = x := Option.some.inj hi
            subst ex
            have eij : i = j := by omega
            rw [eij]
            exact ⟨es0, hp0.off hB3.top, l0, hL⟩
    · rintro σ' H2 ⟨x2, x3, x4, x5, x6, bs, rfl, e2, hB, lb⟩
      dsimp only
      have el : (((q.length : Int) + 1 - 1).toNat : Nat) = q.length := by omega
      rw [el] at lb
      obtain ⟨a, ha⟩ : ∃ a, bs[q.length]? = some a := ⟨bs[q.length]'(by omega), List.getElem?_eq_getElem (by omega)⟩
      obtain ⟨es, ⟨t, h1, h2⟩, hle, h3⟩ := hB.at_ _ a ha
      rw [List.take_length] at h3
      have hlast : atI (bs.map V.ref) (-1) = some (.ref a) := by
        unfold atI ixN
        rw [if_neg (by decide), List.length_map, lb, if_pos (by omega)]
        show (bs.map V.ref)[((-1 : Int) + ((q.length + 1 : Nat) : Int)).toNat]? = _
        rw [show ((-1 : Int) + ((q.length + 1 : Nat) : Int)).toNat = q.length by omega, List.getElem?_map, ha]
        rfl
      refine st_ret (val_ixT (val_ixL (val_var rfl) (val_neg val_c) (SqL.of hB.top) hlast) val_c (SqT.of h1) rfl) ?_
      exact k t H2 es e2 h2 h3 hle
end
end FF
set_option maxHeartbeats 4000000
namespace FF
open PySem PySem.Spec PyProof.Rows L2
section
variable {P : Program} {w : World} {K : PySem.W.Frag} {mg : Str → Option Value} {base : Heap}
/-! ### pieces_left, fewest_left -/
def sp_pieces_left (K : PySem.W.Frag) : Sp := fun vs H Q _ => ∃ (t : Addr) (es : List Int), vs = [.ref t] ∧ PiecesAt H t es ∧ es.length ≤ 2000 ∧ ∀ H', Same H H' → Q (.int (cnt es : Nat)) H'
theorem cnt_take {es : List Int} {i : Nat} {e : Int} (h : es[i]? = some e) : cnt (es.take (i + 1)) = cnt (es.take i) + Mt.oN (dec e) := by
  rw [List.take_add_one, h]
  exact cnt_app _ _
theorem iteF' {A B : Prop} (h : B) : if (!decide ((-1 : Int) = -1)) = true then A else B := h
theorem iteT' {A B : Prop} (h : A) : if true = true then A else B := h
theorem ok_pieces_left (T : Txt K mg) : FnOk P w K mg base CX0 1 (He.ga K "pieces_left") T.fd_pieces_left ["pieces"] (sp_pieces_left K) := by
  refine T.F_pieces_left.ok sc_pieces_left (fun vs H Q E h => ?_) (fun cdv A outer s H vs Q E hr h => ?_)
  · obtain ⟨_, _, rfl, _⟩ := h; rfl
  · obtain ⟨t, es, rfl, ⟨ts, ht, hp⟩, hl, k⟩ := h
    refine ⟨_, PSs.nox ((pss_one (ps_ret (pe_callB (lenQ (K := K) rfl) (by rfl) T.z_len boot_len (pa_cons (pe_lc (own := [("first", 1), ("last", 2), ("end", 3)]) rfl sc_pieces_left.nd (piT (K := K) rfl (pv 0)) (blkOk_by (N := ["pieces", "first", "last", "end"]) (sc := defScope s_pieces_left) (own := [("first", 1), ("last", 2), ("end", 3)]) (by decide +kernel)) (fun _ _ _ _ _ => (pgT (K := K) (n := 3) rfl rfl (pgs_cons (pg_name (i := 1) sc_pieces_left.nd rfl (Or.inl rfl)) (pgs_cons (pg_name (i := 2) sc_pieces_left.nd rfl (Or.inl rfl)) (pgs_cons (pg_name (i := 3) sc_pieces_left.nd rfl (Or.inl rfl)) pgs_nil))))) (fun _ _ _ _ _ => (pts_one (pt_cmpR op_ne (pv 3) (peI T.c_GONE rfl) (nomark _)))) (fun _ _ _ _ _ => (pv 3))) pa_nil))))), ?_⟩
    have hlt : (ts.map V.ref).length = es.length := by rw [List.length_map, plen hp]
    refine x_ret (x_cb1 (x_lcT ?_))
    refine ⟨_, rfl, t, rfl, ⟨_, SqT.of ht⟩, fun D hD => ?_⟩
    refine lc_tup (xs := ts.map V.ref) (fun i H' => Same H H' ∧ H D = none ∧ ∃ xs : List V, H' D = some (.lst xs) ∧ xs.length = cnt (es.take i)) ⟨same_new hD, hD, [], upd_same, rfl⟩ (fun i H' _ h => SqT.of (h.1 _ _ ht)) ?_ ?_
    · rintro i x H' hi ⟨e, _, xs, h1, h2⟩
      rw [List.getElem?_map] at hi
      obtain ⟨u, hu1, hu2⟩ := Option.map_eq_some_iff.mp hi
      subst hu2
      obtain ⟨z, hz, x1, x2, hu3⟩ := pgetL hp hu1
      have hu4 := e _ _ hu3
      refine ⟨u, _, rfl, SqT.of hu4, rfl, _, _, rfl, _, _, rfl, _, _, rfl, rfl, ?_⟩
      refine ⟨rfl, ?_⟩
      refine (a_ne (b := !decide (z = -1)) (val_var rfl) val_c rfl (by by_cases h : z = -1 <;> simp [h])) _ ?_
      have hc := cnt_take hz
      by_cases h : z = -1
      · subst h
        refine iteF' ?_
        refine ⟨e, ‹_›, xs, h1, ?_⟩
        rw [hc, h2]
        rfl
      · have hd : (!decide (z = -1)) = true := by simp [h]
        rw [hd]
        refine iteT' ?_
        refine ⟨_, rfl, xs, h1, ?_, same_mut e ‹_›, ‹_›, xs ++ [.int z], upd_same, ?_⟩
        · have h3 : cnt (es.take i) ≤ es.length := by
            unfold cnt
            have := List.length_filter_le (fun e : Int => !decide (e = -1)) (es.take i)
            rw [List.length_take] at this
            omega
          rw [h2]
          exact Nat.lt_of_le_of_lt (show cnt (es.take i) ≤ 2000 by omega) (by decide)
        · rw [List.length_append, h2, hc, dec_no h]
          rfl
    · rintro H' ⟨e, _, xs, h1, h2⟩
      refine ⟨D, xs, rfl, .inl (SqL.of h1), ?_⟩
      rw [h2, hlt, List.take_length]
      exact k H' e
def sp_fewest_left (K : PySem.W.Frag) : Sp := fun vs H Q _ => ∃ (p a ra : Addr) (R : Rws) (n : Nat) (q : List Int), vs = [.ref p, .ref a] ∧ MerAt K H p R n ra ∧ H a = some (.tup (iq q)) ∧ QOk n q ∧ q.length ≤ 1000 ∧ ∀ (N : Nat) H', Same H H' → Mt.Least (mm R n) q N → Q (.int (N : Int)) H'
theorem ok_fewest_left (T : Txt K mg) : FnOk P w K mg base CX0 5 (He.ga K "fewest_left") T.fd_fewest_left ["merger", "queue"] (sp_fewest_left K) := by
  refine T.F_fewest_left.ok sc_fewest_left (fun vs H Q E h => ?_) (fun cdv A outer s H vs Q E hr h => ?_)
  · obtain ⟨_, _, _, _, _, _, rfl, _⟩ := h; rfl
  · obtain ⟨p, a, ra, R, n, q, rfl, hM, ha, hq, hl, k⟩ := h
    refine ⟨_, PSs.nox ((pss_one (ps_ret (pe_call (ok_pieces_left T) (hr.mono (by decide)) rfl T.m_pieces_left T.F_pieces_left.kp (bi_pieces_left T) .nil pass0 (pa_cons (pe_call (ok_least_pieces T) (hr.mono (by decide)) rfl T.m_least_pieces T.F_least_pieces.kp (bi_least_pieces T) .nil pass0 (pa_cons (pe_make T.mk_Stretches (ok_Stretches_init T) (hr.mono (by decide)) rfl T.mC_Stretches (bi_Stretches_init T) .nil pass0 (pa_cons (fldQ (K := K) rfl (pv 0) rfl) (pa_cons (pe_call (ok_check_queue T) (hr.mono (by decide)) rfl T.m_check_queue T.F_check_queue.kp (bi_check_queue T) .nil pass0 (pa_cons (pv 0) (pa_cons (pv 1) pa_nil))) pa_nil))) pa_nil)) pa_nil))))), ?_⟩
    refine x_ret (x_call (x_cons (x_call (x_cons (x_make (x_cons (val_rows T hM (val_var rfl) _ (x_cons (x_call ((va_cons (val_var rfl) (va_cons (val_var rfl) va_nil)) _ ?_))))))))))
    refine ⟨p, a, ra, R, n, q, rfl, hM, ha, hq, by omega, fun H1 e1 => ?_⟩
    intro x dx hx hdx hne
    have hM1 := hM.same e1
    have eN : Same H1 (upd (upd H1 dx (.own x)) x (.ins (He.ga K "Stretches") dx [])) := fun b o h => by rw [upd_ne (ne_of_none h hx), upd_ne (ne_of_none h hdx)]; exact h
    refine ⟨x, dx, ra, a, R, n, q, rfl, upd_same, hM1.rows.same eN, hM.wf, eN _ _ (e1 _ _ ha), hq, hl, fun H2 D kvs e2 hS => ⟨rfl, ?_⟩⟩
    have e12 : Same H1 H2 := mk_same hx hdx e2
    refine ⟨x, ra, D, kvs, R, n, q, rfl, hS, hl, fun t H3 es e3 hP hL hle => ?_⟩
    exact ⟨t, es, rfl, hP, by omega, fun H4 e4 => k _ H4 (e1.trans (e12.trans (e3.trans e4))) hL⟩
end
end FF
set_option maxHeartbeats 4000000
namespace FF
open PySem PySem.Spec PyProof.Rows L2
section
variable {P : Program} {w : World} {K : PySem.W.Frag} {mg : Str → Option Value} {base : Heap}
/-! ### _law_folded -/
abbrev Pq := Addr × List Int
def sumw (l : List Pq) : Nat := (l.map fun p => Mt.wt p.2.length).sum
theorem sumw_cons (p : Pq) (l : List Pq) : sumw (p :: l) = Mt.wt p.2.length + sumw l := by unfold sumw; rw [List.map_cons, List.sum_cons]
theorem sumw_app (l m : List Pq) : sumw (l ++ m) = sumw l + sumw m := by unfold sumw; rw [List.map_append, List.sum_append]
theorem sumw_len : ∀ l : List Pq, l.length ≤ sumw l
  | [] => Nat.zero_le _
  | p :: l => by
    rw [sumw_cons, List.length_cons]
    have := sumw_len l
    have := Mt.wt_pos p.2.length
    omega
theorem sumw_le {c : Nat} : ∀ {l : List Pq}, (∀ p ∈ l, p.2.length ≤ c) → sumw l ≤ l.length * Mt.wt c
  | [], _ => Nat.zero_le _
  | p :: l, h => by
    rw [sumw_cons, List.length_cons, Nat.add_mul, Nat.one_mul]
    have h1 := Mt.wt_mono (h p (List.mem_cons_self ..))
    have h2 := sumw_le (l := l) fun x hx => h x (List.mem_cons_of_mem _ hx)
    omega
theorem kV_iq (r : List Int) : (r.map Sum.inl : List Key).map kV = iq r := by rw [List.map_map]; rfl
theorem inl_inj {r s : List Int} (h : (r.map Sum.inl : List Key) = s.map Sum.inl) : r = s := by
  have := congrArg (List.map kV) h
  rw [kV_iq, kV_iq] at this
  have k : ∀ {a b : List Int}, iq a = iq b → a = b := by
    intro a
    induction a with
    | nil => intro b hb; cases b with
      | nil => rfl
      | cons => cases hb
    | cons x a ih => intro b hb; cases b with
      | nil => cases hb
      | cons y b =>
        have h1 : V.int x :: iq a = V.int y :: iq b := hb
        injection h1 with h2 h3
        injection h2 with h4
        rw [h4, ih h3]
  exact k this
structure Bf (H H' : Hp) (F S W : Addr) (R : Rws) (n : Nat) (q : List Int) (ps fd : List Pq) (kvs : List (List Key × V)) : Prop where
  same : Same H H'
  nF : H F = none
  nS : H S = none
  nW : H W = none
  FW : F ≠ W
  w : H' W = some (.lst (ps.map fun p => V.ref p.1))
  wq : ∀ p ∈ ps, H' p.1 = some (.tup (iq p.2))
  s : H' S = some (.dT kvs)
  sk : ∀ r : List Int, (valV kvs (r.map Sum.inl)).isSome = true ↔ ∃ p ∈ ps, p.2 = r
  sl : kvs.length ≤ ps.length
  f : H' F = some (.lst (fd.map fun p => V.ref p.1))
  fq : ∀ p ∈ fd, H' p.1 = some (.tup (iq p.2)) ∧ Mt.Reach (mm R n) q p.2 ∧ Mt.Fold (mm R n) p.2
  reach : ∀ p ∈ ps, Mt.Reach (mm R n) q p.2 ∧ QOk n p.2 ∧ p.2.length ≤ 7
  q0 : ∃ p ∈ ps, p.2 = q
theorem Bf.grow {H H' H'' : Hp} {F S W : Addr} {R : Rws} {n : Nat} {q : List Int} {ps fd : List Pq} {kvs : List (List Key × V)} (b : Bf H H' F S W R n q ps fd kvs) (e : Same H' H'') : Bf H H'' F S W R n q ps fd kvs :=
  ⟨b.same.trans e, b.nF, b.nS, b.nW, b.FW, e _ _ b.w, fun p h => e _ _ (b.wq p h), e _ _ b.s, b.sk, b.sl, e _ _ b.f, fun p h => ⟨e _ _ (b.fq p h).1, (b.fq p h).2⟩, b.reach, b.q0⟩
theorem Bf.add {H H' : Hp} {F S W a : Addr} {R : Rws} {n : Nat} {q r : List Int} {ps fd : List Pq} {kvs : List (List Key × V)} (b : Bf H H' F S W R n q ps fd kvs) (ha : H' a = some (.tup (iq r))) (hn : valV kvs (r.map Sum.inl) = none) (hr : Mt.Reach (mm R n) q r) (hq : QOk n r) (hl : r.length ≤ 7) :
    Bf H (upd (upd H' S (.dT (putK kvs (r.map Sum.inl) (.bl true)))) W (.lst ((ps.map fun p => V.ref p.1) ++ [.ref a]))) F S W R n q (ps ++ [(a, r)]) fd (putK kvs (r.map Sum.inl) (.bl true)) := by
  have SW : S ≠ W := ne_of b.s b.w (by intro z; cases z)
  have SF : F ≠ S := ne_of b.f b.s (by intro z; cases z)
  have t : ∀ {x : Addr} {xs : List V}, H' x = some (.tup xs) → (upd (upd H' S (.dT (putK kvs (r.map Sum.inl) (.bl true)))) W (.lst ((ps.map fun p => V.ref p.1) ++ [.ref a]))) x = some (.tup xs) := fun h => by
    rw [upd_ne (ne_of h b.w (by intro z; cases z)), upd_ne (ne_of h b.s (by intro z; cases z))]
    exact h
  refine ⟨same_mut (same_mut b.same b.nS) b.nW, b.nF, b.nS, b.nW, b.FW, by rw [List.map_append]; exact upd_same, fun p hp => ?_, by rw [upd_ne SW]; exact upd_same, fun s => ?_, ?_, by rw [upd_ne b.FW, upd_ne SF]; exact b.f, fun p hp => ⟨t (b.fq p hp).1, (b.fq p hp).2⟩, fun p hp => ?_, ?_⟩
  · rcases List.mem_append.mp hp with h | h
    · exact t (b.wq p h)
    · rw [List.mem_singleton.mp h]
      exact t ha
  · rw [valV_put]
    by_cases c : s = r
    · subst c
      rw [if_pos rfl]
      exact ⟨fun _ => ⟨(a, s), List.mem_append_right _ (List.mem_singleton.mpr rfl), rfl⟩, fun _ => rfl⟩
    · rw [if_neg fun z => c (inl_inj z), b.sk]
      constructor
      · rintro ⟨p, h1, h2⟩
        exact ⟨p, List.mem_append_left _ h1, h2⟩
      · rintro ⟨p, h1, h2⟩
        rcases List.mem_append.mp h1 with h | h
        · exact ⟨p, h, h2⟩
        · rw [List.mem_singleton.mp h] at h2
          exact absurd h2.symm c
  · have := length_putK kvs (r.map Sum.inl) (.bl true)
    rw [List.length_append, List.length_singleton]
    have := b.sl
    omega
  · rcases List.mem_append.mp hp with h | h
    · exact b.reach p h
    · rw [List.mem_singleton.mp h]
      exact ⟨hr, hq, hl⟩
  · obtain ⟨p, h1, h2⟩ := b.q0
    exact ⟨p, List.mem_append_left _ h1, h2⟩
theorem qok_once {R : Rws} {n : Nat} {q : List Int} {i : Nat} {x y z : Int} (w : Wf R n) (hq : QOk n q) (hx : q[i]? = some x) (hy : q[i + 1]? = some y) (hz : ent R x y = some z) : QOk n (once R q i z) := by
  intro u hu
  unfold once at hu
  rcases List.mem_append.mp hu with h | h
  · exact hq u (List.mem_of_mem_take h)
  · rcases List.mem_append.mp h with h | h
    · by_cases c : z = -1
      · rw [c] at h; cases h
      · rw [dec_no c] at h
        rw [List.mem_singleton.mp h]
        exact w.cm (hq x (List.mem_of_getElem? hx)) (hq y (List.mem_of_getElem? hy)) hz c
    · exact hq u (List.mem_of_mem_drop h)
theorem step_once {R : Rws} {n : Nat} {q r : List Int} (hq : QOk n q) : Mt.Step (mm R n) q r ↔ ∃ p x y z, q[p]? = some x ∧ q[p + 1]? = some y ∧ ent R x y = some z ∧ r = once R q p z := by
  rw [Mt.step_iff]
  constructor
  · rintro ⟨p, x, y, z, h1, h2, h3, h4⟩
    obtain ⟨_, _, i, h5, h6⟩ := mm_dom h3
    exact ⟨p, x, y, i, h1, h2, h5, by rw [h4, ← h6]; rfl⟩
  · rintro ⟨p, x, y, z, h1, h2, h3, h4⟩
    exact ⟨p, x, y, dec z, h1, h2, mm_of (hq x (List.mem_of_getElem? h1)) (hq y (List.mem_of_getElem? h2)) h3, h4⟩
def sp_law_folded (K : PySem.W.Frag) : Sp := fun vs H Q _ => ∃ (ra qa : Addr) (rs : List Addr) (R : Rws) (n : Nat) (q : List Int), vs = [.ref ra, .ref qa] ∧ RowsL H ra rs R ∧ Wf R n ∧ H qa = some (.tup (iq q)) ∧ QOk n q ∧ q.length ≤ 7 ∧
  ∀ (l : Addr) (H' : Hp) (ps : List Pq), Same H H' → H' l = some (.lst (ps.map fun p => V.ref p.1)) → (∀ p ∈ ps, H' p.1 = some (.tup (iq p.2)) ∧ Mt.Reach (mm R n) q p.2 ∧ Mt.Fold (mm R n) p.2) → (∀ r, Mt.Reach (mm R n) q r → Mt.Fold (mm R n) r → ∃ p ∈ ps, p.2 = r) → ps.length ≤ 2000 → Q (.ref l) H'
theorem ok_law_folded (T : Txt K mg) : FnOk P w K mg base CX0 2 (He.ga K "_law_folded") T.fd_law_folded ["_law_rows_here", "_law_queue_here"] (sp_law_folded K) := by
  refine T.F_law_folded.ok sc_law_folded (fun vs H Q E h => ?_) (fun cdv A outer s H vs Q E hr h => ?_)
  · obtain ⟨_, _, _, _, _, _, rfl, _⟩ := h; rfl
  · obtain ⟨ra, qa, rs, R, n, q, rfl, hR, w, hqa, hq, hl, k⟩ := h
    refine ⟨_, PSs.nox ((pss_cons (ps_par3 (i := 2) (j := 3) (l := 4) rfl sc_law_folded.nd rfl rfl rfl (by decide) (by decide) (by decide) rfl rfl rfl (pa_cons (pe_lst pa_nil) (pa_cons (pe_dispT (hu_of hr) (pv 1) pe_bl) (pa_cons (pe_lst (pa_cons (pv 1) pa_nil)) pa_nil))) (by rfl))
        (pss_cons (ps_for PassesOwn.never rfl (pi_range1 (by rfl) T.z_range (pa_cons pe_int pa_nil)) (pg_name (i := 5) sc_law_folded.nd rfl (Or.inl rfl))
          (pss_cons (ps_if (pt_cmpR op_ge (pv 5) (pe_callB (lenQ (K := K) rfl) (by rfl) T.z_len boot_len (pa_cons (pv 4) pa_nil)) (nomark _))
            (pss_one ps_break)
            pss_nil)
          (pss_cons (ps_par (i := 7) (j := 8) rfl sc_law_folded.nd rfl rfl (by decide) rfl rfl (pa_cons (pe_ix (ixL (K := K) rfl) (pv 4) (pv 5) (fun _ _ => rfl)) (pa_cons pe_bl pa_nil)) (by rfl))
          (pss_cons (ps_for PassesOwn.never rfl (pi_range1 (by rfl) T.z_range (pa_cons (pe_op op_sub (pe_callB (lenQ (K := K) rfl) (by rfl) T.z_len boot_len (pa_cons (pv 7) pa_nil)) pe_int) pa_nil)) (pg_name (i := 6) sc_law_folded.nd rfl (Or.inl rfl))
            (pss_cons (ps_set (i := 9) sc_law_folded.nd rfl (Or.inl rfl) (pe_call (ok_law_once T) (hr.mono (by decide)) rfl T.m_law_once T.F_law_once.kp (bi_law_once T) .nil pass0 (pa_cons (pv 0) (pa_cons (pv 7) (pa_cons (pv 6) pa_nil)))))
            (pss_one (ps_if (pt_cmpR op_notN (pv 9) pe_non (nomark _))
              (pss_cons (ps_set (i := 8) sc_law_folded.nd rfl (Or.inl rfl) pe_bl)
              (pss_one (ps_if (pt_cmp (pc_dnotin (hu_of hr) (pv 9) (pv 3)))
                (pss_cons (ps_dput (hu_of hr) (pv 3) (pv 9) pe_bl rfl)
                (pss_one (ps_expr (pe_bm PySem.F.plainAttrs_list PySem.F.slot_list_append PySem.F.type_list_append mt_append (pv 4) (pa_cons (pv 9) pa_nil)))))
                pss_nil)))
              pss_nil))))
          (pss_one (ps_if (pt_val (pv 8))
            (pss_one (ps_expr (pe_bm PySem.F.plainAttrs_list PySem.F.slot_list_append PySem.F.type_list_append mt_append (pv 2) (pa_cons (pv 7) pa_nil))))
            pss_nil))))))
        (pss_one (ps_ret (pe_callB (cr_sortedQ (K := K) rfl (u65 hr)) (by rfl) T.z_sorted (by decide +kernel) (pa_cons (pv 2) pa_nil))))))), ?_⟩
    have w2 := w.le
    -- the start
    have start : ∀ (F : Addr), H F = none → ∀ S, (upd H F (.lst [])) S = none → ∀ W, (upd (upd (upd H F (.lst [])) S (.dT [])) S (.dT [(q.map Sum.inl, .bl true)])) W = none →
        Bf H (upd (upd (upd (upd H F (.lst [])) S (.dT [])) S (.dT [(q.map Sum.inl, .bl true)])) W (.lst [.ref qa])) F S W R n q [(qa, q)] [] [(q.map Sum.inl, .bl true)] := by
      intro F hF S hS W hW
      have FS : F ≠ S := fun z => by rw [z, upd_same] at hS; cases hS
      have WS : W ≠ S := fun z => by rw [z, upd_same] at hW; cases hW
      have WF : W ≠ F := fun z => by rw [z, upd_ne FS, upd_ne FS, upd_same] at hW; cases hW
      have hSH : H S = none := by rw [upd_ne FS.symm] at hS; exact hS
      have hWH : H W = none := by rw [upd_ne WS, upd_ne WS, upd_ne WF] at hW; exact hW
      have e : Same H (upd (upd (upd (upd H F (.lst [])) S (.dT [])) S (.dT [(q.map Sum.inl, .bl true)])) W (.lst [.ref qa])) := same_mut (same_mut (same_mut (same_new hF) hSH) hSH) hWH
      refine ⟨e, hF, hSH, hWH, WF.symm, upd_same, fun p hp => ?_, by rw [upd_ne WS.symm]; exact upd_same, fun r => ?_, Nat.le_refl _, by rw [upd_ne WF.symm, upd_ne FS, upd_ne FS]; exact upd_same, (fun p hp => by cases hp), fun p hp => ?_, ⟨_, List.mem_singleton.mpr rfl, rfl⟩⟩
      · rw [List.mem_singleton.mp hp]
        exact e _ _ hqa
      · by_cases c : r = q
        · subst c
          rw [valV_pos rfl]
          exact ⟨fun _ => ⟨_, List.mem_singleton.mpr rfl, rfl⟩, fun _ => rfl⟩
        · rw [valV_neg fun z => c (inl_inj z).symm, valV_nil]
          constructor
          · intro z; cases z
          · rintro ⟨p, h1, h2⟩
            rw [List.mem_singleton.mp h1] at h2
            exact absurd h2.symm c
      · rw [List.mem_singleton.mp hp]
        exact ⟨.refl _, hq, hl⟩
    refine st_seq ?_
    refine ⟨Nat.zero_le _, fun F hF => ?_⟩
    intro S hS
    refine ⟨_, rfl, qa, q.map Sum.inl, rfl, ?_, upd_same, ?_⟩
    · rw [kV_iq, upd_ne (ne_of_none ((same_new hF) _ _ hqa) hS)]
      exact (same_new hF) _ _ hqa
    refine ⟨_, rfl, by show 1 ≤ sizeLine; decide, fun W hW => ⟨_, _, _, rfl, ?_⟩⟩
    have B0 := start F hF S hS W hW
    generalize (upd (upd (upd (upd H F (.lst [])) S (.dT [])) S (.dT [(q.map Sum.inl, .bl true)])) W (.lst [.ref qa])) = H1 at B0 ⊢
    dsimp only
    -- the end
    have fin : ∀ (x5 x6 x7 x8 x9 : Option V) (H' : Hp) (ps fd : List Pq) (kvs : List (List Key × V)) (t : Nat), Bf H H' F S W R n q ps fd kvs → ps.length ≤ t → fd.length ≤ t → t ≤ 1957 →
        (∀ k p, k < t → ps[k]? = some p → ∀ r, Mt.Step (mm R n) p.2 r → ∃ p' ∈ ps, p'.2 = r) → (∀ k p, k < t → ps[k]? = some p → Mt.Fold (mm R n) p.2 → ∃ p' ∈ fd, p'.2 = p.2) →
        (tRet (tCB (rSortedQ K) (tCons (tVar 2) tNil)) { nx := fun _ H' => Q .non H', rt := Q }) [some (V.ref ra), some (V.ref qa), some (V.ref F), some (V.ref S), some (V.ref W), x5, x6, x7, x8, x9] H' := by
      intro x5 x6 x7 x8 x9 H' ps fd kvs t b l1 l2 l3 hc hf
      refine x_ret ⟨_, rfl, F, fd, rfl, SqL.of b.f, fun p hp => SqT.of (b.fq p hp).1, fun ps' l perm hl => ?_⟩
      have e := same_new hl (o := .lst (ps'.map fun p => V.ref p.1))
      refine k l _ ps' (b.same.trans e) upd_same (fun p hp => ?_) (fun r hr hfold => ?_) (by rw [perm.length_eq]; omega)
      · obtain ⟨h1, h2⟩ := b.fq p (perm.mem_iff.mp hp)
        exact ⟨e _ _ h1, h2⟩
      · have all : ∀ {a r : List Int}, Mt.Reach (mm R n) a r → (∃ p ∈ ps, p.2 = a) → ∃ p ∈ ps, p.2 = r := by
          intro a r h
          induction h with
          | refl => exact id
          | head s _ ih =>
            rintro ⟨p, hp, rfl⟩
            obtain ⟨kk, hk⟩ := List.getElem?_of_mem hp
            exact ih (hc kk p (by have := (List.getElem?_eq_some_iff.mp hk).1; omega) hk _ s)
        obtain ⟨p, hp, ep⟩ := all hr b.q0
        obtain ⟨kk, hk⟩ := List.getElem?_of_mem hp
        obtain ⟨p', hp', ep'⟩ := hf kk p (by have := (List.getElem?_eq_some_iff.mp hk).1; omega) hk (by rw [ep]; exact hfold)
        exact ⟨p', perm.mem_iff.mpr hp', by rw [ep', ep]⟩
    refine st_seq (st_forR1 (n := 5000) (va_cons val_c va_nil) (by omega) (by omega)
      (fun t σ' H' => ∃ x5 x6 x7 x8 x9 ps fd kvs, σ' = [some (V.ref ra), some (V.ref qa), some (V.ref F), some (V.ref S), some (V.ref W), x5, x6, x7, x8, x9] ∧ Bf H H' F S W R n q ps fd kvs ∧ fd.length ≤ t ∧ t + sumw (ps.drop t) ≤ 1957 ∧
        (∀ k p, k < t → ps[k]? = some p → ∀ r, Mt.Step (mm R n) p.2 r → ∃ p' ∈ ps, p'.2 = r) ∧ (∀ k p, k < t → ps[k]? = some p → Mt.Fold (mm R n) p.2 → ∃ p' ∈ fd, p'.2 = p.2))
      ⟨_, _, _, _, _, [(qa, q)], [], _, rfl, B0, Nat.le_refl _, ?_, fun k p h => by omega, fun k p h => by omega⟩ ?_ ?_)
    · have h1 : Mt.wt q.length ≤ 1957 := by
        have := Mt.wt_mono hl
        rw [Mt.wt7] at this
        exact this
      show 0 + sumw [(qa, q)] ≤ 1957
      rw [sumw_cons]
      show 0 + (Mt.wt q.length + 0) ≤ 1957
      omega
    · rintro t σ' H2 ht ⟨x5, x6, x7, x8, x9, ps, fd, kvs, rfl, b, lf, pot, cl, fo⟩
      have hlp : (ps.map fun p => V.ref p.1).length = ps.length := List.length_map ..
      by_cases hb : ps.length ≤ t
      · refine st_seq (st_yes (a_bi (i := (t : Int)) (j := (ps.length : Int)) (val_var rfl) ((val_lenS (val_var rfl) (.inl (SqL.of b.w))).to (by rw [hlp])) (decide_eq_true (by omega))) ?_)
        exact fin _ _ _ _ _ H2 ps fd kvs t b hb lf (by omega) cl fo
      · refine st_seq (st_no (a_bi (i := (t : Int)) (j := (ps.length : Int)) (val_var rfl) ((val_lenS (val_var rfl) (.inl (SqL.of b.w))).to (by rw [hlp])) (decide_eq_false (by omega))) ?_)
        refine st_next ?_
        dsimp only
        obtain ⟨p0, hp0⟩ : ∃ p0, ps[t]? = some p0 := ⟨ps[t]'(by omega), List.getElem?_eq_getElem (by omega)⟩
        obtain ⟨a0, r0⟩ := p0
        have hm0 := List.mem_of_getElem? hp0
        have ha0 := b.wq _ hm0
        obtain ⟨hr0, hq0, hl0⟩ := b.reach _ hm0
        simp only at ha0 hr0 hq0 hl0
        have hdrop : ps.drop t = (a0, r0) :: ps.drop (t + 1) := by
          have hlt : t < ps.length := by omega
          rw [List.drop_eq_getElem_cons hlt, (List.getElem?_eq_some_iff.mp hp0).2]
        have hlen : ps.length ≤ 1957 := by
          have := sumw_len (ps.drop t)
          rw [List.length_drop] at this
          omega
        have hlr : (iq r0).length = r0.length := List.length_map ..
        refine st_seq ?_
        refine (va_cons (val_ixL (val_var rfl) (val_var rfl) (SqL.of b.w) (atI_nat (by rw [List.getElem?_map, hp0]; rfl))) (va_cons val_c va_nil)) _ ?_
        refine ⟨_, _, rfl, ?_⟩
        dsimp only
        refine st_seq (st_forR1 (n := (r0.length : Int) - 1) (va_cons (val_sub ((val_lenS (val_var rfl) (.inr (SqT.of ha0))).to (by rw [hlr])) val_c) va_nil) (by omega) (by omega)
          (fun i σ' H' => ∃ x6 x9 be new kvs', σ' = [some (V.ref ra), some (V.ref qa), some (V.ref F), some (V.ref S), some (V.ref W), some (.int (t : Int)), x6, some (.ref a0), some (.bl be), x9] ∧ Bf H H' F S W R n q (ps ++ new) fd kvs' ∧ new.length ≤ i ∧ (∀ p ∈ new, p.2.length ≤ r0.length - 1) ∧
            (be = true ↔ ∀ j, j < i → ∀ x y z, r0[j]? = some x → r0[j + 1]? = some y → ent R x y ≠ some z) ∧ ∀ j, j < i → ∀ x y z, r0[j]? = some x → r0[j + 1]? = some y → ent R x y = some z → ∃ p' ∈ ps ++ new, p'.2 = once R r0 j z)
          ⟨_, _, true, [], kvs, rfl, by rw [List.append_nil]; exact b, Nat.le_refl _, (fun p hp => by cases hp), ⟨fun _ j h => by omega, fun _ => rfl⟩, fun j h => by omega⟩ ?_ ?_)
        · rintro i σ' H3 hi ⟨x6, x9, be, new, kvs', rfl, b3, ln, hn, hbe, hcl⟩
          have hi2 : i + 1 < r0.length := by omega
          obtain ⟨x, hx⟩ : ∃ x, r0[i]? = some x := ⟨r0[i]'(by omega), List.getElem?_eq_getElem (by omega)⟩
          obtain ⟨y, hy⟩ : ∃ y, r0[i + 1]? = some y := ⟨r0[i + 1]'hi2, List.getElem?_eq_getElem hi2⟩
          have ha3 := b3.wq (a0, r0) (List.mem_append_left _ hm0)
          simp only at ha3
          refine st_seq (x_set (x_call ?_))
          refine (va_cons (val_var rfl) (va_cons (val_var rfl) (va_cons (val_var rfl) va_nil))) _ ?_
          refine ⟨ra, a0, rs, R, n, r0, i, x, y, rfl, hR.same b3.same, w, ha3, hq0, by omega, hx, hy, fun hnone => ?_, fun z hz u H4 e4 hu => ?_⟩
          · refine st_no (a_notN (val_var rfl) rfl) ?_
            refine ⟨_, _, be, new, kvs', rfl, b3, by omega, hn, hbe.trans ⟨fun h j hj x' y' z' h1 h2 h3 => ?_, fun h j hj => h j (by omega)⟩, fun j hj x' y' z' h1 h2 h3 => ?_⟩
            · by_cases c : j = i
              · subst c
                rw [hx] at h1
                rw [hy] at h2
                cases h1
                cases h2
                rw [hnone] at h3
                cases h3
              · exact h j (by omega) x' y' z' h1 h2 h3
            · by_cases c : j = i
              · subst c
                rw [hx] at h1
                rw [hy] at h2
                cases h1
                cases h2
                rw [hnone] at h3
                cases h3
              · exact hcl j (by omega) x' y' z' h1 h2 h3
          · refine st_yes (a_notN (val_var rfl) rfl) ?_
            refine st_seq (st_set val_c ?_)
            dsimp only
            have b4 := b3.grow e4
            have hq1 := qok_once w hq0 hx hy hz
            have hs1 : Mt.Step (mm R n) r0 (once R r0 i z) := (step_once hq0).mpr ⟨i, x, y, z, hx, hy, hz, rfl⟩
            have hr1 : Mt.Reach (mm R n) q (once R r0 i z) := hr0.trans (.head hs1 (.refl _))
            have hl1 := hs1.len
            have hbe' : (false = true ↔ ∀ j, j < i + 1 → ∀ x y z, r0[j]? = some x → r0[j + 1]? = some y → ent R x y ≠ some z) := ⟨(fun z => by cases z), fun h => absurd hz (h i (by omega) x y z hx hy)⟩
            cases ev : valV kvs' ((once R r0 i z).map Sum.inl) with
            | some v0 =>
              refine st_no (fun Q q => ?_) ?_
              · exact ⟨_, rfl, _, rfl, S, some v0, rfl, by
                  have h := DGet.t (k := (once R r0 i z).map Sum.inl) b4.s (by rw [kV_iq]; exact hu)
                  rw [ev] at h
                  exact h, _, rfl, q⟩
              · have hin := (b4.sk (once R r0 i z)).mp (by rw [ev]; rfl)
                refine ⟨_, _, false, new, kvs', rfl, b4, by omega, hn, hbe', fun j hj x' y' z' h1 h2 h3 => ?_⟩
                by_cases c : j = i
                · subst c
                  rw [hx] at h1
                  rw [hy] at h2
                  cases h1
                  cases h2
                  rw [hz] at h3
                  cases h3
                  exact hin
                · exact hcl j (by omega) x' y' z' h1 h2 h3
            | none =>
              refine st_yes (fun Q q => ?_) ?_
              · exact ⟨_, rfl, _, rfl, S, none, rfl, by
                  have h := DGet.t (k := (once R r0 i z).map Sum.inl) b4.s (by rw [kV_iq]; exact hu)
                  rw [ev] at h
                  exact h, _, rfl, q⟩
              · have lps : (ps ++ new).length ≤ 1970 := by rw [List.length_append]; omega
                have b5 := b4.add hu ev hr1 hq1 (by omega)
                have SW : S ≠ W := ne_of b4.s b4.w (by intro z; cases z)
                refine st_seq (x_dput ?_)
                refine ⟨_, rfl, _, rfl, S, _, rfl, DPut.t (k := (once R r0 i z).map Sum.inl) b4.s (by rw [kV_iq]; exact hu) (Nat.lt_of_le_of_lt (show kvs'.length ≤ 2000 by have := b4.sl; omega) (by decide)), ?_⟩
                dsimp only
                have hW6 : (upd H4 S (.dT (putK kvs' ((once R r0 i z).map Sum.inl) (.bl true)))) W = some (.lst ((ps ++ new).map fun p => V.ref p.1)) := by rw [upd_ne SW.symm]; exact b4.w
                refine x_drop ⟨_, rfl, .inl ⟨rfl, _, SqL.of hW6⟩, _, rfl, W, _, _, rfl, rfl, hW6, by rw [List.length_map]; exact Nat.lt_of_le_of_lt lps (by decide), ?_⟩
                rw [List.append_assoc] at b5
                refine ⟨_, _, false, new ++ [(u, once R r0 i z)], _, rfl, b5, by rw [List.length_append, List.length_singleton]; omega, fun p hp => ?_, hbe', fun j hj x' y' z' h1 h2 h3 => ?_⟩
                · rcases List.mem_append.mp hp with h | h
                  · exact hn p h
                  · rw [List.mem_singleton.mp h]
                    show (once R r0 i z).length ≤ _
                    omega
                · by_cases c : j = i
                  · subst c
                    rw [hx] at h1
                    rw [hy] at h2
                    cases h1
                    cases h2
                    rw [hz] at h3
                    cases h3
                    exact ⟨_, List.mem_append_right _ (List.mem_append_right _ (List.mem_singleton.mpr rfl)), rfl⟩
                  · obtain ⟨p', k1, k2⟩ := hcl j (by omega) x' y' z' h1 h2 h3
                    rw [← List.append_assoc]
                    exact ⟨p', List.mem_append_left _ k1, k2⟩
        · rintro σ' H3 ⟨x6, x9, be, new, kvs', rfl, b3, ln, hn, hbe, hcl⟩
          have ei : (((r0.length : Int) - 1).toNat : Nat) = r0.length - 1 := by omega
          rw [ei] at ln hbe hcl
          have pot' : t + 1 + sumw ((ps ++ new).drop (t + 1)) ≤ 1957 := by
            rw [List.drop_append_of_le_length (by omega), sumw_app]
            rw [hdrop, sumw_cons] at pot
            have h1 := sumw_le hn
            have h2 : 1 + (r0.length - 1) * Mt.wt (r0.length - 1) ≤ Mt.wt r0.length := by
              cases hrl : r0.length with
              | zero => simp [Mt.wt]
              | succ m => exact Nat.le_refl _
            have h3 : new.length * Mt.wt (r0.length - 1) ≤ (r0.length - 1) * Mt.wt (r0.length - 1) := Nat.mul_le_mul ln (Nat.le_refl _)
            simp only at pot
            omega
          have getk : ∀ {kk : Nat} {p : Pq}, kk < t + 1 → (ps ++ new)[kk]? = some p → (kk < t ∧ ps[kk]? = some p) ∨ p = (a0, r0) := by
            intro kk p h1 h2
            rw [List.getElem?_append_left (by omega)] at h2
            by_cases c : kk = t
            · rw [c, hp0] at h2
              exact .inr (Option.some.inj h2).symm
            · exact .inl ⟨by omega, h2⟩
          have fold_iff : be = true ↔ Mt.Fold (mm R n) r0 := by
            rw [hbe]
            constructor
            · intro h r hs
              obtain ⟨p, x, y, z, h1, h2, h3, _⟩ := (step_once hq0).mp hs
              exact h p (by have := (List.getElem?_eq_some_iff.mp h2).1; omega) x y z h1 h2 h3
            · intro h j _ x y z h1 h2 h3
              exact h _ ((step_once hq0).mpr ⟨j, x, y, z, h1, h2, h3, rfl⟩)
          have cl' : ∀ k p, k < t + 1 → (ps ++ new)[k]? = some p → ∀ r, Mt.Step (mm R n) p.2 r → ∃ p' ∈ ps ++ new, p'.2 = r := by
            intro kk p h1 h2 r hs
            rcases getk h1 h2 with ⟨h3, h4⟩ | rfl
            · obtain ⟨p', k1, k2⟩ := cl kk p h3 h4 r hs
              exact ⟨p', List.mem_append_left _ k1, k2⟩
            · obtain ⟨j, x, y, z, h3, h4, h5, h6⟩ := (step_once hq0).mp hs
              rw [h6]
              exact hcl j (by have := (List.getElem?_eq_some_iff.mp h4).1; omega) x y z h3 h4 h5
          cases hbv : be with
          | false =>
            subst hbv
            refine st_no (ans_tst (val_var rfl)) ?_
            refine ⟨_, _, _, _, _, ps ++ new, fd, kvs', rfl, b3, by omega, pot', cl', fun kk p h1 h2 hF' => ?_⟩
            rcases getk h1 h2 with ⟨h3, h4⟩ | rfl
            · exact fo kk p h3 h4 hF'
            · exact absurd (fold_iff.mpr hF') (by decide)
          | true =>
            subst hbv
            refine st_yes (ans_tst (val_var rfl)) ?_
            have hfold := fold_iff.mp rfl
            have ha3 := b3.wq (a0, r0) (List.mem_append_left _ hm0)
            simp only at ha3
            have FS : F ≠ S := ne_of b3.f b3.s (by intro z; cases z)
            refine x_drop ⟨_, rfl, .inl ⟨rfl, _, SqL.of b3.f⟩, _, rfl, F, _, _, rfl, rfl, b3.f, by rw [List.length_map]; exact Nat.lt_of_le_of_lt (show fd.length ≤ 2000 by omega) (by decide), ?_⟩
            have tt : ∀ {x : Addr} {xs : List V}, H3 x = some (.tup xs) → (upd H3 F (.lst ((fd.map fun p => V.ref p.1) ++ [.ref a0]))) x = some (.tup xs) := fun h => by
              rw [upd_ne (ne_of h b3.f (by intro z; cases z))]
              exact h
            refine ⟨_, _, _, _, _, ps ++ new, fd ++ [(a0, r0)], kvs', rfl, ⟨same_mut b3.same b3.nF, b3.nF, b3.nS, b3.nW, b3.FW, by rw [upd_ne b3.FW.symm]; exact b3.w, fun p hp => tt (b3.wq p hp), by rw [upd_ne FS.symm]; exact b3.s, b3.sk, b3.sl, by rw [List.map_append]; exact upd_same, fun p hp => ?_, b3.reach, b3.q0⟩, by rw [List.length_append, List.length_singleton]; omega, pot', cl', fun kk p h1 h2 hF' => ?_⟩
            · rcases List.mem_append.mp hp with h | h
              · exact ⟨tt (b3.fq p h).1, (b3.fq p h).2⟩
              · rw [List.mem_singleton.mp h]
                exact ⟨tt ha3, hr0, hfold⟩
            · rcases getk h1 h2 with ⟨h3, h4⟩ | rfl
              · obtain ⟨p', k1, k2⟩ := fo kk p h3 h4 hF'
                exact ⟨p', List.mem_append_left _ k1, k2⟩
              · exact ⟨_, List.mem_append_right _ (List.mem_singleton.mpr rfl), rfl⟩
    · rintro σ' H2 ⟨x5, x6, x7, x8, x9, ps, fd, kvs, rfl, b, lf, pot, cl, fo⟩
      exfalso
      have e5 : ((5000 : Int).toNat : Nat) = 5000 := rfl
      rw [e5] at pot
      omega
end
end FF
set_option maxHeartbeats 4000000
namespace FF
open PySem PySem.Spec PyProof.Rows L2
section
variable {P : Program} {w : World} {K : PySem.W.Frag} {mg : Str → Option Value} {base : Heap}
/-! ### uneven_fours, uneven_four -/
def FourOk (R : Rws) (n : Nat) (l : List Int) : Prop := ∃ x y z w, l = [x, y, z, w] ∧ Cm n x ∧ Cm n y ∧ Cm n z ∧ Cm n w ∧ KindR R x y z w
def KeyOk (R : Rws) (n : Nat) (kv : List Key × V) : Prop := ∃ (l : List Int) (s : Str), kv.1 = l.map Sum.inl ∧ kv.2 = .str s ∧ FourOk R n l
theorem iq_kV (l : List Int) : (l.map Sum.inl : List Key).map kV = iq l := by rw [List.map_map]; rfl
def sp_uneven_fours (K : PySem.W.Frag) : Sp := fun vs H Q _ => ∃ (p ra : Addr) (R : Rws) (n : Nat), vs = [.ref p] ∧ MerAt K H p R n ra ∧
  ∀ (H' : Hp) (t : Addr) (ps : List (Addr × Addr × List Int × Str)), Same H H' → H' t = some (.tup (ps.map fun p => V.ref p.1)) → (∀ p ∈ ps, H' p.1 = some (.tup [.ref p.2.1, .str p.2.2.2]) ∧ H' p.2.1 = some (.tup (iq p.2.2.1)) ∧ FourOk R n p.2.2.1) → ps.length ≤ 100000 → Q (.ref t) H'
theorem evn_tup {H : Hp} {σ : L2.St} {ta : TA} {xs : List V} (h : ValA ta σ H xs) (hl : xs.length ≤ 100) : EvN (tTup ta) σ H (.tup xs) := fun Q q => h _ ⟨Nat.le_trans hl (by decide), fun p hp => q p _ hp (same_new hp) upd_same⟩
theorem putK_ok {R : Rws} {n : Nat} {kvs : List (List Key × V)} {l : List Int} {s : Str} (h : ∀ kv ∈ kvs, KeyOk R n kv) (hl : FourOk R n l) : ∀ kv ∈ putK kvs (l.map Sum.inl) (.str s), KeyOk R n kv := by
  intro kv hk
  unfold putK at hk
  split at hk
  · obtain ⟨kv0, h1, h2⟩ := List.mem_map.mp hk
    by_cases c : kv0.1 = l.map Sum.inl
    · rw [if_pos c] at h2
      rw [← h2]
      exact ⟨l, s, c, rfl, hl⟩
    · rw [if_neg c] at h2
      rw [← h2]
      exact h kv0 h1
  · rcases List.mem_append.mp hk with h1 | h1
    · exact h kv h1
    · rw [List.mem_singleton.mp h1]
      exact ⟨l, s, rfl, rfl, hl⟩
/-- fours in a list -/
def Four4 (n : Nat) (H : Hp) (u : Addr) : Prop := ∃ x y z w, Cm n x ∧ Cm n y ∧ Cm n z ∧ Cm n w ∧ H u = some (.tup (iq [x, y, z, w]))
theorem Four4.same {n : Nat} {H H' : Hp} {u : Addr} (h : Four4 n H u) (e : Same H H') : Four4 n H' u := let ⟨x, y, z, w, h1, h2, h3, h4, h5⟩ := h; ⟨x, y, z, w, h1, h2, h3, h4, e _ _ h5⟩
theorem ok_uneven_fours (T : Txt K mg) : FnOk P w K mg base CX0 3 (He.ga K "uneven_fours") T.fd_uneven_fours ["merger"] (sp_uneven_fours K) := by
  refine T.F_uneven_fours.ok sc_uneven_fours (fun vs H Q E h => ?_) (fun cdv A outer s H vs Q E hr h => ?_)
  · obtain ⟨_, _, _, _, rfl, _⟩ := h; rfl
  · obtain ⟨p, ra, R, n, rfl, hM, k⟩ := h
    refine ⟨_, PSs.nox ((pss_cons (ps_set (i := 1) sc_uneven_fours.nd rfl (Or.inl rfl) pe_dnewT)
        (pss_cons (ps_set (i := 2) sc_uneven_fours.nd rfl (Or.inl rfl) (pe_listRg rfl (by rfl) T.z_list (prg_1 (by rfl) T.z_range (fldQ (K := K) rfl (pv 0) rfl))))
        (pss_cons (ps_for PassesOwn.never rfl (piT (K := K) rfl (pe_call (ok_hand_triples T) (hr.mono (by decide)) rfl T.m_hand_triples T.F_hand_triples.kp (bi_hand_triples T) .nil pass0 (pa_cons (pv 0) pa_nil))) (pgT (K := K) (n := 3) rfl rfl (pgs_cons (pg_name (i := 3) sc_uneven_fours.nd rfl (Or.inr rfl)) (pgs_cons (pg_name (i := 4) sc_uneven_fours.nd rfl (Or.inr rfl)) (pgs_cons (pg_name (i := 5) sc_uneven_fours.nd rfl (Or.inr rfl)) pgs_nil))))
          (pss_cons (ps_set (i := 6) sc_uneven_fours.nd rfl (Or.inl rfl) (pe_op op_cat (pe_lc (own := [("other", 9)]) rfl sc_uneven_fours.nd (piL (K := K) rfl (pv 2)) (blkOk_by (N := ["merger", "found", "everyone", "one", "two", "three", "fours", "four", "kind", "other"]) (sc := defScope s_uneven_fours) (own := [("other", 9)]) (by decide +kernel)) (fun _ _ _ _ _ => (pg_name (i := 9) sc_uneven_fours.nd rfl (Or.inl rfl))) (fun _ _ _ _ _ => pts_nil) (fun _ _ _ _ _ => (pe_tup (pa_cons (pv 3) (pa_cons (pv 4) (pa_cons (pv 5) (pa_cons (pv 9) pa_nil))))))) (pe_lc (own := [("other", 9)]) rfl sc_uneven_fours.nd (piL (K := K) rfl (pv 2)) (blkOk_by (N := ["merger", "found", "everyone", "one", "two", "three", "fours", "four", "kind", "other"]) (sc := defScope s_uneven_fours) (own := [("other", 9)]) (by decide +kernel)) (fun _ _ _ _ _ => (pg_name (i := 9) sc_uneven_fours.nd rfl (Or.inl rfl))) (fun _ _ _ _ _ => pts_nil) (fun _ _ _ _ _ => (pe_tup (pa_cons (pv 9) (pa_cons (pv 3) (pa_cons (pv 4) (pa_cons (pv 5) pa_nil)))))))))
          (pss_one (ps_for PassesOwn.never rfl (piL (K := K) rfl (pv 6)) (pg_name (i := 7) sc_uneven_fours.nd rfl (Or.inl rfl))
            (pss_cons (ps_set (i := 8) sc_uneven_fours.nd rfl (Or.inl rfl) (pe_call (ok_kind_of_four T) (hr.mono (by decide)) rfl T.m_kind_of_four T.F_kind_of_four.kp (bi_kind_of_four T) .nil pass0 (pa_cons (fldQ (K := K) rfl (pv 0) rfl) (pa_cons (pv 7) pa_nil))))
            (pss_one (ps_if (pt_cmpR op_notN (pv 8) pe_non (nomark _))
              (pss_one (ps_dput (hu_of hr) (pv 1) (pv 7) (pv 8) rfl))
              pss_nil)))))))
        (pss_one (ps_ret (pe_callTy (T := "tuple") (tupleQ (K := K) rfl) (by rfl) T.z_tuple (by decide +kernel) (pa_cons (pe_callB (cr_sortedF (K := K) rfl (u65 hr)) (by rfl) T.z_sorted (by decide +kernel) (pa_cons (pe_itemsT rfl (pv 1) (by rfl) T.z_list) pa_nil)) pa_nil)))))))), ?_⟩
    have w := hM.wf
    have w2 := w.le
    have en : (((n : Int).toNat : Nat) : Int) = (n : Int) := by omega
    refine st_seq (x_set fun D hD => ?_)
    dsimp only
    have e1 : Same H (upd H D (.dT [])) := same_new hD
    refine st_seq (x_set (x_lrg ((val_cmds T (hM.same e1) (val_var rfl)) _ ?_)))
    refine ⟨_, rfl, ⟨by omega, by omega, by omega, by omega, by omega⟩, fun c hc => ?_⟩
    dsimp only
    have e2 : Same H (upd (upd H D (.dT [])) c (.lst (rgV 0 (n : Int)))) := e1.trans (same_new hc)
    have hDc : D ≠ c := fun z => by rw [← z, upd_same] at hc; cases hc
    have hc2 : (upd (upd H D (.dT [])) c (.lst (rgV 0 (n : Int)))) c = some (.lst (rgV 0 (n : Int))) := upd_same
    have hD2 : (upd (upd H D (.dT [])) c (.lst (rgV 0 (n : Int)))) D = some (.dT []) := by rw [upd_ne hDc]; exact upd_same
    have hcH : H c = none := by rw [upd_ne hDc.symm] at hc; exact hc
    generalize (upd (upd H D (.dT [])) c (.lst (rgV 0 (n : Int)))) = H2 at e2 hc2 hD2 ⊢
    refine st_seq ?_
    refine x_forT (x_call (x_cons ⟨_, rfl, ?_⟩))
    refine ⟨p, ra, R, n, rfl, hM.same e2, fun H3 tt ts e3 ht3 lts hts => ?_⟩
    refine ⟨tt, rfl, ⟨_, SqT.of ht3⟩, ?_⟩
    have hc3 := e3 _ _ hc2
    have nn : n * n * n ≤ 1728 := Nat.mul_le_mul (Nat.mul_le_mul w2 w2) w2
    have lr := rg_len n
    refine for_tup (xs := ts.map V.ref) (fun i σ' H' => ∃ x3 x4 x5 x6 x7 x8 x9 kvs, σ' = [some (.ref p), some (.ref D), some (.ref c), x3, x4, x5, x6, x7, x8, x9] ∧ Same H H' ∧ H' c = some (.lst (rgV 0 (n : Int))) ∧ (∀ u ∈ ts, TripAt R n H' u) ∧ H' tt = some (.tup (ts.map V.ref)) ∧ H' D = some (.dT kvs) ∧ kvs.length ≤ 24 * i ∧ ∀ kv ∈ kvs, KeyOk R n kv)
      ⟨_, _, _, _, _, _, _, [], rfl, e2.trans e3, hc3, hts, ht3, e3 _ _ hD2, Nat.le_refl _, fun kv hk => by cases hk⟩ (fun i σ' H' _ ⟨_, _, _, _, _, _, _, _, _, _, _, _, h, _⟩ => SqT.of h) ?_ ?_
    · rintro i x σ' H4 hi ⟨x3, x4, x5, x6, x7, x8, x9, kvs, rfl, e4, hc4, ht4, htt4, hD4, lk, ok⟩
      rw [List.getElem?_map] at hi
      obtain ⟨u, hu1, hu2⟩ := Option.map_eq_some_iff.mp hi
      subst hu2
      obtain ⟨a, b, d, ca, cb, cd, hh, hu⟩ := ht4 u (List.mem_of_getElem? hu1)
      refine ⟨u, _, rfl, SqT.of hu, rfl, _, _, rfl, _, _, rfl, _, _, rfl, rfl, ?_⟩
      -- the fours
      refine st_seq (x_set (x_op ?_))
      refine lc_nL (xs := rgV 0 (n : Int)) (fun j => .tup (iq [a, b, d, (j : Int)])) (val_var rfl) (SqL.of hc4) (by rw [lr]; omega) (by intro _; rfl) (fun j x H' hj _ => ?_) (fun L1 ts1 H5 l1 => ?_)
      · obtain ⟨rfl, _⟩ := rg_get hj
        exact evn_tup (va_cons (val_var rfl) (va_cons (val_var rfl) (va_cons (val_var rfl) (va_cons (val_var rfl) va_nil)))) (by show 4 ≤ 100; decide)
      refine lc_nL (xs := rgV 0 (n : Int)) (fun j => .tup (iq [(j : Int), a, b, d])) (val_var rfl) (SqL.of (l1.same _ _ hc4)) (by rw [lr]; omega) (by intro _; rfl) (fun j x H' hj _ => ?_) (fun L2 ts2 H6 l2 => ?_)
      · obtain ⟨rfl, _⟩ := rg_get hj
        exact evn_tup (va_cons (val_var rfl) (va_cons (val_var rfl) (va_cons (val_var rfl) (va_cons (val_var rfl) va_nil)))) (by show 4 ≤ 100; decide)
      have len1 : ts1.length = n := by rw [l1.len, lr]
      have len2 : ts2.length = n := by rw [l2.len, lr]
      refine ⟨L1, L2, ts1.map V.ref, ts2.map V.ref, rfl, rfl, l2.same _ _ l1.lst, l2.lst, by rw [List.length_map, List.length_map]; exact Nat.le_trans (show ts1.length + ts2.length ≤ 24 by omega) (by decide), fun L hL => ?_⟩
      dsimp only
      have e6 : Same H4 H6 := l1.same.trans l2.same
      have e7 : Same H4 (upd H6 L (.lst (ts1.map V.ref ++ ts2.map V.ref))) := e6.trans (same_new hL)
      have four : ∀ v ∈ ts1 ++ ts2, Four4 n (upd H6 L (.lst (ts1.map V.ref ++ ts2.map V.ref))) v := by
        intro v hv
        rcases List.mem_append.mp hv with h | h
        · obtain ⟨j, hj⟩ := List.getElem?_of_mem h
          have hjn : j < n := by have := (List.getElem?_eq_some_iff.mp hj).1; omega
          exact ⟨a, b, d, j, ca, cb, cd, ⟨by omega, by omega⟩, (same_new hL) _ _ (l2.same _ _ (l1.obj j v hj))⟩
        · obtain ⟨j, hj⟩ := List.getElem?_of_mem h
          have hjn : j < n := by have := (List.getElem?_eq_some_iff.mp hj).1; omega
          exact ⟨j, a, b, d, ⟨by omega, by omega⟩, ca, cb, cd, (same_new hL) _ _ (l2.obj j v hj)⟩
      have hL7 : (upd H6 L (.lst (ts1.map V.ref ++ ts2.map V.ref))) L = some (.lst ((ts1 ++ ts2).map V.ref)) := by rw [List.map_append]; exact upd_same
      have hLH : H L = none := e4.free (e6.free hL)
      generalize (upd H6 L (.lst (ts1.map V.ref ++ ts2.map V.ref))) = H7 at e7 four hL7 ⊢
      have l24 : (ts1 ++ ts2).length ≤ 24 := by rw [List.length_append]; omega
      generalize ts1 ++ ts2 = us at four hL7 l24
      refine st_forL (a := L) (xs := us.map V.ref) (val_var rfl) (SqL.of hL7) (fun j σ' H' => ∃ x7 x8 x9 kvs, σ' = [some (.ref p), some (.ref D), some (.ref c), some (.int a), some (.int b), some (.int d), some (.ref L), x7, x8, x9] ∧ Same H H' ∧ H' c = some (.lst (rgV 0 (n : Int))) ∧ (∀ u ∈ ts, TripAt R n H' u) ∧ H' tt = some (.tup (ts.map V.ref)) ∧ H' D = some (.dT kvs) ∧ kvs.length ≤ 24 * i + j ∧ (∀ kv ∈ kvs, KeyOk R n kv) ∧ H' L = some (.lst (us.map V.ref)) ∧ ∀ v ∈ us, Four4 n H' v)
        ⟨_, _, _, kvs, rfl, e4.trans e7, e7 _ _ hc4, fun u hu => let ⟨a, b, c, q1, q2, q3, q4, q5⟩ := ht4 u hu; ⟨a, b, c, q1, q2, q3, q4, e7 _ _ q5⟩, e7 _ _ htt4, e7 _ _ hD4, lk, ok, hL7, four⟩
        (fun j σ' H' _ ⟨_, _, _, _, _, _, _, _, _, _, _, _, h, _⟩ => SqL.of h) ?_ ?_
      · rintro j x σ' H8 hj ⟨x7, x8, x9, kvs8, rfl, e8, hc8, ht8, htt8, hD8, lk8, ok8, hL8, four8⟩
        rw [List.getElem?_map] at hj
        obtain ⟨f, hf1, hf2⟩ := Option.map_eq_some_iff.mp hj
        subst hf2
        obtain ⟨x, y, z, v, cx, cy, cz, cv, hf⟩ := four8 f (List.mem_of_getElem? hf1)
        have hM8 := hM.same e8
        have hju : j < us.length := (List.getElem?_eq_some_iff.mp hf1).1
        have hit : i < ts.length := (List.getElem?_eq_some_iff.mp hu1).1
        refine st_seq (x_set (x_call ?_))
        refine (va_cons (val_rows T hM8 (val_var rfl)) (va_cons (val_var rfl) va_nil)) _ ?_
        refine ⟨ra, f, R, n, x, y, z, v, rfl, hM8.rows, w, cx, cy, cz, cv, hf, fun _ => ?_, fun hk s => ?_⟩
        · exact st_no (a_notN (val_var rfl) rfl) ⟨_, _, _, kvs8, rfl, e8, hc8, ht8, htt8, hD8, by omega, ok8, hL8, four8⟩
        · refine st_yes (a_notN (val_var rfl) rfl) (x_dput ?_)
          refine ⟨_, rfl, _, rfl, _, rfl, D, _, rfl, DPut.t (k := [x, y, z, v].map Sum.inl) hD8 (by rw [iq_kV]; exact hf) (Nat.lt_of_le_of_lt (show kvs8.length ≤ 50000 by omega) (by decide)), ?_⟩
          have off : ∀ {b : Addr} {o : HO}, H8 b = some o → (∀ kk, o ≠ .dT kk) → (upd H8 D (.dT (putK kvs8 ([x, y, z, v].map Sum.inl) (.str s)))) b = some o := fun h hn => by
            rw [upd_ne (ne_of h hD8 (fun q => hn _ q))]
            exact h
          refine ⟨_, _, _, _, rfl, same_mut e8 hD, off hc8 (fun _ q => by cases q), fun u hu => let ⟨a, b, c, q1, q2, q3, q4, q5⟩ := ht8 u hu; ⟨a, b, c, q1, q2, q3, q4, off q5 (fun _ q => by cases q)⟩, off htt8 (fun _ q => by cases q), upd_same, ?_, putK_ok ok8 ⟨x, y, z, v, rfl, cx, cy, cz, cv, hk⟩, off hL8 (fun _ q => by cases q), fun v hv => let ⟨x, y, z, w, h1, h2, h3, h4, h5⟩ := four8 v hv; ⟨x, y, z, w, h1, h2, h3, h4, off h5 (fun _ q => by cases q)⟩⟩
          have := length_putK kvs8 ([x, y, z, v].map Sum.inl) (.str s)
          omega
      · rintro σ' H8 ⟨x7, x8, x9, kvs8, rfl, e8, hc8, ht8, htt8, hD8, lk8, ok8, hL8, four8⟩
        exact ⟨_, _, _, _, _, _, _, kvs8, rfl, e8, hc8, ht8, htt8, hD8, by rw [List.length_map] at lk8; omega, ok8⟩
    · rintro σ' H4 ⟨x3, x4, x5, x6, x7, x8, x9, kvs, rfl, e4, hc4, ht4, htt4, hD4, lk, ok⟩
      dsimp only
      rw [List.length_map] at lk
      refine x_ret (x_cb1 (x_cb1 ⟨_, rfl, D, kvs, rfl, hD4, fun H5 l ts' bs e5 hl hl5 lt lb hh => ?_⟩))
      -- the pairs as the sort asks
      have okd : ∀ i kv, kvs[i]? = some kv → KeyOk R n kv := fun i kv h => ok kv (List.mem_of_getElem? h)
      let F : Nat → Addr × Addr × List Int × Str := fun i => (ts'.getD i 0, bs.getD i 0, ((kvs.getD i ([], .non)).1.map fun k => match k with | .inl z => z | .inr _ => 0), match (kvs.getD i ([], .non)).2 with | .str s => s | _ => "")
      let ps := (List.range kvs.length).map F
      have hps : ∀ q ∈ ps, H5 q.1 = some (.tup [.ref q.2.1, .str q.2.2.2]) ∧ H5 q.2.1 = some (.tup (iq q.2.2.1)) ∧ FourOk R n q.2.2.1 := by
        intro q hq
        obtain ⟨i, hi, rfl⟩ := List.mem_map.mp hq
        have hik := List.mem_range.mp hi
        have k1 : kvs[i]? = some kvs[i] := List.getElem?_eq_getElem hik
        have t1 : ts'[i]? = some (ts'[i]'(by omega)) := List.getElem?_eq_getElem _
        have b1 : bs[i]? = some (bs[i]'(by omega)) := List.getElem?_eq_getElem _
        obtain ⟨h1, h2⟩ := hh i _ _ _ t1 b1 k1
        obtain ⟨ll, s, q1, q2, q3⟩ := okd i _ k1
        have g1 : ts'.getD i 0 = ts'[i]'(by omega) := by rw [List.getD_eq_getElem?_getD, t1]; rfl
        have g2 : bs.getD i 0 = bs[i]'(by omega) := by rw [List.getD_eq_getElem?_getD, b1]; rfl
        have g3 : kvs.getD i ([], .non) = kvs[i] := by rw [List.getD_eq_getElem?_getD, k1]; rfl
        have eF : F i = (ts'[i]'(by omega), bs[i]'(by omega), ll, s) := by
          show (ts'.getD i 0, bs.getD i 0, ((kvs.getD i ([], .non)).1.map fun k => match k with | .inl z => z | .inr _ => 0), match (kvs.getD i ([], .non)).2 with | .str s => s | _ => "") = _
          rw [g1, g2, g3, q1, q2, List.map_map]
          have : (ll.map ((fun k : Key => match k with | .inl z => z | .inr _ => 0) ∘ Sum.inl)) = ll := by
            have : ((fun k : Key => match k with | .inl z => z | .inr _ => 0) ∘ Sum.inl) = (id : Int → Int) := rfl
            rw [this, List.map_id]
          rw [this]
        rw [eF]
        refine ⟨by rw [← q2]; exact h1, by rw [q1, iq_kV] at h2; exact h2, q3⟩
      have hmap : (ps.map fun p => V.ref p.1) = ts'.map V.ref := by
        apply List.ext_getElem?
        intro i
        show (((List.range kvs.length).map F).map fun p => V.ref p.1)[i]? = _
        rw [List.getElem?_map, List.getElem?_map, List.getElem?_map]
        by_cases hik : i < kvs.length
        · rw [List.getElem?_range hik]
          have t1 : ts'[i]? = some (ts'[i]'(by omega)) := List.getElem?_eq_getElem _
          rw [t1]
          show some (V.ref (ts'.getD i 0)) = _
          rw [List.getD_eq_getElem?_getD, t1]
          rfl
        · rw [List.getElem?_eq_none (by rw [List.length_range]; omega), List.getElem?_eq_none (by omega)]
          rfl
      have lps : ps.length = kvs.length := by show ((List.range kvs.length).map F).length = _; rw [List.length_map, List.length_range]
      refine ⟨l, ps, rfl, by rw [hmap]; exact SqL.of hl5, fun p hp => ⟨SqT.of (hps p hp).1, SqT.of (hps p hp).2.1⟩, fun ps' l2 perm hl2 => ?_⟩
      have e6 := same_new hl2 (o := .lst (ps'.map fun p => V.ref p.1))
      refine ⟨l2, ps'.map (fun p => V.ref p.1), rfl, .inl ⟨SqL.of upd_same, fun t2 ht2 => ?_⟩⟩
      have e7 := same_new ht2 (o := .tup (ps'.map fun p => V.ref p.1))
      refine k _ t2 ps' (e4.trans (e5.trans (e6.trans e7))) upd_same (fun p hp => ?_) (by rw [perm.length_eq, lps]; omega)
      obtain ⟨h1, h2, h3⟩ := hps p (perm.mem_iff.mp hp)
      exact ⟨(e6.trans e7) _ _ h1, (e6.trans e7) _ _ h2, h3⟩
def sp_uneven_four (K : PySem.W.Frag) : Sp := fun vs H Q _ => ∃ (p ra : Addr) (R : Rws) (n : Nat), vs = [.ref p] ∧ MerAt K H p R n ra ∧ (∀ H', Same H H' → Q .non H') ∧
  ∀ (H' : Hp) (t a : Addr) (s : Str) (l : List Int), Same H H' → H' t = some (.tup [.str s, .ref a]) → H' a = some (.tup (iq l)) → FourOk R n l → Q (.ref t) H'
theorem ok_uneven_four (T : Txt K mg) : FnOk P w K mg base CX0 4 (He.ga K "uneven_four") T.fd_uneven_four ["merger"] (sp_uneven_four K) := by
  refine T.F_uneven_four.ok sc_uneven_four (fun vs H Q E h => ?_) (fun cdv A outer s H vs Q E hr h => ?_)
  · obtain ⟨_, _, _, _, rfl, _⟩ := h; rfl
  · obtain ⟨p, ra, R, n, rfl, hM, k0, k1⟩ := h
    refine ⟨_, PSs.nox ((pss_cons (ps_set (i := 1) sc_uneven_four.nd rfl (Or.inl rfl) (pe_call (ok_uneven_fours T) (hr.mono (by decide)) rfl T.m_uneven_fours T.F_uneven_fours.kp (bi_uneven_fours T) .nil pass0 (pa_cons (pv 0) pa_nil)))
        (pss_one (ps_ret (pe_ifExp (pt_cmpR op_eq (pe_callB (lenQ (K := K) rfl) (by rfl) T.z_len boot_len (pa_cons (pv 1) pa_nil)) pe_int (nomark _)) pe_non (pe_tup (pa_cons (pe_ix (ixT (K := K) rfl) (pe_ix (ixT (K := K) rfl) (pv 1) pe_int (fun _ _ => rfl)) pe_int (fun _ _ => rfl)) (pa_cons (pe_ix (ixT (K := K) rfl) (pe_ix (ixT (K := K) rfl) (pv 1) pe_int (fun _ _ => rfl)) pe_int (fun _ _ => rfl)) pa_nil)))))))), ?_⟩
    refine st_seq (x_set (x_call ((va_cons (val_var rfl) va_nil) _ ?_)))
    refine ⟨p, ra, R, n, rfl, hM, fun H1 t ps e1 ht hps lps => ?_⟩
    dsimp only
    have hlp : (ps.map fun p => V.ref p.1).length = ps.length := List.length_map ..
    cases ps with
    | nil =>
      refine st_ret (val_ifT (a_eq (v := .int 0) ((val_lenS (val_var rfl) (.inr (SqT.of ht))).to (by rw [hlp]; rfl)) val_c rfl rfl) val_c) ?_
      exact k0 H1 e1
    | cons q ps =>
      obtain ⟨h1, h2, h3⟩ := hps q (List.mem_cons_self ..)
      refine x_ret ?_
      have no : Ans (tTest (tOp rEq (tCB (rLenQ K) (tCons (tVar 1) tNil)) (tC (.int 0)))) [some (V.ref p), some (V.ref t)] H1 false := a_eq ((val_lenS (val_var rfl) (.inr (SqT.of ht)))) val_c rfl (by rw [hlp]; exact decide_eq_false (fun z => by injection z with z1; rw [List.length_cons] at z1; omega))
      refine no _ (iteF ?_)
      have a0 : atI ((q :: ps).map fun p => V.ref p.1) 0 = some (.ref q.1) := show atI ((q :: ps).map fun p => V.ref p.1) ((0 : Nat) : Int) = _ from atI_nat rfl
      refine (va_cons (val_ixT (val_ixT (val_var rfl) val_c (SqT.of ht) a0) val_c (SqT.of h1) rfl) (va_cons (val_ixT (val_ixT (val_var rfl) val_c (SqT.of ht) a0) val_c (SqT.of h1) rfl) va_nil)) _ ?_
      exact ⟨by show 2 ≤ sizeLine; decide, fun u hu => k1 _ u q.2.1 q.2.2.2 q.2.2.1 (e1.trans (same_new hu)) upd_same ((same_new hu) _ _ h2) h3⟩
end
end FF
set_option maxHeartbeats 4000000
namespace FF
open PySem PySem.Spec PyProof.Rows L2
section
variable {P : Program} {w : World} {K : PySem.W.Frag} {mg : Str → Option Value} {base : Heap}
/-! ### folded spellings: one stands for each beginning -/
theorem fold_pre {m : Mt.Mg Int} {a b : List Int} (h : Mt.Fold m (a ++ b)) : Mt.Fold m a := fun r s => h _ (by
  have := s.ctx [] b
  simpa using this)
theorem fs_segs {m : Mt.Mg Int} {q : List Int} : ∀ (N : Nat) (g : List (Mt.Seg Int)) (rest : List Int), g.length = N → Mt.OkS m g → Mt.srcS g ++ rest = q → Mt.Fold m (Mt.outS g) → Mt.FS m q (Mt.srcS g).length (Mt.outS g).getLast? (Mt.outS g).length := by
  intro N
  induction N with
  | zero =>
    intro g rest hN _ _ _
    have : g = [] := List.eq_nil_of_length_eq_zero hN
    subst this
    exact .zero
  | succ N ih =>
    intro g rest hN ok hs hf
    rcases List.eq_nil_or_concat g with e | ⟨g0, p, e⟩
    · rw [e] at hN; cases hN
    · rw [List.concat_eq_append] at e
      subst e
      obtain ⟨s, x⟩ := p
      have e2 : Mt.srcS [(s, x)] = s := by simp [Mt.srcS]
      have e3 : Mt.outS [(s, x)] = Mt.oL x := by simp [Mt.outS]
      have hc : Mt.Comes m s x := ok (s, x) (List.mem_append_right _ (List.mem_singleton.mpr rfl))
      rw [Mt.outS_append, e3] at hf ⊢
      rw [Mt.srcS_append, e2] at hs ⊢
      have h0 := ih g0 (s ++ rest) (by rw [List.length_append] at hN; simp at hN; exact hN) (fun p hp => ok p (List.mem_append_left _ hp)) (by rw [← List.append_assoc]; exact hs) (fold_pre hf)
      have hslc : Mt.slc q (Mt.srcS g0).length ((Mt.srcS g0).length + s.length) = s := by
        unfold Mt.slc
        rw [← hs, List.append_assoc, List.drop_left, show (Mt.srcS g0).length + s.length - (Mt.srcS g0).length = s.length by omega, List.take_left]
      have hle : (Mt.srcS g0).length + s.length ≤ q.length := by
        rw [← hs, List.length_append, List.length_append]
        omega
      have hp := hc.pos
      rw [List.length_append]
      cases x with
      | none =>
        show Mt.FS m q _ (Mt.outS g0 ++ []).getLast? (Mt.outS g0 ++ []).length
        rw [List.append_nil]
        exact .gone h0 (by omega) hle (by rw [hslc]; exact hc)
      | some c =>
        show Mt.FS m q _ (Mt.outS g0 ++ [c]).getLast? (Mt.outS g0 ++ [c]).length
        rw [List.getLast?_concat, List.length_append]
        refine .cmd h0 (by omega) hle (by rw [hslc]; exact hc) fun t ht => ?_
        cases hm : m t c with
        | none => rfl
        | some z =>
          exfalso
          obtain ⟨u, hu⟩ : ∃ u, Mt.outS g0 = u ++ [t] := by
            rcases List.eq_nil_or_concat (Mt.outS g0) with h | ⟨u, y, h⟩
            · rw [h] at ht; cases ht
            · rw [List.concat_eq_append] at h
              rw [h, List.getLast?_concat] at ht
              cases ht
              exact ⟨u, h⟩
          have hst := Mt.Step.at (m := m) u [] t c z hm
          refine hf (u ++ Mt.consO z []) ?_
          rw [hu]
          have e : u ++ [t] ++ Mt.oL (some c) = u ++ t :: c :: [] := by simp [Mt.oL]
          rw [e]
          exact hst
theorem fs_exists (m : Mt.Mg Int) (q : List Int) {j : Nat} (hj : j ≤ q.length) : ∃ l k, Mt.FS m q j l k := by
  obtain ⟨r, h1, h2⟩ := Mt.to_fold (m := m) _ (q.take j) (Nat.le_refl _)
  obtain ⟨g, g1, g2, g3⟩ := Mt.reach_iff.mp h1
  have := fs_segs (m := m) (q := q) _ g (q.drop j) rfl g1 (by rw [g2, List.take_append_drop]) (by rw [g3]; exact h2)
  rw [g2, List.length_take, Nat.min_eq_left hj] at this
  exact ⟨_, _, this⟩
/-! ### the code's constant table of most_pieces -/
abbrev cLam (K : PySem.W.Frag) : Addr := He.codeOf K ("most_pieces", none)
abbrev pLam (K : PySem.W.Frag) : Addr := He.tabOf K (He.codeOf K ("most_pieces", none))
theorem funOkC {x qual : Str} {params : Arguments} {body : List Stmt} {scope : Scope} {dvs : List V} {kws : List (Str × V)} {p : He.Defn} {fd : FuncData} {CX : CXT} {N ps : List Str} {k : Nat} {sp : Sp} (F : FunD K x qual params body scope dvs kws (He.fAd K p) fd) (S : FnScope N ps scope) (len : ∀ vs H Q E, sp vs H Q E → vs.length = ps.length)
    (hbody : ∀ (A : Around) (outer : List Env) (s : Shared) (H : Hp) (vs : List V) (Q : VK) (E : XK), Room k (A.deeper (envOfC qual scope s.heap.objs.size (He.fAd K p) (.ref (He.codeOf K p)))) → sp vs H Q E →
      ∃ t, PSs (cxOf CX P w K mg base N qual scope (He.fAd K p) (.ref (He.codeOf K p)) A outer s H E) body t ∧ t { nx := fun _ H' => Q .non H', rt := Q } (L2.start N vs) H) : FnOk P w K mg base CX (k + 1) (He.fAd K p) fd ps sp := by
  obtain ⟨oc, od, dV, kV, doc, pm, an, cdv, ct, osl, rfl, lk, hcd, _, _⟩ := F.ex
  obtain ⟨c, rfl⟩ := He.codeIn_ref hcd
  have ec : He.codeOf K p = c := He.codeOf_eq lk rfl
  rw [ec] at hbody
  exact fn_of lk hcd S len fun A outer s H vs Q E hr hsp => hbody A outer s H vs Q E hr hsp
abbrev lamQ : Str := (envOfC "most_pieces" (defScope s_most_pieces) 0 0 Value.none).qual ++ "<lambda>"
abbrev tabT (K : PySem.W.Frag) : List (Addr × Str) := [(pLam K, lamQ)]
end
end FF
set_option maxHeartbeats 4000000
namespace FF
open PySem PySem.Spec PyProof.Rows L2
section
variable {P : Program} {w : World} {K : PySem.W.Frag} {mg : Str → Option Value} {base : Heap}
/-! ### most_pieces -/
def TupExt (H H' : Hp) : Prop := ∀ b xs, H b = some (.tup xs) → H' b = some (.tup xs)
theorem PlaceAt.te {H H' : Hp} {a : Addr} {es : List Int} (h : PlaceAt H a es) (e : TupExt H H') : PlaceAt H' a es := by
  obtain ⟨t, h1, ts, h2, h3⟩ := h
  exact ⟨t, e _ _ h1, ts, e _ _ h2, pmap h3 fun a b ⟨x, y, q⟩ => ⟨x, y, e _ _ q⟩⟩
theorem te_samex {H H' : Hp} {f : Addr} {kv : List (Key × V)} (e : SameX f H H') (hf : H f = some (.dK kv)) : TupExt H H' := fun b xs h => e b _ (ne_of h hf (by intro z; cases z)) h
theorem te_same {H H' : Hp} (e : Same H H') : TupExt H H' := fun b xs h => e b _ h
def HasM (H : Hp) (cur : List (Key × V)) (l : Option Int) (m : Nat) : Prop := ∃ (z : Int) (a t : Addr) (k : Nat), dec z = l ∧ valV cur (.inl z) = some (.ref a) ∧ H a = some (.tup [.int (k : Int), .ref t]) ∧ m ≤ k
theorem HasM.te {H H' : Hp} {cur : List (Key × V)} {l : Option Int} {m : Nat} (h : HasM H cur l m) (e : TupExt H H') : HasM H' cur l m := let ⟨z, a, t, k, h1, h2, h3, h4⟩ := h; ⟨z, a, t, k, h1, h2, e _ _ h3, h4⟩
structure EntM (H : Hp) (n j : Nat) (cur : List (Key × V)) : Prop where
  ok : ∀ kv ∈ cur, ∃ (z : Int) (a : Addr) (es : List Int), kv = (.inl z, .ref a) ∧ GoodE n z ∧ PlaceAt H a es ∧ es.length ≤ j
  nd : (cur.map (·.1)).Nodup
theorem EntM.te {H H' : Hp} {n j : Nat} {cur : List (Key × V)} (h : EntM H n j cur) (e : TupExt H H') : EntM H' n j cur := ⟨fun kv hk => let ⟨z, a, es, h1, h2, h3, h4⟩ := h.ok kv hk; ⟨z, a, es, h1, h2, h3.te e, h4⟩, h.nd⟩
theorem EntM.len {H : Hp} {n j : Nat} {cur : List (Key × V)} (h : EntM H n j cur) (hn : n ≤ 12) : cur.length ≤ 13 := keys_len hn h.nd fun kv hk => let ⟨z, a, es, h1, h2, _⟩ := h.ok kv hk; ⟨z, by rw [h1], h2⟩
theorem valV_nd {κ : Type} [DecidableEq κ] {k : κ} {v : V} : ∀ {kvs : List (κ × V)}, (kvs.map (·.1)).Nodup → (k, v) ∈ kvs → valV kvs k = some v
  | [], _, h => by cases h
  | p :: r, nd, h => by
    rw [List.map_cons, List.nodup_cons] at nd
    rcases List.mem_cons.mp h with e | h
    · rw [← e, valV_pos rfl]
    · have hne : ¬ p.1 = k := fun z => nd.1 (by rw [z]; exact List.mem_map.mpr ⟨_, h, rfl⟩)
      rw [valV_neg hne]
      exact valV_nd nd.2 h
theorem mem_of_valV {κ : Type} [DecidableEq κ] {k : κ} {v : V} : ∀ {kvs : List (κ × V)}, valV kvs k = some v → (k, v) ∈ kvs
  | [], h => by cases h
  | p :: r, h => by
    by_cases c : p.1 = k
    · rw [valV_pos c] at h
      cases h
      rw [← c]
      exact List.mem_cons_self ..
    · rw [valV_neg c] at h
      exact List.mem_cons_of_mem _ (mem_of_valV h)
theorem keys_put {κ : Type} [DecidableEq κ] {kvs : List (κ × V)} {k : κ} {v : V} (nd : (kvs.map (·.1)).Nodup) : ((putK kvs k v).map (·.1)).Nodup := by
  cases h : valV kvs k with
  | none =>
    rw [putK_new _ h, List.map_append, List.nodup_append]
    refine ⟨nd, by simp, fun u hu z hz ez => ?_⟩
    have hz' : z = k := List.mem_singleton.mp hz
    rw [ez, hz'] at hu
    exact valV_none h hu
  | some w =>
    unfold putK
    rw [valV_any, h, if_pos (show (some w).isSome = true from rfl), List.map_map]
    have : ((fun kv : κ × V => kv.1) ∘ fun kv : κ × V => if kv.1 = k then (kv.1, v) else kv) = fun kv => kv.1 := by
      funext kv
      show (if kv.1 = k then (kv.1, v) else kv).1 = kv.1
      split <;> rfl
    rw [this]
    exact nd
theorem EntM.put {H : Hp} {n j : Nat} {cur : List (Key × V)} {z : Int} {a : Addr} {es : List Int} (h : EntM H n j cur) (g : GoodE n z) (p : PlaceAt H a es) (l : es.length ≤ j) : EntM H n j (putK cur (.inl z) (.ref a)) := by
  refine ⟨fun kv hk => ?_, keys_put h.nd⟩
  have hv := valV_nd (keys_put (k := (.inl z : Key)) (v := V.ref a) h.nd) hk
  rw [valV_put] at hv
  by_cases c : kv.1 = .inl z
  · rw [if_pos c] at hv
    exact ⟨z, a, es, Prod.ext c (Option.some.inj hv).symm, g, p, l⟩
  · rw [if_neg c] at hv
    exact h.ok kv (mem_of_valV hv)
theorem HasM.put {H : Hp} {cur : List (Key × V)} {l : Option Int} {m k' : Nat} {z : Int} {a t : Addr} (h : HasM H cur l m) (ha : H a = some (.tup [.int (k' : Int), .ref t])) (hb : ∀ a0 t0 (k0 : Nat), valV cur (.inl z) = some (.ref a0) → H a0 = some (.tup [.int (k0 : Int), .ref t0]) → k0 ≤ k') : HasM H (putK cur (.inl z) (.ref a)) l m := by
  obtain ⟨z0, a0, t0, k0, h1, h2, h3, h4⟩ := h
  by_cases c : z0 = z
  · subst c
    exact ⟨z0, a, t, k', h1, by rw [valV_put, if_pos rfl], ha, Nat.le_trans h4 (hb _ _ _ h2 h3)⟩
  · exact ⟨z0, a0, t0, k0, h1, by rw [valV_put, if_neg (fun e => c (by injection e))]; exact h2, h3, h4⟩
def tgt (l e : Option Int) : Option Int := match e with
  | none => l
  | some c => some c
def Cn (m : Mt.Mg Int) (l e : Option Int) : Prop := ∀ t c, l = some t → e = some c → m t c = none
/-- all spellings of the first j are matched -/
def AllM (H : Hp) (m : Mt.Mg Int) (q : List Int) (j : Nat) (cur : List (Key × V)) : Prop := ∀ l k, Mt.FS m q j l k → HasM H cur l k
structure BestM (H : Hp) (b : Addr) (ds : List Addr) (R : Rws) (n : Nat) (q : List Int) : Prop where
  top : H b = some (.lst (ds.map V.ref))
  at_ : ∀ k d, ds[k]? = some d → ∃ kv, H d = some (.dK kv) ∧ EntM H n k kv ∧ AllM H (mm R n) q k kv
def sp_most_pieces (K : PySem.W.Frag) : Sp := fun vs H Q _ => ∃ (p ra D : Addr) (kvs : List (List Key × V)) (R : Rws) (n : Nat) (q : List Int), vs = [.ref p] ∧ StrAt K H p R n q ra D kvs ∧ Wf R n ∧ q.length ≤ 1000 ∧ LamX.Tabs (tabT K) H ∧
  ∀ (t : Addr) (H' : Hp) (es : List Int), LamX.ExtN H H' → LamX.Tabs (tabT K) H' → PiecesAt H' t es → (∀ l m, Mt.FS (mm R n) q q.length l m → m ≤ cnt es) → es.length ≤ q.length → Q (.ref t) H'
theorem fs_last {m : Mt.Mg Int} {q : List Int} {j : Nat} {l : Option Int} {k : Nat} (h : Mt.FS m q j l k) (hj : 0 < j) : ∃ i e l0 k0, i < j ∧ Mt.FS m q i l0 k0 ∧ Mt.Comes m (Mt.slc q i j) e ∧ Cn m l0 e ∧ l = tgt l0 e ∧ k = k0 + Mt.oN e := by
  cases h with
  | zero => omega
  | gone h hij hjl hc => exact ⟨_, none, _, _, hij, h, hc, (fun t c _ h2 => by cases h2), rfl, rfl⟩
  | @cmd i _ n0 l0 c h hij hjl hc hl => exact ⟨_, some c, _, _, hij, h, hc, (fun t c' h1 h2 => by cases h2; exact hl t h1), rfl, rfl⟩
/-- [x for x in d.values()], d locked -/
theorem lc_valsM {H : Hp} {σ : L2.St} {td : TE} {d : Addr} {kvs : List (Key × V)} {j : Nat} {T : List (Addr × Str)} {Q : VK} (hd : H d = some (.dK kvs)) (h : ∀ od, EvS td σ (upd H d (.frz od (.dK kvs))) (.ref d)) (hz : kvs.length ≤ 13) (hw : ∀ x, wipe ((wipe σ [j]).set j (some x)) [j] = wipe σ [j])
    (hs : ((wipe σ [j]).set j (some V.non))[j]? = some (some .non)) (hq : ∀ L H', Same H H' → H' L = some (.lst (kvs.map fun p => p.2)) → maxF K T Q (.ref L) H') : tMax K T (tLockE (tLc (iVals td) (gName j) tYes (tVar j) [j])) σ H Q := by
  have hsx : ∀ x, ((wipe σ [j]).set j (some x))[j]? = some (some x) := fun x => by
    have hl : j < (wipe σ [j]).length := by
      have := (List.getElem?_eq_some_iff.mp hs).1
      rw [List.length_set] at this
      exact this
    rw [List.getElem?_set_self hl]
  refine ⟨d, _, hd, trivial, fun od => ?_⟩
  refine h od _ fun H1 e1 => ⟨d, od, kvs, rfl, e1 _ _ upd_same, fun L hL => ?_⟩
  have hd1 := e1 _ _ (upd_same (H := H) (a := d) (o := .frz od (.dK kvs)))
  have Ld : L ≠ d := fun z => by rw [z, hd1] at hL; cases hL
  refine ⟨fun i m H' => m = kvs.length - i ∧ i ≤ kvs.length ∧ Same (upd H d (.frz od (.dK kvs))) H' ∧ H' L = some (.lst ((kvs.take i).map fun p => p.2)), ⟨kvs.length, by simp, Nat.zero_le _, e1.trans (same_new hL), upd_same⟩, ?_⟩
  rintro i m H' ⟨rfl, hi, e, hL'⟩
  have hd2 := e _ _ (upd_same (H := H) (a := d) (o := .frz od (.dK kvs)))
  have LH : (upd H d (.frz od (.dK kvs))) L = none := e1.free hL
  by_cases hlt : i < kvs.length
  · refine .inr ⟨⟨hd2, hlt⟩, fun H' => Same (upd H d (.frz od (.dK kvs))) H' ∧ H' L = some (.lst ((kvs.take (i + 1)).map fun p => p.2)), fun H' p' => ⟨kvs.length - (i + 1), by omega, rfl, hlt, p'⟩, fun x H2 y => ?_⟩
    obtain ⟨rfl, k, hk⟩ := y
    refine ⟨hw x, x_yt ⟨x, hsx x, _, hL', ?_, same_mut e LH, ?_⟩⟩
    · rw [List.length_map, List.length_take]
      exact Nat.lt_of_le_of_lt (show min i kvs.length ≤ 13 by omega) (by decide)
    · rw [upd_same, List.take_add_one, hk, List.map_append]
      rfl
  · have ei : i = kvs.length := by omega
    subst ei
    refine .inl ⟨⟨hd2, Nat.le_refl _⟩, hd2, hq L _ (same_unlock hd e) ?_⟩
    rw [upd_ne Ld, hL', List.take_length]
theorem ok_most_pieces (T : Txt K mg) (TB : LamX.TabB base mg (cLam K) (pLam K)) : FnOk P w K mg base CX0 2 (He.ga K "most_pieces") T.fd_most_pieces ["stretches"] (sp_most_pieces K) := by
  refine funOkC (p := ("most_pieces", none)) T.F_most_pieces sc_most_pieces (fun vs H Q E h => ?_) (fun A outer s H vs Q E hr h => ?_)
  · obtain ⟨_, _, _, _, _, _, _, rfl, _⟩ := h; rfl
  · obtain ⟨p, ra, D, kvs, R, n, q, rfl, hS, w, hl, hT, k⟩ := h
    refine ⟨_, PSs.nox ((pss_cons (ps_set (i := 1) sc_most_pieces.nd rfl (Or.inl rfl) (pe_lst (pa_cons (pe_disp (pps_cons (peI T.c_GONE rfl) (pe_tup (pa_cons pe_int (pa_cons (pe_tup pa_nil) pa_nil))) pps_nil) rfl rfl (by simp) (by decide)) pa_nil)))
        (pss_cons (ps_for PassesOwn.never rfl (pi_range2 (by rfl) T.z_range (pa_cons pe_int (pa_cons (pe_op op_add (fldQ (K := K) rfl (pv 0) rfl) pe_int) pa_nil))) (pg_name (i := 2) sc_most_pieces.nd rfl (Or.inl rfl))
          (pss_cons (ps_set (i := 3) sc_most_pieces.nd rfl (Or.inl rfl) pe_dnewK)
          (pss_cons (ps_for PassesOwn.never rfl (pi_range1 (by rfl) T.z_range (pa_cons (pv 2) pa_nil)) (pg_name (i := 4) sc_most_pieces.nd rfl (Or.inl rfl))
            (pss_one (ps_for PassesOwn.never rfl (piL (K := K) rfl (pe_callB (sortedIQ (K := K) rfl) (by rfl) T.z_sorted (by decide +kernel) (pa_cons (pe_callTy (T := "list") (listDQ rfl) (by rfl) T.z_list (by decide +kernel) (pa_cons (pe_dget (hu_of hr) (fldQ (K := K) rfl (pv 0) rfl) (pe_tup (pa_cons (pv 4) (pa_cons (pv 2) pa_nil))) (fun _ _ => rfl)) pa_nil)) pa_nil))) (pg_name (i := 5) sc_most_pieces.nd rfl (Or.inl rfl))
              (pss_one (ps_lock (ps_for PassesOwn.never rfl (pi_items (pe_ix (ixL (K := K) rfl) (pv 1) (pv 4) (fun _ _ => rfl))) (pgT (K := K) (n := 2) rfl rfl (pgs_cons (pg_name (i := 6) sc_most_pieces.nd rfl (Or.inl rfl)) (pgs_cons (pgT (K := K) (n := 2) rfl rfl (pgs_cons (pg_name (i := 7) sc_most_pieces.nd rfl (Or.inl rfl)) (pgs_cons (pg_name (i := 8) sc_most_pieces.nd rfl (Or.inl rfl)) pgs_nil))) pgs_nil)))
                (pss_one (ps_if (PW.pt (pw_or (pt_cmpR op_eq (pv 5) (peI T.c_GONE rfl) (nomark _)) (pw_or (pt_cmpR op_eq (pv 6) (peI T.c_GONE rfl) (nomark _)) (pw_or1 (pt_cmpR op_isN (pe_ix (ixT (K := K) rfl) (pe_ix (ixT (K := K) rfl) (fldQ (K := K) rfl (pv 0) rfl) (pv 6) (fun _ _ => rfl)) (pv 5) (fun _ _ => rfl)) pe_non (nomark _))))))
                  (pss_cons (ps_set (i := 9) sc_most_pieces.nd rfl (Or.inl rfl) (pe_tup (pa_cons (pe_op op_add (pv 7) (pe_ifExp (pt_cmpR op_eq (pv 5) (peI T.c_GONE rfl) (nomark _)) pe_int pe_int)) (pa_cons (pe_tup (starQ (K := K) rfl (pv 8) (pa_cons (pe_tup (pa_cons (pv 4) (pa_cons (pv 2) (pa_cons (pv 5) pa_nil)))) pa_nil))) pa_nil))))
                  (pss_cons (ps_set (i := 10) sc_most_pieces.nd rfl (Or.inl rfl) (pe_ifExp (pt_cmpR op_eq (pv 5) (peI T.c_GONE rfl) (nomark _)) (pv 6) (pv 5)))
                  (pss_one (ps_if (PW.pt (pw_or (pt_cmp (pc_dnotin (hu_of hr) (pv 10) (pv 3))) (pw_or1 (pt_cmpR op_gt (pe_ix (ixT (K := K) rfl) (pv 9) pe_int (fun _ _ => rfl)) (pe_ix (ixT (K := K) rfl) (pe_dget (hu_of hr) (pv 3) (pv 10) (fun _ _ => rfl)) pe_int (fun _ _ => rfl)) (nomark _)))))
                    (pss_one (ps_dput (hu_of hr) (pv 3) (pv 10) (pv 9) rfl))
                    pss_nil))))
                  pss_nil))))))))
          (pss_one (ps_expr (pe_bm PySem.F.plainAttrs_list PySem.F.slot_list_append PySem.F.type_list_append mt_append (pv 1) (pa_cons (pv 3) pa_nil)))))))
        (pss_one (ps_ret (pe_ix (ixT (K := K) rfl) (pe_maxT (T := tabT K) (c := cLam K) (P := pLam K) ⟨fun _ _ _ _ _ _ => rfl, rfl, rfl, rfl, rfl, (by decide +kernel), fun _ => rfl⟩ (hr.mono (by decide)) (by rfl) T.z_max TB rfl (List.mem_singleton.mpr rfl) (fun p hp _ => by rw [List.mem_singleton.mp hp] <;> rfl) (pa_cons (pe_lock (pe_lc (own := [("told", 11)]) rfl sc_most_pieces.nd (pi_values (pe_ix (ixL (K := K) rfl) (pv 1) (pe_un un_neg pe_int) (fun _ _ => rfl))) (blkOk_by (N := ["stretches", "best", "last", "found", "first", "end", "kept", "many", "pieces", "after", "place", "told"]) (sc := defScope s_most_pieces) (own := [("told", 11)]) (by decide +kernel)) (fun _ _ _ _ _ => (pg_name (i := 11) sc_most_pieces.nd rfl (Or.inl rfl))) (fun _ _ _ _ _ => pts_nil) (fun _ _ _ _ _ => (pv 11)))) pa_nil)) pe_int (fun _ _ => rfl))))))), ?_⟩
    have w2 := w.le
    refine st_seq (x_set ?_)
    -- [{GONE: (0, ())}]
    refine (fun d0 hd0 => ?_ : ∀ d0, H d0 = none → _)
    refine ⟨Nat.zero_le _, fun e0 he0 => ⟨by show 2 ≤ sizeLine; decide, fun a0 ha0 => ?_⟩⟩
    have hde : d0 ≠ e0 := fun z => by rw [← z, upd_same] at he0; cases he0
    have hda : d0 ≠ a0 := fun z => by rw [← z, upd_ne hde, upd_same] at ha0; cases ha0
    have hea : e0 ≠ a0 := fun z => by rw [← z, upd_same] at ha0; cases ha0
    refine ⟨by rw [upd_ne hda, upd_ne hde]; exact upd_same, [(.inl (-1), .ref a0)], rfl, by show 1 ≤ 15; decide, ?_⟩
    have em : mergeK [] [((.inl (-1) : Key), V.ref a0)] = [(.inl (-1), .ref a0)] := rfl
    rw [em]
    generalize hHa : (upd (upd (upd H d0 (.dK [])) e0 (.tup [])) a0 (.tup [.int 0, .ref e0])) = Ha
    have sHa : Same H Ha := by rw [← hHa]; exact (same_new hd0).trans ((same_new he0).trans (same_new ha0))
    have ha1 : Ha a0 = some (.tup [.int 0, .ref e0]) := by rw [← hHa]; exact upd_same
    have he1 : Ha e0 = some (.tup []) := by rw [← hHa, upd_ne hea]; exact upd_same
    refine ⟨by show 1 ≤ sizeLine; decide, fun b hb => ?_⟩
    dsimp only
    have hbd : b ≠ d0 := fun z => by rw [z, upd_same] at hb; cases hb
    have hbH : H b = none := sHa.free (by rw [upd_ne hbd] at hb; exact hb)
    have hba : b ≠ a0 := fun z => by rw [z, upd_ne hda.symm, ha1] at hb; cases hb
    have hbe : b ≠ e0 := fun z => by rw [z, upd_ne hde.symm, he1] at hb; cases hb
    generalize hH1 : (upd (upd Ha d0 (.dK [(.inl (-1), .ref a0)])) b (.lst [.ref d0])) = H1
    have e1 : Same H H1 := by rw [← hH1]; exact same_mut (same_mut sHa hd0) hbH
    have best1 : BestM H1 b [d0] R n q := by
      refine ⟨by rw [← hH1]; exact upd_same, fun i d hi => ?_⟩
      have hi0 : i = 0 ∧ d = d0 := by
        match i, hi with
        | 0, hi => exact ⟨rfl, (Option.some.inj hi).symm⟩
        | i + 1, hi => simp at hi
      obtain ⟨rfl, rfl⟩ := hi0
      have ha2 : H1 a0 = some (.tup [.int 0, .ref e0]) := by rw [← hH1, upd_ne hba.symm, upd_ne hda.symm]; exact ha1
      have he2 : H1 e0 = some (.tup []) := by rw [← hH1, upd_ne hbe.symm, upd_ne hde.symm]; exact he1
      refine ⟨[(.inl (-1), .ref a0)], by rw [← hH1, upd_ne hbd.symm]; exact upd_same, ⟨fun kv hk => ?_, by simp⟩, fun l m hf => ?_⟩
      · exact ⟨-1, a0, [], List.mem_singleton.mp hk, .inl rfl, ⟨e0, ha2, [], he2, .nil⟩, Nat.zero_le _⟩
      · generalize hz : 0 = z0 at hf
        cases hf with
        | zero => exact ⟨-1, a0, e0, 0, rfl, valV_pos rfl, ha2, Nat.le_refl _⟩
        | gone h hij _ _ => omega
        | cmd h hij _ _ _ => omega
    refine st_seq (st_forR2 (lo := 1) (n := (q.length : Int) + 1) (va_cons val_c (va_cons (val_add (val_slen T (hS.same e1) (val_var rfl)) val_c) va_nil)) (by omega) (by omega) (by omega) (by omega)
      (fun c σ' H' => ∃ x2 x3 x4 x5 x6 x7 x8 x9 x10 x11 ds, σ' = [some (.ref p), some (.ref b), x2, x3, x4, x5, x6, x7, x8, x9, x10, x11] ∧ Same H H' ∧ BestM H' b ds R n q ∧ ds.length = c + 1 ∧ ∀ d ∈ ds, H d = none)
      ⟨_, _, _, _, _, _, _, _, _, _, [d0], rfl, e1, best1, rfl, fun d hd => by rw [List.mem_singleton.mp hd]; exact hd0⟩ ?_ ?_)
    · rintro c σ' H2 hc ⟨x2, x3, x4, x5, x6, x7, x8, x9, x10, x11, ds, rfl, e2, hB, ld, nds⟩
      obtain ⟨j, hj⟩ : ∃ j : Nat, j = 1 + c := ⟨_, rfl⟩
      have ej : ((1 : Int) + (c : Int)) = (j : Int) := by omega
      rw [ej]
      have hjl : j ≤ q.length := by omega
      refine st_seq (x_set fun f hf => ?_)
      dsimp only
      -- the heap of the turn
      have fb : f ≠ b := fun z => by rw [z, hB.top] at hf; cases hf
      have fH : H f = none := e2.free hf
      have eS : Same H (upd H2 f (.dK [])) := e2.trans (same_new hf)
      have hBs : BestM (upd H2 f (.dK [])) b ds R n q := by
        refine ⟨by rw [upd_ne fb.symm]; exact hB.top, fun i d hi => ?_⟩
        obtain ⟨kv, h1, h2, h3⟩ := hB.at_ i d hi
        have te := te_same (same_new (o := .dK []) hf)
        exact ⟨kv, (same_new hf) _ _ h1, h2.te te, fun l m hl => (h3 l m hl).te te⟩
      have fd : ∀ d ∈ ds, f ≠ d := fun d hd z => by
        obtain ⟨i, hi⟩ := List.getElem?_of_mem hd
        obtain ⟨kv, h1, _⟩ := hB.at_ i d hi
        rw [z, h1] at hf
        cases hf
      have hfs : (upd H2 f (.dK [])) f = some (.dK []) := upd_same
      generalize (upd H2 f (.dK [])) = Hs at eS hBs hfs ⊢
      have toS : ∀ {H' : Hp}, SameX f Hs H' → Same H H' := fun ex a o h => ex a o (fun z => by rw [z, fH] at h; cases h) (eS a o h)
      have teS : ∀ {H' : Hp}, SameX f Hs H' → TupExt Hs H' := fun ex => te_samex ex hfs
      have topS : ∀ {H' : Hp}, SameX f Hs H' → H' b = some (.lst (ds.map V.ref)) := fun ex => ex _ _ fb.symm hBs.top
      refine st_seq (st_forR1 (n := (j : Int)) (va_cons (val_var rfl) va_nil) (by omega) (by omega)
        (fun i σ' H' => ∃ x4 x5 x6 x7 x8 x9 x10 cur, σ' = [some (.ref p), some (.ref b), some (.int (j : Int)), some (.ref f), x4, x5, x6, x7, x8, x9, x10, x11] ∧ SameX f Hs H' ∧ H' f = some (.dK cur) ∧ EntM H' n j cur ∧
          ∀ i' l m e, i' < i → Mt.FS (mm R n) q i' l m → Mt.Comes (mm R n) (Mt.slc q i' j) e → Cn (mm R n) l e → HasM H' cur (tgt l e) (m + Mt.oN e))
        ⟨_, _, _, _, _, _, _, [], rfl, SameX.refl _ _, hfs, ⟨(fun kv h => by cases h), List.nodup_nil⟩, fun i' l m e h => by omega⟩ ?_ ?_)
      · rintro i σ' H3 hi ⟨x4, x5, x6, x7, x8, x9, x10, cur, rfl, ex3, hf3, en3, P1⟩
        have hij : i < j := by omega
        obtain ⟨A, es, vA, hA, eA⟩ := hS.com.at_ i j ⟨hij, hjl⟩
        obtain ⟨ns, n1, n2, n3⟩ := ends_ints eA
        obtain ⟨d, hd⟩ : ∃ d, ds[i]? = some d := ⟨ds[i]'(by omega), List.getElem?_eq_getElem (by omega)⟩
        obtain ⟨kv, kv1, kv2, kv3⟩ := hBs.at_ i d hd
        have hfd := fd d (List.mem_of_getElem? hd)
        have e3 := toS ex3
        have hS3 := hS.same e3
        refine st_forSD (d := A) (kvs := es) (ns := ns) (evs_com (val_com T hS3.self (val_var rfl)) hS3.self.dict (va_cons (val_var rfl) (va_cons (val_var rfl) va_nil)) vA) (e3 _ _ hA) n1 fun l ns' H4 perm e4 hl4 => ?_
        have lf : l ≠ f := fun z => by rw [z, e4 _ _ hf3] at hl4; cases hl4
        refine for_list (xs := ns'.map V.int) (fun m0 σ' H' => ∃ x5 x6 x7 x8 x9 x10 cur, σ' = [some (.ref p), some (.ref b), some (.int (j : Int)), some (.ref f), some (.int (i : Int)), x5, x6, x7, x8, x9, x10, x11] ∧ SameX f Hs H' ∧ H' f = some (.dK cur) ∧ EntM H' n j cur ∧ H' l = some (.lst (ns'.map V.int)) ∧
            (∀ i' l m e, i' < i → Mt.FS (mm R n) q i' l m → Mt.Comes (mm R n) (Mt.slc q i' j) e → Cn (mm R n) l e → HasM H' cur (tgt l e) (m + Mt.oN e)) ∧
            ∀ k' z, k' < m0 → ns'[k']? = some z → ∀ l m, Mt.FS (mm R n) q i l m → Cn (mm R n) l (dec z) → HasM H' cur (tgt l (dec z)) (m + Mt.oN (dec z)))
          ⟨_, _, _, _, _, _, cur, rfl, ex3.then e4, e4 _ _ hf3, en3.te (te_same e4), hl4, fun i' l m e h1 h2 h3 h4 => (P1 i' l m e h1 h2 h3 h4).te (te_same e4), fun k' z h => by omega⟩
          (fun m0 σ' H' _ ⟨_, _, _, _, _, _, _, _, _, _, _, h, _⟩ => SqL.of h) ?_ ?_
        · rintro m0 x σ' H5 hm ⟨x5, x6, x7, x8, x9, x10, cur, rfl, ex5, hf5, en5, hl5, P1, P2⟩
          rw [List.getElem?_map] at hm
          obtain ⟨z, hz1, hz2⟩ := Option.map_eq_some_iff.mp hm
          subst hz2
          obtain ⟨gz, cz⟩ := n2 z (perm.mem_iff.mp (List.mem_of_getElem? hz1))
          have hd5 : H5 d = some (.dK kv) := ex5 _ _ hfd.symm kv1
          have db : d ≠ b := fun z => by rw [z, topS ex5] at hd5; cases hd5
          refine st_forI (d := d) (kvs := kv) hd5 (fun od => evs_of (val_ixL (val_var rfl) (val_var rfl) (SqL.of (by rw [upd_ne db.symm]; exact topS ex5)) (atI_nat (by rw [List.getElem?_map, hd]; rfl))))
            (fun od y σ' H' => ∃ x6 x7 x8 x9 x10 cur, σ' = [some (.ref p), some (.ref b), some (.int (j : Int)), some (.ref f), some (.int (i : Int)), some (.int z), x6, x7, x8, x9, x10, x11] ∧ SameX f (upd H5 d (.frz od (.dK kv))) H' ∧ H' f = some (.dK cur) ∧ EntM H' n j cur ∧
              (∀ i' l m e, i' < i → Mt.FS (mm R n) q i' l m → Mt.Comes (mm R n) (Mt.slc q i' j) e → Cn (mm R n) l e → HasM H' cur (tgt l e) (m + Mt.oN e)) ∧
              (∀ k' z, k' < m0 → ns'[k']? = some z → ∀ l m, Mt.FS (mm R n) q i l m → Cn (mm R n) l (dec z) → HasM H' cur (tgt l (dec z)) (m + Mt.oN (dec z))) ∧
              ∀ y' zk a t (k0 : Nat), y' < y → kv[y']? = some (.inl zk, .ref a) → H' a = some (.tup [.int (k0 : Int), .ref t]) → Cn (mm R n) (dec zk) (dec z) → HasM H' cur (tgt (dec zk) (dec z)) (k0 + Mt.oN (dec z)))
            (fun od H6 e6 => ?_) (fun od y σ' H6 _ ⟨_, _, _, _, _, _, _, h, _⟩ => h _ _ hfd.symm upd_same) ?_ ?_
          · have te6 : TupExt H5 H6 := fun x xs h => e6 _ _ (by rw [upd_ne (ne_of h hd5 (by intro q; cases q))]; exact h)
            refine ⟨_, _, _, _, _, cur, rfl, SameX.of e6, e6 _ _ (by rw [upd_ne hfd]; exact hf5), en5.te te6, fun i' l m e h1 h2 h3 h4 => (P1 i' l m e h1 h2 h3 h4).te te6, fun k' z h1 h2 l m h3 h4 => (P2 k' z h1 h2 l m h3 h4).te te6, fun y' zk a t k0 h => by omega⟩
          · rintro od y kk vv σ' H6 tt hyy ⟨x6, x7, x8, x9, x10, cur6, rfl, ex6, hf6, en6, P1, P2, P3⟩ htt
            obtain ⟨zk, a, es0, ekv, gk, pk, lk⟩ := kv2.ok _ (List.mem_of_getElem? hyy)
            have ek : kk = .inl zk := congrArg (fun p => p.1) ekv
            have ev : vv = .ref a := congrArg (fun p => p.2) ekv
            subst ek
            subst ev
            -- what stands in the locked heap
            have te65 : TupExt Hs H6 := fun x xs h => ex6 _ _ (ne_of h hfs (by intro q; cases q)) (by rw [upd_ne (ne_of h kv1 (by intro q; cases q))]; exact teS ex5 _ _ h)
            have sH6 : Same H H6 := fun x o h => by
              have hxf : x ≠ f := fun z => by rw [z, fH] at h; cases h
              have hxd : x ≠ d ∨ x = d := by by_cases c : x = d <;> simp [c]
              rcases hxd with hxd | hxd
              · exact ex6 _ _ hxf (by rw [upd_ne hxd]; exact toS ex5 _ _ h)
              · rw [hxd, nds d (List.mem_of_getElem? hd)] at h
                cases h
            obtain ⟨t0, hA0, ts0, hT0, hP0⟩ := pk
            have e7 : Same H6 (upd H6 tt (.tup [kV (.inl zk), .ref a])) := same_new htt
            have hA7 := e7 _ _ (te65 _ _ hA0)
            have hT7 := e7 _ _ (te65 _ _ hT0)
            have hf7 := e7 _ _ hf6
            have sH7 : Same H (upd H6 tt (.tup [kV (.inl zk), .ref a])) := sH6.trans e7
            have hS7 := hS.same sH7
            refine ⟨tt, _, rfl, SqT.of upd_same, rfl, _, _, rfl, _, _, rfl, a, _, rfl, SqT.of hA7, rfl, _, _, rfl, _, _, rfl, rfl, rfl, ?_⟩
            generalize hH7 : (upd H6 tt (.tup [kV (.inl zk), .ref a])) = H7 at e7 hA7 hT7 hf7 sH7 hS7 ⊢
            have cnt' : cnt (es0 ++ [z]) = cnt es0 + Mt.oN (dec z) := cnt_app es0 z
            -- what the turn leaves
            have close : ∀ (x9 x10 : Option V) (H9 : Hp) (cur7 : List (Key × V)), SameX f H7 H9 → H9 f = some (.dK cur7) → EntM H9 n j cur7 → TupExt H7 H9 → (∀ l m, HasM H7 cur6 l m → HasM H9 cur7 l m) → (Cn (mm R n) (dec zk) (dec z) → HasM H9 cur7 (tgt (dec zk) (dec z)) (cnt es0 + Mt.oN (dec z))) →
                ∃ x6' x7' x8' x9' x10' cur', [some (V.ref p), some (V.ref b), some (V.int (j : Int)), some (V.ref f), some (V.int (i : Int)), some (V.int z), some (V.int zk), some (V.int (cnt es0 : Nat)), some (V.ref t0), x9, x10, x11] = [some (.ref p), some (.ref b), some (.int (j : Int)), some (.ref f), some (.int (i : Int)), some (.int z), x6', x7', x8', x9', x10', x11] ∧ SameX f (upd H5 d (.frz od (.dK kv))) H9 ∧ H9 f = some (.dK cur') ∧ EntM H9 n j cur' ∧
                (∀ i' l m e, i' < i → Mt.FS (mm R n) q i' l m → Mt.Comes (mm R n) (Mt.slc q i' j) e → Cn (mm R n) l e → HasM H9 cur' (tgt l e) (m + Mt.oN e)) ∧
                (∀ k' z, k' < m0 → ns'[k']? = some z → ∀ l m, Mt.FS (mm R n) q i l m → Cn (mm R n) l (dec z) → HasM H9 cur' (tgt l (dec z)) (m + Mt.oN (dec z))) ∧
                ∀ y' zk a t (k0 : Nat), y' < y + 1 → kv[y']? = some (.inl zk, .ref a) → H9 a = some (.tup [.int (k0 : Int), .ref t]) → Cn (mm R n) (dec zk) (dec z) → HasM H9 cur' (tgt (dec zk) (dec z)) (k0 + Mt.oN (dec z)) := by
              intro x9 x10 H9 cur7 h1 h2 h3 h4 h5 h6
              have te7 : TupExt H6 H7 := te_same e7
              refine ⟨_, _, _, _, _, cur7, rfl, (ex6.then e7).trans h1, h2, h3, fun i' l m e a1 a2 a3 a4 => h5 _ _ ((P1 i' l m e a1 a2 a3 a4).te te7), fun k' z a1 a2 l m a3 a4 => h5 _ _ ((P2 k' z a1 a2 l m a3 a4).te te7), fun y' zk' a' t' k0 a1 a2 a3 a4 => ?_⟩
              by_cases c : y' = y
              · rw [c, hyy] at a2
                injection a2 with a2
                injection a2 with a5 a6
                injection a5 with a5
                injection a6 with a6
                subst a5
                subst a6
                have ha9 := h4 _ _ hA7
                rw [ha9] at a3
                injection a3 with a3
                injection a3 with a3
                injection a3 with a7 _
                injection a7 with a7
                have : k0 = cnt es0 := by omega
                rw [this]
                exact h6 a4
              · obtain ⟨zk2, a2', es2, q1, q2, ⟨t2, q3, _⟩, q4⟩ := kv2.ok _ (List.mem_of_getElem? a2)
                have ea : a' = a2' := by
                  have := congrArg (fun p => p.2) q1
                  injection this
                subst ea
                have h6a := te65 _ _ q3
                have h9a := h4 _ _ (te7 _ _ h6a)
                rw [h9a] at a3
                injection a3 with a3
                injection a3 with a3
                injection a3 with a7 _
                injection a7 with a7
                have ek0 : k0 = cnt es2 := by omega
                rw [ek0]
                exact h5 _ _ ((P3 y' zk' a' t2 (cnt es2) (by omega) a2 h6a a4).te te7)
            have test := ans_or' (b := decide (z = -1)) (a_eq (H := H7) (σ := [some (V.ref p), some (V.ref b), some (V.int (j : Int)), some (V.ref f), some (V.int (i : Int)), some (V.int z), some (V.int zk), some (V.int (cnt es0 : Nat)), some (V.ref t0), x9, x10, x11]) (val_var (i := 5) rfl) (val_c (v := .int (-1))) rfl (by by_cases h : z = -1 <;> simp [h])) fun hz =>
              ans_or' (b := decide (zk = -1)) (a_eq (val_var (i := 6) rfl) (val_c (v := .int (-1))) rfl (by by_cases h : zk = -1 <;> simp [h])) fun hzk =>
                a_isN (b := (ent R zk z).isNone) (val_entT (K := K) hS7.self.rows w (val_srows T hS7.self (val_var (i := 0) rfl)) (val_var (i := 6) rfl) (val_var (i := 5) rfl) (gk.resolve_left (of_decide_eq_false hzk)) (gz.resolve_left (of_decide_eq_false hz))) eV_non
            refine st_if test (fun hyes => ?_) (fun hno => ?_)
            · have hCn : Cn (mm R n) (dec zk) (dec z) := by
                intro t c h1 h2
                by_cases c1 : z = -1
                · rw [c1] at h2; cases h2
                · by_cases c2 : zk = -1
                  · rw [c2] at h1; cases h1
                  · rw [dec_no c1] at h2
                    rw [dec_no c2] at h1
                    cases h1
                    cases h2
                    rw [decide_eq_false c1, decide_eq_false c2] at hyes
                    have hn : ent R zk z = none := by
                      cases he : ent R zk z with
                      | none => rfl
                      | some v => rw [he] at hyes; cases hyes
                    exact (mm_none (gk.resolve_left c2) (gz.resolve_left c1)).mpr hn
              obtain ⟨zt, hzt⟩ : ∃ zt, zt = if z = -1 then zk else z := ⟨_, rfl⟩
              have dzt : dec zt = tgt (dec zk) (dec z) := by
                rw [hzt]
                by_cases c1 : z = -1
                · rw [if_pos c1, c1]; rfl
                · rw [if_neg c1, dec_no c1]; rfl
              have gzt : GoodE n zt := by
                rw [hzt]
                split
                · exact gk
                · exact gz
              refine st_seq (x_set ((val_add (val_var rfl) ((val_if (b := decide (z = -1)) (a_eq (val_var rfl) val_c rfl (by by_cases h : z = -1 <;> simp [h])) (fun _ => val_c) (fun _ => val_c)).to goneV)) _ (x_tup1 ⟨_, rfl, t0, _, rfl, .inl (SqT.of hT7), x_tup1 ((va_cons (val_var rfl) (va_cons (val_var rfl) (va_cons (val_var rfl) va_nil))) _ ?_)⟩)))
              refine ⟨by show 3 ≤ sizeLine; decide, fun u1 hu1 => ⟨?_, fun u2 hu2 => ⟨by show 2 ≤ sizeLine; decide, fun u3 hu3 => ?_⟩⟩⟩
              · rw [List.length_append, List.length_map, plen hP0]
                exact Nat.le_trans (show es0.length + 1 ≤ 2000 by omega) (by decide)
              dsimp only
              have esum : ((cnt es0 : Nat) : Int) + (Mt.oN (dec z) : Nat) = ((cnt (es0 ++ [z]) : Nat) : Int) := by rw [cnt']; omega
              rw [esum]
              have f1 := (same_new hu1 (o := .tup [.int (i : Int), .int (j : Int), .int z]))
              have f2 := (same_new hu2 (o := .tup (ts0.map V.ref ++ [.ref u1])))
              have f3 := (same_new hu3 (o := .tup [.int ((cnt (es0 ++ [z]) : Nat) : Int), .ref u2]))
              have e8 := f1.trans (f2.trans f3)
              have te75 : TupExt Hs H7 := fun x xs h => e7 _ _ (te65 _ _ h)
              have hp8 : PlaceAt (upd (upd (upd H7 u1 (.tup [.int (i : Int), .int (j : Int), .int z])) u2 (.tup (ts0.map V.ref ++ [.ref u1]))) u3 (.tup [.int ((cnt (es0 ++ [z]) : Nat) : Int), .ref u2])) u3 (es0 ++ [z]) := by
                refine ⟨u2, upd_same, ts0 ++ [u1], ?_, ?_⟩
                · rw [List.map_append]
                  exact f3 _ _ upd_same
                · exact psnoc (pmap hP0 fun a e ⟨x, y, h⟩ => ⟨x, y, e8 _ _ (te75 _ _ h)⟩) ⟨_, _, (f2.trans f3) _ _ upd_same⟩
              generalize (upd (upd (upd H7 u1 (.tup [.int (i : Int), .int (j : Int), .int z])) u2 (.tup (ts0.map V.ref ++ [.ref u1]))) u3 (.tup [.int ((cnt (es0 ++ [z]) : Nat) : Int), .ref u2])) = H8 at e8 hp8 ⊢
              have hf8 := e8 _ _ hf7
              have te8 := te_same e8
              have en8 : EntM H8 n j cur6 := en6.te (te_same (e7.trans e8))
              refine st_seq (st_set ((val_if (b := decide (z = -1)) (v := .int zk) (w := .int z) (a_eq (val_var rfl) val_c rfl (by by_cases h : z = -1 <;> simp [h])) (fun _ => val_var rfl) (fun _ => val_var rfl)).to (w := .int zt) (by rw [hzt]; by_cases c1 : z = -1 <;> simp [c1])) ?_)
              dsimp only
              obtain ⟨t8, hu8, _⟩ := id hp8
              have te9 : TupExt H8 (upd H8 f (.dK (putK cur6 (.inl zt) (.ref u3)))) := te_samex samex_upd hf8
              have put := fun (hb : ∀ a0 t0 (k0 : Nat), valV cur6 (.inl zt) = some (.ref a0) → H8 a0 = some (.tup [.int (k0 : Int), .ref t0]) → k0 ≤ cnt (es0 ++ [z])) =>
                close (some (.ref u3)) (some (.int zt)) (upd H8 f (.dK (putK cur6 (.inl zt) (.ref u3)))) (putK cur6 (.inl zt) (.ref u3)) ((SameX.of e8).trans samex_upd) upd_same ((en8.put gzt hp8 (by rw [List.length_append, List.length_singleton]; omega)).te te9) (fun x xs h => te9 _ _ (te8 _ _ h)) (fun l m h => ((h.te te8).put hu8 hb).te te9) (fun _ => ⟨zt, u3, t8, cnt (es0 ++ [z]), dzt, by rw [valV_put, if_pos rfl], te9 _ _ hu8, by rw [cnt']; exact Nat.le_refl _⟩)
              have lc6 : cur6.length < sizeLine := Nat.lt_of_le_of_lt (en8.len w2) (by decide)
              cases ev : valV cur6 (.inl zt) with
              | none =>
                refine st_yes (ans_or1 (a_dnotin (k := .inl zt) (val_var rfl) (val_var rfl) hf8 (by rw [ev]; rfl))) ?_
                exact x_dput ⟨_, rfl, _, rfl, _, rfl, f, _, rfl, DPut.k (k := .inl zt) hf8 lc6, put fun a0 t0 k0 h => by rw [ev] at h; cases h⟩
              | some v0 =>
                obtain ⟨z1, a1, es2, q1, q2, ⟨t2, q3, _⟩, q4⟩ := en8.ok _ (mem_of_valV ev)
                have ev0 : v0 = .ref a1 := congrArg (fun p => p.2) q1
                subst ev0
                have ez1 : z1 = zt := by
                  have := congrArg (fun p => p.1) q1
                  injection this with h
                  exact h.symm
                have vd : Val (tDGet (tVar 3) (tVar 10)) [some (V.ref p), some (V.ref b), some (V.int (j : Int)), some (V.ref f), some (V.int (i : Int)), some (V.int z), some (V.int zk), some (V.int (cnt es0 : Nat)), some (V.ref t0), some (.ref u3), some (.int zt), x11] H8 (.ref a1) := fun Q q => ⟨_, rfl, _, rfl, f, _, rfl, by
                  have h := DGet.k (k := .inl zt) hf8
                  rw [ev] at h
                  exact h, q⟩
                have cmp := a_bi (f := fun i j => decide (i > j)) (b := decide (cnt es2 < cnt (es0 ++ [z]))) (val_ixT (K := K) (val_var (i := 9) rfl) (val_c (v := .int 0)) (SqT.of hu8) rfl) (val_ixT (K := K) vd (val_c (v := .int 0)) (SqT.of q3) rfl) (by
                  by_cases h : cnt es2 < cnt (es0 ++ [z])
                  · rw [decide_eq_true h]; exact decide_eq_true (by omega)
                  · rw [decide_eq_false h]; exact decide_eq_false (by omega))
                have no := a_dnotin (k := .inl zt) (b := false) (val_var (σ := [some (V.ref p), some (V.ref b), some (V.int (j : Int)), some (V.ref f), some (V.int (i : Int)), some (V.int z), some (V.int zk), some (V.int (cnt es0 : Nat)), some (V.ref t0), some (.ref u3), some (.int zt), x11]) (i := 10) rfl) (val_var (i := 3) rfl) hf8 (by rw [ev]; rfl)
                by_cases hlt : cnt es2 < cnt (es0 ++ [z])
                · rw [decide_eq_true hlt] at cmp
                  refine st_yes (ans_or no cmp) ?_
                  refine x_dput ⟨_, rfl, _, rfl, _, rfl, f, _, rfl, DPut.k (k := .inl zt) hf8 lc6, put fun a0 t0 k0 h h' => ?_⟩
                  rw [ev] at h
                  injection h with h
                  injection h with h
                  rw [← h, q3] at h'
                  injection h' with h'
                  injection h' with h'
                  injection h' with h' _
                  injection h' with h'
                  omega
                · rw [decide_eq_false hlt] at cmp
                  refine st_no (ans_or no cmp) ?_
                  exact close _ _ H8 cur6 (SameX.of e8) hf8 en8 te8 (fun l m h => h.te te8) (fun _ => ⟨zt, a1, t2, cnt es2, dzt, ev, q3, by rw [← cnt']; omega⟩)
            · refine close _ _ H7 cur6 (SameX.refl _ _) hf7 (en6.te (te_same e7)) (fun x xs h => h) (fun l m h => h) fun hCn => ?_
              exfalso
              have c1 : z ≠ -1 := fun c => by rw [decide_eq_true c] at hno; cases hno
              have c2 : zk ≠ -1 := fun c => by rw [decide_eq_false c1, decide_eq_true c] at hno; cases hno
              rw [decide_eq_false c1, decide_eq_false c2] at hno
              have := hCn zk z (dec_no c2) (dec_no c1)
              rw [mm_none (gk.resolve_left c2) (gz.resolve_left c1)] at this
              rw [this] at hno
              cases hno
          · rintro od σ' H6 ⟨x6, x7, x8, x9, x10, cur6, rfl, ex6, hf6, en6, P1, P2, P3⟩
            have hd6 : H6 d = some (.frz od (.dK kv)) := ex6 _ _ hfd.symm upd_same
            have ted : TupExt H6 (upd H6 d (.dK kv)) := fun x xs h => by rw [upd_ne (ne_of h hd6 (by intro q; cases q))]; exact h
            have hld : l ≠ d := fun z => by rw [z, hd5] at hl5; cases hl5
            have te65 : TupExt Hs H6 := fun x xs h => ex6 _ _ (ne_of h hfs (by intro q; cases q)) (by rw [upd_ne (ne_of h kv1 (by intro q; cases q))]; exact teS ex5 _ _ h)
            refine ⟨_, _, _, _, _, _, cur6, rfl, fun x o hx h => ?_, by rw [upd_ne hfd]; exact hf6, en6.te ted, by rw [upd_ne hld]; exact ex6 _ _ lf (by rw [upd_ne hld]; exact hl5), fun i' l m e a1 a2 a3 a4 => (P1 i' l m e a1 a2 a3 a4).te ted, fun k' z' a1 a2 l m a3 a4 => ?_⟩
            · by_cases hxd : x = d
              · rw [hxd, upd_same]
                rw [hxd, kv1] at h
                exact h
              · rw [upd_ne hxd]
                exact ex6 _ _ hx (by rw [upd_ne hxd]; exact ex5 _ _ hx h)
            · by_cases c : k' = m0
              · rw [c, hz1] at a2
                cases a2
                obtain ⟨zk, a, t, k0, h1, h2, h3, h4⟩ := kv3 l m a3
                obtain ⟨y', hy'⟩ := List.getElem?_of_mem (mem_of_valV h2)
                rw [← h1] at a4 ⊢
                obtain ⟨z2, a2, t2, k2, g1, g2, g3, g4⟩ := (P3 y' zk a t k0 (List.getElem?_eq_some_iff.mp hy').1 hy' (te65 _ _ h3) a4).te ted
                exact ⟨z2, a2, t2, k2, g1, g2, g3, by omega⟩
              · exact (P2 k' z' (by omega) a2 l m a3 a4).te ted
        · rintro σ' H5 ⟨x5, x6, x7, x8, x9, x10, cur, rfl, ex5, hf5, en5, hl5, P1, P2⟩
          refine ⟨_, _, _, _, _, _, _, cur, rfl, ex5, hf5, en5, fun i' l' m e h1 h2 h3 h4 => ?_⟩
          by_cases hi' : i' = i
          · subst hi'
            obtain ⟨z, hz, ez⟩ := n3 e h3
            obtain ⟨k', hk'⟩ := List.getElem?_of_mem (perm.mem_iff.mpr hz)
            rw [← ez] at h4 ⊢
            exact P2 k' z (by rw [List.length_map]; exact (List.getElem?_eq_some_iff.mp hk').1) hk' l' m h2 h4
          · exact P1 i' l' m e (by omega) h2 h3 h4
      · rintro σ' H3 ⟨x4, x5, x6, x7, x8, x9, x10, cur, rfl, ex3, hf3, en3, P1⟩
        dsimp only
        have hb3 := topS ex3
        refine x_drop ⟨_, rfl, .inl ⟨rfl, _, SqL.of hb3⟩, _, rfl, b, _, _, rfl, rfl, hb3, by rw [List.length_map, ld]; exact Nat.lt_of_le_of_lt (show c + 1 ≤ 2000 by omega) (by decide), ?_⟩
        have teb : TupExt H3 (upd H3 b (.lst (ds.map V.ref ++ [.ref f]))) := fun x xs h => by rw [upd_ne (ne_of h hb3 (by intro q; cases q))]; exact h
        refine ⟨_, _, _, _, _, _, _, _, _, _, ds ++ [f], rfl, same_mut (toS ex3) hbH, ⟨by rw [List.map_append]; exact upd_same, fun i' d' hi => ?_⟩, by rw [List.length_append, ld]; rfl, fun d' hd' => ?_⟩
        · by_cases hib : i' < ds.length
          · rw [List.getElem?_append_left hib] at hi
            obtain ⟨kv', h1, h2, h3⟩ := hBs.at_ i' d' hi
            have hdb : d' ≠ b := fun z => by rw [z, hBs.top] at h1; cases h1
            have te3 : TupExt Hs (upd H3 b (.lst (ds.map V.ref ++ [.ref f]))) := fun x xs h => teb _ _ (teS ex3 _ _ h)
            exact ⟨kv', by rw [upd_ne hdb]; exact ex3 _ _ (fd d' (List.mem_of_getElem? hi)).symm h1, h2.te te3, fun l m hl' => (h3 l m hl').te te3⟩
          · rw [List.getElem?_append_right (by omega)] at hi
            have hi0 : i' - ds.length = 0 := by
              have := (List.getElem?_eq_some_iff.mp hi).1
              simp at this
              omega
            rw [hi0] at hi
            have ex : f = d' := Option.some.inj hi
            subst ex
            have eij : i' = j := by omega
            rw [eij]
            refine ⟨cur, by rw [upd_ne fb]; exact hf3, en3.te teb, fun l m hf => ?_⟩
            obtain ⟨i1, e, l0, k0, h1, h2, h3, h4, h5, h6⟩ := fs_last hf (by omega)
            rw [h5, h6]
            exact (P1 i1 l0 k0 e h1 h2 h3 h4).te teb
        · rcases List.mem_append.mp hd' with h | h
          · exact nds d' h
          · rw [List.mem_singleton.mp h]
            exact fH
    · rintro σ' H2 ⟨x2, x3, x4, x5, x6, x7, x8, x9, x10, x11, ds, rfl, e2, hB, ld, nds⟩
      dsimp only
      have el : (((q.length : Int) + 1 - 1).toNat : Nat) = q.length := by omega
      rw [el] at ld
      obtain ⟨d, hd⟩ : ∃ d, ds[q.length]? = some d := ⟨ds[q.length]'(by omega), List.getElem?_eq_getElem (by omega)⟩
      obtain ⟨kv, kv1, kv2, kv3⟩ := hB.at_ _ d hd
      have dH := nds d (List.mem_of_getElem? hd)
      have db : d ≠ b := fun z => by rw [z, hB.top] at kv1; cases kv1
      have hlast : atI (ds.map V.ref) (-1) = some (.ref d) := by
        unfold atI ixN
        rw [if_neg (by decide), List.length_map, ld, if_pos (by omega)]
        show (ds.map V.ref)[((-1 : Int) + ((q.length + 1 : Nat) : Int)).toNat]? = _
        rw [show ((-1 : Int) + ((q.length + 1 : Nat) : Int)).toNat = q.length by omega, List.getElem?_map, hd]
        rfl
      refine x_ret (x_op (lc_valsM (j := 11) (σ := [some (V.ref p), some (.ref b), x2, x3, x4, x5, x6, x7, x8, x9, x10, x11]) kv1 (fun od => evs_of (val_ixL (val_var rfl) (val_neg val_c) (SqL.of (by rw [upd_ne db.symm]; exact hB.top)) hlast)) (kv2.len w2) (by intro _; rfl) rfl fun L H3 e3 hL => ?_))
      have e4 := e2.trans e3
      -- the list of the values
      have vals : ∃ as : List Addr, (kv.map fun p => p.2) = as.map V.ref ∧ as.length = kv.length ∧ ∀ (i : Nat) (a : Addr), as[i]? = some a → ∃ (z : Int) (es : List Int), kv[i]? = some (Sum.inl z, V.ref a) ∧ PlaceAt H2 a es ∧ es.length ≤ q.length := by
        have key : ∀ l : List (Key × V), (∀ p ∈ l, ∃ (z : Int) (a : Addr) (es : List Int), p = (.inl z, .ref a) ∧ GoodE n z ∧ PlaceAt H2 a es ∧ es.length ≤ q.length) → ∃ as : List Addr, (l.map fun p => p.2) = as.map V.ref ∧ as.length = l.length ∧ ∀ (i : Nat) (a : Addr), as[i]? = some a → ∃ (z : Int) (es : List Int), l[i]? = some (Sum.inl z, V.ref a) ∧ PlaceAt H2 a es ∧ es.length ≤ q.length := by
          intro l
          induction l with
          | nil => intro _; exact ⟨[], rfl, rfl, fun i a h => by simp at h⟩
          | cons p l ih =>
            intro hp
            obtain ⟨as, h1, h2, h3⟩ := ih fun x hx => hp x (List.mem_cons_of_mem _ hx)
            obtain ⟨z, a, es, q1, q2, q3, q4⟩ := hp p (List.mem_cons_self ..)
            refine ⟨a :: as, by rw [List.map_cons, List.map_cons, h1, q1], by rw [List.length_cons, List.length_cons, h2], fun i x hi => ?_⟩
            cases i with
            | zero =>
              have : a = x := by simpa using hi
              subst this
              exact ⟨z, es, by rw [q1]; rfl, q3, q4⟩
            | succ i =>
              obtain ⟨z', es', r1, r2, r3⟩ := h3 i x (by simpa using hi)
              exact ⟨z', es', by simpa using r1, r2, r3⟩
        exact key kv kv2.ok
      obtain ⟨as, v1, v2, v3⟩ := vals
      have te3 := te_same e3
      have hex : ∀ i : Nat, ∃ k0 : Int, ∀ a, as[i]? = some a → ∃ xs, H3 a = some (.tup xs) ∧ xs[0]? = some (.int k0) := fun i => by
        cases ha : as[i]? with
        | none => exact ⟨0, fun a h => by cases h⟩
        | some a =>
          obtain ⟨z, es, _, ⟨t, h1, _⟩, _⟩ := v3 i a ha
          exact ⟨(cnt es : Nat), fun a' h => by cases h; exact ⟨_, te3 _ _ h1, rfl⟩⟩
      obtain ⟨ks, hks⟩ := Classical.axiomOfChoice hex
      have ksOf : ∀ (i : Nat) (a : Addr) (es : List Int), as[i]? = some a → PlaceAt H2 a es → ks i = ((cnt es : Nat) : Int) := fun i a es h1 ⟨t, h2, _⟩ => by
        obtain ⟨xs, q1, q2⟩ := hks i a h1
        rw [te3 _ _ h2] at q1
        cases q1
        injection q2 with q2
        injection q2 with q2
        exact q2.symm
      have pos : 0 < as.length := by
        obtain ⟨l, m, hf⟩ := fs_exists (mm R n) q (Nat.le_refl q.length)
        obtain ⟨z, a, t, k0, _, h2, _, _⟩ := kv3 l m hf
        have := List.length_pos_of_mem (mem_of_valV h2)
        omega
      refine ⟨hT.ext (fun b o h => e4 b o h), L, as, ks, rfl, SqL.of (by rw [← v1]; exact hL), pos, fun i a h => hks i a h, fun H4 eN T4 i a ha hmax => ?_⟩
      obtain ⟨z, es, g1, ⟨t, g2, g3⟩, g4⟩ := v3 i a ha
      have ext : ∀ b xs, H3 b = some (.tup xs) → H4 b = some (.tup xs) := fun b xs h => eN b _ h fun ps q => by cases q
      have hp4 : PlaceAt H4 a es := (PlaceAt.te ⟨t, g2, g3⟩ te3).te ext
      have ga4 : H4 a = some (.tup [.int (cnt es : Nat), .ref t]) := ext _ _ (te3 _ _ g2)
      refine ⟨a, _, 1, _, rfl, rfl, SqT.of ga4, rfl, ?_⟩
      obtain ⟨ts, q1, q2⟩ := g3
      refine k t H4 es ((LamX.ExtN.of fun b o h => e4 b o h).trans eN) T4 ⟨ts, ext _ _ (te3 _ _ q1), pmap q2 fun a e ⟨x, y, h⟩ => ⟨x, y, ext _ _ (te3 _ _ h)⟩⟩ (fun l m hf => ?_) g4
      obtain ⟨z', a', t', k0, _, r2, r3, r4⟩ := kv3 l m hf
      obtain ⟨i', hi'⟩ := List.getElem?_of_mem (mem_of_valV r2)
      have hil : i' < as.length := by have := (List.getElem?_eq_some_iff.mp hi').1; omega
      obtain ⟨z2, es2, s1, s2, _⟩ := v3 i' _ (List.getElem?_eq_getElem hil)
      rw [hi'] at s1
      have ea : a' = as[i'] := by
        injection s1 with s1
        injection s1 with _ s1
        injection s1
      obtain ⟨t2, s3, _⟩ := id s2
      rw [← ea, r3] at s3
      have ek : k0 = cnt es2 := by
        injection s3 with s3
        injection s3 with s3
        injection s3 with s3 _
        injection s3 with s3
        omega
      have m1 := hmax i' hil
      rw [ksOf i' _ es2 (List.getElem?_eq_getElem hil) s2, ksOf i a es ha ⟨t, g2, ts, q1, q2⟩] at m1
      omega
end
end FF
set_option maxHeartbeats 4000000
namespace FF
open PySem PySem.Spec PyProof.Rows L2
section
variable {P : Program} {w : World} {K : PySem.W.Frag} {mg : Str → Option Value} {base : Heap}
/-! ### most_left -/
def sp_most_left (K : PySem.W.Frag) : Sp := fun vs H Q _ => ∃ (p a ra : Addr) (R : Rws) (n : Nat) (q : List Int), vs = [.ref p, .ref a] ∧ MerAt K H p R n ra ∧ H a = some (.tup (iq q)) ∧ QOk n q ∧ q.length ≤ 1000 ∧ LamX.Tabs (tabT K) H ∧
  ∀ (N : Nat) H', LamX.ExtN H H' → LamX.Tabs (tabT K) H' → (∀ l m, Mt.FS (mm R n) q q.length l m → m ≤ N) → Q (.int (N : Int)) H'
theorem ok_most_left (T : Txt K mg) (TB : LamX.TabB base mg (cLam K) (pLam K)) : FnOk P w K mg base CX0 5 (He.ga K "most_left") T.fd_most_left ["merger", "queue"] (sp_most_left K) := by
  refine T.F_most_left.ok sc_most_left (fun vs H Q E h => ?_) (fun cdv A outer s H vs Q E hr h => ?_)
  · obtain ⟨_, _, _, _, _, _, rfl, _⟩ := h; rfl
  · obtain ⟨p, a, ra, R, n, q, rfl, hM, ha, hq, hl, hT, k⟩ := h
    refine ⟨_, PSs.nox ((pss_one (ps_ret (pe_call (ok_pieces_left T) (hr.mono (by decide)) rfl T.m_pieces_left T.F_pieces_left.kp (bi_pieces_left T) .nil pass0 (pa_cons (pe_call (ok_most_pieces T TB) (hr.mono (by decide)) rfl T.m_most_pieces T.F_most_pieces.kp (bi_most_pieces T) .nil pass0 (pa_cons (pe_make T.mk_Stretches (ok_Stretches_init T) (hr.mono (by decide)) rfl T.mC_Stretches (bi_Stretches_init T) .nil pass0 (pa_cons (fldQ (K := K) rfl (pv 0) rfl) (pa_cons (pe_call (ok_check_queue T) (hr.mono (by decide)) rfl T.m_check_queue T.F_check_queue.kp (bi_check_queue T) .nil pass0 (pa_cons (pv 0) (pa_cons (pv 1) pa_nil))) pa_nil))) pa_nil)) pa_nil))))), ?_⟩
    refine x_ret (x_call (x_cons (x_call (x_cons (x_make (x_cons (val_rows T hM (val_var rfl) _ (x_cons (x_call ((va_cons (val_var rfl) (va_cons (val_var rfl) va_nil)) _ ?_))))))))))
    refine ⟨p, a, ra, R, n, q, rfl, hM, ha, hq, by omega, fun H1 e1 => ?_⟩
    intro x dx hx hdx hne
    have hM1 := hM.same e1
    have eN : Same H1 (upd (upd H1 dx (.own x)) x (.ins (He.ga K "Stretches") dx [])) := fun b o h => by rw [upd_ne (ne_of_none h hx), upd_ne (ne_of_none h hdx)]; exact h
    refine ⟨x, dx, ra, a, R, n, q, rfl, upd_same, hM1.rows.same eN, hM.wf, eN _ _ (e1 _ _ ha), hq, hl, fun H2 D kvs e2 hS => ⟨rfl, ?_⟩⟩
    have e12 : Same H1 H2 := mk_same hx hdx e2
    have e02 : Same H H2 := e1.trans e12
    refine ⟨x, ra, D, kvs, R, n, q, rfl, hS, hM.wf, hl, hT.ext (fun b o h => e02 b o h), fun t H3 es e3 T3 hP hF hle => ?_⟩
    exact ⟨t, es, rfl, hP, by omega, fun H4 e4 => k _ H4 (((LamX.ExtN.of fun b o h => e02 b o h).trans e3).trans (LamX.ExtN.of fun b o h => e4 b o h)) (T3.ext fun b o h => e4 b o h) hF⟩
end
end FF
set_option maxHeartbeats 4000000
namespace FF
open PySem PySem.Spec PyProof.Rows L2
section
variable {P : Program} {w : World} {K : PySem.W.Frag} {mg : Str → Option Value} {base : Heap}
/-! ### helpers for _law_rows -/
/-- all but the box as it was, the box a box -/
def Bx (H : Hp) (b : Addr) (H' : Hp) : Prop := SameX b H H' ∧ ∃ g r : Int, H' b = some (.lst [.int g, .int r])
theorem Bx.grow {H H' H'' : Hp} {b : Addr} (h : Bx H b H') (e : Same H' H'') : Bx H b H'' := ⟨h.1.then e, let ⟨g, r, q⟩ := h.2; ⟨g, r, e _ _ q⟩⟩
theorem Bx.more {H H' H'' : Hp} {b : Addr} (h : Bx H b H') (k : Bx H' b H'') : Bx H b H'' := ⟨h.1.trans k.1, k.2⟩
theorem Bx.mut {H H' : Hp} {b p : Addr} {o : HO} (h : Bx H b H') (hp : H p = none) (hb : b ≠ p) : Bx H b (upd H' p o) := ⟨h.1.mut hp, let ⟨g, r, q⟩ := h.2; ⟨g, r, by rw [upd_ne hb]; exact q⟩⟩
theorem take_ {H : Hp} {b : Addr} {σ : L2.St} {ta tm : TE} {m : Int} {Q : VK} (hb : ∃ g r : Int, H b = some (.lst [.int g, .int r])) (h0 : Val ta σ H (.ref b)) (h1 : Val tm σ H (.int m)) (m0 : 0 < m) (m1 : m < 1000000) (q : ∀ (d : Int) H', Bx H b H' → 0 ≤ d → d < m → Q (.int d) H') :
    tCall sp_law_take [] E0 (tCons ta (tCons tm tNil)) σ H Q := by
  obtain ⟨g, r, hb⟩ := hb
  exact (va_cons h0 (va_cons h1 va_nil)) _ ⟨b, m, g, r, rfl, m0, by omega, hb, fun d g' r' d0 d1 => q d _ ⟨samex_upd, g', r', upd_same⟩ d0 d1⟩
theorem Bx.box {H H' : Hp} {b : Addr} (h : Bx H b H') : ∃ g r : Int, H' b = some (.lst [.int g, .int r]) := h.2
/-- rows that are being made -/
structure Mat (H : Hp) (b a : Addr) (rs : List Addr) (M : Rws) : Prop where
  rows : RowsL H a rs M
  nd : rs.Nodup
  na : a ∉ rs
  ba : b ≠ a
  br : b ∉ rs
theorem Mat.bx {H H' : Hp} {b a : Addr} {rs : List Addr} {M : Rws} (h : Mat H b a rs M) (e : SameX b H H') : Mat H' b a rs M := ⟨h.rows.samex e h.ba h.br, h.nd, h.na, h.ba, h.br⟩
theorem Mat.same {H H' : Hp} {b a : Addr} {rs : List Addr} {M : Rws} (h : Mat H b a rs M) (e : Same H H') : Mat H' b a rs M := h.bx (SameX.of e)
theorem pset2 {α β : Type} {F G : α → β → Prop} : ∀ {xs : List α} {ys : List β} {i : Nat} {x : α} {y : β}, Paired F xs ys → xs[i]? = some x → G x y → (∀ j a b, j ≠ i → xs[j]? = some a → F a b → G a b) → Paired G xs (ys.set i y)
  | _, _, _, _, _, .nil, e, _, _ => by simp at e
  | _, _, 0, _, _, .cons r t, e, h, k => by
    simp at e
    subst e
    have : ∀ {xs : List α} {ys : List β} (n : Nat), Paired F xs ys → (∀ (j : Nat) (a : α) (b : β), xs[j]? = some a → F a b → G a b) → Paired G xs ys := by
      intro xs ys n p
      induction p with
      | nil => intro _; exact .nil
      | cons r t ih => intro k; exact .cons (k 0 _ _ rfl r) (ih fun j a b h => k (j + 1) a b (by simpa using h))
    exact .cons h (this 0 t fun j a b h1 h2 => k (j + 1) a b (by omega) (by simpa using h1) h2)
  | _, _, i + 1, x, y, .cons r t, e, h, k => .cons (k 0 _ _ (by omega) rfl r) (pset2 (i := i) t (by simpa using e) h fun j a b hj h1 h2 => k (j + 1) a b (by omega) (by simpa using h1) h2)
theorem Mat.put {H : Hp} {b a r : Addr} {rs : List Addr} {M : Rws} {i j : Nat} {row : List (Option Int)} {e : Option Int} (h : Mat H b a rs M) (hr : rs[i]? = some r) (hM : M[i]? = some row) : Mat (upd H r (.lst ((row.map eV).set j (eV e)))) b a rs (M.set i (row.set j e)) := by
  have hra : a ≠ r := fun z => h.na (by rw [z]; exact List.mem_of_getElem? hr)
  refine ⟨⟨by rw [upd_ne hra]; exact h.rows.top, ?_⟩, h.nd, h.na, h.ba, h.br⟩
  refine pset2 h.rows.row hr (by rw [upd_same, List.map_set]) fun k x row' hk hx hrow => ?_
  have hxr : x ≠ r := fun z => by
    rw [z] at hx
    obtain ⟨h1, h2⟩ := List.getElem?_eq_some_iff.mp hx
    obtain ⟨h3, h4⟩ := List.getElem?_eq_some_iff.mp hr
    exact hk ((List.getElem_inj h.nd).mp (h2.trans h4.symm))
  rw [upd_ne hxr]
  exact hrow
/-- the size of what is in the rows -/
structure Sz (M : Rws) (n : Nat) (hi : Int) : Prop where
  len : M.length = n
  row : ∀ r ∈ M, r.length = n
  ent : ∀ r ∈ M, ∀ i : Int, some i ∈ r → -1 ≤ i ∧ i < hi
theorem Sz.put {M : Rws} {n : Nat} {hi : Int} {i j : Nat} {row : List (Option Int)} {e : Int} (h : Sz M n hi) (hM : M[i]? = some row) (e0 : -1 ≤ e) (e1 : e < hi) : Sz (M.set i (row.set j (some e))) n hi := by
  have hm := List.mem_of_getElem? hM
  refine ⟨by rw [List.length_set]; exact h.len, fun r hr => ?_, fun r hr x hx => ?_⟩
  · rcases List.mem_or_eq_of_mem_set hr with c | c
    · exact h.row r c
    · rw [c, List.length_set]
      exact h.row _ hm
  · rcases List.mem_or_eq_of_mem_set hr with c | c
    · exact h.ent r c x hx
    · rw [c] at hx
      rcases List.mem_or_eq_of_mem_set hx with d | d
      · exact h.ent _ hm x d
      · cases d
        exact ⟨e0, e1⟩
def blank (n : Nat) : Rws := List.replicate n (List.replicate n none)
theorem sz_blank (n : Nat) (hi : Int) : Sz (blank n) n hi := by
  refine ⟨List.length_replicate, fun r hr => ?_, fun r hr x hx => ?_⟩
  · rw [(List.mem_replicate.mp hr).2, List.length_replicate]
  · rw [(List.mem_replicate.mp hr).2] at hx
    have := (List.mem_replicate.mp hx).2
    cases this
theorem Sz.wf {M : Rws} {n : Nat} (h : Sz M n n) (h1 : 1 ≤ n) (h2 : n ≤ 12) : Wf M n := ⟨h.len, h.row, h.ent, h1, h2⟩
theorem rep_one {n : Nat} : (List.replicate n [V.non]).flatten = (List.replicate n (none : Option Int)).map eV := by
  induction n with
  | zero => rfl
  | succ n ih => rw [List.replicate_succ, List.replicate_succ, List.flatten_cons, ih]; rfl
/-- [None] * n -/
theorem evn_row {H : Hp} {σ : L2.St} {tm : TE} {n : Nat} (h : ∀ H', Same H H' → Val tm σ H' (.int (n : Int))) (hn : n ≤ 100) : EvN (tOp rRep (tLst (tCons (tC .non) tNil)) tm) σ H (.lst ((List.replicate n (none : Option Int)).map eV)) := fun Q q => by
  refine ⟨by show 1 ≤ sizeLine; decide, fun l hl => ?_⟩
  refine h _ (same_new hl) _ ⟨l, _, _, rfl, rfl, upd_same, by omega, by omega, ?_, fun p hp => ?_⟩
  · show 1 * _ ≤ sizeLine
    exact Nat.le_trans (show 1 * ((n : Int)).toNat ≤ 100 by omega) (by decide)
  · have hlp : H p = none := (same_new hl).free hp
    rw [show ((n : Int)).toNat = n by omega, rep_one]
    refine q p _ hlp ((same_new hl).trans (same_new hp)) upd_same
/-- what a comprehension of blank rows leaves -/
theorem mat_of {H H' : Hp} {b L : Addr} {ts : List Addr} {n : Nat} (h : LcN H L (fun _ => .lst ((List.replicate n (none : Option Int)).map eV)) n ts H') (hb : ∃ g r : Int, H b = some (.lst [.int g, .int r])) : Mat H' b L ts (blank n) := by
  obtain ⟨g, r, hb⟩ := hb
  refine ⟨⟨h.lst, ?_⟩, h.nd, (fun z => (h.new L z).2 rfl), (fun z => by rw [z, h.dl] at hb; cases hb), (fun z => by have := (h.new b z).1; rw [hb] at this; cases this)⟩
  refine paired_of (by rw [h.len]; show n = (List.replicate n _).length; rw [List.length_replicate]) fun i t row h1 h2 => ?_
  have h3 := h.obj i t h1
  have h4 : row = List.replicate n none := (List.mem_replicate.mp (List.mem_of_getElem? h2)).2
  rw [h4]
  exact h3
end
end FF
set_option maxHeartbeats 4000000
namespace FF
open PySem PySem.Spec PyProof.Rows L2
section
variable {P : Program} {w : World} {K : PySem.W.Frag} {mg : Str → Option Value} {base : Heap}
/-! ### tables of small lists -/
abbrev dl (l : List Int) : PyData := .list (l.map .int)
theorem dpall_ints {K : PySem.W.Frag} {H : Hp} : ∀ l : List Int, DpAll K H (iq l) (l.map .int)
  | [] => .nil
  | x :: l => .cons (.int x) (dpall_ints l)
theorem dp_dl {K : PySem.W.Frag} {H : Hp} {a : Addr} {l : List Int} (h : H a = some (.lst (iq l))) : Dp K H (.ref a) (dl l) := .lst (SqL.of h) (dpall_ints l)
theorem dp_tab {K : PySem.W.Frag} {H : Hp} : ∀ {as : List Addr} {ls : List (List Int)}, Paired (fun x l => H x = some (.lst (iq l))) as ls → DpAll K H (as.map V.ref) (ls.map dl)
  | _, _, .nil => .nil
  | _, _, .cons h t => .cons (dp_dl h) (dp_tab t)
theorem lay_ints : ∀ l : List Int, PyData.canLayAll0 (l.map .int) = true
  | [] => rfl
  | x :: l => by
    show PyData.canLayAll0 (.int x :: l.map .int) = true
    rw [PyData.canLayAll0, lay_ints l, PyData.canLay0]
    rfl
theorem lay_dls : ∀ ls : List (List Int), PyData.canLayAll0 (ls.map dl) = true
  | [] => rfl
  | x :: l => by
    show PyData.canLayAll0 (.list (x.map .int) :: l.map dl) = true
    rw [PyData.canLayAll0, lay_dls l, PyData.canLay0, lay_ints]
    rfl
theorem depth_dls : ∀ ls : List (List Int), PyData.depthAll (ls.map dl) ≤ 1
  | [] => by simp [PyData.depthAll]
  | x :: l => by
    show PyData.depthAll (.list (x.map .int) :: l.map dl) ≤ 1
    have := depth_dls l
    rw [PyData.depthAll, PyData.depth, PySem.W.depth_ints]
    omega
theorem shaped_dl (l : List Int) : SeqAt.shaped (dl l) = true := by
  unfold SeqAt.shaped
  show (PyData.canLay0 (.list _) && decide (PyData.depth (.list _) ≤ 64)) = true
  rw [PyData.canLay0, lay_ints, PyData.depth, PySem.W.depth_ints]
  rfl
theorem shaped_dls (ls : List (List Int)) : SeqAt.shaped (.list (ls.map dl)) = true := by
  unfold SeqAt.shaped
  have := depth_dls ls
  rw [PyData.canLay0, lay_dls, PyData.depth]
  simp
  omega
theorem eqv_dl (l l' : List Int) : PyData.eqv (dl l) (dl l') = decide (l = l') := by
  show PyData.eqv (.list _) (.list _) = _
  rw [PyData.eqv]
  exact PySem.W.ked_eqvAll l l'
theorem any_dl (ls : List (List Int)) (l : List Int) : ((ls.map dl).any fun z => PyData.eqv z (dl l)) = decide (l ∈ ls) := by
  induction ls with
  | nil => rfl
  | cons x ls ih =>
    rw [List.map_cons, List.any_cons, ih, eqv_dl]
    by_cases h : x = l
    · subst h
      simp
    · have h' : ¬ l = x := fun e => h e.symm
      simp [h, h']
structure TabAt (H : Hp) (b T : Addr) (as : List Addr) (ls : List (List Int)) (s : Nat) : Prop where
  top : H T = some (.lst (as.map V.ref))
  row : Paired (fun x l => H x = some (.lst (iq l))) as ls
  bT : b ≠ T
  ba : b ∉ as
  Ta : T ∉ as
  ok : ∀ l ∈ ls, l.length = s ∧ ∀ x ∈ l, 0 ≤ x ∧ x < (s : Int)
theorem TabAt.keep {H H' : Hp} {b T : Addr} {as : List Addr} {ls : List (List Int)} {s : Nat} (h : TabAt H b T as ls s) (e : ∀ x o, (x = T ∨ x ∈ as) → H x = some o → H' x = some o) : TabAt H' b T as ls s := by
  refine ⟨e _ _ (.inl rfl) h.top, ?_, h.bT, h.ba, h.Ta, h.ok⟩
  have k : ∀ {xs : List Addr} {ys : List (List Int)}, (∀ x ∈ xs, x ∈ as) → Paired (fun x l => H x = some (.lst (iq l))) xs ys → Paired (fun x l => H' x = some (.lst (iq l))) xs ys := by
    intro xs ys hx p
    induction p with
    | nil => exact .nil
    | cons r t ih => exact .cons (e _ _ (.inr (hx _ (List.mem_cons_self ..))) r) (ih fun x hxx => hx x (List.mem_cons_of_mem _ hxx))
  exact k (fun x h => h) h.row
theorem TabAt.bx {H H' : Hp} {b T : Addr} {as : List Addr} {ls : List (List Int)} {s : Nat} (h : TabAt H b T as ls s) (e : SameX b H H') : TabAt H' b T as ls s := h.keep fun x o hx q => e x o (fun z => by
  rcases hx with r | r
  · exact h.bT (by rw [← z, r])
  · exact h.ba (z ▸ r)) q
theorem TabAt.same {H H' : Hp} {b T : Addr} {as : List Addr} {ls : List (List Int)} {s : Nat} (h : TabAt H b T as ls s) (e : Same H H') : TabAt H' b T as ls s := h.keep fun x o _ q => e x o q
/-- another object is written -/
theorem TabAt.off {H : Hp} {b T p : Addr} {as : List Addr} {ls : List (List Int)} {s : Nat} {o : HO} (h : TabAt H b T as ls s) (hT : p ≠ T) (ha : p ∉ as) : TabAt (upd H p o) b T as ls s := h.keep fun x u hx q => by
  rw [upd_ne]
  · exact q
  · rintro rfl
    rcases hx with r | r
    · exact hT r
    · exact ha r
theorem rg_iq (s : Nat) : rgV 0 (s : Int) = iq ((List.range s).map fun i => ((i : Nat) : Int)) := by
  apply List.ext_getElem?
  intro i
  by_cases hi : i < s
  · obtain ⟨x, hx⟩ : ∃ x, (rgV 0 (s : Int))[i]? = some x := ⟨(rgV 0 (s : Int))[i]'(by rw [rg_len]; exact hi), List.getElem?_eq_getElem _⟩
    obtain ⟨rfl, _⟩ := rg_get hx
    rw [hx, List.getElem?_map, List.getElem?_map, List.getElem?_range hi]
    rfl
  · rw [List.getElem?_eq_none (by rw [rg_len]; omega), List.getElem?_eq_none (by rw [List.length_map, List.length_map, List.length_range]; omega)]
theorem first_ix {l : List Int} : ∀ {ls : List (List Int)}, l ∈ ls → ∃ j : Nat, ls[j]? = some l ∧ ∀ (m : Nat) (z : List Int), m < j → ls[m]? = some z → z ≠ l
  | [], h => by cases h
  | x :: ls, h => by
    by_cases c : x = l
    · exact ⟨0, by rw [c]; rfl, fun m z hm => by omega⟩
    · have h' : l ∈ ls := (List.mem_cons.mp h).resolve_left fun e => c e.symm
      obtain ⟨j, h1, h2⟩ := first_ix h'
      refine ⟨j + 1, by simpa using h1, fun m z hm hz => ?_⟩
      cases m with
      | zero =>
        have : x = z := by simpa using hz
        rw [← this]
        exact c
      | succ m => exact h2 m z (by omega) (by simpa using hz)
theorem x_asg {H : Hp} {σ : L2.St} {te : TE} {g : TG} {D : Ends} (h : te σ H fun x H1 => g x σ H1 fun σ2 H2 => D.nx σ2 H2) : tAsg te g D σ H := h
theorem x_tup2 {H : Hp} {σ : L2.St} {t1 t2 : TE} {Q : VK} (h : t1 σ H fun x H1 => t2 σ H1 fun y H2 => [x, y].length ≤ sizeLine ∧ ∀ p, H2 p = none → Q (.ref p) (upd H2 p (.tup [x, y]))) : tTup (tCons t1 (tCons t2 tNil)) σ H Q := h
/-- draws in a list -/
theorem lc_takes {H : Hp} {b : Addr} {σ : L2.St} {tn ta tm : TE} {j m n : Nat} {Q : VK} (hb : ∃ g r : Int, H b = some (.lst [.int g, .int r])) (hn : Val tn σ H (.int (n : Int))) (hn2 : n ≤ 1000) (m0 : 0 < m) (m1 : m < 1000) (hw : ∀ x, wipe ((wipe σ [j]).set j (some x)) [j] = wipe σ [j])
    (h0 : ∀ x H', Val ta ((wipe σ [j]).set j (some x)) H' (.ref b)) (h1 : ∀ x H', Val tm ((wipe σ [j]).set j (some x)) H' (.int (m : Int)))
    (q : ∀ (D : Addr) (l : List Int) H', Bx H b H' → H D = none → b ≠ D → H' D = some (.lst (iq l)) → l.length = n → (∀ x ∈ l, 0 ≤ x ∧ x < (m : Int)) → Q (.ref D) H') :
    tLc (iRng1 (tCons tn tNil)) (gName j) tYes (tCall sp_law_take [] E0 (tCons ta (tCons tm tNil))) [j] σ H Q := by
  refine x_lcR1 (hn _ ⟨_, rfl, by omega, by omega, fun D hD => ?_⟩)
  obtain ⟨g0, r0, hb0⟩ := hb
  have hDb : D ≠ b := fun e => by rw [e, hb0] at hD; cases hD
  refine lc_range (lo := 0) (n := (n : Int).toNat) (fun i H' => ∃ (l : List Int), Bx H b H' ∧ H' D = some (.lst (iq l)) ∧ (∀ x ∈ l, 0 ≤ x ∧ x < (m : Int)) ∧ l.length = i)
    ⟨[], ⟨SameX.of (same_new hD), g0, r0, by rw [upd_ne hDb.symm]; exact hb0⟩, upd_same, (fun x hx => by cases hx), rfl⟩ ?_ ?_
  · rintro i H' hi ⟨l, bx, e3, e4, e5⟩
    refine ⟨hw _, x_yt ?_⟩
    refine take_ bx.box (h0 _ _) (h1 _ _) (by omega) (by omega) fun x H2 bx2 x0 x1 => ⟨iq l, bx2.1 _ _ hDb e3, ?_, l ++ [x], (bx.more bx2).mut hD hDb.symm, ?_, ?_, ?_⟩
    · rw [List.length_map, e5]
      exact Nat.lt_of_le_of_lt (show i ≤ 1000 by omega) (by decide)
    · rw [upd_same]
      simp [iq]
    · intro y hy
      rcases List.mem_append.mp hy with h | h
      · exact e4 y h
      · rw [List.mem_singleton.mp h]
        exact ⟨x0, x1⟩
    · rw [List.length_append, e5]
      rfl
  · rintro H' ⟨l, bx, e3, e4, e5⟩
    exact q D l H' bx hD hDb.symm e3 (by omega) e4
theorem rep_zero {n : Nat} : (List.replicate n [V.int 0]).flatten = iq (List.replicate n 0) := by
  induction n with
  | zero => rfl
  | succ n ih => rw [List.replicate_succ, List.replicate_succ, List.flatten_cons, ih]; rfl
theorem eqv_nil {ls : List (List Int)} (h : ls ≠ []) : PyData.eqv (.list (ls.map dl)) (.list []) = false := by
  cases ls with
  | nil => exact absurd rfl h
  | cons x ls =>
    rw [PyData.eqv]
    show PyData.eqvAll (dl x :: ls.map dl) [] = false
    rw [PyData.eqvAll]
/-- the tables, or one of zeros -/
theorem tabs_or {K : PySem.W.Frag} {H0 H : Hp} {b T : Addr} {as : List Addr} {ls : List (List Int)} {s : Nat} {σ : L2.St} {Q : VK} (bx : Bx H0 b H) (TH : H0 T = none) (tab : TabAt H b T as ls s) (l5 : ls.length ≤ 5) (s1 : 1 ≤ s) (s3 : s ≤ 3) (h10 : σ[10]? = some (some (.ref T))) (h9 : σ[9]? = some (some (.int (s : Int))))
    (q : ∀ T' as' ls' H', Bx H0 b H' → H0 T' = none → TabAt H' b T' as' ls' s → ls' ≠ [] → ls'.length ≤ 5 → Q (.ref T') H') :
    (tIf (tTest (tOp (rNeD K) (tVar 10) (tLst tNil))) (tVar 10) (tLst (tCons (tOp rRep (tLst (tCons (tC (.int 0)) tNil)) (tVar 9)) tNil))) σ H Q := by
  refine ⟨_, h10, Nat.zero_le _, fun e0 he0 => ⟨.list (ls.map dl), .list [], .lst (SqL.of ((same_new he0) _ _ tab.top)) (dp_tab (tab.same (same_new he0)).row), .lst (SqL.of upd_same) .nil, shaped_dls _, rfl, _, rfl, ?_⟩⟩
  have bx1 := bx.grow (same_new he0 (o := .lst []))
  by_cases hne : ls = []
  · subst hne
    have : PyData.eqv (.list (([] : List (List Int)).map dl)) (.list []) = true := rfl
    rw [this]
    refine iteF ⟨by show 1 ≤ sizeLine; decide, fun z0 hz0 => ⟨_, h9, z0, _, _, rfl, rfl, upd_same, by omega, by omega, ?_, fun Z hZ => ⟨by show 1 ≤ sizeLine; decide, fun T' hT' => ?_⟩⟩⟩
    · show 1 * _ ≤ sizeLine
      exact Nat.le_trans (show 1 * ((s : Int)).toNat ≤ 100 by omega) (by decide)
    · rw [show ((s : Int)).toNat = s by omega, rep_zero] at hT' ⊢
      have bx2 := bx1.grow (same_new hz0 (o := .lst [.int 0]))
      have bx3 := bx2.grow (same_new hZ (o := .lst (iq (List.replicate s 0))))
      have bx4 := bx3.grow (same_new hT' (o := .lst [.ref Z]))
      obtain ⟨g, r, hb3⟩ := bx3.box
      obtain ⟨g2, r2, hb2⟩ := bx2.box
      have bT : b ≠ T' := fun z => by rw [← z, hb3] at hT'; cases hT'
      have bZ : b ≠ Z := fun z => by rw [← z, hb2] at hZ; cases hZ
      have TZ : T' ≠ Z := fun z => by rw [z, upd_same] at hT'; cases hT'
      refine q T' [Z] [List.replicate s 0] _ bx4 (bx3.1.free bT.symm hT') ⟨upd_same, .cons ((same_new hT') _ _ upd_same) .nil, bT, fun h => bZ (List.mem_singleton.mp h), fun h => TZ (List.mem_singleton.mp h), fun l hl => ?_⟩ (by simp) (by show 1 ≤ 5; omega)
      rw [List.mem_singleton.mp hl]
      refine ⟨List.length_replicate, fun x hx => ?_⟩
      rw [(List.mem_replicate.mp hx).2]
      omega
  · rw [eqv_nil hne]
    refine iteT ⟨_, h10, q T as ls _ bx1 TH (tab.same (same_new he0)) hne l5⟩
abbrev idl (s : Nat) : List Int := (List.range s).map fun i => ((i : Nat) : Int)
theorem idl_ok (s : Nat) : (idl s).length = s ∧ ∀ x ∈ idl s, 0 ≤ x ∧ x < (s : Int) := by
  refine ⟨by rw [List.length_map, List.length_range], fun x hx => ?_⟩
  obtain ⟨i, hi, rfl⟩ := List.mem_map.mp hx
  have := List.mem_range.mp hi
  omega
/-- the tables and the one that changes nothing -/
theorem tabs_ends {H : Hp} {b T : Addr} {as : List Addr} {ls : List (List Int)} {s : Nat} {σ : L2.St} {Q : VK} (hb : ∃ g r : Int, H b = some (.lst [.int g, .int r])) (tab : TabAt H b T as ls s) (l5 : ls.length ≤ 5) (s3 : s ≤ 3) (h10 : σ[10]? = some (some (.ref T))) (h9 : σ[9]? = some (some (.int (s : Int))))
    (q : ∀ E z H', Same H H' → TabAt H' b E (as ++ [z]) (ls ++ [idl s]) s → H E = none → H z = none → Q (.ref E) H') :
    (tOp rCat (tVar 10) (tLst (tCons (tLstRg (tRg1 (tVar 9))) tNil))) σ H Q := by
  refine ⟨_, h10, _, h9, _, rfl, ⟨by omega, by omega, by omega, by omega, by omega⟩, fun z hz => ⟨by show 1 ≤ sizeLine; decide, fun y hy => ⟨T, y, _, _, rfl, rfl, (same_new hy) _ _ ((same_new hz) _ _ tab.top), upd_same, ?_, fun E hE => ?_⟩⟩⟩
  · rw [List.length_map, plen tab.row]
    exact Nat.le_trans (show ls.length + 1 ≤ 100 by omega) (by decide)
  · obtain ⟨g, r, hb⟩ := hb
    have e1 := same_new hz (o := .lst (rgV 0 (s : Int)))
    have e2 := same_new hy (o := .lst [.ref z])
    have e3 := same_new hE (o := .lst (as.map V.ref ++ [.ref z]))
    have e := e1.trans (e2.trans e3)
    have zH := hz
    have EH : H E = none := (e1.trans e2).free hE
    have tab' := tab.same e
    have bE : b ≠ E := fun q => by rw [← q, hb] at EH; cases EH
    have bz : b ≠ z := fun q => by rw [← q, hb] at hz; cases hz
    have Ez : E ≠ z := fun q => by
      have := e2 _ _ (upd_same (H := H) (a := z) (o := .lst (rgV 0 (s : Int))))
      rw [q] at hE
      rw [hE] at this
      cases this
    have Eas : E ∉ as := fun h => by
      obtain ⟨k, hk⟩ := List.getElem?_of_mem h
      obtain ⟨l', _, h2⟩ := pgetL tab.row hk
      rw [EH] at h2
      cases h2
    refine q E z _ e ⟨by rw [List.map_append]; exact upd_same, psnoc tab'.row (by rw [← rg_iq]; exact (e2.trans e3) _ _ upd_same), bE, fun h => ?_, fun h => ?_, fun l hl => ?_⟩ EH zH
    · rcases List.mem_append.mp h with r | r
      · exact tab.ba r
      · exact bz (List.mem_singleton.mp r)
    · rcases List.mem_append.mp h with r | r
      · exact Eas r
      · exact Ez (List.mem_singleton.mp r)
    · rcases List.mem_append.mp hl with r | r
      · exact tab.ok l r
      · rw [List.mem_singleton.mp r]
        exact idl_ok s
/-- an entry of the table of two tables -/
theorem tabs_entry {K : PySem.W.Frag} {H : Hp} {b T E D : Addr} {as : List Addr} {ls : List (List Int)} {l : List Int} {z : Addr} {s n : Nat} {σ : L2.St} {Q : VK} (hb : ∃ g r : Int, H b = some (.lst [.int g, .int r])) (tabE : TabAt H b E (as ++ [z]) (ls ++ [idl s]) s) (hD : H D = some (.lst (iq l))) (hn : ls.length = n) (bD : b ≠ D)
    (h0 : σ[0]? = some (some (.ref b))) (h14 : σ[14]? = some (some (.ref D))) (h13 : σ[13]? = some (some (.ref E)))
    (q : ∀ (e : Option Int) H', Bx H b H' → (∀ i, e = some i → -1 ≤ i ∧ i < (n : Int)) → Q (eV e) H') :
    (tIf (tOr (tTest (tOp (rNotInD K) (tVar 14) (tVar 13))) (tTest (tOp rEq (tCall sp_law_take [] E0 (tCons (tVar 0) (tCons (tC (.int 9)) tNil))) (tC (.int 8))))) (tC .non)
      (tIf (tTest (tOp (rNeD K) (tVar 14) (tOp (rIxL K) (tVar 13) (tUn (rU fun i => .int (-i)) (tC (.int 1)))))) (tBM K "list" (rIndexD K) (tVar 13) (tCons (tVar 14) tNil)) (tOp (rI0 fun i j => .int (i - j)) (tC (.int 0)) (tC (.int 1))))) σ H Q := by
  have lst : ∀ {H' : Hp}, TabAt H' b E (as ++ [z]) (ls ++ [idl s]) s → Dp K H' (.ref E) (.list ((ls ++ [idl s]).map dl)) := fun t => .lst (SqL.of t.top) (dp_tab t.row)
  refine ⟨_, h14, _, h13, dl l, _, dp_dl hD, lst tabE, shaped_dl _, shaped_dls _, _, rfl, ?_⟩
  rw [any_dl]
  by_cases hin : l ∈ ls ++ [idl s]
  · rw [decide_eq_true hin]
    refine iteF (take_ hb (val_var h0) val_c (by omega) (by omega) fun f H2 bx2 f0 f1 => ⟨rfl, _, rfl, ?_⟩)
    have tab2 := tabE.bx bx2.1
    have hD2 := bx2.1 _ _ bD.symm hD
    by_cases h8 : f = 8
    · rw [h8]
      exact iteT (q none H2 bx2 fun i h => by cases h)
    · rw [decide_eq_false (fun z => h8 (by injection z))]
      have lenA : (as ++ [z]).length = n + 1 := by
        have := plen tabE.row
        rw [List.length_append, List.length_append, List.length_singleton, List.length_singleton] at this
        rw [List.length_append, List.length_singleton]
        omega
      have hlast : atI ((as ++ [z]).map V.ref) (-1) = some (.ref z) := by
        unfold atI ixN
        rw [if_neg (by decide), List.length_map, lenA, if_pos (by omega)]
        show ((as ++ [z]).map V.ref)[((-1 : Int) + ((n + 1 : Nat) : Int)).toNat]? = _
        have la : as.length = n := by rw [List.length_append, List.length_singleton] at lenA; omega
        rw [show ((-1 : Int) + ((n + 1 : Nat) : Int)).toNat = as.length by omega, List.getElem?_map, List.getElem?_append_right (Nat.le_refl _), Nat.sub_self]
        rfl
      have hz2 : H2 z = some (.lst (iq (idl s))) := by
        have la : as.length = ls.length := by
          have := plen tabE.row
          rw [List.length_append, List.length_append, List.length_singleton, List.length_singleton] at this
          omega
        obtain ⟨x, h1, h2⟩ := pget (i := ls.length) (y := idl s) tab2.row (by rw [List.getElem?_append_right (Nat.le_refl _), Nat.sub_self]; rfl)
        rw [← la, List.getElem?_append_right (Nat.le_refl _), Nat.sub_self] at h1
        have : z = x := Option.some.inj h1
        rw [this]
        exact h2
      refine iteF ⟨_, h14, val_ixL (val_var h13) (val_neg val_c) (SqL.of tab2.top) hlast _ ⟨dl l, dl (idl s), dp_dl hD2, dp_dl hz2, shaped_dl _, shaped_dl _, _, rfl, ?_⟩⟩
      rw [eqv_dl]
      by_cases hid : l = idl s
      · rw [decide_eq_true hid]
        refine iteF ⟨0, 1, rfl, rfl, ?_⟩
        exact q (some (-1)) H2 bx2 fun i h => by
          have : -1 = i := Option.some.inj h
          omega
      · rw [decide_eq_false hid]
        obtain ⟨j, j1, j2⟩ := first_ix hin
        have jn : j < n := by
          by_cases c : j < ls.length
          · omega
          · rw [List.getElem?_append_right (by omega)] at j1
            have : j - ls.length = 0 := by
              have := (List.getElem?_eq_some_iff.mp j1).1
              simp at this
              omega
            rw [this] at j1
            exact absurd (Option.some.inj j1).symm hid
        refine iteT ⟨_, h13, .inl ⟨rfl, _, SqL.of tab2.top⟩, _, h14, E, .ref D, dl l, _, j, dl l, rfl, rfl, lst tab2, dp_dl hD2, shaped_dls _, shaped_dl _, by rw [List.getElem?_map, j1]; rfl, by rw [eqv_dl]; exact decide_eq_true rfl, fun m z' hm hz' => ?_, ?_⟩
        · rw [List.getElem?_map] at hz'
          obtain ⟨y, hy1, hy2⟩ := Option.map_eq_some_iff.mp hz'
          rw [← hy2, eqv_dl]
          exact decide_eq_false (j2 m y hm hy1)
        · exact q (some (j : Int)) H2 bx2 fun i h => by
            have : (j : Int) = i := Option.some.inj h
            omega
  · rw [decide_eq_false hin]
    exact iteT (iteT (q none H ⟨SameX.refl _ _, hb⟩ fun i h => by cases h))
end
end FF
set_option maxHeartbeats 4000000
namespace FF
open PySem PySem.Spec PyProof.Rows L2
section
variable {P : Program} {w : World} {K : PySem.W.Frag} {mg : Str → Option Value} {base : Heap}
/-! ### _law_rows -/
abbrev scn_law_rows : Scope := { kind := .function, names := [(".0", .local), ("_law_row", .local), ("_law_many", .cell)], isGenerator := false, isCoroutine := false }
theorem ixN_nat {n k : Nat} (h : k < n) : ixN n (k : Int) = some k := by
  have h2 : ((k : Int)) < (n : Int) := by omega
  unfold ixN
  simp [h]
theorem mat_set {K : PySem.W.Frag} {H : Hp} {σ : L2.St} {tr tp tq : TE} {b a : Addr} {rs : List Addr} {M : Rws} {n p q : Nat} {hi e : Int} {Q : L2.St → Hp → Prop} (hM : Mat H b a rs M) (sz : Sz M n hi) (h1 : Val tr σ H (.ref a)) (h2 : Val tp σ H (.int (p : Int))) (h3 : Val tq σ H (.int (q : Int))) (hp : p < n) (hq : q < n) (e0 : -1 ≤ e) (e1 : e < hi)
    (k : ∀ H' M', (∀ x o, x ∉ rs → H x = some o → H' x = some o) → Mat H' b a rs M' → Sz M' n hi → Q σ H') : gSub (tOp (rIxL K) tr tp) tq rSetL (.int e) σ H Q := by
  have hpl : p < M.length := by rw [sz.len]; exact hp
  have hrow : M[p]? = some M[p] := List.getElem?_eq_getElem hpl
  obtain ⟨r, hr1, hr2⟩ := pget hM.rows.row hrow
  refine (val_ixL h1 h2 (SqL.of hM.rows.top) (atI_nat (by rw [List.getElem?_map, hr1]; rfl))) _ (h3 _ ⟨r, _, _, q, rfl, rfl, hr2, ixN_nat ?_, ?_⟩)
  · rw [List.length_map, sz.row _ (List.getElem_mem hpl)]
    exact hq
  · exact k _ _ (fun x o hx h => by rw [upd_ne (fun z => hx (by rw [z]; exact List.mem_of_getElem? hr1))]; exact h) (hM.put (j := q) (e := some e) hr1 hrow) (sz.put hrow e0 e1)
def sp_law_rows : Sp := fun vs H Q _ => ∃ (b : Addr) (t : Int), vs = [.ref b, .int t] ∧ (∃ g r : Int, H b = some (.lst [.int g, .int r])) ∧
  ∀ (H' : Hp) (a : Addr) (rs : List Addr) (M : Rws) (n : Nat), Bx H b H' → Mat H' b a rs M → Wf M n → Q (.ref a) H'
theorem ok_law_rows (T : Txt K mg) : FnOk P w K mg base CX0 2 (He.ga K "_law_rows") T.fd_law_rows ["_law_box_here", "_law_turn"] sp_law_rows := by
  refine T.F_law_rows.ok sc_law_rows (fun vs H Q E h => ?_) (fun cdv A outer s H vs Q E hr h => ?_)
  · obtain ⟨_, _, rfl, _⟩ := h; rfl
  · obtain ⟨b, t, rfl, hb, k⟩ := h
    refine ⟨_, PSs.nox ((pss_cons (ps_set (i := 2) sc_law_rows.nd rfl (Or.inl rfl) (pe_call (ok_law_take T) (hr.mono (by decide)) rfl T.m_law_take T.F_law_take.kp (bi_law_take T) .nil pass0 (pa_cons (pv 0) (pa_cons pe_int pa_nil))))
        (pss_cons (ps_if (PW.pt (pw_and (pt_cmpR op_eq (pv 2) pe_int (nomark _)) (pw_and1 (pt_cmpR op_eq (pv 1) pe_int (nomark _)))))
          (pss_cons (ps_setLc (i := 3) (own := [("_law_one", 4)]) rfl sc_law_rows.nd rfl rfl (sw_true rfl rfl rfl (by decide +kernel)) (pi_range1 (by rfl) T.z_range (pa_cons pe_int pa_nil)) (blkOk_by (N := ["_law_box_here", "_law_turn", "_law_way", "_law_rows_here", "_law_one", "_law_other", "_law_end_here", "_law_many", "_law_row", "_law_states", "_law_tables", "_law_table", "_law_state", "_law_ends", "_law_done"]) (sc := defScope s_law_rows) (own := [("_law_one", 4)]) (by decide +kernel)) (fun _ _ _ _ _ => (pg_name (i := 4) sc_law_rows.nd rfl (Or.inl rfl))) (fun _ _ _ _ _ => pts_nil) (fun _ _ _ _ _ => (pe_op op_rep (pe_lst (pa_cons pe_non pa_nil)) pe_int)))
          (pss_cons (ps_for PassesOwn.never rfl (piT (K := K) rfl (pe_tup (pa_cons (pe_tup (pa_cons pe_int (pa_cons pe_int (pa_cons pe_int pa_nil)))) (pa_cons (pe_tup (pa_cons pe_int (pa_cons pe_int (pa_cons pe_int pa_nil)))) (pa_cons (pe_tup (pa_cons pe_int (pa_cons pe_int (pa_cons (pe_call (ok_law_take T) (hr.mono (by decide)) rfl T.m_law_take T.F_law_take.kp (bi_law_take T) .nil pass0 (pa_cons (pv 0) (pa_cons pe_int pa_nil))) pa_nil)))) pa_nil))))) (pgT (K := K) (n := 3) rfl rfl (pgs_cons (pg_name (i := 4) sc_law_rows.nd rfl (Or.inl rfl)) (pgs_cons (pg_name (i := 5) sc_law_rows.nd rfl (Or.inr rfl)) (pgs_cons (pg_name (i := 6) sc_law_rows.nd rfl (Or.inl rfl)) pgs_nil))))
            (pss_one (ps_asg (pv 6) (pg_sub (pe_ix (ixL (K := K) rfl) (pv 3) (pv 4) (fun _ _ => rfl)) (pv 5) set_list))))
          (pss_one (ps_ret (pv 3)))))
          pss_nil)
        (pss_cons (ps_if (pt_cmpR op_gt (pv 2) pe_int (nomark _))
          (pss_cons (ps_set (i := 7) sc_law_rows.nd rfl (Or.inr rfl) (pe_op op_add pe_int (pe_call (ok_law_take T) (hr.mono (by decide)) rfl T.m_law_take T.F_law_take.kp (bi_law_take T) .nil pass0 (pa_cons (pv 0) (pa_cons pe_int pa_nil)))))
          (pss_cons (ps_setLc (i := 3) (own := [("_law_one", 4)]) rfl sc_law_rows.nd rfl rfl (sw_true rfl rfl rfl (by decide +kernel)) (pi_range1 (by rfl) T.z_range (pa_cons (pv 7) pa_nil)) (blkOk_by (N := ["_law_box_here", "_law_turn", "_law_way", "_law_rows_here", "_law_one", "_law_other", "_law_end_here", "_law_many", "_law_row", "_law_states", "_law_tables", "_law_table", "_law_state", "_law_ends", "_law_done"]) (sc := defScope s_law_rows) (own := [("_law_one", 4)]) (by decide +kernel)) (fun _ _ _ _ _ => (pg_name (i := 4) sc_law_rows.nd rfl (Or.inl rfl))) (fun _ _ _ _ _ => pts_nil) (fun _ _ _ _ _ => (pe_op op_rep (pe_lst (pa_cons pe_non pa_nil)) (pv 7))))
          (pss_cons (ps_for PassesOwn.never rfl (pi_range1 (by rfl) T.z_range (pa_cons (pe_op op_add pe_int (pe_call (ok_law_take T) (hr.mono (by decide)) rfl T.m_law_take T.F_law_take.kp (bi_law_take T) .nil pass0 (pa_cons (pv 0) (pa_cons pe_int pa_nil)))) pa_nil)) (pg_name (i := 1) sc_law_rows.nd rfl (Or.inl rfl))
            (pss_one (ps_asg (pe_op op_sub (pe_call (ok_law_take T) (hr.mono (by decide)) rfl T.m_law_take T.F_law_take.kp (bi_law_take T) .nil pass0 (pa_cons (pv 0) (pa_cons (pe_op op_add (pv 7) pe_int) pa_nil))) (pe_ifExp (pt_cmpR op_eq (pe_call (ok_law_take T) (hr.mono (by decide)) rfl T.m_law_take T.F_law_take.kp (bi_law_take T) .nil pass0 (pa_cons (pv 0) (pa_cons pe_int pa_nil))) pe_int (nomark _)) pe_int pe_int)) (pg_sub (pe_ix (ixL (K := K) rfl) (pv 3) (pe_call (ok_law_take T) (hr.mono (by decide)) rfl T.m_law_take T.F_law_take.kp (bi_law_take T) .nil pass0 (pa_cons (pv 0) (pa_cons (pv 7) pa_nil))) (fun _ _ => rfl)) (pe_call (ok_law_take T) (hr.mono (by decide)) rfl T.m_law_take T.F_law_take.kp (bi_law_take T) .nil pass0 (pa_cons (pv 0) (pa_cons (pv 7) pa_nil))) set_list))))
          (pss_one (ps_ret (pe_lc (own := [("_law_row", 8)]) rfl sc_law_rows.nd (piL (K := K) rfl (pv 3)) (blkOk_by (N := ["_law_box_here", "_law_turn", "_law_way", "_law_rows_here", "_law_one", "_law_other", "_law_end_here", "_law_many", "_law_row", "_law_states", "_law_tables", "_law_table", "_law_state", "_law_ends", "_law_done"]) (sc := defScope s_law_rows) (own := [("_law_row", 8)]) (by decide +kernel)) (fun _ _ _ _ _ => (pg_name (i := 8) sc_law_rows.nd rfl (Or.inl rfl))) (fun _ _ _ _ _ => pts_nil) (fun _ _ _ _ _ => (pe_lc (own := [("_law_end_here", 6)]) rfl sc_law_rows.nd (piL (K := K) rfl (pv 8)) (blkOk_by (N := ["_law_box_here", "_law_turn", "_law_way", "_law_rows_here", "_law_one", "_law_other", "_law_end_here", "_law_many", "_law_row", "_law_states", "_law_tables", "_law_table", "_law_state", "_law_ends", "_law_done"]) (sc := scn_law_rows) (own := [("_law_end_here", 6)]) (by decide +kernel)) (fun _ _ _ _ _ => (pg_name (i := 6) sc_law_rows.nd rfl (Or.inl rfl))) (fun _ _ _ _ _ => pts_nil) (fun _ _ _ _ _ => (pe_ifExp (PW.pt (pw_or (pt_cmpR op_isN (pv 6) pe_non (nomark _)) (pw_or1 (pt_cmpR op_lt (pv 6) (pv 7) (nomark _))))) (pv 6) pe_non))))))))))
          pss_nil)
        (pss_cons (ps_asg (pe_tup (pa_cons (pe_op op_add pe_int (pe_call (ok_law_take T) (hr.mono (by decide)) rfl T.m_law_take T.F_law_take.kp (bi_law_take T) .nil pass0 (pa_cons (pv 0) (pa_cons pe_int pa_nil)))) (pa_cons (pe_lst pa_nil) pa_nil))) (pgT (K := K) (n := 2) rfl rfl (pgs_cons (pg_name (i := 9) sc_law_rows.nd rfl (Or.inr rfl)) (pgs_cons (pg_name (i := 10) sc_law_rows.nd rfl (Or.inl rfl)) pgs_nil))))
        (pss_cons (ps_for PassesOwn.never rfl (pi_range1 (by rfl) T.z_range (pa_cons (pe_op op_add pe_int (pe_call (ok_law_take T) (hr.mono (by decide)) rfl T.m_law_take T.F_law_take.kp (bi_law_take T) .nil pass0 (pa_cons (pv 0) (pa_cons pe_int pa_nil)))) pa_nil)) (pg_name (i := 1) sc_law_rows.nd rfl (Or.inl rfl))
          (pss_cons (ps_setLc (i := 11) (own := [("_law_state", 12)]) rfl sc_law_rows.nd rfl rfl (sw_true rfl rfl rfl (by decide +kernel)) (pi_range1 (by rfl) T.z_range (pa_cons (pv 9) pa_nil)) (blkOk_by (N := ["_law_box_here", "_law_turn", "_law_way", "_law_rows_here", "_law_one", "_law_other", "_law_end_here", "_law_many", "_law_row", "_law_states", "_law_tables", "_law_table", "_law_state", "_law_ends", "_law_done"]) (sc := defScope s_law_rows) (own := [("_law_state", 12)]) (by decide +kernel)) (fun _ _ _ _ _ => (pg_name (i := 12) sc_law_rows.nd rfl (Or.inl rfl))) (fun _ _ _ _ _ => pts_nil) (fun _ _ _ _ _ => (pe_call (ok_law_take T) (hr.mono (by decide)) rfl T.m_law_take T.F_law_take.kp (bi_law_take T) .nil pass0 (pa_cons (pv 0) (pa_cons (pv 9) pa_nil)))))
          (pss_one (ps_if (PW.pt (pw_and (pt_cmpR (ninQ (K := K) rfl (u65 hr)) (pv 11) (pv 10) rfl) (pw_and1 (pt_cmpR (neQ (K := K) rfl hr.units) (pv 11) (pe_listRg rfl (by rfl) T.z_list (prg_1 (by rfl) T.z_range (pv 9))) (nomark _)))))
            (pss_one (ps_expr (pe_bm PySem.F.plainAttrs_list PySem.F.slot_list_append PySem.F.type_list_append mt_append (pv 10) (pa_cons (pv 11) pa_nil))))
            pss_nil))))
        (pss_cons (ps_set (i := 10) sc_law_rows.nd rfl (Or.inl rfl) (pe_ifExp (pt_cmpR (neQ (K := K) rfl hr.units) (pv 10) (pe_lst pa_nil) (nomark _)) (pv 10) (pe_lst (pa_cons (pe_op op_rep (pe_lst (pa_cons pe_int pa_nil)) (pv 9)) pa_nil))))
        (pss_cons (ps_set (i := 13) sc_law_rows.nd rfl (Or.inl rfl) (pe_op op_cat (pv 10) (pe_lst (pa_cons (pe_listRg rfl (by rfl) T.z_list (prg_1 (by rfl) T.z_range (pv 9))) pa_nil))))
        (pss_cons (ps_set (i := 3) sc_law_rows.nd rfl (Or.inl rfl) (pe_lst pa_nil))
        (pss_cons (ps_for PassesOwn.never rfl (piL (K := K) rfl (pv 10)) (pg_name (i := 4) sc_law_rows.nd rfl (Or.inl rfl))
          (pss_cons (ps_set (i := 8) sc_law_rows.nd rfl (Or.inl rfl) (pe_lst pa_nil))
          (pss_cons (ps_for PassesOwn.never rfl (piL (K := K) rfl (pv 10)) (pg_name (i := 5) sc_law_rows.nd rfl (Or.inr rfl))
            (pss_cons (ps_setLc (i := 14) (own := [("_law_state", 12)]) rfl sc_law_rows.nd rfl rfl (sw_true rfl rfl rfl (by decide +kernel)) (piL (K := K) rfl (pv 4)) (blkOk_by (N := ["_law_box_here", "_law_turn", "_law_way", "_law_rows_here", "_law_one", "_law_other", "_law_end_here", "_law_many", "_law_row", "_law_states", "_law_tables", "_law_table", "_law_state", "_law_ends", "_law_done"]) (sc := defScope s_law_rows) (own := [("_law_state", 12)]) (by decide +kernel)) (fun _ _ _ _ _ => (pg_name (i := 12) sc_law_rows.nd rfl (Or.inl rfl))) (fun _ _ _ _ _ => pts_nil) (fun _ _ _ _ _ => (pe_ix (ixL (K := K) rfl) (pv 5) (pv 12) (fun _ _ => rfl))))
            (pss_one (ps_expr (pe_bm PySem.F.plainAttrs_list PySem.F.slot_list_append PySem.F.type_list_append mt_append (pv 8) (pa_cons (pe_ifExp (PW.pt (pw_or (pt_cmpR (ninQ (K := K) rfl (u65 hr)) (pv 14) (pv 13) rfl) (pw_or1 (pt_cmpR op_eq (pe_call (ok_law_take T) (hr.mono (by decide)) rfl T.m_law_take T.F_law_take.kp (bi_law_take T) .nil pass0 (pa_cons (pv 0) (pa_cons pe_int pa_nil))) pe_int (nomark _))))) pe_non (pe_ifExp (pt_cmpR (neQ (K := K) rfl hr.units) (pv 14) (pe_ix (ixL (K := K) rfl) (pv 13) (pe_un un_neg pe_int) (fun _ _ => rfl)) (nomark _)) (pe_bm PySem.F.plainAttrs_list PySem.F.slot_list_index PySem.F.type_list_index (indexQ (K := K) rfl (u65 hr)) (pv 13) (pa_cons (pv 14) pa_nil)) (pe_op op_sub pe_int pe_int))) pa_nil))))))
          (pss_one (ps_expr (pe_bm PySem.F.plainAttrs_list PySem.F.slot_list_append PySem.F.type_list_append mt_append (pv 3) (pa_cons (pv 8) pa_nil)))))))
        (pss_one (ps_ret (pv 3))))))))))))), ?_⟩
    refine st_seq (x_set (take_ hb (val_var rfl) val_c (by omega) (by omega) fun way H1 bx1 w0 w1 => ?_))
    dsimp only
    refine st_seq ?_
    refine st_if (b := decide (way = 5) && decide (t = 0)) (ans_and' (a_eq (val_var rfl) val_c rfl (by by_cases h : way = 5 <;> simp [h])) fun _ => a_eq (val_var rfl) val_c rfl (by by_cases h : t = 0 <;> simp [h])) (fun _ => ?_) (fun _ => st_next ?_)
    · -- a written one
      refine st_seq (x_set (lc_nR (n := 6) (fun _ => .lst ((List.replicate 6 (none : Option Int)).map eV)) (va_cons val_c va_nil) (by omega) (by omega) (by intro _; rfl) (fun i H' _ _ => evn_row (n := 6) (fun _ _ => val_c) (by omega)) fun L ts H2 hL => ?_))
      dsimp only
      have M0 := mat_of (n := 6) hL bx1.box
      have bx2 := bx1.grow hL.same
      refine st_seq (x_forT ⟨by show 3 ≤ sizeLine; decide, fun t1 ht1 => ⟨by show 3 ≤ sizeLine; decide, fun t2 ht2 => ?_⟩⟩)
      have bx3 : Bx H b (upd (upd H2 t1 (.tup [.int 0, .int 1, .int 4])) t2 (.tup [.int 1, .int 2, .int 5])) := (bx2.grow (same_new ht1)).grow (same_new ht2)
      refine take_ bx3.box (val_var rfl) val_c (by omega) (by omega) fun d H4 bx4 d0 d1 => ?_
      refine ⟨by show 3 ≤ sizeLine; decide, fun t3 ht3 => ⟨by show 3 ≤ sizeLine; decide, fun t4 ht4 => ⟨t4, rfl, ⟨_, SqT.of upd_same⟩, ?_⟩⟩⟩
      have e43 : ∀ x o, x ≠ b → (upd (upd H2 t1 (.tup [.int 0, .int 1, .int 4])) t2 (.tup [.int 1, .int 2, .int 5])) x = some o → H4 x = some o := fun x o hx h => bx4.1 x o hx h
      obtain ⟨g3, r3, hb3⟩ := bx3.box
      have tb : ∀ {x : Addr} {xs : List V}, (upd (upd H2 t1 (.tup [.int 0, .int 1, .int 4])) t2 (.tup [.int 1, .int 2, .int 5])) x = some (.tup xs) → x ≠ b := fun h z => by rw [z, hb3] at h; cases h
      have k1 : (upd (upd H2 t1 (.tup [.int 0, .int 1, .int 4])) t2 (.tup [.int 1, .int 2, .int 5])) t1 = some (.tup [.int 0, .int 1, .int 4]) := (same_new ht2) _ _ upd_same
      have k2 : (upd (upd H2 t1 (.tup [.int 0, .int 1, .int 4])) t2 (.tup [.int 1, .int 2, .int 5])) t2 = some (.tup [.int 1, .int 2, .int 5]) := upd_same
      have e6 : Same H4 (upd (upd H4 t3 (.tup [.int 5, .int 3, .int d])) t4 (.tup [.ref t1, .ref t2, .ref t3])) := (same_new ht3).trans (same_new ht4)
      have M4 : Mat (upd (upd H4 t3 (.tup [.int 5, .int 3, .int d])) t4 (.tup [.ref t1, .ref t2, .ref t3])) b L ts (blank 6) := (((M0.same (same_new ht1)).same (same_new ht2)).bx bx4.1).same e6
      have bx6 : Bx H b (upd (upd H4 t3 (.tup [.int 5, .int 3, .int d])) t4 (.tup [.ref t1, .ref t2, .ref t3])) := (bx3.more bx4).grow e6
      have q1 := e6 _ _ (e43 _ _ (tb k1) k1)
      have q2 := e6 _ _ (e43 _ _ (tb k2) k2)
      have q3 : (upd (upd H4 t3 (.tup [.int 5, .int 3, .int d])) t4 (.tup [.ref t1, .ref t2, .ref t3])) t3 = some (.tup [.int 5, .int 3, .int d]) := (same_new ht4) _ _ upd_same
      have q4 : (upd (upd H4 t3 (.tup [.int 5, .int 3, .int d])) t4 (.tup [.ref t1, .ref t2, .ref t3])) t4 = some (.tup [.ref t1, .ref t2, .ref t3]) := upd_same
      generalize (upd (upd H4 t3 (.tup [.int 5, .int 3, .int d])) t4 (.tup [.ref t1, .ref t2, .ref t3])) = H6 at M4 bx6 q1 q2 q3 q4 ⊢
      have LH : H L = none := by
        cases z : H L with
        | none => rfl
        | some o =>
          have h1 := bx1.1 L o M0.ba.symm z
          rw [hL.dl] at h1
          cases h1
      have tsH : ∀ r ∈ ts, H r = none := fun r hr => by
        cases z : H r with
        | none => rfl
        | some o =>
          have h1 := bx1.1 r o (fun z => M0.br (z ▸ hr)) z
          rw [(hL.new r hr).1] at h1
          cases h1
      -- what the loop keeps
      have loopS : ∀ {H' H'' : Hp}, (∃ g r : Int, H' b = some (.lst [.int g, .int r])) → Bx H b H' → (∀ x o, x ∉ ts → H' x = some o → H'' x = some o) → Bx H b H'' := fun hb' bx e => ⟨fun x o hx h => e x o (fun z => by rw [tsH x z] at h; cases h) (bx.1 x o hx h), let ⟨g, r, h⟩ := hb'; ⟨g, r, e b _ M0.br h⟩⟩
      have tup : ∀ {H' : Hp} {M : Rws} {x : Addr} {xs : List V}, Mat H' b L ts M → H' x = some (.tup xs) → x ∉ ts := fun hM h z => by
        obtain ⟨i, hi⟩ := List.getElem?_of_mem z
        obtain ⟨row, _, h2⟩ := pgetL hM.rows.row hi
        rw [h] at h2
        cases h2
      refine for_tup (xs := [.ref t1, .ref t2, .ref t3]) (fun i σ' H' => ∃ x4 x5 x6 M, σ' = [some (V.ref b), some (.int t), some (.int way), some (.ref L), x4, x5, x6, none, none, none, none, none, none, none, none] ∧ Bx H b H' ∧ Mat H' b L ts M ∧ Sz M 6 6 ∧ H' t1 = some (.tup [.int 0, .int 1, .int 4]) ∧ H' t2 = some (.tup [.int 1, .int 2, .int 5]) ∧ H' t3 = some (.tup [.int 5, .int 3, .int d]) ∧ H' t4 = some (.tup [.ref t1, .ref t2, .ref t3]))
        ⟨_, _, _, _, rfl, bx6, M4, sz_blank 6 6, q1, q2, q3, q4⟩ (fun i σ' H' _ ⟨_, _, _, _, _, _, _, _, _, _, _, h⟩ => SqT.of h) ?_ ?_
      · rintro i x σ' H7 hi ⟨x4, x5, x6, M, rfl, bx7, M7, sz7, r1, r2, r3, r4⟩
        have one : ∃ (u : Addr) (p q : Nat) (e : Int), x = .ref u ∧ H7 u = some (.tup [.int (p : Int), .int (q : Int), .int e]) ∧ p < 6 ∧ q < 6 ∧ -1 ≤ e ∧ e < 6 := by
          match i, hi with
          | 0, hi => exact ⟨t1, 0, 1, 4, (Option.some.inj hi).symm, r1, by omega, by omega, by omega, by omega⟩
          | 1, hi => exact ⟨t2, 1, 2, 5, (Option.some.inj hi).symm, r2, by omega, by omega, by omega, by omega⟩
          | 2, hi => exact ⟨t3, 5, 3, d, (Option.some.inj hi).symm, r3, by omega, by omega, by omega, by omega⟩
          | i + 3, hi => simp at hi
        obtain ⟨u, p, q, e, rfl, hu, hp, hq, e0, e1⟩ := one
        refine ⟨u, _, rfl, SqT.of hu, rfl, _, _, rfl, _, _, rfl, _, _, rfl, rfl, ?_⟩
        refine ⟨_, rfl, mat_set M7 sz7 (val_var rfl) (val_var rfl) (val_var rfl) hp hq e0 e1 fun H8 M8 e8 hM8 sz8 => ?_⟩
        exact ⟨_, _, _, M8, rfl, loopS bx7.box bx7 e8, hM8, sz8, e8 _ _ (tup M7 r1) r1, e8 _ _ (tup M7 r2) r2, e8 _ _ (tup M7 r3) r3, e8 _ _ (tup M7 r4) r4⟩
      · rintro σ' H7 ⟨x4, x5, x6, M, rfl, bx7, M7, sz7, _⟩
        dsimp only
        refine st_ret (val_var rfl) ?_
        exact k H7 L ts M 6 bx7 M7 (sz7.wf (by omega) (by omega))
    dsimp only
    refine st_seq (st_if (b := decide (way > 2)) (a_bi (val_var rfl) val_c rfl) (fun _ => ?_) (fun _ => st_next ?_))
    · -- entries at random
      refine st_seq (x_set (x_op ?_))
      refine take_ bx1.box (val_var rfl) val_c (by omega) (by omega) fun d H2 bx2 d0 d1 => ⟨3, d, rfl, rfl, ?_⟩
      dsimp only
      obtain ⟨n, hn⟩ : ∃ n : Nat, (n : Int) = 3 + d := ⟨(3 + d).toNat, by omega⟩
      rw [← hn]
      have bx02 := bx1.more bx2
      refine st_seq (x_set (lc_nR (n := (n : Int)) (fun _ => .lst ((List.replicate n (none : Option Int)).map eV)) (va_cons (val_var rfl) va_nil) (by omega) (by omega) (by intro _; rfl) (fun i H' _ _ => evn_row (n := n) (fun _ _ => val_var rfl) (by omega)) fun L ts H3 hL => ?_))
      dsimp only
      rw [show (n : Int).toNat = n by omega] at hL
      have M0 := mat_of (n := n) hL bx02.box
      have bx3 := bx02.grow hL.same
      have LH : H L = none := by
        cases z : H L with
        | none => rfl
        | some o =>
          have h1 := bx02.1 L o M0.ba.symm z
          rw [hL.dl] at h1
          cases h1
      have tsH : ∀ r ∈ ts, H r = none := fun r hr => by
        cases z : H r with
        | none => rfl
        | some o =>
          have h1 := bx02.1 r o (fun z => M0.br (z ▸ hr)) z
          rw [(hL.new r hr).1] at h1
          cases h1
      have loopS : ∀ {H' H'' : Hp}, Bx H b H' → (∀ x o, x ∉ ts → H' x = some o → H'' x = some o) → Bx H b H'' := fun bx e => ⟨fun x o hx h => e x o (fun z => by rw [tsH x z] at h; cases h) (bx.1 x o hx h), let ⟨g, r, h⟩ := bx.box; ⟨g, r, e b _ M0.br h⟩⟩
      refine st_seq (x_forR1 (x_op ?_))
      refine take_ bx3.box (val_var rfl) val_c (by omega) (by omega) fun c H4 bx4 c0 c1 => ⟨2, c, rfl, rfl, ?_⟩
      refine ⟨_, rfl, by omega, by omega, ?_⟩
      refine for_range (lo := 0) (n := (2 + c).toNat) (fun i σ' H' => ∃ x1 x4 x5 x6 M, σ' = [some (V.ref b), x1, some (.int way), some (.ref L), x4, x5, x6, some (.int (n : Int)), none, none, none, none, none, none, none] ∧ Bx H b H' ∧ Mat H' b L ts M ∧ Sz M n (n + 1))
        ⟨_, _, _, _, _, rfl, bx3.more bx4, M0.bx bx4.1, sz_blank n _⟩ ?_ ?_
      · rintro i σ' H5 hi ⟨x1, x4, x5, x6, M, rfl, bx5, M5, sz5⟩
        refine x_op ?_
        refine take_ bx5.box (val_var rfl) (val_add (val_var rfl) val_c) (by omega) (by omega) fun e H6 bx6 e0 e1 => ?_
        have test : ∀ Q : VK, (∀ (u : Int) H', Bx H6 b H' → (u = 0 ∨ u = 1) → Q (.int u) H') → (tIf (tTest (tOp rEq (tCall sp_law_take [] E0 (tCons (tVar 0) (tCons (tC (.int 4)) tNil))) (tC (.int 0)))) (tC (.int 1)) (tC (.int 0))) ([some (V.ref b), x1, some (.int way), some (.ref L), x4, x5, x6, some (.int (n : Int)), none, none, none, none, none, none, none].set 1 (some (.int (0 + (i : Int))))) H6 Q := fun Q hQ =>
          take_ bx6.box (val_var rfl) val_c (by omega) (by omega) fun f H7 bx7 f0 f1 => ⟨rfl, _, rfl, by
            by_cases h : f = 0
            · rw [h]; exact iteT (hQ 1 H7 bx7 (.inr rfl))
            · rw [decide_eq_false (fun z => h (by injection z))]; exact iteF (hQ 0 H7 bx7 (.inl rfl))⟩
        refine test _ fun u H7 bx7 hu => ⟨_, _, rfl, rfl, ?_⟩
        have M7 := (M5.bx bx6.1).bx bx7.1
        have bx07 := (bx5.more bx6).more bx7
        -- rows[take][take] = value
        refine ⟨_, rfl, ?_⟩
        refine take_ bx07.box (val_var rfl) (val_var rfl) (by omega) (by omega) fun p H8 bx8 p0 p1 => ?_
        obtain ⟨p, rfl⟩ : ∃ p' : Nat, p = p' := ⟨p.toNat, by omega⟩
        have M8 := M7.bx bx8.1
        have hpl : p < M.length := by rw [sz5.len]; omega
        have hrow : M[p]? = some M[p] := List.getElem?_eq_getElem hpl
        obtain ⟨r, hr1, hr2⟩ := pget M8.rows.row hrow
        refine ⟨L, _, _, _, rfl, rfl, SqL.of M8.rows.top, atI_nat (by rw [List.getElem?_map, hr1]; rfl), ?_⟩
        refine take_ (bx07.more bx8).box (val_var rfl) (val_var rfl) (by omega) (by omega) fun q H9 bx9 q0 q1 => ?_
        obtain ⟨q, rfl⟩ : ∃ q' : Nat, q = q' := ⟨q.toNat, by omega⟩
        have M9 := M8.bx bx9.1
        have hr9 : H9 r = some (.lst (M[p].map eV)) := bx9.1 _ _ (fun z => M0.br (z ▸ List.mem_of_getElem? hr1)) hr2
        refine ⟨r, _, _, q, rfl, rfl, hr9, ixN_nat (by rw [List.length_map, sz5.row _ (List.getElem_mem hpl)]; omega), ?_⟩
        refine ⟨_, _, _, _, _, rfl, loopS ((bx07.more bx8).more bx9) (fun x o hx h => by rw [upd_ne (fun z => hx (by rw [z]; exact List.mem_of_getElem? hr1))]; exact h), M9.put (j := q) (e := some (e - u)) hr1 hrow, sz5.put hrow (by omega) (by omega)⟩
      · rintro σ' H5 ⟨x1, x4, x5, x6, M, rfl, bx5, M5, sz5⟩
        dsimp only
        -- what is too great becomes None
        let cutE : Option Int → Option Int := fun e => match e with
          | none => none
          | some i => if i < (n : Int) then some i else none
        have hrl : (ts.map V.ref).length = n := by rw [List.length_map, plen M5.rows.row, sz5.len]
        refine x_ret (lc_nL (xs := ts.map V.ref) (fun i => .lst (((M.getD i []).map cutE).map eV)) (val_var rfl) (SqL.of M5.rows.top) (by omega) (by intro _; rfl) (fun i x H' hi e => ?_) fun L2 ts2 H6 l6 => ?_)
        · rw [List.getElem?_map] at hi
          obtain ⟨r, hr1, hr2⟩ := Option.map_eq_some_iff.mp hi
          subst hr2
          obtain ⟨row, hM, hr⟩ := pgetL M5.rows.row hr1
          have hrow : M.getD i [] = row := by rw [List.getD_eq_getElem?_getD, hM]; rfl
          have hr' := e _ _ hr
          rw [hrow]
          intro Q q
          refine lc_L (xs := row.map eV) (fun j => eV (cutE (row.getD j none))) (val_var rfl) (SqL.of hr') (by rw [List.length_map, sz5.row _ (List.mem_of_getElem? hM)]; omega) (by intro _; rfl) (fun j x H2 hj e2 => ?_) fun D H2 h1 h2 h3 => ?_
          · rw [List.getElem?_map] at hj
            obtain ⟨z, hz1, hz2⟩ := Option.map_eq_some_iff.mp hj
            subst hz2
            have hz : row.getD j none = z := by rw [List.getD_eq_getElem?_getD, hz1]; rfl
            rw [hz]
            refine evs_of ?_
            cases z with
            | none => exact val_ifT (ans_or1 (a_isN (val_var rfl) rfl)) (val_var rfl)
            | some y =>
              by_cases hy : y < (n : Int)
              · have : cutE (some y) = some y := if_pos hy
                rw [this]
                exact val_ifT (ans_or (a_isN (val_var rfl) rfl) (a_bi (val_var rfl) (val_var rfl) (decide_eq_true hy))) (val_var rfl)
              · have : cutE (some y) = none := if_neg hy
                rw [this]
                exact val_ifF (ans_or (a_isN (val_var rfl) rfl) (a_bi (val_var rfl) (val_var rfl) (decide_eq_false hy))) val_c
          · refine q D H2 h1 h2 ?_
            rw [h3, List.length_map]
            congr 2
            refine upto_eq (by rw [List.length_map, List.length_map]) fun j y hj => ?_
            rw [List.getElem?_map, List.getElem?_map] at hj
            cases hz : row[j]? with
            | none => rw [hz] at hj; cases hj
            | some z =>
              rw [hz] at hj
              rw [List.getD_eq_getElem?_getD, hz]
              exact Option.some.inj hj
        · rw [hrl] at l6
          obtain ⟨g, r, hb5⟩ := bx5.box
          refine k H6 L2 ts2 (M.map fun row => row.map cutE) n (bx5.grow l6.same) ⟨⟨l6.lst, ?_⟩, l6.nd, (fun z => (l6.new L2 z).2 rfl), (fun z => by rw [z, l6.dl] at hb5; cases hb5), (fun z => by have := (l6.new b z).1; rw [hb5] at this; cases this)⟩ ⟨by rw [List.length_map]; exact sz5.len, fun row hr => ?_, fun row hr i hi => ?_, by omega, by omega⟩
          · refine paired_of (by rw [l6.len, List.length_map, sz5.len]) fun i t row h1 h2 => ?_
            have h3 := l6.obj i t h1
            rw [List.getElem?_map] at h2
            obtain ⟨row', h4, h5⟩ := Option.map_eq_some_iff.mp h2
            rw [← h5]
            have : M.getD i [] = row' := by rw [List.getD_eq_getElem?_getD, h4]; rfl
            rw [this] at h3
            exact h3
          · obtain ⟨row', h1, rfl⟩ := List.mem_map.mp hr
            rw [List.length_map]
            exact sz5.row _ h1
          · obtain ⟨row', h1, rfl⟩ := List.mem_map.mp hr
            obtain ⟨e, h2, h3⟩ := List.mem_map.mp hi
            cases e with
            | none => cases h3
            | some y =>
              have h3 : (if y < (n : Int) then some y else none) = some i := h3
              by_cases hy : y < (n : Int)
              · rw [if_pos hy] at h3
                cases h3
                exact ⟨(sz5.ent _ h1 _ h2).1, hy⟩
              · rw [if_neg hy] at h3
                cases h3
    dsimp only
    -- tables of states
    refine st_seq (x_asg (x_tup2 (x_op ?_)))
    refine take_ bx1.box (val_var rfl) val_c (by omega) (by omega) fun d H2 bx2 d0 d1 => ⟨2, d, rfl, rfl, Nat.zero_le _, fun T0 hT0 => ⟨by show 2 ≤ sizeLine; decide, fun u hu => ?_⟩⟩
    refine ⟨u, _, rfl, SqT.of upd_same, rfl, _, _, rfl, _, _, rfl, rfl, ?_⟩
    obtain ⟨s, hs⟩ : ∃ s : Nat, (s : Int) = 2 + d := ⟨(2 + d).toNat, by omega⟩
    dsimp only
    rw [← hs]
    have s2 : s ≤ 3 := by omega
    have bx02 := bx1.more bx2
    have bT0 : b ≠ T0 := fun z => by
      obtain ⟨g, r, h⟩ := bx02.box
      rw [← z, h] at hT0
      cases hT0
    have nuT : T0 ≠ u := fun z => by rw [← z, upd_same] at hu; cases hu
    have bx3 : Bx H b (upd (upd H2 T0 (.lst [])) u (.tup [.int (s : Int), .ref T0])) := (bx02.grow (same_new hT0)).grow (same_new hu)
    have freeH : ∀ {H' : Hp} {x : Addr}, Bx H b H' → x ≠ b → H' x = none → H x = none := fun bx hx h => bx.1.free hx h
    have T0H : H T0 = none := freeH bx02 bT0.symm hT0
    have tab3 : TabAt (upd (upd H2 T0 (.lst [])) u (.tup [.int (s : Int), .ref T0])) b T0 [] [] s := ⟨by rw [upd_ne nuT]; exact upd_same, .nil, bT0, (fun h => by cases h), (fun h => by cases h), fun l h => by cases h⟩
    generalize (upd (upd H2 T0 (.lst [])) u (.tup [.int (s : Int), .ref T0])) = H3 at bx3 tab3 ⊢
    refine st_seq (x_forR1 (x_op ?_))
    refine take_ bx3.box (val_var rfl) val_c (by omega) (by omega) fun c H4 bx4 c0 c1 => ⟨2, c, rfl, rfl, ?_⟩
    refine ⟨_, rfl, by omega, by omega, ?_⟩
    refine for_range (lo := 0) (n := (2 + c).toNat) (fun i σ' H' => ∃ x1 x11 x12 as ls, σ' = [some (V.ref b), x1, some (.int way), none, none, none, none, none, none, some (.int (s : Int)), some (.ref T0), x11, x12, none, none] ∧ Bx H b H' ∧ TabAt H' b T0 as ls s ∧ ls.length ≤ i)
      ⟨_, _, _, [], [], rfl, bx3.more bx4, tab3.bx bx4.1, Nat.le_refl _⟩ ?_ ?_
    · rintro i σ' H5 hi ⟨x1, x11, x12, as, ls, rfl, bx5, tab5, li⟩
      refine st_seq (x_set (lc_takes (n := s) (m := s) bx5.box (val_var rfl) (by omega) (by omega) (by omega) (by intro _; rfl) (fun _ _ => val_var rfl) (fun _ _ => val_var rfl) fun D l H6 bx6 hD bD hD6 ll lx => ?_))
      dsimp only
      have tab6 := tab5.bx bx6.1
      have bx06 := bx5.more bx6
      have DT : D ≠ T0 := fun z => by rw [z, tab5.top] at hD; cases hD
      have Das : D ∉ as := fun z => by
        obtain ⟨k, hk⟩ := List.getElem?_of_mem z
        obtain ⟨l', _, h2⟩ := pgetL tab5.row hk
        rw [hD] at h2
        cases h2
      have stay : ∀ (x12 : Option V) H7, Same H6 H7 → ∃ x1' x11' x12' as' ls', [some (V.ref b), some (.int (0 + (i : Int))), some (.int way), none, none, none, none, none, none, some (.int (s : Int)), some (.ref T0), some (.ref D), x12, none, none] = [some (V.ref b), x1', some (.int way), none, none, none, none, none, none, some (.int (s : Int)), some (.ref T0), x11', x12', none, none] ∧ Bx H b H7 ∧ TabAt H7 b T0 as' ls' s ∧ ls'.length ≤ i + 1 :=
        fun x12 H7 e => ⟨_, _, _, as, ls, rfl, bx06.grow e, tab6.same e, by omega⟩
      refine sv_if (evt_and (b := !decide (l ∈ ls)) (b' := !decide (l = (List.range s).map fun i => ((i : Nat) : Int))) (evt_of fun Q q => ?_) fun _ H7 e7 Q q => ?_) (fun _ H7 e7 => ?_) (fun _ H7 e7 => stay _ H7 e7)
      · refine ⟨_, rfl, _, rfl, dl l, ls.map dl, dp_dl hD6, .lst (SqL.of tab6.top) (dp_tab tab6.row), shaped_dl _, shaped_dls _, _, rfl, ?_⟩
        rw [any_dl]
        exact q
      · refine ⟨_, rfl, _, rfl, _, rfl, ⟨by omega, by omega, by omega, by omega, by omega⟩, fun z hz => ⟨dl l, dl ((List.range s).map fun i => ((i : Nat) : Int)), dp_dl ((same_new hz) _ _ (e7 _ _ hD6)), dp_dl (by rw [← rg_iq]; exact upd_same), shaped_dl _, shaped_dl _, _, rfl, ?_⟩⟩
        rw [eqv_dl]
        exact q _ (same_new hz)
      · have tab7 := tab6.same e7
        refine x_drop ⟨_, rfl, .inl ⟨rfl, _, SqL.of tab7.top⟩, _, rfl, T0, _, _, rfl, rfl, tab7.top, by rw [List.length_map, plen tab7.row]; exact Nat.lt_of_le_of_lt (show ls.length ≤ 100 by omega) (by decide), ?_⟩
        have tab8 := tab7.off (p := T0) (o := .lst (as.map V.ref ++ [.ref D]))
        refine ⟨_, _, _, as ++ [D], ls ++ [l], rfl, (bx06.grow e7).mut T0H bT0, ⟨by rw [List.map_append]; exact upd_same, psnoc ?_ ?_, bT0, fun h => ?_, fun h => ?_, fun l' hl' => ?_⟩, by rw [List.length_append, List.length_singleton]; omega⟩
        · have kk : ∀ {xs : List Addr} {ys : List (List Int)}, T0 ∉ xs → Paired (fun x l => H7 x = some (.lst (iq l))) xs ys → Paired (fun x l => (upd H7 T0 (.lst (as.map V.ref ++ [.ref D]))) x = some (.lst (iq l))) xs ys := by
            intro xs ys hx p
            induction p with
            | nil => exact .nil
            | cons r t ih => exact .cons (by rw [upd_ne (fun z => hx (by rw [z]; exact List.mem_cons_self ..))]; exact r) (ih fun h => hx (List.mem_cons_of_mem _ h))
          exact kk tab7.Ta tab7.row
        · show (upd H7 T0 _) D = _
          rw [upd_ne DT]
          exact e7 _ _ hD6
        · rcases List.mem_append.mp h with r | r
          · exact tab7.ba r
          · exact bD (List.mem_singleton.mp r)
        · rcases List.mem_append.mp h with r | r
          · exact tab7.Ta r
          · exact DT (List.mem_singleton.mp r).symm
        · rcases List.mem_append.mp hl' with r | r
          · exact tab7.ok l' r
          · rw [List.mem_singleton.mp r]
            exact ⟨ll, lx⟩
    · rintro σ' H5 ⟨x1, x11, x12, as, ls, rfl, bx5, tab5, li⟩
      dsimp only
      refine st_seq (x_set (tabs_or bx5 T0H tab5 (by omega) (by omega) s2 rfl rfl fun T as ls H6 bx6 TH tab6 hne l5 => ?_))
      dsimp only
      refine st_seq (x_set (tabs_ends bx6.box tab6 l5 s2 rfl rfl fun E z H7 e7 tabE EH zH => ?_))
      dsimp only
      have bx7 := bx6.grow e7
      have tab7 := tab6.same e7
      refine st_seq (x_set ⟨Nat.zero_le _, fun L hL => ?_⟩)
      dsimp only
      obtain ⟨n, hn⟩ : ∃ n, n = ls.length := ⟨_, rfl⟩
      have n1 : 1 ≤ n := by
        rw [hn]
        exact List.length_pos_iff.mpr hne
      have bL : b ≠ L := fun q => by
        obtain ⟨g, r, h⟩ := bx7.box
        rw [← q, h] at hL
        cases hL
      have LH : H L = none := bx7.1.free bL.symm hL
      have offT : ∀ {T : Addr} {as : List Addr} {ls : List (List Int)} {H' : Hp} {x : Addr}, TabAt H' b T as ls s → H' x = none → x ≠ T ∧ x ∉ as := fun t hx => ⟨(fun q => by rw [q, t.top] at hx; cases hx), fun q => by
        obtain ⟨k, hk⟩ := List.getElem?_of_mem q
        obtain ⟨l', _, h2⟩ := pgetL t.row hk
        rw [hx] at h2
        cases h2⟩
      obtain ⟨LT, Las⟩ := offT tab7 hL
      obtain ⟨LE, Laz⟩ := offT tabE hL
      have las : as.length = n := by rw [plen tab6.row, hn]
      refine st_seq (st_forL (a := T) (xs := as.map V.ref) (val_var rfl) (SqL.of (tab7.same (same_new hL)).top) (fun i σ' H' => ∃ x4 x5 x8 x11 x12 x14 rs M, σ' = [some (V.ref b), x1, some (.int way), some (.ref L), x4, x5, none, none, x8, some (.int (s : Int)), some (.ref T), x11, x12, some (.ref E), x14] ∧ Bx H b H' ∧ TabAt H' b T as ls s ∧ TabAt H' b E (as ++ [z]) (ls ++ [idl s]) s ∧ Mat H' b L rs M ∧ M.length = i ∧ (∀ r ∈ M, r.length = n) ∧ ∀ r ∈ M, ∀ x : Int, some x ∈ r → -1 ≤ x ∧ x < (n : Int))
        ⟨_, _, _, _, _, _, [], [], rfl, bx7.grow (same_new hL), tab7.same (same_new hL), tabE.same (same_new hL), ⟨⟨upd_same, .nil⟩, List.nodup_nil, (fun h => by cases h), bL, (fun h => by cases h)⟩, rfl, (fun r h => by cases h), fun r h => by cases h⟩
        (fun i σ' H' _ ⟨_, _, _, _, _, _, _, _, _, _, t, _⟩ => SqL.of t.top) ?_ ?_)
      · rintro i x σ' H8 hi ⟨x4, x5, x8, x11, x12, x14, rs, M, rfl, bx8, t8, E8, M8, lm, rw8, en8⟩
        rw [List.getElem?_map] at hi
        obtain ⟨a1, ha1, ha2⟩ := Option.map_eq_some_iff.mp hi
        subst ha2
        obtain ⟨l1, hl1, _⟩ := pgetL t8.row ha1
        obtain ⟨ll1, lx1⟩ := t8.ok l1 (List.mem_of_getElem? hl1)
        refine st_seq (x_set ⟨Nat.zero_le _, fun r hr => ?_⟩)
        dsimp only
        have br : b ≠ r := fun q => by
          obtain ⟨g, r', h⟩ := bx8.box
          rw [← q, h] at hr
          cases hr
        have rH : H r = none := bx8.1.free br.symm hr
        obtain ⟨rT, ras⟩ := offT t8 hr
        obtain ⟨rE, raz⟩ := offT E8 hr
        have rL : r ≠ L := fun q => by rw [q, M8.rows.top] at hr; cases hr
        have rrs : r ∉ rs := fun q => by
          obtain ⟨k, hk⟩ := List.getElem?_of_mem q
          obtain ⟨row, _, h2⟩ := pgetL M8.rows.row hk
          rw [hr] at h2
          cases h2
        have e8 := same_new hr (o := .lst [])
        refine st_seq (st_forL (a := T) (xs := as.map V.ref) (val_var rfl) (SqL.of (t8.same e8).top) (fun j σ' H' => ∃ x5 x12 x14 es, σ' = [some (V.ref b), x1, some (.int way), some (.ref L), some (.ref a1), x5, none, none, some (.ref r), some (.int (s : Int)), some (.ref T), x11, x12, some (.ref E), x14] ∧ Bx H b H' ∧ TabAt H' b T as ls s ∧ TabAt H' b E (as ++ [z]) (ls ++ [idl s]) s ∧ Mat H' b L rs M ∧ H' r = some (.lst (es.map eV)) ∧ es.length = j ∧ ∀ x : Int, some x ∈ es → -1 ≤ x ∧ x < (n : Int))
          ⟨_, _, _, [], rfl, bx8.grow e8, t8.same e8, E8.same e8, M8.same e8, upd_same, rfl, fun x h => by cases h⟩ (fun j σ' H' _ ⟨_, _, _, _, _, _, t, _⟩ => SqL.of t.top) ?_ ?_)
        · rintro j x σ' H9 hj ⟨x5, x12, x14, es, rfl, bx9, t9, E9, M9, hr9, le, een⟩
          rw [List.getElem?_map] at hj
          obtain ⟨a2, hb1, hb2⟩ := Option.map_eq_some_iff.mp hj
          subst hb2
          obtain ⟨l2, hl2, hA2⟩ := pgetL t9.row hb1
          obtain ⟨ll2, lx2⟩ := t9.ok l2 (List.mem_of_getElem? hl2)
          have hA1 : H9 a1 = some (.lst (iq l1)) := by
            obtain ⟨l1', h1, h2⟩ := pgetL t9.row ha1
            rw [hl1] at h1
            cases h1
            exact h2
          refine st_seq (x_set (lc_L (xs := iq l1) (fun k => .int (l2.getD (l1.getD k 0).toNat 0)) (val_var rfl) (SqL.of hA1) (by rw [List.length_map, ll1]; omega) (by intro _; rfl) (fun k x H' hk e => ?_) fun Dn H10 h1 h2 h3 => ?_))
          · rw [List.getElem?_map] at hk
            obtain ⟨y, hy1, hy2⟩ := Option.map_eq_some_iff.mp hk
            subst hy2
            obtain ⟨y0, y1⟩ := lx1 y (List.mem_of_getElem? hy1)
            have hg : l1.getD k 0 = y := by rw [List.getD_eq_getElem?_getD, hy1]; rfl
            rw [hg]
            have hy : y.toNat < l2.length := by omega
            refine evs_of (val_ixL (val_var rfl) (val_var rfl) (SqL.of (e _ _ hA2)) (atI_int y0 ?_))
            rw [List.getElem?_map, List.getD_eq_getElem?_getD, List.getElem?_eq_getElem hy]
            rfl
          · dsimp only
            rw [List.length_map] at h3
            have hDn : H10 Dn = some (.lst (iq ((List.range l1.length).map fun k => l2.getD (l1.getD k 0).toNat 0))) := by
              rw [h3]
              unfold upto iq
              rw [List.map_map]
              rfl
            have bD : b ≠ Dn := fun q => by
              obtain ⟨g, r', h⟩ := bx9.box
              rw [← q, h] at h1
              cases h1
            have rD : r ≠ Dn := fun q => by rw [← q, hr9] at h1; cases h1
            have bx10 := bx9.grow h2
            refine x_drop ⟨_, rfl, .inl ⟨rfl, _, SqL.of (h2 _ _ hr9)⟩, x_cons (tabs_entry (T := T) bx10.box (E9.same h2) hDn hn.symm bD rfl rfl rfl fun e H11 bx11 he => ?_)⟩
            have hr11 : H11 r = some (.lst (es.map eV)) := bx11.1 _ _ br.symm (h2 _ _ hr9)
            refine ⟨r, _, _, rfl, rfl, hr11, by rw [List.length_map, le]; exact Nat.lt_of_le_of_lt (show j ≤ 100 by have := (List.getElem?_eq_some_iff.mp hb1).1; omega) (by decide), ?_⟩
            refine ⟨_, _, _, es ++ [e], rfl, (bx10.more bx11).mut rH br, ((t9.same h2).bx bx11.1).off rT ras, ((E9.same h2).bx bx11.1).off rE raz, ?_, by rw [List.map_append]; exact upd_same, by rw [List.length_append, le]; rfl, fun x hx => ?_⟩
            · have m11 := (M9.same h2).bx bx11.1
              refine ⟨⟨by rw [upd_ne rL.symm]; exact m11.rows.top, ?_⟩, m11.nd, m11.na, m11.ba, m11.br⟩
              have kk : ∀ {xs : List Addr} {ys : Rws}, r ∉ xs → Paired (fun x row => H11 x = some (.lst (row.map eV))) xs ys → Paired (fun x row => (upd H11 r (.lst (es.map eV ++ [eV e]))) x = some (.lst (row.map eV))) xs ys := by
                intro xs ys hx p
                induction p with
                | nil => exact .nil
                | cons q t ih => exact .cons (by rw [upd_ne (fun z => hx (by rw [z]; exact List.mem_cons_self ..))]; exact q) (ih fun h => hx (List.mem_cons_of_mem _ h))
              exact kk rrs m11.rows.row
            · rcases List.mem_append.mp hx with h | h
              · exact een x h
              · exact he x (List.mem_singleton.mp h).symm
        · rintro σ' H9 ⟨x5, x12, x14, es, rfl, bx9, t9, E9, M9, hr9, le, een⟩
          dsimp only
          rw [List.length_map, las] at le
          refine x_drop ⟨_, rfl, .inl ⟨rfl, _, SqL.of M9.rows.top⟩, _, rfl, L, _, _, rfl, rfl, M9.rows.top, ?_, ?_⟩
          · rw [List.length_map, plen M9.rows.row, lm]
            exact Nat.lt_of_le_of_lt (show i ≤ 100 by have := (List.getElem?_eq_some_iff.mp ha1).1; omega) (by decide)
          · refine ⟨_, _, _, _, _, _, rs ++ [r], M ++ [es], rfl, bx9.mut LH bL, t9.off LT Las, E9.off LE Laz, ⟨⟨by rw [List.map_append]; exact upd_same, psnoc ?_ ?_⟩, ?_, ?_, bL, ?_⟩, by rw [List.length_append, lm]; rfl, fun r' hr' => ?_, fun r' hr' x hx => ?_⟩
            · have kk : ∀ {xs : List Addr} {ys : Rws}, L ∉ xs → Paired (fun x row => H9 x = some (.lst (row.map eV))) xs ys → Paired (fun x row => (upd H9 L (.lst (rs.map V.ref ++ [.ref r]))) x = some (.lst (row.map eV))) xs ys := by
                intro xs ys hx p
                induction p with
                | nil => exact .nil
                | cons q t ih => exact .cons (by rw [upd_ne (fun z => hx (by rw [z]; exact List.mem_cons_self ..))]; exact q) (ih fun h => hx (List.mem_cons_of_mem _ h))
              exact kk M9.na M9.rows.row
            · show (upd H9 L _) r = _
              rw [upd_ne rL]
              exact hr9
            · rw [List.nodup_append]
              exact ⟨M9.nd, by simp, fun u hu v hv e => rrs (by rw [List.mem_singleton.mp hv] at e; rw [← e]; exact hu)⟩
            · intro h
              rcases List.mem_append.mp h with h | h
              · exact M9.na h
              · exact rL (List.mem_singleton.mp h).symm
            · intro h
              rcases List.mem_append.mp h with h | h
              · exact M9.br h
              · exact br (List.mem_singleton.mp h)
            · rcases List.mem_append.mp hr' with h | h
              · exact rw8 r' h
              · rw [List.mem_singleton.mp h]
                exact le
            · rcases List.mem_append.mp hr' with h | h
              · exact en8 r' h x hx
              · rw [List.mem_singleton.mp h] at hx
                exact een x hx
      · rintro σ' H8 ⟨x4, x5, x8, x11, x12, x14, rs, M, rfl, bx8, t8, E8, M8, lm, rw8, en8⟩
        dsimp only
        rw [List.length_map, las] at lm
        refine st_ret (val_var rfl) ?_
        exact k H8 L rs M n bx8 M8 ⟨lm, rw8, en8, n1, by omega⟩
end
end FF
set_option maxHeartbeats 4000000
namespace FF
open PySem PySem.Spec PyProof.Rows L2
section
variable {P : Program} {w : World} {K : PySem.W.Frag} {mg : Str → Option Value} {base : Heap}
/-! ### _law_merger -/
theorem ent_blank {n : Nat} {x y : Int} : ent (blank n) x y = none := by
  have h1 : ∀ r, (List.replicate n (List.replicate n (none : Option Int)))[x.toNat]? = some r → r = List.replicate n none := fun r h => (List.mem_replicate.mp (List.mem_of_getElem? h)).2
  have h2 : ∀ e, (List.replicate n (none : Option Int))[y.toNat]? = some e → e = none := fun e h => (List.mem_replicate.mp (List.mem_of_getElem? h)).2
  show ((List.replicate n (List.replicate n (none : Option Int))).getD x.toNat []).getD y.toNat none = none
  have e1 : (List.replicate n (List.replicate n (none : Option Int))).getD x.toNat [] = List.replicate n none ∨ (List.replicate n (List.replicate n (none : Option Int))).getD x.toNat [] = [] := by
    rw [List.getD_eq_getElem?_getD]
    cases h : (List.replicate n (List.replicate n (none : Option Int)))[x.toNat]? with
    | none => exact .inr rfl
    | some r => exact .inl (h1 r h)
  rcases e1 with e | e
  · rw [e, List.getD_eq_getElem?_getD]
    cases h : (List.replicate n (none : Option Int))[y.toNat]? with
    | none => rfl
    | some e => exact h2 e h
  · rw [e]
    rfl
theorem sound_blank (n : Nat) : SoundR (blank n) n := fun a b c p q _ _ _ h _ => by rw [ent_blank] at h; cases h
def sp_law_merger : Sp := fun vs H Q _ => ∃ (b : Addr), vs = [.ref b] ∧ (∃ g r : Int, H b = some (.lst [.int g, .int r])) ∧
  ∀ (H' : Hp) (a : Addr) (rs : List Addr) (M : Rws) (n : Nat), Bx H b H' → Mat H' b a rs M → Wf M n → SoundR M n → Q (.ref a) H'
theorem ok_law_merger (T : Txt K mg) : FnOk P w K mg base CX0 3 (He.ga K "_law_merger") T.fd_law_merger ["_law_box_here"] sp_law_merger := by
  refine T.F_law_merger.ok sc_law_merger (fun vs H Q E h => ?_) (fun cdv A outer s H vs Q E hr h => ?_)
  · obtain ⟨_, rfl, _⟩ := h; rfl
  · obtain ⟨b, rfl, hb, k⟩ := h
    refine ⟨_, PSs.nox ((pss_cons (ps_for PassesOwn.never rfl (pi_range1 (by rfl) T.z_range (pa_cons pe_int pa_nil)) (pg_name (i := 1) sc_law_merger.nd rfl (Or.inl rfl))
          (pss_cons (ps_set (i := 2) sc_law_merger.nd rfl (Or.inl rfl) (pe_call (ok_law_rows T) (hr.mono (by decide)) rfl T.m_law_rows T.F_law_rows.kp (bi_law_rows T) .nil pass0 (pa_cons (pv 0) (pa_cons (pv 1) pa_nil))))
          (pss_one (ps_if (pt_val (pe_call (ok_law_is_sound T) (hr.mono (by decide)) rfl T.m_law_is_sound T.F_law_is_sound.kp (bi_law_is_sound T) .nil pass0 (pa_cons (pv 2) pa_nil)))
            (pss_one (ps_ret (pv 2)))
            pss_nil))))
        (pss_one (ps_ret (pe_lst (pa_cons (pe_lst (pa_cons pe_non pa_nil)) pa_nil)))))), ?_⟩
    refine st_seq (st_forR1 (n := 30) (va_cons val_c va_nil) (by omega) (by omega) (fun i σ' H' => ∃ x1 x2, σ' = [some (V.ref b), x1, x2] ∧ Bx H b H') ⟨_, _, rfl, SameX.refl _ _, hb⟩ ?_ ?_)
    · rintro i σ' H1 hi ⟨x1, x2, rfl, bx1⟩
      refine st_seq (x_set (x_call ((va_cons (val_var rfl) (va_cons (val_var rfl) va_nil)) _ ?_)))
      refine ⟨b, _, rfl, bx1.box, fun H2 a rs M n bx2 hM w => ?_⟩
      dsimp only
      have bx := bx1.more bx2
      refine x_if (x_tB (x_call ((va_cons (val_var rfl) va_nil) _ ?_)))
      refine ⟨a, rs, M, n, rfl, hM.rows, w, fun r hr => ⟨r, rfl, ?_⟩⟩
      cases r with
      | true => exact iteT (st_ret (val_var rfl) (k H2 a rs M n bx hM w (hr rfl)))
      | false => exact iteF ⟨_, _, rfl, bx⟩
    · rintro σ' H1 ⟨x1, x2, rfl, bx1⟩
      dsimp only
      refine x_ret ⟨by show 1 ≤ sizeLine; decide, fun r hr => ⟨by show 1 ≤ sizeLine; decide, fun a ha => ?_⟩⟩
      obtain ⟨g, q, hb1⟩ := bx1.box
      have bx2 := bx1.grow (same_new hr (o := .lst [.non]))
      obtain ⟨g2, q2, hb2⟩ := bx2.box
      have ra : a ≠ r := fun z => by rw [z, upd_same] at ha; cases ha
      refine k _ a [r] (blank 1) 1 (bx2.grow (same_new ha)) ⟨⟨upd_same, .cons ((same_new ha) _ _ upd_same) .nil⟩, by simp, fun h => ra (List.mem_singleton.mp h), (fun z => by rw [← z, hb2] at ha; cases ha), fun h => ?_⟩ ((sz_blank 1 1).wf (by omega) (by omega)) (sound_blank 1)
      rw [← List.mem_singleton.mp h, hb1] at hr
      cases hr
end
end FF
set_option maxHeartbeats 4000000
namespace FF
open PySem PySem.Spec PyProof.Rows L2
section
variable {P : Program} {w : World} {K : PySem.W.Frag} {mg : Str → Option Value} {base : Heap}
/-! ### _law_short_right -/
def FourV (H : Hp) (o : F4) (v : V) : Prop := match o with
  | none => v = .non
  | some (a, b, c, y) => ∃ t, v = .ref t ∧ H t = some (.tup (iq [a, b, c, y]))
theorem FourV.sx {H H' : Hp} {b : Addr} {o : F4} {v : V} {xs : List V} (h : FourV H o v) (e : SameX b H H') (hb : H b = some (.lst xs)) : FourV H' o v := by
  cases o with
  | none => exact h
  | some q =>
    obtain ⟨x, y, z, w⟩ := q
    obtain ⟨t, h1, h2⟩ := h
    exact ⟨t, h1, e _ _ (ne_of h2 hb (by intro q; cases q)) h2⟩
theorem nolose_of {R : Rws} {n : Nat} (w : Wf R n) (h : FirstR R n none) : Mt.NoLose (mm R n) := by
  intro a b c d p q h1 h2 h3 h4
  obtain ⟨ha, hb, i, e1, rfl⟩ := mm_dom h1
  obtain ⟨_, hc, j, e3, e4⟩ := mm_dom h2
  have hj : j ≠ -1 := fun z => by rw [z] at e4; cases e4
  rw [dec_no hj] at e4
  have ej : j = q := Option.some.inj e4
  subst ej
  by_cases hi : i = -1
  · rw [hi] at h3
    cases h3
  · rw [dec_no hi] at h3
    have ci := w.cm ha hb e1 hi
    have cj := w.cm hb hc e3 hj
    by_cases hd : Cm n d
    · rw [mm_none cj hd]
      cases hr : ent R j d with
      | none => rfl
      | some v => exact absurd ⟨i, j, e1, e3, hi, hj, (mm_none ci hc).mp h3, (mm_none hc hd).mp h4, by rw [hr]; exact fun z => by cases z⟩ (h a b c d ha hb hc hd)
    · show mm R n j d = none
      unfold mm
      rw [if_neg fun z => hd z.2]
theorem exists_min : ∀ {ns : List Int}, 0 < ns.length → ∃ m, m ∈ ns ∧ ∀ y, y ∈ ns → m ≤ y
  | [x], _ => ⟨x, .head _, fun y hy => by cases hy with | head => exact Int.le_refl _ | tail _ h => cases h⟩
  | x :: z :: zs, _ => by
    obtain ⟨m, h1, h2⟩ := exists_min (ns := z :: zs) (by simp)
    by_cases h : x ≤ m
    · refine ⟨x, .head _, fun y hy => ?_⟩
      cases hy with
      | head => exact Int.le_refl _
      | tail _ h3 => exact Int.le_trans h (h2 y h3)
    · refine ⟨m, .tail _ h1, fun y hy => ?_⟩
      cases hy with
      | head => omega
      | tail _ h3 => exact h2 y h3
theorem evt_ne {H : Hp} {σ : L2.St} {ta tb : TE} {v w : V} {b : Bool} (h1 : EvS ta σ H v) (h2 : ∀ H1, Same H H1 → EvS tb σ H1 w) (hs : scal v w = true) (hd : (!decide (v = w)) = b) : EvT (tTest (tOp rNe ta tb)) σ H b :=
  fun Q q => h1 _ fun H1 e1 => h2 H1 e1 _ fun H2 e2 => ⟨hs, b, by rw [hd], q H2 (e1.trans e2)⟩
theorem evs_plain {H : Hp} {σ : L2.St} {tp tq : TE} {p ra qa : Addr} {R : Rws} {n : Nat} {q : List Int} (hM : MerAt K H p R n ra) (ha : H qa = some (.tup (iq q))) (hq : QOk n q) (hl : q.length ≤ 1000) (vp : Val tp σ H (.ref p)) (vq : Val tq σ H (.ref qa)) :
    EvS (tCB (rLenQ K) (tCons (tCall (sp_plain_fold K) [] E0 (tCons tp (tCons tq tNil))) tNil)) σ H (.int ((Mt.proc (mm R n) [] q).length : Nat)) := fun Q k =>
  x_cb1 (x_call ((va_cons vp (va_cons vq va_nil)) _ ⟨p, ra, qa, R, n, q, rfl, hM, ha, hq, by omega, fun H' t e ht => ⟨t, _, rfl, .inr (SqT.of ht), by
    rw [List.length_map, pfold_len]
    exact k H' e⟩⟩))
theorem evs_fewest {H : Hp} {σ : L2.St} {tp tq : TE} {p ra qa : Addr} {R : Rws} {n N : Nat} {q : List Int} (hM : MerAt K H p R n ra) (ha : H qa = some (.tup (iq q))) (hq : QOk n q) (hl : q.length ≤ 1000) (hN : Mt.Least (mm R n) q N) (vp : Val tp σ H (.ref p)) (vq : Val tq σ H (.ref qa)) :
    EvS (tCall (sp_fewest_left K) [] E0 (tCons tp (tCons tq tNil))) σ H (.int (N : Int)) := fun Q k =>
  x_call ((va_cons vp (va_cons vq va_nil)) _ ⟨p, qa, ra, R, n, q, rfl, hM, ha, hq, hl, fun N' H' e h => by
    rw [h.uniq hN]
    exact k H' e⟩)
/-- the sizes of the folded queues -/
structure SizesAt (K : PySem.W.Frag) (H : Hp) (l : Addr) (R : Rws) (n : Nat) (q : List Int) : Prop where
  ex : ∃ ns : List Int, SqL K H l (ns.map V.int) ∧ 0 < ns.length ∧ ∀ m, m ∈ ns → (∀ y, y ∈ ns → m ≤ y) → ∃ N : Nat, m = N ∧ Mt.Least (mm R n) q N
theorem SizesAt.same {H H' : Hp} {l : Addr} {R : Rws} {n : Nat} {q : List Int} (h : SizesAt K H l R n q) (e : Same H H') : SizesAt K H' l R n q := let ⟨ns, h1, h2, h3⟩ := h.ex; ⟨ns, e.seq h1, h2, h3⟩
theorem val_min {H : Hp} {σ : L2.St} {tl : TE} {l : Addr} {R : Rws} {n N : Nat} {q : List Int} (h : SizesAt K H l R n q) (hN : Mt.Least (mm R n) q N) (vl : Val tl σ H (.ref l)) : Val (tCB (rMin K) (tCons tl tNil)) σ H (.int (N : Int)) := fun Q k => by
  obtain ⟨ns, h1, h2, h3⟩ := h.ex
  refine vl _ ⟨l, ns, rfl, h1, h2, fun m hm hmin => ?_⟩
  obtain ⟨N', rfl, hL⟩ := h3 m hm hmin
  rw [hL.uniq hN]
  exact k
/-- [len(x) for x in folded(rows, q)] -/
theorem lc_sizes {H : Hp} {σ : L2.St} {tr tq : TE} {ra qa : Addr} {rs : List Addr} {R : Rws} {n j : Nat} {q : List Int} {Q : VK} (hR : RowsL H ra rs R) (w : Wf R n) (hqa : H qa = some (.tup (iq q))) (hq : QOk n q) (hl : q.length ≤ 7) (vr : Val tr σ H (.ref ra)) (vq : Val tq σ H (.ref qa))
    (hw : ∀ x, wipe ((wipe σ [j]).set j (some x)) [j] = wipe σ [j]) (hs : ∀ x, ((wipe σ [j]).set j (some x))[j]? = some (some x)) (k : ∀ l H', Same H H' → SizesAt K H' l R n q → Q (.ref l) H') :
    tLc (iList K (tCall (sp_law_folded K) [] E0 (tCons tr (tCons tq tNil)))) (gName j) tYes (tCB (rLenQ K) (tCons (tVar j) tNil)) [j] σ H Q := by
  refine x_lcL (x_call ((va_cons vr (va_cons vq va_nil)) _ ?_))
  refine ⟨ra, qa, rs, R, n, q, rfl, hR, w, hqa, hq, hl, fun l H1 ps e1 h1 h2 h3 h4 => ?_⟩
  refine lc_L (tl := tC (.ref l)) (xs := ps.map fun p => V.ref p.1) (fun i => .int (((ps.getD i (0, [])).2.length : Nat) : Int)) val_c (SqL.of h1) (by rw [List.length_map]; omega) hw (fun i x H' hi e => ?_) (fun D H2 d1 d2 d3 => ?_)
  · rw [List.getElem?_map] at hi
    obtain ⟨p, hp1, hp2⟩ := Option.map_eq_some_iff.mp hi
    subst hp2
    have hg : ps.getD i (0, []) = p := by rw [List.getD_eq_getElem?_getD, hp1]; rfl
    rw [hg]
    have ht := e _ _ (h2 p (List.mem_of_getElem? hp1)).1
    exact evs_of ((val_lenS (val_var (hs _)) (.inr (SqT.of ht))).to (by rw [List.length_map]))
  · refine k D H2 (e1.trans d2) ⟨ps.map (fun p => ((p.2.length : Nat) : Int)), SqL.of ?_, ?_, fun m hm hmin => ?_⟩
    · rw [d3, List.length_map]
      congr 2
      refine upto_eq (by rw [List.length_map, List.length_map]) fun i y hi => ?_
      rw [List.getElem?_map, List.getElem?_map] at hi
      cases hp : ps[i]? with
      | none => rw [hp] at hi; cases hi
      | some p =>
        rw [hp] at hi
        rw [List.getD_eq_getElem?_getD, hp]
        exact Option.some.inj hi
    · obtain ⟨r, r1, r2⟩ := Mt.to_fold (m := mm R n) _ q (Nat.le_refl _)
      obtain ⟨p, hp, _⟩ := h3 r r1 r2
      rw [List.length_map]
      exact List.length_pos_of_mem hp
    · obtain ⟨p, hp, rfl⟩ := List.mem_map.mp hm
      obtain ⟨_, a2, a3⟩ := h2 p hp
      refine ⟨p.2.length, rfl, Mt.least_of_folded ⟨p.2, a2, a3, rfl⟩ fun r r1 r2 => ?_⟩
      obtain ⟨p', hp', e'⟩ := h3 r r1 r2
      have := hmin _ (List.mem_map.mpr ⟨p', hp', rfl⟩)
      rw [← e']
      omega
def sp_law_short_right (K : PySem.W.Frag) : Sp := fun vs H Q _ => ∃ (b p rp ra : Addr) (rs : List Addr) (R : Rws) (n : Nat) (o : F4) (v : V), vs = [.ref b, .ref p, .ref ra, v] ∧ (∃ g r : Int, H b = some (.lst [.int g, .int r])) ∧ MerAt K H p R n rp ∧ RowsL H ra rs R ∧ b ≠ ra ∧ b ∉ rs ∧ FirstR R n o ∧ FourV H o v ∧
  ∀ H', Bx H b H' → Q (.bl true) H'
theorem ok_law_short_right (T : Txt K mg) : FnOk P w K mg base CX0 6 (He.ga K "_law_short_right") T.fd_law_short_right ["_law_box_here", "_law_merger_here", "_law_rows_here", "_law_four"] (sp_law_short_right K) := by
  refine T.F_law_short_right.ok sc_law_short_right (fun vs H Q E h => ?_) (fun cdv A outer s H vs Q E hr h => ?_)
  · obtain ⟨_, _, _, _, _, _, _, _, _, rfl, _⟩ := h; rfl
  · obtain ⟨b, p, rp, ra, rs, R, n, o, v, rfl, hb, hM, hR, bra, brs, hf, hv, k⟩ := h
    refine ⟨_, PSs.nox ((pss_cons (ps_if (pt_cmpR op_notN (pv 3) pe_non (nomark _))
          (pss_cons (ps_setLc (i := 4) (own := [("_law_one", 5)]) rfl sc_law_short_right.nd rfl rfl (sw_true rfl rfl rfl (by decide +kernel)) (piL (K := K) rfl (pe_call (ok_law_folded T) (hr.mono (by decide)) rfl T.m_law_folded T.F_law_folded.kp (bi_law_folded T) .nil pass0 (pa_cons (pv 2) (pa_cons (pv 3) pa_nil)))) (blkOk_by (N := ["_law_box_here", "_law_merger_here", "_law_rows_here", "_law_four", "_law_sizes", "_law_one", "_law_turn", "_law_queue_here"]) (sc := defScope s_law_short_right) (own := [("_law_one", 5)]) (by decide +kernel)) (fun _ _ _ _ _ => (pg_name (i := 5) sc_law_short_right.nd rfl (Or.inl rfl))) (fun _ _ _ _ _ => pts_nil) (fun _ _ _ _ _ => (pe_callB (lenQ (K := K) rfl) (by rfl) T.z_len boot_len (pa_cons (pv 5) pa_nil))))
          (pss_one (ps_ret (pe_and (pe_cmpR op_eq (pe_callB (lenQ (K := K) rfl) (by rfl) T.z_len boot_len (pa_cons (pe_call (ok_plain_fold T) (hr.mono (by decide)) rfl T.m_plain_fold T.F_plain_fold.kp (bi_plain_fold T) .nil pass0 (pa_cons (pv 1) (pa_cons (pv 3) pa_nil))) pa_nil)) pe_int (nomark _)) (pe_one (pe_chain op_eq op_lt (pe_call (ok_fewest_left T) (hr.mono (by decide)) rfl T.m_fewest_left T.F_fewest_left.kp (bi_fewest_left T) .nil pass0 (pa_cons (pv 1) (pa_cons (pv 3) pa_nil))) (pe_callB (minQ (K := K) rfl rfl) (by rfl) T.z_min (by decide +kernel) (pa_cons (pv 4) pa_nil)) pe_int))))))
          pss_nil)
        (pss_cons (ps_for PassesOwn.never rfl (pi_range1 (by rfl) T.z_range (pa_cons pe_int pa_nil)) (pg_name (i := 6) sc_law_short_right.nd rfl (Or.inl rfl))
          (pss_cons (ps_set (i := 7) sc_law_short_right.nd rfl (Or.inl rfl) (pe_call (ok_law_queue T) (hr.mono (by decide)) rfl T.m_law_queue T.F_law_queue.kp (bi_law_queue T) .nil pass0 (pa_cons (pv 0) (pa_cons (pe_callB (lenQ (K := K) rfl) (by rfl) T.z_len boot_len (pa_cons (pv 2) pa_nil)) (pa_cons pe_int pa_nil)))))
          (pss_cons (ps_setLc (i := 4) (own := [("_law_one", 5)]) rfl sc_law_short_right.nd rfl rfl (sw_true rfl rfl rfl (by decide +kernel)) (piL (K := K) rfl (pe_call (ok_law_folded T) (hr.mono (by decide)) rfl T.m_law_folded T.F_law_folded.kp (bi_law_folded T) .nil pass0 (pa_cons (pv 2) (pa_cons (pv 7) pa_nil)))) (blkOk_by (N := ["_law_box_here", "_law_merger_here", "_law_rows_here", "_law_four", "_law_sizes", "_law_one", "_law_turn", "_law_queue_here"]) (sc := defScope s_law_short_right) (own := [("_law_one", 5)]) (by decide +kernel)) (fun _ _ _ _ _ => (pg_name (i := 5) sc_law_short_right.nd rfl (Or.inl rfl))) (fun _ _ _ _ _ => pts_nil) (fun _ _ _ _ _ => (pe_callB (lenQ (K := K) rfl) (by rfl) T.z_len boot_len (pa_cons (pv 5) pa_nil))))
          (pss_one (ps_if (PW.pt (pw_or (pt_cmpR op_ne (pe_callB (lenQ (K := K) rfl) (by rfl) T.z_len boot_len (pa_cons (pe_call (ok_plain_fold T) (hr.mono (by decide)) rfl T.m_plain_fold T.F_plain_fold.kp (bi_plain_fold T) .nil pass0 (pa_cons (pv 1) (pa_cons (pv 7) pa_nil))) pa_nil)) (pe_callB (minQ (K := K) rfl rfl) (by rfl) T.z_min (by decide +kernel) (pa_cons (pv 4) pa_nil)) (nomark _)) (pw_or1 (pt_cmpR op_ne (pe_call (ok_fewest_left T) (hr.mono (by decide)) rfl T.m_fewest_left T.F_fewest_left.kp (bi_fewest_left T) .nil pass0 (pa_cons (pv 1) (pa_cons (pv 7) pa_nil))) (pe_callB (minQ (K := K) rfl rfl) (by rfl) T.z_min (by decide +kernel) (pa_cons (pv 4) pa_nil)) (nomark _)))))
            (pss_one (ps_ret pe_bl))
            pss_nil)))))
        (pss_one (ps_ret pe_bl))))), ?_⟩
    have w := hM.wf
    have w2 := w.le
    have hs := sound_mm w hM.sound
    obtain ⟨g0, r0, hb0⟩ := hb
    cases o with
    | some q4 =>
      obtain ⟨a, b', c, y⟩ := q4
      obtain ⟨t, rfl, ht⟩ := hv
      obtain ⟨ca, cb, cc, cy, ⟨pp, qq, e1, e2, hp, hq, e3, e4, e5⟩, _⟩ := hf
      have qok : QOk n [a, b', c, y] := fun x hx => by
        simp at hx
        rcases hx with rfl | rfl | rfl | rfl <;> assumption
      have cpp := w.cm ca cb e1 hp
      have cqq := w.cm cb cc e2 hq
      obtain ⟨l3, r, hr1, hr2⟩ := Mt.four_lost (mm_cmd ca cb e1 hp) (mm_cmd cb cc e2 hq) ((mm_none cpp cc).mpr e3) ((mm_none cc cy).mpr e4) (fun z => e5 ((mm_none cqq cy).mp z))
      refine st_seq (st_yes (a_notN (val_var rfl) rfl) ?_)
      refine st_seq (x_set (lc_sizes hR w ht qok (by show 4 ≤ 7; omega) (val_var rfl) (val_var rfl) (by intro _; rfl) (by intro _; rfl) fun l H1 e1 hS => ?_))
      dsimp only
      have hM1 := hM.same e1
      have ht1 := e1 _ _ ht
      obtain ⟨N, hN⟩ : ∃ N, Mt.Least (mm R n) [a, b', c, y] N := by
        obtain ⟨ns, h1, h2, h3⟩ := hS.ex
        obtain ⟨m, hm, hmin⟩ : ∃ m, m ∈ ns ∧ ∀ y, y ∈ ns → m ≤ y := exists_min h2
        obtain ⟨N, _, hN⟩ := h3 m hm hmin
        exact ⟨N, hN⟩
      have hN3 : N < 3 := Nat.lt_of_le_of_lt (hN.2 r hr1) hr2
      refine x_ret ?_
      refine evs_plain hM1 ht1 qok (by show 4 ≤ 1000; omega) (val_var rfl) (val_var rfl) _ fun H2 e2 => ?_
      refine ⟨rfl, true, by rw [l3]; rfl, ?_⟩
      refine iteT ?_
      refine evs_fewest (hM1.same e2) (e2 _ _ ht1) qok (by show 4 ≤ 1000; omega) hN (val_var rfl) (val_var rfl) _ fun H3 e3 => ?_
      refine val_min (hS.same (e2.trans e3)) hN (val_var rfl) _ ?_
      refine ⟨rfl, true, by simp, iteT ?_⟩
      refine val_c _ ?_
      refine ⟨_, _, rfl, rfl, ?_⟩
      have hd3 : decide ((N : Int) < 3) = true := decide_eq_true (by omega)
      have k3 := k H3 ⟨SameX.of (e1.trans (e2.trans e3)), _, _, e3 _ _ (e2 _ _ (e1 _ _ hb0))⟩
      rw [← hd3] at k3
      exact k3
    | none =>
      have hv : v = .non := hv
      subst hv
      have hnl := nolose_of w hf
      refine st_seq (st_no (a_notN (val_var rfl) rfl) ?_)
      refine st_next ?_
      dsimp only
      refine st_seq (st_forR1 (n := 4) (va_cons val_c va_nil) (by omega) (by omega) (fun i σ' H' => ∃ x4 x5 x6 x7, σ' = [some (V.ref b), some (.ref p), some (.ref ra), some .non, x4, x5, x6, x7] ∧ Bx H b H') ⟨_, _, _, _, rfl, SameX.refl _ _, g0, r0, hb0⟩ ?_ ?_)
      · rintro i σ' H1 hi ⟨x4, x5, x6, x7, rfl, bx1⟩
        have hM1 := hM.samex bx1.1 hb0
        have hR1 := hR.samex bx1.1 bra brs
        obtain ⟨g1, r1, hb1⟩ := bx1.box
        have hlr : (rs.map V.ref).length = n := by rw [List.length_map, plen hR.row, w.len]
        refine st_seq (x_set (x_call ((va_cons (val_var rfl) (va_cons ((val_lenS (val_var rfl) (.inl (SqL.of hR1.top))).to (by rw [hlr])) (va_cons val_c va_nil))) _ ?_)))
        refine ⟨b, n, 7, g1, r1, rfl, by have := w.pos; omega, by omega, by omega, by omega, hb1, fun H2 qa q g2 r2 ex2 hb2 hqa hq hl => ?_⟩
        dsimp only
        have bx2 : Bx H b H2 := bx1.more ⟨ex2, g2, r2, hb2⟩
        have hM2 := hM.samex bx2.1 hb0
        have hR2 := hR.samex bx2.1 bra brs
        have qok : QOk n q := fun x hx => hq x hx
        refine st_seq (x_set (lc_sizes hR2 w hqa qok (by omega) (val_var rfl) (val_var rfl) (by intro _; rfl) (by intro _; rfl) fun l H3 e3 hS => ?_))
        dsimp only
        have hM3 := hM2.same e3
        have hqa3 := e3 _ _ hqa
        have hN := Mt.least_plain hs hnl q
        refine sv_no (evt_or (b := false) (b' := false) (evt_ne (evs_plain hM3 hqa3 qok (by omega) (val_var rfl) (val_var rfl)) (fun H4 e4 => evs_of (val_min (hS.same e4) hN (val_var rfl))) rfl (by simp)) fun _ H4 e4 => evt_ne (evs_fewest (hM3.same e4) (e4 _ _ hqa3) qok (by omega) hN (val_var rfl) (val_var rfl)) (fun H5 e5 => evs_of (val_min (hS.same (e4.trans e5)) hN (val_var rfl))) rfl (by simp)) fun H6 e6 => ?_
        exact ⟨_, _, _, _, rfl, (bx2.grow e3).grow e6⟩
      · rintro σ' H1 ⟨x4, x5, x6, x7, rfl, bx1⟩
        dsimp only
        refine st_ret val_c ?_
        exact k H1 bx1
end
end FF
set_option maxHeartbeats 4000000
namespace FF
open PySem PySem.Spec PyProof.Rows L2
section
variable {P : Program} {w : World} {K : PySem.W.Frag} {mg : Str → Option Value} {base : Heap}
/-! ### _law_run_right -/
theorem st_with {H : Hp} {σ : L2.St} {D : Ends} {s : TS} (Ed : L2.St → Hp → Prop) (hd : ∀ σ' H', Ed σ' H' → D.nx σ' H') (h : (∀ σ' H', Ed σ' H' → D.nx σ' H') → s D σ H) : s D σ H := h hd
theorem evs_plainT {H : Hp} {σ : L2.St} {tp tq : TE} {p ra : Addr} {R : Rws} {n : Nat} {q : List Int} (hM : MerAt K H p R n ra) (hq : QOk n q) (hl : q.length ≤ 1000) (vp : Val tp σ H (.ref p)) (vq : EvTu tq σ H (iq q)) :
    EvS (tCB (rLenQ K) (tCons (tCall (sp_plain_fold K) [] E0 (tCons tp (tCons tq tNil))) tNil)) σ H (.int ((Mt.proc (mm R n) [] q).length : Nat)) := fun Q k =>
  x_cb1 (x_call (x_cons (vp _ (x_cons (vq _ fun a H1 e1 ha => ⟨p, ra, a, R, n, q, rfl, hM.same e1, ha, hq, by omega, fun H' t e ht => ⟨t, _, rfl, .inr (SqT.of ht), by
    rw [List.length_map, pfold_len]
    exact k H' (e1.trans e)⟩⟩)))))
theorem evt_eqnil {H : Hp} {σ : L2.St} {tv : TE} {l : Addr} {q : List Int} (hv : Val tv σ H (.ref l)) (hl : H l = some (.lst (iq q))) : EvT (tTest (tOp (rEqD K) tv (tLst tNil))) σ H (decide (q = [])) := fun Q k =>
  hv _ ⟨Nat.zero_le _, fun e0 he0 => ⟨dl q, dl [], dp_dl ((same_new he0) _ _ hl), dp_dl (l := []) upd_same, shaped_dl _, shaped_dl _, _, rfl, by
    rw [eqv_dl]
    exact k _ (same_new he0)⟩⟩
theorem ans_stop {H : Hp} {σ : L2.St} {tv ti tj : TE} {o : F4} {v : V} {i j : Int} (hf : FourV H o v) (h : o = none → ¬ i < j) (hv : Val tv σ H v) (hi : Val ti σ H (.int i)) (hj : Val tj σ H (.int j)) :
    Ans (tAnd (tTest (tOp (fun x y H Q => y = .non ∧ Q (.bl (decide (x = .non))) H) tv (tC .non))) (tTest (tOp (rI0 fun i j => .bl (decide (i < j))) ti tj))) σ H false := by
  cases o with
  | none =>
    have hf : v = .non := hf
    subst hf
    exact ans_and' (b := true) (b' := false) (a_isN hv rfl) fun _ => a_bi hi hj (decide_eq_false (h rfl))
  | some q =>
    obtain ⟨x, y, z, w⟩ := q
    obtain ⟨t, rfl, _⟩ := hf
    exact ans_and' (b := false) (b' := true) (a_isN hv rfl) fun z => by cases z
def sp_law_run_right (K : PySem.W.Frag) : Sp := fun vs H Q _ => ∃ (b p rp ra : Addr) (rs : List Addr) (R : Rws) (n : Nat) (o : F4) (v : V), vs = [.ref b, .ref p, .ref ra, v] ∧ (∃ g r : Int, H b = some (.lst [.int g, .int r])) ∧ MerAt K H p R n rp ∧ RowsL H ra rs R ∧ b ≠ ra ∧ b ∉ rs ∧ FirstR R n o ∧ FourV H o v ∧
  ∀ H', Bx H b H' → Q (.bl true) H'
theorem ok_law_run_right (T : Txt K mg) : FnOk P w K mg base CX0 6 (He.ga K "_law_run_right") T.fd_law_run_right ["_law_box_here", "_law_merger_here", "_law_rows_here", "_law_four"] (sp_law_run_right K) := by
  refine T.F_law_run_right.ok sc_law_run_right (fun vs H Q E h => ?_) (fun cdv A outer s H vs Q E hr h => ?_)
  · obtain ⟨_, _, _, _, _, _, _, _, _, rfl, _⟩ := h; rfl
  · obtain ⟨b, p, rp, ra, rs, R, n, o, v, rfl, hb, hM, hR, bra, brs, hf, hv, k⟩ := h
    refine ⟨_, PSs.nox ((pss_cons (ps_set (i := 4) sc_law_run_right.nd rfl (Or.inl rfl) (pe_call (ok_law_queue T) (hr.mono (by decide)) rfl T.m_law_queue T.F_law_queue.kp (bi_law_queue T) .nil pass0 (pa_cons (pv 0) (pa_cons (pe_callB (lenQ (K := K) rfl) (by rfl) T.z_len boot_len (pa_cons (pv 2) pa_nil)) (pa_cons pe_int pa_nil)))))
        (pss_cons (ps_asg (pe_tup (pa_cons (pv 4) (pa_cons (pe_callB (lenQ (K := K) rfl) (by rfl) T.z_len boot_len (pa_cons (pe_call (ok_plain_fold T) (hr.mono (by decide)) rfl T.m_plain_fold T.F_plain_fold.kp (bi_plain_fold T) .nil pass0 (pa_cons (pv 1) (pa_cons (pv 4) pa_nil))) pa_nil)) pa_nil))) (pgT (K := K) (n := 2) rfl rfl (pgs_cons (pg_name (i := 5) sc_law_run_right.nd rfl (Or.inr rfl)) (pgs_cons (pg_name (i := 6) sc_law_run_right.nd rfl (Or.inl rfl)) pgs_nil))))
        (pss_cons (ps_for PassesOwn.never rfl (pi_range1 (by rfl) T.z_range (pa_cons pe_int pa_nil)) (pg_name (i := 7) sc_law_run_right.nd rfl (Or.inl rfl))
          (pss_cons (ps_setLc (i := 8) (own := [("_law_place", 10)]) rfl sc_law_run_right.nd rfl rfl (sw_true rfl rfl rfl (by decide +kernel)) (pi_range1 (by rfl) T.z_range (pa_cons (pe_op op_sub (pe_callB (lenQ (K := K) rfl) (by rfl) T.z_len boot_len (pa_cons (pv 5) pa_nil)) pe_int) pa_nil)) (blkOk_by (N := ["_law_box_here", "_law_merger_here", "_law_rows_here", "_law_four", "_law_queue_here", "_law_here", "_law_last", "_law_turn", "_law_places", "_law_now", "_law_place", "_law_cut", "_law_parts"]) (sc := defScope s_law_run_right) (own := [("_law_place", 10)]) (by decide +kernel)) (fun _ _ _ _ _ => (pg_name (i := 10) sc_law_run_right.nd rfl (Or.inl rfl))) (fun _ _ _ _ _ => (pts_one (pt_cmpR op_notN (pe_ix (ixL (K := K) rfl) (pe_ix (ixL (K := K) rfl) (pv 2) (pe_ix (ixT (K := K) rfl) (pv 5) (pv 10) (fun _ _ => rfl)) (fun _ _ => rfl)) (pe_ix (ixT (K := K) rfl) (pv 5) (pe_op op_add (pv 10) pe_int) (fun _ _ => rfl)) (fun _ _ => rfl)) pe_non (nomark _)))) (fun _ _ _ _ _ => (pv 10)))
          (pss_cons (ps_if (pt_cmpR (eqQ (K := K) rfl hr.units) (pv 8) (pe_lst pa_nil) (nomark _))
            (pss_one ps_break)
            pss_nil)
          (pss_cons (ps_set (i := 5) sc_law_run_right.nd rfl (Or.inr rfl) (pe_call (ok_fold_at T) (hr.mono (by decide)) rfl T.m_fold_at T.F_fold_at.kp (bi_fold_at T) .nil pass0 (pa_cons (pv 1) (pa_cons (pv 5) (pa_cons (pe_call (ok_law_pick T) (hr.mono (by decide)) rfl T.m_law_pick T.F_law_pick.kp (bi_law_pick T) .nil pass0 (pa_cons (pv 0) (pa_cons (pv 8) pa_nil))) pa_nil)))))
          (pss_cons (ps_set (i := 9) sc_law_run_right.nd rfl (Or.inl rfl) (pe_callB (lenQ (K := K) rfl) (by rfl) T.z_len boot_len (pa_cons (pe_call (ok_plain_fold T) (hr.mono (by decide)) rfl T.m_plain_fold T.F_plain_fold.kp (bi_plain_fold T) .nil pass0 (pa_cons (pv 1) (pa_cons (pv 5) pa_nil))) pa_nil)))
          (pss_cons (ps_if (PW.pt (pw_and (pt_cmpR op_isN (pv 3) pe_non (nomark _)) (pw_and1 (pt_cmpR op_lt (pv 9) (pv 6) (nomark _)))))
            (pss_one (ps_ret pe_bl))
            pss_nil)
          (pss_one (ps_set (i := 6) sc_law_run_right.nd rfl (Or.inl rfl) (pv 9)))))))))
        (pss_cons (ps_set (i := 11) sc_law_run_right.nd rfl (Or.inl rfl) (pe_call (ok_law_take T) (hr.mono (by decide)) rfl T.m_law_take T.F_law_take.kp (bi_law_take T) .nil pass0 (pa_cons (pv 0) (pa_cons (pe_op op_add (pe_callB (lenQ (K := K) rfl) (by rfl) T.z_len boot_len (pa_cons (pv 4) pa_nil)) pe_int) pa_nil))))
        (pss_cons (ps_set (i := 12) sc_law_run_right.nd rfl (Or.inl rfl) (pe_op op_add (pe_callB (lenQ (K := K) rfl) (by rfl) T.z_len boot_len (pa_cons (pe_call (ok_plain_fold T) (hr.mono (by decide)) rfl T.m_plain_fold T.F_plain_fold.kp (bi_plain_fold T) .nil pass0 (pa_cons (pv 1) (pa_cons (pe_slice (sliceQ (K := K) rfl) (pv 4) po_none (po_some (pv 11))) pa_nil))) pa_nil)) (pe_callB (lenQ (K := K) rfl) (by rfl) T.z_len boot_len (pa_cons (pe_call (ok_plain_fold T) (hr.mono (by decide)) rfl T.m_plain_fold T.F_plain_fold.kp (bi_plain_fold T) .nil pass0 (pa_cons (pv 1) (pa_cons (pe_slice (sliceQ (K := K) rfl) (pv 4) (po_some (pv 11)) po_none) pa_nil))) pa_nil))))
        (pss_one (ps_ret (pe_or (pe_cmpR op_notN (pv 3) pe_non (nomark _)) (pe_one (pe_cmpR op_le (pe_callB (lenQ (K := K) rfl) (by rfl) T.z_len boot_len (pa_cons (pe_call (ok_plain_fold T) (hr.mono (by decide)) rfl T.m_plain_fold T.F_plain_fold.kp (bi_plain_fold T) .nil pass0 (pa_cons (pv 1) (pa_cons (pv 4) pa_nil))) pa_nil)) (pv 12) (nomark _)))))))))))), ?_⟩
    have w := hM.wf
    have w2 := w.le
    have hs := sound_mm w hM.sound
    obtain ⟨g0, r0, hb0⟩ := hb
    have hlr : (rs.map V.ref).length = n := by rw [List.length_map, plen hR.row, w.len]
    refine st_seq (x_set (x_call ((va_cons (val_var rfl) (va_cons ((val_lenS (val_var rfl) (.inl (SqL.of hR.top))).to (by rw [hlr])) (va_cons val_c va_nil))) _ ?_)))
    refine ⟨b, n, 24, g0, r0, rfl, by have := w.pos; omega, by omega, by omega, by omega, hb0, fun H2 qa q g2 r2 ex2 hb2 hqa hq hl => ?_⟩
    dsimp only
    have qok : QOk n q := fun x hx => hq x hx
    have bx2 : Bx H b H2 := ⟨ex2, g2, r2, hb2⟩
    have hM2 := hM.samex bx2.1 hb0
    refine st_seq (x_asg (x_tup2 ((val_var rfl) _ (evs_plain hM2 hqa qok (by omega) (val_var rfl) (val_var rfl) _ fun H3 e3 => ⟨by show 2 ≤ sizeLine; decide, fun tp htp => ?_⟩))))
    refine ⟨tp, _, rfl, SqT.of upd_same, rfl, _, _, rfl, _, _, rfl, rfl, ?_⟩
    dsimp only
    have e4 := same_new htp (o := .tup [.ref qa, .int ((Mt.proc (mm R n) [] q).length : Nat)])
    have bx4 := (bx2.grow e3).grow e4
    have hqa4 := e4 _ _ (e3 _ _ hqa)
    refine st_seq (st_with (fun σ' H' => ∃ x5 x6 x7 x8 x9 x10, σ' = [some (V.ref b), some (.ref p), some (.ref ra), some v, some (.ref qa), x5, x6, x7, x8, x9, x10, none, none] ∧ Bx H b H' ∧ H' qa = some (.tup (iq q))) ?_ (fun fin => ?_))
    · rintro σ' H5 ⟨x5, x6, x7, x8, x9, x10, rfl, bx5, hqa5⟩
      have hlq : (iq q).length = q.length := List.length_map ..
      have hM5 := hM.samex bx5.1 hb0
      dsimp only
      refine st_seq (x_set (take_ (m := (q.length : Int) + 1) bx5.box (val_var rfl) (val_add ((val_lenS (val_var rfl) (.inr (SqT.of hqa5))).to (by rw [hlq])) val_c) (by omega) (by omega) fun d H6 bx d0 d1 => ?_))
      obtain ⟨c, rfl⟩ := Int.eq_ofNat_of_zero_le d0
      dsimp only
      have bx6 := bx5.more bx
      have hqb : qa ≠ b := ne_of hqa5 bx5.box.choose_spec.choose_spec (by intro z; cases z)
      have hqa6 := bx.1 _ _ hqb hqa5
      have hM6 := hM.samex bx6.1 hb0
      refine st_seq (x_set (x_op (evs_plainT (q := q.take c) hM6 (fun x hx => qok x (List.mem_of_mem_take hx)) (by rw [List.length_take]; omega) (val_var rfl) (tu_to (tu_head (i := c) (tu_val (val_var rfl) hqa6) (fun _ _ => val_var rfl) (by rw [hlq]; omega)) (by simp [iq, List.map_take])) _ fun H7 e7 => ?_)))
      refine evs_plainT (q := q.drop c) (hM6.same e7) (fun x hx => qok x (List.mem_of_mem_drop hx)) (by rw [List.length_drop]; omega) (val_var rfl) (tu_to (tu_tail (i := c) (tu_val (val_var rfl) (e7 _ _ hqa6)) (fun _ _ => val_var rfl)) (by simp [iq, List.map_drop])) _ fun H8 e8 => ?_
      refine ⟨_, _, rfl, rfl, ?_⟩
      dsimp only
      have bx8 := (bx6.grow e7).grow e8
      have hqa8 := e8 _ _ (e7 _ _ hqa6)
      have hM8 := hM.samex bx8.1 hb0
      refine x_ret ?_
      cases o with
      | some q4 =>
        obtain ⟨a, b', c', y⟩ := q4
        obtain ⟨t, rfl, ht⟩ := hv
        exact (val_notN (val_var rfl)) _ ⟨true, rfl, iteT (k _ bx8)⟩
      | none =>
        have hv : v = .non := hv
        subst hv
        have hnl := nolose_of w hf
        refine (val_notN (val_var rfl)) _ ⟨false, rfl, iteF ?_⟩
        refine x_op (evs_plain hM8 hqa8 qok (by omega) (val_var rfl) (val_var rfl) _ fun H9 e9 => (val_var rfl) _ ⟨_, _, rfl, rfl, ?_⟩)
        have hc := Mt.best_cut hs hnl (q.take c) (q.drop c)
        rw [List.take_append_drop] at hc
        have hd : decide ((((Mt.proc (mm R n) [] q).length : Nat) : Int) ≤ (((Mt.proc (mm R n) [] (q.take c)).length : Nat) : Int) + (((Mt.proc (mm R n) [] (q.drop c)).length : Nat) : Int)) = true := decide_eq_true (by omega)
        have k9 := k H9 (bx8.grow e9)
        rw [← hd] at k9
        exact k9
    · refine st_forR1 (n := 12) (va_cons val_c va_nil) (by omega) (by omega) (fun i σ' H' => ∃ (u : Addr) (q' : List Int) (x7 x8 x9 x10 : Option V), σ' = [some (V.ref b), some (.ref p), some (.ref ra), some v, some (.ref qa), some (.ref u), some (.int ((Mt.proc (mm R n) [] q').length : Nat)), x7, x8, x9, x10, none, none] ∧ Bx H b H' ∧ H' qa = some (.tup (iq q)) ∧ H' u = some (.tup (iq q')) ∧ QOk n q' ∧ q'.length ≤ 24)
        ⟨qa, q, _, _, _, _, rfl, bx4, hqa4, hqa4, qok, by omega⟩ ?_ ?_
      · rintro i σ' H5 hi ⟨u, q', x7, x8, x9, x10, rfl, bx5, hqa5, hu, qok', hl'⟩
        have hlq : (iq q').length = q'.length := List.length_map ..
        have hR5 := hR.samex bx5.1 bra brs
        have hM5 := hM.samex bx5.1 hb0
        refine st_seq (x_set (x_lcR1 ((val_sub ((val_lenS (val_var rfl) (.inr (SqT.of hu))).to (by rw [hlq])) val_c) _ ⟨(q'.length : Int) - 1, rfl, by omega, by omega, fun D hD => ?_⟩)))
        refine lc_range (lo := 0) (n := ((q'.length : Int) - 1).toNat) (fun i H' => ∃ ps : List Int, Same H5 H' ∧ H' D = some (.lst (iq ps)) ∧ ps.length ≤ i ∧ ∀ j, j ∈ ps → ∃ (a : Nat) (x y z : Int), j = a ∧ Pl R n q' a x y z)
          ⟨[], same_new hD, upd_same, Nat.le_refl _, fun j hj => by cases hj⟩ ?_ ?_
        · rintro i H6 hi ⟨ps, e6, hps, hpl, hpv⟩
          have e0 : (0 : Int) + (i : Int) = (i : Int) := Int.zero_add _
          rw [e0]
          have hi2 : i + 1 < q'.length := by omega
          obtain ⟨x, hx⟩ : ∃ x, q'[i]? = some x := ⟨q'[i]'(by omega), List.getElem?_eq_getElem (by omega)⟩
          obtain ⟨y, hy⟩ : ∃ y, q'[i + 1]? = some y := ⟨q'[i + 1]'hi2, List.getElem?_eq_getElem hi2⟩
          have cx := qok' x (List.mem_of_getElem? hx)
          have cy := qok' y (List.mem_of_getElem? hy)
          have hu6 := e6 _ _ hu
          have hR6 := hR5.same e6
          refine ⟨rfl, ?_⟩
          cases ez : ent R x y with
          | none =>
            refine (a_notN (b := false) (val_entL hR6 w (val_var rfl) (val_ixT (val_var rfl) (val_var rfl) (SqT.of hu6) (ixQ hx)) (val_ixT (val_var rfl) (val_add (val_var rfl) val_c) (SqT.of hu6) (ixQ (i := i + 1) hy)) cx cy) (by rw [ez]; rfl)) _ ?_
            exact iteF' ⟨ps, e6, hps, by omega, hpv⟩
          | some z =>
            refine (a_notN (b := true) (val_entL hR6 w (val_var rfl) (val_ixT (val_var rfl) (val_var rfl) (SqT.of hu6) (ixQ hx)) (val_ixT (val_var rfl) (val_add (val_var rfl) val_c) (SqT.of hu6) (ixQ (i := i + 1) hy)) cx cy) (by rw [ez]; rfl)) _ ?_
            refine iteT' ?_
            refine ⟨_, rfl, iq ps, hps, ?_, ps ++ [(i : Int)], same_mut e6 hD, ?_, ?_, ?_⟩
            · rw [List.length_map]
              exact Nat.lt_of_le_of_lt (show ps.length ≤ 100 by omega) (by decide)
            · rw [upd_same]
              simp [iq]
            · rw [List.length_append]
              show ps.length + 1 ≤ i + 1
              omega
            · intro j hj
              rcases List.mem_append.mp hj with h | h
              · exact hpv j h
              · exact ⟨i, x, y, z, List.mem_singleton.mp h, hx, hy, ez⟩
        · rintro H6 ⟨ps, e6, hps, hpl, hpv⟩
          dsimp only
          have bx6 := bx5.grow e6
          have hDb : D ≠ b := fun z => by
            obtain ⟨g, r, h⟩ := bx5.box
            rw [z, h] at hD
            cases hD
          have hM6 := hM.samex bx6.1 hb0
          refine st_seq (sv_if (evt_eqnil (val_var rfl) hps) (fun _ H7 e7 => st_brk (fin _ _ ⟨_, _, _, _, _, _, rfl, bx6.grow e7, e7 _ _ (e6 _ _ hqa5)⟩)) (fun h0 H7 e7 => ?_))
          refine st_next ?_
          dsimp only
          have bx7 := bx6.grow e7
          obtain ⟨g7, r7, hb7⟩ := bx7.box
          have hp0 : 0 < ps.length := by
            cases ps with
            | nil => exact absurd (of_decide_eq_false h0) (fun z => z rfl)
            | cons _ _ => exact Nat.succ_pos _
          refine st_seq (x_set (x_call (x_cons ((val_var rfl) _ (x_cons ((val_var rfl) _ (x_cons (x_call ?_))))))))
          refine (va_cons (val_var rfl) (va_cons (val_var rfl) va_nil)) _ ?_
          refine ⟨b, D, g7, r7, ps, rfl, hb7, e7 _ _ hps, hDb, hp0, by omega, fun j g8 r8 hj => ?_⟩
          obtain ⟨a, x, y, z, rfl, pl⟩ := hpv j hj
          have bxb : Bx H7 b (upd H7 b (.lst [.int g8, .int r8])) := ⟨samex_upd, g8, r8, upd_same⟩
          have bx8 := bx7.more bxb
          have hM8 := hM.samex bx8.1 hb0
          have hu7 := e7 _ _ (e6 _ _ hu)
          have hqa7 := e7 _ _ (e6 _ _ hqa5)
          have hu8 := bxb.1 _ _ (ne_of hu7 hb7 (by intro z; cases z)) hu7
          have hqa8 := bxb.1 _ _ (ne_of hqa7 hb7 (by intro z; cases z)) hqa7
          refine ⟨p, rp, u, R, n, q', a, x, y, z, rfl, hM8, hu8, qok', by omega, pl, fun t H9 e9 ht => ?_⟩
          dsimp only
          have hst : Mt.Step (mm R n) q' (once R q' a z) := (step_once qok').mpr ⟨a, x, y, z, pl.hx, pl.hy, pl.hz, rfl⟩
          have qok9 := qok_once w qok' pl.hx pl.hy pl.hz
          have hl9 := hst.len
          have hM9 := hM8.same e9
          have bx9 := bx8.grow e9
          refine st_seq (x_set (evs_plain hM9 ht qok9 (by omega) (val_var rfl) (val_var rfl) _ fun H10 e10 => ?_))
          dsimp only
          have bx10 := bx9.grow e10
          have hv10 := hv.sx bx10.1 hb0
          refine st_seq (st_no (ans_stop hv10 (fun ho => ?_) (val_var rfl) (val_var rfl) (val_var rfl)) ?_)
          · subst ho
            have := Mt.best_step hs (nolose_of w hf) hst (A := []) trivial
            omega
          · refine st_next ?_
            dsimp only
            refine st_set (val_var rfl) ?_
            exact ⟨t, once R q' a z, _, _, _, _, rfl, bx10, e10 _ _ (e9 _ _ hqa8), e10 _ _ ht, qok9, by omega⟩
      · rintro σ' H5 ⟨u, q', x7, x8, x9, x10, rfl, bx5, hqa5, _⟩
        exact fin _ _ ⟨_, _, _, _, _, _, rfl, bx5, hqa5⟩
end
end FF
set_option maxHeartbeats 4000000
namespace FF
open PySem PySem.Spec PyProof.Rows L2
section
variable {P : Program} {w : World} {K : PySem.W.Frag} {mg : Str → Option Value} {base : Heap}
/-! ### all but the tables stay -/
theorem extn_l {K : PySem.W.Frag} {H H' : Hp} {a : Addr} {xs : List V} (e : LamX.ExtN H H') (h : SqL K H a xs) : SqL K H' a xs := by
  rcases h with (h | ⟨o, h⟩) | h
  · exact .inl (.inl (e _ _ h (by intro p q; cases q)))
  · exact .inl (.inr ⟨o, e _ _ h (by intro p q; cases q)⟩)
  · exact .inr h
theorem extn_t {K : PySem.W.Frag} {H H' : Hp} {a : Addr} {xs : List V} (e : LamX.ExtN H H') (h : SqT K H a xs) : SqT K H' a xs := by
  rcases h with (h | ⟨o, h⟩) | h
  · exact .inl (.inl (e _ _ h (by intro p q; cases q)))
  · exact .inl (.inr ⟨o, e _ _ h (by intro p q; cases q)⟩)
  · exact .inr h
theorem MerAt.extn {K : PySem.W.Frag} {H H' : Hp} {p ra : Addr} {R : Rws} {n : Nat} (h : MerAt K H p R n ra) (e : LamX.ExtN H H') : MerAt K H' p R n ra := by
  obtain ⟨⟨dx, h1⟩, ⟨rs, h2, h2'⟩, ⟨ts, h3, h4⟩, h5, h6⟩ := h
  exact ⟨⟨dx, e _ _ h1 (by intro p q; cases q)⟩, ⟨rs, extn_t e h2, pmap h2' fun r row q => extn_t e q⟩, ⟨ts, e _ _ h3 (by intro p q; cases q), h4⟩, h5, h6⟩
theorem RowsL.extn {H H' : Hp} {a : Addr} {rs : List Addr} {R : Rws} (h : RowsL H a rs R) (e : LamX.ExtN H H') : RowsL H' a rs R :=
  ⟨e _ _ h.top (by intro p q; cases q), pmap h.row fun r row q => e _ _ q (by intro p q; cases q)⟩
theorem FourV.extn {H H' : Hp} {o : F4} {v : V} (h : FourV H o v) (e : LamX.ExtN H H') : FourV H' o v := by
  cases o with
  | none => exact h
  | some q =>
    obtain ⟨x, y, z, w⟩ := q
    obtain ⟨t, h1, h2⟩ := h
    exact ⟨t, h1, e _ _ h2 (by intro p q; cases q)⟩
theorem extn_same {H H' : Hp} (e : Same H H') : LamX.ExtN H H' := LamX.ExtN.of fun b o h => e b o h
theorem bx_same {H H' : Hp} {b : Addr} {o : HO} (hb : H b = none) (bx : Bx (upd H b o) b H') : Same H H' := fun x u h => by
  have hx : x ≠ b := fun z => by rw [z, hb] at h; cases h
  exact bx.1 x u hx (by rw [upd_ne hx]; exact h)
theorem rows_mem {H : Hp} {a : Addr} {rs : List Addr} {R : Rws} (h : RowsL H a rs R) : ∀ r, r ∈ rs → H r ≠ none := by
  have k : ∀ {rs : List Addr} {R : Rws}, Paired (fun r row => H r = some (.lst (row.map eV))) rs R → ∀ r, r ∈ rs → H r ≠ none := by
    intro rs R p
    induction p with
    | nil => intro r hr; cases hr
    | cons q _ ih =>
      intro r hr
      rcases List.mem_cons.mp hr with e | e
      · rw [e, q]; intro z; cases z
      · exact ih r e
  exact k h.row
/-! ### a four whose merges are uneven, nothing lost -/
theorem hand_of {R : Rws} {n : Nat} {x y z : Int} (w : Wf R n) (hx : Cm n x) (hy : Cm n y) (hz : Cm n z) (h : HandR R x y z) : Mt.Hand (mm R n) x y z := by
  obtain ⟨p, q, h1, h2, h3, h4, h5⟩ := h
  exact ⟨p, q, mm_cmd hx hy h1 h3, mm_cmd hy hz h2 h4, (mm_none (w.cm hx hy h1 h3) hz).mpr h5⟩
theorem four_more {R : Rws} {n : Nat} {l : List Int} (w : Wf R n) (s : SoundR R n) (hf : FirstR R n none) (h : FourOk R n l) : QOk n l ∧ l.length = 4 ∧ (Mt.proc (mm R n) [] l).length ≤ 2 ∧ ∃ r, Mt.FS (mm R n) l l.length r 3 := by
  obtain ⟨x, y, z, u, rfl, hx, hy, hz, hu, hk⟩ := h
  have hs := sound_mm w s
  refine ⟨fun i hi => ?_, rfl, ?_⟩
  · simp at hi
    rcases hi with rfl | rfl | rfl | rfl <;> assumption
  rcases hk with ⟨h1, h2⟩ | ⟨h1, h2, q, h3, h4⟩ | ⟨h1, h2, q, h3, h4⟩
  · obtain ⟨k1, k2⟩ := Mt.four_middle hs (hand_of w hx hy hz h1) (hand_of w hy hz hu h2)
    exact ⟨k1, _, k2⟩
  · have hq : q ≠ -1 := by
      obtain ⟨p, _, g1, _, g3, _⟩ := h1
      rw [h3] at g1
      cases g1
      exact g3
    have cq := w.cm hy hz h3 hq
    obtain ⟨k1, r, k2⟩ := Mt.four_left hs (hand_of w hy hz hu h1) ((mm_none hx hy).mpr h2) (mm_cmd hy hz h3 hq) (fun e => h4 ((mm_none hx cq).mp e))
    exact ⟨k1, _, k2⟩
  · exfalso
    obtain ⟨p, q', g1, g2, g3, g4, g5⟩ := h1
    rw [h3] at g2
    cases g2
    exact hf x y z u hx hy hz hu ⟨p, q, g1, h3, g3, g4, g5, h2, h4⟩
/-! ### the two findings -/
def reprF : F4 → Str
  | none => "None"
  | some (a, b, c, y) => (tq [a, b, c, y]).shown
theorem first_sm {R : Rws} {n : Nat} {a b c y : Int} (hn : n ≤ 12) (hf : FirstR R n (some (a, b, c, y))) : Sm [a, b, c, y] := by
  obtain ⟨h1, h2, h3, h4, _⟩ := hf
  refine ⟨by show 4 ≤ 100; omega, fun x hx => ?_⟩
  simp at hx
  have := h1.1; have := h1.2; have := h2.1; have := h2.2; have := h3.1; have := h3.2; have := h4.1; have := h4.2
  rcases hx with rfl | rfl | rfl | rfl <;> omega
theorem evs_four {K : PySem.W.Frag} {H : Hp} {σ : L2.St} {tp : TE} {p rp : Addr} {R : Rws} {n : Nat} {o : F4} {Q : VK} (hM : MerAt K H p R n rp) (hf : FirstR R n o) (vp : Val tp σ H (.ref p)) (k : ∀ v H', Same H H' → FourV H' o v → Q v H') : tCall (sp_losing_four K) [] E0 (tCons tp tNil) σ H Q := by
  refine x_call ((va_cons vp va_nil) _ ⟨p, rp, R, n, rfl, hM, fun o' ho' => ?_⟩)
  obtain rfl := ho'.uniq hf
  cases o' with
  | none => exact fun H' e => k _ H' e rfl
  | some q =>
    obtain ⟨a, b, c, y⟩ := q
    exact fun t H' e ht => k _ H' e ⟨t, rfl, ht⟩
theorem repr_four {K : PySem.W.Frag} {H : Hp} {R : Rws} {n : Nat} {o : F4} {v : V} {Q : VK} (hn : n ≤ 12) (hf : FirstR R n o) (hv : FourV H o v) (k : Q (.str (reprF o)) H) : rReprQ K [v] H Q := by
  cases o with
  | none =>
    have hv : v = .non := hv
    exact .inl ⟨by rw [hv], k⟩
  | some q =>
    obtain ⟨a, b, c, y⟩ := q
    obtain ⟨t, rfl, ht⟩ := hv
    exact .inr ⟨t, _, rfl, SqT.of ht, first_sm hn hf, k⟩
theorem dp_tq {K : PySem.W.Frag} {H : Hp} {a : Addr} {q : List Int} (h : H a = some (.tup (iq q))) : Dp K H (.ref a) (tq q) := .tup (SqT.of h) (dpall_ints q)
theorem shaped_tq (l : List Int) : SeqAt.shaped (tq l) = true := by
  unfold SeqAt.shaped
  show (PyData.canLay0 (.tuple _) && decide (PyData.depth (.tuple _) ≤ 64)) = true
  rw [PyData.canLay0, lay_ints, PyData.depth, PySem.W.depth_ints]
  rfl
theorem eqv_tq (l l' : List Int) : PyData.eqv (tq l) (tq l') = decide (l = l') := by
  show PyData.eqv (.tuple _) (.tuple _) = _
  rw [PyData.eqv]
  exact PySem.W.ked_eqvAll l l'
theorem ne_four {K : PySem.W.Frag} {H : Hp} {o : F4} {v v' : V} {Q : VK} (h : FourV H o v) (h' : FourV H o v') (k : Q (.bl false) H) : rNeD K v v' H Q := by
  cases o with
  | none =>
    have h : v = .non := h
    have h' : v' = .non := h'
    subst h
    subst h'
    exact ⟨_, _, .non, .non, rfl, rfl, k⟩
  | some q =>
    obtain ⟨a, b, c, y⟩ := q
    obtain ⟨t, rfl, ht⟩ := h
    obtain ⟨t', rfl, ht'⟩ := h'
    refine ⟨_, _, dp_tq ht, dp_tq ht', shaped_tq _, shaped_tq _, ?_⟩
    rw [eqv_tq, decide_eq_true rfl]
    exact k
/-- the two say the same -/
theorem evt_same {K : PySem.W.Frag} {H : Hp} {σ : L2.St} {tp tv : TE} {p rp : Addr} {R : Rws} {n : Nat} {o : F4} {v : V} (hM : MerAt K H p R n rp) (hf : FirstR R n o) (hv : FourV H o v) (vp : Val tp σ H (.ref p)) (vv : ∀ H', Val tv σ H' v) (vp' : ∀ H', Val tp σ H' (.ref p)) :
    EvT (tOr (tTest (tOp rNe (tCB (rReprQ K) (tCons (tCall (sp_losing_four K) [] E0 (tCons tp tNil)) tNil)) (tCB (rReprQ K) (tCons tv tNil)))) (tTest (tOp (rNeD K) (tCall (sp_losing_four K) [] E0 (tCons tp tNil)) tv))) σ H false := by
  have hn := hM.wf.le
  refine evt_or (b := false) (b' := false) (fun Q q => x_test (x_op (x_cb1 (evs_four hM hf vp fun u H1 e1 hu => repr_four hn hf hu (x_cb1 (vv _ _ (repr_four hn hf (hv.extn (extn_same e1)) ⟨rfl, _, rfl, ?_⟩))))))) fun _ H1 e1 Q q => x_test (x_op (evs_four (hM.same e1) hf (vp' _) fun u H2 e2 hu => vv _ _ (ne_four hu (hv.extn (extn_same (e1.trans e2))) ⟨_, rfl, q H2 e2⟩)))
  rw [decide_eq_true rfl]
  exact q H1 e1
/-! ### the rows laid by hand -/
def r3 (t : Int) : Rws := (((blank 6).set 0 ((List.replicate 6 none).set 1 (some 4))).set 1 ((List.replicate 6 none).set 2 (some 5))).set 5 ((List.replicate 6 none).set 3 (some t))
theorem sound_fin {R : Rws} {n : Nat} (h : ∀ a b c : Fin n, (match ent R ((a.val : Nat) : Int) ((b.val : Nat) : Int), ent R ((b.val : Nat) : Int) ((c.val : Nat) : Int) with
    | some p, some q => decide (metLI R p ((c.val : Nat) : Int) = metRI R ((a.val : Nat) : Int) q)
    | _, _ => true) = true) : SoundR R n := by
  intro a b c p q ha hb hc h1 h2
  obtain ⟨a', rfl⟩ := Int.eq_ofNat_of_zero_le ha.1
  obtain ⟨b', rfl⟩ := Int.eq_ofNat_of_zero_le hb.1
  obtain ⟨c', rfl⟩ := Int.eq_ofNat_of_zero_le hc.1
  have k := h ⟨a', by have := ha.2; omega⟩ ⟨b', by have := hb.2; omega⟩ ⟨c', by have := hc.2; omega⟩
  simp only [h1, h2] at k
  exact of_decide_eq_true k
theorem r3_sound {t : Int} (h0 : 0 ≤ t) (h1 : t < 4) : SoundR (r3 t) 6 := by
  have k : t = 0 ∨ t = 1 ∨ t = 2 ∨ t = 3 := by omega
  rcases k with rfl | rfl | rfl | rfl <;> exact sound_fin (by decide +kernel)
theorem ent_fin {R : Rws} {n : Nat} (h : (R.all fun r => r.all fun x => match x with
    | some i => decide (-1 ≤ i ∧ i < (n : Int))
    | none => true) = true) : ∀ r ∈ R, ∀ i : Int, some i ∈ r → -1 ≤ i ∧ i < n := fun r hr i hi => of_decide_eq_true (List.all_eq_true.mp (List.all_eq_true.mp h r hr) (some i) hi)
theorem r3_wf {t : Int} (h0 : 0 ≤ t) (h1 : t < 4) : Wf (r3 t) 6 := by
  have k : t = 0 ∨ t = 1 ∨ t = 2 ∨ t = 3 := by omega
  rcases k with rfl | rfl | rfl | rfl <;> exact ⟨rfl, by decide +kernel, ent_fin (by decide +kernel), by omega, by omega⟩
theorem mat_put {K : PySem.W.Frag} {H : Hp} {σ : L2.St} {tr tp tq : TE} {b a : Addr} {rs : List Addr} {M : Rws} {p q : Nat} {e : Int} {row : List (Option Int)} {Q : L2.St → Hp → Prop} (hM : Mat H b a rs M) (hrow : M[p]? = some row) (hq : q < row.length) (h1 : Val tr σ H (.ref a)) (h2 : Val tp σ H (.int (p : Int))) (h3 : Val tq σ H (.int (q : Int)))
    (k : ∀ H', (∀ x o, x ∉ rs → H x = some o → H' x = some o) → Mat H' b a rs (M.set p (row.set q (some e))) → Q σ H') : gSub (tOp (rIxL K) tr tp) tq rSetL (.int e) σ H Q := by
  obtain ⟨r, hr1, hr2⟩ := pget hM.rows.row hrow
  refine (val_ixL h1 h2 (SqL.of hM.rows.top) (atI_nat (by rw [List.getElem?_map, hr1]; rfl))) _ (h3 _ ⟨r, _, _, q, rfl, rfl, hr2, ixN_nat ?_, ?_⟩)
  · rw [List.length_map]
    exact hq
  · refine k _ (fun x o hx h => ?_) (hM.put (e := some e) hr1 hrow)
    rw [upd_ne fun z => hx (by rw [z]; exact List.mem_of_getElem? hr1)]
    exact h
theorem x_tup3 {H : Hp} {σ : L2.St} {t1 t2 t3 : TE} {Q : VK} (h : t1 σ H fun x H1 => t2 σ H1 fun y H2 => t3 σ H2 fun z H3 => [x, y, z].length ≤ sizeLine ∧ ∀ p, H3 p = none → Q (.ref p) (upd H3 p (.tup [x, y, z]))) : tTup (tCons t1 (tCons t2 (tCons t3 tNil))) σ H Q := h
end
end FF
set_option maxHeartbeats 4000000
namespace FF
open PySem PySem.Spec PyProof.Rows L2
section
variable {P : Program} {w : World} {K : PySem.W.Frag} {mg : Str → Option Value} {base : Heap}
/-! ### law -/
theorem put_same {H H4 H5 : Hp} {ts : List Addr} (e : Same H H4) (hn : ∀ t, t ∈ ts → H t = none) (k : ∀ x o, x ∉ ts → H4 x = some o → H5 x = some o) : Same H H5 := fun x o h => k x o (fun z => by rw [hn x z] at h; cases h) (e x o h)
theorem giveF {o : F4} {H : Hp} {Q : VK} (k : ∀ v H', Same H H' → FourV H' o v → Q v H') : GiveF o H Q := by
  cases o with
  | none => exact fun H' e => k _ H' e rfl
  | some q =>
    obtain ⟨a, b, c, y⟩ := q
    exact fun t H' e ht => k _ H' e ⟨t, rfl, ht⟩
theorem st_seq2 {D : Ends} {σ : L2.St} {H : Hp} {s1 s2 s3 : TS} (P : L2.St → Hp → Prop) (h3 : ∀ σ' H', P σ' H' → s3 D σ' H') (h : (∀ σ' H', P σ' H' → s3 D σ' H') → tSeq s1 (tSeq s2 s3) D σ H) : tSeq s1 (tSeq s2 s3) D σ H := h h3
def sp_law (K : PySem.W.Frag) : Sp := fun vs H Q _ => ∃ (a : Addr) (ns : List Int), vs = [.ref a] ∧ SqL K H a (ns.map V.int) ∧ LamX.Tabs (tabT K) H ∧ ∀ H', Q (.bl true) H'
theorem run_law (T : Txt K mg) (TB : LamX.TabB base mg (cLam K) (pLam K)) {A : Around} {outer : List Env} {s : Shared} {H : Hp} {args : Args} {us : List Value} {vs : List V} {Q : VK} {E : XK} (hr : Room 7 A) (hgd : A.guards = some []) (e0 : Env0 P w K mg base A outer s H) (hb : BindsTo s T.fd_law args (([("_law_script" : Str)]).zip us)) (r : Vals vs us) (h : sp_law K vs H Q E) :
    codeAny (model P w) A (.call (.ref (He.ga K "law")) args) (CR CX0 outer P w H s Q E) s := by
  obtain ⟨oc, od, dV, kV, doc, pm, an, cdv, ct, osl, efd, lk, hcd, _, _⟩ := T.F_law.ex
  rw [efd] at lk hb
  refine LamX.run_ofS lk hcd sc_law hr e0 hb r (by obtain ⟨_, _, rfl, _⟩ := h; rfl) fun hr => ?_
  · obtain ⟨a, ns, rfl, hS, hT, k⟩ := h
    refine ⟨_, PSs.nox ((pss_cons (ps_set (i := 1) sc_law.nd rfl (Or.inl rfl) (pe_call (ok_law_box T) (hr.mono (by decide)) rfl T.m_law_box T.F_law_box.kp (bi_law_box T) .nil pass0 (pa_cons (pv 0) (pa_cons pe_int pa_nil))))
        (pss_cons (ps_set (i := 2) sc_law.nd rfl (Or.inl rfl) (pe_call (ok_law_merger T) (hr.mono (by decide)) rfl T.m_law_merger T.F_law_merger.kp (bi_law_merger T) .nil pass0 (pa_cons (pv 1) pa_nil)))
        (pss_cons (ps_if (pt_cmpR op_eq (pe_call (ok_law_take T) (hr.mono (by decide)) rfl T.m_law_take T.F_law_take.kp (bi_law_take T) .nil pass0 (pa_cons (pv 1) (pa_cons pe_int pa_nil))) pe_int (nomark _))
          (pss_cons (ps_setLc (i := 2) (own := [("_law_one", 3)]) rfl sc_law.nd rfl rfl (sw_true rfl rfl rfl (by decide +kernel)) (pi_range1 (by rfl) T.z_range (pa_cons pe_int pa_nil)) (blkOk_by (N := ["_law_script", "_law_box_here", "_law_rows_here", "_law_one", "_law_merger_here", "_law_mirror", "_law_told", "_law_due", "_law_uneven", "_law_k", "_law_row"]) (sc := defScope s_law) (own := [("_law_one", 3)]) (by decide +kernel)) (fun _ _ _ _ _ => (pg_name (i := 3) sc_law.nd rfl (Or.inl rfl))) (fun _ _ _ _ _ => pts_nil) (fun _ _ _ _ _ => (pe_op op_rep (pe_lst (pa_cons pe_non pa_nil)) pe_int)))
          (pss_one (ps_asg (pe_tup (pa_cons pe_int (pa_cons pe_int (pa_cons (pe_call (ok_law_take T) (hr.mono (by decide)) rfl T.m_law_take T.F_law_take.kp (bi_law_take T) .nil pass0 (pa_cons (pv 1) (pa_cons pe_int pa_nil))) pa_nil)))) (pgT (K := K) (n := 3) rfl rfl (pgs_cons (pg_sub (pe_ix (ixL (K := K) rfl) (pv 2) pe_int (fun _ _ => rfl)) pe_int set_list) (pgs_cons (pg_sub (pe_ix (ixL (K := K) rfl) (pv 2) pe_int (fun _ _ => rfl)) pe_int set_list) (pgs_cons (pg_sub (pe_ix (ixL (K := K) rfl) (pv 2) pe_int (fun _ _ => rfl)) pe_int set_list) pgs_nil)))))))
          pss_nil)
        (pss_cons (ps_set (i := 4) sc_law.nd rfl (Or.inl rfl) (pe_make T.mk_Merger (ok_Merger_init T) (hr.mono (by decide)) rfl T.mC_Merger (bi_Merger_init T) .nil pass0 (pa_cons (pv 2) pa_nil)))
        (pss_cons (ps_set (i := 5) sc_law.nd rfl (Or.inl rfl) (pe_call (ok_mirror_merger T) (hr.mono (by decide)) rfl T.m_mirror_merger T.F_mirror_merger.kp (bi_mirror_merger T) .nil pass0 (pa_cons (pv 4) pa_nil)))
        (pss_cons (ps_for PassesOwn.never rfl (piT (K := K) rfl (pe_tup (pa_cons (pe_tup (pa_cons (pv 4) (pa_cons (pv 2) pa_nil))) (pa_cons (pe_tup (pa_cons (pv 5) (pa_cons (pe_lc (own := [("_law_row", 10)]) rfl sc_law.nd (piT (K := K) rfl (fldQ (K := K) rfl (pv 5) rfl)) (blkOk_by (N := ["_law_script", "_law_box_here", "_law_rows_here", "_law_one", "_law_merger_here", "_law_mirror", "_law_told", "_law_due", "_law_uneven", "_law_k", "_law_row"]) (sc := defScope s_law) (own := [("_law_row", 10)]) (by decide +kernel)) (fun _ _ _ _ _ => (pg_name (i := 10) sc_law.nd rfl (Or.inl rfl))) (fun _ _ _ _ _ => pts_nil) (fun _ _ _ _ _ => (pe_callTy (T := "list") (listQ (K := K) rfl) (by rfl) T.z_list (by decide +kernel) (pa_cons (pv 10) pa_nil)))) pa_nil))) pa_nil)))) (pgT (K := K) (n := 2) rfl rfl (pgs_cons (pg_name (i := 3) sc_law.nd rfl (Or.inl rfl)) (pgs_cons (pg_name (i := 6) sc_law.nd rfl (Or.inl rfl)) pgs_nil)))
          (pss_cons (ps_set (i := 7) sc_law.nd rfl (Or.inl rfl) (pe_call (ok_law_losing T) (hr.mono (by decide)) rfl T.m_law_losing T.F_law_losing.kp (bi_law_losing T) .nil pass0 (pa_cons (pv 6) pa_nil)))
          (pss_cons (ps_if (PW.pt (pw_or (pt_cmpR op_ne (pe_callB (cr_reprQ (K := K) rfl hgd hr.units) (by rfl) T.z_repr (by decide +kernel) (pa_cons (pe_call (ok_losing_four T) (hr.mono (by decide)) rfl T.m_losing_four T.F_losing_four.kp (bi_losing_four T) .nil pass0 (pa_cons (pv 3) pa_nil)) pa_nil)) (pe_callB (cr_reprQ (K := K) rfl hgd hr.units) (by rfl) T.z_repr (by decide +kernel) (pa_cons (pv 7) pa_nil)) (nomark _)) (pw_or1 (pt_cmpR (neQ (K := K) rfl hr.units) (pe_kwonly (ok_losing_four T) (hr.mono (by decide)) rfl T.m_losing_four T.F_losing_four.kp (kw_binds T.F_losing_four fun _ _ _ _ _ _ _ => rfl) pass0 (pv 3)) (pv 7) (nomark _)))))
            (pss_one (ps_ret pe_bl))
            pss_nil)
          (pss_cons (ps_set (i := 8) sc_law.nd rfl (Or.inl rfl) (pe_call (ok_uneven_four T) (hr.mono (by decide)) rfl T.m_uneven_four T.F_uneven_four.kp (bi_uneven_four T) .nil pass0 (pa_cons (pv 3) pa_nil)))
          (pss_cons (ps_if (PW.pt (pw_and (pt_cmpR op_isN (pv 7) pe_non (nomark _)) (pw_and (pt_cmpR op_notN (pv 8) pe_non (nomark _)) (pw_and1 (pt_cmpR op_le (pe_call (ok_most_left T TB) (hr.mono (by decide)) rfl T.m_most_left T.F_most_left.kp (bi_most_left T) .nil pass0 (pa_cons (pv 3) (pa_cons (pe_ix (ixT (K := K) rfl) (pv 8) pe_int (fun _ _ => rfl)) pa_nil))) (pe_callB (lenQ (K := K) rfl) (by rfl) T.z_len boot_len (pa_cons (pe_call (ok_plain_fold T) (hr.mono (by decide)) rfl T.m_plain_fold T.F_plain_fold.kp (bi_plain_fold T) .nil pass0 (pa_cons (pv 3) (pa_cons (pe_ix (ixT (K := K) rfl) (pv 8) pe_int (fun _ _ => rfl)) pa_nil))) pa_nil)) (nomark _))))))
            (pss_one (ps_ret pe_bl))
            pss_nil)
          (pss_one (ps_for PassesOwn.never rfl (pi_range2 (by rfl) T.z_range (pa_cons pe_int (pa_cons pe_int pa_nil))) (pg_name (i := 9) sc_law.nd rfl (Or.inl rfl))
            (pss_cons (ps_set (i := 1) sc_law.nd rfl (Or.inl rfl) (pe_call (ok_law_box T) (hr.mono (by decide)) rfl T.m_law_box T.F_law_box.kp (bi_law_box T) .nil pass0 (pa_cons (pv 0) (pa_cons (pv 9) pa_nil))))
            (pss_one (ps_if (PW.pt (pw_or (pt_not (pt_val (pe_call (ok_law_short_right T) (hr.mono (by decide)) rfl T.m_law_short_right T.F_law_short_right.kp (bi_law_short_right T) .nil pass0 (pa_cons (pv 1) (pa_cons (pv 3) (pa_cons (pv 6) (pa_cons (pv 7) pa_nil))))))) (pw_or1 (pt_not (pt_val (pe_call (ok_law_run_right T) (hr.mono (by decide)) rfl T.m_law_run_right T.F_law_run_right.kp (bi_law_run_right T) .nil pass0 (pa_cons (pv 1) (pa_cons (pv 3) (pa_cons (pv 6) (pa_cons (pv 7) pa_nil))))))))))
              (pss_one (ps_ret pe_bl))
              pss_nil))))))))))
        (pss_one (ps_ret pe_bl))))))))), ?_⟩
    refine st_seq (x_set (x_call ((va_cons (val_var rfl) (va_cons val_c va_nil)) _ ⟨a, 0, ns, rfl, hS, by omega, by omega, fun b g r hb => ?_⟩)))
    dsimp only
    refine st_seq (x_set (x_call ((va_cons (val_var rfl) va_nil) _ ⟨b, rfl, ⟨g, r, upd_same⟩, fun H2 ra rs M n bx2 mat w snd => ?_⟩)))
    dsimp only
    have e2 : Same H H2 := bx_same hb bx2
    refine st_seq (st_with (fun σ' H' => ∃ (ra : Addr) (rs : List Addr) (M : Rws) (n : Nat) (x3 : Option V), σ' = [some (V.ref a), some (.ref b), some (.ref ra), x3, none, none, none, none, none, none, none] ∧ Same H H' ∧ RowsL H' ra rs M ∧ Wf M n ∧ SoundR M n) ?_ (fun fin => ?_))
    · rintro σ' H3 ⟨ra, rs, M, n, x3, rfl, e3, hR, w, snd⟩
      dsimp only
      refine st_seq (x_set (x_make (x_cons ((val_var rfl) _ ?_))))
      intro x dx hx hdx hne
      have eN : Same H3 (upd (upd H3 dx (.own x)) x (.ins (He.ga K "Merger") dx [])) := fun b o h => by rw [upd_ne (ne_of_none h hx), upd_ne (ne_of_none h hdx)]; exact h
      refine ⟨x, dx, ra, rs, M, n, rfl, upd_same, hR.same eN, w, snd, fun H4 rp e4 hM => ⟨rfl, ?_⟩⟩
      have e34 : Same H3 H4 := mk_same hx hdx e4
      dsimp only
      refine st_seq (x_set (x_call ((va_cons (val_var rfl) va_nil) _ ⟨x, rp, M, n, rfl, hM, fun H5 x' rp' e5 hM' => ?_⟩)))
      dsimp only
      have hR5 : RowsL H5 ra rs M := (hR.same e34).same e5
      have e05 : Same H H5 := (e3.trans e34).trans e5
      have hM5 := hM.same e5
      refine st_seq (x_forT (x_tup2 (x_tup2 ((val_var rfl) _ ((val_var rfl) _ ⟨by show 2 ≤ sizeLine; decide, fun t1 ht1 => ?_⟩)))))
      have e6 := same_new ht1 (o := .tup [.ref x, .ref ra])
      have k6 : (upd H5 t1 (.tup [.ref x, .ref ra])) t1 = some (.tup [.ref x, .ref ra]) := upd_same
      have hM6' := hM'.same e6
      obtain ⟨rs', hp1, hp2⟩ := hM6'.rows
      refine x_tup2 ((val_var rfl) _ ?_)
      refine lc_nT (fun i => .lst (((mir M n).getD i []).map eV)) (val_rows T hM6' (val_var rfl)) hp1 (by rw [List.length_map, plen hp2, hM6'.wf.len]; have := w.le; omega) (by intro _; rfl) (fun i y H' hi e => ?_) fun Dl ts H7 hL => ?_
      · rw [List.getElem?_map] at hi
        obtain ⟨r', hr1, hr2⟩ := Option.map_eq_some_iff.mp hi
        subst hr2
        obtain ⟨row, hrow1, hrow2⟩ := pgetL hp2 hr1
        have hg : (mir M n).getD i [] = row := by rw [List.getD_eq_getElem?_getD, hrow1]; rfl
        rw [hg]
        exact fun Q q => x_cb1 ((val_var rfl) _ ⟨r', _, rfl, .inr (e.t hrow2), fun l hl => q l _ hl (same_new hl) upd_same⟩)
      have e7 : Same H5 H7 := e6.trans hL.same
      have hlm : (rs'.map V.ref).length = (mir M n).length := by rw [List.length_map, plen hp2]
      have hR7 : RowsL H7 Dl ts (mir M n) := ⟨hL.lst, paired_of (by rw [hL.len, hlm]) fun i t row h1 h2 => by
        rw [hL.obj i t h1, List.getD_eq_getElem?_getD, h2]
        rfl⟩
      refine ⟨by show 2 ≤ sizeLine; decide, fun t2 ht2 => ⟨by show 2 ≤ sizeLine; decide, fun t0 ht0 => ⟨t0, rfl, ⟨_, SqT.of upd_same⟩, ?_⟩⟩⟩
      have e8 := same_new ht2 (o := .tup [.ref x', .ref Dl])
      have e9 := same_new ht0 (o := .tup [.ref t1, .ref t2])
      have e79 := e8.trans e9
      have e59 := e7.trans e79
      have k0 : (upd (upd H7 t2 (.tup [.ref x', .ref Dl])) t0 (.tup [.ref t1, .ref t2])) t0 = some (.tup [.ref t1, .ref t2]) := upd_same
      have facts : ∀ v, v ∈ [V.ref t1, V.ref t2] → ∃ (t p ta rp : Addr) (rs : List Addr) (R : Rws) (n : Nat), v = .ref t ∧ (upd (upd H7 t2 (.tup [.ref x', .ref Dl])) t0 (.tup [.ref t1, .ref t2])) t = some (.tup [.ref p, .ref ta]) ∧ MerAt K (upd (upd H7 t2 (.tup [.ref x', .ref Dl])) t0 (.tup [.ref t1, .ref t2])) p R n rp ∧ RowsL (upd (upd H7 t2 (.tup [.ref x', .ref Dl])) t0 (.tup [.ref t1, .ref t2])) ta rs R := by
        intro v hv
        rcases List.mem_cons.mp hv with hv | hv
        · exact ⟨t1, x, ra, rp, rs, M, n, hv, e79 _ _ (hL.same _ _ k6), hM5.same e59, hR5.same e59⟩
        · exact ⟨t2, x', Dl, rp', ts, mir M n, n, List.mem_singleton.mp hv, e9 _ _ upd_same, hM'.same e59, hR7.same e79⟩
      have hS9 : SqL K (upd (upd H7 t2 (.tup [.ref x', .ref Dl])) t0 (.tup [.ref t1, .ref t2])) a (ns.map V.int) := (e05.trans e59).seq hS
      have hT9 : LamX.Tabs (tabT K) (upd (upd H7 t2 (.tup [.ref x', .ref Dl])) t0 (.tup [.ref t1, .ref t2])) := hT.ext fun b o h => (e05.trans e59) b o h
      generalize (upd (upd H7 t2 (.tup [.ref x', .ref Dl])) t0 (.tup [.ref t1, .ref t2])) = Hs at k0 facts hS9 hT9 ⊢
      refine for_tup (xs := [.ref t1, .ref t2]) (fun i σ' H' => ∃ x1 x2 x3 x6 x7 x8 x9 x10, σ' = [some (V.ref a), x1, x2, x3, some (.ref x), some (.ref x'), x6, x7, x8, x9, x10] ∧ LamX.ExtN Hs H' ∧ LamX.Tabs (tabT K) H') ⟨_, _, _, _, _, _, _, _, rfl, LamX.ExtN.refl _, hT9⟩ (fun i σ' H' _ p => ?_) (fun i v σ' H' hv p => ?_) (fun σ' H' p => ?_)
      · obtain ⟨_, _, _, _, _, _, _, _, _, e, _⟩ := p
        exact SqT.of (e _ _ k0 (by intro p q; cases q))
      · obtain ⟨x1, x2, x3, x6, x7, x8, x9, x10, rfl, ee, TT'⟩ := p
        obtain ⟨t, p, ta, rp2, rs2, R, n2, rfl, ht, hMs, hRs⟩ := facts v (List.mem_of_getElem? hv)
        have hM7 := hMs.extn ee
        have hR7 := hRs.extn ee
        refine ⟨t, _, rfl, SqT.of (ee _ _ ht (by intro p q; cases q)), rfl, _, _, rfl, _, _, rfl, rfl, ?_⟩
        dsimp only
        have w := hM7.wf
        have snd := hM7.sound
        refine st_seq (x_set (x_call ((va_cons (val_var rfl) va_nil) _ ⟨ta, rs2, R, n2, rfl, hR7, w, snd, fun o hf => ?_⟩)))
        refine giveF fun v H8 e8 hv8 => ?_
        dsimp only
        have hM8 := hM7.same e8
        refine st_seq (sv_no (evt_same hM8 hf hv8 (val_var rfl) (fun _ => val_var rfl) (fun _ => val_var rfl)) fun H9 e9 => ?_)
        refine st_next ?_
        dsimp only
        have hM9 := hM8.same e9
        have hv9 := hv8.extn (extn_same e9)
        have ee9 := (ee.trans (extn_same e8)).trans (extn_same e9)
        have T9 := (TT'.ext fun b o h => e8 b o h).ext fun b o h => e9 b o h
        refine st_seq2 (fun σ' H' => ∃ x8, σ' = [some (V.ref a), x1, x2, some (.ref p), some (.ref x), some (.ref x'), some (.ref ta), some v, x8, x9, x10] ∧ LamX.ExtN H9 H' ∧ LamX.Tabs (tabT K) H') ?_ (fun fin => ?_)
        · rintro σ' H10 ⟨x8, rfl, e10, T10⟩
          have hM10 := hM9.extn e10
          have hv10 := hv9.extn e10
          have hR9 : RowsL H9 ta rs2 R := (hR7.same e8).same e9
          refine st_forR2 (lo := 1) (n := 4) (va_cons val_c (va_cons val_c va_nil)) (by omega) (by omega) (by omega) (by omega) (fun i σ' H' => ∃ x1 x8 x9, σ' = [some (V.ref a), x1, x2, some (.ref p), some (.ref x), some (.ref x'), some (.ref ta), some v, x8, x9, x10] ∧ LamX.ExtN H9 H' ∧ LamX.Tabs (tabT K) H') ⟨_, _, _, rfl, e10, T10⟩ ?_ ?_
          · rintro j σ' H11 hj ⟨x1, x8, x9, rfl, e11, T11⟩
            have hS11 := extn_l (ee9.trans e11) hS9
            have hM11 := hM9.extn e11
            have hv11 := hv9.extn e11
            have hR11 := hR9.extn e11
            refine st_seq (x_set (x_call ((va_cons (val_var rfl) (va_cons (val_var rfl) va_nil)) _ ⟨a, 1 + (j : Int), ns, rfl, hS11, by omega, by omega, fun b g r hb => ?_⟩)))
            dsimp only
            have bta : b ≠ ta := fun z => by rw [z, hR11.top] at hb; cases hb
            have brs : b ∉ rs2 := fun z => rows_mem hR11 b z hb
            have eb := same_new hb (o := .lst [.int g, .int r])
            have hbb : upd H11 b (.lst [.int g, .int r]) b = some (.lst [.int g, .int r]) := upd_same
            refine x_if ?_
            refine x_call ((va_cons (val_var rfl) (va_cons (val_var rfl) (va_cons (val_var rfl) (va_cons (val_var rfl) va_nil)))) _ ⟨b, p, rp2, ta, rs2, R, n2, o, v, rfl, ⟨g, r, hbb⟩, hM11.same eb, hR11.same eb, bta, brs, hf, hv11.extn (extn_same eb), fun H12 bx12 => ⟨true, rfl, ?_⟩⟩)
            refine iteF ?_
            have hM12 := (hM11.same eb).samex bx12.1 hbb
            have hR12 := (hR11.same eb).samex bx12.1 bta brs
            have hv12 := (hv11.extn (extn_same eb)).sx bx12.1 hbb
            refine x_call ((va_cons (val_var rfl) (va_cons (val_var rfl) (va_cons (val_var rfl) (va_cons (val_var rfl) va_nil)))) _ ⟨b, p, rp2, ta, rs2, R, n2, o, v, rfl, bx12.box, hM12, hR12, bta, brs, hf, hv12, fun H13 bx13 => ⟨true, rfl, ?_⟩⟩)
            refine iteF (st_next ?_)
            have e13 : Same H11 H13 := bx_same hb (bx12.more bx13)
            exact ⟨_, _, _, rfl, e11.trans (extn_same e13), T11.ext fun b o h => e13 b o h⟩
          · rintro σ' H11 ⟨x1, x8, x9, rfl, e11, T11⟩
            dsimp only
            exact ⟨_, _, _, _, _, _, _, _, rfl, ee9.trans e11, T11⟩
        · refine st_seq (x_set (x_call ((va_cons (val_var rfl) va_nil) _ ⟨p, rp2, R, n2, rfl, hM9, fun H10 e10 => ?_, fun H10 u ua s l e10 hu hua hl => ?_⟩)))
          · dsimp only
            refine st_seq (x_if ?_)
            cases o with
            | some q4 =>
              obtain ⟨a1, b1, c1, y1⟩ := q4
              obtain ⟨t', rfl, ht'⟩ := hv9
              exact (a_isN (b := false) (val_var rfl) rfl) _ (iteF (iteF (st_next (fin _ _ ⟨_, rfl, extn_same e10, T9.ext fun b o h => e10 b o h⟩))))
            | none =>
              have hvn : v = .non := hv9
              subst hvn
              exact (a_isN (b := true) (val_var rfl) rfl) _ (iteT ((a_notN (b := false) (val_var rfl) rfl) _ (iteF (iteF (st_next (fin _ _ ⟨_, rfl, extn_same e10, T9.ext fun b o h => e10 b o h⟩))))))
          · dsimp only
            refine st_seq (x_if ?_)
            cases o with
            | some q4 =>
              obtain ⟨a1, b1, c1, y1⟩ := q4
              obtain ⟨t', rfl, ht'⟩ := hv9
              exact (a_isN (b := false) (val_var rfl) rfl) _ (iteF (iteF (st_next (fin _ _ ⟨_, rfl, extn_same e10, T9.ext fun b o h => e10 b o h⟩))))
            | none =>
              have hvn : v = .non := hv9
              subst hvn
              obtain ⟨qok, ql, qp, fr, hfs⟩ := four_more w snd hf hl
              have hM10 := hM9.same e10
              have T10 := T9.ext fun b o h => e10 b o h
              refine (a_isN (b := true) (val_var rfl) rfl) _ (iteT ((a_notN (b := true) (val_var rfl) rfl) _ (iteT (x_test (x_op (x_call ((va_cons (val_var rfl) (va_cons (val_ixT (val_var rfl) val_c (SqT.of hu) rfl) va_nil)) _ ?_)))))))
              refine ⟨p, ua, rp2, R, n2, l, rfl, hM10, hua, qok, by omega, T10, fun N H11 e11 T11 hN => ?_⟩
              have hM11 := hM10.extn e11
              have hu11 := e11 _ _ hu (by intro p q; cases q)
              have hua11 := e11 _ _ hua (by intro p q; cases q)
              refine evs_plain hM11 hua11 qok (by omega) (val_var rfl) (val_ixT (val_var rfl) val_c (SqT.of hu11) rfl) _ fun H12 e12 => ⟨_, _, rfl, rfl, _, rfl, ?_⟩
              have h3 := hN _ _ hfs
              have hdd : decide ((N : Int) ≤ (((Mt.proc (mm R n2) [] l).length : Nat) : Int)) = false := decide_eq_false (by omega)
              rw [hdd]
              exact iteF (st_next (fin _ _ ⟨_, rfl, ((extn_same e10).trans e11).trans (extn_same e12), T11.ext fun b o h => e12 b o h⟩))
      · obtain ⟨_, _, _, _, _, _, _, _, rfl, e, _⟩ := p
        dsimp only
        exact st_ret val_c (k _)
    · refine x_if (x_test (x_op (take_ (m := 8) bx2.box (val_var rfl) val_c (by omega) (by omega) fun d H3 bx3 d0 d1 => val_c _ ⟨rfl, _, rfl, ?_⟩)))
      have e3 : Same H H3 := bx_same hb (bx2.more bx3)
      by_cases hd : d = 7
      · subst hd
        refine iteT ?_
        refine st_seq (x_set (lc_nR (n := 6) (fun _ => .lst ((List.replicate 6 (none : Option Int)).map eV)) (va_cons val_c va_nil) (by omega) (by omega) (by intro _; rfl) (fun i H' _ _ => evn_row (n := 6) (fun _ _ => val_c) (by omega)) fun L ts H4 hL => ?_))
        dsimp only
        have M0 := mat_of (n := 6) hL (bx2.more bx3).box
        have e4 := e3.trans hL.same
        have bx4 := (bx2.more bx3).grow hL.same
        refine x_asg (x_tup3 (val_c _ (val_c _ (take_ (m := 4) bx4.box (val_var rfl) val_c (by omega) (by omega) fun t H5 bx5 t0 t1 => ⟨by show 3 ≤ sizeLine; decide, fun tp htp => ?_⟩))))
        refine ⟨tp, _, rfl, SqT.of upd_same, rfl, _, _, rfl, ?_⟩
        have e5 : Same H H5 := bx_same hb (bx4.more bx5)
        have hn : ∀ z, z ∈ ts → H z = none := fun z hz => e3.free (hL.new z hz).1
        have M5 := (M0.bx bx5.1).same (same_new htp (o := .tup [.int 4, .int 5, .int t]))
        have e6 := e5.trans (same_new htp (o := .tup [.int 4, .int 5, .int t]))
        refine mat_put (p := 0) (q := 1) M5 rfl (by show 1 < 6; omega) (val_var rfl) val_c val_c fun H7 k7 M7 => ?_
        refine ⟨_, _, rfl, ?_⟩
        refine mat_put (p := 1) (q := 2) M7 rfl (by show 2 < 6; omega) (val_var rfl) val_c val_c fun H8 k8 M8 => ⟨_, _, rfl, ?_⟩
        refine mat_put (p := 5) (q := 3) M8 rfl (by show 3 < 6; omega) (val_var rfl) val_c val_c fun H9 k9 M9 => ⟨rfl, ?_⟩
        exact fin _ _ ⟨L, ts, r3 t, 6, _, rfl, put_same (put_same (put_same e6 hn k7) hn k8) hn k9, M9.rows, r3_wf t0 t1, r3_sound t0 t1⟩
      · have hdd : decide (V.int d = V.int 7) = false := decide_eq_false fun z => hd (by cases z; rfl)
        rw [hdd]
        exact iteF (st_next (fin _ _ ⟨ra, rs, M, n, _, rfl, e3, (mat.bx bx3.1).rows, w, snd⟩))
end
end FF
set_option maxHeartbeats 0
namespace FF
open PySem PySem.Spec PyProof.Rows L2
def tfn : List He.Defn := [("most_pieces", none)]
abbrev rowR : PySem.W.OpenRow := PySem.W.OpenLaw.row PySem.Challenge.rw_foursfold_k10_whole_best_from_the_left
abbrev hk : PySem.W.Hook := He.hookX 6 fa fn [] tfn (fun _ => true)
def ob (s : PySem.W.SharedT) : He.AlX := He.obsX 6 fa fn [] tfn (fun _ => true) (HandSHeadRun.getT s)
theorem ob_eq (s : PySem.W.SharedT) : ob s = hk.obs s.abs := He.obsX_eq (HandSHeadRun.getT_eq s)
def loose1 : List PySem.Str := ["_wall", "__name__", "FoldError", "BadMerger", "Unsound", "BadQueue", "Refused", "MOST_COMMANDS", "MOST_QUEUE", "GONE", "is_integer", "is_number", "is_below", "is_sequence", "is_end", "check_rows", "ends_of", "unsound_three", "Merger", "check_queue", "mirror_merger", "met_end", "Stretches", "least_pieces", "most_pieces", "pieces_left", "fewest_left", "most_left", "press_last", "plain_steps"]
def loose2 : List PySem.Str := ["plain_fold", "losing_four", "MIDDLE", "LEFT", "RIGHT", "hand_triples", "is_hand", "kind_of_four", "uneven_fours", "uneven_four", "can_fold", "folded_once", "fold_at", "_law_box", "_law_take", "_law_pick", "_law_merger", "_law_rows", "_law_end", "_law_is_sound", "_law_queue", "_law_once", "_law_folded", "_law_losing", "_law_short_right", "_law_run_right"]
def loose : List PySem.Str := loose1 ++ loose2
theorem run (w : World) : HandSHeadRun.RunEq rowR (PySem.W.view rowR.prog [63]) hk ob 12000 loose w := by
  intro os
  kernel_rfl
end FF
set_option maxHeartbeats 4000000
namespace FF
open PySem PySem.Spec PyProof.Rows L2
/-! ### the call of law from outside -/
/-- what is tracked at the call: the table of most_pieces; the script where it is no part of K -/
def hpAt (K : PySem.W.Frag) (T a : Addr) (vs : List Value) (ns : List Int) : Hp := fun b =>
  if b = T then some (.tbl #[]) else if b = a ∧ (K.lookup a).isNone = true then some (.frz { cls := .type "list", data := .seq vs.toArray } (.lst (ns.map V.int))) else none
theorem hpAt_tab {K : PySem.W.Frag} {T a : Addr} {vs : List Value} {ns : List Int} : hpAt K T a vs ns T = some (.tbl #[]) := if_pos rfl
theorem hpAt_inv {K : PySem.W.Frag} {T a b : Addr} {vs : List Value} {ns : List Int} {u : HO} (h : hpAt K T a vs ns b = some u) :
    (b = T ∧ u = .tbl #[]) ∨ (b = a ∧ b ≠ T ∧ K.lookup a = none ∧ u = .frz { cls := .type "list", data := .seq vs.toArray } (.lst (ns.map V.int))) := by
  unfold hpAt at h
  by_cases hT : b = T
  · rw [if_pos hT] at h
    exact .inl ⟨hT, (Option.some.inj h).symm⟩
  · rw [if_neg hT] at h
    by_cases hA : b = a ∧ (K.lookup a).isNone = true
    · rw [if_pos hA] at h
      exact .inr ⟨hA.1, hT, Option.isNone_iff_eq_none.mp hA.2, (Option.some.inj h).symm⟩
    · rw [if_neg hA] at h
      cases h
section
variable {P : Program} {w : World} {K : PySem.W.Frag} {mg mb : Str → Option Value} {a : Addr} {s₁ : Shared} {vs : List Value} {ns : List Int}
theorem hpAt_off (hT : s₁.heap.get? (pLam K) = some { cls := .none, data := .fields #[] }) (ha : s₁.heap.get? a = some { cls := .type "list", data := .seq vs.toArray }) {b : Addr} {o : Obj} (e : s₁.heap.get? b = some o) (h1 : ∀ us n, o.data ≠ .seq us n) (h2 : o.data ≠ .fields #[]) : hpAt K (pLam K) a vs ns b = none := by
  cases q : hpAt K (pLam K) a vs ns b with
  | none => rfl
  | some u =>
    rcases hpAt_inv q with ⟨rfl, _⟩ | ⟨rfl, _⟩
    · rw [hT] at e
      cases e
      exact absurd rfl h2
    · rw [ha] at e
      cases e
      exact absurd rfl (h1 _ _)
theorem call_top (T : Txt K mg) (KX : K.In s₁.heap) (hns : s₁.heap.Ns mainGlobals mg) (hb : s₁.heap.Ns builtinsNs mb) (hbb : ∀ x : Str, x ≠ "__name__" → mb x = bootBuiltins x) (hlim : s₁.heap.NoLimit) (hg : s₁.gens = #[])
    (hT : s₁.heap.get? (pLam K) = some { cls := .none, data := .fields #[] }) (nT : K.lookup (pLam K) = none) (hC : PySem.W.codeHdIn K (cLam K) (pLam K) = true)
    (hbm : ∃ (bm : Addr) (ob : Obj), mg "__builtins__" = some (.ref bm) ∧ bm ≠ builtinsNs ∧ s₁.heap.get? bm = some ob ∧ ob.cls = .type "module" ∧ ob.dict = some builtinsNs ∧ ob.data = .plain)
    (ha : s₁.heap.get? a = some { cls := .type "list", data := .seq vs.toArray }) (hi : IntsAre vs ns) (hl : ns.length ≤ sizeLine) (hbind : ∀ (s : Shared) (u : Value), BindsTo s T.fd_law ⟨[u], []⟩ [(("_law_script" : Str), u)]) :
    codeAny (model P w) callerA (.call (.ref (He.ga K "law")) ⟨[.ref a], []⟩) (fun r s' => r = .ok (.ret (.bool true)) ∧ OldK s₁.heap s'.heap ∧ s'.os = s₁.os ∧ AllBare s'.gens) s₁ := by
  have rv := vals_ints hi
  have lenV := hi.length
  have aT : a ≠ pLam K := fun z => by
    rw [z, hT] at ha
    cases ha
  have off := fun {b : Addr} {o : Obj} (e : s₁.heap.get? b = some o) h1 h2 => hpAt_off (ns := ns) hT ha e h1 h2
  have ns_of : ∀ {b : Addr} {m : Str → Option Value}, s₁.heap.Ns b m → (hidT s₁.heap (hpAt K (pLam K) a vs ns)).Ns b m := by
    rintro b m ⟨o, es, ep, e, d, r⟩
    exact ⟨o, es, ep, hidT_get e (off e (fun us n z => by rw [d] at z; cases z) (fun z => by rw [d] at z; cases z)), d, r⟩
  have kin : K.In (hidT s₁.heap (hpAt K (pLam K) a vs ns)) := fun b o e => hidT_get (KX b o e) (by
    cases q : hpAt K (pLam K) a vs ns b with
    | none => rfl
    | some u =>
      rcases hpAt_inv q with ⟨rfl, _⟩ | ⟨rfl, _, k, _⟩
      · rw [nT] at e; cases e
      · rw [k] at e; cases e)
  have md : L2.Mod K mg (hidT s₁.heap (hpAt K (pLam K) a vs ns)) := ⟨kin, ns_of hns, ⟨mb, ns_of hb, hbb⟩, let ⟨mc, h1, h2⟩ := hlim; ⟨mc, ns_of h1, h2⟩⟩
  have gT : mainGlobals ≠ pLam K := fun z => by
    obtain ⟨o, es, ep, e, hd, _⟩ := hns
    rw [z, hT] at e
    cases e
    cases hd
  have tb : LamX.TabB (hidT s₁.heap (hpAt K (pLam K) a vs ns)) mg (cLam K) (pLam K) := by
    refine ⟨PySem.W.codeHd_of_K kin hC, ?_, gT⟩
    obtain ⟨bm, ob, b1, b2, b3, b4, b5, b6⟩ := hbm
    refine ⟨bm, ob, b1, b2, fun q => ?_, fun q => ?_, hidT_get b3 (off b3 (fun us n z => by rw [b6] at z; cases z) (fun z => by rw [b6] at z; cases z)), b4, b5, b6⟩
    · obtain ⟨o, es, ep, e, hd, _⟩ := hns
      rw [← q, b3] at e
      cases e
      rw [b6] at hd
      cases hd
    · rw [q, hT] at b3
      cases b3
      cases b6
  have hok : HOk P w (hpAt K (pLam K) a vs ns) s₁.heap := fun b u q => by
    rcases hpAt_inv q with ⟨rfl, rfl⟩ | ⟨rfl, _, _, rfl⟩
    · exact hT
    · exact ⟨ha, by rw [List.length_map]; exact hl, vs, _, rv, ha⟩
  have sq : SqL K (hpAt K (pLam K) a vs ns) a (ns.map V.int) := by
    cases hk : K.lookup a with
    | none => exact .inl (.inr ⟨_, (if_neg aT).trans (if_pos ⟨rfl, by rw [hk]; rfl⟩)⟩)
    | some o =>
      have e := KX a o hk
      rw [ha] at e
      cases e
      exact .inr ⟨_, vs.toArray, _, hk, rfl, rfl, rfl, by rw [List.size_toArray, lenV]; exact hl, by simpa using rv⟩
  have e0 : Env0 P w K mg (hidT s₁.heap (hpAt K (pLam K) a vs ns)) callerA [] s₁ (hpAt K (pLam K) a vs ns) := ⟨rfl, md, fun b o e => of_hidT e, Nat.le_of_eq (hidT_size _ _), trivial, fun b hb => absurd (show b ∈ ([] : List Addr) from hb) (by simp), hok, .of_eq hg⟩
  have tabs : LamX.Tabs (tabT K) (hpAt K (pLam K) a vs ns) := fun p hp => by
    rw [List.mem_singleton.mp hp]
    exact LamX.TabS.nil hpAt_tab
  refine codeAny_mono (run_law T tb (us := [.ref a]) (vs := [.ref a]) (Q := fun v _ => v = .bl true) (E := fun _ _ _ => False) ⟨rfl, by decide, by decide⟩ rfl e0 (hbind s₁ (.ref a)) (.cons rfl .nil) ⟨a, ns, rfl, sq, tabs, fun _ => rfl⟩) fun r s' h => ?_
  cases r with
  | error e => exact (show False from h).elim
  | ok fl =>
    cases fl with
    | next => exact False.elim h
    | brk => exact False.elim h
    | cont => exact False.elim h
    | ret u =>
      obtain ⟨v, H', os, bare, un, hok', r', q⟩ := h
      have q' : v = .bl true := q
      subst q'
      obtain rfl : u = Value.bool true := r'
      obtain ⟨more, hm⟩ := un.tbls (pLam K) #[] hpAt_tab
      have hm' : s'.heap.get? (pLam K) = some { cls := .none, data := .fields (#[] ++ more) } := hok' (pLam K) _ hm
      have keep : ∀ b o, b ≠ pLam K → s₁.heap.get? b = some o → s'.heap.get? b = some o := fun b o nb e => by
        cases q : hpAt K (pLam K) a vs ns b with
        | none => exact un.keep b o e q (by intro z; exact absurd (show b ∈ ([] : List Addr) from z) (by simp)) (by simp)
        | some u =>
          rcases hpAt_inv q with ⟨z, _⟩ | ⟨_, _, _, rfl⟩
          · exact absurd z nb
          · have z2 := un.frzs b _ _ q
            obtain ⟨e1, _⟩ := hok b _ q
            obtain ⟨e2, _⟩ := hok' b _ z2
            rw [e] at e1
            cases e1
            exact e2
      refine ⟨rfl, ⟨fun b o e => ?_, fun b o e => ?_⟩, os, bare⟩
      · by_cases hb : b = pLam K
        · subst hb
          rw [hT] at e
          cases e
          exact .inr (.inl ⟨((PySem.W.codeHd_of_K KX hC).tab hT).isCodeTable, rfl, #[], more, rfl, hm'⟩)
        · exact .inl (keep b o hb e)
      · by_cases hb : b = pLam K
        · rw [hb]
          exact ⟨_, hm'⟩
        · exact ⟨o, keep b o hb e⟩
end
end FF
set_option maxHeartbeats 0
open PySem PySem.W PySem.Calls PyProof.Rows
theorem PySem.Challenge.cw_foursfold_k10_whole_best_from_the_left_holds : PySem.Challenge.rw_foursfold_k10_whole_best_from_the_left.Holds := by
  w_on; o_law
  refine HandSHeadRun.head_any (r := OpenLaw.row PySem.Challenge.rw_foursfold_k10_whole_best_from_the_left) (q := view (OpenLaw.row PySem.Challenge.rw_foursfold_k10_whole_best_from_the_left).prog [63]) (H := FF.hk) (ob := FF.ob) (M := 12000) (loose := FF.loose) (d := HandSHeadRun.topDef (OpenLaw.row PySem.Challenge.rw_foursfold_k10_whole_best_from_the_left).prog 63) (kwd := []) FF.ob_eq
    (by kernel_rfl) (fun s => by kernel_rfl) FF.run (by kernel_rfl) (by kernel_rfl) (by kernel_rfl) (by rfl) (by first | assumption | decide +kernel) (by decide +kernel) ⟨rfl, rfl, rfl, rfl, rfl, by decide +kernel⟩ ?hw ?hc
  case hw => w_witness2
  case hc =>
    refine Att.attach_callB (l := PySem.Challenge.rw_foursfold_k10_whole_best_from_the_left) rfl (by kernel_rfl) fun w s₀ s₁ mg mb fa o pm cd doc a vs ns G Y ho hd hcd hmg0 hobj hints hlen hbits hg => ?_
    obtain ⟨K, KX, c⟩ := Y
    obtain ⟨T⟩ := FF.txt_mk KX G.T.g c.t.d
    have hmg : mg ("law" : PySem.Str) = some (.ref fa) := by
      have e : (HandSHeadRun.topDef (OpenLaw.row PySem.Challenge.rw_foursfold_k10_whole_best_from_the_left).prog 63).name = ("law" : PySem.Str) := by kernel_rfl
      rw [← e]
      exact hmg0
    have e := hmg.symm.trans T.m_law
    cases e
    have b := L2.FunD.bindsA (ps := ["_law_script"]) T.F_law fun _ _ _ _ _ _ us hl => match us, hl with | [_], _ => rfl
    exact FF.call_top T KX G.T.g G.T.b G.T.builtins G.T.nolimit hg (c.empty _ (List.mem_cons_self ..)) (c.out _ (List.mem_cons_self ..)) (c.hd _ (List.mem_cons_self ..)) G.T.bmain hobj hints (Nat.le_trans hlen (by decide)) (fun s v => b s [v] rfl)
